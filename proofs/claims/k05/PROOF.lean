import PyProof.Rows.All
import Wide.All
import OpenK.AllK
import Wide.FinOn
import HandS.Base
import HandS.Call
import HandS.List
import HandS.Comp
import HandS.Words
import HandS.Dict
import KE.KeyNested
import KE.KDictKeyed
import HandS.Lambda
import HandS.TupSets
import KE.SortData
import PyProof.SetRoads
import HandS.Walk
import HandS.TupAny
import HandS.TupMul
import HandS.IsInst
import HandS.ExcOwn
import HandS.CallSlots
import HandS.Deep
import HandS.Wide
import HandS.Style
import HandS.Zip
import KE.GoesZip
import KE.GoesEnumKw
import KE.GoesMore
import KE.GoesEnum
import HandS.Flow
import HandS.TryOnly
import HandS.Defaults
import HandS.MakeKw
import HandS.WordsExc
import PyProof.Rows.Nodes
import HandS.Iter
import HandS.Ends
import HandS.Head0
import HandS.Head1
import HandS.Head2
import HandS.HeadEnd
import HandS.HeadHook1
import HandS.HeadHook2
import PyProof.FactsLen
import HandS.Conv
import HandS.SortInts
import HandS.Strs
import HandS.SortOrd
import PyProof.Rows.SortShell
import HandS.More
import KE.DatumOrd
import HandS.SortKw
import HandS.SortRule
import HandS.SetFor
import PyProof.Rows.ReprOcc
import HandS.NamedTupGet
import KE.KDictCopyH
import HandS.SetBool
import HandS.DictComp
import HandS.Exc
import HandS.TupLen
import HandS.TupLe
import KE.KTupSum
import HandS.ExcIs
import HandS.ExcField
import HandS.TryMany
import HandS.HotCalls
import HandS.EndTab
import HandS.EndOwn
import HandS.ExcInit
import HandS.New
import HandS.RaiseMore
import PyProof.Rows.IntBool
import PySem.Challenge.RW_hushrules_k05_states_known
set_option Elab.async false
set_option linter.all false
set_option maxRecDepth 100000
set_option maxHeartbeats 4000000
/-! Ya: the way of a search in a set's table of any size: every slot is met, each once in a round. -/
namespace NS
open PySem PySem.Spec L2
/-! ### 1 + 5 + .. + 5^(n-1) -/
/-! ### i -> 5 i + 1 in a table of 2^k places -/
/-- the masks that come -/
def Mask (m : Nat) : Prop := ∃ k, m + 1 = 2 ^ k ∧ 7 ≤ m ∧ m ≤ 32767
theorem mask_odd {m : Nat} (h : Mask m) : m % 2 = 1 := by
  obtain ⟨k, hk, h7, _⟩ := h
  cases k with
  | zero => simp at hk; omega
  | succ k => rw [Nat.pow_succ] at hk; omega
theorem way_le {m : Nat} {h : Int} {k : Nat} : way m h k ≤ m := by
  have hi : SetTable.bits h % (m + 1) ≤ m := Nat.le_of_lt_succ (Nat.mod_lt _ (Nat.succ_pos _))
  have r := runEnd_bd hi
  have q := nth_in (m := m) k (runAt m (SetTable.bits h % (m + 1)) (SetTable.bits h)) (by
    show SetTable.bits h % (m + 1) + (SetTable.runEnd m (SetTable.bits h % (m + 1)) - SetTable.bits h % (m + 1)) ≤ m
    omega)
  show (nth m (runAt m (SetTable.bits h % (m + 1)) (SetTable.bits h)) k).j ≤ m
  omega
end NS
set_option Elab.async false
set_option linter.all false
set_option maxRecDepth 100000
set_option maxHeartbeats 4000000
/-! Yb: a set's table of any size: one put in, all laid anew. -/
namespace NS
open PySem PySem.Spec L2
/-- a table whose places all are found again from their hashes -/
structure Tab (t : SetTable) (hs : List Int) : Prop where
  ris : Ris t.place.toList
  dm : t.dummies = #[]
  sz : t.place.size = hs.length
  mok : Mask t.mask
  bd : ∀ x ∈ t.place.toList, x ≤ t.mask
  reach : ∀ (i : Nat) (h : Int) (j : Nat), hs[i]? = some h → t.place.toList[i]? = some j → ∃ k, way t.mask h k = j ∧ ∀ k', k' < k → way t.mask h k' ∈ t.place.toList
theorem Tab.put {t : SetTable} {hs : List Int} (T : Tab t hs) {h : Int} {K : Nat} (hK : way t.mask h K ∉ t.place.toList) (hb : ∀ k, k < K → way t.mask h k ∈ t.place.toList) :
    (t.put (way t.mask h K)).2 = SetTable.below t.place (way t.mask h K) ∧ SetTable.below t.place (way t.mask h K) ≤ hs.length ∧
    Tab (t.put (way t.mask h K)).1 (hs.take (SetTable.below t.place (way t.mask h K)) ++ h :: hs.drop (SetTable.below t.place (way t.mask h K))) ∧
    (t.put (way t.mask h K)).1.mask = t.mask ∧ (t.put (way t.mask h K)).1.led = t.led ∧ (t.put (way t.mask h K)).1.fill = hs.length + 1 := by
  have hjm : way t.mask h K ≤ t.mask := way_le
  obtain ⟨j, hj⟩ : ∃ j, j = way t.mask h K := ⟨_, rfl⟩
  rw [← hj] at hK hjm ⊢
  obtain ⟨c1, _, _⟩ := below_cut T.ris j
  have hsz : t.place.toList.length = hs.length := by rw [Array.length_toList]; exact T.sz
  have hpl : SetTable.below t.place j ≤ t.place.toList.length := by rw [Array.length_toList]; exact c1
  have hph : SetTable.below t.place j ≤ hs.length := by rw [← hsz]; exact hpl
  have hpp := put_place t j
  have hsize : (t.put j).1.place.size = hs.length + 1 := by rw [← Array.length_toList, hpp, len_ins _ hpl, hsz]
  have up : ∀ {x : Nat}, x ∈ t.place.toList → x ∈ (t.put j).1.place.toList := fun hx => by rw [hpp]; exact mem_ins.2 (.inr hx)
  refine ⟨rfl, hph, ⟨ris_insert T.ris fun e => hK (List.mem_of_getElem? (by rw [Array.getElem?_toList]; exact e)), put_dm T.dm j, by rw [len_ins _ hph]; exact hsize, T.mok, fun x hx => ?_, fun i h' j' h1 h2 => ?_⟩, rfl, rfl, ?_⟩
  · rw [hpp] at hx
    rcases mem_ins.1 hx with z | z
    · rw [z]; exact hjm
    · exact T.bd x z
  · rw [tins_get hs hph] at h1
    rw [hpp, tins_get _ hpl] at h2
    show ∃ k, way t.mask h' k = j' ∧ ∀ k', k' < k → way t.mask h' k' ∈ (t.put j).1.place.toList
    have old : ∀ i, hs[i]? = some h' → t.place.toList[i]? = some j' → ∃ k, way t.mask h' k = j' ∧ ∀ k', k' < k → way t.mask h' k' ∈ (t.put j).1.place.toList := fun i h1 h2 => by
      obtain ⟨k, e, z⟩ := T.reach i h' j' h1 h2
      exact ⟨k, e, fun k' hk' => up (z k' hk')⟩
    by_cases c : i < SetTable.below t.place j
    · rw [if_pos c] at h1 h2
      exact old i h1 h2
    · rw [if_neg c] at h1 h2
      by_cases d : i = SetTable.below t.place j
      · rw [if_pos d] at h1 h2
        cases h1; cases h2
        exact ⟨K, hj.symm, fun k' hk' => up (hb k' hk')⟩
      · rw [if_neg d] at h1 h2
        exact old _ h1 h2
  · show (t.put j).1.place.size + (t.put j).1.dummies.size = hs.length + 1
    rw [hsize, put_dm T.dm j] <;> rfl
/-! ### all laid anew -/
/-! ### the size a table grows to -/
end NS
set_option Elab.async false
set_option linter.all false
set_option maxRecDepth 100000
set_option maxHeartbeats 4000000
/-! Yc: sets of tuples of plain data, nested as they may be: searching, adding. -/
namespace NS
open PySem PySem.Spec PyProof.Rows L2
abbrev NkIs (h : Heap) (k : NestedKey) (a : Addr) : Prop := NestedIs h k (.ref a) ∧ k.depth ≤ 8
section
variable {P : Program} {w : World} {A : Around} {E : Value → Shared → Prop} {s : Shared}
/-! ### small questions asked of keys -/
def NotCls (P : Program) (w : World) (n : Nat) (s : Shared) (v : Value) : Prop := ∀ (A : Around) (E : Value → Shared → Prop) (Q : Bool → Shared → Prop), Q false s → wpAny (model P w) A (ofAClassStatement n v) Q E s
theorem NotCls.tuple {n : Nat} {s : Shared} {a : Addr} {o : Obj} {vs : Array Value} {m : Nat} (ho : s.heap.get? a = some o) (hc : o.cls = .type "tuple") (hd : o.data = .seq vs m) (hq : ∀ v ∈ vs.toList, NotCls P w n s v) : NotCls P w (n + 1) s (.ref a) := fun A E Q h => by
  have hT : s.TypeIs (.ref a) "tuple" := ⟨o, ho, hc⟩
  unfold ofAClassStatement
  refine wpAny_bind (wpAny_typeOf hT ?_)
  dsimp only
  have e : (("tuple" : String) == "tuple") = true := by decide
  simp only [e, if_true, Bool.not_true, Bool.false_eq_true, if_false]
  try refine wpAny_bind (wpAny_pure ?_)
  try simp only [Bool.not_true, Bool.false_eq_true, if_false]
  show wpAny _ _ (seqItems? (.ref a) >>= _) _ _ s
  refine wpAny_bind (wpAny_seqItems ho hd ?_)
  dsimp only
  refine wpAny_bind ?_
  show wpAny _ _ (forIn vs _ _) _ _ s
  rw [← Array.forIn_toList]
  refine wpAny_forIn_list _ (fun rest r s' => r.1 = none ∧ s' = s ∧ ∀ v ∈ rest, NotCls P w n s v) _ ?_ ?_ _ _ ⟨rfl, rfl, hq⟩
  · rintro v rest r s' ⟨hr, rfl, hall⟩
    refine wpAny_bind (hall v List.mem_cons_self _ _ _ ?_)
    simp only [Bool.false_eq_true, if_false]
    exact wpAny_pure ⟨rfl, rfl, fun u hu' => hall u (List.mem_cons_of_mem _ hu')⟩
  · rintro ⟨r1, r2⟩ s' ⟨hr, rfl, _⟩
    simp only at hr
    subst hr
    exact wpAny_pure h
def ByVal (P : Program) (w : World) (n : Nat) (s : Shared) (v : Value) : Prop := ∀ (A : Around) (E : Value → Shared → Prop) (Q : Bool → Shared → Prop), (∀ b, Q b s) → wpAny (model P w) A (hashByValue n v) Q E s
theorem ByVal.tuple {n : Nat} {s : Shared} {a : Addr} {o : Obj} {vs : Array Value} {m : Nat} (ho : s.heap.get? a = some o) (hc : o.cls = .type "tuple") (hd : o.data = .seq vs m) (hq : ∀ v ∈ vs.toList, ByVal P w n s v) : ByVal P w (n + 1) s (.ref a) := fun A E Q h => by
  have hT : s.TypeIs (.ref a) "tuple" := ⟨o, ho, hc⟩
  unfold hashByValue
  refine wpAny_bind (wpAny_specialOf hT F.slot_tuple_hash.lookup ?_)
  show wpAny _ _ (seqItems? (.ref a) >>= _) _ _ s
  refine wpAny_bind (wpAny_seqItems ho hd ?_)
  refine wpAny_bind ?_
  show wpAny _ _ (forIn vs _ _) _ _ s
  rw [← Array.forIn_toList]
  refine wpAny_forIn_list _ (fun rest r s' => s' = s ∧ ∀ v ∈ rest, ByVal P w n s v) _ ?_ ?_ _ _ ⟨rfl, hq⟩
  · rintro v rest r s' ⟨rfl, hall⟩
    refine wpAny_bind (hall v List.mem_cons_self _ _ _ fun b => ?_)
    cases b
    · simp only [Bool.not_false, if_true]
      exact wpAny_pure (wpAny_pure (h _))
    · simp only [Bool.not_true, Bool.false_eq_true, if_false]
      exact wpAny_pure ⟨rfl, fun u hu' => hall u (List.mem_cons_of_mem _ hu')⟩
  · rintro ⟨r1, r2⟩ s' ⟨rfl, _⟩
    cases r1 with
    | none => exact wpAny_pure (h _)
    | some b => exact wpAny_pure (h _)
/-! ### the set -/
abbrev NL := List (Addr × NestedKey)
def rowsK (w : World) (L : NL) : List (Int × Value) := L.map fun p => (p.2.hash w, Value.ref p.1)
structure SetN (w : World) (h : Heap) (a : Addr) (L : NL) (es : Array (Int × Value)) (ep : Nat) (t : SetTable) : Prop where
  ob : ∃ o, h.get? a = some o ∧ o.ExactSet ∧ o.data = .set es ep t
  rows : es.toList = rowsK w L
  tab : Tab t (L.map fun p => p.2.hash w)
  nd : (L.map (·.2)).Nodup
  led : w.params.followText "set-order" = true ∨ t.led = true
  room : L.length * 5 < t.mask * 3
  few : L.length ≤ 8000
abbrev Keys (h : Heap) (L : NL) : Prop := ∀ p ∈ L, NkIs h p.2 p.1
variable {a : Addr} {L : NL} {es : Array (Int × Value)} {ep : Nat} {t : SetTable}
theorem rowsK_len (L : NL) (es : Array (Int × Value)) (h : es.toList = rowsK w L) : es.size = L.length := by
  have h := congrArg List.length h
  unfold rowsK at h
  rwa [Array.length_toList, List.length_map] at h
theorem SetN.size {h : Heap} (R : SetN w h a L es ep t) : es.size = L.length := rowsK_len L es R.rows
theorem SetN.entry {h : Heap} (R : SetN w h a L es ep t) {i : Nat} {p : Addr × NestedKey} (e : L[i]? = some p) : es[i]? = some (p.2.hash w, Value.ref p.1) := by
  rw [← Array.getElem?_toList, R.rows]
  unfold rowsK
  rw [List.getElem?_map, e] <;> rfl
theorem SetN.gw {h : Heap} (R : SetN w h a L es ep t) : ¬ t.gaveWay = true := by
  unfold SetTable.gaveWay
  rw [mask_odd R.tab.mok]
  decide
end
end NS
set_option Elab.async false
set_option linter.all false
set_option maxRecDepth 100000
set_option maxHeartbeats 4000000
/-! Yd: sets of nested tuples: adding, in, gathering the members. -/
namespace NS
open PySem PySem.Spec PyProof.Rows L2
end NS
set_option Elab.async false
set_option linter.all false
set_option maxRecDepth 100000
set_option maxHeartbeats 4000000
/-! Ye: sets of nested tuples: in, set.add, set(), the members gathered, sorted. -/
namespace NS
open PySem PySem.Spec PyProof.Rows L2
section
variable {P : Program} {w : World} {A : Around} {E : Value → Shared → Prop} {s : Shared} {a x : Addr} {L : NL} {es : Array (Int × Value)} {ep : Nat} {t : SetTable} {k : NestedKey}
theorem SetN.typeIs (R : SetN w s.heap a L es ep t) : s.TypeIs (.ref a) "set" := let ⟨o, ho, hc, _⟩ := R.ob; ⟨o, ho, hc.1⟩
end
/-! ### the members gathered, of a set of any size -/
/-! ### the set as a thing of the heap -/
/-- the set at a has the keys us, each of which stands where us says -/
def SetU (w : World) (h : Heap) (a : Addr) (us : NL) : Prop := ∃ (L : NL) (es : Array (Int × Value)) (ep : Nat) (t : SetTable), L.Perm us ∧ SetN w h a L es ep t
def SetO (w : World) (a : Addr) (us : NL) : HO := .ext fun h => SetU w h a us
theorem SetN.at {w : World} {h h' : Heap} {a : Addr} {L : NL} {es : Array (Int × Value)} {ep : Nat} {t : SetTable} (R : SetN w h a L es ep t) (k : ∀ o, h.get? a = some o → h'.get? a = some o) : SetN w h' a L es ep t := by
  obtain ⟨o, ho, r⟩ := R.ob
  exact ⟨⟨o, k o ho, r⟩, R.rows, R.tab, R.nd, R.led, R.room, R.few⟩
end NS
set_option Elab.async false
set_option linter.all false
set_option maxRecDepth 100000
set_option maxHeartbeats 4000000
/-! Wa: values as data (W), mutable cells, how they stand in the abstract heap. -/
namespace DL
open PySem PySem.Spec L2
/-- a value as data: tuples, lists that nobody changes any more, instances that nobody changes any more; loc: a thing that may be changed, by its number -/
inductive W where
  | non | bl (b : Bool) | int (i : Int) | str (s : Str)
  | tup (ws : List W) | lst (ws : List W) | ins (c : Nat) (fs : List (Nat × W)) | loc (n : Nat)
  | tpx (ws : List W) | opq (k : Nat) (fs : List (Nat × W)) | lam | fn (i : Nat)
  deriving Inhabited
inductive Cell where
  | lst (ws : List W) | obj (c : Nat) (fs : List (Nat × W)) | dic (kvs : List (W × W)) | set (ws : List W) | frz (w : W) | dead | dlk (kvs : List (W × W)) | tbl (i : Nat)
  deriving Inhabited
abbrev Env := List (Option W)
abbrev Sto := List Cell
/-- names of fields, addresses of classes -/
structure Tab where
  fld : List Str
  cls : List Addr
  prg : Program
  wld : World
  /-- a thing that is only handed on: by its number, where it stands, its dict -/
  opq : Nat → Addr → Option Addr → Prop
  /-- a lambda that is handed on: where it stands, the data's part of the heap when it was made -/
  lam : Option (Addr × Hp)
  /-- the tables of code objects, and the name that the code objects bear -/
  tbs : List (Addr × Str)
  /-- defs that are handed on as values -/
  fns : List Addr
def Tab.f (T : Tab) (i : Nat) : Str := T.fld.getD i Str.empty
def Tab.c (T : Tab) (i : Nat) : Addr := T.cls.getD i 0
theorem Tab.f_inj {T : Tab} (hn : T.fld.Nodup) {i j : Nat} (hi : i < T.fld.length) (hj : j < T.fld.length) (e : T.f i = T.f j) : i = j := by
  unfold Tab.f at e
  rw [List.getD_eq_getElem?_getD, List.getD_eq_getElem?_getD, List.getElem?_eq_getElem hi, List.getElem?_eq_getElem hj] at e
  exact (List.getElem_inj hn).mp e
/-- kept, but for locked dicts -/
def SameN (F F' : Hp) : Prop := ∀ b o, F b = some o → (∀ od φ, o ≠ .frz od (.ext φ)) → F' b = some o
theorem SameN.refl (F : Hp) : SameN F F := fun _ _ h _ => h
theorem SameN.trans {F F' F2 : Hp} (h : SameN F F') (h' : SameN F' F2) : SameN F F2 := fun b o e n => h' b o (h b o e n) n
theorem SameN.of {F F' : Hp} (h : Same F F') : SameN F F' := fun b o e _ => h b o e
mutual
inductive Rw (T : Tab) (K : PySem.W.Frag) (F : Hp) (al : List Addr) : V → W → Prop
  | non : Rw T K F al .non .non
  | bl (b : Bool) : Rw T K F al (.bl b) (.bl b)
  | int (i : Int) : Rw T K F al (.int i) (.int i)
  | str (x : Str) : Rw T K F al (.str x) (.str x)
  | tup {a : Addr} {xs : List V} {ws : List W} : SqT K F a xs → RwL T K F al xs ws → Rw T K F al (.ref a) (.tup ws)
  | lst {a : Addr} {xs : List V} {ws : List W} : SqL K F a xs → RwL T K F al xs ws → Rw T K F al (.ref a) (.lst ws)
  | ins {a dx : Addr} {c : Nat} {gs : List (Str × V)} {fs : List (Nat × W)} : F a = some (.ins (T.c c) dx gs) → RwF T K F al gs fs → Rw T K F al (.ref a) (.ins c fs)
  | loc {a : Addr} {n : Nat} : al[n]? = some a → Rw T K F al (.ref a) (.loc n)
  | tpx {a : Addr} {o : Obj} {xs : List V} {ws : List W} : F a = some (.frz o (.tup xs)) → o.dict = none → RwL T K F al xs ws → Rw T K F al (.ref a) (.tpx ws)
  | opq {a : Addr} {k : Nat} : T.opq k a none → Rw T K F al (.ref a) (.opq k [])
  | opx {a dx : Addr} {k : Nat} {gs : List (Str × V)} {fs : List (Nat × W)} : T.opq k a (some dx) → F dx = some (.xd gs) → RwF T K F al gs fs → Rw T K F al (.ref a) (.opq k fs)
  | lam {f : Addr} {F1 : Hp} : T.lam = some (f, F1) → SameN F1 F → Rw T K F al (.ref f) .lam
  | fn {a : Addr} {i : Nat} : T.fns[i]? = some a → Rw T K F al (.ref a) (.fn i)
inductive RwL (T : Tab) (K : PySem.W.Frag) (F : Hp) (al : List Addr) : List V → List W → Prop
  | nil : RwL T K F al [] []
  | cons {v : V} {vs : List V} {w : W} {ws : List W} : Rw T K F al v w → RwL T K F al vs ws → RwL T K F al (v :: vs) (w :: ws)
inductive RwF (T : Tab) (K : PySem.W.Frag) (F : Hp) (al : List Addr) : List (Str × V) → List (Nat × W) → Prop
  | nil : RwF T K F al [] []
  | cons {i : Nat} {v : V} {gs : List (Str × V)} {w : W} {fs : List (Nat × W)} : i < T.fld.length → Rw T K F al v w → RwF T K F al gs fs → RwF T K F al ((T.f i, v) :: gs) ((i, w) :: fs)
end
theorem sqT_mono {K : PySem.W.Frag} {F F' : Hp} (h : Same F F') {a : Addr} {xs : List V} (q : SqT K F a xs) : SqT K F' a xs := by
  rcases q with (q | ⟨o, q⟩) | q
  · exact .inl (.inl (h _ _ q))
  · exact .inl (.inr ⟨o, h _ _ q⟩)
  · exact .inr q
theorem rd_mono {F F' : Hp} (h : Same F F') {a : Addr} {u : HO} (q : Rd F a u) : Rd F' a u := by
  rcases q with q | ⟨o, q⟩
  · exact .inl (h _ _ q)
  · exact .inr ⟨o, h _ _ q⟩
theorem sqL_mono {K : PySem.W.Frag} {F F' : Hp} (h : Same F F') {a : Addr} {xs : List V} (q : SqL K F a xs) : SqL K F' a xs := by
  rcases q with q | q
  · exact .inl (rd_mono h q)
  · exact .inr q
/-- al' begins with al -/
def Pre (al al' : List Addr) : Prop := ∀ (n : Nat) (a : Addr), al[n]? = some a → al'[n]? = some a
theorem Pre.refl (al : List Addr) : Pre al al := fun _ _ h => h
theorem Pre.trans {a b c : List Addr} (h : Pre a b) (h' : Pre b c) : Pre a c := fun n x q => h' n x (h n x q)
theorem Pre.app (al be : List Addr) : Pre al (al ++ be) := fun n a q => by
  have := (List.getElem?_eq_some_iff.mp q).1
  rw [List.getElem?_append_left this]; exact q
section
variable {T : Tab} {K : PySem.W.Frag} {F F' : Hp} {al al' : List Addr}
mutual
theorem Rw.mono (h : Same F F') (p : Pre al al') : ∀ {v : V} {w : W}, Rw T K F al v w → Rw T K F' al' v w
  | _, _, .non => .non
  | _, _, .bl b => .bl b
  | _, _, .int i => .int i
  | _, _, .str x => .str x
  | _, _, .tup q r => .tup (sqT_mono h q) (RwL.mono h p r)
  | _, _, .lst q r => .lst (sqL_mono h q) (RwL.mono h p r)
  | _, _, .ins q r => .ins (h _ _ q) (RwF.mono h p r)
  | _, _, .loc q => .loc (p _ _ q)
  | _, _, .tpx q d r => .tpx (h _ _ q) d (RwL.mono h p r)
  | _, _, .opq q => .opq q
  | _, _, .opx q e r => .opx q (h _ _ e) (RwF.mono h p r)
  | _, _, .lam q e => .lam q (e.trans (.of h))
  | _, _, .fn q => .fn q
theorem RwL.mono (h : Same F F') (p : Pre al al') : ∀ {vs : List V} {ws : List W}, RwL T K F al vs ws → RwL T K F' al' vs ws
  | _, _, .nil => .nil
  | _, _, .cons a b => .cons (Rw.mono h p a) (RwL.mono h p b)
theorem RwF.mono (h : Same F F') (p : Pre al al') : ∀ {gs : List (Str × V)} {fs : List (Nat × W)}, RwF T K F al gs fs → RwF T K F' al' gs fs
  | _, _, .nil => .nil
  | _, _, .cons l a b => .cons l (Rw.mono h p a) (RwF.mono h p b)
end
theorem RwL.length : ∀ {vs : List V} {ws : List W}, RwL T K F al vs ws → vs.length = ws.length
  | _, _, .nil => rfl
  | _, _, .cons _ b => by rw [List.length_cons, List.length_cons, b.length]
theorem RwL.get : ∀ {vs : List V} {ws : List W} {i : Nat} {w : W}, RwL T K F al vs ws → ws[i]? = some w → ∃ v, vs[i]? = some v ∧ Rw T K F al v w
  | _, _, _, _, .nil, e => by simp at e
  | _, _, 0, _, .cons r _, e => by simp at e; subst e; exact ⟨_, rfl, r⟩
  | _, _, i + 1, _, .cons _ t, e => by
    obtain ⟨v, h1, h2⟩ := RwL.get (i := i) t (by simpa using e)
    exact ⟨v, by simpa using h1, h2⟩
theorem RwL.getV : ∀ {vs : List V} {ws : List W} {i : Nat} {v : V}, RwL T K F al vs ws → vs[i]? = some v → ∃ w, ws[i]? = some w ∧ Rw T K F al v w
  | _, _, _, _, .nil, e => by simp at e
  | _, _, 0, _, .cons r _, e => by simp at e; subst e; exact ⟨_, rfl, r⟩
  | _, _, i + 1, _, .cons _ t, e => by
    obtain ⟨v, h1, h2⟩ := RwL.getV (i := i) t (by simpa using e)
    exact ⟨v, by simpa using h1, h2⟩
theorem RwL.append : ∀ {vs us : List V} {ws xs : List W}, RwL T K F al vs ws → RwL T K F al us xs → RwL T K F al (vs ++ us) (ws ++ xs)
  | _, _, _, _, .nil, s => s
  | _, _, _, _, .cons r t, s => .cons r (RwL.append t s)
theorem RwL.take : ∀ {vs : List V} {ws : List W} (n : Nat), RwL T K F al vs ws → RwL T K F al (vs.take n) (ws.take n)
  | _, _, 0, _ => .nil
  | _, _, _ + 1, .nil => .nil
  | _, _, n + 1, .cons r t => .cons r (RwL.take n t)
theorem RwL.drop : ∀ {vs : List V} {ws : List W} (n : Nat), RwL T K F al vs ws → RwL T K F al (vs.drop n) (ws.drop n)
  | _, _, 0, r => r
  | _, _, _ + 1, .nil => .nil
  | _, _, n + 1, .cons _ t => RwL.drop n t
theorem RwL.set {v : V} {w : W} (r : Rw T K F al v w) : ∀ {vs : List V} {ws : List W} (i : Nat), RwL T K F al vs ws → RwL T K F al (vs.set i v) (ws.set i w)
  | _, _, _, .nil => .nil
  | _, _, 0, .cons _ t => .cons r t
  | _, _, i + 1, .cons q t => .cons q (RwL.set r i t)
theorem RwL.reverse {vs : List V} {ws : List W} (r : RwL T K F al vs ws) : RwL T K F al vs.reverse ws.reverse := by
  induction r using RwL.rec (motive_1 := fun _ _ _ => True) (motive_3 := fun _ _ _ => True) with
  | nil => exact .nil
  | cons a b _ ih => rw [List.reverse_cons, List.reverse_cons]; exact ih.append (.cons a .nil)
  | _ => trivial
theorem RwL.eraseIdx : ∀ {vs : List V} {ws : List W} (i : Nat), RwL T K F al vs ws → RwL T K F al (vs.eraseIdx i) (ws.eraseIdx i)
  | _, _, _, .nil => .nil
  | _, _, 0, .cons _ t => t
  | _, _, i + 1, .cons q t => .cons q (RwL.eraseIdx i t)
theorem RwL.rep {vs : List V} {ws : List W} (r : RwL T K F al vs ws) : ∀ k, RwL T K F al (List.replicate k vs).flatten (List.replicate k ws).flatten
  | 0 => .nil
  | k + 1 => by rw [List.replicate_succ, List.replicate_succ, List.flatten_cons, List.flatten_cons]; exact r.append (r.rep k)
theorem RwL.ints : ∀ {vs : List V} {ns : List Int}, RwL T K F al vs (ns.map W.int) → vs = ns.map V.int
  | _, [], .nil => rfl
  | _, n :: ns, .cons r t => by cases r; rw [List.map_cons, RwL.ints t]
theorem RwL.of_ints : ∀ (ns : List Int), RwL T K F al (ns.map V.int) (ns.map W.int)
  | [] => .nil
  | n :: ns => .cons (.int n) (RwL.of_ints ns)
theorem RwL.bls : ∀ {vs : List V} {ns : List Bool}, RwL T K F al vs (ns.map W.bl) → vs = ns.map V.bl
  | _, [], .nil => rfl
  | _, n :: ns, .cons r t => by cases r; rw [List.map_cons, RwL.bls t]
end
/-! ### keys of dicts: tuples of plain things -/
mutual
def W.keyOk : Nat → W → Bool
  | _, .non => true
  | _, .bl _ => true
  | _, .int _ => true
  | _, .str _ => true
  | n + 1, .tup ws => W.keyOkL n ws
  | _, _ => false
def W.keyOkL : Nat → List W → Bool
  | _, [] => true
  | n, w :: ws => W.keyOk n w && W.keyOkL n ws
end
mutual
def W.toN : W → NestedKey
  | .non => .none
  | .bl b => .num (if b then 1 else 0)
  | .int i => .num i
  | .str x => .text x
  | .tup ws => .tup (W.toNL ws)
  | _ => .none
def W.toNL : List W → List NestedKey
  | [] => []
  | w :: ws => W.toN w :: W.toNL ws
end
def isKey : W → Bool
  | .tup ws => W.keyOkL 7 ws
  | _ => false
/-- a dict whose keys are tuples: its keys, where they stand, its values -/
def DicO (P : Program) (w : World) (a : Addr) (us : List (NestedKey × Addr × V)) : HO := .ext fun h => us.length ≤ sizeLine ∧ (a == sysModules) = false ∧ ∃ (o : Obj) (es : Array DictEntry) (ep : Nat) (xs : List (NestedKey × Addr × Value)),
  Paired (fun (p : NestedKey × Addr × V) (q : NestedKey × Addr × Value) => p.1 = q.1 ∧ p.2.1 = q.2.1 ∧ RelV p.2.2 q.2.2) us xs ∧ h.get? a = some o ∧ o.ExactDict ∧ o.data = .dict es ep ∧ es.toList = xs.map (entryOfKey (nestedKind P w)) ∧ (xs.map (·.1)).Nodup
def RwD (T : Tab) (K : PySem.W.Frag) (F : Hp) (al : List Addr) : List (NestedKey × Addr × V) → List (W × W) → Prop :=
  Paired fun (p : NestedKey × Addr × V) (q : W × W) => isKey q.1 = true ∧ p.1 = W.toN q.1 ∧ Rw T K F al (.ref p.2.1) q.1 ∧ Rw T K F al p.2.2 q.2
/-- the members of a set of tuples: where they stand, their data -/
def RwS (T : Tab) (K : PySem.W.Frag) (F : Hp) (al : List Addr) : NS.NL → List W → Prop :=
  Paired fun (p : Addr × NestedKey) (q : W) => isKey q = true ∧ p.2 = W.toN q ∧ Rw T K F al (.ref p.1) q
/-- what stands at the address of a cell -/
def CellOk (T : Tab) (K : PySem.W.Frag) (F : Hp) (al : List Addr) (H : Hp) (a : Addr) : Cell → Prop
  | .lst ws => ∃ xs, H a = some (.lst xs) ∧ F a = none ∧ RwL T K F al xs ws
  | .obj c fs => ∃ dx gs, H a = some (.ins (T.c c) dx gs) ∧ F a = none ∧ RwF T K F al gs fs
  | .dic kvs => ∃ us, H a = some (DicO T.prg T.wld a us) ∧ F a = none ∧ RwD T K F al us kvs
  | .set ws => ∃ us, H a = some (NS.SetO T.wld a us) ∧ F a = none ∧ RwS T K F al us ws
  | .frz w => Rw T K F al (.ref a) w
  | .dead => True
  | .dlk kvs => ∃ od us, F a = some (.frz od (DicO T.prg T.wld a us)) ∧ RwD T K F al us kvs
  | .tbl i => ∃ (q : Str) (ps : Array Value), T.tbs[i]? = some (a, q) ∧ H a = some (.tbl ps) ∧ F a = none ∧ TriplesOk ps.toList ∧ ∀ (pos : Pos) (cv : Value), codeAmong pos ps.toList = some cv → ∃ c, cv = .ref c ∧ F c = some (LamX.CodeO c q)
/-- the data's part F of the heap, the cells' addresses al -/
structure Good (T : Tab) (K : PySem.W.Frag) (F : Hp) (al : List Addr) (S : Sto) (H : Hp) : Prop where
  sub : Same F H
  nd : al.Nodup
  len : al.length = S.length
  tr : ∀ a ∈ al, H a ≠ none
  cell : ∀ (n : Nat) (a : Addr) (c : Cell), al[n]? = some a → S[n]? = some c → CellOk T K F al H a c
structure Post (F : Hp) (al : List Addr) (H : Hp) (F' : Hp) (al' : List Addr) (H' : Hp) : Prop where
  ext : Same F F'
  pre : Pre al al'
  fresh : ∀ b, b ∈ al' → b ∈ al ∨ H b = none
  keep : ∀ b o, H b = some o → b ∉ al → H' b = some o
  dom : ∀ b, F' b ≠ none → F b ≠ none ∨ b ∈ al ∨ H b = none
def EnvOk (T : Tab) (K : PySem.W.Frag) (F : Hp) (al : List Addr) (σ : St) (ρ : Env) : Prop :=
  ρ.length = σ.length ∧ ∀ (i : Nat) (w : W), ρ[i]? = some (some w) → ∃ v, σ[i]? = some (some v) ∧ Rw T K F al v w
section
variable {T : Tab} {K : PySem.W.Frag} {F F' F2 : Hp} {al al' al2 : List Addr} {H H' H2 : Hp} {S S' : Sto} {σ : St} {ρ : Env}
theorem Post.refl : Post F al H F al H := ⟨Same.refl _, Pre.refl _, fun _ h => .inl h, fun _ _ h _ => h, fun _ h => .inl h⟩
theorem Post.trans (p : Post F al H F' al' H') (q : Post F' al' H' F2 al2 H2) : Post F al H F2 al2 H2 := by
  have kn : ∀ b, H' b = none → b ∈ al ∨ H b = none := fun b h => by
    by_cases hb : b ∈ al
    · exact .inl hb
    · refine .inr ?_
      cases e : H b with
      | none => rfl
      | some o => rw [p.keep b o e hb] at h; cases h
  refine ⟨p.ext.trans q.ext, p.pre.trans q.pre, fun b h => ?_, fun b o h hb => ?_, fun b h => ?_⟩
  · rcases q.fresh b h with h | h
    · exact p.fresh b h
    · exact kn b h
  · refine q.keep b o (p.keep b o h hb) fun hm => ?_
    rcases p.fresh b hm with z | z
    · exact hb z
    · rw [h] at z; cases z
  · rcases q.dom b h with h | h | h
    · exact p.dom b h
    · rcases p.fresh b h with z | z
      · exact .inr (.inl z)
      · exact .inr (.inr z)
    · exact .inr (kn b h)
theorem EnvOk.mono (e : EnvOk T K F al σ ρ) (h : Same F F') (p : Pre al al') : EnvOk T K F' al' σ ρ :=
  ⟨e.1, fun i w q => let ⟨v, a, b⟩ := e.2 i w q; ⟨v, a, b.mono h p⟩⟩
theorem EnvOk.post (e : EnvOk T K F al σ ρ) (p : Post F al H F' al' H') : EnvOk T K F' al' σ ρ := e.mono p.ext p.pre
theorem Rw.post {v : V} {w : W} (e : Rw T K F al v w) (p : Post F al H F' al' H') : Rw T K F' al' v w := e.mono p.ext p.pre
theorem RwL.post {v : List V} {w : List W} (e : RwL T K F al v w) (p : Post F al H F' al' H') : RwL T K F' al' v w := e.mono p.ext p.pre
theorem EnvOk.set (e : EnvOk T K F al σ ρ) {v : V} {w : W} (r : Rw T K F al v w) (i : Nat) : EnvOk T K F al (σ.set i (some v)) (ρ.set i (some w)) := by
  refine ⟨by rw [List.length_set, List.length_set]; exact e.1, fun j x q => ?_⟩
  by_cases hj : i = j
  · subst hj
    by_cases hl : i < ρ.length
    · rw [List.getElem?_set_self hl] at q
      cases q
      exact ⟨v, List.getElem?_set_self (by rw [← e.1]; exact hl), r⟩
    · rw [List.getElem?_eq_none (by rw [List.length_set]; omega)] at q; cases q
  · rw [List.getElem?_set_ne hj] at q
    obtain ⟨u, a, b⟩ := e.2 j x q
    exact ⟨u, by rw [List.getElem?_set_ne hj]; exact a, b⟩
theorem EnvOk.wipe (e : EnvOk T K F al σ ρ) (i : Nat) : EnvOk T K F al (σ.set i none) (ρ.set i none) := by
  refine ⟨by rw [List.length_set, List.length_set]; exact e.1, fun j x q => ?_⟩
  by_cases hj : i = j
  · subst hj
    by_cases hl : i < ρ.length
    · rw [List.getElem?_set_self hl] at q; cases q
    · rw [List.getElem?_eq_none (by rw [List.length_set]; omega)] at q; cases q
  · rw [List.getElem?_set_ne hj] at q
    obtain ⟨u, a, b⟩ := e.2 j x q
    exact ⟨u, by rw [List.getElem?_set_ne hj]; exact a, b⟩
theorem Good.notF (g : Good T K F al S H) {p : Addr} (h : H p = none) : F p = none := g.sub.free h
theorem Good.notA (g : Good T K F al S H) {p : Addr} (h : H p = none) : p ∉ al := fun m => g.tr p m h
theorem CellOk.mono {a : Addr} : ∀ {c : Cell}, CellOk T K F al H a c → Same F F' → Pre al al' → (∀ o, H a = some o → H' a = some o) → (F a = none → F' a = none) → CellOk T K F' al' H' a c
  | .lst _, ⟨xs, h1, h2, h3⟩, s, p, k, f => ⟨xs, k _ h1, f h2, h3.mono s p⟩
  | .obj _ _, ⟨dx, gs, h1, h2, h3⟩, s, p, k, f => ⟨dx, gs, k _ h1, f h2, h3.mono s p⟩
  | .dic _, ⟨us, h1, h2, h3⟩, s, p, k, f => ⟨us, k _ h1, f h2, Paired.mapP h3 fun _ _ z => ⟨z.1, z.2.1, z.2.2.1.mono s p, z.2.2.2.mono s p⟩⟩
  | .set _, ⟨us, h1, h2, h3⟩, s, p, k, f => ⟨us, k _ h1, f h2, Paired.mapP h3 fun _ _ z => ⟨z.1, z.2.1, z.2.2.mono s p⟩⟩
  | .frz _, h, s, p, _, _ => Rw.mono s p h
  | .dead, _, _, _, _, _ => trivial
  | .dlk _, ⟨od, us, h1, h2⟩, s, p, _, _ => ⟨od, us, s _ _ h1, Paired.mapP h2 fun _ _ z => ⟨z.1, z.2.1, z.2.2.1.mono s p, z.2.2.2.mono s p⟩⟩
  | .tbl _, ⟨q, ps, h1, h2, h3, h4, h5⟩, s, _, k, f => ⟨q, ps, h1, k _ h2, f h3, h4, fun pos cv z => by obtain ⟨c, e1, e2⟩ := h5 pos cv z; exact ⟨c, e1, s _ _ e2⟩⟩
/-- a new thing that is data from its begin on -/
theorem Good.newF (g : Good T K F al S H) {p : Addr} (hp : H p = none) (o : HO) : Good T K (upd F p o) al S (upd H p o) ∧ Post F al H (upd F p o) al (upd H p o) := by
  have hF := g.notF hp
  have hA := g.notA hp
  have s1 : Same F (upd F p o) := fun b u e => by rw [upd_ne (ne_of_none e hF)]; exact e
  refine ⟨⟨fun b u e => ?_, g.nd, g.len, fun a ha => ?_, fun n a c ha hc => ?_⟩, ⟨s1, Pre.refl _, fun _ h => .inl h, fun b u e _ => by rw [upd_ne (ne_of_none e hp)]; exact e, fun b h => ?_⟩⟩
  · by_cases hb : b = p
    · subst hb; rw [upd_same] at e ⊢; exact e
    · rw [upd_ne hb] at e ⊢; exact g.sub b u e
  · rw [upd_ne (show a ≠ p from fun e => hA (e ▸ ha))]; exact g.tr a ha
  · have ne : a ≠ p := fun e => hA (e ▸ List.mem_of_getElem? ha)
    exact (g.cell n a c ha hc).mono s1 (Pre.refl _) (fun o h => by rw [upd_ne ne]; exact h) (fun h => by rw [upd_ne ne]; exact h)
  · by_cases hb : b = p
    · subst hb; exact .inr (.inr hp)
    · rw [upd_ne hb] at h; exact .inl h
theorem Good.newTup (g : Good T K F al S H) {p : Addr} (hp : H p = none) {xs : List V} {ws : List W} (r : RwL T K F al xs ws) :
    Good T K (upd F p (.tup xs)) al S (upd H p (.tup xs)) ∧ Post F al H (upd F p (.tup xs)) al (upd H p (.tup xs)) ∧ Rw T K (upd F p (.tup xs)) al (.ref p) (.tup ws) := by
  obtain ⟨a, b⟩ := g.newF hp (.tup xs)
  exact ⟨a, b, .tup (.of upd_same) (r.post b)⟩
theorem Good.newLst (g : Good T K F al S H) {p : Addr} (hp : H p = none) {xs : List V} {ws : List W} (r : RwL T K F al xs ws) :
    Good T K (upd F p (.lst xs)) al S (upd H p (.lst xs)) ∧ Post F al H (upd F p (.lst xs)) al (upd H p (.lst xs)) ∧ Rw T K (upd F p (.lst xs)) al (.ref p) (.lst ws) := by
  obtain ⟨a, b⟩ := g.newF hp (.lst xs)
  exact ⟨a, b, .lst (SqL.of upd_same) (r.post b)⟩
/-- a new cell -/
theorem Good.newCell (g : Good T K F al S H) {p : Addr} (hp : H p = none) {o : HO} {c : Cell} (hc : CellOk T K F (al ++ [p]) (upd H p o) p c) :
    Good T K F (al ++ [p]) (S ++ [c]) (upd H p o) ∧ Post F al H F (al ++ [p]) (upd H p o) ∧ Rw T K F (al ++ [p]) (.ref p) (.loc S.length) := by
  have hF := g.notF hp
  have hA := g.notA hp
  refine ⟨⟨fun b u e => ?_, ?_, by rw [List.length_append, List.length_append, g.len]; rfl, fun a ha => ?_, fun n a d ha hd => ?_⟩, ⟨Same.refl _, Pre.app _ _, fun b h => ?_, fun b u e _ => by rw [upd_ne (ne_of_none e hp)]; exact e, fun _ h => .inl h⟩, .loc ?_⟩
  · rw [upd_ne (ne_of_none e hF)]; exact g.sub b u e
  · rw [List.nodup_append]
    refine ⟨g.nd, by simp, fun a ha b hb e => ?_⟩
    have : b = p := by simpa using hb
    subst this; subst e; exact hA ha
  · rcases List.mem_append.mp ha with h | h
    · by_cases e : a = p
      · subst e; rw [upd_same]; simp
      · rw [upd_ne e]; exact g.tr a h
    · have : a = p := by simpa using h
      subst this; rw [upd_same]; simp
  · by_cases hn : n < al.length
    · rw [List.getElem?_append_left hn] at ha
      rw [List.getElem?_append_left (by rw [← g.len]; exact hn)] at hd
      have ne : a ≠ p := fun e => hA (e ▸ List.mem_of_getElem? ha)
      exact (g.cell n a d ha hd).mono (Same.refl _) (Pre.app _ _) (fun o h => by rw [upd_ne ne]; exact h) (fun h => h)
    · have h2 : n = al.length := by
        have := (List.getElem?_eq_some_iff.mp ha).1
        rw [List.length_append] at this
        simp at this; omega
      subst h2
      rw [List.getElem?_append_right (Nat.le_refl _), Nat.sub_self] at ha
      rw [g.len, List.getElem?_append_right (Nat.le_refl _), Nat.sub_self] at hd
      simp at ha hd
      subst ha; subst hd
      exact hc
  · rcases List.mem_append.mp h with h | h
    · exact .inl h
    · have : b = p := by simpa using h
      subst this; exact .inr hp
  · rw [← g.len, List.getElem?_append_right (Nat.le_refl _), Nat.sub_self]; rfl
/-- a cell is changed -/
theorem Good.setCell (g : Good T K F al S H) {n : Nat} {a : Addr} {o : HO} {c : Cell} (ha : al[n]? = some a) (hF : F a = none) (hc : CellOk T K F al (upd H a o) a c) :
    Good T K F al (S.set n c) (upd H a o) ∧ Post F al H F al (upd H a o) := by
  have hm : a ∈ al := List.mem_of_getElem? ha
  refine ⟨⟨fun b u e => ?_, g.nd, by rw [List.length_set]; exact g.len, fun b hb => ?_, fun m b d hb hd => ?_⟩, ⟨Same.refl _, Pre.refl _, fun _ h => .inl h, fun b u e hb => ?_, fun _ h => .inl h⟩⟩
  · rw [upd_ne (ne_of_none e hF)]; exact g.sub b u e
  · by_cases e : b = a
    · subst e; rw [upd_same]; simp
    · rw [upd_ne e]; exact g.tr b hb
  · by_cases e : m = n
    · subst e
      rw [ha] at hb; cases hb
      have hl : m < S.length := by rw [← g.len]; exact (List.getElem?_eq_some_iff.mp ha).1
      rw [List.getElem?_set_self hl] at hd
      cases hd
      exact hc
    · rw [List.getElem?_set_ne (Ne.symm e)] at hd
      have ne : b ≠ a := fun q => e (by subst q; exact nd_ix' g.nd hb ha)
      exact (g.cell m b d hb hd).mono (Same.refl _) (Pre.refl _) (fun o h => by rw [upd_ne ne]; exact h) (fun h => h)
  · rw [upd_ne (show b ≠ a from fun q => hb (q ▸ hm))]; exact e
where nd_ix' {l : List Addr} (hN : l.Nodup) {i j : Nat} {x : Addr} (a : l[i]? = some x) (b : l[j]? = some x) : i = j := by
        obtain ⟨h1, e1⟩ := List.getElem?_eq_some_iff.mp a
        obtain ⟨h2, e2⟩ := List.getElem?_eq_some_iff.mp b
        exact (List.getElem_inj hN).mp (e1.trans e2.symm)
/-- a cell is frozen: what it holds becomes data -/
theorem Good.freeze (g : Good T K F al S H) {n : Nat} {a : Addr} {o : HO} {w : W} (ha : al[n]? = some a) (hF : F a = none) (ho : H a = some o) (hw : Rw T K (upd F a o) al (.ref a) w) :
    Good T K (upd F a o) al (S.set n (.frz w)) H ∧ Post F al H (upd F a o) al H := by
  have hm : a ∈ al := List.mem_of_getElem? ha
  have s1 : Same F (upd F a o) := fun b u e => by rw [upd_ne (ne_of_none e hF)]; exact e
  refine ⟨⟨fun b u e => ?_, g.nd, by rw [List.length_set]; exact g.len, g.tr, fun m b d hb hd => ?_⟩, ⟨s1, Pre.refl _, fun _ h => .inl h, fun b u e _ => e, fun b h => ?_⟩⟩
  · by_cases q : b = a
    · subst q; rw [upd_same] at e; rw [← e]; exact ho
    · rw [upd_ne q] at e; exact g.sub b u e
  · by_cases e : m = n
    · subst e
      rw [ha] at hb; cases hb
      have hl : m < S.length := by rw [← g.len]; exact (List.getElem?_eq_some_iff.mp ha).1
      rw [List.getElem?_set_self hl] at hd
      cases hd
      exact hw
    · rw [List.getElem?_set_ne (Ne.symm e)] at hd
      have ne : b ≠ a := fun q => e (by subst q; exact setCell.nd_ix' g.nd hb ha)
      exact (g.cell m b d hb hd).mono s1 (Pre.refl _) (fun o h => h) (fun h => by rw [upd_ne ne]; exact h)
  · by_cases q : b = a
    · subst q; exact .inr (.inl hm)
    · rw [upd_ne q] at h; exact .inl h
end
end DL
set_option Elab.async false
set_option linter.all false
set_option maxRecDepth 100000
set_option maxHeartbeats 4000000
/-! Wb: a small language of expressions and statements over data, and what it does. -/
namespace DL
open PySem PySem.Spec L2
def limit : Nat := 16777216
/-! ### plain data, == -/
mutual
def W.plain : Nat → W → Bool
  | _, .non => true
  | _, .bl _ => true
  | _, .int _ => true
  | _, .str s => PyData.strOk s
  | 0, .tup _ => false
  | 0, .lst _ => false
  | n + 1, .tup ws => W.plainL n ws
  | n + 1, .lst ws => W.plainL n ws
  | _, .ins _ _ => false
  | _, .loc _ => false
  | _, .tpx _ => false
  | _, .opq _ _ => false
  | _, .lam => false
  | _, .fn _ => false
def W.plainL : Nat → List W → Bool
  | _, [] => true
  | n, w :: ws => W.plain n w && W.plainL n ws
end
mutual
def W.eqv : W → W → Bool
  | .non, .non => true
  | .bl a, .bl b => a == b
  | .bl a, .int j => (if a then 1 else 0) == j
  | .int i, .bl b => i == (if b then 1 else 0)
  | .int i, .int j => i == j
  | .str x, .str y => x == y
  | .lst xs, .lst ys => W.eqvL xs ys
  | .tup xs, .tup ys => W.eqvL xs ys
  | _, _ => false
def W.eqvL : List W → List W → Bool
  | [], [] => true
  | x :: xs, y :: ys => W.eqv x y && W.eqvL xs ys
  | _, _ => false
end
/-- a thing that may be changed, as it stands now -/
def deref (S : Sto) : W → W
  | .loc n => match S[n]? with
    | some (.lst ws) => .lst ws
    | some (.frz w) => w
    | _ => .loc n
  | .tpx ws => .tup ws
  | w => w
def cmpEq (a b : W) : Option Bool := if W.plain 60 a && W.plain 60 b then some (W.eqv a b) else none
inductive Xn where
  | own (c : Nat) (fs : List (Nat × W))
  deriving Inhabited
inductive Res where
  | ok (w : W) (S : Sto) | exc (x : Xn) (S : Sto) | bad
  deriving Inhabited
inductive LRes where
  | ok (ws : List W) (S : Sto) | exc (x : Xn) (S : Sto) | bad
  deriving Inhabited
inductive BRes where
  | ok (b : Bool) (S : Sto) | exc (x : Xn) (S : Sto) | bad
  deriving Inhabited
def Res.bind : Res → (W → Sto → Res) → Res
  | .ok w S, f => f w S
  | .exc x S, _ => .exc x S
  | .bad, _ => .bad
def Res.bindL : Res → (W → Sto → LRes) → LRes
  | .ok w S, f => f w S
  | .exc x S, _ => .exc x S
  | .bad, _ => .bad
def Res.bindB : Res → (W → Sto → BRes) → BRes
  | .ok w S, f => f w S
  | .exc x S, _ => .exc x S
  | .bad, _ => .bad
def LRes.bind : LRes → (List W → Sto → Res) → Res
  | .ok w S, f => f w S
  | .exc x S, _ => .exc x S
  | .bad, _ => .bad
def LRes.bindL : LRes → (List W → Sto → LRes) → LRes
  | .ok w S, f => f w S
  | .exc x S, _ => .exc x S
  | .bad, _ => .bad
def BRes.bind : BRes → (Bool → Sto → Res) → Res
  | .ok w S, f => f w S
  | .exc x S, _ => .exc x S
  | .bad, _ => .bad
def BRes.bindB : BRes → (Bool → Sto → BRes) → BRes
  | .ok w S, f => f w S
  | .exc x S, _ => .exc x S
  | .bad, _ => .bad
def optR (S : Sto) : Option W → Res
  | some w => .ok w S
  | none => .bad
abbrev Fn := List W → Sto → Res
/-! ### operators -/
def mulOk (i j : Int) : Bool := (decide (-(2 ^ 64) < i) && decide (i < 2 ^ 64)) || (decide (-(2 ^ 64) < j) && decide (j < 2 ^ 64))
def divLim : Int := 1000000000000000000000000000000000000000000000000000000000000000000000
def binop : Operator → W → W → Option W
  | .Add, .int i, .int j => some (.int (i + j))
  | .Add, .str x, .str y => if x.length + y.length ≤ limit then some (.str (x ++ y)) else none
  | .Add, .tup xs, .tup ys => if xs.length + ys.length ≤ limit then some (.tup (xs ++ ys)) else none
  | .Add, .lst xs, .lst ys => if xs.length + ys.length ≤ limit then some (.lst (xs ++ ys)) else none
  | .Sub, .int i, .int j => some (.int (i - j))
  | .Mult, .int i, .int j => if mulOk i j then some (.int (i * j)) else none
  | .Mult, .tup xs, .int k => if decide (0 ≤ k) && decide (k ≤ 1000) && decide (xs.length ≤ 1000) then some (.tup (List.replicate k.toNat xs).flatten) else none
  | .FloorDiv, .int i, .int j => if 0 < j ∧ j < divLim then some (.int (i / j)) else none
  | .Mod, .int i, .int j => if 0 < j then some (.int (i % j)) else none
  | .Pow, .int i, .int j => if 0 ≤ j ∧ j ≤ 1000000 ∧ i.natAbs < 2 ^ 64 then some (.int (i ^ j.toNat)) else none
  | _, _, _ => none
def memW (x : W) (ys : List W) : Option Bool := if W.plain 60 x && W.plainL 60 ys then some (ys.any fun y => W.eqv y x) else none
def cmpop : CmpOp → W → W → Option Bool
  | .Eq, a, b => cmpEq a b
  | .NotEq, a, b => (cmpEq a b).map (!·)
  | .Lt, .int i, .int j => some (decide (i < j))
  | .LtE, .int i, .int j => some (decide (i ≤ j))
  | .Gt, .int i, .int j => some (decide (j < i))
  | .GtE, .int i, .int j => some (decide (j ≤ i))
  | .Is, .non, .non => some true
  | .Is, .bl _, .non => some false
  | .Is, .int _, .non => some false
  | .Is, .str _, .non => some false
  | .Is, .tup _, .non => some false
  | .Is, .lst _, .non => some false
  | .IsNot, .non, .non => some false
  | .IsNot, .bl _, .non => some true
  | .IsNot, .int _, .non => some true
  | .IsNot, .str _, .non => some true
  | .IsNot, .tup _, .non => some true
  | .IsNot, .lst _, .non => some true
  | .Is, .bl a, .bl b => some (a == b)
  | .IsNot, .bl a, .bl b => some (!(a == b))
  | .In, x, .tup ys => memW x ys
  | .In, x, .lst ys => memW x ys
  | .NotIn, x, .tup ys => (memW x ys).map (!·)
  | .NotIn, x, .lst ys => (memW x ys).map (!·)
  | _, _, _ => none
def truthy : W → Option Bool
  | .non => some false
  | .bl b => some b
  | .int i => some (i != 0)
  | .str y => if y.length ≤ limit then some ((y.length : Int) != 0) else none
  | .tup ws => some (!ws.isEmpty)
  | .lst ws => some (!ws.isEmpty)
  | _ => none
def getIx : W → W → Option W
  | .tup ws, .int i => atI ws i
  | .lst ws, .int i => atI ws i
  | _, _ => none
def cutW (ws : List W) (lo hi : Option Int) : List W := (ws.drop (HT.sIx ws.length 0 lo)).take (HT.sIx ws.length ws.length hi - HT.sIx ws.length 0 lo)
def getSl : W → Option Int → Option Int → Option W
  | .tup ws, lo, hi => some (.tup (cutW ws lo hi))
  | .lst ws, lo, hi => some (.lst (cutW ws lo hi))
  | _, _, _ => none
def lookF (i : Nat) : List (Nat × W) → Option W
  | [] => none
  | (j, w) :: fs => if i = j then some w else lookF i fs
def putFN (i : Nat) (w : W) : List (Nat × W) → List (Nat × W)
  | [] => [(i, w)]
  | (j, x) :: fs => if j = i then (j, w) :: fs else (j, x) :: putFN i w fs
def getFld (S : Sto) (c f : Nat) : W → Option W
  | .ins d fs => if d = c then lookF f fs else none
  | .loc n => match S[n]? with
    | some (.obj d fs) => if d = c then lookF f fs else none
    | some (.frz (.ins d fs)) => if d = c then lookF f fs else none
    | _ => none
  | _ => none
inductive Ty where
  | int | bool | str | tuple | list
  deriving DecidableEq
def isTy : Ty → W → Option Bool
  | .int, .int _ => some true
  | .int, .bl _ => some true
  | .bool, .bl _ => some true
  | .str, .str _ => some true
  | .tuple, .tup _ => some true
  | .list, .lst _ => some true
  | _, .non => some false
  | _, .bl _ => some false
  | _, .int _ => some false
  | _, .str _ => some false
  | _, .tup _ => some false
  | _, .lst _ => some false
  | _, _ => none
inductive Prim where
  | len | abs | max | min | all | any | tuple | list | divmod | sum | int | bool
  deriving DecidableEq
def allB : List W → Option (List Bool)
  | [] => some []
  | .bl b :: ws => (allB ws).map (b :: ·)
  | _ => none
def allI : List W → Option (List Int)
  | [] => some []
  | .int b :: ws => (allI ws).map (b :: ·)
  | _ => none
def prim : Prim → List W → Option W
  | .len, [.tup ws] => some (.int ws.length)
  | .len, [.lst ws] => some (.int ws.length)
  | .len, [.str x] => if x.length ≤ limit then some (.int x.length) else none
  | .abs, [.int i] => some (.int (if i < 0 then -i else i))
  | .max, [.int i, .int j] => some (.int (if j > i then j else i))
  | .min, [.int i, .int j] => some (.int (if j < i then j else i))
  | .all, [.lst ws] => (allB ws).map fun bs => .bl (bs.all id)
  | .any, [.lst ws] => (allB ws).map fun bs => .bl (bs.any id)
  | .tuple, [.tup ws] => some (.tup ws)
  | .tuple, [.lst ws] => some (.tup ws)
  | .list, [.tup ws] => some (.lst ws)
  | .list, [.lst ws] => some (.lst ws)
  | .divmod, [.int i, .int j] => if 0 < j ∧ j < 1073741824 then some (.tup [.int (i / j), .int (i % j)]) else none
  | .sum, [.lst ws] => (allI ws).map fun ns => .int ns.sum
  | .int, [.int i] => some (.int i)
  | .int, [.bl k] => some (.int (if k then 1 else 0))
  | .bool, [.int i] => some (.bl (i != 0))
  | .bool, [.bl k] => some (.bl k)
  | _, _ => none
/-! ### the language -/
inductive Tg where
  | nm (i : Nat) | tup (is : List Nat) | star (is : List Nat) (j : Nat) | two (i : Nat) (is : List Nat)
  deriving DecidableEq
def setAll : List Nat → List W → Env → Option Env
  | [], [], ρ => some ρ
  | i :: is, w :: ws, ρ => setAll is ws (ρ.set i (some w))
  | _, _, _ => none
def setSeq (is : List Nat) : W → Env → Option Env
  | .tup ws, ρ => setAll is ws ρ
  | .lst ws, ρ => setAll is ws ρ
  | .tpx ws, ρ => setAll is ws ρ
  | _, _ => none
def bindTg : Tg → W → Env → Option Env
  | .nm i, w, ρ => some (ρ.set i (some w))
  | .tup is, .tup ws, ρ => setAll is ws ρ
  | .tup is, .lst ws, ρ => setAll is ws ρ
  | .tup is, .tpx ws, ρ => setAll is ws ρ
  | .star is j, .tup ws, ρ => if is.length ≤ ws.length ∧ ws.length ≤ 16384 then (setAll is (ws.take is.length) ρ).map fun ρ' => ρ'.set j (some (.lst (ws.drop is.length))) else none
  | .two i is, .tup [x, y], ρ => setSeq is y (ρ.set i (some x))
  | _, _, _ => none
def wipeW (ρ : Env) : List Nat → Env
  | [] => ρ
  | v :: vs => (wipeW ρ vs).set v none
def zipW : List W → List W → List W
  | x :: xs, y :: ys => .tup [x, y] :: zipW xs ys
  | _, _ => []
def rangeW (lo : Int) : Nat → List W
  | 0 => []
  | n + 1 => .int lo :: rangeW (lo + 1) n
def items : W → Option (List W)
  | .tup ws => some ws
  | .tpx ws => some ws
  | .lst ws => some ws
  | _ => none
def compM (step : W → Sto → LRes) : List W → List W → Sto → LRes
  | [], acc, S => .ok acc S
  | x :: xs, acc, S => (step x S).bindL fun ys S' => compM step xs (acc ++ ys) S'
def newCellR (c : Cell) (S : Sto) : Res := .ok (.loc S.length) (S ++ [c])
def freezeR : W → Sto → Res
  | .loc n, S => match S[n]? with
    | some (.lst ws) => .ok (.lst ws) (S.set n (.frz (.lst ws)))
    | some (.frz w) => .ok w S
    | _ => .bad
  | w, S => .ok w S
def optL (S : Sto) : Option (List W) → LRes
  | some ws => .ok ws S
  | none => .bad
def optB (S : Sto) : Option Bool → BRes
  | some b => .ok b S
  | none => .bad
def truthyR (w : W) (S : Sto) : BRes := optB S (truthy (deref S w))
def test (r : Res) : BRes := r.bindB truthyR
/-- a turn of a comprehension: nothing may be raised in it -/
def lcStep (ρ : Env) (vs : List Nat) (tg : Tg) (cond : Env → Sto → BRes) (elt : Env → Sto → Res) (x : W) (S : Sto) : LRes :=
  match bindTg tg x (wipeW ρ vs) with
  | none => .bad
  | some ρ' => match cond ρ' S with
    | .ok false S1 => .ok [] S1
    | .ok true S1 => match elt ρ' S1 with
      | .ok y S2 => .ok [y] S2
      | _ => .bad
    | _ => .bad
def partW : W → Option (Option Int)
  | .non => some none
  | .int i => some (some i)
  | _ => none
end DL
set_option Elab.async false
set_option linter.all false
set_option maxRecDepth 100000
set_option maxHeartbeats 4000000
/-! Wc: what the small language's expressions do is what the program's expressions do: the parts. -/
namespace DL
open PySem PySem.Spec L2
section
variable (T : Tab) (K : PySem.W.Frag)
def RwX (F : Hp) (al : List Addr) : Xn → Value → Option Addr → Prop
  | .own c fs, cls, d => cls = .ref (T.c c) ∧ ((fs = [] ∧ d = none) ∨ (fs ≠ [] ∧ ∃ a gs, d = some a ∧ F a = some (.xd gs) ∧ RwF T K F al gs fs))
def RQ (E : WX) (σ : L2.St) (F : Hp) (al : List Addr) (H : Hp) (r : Res) (Q : VK) : Prop :=
  match r with
  | .ok w S' => ∀ v F' al' H', Post F al H F' al' H' → Good T K F' al' S' H' → Rw T K F' al' v w → Q v H'
  | .exc x S' => ∀ cls d F' al' H', Post F al H F' al' H' → Good T K F' al' S' H' → RwX T K F' al' x cls d → E cls d σ H'
  | .bad => False
def LQ (E : WX) (σ : L2.St) (F : Hp) (al : List Addr) (H : Hp) (r : LRes) (Q : List V → Hp → Prop) : Prop :=
  match r with
  | .ok ws S' => ∀ vs F' al' H', Post F al H F' al' H' → Good T K F' al' S' H' → RwL T K F' al' vs ws → Q vs H'
  | .exc x S' => ∀ cls d F' al' H', Post F al H F' al' H' → Good T K F' al' S' H' → RwX T K F' al' x cls d → E cls d σ H'
  | .bad => False
def BQ (E : WX) (σ : L2.St) (F : Hp) (al : List Addr) (H : Hp) (r : BRes) (Q : Bool → Hp → Prop) : Prop :=
  match r with
  | .ok b S' => ∀ F' al' H', Post F al H F' al' H' → Good T K F' al' S' H' → Q b H'
  | .exc x S' => ∀ cls d F' al' H', Post F al H F' al' H' → Good T K F' al' S' H' → RwX T K F' al' x cls d → E cls d σ H'
  | .bad => False
def tW (E : WX) (m : Env → Sto → Res) : TE := fun σ H Q => ∃ F al S ρ, Good T K F al S H ∧ EnvOk T K F al σ ρ ∧ RQ T K E σ F al H (m ρ S) Q
def tL (E : WX) (m : Env → Sto → LRes) : TA := fun σ H Q => ∃ F al S ρ, Good T K F al S H ∧ EnvOk T K F al σ ρ ∧ LQ T K E σ F al H (m ρ S) Q
def tB (E : WX) (m : Env → Sto → BRes) : TT := fun σ H Q => ∃ F al S ρ, Good T K F al S H ∧ EnvOk T K F al σ ρ ∧ BQ T K E σ F al H (m ρ S) Q
end
section
variable {T : Tab} {K : PySem.W.Frag} {E : WX} {σ : L2.St} {ρ : Env} {F F' : Hp} {al al' : List Addr} {H H' : Hp} {S S' : Sto}
theorem RQ.post {r : Res} {Q : VK} (p : Post F al H F' al' H') (h : RQ T K E σ F al H r Q) : RQ T K E σ F' al' H' r Q := by
  cases r with
  | ok w S' => exact fun v F2 al2 H2 q g r => h v F2 al2 H2 (p.trans q) g r
  | exc x S' => exact fun c d F2 al2 H2 q g r => h c d F2 al2 H2 (p.trans q) g r
  | bad => exact h
theorem LQ.post {r : LRes} {Q : List V → Hp → Prop} (p : Post F al H F' al' H') (h : LQ T K E σ F al H r Q) : LQ T K E σ F' al' H' r Q := by
  cases r with
  | ok w S' => exact fun v F2 al2 H2 q g r => h v F2 al2 H2 (p.trans q) g r
  | exc x S' => exact fun c d F2 al2 H2 q g r => h c d F2 al2 H2 (p.trans q) g r
  | bad => exact h
theorem BQ.post {r : BRes} {Q : Bool → Hp → Prop} (p : Post F al H F' al' H') (h : BQ T K E σ F al H r Q) : BQ T K E σ F' al' H' r Q := by
  cases r with
  | ok w S' => exact fun F2 al2 H2 q g => h F2 al2 H2 (p.trans q) g
  | exc x S' => exact fun c d F2 al2 H2 q g r => h c d F2 al2 H2 (p.trans q) g r
  | bad => exact h
theorem RQ.imp {r : Res} {Q Q' : VK} (h : RQ T K E σ F al H r Q) (i : ∀ v H, Q v H → Q' v H) : RQ T K E σ F al H r Q' := by
  cases r with
  | ok w S' => exact fun v F2 al2 H2 q g r => i _ _ (h v F2 al2 H2 q g r)
  | exc x S' => exact h
  | bad => exact h
theorem LQ.imp {r : LRes} {Q Q' : List V → Hp → Prop} (h : LQ T K E σ F al H r Q) (i : ∀ v H, Q v H → Q' v H) : LQ T K E σ F al H r Q' := by
  cases r with
  | ok w S' => exact fun v F2 al2 H2 q g r => i _ _ (h v F2 al2 H2 q g r)
  | exc x S' => exact h
  | bad => exact h
theorem BQ.imp {r : BRes} {Q Q' : Bool → Hp → Prop} (h : BQ T K E σ F al H r Q) (i : ∀ v H, Q v H → Q' v H) : BQ T K E σ F al H r Q' := by
  cases r with
  | ok w S' => exact fun F2 al2 H2 q g => i _ _ (h F2 al2 H2 q g)
  | exc x S' => exact h
  | bad => exact h
theorem tW.imp {m : Env → Sto → Res} {Q Q' : VK} (h : tW T K E m σ H Q) (i : ∀ v H, Q v H → Q' v H) : tW T K E m σ H Q' :=
  let ⟨F, al, S, ρ, g, e, q⟩ := h
  ⟨F, al, S, ρ, g, e, q.imp i⟩
theorem tL.imp {m : Env → Sto → LRes} {Q Q' : List V → Hp → Prop} (h : tL T K E m σ H Q) (i : ∀ v H, Q v H → Q' v H) : tL T K E m σ H Q' :=
  let ⟨F, al, S, ρ, g, e, q⟩ := h
  ⟨F, al, S, ρ, g, e, q.imp i⟩
theorem tB.imp {m : Env → Sto → BRes} {Q Q' : Bool → Hp → Prop} (h : tB T K E m σ H Q) (i : ∀ v H, Q v H → Q' v H) : tB T K E m σ H Q' :=
  let ⟨F, al, S, ρ, g, e, q⟩ := h
  ⟨F, al, S, ρ, g, e, q.imp i⟩
/-- behind the first part of a computation -/
structure Mid (T : Tab) (K : PySem.W.Frag) (F : Hp) (al : List Addr) (H : Hp) (σ : L2.St) (ρ : Env) (F1 : Hp) (al1 : List Addr) (S1 : Sto) (H1 : Hp) : Prop where
  g : Good T K F1 al1 S1 H1
  e : EnvOk T K F1 al1 σ ρ
  p : Post F al H F1 al1 H1
theorem tW.bind {m : Env → Sto → Res} {f : W → Sto → Res} {Q : VK} (g : Good T K F al S H) (e : EnvOk T K F al σ ρ) (h : RQ T K E σ F al H ((m ρ S).bind f) Q) :
    tW T K E m σ H fun v H1 => ∃ F1 al1 S1 w, Mid T K F al H σ ρ F1 al1 S1 H1 ∧ Rw T K F1 al1 v w ∧ RQ T K E σ F1 al1 H1 (f w S1) Q := by
  refine ⟨F, al, S, ρ, g, e, ?_⟩
  cases q : m ρ S with
  | ok w S1 =>
    rw [q] at h
    exact fun v F1 al1 H1 p g1 r => ⟨F1, al1, S1, w, ⟨g1, e.post p, p⟩, r, RQ.post p h⟩
  | exc x S1 => rw [q] at h; exact h
  | bad => rw [q] at h; exact h
theorem tW.bindL {m : Env → Sto → Res} {f : W → Sto → LRes} {Q : List V → Hp → Prop} (g : Good T K F al S H) (e : EnvOk T K F al σ ρ) (h : LQ T K E σ F al H ((m ρ S).bindL f) Q) :
    tW T K E m σ H fun v H1 => ∃ F1 al1 S1 w, Mid T K F al H σ ρ F1 al1 S1 H1 ∧ Rw T K F1 al1 v w ∧ LQ T K E σ F1 al1 H1 (f w S1) Q := by
  refine ⟨F, al, S, ρ, g, e, ?_⟩
  cases q : m ρ S with
  | ok w S1 =>
    rw [q] at h
    exact fun v F1 al1 H1 p g1 r => ⟨F1, al1, S1, w, ⟨g1, e.post p, p⟩, r, LQ.post p h⟩
  | exc x S1 => rw [q] at h; exact h
  | bad => rw [q] at h; exact h
theorem tW.bindB {m : Env → Sto → Res} {f : W → Sto → BRes} {Q : Bool → Hp → Prop} (g : Good T K F al S H) (e : EnvOk T K F al σ ρ) (h : BQ T K E σ F al H ((m ρ S).bindB f) Q) :
    tW T K E m σ H fun v H1 => ∃ F1 al1 S1 w, Mid T K F al H σ ρ F1 al1 S1 H1 ∧ Rw T K F1 al1 v w ∧ BQ T K E σ F1 al1 H1 (f w S1) Q := by
  refine ⟨F, al, S, ρ, g, e, ?_⟩
  cases q : m ρ S with
  | ok w S1 =>
    rw [q] at h
    exact fun v F1 al1 H1 p g1 r => ⟨F1, al1, S1, w, ⟨g1, e.post p, p⟩, r, BQ.post p h⟩
  | exc x S1 => rw [q] at h; exact h
  | bad => rw [q] at h; exact h
theorem tL.bind {m : Env → Sto → LRes} {f : List W → Sto → Res} {Q : VK} (g : Good T K F al S H) (e : EnvOk T K F al σ ρ) (h : RQ T K E σ F al H ((m ρ S).bind f) Q) :
    tL T K E m σ H fun v H1 => ∃ F1 al1 S1 w, Mid T K F al H σ ρ F1 al1 S1 H1 ∧ RwL T K F1 al1 v w ∧ RQ T K E σ F1 al1 H1 (f w S1) Q := by
  refine ⟨F, al, S, ρ, g, e, ?_⟩
  cases q : m ρ S with
  | ok w S1 =>
    rw [q] at h
    exact fun v F1 al1 H1 p g1 r => ⟨F1, al1, S1, w, ⟨g1, e.post p, p⟩, r, RQ.post p h⟩
  | exc x S1 => rw [q] at h; exact h
  | bad => rw [q] at h; exact h
theorem tL.bindL {m : Env → Sto → LRes} {f : List W → Sto → LRes} {Q : List V → Hp → Prop} (g : Good T K F al S H) (e : EnvOk T K F al σ ρ) (h : LQ T K E σ F al H ((m ρ S).bindL f) Q) :
    tL T K E m σ H fun v H1 => ∃ F1 al1 S1 w, Mid T K F al H σ ρ F1 al1 S1 H1 ∧ RwL T K F1 al1 v w ∧ LQ T K E σ F1 al1 H1 (f w S1) Q := by
  refine ⟨F, al, S, ρ, g, e, ?_⟩
  cases q : m ρ S with
  | ok w S1 =>
    rw [q] at h
    exact fun v F1 al1 H1 p g1 r => ⟨F1, al1, S1, w, ⟨g1, e.post p, p⟩, r, LQ.post p h⟩
  | exc x S1 => rw [q] at h; exact h
  | bad => rw [q] at h; exact h
theorem tB.bind {m : Env → Sto → BRes} {f : Bool → Sto → Res} {Q : VK} (g : Good T K F al S H) (e : EnvOk T K F al σ ρ) (h : RQ T K E σ F al H ((m ρ S).bind f) Q) :
    tB T K E m σ H fun b H1 => ∃ F1 al1 S1, Mid T K F al H σ ρ F1 al1 S1 H1 ∧ RQ T K E σ F1 al1 H1 (f b S1) Q := by
  refine ⟨F, al, S, ρ, g, e, ?_⟩
  cases q : m ρ S with
  | ok w S1 =>
    rw [q] at h
    exact fun F1 al1 H1 p g1 => ⟨F1, al1, S1, ⟨g1, e.post p, p⟩, RQ.post p h⟩
  | exc x S1 => rw [q] at h; exact h
  | bad => rw [q] at h; exact h
theorem tB.bindB {m : Env → Sto → BRes} {f : Bool → Sto → BRes} {Q : Bool → Hp → Prop} (g : Good T K F al S H) (e : EnvOk T K F al σ ρ) (h : BQ T K E σ F al H ((m ρ S).bindB f) Q) :
    tB T K E m σ H fun b H1 => ∃ F1 al1 S1, Mid T K F al H σ ρ F1 al1 S1 H1 ∧ BQ T K E σ F1 al1 H1 (f b S1) Q := by
  refine ⟨F, al, S, ρ, g, e, ?_⟩
  cases q : m ρ S with
  | ok w S1 =>
    rw [q] at h
    exact fun F1 al1 H1 p g1 => ⟨F1, al1, S1, ⟨g1, e.post p, p⟩, BQ.post p h⟩
  | exc x S1 => rw [q] at h; exact h
  | bad => rw [q] at h; exact h
/-- a value at once -/
theorem RQ.val {w : W} {v : V} {Q : VK} (h : RQ T K E σ F al H (.ok w S) Q) (g : Good T K F al S H) (r : Rw T K F al v w) : Q v H := h v F al H Post.refl g r
theorem RQ.valL {w : List W} {v : List V} {Q : List V → Hp → Prop} (h : LQ T K E σ F al H (.ok w S) Q) (g : Good T K F al S H) (r : RwL T K F al v w) : Q v H := h v F al H Post.refl g r
theorem RQ.new {xs : List V} {ws : List W} {Q : VK} (h : RQ T K E σ F al H (.ok (.tup ws) S) Q) (g : Good T K F al S H) (r : RwL T K F al xs ws) {p : Addr} (hp : H p = none) : Q (.ref p) (upd H p (.tup xs)) := by
  obtain ⟨a, b, c⟩ := g.newTup hp r
  exact h _ _ _ _ b a c
theorem RQ.newL {xs : List V} {ws : List W} {Q : VK} (h : RQ T K E σ F al H (.ok (.lst ws) S) Q) (g : Good T K F al S H) (r : RwL T K F al xs ws) {p : Addr} (hp : H p = none) : Q (.ref p) (upd H p (.lst xs)) := by
  obtain ⟨a, b, c⟩ := g.newLst hp r
  exact h _ _ _ _ b a c
theorem RQ.newC {xs : List V} {ws : List W} {Q : VK} (h : RQ T K E σ F al H (newCellR (.lst ws) S) Q) (g : Good T K F al S H) (r : RwL T K F al xs ws) {p : Addr} (hp : H p = none) : Q (.ref p) (upd H p (.lst xs)) := by
  obtain ⟨a, b, c⟩ := g.newCell hp (o := .lst xs) (c := .lst ws) ⟨xs, upd_same, g.notF hp, r.mono (Same.refl _) (Pre.app _ _)⟩
  exact h _ _ _ _ b a c
/-! ### how a value that may be changed looks now -/
inductive Vw (T : Tab) (K : PySem.W.Frag) (F : Hp) (al : List Addr) (H : Hp) : V → W → Prop
  | same {v : V} {w : W} : Rw T K F al v w → Vw T K F al H v w
  | cell {a : Addr} {xs : List V} {ws : List W} : H a = some (.lst xs) → RwL T K F al xs ws → Vw T K F al H (.ref a) (.lst ws)
theorem vw_of (g : Good T K F al S H) {v : V} {w : W} (r : Rw T K F al v w) : Vw T K F al H v (deref S w) := by
  cases r with
  | @loc a n ha =>
    cases q : S[n]? with
    | none => rw [show deref S (.loc n) = .loc n by simp only [deref, q]]; exact .same (.loc ha)
    | some c =>
      have hc := g.cell n a c ha q
      cases c with
      | lst ws => rw [show deref S (.loc n) = .lst ws by simp only [deref, q]]; obtain ⟨xs, h1, _, h3⟩ := hc; exact .cell h1 h3
      | frz w => rw [show deref S (.loc n) = w by simp only [deref, q]]; exact .same hc
      | _ => rw [show deref S (.loc n) = .loc n by simp only [deref, q]]; exact .same (.loc ha)
  | non => exact .same .non
  | bl b => exact .same (.bl b)
  | int b => exact .same (.int b)
  | str b => exact .same (.str b)
  | tup a b => exact .same (.tup a b)
  | lst a b => exact .same (.lst a b)
  | ins a b => exact .same (.ins a b)
  | tpx a d b => exact .same (.tup (.inl (.inr ⟨_, a⟩)) b)
  | opq a => exact .same (.opq a)
  | opx a b c => exact .same (.opx a b c)
  | lam a b => exact .same (.lam a b)
  | fn a => exact .same (.fn a)
theorem Vw.lst (s : Same F H) {v : V} {ws : List W} (r : Vw T K F al H v (.lst ws)) : ∃ a xs, v = .ref a ∧ SqL K H a xs ∧ RwL T K F al xs ws := by
  cases r with
  | same r => cases r with
    | lst q r => exact ⟨_, _, rfl, sqL_mono s q, r⟩
  | cell h r => exact ⟨_, _, rfl, SqL.of h, r⟩
theorem Vw.tup (s : Same F H) {v : V} {ws : List W} (r : Vw T K F al H v (.tup ws)) : ∃ a xs, v = .ref a ∧ SqT K H a xs ∧ RwL T K F al xs ws := by
  cases r with
  | same r => cases r with
    | tup q r => exact ⟨_, _, rfl, sqT_mono s q, r⟩
theorem Vw.int {v : V} {i : Int} (r : Vw T K F al H v (.int i)) : v = .int i := by
  cases r with
  | same r => cases r; rfl
theorem Vw.str {v : V} {i : Str} (r : Vw T K F al H v (.str i)) : v = .str i := by
  cases r with
  | same r => cases r; rfl
theorem Vw.bl {v : V} {i : Bool} (r : Vw T K F al H v (.bl i)) : v = .bl i := by
  cases r with
  | same r => cases r; rfl
theorem Vw.non {v : V} (r : Vw T K F al H v .non) : v = .non := by
  cases r with
  | same r => cases r; rfl
/-- of several values -/
def VwL (T : Tab) (K : PySem.W.Frag) (F : Hp) (al : List Addr) (H : Hp) : List V → List W → Prop := Paired (Vw T K F al H)
theorem vwL_of (g : Good T K F al S H) : ∀ {vs : List V} {ws : List W}, RwL T K F al vs ws → VwL T K F al H vs (ws.map (deref S))
  | _, _, .nil => .nil
  | _, _, .cons a b => .cons (vw_of g a) (vwL_of g b)
/-! ### plain data -/
mutual
def toP : W → PyData
  | .non => .none
  | .bl b => .bool b
  | .int i => .int i
  | .str s => .str s
  | .tup ws => .tuple (toPL ws)
  | .lst ws => .list (toPL ws)
  | .ins _ _ => .none
  | .loc _ => .none
  | .tpx _ => .none
  | .opq _ _ => .none
  | .lam => .none
  | .fn _ => .none
def toPL : List W → List PyData
  | [] => []
  | w :: ws => toP w :: toPL ws
end
mutual
theorem plain_eqv : ∀ (n m : Nat) (a b : W), W.plain n a = true → W.plain m b = true → PyData.eqv (toP a) (toP b) = W.eqv a b
  | _, _, .non, .non, _, _ => rfl
  | _, _, .non, .bl _, _, _ => rfl
  | _, _, .non, .int _, _, _ => rfl
  | _, _, .non, .str _, _, _ => rfl
  | _, _, .non, .tup _, _, _ => rfl
  | _, _, .non, .lst _, _, _ => rfl
  | _, _, .bl _, .non, _, _ => rfl
  | _, _, .bl _, .bl _, _, _ => rfl
  | _, _, .bl _, .int _, _, _ => rfl
  | _, _, .bl _, .str _, _, _ => rfl
  | _, _, .bl _, .tup _, _, _ => rfl
  | _, _, .bl _, .lst _, _, _ => rfl
  | _, _, .int _, .non, _, _ => rfl
  | _, _, .int _, .bl _, _, _ => rfl
  | _, _, .int _, .int _, _, _ => rfl
  | _, _, .int _, .str _, _, _ => rfl
  | _, _, .int _, .tup _, _, _ => rfl
  | _, _, .int _, .lst _, _, _ => rfl
  | _, _, .str _, .non, _, _ => rfl
  | _, _, .str _, .bl _, _, _ => rfl
  | _, _, .str _, .int _, _, _ => rfl
  | _, _, .str _, .str _, _, _ => rfl
  | _, _, .str _, .tup _, _, _ => rfl
  | _, _, .str _, .lst _, _, _ => rfl
  | _, _, .tup _, .non, _, _ => rfl
  | _, _, .tup _, .bl _, _, _ => rfl
  | _, _, .tup _, .int _, _, _ => rfl
  | _, _, .tup _, .str _, _, _ => rfl
  | n + 1, m + 1, .tup a, .tup b, h, k => plain_eqvL n m a b h k
  | _, _, .tup _, .lst _, _, _ => rfl
  | _, _, .lst _, .non, _, _ => rfl
  | _, _, .lst _, .bl _, _, _ => rfl
  | _, _, .lst _, .int _, _, _ => rfl
  | _, _, .lst _, .str _, _, _ => rfl
  | _, _, .lst _, .tup _, _, _ => rfl
  | n + 1, m + 1, .lst a, .lst b, h, k => plain_eqvL n m a b h k
theorem plain_eqvL : ∀ (n m : Nat) (a b : List W), W.plainL n a = true → W.plainL m b = true → PyData.eqvAll (toPL a) (toPL b) = W.eqvL a b
  | _, _, [], [], _, _ => rfl
  | _, _, [], _ :: _, _, _ => rfl
  | _, _, _ :: _, [], _, _ => rfl
  | n, m, a :: as, b :: bs, h, k => by
    rw [W.plainL, Bool.and_eq_true] at h k
    show (PyData.eqv (toP a) (toP b) && PyData.eqvAll (toPL as) (toPL bs)) = (W.eqv a b && W.eqvL as bs)
    rw [plain_eqv n m a b h.1 k.1, plain_eqvL n m as bs h.2 k.2]
end
mutual
theorem plain_lay : ∀ (n : Nat) (a : W), W.plain n a = true → (toP a).canLay0 = true ∧ (toP a).depth ≤ n
  | _, .non, _ => ⟨rfl, by simp [toP, PyData.depth]⟩
  | _, .bl _, _ => ⟨rfl, by simp [toP, PyData.depth]⟩
  | _, .int _, _ => ⟨rfl, by simp [toP, PyData.depth]⟩
  | n, .str s, h => ⟨by cases n <;> simpa [toP, PyData.canLay0, W.plain] using h, by simp [toP, PyData.depth]⟩
  | n + 1, .tup ws, h => by
    obtain ⟨a, b⟩ := plain_layL n ws h
    exact ⟨by simpa [toP, PyData.canLay0] using a, by simp only [toP, PyData.depth]; omega⟩
  | n + 1, .lst ws, h => by
    obtain ⟨a, b⟩ := plain_layL n ws h
    exact ⟨by simpa [toP, PyData.canLay0] using a, by simp only [toP, PyData.depth]; omega⟩
theorem plain_layL : ∀ (n : Nat) (a : List W), W.plainL n a = true → PyData.canLayAll0 (toPL a) = true ∧ PyData.depthAll (toPL a) ≤ n
  | _, [], _ => ⟨rfl, by simp [toPL, PyData.depthAll]⟩
  | n, a :: as, h => by
    rw [W.plainL, Bool.and_eq_true] at h
    obtain ⟨h1, h2⟩ := plain_lay n a h.1
    obtain ⟨h3, h4⟩ := plain_layL n as h.2
    refine ⟨?_, ?_⟩
    · simp only [toPL, PyData.canLayAll0, h1, h3, Bool.and_self]
    · simp only [toPL, PyData.depthAll]; omega
end
theorem plain_shaped {a : W} (h : W.plain 60 a = true) : SeqAt.shaped (toP a) = true := by
  obtain ⟨h1, h2⟩ := plain_lay 60 a h
  show ((toP a).canLay0 && decide ((toP a).depth ≤ 64)) = true
  rw [h1, decide_eq_true (by omega)]; rfl
mutual
theorem Rw.dp (s : Same F H) : ∀ (n : Nat) {v : V} {w : W}, Rw T K F al v w → W.plain n w = true → Dp K H v (toP w)
  | _, _, _, .non, _ => .non
  | _, _, _, .bl b, _ => .bl b
  | _, _, _, .int b, _ => .int b
  | _, _, _, .str b, _ => .str b
  | n + 1, _, _, .tup q r, h => .tup (sqT_mono s q) (RwL.dp s n r h)
  | n + 1, _, _, .lst q r, h => .lst (sqL_mono s q) (RwL.dp s n r h)
  | 0, _, _, .ins _ _, h => by simp [W.plain] at h
  | n + 1, _, _, .ins _ _, h => by simp [W.plain] at h
  | 0, _, _, .loc _, h => by simp [W.plain] at h
  | n + 1, _, _, .loc _, h => by simp [W.plain] at h
  | 0, _, _, .tpx _ _ _, h => by simp [W.plain] at h
  | n + 1, _, _, .tpx _ _ _, h => by simp [W.plain] at h
  | 0, _, _, .opq _, h => by simp [W.plain] at h
  | n + 1, _, _, .opq _, h => by simp [W.plain] at h
  | 0, _, _, .opx _ _ _, h => by simp [W.plain] at h
  | n + 1, _, _, .opx _ _ _, h => by simp [W.plain] at h
  | 0, _, _, .lam _ _, h => by simp [W.plain] at h
  | n + 1, _, _, .lam _ _, h => by simp [W.plain] at h
  | 0, _, _, .fn _, h => by simp [W.plain] at h
  | n + 1, _, _, .fn _, h => by simp [W.plain] at h
theorem RwL.dp (s : Same F H) : ∀ (n : Nat) {v : List V} {w : List W}, RwL T K F al v w → W.plainL n w = true → DpAll K H v (toPL w)
  | _, _, _, .nil, _ => .nil
  | n, _, _, .cons a b, h => by
    rw [W.plainL, Bool.and_eq_true] at h
    exact .cons (Rw.dp s n a h.1) (RwL.dp s n b h.2)
end
theorem Vw.dp (s : Same F H) {n : Nat} {v : V} {w : W} (r : Vw T K F al H v w) (h : W.plain n w = true) : Dp K H v (toP w) := by
  cases r with
  | same r => exact r.dp s n h
  | cell a r =>
    cases n with
    | zero => simp [W.plain] at h
    | succ n => exact .lst (.of a) (r.dp s n h)
end
end DL
set_option Elab.async false
set_option linter.all false
set_option maxRecDepth 100000
set_option maxHeartbeats 4000000
/-! Wd: operators and built-in functions over data. -/
namespace DL
open PySem PySem.Spec L2
theorem limit_eq : limit = sizeLine := by rw [sizeLine_eq]; rfl
/-! ### rules that lack -/
section
variable {X : Cx}
def rCatL (K : PySem.W.Frag) : R2 := fun x y H Q => ∃ l b xs zs, x = .ref l ∧ y = .ref b ∧ SqL K H l xs ∧ SqL K H b zs ∧ xs.length + zs.length ≤ sizeLine ∧ ∀ p, H p = none → Q (.ref p) (upd H p (.lst (xs ++ zs)))
theorem op_catL : OpR X (binaryOp .Add) (rCatL X.K) := by
  intro pins s σ H x y v u Q I rx ry h
  obtain ⟨l, b, xs, zs, rfl, rfl, hH, hB, hz, q⟩ := h
  cases rx
  cases ry
  obtain ⟨its, r, pl, _⟩ := I.list hH
  obtain ⟨its2, r2, pl2, _⟩ := I.list hB
  have hl := r.length
  have hl2 := r2.length
  obtain ⟨⟨cls, dd, data, sl⟩, ho, hc, n, hd⟩ := pl.isList
  obtain ⟨⟨cls2, dd2, data2, sl2⟩, ho2, hc2, n2, hd2⟩ := pl2.isList
  simp only at hc hd hc2 hd2
  subst hc hd hc2 hd2
  refine concat_meets ⟨_, ho, rfl⟩ ⟨_, ho2, rfl⟩ noFill_list_add seq_list_add PySem.F.slot_list_add PySem.F.entry_list_add (PySem.F.args_list_add_2 _ _) (PyProof.Rows.list_addW l b its.toArray its2.toArray n n2 dd dd2 sl sl2 (by rw [List.size_toArray, List.size_toArray]; omega)) ⟨ho, ho2, ?_⟩
  have ea : its.toArray ++ its2.toArray = (its ++ its2).toArray := by simp
  rw [ea]
  exact ⟨.ref _, _, I.lnew (t' := s.toks) (r.append r2) (by rw [List.length_append]; omega), rfl, q _ I.fresh⟩
theorem tuple_mul1 (l : Addr) (items : Array Value) (n : Nat) (dd : Option Addr) (sl : Array (Option Value)) (x : Int) (u : Tok) (c0 : (decide (x < -(2 ^ 63)) || decide (x ≥ 2 ^ 63)) = false) (c1 : (items.isEmpty || x == 1) = true) :
    Meets (Builtin.«tuple.__mul__» ⟨[.ref l, .int x u], []⟩) (fun _ R s => s.heap.get? l = some { cls := .type "tuple", dict := dd, data := .seq items n, slots := sl } ∧
      R (.ok (.ret (Value.ref l))) s) :=
  .of_wp fun prog w A R s h => by
    obtain ⟨hp, g, d, tk, os⟩ := s
    obtain ⟨hl, h⟩ := h
    have f1 := AutoSeq1.idx_int
    wp_walk using wpAny_loadPart' hl
    repeat (first
      | (refine wpAny_ite_false (decide_eq_false (by rw [c0]; exact Bool.false_ne_true)) ?_; wp_walk using wpAny_loadPart' hl)
      | (refine wpAny_ite_true (decide_eq_true (by rw [c1])) ?_; wp_walk using wpAny_loadPart' hl))
    exact ⟨_, rfl, h⟩
theorem tuple_mul0 (l : Addr) (items : Array Value) (n : Nat) (dd : Option Addr) (sl : Array (Option Value)) (x : Int) (u : Tok) (c0 : (decide (x < -(2 ^ 63)) || decide (x ≥ 2 ^ 63)) = false) (c1 : (items.isEmpty || x == 1) = false) (c2 : (decide (x ≤ 0) || items.isEmpty) = true) :
    Meets (Builtin.«tuple.__mul__» ⟨[.ref l, .int x u], []⟩) (fun _ R s => s.heap.get? l = some { cls := .type "tuple", dict := dd, data := .seq items n, slots := sl } ∧
      R (.ok (.ret (Value.ref s.heap.objs.size))) { s with heap := s.heap.push { cls := Value.type "tuple", data := Data.seq #[] }, toks := s.toks }) :=
  .of_wp fun prog w A R s h => by
    obtain ⟨hp, g, d, tk, os⟩ := s
    obtain ⟨hl, h⟩ := h
    have f1 := AutoSeq1.idx_int
    wp_walk using wpAny_loadPart' hl
    repeat (first
      | (refine wpAny_ite_false (decide_eq_false (by rw [c0]; exact Bool.false_ne_true)) ?_; wp_walk using wpAny_loadPart' hl)
      | (refine wpAny_ite_false (decide_eq_false (by rw [c1]; exact Bool.false_ne_true)) ?_; wp_walk using wpAny_loadPart' hl)
      | (refine wpAny_ite_true (decide_eq_true (by rw [c2])) ?_; wp_walk using wpAny_loadPart' hl))
    exact ⟨_, rfl, h⟩
def rRepA (K : PySem.W.Frag) : R2 := fun x y H Q => ∃ l k xs, x = .ref l ∧ y = .int k ∧ SqT K H l xs ∧ 0 ≤ k ∧ k ≤ 1000 ∧ xs.length ≤ 1000 ∧ ((xs = [] ∨ k = 1) → Q (.ref l) H) ∧
  (xs ≠ [] → k ≠ 1 → ∀ p, H p = none → Q (.ref p) (upd H p (.tup (List.replicate k.toNat xs).flatten)))
theorem op_repA : OpR X (binaryOp .Mult) (rRepA X.K) := by
  intro pins s σ H x y v u Q I rx ry h
  obtain ⟨l, k, xs, rfl, rfl, hT, h0, h2, hz, q1, q2⟩ := h
  by_cases h1 : 2 ≤ k ∧ xs ≠ []
  · exact op_repT pins s σ H _ _ v u Q I rx ry ⟨l, k, xs, rfl, rfl, hT, h1.2, h1.1, h2, hz, q2 h1.2 (by omega)⟩
  cases rx
  obtain ⟨t, rfl⟩ := ry
  obtain ⟨its, r, ⟨⟨cls, dd, data, sl⟩, ho, hc, n, hd⟩, hs⟩ := I.tuple hT
  simp only at hc hd
  subst hc hd
  have hle : its.length = xs.length := r.length.symm
  have c0 : (decide (k < -(2 ^ 63)) || decide (k ≥ 2 ^ 63)) = false := by
    rw [decide_eq_false (by omega), decide_eq_false (by omega)] <;> rfl
  by_cases hx : xs = [] ∨ k = 1
  · have c1 : (its.toArray.isEmpty || k == 1) = true := by
      rcases hx with e | e
      · subst e
        cases its with
        | nil => rfl
        | cons a b => simp at hle
      · subst e; simp
    refine wpAny_binaryOp_repeat_ref (T := "tuple") (U := "int") (by decide) ⟨_, ho, rfl⟩ (fun s' => typeIs_int s' k t) noFill_tuple_mul F.fills_int_mul F.slot_int_rmul repeat_tuple F.slot_int_index.lookup
      (call_meets F.slot_int_rmul (typeIs_int s k t) F.entry_int_rmul (F.args_int_rmul_2 _ _) (int_rmul_tuple k t l its.toArray n dd sl)
        ⟨ho, rfl, ⟨_, ho, rfl⟩, call_meets F.slot_tuple_mul ⟨_, ho, rfl⟩ F.entry_tuple_mul (F.args_tuple_mul_2 _ _) (tuple_mul1 l its.toArray n dd sl k t c0 c1) ⟨ho, ?_⟩⟩)
    exact ⟨.ref l, H, I, rfl, q1 hx⟩
  · have hx1 : xs ≠ [] := fun e => hx (.inl e)
    have hx2 : k ≠ 1 := fun e => hx (.inr e)
    have hk : k = 0 := by
      by_cases h3 : 2 ≤ k
      · exact absurd ⟨h3, hx1⟩ h1
      · omega
    subst hk
    have c1 : (its.toArray.isEmpty || (0 : Int) == 1) = false := by
      cases its with
      | nil => exact absurd (List.eq_nil_of_length_eq_zero hle.symm) hx1
      | cons a b => rfl
    refine wpAny_binaryOp_repeat_ref (T := "tuple") (U := "int") (by decide) ⟨_, ho, rfl⟩ (fun s' => typeIs_int s' 0 t) noFill_tuple_mul F.fills_int_mul F.slot_int_rmul repeat_tuple F.slot_int_index.lookup
      (call_meets F.slot_int_rmul (typeIs_int s 0 t) F.entry_int_rmul (F.args_int_rmul_2 _ _) (int_rmul_tuple 0 t l its.toArray n dd sl)
        ⟨ho, rfl, ⟨_, ho, rfl⟩, call_meets F.slot_tuple_mul ⟨_, ho, rfl⟩ F.entry_tuple_mul (F.args_tuple_mul_2 _ _) (tuple_mul0 l its.toArray n dd sl 0 t c0 c1 rfl) ⟨ho, ?_⟩⟩)
    refine ⟨.ref _, _, I.laid (t' := s.toks) (o := .tup []) (fun b o e => Heap.get?_push_of_some _ e) (Nat.le_refl _) ⟨Nat.zero_le _, [], .nil, ⟨_, Heap.get?_push_size _ rfl, rfl, 0, rfl⟩⟩, rfl, ?_⟩
    have := q2 hx1 hx2 _ I.fresh
    simpa using this
def rInT (K : PySem.W.Frag) : R2 := fun x y H Q => ∃ d ds, Dp K H x d ∧ Dp K H y (.tuple ds) ∧ SeqAt.shaped d = true ∧ SeqAt.shaped (.tuple ds) = true ∧ Q (.bl (ds.any fun z => PyData.eqv z d)) H
def rNotInT (K : PySem.W.Frag) : R2 := fun x y H Q => ∃ d ds, Dp K H x d ∧ Dp K H y (.tuple ds) ∧ SeqAt.shaped d = true ∧ SeqAt.shaped (.tuple ds) = true ∧ Q (.bl (!ds.any fun z => PyData.eqv z d)) H
theorem op_inT (hu : X.A.units + 65 < cLine) : OpR X (compareOp .In) (rInT X.K) := by
  intro pins s σ H x y v u Q I rx ry h
  obtain ⟨d, ds, hd, he, sd, se, q⟩ := h
  obtain ⟨as, r1⟩ := Dp.reads I d x v hd rx
  obtain ⟨bs, r2⟩ := Dp.reads I (.tuple ds) y u he ry
  exact SeqAt.in_tuple_reads r2 r1 (SeqAt.canLay_of_shaped se) (SeqAt.canLay_of_shaped sd) (PyProof.Rows.room_in_shaped sd hu) ⟨.bl _, H, I, rfl, q⟩
theorem op_notInT (hu : X.A.units + 65 < cLine) : OpR X (compareOp .NotIn) (rNotInT X.K) := by
  intro pins s σ H x y v u Q I rx ry h
  obtain ⟨d, ds, hd, he, sd, se, q⟩ := h
  obtain ⟨as, r1⟩ := Dp.reads I d x v hd rx
  obtain ⟨bs, r2⟩ := Dp.reads I (.tuple ds) y u he ry
  exact SeqAt.notIn_tuple_reads r2 r1 (SeqAt.canLay_of_shaped se) (SeqAt.canLay_of_shaped sd) (PyProof.Rows.room_in_shaped sd hu) ⟨.bl _, H, I, rfl, q⟩
end
/-! ### the operators, each with all its ways -/
def rNo : R2 := fun _ _ _ _ => False
theorem op_no {X : Cx} {f : Value → Value → Sem Value} : OpR X f rNo := fun _ _ _ _ _ _ _ _ _ _ _ _ h => h.elim
def rOr (a b : R2) : R2 := fun x y H Q => a x y H Q ∨ b x y H Q
def rBin (K : PySem.W.Frag) : Operator → R2
  | .Add => rOr (rI0 fun i j => .int (i + j)) (rOr (fun x y H Q => ∃ i j, x = .str i ∧ y = .str j ∧ i.length + j.length ≤ sizeLine ∧ Q (.str (i ++ j)) H) (rOr (rCatA K) (rCatL K)))
  | .Sub => rI0 fun i j => .int (i - j)
  | .Mult => rOr (rI CMul fun i j => .int (i * j)) (rRepA K)
  | .FloorDiv => rI CDivW fun i j => .int (i / j)
  | .Mod => rI (fun _ j => 0 < j) fun i j => .int (i % j)
  | .Pow => rI CPow fun i j => .int (i ^ j.toNat)
  | _ => rNo
theorem op_bin {X : Cx} (o : Operator) : OpR X (binaryOp o) (rBin X.K o) := by
  cases o with
  | Add => exact op_add.or (op_add_str.or (op_catA.or op_catL))
  | Sub => exact op_sub
  | Mult => exact op_mul.or op_repA
  | FloorDiv => exact op_fdivW
  | Mod => exact op_mod
  | Pow => exact op_pow
  | _ => exact op_no
section
variable {T : Tab} {K : PySem.W.Frag} {E : WX} {σ : L2.St} {ρ : Env} {F F' : Hp} {al al' : List Addr} {H H' : Hp} {S S' : Sto}
theorem flat_one {α : Type} (xs : List α) : (List.replicate (1 : Int).toNat xs).flatten = xs := by
  show (List.replicate 1 xs).flatten = xs
  simp
theorem flat_nil {α : Type} (k : Nat) : (List.replicate k ([] : List α)).flatten = [] := by
  induction k with
  | zero => rfl
  | succ k ih => rw [List.replicate_succ, List.flatten_cons, ih]; rfl
theorem divLim_ok {i j : Int} (h : 0 < j) (h2 : j < divLim) : CDivW i j := by
  refine wide_div (b := 300) h ?_ (by decide) (by decide)
  have h3 : divLim.toNat < 2 ^ 300 := by decide
  omega
theorem bin_sound {o : Operator} {x y : V} {a b : W} {Q : VK} (g : Good T K F al S H) (rx : Vw T K F al H x a) (ry : Vw T K F al H y b) (h : RQ T K E σ F al H (optR S (binop o a b)) Q) : rBin K o x y H Q := by
  cases e : binop o a b with
  | none => rw [e] at h; exact h.elim
  | some w =>
    rw [e] at h
    replace h : RQ T K E σ F al H (.ok w S) Q := h
    unfold binop at e
    split at e
    · cases e; cases rx.int; cases ry.int
      exact .inl ⟨_, _, rfl, rfl, h.val g (.int _)⟩
    · split at e
      · cases e; cases rx.str; cases ry.str
        rename_i hl
        exact .inr (.inl ⟨_, _, rfl, rfl, by rw [← limit_eq]; exact hl, h.val g (.str _)⟩)
      · cases e
    · split at e
      · cases e
        rename_i xs ys hl
        obtain ⟨p, us, rfl, hp, r1⟩ := rx.tup g.sub
        obtain ⟨q, vs, rfl, hq, r2⟩ := ry.tup g.sub
        refine .inr (.inr (.inl ⟨p, q, us, vs, rfl, rfl, hp, hq, by rw [← limit_eq, r1.length, r2.length]; exact hl, fun e => ?_, fun _ e => ?_, fun _ _ t ht => ?_⟩))
        · subst e
          have : xs = [] := by cases r1; rfl
          subst this
          refine h.val g ?_
          rw [List.nil_append]
          cases ry with
          | same r => exact r
        · subst e
          have : ys = [] := by cases r2; rfl
          subst this
          refine h.val g ?_
          rw [List.append_nil]
          cases rx with
          | same r => exact r
        · exact h.new g (r1.append r2) ht
      · cases e
    · split at e
      · cases e
        rename_i xs ys hl
        obtain ⟨p, us, rfl, hp, r1⟩ := rx.lst g.sub
        obtain ⟨q, vs, rfl, hq, r2⟩ := ry.lst g.sub
        exact .inr (.inr (.inr ⟨p, q, us, vs, rfl, rfl, hp, hq, by rw [← limit_eq, r1.length, r2.length]; exact hl, fun t ht => h.newL g (r1.append r2) ht⟩))
      · cases e
    · cases e; cases rx.int; cases ry.int
      exact ⟨_, _, rfl, rfl, h.val g (.int _)⟩
    · split at e
      · cases e; cases rx.int; cases ry.int
        rename_i hl
        refine .inl ⟨_, _, rfl, rfl, ?_, h.val g (.int _)⟩
        unfold mulOk at hl
        simpa [CMul] using hl
      · cases e
    · split at e
      · cases e; cases ry.int
        rename_i xs k hl
        obtain ⟨p, us, rfl, hp, r1⟩ := rx.tup g.sub
        simp only [Bool.and_eq_true, decide_eq_true_eq] at hl
        refine .inr ⟨p, _, us, rfl, rfl, hp, hl.1.1, hl.1.2, by rw [r1.length]; exact hl.2, fun e => ?_, fun _ _ t ht => h.new g (r1.rep _) ht⟩
        refine h.val g ?_
        rcases e with e | e
        · subst e
          have : xs = [] := by cases r1; rfl
          subst this
          rw [flat_nil]
          cases rx with
          | same r => exact r
        · subst e
          rw [flat_one]
          cases rx with
          | same r => exact r
      · cases e
    · split at e
      · cases e; cases rx.int; cases ry.int
        rename_i hl
        exact ⟨_, _, rfl, rfl, divLim_ok hl.1 hl.2, h.val g (.int _)⟩
      · cases e
    · split at e
      · cases e; cases rx.int; cases ry.int
        rename_i hl
        exact ⟨_, _, rfl, rfl, hl, h.val g (.int _)⟩
      · cases e
    · split at e
      · cases e; cases rx.int; cases ry.int
        rename_i hl
        exact ⟨_, _, rfl, rfl, hl, h.val g (.int _)⟩
      · cases e
    · cases e
def rIsN : R2 := fun x y H Q => y = .non ∧ Q (.bl (decide (x = .non))) H
def rNotN : R2 := fun x y H Q => y = .non ∧ Q (.bl (!decide (x = .non))) H
def rCmp (K : PySem.W.Frag) : CmpOp → R2
  | .Eq => rEqD K
  | .NotEq => rNeD K
  | .Lt => rI0 fun i j => .bl (decide (i < j))
  | .LtE => rI0 fun i j => .bl (decide (i ≤ j))
  | .Gt => rI0 fun i j => .bl (decide (j < i))
  | .GtE => rI0 fun i j => .bl (decide (j ≤ i))
  | .Is => rOr DL.rIsN rIsB
  | .IsNot => rOr DL.rNotN rNotB
  | .In => rOr (rInT K) (rInD K)
  | .NotIn => rOr (rNotInT K) (rNotInD K)
theorem op_cmp {X : Cx} {k : Nat} (hr : Room k X.A) (o : CmpOp) : OpR X (compareOp o) (rCmp X.K o) := by
  have hu : X.A.units + 65 < cLine := by have := hr.un; omega
  cases o with
  | Eq => exact op_eqD (by omega)
  | NotEq => exact op_neD (by omega)
  | Lt => exact op_lt
  | LtE => exact op_le
  | Gt => exact op_gt
  | GtE => exact op_ge
  | Is => exact op_isN.or op_isBl
  | IsNot => exact op_notN.or op_notBl
  | In => exact (op_inT hu).or (op_inD hu)
  | NotIn => exact (op_notInT hu).or (op_notInD hu)
theorem anyL : ∀ (n m : Nat) (ys : List W) (x : W), W.plainL n ys = true → W.plain m x = true → ((toPL ys).any fun z => PyData.eqv z (toP x)) = ys.any fun y => W.eqv y x
  | _, _, [], _, _, _ => rfl
  | n, m, y :: ys, x, h, k => by
    rw [W.plainL, Bool.and_eq_true] at h
    show (PyData.eqv (toP y) (toP x) || (toPL ys).any fun z => PyData.eqv z (toP x)) = (W.eqv y x || ys.any fun y => W.eqv y x)
    rw [plain_eqv n m y x h.1 k, anyL n m ys x h.2 k]
theorem shapedL {ws : List W} (h : W.plainL 60 ws = true) : SeqAt.shaped (.tuple (toPL ws)) = true ∧ SeqAt.shaped (.list (toPL ws)) = true := by
  obtain ⟨h1, h2⟩ := plain_layL 60 ws h
  have d1 : (PyData.tuple (toPL ws)).depth ≤ 64 := by simp only [PyData.depth]; omega
  have d2 : (PyData.list (toPL ws)).depth ≤ 64 := by simp only [PyData.depth]; omega
  have c1 : (PyData.tuple (toPL ws)).canLay0 = true := by simpa only [PyData.canLay0] using h1
  have c2 : (PyData.list (toPL ws)).canLay0 = true := by simpa only [PyData.canLay0] using h1
  refine ⟨?_, ?_⟩
  · show ((PyData.tuple (toPL ws)).canLay0 && decide ((PyData.tuple (toPL ws)).depth ≤ 64)) = true
    rw [c1, decide_eq_true d1]; rfl
  · show ((PyData.list (toPL ws)).canLay0 && decide ((PyData.list (toPL ws)).depth ≤ 64)) = true
    rw [c2, decide_eq_true d2]; rfl
theorem cmpEq_some {a b : W} {k : Bool} (h : cmpEq a b = some k) : W.plain 60 a = true ∧ W.plain 60 b = true ∧ k = W.eqv a b := by
  unfold cmpEq at h
  split at h
  · rename_i hp
    rw [Bool.and_eq_true] at hp
    cases h
    exact ⟨hp.1, hp.2, rfl⟩
  · cases h
theorem memW_some {a : W} {ys : List W} {k : Bool} (h : memW a ys = some k) : W.plain 60 a = true ∧ W.plainL 60 ys = true ∧ k = ys.any fun y => W.eqv y a := by
  unfold memW at h
  split at h
  · rename_i hp
    rw [Bool.and_eq_true] at hp
    cases h
    exact ⟨hp.1, hp.2, rfl⟩
  · cases h
theorem cmp_sound {o : CmpOp} {x y : V} {a b : W} {k : Bool} {Q : VK} (g : Good T K F al S H) (rx : Vw T K F al H x a) (ry : Vw T K F al H y b) (e : cmpop o a b = some k) (h : Q (.bl k) H) : rCmp K o x y H Q := by
  have nref : ∀ p : Addr, decide (V.ref p = V.non) = false := fun p => decide_eq_false (fun z => nomatch z)
  unfold cmpop at e
  split at e
  · obtain ⟨h1, h2, rfl⟩ := cmpEq_some e
    exact ⟨_, _, rx.dp g.sub h1, ry.dp g.sub h2, plain_shaped h1, plain_shaped h2, by rw [plain_eqv 60 60 a b h1 h2]; exact h⟩
  · rw [Option.map_eq_some_iff] at e
    obtain ⟨k2, e, rfl⟩ := e
    obtain ⟨h1, h2, rfl⟩ := cmpEq_some e
    exact ⟨_, _, rx.dp g.sub h1, ry.dp g.sub h2, plain_shaped h1, plain_shaped h2, by rw [plain_eqv 60 60 a b h1 h2]; exact h⟩
  · cases e; cases rx.int; cases ry.int; exact ⟨_, _, rfl, rfl, h⟩
  · cases e; cases rx.int; cases ry.int; exact ⟨_, _, rfl, rfl, h⟩
  · cases e; cases rx.int; cases ry.int; exact ⟨_, _, rfl, rfl, h⟩
  · cases e; cases rx.int; cases ry.int; exact ⟨_, _, rfl, rfl, h⟩
  · cases e; cases rx.non; cases ry.non; exact .inl ⟨rfl, h⟩
  · cases e; cases rx.bl; cases ry.non; exact .inl ⟨rfl, h⟩
  · cases e; cases rx.int; cases ry.non; exact .inl ⟨rfl, h⟩
  · cases e; cases rx.str; cases ry.non; exact .inl ⟨rfl, h⟩
  · cases e; obtain ⟨p, us, rfl, _⟩ := rx.tup g.sub; cases ry.non; exact .inl ⟨rfl, by rw [nref]; exact h⟩
  · cases e; obtain ⟨p, us, rfl, _⟩ := rx.lst g.sub; cases ry.non; exact .inl ⟨rfl, by rw [nref]; exact h⟩
  · cases e; cases rx.non; cases ry.non; exact .inl ⟨rfl, h⟩
  · cases e; cases rx.bl; cases ry.non; exact .inl ⟨rfl, h⟩
  · cases e; cases rx.int; cases ry.non; exact .inl ⟨rfl, h⟩
  · cases e; cases rx.str; cases ry.non; exact .inl ⟨rfl, h⟩
  · cases e; obtain ⟨p, us, rfl, _⟩ := rx.tup g.sub; cases ry.non; exact .inl ⟨rfl, by rw [nref]; exact h⟩
  · cases e; obtain ⟨p, us, rfl, _⟩ := rx.lst g.sub; cases ry.non; exact .inl ⟨rfl, by rw [nref]; exact h⟩
  · cases e; cases rx.bl; cases ry.bl
    rename_i a b
    exact .inr ⟨_, _, rfl, rfl, by rw [show decide (a = b) = (a == b) by cases a <;> cases b <;> rfl]; exact h⟩
  · cases e; cases rx.bl; cases ry.bl
    rename_i a b
    exact .inr ⟨_, _, rfl, rfl, by rw [show decide (a = b) = (a == b) by cases a <;> cases b <;> rfl]; exact h⟩
  · obtain ⟨h1, h2, rfl⟩ := memW_some e
    exact .inl ⟨_, _, rx.dp g.sub h1, ry.dp g.sub (n := 61) h2, plain_shaped h1, (shapedL h2).1, by rw [anyL 60 60 _ _ h2 h1]; exact h⟩
  · obtain ⟨h1, h2, rfl⟩ := memW_some e
    exact .inr ⟨_, _, rx.dp g.sub h1, ry.dp g.sub (n := 61) h2, plain_shaped h1, (shapedL h2).2, by rw [anyL 60 60 _ _ h2 h1]; exact h⟩
  · rw [Option.map_eq_some_iff] at e
    obtain ⟨k2, e, rfl⟩ := e
    obtain ⟨h1, h2, rfl⟩ := memW_some e
    exact .inl ⟨_, _, rx.dp g.sub h1, ry.dp g.sub (n := 61) h2, plain_shaped h1, (shapedL h2).1, by rw [anyL 60 60 _ _ h2 h1]; exact h⟩
  · rw [Option.map_eq_some_iff] at e
    obtain ⟨k2, e, rfl⟩ := e
    obtain ⟨h1, h2, rfl⟩ := memW_some e
    exact .inr ⟨_, _, rx.dp g.sub h1, ry.dp g.sub (n := 61) h2, plain_shaped h1, (shapedL h2).2, by rw [anyL 60 60 _ _ h2 h1]; exact h⟩
  · cases e
end
end DL
set_option Elab.async false
set_option linter.all false
set_option maxRecDepth 100000
set_option maxHeartbeats 4000000
/-! Wz: for .. in zip(a, b, strict=True), a and b lists or tuples, both of one length; the same without strict where one is a list and one a tuple. -/
namespace DL
open PySem PySem.Spec L2
/-- a list (false) or a tuple (true) at a -/
def SeqIs : Bool → Heap → Addr → Array Value → Prop
  | false, h, a, its => h.IsList a its
  | true, h, a, its => h.IsTuple a its
def IterIs : Bool → Heap → Addr → Addr → Nat → Prop
  | false, h, i, a, k => h.IsListIter i a k
  | true, h, i, a, k => h.IsTupleIter i a k
def iterObj : Bool → Addr → Obj
  | false, a => { cls := .type "list_iterator", data := .fields #[.ref a, .int 0 0] }
  | true, a => { cls := .type "tuple_iterator", data := .fields #[.ref a, .int 0 0] }
abbrev IsZipB (b : Bool) (h : Heap) (z TI TO : Addr) (f0 : Value) : Prop :=
  h.get? z = some { cls := .type "zip", dict := none, data := .fields #[f0, .bool false, .bool b, .ref TI, .ref TO], slots := #[] }
theorem SeqIs.at {t : Bool} {h h' : Heap} {a : Addr} {its : Array Value} (x : SeqIs t h a its) (k : ∀ o, h.get? a = some o → h'.get? a = some o) : SeqIs t h' a its := by
  cases t with
  | false => exact Heap.IsList.at x k
  | true => obtain ⟨o, e, r⟩ := x; exact ⟨o, k o e, r⟩
theorem SeqIs.ext {t : Bool} {h h' : Heap} {a b : Addr} {its : Array Value} (x : SeqIs t h a its) (k : Heap.ExtBut b h h') (n : a ≠ b) : SeqIs t h' a its := x.at fun o e => k a o n e
theorem IterIs.at {t : Bool} {h h' : Heap} {i a : Addr} {n : Nat} (x : IterIs t h i a n) (k : ∀ o, h.get? i = some o → h'.get? i = some o) : IterIs t h' i a n := by
  cases t with
  | false => exact Heap.IsListIter.at x k
  | true => exact Heap.IsTupleIter.at x k
theorem IterIs.ext {t : Bool} {h h' : Heap} {i a b : Addr} {n : Nat} (x : IterIs t h i a n) (k : Heap.ExtBut b h h') (q : i ≠ b) : IterIs t h' i a n := x.at fun o e => k i o q e
theorem IterIs.obj {t : Bool} {h : Heap} {i a : Addr} {n : Nat} (x : IterIs t h i a n) : ∃ o, h.get? i = some o ∧ ∀ v, o.data ≠ .cell v := by
  cases t with
  | false => obtain ⟨o, e, _, d⟩ := x; exact ⟨o, e, fun v q => by rw [d] at q; cases q⟩
  | true => obtain ⟨o, e, _, d⟩ := x; exact ⟨o, e, fun v q => by rw [d] at q; cases q⟩
theorem IterIs.new {t : Bool} {h : Heap} {i a : Addr} (e : h.get? i = some (iterObj t a)) : IterIs t h i a 0 := by
  cases t with
  | false => exact ⟨_, e, rfl, rfl⟩
  | true => exact ⟨_, e, rfl, rfl⟩
section
variable {prog : Program} {w : World} {A : Around} {E : Value → Shared → Prop} {s : Shared}
theorem nextOf_item {t : Bool} {it l : Addr} {i : Nat} {items : Array Value} {x : Value} {Q : Value → Shared → Prop} (hit : IterIs t s.heap it l i) (hl : SeqIs t s.heap l items) (hx : items[i]? = some x)
    (hQ : ∀ h', IterIs t h' it l (i + 1) → Heap.SameBut it s.heap h' → Q x { s with heap := h' }) : wpAny (model prog w) A (Builtin.SmallTypes.nextOf (.ref it)) Q E s := by
  cases t with
  | false => exact wpAny_nextOf_list_item hit hl hx hQ
  | true => exact wpAny_nextOf_tuple_item hit hl hx hQ
theorem nextOf_end {t : Bool} {it l : Addr} {i : Nat} {items : Array Value} {Q : Value → Shared → Prop} (hh : A.handled = none) (hit : IterIs t s.heap it l i) (hl : SeqIs t s.heap l items) (hx : items[i]? = none)
    (hE : ∀ h' e, Heap.ExtBut it s.heap h' → (∃ o, h'.get? e = some o ∧ o.cls = .type "StopIteration") → E (.ref e) { s with heap := h' }) : wpAny (model prog w) A (Builtin.SmallTypes.nextOf (.ref it)) Q E s := by
  cases t with
  | false => exact wpAny_nextOf_list_end hh hit hl hx hE
  | true => exact wpAny_nextOf_tuple_end hh hit hl hx hE
theorem nextOrEnd_item {t : Bool} {it l : Addr} {i : Nat} {items : Array Value} {x : Value} {Q : Option Value → Shared → Prop} (hit : IterIs t s.heap it l i) (hl : SeqIs t s.heap l items) (hx : items[i]? = some x)
    (hQ : ∀ h', IterIs t h' it l (i + 1) → Heap.SameBut it s.heap h' → Q (some x) { s with heap := h' }) : wpAny (model prog w) A (Builtin.SmallTypes.nextOrEnd (.ref it)) Q E s := by
  unfold Builtin.SmallTypes.nextOrEnd
  exact wpAny_bind (wpAny_attempt (nextOf_item hit hl hx fun h' a b => wpAny_pure (hQ h' a b)))
theorem nextOrEnd_end {t : Bool} {it l : Addr} {i : Nat} {items : Array Value} {Q : Option Value → Shared → Prop} (hh : A.handled = none) (hit : IterIs t s.heap it l i) (hl : SeqIs t s.heap l items) (hx : items[i]? = none)
    (hQ : ∀ h', Heap.ExtBut it s.heap h' → Q none { s with heap := h' }) : wpAny (model prog w) A (Builtin.SmallTypes.nextOrEnd (.ref it)) Q E s := by
  unfold Builtin.SmallTypes.nextOrEnd
  refine wpAny_bind (wpAny_attempt (nextOf_end hh hit hl hx fun h' e a b => ?_))
  obtain ⟨o, ho, hc⟩ := b
  exact wpAny_bind (wpAny_isInstance (T := "StopIteration") (b := true) ⟨o, ho, hc⟩ isSubtype_stop (wpAny_pure (hQ _ a)))
theorem zipS_item {z TI TO i1 i2 l1 l2 : Addr} {t1 t2 : Bool} {k1 k2 : Nat} {xs ys : Array Value} {x y a b : Value} {Q : Value → Shared → Prop} (D : ZipApart z TI TO i1 i2 l1 l2)
    (hz : IsZipB true s.heap z TI TO .none) (hTI : IsPair s.heap TI (.ref i1) (.ref i2)) (hTO : IsPair s.heap TO a b)
    (h1 : IterIs t1 s.heap i1 l1 k1) (h2 : IterIs t2 s.heap i2 l2 k2) (hl1 : SeqIs t1 s.heap l1 xs) (hl2 : SeqIs t2 s.heap l2 ys) (hx : xs[k1]? = some x) (hy : ys[k2]? = some y)
    (hQ : ∀ h', IsZipB true h' z TI TO (rawInt s.heap.objs.size) → IsPair h' TO x y → IterIs t1 h' i1 l1 (k1 + 1) → IterIs t2 h' i2 l2 (k2 + 1) → IsPair h' s.heap.objs.size x y → h'.objs.size = s.heap.objs.size + 1 →
      (∀ c o, c ≠ z → c ≠ TO → c ≠ i1 → c ≠ i2 → s.heap.get? c = some o → h'.get? c = some o) → Q (.ref s.heap.objs.size) { s with heap := h' }) :
    wpAny (model prog w) A (Builtin.«zip.__next__» ⟨[.ref z], []⟩) (fun fin s' => ∃ v, fin = .done (.ret v) ∧ Q v s') E s := by
  show wpAny _ _ (field (.ref z) 2 >>= _) _ _ _
  refine wpAny_bind (wpAny_field hz rfl (x := .bool true) rfl ?_)
  show wpAny _ _ (field (.ref z) 3 >>= _) _ _ _
  refine wpAny_bind (wpAny_field hz rfl (x := .ref TI) rfl ?_)
  refine wpAny_bind (wpAny_seqItems hTI rfl ?_)
  show wpAny _ _ (Builtin.SmallTypes.ownedTupleIsFree (.ref z) >>= _) _ _ _
  refine wpAny_bind ?_
  unfold Builtin.SmallTypes.ownedTupleIsFree
  refine wpAny_bind (wpAny_field hz rfl (x := .none) rfl (wpAny_pure ?_))
  simp only [if_true]
  refine wpAny_bind (wpAny_rule ?_)
  refine wpAny_bind (wpAny_field hz rfl (x := .ref TO) rfl ?_)
  refine wpAny_bind (wpAny_setField_rec hz (by simp) fun h₁ hz₁ hs₁ => ?_)
  replace hz₁ : IsZipB true h₁ z TI TO .ellipsis := hz₁
  refine wpAny_bind ?_
  simp only [List.zipIdx_cons, List.zipIdx_nil, List.forIn_cons, List.forIn_nil]
  refine wpAny_bind (wpAny_bind (wpAny_onRaise ?_))
  show wpAny _ _ (Builtin.SmallTypes.nextOrEnd (.ref i1)) _ _ _
  refine nextOrEnd_item (h1.ext hs₁.extBut D.i1z) (hl1.ext hs₁.extBut D.l1z) hx fun h₂ h1₂ hs₂ => ?_
  have hTO₂ : IsPair h₂ TO a b := hs₂.extBut _ _ D.TOi1 (hs₁.extBut _ _ D.TOz hTO)
  refine wpAny_bind (wpAny_seqItems hTO₂ rfl ?_)
  refine wpAny_bind (wpAny_updateSeq_pair hTO₂ fun h₃ hTO₃ hs₃ => ?_)
  replace hTO₃ : IsPair h₃ TO x b := hTO₃
  refine wpAny_bind (wpAny_letGo (wpAny_pure ?_))
  refine wpAny_bind (wpAny_bind (wpAny_onRaise ?_))
  show wpAny _ _ (Builtin.SmallTypes.nextOrEnd (.ref i2)) _ _ _
  refine nextOrEnd_item (((h2.ext hs₁.extBut D.i2z).ext hs₂.extBut D.i12.symm).ext hs₃.extBut D.TOi2.symm)
    (((hl2.ext hs₁.extBut D.l2z).ext hs₂.extBut D.l2i1).ext hs₃.extBut D.l2TO) hy fun h₄ h2₄ hs₄ => ?_
  have hTO₄ : IsPair h₄ TO x b := hs₄.extBut _ _ D.TOi2 hTO₃
  refine wpAny_bind (wpAny_seqItems hTO₄ rfl ?_)
  refine wpAny_bind (wpAny_updateSeq_pair hTO₄ fun h₅ hTO₅ hs₅ => ?_)
  replace hTO₅ : IsPair h₅ TO x y := hTO₅
  refine wpAny_bind (wpAny_letGo (wpAny_pure (wpAny_pure ?_)))
  refine wpAny_bind (wpAny_seqItems hTO₅ rfl ?_)
  refine wpAny_bind (wpAny_newTuple ?_)
  have hsz : h₅.objs.size = s.heap.objs.size := by rw [hs₅.1, hs₄.1, hs₃.1, hs₂.1, hs₁.1]
  have hz₅ : IsZipB true h₅ z TI TO .ellipsis := hs₅.extBut _ _ D.TOz.symm (hs₄.extBut _ _ D.i2z.symm (hs₃.extBut _ _ D.TOz.symm (hs₂.extBut _ _ D.i1z.symm hz₁)))
  have hk₅ : ∀ c o, c ≠ z → c ≠ TO → c ≠ i1 → c ≠ i2 → s.heap.get? c = some o → h₅.get? c = some o := fun c o c1 c2 c3 c4 e =>
    hs₅.extBut _ _ c2 (hs₄.extBut _ _ c4 (hs₃.extBut _ _ c2 (hs₂.extBut _ _ c3 (hs₁.extBut _ _ c1 e))))
  have h1₅ : IterIs t1 h₅ i1 l1 (k1 + 1) := ((h1₂.ext hs₃.extBut D.TOi1.symm).ext hs₄.extBut D.i12).ext hs₅.extBut D.TOi1.symm
  have h2₅ : IterIs t2 h₅ i2 l2 (k2 + 1) := h2₄.ext hs₅.extBut D.TOi2.symm
  have hzlt : z < h₅.objs.size := Heap.lt_size hz₅
  show wpAny _ _ (Builtin.SmallTypes.ownedTupleHandOut (.ref z) (.ref h₅.objs.size) >>= _) _ _ _
  refine wpAny_bind ?_
  unfold Builtin.SmallTypes.ownedTupleHandOut
  have hz₆ : IsZipB true (h₅.push { cls := .type "tuple", data := .seq #[x, y] }) z TI TO .ellipsis := Heap.get?_push_of_some _ hz₅
  refine wpAny_bind (wpAny_setField_rec hz₆ (by simp) fun h₇ hz₇ hs₇ => ?_)
  replace hz₇ : IsZipB true h₇ z TI TO (rawInt h₅.objs.size) := hz₇
  refine wpAny_setField_rec hz₇ (by simp) fun h₈ hz₈ hs₈ => ?_
  replace hz₈ : IsZipB true h₈ z TI TO (rawInt h₅.objs.size) := hz₈
  have up : ∀ c o, c ≠ z → h₅.get? c = some o → h₈.get? c = some o := fun c o c1 e => hs₈.extBut _ _ c1 (hs₇.extBut _ _ c1 (Heap.get?_push_of_some _ e))
  have hT₈ : IsPair h₈ h₅.objs.size x y := hs₈.extBut _ _ (Nat.ne_of_gt hzlt) (hs₇.extBut _ _ (Nat.ne_of_gt hzlt) (Heap.get?_push_size _ rfl))
  have hz8 : h₈.objs.size = h₅.objs.size + 1 := by rw [hs₈.1, hs₇.1, Heap.size_push]
  rw [hsz] at hz₈ hT₈ hz8
  refine wpAny_pure ⟨_, rfl, ?_⟩
  show Q (.ref h₅.objs.size) _
  rw [hsz]
  exact hQ h₈ hz₈ (up _ _ D.TOz hTO₅) (h1₅.at fun o e => up _ o D.i1z e) (h2₅.at fun o e => up _ o D.i2z e) hT₈ hz8 fun c o c1 c2 c3 c4 e => up c o c1 (hk₅ c o c1 c2 c3 c4 e)
theorem zipS_end {z TI TO i1 i2 l1 l2 : Addr} {t1 t2 : Bool} {k1 k2 : Nat} {xs ys : Array Value} {a b : Value} {Q : PySem.Fin → Shared → Prop} (hh : A.handled = none) (D : ZipApart z TI TO i1 i2 l1 l2)
    (hz : IsZipB true s.heap z TI TO .none) (hTI : IsPair s.heap TI (.ref i1) (.ref i2)) (hTO : IsPair s.heap TO a b)
    (h1 : IterIs t1 s.heap i1 l1 k1) (h2 : IterIs t2 s.heap i2 l2 k2) (hl1 : SeqIs t1 s.heap l1 xs) (hl2 : SeqIs t2 s.heap l2 ys) (hx : xs[k1]? = none) (hy : ys[k2]? = none)
    (hE : ∀ h' e, (∀ c o, c ≠ z → c ≠ TO → c ≠ i1 → c ≠ i2 → s.heap.get? c = some o → h'.get? c = some o) → (∃ o, h'.get? e = some o ∧ o.cls = .type "StopIteration") → E (.ref e) { s with heap := h' }) :
    wpAny (model prog w) A (Builtin.«zip.__next__» ⟨[.ref z], []⟩) Q E s := by
  show wpAny _ _ (field (.ref z) 2 >>= _) _ _ _
  refine wpAny_bind (wpAny_field hz rfl (x := .bool true) rfl ?_)
  show wpAny _ _ (field (.ref z) 3 >>= _) _ _ _
  refine wpAny_bind (wpAny_field hz rfl (x := .ref TI) rfl ?_)
  refine wpAny_bind (wpAny_seqItems hTI rfl ?_)
  show wpAny _ _ (Builtin.SmallTypes.ownedTupleIsFree (.ref z) >>= _) _ _ _
  refine wpAny_bind ?_
  unfold Builtin.SmallTypes.ownedTupleIsFree
  refine wpAny_bind (wpAny_field hz rfl (x := .none) rfl (wpAny_pure ?_))
  simp only [if_true]
  refine wpAny_bind (wpAny_rule ?_)
  refine wpAny_bind (wpAny_field hz rfl (x := .ref TO) rfl ?_)
  refine wpAny_bind (wpAny_setField_rec hz (by simp) fun h₁ hz₁ hs₁ => ?_)
  replace hz₁ : IsZipB true h₁ z TI TO .ellipsis := hz₁
  refine wpAny_bind ?_
  simp only [List.zipIdx_cons, List.zipIdx_nil, List.forIn_cons, List.forIn_nil]
  refine wpAny_bind (wpAny_bind (wpAny_onRaise ?_))
  show wpAny _ _ (Builtin.SmallTypes.nextOrEnd (.ref i1)) _ _ _
  refine nextOrEnd_end hh (h1.ext hs₁.extBut D.i1z) (hl1.ext hs₁.extBut D.l1z) hx fun h₂ hs₂ => ?_
  have hz₂ : IsZipB true h₂ z TI TO .ellipsis := hs₂ _ _ D.i1z.symm hz₁
  refine wpAny_bind (wpAny_setField_rec hz₂ (by simp) fun h₃ hz₃ hs₃ => ?_)
  have e2 : IterIs t2 h₃ i2 l2 k2 := ((h2.ext hs₁.extBut D.i2z).at fun o e => hs₂ i2 o D.i12.symm e).ext hs₃.extBut D.i2z
  have e3 : SeqIs t2 h₃ l2 ys := ((hl2.ext hs₁.extBut D.l2z).at fun o e => hs₂ l2 o D.l2i1 e).ext hs₃.extBut D.l2z
  refine wpAny_bind ?_
  refine wpAny_ite_false (a := Builtin.SmallTypes.stopIteration) (c := 0 > 0) (decide_eq_false (by decide)) ?_
  rw [if_neg (Nat.lt_irrefl 0)]
  simp only [List.drop_succ_cons, List.drop_zero, List.zipIdx_cons, List.zipIdx_nil, List.forIn_cons, List.forIn_nil]
  refine wpAny_bind (wpAny_bind (wpAny_bind (nextOrEnd_end hh e2 e3 hy fun h₄ hs₄ => ?_)))
  simp only [Option.isSome_none, Bool.false_eq_true, if_false]
  refine wpAny_pure (wpAny_pure (wpAny_bind (wpAny_rule ?_)))
  show wpAny _ _ (newExc (.type "StopIteration") [] >>= _) _ _ _
  refine wpAny_bind ?_
  simp only [newExc, newTuple]
  refine wpAny_bind (wpAny_newObj_type ?_ (by size_fits))
  refine wpAny_bind (m := firstArgMember _ _) (wpAny_of_eq (a := Value.none) (by first | rfl | (simp only [firstArgMember]; rfl)) ?_)
  refine wpAny_newObj_type ?_ (by size_fits)
  simp only [raiseNew]
  refine wpAny_bind (wpAny_handled ?_)
  first | rw [show A.in1.handled = none from hh] | rw [hh]
  refine wpAny_bind (wpAny_pure (wpAny_throw ?_))
  exact hE _ _ (fun c o c1 c2 c3 c4 x => Heap.get?_push_of_some _ (Heap.get?_push_of_some _ (hs₄ _ _ c4 (hs₃.extBut _ _ c1 (hs₂ _ _ c3 (hs₁.extBut _ _ c1 x)))))) ⟨_, Heap.get?_push_size _ rfl, rfl⟩
theorem pyNextS_item {z TI TO i1 i2 l1 l2 : Addr} {t1 t2 : Bool} {k1 k2 : Nat} {xs ys : Array Value} {x y a b : Value} {Q : Option Value → Shared → Prop} (D : ZipApart z TI TO i1 i2 l1 l2)
    (hz : IsZipB true s.heap z TI TO .none) (hTI : IsPair s.heap TI (.ref i1) (.ref i2)) (hTO : IsPair s.heap TO a b)
    (h1 : IterIs t1 s.heap i1 l1 k1) (h2 : IterIs t2 s.heap i2 l2 k2) (hl1 : SeqIs t1 s.heap l1 xs) (hl2 : SeqIs t2 s.heap l2 ys) (hx : xs[k1]? = some x) (hy : ys[k2]? = some y)
    (hQ : ∀ h', IsZipB true h' z TI TO (rawInt s.heap.objs.size) → IsPair h' TO x y → IterIs t1 h' i1 l1 (k1 + 1) → IterIs t2 h' i2 l2 (k2 + 1) → IsPair h' s.heap.objs.size x y → h'.objs.size = s.heap.objs.size + 1 →
      (∀ c o, c ≠ z → c ≠ TO → c ≠ i1 → c ≠ i2 → s.heap.get? c = some o → h'.get? c = some o) → Q (some (.ref s.heap.objs.size)) { s with heap := h' }) :
    wpAny (model prog w) A (pyNext (.ref z)) Q E s := by
  have hT : s.TypeIs (.ref z) "zip" := ⟨_, hz, rfl⟩
  unfold pyNext
  exact wpAny_bind (wpAny_attempt (wpAny_callSpecial?_slot (name := Str.ofString "__next__") hT F.slot_zip_next
    (wpAny_call_entry F.slot_zip_next hT F.entry_zip_next
      (zipS_item D hz hTI hTO h1 h2 hl1 hl2 hx hy fun h' a1 a2 a3 a4 a5 a6 a7 => wpAny_pure (hQ h' a1 a2 a3 a4 a5 a6 a7)) (F.args_zip_next_1 _))))
theorem pyNextS_end {z TI TO i1 i2 l1 l2 : Addr} {t1 t2 : Bool} {k1 k2 : Nat} {xs ys : Array Value} {a b : Value} {Q : Option Value → Shared → Prop} (hh : A.handled = none) (D : ZipApart z TI TO i1 i2 l1 l2)
    (hz : IsZipB true s.heap z TI TO .none) (hTI : IsPair s.heap TI (.ref i1) (.ref i2)) (hTO : IsPair s.heap TO a b)
    (h1 : IterIs t1 s.heap i1 l1 k1) (h2 : IterIs t2 s.heap i2 l2 k2) (hl1 : SeqIs t1 s.heap l1 xs) (hl2 : SeqIs t2 s.heap l2 ys) (hx : xs[k1]? = none) (hy : ys[k2]? = none)
    (hQ : ∀ h', (∀ c o, c ≠ z → c ≠ TO → c ≠ i1 → c ≠ i2 → s.heap.get? c = some o → h'.get? c = some o) → Q none { s with heap := h' }) : wpAny (model prog w) A (pyNext (.ref z)) Q E s := by
  have hT : s.TypeIs (.ref z) "zip" := ⟨_, hz, rfl⟩
  unfold pyNext
  refine wpAny_bind (wpAny_attempt (wpAny_callSpecial?_slot (name := Str.ofString "__next__") hT F.slot_zip_next
    (wpAny_call_entry F.slot_zip_next hT F.entry_zip_next (zipS_end hh D hz hTI hTO h1 h2 hl1 hl2 hx hy fun h' e hk he => ?_) (F.args_zip_next_1 _))))
  obtain ⟨o, ho, hc⟩ := he
  refine wpAny_bind (wpAny_isInstance (T := "StopIteration") (b := true) ⟨o, ho, hc⟩ isSubtype_stop ?_)
  exact wpAny_pure (hQ _ hk)
theorem letGoS {elts : List Expr} {x1} {pos : Pos} {z TI TO T : Addr} {Q : Unit → Shared → Prop} (hz : IsZipB true s.heap z TI TO (rawInt T))
    (hQ : ∀ h', IsZipB true h' z TI TO .none → Heap.SameBut z s.heap h' → Q () { s with heap := h' }) :
    wpAny (model prog w) A (letOwnedTupleGo (.Tuple elts x1 pos) (.ref z) (.ref T)) Q E s := by
  unfold letOwnedTupleGo
  refine wpAny_bind (wpAny_load hz ?_)
  show wpAny _ _ (if (["enumerate", "zip", "dict_itemiterator", "dict_reverseitemiterator", "odict_iterator", "itertools.zip_longest", "itertools.pairwise"].contains "zip" &&
      (#[rawInt T, .bool false, .bool true, .ref TI, .ref TO] : Array Value)[0]? == some (rawInt T)) = true then _ else _) Q E s
  rw [if_pos (by simp)]
  refine wpAny_bind (wpAny_rule ?_)
  show wpAny _ _ (setField (.ref z) 0 .none) Q E s
  exact wpAny_setField_rec hz (by simp) fun h' hz' hs' => hQ h' hz' hs'
theorem pyIterS {z TI TO : Addr} {f0 : Value} {Q : Value → Shared → Prop} (hz : IsZipB true s.heap z TI TO f0) (h : Q (.ref z) s) : wpAny (model prog w) A (pyIter (.ref z)) Q E s := by
  have hT : s.TypeIs (.ref z) "zip" := ⟨_, hz, rfl⟩
  refine wpAny_pyIter_slot hT F.slot_zip_iter (wpAny_call_entry F.slot_zip_iter hT F.entry_zip_iter ?_ (F.args_zip_iter_1 _))
  show wpAny _ _ (ret (.ref z)) _ _ s
  exact wpAny_pure ⟨_, rfl, "zip", _, hT, F.slot_zip_next.lookup, h⟩
/-- iter(a) -/
theorem iter_new {t : Bool} {a : Addr} {items : Array Value} {Q : Value → Shared → Prop} (hl : SeqIs t s.heap a items) (h : Q (.ref s.heap.objs.size) { s with heap := s.heap.push (iterObj t a) }) : wpAny (model prog w) A (pyIter (.ref a)) Q E s := by
  cases t with
  | false => exact wpAny_pyIter_list hl h
  | true => exact wpAny_pyIter_tuple hl h
end
abbrev zH1 (h : Heap) (t1 : Bool) (l1 : Addr) : Heap := h.push (iterObj t1 l1)
abbrev zH2 (h : Heap) (t1 t2 : Bool) (l1 l2 : Addr) : Heap := (zH1 h t1 l1).push (iterObj t2 l2)
abbrev zH3 (h : Heap) (t1 t2 : Bool) (l1 l2 : Addr) : Heap := (zH2 h t1 t2 l1 l2).push { cls := .type "tuple", data := .seq #[.ref h.objs.size, .ref (zH1 h t1 l1).objs.size] }
abbrev zH4 (h : Heap) (t1 t2 : Bool) (l1 l2 : Addr) : Heap := (zH3 h t1 t2 l1 l2).push { cls := .type "tuple", data := .seq #[.none, .none] }
abbrev zH5 (b : Bool) (h : Heap) (t1 t2 : Bool) (l1 l2 : Addr) : Heap := (zH4 h t1 t2 l1 l2).push { cls := .type "zip", data := .fields #[.none, .bool false, .bool b, .ref (zH2 h t1 t2 l1 l2).objs.size, .ref (zH3 h t1 t2 l1 l2).objs.size] }
set_option maxHeartbeats 8000000 in
theorem meets_zipS_new (t1 t2 : Bool) (l1 l2 : Addr) (xs ys : Array Value) :
    Meets (Builtin.«zip.__new__» ⟨[.type "zip", .ref l1, .ref l2], [(Str.ofString "strict", .bool true)]⟩) (fun _ R s => SeqIs t1 s.heap l1 xs ∧ SeqIs t2 s.heap l2 ys ∧
      R (.ok (.ret (.ref (zH4 s.heap t1 t2 l1 l2).objs.size))) { s with heap := zH5 true s.heap t1 t2 l1 l2 }) :=
  .of_wp fun prog w A R s h => by
    obtain ⟨hp, g, d, tk, os⟩ := s; obtain ⟨hl1, hl2, h⟩ := h
    have hsub := sub_zip
    have e1 : (Str.ofString "strict" == ("strict" : Str)) = true := by decide +kernel
    have e2 : (Str.ofString "strict" != ("strict" : Str)) = false := by decide +kernel
    have q1 : ∀ {A' : Around} {E : Value → Shared → Prop} {Q : Value → Shared → Prop}, Q (.ref hp.objs.size) ⟨zH1 hp t1 l1, g, d, tk, os⟩ → wpAny (model prog w) A' (pyIter (.ref l1)) Q E ⟨hp, g, d, tk, os⟩ :=
      fun q => iter_new (s := ⟨hp, g, d, tk, os⟩) hl1 q
    have q2 : ∀ {A' : Around} {E : Value → Shared → Prop} {Q : Value → Shared → Prop}, Q (.ref (zH1 hp t1 l1).objs.size) ⟨zH2 hp t1 t2 l1 l2, g, d, tk, os⟩ → wpAny (model prog w) A' (pyIter (.ref l2)) Q E ⟨zH1 hp t1 l1, g, d, tk, os⟩ :=
      fun q => iter_new (s := ⟨zH1 hp t1 l1, g, d, tk, os⟩) (hl2.at fun o e => Heap.get?_push_of_some _ e) q
    wp_walk using q1, q2
    exact ⟨_, rfl, h⟩
namespace Fz
theorem typeCall (a b c : Value) : checkTypeCall "zip" ⟨[a, b], [(Str.ofString "strict", c)]⟩ = pure () := by kernel_rfl
theorem newCall (a b c : Value) : checkBuiltinCall "zip.__new__" ⟨[.type "zip", a, b], [(Str.ofString "strict", c)]⟩ = pure () := by kernel_rfl
theorem args_init (obj a b c : Value) : argsOk "object.__init__" ⟨[obj, a, b], [(Str.ofString "strict", c)]⟩ := by unfold argsOk; kernel_rfl
end Fz
section
variable {prog : Program} {w : World} {A : Around} {E : Value → Shared → Prop} {s : Shared}
theorem call_zipS {t1 t2 : Bool} {l1 l2 : Addr} {xs ys : Array Value} {Q : Value → Shared → Prop} (hl1 : SeqIs t1 s.heap l1 xs) (hl2 : SeqIs t2 s.heap l2 ys)
    (h : ∀ h', IsZipB true h' (s.heap.objs.size + 4) (s.heap.objs.size + 2) (s.heap.objs.size + 3) .none → IsPair h' (s.heap.objs.size + 2) (.ref s.heap.objs.size) (.ref (s.heap.objs.size + 1)) →
      IsPair h' (s.heap.objs.size + 3) .none .none → IterIs t1 h' s.heap.objs.size l1 0 → IterIs t2 h' (s.heap.objs.size + 1) l2 0 → h'.objs.size = s.heap.objs.size + 5 →
      (∀ c o, s.heap.get? c = some o → h'.get? c = some o) → Q (.ref (s.heap.objs.size + 4)) { s with heap := h' }) :
    wpAny (model prog w) A (call (.type "zip") [.ref l1, .ref l2] [(Str.ofString "strict", .bool true)]) Q E s := by
  refine callType_newKw F.called_zip (by decide) (Fz.typeCall _ _ _) (Fz.newCall _ _ _) (fun obj => Fz.args_init obj _ _ _) F.entry_zip_new
    (meets_zipS_new t1 t2 l1 l2 xs ys) ⟨hl1, hl2, ?_⟩
  have z1 : (zH1 s.heap t1 l1).objs.size = s.heap.objs.size + 1 := Heap.size_push ..
  have z2 : (zH2 s.heap t1 t2 l1 l2).objs.size = s.heap.objs.size + 2 := by rw [Heap.size_push, z1]
  have z3 : (zH3 s.heap t1 t2 l1 l2).objs.size = s.heap.objs.size + 3 := by rw [Heap.size_push, z2]
  have z4 : (zH4 s.heap t1 t2 l1 l2).objs.size = s.heap.objs.size + 4 := by rw [Heap.size_push, z3]
  have z5 : (zH5 true s.heap t1 t2 l1 l2).objs.size = s.heap.objs.size + 5 := by rw [Heap.size_push, z4]
  have g5 : (zH5 true s.heap t1 t2 l1 l2).get? (zH4 s.heap t1 t2 l1 l2).objs.size = some _ := Heap.get?_push_size _ rfl
  have g4 : (zH5 true s.heap t1 t2 l1 l2).get? (zH3 s.heap t1 t2 l1 l2).objs.size = some _ := Heap.get?_push_of_some _ (Heap.get?_push_size _ rfl)
  have g3 : (zH5 true s.heap t1 t2 l1 l2).get? (zH2 s.heap t1 t2 l1 l2).objs.size = some _ := Heap.get?_push_of_some _ (Heap.get?_push_of_some _ (Heap.get?_push_size _ rfl))
  have i1 : ∀ t a, (iterObj t a).isFreed = false := fun t a => by cases t <;> rfl
  have g2 : (zH5 true s.heap t1 t2 l1 l2).get? (zH1 s.heap t1 l1).objs.size = some _ := Heap.get?_push_of_some _ (Heap.get?_push_of_some _ (Heap.get?_push_of_some _ (Heap.get?_push_size _ (i1 _ _))))
  have g1 : (zH5 true s.heap t1 t2 l1 l2).get? s.heap.objs.size = some _ := Heap.get?_push_of_some _ (Heap.get?_push_of_some _ (Heap.get?_push_of_some _ (Heap.get?_push_of_some _ (Heap.get?_push_size _ (i1 _ _)))))
  show _ ∧ _
  rw [z2, z3, z4] at g5
  rw [z1, z2] at g3
  rw [z3] at g4
  rw [z1] at g2
  rw [z4]
  exact ⟨⟨_, g5, rfl⟩, h _ g5 g3 g4 (.new g1) (.new g2) z5 fun c o x =>
    Heap.get?_push_of_some _ (Heap.get?_push_of_some _ (Heap.get?_push_of_some _ (Heap.get?_push_of_some _ (Heap.get?_push_of_some _ x))))⟩
end
/-! ### the walk -/
def SqB (K : PySem.W.Frag) (H : Hp) : Bool → Addr → List V → Prop
  | false, a, xs => SqL K H a xs
  | true, a, xs => SqT K H a xs
section
variable {X : Cx} {pins : List (Addr × Obj)} {σ : L2.St} {H : Hp} {s : Shared}
theorem seqB (I : Inv X pins σ H s) {t : Bool} {a : Addr} {xs : List V} (h : SqB X.K H t a xs) : ∃ its : List Value, Vals xs its ∧ SeqIs t s.heap a its.toArray ∧ a < s.heap.objs.size := by
  cases t with
  | false =>
    obtain ⟨its, r, p, _⟩ := I.list h
    exact ⟨its, r, p.isList, p.lt⟩
  | true =>
    obtain ⟨its, r, p, _⟩ := I.tuple h
    exact ⟨its, r, p, p.lt⟩
theorem seqB_inj (I : Inv X pins σ H s) {t : Bool} {a : Addr} {xs ys : List V} (h : SqB X.K H t a xs) (h' : SqB X.K H t a ys) : xs = ys := by
  cases t with
  | false => exact I.list_inj h h'
  | true => exact I.tuple_inj h h'
end
/-- both sequences as they stand at each turn, of one length -/
def ItzS (K : PySem.W.Frag) (t1 t2 : Bool) (a b : Addr) : It :=
  ⟨fun i H => ∃ (xs ys : List V) (x y : V), SqB K H t1 a xs ∧ SqB K H t2 b ys ∧ xs[i]? = some x ∧ ys[i]? = some y,
    fun i H v H' => ∃ T x y, v = .ref T ∧ H T = none ∧ H' = upd H T (.tup [x, y]) ∧ (∀ xs, SqB K H t1 a xs → xs[i]? = some x) ∧ ∀ ys, SqB K H t2 b ys → ys[i]? = some y,
    fun i H => ∃ xs ys : List V, SqB K H t1 a xs ∧ SqB K H t2 b ys ∧ xs.length ≤ i ∧ ys.length ≤ i⟩
theorem turn_zipS {P : Program} {w : World} {K : PySem.W.Frag} {elts : List Expr} {kk : Nat} {tpos : Pos} {t1 t2 : Bool} {a b z TI TO i1 i2 : Addr} (D : ZipApart z TI TO i1 i2 a b) :
    Turn P w K (.Tuple elts kk tpos) (ItzS K t1 t2 a b) [z, TI, TO, i1, i2] z (fun i h => IsZipB true h z TI TO .none ∧ IsPair h TI (.ref i1) (.ref i2) ∧ (∃ x y, IsPair h TO x y) ∧ IterIs t1 h i1 a i ∧ IterIs t2 h i2 b i) where
  mem := by simp
  obj := fun i h st c hc => by
    obtain ⟨hz, hTI, ⟨x, y, hTO⟩, h1, h2⟩ := st
    have e' : c = z ∨ c = TI ∨ c = TO ∨ c = i1 ∨ c = i2 := by simpa using hc
    rcases e' with q | q | q | q | q
    · rw [q]; exact ⟨_, hz, fun v q => nomatch q⟩
    · rw [q]; exact ⟨_, hTI, fun v q => nomatch q⟩
    · rw [q]; exact ⟨_, hTO, fun v q => nomatch q⟩
    · rw [q]; exact h1.obj
    · rw [q]; exact h2.obj
  keep := fun i h h' st k => by
    obtain ⟨hz, hTI, ⟨x, y, hTO⟩, h1, h2⟩ := st
    exact ⟨k z (by simp) _ hz, k TI (by simp) _ hTI, ⟨x, y, k TO (by simp) _ hTO⟩, h1.at fun o q => k i1 (by simp) o q, h2.at fun o q => k i2 (by simp) o q⟩
  item := by
    intro X hP hw hK hc i pins s σ H E I hf st hg
    subst hP hw hK
    obtain ⟨hz, hTI, ⟨x0, y0, hTO⟩, h1, h2⟩ := st
    obtain ⟨xs, ys, x, y, hqx, hqy, hx, hy⟩ := hg
    obtain ⟨its, rv, p, _⟩ := seqB I hqx
    obtain ⟨its2, rv2, p2, _⟩ := seqB I hqy
    obtain ⟨u, hu, ru⟩ := rv.get hx
    obtain ⟨u2, hu2, ru2⟩ := rv2.get hy
    have hzl : z < s.heap.objs.size := Heap.lt_size hz
    have l1 : i1 < s.heap.objs.size := by obtain ⟨_, e, _⟩ := h1.obj; exact Heap.lt_size e
    have l2 : i2 < s.heap.objs.size := by obtain ⟨_, e, _⟩ := h2.obj; exact Heap.lt_size e
    refine pyNextS_item D hz hTI hTO h1 h2 p p2 (x := u) (y := u2) (by simpa using hu) (by simpa using hu2) fun h' z' TO' h1' h2' hT hsz hk => ?_
    refine ⟨_, rfl, letGoS (s := { s with heap := h' }) z' fun h'' z'' sb => ?_⟩
    have hT2 : h''.get? s.heap.objs.size = some { cls := .type "tuple", data := .seq #[u, u2] } := (sb.2 _ (Nat.ne_of_gt hzl)).trans hT
    have new : ObjOk X.prog X.w (upd H s.heap.objs.size (.tup [x, y])) h'' s.heap.objs.size (.tup [x, y]) :=
      ⟨by show 2 ≤ sizeLine; decide, [u, u2], .cons ru (.cons ru2 .nil), ⟨_, hT2, rfl, _, rfl⟩⟩
    have I1 : Inv X pins σ (upd H s.heap.objs.size (.tup [x, y])) { s with heap := h'' } :=
      I.turnedNew (t' := s.toks) (ch := [z, TI, TO, i1, i2]) (fun c o hb q => (sb.2 c (fun q' => hb (by simp [q']))).trans (hk c o (fun q' => hb (by simp [q'])) (fun q' => hb (by simp [q'])) (fun q' => hb (by simp [q'])) (fun q' => hb (by simp [q'])) q)) hf (Nat.le_refl _) new
    refine ⟨.ref s.heap.objs.size, _, I1, rfl, ⟨_, x, y, rfl, I.hok.fresh (Nat.le_refl _), rfl, fun l hl => by rw [seqB_inj I hl hqx]; exact hx, fun l hl => by rw [seqB_inj I hl hqy]; exact hy⟩, ⟨z'', ?_, ⟨u, u2, ?_⟩, ?_, ?_⟩, fun c hcm => ?_⟩
    · exact (sb.2 _ D.TIz).trans (hk _ _ D.TIz D.TITO D.TIi1 D.TIi2 hTI)
    · exact (sb.2 _ D.TOz).trans TO'
    · exact h1'.at fun o q => (sb.2 _ D.i1z).trans q
    · exact h2'.at fun o q => (sb.2 _ D.i2z).trans q
    · have hlt : c < s.heap.objs.size := by
        have e' : c = z ∨ c = TI ∨ c = TO ∨ c = i1 ∨ c = i2 := by simpa using hcm
        rcases e' with q | q | q | q | q
        · rw [q]; exact hzl
        · rw [q]; exact Heap.lt_size hTI
        · rw [q]; exact Heap.lt_size hTO
        · rw [q]; exact l1
        · rw [q]; exact l2
      rw [upd_ne (Nat.ne_of_lt hlt)]
      exact (hf c hcm).1
  done := by
    intro X hP hw hK hc i pins s σ H E I hf st hg
    subst hP hw hK
    obtain ⟨hz, hTI, ⟨x0, y0, hTO⟩, h1, h2⟩ := st
    obtain ⟨xs, ys, hqx, hqy, e1, e2⟩ := hg
    obtain ⟨its, rv, p, _⟩ := seqB I hqx
    obtain ⟨its2, rv2, p2, _⟩ := seqB I hqy
    have l1 := rv.length
    have l2 := rv2.length
    exact pyNextS_end (I.ok.hd hc) D hz hTI hTO h1 h2 p p2 (by simp; omega) (by simp; omega) fun h' hk => ⟨rfl, I.turnedL (t' := s.toks) (ch := [z, TI, TO, i1, i2]) (fun c o hb q =>
      hk c o (fun q' => hb (by simp [q'])) (fun q' => hb (by simp [q'])) (fun q' => hb (by simp [q'])) (fun q' => hb (by simp [q'])) q) hf⟩
  self := fun A i s Q E st h => pyIterS st.1 h
theorem callWith_type_kwB {M : Model} {A : Around} {E : Value → Shared → Prop} {s : Shared} {pos : Pos} {T : String} {first : List Value} {args : List (Bool × Sem Value)} {keywords : List (Option Str × Sem Value)} {Q : Value → Shared → Prop}
    (hplain : args.any (·.1) = false) (hkw : keywords.any (·.1.isNone) = false)
    (h : wpAny M A (evalArgs (.type T) true args keywords) (fun a s₁ => wpAny M A (call (.type T) (first ++ a.pos) a.kw) Q E s₁) E s) :
    wpAny M A (callWith pos (.type T) first args keywords) Q E s := by
  unfold callWith
  refine wpAny_bind (wpAny_holding (wpAny_mono h (fun a s₁ h₁ => wpAny_bind (wpAny_standAt ?_)) fun _ _ x => x))
  simp only [hplain, hkw, Bool.or_false]
  refine wpAny_bind (wpAny_pure ?_)
  exact wpAny_bind (wpAny_mono h₁ (fun r s₂ hr => wpAny_bind (wpAny_holding (wpAny_point (wpAny_pure hr)))) fun _ _ x => x)
theorem callWith_type_kw {M : Model} {A : Around} {E : Value → Shared → Prop} {s : Shared} {env : PySem.Env} {pos : Pos} {T : String} {e : Expr} {rest : List Expr} {kws : List Keyword} {Q : Value → Shared → Prop}
    (h : wpAny M A (spliced (backTo pos (starEach (e :: rest) env))) (fun vs s₁ => wpAny M A (evalAll ((backToKw pos (keywordEach kws env)).map (·.2)))
      (fun kvs s₂ => wpAny M A (call (.type T) vs (((backToKw pos (keywordEach kws env)).filterMap (·.1)).zip kvs)) Q E s₂) E s₁) E s)
    (he : backTo pos (starEach (e :: rest) env) = (false, eval e env) :: backTo pos (starEach rest env) := by rfl)
    (hplain : (backTo pos (starEach (e :: rest) env)).any (·.1) = false := by rfl)
    (hall : (backToKw pos (keywordEach kws env)).all (·.1.isSome) = true := by rfl)
    (hkw : (backToKw pos (keywordEach kws env)).any (·.1.isNone) = false := by rfl) :
    wpAny M A (callWith pos (.type T) [] (backTo pos (starEach (e :: rest) env)) (backToKw pos (keywordEach kws env))) Q E s := by
  refine callWith_type_kwB hplain hkw ?_
  rw [he] at h ⊢
  exact PyProof.Rows.evalArgs_kwB hall h
def iZipS (K : PySem.W.Frag) (ta : TA) : TI := fun σ H R => ta σ H fun vs H1 => ∃ (t1 t2 : Bool) (a b : Addr) (xs ys : List V), vs = [.ref a, .ref b] ∧ SqB K H1 t1 a xs ∧ SqB K H1 t2 b ys ∧ R (ItzS K t1 t2 a b) H1
theorem pi_zipS {X : Cx} {e e2 : Expr} {ta : TA} {p pos tpos cpos kpos : Pos} {ck : Nat} {elts : List Expr} {kk : Nat} (hg : Gl X "zip") (hm : X.mg "zip" = none) (ha : PA X [e, e2] ta)
    (hs : starEach [e, e2] X.env = [(false, eval e X.env), (false, eval e2 X.env)]) (hs2 : starEach [e2] X.env = [(false, eval e2 X.env)]) :
    PI X (.Tuple elts kk tpos) (.Call (.Name "zip" p) [e, e2] [⟨some (Str.ofString "strict"), .Constant (.bool true) ck cpos, kpos⟩] pos) (iZipS X.K ta) := by
  refine ⟨fun pins s σ H R I h => ?_⟩
  refine wpAny_Call_Name_kw (ld_blt I hg hm PyProof.Rows.boot_zip ?_)
  refine (callWith_type_kw (kws := [⟨some (Str.ofString "strict"), .Constant (.bool true) ck cpos, kpos⟩]) (thn (ha.run pos pins s σ H _ I h) fun us s1 ⟨vs, H1, I1, r1, q1⟩ => ?_) (by rw [hs, hs2]; rfl) (by rw [hs]; rfl))
  refine PyProof.Rows.kws_cons (PyProof.Rows.Constant_bool (PyProof.Rows.kws_nil ?_))
  obtain ⟨t1, t2, a, b, xs, ys, ex, hqx, hqy, q⟩ := q1
  subst ex
  cases r1 with
  | cons r rr =>
    cases rr with
    | cons r' rr =>
      cases rr
      cases r
      cases r'
      obtain ⟨its, rv, p1, la⟩ := seqB I1 hqx
      obtain ⟨its2, rv2, p2, lb⟩ := seqB I1 hqy
      refine call_zipS p1 p2 fun h' hz hTI hTO h1 h2 hsz hk => pyIterS hz ?_
      have I2 : Inv X pins σ H1 { s1 with heap := h' } := I1.kept (t' := s1.toks) hk
      refine ⟨s1.heap.objs.size + 4, [s1.heap.objs.size + 4, s1.heap.objs.size + 2, s1.heap.objs.size + 3, s1.heap.objs.size, s1.heap.objs.size + 1], _, _, H1, rfl, I2, turn_zipS (PySem.W.ktu_apart s1.heap.objs.size a b la lb), ⟨hz, hTI, ⟨_, _, hTO⟩, h1, h2⟩, fun c hcm => ?_, q⟩
      have e' : c = s1.heap.objs.size + 4 ∨ c = s1.heap.objs.size + 2 ∨ c = s1.heap.objs.size + 3 ∨ c = s1.heap.objs.size ∨ c = s1.heap.objs.size + 1 := by simpa using hcm
      have hle : s1.heap.objs.size ≤ c := by
        rcases e' with z | z | z | z | z
        · rw [z]; exact Nat.le_add_right _ _
        · rw [z]; exact Nat.le_add_right _ _
        · rw [z]; exact Nat.le_add_right _ _
        · rw [z]; exact Nat.le_refl _
        · rw [z]; exact Nat.le_add_right _ _
      exact I1.fpOk hle (I1.hok.fresh hle)
theorem walk_zipS {K : PySem.W.Frag} {t1 t2 : Bool} {a b : Addr} {xs ys : List V} (hn : xs.length = ys.length) : Walk (ItzS K t1 t2 a b) xs.length (fun H => SqB K H t1 a xs ∧ SqB K H t2 b ys) (YPair (fun i => xs[i]?) (fun i => ys[i]?)) := by
  refine ⟨fun i _ hi q => ?_, fun _ q => ⟨xs, ys, q.1, q.2, Nat.le_refl _, by omega⟩, fun i H v H' _ q y => ?_⟩
  · have h2 : i < ys.length := by omega
    exact ⟨xs, ys, xs[i], ys[i], q.1, q.2, by simp [hi], by simp [h2]⟩
  · obtain ⟨T, x, z, h1, h2, h3, h4, h5⟩ := y
    exact ⟨T, x, z, h1, h2, h3, h4 xs q.1, h5 ys q.2⟩
end DL
set_option Elab.async false
set_option linter.all false
set_option maxRecDepth 100000
set_option maxHeartbeats 4000000
/-! Wy: for i, x in enumerate(a) and enumerate(a, start=k), a a list or a tuple. -/
namespace DL
open PySem PySem.Spec L2
theorem begins (t : Bool) (a : Addr) (items : Array Value) : Begins (.ref a) (iterObj t a) fun h => SeqIs t h a items := by
  cases t with
  | false => exact begins_list a items
  | true => exact begins_tuple a items
set_option maxHeartbeats 1000000 in
theorem meets_enum1 {v : Value} {o : Obj} {H : Heap → Prop} (B : Begins v o H) :
    Meets (Builtin.«enumerate.__new__» ⟨[.type "enumerate", v], []⟩) (fun _ R s => H s.heap ∧
      R (.ok (.ret (.ref (s.heap.push o).objs.size))) { s with heap := (s.heap.push o).push { cls := .type "enumerate", data := .fields #[.none, .bool false, .ref s.heap.objs.size, rawInt 0, .none, .none] } }) :=
  .of_wp fun prog w A R s h => by
    obtain ⟨hp, g, d, tk, os⟩ := s; obtain ⟨h1, h⟩ := h
    have hsub := sub_enumerate
    have q1 : ∀ {A' : Around} {E : Value → Shared → Prop} {Q : Value → Shared → Prop}, Q (.ref hp.objs.size) ⟨hp.push o, g, d, tk, os⟩ → wpAny (model prog w) A' (pyIter v) Q E ⟨hp, g, d, tk, os⟩ :=
      fun q => B.iter prog w _ _ ⟨hp, g, d, tk, os⟩ _ h1 q
    wp_walk using q1
    refine wpAny_stack_any fun st => wpAny_pure ?_
    split
    · rename_i c _ _ _ _ _
      cases (c == Value.type "enumerate")
      · wp_walk using q1
        exact ⟨_, rfl, h⟩
      · wp_walk using q1
        exact ⟨_, rfl, h⟩
    · wp_walk using q1
      exact ⟨_, rfl, h⟩
section
variable {prog : Program} {w : World} {A : Around} {E : Value → Shared → Prop} {s : Shared}
theorem enum_begins1 {v : Value} {o : Obj} {H : Heap → Prop} {Q : Value → Shared → Prop} (B : Begins v o H) (h1 : H s.heap)
    (h : ∀ h', IsEnum h' (s.heap.objs.size + 1) s.heap.objs.size 0 .none → h'.get? s.heap.objs.size = some o → h'.objs.size = s.heap.objs.size + 2 →
      (∀ b o, s.heap.get? b = some o → h'.get? b = some o) → Q (.ref (s.heap.objs.size + 1)) { s with heap := h' }) :
    wpAny (model prog w) A (call (.type "enumerate") [v]) Q E s := by
  refine callType_new F.called_enumerate (by decide) (F.typeCall_enumerate_1 _) (F.newCall_enumerate_1 _) (fun obj => F.args_object_init_2 obj _) F.entry_enumerate_new
    (meets_enum1 B) ⟨h1, ?_⟩
  have hz : (s.heap.push o).objs.size = s.heap.objs.size + 1 := Heap.size_push ..
  show _ ∧ _
  rw [hz]
  have he : IsEnum ((s.heap.push o).push { cls := .type "enumerate", data := .fields #[.none, .bool false, .ref s.heap.objs.size, rawInt 0, .none, .none] }) (s.heap.objs.size + 1) s.heap.objs.size 0 .none := by
    have := Heap.get?_push_size (s.heap.push o) (o := { cls := .type "enumerate", data := .fields #[.none, .bool false, .ref s.heap.objs.size, rawInt 0, .none, .none] }) rfl
    rw [hz] at this; exact this
  exact ⟨⟨_, he, rfl⟩, h _ he (Heap.get?_push_of_some _ (Heap.get?_push_size _ B.free)) (by rw [Heap.size_push, hz]) fun b o x => Heap.get?_push_of_some _ (Heap.get?_push_of_some _ x)⟩
theorem enumB_item {t : Bool} {e it l : Addr} {i : Nat} {c : Int} {items : Array Value} {x old : Value} {Q : Value → Shared → Prop}
    (he : IsEnum s.heap e it c old) (hit : IterIs t s.heap it l i) (hl : SeqIs t s.heap l items) (hx : items[i]? = some x) (hne : e ≠ it)
    (hQ : ∀ h', IsEnumOut h' e it (c + 1) x s.heap.objs.size → IterIs t h' it l (i + 1) →
      h'.get? s.heap.objs.size = some { cls := .type "tuple", data := .seq #[.int c s.toks, x] } → h'.objs.size = s.heap.objs.size + 1 →
      (∀ b o, b ≠ e → b ≠ it → s.heap.get? b = some o → h'.get? b = some o) → Q (.ref s.heap.objs.size) { s with heap := h', toks := s.toks + 1 }) :
    wpAny (model prog w) A (Builtin.«enumerate.__next__» ⟨[.ref e], []⟩) (fun fin s' => ∃ v, fin = .done (.ret v) ∧ Q v s') E s := by
  obtain ⟨hp, g, d, tk, os⟩ := s
  show wpAny _ _ (field (.ref e) 2 >>= _) _ _ _
  refine wpAny_bind (wpAny_field he rfl (x := .ref it) rfl ?_)
  refine wpAny_bind (nextOf_item hit hl hx fun h₁ hit₁ hs₁ => ?_)
  replace hs₁ : Heap.SameBut it hp h₁ := hs₁
  have he₁ : IsEnum h₁ e it c old := (hs₁.2 e hne).trans he
  show wpAny _ _ (field (.ref e) 3 >>= _) _ _ ⟨h₁, g, d, tk, os⟩
  refine wpAny_bind (wpAny_field he₁ rfl (x := rawInt c) rfl ?_)
  show wpAny _ _ (field (.ref e) 4 >>= _) _ _ ⟨h₁, g, d, tk, os⟩
  refine wpAny_bind (wpAny_field he₁ rfl (x := .none) rfl ?_)
  show wpAny _ _ (mkInt c >>= _) _ _ ⟨h₁, g, d, tk, os⟩
  refine wpAny_bind (wpAny_mkInt ?_)
  show wpAny _ _ (setField (.ref e) 3 (rawInt (c + 1)) >>= _) _ _ ⟨h₁, g, d, tk + 1, os⟩
  refine wpAny_bind (wpAny_setField_rec he₁ (by simp) fun h₂ he₂ hs₂ => ?_)
  replace hs₂ : Heap.SameBut e h₁ h₂ := hs₂
  replace he₂ : IsEnum h₂ e it (c + 1) old := he₂
  show wpAny _ _ (setField (.ref e) 4 .none >>= _) _ _ ⟨h₂, g, d, tk + 1, os⟩
  refine wpAny_bind (wpAny_setField_rec he₂ (by simp) fun h₃ he₃ hs₃ => ?_)
  replace hs₃ : Heap.SameBut e h₂ h₃ := hs₃
  replace he₃ : IsEnum h₃ e it (c + 1) old := he₃
  show wpAny _ _ (newTuple [.int c tk, x] >>= _) _ _ ⟨h₃, g, d, tk + 1, os⟩
  refine wpAny_bind (wpAny_newTuple ?_)
  have he₄ : IsEnum (h₃.push { cls := .type "tuple", data := .seq #[.int c tk, x] }) e it (c + 1) old := Heap.get?_push_of_some _ he₃
  generalize hh₄ : h₃.push { cls := .type "tuple", data := .seq #[.int c tk, x] } = h₄ at he₄
  have hsz : h₃.objs.size = hp.objs.size := by rw [hs₃.1, hs₂.1, hs₁.1]
  have hel : e < hp.objs.size := Heap.lt_size he
  have ht₄ : h₄.get? hp.objs.size = some { cls := .type "tuple", data := .seq #[.int c tk, x] } := by rw [← hh₄, ← hsz]; exact Heap.get?_push_size _ rfl
  have hz₄ : h₄.objs.size = hp.objs.size + 1 := by rw [← hh₄, Heap.size_push, hsz]
  have hk₄ : ∀ b o, b ≠ e → b ≠ it → hp.get? b = some o → h₄.get? b = some o := fun b o hbe hbi hb => by
    rw [← hh₄]; exact Heap.get?_push_of_some _ (hs₃.extBut b o hbe (hs₂.extBut b o hbe (hs₁.extBut b o hbi hb)))
  have hit₄ : IterIs t h₄ it l (i + 1) := by
    rw [← hh₄]; exact ((hit₁.ext hs₂.extBut (Ne.symm hne)).ext hs₃.extBut (Ne.symm hne)).at fun o e => Heap.get?_push_of_some _ e
  show wpAny _ _ (Builtin.SmallTypes.ownedTupleIsFree (.ref e) >>= _) _ _ ⟨h₄, g, d, tk + 1, os⟩
  rw [hsz]
  clear hh₄ he₃ hs₃ he₂ hs₂ he₁ hs₁ hit₁ hsz h₃ h₂ h₁
  refine wpAny_bind ?_
  unfold Builtin.SmallTypes.ownedTupleIsFree
  refine wpAny_bind (wpAny_field he₄ rfl (x := .none) rfl (wpAny_pure ?_))
  simp only [if_true]
  refine wpAny_bind (wpAny_rule ?_)
  refine wpAny_bind (wpAny_field he₄ rfl (x := old) rfl ?_)
  refine wpAny_bind (wpAny_setField_rec he₄ (by simp) fun h₅ he₅ hs₅ => ?_)
  replace hs₅ : Heap.SameBut e h₄ h₅ := hs₅
  replace he₅ : IsEnum h₅ e it (c + 1) x := he₅
  show wpAny _ _ (Builtin.SmallTypes.ownedTupleHandOut (.ref e) (.ref hp.objs.size) >>= _) _ _ ⟨h₅, g, d, tk + 1, os⟩
  refine wpAny_bind ?_
  unfold Builtin.SmallTypes.ownedTupleHandOut
  refine wpAny_bind (wpAny_setField_rec he₅ (by simp) fun h₆ he₆ hs₆ => ?_)
  replace hs₆ : Heap.SameBut e h₅ h₆ := hs₆
  replace he₆ : IsEnumOut h₆ e it (c + 1) x hp.objs.size := he₆
  refine wpAny_setField_rec he₆ (by simp) fun h₇ he₇ hs₇ => ?_
  replace hs₇ : Heap.SameBut e h₆ h₇ := hs₇
  replace he₇ : IsEnumOut h₇ e it (c + 1) x hp.objs.size := he₇
  refine wpAny_bind (wpAny_letGo (wpAny_pure ⟨_, rfl, hQ h₇ he₇ ?_ ?_ ?_ ?_⟩))
  · exact ((hit₄.ext hs₅.extBut (Ne.symm hne)).ext hs₆.extBut (Ne.symm hne)).ext hs₇.extBut (Ne.symm hne)
  · exact hs₇.extBut _ _ (Nat.ne_of_gt hel) (hs₆.extBut _ _ (Nat.ne_of_gt hel) (hs₅.extBut _ _ (Nat.ne_of_gt hel) ht₄))
  · rw [hs₇.1, hs₆.1, hs₅.1, hz₄]
  · exact fun b o hbe hbi hb => hs₇.extBut b o hbe (hs₆.extBut b o hbe (hs₅.extBut b o hbe (hk₄ b o hbe hbi hb)))
theorem pyNextE_item {t : Bool} {e it l : Addr} {i : Nat} {c : Int} {items : Array Value} {x old : Value} {Q : Option Value → Shared → Prop}
    (he : IsEnum s.heap e it c old) (hit : IterIs t s.heap it l i) (hl : SeqIs t s.heap l items) (hx : items[i]? = some x) (hne : e ≠ it)
    (hQ : ∀ h', IsEnumOut h' e it (c + 1) x s.heap.objs.size → IterIs t h' it l (i + 1) →
      h'.get? s.heap.objs.size = some { cls := .type "tuple", data := .seq #[.int c s.toks, x] } → h'.objs.size = s.heap.objs.size + 1 →
      (∀ b o, b ≠ e → b ≠ it → s.heap.get? b = some o → h'.get? b = some o) → Q (some (.ref s.heap.objs.size)) { s with heap := h', toks := s.toks + 1 }) :
    wpAny (model prog w) A (pyNext (.ref e)) Q E s := by
  have hT : s.TypeIs (.ref e) "enumerate" := ⟨_, he, rfl⟩
  unfold pyNext
  exact wpAny_bind (wpAny_attempt (wpAny_callSpecial?_slot (name := Str.ofString "__next__") hT F.slot_enumerate_next
    (wpAny_call_entry F.slot_enumerate_next hT F.entry_enumerate_next
      (enumB_item he hit hl hx hne fun h' a b c d k => wpAny_pure (hQ h' a b c d k)) (F.args_enumerate_next_1 _))))
theorem pyNextE_end {t : Bool} {e it l : Addr} {i : Nat} {c : Int} {items : Array Value} {old : Value} {Q : Option Value → Shared → Prop} (hh : A.handled = none)
    (he : IsEnum s.heap e it c old) (hit : IterIs t s.heap it l i) (hl : SeqIs t s.heap l items) (hx : items[i]? = none)
    (hQ : ∀ h', Heap.ExtBut it s.heap h' → Q none { s with heap := h' }) : wpAny (model prog w) A (pyNext (.ref e)) Q E s := by
  have hT : s.TypeIs (.ref e) "enumerate" := ⟨_, he, rfl⟩
  unfold pyNext
  refine wpAny_bind (wpAny_attempt (wpAny_callSpecial?_slot (name := Str.ofString "__next__") hT F.slot_enumerate_next
    (wpAny_call_entry F.slot_enumerate_next hT F.entry_enumerate_next ?_ (F.args_enumerate_next_1 _))))
  show wpAny _ _ (field (.ref e) 2 >>= _) _ _ _
  refine wpAny_bind (wpAny_field he rfl (x := .ref it) rfl ?_)
  refine wpAny_bind (nextOf_end hh hit hl hx fun h' x he' hx' => ?_)
  obtain ⟨o, ho, hc⟩ := hx'
  refine wpAny_bind (wpAny_isInstance (T := "StopIteration") (b := true) ⟨o, ho, hc⟩ isSubtype_stop ?_)
  exact wpAny_pure (hQ _ he')
end
def ItE (K : PySem.W.Frag) (t : Bool) (c : Int) (a : Addr) : It :=
  ⟨fun i H => ∃ (xs : List V) (x : V), SqB K H t a xs ∧ xs[i]? = some x, fun i H v H' => ∃ T x, v = .ref T ∧ H T = none ∧ H' = upd H T (.tup [.int (c + (i : Nat)), x]) ∧ ∀ xs, SqB K H t a xs → xs[i]? = some x, fun i H => ∃ xs : List V, SqB K H t a xs ∧ xs.length ≤ i⟩
theorem turn_enumB {P : Program} {w : World} {K : PySem.W.Frag} {elts : List Expr} {kk : Nat} {tpos : Pos} {t : Bool} {c : Int} (a e it : Addr) :
    Turn P w K (.Tuple elts kk tpos) (ItE K t c a) [e, it] e (fun i h => (∃ old, IsEnum h e it (c + ((i : Nat) : Int)) old) ∧ IterIs t h it a i ∧ e ≠ it) where
  mem := by simp
  obj := fun i h st b hb => by
    obtain ⟨⟨old, he⟩, hi, _⟩ := st
    have e' : b = e ∨ b = it := by simpa using hb
    rcases e' with z | z
    · rw [z]; exact ⟨_, he, fun v q => nomatch q⟩
    · rw [z]; exact hi.obj
  keep := fun i h h' st k => let ⟨⟨old, he⟩, hi, hne⟩ := st; ⟨⟨old, k e (by simp) _ he⟩, hi.at fun o q => k it (by simp) o q, hne⟩
  item := by
    intro X hP hw hK hc i pins s σ H E I hf st hg
    subst hP hw hK
    obtain ⟨⟨old, he⟩, hit, hne⟩ := st
    obtain ⟨xs, x, hq, hx⟩ := hg
    obtain ⟨its, rv, p, _⟩ := seqB I hq
    obtain ⟨u, hu, ru⟩ := rv.get hx
    have hel : e < s.heap.objs.size := Heap.lt_size he
    have hil : it < s.heap.objs.size := by obtain ⟨_, q, _⟩ := hit.obj; exact Heap.lt_size q
    refine pyNextE_item he hit p (x := u) (by simpa using hu) hne fun h' ho hit' hT hsz hk => ?_
    refine ⟨_, rfl, wpAny_letOwnedTupleGo_enum (s := { s with heap := h', toks := s.toks + 1 }) ho fun h'' he' sb => ?_⟩
    have hT2 : h''.get? s.heap.objs.size = some { cls := .type "tuple", data := .seq #[.int (c + (i : Nat)) s.toks, u] } := (sb.2 _ (Nat.ne_of_gt hel)).trans hT
    have new : ObjOk X.prog X.w (upd H s.heap.objs.size (.tup [.int (c + (i : Nat)), x])) h'' s.heap.objs.size (.tup [.int (c + (i : Nat)), x]) :=
      ⟨by show 2 ≤ sizeLine; decide, [.int (c + (i : Nat)) s.toks, u], .cons ⟨_, rfl⟩ (.cons ru .nil), ⟨_, hT2, rfl, _, rfl⟩⟩
    have I1 : Inv X pins σ (upd H s.heap.objs.size (.tup [.int (c + (i : Nat)), x])) { s with heap := h'', toks := s.toks + 1 } :=
      I.turnedNew (ch := [e, it]) (fun b ob hb q => (sb.2 b (fun z => hb (by simp [z]))).trans (hk b ob (fun z => hb (by simp [z])) (fun z => hb (by simp [z])) q)) hf (Nat.le_refl _) new
    refine ⟨.ref s.heap.objs.size, _, I1, rfl, ⟨_, x, rfl, I.hok.fresh (Nat.le_refl _), rfl, fun ys hy => by rw [seqB_inj I hy hq]; exact hx⟩, ⟨⟨u, ?_⟩, hit'.at fun o q => (sb.2 it (Ne.symm hne)).trans q, hne⟩, fun b hb => ?_⟩
    · have e1 : c + ((i + 1 : Nat) : Int) = c + (i : Int) + 1 := by omega
      rw [e1]; exact he'
    · have hb' : b < s.heap.objs.size := by
        have e' : b = e ∨ b = it := by simpa using hb
        rcases e' with z | z
        · rw [z]; exact hel
        · rw [z]; exact hil
      rw [upd_ne (Nat.ne_of_lt hb')]
      exact (hf b hb).1
  done := by
    intro X hP hw hK hc i pins s σ H E I hf st hg
    subst hP hw hK
    obtain ⟨⟨old, he⟩, hit, hne⟩ := st
    obtain ⟨xs, hq, hx⟩ := hg
    obtain ⟨its, rv, p, _⟩ := seqB I hq
    obtain ⟨f0, f1, f2, f3, f4, f5⟩ := hf it (by simp)
    have hl := rv.length
    exact pyNextE_end (I.ok.hd hc) he hit p (by simp; omega) fun h' eb => ⟨rfl, I.turned (t' := s.toks) (fun b o hb q => eb b o hb q) f0 f1 f3 f4 f5⟩
  self := fun A i s Q E st h => let ⟨⟨_, he⟩, _⟩ := st; wpAny_pyIter_enum he h
def iEnumB (K : PySem.W.Frag) (c : Int) (ta : TA) : TI := fun σ H R => ta σ H fun vs H1 => ∃ (t : Bool) (a : Addr) (xs : List V), vs = [.ref a] ∧ SqB K H1 t a xs ∧ R (ItE K t c a) H1
section
variable {X : Cx} {pins : List (Addr × Obj)} {σ : L2.St} {H : Hp} {s : Shared}
theorem enumB_begun {elts : List Expr} {kk : Nat} {tpos : Pos} {t : Bool} {c : Int} {a : Addr} {h' : Heap} {R : It → Hp → Prop} (I2 : Inv X pins σ H { s with heap := h' }) (I1 : Inv X pins σ H s)
    (he : IsEnum h' (s.heap.objs.size + 1) s.heap.objs.size c .none) (hit : h'.get? s.heap.objs.size = some (iterObj t a)) (q : R (ItE X.K t c a) H) :
    PIE X pins σ (.Tuple elts kk tpos) R (.ref (s.heap.objs.size + 1)) { s with heap := h' } := by
  refine ⟨s.heap.objs.size + 1, [s.heap.objs.size + 1, s.heap.objs.size], _, _, H, rfl, I2, turn_enumB a (s.heap.objs.size + 1) s.heap.objs.size, ⟨⟨.none, ?_⟩, .new hit, Nat.succ_ne_self _⟩, fun b hb => ?_, q⟩
  · show IsEnum h' _ _ (c + ((0 : Nat) : Int)) _
    rw [show c + ((0 : Nat) : Int) = c by simp]; exact he
  · have e' : b = s.heap.objs.size + 1 ∨ b = s.heap.objs.size := by simpa using hb
    have hle : s.heap.objs.size ≤ b := by
      rcases e' with z | z
      · rw [z]; exact Nat.le_add_right _ _
      · rw [z]; exact Nat.le_refl _
    exact I1.fpOk hle (I1.hok.fresh hle)
end
theorem pi_enumB {X : Cx} {e : Expr} {ta : TA} {p pos tpos : Pos} {elts : List Expr} {kk : Nat} (hg : Gl X "enumerate") (hm : X.mg "enumerate" = none) (ha : PA X [e] ta) (hs : starEach [e] X.env = [(false, eval e X.env)]) :
    PI X (.Tuple elts kk tpos) (.Call (.Name "enumerate" p) [e] [] pos) (iEnumB X.K 0 ta) := by
  refine ⟨fun pins s σ H R I h => ?_⟩
  refine PyProof.Rows.Call_ (ld_blt I hg hm PyProof.Rows.boot_enumerate (PyProof.Rows.callWith_type1 (thn (ha.run pos pins s σ H _ I h) fun us s1 ⟨vs, H1, I1, r1, q1⟩ => ?_) hs rfl))
  obtain ⟨t, a, xs, ex, hq, q⟩ := q1
  subst ex
  cases r1 with
  | cons r rr =>
    cases rr
    cases r
    obtain ⟨its, rv, p', _⟩ := seqB I1 hq
    refine enum_begins1 (begins t a its.toArray) p' fun h' he hit hsz hk => wpAny_pyIter_enum he ?_
    exact enumB_begun (I1.kept (t' := s1.toks) hk) I1 he hit q
theorem walk_enumB {K : PySem.W.Frag} {t : Bool} {c : Int} {a : Addr} {xs : List V} : Walk (ItE K t c a) xs.length (fun H => SqB K H t a xs) (YPair (fun i => some (.int (c + (i : Nat)))) (fun i => xs[i]?)) := by
  refine ⟨fun i _ hi q => ⟨xs, xs[i], q, by simp [hi]⟩, fun _ q => ⟨xs, q, Nat.le_refl _⟩, fun i H v H' _ q y => ?_⟩
  obtain ⟨T, x, h1, h2, h3, h4⟩ := y
  exact ⟨T, .int (c + (i : Nat)), x, h1, h2, h3, rfl, h4 xs q⟩
end DL
set_option Elab.async false
set_option linter.all false
set_option maxRecDepth 100000
set_option maxHeartbeats 4000000
/-! We: truth, items, slices, fields, built-ins, targets, what is walked. -/
namespace DL
open PySem PySem.Spec L2
section
variable {T : Tab} {K : PySem.W.Frag} {E : WX} {σ : L2.St} {ρ : Env} {F F' : Hp} {al al' : List Addr} {H H' : Hp} {S S' : Sto}
theorem isEmptyL {vs : List V} {ws : List W} (r : RwL T K F al vs ws) : vs.isEmpty = ws.isEmpty := by cases r <;> rfl
theorem truthy_sound {v : V} {w : W} {k : Bool} (g : Good T K F al S H) (r : Vw T K F al H v w) (e : truthy w = some k) : TruV K v H k := by
  unfold truthy at e
  split at e
  · cases e; cases r.non; rfl
  · cases e; cases r.bl; rfl
  · cases e; cases r.int; rfl
  · split at e
    · cases e; cases r.str
      rename_i hl
      exact ⟨by rw [← limit_eq]; exact hl, rfl⟩
    · cases e
  · cases e
    obtain ⟨a, xs, rfl, h1, h2⟩ := r.tup g.sub
    exact .inr (.inl ⟨xs, h1, by rw [isEmptyL h2]⟩)
  · cases e
    obtain ⟨a, xs, rfl, h1, h2⟩ := r.lst g.sub
    exact .inl ⟨xs, h1, by rw [isEmptyL h2]⟩
  · cases e
theorem atI_sound {vs : List V} {ws : List W} {i : Int} {w : W} (r : RwL T K F al vs ws) (h : atI ws i = some w) : ∃ v, atI vs i = some v ∧ Rw T K F al v w := by
  unfold atI at h ⊢
  rw [r.length]
  cases e : ixN ws.length i with
  | none => rw [e] at h; simp at h
  | some j =>
    rw [e] at h
    exact r.get h
theorem ix_sound {x y : V} {a b w : W} {Q : VK} (g : Good T K F al S H) (rx : Vw T K F al H x a) (ry : Rw T K F al y b) (e : getIx a b = some w) (h : RQ T K E σ F al H (.ok w S) Q) : rIx K x y H Q := by
  unfold getIx at e
  split at e
  · cases ry
    obtain ⟨p, xs, rfl, h1, h2⟩ := rx.tup g.sub
    obtain ⟨v, h3, h4⟩ := atI_sound h2 e
    exact .inr (.inl ⟨p, xs, _, v, rfl, rfl, h1, h3, h.val g h4⟩)
  · cases ry
    obtain ⟨p, xs, rfl, h1, h2⟩ := rx.lst g.sub
    obtain ⟨v, h3, h4⟩ := atI_sound h2 e
    exact .inl ⟨p, xs, _, v, rfl, rfl, h1, h3, h.val g h4⟩
  · cases e
def rSl (K : PySem.W.Frag) : V → Option Int → Option Int → Hp → VK → Prop := fun x lo hi H Q => rSlA K x lo hi H Q ∨ rSlL K x lo hi H Q
theorem sl_any {X : Cx} : SlR X (rSl X.K) := sl_tupA.or sl_list
theorem cut_sound {vs : List V} {ws : List W} (r : RwL T K F al vs ws) (lo hi : Option Int) : RwL T K F al (cutV vs lo hi) (cutW ws lo hi) := by
  unfold cutV cutW
  rw [r.length]
  exact (r.drop _).take _
theorem cut_whole {ws : List W} {lo hi : Option Int} (h : HT.sIx ws.length 0 lo = 0 ∧ HT.sIx ws.length ws.length hi = ws.length) : cutW ws lo hi = ws := by
  unfold cutW
  rw [h.1, h.2]
  simp
theorem sl_sound {x : V} {a w : W} {lo hi : Option Int} {Q : VK} (g : Good T K F al S H) (rx : Vw T K F al H x a) (e : getSl a lo hi = some w) (h : RQ T K E σ F al H (.ok w S) Q) : rSl K x lo hi H Q := by
  unfold getSl at e
  split at e
  · cases e
    obtain ⟨p, xs, rfl, h1, h2⟩ := rx.tup g.sub
    refine .inl ⟨p, xs, rfl, h1, fun hw => ?_, fun _ t ht => h.new g (cut_sound h2 _ _) ht⟩
    rw [h2.length] at hw
    refine h.val g ?_
    rw [cut_whole hw]
    cases rx with
    | same r => exact r
  · cases e
    obtain ⟨p, xs, rfl, h1, h2⟩ := rx.lst g.sub
    exact .inr ⟨p, xs, rfl, h1, fun t ht => h.newL g (cut_sound h2 _ _) ht⟩
  · cases e
theorem lookF_sound (hn : T.fld.Nodup) {f : Nat} {w : W} (hf : f < T.fld.length) : ∀ {gs : List (Str × V)} {fs : List (Nat × W)}, RwF T K F al gs fs → lookF f fs = some w → ∃ v, gs.lookup (T.f f) = some v ∧ Rw T K F al v w
  | _, _, .nil, e => by cases e
  | _, _, .cons (i := i) (fs := fs) l r t, e => by
    unfold lookF at e
    by_cases h : f = i
    · subst h
      rw [if_pos rfl] at e; cases e
      exact ⟨_, by rw [List.lookup_cons_self], r⟩
    · rw [if_neg h] at e
      obtain ⟨v, h1, h2⟩ := lookF_sound hn hf t e
      refine ⟨v, ?_, h2⟩
      rw [List.lookup_cons, show (T.f f == T.f i) = false from beq_eq_false_iff_ne.mpr fun q => h (Tab.f_inj hn hf l q)]
      exact h1
theorem noField {m : Str} (hm : m ∉ T.fld) : ∀ {gs : List (Str × V)} {fs : List (Nat × W)}, RwF T K F al gs fs → gs.lookup m = none
  | _, _, .nil => rfl
  | _, _, .cons (i := i) l r t => by
    rw [List.lookup_cons, show (m == T.f i) = false from beq_eq_false_iff_ne.mpr fun q => hm ?_]
    · exact noField hm t
    · rw [q]; unfold Tab.f; rw [List.getD_eq_getElem?_getD, List.getElem?_eq_getElem l]; exact List.getElem_mem l
/-- an instance's fields, however it stands -/
theorem getFld_sound {x : V} {a w : W} {c f : Nat} (hn : T.fld.Nodup) (hf : f < T.fld.length) (g : Good T K F al S H) (rx : Rw T K F al x a) (e : getFld S c f a = some w) :
    ∃ p dx gs v, x = .ref p ∧ H p = some (.ins (T.c c) dx gs) ∧ gs.lookup (T.f f) = some v ∧ Rw T K F al v w := by
  cases rx with
  | @ins a dx d gs fs h1 h2 =>
    replace e : (if d = c then lookF f fs else none) = some w := e
    split at e
    · rename_i q; subst q
      obtain ⟨v, h3, h4⟩ := lookF_sound hn hf h2 e
      exact ⟨_, _, _, v, rfl, g.sub _ _ h1, h3, h4⟩
    · cases e
  | @loc a n ha =>
    cases q : S[n]? with
    | none => simp only [getFld, q] at e; cases e
    | some cl =>
      have hc := g.cell n a cl ha q
      cases cl with
      | obj d fs =>
        simp only [getFld, q] at e
        split at e
        · rename_i q2; subst q2
          obtain ⟨dx, gs, h1, _, h2⟩ := hc
          obtain ⟨v, h3, h4⟩ := lookF_sound hn hf h2 e
          exact ⟨_, _, _, v, rfl, h1, h3, h4⟩
        · cases e
      | frz w2 =>
        cases w2 with
        | ins d fs =>
          simp only [getFld, q] at e
          split at e
          · rename_i q2; subst q2
            have hc : Rw T K F al (.ref a) (.ins d fs) := hc
            cases hc with
            | ins h1 h2 =>
              obtain ⟨v, h3, h4⟩ := lookF_sound hn hf h2 e
              exact ⟨_, _, _, v, rfl, g.sub _ _ h1, h3, h4⟩
          · cases e
        | _ => simp only [getFld, q] at e; cases e
      | _ => simp only [getFld, q] at e; cases e
  | _ => cases e
/-! ### isinstance -/
def Ty.s : Ty → String
  | .int => "int" | .bool => "bool" | .str => "str" | .tuple => "tuple" | .list => "list"
theorem tyX_lst {p : Addr} {xs : List V} (h : SqL K H p xs) : TyX K H (.ref p) (.type "list") := by
  rcases h with (h | ⟨o, h⟩) | ⟨o, its, n, h1, h2, _⟩
  · exact .base (.lst h)
  · exact .base (.frz h)
  · exact .kList h1 h2
theorem tyX_tup {p : Addr} {xs : List V} (h : SqT K H p xs) : TyX K H (.ref p) (.type "tuple") := by
  rcases h with (h | ⟨o, h⟩) | ⟨o, its, n, h1, h2, _⟩
  · exact .base (.tup h)
  · exact .fTuple h
  · exact .kTuple h1 h2
theorem isi_sound {x : V} {a : W} {t : Ty} {k : Bool} {Q : VK} (g : Good T K F al S H) (rx : Vw T K F al H x a) (e : isTy t a = some k) (h : Q (.bl k) H) : rIsi K [x, .ty t.s] H Q := by
  have kk : ∀ {s : String} {b : Bool}, kitB s t.s = some b → TyX K H x (.type s) → b = k → rIsi K [x, .ty t.s] H Q := fun {s b} h1 h2 h3 => ⟨x, .ty t.s, .type s, .type t.s, b, rfl, .ty _, h2, kit_ty h1, by rw [h3]; exact h⟩
  cases a with
  | non => cases rx.non; cases t <;> (cases e; exact kk (s := "NoneType") (by decide +kernel) (.base .non) rfl)
  | bl b => cases rx.bl; cases t <;> (cases e; exact kk (s := "bool") (by decide +kernel) (.base (.bl _)) rfl)
  | int i => cases rx.int; cases t <;> (cases e; exact kk (s := "int") (by decide +kernel) (.base (.int _)) rfl)
  | str i => cases rx.str; cases t <;> (cases e; exact kk (s := "str") (by decide +kernel) (.base (.str _)) rfl)
  | tup ws => obtain ⟨p, xs, rfl, h1, _⟩ := rx.tup g.sub; cases t <;> (cases e; exact kk (s := "tuple") (by decide +kernel) (tyX_tup h1) rfl)
  | lst ws => obtain ⟨p, xs, rfl, h1, _⟩ := rx.lst g.sub; cases t <;> (cases e; exact kk (s := "list") (by decide +kernel) (tyX_lst h1) rfl)
  | ins c fs => cases t <;> cases e
  | loc n => cases t <;> cases e
  | tpx n => cases t <;> cases e
  | opq n m => cases t <;> cases e
  | lam => cases t <;> cases e
  | fn n => cases t <;> cases e
/-! ### built-in functions -/
theorem allB_sound : ∀ {ws : List W} {bs : List Bool}, allB ws = some bs → ws = bs.map W.bl
  | [], bs, e => by cases e; rfl
  | .bl b :: ws, bs, e => by
    unfold allB at e
    rw [Option.map_eq_some_iff] at e
    obtain ⟨cs, h1, rfl⟩ := e
    rw [List.map_cons, ← allB_sound h1]
  | .non :: _, _, e => by cases e
  | .int _ :: _, _, e => by cases e
  | .str _ :: _, _, e => by cases e
  | .tup _ :: _, _, e => by cases e
  | .lst _ :: _, _, e => by cases e
  | .ins _ _ :: _, _, e => by cases e
  | .loc _ :: _, _, e => by cases e
  | .tpx _ :: _, _, e => by cases e
  | .opq _ _ :: _, _, e => by cases e
  | .lam :: _, _, e => by cases e
  | .fn _ :: _, _, e => by cases e
theorem allI_sound : ∀ {ws : List W} {bs : List Int}, allI ws = some bs → ws = bs.map W.int
  | [], bs, e => by cases e; rfl
  | .int b :: ws, bs, e => by
    unfold allI at e
    rw [Option.map_eq_some_iff] at e
    obtain ⟨cs, h1, rfl⟩ := e
    rw [List.map_cons, ← allI_sound h1]
  | .non :: _, _, e => by cases e
  | .bl _ :: _, _, e => by cases e
  | .str _ :: _, _, e => by cases e
  | .tup _ :: _, _, e => by cases e
  | .lst _ :: _, _, e => by cases e
  | .ins _ _ :: _, _, e => by cases e
  | .loc _ :: _, _, e => by cases e
  | .tpx _ :: _, _, e => by cases e
  | .opq _ _ :: _, _, e => by cases e
  | .lam :: _, _, e => by cases e
  | .fn _ :: _, _, e => by cases e
def Prim.nm : Prim → Str
  | .len => "len" | .abs => "abs" | .max => "max" | .min => "min" | .all => "all" | .any => "any" | .tuple => "tuple" | .list => "list" | .divmod => "divmod" | .sum => "sum" | .int => "int" | .bool => "bool"
abbrev rCall := List V → Hp → VK → Prop
def rPrim (K : PySem.W.Frag) : Prim → rCall
  | .len => fun xs H Q => (∃ p ys, xs = [.ref p] ∧ (SqL K H p ys ∨ SqT K H p ys) ∧ Q (.int ys.length) H) ∨ ∃ z, xs = [.str z] ∧ z.length ≤ sizeLine ∧ Q (.int z.length) H
  | .abs => fun xs H Q => ∃ i, xs = [.int i] ∧ Q (.int (if i < 0 then -i else i)) H
  | .max => fun xs H Q => ∃ i j, xs = [.int i, .int j] ∧ Q (.int (if j > i then j else i)) H
  | .min => fun xs H Q => ∃ i j, xs = [.int i, .int j] ∧ Q (.int (if j < i then j else i)) H
  | .all => rAll K
  | .any => rAny K
  | .tuple => fun xs H Q => ∃ p ys, xs = [.ref p] ∧ ((SqL K H p ys ∧ ∀ l, H l = none → Q (.ref l) (upd H l (.tup ys))) ∨ (SqT K H p ys ∧ Q (.ref p) H))
  | .list => fun xs H Q => ∃ p ys, xs = [.ref p] ∧ (SqL K H p ys ∨ SqT K H p ys) ∧ ∀ l, H l = none → Q (.ref l) (upd H l (.lst ys))
  | .divmod => fun xs H Q => ∃ i j, xs = [.int i, .int j] ∧ CDiv i j ∧ ∀ p, H p = none → Q (.ref p) (upd H p (.tup [.int (i / j), .int (i % j)]))
  | .sum => rSum K
  | .int => fun xs H Q => (∃ i, xs = [.int i] ∧ Q (.int i) H) ∨ ∃ k, xs = [.bl k] ∧ Q (.int (if k then 1 else 0)) H
  | .bool => fun xs H Q => (∃ i, xs = [.int i] ∧ Q (.bl (i != 0)) H) ∨ ∃ k, xs = [.bl k] ∧ Q (.bl k) H
theorem vwL1 {xs : List V} {w : W} (h : VwL T K F al H xs [w]) : ∃ x, xs = [x] ∧ Vw T K F al H x w := by
  cases h with
  | cons a b => cases b; exact ⟨_, rfl, a⟩
theorem vwL2 {xs : List V} {w u : W} (h : VwL T K F al H xs [w, u]) : ∃ x y, xs = [x, y] ∧ Vw T K F al H x w ∧ Vw T K F al H y u := by
  cases h with
  | cons a b => cases b with
    | cons b c => cases c; exact ⟨_, _, rfl, a, b⟩
theorem prim_sound {p : Prim} {xs : List V} {ws : List W} {w : W} {Q : VK} (g : Good T K F al S H) (rx : VwL T K F al H xs ws) (e : prim p ws = some w) (h : RQ T K E σ F al H (.ok w S) Q) : rPrim K p xs H Q := by
  unfold prim at e
  split at e
  · cases e; obtain ⟨x, rfl, r⟩ := vwL1 rx
    obtain ⟨q, ys, rfl, h1, h2⟩ := r.tup g.sub
    exact .inl ⟨q, ys, rfl, .inr h1, by rw [h2.length]; exact h.val g (.int _)⟩
  · cases e; obtain ⟨x, rfl, r⟩ := vwL1 rx
    obtain ⟨q, ys, rfl, h1, h2⟩ := r.lst g.sub
    exact .inl ⟨q, ys, rfl, .inl h1, by rw [h2.length]; exact h.val g (.int _)⟩
  · split at e
    · cases e; obtain ⟨x, rfl, r⟩ := vwL1 rx; cases r.str
      rename_i hl
      exact .inr ⟨_, rfl, by rw [← limit_eq]; exact hl, h.val g (.int _)⟩
    · cases e
  · cases e; obtain ⟨x, rfl, r⟩ := vwL1 rx; cases r.int
    exact ⟨_, rfl, h.val g (.int _)⟩
  · cases e; obtain ⟨x, y, rfl, r1, r2⟩ := vwL2 rx; cases r1.int; cases r2.int
    exact ⟨_, _, rfl, h.val g (.int _)⟩
  · cases e; obtain ⟨x, y, rfl, r1, r2⟩ := vwL2 rx; cases r1.int; cases r2.int
    exact ⟨_, _, rfl, h.val g (.int _)⟩
  · rw [Option.map_eq_some_iff] at e
    obtain ⟨bs, h1, rfl⟩ := e
    obtain ⟨x, rfl, r⟩ := vwL1 rx
    obtain ⟨q, ys, rfl, h3, h4⟩ := r.lst g.sub
    rw [allB_sound h1] at h4
    have := h4.bls
    subst this
    exact ⟨q, bs, rfl, h3, h.val g (.bl _)⟩
  · rw [Option.map_eq_some_iff] at e
    obtain ⟨bs, h1, rfl⟩ := e
    obtain ⟨x, rfl, r⟩ := vwL1 rx
    obtain ⟨q, ys, rfl, h3, h4⟩ := r.lst g.sub
    rw [allB_sound h1] at h4
    have := h4.bls
    subst this
    exact ⟨q, bs, rfl, h3, h.val g (.bl _)⟩
  · cases e; obtain ⟨x, rfl, r⟩ := vwL1 rx
    obtain ⟨q, ys, rfl, h1, h2⟩ := r.tup g.sub
    refine ⟨q, ys, rfl, .inr ⟨h1, h.val g ?_⟩⟩
    cases r with
    | same r => exact r
  · cases e; obtain ⟨x, rfl, r⟩ := vwL1 rx
    obtain ⟨q, ys, rfl, h1, h2⟩ := r.lst g.sub
    exact ⟨q, ys, rfl, .inl ⟨h1, fun t ht => h.new g h2 ht⟩⟩
  · cases e; obtain ⟨x, rfl, r⟩ := vwL1 rx
    obtain ⟨q, ys, rfl, h1, h2⟩ := r.tup g.sub
    exact ⟨q, ys, rfl, .inr h1, fun t ht => h.newL g h2 ht⟩
  · cases e; obtain ⟨x, rfl, r⟩ := vwL1 rx
    obtain ⟨q, ys, rfl, h1, h2⟩ := r.lst g.sub
    exact ⟨q, ys, rfl, .inl h1, fun t ht => h.newL g h2 ht⟩
  · split at e
    · cases e; obtain ⟨x, y, rfl, r1, r2⟩ := vwL2 rx; cases r1.int; cases r2.int
      rename_i hl
      exact ⟨_, _, rfl, hl, fun t ht => h.new g (.cons (.int _) (.cons (.int _) .nil)) ht⟩
    · cases e
  · rw [Option.map_eq_some_iff] at e
    obtain ⟨bs, h1, rfl⟩ := e
    obtain ⟨x, rfl, r⟩ := vwL1 rx
    obtain ⟨q, ys, rfl, h3, h4⟩ := r.lst g.sub
    rw [allI_sound h1] at h4
    have := h4.ints
    subst this
    exact ⟨q, bs, rfl, h3, h.val g (.int _)⟩
  · cases e; obtain ⟨x, rfl, r⟩ := vwL1 rx; cases r.int
    exact .inl ⟨_, rfl, h.val g (.int _)⟩
  · cases e; obtain ⟨x, rfl, r⟩ := vwL1 rx; cases r.bl
    exact .inr ⟨_, rfl, h.val g (.int _)⟩
  · cases e; obtain ⟨x, rfl, r⟩ := vwL1 rx; cases r.int
    exact .inl ⟨_, rfl, h.val g (.bl _)⟩
  · cases e; obtain ⟨x, rfl, r⟩ := vwL1 rx; cases r.bl
    exact .inr ⟨_, rfl, h.val g (.bl _)⟩
  · cases e
theorem items_sound {v : V} {w : W} {ws : List W} (g : Good T K F al S H) (r : Vw T K F al H v w) (e : items w = some ws) : ∃ a xs, v = .ref a ∧ (SqL K H a xs ∨ SqT K H a xs) ∧ RwL T K F al xs ws := by
  unfold items at e
  split at e
  · cases e; obtain ⟨a, xs, h1, h2, h3⟩ := r.tup g.sub; exact ⟨a, xs, h1, .inr h2, h3⟩
  · cases e
    cases r with
    | same r => cases r with
      | tpx q d r => exact ⟨_, _, rfl, .inr (.inl (.inr ⟨_, g.sub _ _ q⟩)), r⟩
  · cases e; obtain ⟨a, xs, h1, h2, h3⟩ := r.lst g.sub; exact ⟨a, xs, h1, .inl h2, h3⟩
  · cases e
/-! ### targets -/
def gAll : List Nat → TGs
  | [] => gNil
  | i :: is => gCons (gName i) (gAll is)
theorem wipe_set {σ : L2.St} {i : Nat} {v : Option V} : ∀ {vs : List Nat}, i ∈ vs → L2.wipe (σ.set i v) vs = L2.wipe σ vs
  | [], h => by cases h
  | u :: vs, h => by
    unfold L2.wipe
    by_cases e : i ∈ vs
    · rw [wipe_set e]
    · have : i = u := by rcases List.mem_cons.mp h with h | h; exact h; exact absurd h e
      subst this
      have : ∀ (ws : List Nat) (σ : L2.St), (L2.wipe (σ.set i v) ws).set i none = (L2.wipe σ ws).set i none := by
        intro ws
        induction ws with
        | nil => intro σ; show (σ.set i v).set i none = σ.set i none; rw [List.set_set]
        | cons x ws ih =>
          intro σ
          show ((L2.wipe (σ.set i v) ws).set x none).set i none = ((L2.wipe σ ws).set x none).set i none
          by_cases q : x = i
          · subst q; rw [List.set_set, List.set_set]; exact ih σ
          · rw [List.set_comm _ _ q, ih σ, List.set_comm _ _ q]
      exact this vs σ
theorem wipe_envOk (e : EnvOk T K F al σ ρ) : ∀ vs : List Nat, EnvOk T K F al (L2.wipe σ vs) (wipeW ρ vs)
  | [] => e
  | v :: vs => (wipe_envOk e vs).wipe v
/-- Q is wanted of all slots that fit, the slots out of vs as they were -/
theorem gAll_sound (vs : List Nat) : ∀ {is : List Nat} {xs : List V} {ws : List W} {σ σ0 : L2.St} {ρ ρ' : Env} {Q : L2.St → Hp → Prop}, RwL T K F al xs ws → EnvOk T K F al σ ρ → setAll is ws ρ = some ρ' → (∀ i ∈ is, i ∈ vs) → L2.wipe σ vs = L2.wipe σ0 vs →
    (∀ σ', EnvOk T K F al σ' ρ' → L2.wipe σ' vs = L2.wipe σ0 vs → Q σ' H) → gAll is xs σ H Q
  | [], _, _, σ, σ0, ρ, ρ', Q, .nil, e, h, _, hw, k => by cases h; exact ⟨rfl, k σ e hw⟩
  | [], _, _, _, _, _, _, _, .cons _ _, _, h, _, _, _ => by cases h
  | _ :: _, _, _, _, _, _, _, _, .nil, _, h, _, _, _ => by cases h
  | i :: is, _, _, σ, σ0, ρ, ρ', Q, .cons r t, e, h, hv, hw, k => by
    refine ⟨_, _, rfl, ?_⟩
    exact gAll_sound vs t (e.set r i) h (fun j hj => hv j (List.mem_cons_of_mem _ hj)) (by rw [wipe_set (hv i (List.mem_cons_self ..))]; exact hw) k
end
/-! ### a star in a target -/
section
variable {prog : Program} {w : World} {A : Around} {E : Value → Shared → Prop} {s : Shared} {env : PySem.Env}
theorem starT {l : Addr} {items : Array Value} {n i : Nat} {Q : List Value → Shared → Prop} (hl : PyProof.Rows.IsTup s.heap l items) (hh : A.handled = none) (hi : i < n) (hn : n ≤ items.size + 1) (hz : items.size ≤ 16384)
    (h : ∀ (h' : Heap) (tk : Nat), (∀ b o, s.heap.get? b = some o → h'.get? b = some o) → Q (items.toList.take i ++ [.ref h'.objs.size] ++ (items.toList.drop i).drop (items.size + 1 - n)) { s with heap := h'.push { cls := .type "list", data := .seq ((items.toList.drop i).take (items.size + 1 - n)).toArray }, toks := tk }) :
    wpAny (model prog w) A (unpackItems (.ref l) n (some i)) Q E s := by
  have hlt : l ≠ s.heap.objs.size := by obtain ⟨o, ho, _⟩ := hl; exact Nat.ne_of_lt (Heap.lt_size ho)
  unfold unpackItems
  refine wpAny_bind ?_
  unfold notIterableAtAll
  refine wpAny_bind (wpAny_specialOf hl.typeIs PyProof.Rows.slot_tuple_iter.lookup ?_)
  refine wpAny_pure ?_
  simp only [Bool.false_eq_true, if_false]
  refine wpAny_bind (wpAny_holding (PyProof.Rows.iter_tuple hl ?_))
  refine wpAny_bind (wpAny_holding (PyProof.Rows.draw_tuple hlt i 0 _ _ ⟨_, Heap.get?_push_size _ rfl, rfl, rfl⟩ (hl.push _) (by omega) fun h₁ hit₁ hs₁ => ?_))
  have hl₁ : PyProof.Rows.IsTup h₁ l items := (hl.push _).extBut hs₁.extBut hlt
  rw [Nat.zero_add] at hit₁
  have hit₁' := hit₁
  obtain ⟨oi, hoi, _⟩ := hit₁'
  have hl₁' := hl₁
  obtain ⟨ol, hol, _⟩ := hl₁'
  rw [List.drop_zero]
  have hfl : (items.toList.take i).length = i := by rw [List.length_take, Array.length_toList]; omega
  rw [if_neg (show ¬ ((items.toList.take i).length < i) by rw [hfl]; omega)]
  refine wpAny_bind (wpAny_holding (PySem.W.kun_collect (s := { s with heap := h₁ }) (T := "tuple_iterator") (.inr (.inr (.inr rfl))) (Walks.tuple (A := A.in1) hh s.heap.objs.size l hlt items) (fun j u st => st.1.typeIs) (k := i) (by omega) ⟨hit₁, hl₁⟩ (Heap.lt_size hoi) (Heap.lt_size hol) (fun h₂ tk hk => ?_) (by rw [sizeLine_eq]; omega)))
  have hrl : (items.toList.drop i).length = items.size - i := by rw [List.length_drop, Array.length_toList]
  have hmid : (items.toList.drop i).length - (n - 1 - i) = items.size + 1 - n := by rw [hrl]; omega
  show wpAny _ _ (if (items.toList.drop i).length < n - 1 - i then _ else _) _ _ _
  rw [if_neg (by rw [hrl]; omega)]
  show wpAny _ _ (newList ((items.toList.drop i).take ((items.toList.drop i).length - (n - 1 - i))) >>= fun d => pure (items.toList.take i ++ [d] ++ (items.toList.drop i).drop ((items.toList.drop i).length - (n - 1 - i)))) _ _ _
  rw [hmid]
  have he : Heap.ExtBut s.heap.objs.size s.heap h₂ := fun b o hb e => hk b o hb (hs₁.extBut b o hb (Heap.get?_push_of_some _ e))
  exact wpAny_bind (wpAny_newList (s := { s with heap := h₂, toks := tk }) (wpAny_pure (h h₂ tk fun b o e => he b o (Nat.ne_of_lt (Heap.lt_size e)) e)))
end
/-- a, b, *c = a tuple, the starred one last -/
def gStar (K : PySem.W.Frag) (n : Nat) (t : TGs) : TG := fun v σ H Q => ∃ a xs, v = .ref a ∧ SqT K H a xs ∧ n ≤ xs.length ∧ xs.length ≤ 16384 ∧ ∀ p, H p = none → t (xs.take n ++ [.ref p]) σ (upd H p (.lst (xs.drop n))) Q
theorem pg_star {X : Cx} {pos : Pos} {es : List Expr} {k : Nat} {t : TGs} {n : Nat} (hc : X.calm = true) (h : PGs X es t)
    (hn : (assignEach es X.env).length = n + 1) (hst : (assignEach es X.env).findIdx? (·.1) = some n) : PG X (.Tuple es k pos) (gStar X.K n t) := by
  refine ⟨fun pins s σ H v u Q I r hw => ?_⟩
  obtain ⟨a, xs, e1, hq, h1, h2, hw⟩ := hw
  subst e1
  cases r
  obtain ⟨its, rv, ht, hz⟩ := I.tuple hq
  have hl := rv.length
  rw [PyProof.Rows.assign_Tuple]
  refine wpAny_bind (wpAny_standAt ?_)
  unfold unpack
  rw [hn, hst]
  refine wpAny_bind (wpAny_holding (starT ht (I.ok.hd hc) (Nat.lt_succ_self n) (by simp; omega) (by simp; omega) fun h' tk hk => ?_))
  have I1 : Inv X pins σ H { s with heap := h', toks := tk } := I.kept hk
  have e2 : its.toArray.size + 1 - (n + 1) = its.length - n := by rw [List.size_toArray]; omega
  have e3 : (its.toArray.toList.drop n).take (its.toArray.size + 1 - (n + 1)) = its.drop n := by rw [e2]; exact List.take_of_length_le (by simp)
  have e4 : (its.toArray.toList.drop n).drop (its.toArray.size + 1 - (n + 1)) = [] := by rw [e2]; exact List.drop_of_length_le (by simp)
  rw [e3, e4]
  have I2 := I1.lnew (t' := tk) (rv.drop n) (by rw [List.length_drop]; omega)
  refine h.run pins _ σ _ (xs.take n ++ [.ref h'.objs.size]) _ Q I2 ?_ (hw _ I1.fresh)
  rw [List.append_nil]
  exact (rv.take n).append (.cons rfl .nil)
end DL
set_option Elab.async false
set_option linter.all false
set_option maxRecDepth 100000
set_option maxHeartbeats 4000000
/-! Wf: parts of expressions as functions on data, each with its rule. -/
namespace DL
open PySem PySem.Spec L2
abbrev Me := Env → Sto → Res
abbrev Ml := Env → Sto → LRes
abbrev Mb := Env → Sto → BRes
abbrev EF : WX := fun _ _ _ _ => False
def mVar (i : Nat) : Me := fun ρ S => match ρ[i]? with
  | some (some w) => .ok w S
  | _ => .bad
def mCon (w : W) : Me := fun _ S => .ok w S
def mNil : Ml := fun _ S => .ok [] S
def mCons (m : Me) (ms : Ml) : Ml := fun ρ S => (m ρ S).bindL fun w S => (ms ρ S).bindL fun ws S => .ok (w :: ws) S
def mTup (ms : Ml) : Me := fun ρ S => (ms ρ S).bind fun ws S => if ws.length ≤ limit then .ok (.tup ws) S else .bad
def mLst (ms : Ml) : Me := fun ρ S => (ms ρ S).bind fun ws S => if ws.length ≤ limit then .ok (.lst ws) S else .bad
def mNLst (ms : Ml) : Me := fun ρ S => (ms ρ S).bind fun ws S => if ws.length ≤ limit then newCellR (.lst ws) S else .bad
def mBin (o : Operator) (a b : Me) : Me := fun ρ S => (a ρ S).bind fun x S => (b ρ S).bind fun y S => optR S (binop o (deref S x) (deref S y))
def negW : W → Option W
  | .int i => some (.int (-i))
  | _ => none
def mNeg (a : Me) : Me := fun ρ S => (a ρ S).bind fun x S => optR S (negW x)
def mNot (a : Me) : Me := fun ρ S => (a ρ S).bind fun x S => optR S ((truthy (deref S x)).map fun k => .bl (!k))
def mAnd (a b : Me) : Me := fun ρ S => (a ρ S).bind fun x S => match truthy (deref S x) with
  | some true => b ρ S
  | some false => .ok x S
  | none => .bad
def mOr (a b : Me) : Me := fun ρ S => (a ρ S).bind fun x S => match truthy (deref S x) with
  | some true => .ok x S
  | some false => b ρ S
  | none => .bad
def mCmp (o : CmpOp) (a b : Me) : Me := fun ρ S => (a ρ S).bind fun x S => (b ρ S).bind fun y S => optR S ((cmpop o (deref S x) (deref S y)).map .bl)
def mChain (o p : CmpOp) (a b c : Me) : Me := fun ρ S => (a ρ S).bind fun x S => (b ρ S).bind fun y S => match cmpop o (deref S x) (deref S y) with
  | some true => (c ρ S).bind fun z S => optR S ((cmpop p (deref S y) (deref S z)).map .bl)
  | some false => .ok (.bl false) S
  | none => .bad
def mIdx (a b : Me) : Me := fun ρ S => (a ρ S).bind fun x S => (b ρ S).bind fun y S => optR S (getIx (deref S x) y)
def mPart (a : Me) : Me := fun ρ S => (a ρ S).bind fun x S => match x with
  | .int i => .ok (.int i) S
  | _ => .bad
def mSlc (a l h : Me) : Me := fun ρ S => (a ρ S).bind fun x S => (l ρ S).bind fun l S => match partW l with
  | none => .bad
  | some l => (h ρ S).bind fun h S => match partW h with
    | none => .bad
    | some u => optR S (getSl (deref S x) l u)
def mFld (c f : Nat) (a : Me) : Me := fun ρ S => (a ρ S).bind fun x S => optR S (getFld S c f x)
def mPrim (p : Prim) (ms : Ml) : Me := fun ρ S => (ms ρ S).bind fun ws S => optR S (DL.prim p (ws.map (deref S)))
def mNlist (a : Me) : Me := fun ρ S => (a ρ S).bind fun x S => match items (deref S x) with
  | some ws => newCellR (.lst ws) S
  | none => .bad
def mIsi (t : Ty) (a : Me) : Me := fun ρ S => (a ρ S).bind fun x S => optR S ((isTy t (deref S x)).map .bl)
def mFrz (a : Me) : Me := fun ρ S => (a ρ S).bind freezeR
def appR (x y : W) (S : Sto) : Res := match x with
  | .loc n => match S[n]? with
    | some (.lst ws) => if ws.length < limit then .ok .non (S.set n (.lst (ws ++ [y]))) else .bad
    | _ => .bad
  | _ => .bad
def isCell (S : Sto) : W → Bool
  | .loc n => match S[n]? with
    | some (.lst _) => true
    | _ => false
  | _ => false
def mApp (a b : Me) : Me := fun ρ S => (a ρ S).bind fun x S => if isCell S x then (b ρ S).bind fun y S => appR x y S else .bad
def mLc (mt : Bool) (vs : List Nat) (tg : Tg) (it : Ml) (c : Mb) (elt : Me) : Me := fun ρ S => (it ρ S).bind fun xs S => if xs.length ≤ limit then
    (compM (lcStep ρ vs tg c elt) xs [] S).bind fun ys S => if mt then newCellR (.lst ys) S else .ok (.lst ys) S
  else .bad
def bYes : Mb := fun _ S => .ok true S
def bTest (a : Me) : Mb := fun ρ S => test (a ρ S)
def bAnd (a b : Mb) : Mb := fun ρ S => (a ρ S).bindB fun k S => if k then b ρ S else .ok false S
def bOr (a b : Mb) : Mb := fun ρ S => (a ρ S).bindB fun k S => if k then .ok true S else b ρ S
def bNot (a : Mb) : Mb := fun ρ S => (a ρ S).bindB fun k S => .ok (!k) S
def bIfx (c a b : Mb) : Mb := fun ρ S => (c ρ S).bindB fun k S => if k then a ρ S else b ρ S
def mIfx (c : Mb) (a b : Me) : Me := fun ρ S => (c ρ S).bind fun k S => if k then a ρ S else b ρ S
/-! what is walked -/
def jE (a : Me) : Ml := fun ρ S => (a ρ S).bindL fun x S => optL S (items x)
def jRange1 (a : Me) : Ml := fun ρ S => (a ρ S).bindL fun x S => match x with
  | .int j => if -(2 ^ 62) ≤ j ∧ j < 2 ^ 62 then .ok (rangeW 0 j.toNat) S else .bad
  | _ => .bad
def jRange2 (a b : Me) : Ml := fun ρ S => (a ρ S).bindL fun x S => (b ρ S).bindL fun y S => match x, y with
  | .int i, .int j => if (-(2 ^ 62) ≤ i ∧ i < 2 ^ 62) ∧ -(2 ^ 62) ≤ j ∧ j < 2 ^ 62 then .ok (rangeW i (j - i).toNat) S else .bad
  | _, _ => .bad
def jEnum (c : Int) (a : Me) : Ml := fun ρ S => (a ρ S).bindL fun x S => optL S ((items x).map (enumI c))
where enumI (n : Int) : List W → List W
  | [] => []
  | x :: xs => .tup [.int n, x] :: enumI (n + 1) xs
def jZip (a b : Me) : Ml := fun ρ S => (a ρ S).bindL fun x S => (b ρ S).bindL fun y S => match x, y with
  | .tup xs, .tup ys => .ok (zipW xs ys) S
  | .lst xs, .lst ys => .ok (zipW xs ys) S
  | _, _ => .bad
def jZips (a b : Me) : Ml := fun ρ S => (a ρ S).bindL fun x S => (b ρ S).bindL fun y S => match items x, items y with
  | some xs, some ys => if xs.length = ys.length then .ok (zipW xs ys) S else .bad
  | _, _ => .bad
theorem peM {X : Cx} {e : Expr} {t t' : TE} (h : PE X e t) (i : ∀ σ H Q, t' σ H Q → t σ H Q) : PE X e t' := ⟨fun pins s σ H Q I w => h.run pins s σ H Q I (i σ H Q w)⟩
theorem paM {X : Cx} {e : List Expr} {t t' : TA} (h : PA X e t) (i : ∀ σ H Q, t' σ H Q → t σ H Q) : PA X e t' := ⟨fun pos pins s σ H Q I w => h.run pos pins s σ H Q I (i σ H Q w)⟩
theorem ptM {X : Cx} {e : Expr} {t t' : TT} (h : PT X e t) (i : ∀ σ H Q, t' σ H Q → t σ H Q) : PT X e t' := ⟨fun pins s σ H Q I w => h.run pins s σ H Q I (i σ H Q w)⟩
theorem pwM {X : Cx} {e : Expr} {t t' : TT} (h : PW X e t) (i : ∀ σ H Q, t' σ H Q → t σ H Q) : PW X e t' := ⟨fun wh pins s σ H Q I w => h.run wh pins s σ H Q I (i σ H Q w)⟩
theorem poM {X : Cx} {e : Option Expr} {t t' : TO} (h : PO X e t) (i : ∀ σ H Q, t' σ H Q → t σ H Q) : PO X e t' := ⟨fun pins s σ H Q I w => h.run pins s σ H Q I (i σ H Q w)⟩
theorem piM {X : Cx} {tg e : Expr} {t t' : TI} (h : PI X tg e t) (i : ∀ σ H R, t' σ H R → t σ H R) : PI X tg e t' := ⟨fun pins s σ H Q I w => h.run pins s σ H Q I (i σ H Q w)⟩
theorem psM {X : Cx} {e : Stmt} {t t' : TS} (h : PS X e t) (i : ∀ D σ H, t' D σ H → t D σ H) : PS X e t' := ⟨fun pins s σ H D I w => h.run pins s σ H D I (i D σ H w)⟩
theorem pssM {X : Cx} {e : List Stmt} {t t' : TS} (h : PSs X e t) (i : ∀ D σ H, t' D σ H → t D σ H) : PSs X e t' := ⟨fun pins s σ H D I w => h.run pins s σ H D I (i D σ H w)⟩
section
variable {X : Cx} {T : Tab} {E : WX} {pos : Pos} {a b c : Expr} {p q r : Me} {es : List Expr} {ps : Ml} {bp bq : Mb}
theorem w_var {i : Nat} {x : Str} (hN : X.N[i]? = some x) (hv : Vis X.env.scope x) (hd : (x == ("__debug__" : Str)) = false) (hcd : (x == ("__classdict__" : Str)) = false) : PE X (.Name x pos) (tW T X.K E (mVar i)) := by
  refine peM (pe_var hN hv hd hcd) ?_
  rintro σ H Q ⟨F, al, S, ρ, g, e, h⟩
  unfold mVar at h
  split at h
  · rename_i w hw
    obtain ⟨v, h1, h2⟩ := e.2 i w hw
    exact ⟨v, h1, h.val g h2⟩
  · exact h.elim
theorem w_con {v : V} {w : W} (r : ∀ F al, Rw T X.K F al v w) (h : PE X a (tC v)) : PE X a (tW T X.K E (mCon w)) := by
  refine peM h ?_
  rintro σ H Q ⟨F, al, S, ρ, g, e, h⟩
  exact h.val g (r F al)
theorem w_int {i : Int} {j} : PE X (.Constant (.int i) j pos) (tW T X.K E (mCon (.int i))) := w_con (fun _ _ => .int i) pe_int
theorem w_bl {i : Bool} {j} : PE X (.Constant (.bool i) j pos) (tW T X.K E (mCon (.bl i))) := w_con (fun _ _ => .bl i) pe_bl
theorem w_non {j} : PE X (.Constant .none j pos) (tW T X.K E (mCon .non)) := w_con (fun _ _ => .non) pe_non
theorem w_str {i : Str} {j} : PE X (.Constant (.str i) j pos) (tW T X.K E (mCon (.str i))) := w_con (fun _ _ => .str i) pe_str
theorem w_glob {x : Str} {v : V} {u : Value} {w : W} (hg : Gl X x) (hm : X.mg x = some u) (r : RelV v u) (rw : ∀ F al, Rw T X.K F al v w) (hd : (x == ("__debug__" : Str)) = false) : PE X (.Name x pos) (tW T X.K E (mCon w)) := w_con rw (pe_glob hg hm r hd)
theorem w_nil : PA X [] (tL T X.K E mNil) := by
  refine paM pa_nil ?_
  rintro σ H Q ⟨F, al, S, ρ, g, e, h⟩
  exact RQ.valL h g .nil
theorem w_cons (ha : PE X a (tW T X.K E p)) (hr : PA X es (tL T X.K E ps)) (hs : starEach (a :: es) X.env = (false, eval a X.env) :: starEach es X.env) : PA X (a :: es) (tL T X.K E (mCons p ps)) := by
  refine paM (pa_cons ha hr hs) ?_
  rintro σ H Q ⟨F, al, S, ρ, g, e, h⟩
  refine (tW.bindL g e h).imp fun x H1 ⟨F1, al1, S1, w, m, r, h1⟩ => ?_
  refine (tL.bindL m.g m.e h1).imp fun y H2 ⟨F2, al2, S2, u, m2, r2, h2⟩ => ?_
  exact RQ.valL h2 m2.g (.cons (r.post m2.p) r2)
theorem w_tup {k : Nat} (h : PA X es (tL T X.K E ps)) : PE X (.Tuple es k pos) (tW T X.K E (mTup ps)) := by
  refine peM (pe_tup h) ?_
  rintro σ H Q ⟨F, al, S, ρ, g, e, h⟩
  refine (tL.bind g e h).imp fun x H1 ⟨F1, al1, S1, w, m, r, h1⟩ => ?_
  split at h1
  · rename_i hl
    exact ⟨by rw [r.length, ← limit_eq]; exact hl, fun p hp => h1.new m.g r hp⟩
  · exact h1.elim
theorem w_lst (h : PA X es (tL T X.K E ps)) : PE X (.List es pos) (tW T X.K E (mLst ps)) := by
  refine peM (pe_lst h) ?_
  rintro σ H Q ⟨F, al, S, ρ, g, e, h⟩
  refine (tL.bind g e h).imp fun x H1 ⟨F1, al1, S1, w, m, r, h1⟩ => ?_
  split at h1
  · rename_i hl
    exact ⟨by rw [r.length, ← limit_eq]; exact hl, fun p hp => h1.newL m.g r hp⟩
  · exact h1.elim
theorem w_nlst (h : PA X es (tL T X.K E ps)) : PE X (.List es pos) (tW T X.K E (mNLst ps)) := by
  refine peM (pe_lst h) ?_
  rintro σ H Q ⟨F, al, S, ρ, g, e, h⟩
  refine (tL.bind g e h).imp fun x H1 ⟨F1, al1, S1, w, m, r, h1⟩ => ?_
  split at h1
  · rename_i hl
    exact ⟨by rw [r.length, ← limit_eq]; exact hl, fun p hp => h1.newC m.g r hp⟩
  · exact h1.elim
theorem w_bin {o : Operator} (ha : PE X a (tW T X.K E p)) (hb : PE X b (tW T X.K E q)) : PE X (.BinOp a o b pos) (tW T X.K E (mBin o p q)) := by
  refine peM (pe_op (op_bin o) ha hb) ?_
  rintro σ H Q ⟨F, al, S, ρ, g, e, h⟩
  refine (tW.bind g e h).imp fun x H1 ⟨F1, al1, S1, w, m, r, h1⟩ => ?_
  refine (tW.bind m.g m.e h1).imp fun y H2 ⟨F2, al2, S2, u, m2, r2, h2⟩ => ?_
  exact bin_sound m2.g (vw_of m2.g (r.post m2.p)) (vw_of m2.g r2) h2
theorem optR_some {T : Tab} {K : PySem.W.Frag} {E : WX} {σ : L2.St} {F : Hp} {al : List Addr} {H : Hp} {S : Sto} {Q : VK} {o : Option W} (h : RQ T K E σ F al H (optR S o) Q) : ∃ w, o = some w ∧ RQ T K E σ F al H (.ok w S) Q := by
  cases o with
  | none => exact h.elim
  | some w => exact ⟨w, rfl, h⟩
theorem w_neg (ha : PE X a (tW T X.K E p)) : PE X (.UnaryOp .USub a pos) (tW T X.K E (mNeg p)) := by
  refine peM (pe_un un_neg ha) ?_
  rintro σ H Q ⟨F, al, S, ρ, g, e, h⟩
  refine (tW.bind g e h).imp fun x H1 ⟨F1, al1, S1, w, m, r, h1⟩ => ?_
  obtain ⟨u, e1, h2⟩ := optR_some h1
  unfold negW at e1
  split at e1
  · cases e1; cases r
    exact ⟨_, rfl, h2.val m.g (.int _)⟩
  · cases e1
theorem w_not (ha : PE X a (tW T X.K E p)) : PE X (.UnaryOp .Not a pos) (tW T X.K E (mNot p)) := by
  refine peM (pe_notT ha) ?_
  rintro σ H Q ⟨F, al, S, ρ, g, e, h⟩
  refine (tW.bind g e h).imp fun x H1 ⟨F1, al1, S1, w, m, r, h1⟩ => ?_
  obtain ⟨u, e1, h2⟩ := optR_some h1
  rw [Option.map_eq_some_iff] at e1
  obtain ⟨k, e1, rfl⟩ := e1
  exact ⟨k, truthy_sound m.g (vw_of m.g r) e1, h2.val m.g (.bl _)⟩
theorem w_and {rest : List Expr} (ha : PE X a (tW T X.K E p)) (hb : PE X (.BoolOp .And (b :: rest) pos) (tW T X.K E q)) : PE X (.BoolOp .And (a :: b :: rest) pos) (tW T X.K E (mAnd p q)) := by
  refine peM (pe_andT ha hb) ?_
  rintro σ H Q ⟨F, al, S, ρ, g, e, h⟩
  refine (tW.bind g e h).imp fun x H1 ⟨F1, al1, S1, w, m, r, h1⟩ => ?_
  split at h1
  · rename_i e1
    exact ⟨true, truthy_sound m.g (vw_of m.g r) e1, by rw [if_pos rfl]; exact ⟨F1, al1, S1, ρ, m.g, m.e, h1⟩⟩
  · rename_i e1
    exact ⟨false, truthy_sound m.g (vw_of m.g r) e1, by rw [if_neg Bool.false_ne_true]; exact h1.val m.g r⟩
  · exact h1.elim
theorem w_cmp {k : Nat} {o : CmpOp} (hr : Room k X.A) (ha : PE X a (tW T X.K E p)) (hb : PE X b (tW T X.K E q)) (hm : behindInMarks o b = false) : PE X (.Compare a [o] [b] pos) (tW T X.K E (mCmp o p q)) := by
  refine peM (pe_cmpR (op_cmp hr o) ha hb hm) ?_
  rintro σ H Q ⟨F, al, S, ρ, g, e, h⟩
  refine (tW.bind g e h).imp fun x H1 ⟨F1, al1, S1, w, m, r, h1⟩ => ?_
  refine (tW.bind m.g m.e h1).imp fun y H2 ⟨F2, al2, S2, u, m2, r2, h2⟩ => ?_
  obtain ⟨z, e1, h3⟩ := optR_some h2
  rw [Option.map_eq_some_iff] at e1
  obtain ⟨k, e1, rfl⟩ := e1
  exact cmp_sound m2.g (vw_of m2.g (r.post m2.p)) (vw_of m2.g r2) e1 (h3.val m2.g (.bl _))
theorem w_chain {k : Nat} {o o' : CmpOp} (hr : Room k X.A) (ha : PE X a (tW T X.K E p)) (hb : PE X b (tW T X.K E q)) (hc : PE X c (tW T X.K E r)) (hm : lastMarks [o, o'] [b, c] = false) : PE X (.Compare a [o, o'] [b, c] pos) (tW T X.K E (mChain o o' p q r)) := by
  refine peM (pe_chain (op_cmp hr o) (op_cmp hr o') ha hb hc hm) ?_
  rintro σ H Q ⟨F, al, S, ρ, g, e, h⟩
  refine (tW.bind g e h).imp fun x H1 ⟨F1, al1, S1, w, m, r, h1⟩ => ?_
  refine (tW.bind m.g m.e h1).imp fun y H2 ⟨F2, al2, S2, u, m2, r2, h2⟩ => ?_
  split at h2
  · rename_i e1
    refine cmp_sound m2.g (vw_of m2.g (r.post m2.p)) (vw_of m2.g r2) e1 ⟨true, rfl, ?_⟩
    rw [if_pos rfl]
    refine (tW.bind m2.g m2.e h2).imp fun z H3 ⟨F3, al3, S3, u3, m3, r3, h3⟩ => ?_
    obtain ⟨z, e1, h3⟩ := optR_some h3
    rw [Option.map_eq_some_iff] at e1
    obtain ⟨k, e1, rfl⟩ := e1
    exact cmp_sound m3.g (vw_of m3.g (r2.post m3.p)) (vw_of m3.g r3) e1 (h3.val m3.g (.bl _))
  · rename_i e1
    refine cmp_sound m2.g (vw_of m2.g (r.post m2.p)) (vw_of m2.g r2) e1 ⟨false, rfl, ?_⟩
    rw [if_neg Bool.false_ne_true]
    exact h2.val m2.g (.bl _)
  · exact h2.elim
theorem w_idx (ha : PE X a (tW T X.K E p)) (hb : PE X b (tW T X.K E q)) (hs : PlainIx b) : PE X (.Subscript a b pos) (tW T X.K E (mIdx p q)) := by
  refine peM (pe_ix ix_seq ha hb hs) ?_
  rintro σ H Q ⟨F, al, S, ρ, g, e, h⟩
  refine (tW.bind g e h).imp fun x H1 ⟨F1, al1, S1, w, m, r, h1⟩ => ?_
  refine (tW.bind m.g m.e h1).imp fun y H2 ⟨F2, al2, S2, u, m2, r2, h2⟩ => ?_
  obtain ⟨z, e1, h3⟩ := optR_some h2
  exact ix_sound m2.g (vw_of m2.g (r.post m2.p)) r2 e1 h3
/-! slices -/
def partV : V → Option (Option Int)
  | .non => some none
  | .int i => some (some i)
  | _ => none
def tOW (T : Tab) (K : PySem.W.Frag) (E : WX) (m : Me) : TO := fun σ H Q => tW T K E m σ H fun x H1 => ∃ o, partV x = some o ∧ Q o H1
theorem w_part (h : PE X a (tW T X.K E p)) : PO X (some a) (tOW T X.K E (mPart p)) := by
  refine poM (po_some h) ?_
  rintro σ H Q ⟨F, al, S, ρ, g, e, h⟩
  refine (tW.bind g e h).imp fun x H1 ⟨F1, al1, S1, w, m, r, h1⟩ => ?_
  split at h1
  · cases r
    obtain ⟨o, e1, e2⟩ := h1.val m.g (.int _)
    cases e1
    exact ⟨_, rfl, e2⟩
  · exact h1.elim
theorem w_noPart : PO X none (tOW T X.K E (mCon .non)) := by
  refine poM po_none ?_
  rintro σ H Q ⟨F, al, S, ρ, g, e, h⟩
  obtain ⟨o, e1, e2⟩ := h.val g .non
  cases e1; exact e2
theorem partW_sound {K : PySem.W.Frag} {F : Hp} {al : List Addr} {v : V} {w : W} {o : Option Int} (r : Rw T K F al v w) (e : partW w = some o) : partV v = some o := by
  unfold partW at e
  split at e
  · cases r; exact e
  · cases r; exact e
  · cases e
theorem w_slc {lo hi : Option Expr} {p2 : Pos} (ha : PE X a (tW T X.K E p)) (hl : PO X lo (tOW T X.K E q)) (hh : PO X hi (tOW T X.K E r)) : PE X (.Subscript a (.Slice lo hi none p2) pos) (tW T X.K E (mSlc p q r)) := by
  refine peM (pe_slice sl_any ha hl hh) ?_
  rintro σ H Q ⟨F, al, S, ρ, g, e, h⟩
  refine (tW.bind g e h).imp fun x H1 ⟨F1, al1, S1, w, m, r, h1⟩ => ?_
  refine (tW.bind m.g m.e h1).imp fun y H2 ⟨F2, al2, S2, u, m2, r2, h2⟩ => ?_
  cases e1 : partW u with
  | none =>
    rw [e1] at h2
    exact h2.elim
  | some o =>
    rw [e1] at h2
    refine ⟨o, partW_sound r2 e1, ?_⟩
    refine (tW.bind m2.g m2.e h2).imp fun y3 H3 ⟨F3, al3, S3, u3, m3, r3, h3⟩ => ?_
    cases e2 : partW u3 with
    | none => rw [e2] at h3; exact h3.elim
    | some o2 =>
      rw [e2] at h3
      refine ⟨o2, partW_sound r3 e2, ?_⟩
      obtain ⟨z, e3, h4⟩ := optR_some h3
      exact sl_sound m3.g (vw_of m3.g ((r.post m2.p).post m3.p)) e3 h4
end
end DL
set_option Elab.async false
set_option linter.all false
set_option maxRecDepth 100000
set_option maxHeartbeats 4000000
/-! Wg: tests, built-ins, fields, calls. -/
namespace DL
open PySem PySem.Spec L2
/-! ### nothing in it that may be changed -/
mutual
def W.nl : W → Bool
  | .non => true
  | .bl _ => true
  | .int _ => true
  | .str _ => true
  | .tup ws => nlL ws
  | .lst ws => nlL ws
  | .ins _ fs => nlF fs
  | .loc _ => false
  | .tpx ws => nlL ws
  | .opq _ fs => nlF fs
  | .lam => true
  | .fn _ => true
def nlL : List W → Bool
  | [] => true
  | w :: ws => W.nl w && nlL ws
def nlF : List (Nat × W) → Bool
  | [] => true
  | (_, w) :: ws => W.nl w && nlF ws
end
section
variable {T : Tab} {K : PySem.W.Frag} {F F' : Hp} {al al' be : List Addr} {H H' H1 : Hp} {S S' : Sto} {E : WX} {σ : L2.St}
mutual
theorem Rw.nl : ∀ {v : V} {w : W}, Rw T K F al v w → W.nl w = true → Rw T K F al' v w
  | _, _, .non, _ => .non
  | _, _, .bl b, _ => .bl b
  | _, _, .int i, _ => .int i
  | _, _, .str i, _ => .str i
  | _, _, .tup q r, h => .tup q (RwL.nl r h)
  | _, _, .lst q r, h => .lst q (RwL.nl r h)
  | _, _, .ins q r, h => .ins q (RwF.nl r h)
  | _, _, .loc _, h => by cases h
  | _, _, .tpx q d r, h => .tpx q d (RwL.nl r h)
  | _, _, .opq q, _ => .opq q
  | _, _, .opx q e r, h => .opx q e (RwF.nl r h)
  | _, _, .lam q e, _ => .lam q e
  | _, _, .fn q, _ => .fn q
theorem RwL.nl : ∀ {v : List V} {w : List W}, RwL T K F al v w → nlL w = true → RwL T K F al' v w
  | _, _, .nil, _ => .nil
  | _, _, .cons a b, h => by
    rw [nlL, Bool.and_eq_true] at h
    exact .cons (Rw.nl a h.1) (RwL.nl b h.2)
theorem RwF.nl : ∀ {v : List (Str × V)} {w : List (Nat × W)}, RwF T K F al v w → nlF w = true → RwF T K F al' v w
  | _, _, .nil, _ => .nil
  | _, _, .cons l a b, h => by
    rw [nlF, Bool.and_eq_true] at h
    exact .cons l (Rw.nl a h.1) (RwF.nl b h.2)
end
def Xn.nl : Xn → Bool
  | .own _ fs => nlF fs
theorem RwX.nl {x : Xn} {cls : Value} {d : Option Addr} (r : RwX T K F al x cls d) (h : x.nl = true) : RwX T K F al' x cls d := by
  cases x with
  | own c fs =>
    refine ⟨r.1, ?_⟩
    rcases r.2 with e | ⟨h0, a, gs, h1, h2, h3⟩
    · exact .inl e
    · exact .inr ⟨h0, a, gs, h1, h2, h3.nl h⟩
theorem Good.frame (g : Good T K F al S H) (hs : Same H H1) (hb : ∀ b ∈ be, H b = none) (p : Post F be H1 F' al' H') (g' : Good T K F' al' S' H') : Good T K F' al S H' ∧ Post F al H F' al H' := by
  have kp : ∀ b o, H b = some o → H' b = some o := fun b o h => p.keep b o (hs b o h) fun hm => by rw [hb b hm] at h; cases h
  have dm : ∀ b, F' b ≠ none → F b ≠ none ∨ H b = none := fun b h => by
    rcases p.dom b h with h | h | h
    · exact .inl h
    · exact .inr (hb b h)
    · refine .inr ?_
      cases e : H b with
      | none => rfl
      | some o => rw [hs b o e] at h; cases h
  refine ⟨⟨g'.sub, g.nd, g.len, fun a ha => ?_, fun n a c ha hc => ?_⟩, ⟨p.ext, Pre.refl _, fun _ h => .inl h, fun b o h _ => kp b o h, fun b h => ?_⟩⟩
  · cases e : H a with
    | none => exact absurd e (g.tr a ha)
    | some o => rw [kp a o e]; simp
  · refine (g.cell n a c ha hc).mono p.ext (Pre.refl _) (fun o h => kp a o h) fun h => ?_
    cases e : F' a with
    | none => rfl
    | some o =>
      rcases dm a (by rw [e]; simp) with z | z
      · exact absurd h z
      · exact absurd z (g.tr a (List.mem_of_getElem? ha))
  · rcases dm b h with z | z
    · exact .inl z
    · exact .inr (.inr z)
theorem Good.bare (g : Good T K F al S H) : Good T K F [] [] H := ⟨g.sub, List.nodup_nil, rfl, (fun _ h => nomatch h), (fun n a c h => by simp at h)⟩
/-- a call on data alone: the store is out of it -/
def pureR (r : Res) (S : Sto) : Res := match r with
  | .ok w _ => if w.nl then .ok w S else .bad
  | .exc x _ => if x.nl then .exc x S else .bad
  | .bad => .bad
theorem RQ.wish {E' : WX} {σ' : L2.St} {r : Res} {Q : VK} (h : RQ T K E σ F al H r Q) (i : ∀ c d H, E c d σ H → E' c d σ' H) : RQ T K E' σ' F al H r Q := by
  cases r with
  | ok w S => exact h
  | exc x S => exact fun c d F' al' H' p g r => i _ _ _ (h c d F' al' H' p g r)
  | bad => exact h
theorem pure_sound {r : Res} {Q : VK} (g : Good T K F al S H) (hs : Same H H1) (hb : ∀ b ∈ be, H b = none) (h : RQ T K E σ F al H (pureR r S) Q) : RQ T K E σ F be H1 r Q := by
  cases r with
  | ok w S' =>
    replace h : RQ T K E σ F al H (if w.nl then .ok w S else .bad) Q := h
    split at h
    · rename_i hw
      intro v F' al' H' p g' r
      obtain ⟨a, b⟩ := g.frame hs hb p g'
      exact h v F' al H' b a (r.nl hw)
    · exact h.elim
  | exc x S' =>
    replace h : RQ T K E σ F al H (if x.nl then .exc x S else .bad) Q := h
    split at h
    · rename_i hw
      intro c d F' al' H' p g' r
      obtain ⟨a, b⟩ := g.frame hs hb p g'
      exact h c d F' al H' b a (r.nl hw)
    · exact h.elim
  | bad => exact h.elim
/-- a thing that is frozen, as data -/
def derefF (S : Sto) : W → W
  | .loc n => match S[n]? with
    | some (.frz w) => w
    | _ => .loc n
  | w => w
theorem Rw.derefF (g : Good T K F al S H) {v : V} {w : W} (r : Rw T K F al v w) : Rw T K F al v (derefF S w) := by
  cases r with
  | @loc a n ha =>
    cases q : S[n]? with
    | none => rw [show DL.derefF S (.loc n) = .loc n by simp only [DL.derefF, q]]; exact .loc ha
    | some c =>
      have hc := g.cell n a c ha q
      cases c with
      | frz w => rw [show DL.derefF S (.loc n) = w by simp only [DL.derefF, q]]; exact hc
      | _ => rw [show DL.derefF S (.loc n) = .loc n by simp only [DL.derefF, q]]; exact .loc ha
  | non => exact .non
  | bl b => exact .bl b
  | int b => exact .int b
  | str b => exact .str b
  | tup a b => exact .tup a b
  | lst a b => exact .lst a b
  | ins a b => exact .ins a b
  | tpx a d b => exact .tpx a d b
  | opq a => exact .opq a
  | opx a b c => exact .opx a b c
  | lam a b => exact .lam a b
  | fn a => exact .fn a
theorem RwL.derefF (g : Good T K F al S H) : ∀ {v : List V} {w : List W}, RwL T K F al v w → RwL T K F al v (w.map (DL.derefF S))
  | _, _, .nil => .nil
  | _, _, .cons a b => .cons (Rw.derefF g a) (RwL.derefF g b)
end
/-! ### tests -/
section
variable {X : Cx} {T : Tab} {E : WX} {pos : Pos} {a b c : Expr} {p q r : Me} {es : List Expr} {ps : Ml} {bp bq br : Mb}
theorem b_test (h : PE X a (tW T X.K E p)) (he : ∀ whole, isTrue a X.env whole = (do let v ← whole; standAt a.pos; holding [v] (PySem.truthy v))) : PT X a (DL.tB T X.K E (bTest p)) := by
  refine ptM (pt_truth h he) ?_
  rintro σ H Q ⟨F, al, S, ρ, g, e, h⟩
  refine (tW.bindB g e h).imp fun x H1 ⟨F1, al1, S1, w, m, r, h1⟩ => ?_
  unfold truthyR at h1
  cases e1 : DL.truthy (deref S1 w) with
  | none => rw [e1] at h1; exact h1.elim
  | some k =>
    rw [e1] at h1
    exact ⟨k, truthy_sound m.g (vw_of m.g r) e1, h1 _ _ _ Post.refl m.g⟩
theorem b_cmp {k : Nat} {o : CmpOp} (hr : Room k X.A) (ha : PE X a (tW T X.K E p)) (hb : PE X b (tW T X.K E q)) (hm : behindInMarks o b = false) : PT X (.Compare a [o] [b] pos) (DL.tB T X.K E (bTest (mCmp o p q))) := by
  refine ptM (pt_cmpR (op_cmp hr o) ha hb hm) ?_
  rintro σ H Q ⟨F, al, S, ρ, g, e, h⟩
  have h0 : BQ T X.K E σ F al H ((p ρ S).bindB fun x S => (q ρ S).bindB fun y S => optB S (cmpop o (deref S x) (deref S y))) Q := by
    unfold bTest mCmp test at h
    revert h
    cases p ρ S with
    | ok x S1 =>
      show BQ T X.K E σ F al H (((q ρ S1).bind _).bindB truthyR) Q → BQ T X.K E σ F al H ((q ρ S1).bindB _) Q
      cases q ρ S1 with
      | ok y S2 =>
        show BQ T X.K E σ F al H ((optR S2 _).bindB truthyR) Q → BQ T X.K E σ F al H (optB S2 _) Q
        cases cmpop o (deref S2 x) (deref S2 y) with
        | none => exact id
        | some k => exact id
      | exc x S => exact id
      | bad => exact id
    | exc x S => exact id
    | bad => exact id
  refine (tW.bindB g e h0).imp fun x H1 ⟨F1, al1, S1, w, m, r, h1⟩ => ?_
  refine (tW.bindB m.g m.e h1).imp fun y H2 ⟨F2, al2, S2, u, m2, r2, h2⟩ => ?_
  cases e1 : cmpop o (deref S2 w) (deref S2 u) with
  | none => rw [e1] at h2; exact h2.elim
  | some k =>
    rw [e1] at h2
    exact cmp_sound m2.g (vw_of m2.g (r.post m2.p)) (vw_of m2.g r2) e1 ⟨k, rfl, h2 _ _ _ Post.refl m2.g⟩
theorem b_chain {k : Nat} {o o' : CmpOp} (hr : Room k X.A) (ha : PE X a (tW T X.K E p)) (hb : PE X b (tW T X.K E q)) (hc : PE X c (tW T X.K E r)) (hm : lastMarks [o, o'] [b, c] = false) : PT X (.Compare a [o, o'] [b, c] pos) (DL.tB T X.K E (bTest (mChain o o' p q r))) := by
  refine ptM (pt_chain (op_cmp hr o) (op_cmp hr o') ha hb hc hm) ?_
  rintro σ H Q ⟨F, al, S, ρ, g, e, h⟩
  have h0 : BQ T X.K E σ F al H ((p ρ S).bindB fun x S => (q ρ S).bindB fun y S => match cmpop o (deref S x) (deref S y) with
      | some true => (r ρ S).bindB fun z S => optB S (cmpop o' (deref S y) (deref S z))
      | some false => .ok false S
      | none => .bad) Q := by
    unfold bTest mChain test at h
    revert h
    cases p ρ S with
    | ok x S1 =>
      show BQ T X.K E σ F al H (((q ρ S1).bind _).bindB truthyR) Q → BQ T X.K E σ F al H ((q ρ S1).bindB _) Q
      cases q ρ S1 with
      | ok y S2 =>
        show BQ T X.K E σ F al H (Res.bindB (match cmpop o (deref S2 x) (deref S2 y) with
          | some true => (r ρ S2).bind fun z S => optR S ((cmpop o' (deref S y) (deref S z)).map .bl)
          | some false => Res.ok (.bl false) S2
          | none => .bad) truthyR) Q → BQ T X.K E σ F al H (match cmpop o (deref S2 x) (deref S2 y) with
          | some true => (r ρ S2).bindB fun z S => optB S (cmpop o' (deref S y) (deref S z))
          | some false => .ok false S2
          | none => .bad) Q
        cases cmpop o (deref S2 x) (deref S2 y) with
        | none => exact id
        | some k =>
          cases k with
          | false => exact id
          | true =>
            show BQ T X.K E σ F al H (((r ρ S2).bind _).bindB truthyR) Q → BQ T X.K E σ F al H ((r ρ S2).bindB _) Q
            cases r ρ S2 with
            | ok z S3 =>
              show BQ T X.K E σ F al H ((optR S3 _).bindB truthyR) Q → BQ T X.K E σ F al H (optB S3 _) Q
              cases cmpop o' (deref S3 y) (deref S3 z) with
              | none => exact id
              | some k => exact id
            | exc x S => exact id
            | bad => exact id
      | exc x S => exact id
      | bad => exact id
    | exc x S => exact id
    | bad => exact id
  refine (tW.bindB g e h0).imp fun x H1 ⟨F1, al1, S1, w, m, r, h1⟩ => ?_
  refine (tW.bindB m.g m.e h1).imp fun y H2 ⟨F2, al2, S2, u, m2, r2, h2⟩ => ?_
  split at h2
  · rename_i e1
    refine cmp_sound m2.g (vw_of m2.g (r.post m2.p)) (vw_of m2.g r2) e1 ⟨true, rfl, ?_⟩
    rw [if_pos rfl]
    refine (tW.bindB m2.g m2.e h2).imp fun z H3 ⟨F3, al3, S3, u3, m3, r3, h3⟩ => ?_
    cases e2 : cmpop o' (deref S3 u) (deref S3 u3) with
    | none => rw [e2] at h3; exact h3.elim
    | some k =>
      rw [e2] at h3
      exact cmp_sound m3.g (vw_of m3.g (r2.post m3.p)) (vw_of m3.g r3) e2 ⟨k, rfl, h3 _ _ _ Post.refl m3.g⟩
  · rename_i e1
    refine cmp_sound m2.g (vw_of m2.g (r.post m2.p)) (vw_of m2.g r2) e1 ⟨false, rfl, ?_⟩
    rw [if_neg Bool.false_ne_true]
    exact ⟨false, rfl, h2 _ _ _ Post.refl m2.g⟩
  · exact h2.elim
theorem b_and1 (ha : PT X a (DL.tB T X.K E bp)) : PW X (.BoolOp .And [a] pos) (DL.tB T X.K E bp) := pw_and1 ha
theorem b_or1 (ha : PT X a (DL.tB T X.K E bp)) : PW X (.BoolOp .Or [a] pos) (DL.tB T X.K E bp) := pw_or1 ha
theorem b_and {rest : List Expr} (ha : PT X a (DL.tB T X.K E bp)) (hb : PW X (.BoolOp .And (b :: rest) pos) (DL.tB T X.K E bq)) : PW X (.BoolOp .And (a :: b :: rest) pos) (DL.tB T X.K E (bAnd bp bq)) := by
  refine pwM (pw_and ha hb) ?_
  rintro σ H Q ⟨F, al, S, ρ, g, e, h⟩
  refine (tB.bindB g e h).imp fun k H1 ⟨F1, al1, S1, m, h1⟩ => ?_
  cases k with
  | true => rw [if_pos rfl]; exact ⟨F1, al1, S1, ρ, m.g, m.e, h1⟩
  | false => rw [if_neg Bool.false_ne_true]; exact h1 _ _ _ Post.refl m.g
theorem b_or {rest : List Expr} (ha : PT X a (DL.tB T X.K E bp)) (hb : PW X (.BoolOp .Or (b :: rest) pos) (DL.tB T X.K E bq)) : PW X (.BoolOp .Or (a :: b :: rest) pos) (DL.tB T X.K E (bOr bp bq)) := by
  refine pwM (pw_or ha hb) ?_
  rintro σ H Q ⟨F, al, S, ρ, g, e, h⟩
  refine (tB.bindB g e h).imp fun k H1 ⟨F1, al1, S1, m, h1⟩ => ?_
  cases k with
  | true => rw [if_pos rfl]; exact h1 _ _ _ Post.refl m.g
  | false => rw [if_neg Bool.false_ne_true]; exact ⟨F1, al1, S1, ρ, m.g, m.e, h1⟩
theorem b_not (ha : PT X a (DL.tB T X.K E bp)) : PT X (.UnaryOp .Not a pos) (DL.tB T X.K E (bNot bp)) := by
  refine ptM (pt_not ha) ?_
  rintro σ H Q ⟨F, al, S, ρ, g, e, h⟩
  refine (tB.bindB g e h).imp fun k H1 ⟨F1, al1, S1, m, h1⟩ => ?_
  exact h1 _ _ _ Post.refl m.g
theorem w_ifx (hc : PT X c (DL.tB T X.K E bp)) (ha : PE X a (tW T X.K E p)) (hb : PE X b (tW T X.K E q)) : PE X (.IfExp c a b pos) (tW T X.K E (mIfx bp p q)) := by
  refine peM (pe_ifExp hc ha hb) ?_
  rintro σ H Q ⟨F, al, S, ρ, g, e, h⟩
  refine (tB.bind g e h).imp fun k H1 ⟨F1, al1, S1, m, h1⟩ => ?_
  cases k with
  | true => rw [if_pos rfl]; exact ⟨F1, al1, S1, ρ, m.g, m.e, h1⟩
  | false => rw [if_neg Bool.false_ne_true]; exact ⟨F1, al1, S1, ρ, m.g, m.e, h1⟩
/-! ### built-ins, fields -/
theorem w_primB {P : Prim} {id : String} {x : Str} {pp : Pos} (hc : CallR X (.builtin id) (rPrim X.K P)) (hg : Gl X x) (hm : X.mg x = none) (hv : bootBuiltins x = some (.builtin id)) (ha : PA X (a :: es) (tL T X.K E ps)) (hn : x ≠ "__name__") (hdb : (x == ("__debug__" : Str)) = false)
    (he : starEach (a :: es) X.env = (false, eval a X.env) :: starEach es X.env) (hpl : (backTo pos (starEach es X.env)).any (·.1) = false) : PE X (.Call (.Name x pp) (a :: es) [] pos) (tW T X.K E (mPrim P ps)) := by
  refine peM (pe_callB hc hg hm hv ha hn hdb he hpl) ?_
  rintro σ H Q ⟨F, al, S, ρ, g, e, h⟩
  refine (tL.bind g e h).imp fun x H1 ⟨F1, al1, S1, w, m, r, h1⟩ => ?_
  obtain ⟨z, e1, h3⟩ := optR_some h1
  exact prim_sound m.g (vwL_of m.g r) e1 h3
theorem w_primT {P : Prim} {id : String} {x : Str} {pp : Pos} (hc : CallR X (.type id) (rPrim X.K P)) (hg : Gl X x) (hm : X.mg x = none) (hv : bootBuiltins x = some (.type id)) (ha : PA X (a :: es) (tL T X.K E ps)) (hn : x ≠ "__name__") (hdb : (x == ("__debug__" : Str)) = false)
    (he : starEach (a :: es) X.env = (false, eval a X.env) :: starEach es X.env) (hpl : (backTo pos (starEach es X.env)).any (·.1) = false) : PE X (.Call (.Name x pp) (a :: es) [] pos) (tW T X.K E (mPrim P ps)) := by
  refine peM (pe_callTy hc hg hm hv ha hn hdb he hpl) ?_
  rintro σ H Q ⟨F, al, S, ρ, g, e, h⟩
  refine (tL.bind g e h).imp fun x H1 ⟨F1, al1, S1, w, m, r, h1⟩ => ?_
  obtain ⟨z, e1, h3⟩ := optR_some h1
  exact prim_sound m.g (vwL_of m.g r) e1 h3
theorem w_nlist {x : Str} {pp : Pos} (hg : Gl X x) (hm : X.mg x = none) (hv : bootBuiltins x = some (.type "list")) (ha : PE X a (tW T X.K E p)) (hn : x ≠ "__name__") (hdb : (x == ("__debug__" : Str)) = false)
    (he : starEach [a] X.env = (false, eval a X.env) :: starEach [] X.env) : PE X (.Call (.Name x pp) [a] [] pos) (tW T X.K E (mNlist p)) := by
  refine peM (pe_callTy call_list_of hg hm hv (pa_cons ha pa_nil he) hn hdb he rfl) ?_
  rintro σ H Q ⟨F, al, S, ρ, g, e, h⟩
  refine (tW.bind g e h).imp fun x H1 ⟨F1, al1, S1, w, m, r, h1⟩ => ?_
  split at h1
  · rename_i ws e1
    obtain ⟨a, xs, rfl, h2, h3⟩ := items_sound m.g (vw_of m.g r) e1
    exact ⟨_, _, rfl, h2, fun l hl => h1.newC m.g h3 hl⟩
  · exact h1.elim
theorem call_len {X : Cx} : CallR X (.builtin "len") (rPrim X.K .len) := call_len_seq.or call_len_str
theorem w_isi {x : Str} {pp tp : Pos} {tx : Str} {t : Ty} (hg : Gl X x) (hm : X.mg x = none) (hv : bootBuiltins x = some (.builtin "isinstance")) (ht : PE X (.Name tx tp) (tC (.ty t.s))) (ha : PE X a (tW T X.K E p)) (hn : x ≠ "__name__") (hdb : (x == ("__debug__" : Str)) = false)
    (he : starEach [a, .Name tx tp] X.env = (false, eval a X.env) :: starEach [.Name tx tp] X.env) (he2 : starEach [.Name tx tp] X.env = (false, eval (.Name tx tp) X.env) :: starEach [] X.env) (hpl : (backTo pos (starEach [.Name tx tp] X.env)).any (·.1) = false) : PE X (.Call (.Name x pp) [a, .Name tx tp] [] pos) (tW T X.K E (mIsi t p)) := by
  refine peM (pe_callB call_isi hg hm hv (pa_cons ha (pa_cons ht pa_nil he2) he) hn hdb he hpl) ?_
  rintro σ H Q ⟨F, al, S, ρ, g, e, h⟩
  refine (tW.bind g e h).imp fun x H1 ⟨F1, al1, S1, w, m, r, h1⟩ => ?_
  obtain ⟨z, e1, h3⟩ := optR_some h1
  rw [Option.map_eq_some_iff] at e1
  obtain ⟨k, e1, rfl⟩ := e1
  exact isi_sound m.g (vw_of m.g r) e1 (h3.val m.g (.bl _))
theorem w_fld {cc f : Nat} {fn : Str} (hn : T.fld.Nodup) (hf : f < T.fld.length) (hfn : T.f f = fn) (hc : Cls X.K (T.c cc)) (hna : NoAttr X.K (T.c cc) fn) (ha : PE X a (tW T X.K E p)) (hb : attributeBase a fn X.env (eval a X.env) = eval a X.env) : PE X (.Attribute a fn pos) (tW T X.K E (mFld cc f p)) := by
  subst hfn
  refine peM (pe_fld ha hb) ?_
  rintro σ H Q ⟨F, al, S, ρ, g, e, h⟩
  refine (tW.bind g e h).imp fun x H1 ⟨F1, al1, S1, w, m, r, h1⟩ => ?_
  obtain ⟨z, e1, h3⟩ := optR_some h1
  obtain ⟨pp, dx, gs, v, h4, h5, h6, h7⟩ := getFld_sound hn hf m.g r e1
  exact ⟨pp, _, dx, gs, v, h4, h5, hc, hna, h6, h3.val m.g h7⟩
/-- a list that may be changed gets one more -/
theorem app_sound {K : PySem.W.Frag} {F : Hp} {al : List Addr} {H : Hp} {S : Sto} {σ : L2.St} {x y : V} {w u : W} {Q : VK} (g : Good T K F al S H) (rx : Rw T K F al x w) (ry : Rw T K F al y u) (h : RQ T K E σ F al H (appR w u S) Q) : rAppend x [y] H Q := by
  unfold appR at h
  split at h
  · rename_i n
    split at h
    · rename_i ws e
      split at h
      · rename_i hl
        cases rx with
        | @loc a _ ha =>
          obtain ⟨xs, h1, h2, h3⟩ := g.cell n a _ ha e
          refine ⟨a, xs, y, rfl, rfl, h1, by rw [h3.length, ← limit_eq]; exact hl, ?_⟩
          obtain ⟨g1, p1⟩ := g.setCell (o := .lst (xs ++ [y])) (c := .lst (ws ++ [u])) ha h2 ⟨_, upd_same, h2, h3.append (.cons ry .nil)⟩
          exact h _ _ _ _ p1 g1 .non
      · exact h.elim
    · exact h.elim
  · exact h.elim
theorem isCell_ty {K : PySem.W.Frag} {F : Hp} {al : List Addr} {H : Hp} {S : Sto} {x : V} {w : W} (g : Good T K F al S H) (r : Rw T K F al x w) (e : isCell S w = true) : tyV K "list" x H := by
  cases r with
  | @loc a n ha =>
    cases q : S[n]? with
    | none => simp [isCell, q] at e
    | some c =>
      cases c with
      | lst ws =>
        obtain ⟨xs, h1, _⟩ := g.cell n a _ ha q
        exact .inl ⟨rfl, _, .inl (.inl h1)⟩
      | _ => simp [isCell, q] at e
  | _ => cases e
theorem w_app {apos : Pos} (ha : PE X a (tW T X.K E p)) (hb : PE X b (tW T X.K E q)) (hbase : attributeBase a "append" X.env (eval a X.env) = eval a X.env)
    (hfew : ((backTo pos (starEach [b] X.env)).all (fun x => !x.1) && (backToKw pos (keywordEach [] X.env)).all (fun x => x.1.isSome) && decide ([b].length + ([] : List Keyword).length + (if ([] : List Keyword).isEmpty then 0 else 1) < 30)) = true)
    (hline : (apos.endLine == pos.line) = true) (hs : starEach [b] X.env = (false, eval b X.env) :: starEach [] X.env) (hplain : (backTo pos (starEach [] X.env)).any (·.1) = false) :
    PE X (.Call (.Attribute a "append" apos) [b] [] pos) (tW T X.K E (mApp p q)) := by
  refine peM (pe_bm PySem.F.plainAttrs_list PySem.F.slot_list_append PySem.F.type_list_append mt_append ha (pa_cons hb pa_nil hs) hbase hfew hline hs hplain) ?_
  rintro σ H Q ⟨F, al, S, ρ, g, e, h⟩
  refine (tW.bind g e h).imp fun x H1 ⟨F1, al1, S1, w, m, r, h1⟩ => ?_
  split at h1
  · rename_i hc
    refine ⟨isCell_ty m.g r hc, ?_⟩
    refine (tW.bind m.g m.e h1).imp fun y H2 ⟨F2, al2, S2, u, m2, r2, h2⟩ => ?_
    exact app_sound m2.g (r.post m2.p) r2 h2
  · exact h1.elim
/-! ### calls -/
/-- what a def promises: it does what φ does -/
def spW (T : Tab) (K : PySem.W.Frag) (n : Nat) (φ : Fn) : Sp := fun vs H Q E => ∃ F al S ws, ws.length = n ∧ Good T K F al S H ∧ RwL T K F al vs ws ∧ RQ T K (fun c d _ H => E c d H) [] F al H (φ ws S) Q
def TakesN (n : Nat) (φ : Fn) : Prop := ∀ ws S, ws.length ≠ n → φ ws S = .bad
theorem spW_of {T : Tab} {K : PySem.W.Frag} {n : Nat} {φ : Fn} (hn : TakesN n φ) {vs : List V} {ws : List W} {H : Hp} {Q : VK} {E : WX} {σ : L2.St} {F : Hp} {al : List Addr} {S : Sto} (g : Good T K F al S H) (r : RwL T K F al vs ws) (h : RQ T K E σ F al H (φ ws S) Q) : spW T K n φ vs H Q (WE E σ) := by
  refine ⟨F, al, S, ws, ?_, g, r, h.wish fun c d H e => e⟩
  by_cases hl : ws.length = n
  · exact hl
  · rw [hn ws S hl] at h; exact h.elim
/-- a def by its name: ψ is what a call with written arguments does -/
def CallF (T : Tab) (P : Program) (w : World) (K : PySem.W.Frag) (mg : Str → Option Value) (base : Heap) (k : Nat) (x : Str) (ψ : Fn) : Prop :=
  ∃ (f : Addr) (fd : FuncData) (pn : List Str) (ds : List Value) (dvs : List V) (dws : List W) (n : Nat) (φ : Fn), FnOk P w K mg base (L2.CX P w) k f fd pn (spW T K n φ) ∧ TakesN n φ ∧ mg x = some (.ref f) ∧ PySem.W.keepIn K (.ref f) = true ∧ Binds K fd pn ds ∧ Vals dvs ds ∧
    (∀ F al, RwL T K F al dvs dws) ∧ ψ = fun ws S => φ (ws ++ dws) S
def mCall (ψ : Fn) (ms : Ml) : Me := fun ρ S => (ms ρ S).bind ψ
/-- data alone goes in and comes out -/
def mCallP (ψ : Fn) (ms : Ml) : Me := fun ρ S => (ms ρ S).bind fun ws S => if nlL (ws.map (derefF S)) then pureR (ψ (ws.map (derefF S)) []) S else .bad
theorem w_call {k j : Nat} {x : Str} {pp : Pos} {ψ : Fn} (C : CallF T X.prog X.w X.K X.mg X.base k x ψ) (hr : Room j X.A) (hj : k ≤ j) (hg : Gl X x) (tk : Takes X E) (ha : PA X (a :: es) (tL T X.K E ps)) (hdb : (x == ("__debug__" : Str)) = false)
    (he : starEach (a :: es) X.env = (false, eval a X.env) :: starEach es X.env) (hpl : (backTo pos (starEach es X.env)).any (·.1) = false) : PE X (.Call (.Name x pp) (a :: es) [] pos) (tW T X.K E (mCall ψ ps)) := by
  obtain ⟨f, fd, pn, ds, dvs, dws, n, φ, FO, hn, hm, hk, hb, hd, hw, rfl⟩ := C
  refine peM (pe_callSD FO (hr.mono hj) hg hm hk hb hd (E := WE E) (fun σ => passAt tk σ) ha hdb he hpl) ?_
  rintro σ H Q ⟨F, al, S, ρ, g, e, h⟩
  refine (tL.bind g e h).imp fun x H1 ⟨F1, al1, S1, w, m, r, h1⟩ => ?_
  exact spW_of hn m.g (r.append (hw _ _)) h1
theorem w_callP {k j : Nat} {x : Str} {pp : Pos} {ψ : Fn} (C : CallF T X.prog X.w X.K X.mg X.base k x ψ) (hr : Room j X.A) (hj : k ≤ j) (hg : Gl X x) (tk : Takes X E) (ha : PA X (a :: es) (tL T X.K E ps)) (hdb : (x == ("__debug__" : Str)) = false)
    (he : starEach (a :: es) X.env = (false, eval a X.env) :: starEach es X.env) (hpl : (backTo pos (starEach es X.env)).any (·.1) = false) : PE X (.Call (.Name x pp) (a :: es) [] pos) (tW T X.K E (mCallP ψ ps)) := by
  obtain ⟨f, fd, pn, ds, dvs, dws, n, φ, FO, hn, hm, hk, hb, hd, hw, rfl⟩ := C
  refine peM (pe_callSD FO (hr.mono hj) hg hm hk hb hd (E := WE E) (fun σ => passAt tk σ) ha hdb he hpl) ?_
  rintro σ H Q ⟨F, al, S, ρ, g, e, h⟩
  refine (tL.bind g e h).imp fun x H1 ⟨F1, al1, S1, w, m, r, h1⟩ => ?_
  split at h1
  · rename_i hnl
    exact spW_of hn m.g.bare (((r.derefF m.g).nl hnl).append (hw _ _)) (pure_sound m.g (Same.refl _) (fun _ h => nomatch h) h1)
  · exact h1.elim
/-! ### a class's call -/
/-- C(..): __init__ at a new instance; all it holds is data behind it -/
def makeR (c : Nat) (ψ : Fn) (ws : List W) (S : Sto) : Res := match ψ (.loc 0 :: ws) [.obj c []] with
  | .ok .non S' => match (S' : List Cell)[0]? with
    | some (Cell.obj d fs) => if d = c ∧ nlF fs = true then .ok (.ins c fs) S else .bad
    | _ => .bad
  | .ok _ _ => .bad
  | .exc x _ => if x.nl then .exc x S else .bad
  | .bad => .bad
def mMake (c : Nat) (ψ : Fn) (ms : Ml) : Me := fun ρ S => (ms ρ S).bind fun ws S => if nlL (ws.map (derefF S)) then makeR c ψ (ws.map (derefF S)) S else .bad
theorem Good.side {K : PySem.W.Frag} {F : Hp} {al : List Addr} {H : Hp} {S : Sto} (g : Good T K F al S H) {p : Addr} (hp : H p = none) (o : HO) : Good T K F al S (upd H p o) ∧ Post F al H F al (upd H p o) := by
  have sm : Same H (upd H p o) := fun b u e => by rw [upd_ne (ne_of_none e hp)]; exact e
  refine ⟨⟨fun b u e => sm b u (g.sub b u e), g.nd, g.len, fun a ha => ?_, fun n a c ha hc => ?_⟩, ⟨Same.refl _, Pre.refl _, fun _ h => .inl h, fun b u e _ => sm b u e, fun _ h => .inl h⟩⟩
  · cases e : H a with
    | none => exact absurd e (g.tr a ha)
    | some u => rw [sm a u e]; simp
  · exact (g.cell n a c ha hc).mono (Same.refl _) (Pre.refl _) (fun u e => sm a u e) (fun h => h)
/-- a class by its name -/
def MakeF (T : Tab) (P : Program) (w : World) (K : PySem.W.Frag) (mg : Str → Option Value) (base : Heap) (k : Nat) (x : Str) (c : Nat) (ψ : Fn) : Prop :=
  ∃ (f : Addr) (fd : FuncData) (pn : List Str) (ds : List Value) (dvs : List V) (dws : List W) (n : Nat) (φ : Fn), FnOk P w K mg base (L2.CX P w) k f fd pn (spW T K n φ) ∧ TakesN n φ ∧ mg x = some (.ref (T.c c)) ∧ Mk K (T.c c) f ∧ Binds K fd pn ds ∧ Vals dvs ds ∧
    (∀ F al, RwL T K F al dvs dws) ∧ ψ = fun ws S => φ (ws ++ dws) S
theorem w_make {k j cc : Nat} {x : Str} {pp : Pos} {ψ : Fn} {Ec : XK} (C : MakeF T X.prog X.w X.K X.mg X.base k x cc ψ) (hr : Room j X.A) (hj : k + 1 ≤ j) (hg : Gl X x) (tk : Takes X fun c d _ H => Ec c d H) (ha : PA X (a :: es) (tL T X.K (fun c d _ H => Ec c d H) ps)) (hdb : (x == ("__debug__" : Str)) = false)
    (he : starEach (a :: es) X.env = (false, eval a X.env) :: starEach es X.env) (hpl : (backTo pos (starEach es X.env)).any (·.1) = false) : PE X (.Call (.Name x pp) (a :: es) [] pos) (tW T X.K (fun c d _ H => Ec c d H) (mMake cc ψ ps)) := by
  obtain ⟨f, fd, pn, ds, dvs, dws, n, φ, FO, hn, hm, hM, hb, hd, hw, rfl⟩ := C
  refine peM (pe_make hM FO (hr.mono hj) hg hm hb hd (passes_call tk fun _ _ _ _ h => h) ha hdb he hpl) ?_
  rintro σ H Q ⟨F, al, S, ρ, g, e, h⟩
  refine (tL.bind g e h).imp fun vs H1 ⟨F1, al1, S1, ws, m, r, h1⟩ => ?_
  intro x dx hx hdx hne
  split at h1
  · rename_i hnl
    obtain ⟨gs, _⟩ := m.g.bare.side hdx (.own x)
    have hx2 : upd H1 dx (.own x) x = none := by rw [upd_ne (Ne.symm hne)]; exact hx
    obtain ⟨g2, p2, r2⟩ := gs.newCell hx2 (o := .ins (T.c cc) dx []) (c := .obj cc []) ⟨dx, [], upd_same, m.g.notF hx, .nil⟩
    have sm : Same H1 (upd (upd H1 dx (.own x)) x (.ins (T.c cc) dx [])) := fun b u eb => by
      rw [upd_ne (ne_of_none eb hx), upd_ne (ne_of_none eb hdx)]; exact eb
    have hbe : ∀ b ∈ ([] ++ [x] : List Addr), H1 b = none := fun b hb => by
      have : b = x := by simpa using hb
      rw [this]; exact hx
    refine spW_of (E := fun c d _ H => Ec c d H) (σ := σ) hn g2 (.cons r2 (((r.derefF m.g).nl hnl).append (hw _ _))) ?_
    unfold makeR at h1
    show RQ T X.K (fun c d _ H => Ec c d H) σ F1 ([] ++ [x]) _ (φ (.loc 0 :: (ws.map (derefF S1) ++ dws)) [.obj cc []]) _
    replace h1 : RQ T X.K (fun c d _ H => Ec c d H) σ F1 al1 H1 (match φ (.loc 0 :: (ws.map (derefF S1) ++ dws)) [.obj cc []] with
      | .ok .non S' => match (S' : List Cell)[0]? with
        | some (Cell.obj d fs) => if d = cc ∧ nlF fs = true then .ok (.ins cc fs) S1 else .bad
        | _ => .bad
      | .ok _ _ => .bad
      | .exc x _ => if x.nl then .exc x S1 else .bad
      | .bad => .bad) Q := h1
    cases e1 : φ (.loc 0 :: (ws.map (derefF S1) ++ dws)) [.obj cc []] with
    | bad => rw [e1] at h1; exact h1.elim
    | exc z S' =>
      rw [e1] at h1
      replace h1 : RQ T X.K (fun c d _ H => Ec c d H) σ F1 al1 H1 (if z.nl then .exc z S1 else .bad) Q := h1
      split at h1
      · rename_i hz
        intro c d F' al' H' p g' rz
        obtain ⟨a1, b1⟩ := m.g.frame sm hbe p g'
        exact h1 c d F' al1 H' b1 a1 (rz.nl hz)
      · exact h1.elim
    | ok v S' =>
      rw [e1] at h1
      cases v with
      | non =>
        replace h1 : RQ T X.K (fun c d _ H => Ec c d H) σ F1 al1 H1 (match (S' : List Cell)[0]? with
          | some (Cell.obj d fs) => if d = cc ∧ nlF fs = true then .ok (.ins cc fs) S1 else .bad
          | _ => .bad) Q := h1
        split at h1
        · rename_i d fs e2
          split at h1
          · rename_i hdf
            obtain ⟨rfl, hfs⟩ := hdf
            intro u F' al' H' p g' ru
            cases ru
            refine ⟨rfl, ?_⟩
            have hx0 : al'[0]? = some x := p.pre 0 x rfl
            obtain ⟨dx2, gs2, h5, h6, h7⟩ := g'.cell 0 x _ hx0 e2
            have s1 : Same F' (upd F' x (.ins (T.c d) dx2 gs2)) := fun b u e => by rw [upd_ne (ne_of_none e h6)]; exact e
            have hw2 : ∀ al, Rw T X.K (upd F' x (.ins (T.c d) dx2 gs2)) al (.ref x) (.ins d fs) := fun al => .ins upd_same ((h7.nl hfs).mono s1 (Pre.refl _))
            obtain ⟨a1, a2⟩ := g'.freeze hx0 h6 h5 (hw2 _)
            obtain ⟨a3, b3⟩ := m.g.frame sm hbe (p.trans a2) a1
            exact h1 _ _ _ _ b3 a3 (hw2 _)
          · exact h1.elim
        · exact h1.elim
      | _ => exact h1.elim
  · exact h1.elim
end
end DL
set_option Elab.async false
set_option linter.all false
set_option maxRecDepth 100000
set_option maxHeartbeats 4000000
/-! Wh: what is walked, targets, comprehensions. -/
namespace DL
open PySem PySem.Spec L2
/-- a walk that gives the data xs -/
def WkW (T : Tab) (K : PySem.W.Frag) (F : Hp) (al : List Addr) (J : L2.It) (xs : List W) : Prop :=
  ∃ (G : Hp → Prop) (Y : Nat → Hp → V → Hp → Prop), Walk J xs.length G Y ∧ (∀ H, Same F H → G H) ∧ ∀ i H v H', i < xs.length → Y i H v H' → ∀ F1 al1 S1, Same F F1 → Pre al al1 → Good T K F1 al1 S1 H →
    ∃ F2 x, xs[i]? = some x ∧ Good T K F2 al1 S1 H' ∧ Post F1 al1 H F2 al1 H' ∧ Rw T K F2 al1 v x
section
variable (T : Tab) (K : PySem.W.Frag)
def IQ (E : WX) (σ : L2.St) (F : Hp) (al : List Addr) (H : Hp) (r : LRes) (R : L2.It → Hp → Prop) : Prop :=
  match r with
  | .ok ws S' => ∀ J F' al' H', Post F al H F' al' H' → Good T K F' al' S' H' → WkW T K F' al' J ws → R J H'
  | .exc x S' => ∀ cls d F' al' H', Post F al H F' al' H' → Good T K F' al' S' H' → RwX T K F' al' x cls d → E cls d σ H'
  | .bad => False
def tI (E : WX) (m : Ml) : TI := fun σ H R => ∃ F al S ρ, Good T K F al S H ∧ EnvOk T K F al σ ρ ∧ IQ T K E σ F al H (m ρ S) R
end
section
variable {T : Tab} {K : PySem.W.Frag} {E : WX} {σ : L2.St} {ρ : Env} {F F' : Hp} {al al' : List Addr} {H H' : Hp} {S S' : Sto}
theorem IQ.post {r : LRes} {Q : L2.It → Hp → Prop} (p : Post F al H F' al' H') (h : IQ T K E σ F al H r Q) : IQ T K E σ F' al' H' r Q := by
  cases r with
  | ok w S' => exact fun v F2 al2 H2 q g r => h v F2 al2 H2 (p.trans q) g r
  | exc x S' => exact fun c d F2 al2 H2 q g r => h c d F2 al2 H2 (p.trans q) g r
  | bad => exact h
theorem tW.bindI {m : Me} {f : W → Sto → LRes} {R : L2.It → Hp → Prop} (g : Good T K F al S H) (e : EnvOk T K F al σ ρ) (h : IQ T K E σ F al H ((m ρ S).bindL f) R) :
    tW T K E m σ H fun v H1 => ∃ F1 al1 S1 w, Mid T K F al H σ ρ F1 al1 S1 H1 ∧ Rw T K F1 al1 v w ∧ IQ T K E σ F1 al1 H1 (f w S1) R := by
  refine ⟨F, al, S, ρ, g, e, ?_⟩
  cases q : m ρ S with
  | ok w S1 =>
    rw [q] at h
    exact fun v F1 al1 H1 p g1 r => ⟨F1, al1, S1, w, ⟨g1, e.post p, p⟩, r, IQ.post p h⟩
  | exc x S1 => rw [q] at h; exact h
  | bad => rw [q] at h; exact h
theorem IQ.val {ws : List W} {J : L2.It} {R : L2.It → Hp → Prop} (h : IQ T K E σ F al H (.ok ws S) R) (g : Good T K F al S H) (r : WkW T K F al J ws) : R J H := h J F al H Post.refl g r
theorem wk_seq {a : Addr} {xs : List V} {ws : List W} (b : Bool) (q : SqB K F b a xs) (r : RwL T K F al xs ws) : WkW T K F al (match b with | false => Itl K a | true => Itt K a) ws := by
  have yld : ∀ i (H : Hp) v (H' : Hp), i < ws.length → YAt xs i H v H' → ∀ F1 al1 S1, Same F F1 → Pre al al1 → Good T K F1 al1 S1 H → ∃ F2 x, ws[i]? = some x ∧ Good T K F2 al1 S1 H' ∧ Post F1 al1 H F2 al1 H' ∧ Rw T K F2 al1 v x := by
    rintro i H v H' hi ⟨rfl, hx⟩ F1 al1 S1 s p g
    obtain ⟨w, h1, h2⟩ := r.getV hx
    exact ⟨F1, w, h1, g, Post.refl, h2.mono s p⟩
  cases b with
  | false => exact ⟨_, _, by rw [← r.length]; exact walk_list, fun H s => (by
      rcases (q : SqL K F a xs) with q | q
      · exact .inl (rd_mono s q)
      · exact .inr q : SqL K H a xs), yld⟩
  | true => exact ⟨_, _, by rw [← r.length]; exact walk_tup, fun H s => sqT_mono s q, yld⟩
theorem sqB_mono {b : Bool} {a : Addr} {xs : List V} (s : Same F F') (q : SqB K F b a xs) : SqB K F' b a xs := by
  cases b with
  | false =>
    rcases (q : SqL K F a xs) with q | q
    · exact .inl (rd_mono s q)
    · exact .inr q
  | true => exact sqT_mono s q
theorem items_seq {v : V} {w : W} {ws : List W} (r : Rw T K F al v w) (e : items w = some ws) : ∃ (b : Bool) (a : Addr) (xs : List V), v = .ref a ∧ SqB K F b a xs ∧ RwL T K F al xs ws := by
  unfold items at e
  split at e
  · cases e
    cases r with
    | tup q r => exact ⟨true, _, _, rfl, q, r⟩
  · cases e
    cases r with
    | tpx q d r => exact ⟨true, _, _, rfl, .inl (.inr ⟨_, q⟩), r⟩
  · cases e
    cases r with
    | lst q r => exact ⟨false, _, _, rfl, q, r⟩
  · cases e
theorem wk_pair {J : L2.It} {n : Nat} {G : Hp → Prop} {f g : Nat → Option V} {ws : List W} (hn : ws.length = n) (wk : Walk J n G (YPair f g)) (hG : ∀ H, Same F H → G H)
    (h : ∀ i x y, i < n → f i = some x → g i = some y → ∃ u w, ws[i]? = some (.tup [u, w]) ∧ Rw T K F al x u ∧ Rw T K F al y w) : WkW T K F al J ws := by
  subst hn
  refine ⟨_, _, wk, hG, ?_⟩
  rintro i H v H' hi ⟨a, x, y, rfl, h1, rfl, h2, h3⟩ F1 al1 S1 s p gg
  obtain ⟨u, w, h4, h5, h6⟩ := h i x y hi h2 h3
  obtain ⟨a1, b1, c1⟩ := gg.newTup h1 (.cons (h5.mono s p) (.cons (h6.mono s p) .nil))
  exact ⟨_, _, h4, a1, b1, c1⟩
theorem rangeW_len : ∀ (n : Nat) (lo : Int), (rangeW lo n).length = n
  | 0, _ => rfl
  | n + 1, lo => by rw [rangeW, List.length_cons, rangeW_len n]
theorem rangeW_get : ∀ (n : Nat) (lo : Int) (i : Nat), i < n → (rangeW lo n)[i]? = some (.int (lo + i))
  | 0, _, _, h => by omega
  | n + 1, lo, 0, _ => by simp [rangeW]
  | n + 1, lo, i + 1, h => by
    rw [rangeW, List.getElem?_cons_succ, rangeW_get n (lo + 1) i (by omega)]
    congr 2; push_cast; omega
theorem wk_range (lo : Int) (n : Nat) : WkW T K F al (Itr lo n) (rangeW lo n) := by
  refine ⟨_, _, by rw [rangeW_len]; exact walk_range, fun _ _ => trivial, ?_⟩
  rintro i H v H' hi ⟨rfl, rfl⟩ F1 al1 S1 s p g
  rw [rangeW_len] at hi
  exact ⟨F1, _, rangeW_get n lo i hi, g, Post.refl, .int _⟩
theorem enumI_len : ∀ (ws : List W) (c : Int), (jEnum.enumI c ws).length = ws.length
  | [], _ => rfl
  | w :: ws, c => by rw [jEnum.enumI, List.length_cons, List.length_cons, enumI_len ws]
theorem enumI_get : ∀ (ws : List W) (c : Int) (i : Nat) (w : W), ws[i]? = some w → (jEnum.enumI c ws)[i]? = some (.tup [.int (c + (i : Nat)), w])
  | [], _, _, _, h => by simp at h
  | x :: ws, c, 0, w, h => by simp at h; subst h; simp [jEnum.enumI]
  | x :: ws, c, i + 1, w, h => by
    rw [jEnum.enumI, List.getElem?_cons_succ, enumI_get ws (c + 1) i w (by simpa using h)]
    congr 4; push_cast; omega
theorem zipW_len : ∀ (xs ys : List W), (zipW xs ys).length = min xs.length ys.length
  | [], _ => by simp [zipW]
  | _ :: _, [] => by simp [zipW]
  | x :: xs, y :: ys => by rw [zipW, List.length_cons, List.length_cons, List.length_cons, zipW_len xs ys]; omega
theorem zipW_get : ∀ (xs ys : List W) (i : Nat) (x y : W), xs[i]? = some x → ys[i]? = some y → (zipW xs ys)[i]? = some (.tup [x, y])
  | [], _, _, _, _, h, _ => by simp at h
  | _ :: _, [], _, _, _, _, h => by simp at h
  | a :: xs, b :: ys, 0, x, y, h, k => by simp at h k; subst h; subst k; simp [zipW]
  | a :: xs, b :: ys, i + 1, x, y, h, k => by
    rw [zipW, List.getElem?_cons_succ]
    exact zipW_get xs ys i x y (by simpa using h) (by simpa using k)
theorem walk_zipT {a b : Addr} {xs ys : List V} {n : Nat} (hn : n = min xs.length ys.length) : Walk (RZ.ItzT K a b) n (fun H => SqT K H a xs ∧ SqT K H b ys) (YPair (fun i => xs[i]?) (fun i => ys[i]?)) := by
  subst hn
  refine ⟨fun i _ hi q => ?_, fun _ q => ⟨xs, ys, q.1, q.2, by omega⟩, fun i H v H' _ q y => ?_⟩
  · have h1 : i < xs.length := by omega
    have h2 : i < ys.length := by omega
    exact ⟨xs, ys, xs[i], ys[i], q.1, q.2, by simp [h1], by simp [h2]⟩
  · obtain ⟨T, x, z, h1, h2, h3, h4, h5⟩ := y
    exact ⟨T, x, z, h1, h2, h3, h4 xs q.1, h5 ys q.2⟩
theorem zip_pairs {xs ys : List V} {us ws : List W} (r : RwL T K F al xs us) (r2 : RwL T K F al ys ws) : ∀ i x y, i < min xs.length ys.length → xs[i]? = some x → ys[i]? = some y → ∃ u w, (zipW us ws)[i]? = some (.tup [u, w]) ∧ Rw T K F al x u ∧ Rw T K F al y w := by
  intro i x y _ hx hy
  obtain ⟨u, h1, h2⟩ := r.getV hx
  obtain ⟨w, h3, h4⟩ := r2.getV hy
  exact ⟨u, w, zipW_get us ws i u w h1 h3, h2, h4⟩
end
section
variable {X : Cx} {T : Tab} {E : WX} {pos : Pos} {a b c tg : Expr} {p q r : Me} {es : List Expr} {ps : Ml} {bp bq br : Mb}
theorem i_seq (h : PE X a (tW T X.K E p)) : PI X tg a (tI T X.K E (jE p)) := by
  refine ⟨fun pins s σ H R I h0 => ?_⟩
  obtain ⟨F, al, S, ρ, g, e, h0⟩ := h0
  have h1 := (tW.bindI g e h0)
  cases q0 : p ρ S with
  | bad =>
    obtain ⟨_, _, _, _, _, _, h2⟩ := h1
    unfold jE at h0; rw [q0] at h0; exact h0.elim
  | exc x S' =>
    unfold jE at h0; rw [q0] at h0
    exact (pi_list (tg := tg) h).run pins s σ H R I ⟨F, al, S, ρ, g, e, by rw [q0]; exact h0⟩
  | ok w S' =>
    unfold jE at h0; rw [q0] at h0
    replace h0 : IQ T X.K E σ F al H (optL S' (items w)) R := h0
    cases e1 : items w with
    | none => rw [e1] at h0; exact h0.elim
    | some ws =>
      rw [e1] at h0
      replace h0 : IQ T X.K E σ F al H (.ok ws S') R := h0
      cases w with
      | tup us =>
        cases e1
        refine (pi_tup (tg := tg) h).run pins s σ H R I ⟨F, al, S, ρ, g, e, ?_⟩
        rw [q0]
        intro v F' al' H' po g' r
        cases r with
        | tup hq hr => exact ⟨_, rfl, ⟨_, sqT_mono g'.sub hq⟩, h0 _ _ _ _ po g' (wk_seq true hq hr)⟩
      | tpx us =>
        cases e1
        refine (pi_tup (tg := tg) h).run pins s σ H R I ⟨F, al, S, ρ, g, e, ?_⟩
        rw [q0]
        intro v F' al' H' po g' r
        cases r with
        | tpx hq hd hr => exact ⟨_, rfl, ⟨_, .inl (.inr ⟨_, g'.sub _ _ hq⟩)⟩, h0 _ _ _ _ po g' (wk_seq true (.inl (.inr ⟨_, hq⟩)) hr)⟩
      | lst us =>
        cases e1
        refine (pi_list (tg := tg) h).run pins s σ H R I ⟨F, al, S, ρ, g, e, ?_⟩
        rw [q0]
        intro v F' al' H' po g' r
        cases r with
        | lst hq hr => exact ⟨_, rfl, ⟨_, sqL_mono g'.sub hq⟩, h0 _ _ _ _ po g' (wk_seq false hq hr)⟩
      | _ => cases e1
theorem i_range1 {pp : Pos} (hg : Gl X "range") (hm : X.mg "range" = none) (ha : PE X a (tW T X.K E p)) (hs : starEach [a] X.env = (false, eval a X.env) :: starEach [] X.env) : PI X tg (.Call (.Name "range" pp) [a] [] pos) (tI T X.K E (jRange1 p)) := by
  refine piM (pi_range1 hg hm (pa_cons ha pa_nil hs) hs) ?_
  rintro σ H R ⟨F, al, S, ρ, g, e, h⟩
  refine (tW.bindI g e h).imp fun x H1 ⟨F1, al1, S1, w, m, r, h1⟩ => ?_
  split at h1
  · split at h1
    · rename_i j hj
      cases r
      exact ⟨j, rfl, hj.1, hj.2, h1.val m.g (wk_range 0 j.toNat)⟩
    · exact h1.elim
  · exact h1.elim
theorem enum_sound {K : PySem.W.Frag} {F : Hp} {al : List Addr} {H : Hp} {S : Sto} {σ : L2.St} {c : Int} {v : V} {w : W} {R : L2.It → Hp → Prop} (g : Good T K F al S H) (r : Rw T K F al v w) (h : IQ T K E σ F al H (optL S ((items w).map (jEnum.enumI c))) R) :
    ∃ (t : Bool) (a : Addr) (xs : List V), [v] = [.ref a] ∧ SqB K H t a xs ∧ R (ItE K t c a) H := by
  cases e1 : items w with
  | none => rw [e1] at h; exact h.elim
  | some ws =>
    rw [e1] at h
    obtain ⟨t, a, xs, rfl, h1, h2⟩ := items_seq r e1
    refine ⟨t, a, xs, rfl, sqB_mono g.sub h1, h.val g ?_⟩
    refine wk_pair (n := xs.length) (by rw [enumI_len, h2.length]) walk_enumB (fun H s => sqB_mono s h1) fun i x y hi e2 e3 => ?_
    cases e2
    obtain ⟨w, h4, h5⟩ := h2.getV e3
    exact ⟨_, _, enumI_get ws c i w h4, .int _, h5⟩
theorem i_enum {elts : List Expr} {kk : Nat} {tpos pp : Pos} (hg : Gl X "enumerate") (hm : X.mg "enumerate" = none) (ha : PE X a (tW T X.K E p)) (hs : starEach [a] X.env = (false, eval a X.env) :: starEach [] X.env) : PI X (.Tuple elts kk tpos) (.Call (.Name "enumerate" pp) [a] [] pos) (tI T X.K E (jEnum 0 p)) := by
  refine piM (pi_enumB hg hm (pa_cons ha pa_nil hs) hs) ?_
  rintro σ H R ⟨F, al, S, ρ, g, e, h⟩
  exact (tW.bindI g e h).imp fun x H1 ⟨F1, al1, S1, w, m, r, h1⟩ => enum_sound m.g r h1
theorem i_zip {elts : List Expr} {kk : Nat} {tpos pp : Pos} (hg : Gl X "zip") (hm : X.mg "zip" = none) (ha : PE X a (tW T X.K E p)) (hb : PE X b (tW T X.K E q)) (hs : starEach [a, b] X.env = (false, eval a X.env) :: starEach [b] X.env) (hs2 : starEach [b] X.env = (false, eval b X.env) :: starEach [] X.env) (hpl : (backTo pos (starEach [b] X.env)).any (·.1) = false) :
    PI X (.Tuple elts kk tpos) (.Call (.Name "zip" pp) [a, b] [] pos) (tI T X.K E (jZip p q)) := by
  refine piM (RZ.pi_zipA hg hm (pa_cons ha (pa_cons hb pa_nil hs2) hs) hs hpl) ?_
  rintro σ H R ⟨F, al, S, ρ, g, e, h⟩
  refine (tW.bindI g e h).imp fun x H1 ⟨F1, al1, S1, w, m, r, h1⟩ => ?_
  refine (tW.bindI m.g m.e h1).imp fun y H2 ⟨F2, al2, S2, u, m2, r2, h2⟩ => ?_
  replace r := r.post m2.p
  split at h2
  · cases r with
    | tup q1 r1 => cases r2 with
      | tup q3 r3 =>
        refine ⟨_, _, _, _, rfl, .inr ⟨sqT_mono m2.g.sub q1, sqT_mono m2.g.sub q3, h2.val m2.g ?_⟩⟩
        exact wk_pair (by rw [zipW_len, r1.length, r3.length]) (walk_zipT rfl) (fun H s => ⟨sqT_mono s q1, sqT_mono s q3⟩) (zip_pairs r1 r3)
  · cases r with
    | lst q1 r1 => cases r2 with
      | lst q3 r3 =>
        refine ⟨_, _, _, _, rfl, .inl ⟨sqL_mono m2.g.sub q1, sqL_mono m2.g.sub q3, h2.val m2.g ?_⟩⟩
        exact wk_pair (by rw [zipW_len, r1.length, r3.length]) (walk_zip rfl) (fun H s => ⟨sqL_mono s q1, sqL_mono s q3⟩) (zip_pairs r1 r3)
  · exact h2.elim
theorem i_zips {elts : List Expr} {kk ck : Nat} {tpos pp cpos kpos : Pos} (hg : Gl X "zip") (hm : X.mg "zip" = none) (ha : PE X a (tW T X.K E p)) (hb : PE X b (tW T X.K E q)) (hs : starEach [a, b] X.env = (false, eval a X.env) :: starEach [b] X.env) (hs2 : starEach [b] X.env = (false, eval b X.env) :: starEach [] X.env) (hpl : (backTo pos (starEach [b] X.env)).any (·.1) = false)
    (hi : ∀ {ta : TA}, PA X [a, b] ta → PI X (.Tuple elts kk tpos) (.Call (.Name "zip" pp) [a, b] [⟨some (Str.ofString "strict"), .Constant (.bool true) ck cpos, kpos⟩] pos) (iZipS X.K ta)) :
    PI X (.Tuple elts kk tpos) (.Call (.Name "zip" pp) [a, b] [⟨some (Str.ofString "strict"), .Constant (.bool true) ck cpos, kpos⟩] pos) (tI T X.K E (jZips p q)) := by
  refine piM (hi (pa_cons ha (pa_cons hb pa_nil hs2) hs)) ?_
  rintro σ H R ⟨F, al, S, ρ, g, e, h⟩
  refine (tW.bindI g e h).imp fun x H1 ⟨F1, al1, S1, w, m, r, h1⟩ => ?_
  refine (tW.bindI m.g m.e h1).imp fun y H2 ⟨F2, al2, S2, u, m2, r2, h2⟩ => ?_
  replace r := r.post m2.p
  split at h2
  · rename_i us ws e1 e2
    split at h2
    · rename_i hl
      obtain ⟨t1, a1, xs, rfl, q1, r1⟩ := items_seq r e1
      obtain ⟨t2, a2, ys, rfl, q3, r3⟩ := items_seq r2 e2
      have hl2 : xs.length = ys.length := by rw [r1.length, r3.length, hl]
      refine ⟨t1, t2, _, _, _, _, rfl, sqB_mono m2.g.sub q1, sqB_mono m2.g.sub q3, h2.val m2.g ?_⟩
      refine wk_pair (by rw [zipW_len, ← r1.length, ← r3.length, ← hl2, Nat.min_self]) (walk_zipS hl2) (fun H s => ⟨sqB_mono s q1, sqB_mono s q3⟩) ?_
      intro i x y hi hx hy
      exact zip_pairs r1 r3 i x y (by omega) hx hy
    · exact h2.elim
  · exact h2.elim
/-! ### targets -/
def gSeq (K : PySem.W.Frag) (is : List Nat) : TG := fun v σ H Q => gTup K is.length (gAll is) v σ H Q ∨ gLst K is.length (gAll is) v σ H Q
def gTg (K : PySem.W.Frag) : Tg → TG
  | .nm i => gName i
  | .tup is => gSeq K is
  | .two i is => gTup K 2 (gCons (gName i) (gCons (gSeq K is) gNil))
  | .star is j => gStar K is.length (gAll (is ++ [j]))
theorem pgs_len : ∀ {is : List Nat} {ws : List W} {ρ ρ' : Env}, setAll is ws ρ = some ρ' → ws.length = is.length
  | [], [], _, _, _ => rfl
  | [], _ :: _, _, _, e => by cases e
  | _ :: _, [], _, _, e => by cases e
  | i :: is, w :: ws, ρ, ρ', e => by rw [List.length_cons, List.length_cons, pgs_len (is := is) (ws := ws) e]
def Tg.slots : Tg → List Nat
  | .nm i => [i]
  | .tup is => is
  | .star is j => is ++ [j]
  | .two i is => i :: is
theorem setAll_app : ∀ {is : List Nat} {ws : List W} {j : Nat} {w : W} {ρ ρ' : Env}, setAll is ws ρ = some ρ' → setAll (is ++ [j]) (ws ++ [w]) ρ = some (ρ'.set j (some w))
  | [], [], _, _, _, _, e => by cases e; rfl
  | [], _ :: _, _, _, _, _, e => by cases e
  | _ :: _, [], _, _, _, _, e => by cases e
  | i :: is, x :: ws, j, w, ρ, ρ', e => setAll_app (is := is) (ws := ws) e
theorem seq_sound {K : PySem.W.Frag} {F : Hp} {al : List Addr} {H : Hp} {S : Sto} {σ σ0 : L2.St} {ρ ρ' : Env} (vs : List Nat) {is : List Nat} {v : V} {w : W} {Q : L2.St → Hp → Prop} (g : Good T K F al S H) (r : Rw T K F al v w) (e : EnvOk T K F al σ ρ) (hb : setSeq is w ρ = some ρ') (hv : ∀ i ∈ is, i ∈ vs) (hw : L2.wipe σ vs = L2.wipe σ0 vs)
    (k : ∀ σ', EnvOk T K F al σ' ρ' → L2.wipe σ' vs = L2.wipe σ0 vs → Q σ' H) : gSeq K is v σ H Q := by
  cases r with
  | tup q r => exact .inl ⟨_, _, rfl, sqT_mono g.sub q, by rw [r.length, pgs_len hb], gAll_sound vs r e hb hv hw k⟩
  | tpx q d r => exact .inl ⟨_, _, rfl, .inl (.inr ⟨_, g.sub _ _ q⟩), by rw [r.length, pgs_len hb], gAll_sound vs r e hb hv hw k⟩
  | lst q r => exact .inr ⟨_, _, rfl, sqL_mono g.sub q, by rw [r.length, pgs_len hb], gAll_sound vs r e hb hv hw k⟩
  | _ => cases hb
theorem tg_sound {K : PySem.W.Frag} {F : Hp} {al : List Addr} {H : Hp} {S : Sto} {σ σ0 : L2.St} {ρ ρ' : Env} (vs : List Nat) {tg : Tg} {v : V} {w : W} {Q : L2.St → Hp → Prop} (g : Good T K F al S H) (r : Rw T K F al v w) (e : EnvOk T K F al σ ρ) (hb : bindTg tg w ρ = some ρ') (hv : ∀ i ∈ tg.slots, i ∈ vs) (hw : L2.wipe σ vs = L2.wipe σ0 vs)
    (k : ∀ σ' F' al' H', Post F al H F' al' H' → Good T K F' al' S H' → EnvOk T K F' al' σ' ρ' → L2.wipe σ' vs = L2.wipe σ0 vs → Q σ' H') : gTg K tg v σ H Q := by
  cases tg with
  | nm i =>
    cases hb
    exact k _ _ _ _ Post.refl g (e.set r i) (by rw [wipe_set (hv i (List.mem_singleton.mpr rfl))]; exact hw)
  | tup is =>
    have hb2 : setSeq is w ρ = some ρ' := by
      cases w <;> first | exact hb | cases hb
    exact seq_sound vs g r e hb2 hv hw fun σ' e' h' => k _ _ _ _ Post.refl g e' h'
  | two i is =>
    cases r with
    | @tup a xs ws q r =>
      cases ws with
      | nil => cases hb
      | cons x ws =>
        cases ws with
        | nil => cases hb
        | cons y ws =>
          cases ws with
          | cons z ws => cases hb
          | nil =>
            cases r with
            | cons r1 r =>
              cases r with
              | cons r2 r =>
                cases r
                have hb2 : setSeq is y (ρ.set i (some x)) = some ρ' := hb
                refine ⟨a, _, rfl, sqT_mono g.sub q, rfl, _, _, rfl, ?_⟩
                show gCons (gSeq K is) gNil _ _ H Q
                refine ⟨_, _, rfl, ?_⟩
                exact seq_sound vs g r2 (e.set r1 i) hb2 (fun z hz => hv z (List.mem_cons_of_mem _ hz)) (by rw [wipe_set (hv i (List.mem_cons_self ..))]; exact hw) fun σ' e' h' => ⟨rfl, k _ _ _ _ Post.refl g e' h'⟩
    | _ => cases hb
  | star is j =>
    cases r with
    | @tup a xs ws q r =>
      replace hb : (if is.length ≤ ws.length ∧ ws.length ≤ 16384 then (setAll is (ws.take is.length) ρ).map fun ρ' => ρ'.set j (some (.lst (ws.drop is.length))) else none) = some ρ' := hb
      split at hb
      · rename_i hl
        rw [Option.map_eq_some_iff] at hb
        obtain ⟨ρ1, h1, rfl⟩ := hb
        refine ⟨_, _, rfl, sqT_mono g.sub q, by rw [r.length]; exact hl.1, by rw [r.length]; exact hl.2, fun p hp => ?_⟩
        obtain ⟨a1, b1, c1⟩ := g.newLst hp (r.drop is.length)
        refine gAll_sound vs ((r.take is.length).mono b1.ext b1.pre |>.append (.cons c1 .nil)) (e.post b1) (setAll_app h1) hv hw fun σ' e' h' => k _ _ _ _ b1 a1 e' h'
      · cases hb
    | _ => cases hb
theorem g_name {i : Nat} {x : Str} (hN : X.N.Nodup) (hi : X.N[i]? = some x) (hx : Loc X.env.scope x) (hf : X.fn x = true ∨ X.env.scope.names.lookup x = some .local) : PG X (.Name x pos) (gTg X.K (.nm i)) := pg_name hN hi hx hf
theorem gs_nil : PGs X [] (gAll []) := pgs_nil
theorem gs_name {i : Nat} {x : Str} {is : List Nat} (hN : X.N.Nodup) (hi : X.N[i]? = some x) (hx : Loc X.env.scope x) (hf : X.fn x = true ∨ X.env.scope.names.lookup x = some .local) (h2 : PGs X es (gAll is)) (hs : (assignEach (.Name x pos :: es) X.env).map (·.2) = assign (.Name x pos) X.env :: (assignEach es X.env).map (·.2)) : PGs X (.Name x pos :: es) (gAll (i :: is)) := pgs_cons (pg_name hN hi hx hf) h2 hs
theorem gs_star {i : Nat} {x : Str} {pp : Pos} (hN : X.N.Nodup) (hi : X.N[i]? = some x) (hx : Loc X.env.scope x) (hf : X.fn x = true ∨ X.env.scope.names.lookup x = some .local) (hs : (assignEach [.Starred (.Name x pos) pp] X.env).map (·.2) = [assign (.Name x pos) X.env]) : PGs X [.Starred (.Name x pos) pp] (gAll [i]) := by
  refine ⟨fun pins s σ H vs us Q I r h => ?_⟩
  have := (pgs_cons (pg_name (pos := pos) hN hi hx hf) pgs_nil rfl).run pins s σ H vs us Q I r h
  rw [hs]
  exact this
theorem g_tup {is : List Nat} {k : Nat} (hc : X.calm = true) (h : PGs X es (gAll is)) (hn : (assignEach es X.env).length = is.length) (hst : (assignEach es X.env).findIdx? (·.1) = none) : PG X (.Tuple es k pos) (gTg X.K (.tup is)) := by
  refine ⟨fun pins s σ H v u Q I r hw => ?_⟩
  rcases hw with hw | hw
  · exact (pg_tup hc h hn hst).run pins s σ H v u Q I r hw
  · exact (pg_lst hc h hn hst).run pins s σ H v u Q I r hw
theorem g_star {is : List Nat} {j k : Nat} (hc : X.calm = true) (h : PGs X es (gAll (is ++ [j]))) (hn : (assignEach es X.env).length = is.length + 1) (hst : (assignEach es X.env).findIdx? (·.1) = some is.length) : PG X (.Tuple es k pos) (gTg X.K (.star is j)) := pg_star hc h hn hst
end
end DL
set_option Elab.async false
set_option linter.all false
set_option maxRecDepth 100000
set_option maxHeartbeats 4000000
/-! Wi: comprehensions. -/
namespace DL
open PySem PySem.Spec L2
section
variable {T : Tab} {K : PySem.W.Frag} {E : WX} {σ : L2.St} {ρ : Env} {F F' F2 : Hp} {al al' al2 : List Addr} {H H' H2 : Hp} {S S' : Sto} {D : Addr} {o : HO}
theorem wipe_wipe {vs : List Nat} : ∀ {ws : List Nat} {σ : L2.St}, (∀ i ∈ ws, i ∈ vs) → L2.wipe (L2.wipe σ ws) vs = L2.wipe σ vs
  | [], _, _ => rfl
  | w :: ws, σ, h => by
    show L2.wipe ((L2.wipe σ ws).set w none) vs = _
    rw [wipe_set (h w (List.mem_cons_self ..))]
    exact wipe_wipe fun i hi => h i (List.mem_cons_of_mem _ hi)
theorem Good.other (g : Good T K F al S H) (hA : D ∉ al) (hF : F D = none) (o : HO) : Good T K F al S (upd H D o) := by
  refine ⟨fun b u e => ?_, g.nd, g.len, fun a ha => ?_, fun n a c ha hc => ?_⟩
  · rw [upd_ne (ne_of_none e hF)]; exact g.sub b u e
  · rw [upd_ne (show a ≠ D from fun e => hA (e ▸ ha))]; exact g.tr a ha
  · have ne : a ≠ D := fun e => hA (e ▸ List.mem_of_getElem? ha)
    exact (g.cell n a c ha hc).mono (Same.refl _) (Pre.refl _) (fun o h => by rw [upd_ne ne]; exact h) (fun h => h)
theorem Post.other (p : Post F al H F' al' H') (hD : H D = none) (o : HO) : Post F al H F' al' (upd H' D o) :=
  ⟨p.ext, p.pre, p.fresh, fun b u e hb => by rw [upd_ne (ne_of_none e hD)]; exact p.keep b u e hb, p.dom⟩
theorem Good.adoptF (g : Good T K F al S H) (hA : D ∉ al) (hF : F D = none) (ho : H D = some o) : Good T K (upd F D o) al S H := by
  have s1 : Same F (upd F D o) := fun b u e => by rw [upd_ne (ne_of_none e hF)]; exact e
  refine ⟨fun b u e => ?_, g.nd, g.len, g.tr, fun n a c ha hc => ?_⟩
  · by_cases q : b = D
    · subst q; rw [upd_same] at e; rw [← e]; exact ho
    · rw [upd_ne q] at e; exact g.sub b u e
  · have ne : a ≠ D := fun e => hA (e ▸ List.mem_of_getElem? ha)
    exact (g.cell n a c ha hc).mono s1 (Pre.refl _) (fun o h => h) (fun h => by rw [upd_ne ne]; exact h)
theorem Post.adoptF (p : Post F al H F' al' H') (hF : F' D = none) (hD : H D = none) (o : HO) : Post F al H (upd F' D o) al' H' := by
  refine ⟨fun b u e => ?_, p.pre, p.fresh, p.keep, fun b h => ?_⟩
  · have := p.ext b u e
    rw [upd_ne (ne_of_none this hF)]; exact this
  · by_cases q : b = D
    · subst q; exact .inr (.inr hD)
    · rw [upd_ne q] at h; exact p.dom b h
theorem Good.adoptC (g : Good T K F al S H) (hA : D ∉ al) (ho : H D ≠ none) {c : Cell} (hc : CellOk T K F (al ++ [D]) H D c) : Good T K F (al ++ [D]) (S ++ [c]) H := by
  refine ⟨g.sub, ?_, by rw [List.length_append, List.length_append, g.len]; rfl, fun a ha => ?_, fun n a d ha hd => ?_⟩
  · rw [List.nodup_append]
    refine ⟨g.nd, by simp, fun a ha b hb e => ?_⟩
    have : b = D := by simpa using hb
    subst this; subst e; exact hA ha
  · rcases List.mem_append.mp ha with h | h
    · exact g.tr a h
    · have : a = D := by simpa using h
      subst this; exact ho
  · by_cases hn : n < al.length
    · rw [List.getElem?_append_left hn] at ha
      rw [List.getElem?_append_left (by rw [← g.len]; exact hn)] at hd
      exact (g.cell n a d ha hd).mono (Same.refl _) (Pre.app _ _) (fun o h => h) (fun h => h)
    · have h2 : n = al.length := by
        have := (List.getElem?_eq_some_iff.mp ha).1
        rw [List.length_append] at this
        simp at this; omega
      subst h2
      rw [List.getElem?_append_right (Nat.le_refl _), Nat.sub_self] at ha
      rw [g.len, List.getElem?_append_right (Nat.le_refl _), Nat.sub_self] at hd
      simp at ha hd
      subst ha; subst hd
      exact hc
theorem Post.adoptC (p : Post F al H F' al' H') (hD : H D = none) : Post F al H F' (al' ++ [D]) H' := by
  refine ⟨p.ext, p.pre.trans (Pre.app _ _), fun b h => ?_, p.keep, p.dom⟩
  rcases List.mem_append.mp h with h | h
  · exact p.fresh b h
  · have : b = D := by simpa using h
    subst this; exact .inr hD
theorem Post.offA (p : Post F al H F' al' H') (hA : D ∉ al) (ho : H D = some o) : D ∉ al' := fun h => by
  rcases p.fresh D h with z | z
  · exact hA z
  · rw [ho] at z; cases z
theorem Post.offF (p : Post F al H F' al' H') (hA : D ∉ al) (hF : F D = none) (ho : H D = some o) : F' D = none := by
  cases e : F' D with
  | none => rfl
  | some u =>
    rcases p.dom D (by rw [e]; simp) with z | z | z
    · exact absurd hF z
    · exact absurd z hA
    · rw [ho] at z; cases z
theorem lc_sound {it : Ml} {c : Mb} {el : Me} {tgt : Tg} {vs : List Nat} {mt : Bool} {Q : VK} (hsl : ∀ i ∈ tgt.slots, i ∈ vs) (h : tW T K E (mLc mt vs tgt it c el) σ H Q) : tLc (tI T K E it) (gTg K tgt) (DL.tB T K EF c) (tW T K EF el) vs σ H Q := by
  obtain ⟨F, al, S, ρ, g, e, h⟩ := h
  refine ⟨F, al, S, ρ, g, e, ?_⟩
  unfold mLc at h
  cases q : it ρ S with
  | bad => rw [q] at h; exact h.elim
  | exc x S' => rw [q] at h; exact h
  | ok xs S' =>
    rw [q] at h
    replace h : RQ T K E σ F al H (if xs.length ≤ limit then (compM (lcStep ρ vs tgt c el) xs [] S').bind fun ys S => if mt then newCellR (.lst ys) S else .ok (.lst ys) S else .bad) Q := h
    intro J F1 al1 H1 p1 g1 wk D hD
    split at h
    case isFalse => exact h.elim
    rename_i hlim
    obtain ⟨G, Y, w, hG, hY⟩ := wk
    have nb : compM (lcStep ρ vs tgt c el) xs [] S' ≠ .bad := fun z => by rw [z] at h; exact h.elim
    refine lc_it w (fun i H2 => ∃ F2 al2 S2 acc vacc, Post F1 al1 H1 F2 al2 H2 ∧ Good T K F2 al2 S2 H2 ∧ H2 D = some (.lst vacc) ∧ F2 D = none ∧ D ∉ al2 ∧ RwL T K F2 al2 vacc acc ∧ vacc.length ≤ i ∧
      compM (lcStep ρ vs tgt c el) (xs.drop i) acc S2 = compM (lcStep ρ vs tgt c el) xs [] S') ?_ ?_ ?_ ?_
    · obtain ⟨a, b⟩ := g1.side hD (.lst [])
      exact ⟨F1, al1, S', [], [], b, a, upd_same, g1.notF hD, g1.notA hD, .nil, Nat.le_refl _, rfl⟩
    · rintro i H2 hi ⟨F2, al2, S2, acc, vacc, p2, g2, _⟩
      exact hG H2 fun b u e => g2.sub b u (p2.ext b u e)
    · rintro i x H2 H2' hi ⟨F2, al2, S2, acc, vacc, p2, g2, hHD, hFD, hAD, racc, hl, hcm⟩ y
      obtain ⟨F3, u, hu, g3, p3, r3⟩ := hY i H2 x H2' hi y F2 al2 S2 p2.ext p2.pre g2
      have hHD3 : H2' D = some (.lst vacc) := p3.keep D _ hHD hAD
      have hFD3 : F3 D = none := p3.offF hAD hFD hHD
      have hdrop : xs.drop i = u :: xs.drop (i + 1) := by
        obtain ⟨hi', hu'⟩ := List.getElem?_eq_some_iff.mp hu
        rw [List.drop_eq_getElem_cons hi', hu']
      rw [hdrop] at hcm
      replace hcm : (lcStep ρ vs tgt c el u S2).bindL (fun ys S' => compM (lcStep ρ vs tgt c el) (xs.drop (i + 1)) (acc ++ ys) S') = compM (lcStep ρ vs tgt c el) xs [] S' := hcm
      unfold lcStep at hcm
      cases hb : bindTg tgt u (wipeW ρ vs) with
      | none => rw [hb] at hcm; exact absurd hcm.symm nb
      | some ρ' =>
        simp only [hb] at hcm
        refine tg_sound vs (σ0 := σ) g3 r3 ((wipe_envOk e vs).mono (p1.ext.trans (p2.ext.trans p3.ext)) (p1.pre.trans (p2.pre.trans p3.pre))) hb hsl (wipe_wipe fun i h => h) fun σ' F4 al4 H4 p4 g4 e4 hw4 => ⟨hw4, ?_⟩
        have hHD4 : H4 D = some (.lst vacc) := p4.keep D _ hHD3 hAD
        have hFD4 : F4 D = none := p4.offF hAD hFD3 hHD3
        have hAD4 : D ∉ al4 := p4.offA hAD hHD3
        refine ⟨F4, al4, S2, ρ', g4, e4, ?_⟩
        cases hc : c ρ' S2 with
        | bad => rw [hc] at hcm; exact absurd hcm.symm nb
        | exc z S3 => rw [hc] at hcm; exact absurd hcm.symm nb
        | ok b S3 =>
          rw [hc] at hcm
          intro F5 al5 H5 p5 g5
          have hHD5 : H5 D = some (.lst vacc) := p5.keep D _ hHD4 hAD4
          have hFD5 : F5 D = none := p5.offF hAD4 hFD4 hHD4
          have hAD5 : D ∉ al5 := p5.offA hAD4 hHD4
          have p15 := ((p2.trans p3).trans p4).trans p5
          cases b with
          | false =>
            rw [if_neg Bool.false_ne_true]
            replace hcm : compM (lcStep ρ vs tgt c el) (xs.drop (i + 1)) (acc ++ []) S3 = compM (lcStep ρ vs tgt c el) xs [] S' := hcm
            rw [List.append_nil] at hcm
            exact ⟨F5, al5, S3, acc, vacc, p15, g5, hHD5, hFD5, hAD5, ((racc.post p3).post p4).post p5, by omega, hcm⟩
          | true =>
            rw [if_pos rfl]
            refine ⟨F5, al5, S3, ρ', g5, e4.post p5, ?_⟩
            cases hv : el ρ' S3 with
            | bad => simp only [hv] at hcm; exact absurd hcm.symm nb
            | exc z S4 => simp only [hv] at hcm; exact absurd hcm.symm nb
            | ok yw S4 =>
              simp only [hv] at hcm
              replace hcm : compM (lcStep ρ vs tgt c el) (xs.drop (i + 1)) (acc ++ [yw]) S4 = compM (lcStep ρ vs tgt c el) xs [] S' := hcm
              intro v F6 al6 H6 p6 g6 r6
              have hHD6 : H6 D = some (.lst vacc) := p6.keep D _ hHD5 hAD5
              have hFD6 : F6 D = none := p6.offF hAD5 hFD5 hHD5
              have hAD6 : D ∉ al6 := p6.offA hAD5 hHD5
              refine ⟨vacc, hHD6, by rw [← limit_eq]; omega, F6, al6, S4, acc ++ [yw], vacc ++ [v], (p15.trans p6).other hD _, g6.other hAD6 hFD6 _, upd_same, hFD6, hAD6, ((((racc.post p3).post p4).post p5).post p6).append (.cons r6 .nil), by rw [List.length_append, List.length_singleton]; omega, hcm⟩
    · rintro H2 ⟨F2, al2, S2, acc, vacc, p2, g2, hHD, hFD, hAD, racc, hl, hcm⟩
      rw [List.drop_length] at hcm
      replace hcm : LRes.ok acc S2 = compM (lcStep ρ vs tgt c el) xs [] S' := hcm
      rw [← hcm] at h
      replace h : RQ T K E σ F al H (if mt then newCellR (.lst acc) S2 else .ok (.lst acc) S2) Q := h
      cases mt with
      | false =>
        rw [if_neg Bool.false_ne_true] at h
        refine h _ _ _ _ (p1.trans (p2.adoptF hFD hD _)) (g2.adoptF hAD hFD hHD) (.lst (SqL.of upd_same) (racc.mono (fun b u e => by rw [upd_ne (ne_of_none e hFD)]; exact e) (Pre.refl _)))
      | true =>
        rw [if_pos rfl] at h
        refine h _ _ _ _ (p1.trans (p2.adoptC hD)) (g2.adoptC hAD (by rw [hHD]; simp) ⟨vacc, hHD, hFD, racc.mono (Same.refl _) (Pre.app _ _)⟩) (.loc ?_)
        rw [← g2.len, List.getElem?_append_right (Nat.le_refl _), Nat.sub_self]; rfl
end
section
variable {X : Cx} {T : Tab} {E : WX} {pos : Pos} {p q r : Me} {es : List Expr} {ps : Ml} {bp bq br : Mb}
theorem bs_nil : PTs X [] (DL.tB T X.K E bYes) := by
  refine ⟨fun pins s σ H Q I h => ?_⟩
  obtain ⟨F, al, S, ρ, g, e, h⟩ := h
  exact pts_nil.run pins s σ H Q I (h _ _ _ Post.refl g)
theorem bs_one {c : Expr} (h : PT X c (DL.tB T X.K E bp)) : PTs X [c] (DL.tB T X.K E bp) := pts_one h
theorem w_lc {elt tg iter : Expr} {ifs : List Expr} {scope : Scope} {own : List (Str × Nat)} {it : Ml} {c : Mb} {el : Me} {tgt : Tg} {mt : Bool} {vs : List Nat} (hc : X.calm = true) (hN : X.N.Nodup) (hi : PI X tg iter (tI T X.K E it)) (ok : BlkOk X.N X.env.scope scope own) (hvs : own.map (·.2) = vs) (hsl : (tgt.slots.all fun i => vs.contains i) = true)
    (hg : ∀ (s : Shared) (H : Hp) (C : Addr) (cl : List (Str × Addr)) (fp : List Addr), PG (X.blk s H scope (compEnvC scope cl C X.env) fp) tg (gTg X.K tgt)) (ht : ∀ (s : Shared) (H : Hp) (C : Addr) (cl : List (Str × Addr)) (fp : List Addr), PTs (X.blk s H scope (compEnvC scope cl C X.env) fp) ifs (DL.tB T X.K EF c))
    (he : ∀ (s : Shared) (H : Hp) (C : Addr) (cl : List (Str × Addr)) (fp : List Addr), PE (X.blk s H scope (compEnvC scope cl C X.env) fp) elt (tW T X.K EF el)) (hs : ∀ x, foldedSetIterable iter X.env x = pure x) :
    PE X (.ListComp elt [⟨tg, iter, ifs, 0⟩] scope pos) (tW T X.K E (mLc mt vs tgt it c el)) := by
  subst hvs
  refine peM (pe_lc hc hN hi ok hg ht he hs) fun σ H Q h => lc_sound (fun i hi => ?_) h
  have := List.all_eq_true.mp hsl i hi
  simpa using this
end
end DL
set_option Elab.async false
set_option linter.all false
set_option maxRecDepth 100000
set_option maxHeartbeats 4000000
/-! Wj: statements. -/
namespace DL
open PySem PySem.Spec L2
inductive Fl where
  | nx (ρ : Env) (S : Sto) | bk (ρ : Env) (S : Sto) | ct (ρ : Env) (S : Sto) | ret (w : W) (S : Sto) | exc (x : Xn) (ρ : Env) (S : Sto) | bad
  deriving Inhabited
abbrev Ms := Env → Sto → Fl
def Res.toS (ρ : Env) : Res → (W → Sto → Fl) → Fl
  | .ok w S, f => f w S
  | .exc x S, _ => .exc x ρ S
  | .bad, _ => .bad
def LRes.toS (ρ : Env) : LRes → (List W → Sto → Fl) → Fl
  | .ok w S, f => f w S
  | .exc x S, _ => .exc x ρ S
  | .bad, _ => .bad
def BRes.toS (ρ : Env) : BRes → (Bool → Sto → Fl) → Fl
  | .ok w S, f => f w S
  | .exc x S, _ => .exc x ρ S
  | .bad, _ => .bad
def Fl.seq : Fl → Ms → Fl
  | .nx ρ S, f => f ρ S
  | r, _ => r
def Fl.ofO (S : Sto) : Option Env → Fl
  | some ρ => .nx ρ S
  | none => .bad
def sNext : Ms := fun ρ S => .nx ρ S
def sSeq (a b : Ms) : Ms := fun ρ S => (a ρ S).seq b
def sExpr (m : Me) : Ms := fun ρ S => (m ρ S).toS ρ fun _ S => .nx ρ S
def sRet (m : Me) : Ms := fun ρ S => (m ρ S).toS ρ fun w S => .ret w S
def sRetN : Ms := fun _ S => .ret .non S
def sIf (c : Mb) (a b : Ms) : Ms := fun ρ S => (c ρ S).toS ρ fun k S => if k then a ρ S else b ρ S
def sAsg (tg : Tg) (m : Me) : Ms := fun ρ S => (m ρ S).toS ρ fun w S => Fl.ofO S (bindTg tg w ρ)
def sPar (is : List Nat) (m : Ml) : Ms := fun ρ S => (m ρ S).toS ρ fun ws S => Fl.ofO S (setAll is ws ρ)
def augW : Operator → W → W → Option W
  | .Add, .int i, .int j => some (.int (i + j))
  | .Sub, .int i, .int j => some (.int (i - j))
  | .Mult, .int i, .int j => if mulOk i j then some (.int (i * j)) else none
  | .FloorDiv, .int i, .int j => if 0 < j ∧ j < 1073741824 then some (.int (i / j)) else none
  | .Mod, .int i, .int j => if 0 < j then some (.int (i % j)) else none
  | _, _, _ => none
def sAug (o : Operator) (i : Nat) (m : Me) : Ms := fun ρ S => match ρ[i]? with
  | some (some x) => (m ρ S).toS ρ fun y S => match augW o x y with
    | some z => .nx (ρ.set i (some z)) S
    | none => .bad
  | _ => .bad
def setIxR (x i v : W) (S : Sto) : Option Sto := match x, i with
  | .loc n, .int i => match S[n]? with
    | some (.lst ws) => match ixN ws.length i with
      | some j => some (S.set n (.lst (ws.set j v)))
      | none => none
    | _ => none
  | _, _ => none
def sSetIx (a b m : Me) : Ms := fun ρ S => (m ρ S).toS ρ fun v S => (a ρ S).toS ρ fun x S => (b ρ S).toS ρ fun i S => match setIxR x i v S with
  | some S => .nx ρ S
  | none => .bad
def setFldR (c f : Nat) (x v : W) (S : Sto) : Option Sto := match x with
  | .loc n => match S[n]? with
    | some (.obj d fs) => if d = c ∧ fs.length < 100 then some (S.set n (.obj d (putFN f v fs))) else none
    | _ => none
  | _ => none
def sSetFld (c f : Nat) (a m : Me) : Ms := fun ρ S => (m ρ S).toS ρ fun v S => (a ρ S).toS ρ fun x S => match setFldR c f x v S with
  | some S => .nx ρ S
  | none => .bad
def forM (tg : Tg) (b : Ms) : List W → Env → Sto → Fl
  | [], ρ, S => .nx ρ S
  | x :: xs, ρ, S => match bindTg tg x ρ with
    | none => .bad
    | some ρ => match b ρ S with
      | .nx ρ S => forM tg b xs ρ S
      | .ct ρ S => forM tg b xs ρ S
      | .bk ρ S => .nx ρ S
      | r => r
def sFor (it : Ml) (tg : Tg) (b : Ms) : Ms := fun ρ S => (it ρ S).toS ρ fun xs S => forM tg b xs ρ S
def whileM (c : Mb) (b : Ms) : Nat → Env → Sto → Fl
  | 0, _, _ => .bad
  | n + 1, ρ, S => (c ρ S).toS ρ fun k S => if k then match b ρ S with
      | .nx ρ S => whileM c b n ρ S
      | .ct ρ S => whileM c b n ρ S
      | .bk ρ S => .nx ρ S
      | r => r
    else .nx ρ S
def sWhile (n : Nat) (c : Mb) (b : Ms) : Ms := whileM c b n
section
variable (T : Tab) (K : PySem.W.Frag)
def FQ (E : WX) (D : Ends) (F : Hp) (al : List Addr) (H : Hp) (r : Fl) : Prop :=
  match r with
  | .nx ρ S' => ∀ σ' F' al' H', Post F al H F' al' H' → Good T K F' al' S' H' → EnvOk T K F' al' σ' ρ → D.nx σ' H'
  | .bk ρ S' => ∀ σ' F' al' H', Post F al H F' al' H' → Good T K F' al' S' H' → EnvOk T K F' al' σ' ρ → D.bk σ' H'
  | .ct ρ S' => ∀ σ' F' al' H', Post F al H F' al' H' → Good T K F' al' S' H' → EnvOk T K F' al' σ' ρ → D.ct σ' H'
  | .ret w S' => ∀ v F' al' H', Post F al H F' al' H' → Good T K F' al' S' H' → Rw T K F' al' v w → D.rt v H'
  | .exc x ρ S' => ∀ cls d σ' F' al' H', Post F al H F' al' H' → Good T K F' al' S' H' → EnvOk T K F' al' σ' ρ → RwX T K F' al' x cls d → E cls d σ' H'
  | .bad => False
def tS (E : WX) (m : Ms) : TS := fun D σ H => ∃ F al S ρ, Good T K F al S H ∧ EnvOk T K F al σ ρ ∧ FQ T K E D F al H (m ρ S)
end
section
variable {T : Tab} {K : PySem.W.Frag} {E : WX} {σ : L2.St} {ρ : Env} {F F' : Hp} {al al' : List Addr} {H H' : Hp} {S S' : Sto} {D : Ends}
theorem FQ.post {r : Fl} (p : Post F al H F' al' H') (h : FQ T K E D F al H r) : FQ T K E D F' al' H' r := by
  cases r with
  | nx ρ S => exact fun v F2 al2 H2 q g r => h v F2 al2 H2 (p.trans q) g r
  | bk ρ S => exact fun v F2 al2 H2 q g r => h v F2 al2 H2 (p.trans q) g r
  | ct ρ S => exact fun v F2 al2 H2 q g r => h v F2 al2 H2 (p.trans q) g r
  | ret w S' => exact fun v F2 al2 H2 q g r => h v F2 al2 H2 (p.trans q) g r
  | exc x ρ S' => exact fun c d v F2 al2 H2 q g e r => h c d v F2 al2 H2 (p.trans q) g e r
  | bad => exact h
theorem tW.toS {m : Me} {f : W → Sto → Fl} (g : Good T K F al S H) (e : EnvOk T K F al σ ρ) (h : FQ T K E D F al H ((m ρ S).toS ρ f)) :
    tW T K E m σ H fun v H1 => ∃ F1 al1 S1 w, Mid T K F al H σ ρ F1 al1 S1 H1 ∧ Rw T K F1 al1 v w ∧ FQ T K E D F1 al1 H1 (f w S1) := by
  refine ⟨F, al, S, ρ, g, e, ?_⟩
  cases q : m ρ S with
  | ok w S1 =>
    rw [q] at h
    exact fun v F1 al1 H1 p g1 r => ⟨F1, al1, S1, w, ⟨g1, e.post p, p⟩, r, FQ.post p h⟩
  | exc x S1 => rw [q] at h; exact fun c d F1 al1 H1 p g1 r => h c d σ F1 al1 H1 p g1 (e.post p) r
  | bad => rw [q] at h; exact h
theorem tL.toS {m : Ml} {f : List W → Sto → Fl} (g : Good T K F al S H) (e : EnvOk T K F al σ ρ) (h : FQ T K E D F al H ((m ρ S).toS ρ f)) :
    tL T K E m σ H fun v H1 => ∃ F1 al1 S1 w, Mid T K F al H σ ρ F1 al1 S1 H1 ∧ RwL T K F1 al1 v w ∧ FQ T K E D F1 al1 H1 (f w S1) := by
  refine ⟨F, al, S, ρ, g, e, ?_⟩
  cases q : m ρ S with
  | ok w S1 =>
    rw [q] at h
    exact fun v F1 al1 H1 p g1 r => ⟨F1, al1, S1, w, ⟨g1, e.post p, p⟩, r, FQ.post p h⟩
  | exc x S1 => rw [q] at h; exact fun c d F1 al1 H1 p g1 r => h c d σ F1 al1 H1 p g1 (e.post p) r
  | bad => rw [q] at h; exact h
theorem tB.toS {m : Mb} {f : Bool → Sto → Fl} (g : Good T K F al S H) (e : EnvOk T K F al σ ρ) (h : FQ T K E D F al H ((m ρ S).toS ρ f)) :
    DL.tB T K E m σ H fun b H1 => ∃ F1 al1 S1, Mid T K F al H σ ρ F1 al1 S1 H1 ∧ FQ T K E D F1 al1 H1 (f b S1) := by
  refine ⟨F, al, S, ρ, g, e, ?_⟩
  cases q : m ρ S with
  | ok w S1 =>
    rw [q] at h
    exact fun F1 al1 H1 p g1 => ⟨F1, al1, S1, ⟨g1, e.post p, p⟩, FQ.post p h⟩
  | exc x S1 => rw [q] at h; exact fun c d F1 al1 H1 p g1 r => h c d σ F1 al1 H1 p g1 (e.post p) r
  | bad => rw [q] at h; exact h
theorem tI.toS {m : Ml} {f : List W → Sto → Fl} (g : Good T K F al S H) (e : EnvOk T K F al σ ρ) (h : FQ T K E D F al H ((m ρ S).toS ρ f)) :
    tI T K E m σ H fun J H1 => ∃ F1 al1 S1 ws, Mid T K F al H σ ρ F1 al1 S1 H1 ∧ WkW T K F1 al1 J ws ∧ FQ T K E D F1 al1 H1 (f ws S1) := by
  refine ⟨F, al, S, ρ, g, e, ?_⟩
  cases q : m ρ S with
  | ok w S1 =>
    rw [q] at h
    exact fun v F1 al1 H1 p g1 r => ⟨F1, al1, S1, w, ⟨g1, e.post p, p⟩, r, FQ.post p h⟩
  | exc x S1 => rw [q] at h; exact fun c d F1 al1 H1 p g1 r => h c d σ F1 al1 H1 p g1 (e.post p) r
  | bad => rw [q] at h; exact h
theorem tI.imp {m : Ml} {Q Q' : L2.It → Hp → Prop} (h : tI T K E m σ H Q) (i : ∀ v H, Q v H → Q' v H) : tI T K E m σ H Q' := by
  obtain ⟨F, al, S, ρ, g, e, q⟩ := h
  refine ⟨F, al, S, ρ, g, e, ?_⟩
  cases r : m ρ S with
  | ok w S' => rw [r] at q; exact fun v F2 al2 H2 p g r => i _ _ (q v F2 al2 H2 p g r)
  | exc x S' => rw [r] at q; exact q
  | bad => rw [r] at q; exact q
theorem FQ.now {ρ : Env} (h : FQ T K E D F al H (.nx ρ S)) (g : Good T K F al S H) (e : EnvOk T K F al σ ρ) : D.nx σ H := h σ F al H Post.refl g e
/-- a target's binding, then what follows -/
theorem FQ.tg {tg : Tg} {v : V} {w : W} (g : Good T K F al S H) (r : Rw T K F al v w) (e : EnvOk T K F al σ ρ) (h : FQ T K E D F al H (Fl.ofO S (bindTg tg w ρ))) : gTg K tg v σ H D.nx := by
  cases q : bindTg tg w ρ with
  | none => rw [q] at h; exact h.elim
  | some ρ' =>
    rw [q] at h
    exact tg_sound tg.slots (σ0 := σ) g r e q (fun i hi => hi) rfl fun σ' F' al' H' p g' e' _ => h σ' F' al' H' p g' e'
end
section
variable {X : Cx} {T : Tab} {E : WX} {pos : Pos} {a b c tg : Expr} {p q r : Me} {es : List Expr} {ps : Ml} {bp bq br : Mb} {st : Stmt} {rest bd od : List Stmt} {m m2 : Ms}
theorem s_nil : PSs X [] (tS T X.K E sNext) := by
  refine pssM pss_nil ?_
  rintro D σ H ⟨F, al, S, ρ, g, e, h⟩
  exact h.now g e
theorem s_cons (h1 : PS X st (tS T X.K E m)) (h2 : PSs X rest (tS T X.K E m2)) : PSs X (st :: rest) (tS T X.K E (sSeq m m2)) := by
  refine pssM (pss_cons h1 h2) ?_
  rintro D σ H ⟨F, al, S, ρ, g, e, h⟩
  refine ⟨F, al, S, ρ, g, e, ?_⟩
  unfold sSeq at h
  cases q : m ρ S with
  | nx ρ1 S1 =>
    rw [q] at h
    exact fun σ' F' al' H' p g' e' => ⟨F', al', S1, ρ1, g', e', FQ.post p h⟩
  | bk ρ1 S1 => rw [q] at h; exact h
  | ct ρ1 S1 => rw [q] at h; exact h
  | ret w S1 => rw [q] at h; exact h
  | exc x ρ1 S1 => rw [q] at h; exact h
  | bad => rw [q] at h; exact h.elim
theorem s_expr (ha : PE X a (tW T X.K E p)) (hs : swapsWith a none pos.line X.env = pure false) : PS X (.Expr a pos) (tS T X.K E (sExpr p)) := by
  refine psM (ps_expr ha hs) ?_
  rintro D σ H ⟨F, al, S, ρ, g, e, h⟩
  exact (tW.toS g e h).imp fun x H1 ⟨F1, al1, S1, w, m, r, h1⟩ => h1.now m.g m.e
theorem s_ret (ha : PE X a (tW T X.K E p)) : PS X (.Return (some a) pos) (tS T X.K E (sRet p)) := by
  refine psM (ps_ret ha) ?_
  rintro D σ H ⟨F, al, S, ρ, g, e, h⟩
  exact (tW.toS g e h).imp fun x H1 ⟨F1, al1, S1, w, m, r, h1⟩ => h1 _ _ _ _ Post.refl m.g r
theorem s_if (hc : PT X c (DL.tB T X.K E bp)) (ha : PSs X bd (tS T X.K E m)) (hb : PSs X od (tS T X.K E m2)) : PS X (.If c bd od pos) (tS T X.K E (sIf bp m m2)) := by
  refine psM (ps_if hc ha hb) ?_
  rintro D σ H ⟨F, al, S, ρ, g, e, h⟩
  refine (tB.toS g e h).imp fun k H1 ⟨F1, al1, S1, m, h1⟩ => ?_
  cases k with
  | true => rw [if_pos rfl]; exact ⟨F1, al1, S1, ρ, m.g, m.e, h1⟩
  | false => rw [if_neg Bool.false_ne_true]; exact ⟨F1, al1, S1, ρ, m.g, m.e, h1⟩
theorem s_asg {t : Tg} (ha : PE X a (tW T X.K E p)) (hg : PG X tg (gTg X.K t)) (hs : swapsWithSole [tg] a pos.line X.env = pure false) (hw : swappedStores [tg] a X.env = pure none) (h1 : (assignEach [tg] X.env).map (·.2) = [assign tg X.env]) : PS X (.Assign [tg] a pos) (tS T X.K E (sAsg t p)) := by
  refine psM (ps_asg ha hg hs hw h1) ?_
  rintro D σ H ⟨F, al, S, ρ, g, e, h⟩
  exact (tW.toS g e h).imp fun x H1 ⟨F1, al1, S1, w, m, r, h1⟩ => h1.tg m.g r m.e
theorem s_set {i : Nat} {x : Str} {pos' : Pos} (hN : X.N.Nodup) (hi : X.N[i]? = some x) (hx : Loc X.env.scope x) (ha : PE X a (tW T X.K E p)) (hs : swapsWith a (some (.Name x pos')) pos.line X.env = pure false) (hf : X.fn x = true ∨ X.env.scope.names.lookup x = some .local) :
    PS X (.Assign [.Name x pos'] a pos) (tS T X.K E (sAsg (.nm i) p)) := by
  refine psM (ps_set hN hi hx ha hs hf) ?_
  rintro D σ H ⟨F, al, S, ρ, g, e, h⟩
  exact (tW.toS g e h).imp fun x H1 ⟨F1, al1, S1, w, m, r, h1⟩ => h1.tg m.g r m.e
theorem s_setLc {i : Nat} {y : Str} {py : Pos} {elt iter : Expr} {ifs : List Expr} {scope : Scope} {own : List (Str × Nat)} {spos : Pos} {it : Ml} {cb : Mb} {el : Me} {tgt : Tg} {mt : Bool} {vs : List Nat} (hc : X.calm = true) (hN : X.N.Nodup) (hy : X.N[i]? = some y) (hyl : X.env.scope.names.lookup y = some .local)
    (hsw : swapsWith (.ListComp elt [⟨tg, iter, ifs, 0⟩] scope pos) (some (.Name y py)) spos.line X.env = pure true) (hi : PI X tg iter (tI T X.K E it)) (ok : BlkOk X.N X.env.scope scope own) (hvs : own.map (·.2) = vs) (hsl : (tgt.slots.all fun i => vs.contains i) = true)
    (hg : ∀ (s : Shared) (H : Hp) (C : Addr) (cl : List (Str × Addr)) (fp : List Addr), PG (X.blk s H scope (compEnvC scope cl C X.env) fp) tg (gTg X.K tgt)) (ht : ∀ (s : Shared) (H : Hp) (C : Addr) (cl : List (Str × Addr)) (fp : List Addr), PTs (X.blk s H scope (compEnvC scope cl C X.env) fp) ifs (DL.tB T X.K EF cb))
    (he : ∀ (s : Shared) (H : Hp) (C : Addr) (cl : List (Str × Addr)) (fp : List Addr), PE (X.blk s H scope (compEnvC scope cl C X.env) fp) elt (tW T X.K EF el)) (hs : ∀ x, foldedSetIterable iter X.env x = pure x) :
    PS X (.Assign [.Name y py] (.ListComp elt [⟨tg, iter, ifs, 0⟩] scope pos) spos) (tS T X.K E (sAsg (.nm i) (mLc mt vs tgt it cb el))) := by
  subst hvs
  refine psM (ps_setLc hc hN hy hyl hsw hi ok hg ht he hs) ?_
  rintro D σ H ⟨F, al, S, ρ, g, e, h⟩
  refine lc_sound (mt := mt) (fun i hi => ?_) ((tW.toS g e h).imp fun x H1 ⟨F1, al1, S1, w, m, r, h1⟩ => h1.tg m.g r m.e)
  have := List.all_eq_true.mp hsl i hi
  simpa using this
theorem s_par2 {i j : Nat} {x y : Str} {px py pt : Pos} {kt k2 pt2} (hc : X.calm = true) (hN : X.N.Nodup) (hi : X.N[i]? = some x) (hj : X.N[j]? = some y) (hij : i ≠ j)
    (hx : X.env.scope.names.lookup x = some .local) (hy : X.env.scope.names.lookup y = some .local) (ha : PA X [a, b] (tL T X.K E ps))
    (hw : swappedStores [.Tuple [.Name x px, .Name y py] kt pt] (.Tuple [a, b] k2 pt2) X.env = pure (some [x, y])) (hs : swapsWithSole [.Tuple [.Name x px, .Name y py] kt pt] (.Tuple [a, b] k2 pt2) pos.line X.env = pure false) :
    PS X (.Assign [.Tuple [.Name x px, .Name y py] kt pt] (.Tuple [a, b] k2 pt2) pos) (tS T X.K E (sPar [i, j] ps)) := by
  refine psM (ps_par hc hN hi hj hij hx hy ha hw hs) ?_
  rintro D σ H ⟨F, al, S, ρ, g, e, h⟩
  refine (tL.toS g e h).imp fun vs H1 ⟨F1, al1, S1, w, m, r, h1⟩ => ?_
  cases r with
  | nil => exact h1.elim
  | cons r1 r =>
    cases r with
    | nil => exact h1.elim
    | cons r2 r =>
      cases r with
      | nil => exact ⟨_, _, rfl, h1.now m.g ((m.e.set r1 i).set r2 j)⟩
      | cons r3 r => exact h1.elim
/-- op= -/
def rAug : Operator → R2
  | .Add => rI0 fun i j => .int (i + j)
  | .Sub => rI0 fun i j => .int (i - j)
  | .Mult => rI CMul fun i j => .int (i * j)
  | .FloorDiv => rI CDiv fun i j => .int (i / j)
  | .Mod => rI (fun _ j => 0 < j) fun i j => .int (i % j)
  | _ => rNo
theorem op_aug (o : Operator) : OpR X (inplaceOp o) (rAug o) := by
  cases o <;> first | exact iop_add | exact iop_sub | exact iop_mul | exact iop_fdiv | exact iop_mod | exact op_no
theorem aug_sound {K : PySem.W.Frag} {F : Hp} {al : List Addr} {H : Hp} {o : Operator} {x y : V} {u w z : W} {Q : VK} (rx : Rw T K F al x u) (ry : Rw T K F al y w) (e : augW o u w = some z) (k : ∀ v, Rw T K F al v z → Q v H) : rAug o x y H Q := by
  unfold augW at e
  split at e
  · cases e; cases rx; cases ry; exact ⟨_, _, rfl, rfl, k _ (.int _)⟩
  · cases e; cases rx; cases ry; exact ⟨_, _, rfl, rfl, k _ (.int _)⟩
  · split at e
    · rename_i hm
      cases e; cases rx; cases ry
      refine ⟨_, _, rfl, rfl, ?_, k _ (.int _)⟩
      unfold mulOk at hm
      simp only [Bool.or_eq_true, Bool.and_eq_true, decide_eq_true_eq] at hm
      exact hm
    · cases e
  · split at e
    · rename_i hm
      cases e; cases rx; cases ry
      exact ⟨_, _, rfl, rfl, hm, k _ (.int _)⟩
    · cases e
  · split at e
    · rename_i hm
      cases e; cases rx; cases ry
      exact ⟨_, _, rfl, rfl, hm, k _ (.int _)⟩
    · cases e
  · cases e
theorem s_aug {i : Nat} {x : Str} {o : Operator} {pos' : Pos} (hN : X.N.Nodup) (hi : X.N[i]? = some x) (hx : Loc X.env.scope x) (ha : PE X a (tW T X.K E p)) (hf : X.fn x = true ∨ X.env.scope.names.lookup x = some .local) : PS X (.AugAssign (.Name x pos') o a pos) (tS T X.K E (sAug o i p)) := by
  refine psM (ps_aug hN hi hx ha (ti := rAug o) (fun pins s σ H x y v u Q I rx ry q => augR (op_aug o) I rx ry q) hf) ?_
  rintro D σ H ⟨F, al, S, ρ, g, e, h⟩
  unfold sAug at h
  split at h
  · rename_i w hw
    obtain ⟨v, h1, h2⟩ := e.2 i w hw
    refine ⟨v, h1, (tW.toS g e h).imp fun y H1 ⟨F1, al1, S1, u, m, r, h3⟩ => ?_⟩
    cases q : augW o w u with
    | none => rw [q] at h3; exact h3.elim
    | some z =>
      rw [q] at h3
      exact aug_sound (h2.post m.p) r q fun v rv => h3.now m.g (m.e.set rv i)
  · exact h.elim
theorem s_setIx {iv : Expr} {tpos : Pos} (ha : PE X a (tW T X.K E p)) (hb : PE X b (tW T X.K E q)) (hv : PE X iv (tW T X.K E r)) (hs : swapsWithSole [.Subscript a b tpos] iv pos.line X.env = pure false) (hw : swappedStores [.Subscript a b tpos] iv X.env = pure none) (h1 : (assignEach [.Subscript a b tpos] X.env).map (·.2) = [assign (.Subscript a b tpos) X.env])
    (h2 : ∀ v, assign (.Subscript a b tpos) X.env v = (do
      let ov ← holding [v] (eval a X.env)
      let iv ← holding [v, ov] (eval b X.env)
      standAt tpos
      holding [v, ov, iv] (setItem ov iv v)
      release [v, ov, iv] [])) : PS X (.Assign [.Subscript a b tpos] iv pos) (tS T X.K E (sSetIx p q r)) := by
  refine psM (ps_asg hv (pg_sub ha hb set_list h2) hs hw h1) ?_
  rintro D σ H ⟨F, al, S, ρ, g, e, h⟩
  refine (tW.toS g e h).imp fun v H1 ⟨F1, al1, S1, vw, m, rv, h1⟩ => ?_
  refine (tW.toS m.g m.e h1).imp fun x H2 ⟨F2, al2, S2, xw, m2, rx, h2⟩ => ?_
  refine (tW.toS m2.g m2.e h2).imp fun i H3 ⟨F3, al3, S3, iw, m3, ri, h3⟩ => ?_
  cases q : setIxR xw iw vw S3 with
  | none => simp only [q] at h3; exact h3.elim
  | some S4 =>
    simp only [q] at h3
    unfold setIxR at q
    split at q
    · split at q
      · rename_i ws hn
        split at q
        · rename_i j hj
          cases q
          cases ri
          cases rx.post m3.p with
          | @loc pa _ hl =>
            obtain ⟨xs, h4, h5, h6⟩ := m3.g.cell _ pa _ hl hn
            refine ⟨pa, xs, _, j, rfl, rfl, h4, by rw [h6.length]; exact hj, ?_⟩
            obtain ⟨g1, p1⟩ := m3.g.setCell (o := .lst (xs.set j v)) (c := .lst (ws.set j vw)) hl h5 ⟨_, upd_same, h5, h6.set ((rv.post m2.p).post m3.p) j⟩
            exact h3 _ _ _ _ p1 g1 (m3.e.post p1)
        · cases q
      · cases q
    · cases q
theorem putF_sound {K : PySem.W.Frag} {F : Hp} {al : List Addr} (hn : T.fld.Nodup) {f : Nat} (hf : f < T.fld.length) {v : V} {w : W} (rv : Rw T K F al v w) : ∀ {gs : List (Str × V)} {fs : List (Nat × W)}, RwF T K F al gs fs → RwF T K F al (putF (T.f f) v gs) (putFN f w fs)
  | _, _, .nil => .cons hf rv .nil
  | _, _, .cons (i := i) l r t => by
    unfold putF putFN
    by_cases h : i = f
    · subst h
      rw [if_pos rfl, if_pos rfl]
      exact .cons l rv t
    · rw [if_neg h, if_neg (fun q => h (Tab.f_inj hn l hf q))]
      exact .cons l r (putF_sound hn hf rv t)
theorem rwF_len {K : PySem.W.Frag} {F : Hp} {al : List Addr} : ∀ {gs : List (Str × V)} {fs : List (Nat × W)}, RwF T K F al gs fs → gs.length = fs.length
  | _, _, .nil => rfl
  | _, _, .cons _ _ t => by rw [List.length_cons, List.length_cons, rwF_len t]
theorem s_setFld {cc f : Nat} {fn : Str} {pos' : Pos} (hn : T.fld.Nodup) (hf : f < T.fld.length) (hfn : T.f f = fn) (hc : Cls X.K (T.c cc)) (hna : NoAttr X.K (T.c cc) fn) (ha : PE X a (tW T X.K E p)) (hv : PE X b (tW T X.K E q)) (hs : swapsWith b (some (.Attribute a fn pos')) pos.line X.env = pure false) : PS X (.Assign [.Attribute a fn pos'] b pos) (tS T X.K E (sSetFld cc f p q)) := by
  subst hfn
  refine psM (ps_fld ha hv hs) ?_
  rintro D σ H ⟨F, al, S, ρ, g, e, h⟩
  refine (tW.toS g e h).imp fun v H1 ⟨F1, al1, S1, vw, m, rv, h1⟩ => ?_
  refine (tW.toS m.g m.e h1).imp fun x H2 ⟨F2, al2, S2, xw, m2, rx, h2⟩ => ?_
  cases q : setFldR cc f xw vw S2 with
  | none => rw [q] at h2; exact h2.elim
  | some S3 =>
    rw [q] at h2
    unfold setFldR at q
    split at q
    · split at q
      · rename_i d fs hn2
        split at q
        · rename_i hd
          cases q
          obtain ⟨rfl, hl⟩ := hd
          cases rx with
          | @loc pa _ hl2 =>
            obtain ⟨dx, gs, h4, h5, h6⟩ := m2.g.cell _ pa _ hl2 hn2
            refine ⟨pa, _, dx, gs, rfl, h4, hc, hna, by rw [rwF_len h6]; omega, ?_⟩
            obtain ⟨g1, p1⟩ := m2.g.setCell (o := .ins (T.c d) dx (putF (T.f f) v gs)) (c := .obj d (putFN f vw fs)) hl2 h5 ⟨dx, _, upd_same, h5, putF_sound hn hf (rv.post m2.p) h6⟩
            exact h2 _ _ _ _ p1 g1 (m2.e.post p1)
        · cases q
      · cases q
    · cases q
theorem s_for {iter : Expr} {it : Ml} {t : Tg} (hp : PassesOwn (model X.prog X.w) X.A X.env X.xe) (hc : X.calm = true) (hi : PI X tg iter (tI T X.K E it)) (hg : PG X tg (gTg X.K t)) (hb : PSs X bd (tS T X.K E m)) (hs : ∀ x, foldedSetIterable iter X.env x = pure x) : PS X (.For tg iter bd [] pos) (tS T X.K E (sFor it t m)) := by
  refine psM (ps_for hp hc hi hg hb hs) ?_
  rintro D σ H ⟨F, al, S, ρ, g, e, h⟩
  refine (tI.toS g e h).imp fun J H1 ⟨F1, al1, S1, xs, mid, wk, h1⟩ => ?_
  obtain ⟨G, Y, w, hG, hY⟩ := wk
  refine for_it w (fun i σ2 H2 => ∃ F2 al2 S2 ρ2, Post F1 al1 H1 F2 al2 H2 ∧ Good T X.K F2 al2 S2 H2 ∧ EnvOk T X.K F2 al2 σ2 ρ2 ∧ FQ T X.K E D F2 al2 H2 (forM t m (xs.drop i) ρ2 S2)) ?_ ?_ ?_ ?_
  · exact ⟨F1, al1, S1, ρ, Post.refl, mid.g, mid.e, h1⟩
  · rintro i σ2 H2 hi ⟨F2, al2, S2, ρ2, p2, g2, _⟩
    exact hG H2 fun b u e => g2.sub b u (p2.ext b u e)
  · rintro i x σ2 H2 H2' hi ⟨F2, al2, S2, ρ2, p2, g2, e2, h2⟩ y
    obtain ⟨F3, u, hu, g3, p3, r3⟩ := hY i H2 x H2' hi y F2 al2 S2 p2.ext p2.pre g2
    have hdrop : xs.drop i = u :: xs.drop (i + 1) := by
      obtain ⟨hi', hu'⟩ := List.getElem?_eq_some_iff.mp hu
      rw [List.drop_eq_getElem_cons hi', hu']
    rw [hdrop] at h2
    unfold forM at h2
    cases hb : bindTg t u ρ2 with
    | none => rw [hb] at h2; exact h2.elim
    | some ρ3 =>
      simp only [hb] at h2
      refine tg_sound t.slots (σ0 := σ2) g3 r3 (e2.post p3) hb (fun i hi => hi) rfl fun σ3 F4 al4 H4 p4 g4 e4 _ => ?_
      refine ⟨F4, al4, S2, ρ3, g4, e4, ?_⟩
      have p14 := (p2.trans p3).trans p4
      replace h2 := FQ.post (p3.trans p4) h2
      cases hm : m ρ3 S2 with
      | nx ρ5 S5 =>
        simp only [hm] at h2
        exact fun σ5 F5 al5 H5 p5 g5 e5 => ⟨F5, al5, S5, ρ5, p14.trans p5, g5, e5, FQ.post p5 h2⟩
      | ct ρ5 S5 =>
        simp only [hm] at h2
        exact fun σ5 F5 al5 H5 p5 g5 e5 => ⟨F5, al5, S5, ρ5, p14.trans p5, g5, e5, FQ.post p5 h2⟩
      | bk ρ5 S5 =>
        simp only [hm] at h2
        exact fun σ5 F5 al5 H5 p5 g5 e5 => h2 σ5 F5 al5 H5 p5 g5 e5
      | ret w S5 =>
        simp only [hm] at h2
        exact h2
      | exc x ρ5 S5 =>
        simp only [hm] at h2
        exact h2
      | bad => simp only [hm] at h2; exact h2.elim
  · rintro σ2 H2 ⟨F2, al2, S2, ρ2, p2, g2, e2, h2⟩
    rw [List.drop_length] at h2
    exact h2.now g2 e2
end
/-! ### a statement on data alone: the store stays out of it -/
end DL
set_option Elab.async false
set_option linter.all false
set_option maxRecDepth 100000
set_option maxHeartbeats 4000000
/-! Wk: defs, the head's facts, the law's end. -/
namespace DL
open PySem PySem.Spec L2
def startW (N : Nat) (ws : List W) : Env := ws.map some ++ List.replicate (N - ws.length) none
def Fl.toR : Fl → Res
  | .nx _ S => .ok .non S
  | .ret w S => .ok w S
  | .exc x _ S => .exc x S
  | _ => .bad
def fnW (n N : Nat) (b : Ms) : Fn := fun ws S => if ws.length = n then (b (startW N ws) S).toR else .bad
theorem fnW_takes (n N : Nat) (b : Ms) : TakesN n (fnW n N b) := fun ws S h => if_neg h
section
variable {T : Tab} {P : Program} {w : World} {K : PySem.W.Frag} {mg : Str → Option Value} {base : Heap}
theorem start_get {vs : List V} : ∀ {N : List Str} {i : Nat} {v : V}, vs[i]? = some v → (start N vs)[i]? = some (some v) := fun {N i v} h => by
  unfold L2.start
  have hi := (List.getElem?_eq_some_iff.mp h).1
  rw [List.getElem?_append_left (by rw [List.length_map]; exact hi), List.getElem?_map, h]; rfl
theorem start_envOk {F : Hp} {al : List Addr} {N : List Str} {vs : List V} {ws : List W} (r : RwL T K F al vs ws) : EnvOk T K F al (start N vs) (startW N.length ws) := by
  refine ⟨?_, fun i u h => ?_⟩
  · unfold L2.start startW
    rw [List.length_append, List.length_append, List.length_map, List.length_map, List.length_replicate, List.length_replicate, r.length]
  · unfold startW at h
    by_cases hi : i < ws.length
    · rw [List.getElem?_append_left (by rw [List.length_map]; exact hi), List.getElem?_map] at h
      cases q : ws[i]? with
      | none => rw [q] at h; cases h
      | some x =>
        rw [q] at h
        have : x = u := by simpa using h
        subst this
        obtain ⟨v, h1, h2⟩ := r.get q
        exact ⟨v, start_get h1, h2⟩
    · rw [List.getElem?_append_right (by rw [List.length_map]; omega), List.getElem?_replicate] at h
      split at h <;> cases h
theorem fnW_ok {x qual : Str} {params : Arguments} {body : List Stmt} {scope : Scope} {dvs : List V} {kws : List (Str × V)} {f : Addr} {fd : FuncData} {N pn : List Str} {k : Nat} {b : Ms} (Fd : FunD K x qual params body scope dvs kws f fd) (Sc : FnScope N pn scope)
    (hb : ∀ (cdv : Value) (A : Around) (outer : List PySem.Env) (s : Shared) (H : Hp) (E : XK), Room k (A.deeper (PyProof.Rows.envOfC qual scope s.heap.objs.size f cdv)) →
      PSs (cxOf (L2.CX P w) P w K mg base N qual scope f cdv A outer s H E) body (tS T K (fun c d _ H' => E c d H') b)) :
    FnOk P w K mg base (L2.CX P w) (k + 1) f fd pn (spW T K pn.length (fnW pn.length N.length b)) := by
  refine Fd.ok Sc (fun vs H Q E h => ?_) (fun cdv A outer s H vs Q E hr h => ⟨_, hb cdv A outer s H E hr, ?_⟩)
  · obtain ⟨F, al, S, ws, hl, g, r, _⟩ := h
    exact r.length.trans hl
  · obtain ⟨F, al, S, ws, hl, g, r, h⟩ := h
    refine ⟨F, al, S, startW N.length ws, g, start_envOk r, ?_⟩
    unfold fnW at h
    rw [if_pos hl] at h
    cases q : b (startW N.length ws) S with
    | nx ρ S' => rw [q] at h; exact fun σ' F' al' H' p g' _ => h .non F' al' H' p g' .non
    | bk ρ S' => rw [q] at h; exact h.elim
    | ct ρ S' => rw [q] at h; exact h.elim
    | ret u S' => rw [q] at h; exact h
    | exc z ρ S' => rw [q] at h; exact fun c d σ' F' al' H' p g' _ rx => h c d F' al' H' p g' rx
    | bad => rw [q] at h; exact h.elim
theorem callF_mk {x qual : Str} {params : Arguments} {body : List Stmt} {scope : Scope} {dv0 : List V} {kws : List (Str × V)} {f : Addr} {fd : FuncData} {pn : List Str} {k n : Nat} {φ : Fn} (Fd : FunD K x qual params body scope dv0 kws f fd) (hm : mg x = some (.ref f))
    (FO : FnOk P w K mg base (L2.CX P w) k f fd pn (spW T K n φ)) (hn : TakesN n φ) (hb : Binds K fd pn []) : CallF T P w K mg base k x φ :=
  ⟨f, fd, pn, [], [], [], n, φ, FO, hn, hm, Fd.kp, hb, .nil, fun _ _ => .nil, funext fun ws => funext fun S => by rw [List.append_nil]⟩
theorem makeF_mk {x : Str} {f : Addr} {fd : FuncData} {pn : List Str} {k n c : Nat} {φ : Fn} (hm : mg x = some (.ref (T.c c))) (hM : Mk K (T.c c) f)
    (FO : FnOk P w K mg base (L2.CX P w) k f fd pn (spW T K n φ)) (hn : TakesN n φ) (hb : Binds K fd pn []) : MakeF T P w K mg base k x c φ :=
  ⟨f, fd, pn, [], [], [], n, φ, FO, hn, hm, hM, hb, .nil, fun _ _ => .nil, funext fun ws => funext fun S => by rw [List.append_nil]⟩
/-- a def with defaults, all of them written at the call -/
theorem binds_full {x qual : Str} {params : Arguments} {body : List Stmt} {scope : Scope} {dvs : List V} {kws : List (Str × V)} {f : Addr} {fd : FuncData} {pn : List Str} (Fd : FunD K x qual params body scope dvs kws f fd) (n : Nat) (hd : dvs ≠ []) (hn : n = pn.length)
    (h : ∀ (Ta : Addr) (kV doc pm : Value) (an : Option Addr) (cdv ct : Value) (us its : List Value), us.length = n → its.length = dvs.length →
      ∃ k, bindArgs (PySem.W.fnOf x qual params body scope (.ref Ta) kV doc pm an cdv ct) ⟨us, []⟩ = seqItems? (.ref Ta) >>= k ∧ k (some its.toArray) = pure (pn.zip us)) : Binds K fd pn [] := by
  have := Fd.binds1 (ps := pn) n dvs.length hd (by omega) fun Ta kV doc pm an cdv ct us its h1 h2 => by
    obtain ⟨k, e1, e2⟩ := h Ta kV doc pm an cdv ct us its h1 h2
    refine ⟨k, e1, ?_⟩
    rw [e2, ← h2, List.drop_length, List.append_nil]
  obtain ⟨ds, h1, h2⟩ := this
  rw [List.drop_length] at h1
  cases h1
  exact h2
end
/-- what the law promises -/
def spLaw (K : PySem.W.Frag) : Sp := fun vs H Q _ => ∃ (a : Addr) (ns : List Int), vs = [.ref a] ∧ SqL K H a (ns.map V.int) ∧ ns.length ≤ 63 ∧ ∀ H', Q (.bl true) H'
theorem law_end {T : Tab} {P : Program} {w : World} {K : PySem.W.Frag} {mg : Str → Option Value} {base : Heap} {k : Nat} {f : Addr} {fd : FuncData} {pn : List Str} {φ : Fn} (FO : FnOk P w K mg base (L2.CX P w) k f fd pn (spW T K 1 φ))
    (hφ : ∀ ns : List Int, ns.length ≤ 63 → ∃ S, φ [.lst (ns.map W.int)] [] = .ok (.bl true) S) : FnOk P w K mg base (L2.CX P w) k f fd pn (spLaw K) := by
  refine FO.imp fun vs H Q E h => ?_
  obtain ⟨a, ns, rfl, hS, hl, hq⟩ := h
  obtain ⟨S, e⟩ := hφ ns hl
  refine ⟨H, [], [], [.lst (ns.map W.int)], rfl, ⟨Same.refl _, List.nodup_nil, rfl, (fun _ h => nomatch h), (fun n a c h => by simp at h)⟩, .cons (.lst hS (RwL.of_ints ns)) .nil, ?_⟩
  rw [e]
  intro v F' al' H' p g r
  cases r
  exact hq H'
theorem noX {P : Program} {w : World} (H : Hp) (s : Shared) (e : Value) (s' : Shared) (h : L2.CX P w [] H s (fun _ _ _ => False) e s') : False := by
  obtain ⟨_, _, _, _, _, _, _, _, _, _, _, _, z⟩ := h
  exact z
/-! ### the head with more facts -/
/-- the end of a walk, the wish about exceptions by the world -/
theorem walk_end {l : PySem.W.OpenLaw} {n k : Nat} {q : Program} {loose : List Str} {XP : (Str → Option Value) → Heap → Prop} {YP : World → Heap → Prop} {d : DefRec} {CX : World → CXT} {x : Str}
    (hn : l.most = some n) (hn2 : n ≤ sizeLine) (hdf : d.params.defaults = []) (hr : Room k callerA)
    (hF : ∀ (w : World) (mg : Str → Option Value) (fa : Addr) (h : Heap), YP w h → h.Ns mainGlobals mg → mg d.name = some (.ref fa) →
      ∃ (K : PySem.W.Frag) (fd : FuncData) (sp : Sp), K.In h ∧ (∀ (s : Shared) (u : Value), BindsTo s fd ⟨[u], []⟩ [(x, u)]) ∧
        (∀ (H : Hp) (a : Addr) (ns : List Int), ns.length ≤ n → Only H → SqL K H a (ns.map V.int) → sp [.ref a] H (fun v _ => v = .bl true) fun _ _ _ => False) ∧
        ∀ base : Heap, K.In base → base.Ns mainGlobals mg → FnOk l.prog w K mg base (CX w) k fa fd [x] sp)
    (hCX : ∀ (w : World) (H : Hp) (s : Shared) (e : Value) (s' : Shared), CX w [] H s (fun _ _ _ => False) e s' → False) :
    PySem.W.WalkO q loose XP YP l.row.toRowW d [] (fun f vs => PySem.call f vs) := by
  refine Att.attach_call hn hdf fun w s₀ s₁ mg mb fa o pm cd doc a vs ns Gd hY ho hd hcd hmg hobj hints hlen hg => ?_
  obtain ⟨K, fd, sp, KX, hb, hsp, hf⟩ := hF w mg fa _ hY Gd.T.g hmg
  exact law_call KX Gd.T.g Gd.T.b Gd.T.builtins Gd.T.nolimit hg hobj hints (Nat.le_trans hlen hn2) hr hf hb (fun H hO hS => hsp H a ns hlen hO hS) fun H e s' => hCX w H s₁ e s'
end DL
set_option Elab.async false
set_option linter.all false
set_option maxRecDepth 100000
set_option maxHeartbeats 4000000
/-! Wl: rules by names. -/
namespace DL
open PySem PySem.Spec L2
section
variable {X : Cx} {T : Tab} {E : WX} {pos pp : Pos} {a b c : Expr} {p q r : Me} {es : List Expr} {ps : Ml} {bp bq br : Mb} {x : Str}
/-- a name of the module that stands for data -/
def GloW (T : Tab) (K : PySem.W.Frag) (mg : Str → Option Value) (x : Str) (w : W) : Prop := ∃ (v : V) (u : Value), mg x = some u ∧ RelV v u ∧ ∀ F al, Rw T K F al v w
theorem w_globW {w : W} (hg : Gl X x) (h : GloW T X.K X.mg x w) (hd : (x == ("__debug__" : Str)) = false) : PE X (.Name x pos) (tW T X.K E (mCon w)) := by
  obtain ⟨v, u, h1, h2, h3⟩ := h
  exact w_glob hg h1 h2 h3 hd
theorem gloW_int {K : PySem.W.Frag} {mg : Str → Option Value} {i : Int} (h : ∃ t, mg x = some (.int i t)) : GloW T K mg x (.int i) := by
  obtain ⟨t, h⟩ := h
  exact ⟨.int i, _, h, ⟨t, rfl⟩, fun _ _ => .int i⟩
theorem gloW_strs {K : PySem.W.Frag} {mg : Str → Option Value} {xs : List Str} (hm : mg x = some (.ref (He.ga K x))) (h : He.tupB K x (xs.map He.Dv.str) = true) : GloW T K mg x (.tup (xs.map W.str)) := by
  refine ⟨.ref (He.ga K x), _, hm, rfl, fun F al => .tup (He.tupB_ok h F) ?_⟩
  clear h
  induction xs with
  | nil => exact .nil
  | cons y ys ih => exact .cons (.str y) ih
theorem one {o : BoolOp} (h : PE X a (tW T X.K E p)) : PE X (.BoolOp o [a] pos) (tW T X.K E p) := pe_one h
theorem w_len (hg : Gl X "len") (hm : X.mg "len" = none) (ha : PA X (a :: es) (tL T X.K E ps)) (he : starEach (a :: es) X.env = (false, eval a X.env) :: starEach es X.env) (hpl : (backTo pos (starEach es X.env)).any (·.1) = false) : PE X (.Call (.Name "len" pp) (a :: es) [] pos) (tW T X.K E (mPrim .len ps)) :=
  w_primB call_len hg hm PySem.boot_len ha (by decide) rfl he hpl
theorem w_abs (hg : Gl X "abs") (hm : X.mg "abs" = none) (ha : PA X (a :: es) (tL T X.K E ps)) (he : starEach (a :: es) X.env = (false, eval a X.env) :: starEach es X.env) (hpl : (backTo pos (starEach es X.env)).any (·.1) = false) : PE X (.Call (.Name "abs" pp) (a :: es) [] pos) (tW T X.K E (mPrim .abs ps)) :=
  w_primB call_abs hg hm PyProof.Rows.boot_abs ha (by decide) rfl he hpl
theorem w_max (hc : X.calm = true) (hg : Gl X "max") (hm : X.mg "max" = none) (ha : PA X (a :: es) (tL T X.K E ps)) (he : starEach (a :: es) X.env = (false, eval a X.env) :: starEach es X.env) (hpl : (backTo pos (starEach es X.env)).any (·.1) = false) : PE X (.Call (.Name "max" pp) (a :: es) [] pos) (tW T X.K E (mPrim .max ps)) :=
  w_primB (P := .max) (call_max2 hc) hg hm PyProof.Rows.boot_max ha (by decide) rfl he hpl
theorem w_min (hc : X.calm = true) (hg : Gl X "min") (hm : X.mg "min" = none) (ha : PA X (a :: es) (tL T X.K E ps)) (he : starEach (a :: es) X.env = (false, eval a X.env) :: starEach es X.env) (hpl : (backTo pos (starEach es X.env)).any (·.1) = false) : PE X (.Call (.Name "min" pp) (a :: es) [] pos) (tW T X.K E (mPrim .min ps)) :=
  w_primB (P := .min) (call_min2 hc) hg hm PyProof.Rows.boot_min ha (by decide) rfl he hpl
theorem w_all (hc : X.calm = true) (hg : Gl X "all") (hm : X.mg "all" = none) (ha : PA X (a :: es) (tL T X.K E ps)) (he : starEach (a :: es) X.env = (false, eval a X.env) :: starEach es X.env) (hpl : (backTo pos (starEach es X.env)).any (·.1) = false) : PE X (.Call (.Name "all" pp) (a :: es) [] pos) (tW T X.K E (mPrim .all ps)) :=
  w_primB (P := .all) (cr_all hc) hg hm PyProof.Rows.boot_all ha (by decide) rfl he hpl
theorem w_any (hc : X.calm = true) (hg : Gl X "any") (hm : X.mg "any" = none) (ha : PA X (a :: es) (tL T X.K E ps)) (he : starEach (a :: es) X.env = (false, eval a X.env) :: starEach es X.env) (hpl : (backTo pos (starEach es X.env)).any (·.1) = false) : PE X (.Call (.Name "any" pp) (a :: es) [] pos) (tW T X.K E (mPrim .any ps)) :=
  w_primB (P := .any) (cr_any hc) hg hm PyProof.Rows.boot_any ha (by decide) rfl he hpl
theorem w_divmod (hg : Gl X "divmod") (hm : X.mg "divmod" = none) (ha : PA X (a :: es) (tL T X.K E ps)) (he : starEach (a :: es) X.env = (false, eval a X.env) :: starEach es X.env) (hpl : (backTo pos (starEach es X.env)).any (·.1) = false) : PE X (.Call (.Name "divmod" pp) (a :: es) [] pos) (tW T X.K E (mPrim .divmod ps)) :=
  w_primB (P := .divmod) call_divmod hg hm PyProof.Rows.boot_divmod ha (by decide) rfl he hpl
theorem w_tuple (hg : Gl X "tuple") (hm : X.mg "tuple" = none) (ha : PA X (a :: es) (tL T X.K E ps)) (he : starEach (a :: es) X.env = (false, eval a X.env) :: starEach es X.env) (hpl : (backTo pos (starEach es X.env)).any (·.1) = false) : PE X (.Call (.Name "tuple" pp) (a :: es) [] pos) (tW T X.K E (mPrim .tuple ps)) :=
  w_primT (P := .tuple) call_tuple_of hg hm PyProof.Rows.boot_tuple ha (by decide) rfl he hpl
theorem w_list (hg : Gl X "list") (hm : X.mg "list" = none) (ha : PA X (a :: es) (tL T X.K E ps)) (he : starEach (a :: es) X.env = (false, eval a X.env) :: starEach es X.env) (hpl : (backTo pos (starEach es X.env)).any (·.1) = false) : PE X (.Call (.Name "list" pp) (a :: es) [] pos) (tW T X.K E (mPrim .list ps)) :=
  w_primT (P := .list) call_list_of hg hm PyProof.Rows.boot_list ha (by decide) rfl he hpl
theorem w_isT {tp : Pos} {tx : Str} {t : Ty} (hg : Gl X "isinstance") (hm : X.mg "isinstance" = none) (htg : Gl X tx) (htm : X.mg tx = none) (hv : bootBuiltins tx = some (.type t.s)) (hn : tx ≠ "__name__") (hdb : (tx == ("__debug__" : Str)) = false) (ha : PE X a (tW T X.K E p))
    (he : starEach [a, .Name tx tp] X.env = (false, eval a X.env) :: starEach [.Name tx tp] X.env) (he2 : starEach [.Name tx tp] X.env = (false, eval (.Name tx tp) X.env) :: starEach [] X.env) (hpl : (backTo pos (starEach [.Name tx tp] X.env)).any (·.1) = false) : PE X (.Call (.Name "isinstance" pp) [a, .Name tx tp] [] pos) (tW T X.K E (mIsi t p)) :=
  w_isi hg hm PyProof.Rows.boot_isinstance (pe_bltn htg htm hv rfl hn hdb) ha (by decide) rfl he he2 hpl
theorem w_isInt {tp : Pos} (hg : Gl X "isinstance") (hm : X.mg "isinstance" = none) (htg : Gl X "int") (htm : X.mg "int" = none) (ha : PE X a (tW T X.K E p))
    (he : starEach [a, .Name "int" tp] X.env = (false, eval a X.env) :: starEach [.Name "int" tp] X.env) (he2 : starEach [.Name "int" tp] X.env = (false, eval (.Name "int" tp) X.env) :: starEach [] X.env) (hpl : (backTo pos (starEach [.Name "int" tp] X.env)).any (·.1) = false) : PE X (.Call (.Name "isinstance" pp) [a, .Name "int" tp] [] pos) (tW T X.K E (mIsi .int p)) :=
  w_isT (t := .int) hg hm htg htm PyProof.Rows.boot_int (by decide) rfl ha he he2 hpl
theorem w_isBool {tp : Pos} (hg : Gl X "isinstance") (hm : X.mg "isinstance" = none) (htg : Gl X "bool") (htm : X.mg "bool" = none) (ha : PE X a (tW T X.K E p))
    (he : starEach [a, .Name "bool" tp] X.env = (false, eval a X.env) :: starEach [.Name "bool" tp] X.env) (he2 : starEach [.Name "bool" tp] X.env = (false, eval (.Name "bool" tp) X.env) :: starEach [] X.env) (hpl : (backTo pos (starEach [.Name "bool" tp] X.env)).any (·.1) = false) : PE X (.Call (.Name "isinstance" pp) [a, .Name "bool" tp] [] pos) (tW T X.K E (mIsi .bool p)) :=
  w_isT (t := .bool) hg hm htg htm PyProof.Rows.boot_bool (by decide) rfl ha he he2 hpl
theorem w_isStr {tp : Pos} (hg : Gl X "isinstance") (hm : X.mg "isinstance" = none) (htg : Gl X "str") (htm : X.mg "str" = none) (ha : PE X a (tW T X.K E p))
    (he : starEach [a, .Name "str" tp] X.env = (false, eval a X.env) :: starEach [.Name "str" tp] X.env) (he2 : starEach [.Name "str" tp] X.env = (false, eval (.Name "str" tp) X.env) :: starEach [] X.env) (hpl : (backTo pos (starEach [.Name "str" tp] X.env)).any (·.1) = false) : PE X (.Call (.Name "isinstance" pp) [a, .Name "str" tp] [] pos) (tW T X.K E (mIsi .str p)) :=
  w_isT (t := .str) hg hm htg htm PyProof.Rows.boot_str (by decide) rfl ha he he2 hpl
theorem w_isTuple {tp : Pos} (hg : Gl X "isinstance") (hm : X.mg "isinstance" = none) (htg : Gl X "tuple") (htm : X.mg "tuple" = none) (ha : PE X a (tW T X.K E p))
    (he : starEach [a, .Name "tuple" tp] X.env = (false, eval a X.env) :: starEach [.Name "tuple" tp] X.env) (he2 : starEach [.Name "tuple" tp] X.env = (false, eval (.Name "tuple" tp) X.env) :: starEach [] X.env) (hpl : (backTo pos (starEach [.Name "tuple" tp] X.env)).any (·.1) = false) : PE X (.Call (.Name "isinstance" pp) [a, .Name "tuple" tp] [] pos) (tW T X.K E (mIsi .tuple p)) :=
  w_isT (t := .tuple) hg hm htg htm PyProof.Rows.boot_tuple (by decide) rfl ha he he2 hpl
end
end DL
set_option Elab.async false
set_option linter.all false
set_option maxRecDepth 100000
set_option maxHeartbeats 4000000
/-! Wm: ranges as values, keywords, tuple.index, sorted. -/
namespace DL
open PySem PySem.Spec L2
def rgOk (a b : Int) : Bool := decide (-(2 ^ 62) ≤ a) && decide (a < 2 ^ 62) && decide (-(2 ^ 62) ≤ b) && decide (b < 2 ^ 62) && decide ((b - a).toNat ≤ 2 ^ 24)
def rgR (a b : Int) : List W := rangeW a (b - a).toNat
def mRg1 (k : List W → Sto → Res) (p : Me) : Me := fun ρ S => (p ρ S).bind fun x S => match x with
  | .int n => if rgOk 0 n then k (rgR 0 n) S else .bad
  | _ => .bad
def kTup (ws : List W) (S : Sto) : Res := .ok (.tup ws) S
def kLst (ws : List W) (S : Sto) : Res := .ok (.lst ws) S
section
variable {X : Cx} {T : Tab} {E : WX} {pos pp pp2 pos2 : Pos} {a b c : Expr} {p q r : Me} {es : List Expr} {ps : Ml} {bp bq br : Mb} {x : Str}
theorem rgOk_ok {i j : Int} (h : rgOk i j = true) : RgOk i j := by
  unfold rgOk at h
  simp only [Bool.and_eq_true, decide_eq_true_eq] at h
  exact ⟨h.1.1.1.1, h.1.1.1.2, h.1.1.2, h.1.2, h.2⟩
theorem rgV_rw {K : PySem.W.Frag} {F : Hp} {al : List Addr} : ∀ (n : Nat) (lo : Int), RwL T K F al ((List.range n).map fun i => V.int (lo + (i : Nat))) (rangeW lo n)
  | 0, _ => .nil
  | n + 1, lo => by
    rw [List.range_succ_eq_map, List.map_cons, List.map_map, rangeW]
    refine .cons (by simpa using Rw.int lo) ?_
    have e : ((fun i : Nat => V.int (lo + (i : Nat))) ∘ Nat.succ) = fun i : Nat => V.int ((lo + 1) + (i : Nat)) := funext fun i => by
      show V.int (lo + ((i + 1 : Nat) : Int)) = V.int (lo + 1 + (i : Int))
      congr 1; push_cast; omega
    rw [e]
    exact rgV_rw n (lo + 1)
theorem w_tupRg1 (hc : X.calm = true) (hg : Gl X "tuple") (hm : X.mg "tuple" = none) (hg2 : Gl X "range") (hm2 : X.mg "range" = none) (ha : PE X a (tW T X.K E p)) (na : starEach [a] X.env = (false, eval a X.env) :: starEach [] X.env)
    (na2 : starEach [.Call (.Name "range" pp2) [a] [] pos2] X.env = (false, eval (.Call (.Name "range" pp2) [a] [] pos2) X.env) :: starEach [] X.env) : PE X (.Call (.Name "tuple" pp) [.Call (.Name "range" pp2) [a] [] pos2] [] pos) (tW T X.K E (mRg1 kTup p)) := by
  refine peM (pe_tupRg hc hg hm (prg_1 hg2 hm2 ha na) na2) ?_
  rintro σ H Q ⟨F, al, S, ρ, g, e, h⟩
  refine (tW.bind g e h).imp fun x H1 ⟨F1, al1, S1, w, m, r, h1⟩ => ?_
  split at h1
  · split at h1
    · rename_i n hn
      cases r
      exact ⟨n, rfl, rgOk_ok hn, fun l hl => RQ.new h1 m.g (rgV_rw _ _) hl⟩
    · exact h1.elim
  · exact h1.elim
/-! ### keywords -/
def mCallKP (ψ : List W → List W → Sto → Res) (n m : Nat) (ps pk : Ml) : Me := fun ρ S => (ps ρ S).bind fun ws S => (pk ρ S).bind fun us S => if ws.length = n ∧ us.length = m ∧ nlL (ws.map (derefF S)) = true ∧ nlL (us.map (derefF S)) = true then pureR (ψ (ws.map (derefF S)) (us.map (derefF S)) []) S else .bad
/-! ### tuple.index, flat values -/
def idxW (x : W) : List W → Option Nat
  | [] => none
  | y :: ys => if W.eqv y x then some 0 else (idxW x ys).map (· + 1)
end
end DL
set_option Elab.async false
set_option linter.all false
set_option maxRecDepth 100000
set_option maxHeartbeats 4000000
/-! Wn: sorted of ints. -/
namespace DL
open PySem PySem.Spec L2
/-! ### sorted(a tuple of ints) -/
/-! ### sorted, ints in a list or tuple -/
def insI (x : Int) : List Int → List Int
  | [] => [x]
  | y :: ys => if x ≤ y then x :: y :: ys else y :: insI x ys
def srtI : List Int → List Int
  | [] => []
  | x :: xs => insI x (srtI xs)
def mSorted (k : List W → Sto → Res) (a : Me) : Me := fun ρ S => (a ρ S).bind fun x S => match (items (deref S x)).bind allI with
  | some ns => k ((srtI ns).map W.int) S
  | none => .bad
end DL
set_option Elab.async false
set_option linter.all false
set_option maxRecDepth 100000
set_option maxHeartbeats 4000000
/-! Wo: defaults and keyword-only parameters. -/
namespace DL
open PySem PySem.Spec L2
/-- the keyword default y of the def at f, if it is an object -/
def kwdAt (f : Str × Option Str) (y : Str) (K : PySem.W.Frag) : Addr := match K.lookup (He.fAd K f) with
  | some ⟨_, _, .func fd, _⟩ => (match fd.kwdefaults with
    | .ref D => (match PySem.W.nsIn K D y with
      | some (some (.ref a)) => a
      | _ => 0)
    | _ => 0)
  | _ => 0
/-- an empty tuple stands there -/
def tupE (K : PySem.W.Frag) (a : Addr) : Bool := match K.lookup a with
  | some ⟨.type c, _, .seq its _, _⟩ => decide (c = "tuple") && decide (its.size = 0)
  | _ => false
theorem tupE_ok {K : PySem.W.Frag} {a : Addr} (h : tupE K a = true) (H : Hp) : SqT K H a [] := by
  unfold tupE at h
  cases q : K.lookup a with
  | none => rw [q] at h; cases h
  | some o =>
    obtain ⟨oc, od, dt, osl⟩ := o
    rw [q] at h
    cases oc with
    | type c =>
      cases dt with
      | seq its n =>
        replace h : (decide (c = "tuple") && decide (its.size = 0)) = true := h
        rw [Bool.and_eq_true, decide_eq_true_eq, decide_eq_true_eq] at h
        obtain ⟨rfl, h2⟩ := h
        have e : its = #[] := Array.eq_empty_of_size_eq_zero h2
        subst e
        exact .inr ⟨_, #[], n, q, rfl, rfl, Nat.zero_le _, .nil⟩
      | _ => cases h
    | _ => cases dt <;> cases h
theorem tupE_rw {T : Tab} {K : PySem.W.Frag} {a : Addr} (h : tupE K a = true) (F : Hp) (al : List Addr) : Rw T K F al (.ref a) (.tup []) := .tup (tupE_ok h F) .nil
end DL
set_option Elab.async false
set_option linter.all false
set_option maxRecDepth 100000
set_option maxHeartbeats 4000000
/-! Wp: a call that only looks at lists that may be changed later. -/
namespace DL
open PySem PySem.Spec L2
/-! ### no list, no instance in it -/
mutual
def W.nol : W → Bool
  | .non => true
  | .bl _ => true
  | .int _ => true
  | .str _ => true
  | .tup ws => nolL ws
  | _ => false
def nolL : List W → Bool
  | [] => true
  | w :: ws => W.nol w && nolL ws
end
def nolF : List (Nat × W) → Bool
  | [] => true
  | (_, w) :: ws => W.nol w && nolF ws
def Xn.nol : Xn → Bool
  | .own _ fs => nolF fs
def pureV (r : Res) (S : Sto) : Res := match r with
  | .ok w _ => if w.nol then .ok w S else .bad
  | .exc x _ => if x.nol then .exc x S else .bad
  | .bad => .bad
section
variable {T : Tab} {K : PySem.W.Frag} {F F' : Hp} {al al' : List Addr} {H H' : Hp} {S S' : Sto} {E : WX} {σ : L2.St}
/-- F and all lists that may be changed, as they stand -/
def seen (F H : Hp) (al : List Addr) : Hp := fun b => match F b with
  | some o => some o
  | none => if b ∈ al then (match H b with
    | some (.lst xs) => some (.lst xs)
    | _ => none) else none
theorem seen_sub (s : Same F H) : Same (seen F H al) H := fun b o h => by
  unfold seen at h
  cases q : F b with
  | some u => rw [q] at h; cases h; exact s b o q
  | none =>
    rw [q] at h
    simp only at h
    split at h
    · split at h
      · rename_i xs e; cases h; exact e
      · cases h
    · cases h
theorem seen_ext : Same F (seen F H al) := fun b o h => by unfold seen; rw [h]
theorem seen_lst {a : Addr} {xs : List V} (hF : F a = none) (ha : a ∈ al) (hH : H a = some (.lst xs)) : seen F H al a = some (.lst xs) := by
  unfold seen; rw [hF]; simp only; rw [if_pos ha, hH]
theorem seen_is {a : Addr} {o : HO} (hF : F a = none) (h : seen F H al a = some o) : a ∈ al ∧ ∃ xs, o = .lst xs := by
  unfold seen at h
  rw [hF] at h
  simp only at h
  split at h
  · rename_i ha
    split at h
    · cases h; exact ⟨ha, _, rfl⟩
    · cases h
  · cases h
theorem Rw.seen (g : Good T K F al S H) {v : V} {w : W} (r : Rw T K F al v w) (h : W.nl (deref S w) = true) : Rw T K (DL.seen F H al) [] v (deref S w) := by
  cases r with
  | @loc a n ha =>
    cases q : S[n]? with
    | none => rw [show deref S (.loc n) = .loc n by simp only [deref, q]] at h; cases h
    | some c =>
      have hc := g.cell n a c ha q
      cases c with
      | lst ws =>
        rw [show deref S (.loc n) = .lst ws by simp only [deref, q]] at h ⊢
        obtain ⟨xs, h1, h2, h3⟩ := hc
        exact .lst (SqL.of (seen_lst h2 (List.mem_of_getElem? ha) h1)) ((h3.nl h).mono seen_ext (Pre.refl _))
      | frz w =>
        rw [show deref S (.loc n) = w by simp only [deref, q]] at h ⊢
        exact ((show Rw T K F al (.ref a) w from hc).nl h).mono seen_ext (Pre.refl _)
      | _ => rw [show deref S (.loc n) = .loc n by simp only [deref, q]] at h; cases h
  | non => exact .non
  | bl b => exact .bl b
  | int b => exact .int b
  | str b => exact .str b
  | tup a b => exact ((Rw.tup a b).nl h).mono seen_ext (Pre.refl _)
  | lst a b => exact ((Rw.lst a b).nl h).mono seen_ext (Pre.refl _)
  | ins a b => exact ((Rw.ins a b).nl h).mono seen_ext (Pre.refl _)
  | tpx a d b => exact ((Rw.tup (.inl (.inr ⟨_, a⟩)) b).nl h).mono seen_ext (Pre.refl _)
  | opq a => exact .opq a
  | opx a b c => exact ((Rw.opx a b c).nl h).mono seen_ext (Pre.refl _)
  | lam a b => exact .lam a (b.trans (.of seen_ext))
  | fn a => exact .fn a
theorem RwL.seen (g : Good T K F al S H) : ∀ {v : List V} {w : List W}, RwL T K F al v w → nlL (w.map (deref S)) = true → RwL T K (DL.seen F H al) [] v (w.map (deref S))
  | _, _, .nil, _ => .nil
  | _, _, .cons a b, h => by
    rw [List.map_cons, nlL, Bool.and_eq_true] at h
    exact .cons (Rw.seen g a h.1) (RwL.seen g b h.2)
/-- the lists are let go again -/
def back (F F' : Hp) (al : List Addr) : Hp := fun b => if b ∈ al ∧ F b = none then none else F' b
theorem back_ext (h : Same F F') : Same F (back F F' al) := fun b o e => by
  unfold back
  rw [if_neg (fun z => by rw [e] at z; cases z.2)]
  exact h b o e
structure Seen (T : Tab) (K : PySem.W.Frag) (F : Hp) (al : List Addr) (S : Sto) (H : Hp) (F' : Hp) (H' : Hp) : Prop where
  g : Good T K (back F F' al) al S H'
  p : Post F al H (back F F' al) al H'
  tup : ∀ a xs, F' a = some (.tup xs) → back F F' al a = some (.tup xs)
  frz : ∀ a o u, F' a = some (.frz o u) → back F F' al a = some (.frz o u)
  xd : ∀ a u, F' a = some (.xd u) → back F F' al a = some (.xd u)
theorem seen_back (g : Good T K F al S H) (p : Post (seen F H al) [] H F' al' H') (g' : Good T K F' al' S' H') : Seen T K F al S H F' H' := by
  have kp : ∀ b o, H b = some o → H' b = some o := fun b o h => p.keep b o h (fun z => nomatch z)
  have e1 : Same F F' := seen_ext.trans p.ext
  have off : ∀ a o, a ∈ al → F a = none → F' a = some o → ∃ xs, o = .lst xs := fun a o ha hF h => by
    cases q : seen F H al a with
    | some u =>
      have := p.ext a u q
      rw [h] at this; cases this
      exact (seen_is hF q).2
    | none =>
      rcases p.dom a (by rw [h]; simp) with z | z | z
      · exact absurd q z
      · cases z
      · exact absurd z (g.tr a ha)
  have stay : ∀ a o, F' a = some o → (∀ xs, o ≠ .lst xs) → back F F' al a = some o := fun a o h n => by
    unfold back
    rw [if_neg fun z => ?_]
    · exact h
    · obtain ⟨xs, e⟩ := off a o z.1 z.2 h
      exact n xs e
  refine ⟨⟨fun b o h => ?_, g.nd, g.len, fun a ha => ?_, fun n a c ha hc => ?_⟩, ⟨back_ext e1, Pre.refl _, fun _ h => .inl h, fun b o h _ => kp b o h, fun b h => ?_⟩, fun a xs h => stay a _ h (fun _ e => nomatch e), fun a o u h => stay a _ h (fun _ e => nomatch e), fun a u h => stay a _ h (fun _ e => nomatch e)⟩
  · unfold back at h
    split at h
    · cases h
    · exact g'.sub b o h
  · cases e : H a with
    | none => exact absurd e (g.tr a ha)
    | some o => rw [kp a o e]; simp
  · refine (g.cell n a c ha hc).mono (back_ext e1) (Pre.refl _) (fun o h => kp a o h) fun h => ?_
    unfold back; rw [if_pos ⟨List.mem_of_getElem? ha, h⟩]
  · unfold back at h
    split at h
    · exact absurd rfl h
    · rcases p.dom b h with z | z | z
      · cases q : F b with
        | some o => exact .inl (by simp)
        | none =>
          cases q2 : seen F H al b with
          | none => exact absurd q2 z
          | some o => exact .inr (.inl (seen_is q q2).1)
      · cases z
      · exact .inr (.inr z)
theorem sqT_back (B : Seen T K F al S H F' H') {a : Addr} {xs : List V} (q : SqT K F' a xs) : SqT K (back F F' al) a xs := by
  rcases q with (q | ⟨o, q⟩) | q
  · exact .inl (.inl (B.tup _ _ q))
  · exact .inl (.inr ⟨o, B.frz _ _ _ q⟩)
  · exact .inr q
mutual
theorem Rw.back (B : Seen T K F al S H F' H') : ∀ {v : V} {w : W}, Rw T K F' al' v w → W.nol w = true → Rw T K (DL.back F F' al) al v w
  | _, _, .non, _ => .non
  | _, _, .bl b, _ => .bl b
  | _, _, .int i, _ => .int i
  | _, _, .str i, _ => .str i
  | _, _, .tup q r, h => .tup (sqT_back B q) (RwL.back B r h)
  | _, _, .lst _ _, h => by cases h
  | _, _, .ins _ _, h => by cases h
  | _, _, .loc _, h => by cases h
  | _, _, .tpx _ _ _, h => by cases h
  | _, _, .opq _, h => by cases h
  | _, _, .opx _ _ _, h => by cases h
  | _, _, .lam _ _, h => by cases h
  | _, _, .fn _, h => by cases h
theorem RwL.back (B : Seen T K F al S H F' H') : ∀ {v : List V} {w : List W}, RwL T K F' al' v w → nolL w = true → RwL T K (DL.back F F' al) al v w
  | _, _, .nil, _ => .nil
  | _, _, .cons a b, h => by
    rw [nolL, Bool.and_eq_true] at h
    exact .cons (Rw.back B a h.1) (RwL.back B b h.2)
end
theorem RwF.back (B : Seen T K F al S H F' H') : ∀ {v : List (Str × V)} {w : List (Nat × W)}, RwF T K F' al' v w → nolF w = true → RwF T K (DL.back F F' al) al v w
  | _, _, .nil, _ => .nil
  | _, _, .cons l a b, h => by
    rw [nolF, Bool.and_eq_true] at h
    exact .cons l (Rw.back B a h.1) (RwF.back B b h.2)
theorem view_sound {r : Res} {Q : VK} (g : Good T K F al S H) (h : RQ T K E σ F al H (pureV r S) Q) : RQ T K E σ (seen F H al) [] H r Q := by
  cases r with
  | ok w S' =>
    replace h : RQ T K E σ F al H (if w.nol then .ok w S else .bad) Q := h
    split at h
    · rename_i hw
      intro v F' al' H' p g' r
      have B := seen_back g p g'
      exact h v _ al H' B.p B.g (r.back B hw)
    · exact h.elim
  | exc x S' =>
    replace h : RQ T K E σ F al H (if x.nol then .exc x S else .bad) Q := h
    split at h
    · rename_i hw
      intro c d F' al' H' p g' r
      have B := seen_back g p g'
      refine h c d _ al H' B.p B.g ?_
      cases x with
      | own cc fs =>
        refine ⟨r.1, ?_⟩
        rcases r.2 with e | ⟨h0, a, gs, h1, h2, h3⟩
        · exact .inl e
        · exact .inr ⟨h0, a, gs, h1, B.xd _ _ h2, h3.back B hw⟩
    · exact h.elim
  | bad => exact h.elim
theorem seen_good (g : Good T K F al S H) : Good T K (seen F H al) [] [] H := ⟨seen_sub g.sub, List.nodup_nil, rfl, (fun _ h => nomatch h), (fun n a c h => by simp at h)⟩
end
/-- lists are handed in as they stand, none comes out -/
def mCallV (ψ : Fn) (ms : Ml) : Me := fun ρ S => (ms ρ S).bind fun ws S => if nlL (ws.map (deref S)) then pureV (ψ (ws.map (deref S)) []) S else .bad
section
variable {X : Cx} {T : Tab} {E : WX} {pos pp : Pos} {a : Expr} {es : List Expr} {ps : Ml} {x : Str}
theorem w_callV {k j : Nat} {ψ : Fn} (C : CallF T X.prog X.w X.K X.mg X.base k x ψ) (hr : Room j X.A) (hj : k ≤ j) (hg : Gl X x) (tk : Takes X E) (ha : PA X (a :: es) (tL T X.K E ps)) (hdb : (x == ("__debug__" : Str)) = false)
    (he : starEach (a :: es) X.env = (false, eval a X.env) :: starEach es X.env) (hpl : (backTo pos (starEach es X.env)).any (·.1) = false) : PE X (.Call (.Name x pp) (a :: es) [] pos) (tW T X.K E (mCallV ψ ps)) := by
  obtain ⟨f, fd, pn, ds, dvs, dws, n, φ, FO, hn, hm, hk, hb, hd, hw, rfl⟩ := C
  refine peM (pe_callSD FO (hr.mono hj) hg hm hk hb hd (E := WE E) (fun σ => passAt tk σ) ha hdb he hpl) ?_
  rintro σ H Q ⟨F, al, S, ρ, g, e, h⟩
  refine (tL.bind g e h).imp fun x H1 ⟨F1, al1, S1, w, m, r, h1⟩ => ?_
  split at h1
  · rename_i hnl
    exact spW_of hn (seen_good m.g) ((r.seen m.g hnl).append (hw _ _)) (view_sound m.g h1)
  · exact h1.elim
end
end DL
set_option Elab.async false
set_option linter.all false
set_option maxRecDepth 100000
set_option maxHeartbeats 4000000
/-! Wq: tuples whose object is known: index. -/
namespace DL
open PySem PySem.Spec L2
end DL
set_option Elab.async false
set_option linter.all false
set_option maxRecDepth 100000
set_option maxHeartbeats 4000000
/-! Wr: tools for the plain laws. -/
namespace DL
open PySem PySem.Spec L2
/-- a comprehension whose turns all keep their value and leave the store alone -/
theorem compM_map {step : W → Sto → LRes} {f : W → W} {S : Sto} : ∀ {xs acc : List W}, (∀ x ∈ xs, step x S = .ok [f x] S) → compM step xs acc S = .ok (acc ++ xs.map f) S
  | [], acc, _ => by rw [List.map_nil, List.append_nil]; rfl
  | x :: xs, acc, h => by
    show (step x S).bindL _ = _
    rw [h x (List.mem_cons_self ..)]
    show compM step xs (acc ++ [f x]) S = _
    rw [compM_map fun y hy => h y (List.mem_cons_of_mem _ hy), List.map_cons, List.append_assoc]; rfl
theorem compM_filter {step : W → Sto → LRes} {f : W → List W} {S : Sto} : ∀ {xs acc : List W}, (∀ x ∈ xs, step x S = .ok (f x) S) → compM step xs acc S = .ok (acc ++ xs.flatMap f) S
  | [], acc, _ => by rw [List.flatMap_nil, List.append_nil]; rfl
  | x :: xs, acc, h => by
    show (step x S).bindL _ = _
    rw [h x (List.mem_cons_self ..)]
    show compM step xs (acc ++ f x) S = _
    rw [compM_filter fun y hy => h y (List.mem_cons_of_mem _ hy), List.flatMap_cons, List.append_assoc]
theorem allB_bls : ∀ bs : List Bool, allB (bs.map W.bl) = some bs
  | [] => rfl
  | b :: bs => by rw [List.map_cons, allB, allB_bls bs]; rfl
theorem nl_ints : ∀ ns : List Int, nlL (ns.map W.int) = true
  | [] => rfl
  | n :: ns => by rw [List.map_cons, nlL, nl_ints ns]; rfl
end DL
set_option Elab.async false
set_option linter.all false
set_option maxRecDepth 100000
set_option maxHeartbeats 4000000
/-! Ws: dicts whose keys are tuples of plain data, nested as they may be. -/
namespace DL
open PySem PySem.Spec L2 PyProof.Rows
def lookD (k : W) : List (W × W) → Option W
  | [] => none
  | p :: r => if W.eqv p.1 k then some p.2 else lookD k r
def putD (k v : W) (kvs : List (W × W)) : List (W × W) := if (lookD k kvs).isSome then kvs.map (fun p => if W.eqv p.1 k then (p.1, v) else p) else kvs ++ [(k, v)]
theorem keyOk_bad {n : Nat} {w : W} (h : W.keyOk n w = true) : (∃ ws m, w = .tup ws ∧ n = m + 1 ∧ W.keyOkL m ws = true) ∨ w = .non ∨ (∃ b, w = .bl b) ∨ (∃ i, w = .int i) ∨ ∃ x, w = .str x := by
  cases w with
  | tup ws => cases n with
    | zero => simp [W.keyOk] at h
    | succ m => exact .inl ⟨ws, m, rfl, rfl, h⟩
  | non => exact .inr (.inl rfl)
  | bl b => exact .inr (.inr (.inl ⟨b, rfl⟩))
  | int b => exact .inr (.inr (.inr (.inl ⟨b, rfl⟩)))
  | str b => exact .inr (.inr (.inr (.inr ⟨b, rfl⟩)))
  | lst _ => simp [W.keyOk] at h
  | ins _ _ => simp [W.keyOk] at h
  | loc _ => simp [W.keyOk] at h
  | tpx _ => simp [W.keyOk] at h
  | opq _ _ => simp [W.keyOk] at h
  | lam => simp [W.keyOk] at h
  | fn _ => simp [W.keyOk] at h
theorem eqv_toNL {n m : Nat} (f : ∀ a b : W, W.keyOk n a = true → W.keyOk m b = true → W.eqv a b = NestedKey.beq (W.toN a) (W.toN b)) : ∀ (a b : List W), W.keyOkL n a = true → W.keyOkL m b = true → W.eqvL a b = NestedKey.beqAll (W.toNL a) (W.toNL b)
  | [], [], _, _ => rfl
  | [], _ :: _, _, _ => rfl
  | _ :: _, [], _, _ => rfl
  | a :: as, b :: bs, h1, h2 => by
    simp only [W.keyOkL, Bool.and_eq_true] at h1 h2
    show (W.eqv a b && W.eqvL as bs) = (NestedKey.beq (W.toN a) (W.toN b) && NestedKey.beqAll (W.toNL as) (W.toNL bs))
    rw [f a b h1.1 h2.1, eqv_toNL f as bs h1.2 h2.2]
theorem eqv_toN : ∀ (n m : Nat) (a b : W), W.keyOk n a = true → W.keyOk m b = true → W.eqv a b = NestedKey.beq (W.toN a) (W.toN b) := by
  intro n
  induction n with
  | zero =>
    intro m a b h1 h2
    rcases keyOk_bad h1 with ⟨_, _, _, e, _⟩ | rfl | ⟨x, rfl⟩ | ⟨x, rfl⟩ | ⟨x, rfl⟩
    · cases e
    all_goals rcases keyOk_bad h2 with ⟨_, _, rfl, _, _⟩ | rfl | ⟨y, rfl⟩ | ⟨y, rfl⟩ | ⟨y, rfl⟩ <;> first | rfl | (cases x <;> cases y <;> rfl) | exact beq_eq_decide x y
  | succ n ih =>
    intro m a b h1 h2
    rcases keyOk_bad h1 with ⟨ws, n', rfl, e, hw⟩ | rfl | ⟨x, rfl⟩ | ⟨x, rfl⟩ | ⟨x, rfl⟩
    · cases e
      rcases keyOk_bad h2 with ⟨us, m', rfl, rfl, hu⟩ | rfl | ⟨y, rfl⟩ | ⟨y, rfl⟩ | ⟨y, rfl⟩
      · exact eqv_toNL (ih m') ws us hw hu
      all_goals rfl
    all_goals rcases keyOk_bad h2 with ⟨_, _, rfl, _, _⟩ | rfl | ⟨y, rfl⟩ | ⟨y, rfl⟩ | ⟨y, rfl⟩ <;> first | rfl | (cases x <;> cases y <;> rfl) | exact beq_eq_decide x y
theorem isKey_tup {w : W} (h : isKey w = true) : ∃ ws, w = .tup ws ∧ W.keyOkL 7 ws = true := by
  cases w with
  | tup ws => exact ⟨ws, rfl, h⟩
  | _ => simp [isKey] at h
theorem isKey_ok {w : W} (h : isKey w = true) : W.keyOk 8 w = true := by
  obtain ⟨ws, rfl, h⟩ := isKey_tup h
  exact h
theorem eqv_key {a b : W} (ha : isKey a = true) (hb : isKey b = true) : W.eqv a b = decide (W.toN a = W.toN b) := by
  rw [NestedKey.decide_eq]; exact eqv_toN 8 8 a b (isKey_ok ha) (isKey_ok hb)
section
variable {X : Cx} {pins : List (Addr × Obj)} {σ : L2.St} {H F : Hp} {s : Shared} {T : Tab} {al : List Addr}
theorem key_all {n : Nat} (f : ∀ (w : W) (v : V) (u : Value), Rw T X.K F al v w → W.keyOk n w = true → RelV v u → NestedIs s.heap (W.toN w) u ∧ (W.toN w).depth ≤ n) : ∀ (ws : List W) (vs : List V) (us : List Value), RwL T X.K F al vs ws → W.keyOkL n ws = true → Vals vs us → NestedAll s.heap (W.toNL ws) us ∧ NestedKey.depthAll (W.toNL ws) ≤ n
  | [], vs, us, r, h, rv => by cases r; cases rv; exact ⟨.nil, Nat.zero_le _⟩
  | w :: ws, vs, us, r, h, rv => by
    simp only [W.keyOkL, Bool.and_eq_true] at h
    cases r with
    | cons r t =>
      cases rv with
      | cons r1 t1 =>
        obtain ⟨a1, a2⟩ := f w _ _ r h.1 r1
        obtain ⟨b1, b2⟩ := key_all f ws _ _ t h.2 t1
        refine ⟨.cons a1 b1, ?_⟩
        show max (NestedKey.depth (W.toN w)) (NestedKey.depthAll (W.toNL ws)) ≤ n
        omega
theorem key_is (I : Inv X pins σ H s) (sf : Same F H) : ∀ (n : Nat) (w : W) (v : V) (u : Value), Rw T X.K F al v w → W.keyOk n w = true → RelV v u → NestedIs s.heap (W.toN w) u ∧ (W.toN w).depth ≤ n := by
  intro n
  induction n with
  | zero =>
    intro w v u r h rv
    rcases keyOk_bad h with ⟨_, _, _, e, _⟩ | rfl | ⟨x, rfl⟩ | ⟨x, rfl⟩ | ⟨x, rfl⟩
    · cases e
    · cases r; cases rv; exact ⟨.none, Nat.zero_le _⟩
    · cases r; cases rv; exact ⟨.bool rfl, Nat.zero_le _⟩
    · cases r; obtain ⟨t, rfl⟩ := rv; exact ⟨.int _ t, Nat.zero_le _⟩
    · cases r; obtain ⟨t, rfl⟩ := rv; exact ⟨.text _ t, Nat.zero_le _⟩
  | succ n ih =>
    intro w v u r h rv
    rcases keyOk_bad h with ⟨ws, n', rfl, e, hw⟩ | rfl | ⟨x, rfl⟩ | ⟨x, rfl⟩ | ⟨x, rfl⟩
    · cases e
      cases r with
      | @tup a _ _ q r =>
        obtain rfl : u = Value.ref a := rv
        obtain ⟨its, vs, is, _⟩ := seqB I (t := true) (sqT_mono sf q)
        obtain ⟨o, h1, h2, m, h3⟩ := is
        obtain ⟨k1, k2⟩ := key_all ih ws _ its r hw vs
        refine ⟨.tup h1 h2 h3 (by simpa using k1), ?_⟩
        show NestedKey.depthAll (W.toNL ws) + 1 ≤ n + 1
        omega
    · cases r; cases rv; exact ⟨.none, Nat.zero_le _⟩
    · cases r; cases rv; exact ⟨.bool rfl, Nat.zero_le _⟩
    · cases r; obtain ⟨t, rfl⟩ := rv; exact ⟨.int _ t, Nat.zero_le _⟩
    · cases r; obtain ⟨t, rfl⟩ := rv; exact ⟨.text _ t, Nat.zero_le _⟩
theorem key_at (I : Inv X pins σ H s) (sf : Same F H) {w : W} {a : Addr} (r : Rw T X.K F al (.ref a) w) (h : isKey w = true) : (nestedKind X.prog X.w).is s.heap (W.toN w) a := key_is I sf 8 w _ _ r (isKey_ok h) rfl
/-- us: what is known of the dict, xs: how it stands, kvs: the data -/
abbrev PX : List (NestedKey × Addr × V) → List (NestedKey × Addr × Value) → Prop := Paired (fun (p : NestedKey × Addr × V) (q : NestedKey × Addr × Value) => p.1 = q.1 ∧ p.2.1 = q.2.1 ∧ RelV p.2.2 q.2.2)
theorem dic_val {K : PySem.W.Frag} {k : W} (hk : isKey k = true) : ∀ {us : List (NestedKey × Addr × V)} {xs : List (NestedKey × Addr × Value)} {kvs : List (W × W)}, PX us xs → RwD T K F al us kvs →
    (lookD k kvs = none ∧ atKey xs (W.toN k) = none) ∨ ∃ w v p, lookD k kvs = some w ∧ atKey xs (W.toN k) = some p ∧ RelV v p.2 ∧ Rw T K F al v w
  | _, _, _, .nil, .nil => .inl ⟨rfl, rfl⟩
  | _, _, _, .cons (a := u) (b := x) p ps, .cons (b := q) c cs => by
    obtain ⟨h1, h2, h3, h4⟩ := c
    obtain ⟨p1, p2, p3⟩ := p
    have e : W.eqv q.1 k = decide (x.1 = W.toN k) := by rw [eqv_key h1 hk, ← h2, p1]
    unfold lookD atKey
    rw [List.find?_cons, e]
    by_cases hx : x.1 = W.toN k
    · rw [decide_eq_true hx]
      exact .inr ⟨q.2, u.2.2, x.2, by simp, by simp, p3, h4⟩
    · rw [decide_eq_false hx]
      exact dic_val hk ps cs
theorem dic_of (I : Inv X pins σ H s) (sf : Same F H) (hP : T.prg = X.prog) (hW : T.wld = X.w) {a : Addr} {us : List (NestedKey × Addr × V)} {kvs : List (W × W)} (ha : H a = some (DicO T.prg T.wld a us)) (r : RwD T X.K F al us kvs) :
    us.length ≤ sizeLine ∧ (a == sysModules) = false ∧ ∃ xs, PX us xs ∧ s.heap.DictOfH (nestedKind X.prog X.w) a xs := by
  obtain ⟨⟨z, y, o, es, ep, xs, q, h1, h2, h3, h4, h5⟩, h6, h7⟩ := I.hok a _ ha
  clear h6 h7
  rw [hP, hW] at h4
  refine ⟨z, y, xs, q, o, es, ep, h1, h2, h3, h4, ?_, h5⟩
  clear h4 h5 z ha h3
  intro x hx
  induction q generalizing kvs with
  | nil => cases hx
  | @cons u x' us' xs' c cs ih =>
    cases r with
    | cons d ds =>
      rcases List.mem_cons.mp hx with e | hx
      · subst e
        rw [← c.1, ← c.2.1, d.2.1]
        exact key_at I sf d.2.2.1 d.1
      · exact ih ds hx
theorem px_len : ∀ {us : List (NestedKey × Addr × V)} {xs : List (NestedKey × Addr × Value)}, PX us xs → us.length = xs.length := fun h => Paired.length h
def putU (k : NestedKey) (a : Addr) (v : V) (us : List (NestedKey × Addr × V)) : List (NestedKey × Addr × V) := if (us.find? fun u => decide (u.1 = k)).isSome then us.map (fun u => if u.1 = k then (u.1, u.2.1, v) else u) else us ++ [(k, a, v)]
theorem px_find {k : NestedKey} : ∀ {us : List (NestedKey × Addr × V)} {xs : List (NestedKey × Addr × Value)}, PX us xs → (us.find? fun u => decide (u.1 = k)).isSome = (atKey xs k).isSome
  | _, _, .nil => rfl
  | _, _, .cons (a := u) (b := x) p ps => by
    unfold atKey
    rw [List.find?_cons, List.find?_cons, p.1]
    by_cases hx : x.1 = k
    · rw [decide_eq_true hx]; simp
    · rw [decide_eq_false hx]
      have := px_find (k := k) ps
      simpa [atKey] using this
theorem px_map {k : NestedKey} {v : V} {u : Value} (rv : RelV v u) : ∀ {us : List (NestedKey × Addr × V)} {xs : List (NestedKey × Addr × Value)}, PX us xs → PX (us.map (fun u => if u.1 = k then (u.1, u.2.1, v) else u)) (xs.map (putAt k u))
  | _, _, .nil => .nil
  | _, _, .cons (a := z) (b := x) p ps => by
    refine .cons ?_ (px_map rv ps)
    unfold putAt
    dsimp only
    by_cases hx : x.1 = k
    · rw [if_pos (p.1.trans hx), if_pos hx]; exact ⟨p.1, p.2.1, rv⟩
    · rw [if_neg (fun e => hx (p.1.symm.trans e)), if_neg hx]; exact p
theorem px_app : ∀ {us us' : List (NestedKey × Addr × V)} {xs xs' : List (NestedKey × Addr × Value)}, PX us xs → PX us' xs' → PX (us ++ us') (xs ++ xs')
  | _, _, _, _, .nil, h => h
  | _, _, _, _, .cons p ps, h => .cons p (px_app ps h)
theorem px_put {k : NestedKey} {a : Addr} {v : V} {u : Value} (rv : RelV v u) {us : List (NestedKey × Addr × V)} {xs : List (NestedKey × Addr × Value)} (h : PX us xs) : PX (putU k a v us) (storedH xs k a u) := by
  unfold putU storedH
  rw [px_find h]
  by_cases q : (atKey xs k).isSome = true
  · rw [if_pos q, if_pos q]; exact px_map rv h
  · rw [if_neg q, if_neg q]; exact px_app h (.cons ⟨rfl, rfl, rv⟩ .nil)
theorem rd_find {K : PySem.W.Frag} {k : W} (hk : isKey k = true) : ∀ {us : List (NestedKey × Addr × V)} {kvs : List (W × W)}, RwD T K F al us kvs → (us.find? fun u => decide (u.1 = W.toN k)).isSome = (lookD k kvs).isSome
  | _, _, .nil => rfl
  | _, _, .cons (a := u) (b := q) c cs => by
    unfold lookD
    rw [List.find?_cons, eqv_key c.1 hk, ← c.2.1]
    by_cases hx : u.1 = W.toN k
    · rw [decide_eq_true hx]; simp
    · rw [decide_eq_false hx]
      simpa using rd_find hk cs
theorem rd_map {K : PySem.W.Frag} {k v : W} {x : V} (hk : isKey k = true) (rv : Rw T K F al x v) : ∀ {us : List (NestedKey × Addr × V)} {kvs : List (W × W)}, RwD T K F al us kvs → RwD T K F al (us.map (fun u => if u.1 = W.toN k then (u.1, u.2.1, x) else u)) (kvs.map (fun p => if W.eqv p.1 k then (p.1, v) else p))
  | _, _, .nil => .nil
  | _, _, .cons (a := u) (b := q) c cs => by
    refine .cons ?_ (rd_map hk rv cs)
    dsimp only
    rw [eqv_key c.1 hk, ← c.2.1]
    by_cases hx : u.1 = W.toN k
    · rw [if_pos hx, if_pos (decide_eq_true hx)]; exact ⟨c.1, c.2.1, c.2.2.1, rv⟩
    · rw [if_neg hx, if_neg (by simpa using hx)]; exact c
theorem rd_app {K : PySem.W.Frag} : ∀ {us us' : List (NestedKey × Addr × V)} {xs xs' : List (W × W)}, RwD T K F al us xs → RwD T K F al us' xs' → RwD T K F al (us ++ us') (xs ++ xs')
  | _, _, _, _, .nil, h => h
  | _, _, _, _, .cons p ps, h => .cons p (rd_app ps h)
theorem rd_put {K : PySem.W.Frag} {k v : W} {a : Addr} {x : V} (hk : isKey k = true) (rk : Rw T K F al (.ref a) k) (rv : Rw T K F al x v) {us : List (NestedKey × Addr × V)} {kvs : List (W × W)} (h : RwD T K F al us kvs) : RwD T K F al (putU (W.toN k) a x us) (putD k v kvs) := by
  unfold putU putD
  rw [rd_find hk h]
  by_cases q : (lookD k kvs).isSome = true
  · rw [if_pos q, if_pos q]; exact rd_map hk rv h
  · rw [if_neg q, if_neg q]; exact rd_app h (.cons ⟨hk, rfl, rk, rv⟩ .nil)
theorem putU_len (k : NestedKey) (a : Addr) (v : V) (us : List (NestedKey × Addr × V)) : (putU k a v us).length ≤ us.length + 1 := by
  unfold putU
  split
  · rw [List.length_map]; omega
  · rw [List.length_append]; exact Nat.le_refl _
theorem rd_len {K : PySem.W.Frag} {us : List (NestedKey × Addr × V)} {kvs : List (W × W)} (h : RwD T K F al us kvs) : us.length = kvs.length := Paired.length h
theorem dic_mk {P : Program} {w : World} {H : Hp} {h : Heap} {a : Addr} {us : List (NestedKey × Addr × V)} {xs : List (NestedKey × Addr × Value)} (z : us.length ≤ sizeLine) (y : (a == sysModules) = false) (q : PX us xs) (d : h.DictOfH (nestedKind P w) a xs) : ObjOk P w H h a (DicO P w a us) := by
  obtain ⟨o, es, ep, h1, h2, h3, h4, h5, h6⟩ := d
  exact ⟨⟨z, y, o, es, ep, xs, q, h1, h2, h3, h4, h6⟩, ⟨o, h1⟩, fun g1 g2 ⟨z, y, o, es, ep, xs, q, h1, h2, h3, h4, h6⟩ k => ⟨z, y, o, es, ep, xs, q, k o h1, h2, h3, h4, h6⟩⟩
end
/-! ### the rules -/
def rDIn (T : Tab) (K : PySem.W.Frag) (neg : Bool) : R2 := fun x y H Q => ∃ (F : Hp) (al : List Addr) (k : W) (b a : Addr) (us : List (NestedKey × Addr × V)) (kvs : List (W × W)), Same F H ∧ x = .ref b ∧ Rw T K F al (.ref b) k ∧ isKey k = true ∧ y = .ref a ∧ H a = some (DicO T.prg T.wld a us) ∧ RwD T K F al us kvs ∧
  Q (.bl (if neg then !(lookD k kvs).isSome else (lookD k kvs).isSome)) H
def rDGet (T : Tab) (K : PySem.W.Frag) : R2 := fun x y H Q => ∃ (F : Hp) (al : List Addr) (k w : W) (b a : Addr) (us : List (NestedKey × Addr × V)) (kvs : List (W × W)), Same F H ∧ y = .ref b ∧ Rw T K F al (.ref b) k ∧ isKey k = true ∧ x = .ref a ∧ H a = some (DicO T.prg T.wld a us) ∧ RwD T K F al us kvs ∧
  lookD k kvs = some w ∧ ∀ v, Rw T K F al v w → Q v H
section
variable {X : Cx} {T : Tab} {E : WX} {pos : Pos} {a b c : Expr} {p q r : Me}
theorem room_nk {k : Nat} (hr : Room k X.A) : (nestedKind X.prog X.w).room X.A.in1 := by
  have := hr.units
  show X.A.units + 1 + 8 < cLine
  omega
theorem op_dnotin {k : Nat} (hr : Room k X.A) (hP : T.prg = X.prog) (hW : T.wld = X.w) : OpR X (compareOp .NotIn) (rDIn T X.K true) := by
  intro pins s σ H x y v u Q I rx ry h
  obtain ⟨F, al, k, b, a, us, kvs, sf, rfl, rk, hk, rfl, ha, rd, hq⟩ := h
  cases rx; cases ry
  obtain ⟨z, y, xs, q, d⟩ := dic_of I sf hP hW ha rd
  refine wpAny_notIn_heap (room_nk hr) (key_at I sf rk hk) y d ?_
  have e : (atKey xs (W.toN k)).isSome = (lookD k kvs).isSome := by rw [← px_find q, rd_find hk rd]
  rw [e]
  exact ⟨.bl _, H, I.tok _, rfl, hq⟩
theorem ix_dget {k : Nat} (hr : Room k X.A) (hP : T.prg = X.prog) (hW : T.wld = X.w) : IxR X (rDGet T X.K) := by
  intro value slice pins s σ H x y v u Q I rx ry h hs
  obtain ⟨F, al, k, w, b, a, us, kvs, sf, rfl, rk, hk, rfl, ha, rd, hl, hq⟩ := h
  cases rx; cases ry
  obtain ⟨z, y, xs, q, d⟩ := dic_of I sf hP hW ha rd
  rcases dic_val hk q rd with ⟨e, _⟩ | ⟨w', v', p, e1, e2, e3, e4⟩
  · rw [e] at hl; cases hl
  · rw [e1] at hl
    cases hl
    exact tail_any d.typeIs slot_dict_getitem.lookup (wpAny_getItem_heap (room_nk hr) (key_at I sf rk hk) d e2 ⟨v', H, I.tok _, e3, hq _ e4⟩) hs
end
end DL
set_option Elab.async false
set_option linter.all false
set_option maxRecDepth 100000
set_option maxHeartbeats 4000000
/-! Wt: dicts in expressions and statements; while. -/
namespace DL
open PySem PySem.Spec L2 PyProof.Rows
def dicOf (S : Sto) : W → Option (List (W × W))
  | .loc n => match S[n]? with
    | some (.dic kvs) => some kvs
    | _ => none
  | _ => none
def mDNew : Me := fun _ S => newCellR (.dic []) S
def dinR (neg : Bool) (x y : W) (S : Sto) : Option Bool := match dicOf S y with
  | some kvs => if isKey x then some (if neg then !(lookD x kvs).isSome else (lookD x kvs).isSome) else none
  | none => none
def mDIn (neg : Bool) (a b : Me) : Me := fun ρ S => (a ρ S).bind fun x S => (b ρ S).bind fun y S => optR S ((dinR neg x y S).map .bl)
def bDIn (neg : Bool) (a b : Me) : Mb := fun ρ S => (a ρ S).bindB fun x S => (b ρ S).bindB fun y S => optB S (dinR neg x y S)
def dgetR (x k : W) (S : Sto) : Option W := match dicOf S x with
  | some kvs => if isKey k then lookD k kvs else none
  | none => none
def mDGet (a b : Me) : Me := fun ρ S => (a ρ S).bind fun x S => (b ρ S).bind fun y S => optR S (dgetR x y S)
def dputR (x k v : W) (S : Sto) : Option Sto := match x with
  | .loc n => match S[n]? with
    | some (.dic kvs) => if isKey k ∧ kvs.length < limit then some (S.set n (.dic (putD k v kvs))) else none
    | _ => none
  | _ => none
def sDPut (a b m : Me) : Ms := fun ρ S => (m ρ S).toS ρ fun v S => (a ρ S).toS ρ fun x S => (b ρ S).toS ρ fun i S => match dputR x i v S with
  | some S => .nx ρ S
  | none => .bad
section
variable {X : Cx} {T : Tab} {E : WX} {pos : Pos} {a b c : Expr} {p q r : Me}
theorem dicO_new {P : Program} {w : World} {H : Hp} (h : Heap) (hb : sysModules < h.objs.size) : ObjOk P w H (h.push { cls := .type "dict", data := .dict #[] }) h.objs.size (DicO P w h.objs.size []) :=
  dic_mk (xs := []) (Nat.zero_le _) (beq_eq_false_iff_ne.mpr (Ne.symm (Nat.ne_of_lt hb))) .nil (Heap.DictOfH.new h)
theorem w_dnew (hP : T.prg = X.prog) (hW : T.wld = X.w) : PE X (.Dict [] [] pos) (tW T X.K E mDNew) := by
  refine ⟨fun pins s σ H Q I h => ?_⟩
  obtain ⟨F, al, S, ρ, g, e, h⟩ := h
  have hn : H s.heap.objs.size = none := I.hok.fresh (Nat.le_refl _)
  refine wpAny_Dict_empty ⟨.ref s.heap.objs.size, _, I.laid (a := s.heap.objs.size) (o := DicO X.prog X.w s.heap.objs.size []) (t' := s.toks) (fun _ _ q => Heap.get?_push_of_some _ q) (Nat.le_refl _) (dicO_new s.heap I.big), rfl, ?_⟩
  obtain ⟨g1, p1, r1⟩ := g.newCell hn (o := DicO X.prog X.w s.heap.objs.size []) (c := .dic []) ⟨[], by rw [hP, hW]; exact upd_same, g.notF hn, .nil⟩
  exact h _ _ _ _ p1 g1 r1
theorem din_sound {K : PySem.W.Frag} {F : Hp} {al : List Addr} {H : Hp} {S : Sto} {neg : Bool} {x y : V} {u w : W} {k : Bool} {Q : VK} (g : Good T K F al S H) (rx : Rw T K F al x u) (ry : Rw T K F al y w) (e : dinR neg u w S = some k) (h : Q (.bl k) H) : rDIn T K neg x y H Q := by
  unfold dinR dicOf at e
  split at e
  · rename_i kvs hd
    split at hd
    · rename_i n
      split at hd
      · rename_i kvs' hn
        cases hd
        split at e
        · rename_i hk
          cases e
          cases ry with
          | @loc pa _ hl =>
            obtain ⟨us, h1, h2, h3⟩ := g.cell n pa _ hl hn
            obtain ⟨ws, rfl, _⟩ := isKey_tup hk
            cases rx with
            | tup q r => exact ⟨F, al, .tup ws, _, pa, us, kvs, g.sub, rfl, .tup q r, hk, rfl, h1, h3, h⟩
        · cases e
      · cases hd
    · cases hd
  · cases e
theorem b_dnotin {k : Nat} (hr : Room k X.A) (hP : T.prg = X.prog) (hW : T.wld = X.w) (ha : PE X a (tW T X.K E p)) (hb : PE X b (tW T X.K E q)) (hm : behindInMarks .NotIn b = false) : PT X (.Compare a [.NotIn] [b] pos) (DL.tB T X.K E (bDIn true p q)) := by
  refine ptM (pt_cmpR (op_dnotin (T := T) hr hP hW) ha hb hm) ?_
  rintro σ H Q ⟨F, al, S, ρ, g, e, h⟩
  refine (tW.bindB g e h).imp fun x H1 ⟨F1, al1, S1, w, m, r, h1⟩ => ?_
  refine (tW.bindB m.g m.e h1).imp fun y H2 ⟨F2, al2, S2, u, m2, r2, h2⟩ => ?_
  cases e1 : dinR true w u S2 with
  | none => rw [e1] at h2; exact h2.elim
  | some k => rw [e1] at h2; exact din_sound m2.g (r.post m2.p) r2 e1 ⟨k, rfl, h2 _ _ _ Post.refl m2.g⟩
theorem w_dget {k : Nat} (hr : Room k X.A) (hP : T.prg = X.prog) (hW : T.wld = X.w) (ha : PE X a (tW T X.K E p)) (hb : PE X b (tW T X.K E q)) (hs : PlainIx b) : PE X (.Subscript a b pos) (tW T X.K E (mDGet p q)) := by
  refine peM (pe_ix (ix_dget (T := T) hr hP hW) ha hb hs) ?_
  rintro σ H Q ⟨F, al, S, ρ, g, e, h⟩
  refine (tW.bind g e h).imp fun x H1 ⟨F1, al1, S1, w, m, r, h1⟩ => ?_
  refine (tW.bind m.g m.e h1).imp fun y H2 ⟨F2, al2, S2, u, m2, r2, h2⟩ => ?_
  obtain ⟨z, e1, h3⟩ := optR_some h2
  replace r := r.post m2.p
  unfold dgetR dicOf at e1
  split at e1
  · rename_i kvs hd
    split at hd
    · rename_i n
      split at hd
      · rename_i kvs' hn
        cases hd
        split at e1
        · rename_i hk
          cases r with
          | @loc pa _ hl =>
            obtain ⟨us, h1, h2, h4⟩ := m2.g.cell _ pa _ hl hn
            obtain ⟨ws, rfl, _⟩ := isKey_tup hk
            cases r2 with
            | tup q r => exact ⟨F2, al2, .tup ws, z, _, pa, us, kvs, m2.g.sub, rfl, .tup q r, hk, rfl, h1, h4, e1, fun v rv => h3.val m2.g rv⟩
        · cases e1
      · cases hd
    · cases hd
  · cases e1
def rDSet (T : Tab) (K : PySem.W.Frag) : TSet := fun o i v H Q => ∃ (F : Hp) (al : List Addr) (k : W) (b a : Addr) (us : List (NestedKey × Addr × V)) (kvs : List (W × W)), Same F H ∧ i = .ref b ∧ Rw T K F al (.ref b) k ∧ isKey k = true ∧ o = .ref a ∧ H a = some (DicO T.prg T.wld a us) ∧ RwD T K F al us kvs ∧
  us.length < sizeLine ∧ Q (upd H a (DicO T.prg T.wld a (putU (W.toN k) b v us)))
theorem set_dic {k : Nat} (hr : Room k X.A) (hP : T.prg = X.prog) (hW : T.wld = X.w) : PSet X (rDSet T X.K) := by
  intro pins s σ H o i v ov iv u Q I ro ri rv h
  obtain ⟨F, al, k, b, a, us, kvs, sf, rfl, rk, hk, rfl, ha, rd, hl, hq⟩ := h
  cases ro; cases ri
  obtain ⟨z, y, xs, q, d⟩ := dic_of I sf hP hW ha rd
  have hz : xs.length ≤ sizeLine := by rw [← px_len q]; exact z
  refine wpAny_setItem_heap (hsz := hz) (room_nk hr) (key_at I sf rk hk) d fun h' dd' hs => ?_
  obtain ⟨ob, es, ep, e1, e2⟩ := id dd'
  have hl2 := putU_len (W.toN k) b v us
  refine ⟨upd H a (DicO T.prg T.wld a (putU (W.toN k) b v us)), d_write I (by rw [ha]; exact True.intro) hs ⟨ob, e1⟩ ?_, hq⟩
  rw [hP, hW]
  exact dic_mk (by omega) y (px_put rv q) dd'
end
section
variable {X : Cx} {T : Tab} {E : WX} {pos : Pos} {a b c tg : Expr} {p q r : Me} {bp : Mb} {bd : List Stmt} {m : Ms}
theorem s_dput {k : Nat} {iv : Expr} {tpos : Pos} (hr : Room k X.A) (hP : T.prg = X.prog) (hW : T.wld = X.w) (ha : PE X a (tW T X.K E p)) (hb : PE X b (tW T X.K E q)) (hv : PE X iv (tW T X.K E r)) (hs : swapsWithSole [.Subscript a b tpos] iv pos.line X.env = pure false) (hw : swappedStores [.Subscript a b tpos] iv X.env = pure none) (h1 : (assignEach [.Subscript a b tpos] X.env).map (·.2) = [assign (.Subscript a b tpos) X.env])
    (h2 : ∀ v, assign (.Subscript a b tpos) X.env v = (do
      let ov ← holding [v] (eval a X.env)
      let iv ← holding [v, ov] (eval b X.env)
      standAt tpos
      holding [v, ov, iv] (setItem ov iv v)
      release [v, ov, iv] [])) : PS X (.Assign [.Subscript a b tpos] iv pos) (tS T X.K E (sDPut p q r)) := by
  refine psM (ps_asg hv (pg_sub ha hb (set_dic (T := T) hr hP hW) h2) hs hw h1) ?_
  rintro D σ H ⟨F, al, S, ρ, g, e, h⟩
  refine (tW.toS g e h).imp fun v H1 ⟨F1, al1, S1, vw, m, rv, h1⟩ => ?_
  refine (tW.toS m.g m.e h1).imp fun x H2 ⟨F2, al2, S2, xw, m2, rx, h2⟩ => ?_
  refine (tW.toS m2.g m2.e h2).imp fun i H3 ⟨F3, al3, S3, iw, m3, ri, h3⟩ => ?_
  cases q : dputR xw iw vw S3 with
  | none => simp only [q] at h3; exact h3.elim
  | some S4 =>
    simp only [q] at h3
    unfold dputR at q
    split at q
    · rename_i n
      split at q
      · rename_i kvs hn
        split at q
        · rename_i hk
          cases q
          replace rx := rx.post m3.p
          cases rx with
          | @loc pa _ hl =>
            obtain ⟨us, h4, h5, h6⟩ := m3.g.cell _ pa _ hl hn
            obtain ⟨hk, hlen⟩ := hk
            obtain ⟨ws, rfl, _⟩ := isKey_tup hk
            cases ri with
            | tup q r =>
              rename_i ka xs
              refine ⟨F3, al3, .tup ws, ka, pa, us, kvs, m3.g.sub, rfl, .tup q r, hk, rfl, h4, h6, by rw [rd_len h6, ← limit_eq]; exact hlen, ?_⟩
              obtain ⟨g1, p1⟩ := m3.g.setCell (o := DicO T.prg T.wld pa (putU (W.toN (.tup ws)) ka v us)) (c := .dic (putD (.tup ws) vw kvs)) hl h5 ⟨_, upd_same, h5, rd_put hk (.tup q r) ((rv.post m2.p).post m3.p) h6⟩
              exact h3 _ _ _ _ p1 g1 (m3.e.post p1)
        · cases q
      · cases q
    · cases q
theorem s_while {n : Nat} (hp : PassesOwn (model X.prog X.w) X.A X.env X.xe) (hc : PT X c (DL.tB T X.K E bp)) (hb : PSs X bd (tS T X.K E m)) : PS X (.While c bd [] pos) (tS T X.K E (sWhile n bp m)) := by
  refine psM (ps_while hp hc hb) ?_
  rintro D σ H ⟨F, al, S, ρ, g, e, h⟩
  refine ⟨fun k σ2 H2 => ∃ F2 al2 S2 ρ2, Post F al H F2 al2 H2 ∧ Good T X.K F2 al2 S2 H2 ∧ EnvOk T X.K F2 al2 σ2 ρ2 ∧ FQ T X.K E D F2 al2 H2 (whileM bp m k ρ2 S2), ⟨n, F, al, S, ρ, Post.refl, g, e, h⟩, ?_⟩
  rintro k σ2 H2 ⟨F2, al2, S2, ρ2, p2, g2, e2, h2⟩
  cases k with
  | zero => exact h2.elim
  | succ k =>
    refine (tB.toS g2 e2 h2).imp fun b H3 ⟨F3, al3, S3, m3, h3⟩ => ?_
    cases b with
    | false => exact h3.now m3.g m3.e
    | true =>
      simp only [if_true] at h3
      refine ⟨fun σ4 H4 => ∃ F4 al4 S4 ρ4, Post F al H F4 al4 H4 ∧ Good T X.K F4 al4 S4 H4 ∧ EnvOk T X.K F4 al4 σ4 ρ4 ∧ FQ T X.K E D F4 al4 H4 (whileM bp m k ρ4 S4), fun σ4 H4 hh => ⟨k, Nat.lt_succ_self k, hh⟩, ?_⟩
      refine ⟨F3, al3, S3, ρ2, m3.g, m3.e, ?_⟩
      have p3 := p2.trans m3.p
      cases hm : m ρ2 S3 with
      | nx ρ5 S5 =>
        simp only [hm] at h3
        exact fun σ5 F5 al5 H5 p5 g5 e5 => ⟨F5, al5, S5, ρ5, p3.trans p5, g5, e5, FQ.post p5 h3⟩
      | ct ρ5 S5 =>
        simp only [hm] at h3
        exact fun σ5 F5 al5 H5 p5 g5 e5 => ⟨F5, al5, S5, ρ5, p3.trans p5, g5, e5, FQ.post p5 h3⟩
      | bk ρ5 S5 =>
        simp only [hm] at h3
        exact fun σ5 F5 al5 H5 p5 g5 e5 => h3 σ5 F5 al5 H5 p5 g5 e5
      | ret w S5 =>
        simp only [hm] at h3
        exact h3
      | exc x ρ5 S5 =>
        simp only [hm] at h3
        exact h3
      | bad => simp only [hm] at h3; exact h3.elim
end
end DL
set_option Elab.async false
set_option linter.all false
set_option maxRecDepth 100000
set_option maxHeartbeats 4000000
/-! Wu: instances whose lists are frozen behind __init__; methods of instances that are data. -/
namespace DL
open PySem PySem.Spec L2 PyProof.Rows
/-- a thing as data for ever -/
def frzW (S : Sto) : W → Option W
  | .loc n => match S[n]? with
    | some (.lst ws) => if nlL ws then some (.lst ws) else none
    | some (.frz w) => if w.nl then some w else none
    | _ => none
  | w => if w.nl then some w else none
def frzFs (S : Sto) : List (Nat × W) → Option (List (Nat × W))
  | [] => some []
  | (i, w) :: fs => match frzW S w with
    | some u => (frzFs S fs).map fun us => (i, u) :: us
    | none => none
theorem frzW_nl {S : Sto} {w u : W} (h : frzW S w = some u) : u.nl = true := by
  unfold frzW at h
  split at h
  · split at h
    · split at h
      · rename_i hn; cases h; exact hn
      · cases h
    · split at h
      · rename_i hn; cases h; exact hn
      · cases h
    · cases h
  · split at h
    · rename_i hn; cases h; exact hn
    · cases h
section
variable {T : Tab} {K : PySem.W.Frag} {F F' : Hp} {al al' : List Addr} {H H' : Hp} {S S' : Sto}
/-- S', where some lists of S are frozen, the same for what is data for ever -/
def Frz (S S' : Sto) : Prop := (∀ w u, frzW S w = some u → frzW S' w = some u) ∧ ∀ (n : Nat) d fs, S[n]? = some (.obj d fs) → S'[n]? = some (.obj d fs)
theorem freeze_one (g : Good T K F al S H) {v : V} {w u : W} (r : Rw T K F al v w) (h : frzW S w = some u) : ∃ F' S', Good T K F' al S' H ∧ Post F al H F' al H ∧ Rw T K F' al v u ∧ Frz S S' := by
  have same : ∀ w u, frzW S w = some u → (∀ n, w ≠ .loc n) → u = w := fun w u h hn => by
    unfold frzW at h
    split at h
    · exact absurd rfl (hn _)
    · split at h
      · cases h; rfl
      · cases h
  cases r with
  | @loc a n ha =>
    unfold frzW at h
    cases hc : S[n]? with
    | none => simp [hc] at h
    | some c =>
      have cl := g.cell n a c ha hc
      cases c with
      | lst ws =>
        simp only [hc] at h
        split at h
        · rename_i hn
          cases h
          obtain ⟨xs, h1, h2, h3⟩ := cl
          have s1 : Same F (upd F a (.lst xs)) := fun b u e => by rw [upd_ne (ne_of_none e h2)]; exact e
          have hw : Rw T K (upd F a (.lst xs)) al (.ref a) (.lst ws) := .lst (SqL.of upd_same) (h3.mono s1 (Pre.refl _))
          obtain ⟨g1, p1⟩ := g.freeze ha h2 h1 hw
          refine ⟨_, _, g1, p1, hw, fun w u e => ?_, fun m d fs e => ?_⟩
          · unfold frzW at e ⊢
            split at e
            · rename_i m
              by_cases hm : n = m
              · subst hm
                rw [List.getElem?_set_self (List.getElem?_eq_some_iff.mp hc).1]
                simp only [hc] at e
                rw [if_pos hn] at e
                cases e
                show (if W.nl (W.lst ws) = true then some (W.lst ws) else none) = _
                rw [if_pos (show W.nl (W.lst ws) = true from hn)]
              · rw [List.getElem?_set_ne hm]
                exact e
            · exact e
          · by_cases hm : n = m
            · subst hm; rw [hc] at e; cases e
            · rw [List.getElem?_set_ne hm]; exact e
        · cases h
      | frz w =>
        simp only [hc] at h
        split at h
        · cases h
          exact ⟨F, S, g, Post.refl, cl, fun _ _ e => e, fun _ _ _ e => e⟩
        · cases h
      | _ => simp [hc] at h
  | non => rw [same _ _ h (fun _ e => nomatch e)]; exact ⟨F, S, g, Post.refl, .non, fun _ _ e => e, fun _ _ _ e => e⟩
  | bl b => rw [same _ _ h (fun _ e => nomatch e)]; exact ⟨F, S, g, Post.refl, .bl b, fun _ _ e => e, fun _ _ _ e => e⟩
  | int b => rw [same _ _ h (fun _ e => nomatch e)]; exact ⟨F, S, g, Post.refl, .int b, fun _ _ e => e, fun _ _ _ e => e⟩
  | str b => rw [same _ _ h (fun _ e => nomatch e)]; exact ⟨F, S, g, Post.refl, .str b, fun _ _ e => e, fun _ _ _ e => e⟩
  | tup a b => rw [same _ _ h (fun _ e => nomatch e)]; exact ⟨F, S, g, Post.refl, .tup a b, fun _ _ e => e, fun _ _ _ e => e⟩
  | lst a b => rw [same _ _ h (fun _ e => nomatch e)]; exact ⟨F, S, g, Post.refl, .lst a b, fun _ _ e => e, fun _ _ _ e => e⟩
  | ins a b => rw [same _ _ h (fun _ e => nomatch e)]; exact ⟨F, S, g, Post.refl, .ins a b, fun _ _ e => e, fun _ _ _ e => e⟩
  | tpx a d b => rw [same _ _ h (fun _ e => nomatch e)]; exact ⟨F, S, g, Post.refl, .tpx a d b, fun _ _ e => e, fun _ _ _ e => e⟩
  | opq a => rw [same _ _ h (fun _ e => nomatch e)]; exact ⟨F, S, g, Post.refl, .opq a, fun _ _ e => e, fun _ _ _ e => e⟩
  | opx a b c => rw [same _ _ h (fun _ e => nomatch e)]; exact ⟨F, S, g, Post.refl, .opx a b c, fun _ _ e => e, fun _ _ _ e => e⟩
  | fn a => rw [same _ _ h (fun _ e => nomatch e)]; exact ⟨F, S, g, Post.refl, .fn a, fun _ _ e => e, fun _ _ _ e => e⟩
  | lam a b => rw [same _ _ h (fun _ e => nomatch e)]; exact ⟨F, S, g, Post.refl, .lam a b, fun _ _ e => e, fun _ _ _ e => e⟩
theorem frzFs_mono (z : Frz S S') : ∀ {fs us : List (Nat × W)}, frzFs S fs = some us → frzFs S' fs = some us
  | [], us, h => h
  | (i, w) :: fs, us, h => by
    unfold frzFs at h ⊢
    cases e : frzW S w with
    | none => simp [e] at h
    | some u =>
      simp only [e] at h
      rw [Option.map_eq_some_iff] at h
      obtain ⟨vs, h1, rfl⟩ := h
      rw [z.1 _ _ e, frzFs_mono z h1]
      rfl
theorem freeze_all : ∀ {fs us : List (Nat × W)} {gs : List (Str × V)} {F : Hp} {S : Sto}, Good T K F al S H → RwF T K F al gs fs → frzFs S fs = some us → ∃ F' S', Good T K F' al S' H ∧ Post F al H F' al H ∧ RwF T K F' al gs us ∧ nlF us = true ∧ ∀ (n : Nat) d fs, S[n]? = some (.obj d fs) → S'[n]? = some (.obj d fs)
  | [], us, gs, F, S, g, r, h => by
    cases r; cases h
    exact ⟨F, S, g, Post.refl, .nil, rfl, fun _ _ _ e => e⟩
  | (i, w) :: fs, us, gs, F, S, g, r, h => by
    unfold frzFs at h
    cases e : frzW S w with
    | none => simp [e] at h
    | some u =>
      simp only [e] at h
      rw [Option.map_eq_some_iff] at h
      obtain ⟨vs, h1, rfl⟩ := h
      cases r with
      | cons l r1 r2 =>
        obtain ⟨F1, S1, g1, p1, q1, z1⟩ := freeze_one g r1 e
        obtain ⟨F2, S2, g2, p2, q2, n2, z2⟩ := freeze_all g1 (r2.mono p1.ext p1.pre) (frzFs_mono z1 h1)
        refine ⟨F2, S2, g2, p1.trans p2, .cons l (q1.post p2) q2, ?_, fun n d fs e => z2 n d fs (z1.2 n d fs e)⟩
        show (u.nl && nlF vs) = true
        rw [frzW_nl e, n2]; rfl
end
/-- C(..): __init__ at a new instance; all it holds is frozen behind it -/
def makeZR (c : Nat) (ψ : Fn) (ws : List W) (S : Sto) : Res := match ψ (.loc 0 :: ws) [.obj c []] with
  | .ok .non S' => match (S' : List Cell)[0]? with
    | some (Cell.obj d fs) => match frzFs S' fs with
      | some us => if d = c then .ok (.ins c us) S else .bad
      | none => .bad
    | _ => .bad
  | .ok _ _ => .bad
  | .exc x _ => if x.nl then .exc x S else .bad
  | .bad => .bad
def mMakeZ (c : Nat) (ψ : Fn) (ms : Ml) : Me := fun ρ S => (ms ρ S).bind fun ws S => if nlL (ws.map (derefF S)) then makeZR c ψ (ws.map (derefF S)) S else .bad
section
variable {X : Cx} {T : Tab} {E : WX} {pos : Pos} {a b c : Expr} {p q r : Me} {es : List Expr} {ps : Ml} {bp bq br : Mb}
theorem w_makeZ {k j cc : Nat} {x : Str} {pp : Pos} {ψ : Fn} {Ec : XK} (C : MakeF T X.prog X.w X.K X.mg X.base k x cc ψ) (hr : Room j X.A) (hj : k + 1 ≤ j) (hg : Gl X x) (tk : Takes X fun c d _ H => Ec c d H) (ha : PA X (a :: es) (tL T X.K (fun c d _ H => Ec c d H) ps)) (hdb : (x == ("__debug__" : Str)) = false)
    (he : starEach (a :: es) X.env = (false, eval a X.env) :: starEach es X.env) (hpl : (backTo pos (starEach es X.env)).any (·.1) = false) : PE X (.Call (.Name x pp) (a :: es) [] pos) (tW T X.K (fun c d _ H => Ec c d H) (mMakeZ cc ψ ps)) := by
  obtain ⟨f, fd, pn, ds, dvs, dws, n, φ, FO, hn, hm, hM, hb, hd, hw, rfl⟩ := C
  refine peM (pe_make hM FO (hr.mono hj) hg hm hb hd (passes_call tk fun _ _ _ _ h => h) ha hdb he hpl) ?_
  rintro σ H Q ⟨F, al, S, ρ, g, e, h⟩
  refine (tL.bind g e h).imp fun vs H1 ⟨F1, al1, S1, ws, m, r, h1⟩ => ?_
  intro x dx hx hdx hne
  split at h1
  · rename_i hnl
    obtain ⟨gs, _⟩ := m.g.bare.side hdx (.own x)
    have hx2 : upd H1 dx (.own x) x = none := by rw [upd_ne (Ne.symm hne)]; exact hx
    obtain ⟨g2, p2, r2⟩ := gs.newCell hx2 (o := .ins (T.c cc) dx []) (c := .obj cc []) ⟨dx, [], upd_same, m.g.notF hx, .nil⟩
    have sm : Same H1 (upd (upd H1 dx (.own x)) x (.ins (T.c cc) dx [])) := fun b u eb => by
      rw [upd_ne (ne_of_none eb hx), upd_ne (ne_of_none eb hdx)]; exact eb
    have hbe : ∀ b ∈ ([] ++ [x] : List Addr), H1 b = none := fun b hb => by
      have : b = x := by simpa using hb
      rw [this]; exact hx
    refine spW_of (E := fun c d _ H => Ec c d H) (σ := σ) hn g2 (.cons r2 (((r.derefF m.g).nl hnl).append (hw _ _))) ?_
    unfold makeZR at h1
    show RQ T X.K (fun c d _ H => Ec c d H) σ F1 ([] ++ [x]) _ (φ (.loc 0 :: (ws.map (derefF S1) ++ dws)) [.obj cc []]) _
    replace h1 : RQ T X.K (fun c d _ H => Ec c d H) σ F1 al1 H1 (match φ (.loc 0 :: (ws.map (derefF S1) ++ dws)) [.obj cc []] with
      | .ok .non S' => match (S' : List Cell)[0]? with
        | some (Cell.obj d fs) => match frzFs S' fs with
          | some us => if d = cc then .ok (.ins cc us) S1 else .bad
          | none => .bad
        | _ => .bad
      | .ok _ _ => .bad
      | .exc x _ => if x.nl then .exc x S1 else .bad
      | .bad => .bad) Q := h1
    cases e1 : φ (.loc 0 :: (ws.map (derefF S1) ++ dws)) [.obj cc []] with
    | bad => rw [e1] at h1; exact h1.elim
    | exc z S' =>
      rw [e1] at h1
      replace h1 : RQ T X.K (fun c d _ H => Ec c d H) σ F1 al1 H1 (if z.nl then .exc z S1 else .bad) Q := h1
      split at h1
      · rename_i hz
        intro c d F' al' H' p g' rz
        obtain ⟨a1, b1⟩ := m.g.frame sm hbe p g'
        exact h1 c d F' al1 H' b1 a1 (rz.nl hz)
      · exact h1.elim
    | ok v S' =>
      rw [e1] at h1
      cases v with
      | non =>
        replace h1 : RQ T X.K (fun c d _ H => Ec c d H) σ F1 al1 H1 (match (S' : List Cell)[0]? with
          | some (Cell.obj d fs) => match frzFs S' fs with
            | some us => if d = cc then .ok (.ins cc us) S1 else .bad
            | none => .bad
          | _ => .bad) Q := h1
        split at h1
        · rename_i d fs e2
          split at h1
          · rename_i us e3
            split at h1
            · rename_i hdf
              subst hdf
              intro u F' al' H' p g' ru
              cases ru
              refine ⟨rfl, ?_⟩
              have hx0 : al'[0]? = some x := p.pre 0 x rfl
              obtain ⟨dx2, gs2, h5, h6, h7⟩ := g'.cell 0 x _ hx0 e2
              obtain ⟨F3, S3, g3, p3, q3, n3, z3⟩ := freeze_all g' h7 e3
              obtain ⟨dx4, gs4, i5, i6, i7⟩ := g3.cell 0 x _ hx0 (z3 0 _ _ e2)
              rw [h5] at i5
              cases i5
              have s1 : Same F3 (upd F3 x (.ins (T.c d) dx2 gs2)) := fun b u e => by rw [upd_ne (ne_of_none e i6)]; exact e
              have hw2 : ∀ al, Rw T X.K (upd F3 x (.ins (T.c d) dx2 gs2)) al (.ref x) (.ins d us) := fun al => .ins upd_same ((q3.nl n3).mono s1 (Pre.refl _))
              obtain ⟨a1, a2⟩ := g3.freeze hx0 i6 h5 (hw2 _)
              obtain ⟨a3, b3⟩ := m.g.frame sm hbe ((p.trans p3).trans a2) a1
              exact h1 _ _ _ _ b3 a3 (hw2 _)
            · exact h1.elim
          · exact h1.elim
        · exact h1.elim
      | _ => exact h1.elim
  · exact h1.elim
/-- a method by its class and name -/
def MethF (T : Tab) (P : Program) (w : World) (K : PySem.W.Frag) (mg : Str → Option Value) (base : Heap) (k : Nat) (c : Nat) (mn : Str) (ψ : Fn) : Prop :=
  ∃ (f : Addr) (fd : FuncData) (pn : List Str) (ds : List Value) (dvs : List V) (dws : List W) (n : Nat) (φ : Fn), FnOk P w K mg base (L2.CX P w) k f fd pn (spW T K n φ) ∧ TakesN n φ ∧ Cls K (T.c c) ∧ Meth K (T.c c) mn f ∧ mn ∉ T.fld ∧ Binds K fd pn ds ∧ Vals dvs ds ∧
    (∀ F al, RwL T K F al dvs dws) ∧ ψ = fun ws S => φ (ws ++ dws) S
theorem methF_mk {P : Program} {w : World} {K : PySem.W.Frag} {mg : Str → Option Value} {base : Heap} {mn : Str} {f : Addr} {fd : FuncData} {pn : List Str} {k n c : Nat} {φ : Fn} (hc : Cls K (T.c c)) (hM : Meth K (T.c c) mn f) (hf : mn ∉ T.fld)
    (FO : FnOk P w K mg base (L2.CX P w) k f fd pn (spW T K n φ)) (hn : TakesN n φ) (hb : Binds K fd pn []) : MethF T P w K mg base k c mn φ :=
  ⟨f, fd, pn, [], [], [], n, φ, FO, hn, hc, hM, hf, hb, .nil, fun _ _ => .nil, funext fun ws => funext fun S => by rw [List.append_nil]⟩
def isIns (c : Nat) : W → Bool
  | .ins d _ => d == c
  | _ => false
/-- o.m(..), o data, the method looks alone -/
def mMeth (c : Nat) (ψ : Fn) (a : Me) (ms : Ml) : Me := fun ρ S => (a ρ S).bind fun x S => if isIns c x && x.nl then (ms ρ S).bind fun ws S => if nlL (ws.map (derefF S)) then pureR (ψ (x :: ws.map (derefF S)) []) S else .bad else .bad
theorem w_methZ {t : TA} {k j cc : Nat} {mn : Str} {apos : Pos} {ψ : Fn} {E0 : XK} (M : MethF T X.prog X.w X.K X.mg X.base k cc mn ψ)
    (hP : ∀ (f : Addr) (fd : FuncData) (pn : List Str) (ds : List Value) (dvs : List V) (n : Nat) (φ : Fn), Cls X.K (T.c cc) → Meth X.K (T.c cc) mn f → FnOk X.prog X.w X.K X.mg X.base (L2.CX X.prog X.w) k f fd pn (spW T X.K n φ) → Binds X.K fd pn ds → Vals dvs ds → PE X c (tMeth (T.c cc) mn (spW T X.K n φ) dvs E0 (tW T X.K (fun c d _ H => E0 c d H) p) t))
    (ht : ∀ σ H Q, tL T X.K (fun c d _ H => E0 c d H) ps σ H Q → t σ H Q) :
    PE X c (tW T X.K (fun c d _ H => E0 c d H) (mMeth cc ψ p ps)) := by
  obtain ⟨f, fd, pn, ds, dvs, dws, n, φ, FO, hn, hc, hM, hf, hb, hd, hw, rfl⟩ := M
  refine peM (hP f fd pn ds dvs n φ hc hM FO hb hd) ?_
  rintro σ H Q ⟨F, al, S, ρ, g, e, h⟩
  refine (tW.bind g e h).imp fun x H1 ⟨F1, al1, S1, w, m, r, h1⟩ => ?_
  split at h1
  · rename_i hi
    rw [Bool.and_eq_true] at hi
    obtain ⟨hi, hx⟩ := hi
    cases r with
    | @ins a dx d gs fs q rf =>
      have : d = cc := by simpa [isIns] using hi
      subst this
      refine ⟨a, dx, gs, rfl, m.g.sub _ _ q, noField hf rf, ht _ _ _ ?_⟩
      refine (tL.bind m.g m.e h1).imp fun vs H2 ⟨F2, al2, S2, us, m2, r2, h2⟩ => ?_
      split at h2
      · rename_i hnl
        refine spW_of (E := fun c d _ H => E0 c d H) (σ := σ) hn m2.g.bare (.cons ((Rw.ins (T := T) (al := al2) (m2.p.ext _ _ q) (rf.mono m2.p.ext m2.p.pre)).nl hx) (((r2.derefF m2.g).nl hnl).append (hw _ _))) (pure_sound m2.g (Same.refl _) (fun _ h => nomatch h) h2)
      · exact h2.elim
    | _ => simp [isIns] at hi
  · exact h1.elim
theorem w_meth {pl : Sem Bool} {k j cc : Nat} {mn : Str} {apos : Pos} {ψ : Fn} {Ec : XK} (M : MethF T X.prog X.w X.K X.mg X.base k cc mn ψ) (hr : Room j X.A) (hj : k ≤ j) (tk : Takes X fun c d _ H => Ec c d H) (ho : PE X b (tW T X.K (fun c d _ H => Ec c d H) p)) (ha : PA X (a :: es) (tL T X.K (fun c d _ H => Ec c d H) ps))
    (he : starEach (a :: es) X.env = (false, eval a X.env) :: starEach es X.env) (hpl : (backTo pos (starEach es X.env)).any (·.1) = false)
    (ht : eval (.Call (.Attribute b mn apos) (a :: es) [] pos) X.env = (do
      let ov ← eval b X.env
      standAt apos.atName
      let (f, first) ← holding [ov] (getMethod ov mn pl)
      callWith pos f first (backTo pos (starEach (a :: es) X.env)) (backToKw pos (keywordEach [] X.env)))) :
    PE X (.Call (.Attribute b mn apos) (a :: es) [] pos) (tW T X.K (fun c d _ H => Ec c d H) (mMeth cc ψ p ps)) :=
  w_methZ (t := tL T X.K (fun c d _ H => Ec c d H) ps) (j := j) (apos := apos) M (fun f fd pn ds dvs n φ hc hM FO hb hd => pe_meth ho hc hM FO (hr.mono hj) hb hd (passes_call tk fun _ _ _ _ h => h) ha he hpl ht) fun _ _ _ h => h
end
end DL
set_option Elab.async false
set_option linter.all false
set_option maxRecDepth 100000
set_option maxHeartbeats 4000000
/-! Wv: max with a default, insert, isinstance of list or tuple, defs that call themselves. -/
namespace DL
open PySem PySem.Spec L2
/-! ### max(xs, default=d) of a list of ints -/
def maxI : Int → List Int → Int
  | a, [] => a
  | a, y :: ys => maxI (if a < y then y else a) ys
def maxDR (x : W) (zs : List W) (S : Sto) : Res := match zs with
  | [y] => match (match deref S x with | .lst ws => allI ws | _ => none) with
    | some [] => .ok y S
    | some (n :: ns) => .ok (.int (maxI n ns)) S
    | none => .bad
  | _ => .bad
def mMaxD (a : Me) (pk : Ml) : Me := fun ρ S => (a ρ S).bind fun x S => (pk ρ S).bind fun zs S => maxDR x zs S
section
variable {X : Cx} {T : Tab} {E : WX} {pos pp kpos apos tpos : Pos} {a b d c : Expr} {p q r : Me} {x : Str} {kws : List Keyword} {pk : Ml}
/-! ### xs.insert(i, y) -/
def insR (x i y : W) (S : Sto) : Res := match x, i with
  | .loc n, .int i => match S[n]? with
    | some (.lst ws) => if ws.length < limit ∧ 0 ≤ i ∧ i < 4611686018427387904 then .ok .non (S.set n (.lst (ws.take i.toNat ++ [y] ++ ws.drop i.toNat))) else .bad
    | _ => .bad
  | _, _ => .bad
def mIns (a i b : Me) : Me := fun ρ S => (a ρ S).bind fun x S => if isCell S x then (i ρ S).bind fun i S => (b ρ S).bind fun y S => insR x i y S else .bad
/-! ### isinstance(x, (list, tuple)) -/
def isLT : W → Option Bool
  | .non => some false
  | .bl _ => some false
  | .int _ => some false
  | .str _ => some false
  | .tup _ => some true
  | .lst _ => some true
  | _ => none
def mIsLT (a : Me) : Me := fun ρ S => (a ρ S).bind fun x S => optR S ((isLT (deref S x)).map .bl)
end
/-! ### a def that calls itself -/
theorem bad_ok {P : Program} {w : World} {K : PySem.W.Frag} {mg : Str → Option Value} {base : Heap} {CX : CXT} {k : Nat} {f : Addr} {fd : FuncData} {T : Tab} {pn : List Str} {n : Nat} : FnOk P w K mg base CX k f fd pn (spW T K n fun _ _ => .bad) :=
  ⟨fun vs H Q E h => by obtain ⟨_, _, _, _, _, _, _, h⟩ := h; exact h.elim, fun A outer s H args us vs Q E hr he hb hv h => by obtain ⟨_, _, _, _, _, _, _, h⟩ := h; exact h.elim⟩
end DL
set_option Elab.async false
set_option linter.all false
set_option maxRecDepth 100000
set_option maxHeartbeats 4000000
/-! Ww: comprehensions with two fors. -/
namespace DL
open PySem PySem.Spec L2
def lc2Step (ρ : Env) (vs : List Nat) (tg : Tg) (c : Mb) (vs1 : List Nat) (tg1 : Tg) (it1 : Ml) (c1 : Mb) (el : Me) (u : W) (S : Sto) : LRes :=
  match bindTg tg u (wipeW ρ vs) with
  | none => .bad
  | some ρ' => match c ρ' S with
    | .ok false S1 => .ok [] S1
    | .ok true S1 => match it1 ρ' S1 with
      | .ok xs S2 => compM (lcStep ρ' vs1 tg1 c1 el) xs [] S2
      | _ => .bad
    | _ => .bad
def mLc2 (mt : Bool) (vs : List Nat) (tg : Tg) (it : Ml) (c : Mb) (vs1 : List Nat) (tg1 : Tg) (it1 : Ml) (c1 : Mb) (el : Me) : Me := fun ρ S => (it ρ S).bind fun xs S =>
  match compM (lc2Step ρ vs tg c vs1 tg1 it1 c1 el) xs [] S with
  | .ok ys S => if ys.length ≤ limit then (if mt then newCellR (.lst ys) S else .ok (.lst ys) S) else .bad
  | _ => .bad
end DL
set_option Elab.async false
set_option linter.all false
set_option maxRecDepth 100000
set_option maxHeartbeats 4000000
/-! Wx: sorted, pairs of ints in a list. -/
namespace DL
open PySem PySem.Spec L2
abbrev P2 := Int × Int
def pw (p : P2) : W := .tup [.int p.1, .int p.2]
/-- the V xs hold the pairs ps -/
inductive Prs (K : PySem.W.Frag) (H : Hp) : List V → List P2 → Prop where
  | nil : Prs K H [] []
  | cons {t : Addr} {p : P2} {xs : List V} {ps : List P2} : SqT K H t [.int p.1, .int p.2] → Prs K H xs ps → Prs K H (.ref t :: xs) (p :: ps)
theorem Prs.at {K : PySem.W.Frag} {H : Hp} {xs : List V} {ps : List P2} (h : Prs K H xs ps) : ∀ x ∈ xs, ∃ (t : Addr) (p : P2), x = .ref t ∧ SqT K H t [.int p.1, .int p.2] := by
  induction h with
  | nil => intro x hx; cases hx
  | cons q _ ih =>
    intro x hx
    rcases List.mem_cons.mp hx with rfl | hx
    · exact ⟨_, _, rfl, q⟩
    · exact ih x hx
end DL
set_option Elab.async false
set_option linter.all false
set_option maxRecDepth 100000
set_option maxHeartbeats 4000000
/-! Xa: sorted, items of any plain data. -/
namespace DL
open PySem PySem.Spec L2
def nonE : W → Bool
  | .tup (_ :: _) => true
  | _ => false
def noT : W → Bool
  | .int _ => true
  | .bl _ => true
  | .str _ => true
  | .lst _ => true
  | _ => false
def srtOk (ws : List W) : Bool := W.plainL 60 ws && (ws.all fun a => ws.all fun b => PySem.W.alike (toP a) (toP b)) && (ws.all nonE || ws.all noT)
def leW (a b : W) : Bool := PySem.W.dataLe false toP a b
def srtW (ws : List W) : List W := ws.mergeSort leW
theorem plainL_mem : ∀ {n : Nat} {ws : List W} {w : W}, W.plainL n ws = true → w ∈ ws → W.plain n w = true
  | n, a :: as, w, h, hm => by
    rw [W.plainL, Bool.and_eq_true] at h
    rcases List.mem_cons.mp hm with rfl | hm
    · exact h.1
    · exact plainL_mem h.2 hm
def dataOf (S : Sto) (x : W) : Option (List W) := match deref S x with
  | .lst ws => if srtOk ws then some ws else none
  | _ => none
def mSortedD (k : List W → Sto → Res) (a : Me) : Me := fun ρ S => (a ρ S).bind fun x S => match dataOf S x with
  | some ws => k (srtW ws) S
  | none => .bad
end DL
set_option Elab.async false
set_option linter.all false
set_option maxRecDepth 100000
set_option maxHeartbeats 4000000
/-! Xb: index, in a list of any plain data. -/
namespace DL
open PySem PySem.Spec L2
def isLstW : W → Bool
  | .lst _ => true
  | _ => false
def idxRD (x y : W) (S : Sto) : Res := match x with
  | .lst ws => if W.plainL 60 ws && W.plain 60 y then (match idxW y ws with | some j => .ok (.int (j : Nat)) S | none => .bad) else .bad
  | _ => .bad
def mIndexD (a b : Me) : Me := fun ρ S => (a ρ S).bind fun x S => if isLstW x then (b ρ S).bind fun y S => idxRD x (deref S y) S else .bad
end DL
set_option Elab.async false
set_option linter.all false
set_option maxRecDepth 100000
set_option maxHeartbeats 4000000
/-! Xc: a list times a number; zip of two of any kind. -/
namespace DL
open PySem PySem.Spec L2
end DL
set_option Elab.async false
set_option linter.all false
set_option maxRecDepth 100000
set_option maxHeartbeats 4000000
/-! Xd: count, in a list of any plain data. -/
namespace DL
open PySem PySem.Spec L2
end DL
set_option Elab.async false
set_option linter.all false
set_option maxRecDepth 100000
set_option maxHeartbeats 4000000
/-! Xe: zip of two sequences of any kind, until one ends. -/
namespace DL
open PySem PySem.Spec L2
section
variable {T : Tab} {X : Cx} {E : WX} {a b : Expr} {p q : Me} {pos : Pos}
def jZipN (a b : Me) : Ml := fun ρ S => (a ρ S).bindL fun x S => (b ρ S).bindL fun y S => match items x, items y with
  | some xs, some ys => .ok (zipW xs ys) S
  | _, _ => .bad
end
end DL
set_option Elab.async false
set_option linter.all false
set_option maxRecDepth 100000
set_option maxHeartbeats 4000000
/-! Xf: a written dict of two texts, asked at once; xs[::-1]. -/
namespace DL
open PySem PySem.Spec L2
section
variable {X : Cx} {T : Tab} {E : WX} {pos : Pos} {a b : Expr} {p q : Me}
def mRev (a : Me) : Me := fun ρ S => (a ρ S).bind fun x S => match deref S x with
  | .lst ws => .ok (.lst ws.reverse) S
  | _ => .bad
end
/-- the head's facts by written addresses -/
def obsL (as : List Addr) (fa : List He.Fa) (fn : List He.DefD) (ex : PySem.W.Frag → Bool) (g : Addr → Option Obj) : He.AlD × Bool := (He.obsD fa fn (He.frG g as), ex (He.frG g as))
def hookL (as : List Addr) (fa : List He.Fa) (fn : List He.DefD) (ex : PySem.W.Frag → Bool) : PySem.W.Hook where
  α := He.AlD × Bool
  obs := fun s => obsL as fa fn ex s.heap.get?
  val := fun _ => (He.valD fn, true)
  says := fun _ h => ∃ K : PySem.W.Frag, K.In h ∧ He.SaysD fa fn K ∧ ex K = true
  of := fun _ _ e => ⟨_, He.frG_in, congrArg (fun z : He.AlD × Bool => z.1) e, congrArg (fun z : He.AlD × Bool => z.2) e⟩
  keeps := fun _ _ _ ⟨K, hK, c⟩ k => ⟨K, PySem.W.Frag.In.keeps hK k, c⟩
theorem obsL_eq {as : List Addr} {fa : List He.Fa} {fn : List He.DefD} {ex : PySem.W.Frag → Bool} {g : Addr → Option Obj} {s : Shared} (h : ∀ a, g a = s.heap.get? a) : obsL as fa fn ex g = (hookL as fa fn ex).obs s := by
  have e : g = s.heap.get? := funext h
  rw [e] <;> rfl
end DL
set_option Elab.async false
set_option linter.all false
set_option maxRecDepth 100000
set_option maxHeartbeats 4000000
/-! Xg: t[::-1] of a tuple. -/
namespace HT
open PySem PyProof.Rows
section
variable {prog : Program} {w : World} {A : Around} {E : Value → Shared → Prop} {s : Shared}
theorem back_ends (n : Nat) : Builtin.Slice.sliceAdjust none none (-1) (n : Int) = ((n : Int) - 1, -1) := rfl
theorem back_many (n : Nat) : Builtin.Slice.slicePlaces ((n : Int) - 1) (-1) (-1) = n := by
  unfold Builtin.Slice.slicePlaces
  rw [if_neg (show ¬ ((-1 : Int) > 0) by omega)]
  have e : (-(-1) : Int) = 1 := by omega
  rw [e, Int.ediv_one]
  split <;> omega
theorem fm_congr {α β : Type} {f g : α → Option β} : ∀ {l : List α}, (∀ x ∈ l, f x = g x) → l.filterMap f = l.filterMap g
  | [], _ => rfl
  | a :: l, h => by
    rw [List.filterMap_cons, List.filterMap_cons, h a (List.mem_cons_self ..), fm_congr fun x hx => h x (List.mem_cons_of_mem _ hx)]
theorem back_pick (xs : Array Value) : ((List.range xs.size).filterMap fun (m : Nat) => xs[((xs.size : Int) - 1 + (m : Int) * (-1)).toNat]?).toArray = xs.toList.reverse.toArray := by
  congr 1
  have h0 := pick_run xs.toList.reverse.toArray 0 xs.size
  rw [List.filterMap_map] at h0
  have h1 : (xs.toList.reverse.toArray.toList.drop 0).take xs.size = xs.toList.reverse := by
    rw [List.drop_zero, List.take_of_length_le (by simp)]
  rw [h1] at h0
  rw [← h0]
  refine fm_congr fun m hm => ?_
  have hm : m < xs.size := List.mem_range.mp hm
  show _ = xs.toList.reverse.toArray[0 + m]?
  have e1 : ((xs.size : Int) - 1 + (m : Int) * (-1)).toNat = xs.size - 1 - m := by omega
  have e2 : xs.toList.reverse.toArray[0 + m]? = xs.toList.reverse[m]? := by rw [Nat.zero_add]; simp only [List.getElem?_toArray]
  rw [e1, e2, List.getElem?_reverse (by simpa using hm), Array.length_toList]
  simp
theorem back_applied {sl : Addr} {vs : Value} {n : Nat} {Q : Int × Int × Nat → Shared → Prop} (hs : s.heap.IsSliceOf sl .none .none vs) (ps : IsPart vs (some (-1)))
    (h : Q ((n : Int) - 1, -1, n) s) : wpAny (model prog w) A (Builtin.Slice.sliceApplied (.ref sl) (pure (n : Int))) Q E s := by
  obtain ⟨ob, h1, h2, h3⟩ := id hs
  unfold Builtin.Slice.sliceApplied Builtin.Slice.sliceFields
  refine wpAny_bind (wpAny_bind (wpAny_field h1 h3 (x := .none) rfl (wpAny_bind (wpAny_field h1 h3 (x := .none) rfl (wpAny_bind (wpAny_field h1 h3 (x := vs) rfl (wpAny_pure ?_)))))))
  refine wpAny_bind (slicePart_ ps ?_)
  show wpAny _ _ (if ((-1 : Int) == 0) = true then _ else _) _ _ s
  rw [if_neg (show ¬ (((-1 : Int) == 0) = true) by decide)]
  refine wpAny_bind (slicePart_ .none (wpAny_bind (slicePart_ .none (wpAny_bind (wpAny_pure ?_)))))
  show wpAny _ _ (match Builtin.Slice.sliceAdjust none none (-1) (n : Int) with | (lo, hi) => pure (lo, (-1 : Int), Builtin.Slice.slicePlaces lo hi (-1))) _ _ s
  rw [back_ends]
  show wpAny _ _ (pure ((n : Int) - 1, (-1 : Int), Builtin.Slice.slicePlaces ((n : Int) - 1) (-1) (-1))) _ _ s
  rw [back_many]
  exact wpAny_pure h
theorem back_item {t sl : Addr} {items : Array Value} {vs : Value} {Q : Value → Shared → Prop} (ht : IsTup s.heap t items) (hs : s.heap.IsSliceOf sl .none .none vs) (ps : IsPart vs (some (-1)))
    (h : Q (.ref s.heap.objs.size) { s with heap := s.heap.push { cls := .type "tuple", data := .seq items.toList.reverse.toArray } }) (hz : items.size ≤ sizeLine) : wpAny (model prog w) A (getItem (.ref t) (.ref sl)) Q E s := by
  have hk : sizeOk (.seq items.toList.reverse.toArray) := by
    show items.toList.reverse.toArray.size ≤ sizeLine
    rw [List.size_toArray, List.length_reverse, Array.length_toList]; exact hz
  obtain ⟨ob, h1, h2, h3⟩ := id hs
  have hT : s.TypeIs (.ref sl) "slice" := ⟨ob, h1, h2⟩
  unfold getItem
  try (with_reducible refine wpAny_holding ?_)
  first | (refine wpAny_bind (wpAny_pure ?_)) | skip
  refine wpAny_bind (wpAny_sequenceKey (ht.typeIs) (by decide) ?_)
  refine wpAny_bind (wpAny_callSpecial?_slot (name := Str.ofString "__getitem__") (ht.typeIs) PyProof.Rows.slot_tuple_getitem (wpAny_call_entry PyProof.Rows.slot_tuple_getitem (ht.typeIs) entry_tuple_getitem ?_ (args_tuple_getitem _ _)))
  show wpAny _ _ (Builtin.Tuple.tupleItemsOf (.ref t) >>= _) _ _ _
  refine wpAny_bind (tupleItemsOf_ (ht) ?_)
  refine wpAny_bind (wpAny_typeOf hT ?_)
  rw [if_pos (by decide)]
  refine wpAny_bind (back_applied hs ps ?_)
  have hno : ¬ ((((items.size : Int) - 1) == 0 && (-1 : Int) == 1 && items.size == items.size) = true) := by
    rw [show ((-1 : Int) == 1) = false from rfl, Bool.and_false, Bool.false_and]; exact Bool.false_ne_true
  show wpAny _ _ (if (((items.size : Int) - 1) == 0 && (-1 : Int) == 1 && items.size == items.size) = true then _ else _) _ _ s
  rw [if_neg hno, back_pick]
  first
    | (exact wpAny_bind (m := Builtin.Tuple.tupleExact _) (wpAny_newObj_type (wpAny_pure ⟨_, rfl, wpAny_pure h⟩) hk))
    | (exact wpAny_bind (m := Builtin.Tuple.tupleExact _) (wpAny_newObj_type (wpAny_bind (wpAny_pure (wpAny_pure ⟨_, rfl, wpAny_pure h⟩))) hk))
    | (exact wpAny_bind (wpAny_bind (m := Builtin.Tuple.tupleExact _) (wpAny_newObj_type (wpAny_pure (wpAny_pure ⟨_, rfl, wpAny_pure h⟩)) hk)))
    | (exact wpAny_bind (wpAny_bind (m := Builtin.Tuple.tupleExact _) (wpAny_newObj_type (wpAny_pure ⟨_, rfl, wpAny_pure h⟩) hk)))
end
end HT
namespace DL
open PySem PySem.Spec L2 PyProof.Rows
section
variable {X : Cx}
def tRevT (K : PySem.W.Frag) (te : TE) : TE := fun σ H Q => te σ H fun x H1 => ∃ a xs, x = .ref a ∧ SqT K H1 a xs ∧ ∀ p, H1 p = none → Q (.ref p) (upd H1 p (.tup xs.reverse))
theorem pe_revT {e : Expr} {te : TE} {k : Nat} {p1 p2 p3 pos : Pos} (he : PE X e te) : PE X (.Subscript e (.Slice none none (some (.UnaryOp .USub (.Constant (.int 1) k p1) p2)) p3) pos) (tRevT X.K te) := by
  refine ⟨fun pins s σ H Q I h => ?_⟩
  refine Subscript_ (thn (he.run pins s σ H _ I h) fun v s1 ⟨x, H1, I1, r1, a, xs, ex, hx, q⟩ => ?_)
  subst ex; cases r1
  have hst : PO X (some (.UnaryOp .USub (.Constant (.int 1) k p1) p2)) (tPart (tUn (rU fun i => .int (-i)) (tC (.int 1)))) := po_some (pe_un un_neg pe_int)
  refine wpAny_Slice (thn ((po_none (X := X)).run pins s1 σ H1 (fun o H2 => o = none ∧ H2 = H1) I1 ⟨rfl, rfl⟩) fun vl s2 ⟨l, H2, I2, pl, el, e2⟩ => ?_)
  subst el; subst e2; cases pl
  refine thn ((po_none (X := X)).run pins s2 σ H2 (fun o H3 => o = none ∧ H3 = H2) I2 ⟨rfl, rfl⟩) fun vu s3 ⟨u, H3, I3, pu, eu, e3⟩ => ?_
  subst eu; subst e3; cases pu
  refine thn (hst.run pins s3 σ H3 (fun o H4 => o = some (-1) ∧ H4 = H3) I3 ⟨1, rfl, -1, rfl, rfl, rfl⟩) fun vs s4 ⟨o, H4, I4, ps, eo, e4⟩ => ?_
  subst eo; subst e4
  have I5 : Inv X pins σ H4 { s4 with heap := s4.heap.push { cls := .type "slice", data := .fields #[.none, .none, vs] } } := I4.kept (t' := s4.toks) fun b ob q => Heap.get?_push_of_some _ q
  obtain ⟨its, r, ht, hz⟩ := I5.tuple hx
  have hlen := r.length
  show wpAny (model X.prog X.w) X.A (subscriptTail e (.Slice none none (some (.UnaryOp .USub (.Constant (.int 1) k p1) p2)) p3) (.ref a) (.ref s4.heap.objs.size)) (EP X pins σ Q) X.xe { s4 with heap := s4.heap.push { cls := .type "slice", data := .fields #[.none, .none, vs] } }
  refine tail_any (ops := [.ref a, .ref s4.heap.objs.size]) (ht.typeIs) (PyProof.Rows.slot_tuple_getitem.lookup) ?_ (by with_unfolding_all rfl)
  refine HT.back_item ht (Heap.IsSliceOf.new _ .none .none vs) ps ?_ (by rw [List.size_toArray]; omega)
  refine ⟨.ref _, _, I5.laid (t' := s4.toks) (o := .tup xs.reverse) (fun b ob q => Heap.get?_push_of_some _ q) (Nat.le_refl _) ?_, rfl, q _ (I5.hok.fresh (Nat.le_refl _))⟩
  exact ⟨by rw [List.length_reverse]; exact hz, _, r.reverse, IsTup.new _ _⟩
end
section
variable {T : Tab} {X : Cx} {E : WX} {a : Expr} {p : Me} {pos : Pos}
def mRevT (a : Me) : Me := fun ρ S => (a ρ S).bind fun x S => match deref S x with
  | .tup ws => .ok (.tup ws.reverse) S
  | _ => .bad
theorem w_revT {k : Nat} {p1 p2 p3 : Pos} (ha : PE X a (tW T X.K E p)) : PE X (.Subscript a (.Slice none none (some (.UnaryOp .USub (.Constant (.int 1) k p1) p2)) p3) pos) (tW T X.K E (mRevT p)) := by
  refine peM (pe_revT ha) ?_
  rintro σ H Q ⟨F, al, S, ρ, g, e, h⟩
  refine (tW.bind g e h).imp fun x H1 ⟨F1, al1, S1, w, m, r, h1⟩ => ?_
  have vw := vw_of m.g r
  cases q : deref S1 w with
  | tup ws =>
    rw [q] at h1 vw
    obtain ⟨a, xs, rfl, sq, rl⟩ := vw.tup m.g.sub
    exact ⟨a, xs, rfl, sq, fun p hp => h1.new m.g rl.reverse hp⟩
  | _ => rw [q] at h1; exact h1.elim
end
end DL
set_option Elab.async false
set_option linter.all false
set_option maxRecDepth 100000
set_option maxHeartbeats 4000000
/-! Xh: tuple(xs) of a list, tracked as the very object. -/
namespace DL
open PySem PySem.Spec L2 PyProof.Rows
end DL
set_option Elab.async false
set_option linter.all false
set_option maxRecDepth 100000
set_option maxHeartbeats 4000000
/-! Xi: set(xs) of a list of ints, sorted at once. -/
namespace L2
open PySem PySem.Spec PyProof.Rows
end L2
set_option Elab.async false
set_option linter.all false
set_option maxRecDepth 100000
set_option maxHeartbeats 4000000
/-! Xj: sorted(set(xs)) of a list that rises. -/
namespace DL
open PySem PySem.Spec L2 PyProof.Rows
end DL
set_option Elab.async false
set_option linter.all false
set_option maxRecDepth 100000
set_option maxHeartbeats 4000000
/-! Xk: repr(x) of data, where no repr is under way. -/
namespace DL
open PySem PySem.Spec L2
open PyProof.Rows hiding St
/-! how long the shown text of small things is -/
def bigW : Nat := 2097152
mutual
def wtW : W → Nat
  | .non => 0
  | .bl _ => 0
  | .int i => if 0 ≤ i ∧ i < 64 then 6 else bigW
  | .tup ws => wtL ws
  | .lst ws => wtL ws
  | .str _ => bigW
  | .ins _ _ => bigW
  | .loc _ => bigW
  | .tpx _ => bigW
  | .opq _ _ => bigW
  | .lam => bigW
  | .fn _ => bigW
def wtL : List W → Nat
  | [] => 0
  | w :: ws => wtW w + 1 + wtL ws
end
section
variable {X : Cx} {T : Tab} {E : WX} {pos pp : Pos} {a : Expr} {p : Me}
def isSq : W → Bool
  | .tup _ => true
  | .lst _ => true
  | _ => false
def okR (x : W) : Bool := W.plain 60 x && isSq x && decide (wtW x ≤ 1048576)
def reprR (x : W) (S : Sto) : Res := if okR x then .ok (.str (toP x).shown) S else .bad
def mRepr (a : Me) : Me := fun ρ S => (a ρ S).bind fun x S => reprR (deref S x) S
end
/-- a def's promise, where no repr is under way -/
structure FnAt (P : Program) (w : World) (K : PySem.W.Frag) (mg : Str → Option Value) (base : Heap) (CX : CXT) (k : Nat) (f : Addr) (fd : FuncData) (ps : List Str) (sp : Sp) : Prop where
  len : ∀ vs H Q E, sp vs H Q E → vs.length = ps.length
  run : ∀ (A : Around) (outer : List PySem.Env) (s : Shared) (H : Hp) (args : Args) (us : List Value) (vs : List V) (Q : VK) (E : XK), A.guards = some [] → Room k A → Env0 P w K mg base A outer s H → BindsTo s fd args (ps.zip us) → Vals vs us → sp vs H Q E →
    codeAny (model P w) A (.call (.ref f) args) (CR CX outer P w H s Q E) s
theorem FnAt.imp {P : Program} {w : World} {K : PySem.W.Frag} {mg : Str → Option Value} {base : Heap} {CX : CXT} {k : Nat} {f : Addr} {fd : FuncData} {ps : List Str} {sp sp' : Sp} (F : FnAt P w K mg base CX k f fd ps sp)
    (h : ∀ vs H Q E, sp' vs H Q E → sp vs H Q E) : FnAt P w K mg base CX k f fd ps sp' :=
  ⟨fun vs H Q E q => F.len vs H Q E (h _ _ _ _ q), fun A outer s H args us vs Q E g hr he hb hv hs => F.run A outer s H args us vs Q E g hr he hb hv (h _ _ _ _ hs)⟩
end DL
set_option Elab.async false
set_option linter.all false
set_option maxRecDepth 100000
set_option maxHeartbeats 4000000
/-! Xl: range(i, j, -1). -/
namespace DL
open PySem PySem.Spec L2
def downW (lo : Int) : Nat → List W
  | 0 => []
  | n + 1 => .int lo :: downW (lo - 1) n
def jRangeD (a b c : Me) : Ml := fun ρ S => (a ρ S).bindL fun x S => (b ρ S).bindL fun y S => (c ρ S).bindL fun z S => match x, y, z with
  | .int i, .int j, .int k => if ((-(2 ^ 62) ≤ i ∧ i < 2 ^ 62) ∧ -(2 ^ 62) ≤ j ∧ j < 2 ^ 62) ∧ k = -1 then .ok (downW i (i - j).toNat) S else .bad
  | _, _, _ => .bad
end DL
set_option Elab.async false
set_option linter.all false
set_option maxRecDepth 100000
set_option maxHeartbeats 4000000
/-! Xm: zip of three sequences, until one ends. -/
namespace DL
open PySem PySem.Spec L2
end DL
set_option Elab.async false
set_option linter.all false
set_option maxRecDepth 100000
set_option maxHeartbeats 4000000
/-! Xn: tuple(range(i, j)). -/
namespace DL
open PySem PySem.Spec L2
end DL
set_option Elab.async false
set_option linter.all false
set_option maxRecDepth 100000
set_option maxHeartbeats 4000000
/-! Xo: len(x) by an own __len__. -/
namespace DL
open PySem PySem.Spec L2
section
variable {X : Cx} {CX : CXT} {k : Nat} {f C : Addr} {fd : FuncData} {ps : List Str} {sp : Sp} {dvs : List V} {ds : List Value} {E : XK}
theorem cr_lenO (hm : Meth X.K C "__len__" f) (F : FnOk X.prog X.w X.K X.mg X.base CX k f fd ps sp) (hr : Room (k + 1) X.A) (hb : Binds X.K fd ps ds) (hd : Vals dvs ds) (hx : Passes CX X E) :
    CallR X (.builtin "len") (fun vs H Q => ∃ (a dx : Addr) (fs : List (Str × V)), vs = [.ref a] ∧ H a = some (.ins C dx fs) ∧ sp (.ref a :: dvs) H (fun v H2 => ∃ n : Int, v = .int n ∧ 0 ≤ n ∧ n < 2 ^ 63 ∧ Q (.int n) H2) E) := by
  intro pins s σ H vs us Q I r h
  obtain ⟨a, dx, fs, rfl, ha, h⟩ := h
  rw [Vals.ref1 r]
  obtain ⟨mA, O, _⟩ := ins_get I.hok ha
  have spc : PySem.W.Looks (model X.prog X.w) s.heap (specialOf (.ref a) "__len__") (some (.ref f)) := (NwA.type_at O.obj rfl).andThen (PySem.W.looks_findIn I.kIn hm.at_)
  obtain ⟨of, hof, hoc⟩ : ∃ of, s.heap.get? f = some of ∧ of.cls = .type "function" := by
    have hf : ((X.K.lookup f).map (·.cls) == some (Value.type "function")) = true := hm.fn
    rw [beq_iff_eq, Option.map_eq_some_iff] at hf
    obtain ⟨o, e, hc⟩ := hf
    exact ⟨o, I.kIn _ _ e, hc⟩
  have r2 : Vals (V.ref a :: dvs) (Value.ref a :: ds) := .cons rfl hd
  have hl : ([Value.ref a] ++ ds).length = ps.length := by
    have e := r2.length
    rw [F.len _ _ _ _ h] at e
    exact e.symm
  refine Calls.call_function_entry kind_len plain_len entry_len (args_len1 _) ?_
  unfold Builtin.«len»
  refine wpAny_bind (m := oneArg "len" _) (wpAny_pure ?_)
  refine wpAny_bind (m := callSpecial? (.ref a) (PySem.Str.ofString "__len__")) ?_
  unfold callSpecial?
  refine wpAny_bind (spc.here ?_)
  refine wpAny_holding (wpAny_bind (wpAny_bindSpecial_def hof hoc ?_))
  refine wpAny_bind (wpAny_call (codeAny_mono (F.run X.A.in1 X.stack s H ⟨[.ref a], []⟩ ([.ref a] ++ ds) _ _ E hr.in1 I.env0.in1 (hb s [.ref a] I.kIn hl) r2 h) fun r s' hq => ?_))
  cases r with
  | error e => exact hx pins σ H s e s' I hq
  | ok fl =>
    cases fl with
    | ret u =>
      obtain ⟨v, H', I3, rv, n, rfl, h0, h1, q⟩ := I.after hq
      obtain ⟨tk, rfl⟩ := rv
      refine wpAny_pure ?_
      refine wpAny_bind (wpAny_holding (wpAny_pure ?_))
      refine wpAny_bind (wpAny_letGo ?_)
      show wpAny _ _ (if n < 0 then _ else _) _ _ _
      rw [if_neg (by omega)]
      show wpAny _ _ (if n ≥ 2 ^ 63 then _ else _) _ _ _
      rw [if_neg (by omega)]
      exact wpAny_bind (wpAny_mkInt (wpAny_pure ⟨_, rfl, ⟨.int n, H', I3.tok _, ⟨_, rfl⟩, q⟩⟩))
    | next => exact False.elim hq
    | brk => exact False.elim hq
    | cont => exact False.elim hq
end
section
variable {X : Cx} {T : Tab} {b : Expr} {p : Me} {pos pp : Pos}
def lenC (y : W) (S : Sto) : Res := match y with
  | .int n => if 0 ≤ n ∧ n < 4611686018427387904 then .ok (.int n) S else .bad
  | _ => .bad
def mLenI (c : Nat) (ψ : Fn) (a : Me) : Me := fun ρ S => (a ρ S).bind fun x S => if isIns c x && x.nl then (pureR (ψ [x] []) S).bind lenC else .bad
theorem RQ.len {K : PySem.W.Frag} {E : WX} {σ : L2.St} {F : Hp} {al : List Addr} {H : Hp} {Q : VK} {r : Res} (h : RQ T K E σ F al H (r.bind lenC) Q) : RQ T K E σ F al H r (fun v H2 => ∃ n : Int, v = .int n ∧ 0 ≤ n ∧ n < 2 ^ 63 ∧ Q (.int n) H2) := by
  cases r with
  | bad => exact h.elim
  | exc x S => exact h
  | ok y S =>
    replace h : RQ T K E σ F al H (lenC y S) Q := h
    unfold lenC at h
    split at h
    · split at h
      · rename_i n hn
        intro v F' al' H' po g rv
        cases rv
        exact ⟨n, rfl, hn.1, by omega, h (.int n) F' al' H' po g (.int n)⟩
      · exact h.elim
    · exact h.elim
theorem w_lenI {k j cc : Nat} {ψ : Fn} {Ec : XK} (M : MethF T X.prog X.w X.K X.mg X.base k cc "__len__" ψ) (hr : Room j X.A) (hj : k + 1 ≤ j) (tk : Takes X fun c d _ H => Ec c d H) (hg : Gl X "len") (hm : X.mg "len" = none) (ho : PE X b (tW T X.K (fun c d _ H => Ec c d H) p)) (he : starEach [b] X.env = (false, eval b X.env) :: starEach [] X.env) :
    PE X (.Call (.Name "len" pp) [b] [] pos) (tW T X.K (fun c d _ H => Ec c d H) (mLenI cc ψ p)) := by
  obtain ⟨f, fd, pn, ds, dvs, dws, n, φ, FO, hn, hc, hM, hf, hb, hd, hw, rfl⟩ := M
  refine peM (pe_callB (cr_lenO hM FO (hr.mono hj) hb hd (passes_call tk fun _ _ _ _ h => h)) hg hm (show bootBuiltins "len" = some (.builtin "len") by decide +kernel) (pa_cons ho pa_nil he) (by decide) rfl he rfl) ?_
  rintro σ H Q ⟨F, al, S, ρ, g, e, h⟩
  refine (tW.bind g e h).imp fun x H1 ⟨F1, al1, S1, w, m, r, h1⟩ => ?_
  split at h1
  · rename_i hi
    rw [Bool.and_eq_true] at hi
    obtain ⟨hi, hx⟩ := hi
    cases r with
    | @ins a dx d gs fs q rf =>
      have : d = cc := by simpa [isIns] using hi
      subst this
      refine ⟨a, dx, gs, rfl, m.g.sub _ _ q, ?_⟩
      exact spW_of (E := fun c d _ H => Ec c d H) (σ := σ) hn m.g.bare (.cons ((Rw.ins (T := T) (al := al1) q rf).nl hx) (hw _ _)) (pure_sound m.g (Same.refl _) (fun _ h => nomatch h) h1.len)
    | _ => simp [isIns] at hi
  · exact h1.elim
end
end DL
set_option Elab.async false
set_option linter.all false
set_option maxRecDepth 100000
set_option maxHeartbeats 4000000
/-! Xp: a def called with no arguments. -/
namespace DL
open PySem PySem.Spec L2
end DL
set_option Elab.async false
set_option linter.all false
set_option maxRecDepth 100000
set_option maxHeartbeats 4000000
/-! Yf: sets of tuples (nested as they may be) in expressions and statements. -/
namespace DL
open PySem PySem.Spec L2 PyProof.Rows
open NS (NL SetN Keys NkIs)
def hasW (k : W) (ws : List W) : Bool := ws.any fun q => W.eqv q k
def addW (k : W) (ws : List W) : List W := if hasW k ws then ws else ws ++ [k]
def setOf (S : Sto) : W → Option (List W)
  | .loc n => match S[n]? with
    | some (.set ws) => some ws
    | _ => none
  | _ => none
def mSNew : Me := fun _ S => newCellR (.set []) S
def sinR (neg : Bool) (x y : W) (S : Sto) : Option Bool := match setOf S y with
  | some ws => if isKey x then some (if neg then !hasW x ws else hasW x ws) else none
  | none => none
def mSIn (neg : Bool) (a b : Me) : Me := fun ρ S => (a ρ S).bind fun x S => (b ρ S).bind fun y S => optR S ((sinR neg x y S).map .bl)
def bSIn (neg : Bool) (a b : Me) : Mb := fun ρ S => (a ρ S).bindB fun x S => (b ρ S).bindB fun y S => optB S (sinR neg x y S)
def saddR (x k : W) (S : Sto) : Res := match x with
  | .loc n => match S[n]? with
    | some (.set ws) => if isKey k ∧ ws.length < 8000 then .ok .non (S.set n (.set (addW k ws))) else .bad
    | _ => .bad
  | _ => .bad
def mSAdd (a b : Me) : Me := fun ρ S => (a ρ S).bind fun x S => if (setOf S x).isSome then (b ρ S).bind fun y S => saddR x y S else .bad
def strictW (ws : List W) : Prop := ws.Pairwise fun a b => leW b a = false
instance (ws : List W) : Decidable (strictW ws) := inferInstanceAs (Decidable (List.Pairwise _ ws))
def sortsOf (S : Sto) (x : W) : Option (List W) := match setOf S x with
  | some ws => if srtOk ws = true ∧ strictW (srtW ws) then some (srtW ws) else none
  | none => none
def mSortS (k : List W → Sto → Res) (a : Me) : Me := fun ρ S => (a ρ S).bind fun x S => match sortsOf S x with
  | some ws => k ws S
  | none => .bad
/-! ### one order -/
/-! ### the set's members -/
/-! ### in expressions -/
end DL
set_option Elab.async false
set_option linter.all false
set_option maxRecDepth 100000
set_option maxHeartbeats 4000000
/-! Yg: sorted of a dict whose keys are tuples. -/
namespace NS
open PySem PySem.Spec PyProof.Rows L2
end NS
namespace DL
open PySem PySem.Spec L2 PyProof.Rows
def keysOf (S : Sto) (x : W) : Option (List W) := match dicOf S x with
  | some kvs => if srtOk (kvs.map (·.1)) = true then some (srtW (kvs.map (·.1))) else none
  | none => none
def mSortK (k : List W → Sto → Res) (a : Me) : Me := fun ρ S => (a ρ S).bind fun x S => match keysOf S x with
  | some ws => k ws S
  | none => .bad
end DL
set_option Elab.async false
set_option linter.all false
set_option maxRecDepth 100000
set_option maxHeartbeats 4000000
/-! Yh: dicts and sets of nested tuples, made by a comprehension. -/
namespace DL
open PySem PySem.Spec L2 PyProof.Rows
/-! ### dicts -/
section
variable {X : Cx} {T : Tab} {E : WX} {pos : Pos}
def mDc (vs : List Nat) (tg : Tg) (it : Ml) (c : Mb) (ek ev : Me) : Me := fun ρ S => (it ρ S).bind fun xs S => dcM ρ vs tg c ek ev xs [] S
where
  /-- the entries one by one -/
  dcM (ρ : Env) (vs : List Nat) (tg : Tg) (c : Mb) (ek ev : Me) : List W → List (W × W) → Sto → Res
  | [], acc, S => newCellR (.dic acc) S
  | x :: xs, acc, S => match bindTg tg x (wipeW ρ vs) with
    | none => .bad
    | some ρ' => match c ρ' S with
      | .ok true S1 => match ek ρ' S1 with
        | .ok k S2 => match ev ρ' S2 with
          | .ok v S3 => if isKey k ∧ acc.length < limit then dcM ρ vs tg c ek ev xs (putD k v acc) S3 else .bad
          | _ => .bad
        | _ => .bad
      | .ok false S1 => dcM ρ vs tg c ek ev xs acc S1
      | _ => .bad
end
end DL
set_option Elab.async false
set_option linter.all false
set_option maxRecDepth 100000
set_option maxHeartbeats 4000000
/-! Yi: sets of nested tuples made by a comprehension. -/
namespace DL
open PySem PySem.Spec L2 PyProof.Rows
section
variable {X : Cx} {T : Tab} {E : WX} {pos : Pos}
def mSc (vs : List Nat) (tg : Tg) (it : Ml) (c : Mb) (el : Me) : Me := fun ρ S => (it ρ S).bind fun xs S => scM ρ vs tg c el xs [] S
where
  /-- the members one by one -/
  scM (ρ : Env) (vs : List Nat) (tg : Tg) (c : Mb) (el : Me) : List W → List W → Sto → Res
  | [], acc, S => newCellR (.set acc) S
  | x :: xs, acc, S => match bindTg tg x (wipeW ρ vs) with
    | none => .bad
    | some ρ' => match c ρ' S with
      | .ok true S1 => match el ρ' S1 with
        | .ok k S2 => if isKey k ∧ acc.length < 8000 then scM ρ vs tg c el xs (addW k acc) S2 else .bad
        | _ => .bad
      | .ok false S1 => scM ρ vs tg c el xs acc S1
      | _ => .bad
end
end DL
set_option Elab.async false
set_option linter.all false
set_option maxRecDepth 100000
set_option maxHeartbeats 4000000
/-! Yj: xs.pop(i), xs.reverse(). -/
namespace DL
open PySem PySem.Spec L2 PyProof.Rows
def popR (x i : W) (S : Sto) : Res := match x, i with
  | .loc n, .int i => match S[n]? with
    | some (.lst ws) => if 0 ≤ i ∧ i < ws.length ∧ i < 4611686018427387904 then (match ws[i.toNat]? with | some y => .ok y (S.set n (.lst (ws.eraseIdx i.toNat))) | none => .bad) else .bad
    | _ => .bad
  | _, _ => .bad
def mPop (a i : Me) : Me := fun ρ S => (a ρ S).bind fun x S => if isCell S x then (i ρ S).bind fun i S => popR x i S else .bad
def rvsR (x : W) (S : Sto) : Res := match x with
  | .loc n => match S[n]? with
    | some (.lst ws) => .ok .non (S.set n (.lst ws.reverse))
    | _ => .bad
  | _ => .bad
def mRvs (a : Me) : Me := fun ρ S => (a ρ S).bind fun x S => if isCell S x then rvsR x S else .bad
end DL
set_option Elab.async false
set_option linter.all false
set_option maxRecDepth 100000
set_option maxHeartbeats 4000000
/-! Yk: dict(pairs), keys nested tuples. -/
namespace DL
open PySem PySem.Spec L2 PyProof.Rows
def pairsW : List W → Option (List (W × W))
  | [] => some []
  | .tup [k, v] :: ws => if isKey k then (pairsW ws).map ((k, v) :: ·) else none
  | _ => none
def putAll (kvs : List (W × W)) (acc : List (W × W)) : List (W × W) := kvs.foldl (fun d p => putD p.1 p.2 d) acc
def dicPR (x : W) (S : Sto) : Res := match x with
  | .lst ws => match pairsW ws with
    | some kvs => newCellR (.dic (putAll kvs [])) S
    | none => .bad
  | _ => .bad
def mDicP (a : Me) : Me := fun ρ S => (a ρ S).bind dicPR
end DL
set_option Elab.async false
set_option linter.all false
set_option maxRecDepth 100000
set_option maxHeartbeats 4000000
/-! Yl: a try that nothing is raised in. -/
namespace DL
open PySem PySem.Spec L2 PyProof.Rows
def thruF : Fl → Fl
  | .exc _ _ _ => .bad
  | r => r
def sThru (m : Ms) : Ms := fun ρ S => thruF (m ρ S)
end DL
set_option Elab.async false
set_option linter.all false
set_option maxRecDepth 100000
set_option maxHeartbeats 4000000
/-! Ym: len of a dict of nested tuples. -/
namespace DL
open PySem PySem.Spec L2 PyProof.Rows
def lenDR (S : Sto) (x : W) : Option W := (dicOf S x).map fun kvs => .int kvs.length
def mLenD (a : Me) : Me := fun ρ S => (a ρ S).bind fun x S => optR S (lenDR S x)
end DL
set_option Elab.async false
set_option linter.all false
set_option maxRecDepth 100000
set_option maxHeartbeats 4000000
/-! Yn: tuple(d) of a dict of nested tuples. -/
namespace NS
open PySem PySem.Spec PyProof.Rows L2
section
variable {P : Program} {w : World} {A : Around} {E : Value → Shared → Prop} {s : Shared} {T : String} {r : Addr} {vs : List Value}
theorem tuple_new_of {Q : Value → Shared → Prop} (hT : s.TypeIs (.ref r) "dict") (hn : vs.length ≤ sizeLine)
    (hcol : ∀ {Q' : List Value → Shared → Prop} {E' : Value → Shared → Prop}, (∀ (h' : Heap) (tk : Nat), (∀ b o, s.heap.get? b = some o → h'.get? b = some o) → s.heap.objs.size ≤ h'.objs.size → Q' vs { s with heap := h', toks := tk }) → wpAny (model P w) A.in1 (collect (.ref r)) Q' E' s)
    (h : ∀ (h' : Heap) (tk : Nat), (∀ b o, s.heap.get? b = some o → h'.get? b = some o) → s.heap.objs.size ≤ h'.objs.size → Q (.ref h'.objs.size) { s with heap := h'.push { cls := .type "tuple", data := .seq vs.toArray }, toks := tk }) :
    codeAny (model P w) A (.call (.builtin "tuple.__new__") ⟨[.type "tuple", .ref r], []⟩) (wants Q E) s := by
  refine codeAny_of_tree ?_
  show wpAny _ A.in1 (do checkBuiltinCall "tuple.__new__" ⟨[.type "tuple", .ref r], []⟩; again (.builtin "tuple.__new__" ⟨[.type "tuple", .ref r], []⟩)) _ _ s
  refine wpAny_bind (wpAny_of_eq (F.newCall_tuple_1 _) (wpAny_pure ⟨plainId_quiet F.plain_tuple_new _, codeAny_builtin F.entry_tuple_new ?_⟩))
  rw [Around.under_plainId F.plain_tuple_new _]
  have q1 := sub_tuple_self
  have q2 := init_tuple_lookup
  have q3 := madeHere_tuple
  wp_walk using wpAny_typeOf hT, hcol
  intro h' tk hk hz
  show wpAny _ _ (Builtin.Tuple.tupleExact vs.toArray >>= fun v => ret v) _ _ _
  unfold Builtin.Tuple.tupleExact
  refine wpAny_bind (wpAny_newObj_type ?_ (by show vs.toArray.size ≤ sizeLine; simpa using hn))
  exact wpAny_pure (h h' tk hk hz)
theorem call_tuple_of {Q : Value → Shared → Prop} (hT : s.TypeIs (.ref r) "dict") (hn : vs.length ≤ sizeLine)
    (hcol : ∀ {Q' : List Value → Shared → Prop} {E' : Value → Shared → Prop}, (∀ (h' : Heap) (tk : Nat), (∀ b o, s.heap.get? b = some o → h'.get? b = some o) → s.heap.objs.size ≤ h'.objs.size → Q' vs { s with heap := h', toks := tk }) → wpAny (model P w) A.in1.in1 (collect (.ref r)) Q' E' s)
    (h : ∀ (h' : Heap) (tk : Nat), (∀ b o, s.heap.get? b = some o → h'.get? b = some o) → s.heap.objs.size ≤ h'.objs.size → Q (.ref h'.objs.size) { s with heap := h'.push { cls := .type "tuple", data := .seq vs.toArray }, toks := tk }) :
    wpAny (model P w) A (call (.type "tuple") [.ref r]) Q E s := by
  refine callType_codes (Q₁ := fun ob s1 => s1.TypeIs ob "tuple" ∧ Q ob s1) F.called_tuple (F.typeCall_tuple_1 _) F.entry_object_init
    (tuple_new_of (A := A.in1) hT hn hcol fun h' tk hk hz => ⟨⟨_, Heap.get?_push_size _ rfl, rfl⟩, h h' tk hk hz⟩) fun ob s1 h1 => ?_
  exact ⟨h1.1, F.args_object_init_2 ob _, object_init_meets F.called_tuple.init.lookup F.called_tuple.made (by decide) P w A.in1 _ s1 ⟨h1.1, rfl, h1.2⟩⟩
end
end NS
namespace DL
open PySem PySem.Spec L2 PyProof.Rows
def keyLR (S : Sto) (x : W) : Option W := (dicOf S x).map fun kvs => .tup (kvs.map (·.1))
def mTupD (a : Me) : Me := fun ρ S => (a ρ S).bind fun x S => optR S (keyLR S x)
end DL
set_option Elab.async false
set_option linter.all false
set_option maxRecDepth 100000
set_option maxHeartbeats 4000000
/-! Yo: name = {..} on one line, the name a local: dict and set comprehensions. -/
namespace DL
open PySem PySem.Spec L2 PyProof.Rows
end DL
set_option Elab.async false
set_option linter.all false
set_option maxRecDepth 100000
set_option maxHeartbeats 4000000
/-! Yp: [..] * n, a list that will be changed. -/
namespace DL
open PySem PySem.Spec L2 PyProof.Rows
end DL
set_option Elab.async false
set_option linter.all false
set_option maxRecDepth 100000
set_option maxHeartbeats 4000000
/-! Yq: set(xs) of a list of nested tuples; xs.extend(ys). -/
namespace NS
open PySem PySem.Spec PyProof.Rows L2
end NS
set_option Elab.async false
set_option linter.all false
set_option maxRecDepth 100000
set_option maxHeartbeats 4000000
/-! Yr: set(xs), xs.extend(ys) as values. -/
namespace DL
open PySem PySem.Spec L2 PyProof.Rows
def setLW (ws : List W) : List W := ws.foldl (fun acc k => addW k acc) []
def setLR (x : W) (S : Sto) : Res := match x with
  | .lst ws => if (ws.all isKey) = true ∧ (setLW ws).length < 8000 then newCellR (.set (setLW ws)) S else .bad
  | _ => .bad
def mSetL (a : Me) : Me := fun ρ S => (a ρ S).bind setLR
def extR (x y : W) (S : Sto) : Res := match x, y with
  | .loc n, .lst vs => match S[n]? with
    | some (.lst ws) => if ws.length + vs.length ≤ limit then .ok .non (S.set n (.lst (ws ++ vs))) else .bad
    | _ => .bad
  | _, _ => .bad
def mExt (a b : Me) : Me := fun ρ S => (a ρ S).bind fun x S => if isCell S x then (b ρ S).bind fun y S => extR x y S else .bad
end DL
set_option Elab.async false
set_option linter.all false
set_option maxRecDepth 100000
set_option maxHeartbeats 4000000
/-! Ys: the walk over the keys of a locked dict of nested tuples. -/
namespace DL
open PySem PySem.Spec L2 PyProof.Rows
end DL
set_option Elab.async false
set_option linter.all false
set_option maxRecDepth 100000
set_option maxHeartbeats 4000000
/-! Yt: a dict locked while its keys are walked over. -/
namespace DL
open PySem PySem.Spec L2 PyProof.Rows
/-! ### the walk -/
def jKeysL (p : Me) : Ml := fun ρ S => (p ρ S).bindL fun x S => match x with
  | .loc n => match S[n]? with
    | some (.dlk kvs) => .ok (kvs.map (·.1)) S
    | _ => .bad
  | _ => .bad
end DL
set_option Elab.async false
set_option linter.all false
set_option maxRecDepth 100000
set_option maxHeartbeats 4000000
/-! Yu: [.. for k in d], d a dict that is locked meanwhile; k in d under the lock. -/
namespace DL
open PySem PySem.Spec L2 PyProof.Rows
section
variable {X : Cx} {T : Tab} {E : WX} {pos : Pos} {a b : Expr} {p q : Me}
/-! ### k in d, under the lock -/
def dicL (S : Sto) : W → Option (List (W × W))
  | .loc n => match S[n]? with
    | some (.dlk kvs) => some kvs
    | _ => none
  | _ => none
def dinLR (x y : W) (S : Sto) : Option Bool := match dicL S y with
  | some kvs => if isKey x then some (lookD x kvs).isSome else none
  | none => none
def mDInL (a b : Me) : Me := fun ρ S => (a ρ S).bind fun x S => (b ρ S).bind fun y S => optR S ((dinLR x y S).map .bl)
end
end DL
set_option Elab.async false
set_option linter.all false
set_option maxRecDepth 100000
set_option maxHeartbeats 4000000
/-! Yv: t < u of two tuples of ints. -/
namespace DL
open PySem PySem.Spec L2 PyProof.Rows
end DL
namespace DL
open PySem PySem.Spec L2
/-- a class made with some of its values, the others by default -/
theorem makeF_dfl {T : Tab} {P : Program} {w : World} {K : PySem.W.Frag} {mg : Str → Option Value} {base : Heap} {x : Str} {f : Addr} {fd : FuncData} {pn : List Str} {k n c : Nat} {φ : Fn} {ds : List Value} {dv : List V} {dws : List W} (hm : mg x = some (.ref (T.c c))) (hM : Mk K (T.c c) f)
    (FO : FnOk P w K mg base (L2.CX P w) k f fd pn (spW T K n φ)) (hn : TakesN n φ) (hd : Vals dv ds) (hb : Binds K fd pn ds) (hw : ∀ F al, RwL T K F al dv dws) : MakeF T P w K mg base k x c fun ws S => φ (ws ++ dws) S :=
  ⟨f, fd, pn, ds, dv, dws, n, φ, FO, hn, hm, hM, hb, hd, hw, rfl⟩
end DL
namespace DL
open PySem PySem.Spec L2 PyProof.Rows
/-! ### sum(t), t a tuple of ints -/
end DL
set_option Elab.async false
set_option linter.all false
set_option maxRecDepth 100000
set_option maxHeartbeats 4000000
/-! Za: an except clause with a tuple of classes. -/
namespace PySem.W
open PySem PySem.Spec PySem.Calls PyProof.Rows
end PySem.W
set_option Elab.async false
set_option linter.all false
set_option maxRecDepth 100000
set_option maxHeartbeats 4000000
/-! Zb: try .. except C as e, C a class or a tuple of classes. -/
namespace DL
open PySem PySem.Spec PyProof.Rows L2
end DL
set_option Elab.async false
set_option linter.all false
set_option maxRecDepth 100000
set_option maxHeartbeats 4000000
/-! Zc: raise, try .. except .. as e over data; isinstance of a caught exception. -/
namespace DL
open PySem PySem.Spec L2
/-! ### nothing opaque in it -/
mutual
def W.nop : W → Bool
  | .tup ws => nopL ws
  | .lst ws => nopL ws
  | .ins _ fs => nopF fs
  | .tpx ws => nopL ws
  | .opq _ _ => false
  | .lam => false
  | .fn _ => true
  | _ => true
def nopL : List W → Bool
  | [] => true
  | w :: ws => W.nop w && nopL ws
def nopF : List (Nat × W) → Bool
  | [] => true
  | (_, w) :: ws => W.nop w && nopF ws
end
/-- other opaque things, another lambda -/
def Tab.alt (T : Tab) (o : Nat → Addr → Option Addr → Prop) (l : Option (Addr × Hp)) : Tab := ⟨T.fld, T.cls, T.prg, T.wld, o, l, T.tbs, T.fns⟩
section
variable {T : Tab} {K : PySem.W.Frag} {F : Hp} {al : List Addr} {o : Nat → Addr → Option Addr → Prop} {l : Option (Addr × Hp)}
mutual
theorem Rw.alt (ho : ∀ k a d, T.opq k a d → o k a d) (hl : ∀ x, T.lam = some x → l = some x) : ∀ {v : V} {w : W}, Rw T K F al v w → Rw (T.alt o l) K F al v w
  | _, _, .non => .non
  | _, _, .bl b => .bl b
  | _, _, .int i => .int i
  | _, _, .str x => .str x
  | _, _, .tup q r => .tup q (RwL.alt ho hl r)
  | _, _, .lst q r => .lst q (RwL.alt ho hl r)
  | _, _, .ins q r => .ins q (RwF.alt ho hl r)
  | _, _, .loc q => .loc q
  | _, _, .tpx q d r => .tpx q d (RwL.alt ho hl r)
  | _, _, .opq q => .opq (ho _ _ _ q)
  | _, _, .opx q e r => .opx (ho _ _ _ q) e (RwF.alt ho hl r)
  | _, _, .lam q e => .lam (hl _ q) e
  | _, _, .fn q => .fn q
theorem RwL.alt (ho : ∀ k a d, T.opq k a d → o k a d) (hl : ∀ x, T.lam = some x → l = some x) : ∀ {vs : List V} {ws : List W}, RwL T K F al vs ws → RwL (T.alt o l) K F al vs ws
  | _, _, .nil => .nil
  | _, _, .cons a b => .cons (Rw.alt ho hl a) (RwL.alt ho hl b)
theorem RwF.alt (ho : ∀ k a d, T.opq k a d → o k a d) (hl : ∀ x, T.lam = some x → l = some x) : ∀ {gs : List (Str × V)} {fs : List (Nat × W)}, RwF T K F al gs fs → RwF (T.alt o l) K F al gs fs
  | _, _, .nil => .nil
  | _, _, .cons lt a b => .cons lt (Rw.alt ho hl a) (RwF.alt ho hl b)
end
/-- at an exception of the class c that stands at a, its dict at d -/
def Tab.at (T : Tab) (c : Nat) (a : Addr) (d : Option Addr) : Tab := T.alt (fun k b e => T.opq k b e ∨ (k = c ∧ b = a ∧ e = d)) T.lam
end
/-! ### raise -/
def sRaise (c : Nat) : Ms := fun ρ S => .exc (.own c []) ρ S
/-- what an own exception class without own __init__ must be -/
structure ExcK (K : PySem.W.Frag) (C : Addr) (bmB : List Value) (newId : String) : Prop where
  q : PySem.W.excIn K C bmB newId = true
  kp : PySem.W.keepIn K (.ref C) = true
  sub : PySem.W.subIn K (.ref C) (.type "BaseException") = some true
  ty : PySem.W.typeIn K (.ref C) = some (.type "type")
section
variable {X : Cx} {T : Tab} {E : WX}
theorem s_raise {c : Nat} {x m : Str} {j : Nat} {p p2 p3 p4 : Pos} {bmB : List Value} {B newId initId : String} (hc : X.calm = true) (tk : Takes X E) (F : ExcBaseFacts B newId initId bmB) (q : ExcK X.K (T.c c) bmB newId) (gC : X.mg x = some (.ref (T.c c))) (hg : Gl X x) (hdb : (x == ("__debug__" : Str)) = false) :
    PS X (.Raise (some (.Call (.Name x p) [.Constant (.str m) j p2] [] p3)) none p4) (tS T X.K E (sRaise c)) := by
  refine psM (ps_raise hc tk (pmk_own F q.q gC q.kp (raises_own q.sub q.ty) hg hdb)) ?_
  rintro D σ H ⟨F, al, S, ρ, g, e, h⟩
  exact h (.ref (T.c c)) none σ F al H Post.refl g e ⟨rfl, .inl ⟨rfl, rfl⟩⟩
end
/-! ### try -/
theorem EnvOk.alt {T : Tab} {K : PySem.W.Frag} {F : Hp} {al : List Addr} {o : Nat → Addr → Option Addr → Prop} {l : Option (Addr × Hp)} {σ : L2.St} {ρ : Env} (ho : ∀ k a d, T.opq k a d → o k a d) (hl : ∀ x, T.lam = some x → l = some x) (e : EnvOk T K F al σ ρ) : EnvOk (T.alt o l) K F al σ ρ :=
  ⟨e.1, fun i w q => let ⟨v, a, b⟩ := e.2 i w q; ⟨v, a, b.alt ho hl⟩⟩
end DL
set_option Elab.async false
set_option linter.all false
set_option maxRecDepth 100000
set_option maxHeartbeats 4000000
/-! Zd: isinstance of a caught exception; defs that are called while one is handled. -/
namespace PySem.W
open PySem PySem.Spec PySem.Calls PyProof.Rows
end PySem.W
namespace DL
open PySem PySem.Spec L2 PyProof.Rows
/-- the opaque things are exceptions that the context holds fast -/
def Holds (X : Cx) (T : Tab) : Prop := ∀ k a d, T.opq k a d → ∃ oe : Obj, (a, oe) ∈ X.pn ∧ oe.cls = .ref (T.c k) ∧ oe.dict = d ∧ ∃ vs, oe.data = .fields vs
/-- an exception's dict as it stands -/
def DctAt (d : Option Addr) (H : Hp) : Prop := d = none ∨ ∃ dx gs, d = some dx ∧ H dx = some (.xd gs)
def mIsX (hit : Nat → Option Bool) (p : Me) : Me := fun ρ S => (p ρ S).bind fun x S => match x with
  | .opq k _ => optR S ((hit k).map .bl)
  | _ => .bad
section
variable {X : Cx} {T : Tab} {E : WX}
/-- a class by its name, as a value -/
inductive ClsN (X : Cx) : Str → V → Value → Prop
  | own {x : Str} {C : Addr} (hg : Gl X x) (hm : X.mg x = some (.ref C)) (hd : (x == ("__debug__" : Str)) = false) : ClsN X x (.ref C) (.ref C)
  | ty {x : Str} {t : String} (hg : Gl X x) (hm : X.mg x = none) (hv : bootBuiltins x = some (.type t)) (hn : x ≠ "__name__") (hd : (x == ("__debug__" : Str)) = false) : ClsN X x (.ty t) (.type t)
theorem ClsN.nm {x : Str} {c : V} {u : Value} (h : ClsN X x c u) : Names X x u := by
  cases h with
  | own hg hm hd => exact ⟨hg, hd, .inl hm⟩
  | ty hg hm hv hn hd => exact ⟨hg, hd, .inr ⟨hm, hv, hn⟩⟩
variable {pos pp tp : Pos} {a : Expr} {p : Me} {hit : Nat → Option Bool}
theorem DctAt.mono {d : Option Addr} {H H' : Hp} (h : DctAt d H) (s : ∀ b o, H b = some o → H' b = some o) : DctAt d H' := by
  rcases h with h | ⟨dx, gs, h1, h2⟩
  · exact .inl h
  · exact .inr ⟨dx, gs, h1, s _ _ h2⟩
end
/-! ### defs that are called while an exception is handled -/
end DL
set_option Elab.async false
set_option linter.all false
set_option maxRecDepth 100000
set_option maxHeartbeats 4000000
/-! Ze: a lambda without parameters handed to a def. -/
namespace DL
open PySem PySem.Spec L2 PyProof.Rows LamX
section
variable {T : Tab} {K : PySem.W.Frag} {F F' : Hp} {al : List Addr}
theorem RwX.alt {o : Nat → Addr → Option Addr → Prop} {l : Option (Addr × Hp)} (ho : ∀ k a d, T.opq k a d → o k a d) (hl : ∀ x, T.lam = some x → l = some x) {x : Xn} {cls : Value} {d : Option Addr} (r : RwX T K F al x cls d) : RwX (T.alt o l) K F al x cls d := by
  cases x with
  | own c fs =>
    refine ⟨r.1, ?_⟩
    rcases r.2 with e | ⟨h0, a, gs, h1, h2, h3⟩
    · exact .inl e
    · exact .inr ⟨h0, a, gs, h1, h2, h3.alt ho hl⟩
end
/-! ### a def that is handed a lambda -/
end DL
set_option Elab.async false
set_option linter.all false
set_option maxRecDepth 100000
set_option maxHeartbeats 4000000
/-! Zf: the end of a law that makes lambdas. -/
namespace DL
open PySem PySem.Spec L2 PyProof.Rows LamX
/-- the code object of the def at f, and its table -/
def codeOfA (K : PySem.W.Frag) (f : Addr) : Addr := match K.lookup f with
  | some ⟨_, _, .func fd, _⟩ => (match fd.code with | .ref c => c | _ => 0)
  | _ => 0
def tblOfA (K : PySem.W.Frag) (f : Addr) : Addr := match K.lookup (codeOfA K f) with
  | some ⟨_, _, .fields vs, _⟩ => (match (vs[11]? : Option Value) with | some (.ref P) => P | _ => 0)
  | _ => 0
end DL
set_option Elab.async false
set_option linter.all false
set_option maxRecDepth 100000
set_option maxHeartbeats 4000000
/-! Zg: what the head must say of exception classes; rules that hold while an exception is handled. -/
namespace DL
open PySem PySem.Spec L2 PyProof.Rows
/-! ### facts as tests -/
def isBlt (o : Option (Option Value)) (s : String) : Bool := match o with
  | some (some (.builtin t)) => t == s
  | _ => false
theorem isBlt_ok {o : Option (Option Value)} {s : String} (h : isBlt o s = true) : o = some (some (.builtin s)) := by
  unfold isBlt at h
  split at h
  · rw [beq_iff_eq.mp h]
  · cases h
def isAbs (o : Option (Option Value)) : Bool := match o with
  | some none => true
  | _ => false
theorem isAbs_ok {o : Option (Option Value)} (h : isAbs o = true) : o = some none := by
  unfold isAbs at h
  split at h
  · rfl
  · cases h
def isYes (o : Option Bool) (b : Bool) : Bool := match o with
  | some c => c == b
  | none => false
theorem isYes_ok {o : Option Bool} {b : Bool} (h : isYes o b = true) : o = some b := by
  unfold isYes at h
  split at h
  · rw [beq_iff_eq.mp h]
  · cases h
def isTyp (o : Option Value) : Bool := match o with
  | some (.type t) => t == "type"
  | _ => false
theorem isTyp_ok {o : Option Value} (h : isTyp o = true) : o = some (.type "type") := by
  unfold isTyp at h
  split at h
  · rw [beq_iff_eq.mp h]
  · cases h
def excCB (K : PySem.W.Frag) (D : Addr) : Bool := isBlt (PySem.W.findIn K (.ref D) "__getattribute__") "BaseException.__getattribute__" && isAbs (PySem.W.findIn K (.ref D) "__getattr__") && isYes (PySem.W.subIn K (.ref D) (.type "BaseException")) true && PySem.W.hasDictIn K D &&
  isBlt (PySem.W.findIn K (.ref D) "__class__") "object.__class__" && isBlt (PySem.W.specialIn K (.builtin "object.__class__") "__get__") "getset_descriptor.__get__" && isYes (PySem.W.takesIn K (.builtin "object.__class__")) true && isYes (PySem.W.mroIn K D (.type "object")) true
def excKB (K : PySem.W.Frag) (C : Addr) (bm : List Value) (nw : String) : Bool := PySem.W.excIn K C bm nw && PySem.W.keepIn K (.ref C) && isYes (PySem.W.subIn K (.ref C) (.type "BaseException")) true && isTyp (PySem.W.typeIn K (.ref C))
theorem excKB_ok {K : PySem.W.Frag} {C : Addr} {bm : List Value} {nw : String} (h : excKB K C bm nw = true) : ExcK K C bm nw := by
  unfold excKB at h
  simp only [Bool.and_eq_true] at h
  obtain ⟨⟨⟨h1, h2⟩, h3⟩, h4⟩ := h
  exact ⟨h1, h2, isYes_ok h3, isTyp_ok h4⟩
def kitB (K : PySem.W.Frag) (cl : List Addr) (cv : Value) (l : List (Nat × Bool)) : Bool := l.all fun p => excCB K (cl.getD p.1 0) && isYes (PySem.W.kitOne K (.ref (cl.getD p.1 0)) cv) p.2
/-! ### comparing, counting, looking up under an exception -/
end DL
set_option Elab.async false
set_option linter.all false
set_option maxRecDepth 100000
set_option maxHeartbeats 4000000
/-! Zh: a def that is handed a lambda, by its name. -/
namespace DL
open PySem PySem.Spec L2 PyProof.Rows LamX
end DL
set_option Elab.async false
set_option linter.all false
set_option maxRecDepth 100000
set_option maxHeartbeats 4000000
/-! Zi: sorted(set(t)) of a tuple of any ints. -/
namespace L2
open PySem PySem.Spec PyProof.Rows
end L2
namespace DL
open PySem PySem.Spec L2 PyProof.Rows
end DL
set_option Elab.async false
set_option linter.all false
set_option maxRecDepth 100000
set_option maxHeartbeats 4000000
/-! Zj: xs + ys, a list that will be changed. -/
namespace DL
open PySem PySem.Spec L2 PyProof.Rows
def mNAddL (a b : Me) : Me := fun ρ S => (a ρ S).bind fun x S => (b ρ S).bind fun y S => match deref S x, deref S y with
  | .lst ws, .lst us => if ws.length + us.length ≤ limit then newCellR (.lst (ws ++ us)) S else .bad
  | _, _ => .bad
section
variable {X : Cx} {T : Tab} {E : WX} {pos pp : Pos} {a b c : Expr} {p q r : Me}
theorem w_naddL (ha : PE X a (tW T X.K E p)) (hb : PE X b (tW T X.K E q)) : PE X (.BinOp a .Add b pos) (tW T X.K E (mNAddL p q)) := by
  refine peM (pe_op op_catL ha hb) ?_
  rintro σ H Q ⟨F, al, S, ρ, g, e, h⟩
  refine (tW.bind g e h).imp fun x H1 ⟨F1, al1, S1, w, m, r, h1⟩ => ?_
  refine (tW.bind m.g m.e h1).imp fun y H2 ⟨F2, al2, S2, u, m2, r2, h2⟩ => ?_
  have v1 := vw_of m2.g (r.post m2.p)
  have v2 := vw_of m2.g r2
  split at h2
  · rename_i ws us e1 e2
    rw [e1] at v1
    rw [e2] at v2
    split at h2
    · rename_i hk
      obtain ⟨p1, us1, rfl, hp, r3⟩ := v1.lst m2.g.sub
      obtain ⟨q1, vs1, rfl, hq, r4⟩ := v2.lst m2.g.sub
      refine ⟨p1, q1, us1, vs1, rfl, rfl, hp, hq, by rw [r3.length, r4.length, ← limit_eq]; exact hk, fun pp hp => ?_⟩
      exact h2.newC m2.g (r3.append r4) hp
    · exact h2.elim
  · exact h2.elim
end
end DL
set_option Elab.async false
set_option linter.all false
set_option maxRecDepth 100000
set_option maxHeartbeats 4000000
/-! Zk: xs.clear(); the end of a law that makes lambdas and asks for repr. -/
namespace DL
open PySem PySem.Spec L2 PyProof.Rows LamX
end DL
set_option Elab.async false
set_option linter.all false
set_option maxRecDepth 100000
set_option maxHeartbeats 4000000
/-! Zl: a call on data alone whose answer, a new list, is a cell of the caller's. -/
namespace DL
open PySem PySem.Spec L2 PyProof.Rows
end DL
set_option Elab.async false
set_option linter.all false
set_option maxRecDepth 100000
set_option maxHeartbeats 4000000
/-! Zm: isinstance(x, a built-in type), where x may be an instance of one own class. -/
namespace DL
open PySem PySem.Spec L2 PyProof.Rows
/-- what the class must say; its instances are of none of these types -/
def insTB (K : PySem.W.Frag) (C : Addr) (t : Ty) : Bool := isBlt (PySem.W.findIn K (.ref C) "__class__") "object.__class__" && isBlt (PySem.W.specialIn K (.builtin "object.__class__") "__get__") "getset_descriptor.__get__" && isYes (PySem.W.takesIn K (.builtin "object.__class__")) true &&
  isYes (PySem.W.mroIn K C (.type "object")) true && isYes (PySem.W.kitOne K (.ref C) (.type t.s)) false
def isTyO (c : Nat) (t : Ty) (S : Sto) : W → Option Bool
  | .ins d _ => if d = c then some false else none
  | w => isTy t (deref S w)
section
variable {X : Cx} {T : Tab} {E : WX} {pos pp : Pos} {a : Expr} {p : Me}
theorem isO_sound {K : PySem.W.Frag} {F H : Hp} {al : List Addr} {S : Sto} {x : V} {w : W} {c : Nat} {t : Ty} {k : Bool} {Q : VK} (cl : Cls K (T.c c)) (hk : insTB K (T.c c) t = true) (g : Good T K F al S H) (r : Rw T K F al x w) (e : isTyO c t S w = some k) (h : Q (.bl k) H) : rIsi K [x, .ty t.s] H Q := by
  have vw := vw_of g r
  cases w with
  | ins d fs =>
    replace e : (if d = c then some false else none) = some k := e
    split at e
    · rename_i hd
      subst hd
      cases e
      cases r with
      | ins q _ =>
        unfold insTB at hk
        simp only [Bool.and_eq_true] at hk
        obtain ⟨⟨⟨⟨k1, k2⟩, k3⟩, k4⟩, k5⟩ := hk
        exact ⟨_, .ty t.s, .ref (T.c d), .type t.s, false, rfl, .ty _, .base (.ins (g.sub _ _ q) cl (isBlt_ok k1) (isBlt_ok k2) (isYes_ok k3) (isYes_ok k4)), isYes_ok k5, h⟩
    · cases e
  | _ => exact isi_sound g vw e h
end
end DL
set_option Elab.async false
set_option linter.all false
set_option maxRecDepth 100000
set_option maxHeartbeats 4000000
/-! Zn: errors with one field: an own __init__ over any built-in base. -/
namespace PySem
namespace GX
open PySem.W PySem.Calls PyProof.Rows PySem.HandSPX
open Builtin Builtin.ObjectAttr
/-- own classes, then the mro of the built-in base -/
def refsB (bmB : List Value) : List Value → Bool
  | .ref _ :: r => refsB bmB r
  | l => l == bmB
theorem refsB_split {bmB : List Value} : ∀ l : List Value, refsB bmB l = true → (∃ c r, l = .ref c :: r ∧ refsB bmB r = true) ∨ l = bmB := fun l e => by
  cases l with
  | nil => exact .inr (beq_iff_eq.mp e)
  | cons v r => cases v <;> first | exact .inl ⟨_, r, rfl, e⟩ | exact .inr (beq_iff_eq.mp e)
/-- what a built-in base of errors must be -/
structure BaseB (B newId initId : String) (bmB : List Value) : Prop where
  F : ExcBaseFacts B newId initId bmB
  pass : ∀ self : Value, refuseLoop self "__setattr__" bmB = pure ()
  obj : bmB.contains (.type "object") = true
theorem base_Value : BaseB "ValueError" "ValueError.__new__" "ValueError.__init__" [.type "ValueError", .type "Exception", .type "BaseException", .type "object"] := ⟨F.excBase_ValueError, fun self => by kernel_rfl, by decide +kernel⟩
theorem base_Overflow : BaseB "OverflowError" "OverflowError.__new__" "OverflowError.__init__" [.type "OverflowError", .type "ArithmeticError", .type "Exception", .type "BaseException", .type "object"] := ⟨F.excBase_OverflowError, fun self => by kernel_rfl, by decide +kernel⟩
section
variable {B newId initId : String} {bmB : List Value}
theorem refsB_pass (hB : BaseB B newId initId bmB) (self : Value) : ∀ l : List Value, refsB bmB l = true → refuseLoop self "__setattr__" l = pure () := by
  intro l
  induction l with
  | nil =>
    intro e
    rcases refsB_split [] e with ⟨c, r, q, _⟩ | q
    · cases q
    · rw [q]; exact hB.pass self
  | cons a r ih =>
    intro e
    rcases refsB_split (a :: r) e with ⟨c, r', q, h⟩ | q
    · cases q
      rw [refuseLoop_ref]; exact ih h
    · rw [q]; exact hB.pass self
theorem refsB_has (X : String) : ∀ l : List Value, refsB bmB l = true → l.contains (.type X) = bmB.contains (.type X) := by
  intro l
  induction l with
  | nil =>
    intro e
    rcases refsB_split [] e with ⟨c, r, q, _⟩ | q
    · cases q
    · rw [q]
  | cons a r ih =>
    intro e
    rcases refsB_split (a :: r) e with ⟨c, r', q, h⟩ | q
    · cases q
      rw [List.contains_cons, ih h]; rfl
    · rw [q]
theorem refsB_some (hB : BaseB B newId initId bmB) {l : List Value} (e : refsB bmB l = true) : l.isEmpty = false := by
  cases l with
  | nil =>
    have := refsB_has "object" [] e
    rw [hB.obj] at this
    cases this
  | cons _ _ => rfl
variable {prog : Program} {w : World} {A : Around} {R : Result → Shared → Prop} {hp : Heap} {g : Array GenState} {d : Drawn} {t : Nat} {os : OsState}
/-- self.name = v on an error that has no dict as yet, whatever its base -/
theorem first_field (hB : BaseB B newId initId bmB) {K : W.Frag} {name : Str} {tk : Tok} {v : Value} {x C : Addr} {fv : Array Value} {cd : ClassData}
    (X : K.In hp) (hx : hp.get? x = some { cls := .ref C, data := .fields fv }) (hcd : W.clsIn K C = some cd) (hm : refsB bmB cd.mro = true) (hh : cd.hasDict = true) (ha : W.findIn K (.ref C) name = some none)
    (hq : ∀ h' tk' dx, (∀ b o, b ≠ x → hp.get? b = some o → h'.get? b = some o) → hp.objs.size ≤ dx → dx ≠ x → h'.get? x = some { cls := .ref C, dict := some dx, data := .fields fv } →
      h'.Ns1 dx (fun y => if y = name then some v else none) → R (.ok (.ret .none)) ⟨h', g, d, tk', os⟩) :
    codeAny (model prog w) A (.call (.builtin "object.__setattr__") ⟨[.ref x, .str name tk, v], []⟩) R ⟨hp, g, d, t, os⟩ := by
  have J : W.InstAt hp x { cls := .ref C, data := .fields fv } C none := ⟨hx, rfl, rfl, trivial⟩
  have so := F.store_object
  have nE := refsB_some hB hm
  have isO : cd.mro.contains (.type "object") = true := (refsB_has "object" _ hm).trans hB.obj
  have xs : x ≠ hp.objs.size := Nat.ne_of_lt (Heap.lt_size hx)
  have isI : W.Looks (model prog w) hp (isInstance (.ref x) (.type "object")) true := J.type.andThen (W.looks_mroIn X (by
    unfold W.mroIn
    rw [hcd, Option.bind_some, if_neg (by rw [nE]; decide), isO]))
  refine codeAny_call_builtin so.slot.plain so.entry (@W.check_slot (model prog w) _ _ ⟨hp, g, d, t, os⟩ "object.__setattr__" "object" "__setattr__" (.ref x) [.str name tk, v] [] _ so.kind so.split isI (so.args (.ref x) (.str name tk) v) ?_)
  have lm : W.Looks (model prog w) hp (mroOf (.ref C)) cd.mro := (W.looks_clsIn X hcd).andThen .now
  have lt : W.Looks (model prog w) hp (storeTaker? none) none := .now
  have lc : W.Looks (model prog w) hp (classData C) cd := W.looks_clsIn X hcd
  rw [W.osa_eq, refuse_eq]
  refine wpAny_bind (wpAny_bind (J.type.at (wpAny_bind (lm.at ?_))))
  rw [refsB_pass hB _ _ hm]
  refine wpAny_pure (wpAny_bind (J.type.at (wpAny_bind ((W.looks_findIn X ha).at (wpAny_bind (lt.at ?_))))))
  show wpAny _ _ (storeInOwnDict (.ref x) (.ref C) (.str name tk) name v false) _ _ _
  obtain ⟨nm, bs, mro, ns, qn, hd, sn, sb, ab, col, del⟩ := cd
  dsimp only at hh
  subst hh
  unfold storeInOwnDict ownDictForStores
  repeat (first | with_reducible refine store_in_new ?_ ?_ | with_reducible refine wpAny_loadPart_at hx ?_ | with_reducible refine lc.at ?_ | wp_step)
  · exact ⟨_, #[], _, (Heap.get?_update_ne _ _ _ _ xs.symm).trans (Heap.get?_push_at rfl rfl), rfl, fun e he => absurd he (by simp), fun _ => rfl⟩
  · intro h' tk' hn' hs
    have hx2 : (hp.push { cls := .type "dict", data := .dict #[] }).get? x = some { cls := .ref C, data := .fields fv } := Heap.get?_push_of_some _ hx
    refine hq h' tk' hp.objs.size (fun b o hb ho => ?_) (Nat.le_refl _) xs.symm ?_ hn'
    · exact (hs.2 b (Nat.ne_of_lt (Heap.lt_size ho))).trans ((Heap.get?_update_ne _ _ _ _ hb).trans (Heap.get?_push_of_some _ ho))
    · exact (hs.2 x xs).trans (Heap.get?_update_self _ hx2 rfl)
end
end GX
end PySem
namespace DL
open PySem PySem.Spec L2 PyProof.Rows
open PySem.GX (BaseB refsB)
/-- what the written part says of an error class with own __init__ -/
structure OexG (K : PySem.W.Frag) (C : Addr) (bmB : List Value) (newId : String) : Prop where
  cls : ∃ nm q N bs bm sn sub ab col dd k0 k1 k2 k3 k5, K.lookup C = some (excClassObj nm q C N bs bm true sn sub ab col dd k0 k1 k2 k3 k5 newId) ∧ refsB bmB bm = true
  sa : PySem.W.findIn K (.ref C) "__setattr__" = some (some (.builtin "object.__setattr__"))
  exC : PySem.W.subIn K (.ref C) (.type "BaseException") = some true
  tyC : PySem.W.typeIn K (.ref C) = some (.type "type")
  kC : PySem.W.keepIn K (.ref C) = true
section
variable {X : Cx} {pins : List (Addr × Obj)} {σ : L2.St} {H : Hp} {s : Shared} {a C dx : Addr} {f : Str} {y : V} {u : Value} {Q : Unit → Shared → Prop} {E : Value → Shared → Prop} {A : Around} {B newId initId : String} {bmB : List Value}
/-- self.f = y, the first one -/
theorem field_new (hB : BaseB B newId initId bmB) (T : OexG X.K C bmB newId) (I : Inv X pins σ H s) (e : H a = some (exo a C none)) (hno : PySem.W.findIn X.K (.ref C) f = some none) (ry : RelV y u)
    (h : ∀ dx s', H dx = none → dx ≠ a → Inv X pins σ (upd (upd H dx (exd dx [(f, y)])) a (exo a C (some dx))) s' → Q () s') : wpAny (model X.prog X.w) A (setAttr (.ref a) f u) Q E s := by
  obtain ⟨nm, q, N, bs, bm, sn, sub, ab, col, dd, k0, k1, k2, k3, k5, hC, hbm⟩ := T.cls
  have hcl : PySem.W.clsIn X.K C = some { name := nm, bases := bs, mro := .ref C :: bm, ns := N, qualname := q, hasDict := true, slotNames := sn, subclasses := sub, abstract := ab, collection := col, hasDel := false } := by
    unfold PySem.W.clsIn
    rw [hC] <;> rfl
  obtain ⟨t1, ho⟩ := exo_at I.hok e
  obtain ⟨hp, g, d, t, os⟩ := s
  refine PySem.W.set_plain I.kIn (ox := { cls := .ref C, dict := none, data := .fields #[.ref t1, .none, .none, .none, .bool false, .none] }) (od := none) ⟨ho, rfl, rfl, trivial⟩ T.sa ?_
  refine PySem.GX.first_field hB I.kIn ho hcl (show refsB bmB (.ref C :: bm) = true from hbm) rfl hno (fun h' tk' dx k dn dne hx hn => ?_)
  have hnd : H dx = none := I.hok.fresh dn
  have nd : ∀ {b : Addr} {o : Obj}, hp.get? b = some o → b ≠ dx := fun {b o} q => Nat.ne_of_lt (Nat.lt_of_lt_of_le (Heap.lt_size q) dn)
  have na : ∀ {b : Addr}, H b = none → b ≠ a := fun {b} n z => by
    rw [z, e] at n
    cases n
  have un : Un X.fs [] H (upd (upd H dx (exd dx [(f, y)])) a (exo a C (some dx))) hp h' := {
    keep := fun b o q n _ _ => k b o (na n) q
    slot := fun b o q n _ _ => ⟨o.slots, k b o (na n) q⟩
    free := fun b o q n _ => by rw [upd_ne (na n), upd_ne (nd q)]; exact n
    there := fun b o q _ => by
      by_cases hb : b = a
      · exact ⟨_, by rw [hb]; exact hx⟩
      · exact ⟨o, k b o hb q⟩
    tups := fun b xs q => by rw [upd_ne (at_ne e q exo_tup), upd_ne (ne_of_none q hnd)]; exact q
    frzs := fun b o v q => by rw [upd_ne (at_ne e q exo_frz), upd_ne (ne_of_none q hnd)]; exact q
    tbls := fun b ps q => ⟨#[], by rw [upd_ne (at_ne e q exo_tbl), upd_ne (ne_of_none q hnd), q]; simp⟩ }
  refine h dx _ hnd dne (I.un (t' := tk') un fun b o q => ?_)
  by_cases hb : b = a
  · subst hb
    rw [upd_same] at q
    cases q
    exact exo_ok hx
  · rw [upd_ne hb] at q
    by_cases hd : b = dx
    · subst hd
      rw [upd_same] at q
      cases q
      exact exd_ok hn (relO_put (fs := []) ry fun g => True.intro)
    · rw [upd_ne hd] at q
      exact (I.hok b o q).stay (fun c v hc z => k c v (by
          rcases hc with hc | hc
          · rw [hc]
            exact hb
          · exact at_ne e hc exo_own) z)
        (fun c hc => by rw [upd_ne (at_ne e hc exo_own), upd_ne (ne_of_none hc hnd)]; exact hc) (fun c xs hc => by rw [upd_ne (at_ne e hc exo_tup), upd_ne (ne_of_none hc hnd)]; exact hc)
/-- B.__init__(self, ..): nothing of it is told -/
theorem base_init {us : List Value} {Q : Value → Shared → Prop} (hB : BaseB B newId initId bmB) (T : OexG X.K C bmB newId) (I : Inv X pins σ H s) (e : H a = some (exo a C none)) (hl : us.length ≤ sizeLine) (h : ∀ s', Inv X pins σ H s' → Q .none s') :
    wpAny (model X.prog X.w) A (call (.builtin initId) (.ref a :: us)) Q E s := by
  obtain ⟨nm, q, N, bs, bm, sn, sub, ab, col, dd, k0, k1, k2, k3, k5, hC, hbm⟩ := T.cls
  obtain ⟨t1, ho⟩ := exo_at I.hok e
  obtain ⟨hp, g, d, t, os⟩ := s
  refine wpAny_call (PySem.HandSPX.init_base hB.F (fun Y => PySem.GX.refsB_has Y bm hbm) (I.kIn _ _ hC) ho hl fun h' t2 k hx => ?_)
  have J := I.write (t' := t) (x := a) (e := a) (o := exo a C none) (by rw [e]; exact True.intro) (.inl rfl) k ⟨_, hx⟩ (exo_ok hx)
  have eu : upd H a (exo a C none) = H := by
    funext b
    by_cases hb : b = a
    · rw [hb, upd_same, e]
    · rw [upd_ne hb]
  rw [eu] at J
  exact h _ J
def rIni (K : PySem.W.Frag) (bmB : List Value) (newId : String) : List V → Hp → VK → Prop := fun xs H Q => ∃ (a C : Addr) (ws : List V), xs = .ref a :: ws ∧ ws.length ≤ 1000 ∧ OexG K C bmB newId ∧ H a = some (exo a C none) ∧ Q .non H
theorem call_ini (hB : BaseB B newId initId bmB) : CallR X (.builtin initId) (rIni X.K bmB newId) := by
  intro pins s σ H xs us Q I r h
  obtain ⟨a, C, ws, rfl, hl, T, ea, q⟩ := h
  cases r with
  | @cons _ u0 _ ur ra rw' =>
    obtain rfl : u0 = Value.ref a := ra
    exact base_init hB T I ea (by rw [← Paired.length rw', sizeLine_eq]; omega) fun s' J => ⟨.non, H, J, rfl, q⟩
end
theorem ty_Overflow : NwS.TyAt "OverflowError" "__init__" "OverflowError.__init__" := ⟨by decide +kernel, by first | rfl | kernel_rfl, fun K => by kernel_rfl, by decide +kernel⟩
end DL
set_option Elab.async false
set_option linter.all false
set_option maxRecDepth 100000
set_option maxHeartbeats 4000000
/-! Zo: raise of an error with one field; its field read where it is caught. -/
namespace DL
open PySem PySem.Spec L2 PyProof.Rows
open PySem.GX (BaseB refsB)
section
variable {X : Cx} {x m : Str} {np apos pos : Pos} {e o : Expr} {es : List Expr} {t : TA} {id : String} {r : List V → Hp → VK → Prop} {C : Addr} {to te : TE} {f : Str} {B newId initId : String} {bmB : List Value}
/-- an own class's inherited built-in method, called by the class -/
theorem pe_ownat {pl : Sem Bool} (hc : CallR X (.builtin id) r) (hga : PySem.W.specialIn X.K (.ref C) "__getattribute__" = some (some (.builtin "type.__getattribute__"))) (hrd : PySem.W.readsIn X.K C (.type "type") = true) (hfi : PySem.W.findCls X.K (.ref C) (.type "type") m = some (.val (.builtin id))) (hhd : PySem.W.handedIn (.builtin id) = true) (hg : Gl X x) (hm : X.mg x = some (.ref C)) (ha : PA X (e :: es) t) (hdb : (x == ("__debug__" : PySem.Str)) = false)
    (he : starEach (e :: es) X.env = (false, eval e X.env) :: starEach es X.env) (hpl : (backTo pos (starEach es X.env)).any (·.1) = false)
    (ht : eval (.Call (.Attribute (.Name x np) m apos) (e :: es) [] pos) X.env = (do
      let ov ← eval (.Name x np) X.env
      standAt apos.atName
      let (f, first) ← holding [ov] (getMethod ov m pl)
      callWith pos f first (backTo pos (starEach (e :: es) X.env)) (backToKw pos (keywordEach [] X.env)))) :
    PE X (.Call (.Attribute (.Name x np) m apos) (e :: es) [] pos) (tCB r t) := by
  refine ⟨fun pins s σ H Q I h => ?_⟩
  refine PySem.W.methodCall_KW (pl := pl) (ld_glob I hg hm ?_ hdb) ht
  refine PySem.W.method_cls I.kIn hga (PySem.W.cls_value I.kIn hrd hfi hhd ?_)
  have I2 : Inv X pins σ H { s with toks := s.toks + 1 } := I.tok _
  exact PyProof.Rows.callWith_builtin1 (thn (ha.run pos pins { s with toks := s.toks + 1 } σ H _ I2 h) fun us s1 ⟨vs, H1, I1, r1, q1⟩ => hc pins s1 σ H1 vs us Q I1 r1 q1) he hpl
/-- self.f = e, the first one -/
def tOne (K : PySem.W.Frag) (bmB : List Value) (newId : String) (f : Str) (to te : TE) : TS := fun D σ H => te σ H fun y H1 => to σ H1 fun x H2 => ∃ a C : Addr, x = .ref a ∧ OexG K C bmB newId ∧ PySem.W.findIn K (.ref C) f = some none ∧
  H2 a = some (exo a C none) ∧ ∀ dx, H2 dx = none → dx ≠ a → D.nx σ (upd (upd H2 dx (exd dx [(f, y)])) a (exo a C (some dx)))
theorem ps_one (hB : BaseB B newId initId bmB) (ho : PE X o to) (he : PE X e te) (hs : swapsWith e (some (.Attribute o f apos)) pos.line X.env = pure false) : PS X (.Assign [.Attribute o f apos] e pos) (tOne X.K bmB newId f to te) := by
  refine ⟨fun pins s σ H D I h => ?_⟩
  refine plainObj_wpAny_Assign_Attribute (thn (he.run pins s σ H _ I h) fun v s1 ⟨y, H1, I1, r1, q1⟩ => thn (ho.run pins s1 σ H1 _ I1 q1) fun u s2 ⟨x, H2, I2, r2, a, C, ex, T, hno, ea, q⟩ => ?_) hs
  subst ex
  obtain rfl : u = Value.ref a := r2
  exact field_new hB T I2 ea hno r1 fun dx s' n ne J => ⟨σ, _, J, q dx n ne⟩
/-- what an own __init__ with one field does -/
def spIni (C : Addr) (f : Str) : Sp := fun vs H Q _ => ∃ (a : Addr) (v : V), vs = [.ref a, v] ∧ H a = some (exo a C none) ∧ ∀ dx, H dx = none → dx ≠ a → Q .non (upd (upd H dx (exd dx [(f, v)])) a (exo a C (some dx)))
def tIni (K : PySem.W.Frag) (bmB : List Value) (newId : String) (f : Str) : TS := fun D σ H => ∃ (a C : Addr) (v : V), σ[0]? = some (some (.ref a)) ∧ σ[1]? = some (some v) ∧ OexG K C bmB newId ∧ PySem.W.findIn K (.ref C) f = some none ∧ H a = some (exo a C none) ∧ ∀ dx, H dx = none → dx ≠ a → D.nx σ (upd (upd H dx (exd dx [(f, v)])) a (exo a C (some dx)))
theorem ini_body {xs xa : Str} {c : Expr} {p1 p2 p3 : Pos} {mm : Str} (hB : BaseB B newId initId bmB) (hc : PE X c (tCB (rIni X.K bmB newId) (tCons (tVar 0) (tCons (tC (.str mm)) tNil)))) (hsw : swapsWith c none p1.line X.env = pure false) (h0 : X.N[0]? = some xs) (h1 : X.N[1]? = some xa) (v0 : Vis X.env.scope xs) (v1 : Vis X.env.scope xa)
    (d0 : (xs == ("__debug__" : Str)) = false) (c0 : (xs == ("__classdict__" : Str)) = false) (d1 : (xa == ("__debug__" : Str)) = false) (c1 : (xa == ("__classdict__" : Str)) = false) (hs : swapsWith (.Name xa p3) (some (.Attribute (.Name xs p2) f apos)) pos.line X.env = pure false) :
    PSs X [.Expr c p1, .Assign [.Attribute (.Name xs p2) f apos] (.Name xa p3) pos] (tIni X.K bmB newId f) := by
  refine pssM (pss_cons (ps_expr hc hsw) (pss_one (ps_one hB (pe_var h0 v0 d0 c0) (pe_var h1 v1 d1 c1) hs))) ?_
  rintro D σ H ⟨a, C, v, e0, e1, T, hno, ea, q⟩
  exact ⟨_, e0, ⟨a, C, [.str mm], rfl, by simp, T, ea, v, e1, _, e0, a, C, rfl, T, hno, ea, q⟩⟩
theorem ini_ok {P : Program} {w : World} {K : PySem.W.Frag} {mg : Str → Option Value} {base : Heap} {qual : Str} {params : Arguments} {body : List Stmt} {scope : Scope} {fI C : Addr} {fd : FuncData} {xs xa : Str} (T : OexG K C bmB newId) (hno : PySem.W.findIn K (.ref C) f = some none) (Fd : FunD K "__init__" qual params body scope [] [] fI fd) (Sc : FnScope [xs, xa] [xs, xa] scope)
    (hb : ∀ (cdv : Value) (A : Around) (outer : List PySem.Env) (s : Shared) (H : Hp) (E : XK), PSs (cxOf (L2.CX P w) P w K mg base [xs, xa] qual scope fI cdv A outer s H E) body (tIni K bmB newId f)) : FnOk P w K mg base (L2.CX P w) 1 fI fd [xs, xa] (spIni C f) := by
  refine Fd.ok Sc (fun vs H Q E h => ?_) (fun cdv A outer s H vs Q E hr h => ⟨_, hb cdv A outer s H E, ?_⟩)
  · obtain ⟨a, v, rfl, _⟩ := h
    rfl
  · obtain ⟨a, v, rfl, ea, q⟩ := h
    exact ⟨a, C, v, rfl, rfl, T, hno, ea, q⟩
/-- an error class, by its name -/
def ErrF (P : Program) (w : World) (K : PySem.W.Frag) (mg : Str → Option Value) (base : Heap) (x : Str) (C : Addr) (f : Str) : Prop :=
  ∃ (B newId initId : String) (bmB : List Value) (fI : Addr) (fd : FuncData) (ps : List Str), BaseB B newId initId bmB ∧ OexG K C bmB newId ∧ mg x = some (.ref C) ∧ PySem.W.findIn K (.ref C) "__init__" = some (some (.ref fI)) ∧ PySem.W.typeIn K (.ref fI) = some (.type "function") ∧ FnOk P w K mg base (L2.CX P w) 1 fI fd ps (spIni C f) ∧ Binds K fd ps []
/-- C(e), C's own __init__ keeping the one field -/
def tMk1 (C : Addr) (f : Str) (te : TE) : L2.St → Hp → XK → Prop := fun σ H Q => te σ H fun v H1 => ∀ d, H1 d = none → Q (.ref C) (some d) (upd H1 d (.xd [(f, v)]))
def oneV (C : Addr) (f : Str) (Q : XK) : List V → Hp → Prop
  | [v], H1 => ∀ d, H1 d = none → Q (.ref C) (some d) (upd H1 d (.xd [(f, v)]))
  | _, _ => False
theorem oneV_of {C : Addr} {f : Str} {Q : XK} {vs : List V} {H1 : Hp} (h : oneV C f Q vs H1) : ∃ v, vs = [v] ∧ ∀ d, H1 d = none → Q (.ref C) (some d) (upd H1 d (.xd [(f, v)])) := by
  match vs, h with
  | [v], h => exact ⟨v, rfl, h⟩
  | [], h => exact h.elim
  | _ :: _ :: _, h => exact h.elim
theorem pmk_one {p : Pos} (R : ErrF X.prog X.w X.K X.mg X.base x C f) (hr : Room 2 X.A) (hg : Gl X x) (ha : PE X e te) (hdb : (x == ("__debug__" : Str)) = false)
    (he : starEach [e] X.env = (false, eval e X.env) :: starEach [] X.env) (hpl : (backTo pos (starEach [] X.env)).any (·.1) = false) :
    PMk X (.Call (.Name x p) [e] [] pos) (tMk1 C f te) := by
  obtain ⟨B, newId, initId, bmB, fI, fd, ps, hB, T, hm, iC, tI, F1, hb⟩ := R
  intro pins s σ H Q I h
  obtain ⟨nm, q, N, bs, bm, sn, sub, ab, col, dd, k0, k1, k2, k3, k5, hC, hbm⟩ := T.cls
  refine wpAny_Call_Name_kw (ld_glob I hg hm ?_ hdb)
  have hPA : PA X [e] (tCons te tNil) := pa_cons ha pa_nil he
  refine PySem.W.callWith_K (h₀ := X.base) I.ok.mod.kin T.kC (thn (hPA.run pos pins s σ H (oneV C f Q) I h) fun us s1 ⟨vs, H1, I1, r1, q0⟩ => ⟨I1.kIn, ?_⟩) he hpl
  obtain ⟨v, rfl, q1⟩ := oneV_of q0
  show wpAny _ _ (call (.ref C) us) _ _ _
  obtain ⟨hp, g, dr, tk, os⟩ := s1
  have hsz : hp.objs.size ≤ hp.objs.size + 1 := Nat.le_succ _
  have hn : H1 (hp.objs.size + 1) = none := I1.hok.fresh hsz
  have kk : ∀ b o, hp.get? b = some o → ((hp.push (PySem.W.kdv_tup us)).push (PySem.HandSPX.excO C hp.objs.size)).get? b = some o := fun b o e => Heap.get?_push_of_some _ (Heap.get?_push_of_some _ e)
  have hget : ((hp.push (PySem.W.kdv_tup us)).push (PySem.HandSPX.excO C hp.objs.size)).get? (hp.objs.size + 1) = some (PySem.HandSPX.excO C hp.objs.size) := by heap_get
  have I2 : Inv X pins σ (upd H1 (hp.objs.size + 1) (exo (hp.objs.size + 1) C none)) ⟨(hp.push (PySem.W.kdv_tup us)).push (PySem.HandSPX.excO C hp.objs.size), g, dr, tk, os⟩ :=
    I1.laid (t' := tk) (a := hp.objs.size + 1) (o := exo (hp.objs.size + 1) C none) (h' := (hp.push (PySem.W.kdv_tup us)).push (PySem.HandSPX.excO C hp.objs.size)) kk hsz (exo_ok hget)
  generalize hae : hp.objs.size + 1 = a at hsz hn hget I2
  have r2 : Vals (V.ref a :: [v]) (Value.ref a :: us) := .cons rfl r1
  have hq : spIni C f [.ref a, v] (upd H1 a (exo a C none)) (fun v2 H2 => v2 = .non ∧ ∃ dx, H1 dx = none ∧ dx ≠ a ∧ H2 = upd (upd (upd H1 a (exo a C none)) dx (exd dx [(f, v)])) a (exo a C (some dx))) (fun _ _ _ => False) := by
    refine ⟨a, v, rfl, upd_same, fun dx hdx hne => ⟨rfl, dx, ?_, hne, rfl⟩⟩
    rw [upd_ne hne] at hdx; exact hdx
  have hl : (Value.ref a :: us ++ []).length = ps.length := by
    have e := r2.length
    rw [F1.len _ _ _ _ hq] at e
    rw [List.append_nil]
    exact e.symm
  have hus : us.length ≤ sizeLine := by
    rw [← Paired.length r1, sizeLine_eq]
    simp
  have hbb := hb _ (Value.ref a :: us) I2.kIn hl
  rw [List.append_nil] at hbb
  refine wpAny_call (PySem.HandSPX.call_own hB.F (fun Y => PySem.GX.refsB_has Y bm hbm) (I1.kIn _ _ hC) (PySem.W.looks_findIn I1.kIn iC) (fun self => PySem.W.bind_fn I1.kIn self tI) hus ?_)
  rw [hae]
  refine codeAny_mono (F1.run _ X.stack _ _ ⟨Value.ref a :: us, []⟩ (Value.ref a :: us) _ _ (fun _ _ _ => False) (hr.make C us []) (I2.env0.make C us []) hbb r2 hq) fun r s' hq' => ?_
  cases r with
  | error er =>
    obtain ⟨_, _, _, _, _, _, _, _, _, _, _, _, z⟩ := hq'
    exact z.elim
  | ok fl =>
    cases fl with
    | ret u =>
      obtain ⟨v2, H2, os2, bare2, un2, hok2, rv, ev, dx, hd1, hne, eH2⟩ := hq'
      subst ev
      obtain ⟨h2, g2, d2, t2, os'⟩ := s'
      have ea : H2 a = some (exo a C (some dx)) := by rw [eH2, upd_same]
      have ed : H2 dx = some (exd dx [(f, v)]) := by rw [eH2, upd_ne hne, upd_same]
      have eE : upd (del H2 a) dx (.xd [(f, v)]) = upd H1 dx (.xd [(f, v)]) := by
        funext b
        by_cases hb : b = dx
        · rw [hb, upd_same, upd_same]
        · rw [upd_ne hb, upd_ne hb]
          by_cases hba : b = a
          · rw [hba, del_same, hn]
          · rw [del_ne hba, eH2, upd_ne hba, upd_ne hb, upd_ne hba]
      refine ⟨rv, mk_end (raises_own T.exC T.tyC) I1 hsz kk un2 hok2 os2 bare2 ea ed hd1 ?_⟩
      rw [eE]
      exact q1 dx hd1
    | next => exact False.elim hq'
    | brk => exact False.elim hq'
    | cont => exact False.elim hq'
end
end DL
set_option Elab.async false
set_option linter.all false
set_option maxRecDepth 100000
set_option maxHeartbeats 4000000
/-! Zp: raise C(e) and e.f over data; what the head must say of such classes. -/
namespace DL
open PySem PySem.Spec L2 PyProof.Rows
open PySem.GX (BaseB refsB)
/-- raise C(e): the field i holds what e is -/
def sRaiseF (c i : Nat) (a : Me) : Ms := fun ρ S => (a ρ S).toS ρ fun w S => if (derefF S w).nl then .exc (.own c [(i, derefF S w)]) ρ S else .bad
/-- the field i of a caught error -/
def mXf (hit : Nat → Option Bool) (i : Nat) (p : Me) : Me := fun ρ S => (p ρ S).bind fun x S => match x with
  | .opq k fs => match hit k with
    | some true => optR S (lookF i fs)
    | _ => .bad
  | _ => .bad
section
variable {X : Cx} {T : Tab} {E : WX} {a : Expr} {p : Me}
theorem s_raiseF {c i k : Nat} {x : Str} {pp pos pos' : Pos} {fn : Str} (hc : X.calm = true) (tk : Takes X E) (R : ErrF X.prog X.w X.K X.mg X.base x (T.c c) fn) (hfn : T.f i = fn) (hi : i < T.fld.length) (hr : Room k X.A) (hk : 2 ≤ k) (hg : Gl X x) (ha : PE X a (tW T X.K E p)) (hdb : (x == ("__debug__" : Str)) = false)
    (he : starEach [a] X.env = (false, eval a X.env) :: starEach [] X.env) (hpl : (backTo pos (starEach [] X.env)).any (·.1) = false) :
    PS X (.Raise (some (.Call (.Name x pp) [a] [] pos)) none pos') (tS T X.K E (sRaiseF c i p)) := by
  subst hfn
  refine psM (ps_raise hc tk (pmk_one R (hr.mono hk) hg ha hdb he hpl)) ?_
  rintro D σ H ⟨F, al, S, ρ, g, e, h⟩
  refine (tW.toS g e h).imp fun v H1 ⟨F1, al1, S1, w, m, r, h1⟩ => ?_
  split at h1
  case isFalse => exact h1.elim
  rename_i hnl
  intro d hd
  obtain ⟨g2, p2⟩ := m.g.newF hd (.xd [(T.f i, v)])
  exact h1 (.ref (T.c c)) (some d) σ _ al1 _ p2 g2 (m.e.post p2) ⟨rfl, .inr ⟨by simp, d, _, rfl, upd_same, .cons hi ((r.derefF m.g).post p2) .nil⟩⟩
end
/-! ### tests -/
def isRefA (o : Option (Option Value)) (f : Addr) : Bool := match o with
  | some (some (.ref g)) => g == f
  | _ => false
theorem isRefA_ok {o : Option (Option Value)} {f : Addr} (h : isRefA o f = true) : o = some (some (.ref f)) := by
  unfold isRefA at h
  split at h
  · rw [beq_iff_eq.mp h]
  · cases h
def isTypS (o : Option Value) (s : String) : Bool := match o with
  | some (.type t) => t == s
  | _ => false
theorem isTypS_ok {o : Option Value} {s : String} (h : isTypS o s = true) : o = some (.type s) := by
  unfold isTypS at h
  split at h
  · rw [beq_iff_eq.mp h]
  · cases h
def oexGB (K : PySem.W.Frag) (C : Addr) (bmB : List Value) (newId : String) : Bool := (match K.lookup C with
  | some ⟨.type "type", _, .cls cd, sl⟩ => (match cd.mro, sl.toList with
    | .ref C' :: bm, [_, _, _, _, some (.builtin n), _] => C' == C && n == newId && !cd.hasDel && cd.hasDict && refsB bmB bm
    | _, _ => false)
  | _ => false) && isBlt (PySem.W.findIn K (.ref C) "__setattr__") "object.__setattr__" && isYes (PySem.W.subIn K (.ref C) (.type "BaseException")) true && isTyp (PySem.W.typeIn K (.ref C)) && PySem.W.keepIn K (.ref C)
theorem oexGB_ok {K : PySem.W.Frag} {C : Addr} {bmB : List Value} {newId : String} (h : oexGB K C bmB newId = true) : OexG K C bmB newId := by
  unfold oexGB at h
  simp only [Bool.and_eq_true] at h
  obtain ⟨⟨⟨⟨q, h2⟩, h3⟩, h4⟩, h5⟩ := h
  refine ⟨?_, isBlt_ok h2, isYes_ok h3, isTyp_ok h4, h5⟩
  split at q
  · rename_i dd cd sl ho
    split at q
    · rename_i C' bm k0 k1 k2 k3 n k5 hm hs
      simp only [Bool.and_eq_true, beq_iff_eq, Bool.not_eq_true'] at q
      obtain ⟨⟨⟨⟨rfl, rfl⟩, hdel⟩, hd⟩, hr⟩ := q
      obtain ⟨nm, bs, mro, ns, qn, hd', sn, sub, ab, col, del⟩ := cd
      dsimp only at hm hdel hd
      subst hm hdel hd
      have hsl : sl = #[k0, k1, k2, k3, some (.builtin n), k5] := by
        obtain ⟨l⟩ := sl
        simp only at hs
        rw [hs]
      subst hsl
      exact ⟨_, _, _, _, _, _, _, _, _, _, _, _, _, _, _, ho, hr⟩
    · cases q
  · cases q
def errB (K : PySem.W.Frag) (C : Addr) (f : Str) (fI : Addr) : Bool := isRefA (PySem.W.findIn K (.ref C) "__init__") fI && isTypS (PySem.W.typeIn K (.ref fI)) "function" && isAbs (PySem.W.findIn K (.ref C) f)
theorem errF_mk {P : Program} {w : World} {K : PySem.W.Frag} {mg : Str → Option Value} {base : Heap} {x f : Str} {C fI : Addr} {B newId initId : String} {bmB : List Value} {fd : FuncData} {ps : List Str} (hB : BaseB B newId initId bmB) (h1 : oexGB K C bmB newId = true) (h2 : errB K C f fI = true) (hm : mg x = some (.ref C)) (F : FnOk P w K mg base (L2.CX P w) 1 fI fd ps (spIni C f)) (hb : Binds K fd ps []) : ErrF P w K mg base x C f := by
  unfold errB at h2
  simp only [Bool.and_eq_true] at h2
  exact ⟨B, newId, initId, bmB, fI, fd, ps, hB, oexGB_ok h1, hm, isRefA_ok h2.1.1, isTypS_ok h2.1.2, F, hb⟩
theorem errB_no {K : PySem.W.Frag} {C fI : Addr} {f : Str} (h : errB K C f fI = true) : PySem.W.findIn K (.ref C) f = some none := by
  unfold errB at h
  simp only [Bool.and_eq_true] at h
  exact isAbs_ok h.2
/-- an own class's inherited built-in method -/
def ownAtB (K : PySem.W.Frag) (C : Addr) (m : Str) (id : String) : Bool := isBlt (PySem.W.specialIn K (.ref C) "__getattribute__") "type.__getattribute__" && PySem.W.readsIn K C (.type "type") && (match PySem.W.findCls K (.ref C) (.type "type") m with
  | some (.val (.builtin s)) => s == id
  | _ => false)
theorem ownAtB_ok {K : PySem.W.Frag} {C : Addr} {m : Str} {id : String} (h : ownAtB K C m id = true) : PySem.W.specialIn K (.ref C) "__getattribute__" = some (some (.builtin "type.__getattribute__")) ∧ PySem.W.readsIn K C (.type "type") = true ∧ PySem.W.findCls K (.ref C) (.type "type") m = some (.val (.builtin id)) := by
  unfold ownAtB at h
  simp only [Bool.and_eq_true] at h
  obtain ⟨⟨h1, h2⟩, h3⟩ := h
  refine ⟨isBlt_ok h1, h2, ?_⟩
  split at h3
  · rename_i s e
    rw [e, beq_iff_eq.mp h3]
  · cases h3
end DL
set_option Elab.async false
set_option linter.all false
set_option maxRecDepth 100000
set_option maxHeartbeats 4000000
/-! PLib: the program's defs and the laws' common defs as functions on data, printed by mklib.py. -/
namespace DL
open PySem PySem.Spec L2
def flds : List Str := ["wheels", "rules", "states", "deeds", "begin", "length", "at", "rule", "wheel", "place", "beats", "out", "tally", "of_book", "stand", "past", "book", "watch", "sightings"]
theorem fldN0 : flds.Nodup := by decide +kernel
def clsL (K : PySem.W.Frag) : List Addr := [He.ga K "Book", He.ga K "Track", He.ga K "Watch", He.ga K "Desk", He.ga K "NoBook", He.ga K "NoSeen", He.ga K "NoText", He.ga K "NoRule", He.ga K "NoWheel", He.ga K "NoPlace", He.ga K "NoBeat", He.ga K "HushError", He.ga K "NoState", He.ga K "NoOrder", He.ga K "NoOff", He.ga K "NoWish", He.ga K "NoSaying", He.ga K "Unlike", He.ga K "Nothing", He.ga K "Stand"]
def tab (P : Program) (w : World) (K : PySem.W.Frag) : Tab := ⟨flds, clsL K, P, w, fun _ _ _ => False, none, [(tblOfA K (He.fAd K ("law", none)), ((("law" : Str) ++ (".<locals>." : Str)) ++ ("<lambda>" : Str)))], [He.fAd K ("worded_in", none), He.fAd K ("hush_in", none), He.fAd K ("figures_in", none), He.fAd K ("say_hush", none), He.fAd K ("say_wake", none), He.fAd K ("say_turn", none), He.fAd K ("say_put", none), He.fAd K ("say_off", none), He.fAd K ("say_on", none), He.fAd K ("say_undo", none), He.fAd K ("say_go", none), He.fAd K ("say_state", none), He.fAd K ("say_beat", none), He.fAd K ("say_counts", none), He.fAd K ("say_at", none), He.fAd K ("say_round", none), He.fAd K ("say_quiet", none), He.fAd K ("say_times", none), He.fAd K ("say_nth", none), He.fAd K ("say_never", none), He.fAd K ("say_order", none), He.fAd K ("say_forget", none), He.fAd K ("say_began", none), He.fAd K ("say_clash", none)]⟩
theorem fldN {P : Program} {w : World} {K : PySem.W.Frag} : (tab P w K).fld.Nodup := fldN0
def f__law_bag : Fn := fnW 2 5 (sSeq (sAsg (.nm 2) (mCon (.int 0))) (sSeq (sIf (bTest (mCmp .Lt (mVar 1) (mPrim .len (mCons (mVar 0) (mNil))))) (sSeq (sAsg (.nm 2) (mIdx (mVar 0) (mVar 1))) (sNext)) (sNext)) (sSeq (sAsg (.nm 3) (mCon (.int 0))) (sSeq (sIf (bTest (mCmp .GtE (mPrim .abs (mCons (mVar 2) (mNil))) (mBin .Pow (mCon (.int 10)) (mCon (.int 18))))) (sSeq (sAsg (.nm 3) (mPrim .abs (mCons (mVar 2) (mNil)))) (sNext)) (sNext)) (sSeq (sAsg (.nm 4) (mLst (mCons (mCon (.int 2147483629)) (mCons (mCon (.int 2147483587)) (mCons (mCon (.int 2147483579)) (mCons (mCon (.int 2147483563)) (mCons (mCon (.int 2147483549)) (mCons (mCon (.int 2147483543)) (mCons (mCon (.int 2147483497)) (mCons (mCon (.int 2147483489)) (mNil))))))))))) (sSeq (sRet (mNLst (mCons (mVar 3) (mCons (mBin .Mod (mBin .Pow (mBin .Add (mBin .Add (mBin .Mod (mVar 2) (mCon (.int 2147483647))) (mBin .Mult (mCon (.int 104729)) (mVar 1))) (mCon (.int 7))) (mCon (.int 5))) (mIdx (mVar 4) (mBin .Mod (mVar 1) (mCon (.int 8))))) (mCons (mCon (.int 0)) (mNil)))))) (sNext)))))))
def f__law_take : Fn := fnW 2 3 (sSeq (sIf (bTest (mCmp .Gt (mIdx (mVar 0) (mCon (.int 0))) (mCon (.int 0)))) (sSeq (sAsg (.nm 2) (mBin .Mod (mIdx (mVar 0) (mCon (.int 0))) (mVar 1))) (sSeq (sSetIx (mVar 0) (mCon (.int 0)) (mBin .FloorDiv (mIdx (mVar 0) (mCon (.int 0))) (mVar 1))) (sSeq (sRet (mVar 2)) (sNext)))) (sNext)) (sSeq (sSetIx (mVar 0) (mCon (.int 2)) (mBin .Add (mIdx (mVar 0) (mCon (.int 2))) (mCon (.int 1)))) (sSeq (sSetIx (mVar 0) (mCon (.int 1)) (mBin .Mod (mBin .Add (mBin .Add (mBin .Mult (mIdx (mVar 0) (mCon (.int 1))) (mCon (.int 48271))) (mBin .Mult (mBin .Mult (mCon (.int 7919)) (mIdx (mVar 0) (mCon (.int 2)))) (mIdx (mVar 0) (mCon (.int 2))))) (mCon (.int 11))) (mCon (.int 2147483647)))) (sSeq (sRet (mBin .Mod (mBin .Mod (mBin .Pow (mBin .FloorDiv (mIdx (mVar 0) (mCon (.int 1))) (mCon (.int 8))) (mCon (.int 3))) (mCon (.int 2147483629))) (mVar 1))) (sNext)))))
def f__law_condition : Fn := fnW 3 5 (sSeq (sAsg (.nm 3) (mIdx (mTup (mCons (mCon (.str "is")) (mCons (mCon (.str "is")) (mCons (mCon (.str "not")) (mCons (mCon (.str "below")) (mCons (mCon (.str "hushed")) (mCons (mCon (.str "awake")) (mNil)))))))) (mCall f__law_take (mCons (mVar 0) (mCons (mCon (.int 6)) (mNil)))))) (sSeq (sIf (bTest (mCmp .In (mVar 3) (mTup (mCons (mCon (.str "hushed")) (mCons (mCon (.str "awake")) (mNil)))))) (sSeq (sRet (mTup (mCons (mVar 3) (mCons (mCall f__law_take (mCons (mVar 0) (mCons (mVar 2) (mNil)))) (mNil))))) (sNext)) (sNext)) (sSeq (sAsg (.nm 4) (mCall f__law_take (mCons (mVar 0) (mCons (mPrim .len (mCons (mVar 1) (mNil))) (mNil))))) (sSeq (sRet (mTup (mCons (mVar 3) (mCons (mVar 4) (mCons (mCall f__law_take (mCons (mVar 0) (mCons (mIdx (mVar 1) (mVar 4)) (mNil)))) (mNil)))))) (sNext)))))
def f__law_change : Fn := fnW 2 3 (sSeq (sAsg (.nm 2) (mCall f__law_take (mCons (mVar 0) (mCons (mPrim .len (mCons (mVar 1) (mNil))) (mNil))))) (sSeq (sRet (mTup (mCons (mIdx (mTup (mCons (mCon (.str "turn")) (mCons (mCon (.str "turn")) (mCons (mCon (.str "put")) (mNil))))) (mCall f__law_take (mCons (mVar 0) (mCons (mCon (.int 3)) (mNil))))) (mCons (mVar 2) (mCons (mCall f__law_take (mCons (mVar 0) (mCons (mIdx (mVar 1) (mVar 2)) (mNil)))) (mNil)))))) (sNext)))
def b__law_rule_1 : Ms := sSeq (sAsg (.nm 8) (mCall f__law_take (mCons (mVar 0) (mCons (mCon (.int 5)) (mNil))))) (sSeq (sIf (bTest (mCmp .Eq (mVar 8) (mCon (.int 0)))) (sSeq (sExpr (mApp (mVar 5) (mTup (mCons (mVar 7) (mCons (mBin .Add (mCon (.int 1)) (mCall f__law_take (mCons (mVar 0) (mCons (mCon (.int 3)) (mNil))))) (mNil)))))) (sNext)) (sNext)) (sSeq (sIf (bTest (mCmp .Eq (mVar 8) (mCon (.int 1)))) (sSeq (sExpr (mApp (mVar 6) (mVar 7))) (sNext)) (sNext)) (sNext)))
def f__law_rule : Fn := fnW 3 10 (sSeq (sAsg (.nm 3) (mLc false [9] (.nm 9) (jRange1 (mIdx (mTup (mCons (mCon (.int 1)) (mCons (mCon (.int 1)) (mCons (mCon (.int 0)) (mCons (mCon (.int 2)) (mCons (mCon (.int 3)) (mCons (mCon (.int 4)) (mNil)))))))) (mCall f__law_take (mCons (mVar 0) (mCons (mCon (.int 6)) (mNil)))))) (bYes) (mCall f__law_condition (mCons (mVar 0) (mCons (mVar 1) (mCons (mVar 2) (mNil))))))) (sSeq (sAsg (.nm 4) (mLc false [9] (.nm 9) (jRange1 (mIdx (mTup (mCons (mCon (.int 1)) (mCons (mCon (.int 1)) (mCons (mCon (.int 2)) (mCons (mCon (.int 0)) (mCons (mCon (.int 3)) (mNil))))))) (mCall f__law_take (mCons (mVar 0) (mCons (mCon (.int 5)) (mNil)))))) (bYes) (mCall f__law_change (mCons (mVar 0) (mCons (mVar 1) (mNil)))))) (sSeq (sPar [5, 6] (mCons (mNLst (mNil)) (mCons (mNLst (mNil)) (mNil)))) (sSeq (sFor (jRange1 (mVar 2)) (.nm 7) (b__law_rule_1)) (sSeq (sRet (mTup (mCons (mPrim .tuple (mCons (mVar 3) (mNil))) (mCons (mPrim .tuple (mCons (mVar 4) (mNil))) (mCons (mPrim .tuple (mCons (mVar 5) (mNil))) (mCons (mPrim .tuple (mCons (mVar 6) (mNil))) (mNil))))))) (sNext))))))
def f__law_any : Fn := fnW 1 2 (sSeq (sAsg (.nm 1) (mLst (mCons (mCon .non) (mCons (mCon (.bl true)) (mCons (mCon (.bl false)) (mCons (mCon (.int 0)) (mCons (mCon (.int 1)) (mCons (mNeg (mCon (.int 1))) (mCons (mCon (.int 2)) (mCons (mCon (.int 5)) (mCons (mBin .Pow (mCon (.int 10)) (mCon (.int 60))) (mCons (mCon (.str "")) (mCons (mCon (.str "is")) (mCons (mCon (.str "0")) (mCons (mCon (.str "free")) (mCons (mLst (mNil)) (mCons (mTup (mNil)) (mCons (mLst (mCons (mCon (.int 0)) (mNil))) (mCons (mTup (mCons (mCon (.int 0)) (mNil))) (mCons (mTup (mCons (mCon (.int 0)) (mCons (mCon (.int 0)) (mNil)))) (mCons (mTup (mCons (mCon (.int 1)) (mCons (mCon (.int 0)) (mNil)))) (mNil)))))))))))))))))))))) (sSeq (sAsg (.nm 1) (mBin .Add (mVar 1) (mLst (mCons (mTup (mCons (mCon (.int 0)) (mCons (mCon (.int 1)) (mCons (mCon (.int 2)) (mNil))))) (mCons (mTup (mCons (mTup (mNil)) (mCons (mTup (mNil)) (mNil)))) (mCons (mTup (mCons (mTup (mCons (mCon (.int 0)) (mNil))) (mCons (mTup (mCons (mCon (.int 0)) (mNil))) (mNil)))) (mCons (mLst (mCons (mTup (mCons (mCon (.int 0)) (mNil))) (mCons (mTup (mCons (mCon (.int 0)) (mNil))) (mNil)))) (mCons (mTup (mCons (mCon (.int 0)) (mCons (mCon (.bl true)) (mNil)))) (mCons (mTup (mCons (mCon (.str "is")) (mCons (mCon (.int 0)) (mCons (mCon (.int 0)) (mNil))))) (mCons (mTup (mCons (mCon (.str "hushed")) (mCons (mCon (.int 0)) (mNil)))) (mNil))))))))))) (sSeq (sRet (mIdx (mBin .Add (mVar 1) (mLst (mCons (mTup (mCons (mCon .non) (mCons (mLst (mCons (mCon (.int 1)) (mCons (mTup (mNil)) (mNil)))) (mNil)))) (mNil)))) (mCall f__law_take (mCons (mVar 0) (mCons (mCon (.int 27)) (mNil)))))) (sNext))))
def r__law_spoilt (psi : Fn) : Fn := fnW 2 4 (sSeq (sIf (bOr (bNot (bTest (mIsi .tuple (mVar 1)))) (bOr (bTest (mCmp .Eq (mVar 1) (mTup (mNil)))) (bTest (mCmp .Eq (mCall f__law_take (mCons (mVar 0) (mCons (mCon (.int 6)) (mNil)))) (mCon (.int 0)))))) (sSeq (sAsg (.nm 2) (mCall f__law_take (mCons (mVar 0) (mCons (mCon (.int 4)) (mNil))))) (sSeq (sIf (bAnd (bTest (mCmp .Eq (mVar 2) (mCon (.int 0)))) (bTest (mIsi .int (mVar 1)))) (sSeq (sRet (mBin .Add (mVar 1) (mIdx (mTup (mCons (mCon (.int 1)) (mCons (mNeg (mCon (.int 1))) (mCons (mCon (.int 4)) (mCons (mNeg (mCon (.int 5))) (mNil)))))) (mCall f__law_take (mCons (mVar 0) (mCons (mCon (.int 4)) (mNil))))))) (sNext)) (sNext)) (sSeq (sIf (bAnd (bTest (mCmp .Eq (mVar 2) (mCon (.int 1)))) (bTest (mIsi .str (mVar 1)))) (sSeq (sRet (mIdx (mTup (mCons (mCon (.str "is")) (mCons (mCon (.str "not")) (mCons (mCon (.str "below")) (mCons (mCon (.str "hushed")) (mCons (mCon (.str "awake")) (mCons (mCon (.str "put")) (mCons (mCon (.str "turn")) (mCons (mCon (.str "Is")) (mCons (mCon (.str "")) (mNil))))))))))) (mCall f__law_take (mCons (mVar 0) (mCons (mCon (.int 9)) (mNil)))))) (sNext)) (sNext)) (sSeq (sRet (mCall f__law_any (mCons (mVar 0) (mNil)))) (sNext))))) (sNext)) (sSeq (sPar [2, 3] (mCons (mCall f__law_take (mCons (mVar 0) (mCons (mCon (.int 9)) (mNil)))) (mCons (mCall f__law_take (mCons (mVar 0) (mCons (mPrim .len (mCons (mVar 1) (mNil))) (mNil)))) (mNil)))) (sSeq (sIf (bTest (mCmp .Eq (mVar 2) (mCon (.int 0)))) (sSeq (sRet (mBin .Add (mSlc (mVar 1) (mCon .non) (mPart (mVar 3))) (mSlc (mVar 1) (mPart (mBin .Add (mVar 3) (mCon (.int 1)))) (mCon .non)))) (sNext)) (sNext)) (sSeq (sIf (bTest (mCmp .Eq (mVar 2) (mCon (.int 1)))) (sSeq (sRet (mBin .Add (mBin .Add (mSlc (mVar 1) (mCon .non) (mPart (mVar 3))) (mTup (mCons (mIdx (mVar 1) (mVar 3)) (mNil)))) (mSlc (mVar 1) (mPart (mVar 3)) (mCon .non)))) (sNext)) (sNext)) (sSeq (sIf (bTest (mCmp .Eq (mVar 2) (mCon (.int 2)))) (sSeq (sRet (mIdx (mLst (mCons (mPrim .list (mCons (mVar 1) (mNil))) (mCons (mRevT (mVar 1)) (mCons (mBin .Add (mVar 1) (mTup (mCons (mCall f__law_any (mCons (mVar 0) (mNil))) (mNil)))) (mNil))))) (mCall f__law_take (mCons (mVar 0) (mCons (mCon (.int 3)) (mNil)))))) (sNext)) (sNext)) (sSeq (sIf (bTest (mCmp .Eq (mVar 2) (mCon (.int 3)))) (sSeq (sRet (mBin .Add (mBin .Add (mSlc (mVar 1) (mCon .non) (mPart (mVar 3))) (mTup (mCons (mIdx (mVar 1) (mBin .Sub (mVar 3) (mCon (.int 1)))) (mNil)))) (mSlc (mVar 1) (mPart (mBin .Add (mVar 3) (mCon (.int 1)))) (mCon .non)))) (sNext)) (sNext)) (sSeq (sRet (mBin .Add (mBin .Add (mSlc (mVar 1) (mCon .non) (mPart (mVar 3))) (mTup (mCons (mCall psi (mCons (mVar 0) (mCons (mIdx (mVar 1) (mVar 3)) (mNil)))) (mNil)))) (mSlc (mVar 1) (mPart (mBin .Add (mVar 3) (mCon (.int 1)))) (mCon .non)))) (sNext))))))))
def y__law_spoilt : Nat → Fn := fun m => m.rec (fun _ _ => .bad) fun _ psi => r__law_spoilt psi
def f__law_spoilt : Fn := y__law_spoilt 6
def f_is_row : Fn := fnW 2 2 (sSeq (sRet (mAnd (mIsi .tuple (mVar 0)) (mCmp .LtE (mPrim .len (mCons (mVar 0) (mNil))) (mVar 1)))) (sNext))
def b_how_many_1 : Ms := sSeq (sAug .Mult 1 (mVar 2)) (sNext)
def f_how_many : Fn := fnW 1 3 (sSeq (sAsg (.nm 1) (mCon (.int 1))) (sSeq (sFor (jE (mVar 0)) (.nm 2) (b_how_many_1)) (sSeq (sRet (mVar 1)) (sNext))))
def f_is_whole : Fn := fnW 1 1 (sSeq (sRet (mAnd (mIsi .int (mVar 0)) (mNot (mIsi .bool (mVar 0))))) (sNext))
def f_is_from : Fn := fnW 3 3 (sSeq (sRet (mAnd (mCallP f_is_whole (mCons (mVar 0) (mNil))) (mChain .LtE .Lt (mVar 1) (mVar 0) (mVar 2)))) (sNext))
def f_are_wheels : Fn := fnW 1 2 (sSeq (sIf (bOr (bNot (bTest (mCallP f_is_row (mCons (mVar 0) (mCons (mCon (.int 3)) (mNil)))))) (bTest (mCmp .Eq (mVar 0) (mTup (mNil))))) (sSeq (sRet (mCon (.bl false))) (sNext)) (sNext)) (sSeq (sRet (mAnd (mPrim .all (mCons (mLc false [1] (.nm 1) (jE (mVar 0)) (bYes) (mCallP f_is_from (mCons (mVar 1) (mCons (mCon (.int 2)) (mCons (mBin .Add (mCon (.int 4)) (mCon (.int 1))) (mNil)))))) (mNil))) (mCmp .LtE (mCallP f_how_many (mCons (mVar 0) (mNil))) (mCon (.int 24))))) (sNext)))
def f_are_rising : Fn := fnW 1 3 (sSeq (sRet (mPrim .all (mCons (mLc false [1, 2] (.tup [1, 2]) (jZip (mVar 0) (mSlc (mVar 0) (mPart (mCon (.int 1))) (mCon .non))) (bYes) (mCmp .Lt (mVar 1) (mVar 2))) (mNil)))) (sNext))
def f_is_hush : Fn := fnW 2 2 (sSeq (sIf (bOr (bNot (bTest (mIsi .tuple (mVar 1)))) (bTest (mCmp .NotEq (mPrim .len (mCons (mVar 1) (mNil))) (mCon (.int 2))))) (sSeq (sRet (mCon (.bl false))) (sNext)) (sNext)) (sSeq (sRet (mAnd (mCallP f_is_from (mCons (mIdx (mVar 1) (mCon (.int 0))) (mCons (mCon (.int 0)) (mCons (mVar 0) (mNil))))) (mCallP f_is_from (mCons (mIdx (mVar 1) (mCon (.int 1))) (mCons (mCon (.int 1)) (mCons (mBin .Add (mCon (.int 3)) (mCon (.int 1))) (mNil))))))) (sNext)))
def f_are_hushes : Fn := fnW 2 5 (sSeq (sIf (bOr (bNot (bTest (mIsi .tuple (mVar 1)))) (bNot (bTest (mPrim .all (mCons (mLc false [4] (.nm 4) (jE (mVar 1)) (bYes) (mCallP f_is_hush (mCons (mVar 0) (mCons (mVar 4) (mNil))))) (mNil)))))) (sSeq (sRet (mCon (.bl false))) (sNext)) (sNext)) (sSeq (sRet (mCallP f_are_rising (mCons (mLc false [2, 3] (.tup [2, 3]) (jE (mVar 1)) (bYes) (mVar 2)) (mNil)))) (sNext)))
def f_are_rules_numbers : Fn := fnW 2 3 (sSeq (sRet (mAnd (mIsi .tuple (mVar 0)) (mAnd (mPrim .all (mCons (mLc false [2] (.nm 2) (jE (mVar 0)) (bYes) (mCallP f_is_from (mCons (mVar 2) (mCons (mCon (.int 0)) (mCons (mVar 1) (mNil)))))) (mNil))) (mCallP f_are_rising (mCons (mVar 0) (mNil)))))) (sNext))
def f_is_worded : Fn := fnW 3 3 (sSeq (sRet (mAnd (mIsi .tuple (mVar 0)) (mAnd (mCmp .Eq (mPrim .len (mCons (mVar 0) (mNil))) (mVar 2)) (mAnd (mIsi .str (mIdx (mVar 0) (mCon (.int 0)))) (mCmp .In (mIdx (mVar 0) (mCon (.int 0))) (mVar 1)))))) (sNext))
def f_is_placed : Fn := fnW 3 6 (sSeq (sIf (bNot (bTest (mCallP f_is_worded (mCons (mVar 1) (mCons (mVar 2) (mCons (mCon (.int 3)) (mNil))))))) (sSeq (sRet (mCon (.bl false))) (sNext)) (sNext)) (sSeq (sAsg (.tup [3, 4, 5]) (mVar 1)) (sSeq (sRet (mAnd (mCallP f_is_from (mCons (mVar 4) (mCons (mCon (.int 0)) (mCons (mPrim .len (mCons (mVar 0) (mNil))) (mNil))))) (mCallP f_is_from (mCons (mVar 5) (mCons (mCon (.int 0)) (mCons (mIdx (mVar 0) (mVar 4)) (mNil))))))) (sNext))))
def f_is_condition : Fn := fnW 3 3 (sSeq (sIf (bTest (mCallP f_is_worded (mCons (mVar 2) (mCons (mCon (.tup [.str "hushed", .str "awake"])) (mCons (mCon (.int 2)) (mNil)))))) (sSeq (sRet (mCallP f_is_from (mCons (mIdx (mVar 2) (mCon (.int 1))) (mCons (mCon (.int 0)) (mCons (mVar 1) (mNil)))))) (sNext)) (sNext)) (sSeq (sRet (mCallP f_is_placed (mCons (mVar 0) (mCons (mVar 2) (mCons (mCon (.tup [.str "is", .str "not", .str "below"])) (mNil)))))) (sNext)))
def f_is_rule : Fn := fnW 3 10 (sSeq (sIf (bOr (bNot (bTest (mIsi .tuple (mVar 2)))) (bTest (mCmp .NotEq (mPrim .len (mCons (mVar 2) (mNil))) (mCon (.int 4))))) (sSeq (sRet (mCon (.bl false))) (sNext)) (sNext)) (sSeq (sAsg (.tup [3, 4, 5, 6]) (mVar 2)) (sSeq (sIf (bOr (bNot (bTest (mCallP f_is_row (mCons (mVar 3) (mCons (mCon (.int 4)) (mNil)))))) (bNot (bTest (mPrim .all (mCons (mLc false [9] (.nm 9) (jE (mVar 3)) (bYes) (mCallP f_is_condition (mCons (mVar 0) (mCons (mVar 1) (mCons (mVar 9) (mNil)))))) (mNil)))))) (sSeq (sRet (mCon (.bl false))) (sNext)) (sNext)) (sSeq (sIf (bOr (bNot (bTest (mCallP f_is_row (mCons (mVar 4) (mCons (mCon (.int 3)) (mNil)))))) (bNot (bTest (mPrim .all (mCons (mLc false [9] (.nm 9) (jE (mVar 4)) (bYes) (mCallP f_is_placed (mCons (mVar 0) (mCons (mVar 9) (mCons (mCon (.tup [.str "put", .str "turn"])) (mNil)))))) (mNil)))))) (sSeq (sRet (mCon (.bl false))) (sNext)) (sNext)) (sSeq (sIf (bOr (bNot (bTest (mCallP f_are_hushes (mCons (mVar 1) (mCons (mVar 5) (mNil)))))) (bNot (bTest (mCallP f_are_rules_numbers (mCons (mVar 6) (mCons (mVar 1) (mNil))))))) (sSeq (sRet (mCon (.bl false))) (sNext)) (sNext)) (sSeq (sRet (mNot (mPrim .any (mCons (mLc false [7, 8] (.tup [7, 8]) (jE (mVar 5)) (bYes) (mCmp .In (mVar 7) (mVar 6))) (mNil))))) (sNext)))))))
def b_look_book_1 : Ms := sSeq (sIf (bNot (bTest (mCallP f_is_rule (mCons (mVar 0) (mCons (mPrim .len (mCons (mVar 1) (mNil))) (mCons (mVar 3) (mNil))))))) (sSeq (sRaiseF 4 6 (mVar 2)) (sNext)) (sNext)) (sNext)
def f_look_book : Fn := fnW 2 4 (sSeq (sIf (bOr (bNot (bTest (mCallP f_are_wheels (mCons (mVar 0) (mNil))))) (bNot (bTest (mCallP f_is_row (mCons (mVar 1) (mCons (mCon (.int 5)) (mNil))))))) (sSeq (sRaiseF 4 6 (mNeg (mCon (.int 1)))) (sNext)) (sNext)) (sSeq (sFor (jEnum 0 (mVar 1)) (.tup [2, 3]) (b_look_book_1)) (sNext)))
def f_Book___init__ : Fn := fnW 3 3 (sSeq (sExpr (mCallP f_look_book (mCons (mVar 1) (mCons (mVar 2) (mNil))))) (sSeq (sSetFld 0 0 (mVar 0) (mVar 1)) (sSeq (sSetFld 0 1 (mVar 0) (mVar 2)) (sNext))))
def f_are_values : Fn := fnW 2 4 (sSeq (sIf (bOr (bNot (bTest (mIsi .tuple (mVar 1)))) (bTest (mCmp .NotEq (mPrim .len (mCons (mVar 1) (mNil))) (mPrim .len (mCons (mFld 0 0 (mVar 0)) (mNil)))))) (sSeq (sRet (mCon (.bl false))) (sNext)) (sNext)) (sSeq (sRet (mPrim .all (mCons (mLc false [2, 3] (.tup [2, 3]) (jZips (mVar 1) (mFld 0 0 (mVar 0))) (bYes) (mCallP f_is_from (mCons (mVar 2) (mCons (mCon (.int 0)) (mCons (mVar 3) (mNil)))))) (mNil)))) (sNext)))
def f_begun : Fn := fnW 2 2 (sSeq (sIf (bNot (bTest (mCallP f_are_values (mCons (mVar 0) (mCons (mVar 1) (mNil)))))) (sSeq (sRaise 12) (sNext)) (sNext)) (sSeq (sRet (mTup (mCons (mVar 1) (mCons (mBin .Mult (mTup (mCons (mCon (.int 0)) (mNil))) (mPrim .len (mCons (mFld 0 1 (mVar 0)) (mNil)))) (mNil))))) (sNext)))
def f_look_off : Fn := fnW 2 2 (sSeq (sIf (bNot (bTest (mCallP f_are_rules_numbers (mCons (mVar 1) (mCons (mPrim .len (mCons (mFld 0 1 (mVar 0)) (mNil))) (mNil)))))) (sSeq (sRaise 14) (sNext)) (sNext)) (sNext))
def f_Stand___init__ : Fn := fnW 5 5 (sSeq (sSetFld 19 10 (mVar 0) (mVar 1)) (sSeq (sSetFld 19 9 (mVar 0) (mVar 2)) (sSeq (sSetFld 19 11 (mVar 0) (mVar 3)) (sSeq (sSetFld 19 12 (mVar 0) (mVar 4)) (sNext)))))
def f_Watch___init__ : Fn := fnW 4 5 (sSeq (sAsg (.nm 4) (mCallP f_begun (mCons (mVar 1) (mCons (mVar 2) (mNil))))) (sSeq (sExpr (mCallP f_look_off (mCons (mVar 1) (mCons (mVar 3) (mNil))))) (sSeq (sSetFld 2 13 (mVar 0) (mVar 1)) (sSeq (sSetFld 2 14 (mVar 0) (mMake 19 f_Stand___init__ (mCons (mCon (.int 0)) (mCons (mVar 4) (mCons (mVar 3) (mCons (mBin .Mult (mTup (mCons (mCon (.int 0)) (mNil))) (mPrim .len (mCons (mVar 1) (mNil)))) (mNil))))))) (sSeq (sSetFld 2 15 (mVar 0) (mNLst (mNil))) (sNext))))))
def b__law_wheels_1 : Ms := sSeq (sAsg (.nm 4) (mBin .Add (mCon (.int 2)) (mCall f__law_take (mCons (mVar 0) (mCons (mCon (.int 3)) (mNil)))))) (sSeq (sIf (bTest (mCmp .LtE (mBin .Mult (mVar 2) (mVar 4)) (mCon (.int 24)))) (sSeq (sExpr (mApp (mVar 1) (mVar 4))) (sSeq (sAsg (.nm 2) (mBin .Mult (mVar 2) (mVar 4))) (sNext))) (sNext)) (sNext))
def f__law_wheels : Fn := fnW 1 5 (sSeq (sPar [1, 2] (mCons (mNLst (mNil)) (mCons (mCon (.int 1)) (mNil)))) (sSeq (sFor (jRange1 (mBin .Add (mCon (.int 1)) (mCall f__law_take (mCons (mVar 0) (mCons (mCon (.int 3)) (mNil)))))) (.nm 3) (b__law_wheels_1)) (sSeq (sRet (mPrim .tuple (mCons (mVar 1) (mNil)))) (sNext))))
def f_look_beats : Fn := fnW 1 1 (sSeq (sIf (bOr (bNot (bTest (mCallP f_is_whole (mCons (mVar 0) (mNil))))) (bNot (bTest (mChain .LtE .Lt (mCon (.int 0)) (mVar 0) (mCon (.int 1000000000000000000000000000000000000000000000000000000000000)))))) (sSeq (sRaiseF 10 10 (mVar 0)) (sNext)) (sNext)) (sNext))
def f_own_order : Fn := fnW 1 1 (sSeq (sRet (mRg1 kTup (mPrim .len (mCons (mFld 0 1 (mVar 0)) (mNil))))) (sNext))
def f_ended : Fn := fnW 1 4 (sSeq (sAsg (.tup [1, 2]) (mVar 0)) (sSeq (sRet (mTup (mCons (mVar 1) (mCons (mPrim .tuple (mCons (mLc false [3] (.nm 3) (jE (mVar 2)) (bYes) (mPrim .max (mCons (mCon (.int 0)) (mCons (mBin .Sub (mVar 3) (mCon (.int 1))) (mNil))))) (mNil))) (mNil))))) (sNext)))
def f_is_so : Fn := fnW 3 6 (sSeq (sAsg (.star [3, 4] 5) (mVar 0)) (sSeq (sIf (bTest (mCmp .Eq (mVar 3) (mCon (.str "hushed")))) (sSeq (sRet (mCmp .Gt (mIdx (mVar 2) (mVar 4)) (mCon (.int 0)))) (sNext)) (sNext)) (sSeq (sIf (bTest (mCmp .Eq (mVar 3) (mCon (.str "awake")))) (sSeq (sRet (mCmp .Eq (mIdx (mVar 2) (mVar 4)) (mCon (.int 0)))) (sNext)) (sNext)) (sSeq (sIf (bTest (mCmp .Eq (mVar 3) (mCon (.str "below")))) (sSeq (sRet (mCmp .Lt (mIdx (mVar 1) (mVar 4)) (mIdx (mVar 5) (mCon (.int 0))))) (sNext)) (sNext)) (sSeq (sRet (mCmp .Eq (mCmp .Eq (mIdx (mVar 1) (mVar 4)) (mIdx (mVar 5) (mCon (.int 0)))) (mCmp .Eq (mVar 3) (mCon (.str "is"))))) (sNext))))))
def f_would_do : Fn := fnW 4 5 (sSeq (sRet (mAnd (mCmp .Eq (mIdx (mVar 3) (mVar 1)) (mCon (.int 0))) (mPrim .all (mCons (mLc false [4] (.nm 4) (jE (mIdx (mIdx (mFld 0 1 (mVar 0)) (mVar 1)) (mCon (.int 0)))) (bYes) (mCallP f_is_so (mCons (mVar 4) (mCons (mVar 2) (mCons (mVar 3) (mNil)))))) (mNil))))) (sNext))
def b_change_1 : Ms := sSeq (sSetIx (mVar 2) (mVar 4) (mIfx (bTest (mCmp .Eq (mVar 3) (mCon (.str "put")))) (mVar 5) (mBin .Mod (mBin .Add (mIdx (mVar 2) (mVar 4)) (mVar 5)) (mIdx (mFld 0 0 (mVar 0)) (mVar 4))))) (sNext)
def f_change : Fn := fnW 3 6 (sSeq (sFor (jE (mIdx (mIdx (mFld 0 1 (mVar 0)) (mVar 1)) (mCon (.int 1)))) (.tup [3, 4, 5]) (b_change_1)) (sNext))
def b_hush_and_wake_1 : Ms := sSeq (sSetIx (mVar 2) (mVar 7) (mPrim .max (mCons (mIdx (mVar 2) (mVar 7)) (mCons (mVar 8) (mNil))))) (sNext)
def b_hush_and_wake_2 : Ms := sSeq (sSetIx (mVar 2) (mVar 7) (mCon (.int 0))) (sNext)
def f_hush_and_wake : Fn := fnW 3 9 (sSeq (sAsg (.tup [3, 4, 5, 6]) (mIdx (mFld 0 1 (mVar 0)) (mVar 1))) (sSeq (sFor (jE (mVar 5)) (.tup [7, 8]) (b_hush_and_wake_1)) (sSeq (sFor (jE (mVar 6)) (.nm 7) (b_hush_and_wake_2)) (sNext))))
def b_beat_of_1 : Ms := sSeq (sIf (bAnd (bTest (mCmp .NotIn (mVar 7) (mVar 3))) (bTest (mCallV f_would_do (mCons (mVar 0) (mCons (mVar 7) (mCons (mVar 4) (mCons (mVar 5) (mNil)))))))) (sSeq (sExpr (mCall f_change (mCons (mVar 0) (mCons (mVar 7) (mCons (mVar 4) (mNil)))))) (sSeq (sExpr (mCall f_hush_and_wake (mCons (mVar 0) (mCons (mVar 7) (mCons (mVar 5) (mNil)))))) (sSeq (sExpr (mApp (mVar 6) (mVar 7))) (sNext)))) (sNext)) (sNext)
def f_beat_of : Fn := fnW 4 8 (sSeq (sPar [4, 5] (mCons (mNlist (mIdx (mVar 1) (mCon (.int 0)))) (mCons (mNlist (mIdx (mVar 1) (mCon (.int 1)))) (mNil)))) (sSeq (sAsg (.nm 6) (mNLst (mNil))) (sSeq (sFor (jE (mVar 2)) (.nm 7) (b_beat_of_1)) (sSeq (sRet (mTup (mCons (mPrim .tuple (mCons (mVar 6) (mNil))) (mCons (mCallP f_ended (mCons (mTup (mCons (mPrim .tuple (mCons (mVar 4) (mNil))) (mCons (mPrim .tuple (mCons (mVar 5) (mNil))) (mNil)))) (mNil))) (mNil))))) (sNext)))))
def b_Track___init___1 : Ms := sSeq (sDPut (mVar 5) (mVar 2) (mPrim .len (mCons (mFld 1 2 (mVar 0)) (mNil)))) (sSeq (sExpr (mApp (mFld 1 2 (mVar 0)) (mVar 2))) (sSeq (sAsg (.tup [6, 2]) (mCallP f_beat_of (mCons (mVar 1) (mCons (mVar 2) (mCons (mVar 4) (mCons (mVar 3) (mNil))))))) (sSeq (sExpr (mApp (mFld 1 3 (mVar 0)) (mVar 6))) (sNext))))
def f_Track___init__ : Fn := fnW 4 7 (sSeq (sSetFld 1 2 (mVar 0) (mNLst (mNil))) (sSeq (sSetFld 1 3 (mVar 0) (mNLst (mNil))) (sSeq (sPar [4, 5] (mCons (mCallP f_own_order (mCons (mVar 1) (mNil))) (mCons (mDNew) (mNil)))) (sSeq (sWhile 10000 (bDIn true (mVar 2) (mVar 5)) (b_Track___init___1)) (sSeq (sSetFld 1 4 (mVar 0) (mDGet (mVar 5) (mVar 2))) (sSeq (sSetFld 1 5 (mVar 0) (mBin .Sub (mPrim .len (mCons (mFld 1 2 (mVar 0)) (mNil))) (mFld 1 4 (mVar 0)))) (sNext)))))))
def f_Watch_done : Fn := fnW 2 2 (sSeq (sExpr (mApp (mFld 2 15 (mVar 0)) (mFld 2 14 (mVar 0)))) (sSeq (sSetFld 2 14 (mVar 0) (mVar 1)) (sNext)))
def f_Track_turns : Fn := fnW 2 4 (sSeq (sRet (mLc false [2, 3] (.tup [2, 3]) (jEnum 0 (mFld 1 3 (mVar 0))) (bTest (mCmp .In (mVar 1) (mVar 3))) (mVar 2))) (sNext))
def f_Track_often : Fn := fnW 3 8 (sSeq (sAsg (.nm 3) (mMeth 1 f_Track_turns (mVar 0) (mCons (mVar 1) (mNil)))) (sSeq (sIf (bTest (mCmp .LtE (mVar 2) (mPrim .len (mCons (mFld 1 3 (mVar 0)) (mNil))))) (sSeq (sRet (mPrim .len (mCons (mLc false [7] (.nm 7) (jE (mVar 3)) (bTest (mCmp .Lt (mVar 7) (mVar 2))) (mVar 7)) (mNil)))) (sNext)) (sNext)) (sSeq (sAsg (.tup [4, 5]) (mPrim .divmod (mCons (mBin .Sub (mVar 2) (mFld 1 4 (mVar 0))) (mCons (mFld 1 5 (mVar 0)) (mNil))))) (sSeq (sAsg (.nm 6) (mLc false [7] (.nm 7) (jE (mVar 3)) (bTest (mCmp .GtE (mVar 7) (mFld 1 4 (mVar 0)))) (mBin .Sub (mVar 7) (mFld 1 4 (mVar 0))))) (sSeq (sRet (mBin .Add (mBin .Add (mBin .Sub (mPrim .len (mCons (mVar 3) (mNil))) (mPrim .len (mCons (mVar 6) (mNil)))) (mBin .Mult (mVar 4) (mPrim .len (mCons (mVar 6) (mNil))))) (mPrim .len (mCons (mLc false [7] (.nm 7) (jE (mVar 6)) (bTest (mCmp .Lt (mVar 7) (mVar 5))) (mVar 7)) (mNil))))) (sNext))))))
def f_Track_spot : Fn := fnW 2 2 (sSeq (sRet (mIfx (bTest (mCmp .Lt (mVar 1) (mFld 1 4 (mVar 0)))) (mVar 1) (mBin .Add (mFld 1 4 (mVar 0)) (mBin .Mod (mBin .Sub (mVar 1) (mFld 1 4 (mVar 0))) (mFld 1 5 (mVar 0)))))) (sNext))
def f_Watch_go : Fn := fnW 2 9 (sSeq (sExpr (mCallP f_look_beats (mCons (mVar 1) (mNil)))) (sSeq (sAsg (.nm 2) (mFld 2 14 (mVar 0))) (sSeq (sAsg (.nm 3) (mMakeZ 1 f_Track___init__ (mCons (mFld 2 13 (mVar 0)) (mCons (mFld 19 9 (mVar 2)) (mCons (mFld 19 11 (mVar 2)) (mNil)))))) (sSeq (sAsg (.nm 4) (mPrim .tuple (mCons (mLc false [6] (.nm 6) (jRange1 (mPrim .len (mCons (mFld 2 13 (mVar 0)) (mNil)))) (bYes) (mMeth 1 f_Track_often (mVar 3) (mCons (mVar 6) (mCons (mVar 1) (mNil))))) (mNil)))) (sSeq (sAsg (.nm 5) (mPrim .tuple (mCons (mLc false [7, 8] (.tup [7, 8]) (jZips (mFld 19 12 (mVar 2)) (mVar 4)) (bYes) (mBin .Add (mVar 7) (mVar 8))) (mNil)))) (sSeq (sExpr (mMeth 2 f_Watch_done (mVar 0) (mCons (mMake 19 f_Stand___init__ (mCons (mBin .Add (mFld 19 10 (mVar 2)) (mVar 1)) (mCons (mIdx (mFld 1 2 (mVar 3)) (mMeth 1 f_Track_spot (mVar 3) (mCons (mVar 1) (mNil)))) (mCons (mFld 19 11 (mVar 2)) (mCons (mVar 5) (mNil)))))) (mNil)))) (sSeq (sRet (mVar 4)) (sNext))))))))
def f__law_whole : Fn := fnW 3 3 (sSeq (sRet (mAnd (mIsi .int (mVar 0)) (mAnd (mNot (mIsi .bool (mVar 0))) (mChain .LtE .Lt (mVar 1) (mVar 0) (mVar 2))))) (sNext))
def f__law_rules : Fn := fnW 3 4 (sSeq (sRet (mPrim .tuple (mCons (mLc false [3] (.nm 3) (jRange1 (mVar 2)) (bYes) (mCall f__law_rule (mCons (mVar 0) (mCons (mVar 1) (mCons (mVar 2) (mNil)))))) (mNil)))) (sNext))
def f__law_drawn : Fn := fnW 1 2 (sSeq (sAsg (.nm 1) (mCall f__law_wheels (mCons (mVar 0) (mNil)))) (sSeq (sRet (mTup (mCons (mVar 1) (mCons (mCall f__law_rules (mCons (mVar 0) (mCons (mVar 1) (mCons (mIdx (mTup (mCons (mCon (.int 3)) (mCons (mCon (.int 5)) (mCons (mCon (.int 2)) (mCons (mCon (.int 4)) (mCons (mCon (.int 1)) (mCons (mCon (.int 0)) (mNil)))))))) (mCall f__law_take (mCons (mVar 0) (mCons (mCon (.int 6)) (mNil))))) (mNil))))) (mNil))))) (sNext)))
def f__law_state : Fn := fnW 3 6 (sSeq (sAsg (.nm 3) (mPrim .tuple (mCons (mLc false [4] (.nm 4) (jE (mVar 1)) (bYes) (mCall f__law_take (mCons (mVar 0) (mCons (mVar 4) (mNil))))) (mNil)))) (sSeq (sRet (mTup (mCons (mVar 3) (mCons (mPrim .tuple (mCons (mLc false [5] (.nm 5) (jRange1 (mVar 2)) (bYes) (mIdx (mTup (mCons (mCon (.int 0)) (mCons (mCon (.int 0)) (mCons (mCon (.int 1)) (mCons (mCon (.int 2)) (mNil)))))) (mCall f__law_take (mCons (mVar 0) (mCons (mCon (.int 4)) (mNil)))))) (mNil))) (mNil))))) (sNext)))
def f_is_state : Fn := fnW 2 4 (sSeq (sIf (bOr (bNot (bTest (mIsi .tuple (mVar 1)))) (bOr (bTest (mCmp .NotEq (mPrim .len (mCons (mVar 1) (mNil))) (mCon (.int 2)))) (bNot (bTest (mCallP f_are_values (mCons (mVar 0) (mCons (mIdx (mVar 1) (mCon (.int 0))) (mNil)))))))) (sSeq (sRet (mCon (.bl false))) (sNext)) (sNext)) (sSeq (sAsg (.nm 2) (mIdx (mVar 1) (mCon (.int 1)))) (sSeq (sIf (bOr (bNot (bTest (mIsi .tuple (mVar 2)))) (bTest (mCmp .NotEq (mPrim .len (mCons (mVar 2) (mNil))) (mPrim .len (mCons (mFld 0 1 (mVar 0)) (mNil)))))) (sSeq (sRet (mCon (.bl false))) (sNext)) (sNext)) (sSeq (sRet (mPrim .all (mCons (mLc false [3] (.nm 3) (jE (mVar 2)) (bYes) (mCallP f_is_from (mCons (mVar 3) (mCons (mCon (.int 0)) (mCons (mCon (.int 3)) (mNil)))))) (mNil)))) (sNext)))))
def f__law_are : Fn := fnW 2 4 (sSeq (sIf (bOr (bNot (bTest (mIsi .tuple (mVar 0)))) (bTest (mCmp .NotEq (mPrim .len (mCons (mVar 0) (mNil))) (mPrim .len (mCons (mVar 1) (mNil)))))) (sSeq (sRet (mCon (.bl false))) (sNext)) (sNext)) (sSeq (sRet (mPrim .all (mCons (mLc false [2, 3] (.tup [2, 3]) (jZip (mVar 0) (mVar 1)) (bYes) (mCallP f__law_whole (mCons (mVar 2) (mCons (mCon (.int 0)) (mCons (mVar 3) (mNil)))))) (mNil)))) (sNext)))
def f_Book___len__ : Fn := fnW 1 1 (sSeq (sRet (mPrim .len (mCons (mFld 0 1 (mVar 0)) (mNil)))) (sNext))
end DL
set_option Elab.async false
set_option linter.all false
set_option maxRecDepth 100000
set_option maxHeartbeats 4000000
/-! Zq: repr(x) of any data whose shown text is short; str(x). -/
namespace DL
open PySem PySem.Spec L2
open PyProof.Rows hiding St
/-- its shown text is no trouble -/
def okS (x : W) : Bool := W.plain 60 x && (toP x).showable && decide ((toP x).shown.length ≤ limit) && PyData.strOk (toP x).shown
def reprS (x : W) (S : Sto) : Res := if okS x then .ok (.str (toP x).shown) S else .bad
def mReprS (a : Me) : Me := fun ρ S => (a ρ S).bind fun x S => reprS (deref S x) S
end DL
set_option Elab.async false
set_option linter.all false
set_option maxRecDepth 100000
set_option maxHeartbeats 4000000
/-! Zr: instances that are changed by their methods; an instance frozen; isinstance(x, a built-in type) where x may be such. -/
namespace DL
open PySem PySem.Spec L2 PyProof.Rows
def isObj (c : Nat) (S : Sto) : W → Bool
  | .loc n => match S[n]? with
    | some (.obj d _) => d == c
    | _ => false
  | _ => false
/-- C(..): the new instance is a cell of the maker's -/
def makeCR (c : Nat) (ψ : Fn) (ws : List W) (S : Sto) : Res := match ψ (.loc S.length :: ws) (S ++ [.obj c []]) with
  | .ok .non S' => .ok (.loc S.length) S'
  | .ok _ _ => .bad
  | .exc x S' => .exc x S'
  | .bad => .bad
def mMakeC (c : Nat) (ψ : Fn) (ms : Ml) : Me := fun ρ S => (ms ρ S).bind fun ws S => makeCR c ψ ws S
/-- o.m(..), o such a cell: the method may change all that it gets -/
def mMethC (c : Nat) (ψ : Fn) (a : Me) (ms : Ml) : Me := fun ρ S => (a ρ S).bind fun x S => if isObj c S x then (ms ρ S).bind fun ws S => ψ (x :: ws) S else .bad
section
variable {X : Cx} {T : Tab} {E : WX} {pos : Pos} {a b c : Expr} {p q r : Me} {es : List Expr} {ps : Ml}
theorem w_makeC {k j cc : Nat} {x : Str} {pp : Pos} {ψ : Fn} {Ec : XK} (C : MakeF T X.prog X.w X.K X.mg X.base k x cc ψ) (hr : Room j X.A) (hj : k + 1 ≤ j) (hg : Gl X x) (tk : Takes X fun c d _ H => Ec c d H) (ha : PA X (a :: es) (tL T X.K (fun c d _ H => Ec c d H) ps)) (hdb : (x == ("__debug__" : Str)) = false)
    (he : starEach (a :: es) X.env = (false, eval a X.env) :: starEach es X.env) (hpl : (backTo pos (starEach es X.env)).any (·.1) = false) : PE X (.Call (.Name x pp) (a :: es) [] pos) (tW T X.K (fun c d _ H => Ec c d H) (mMakeC cc ψ ps)) := by
  obtain ⟨f, fd, pn, ds, dvs, dws, n, φ, FO, hn, hm, hM, hb, hd, hw, rfl⟩ := C
  refine peM (pe_make hM FO (hr.mono hj) hg hm hb hd (passes_call tk fun _ _ _ _ h => h) ha hdb he hpl) ?_
  rintro σ H Q ⟨F, al, S, ρ, g, e, h⟩
  refine (tL.bind g e h).imp fun vs H1 ⟨F1, al1, S1, ws, m, r, h1⟩ => ?_
  intro x dx hx hdx hne
  obtain ⟨gs, ps0⟩ := m.g.side hdx (.own x)
  have hx2 : upd H1 dx (.own x) x = none := by rw [upd_ne (Ne.symm hne)]; exact hx
  obtain ⟨g2, p2, r2⟩ := gs.newCell hx2 (o := .ins (T.c cc) dx []) (c := .obj cc []) ⟨dx, [], upd_same, m.g.notF hx, .nil⟩
  have p3 := ps0.trans p2
  refine spW_of (E := fun c d _ H => Ec c d H) (σ := σ) hn g2 (.cons r2 ((r.post p3).append (hw _ _))) ?_
  unfold makeCR at h1
  replace h1 : RQ T X.K (fun c d _ H => Ec c d H) σ F1 al1 H1 (match φ (.loc S1.length :: (ws ++ dws)) (S1 ++ [.obj cc []]) with
    | .ok .non S' => .ok (.loc S1.length) S'
    | .ok _ _ => .bad
    | .exc x S' => .exc x S'
    | .bad => .bad) Q := h1
  show RQ T X.K (fun c d _ H => Ec c d H) σ F1 (al1 ++ [x]) _ (φ (.loc S1.length :: (ws ++ dws)) (S1 ++ [.obj cc []])) _
  cases e1 : φ (.loc S1.length :: (ws ++ dws)) (S1 ++ [.obj cc []]) with
  | bad => rw [e1] at h1; exact h1.elim
  | exc z S' =>
    rw [e1] at h1
    exact fun c d F' al' H' p g' rz => h1 c d F' al' H' (p3.trans p) g' rz
  | ok v S' =>
    rw [e1] at h1
    cases v with
    | non =>
      intro u F' al' H' p g' ru
      cases ru
      exact ⟨rfl, h1 _ _ _ _ (p3.trans p) g' (r2.post p)⟩
    | _ => exact h1.elim
theorem w_methCZ {t : TA} {k j cc : Nat} {mn : Str} {apos : Pos} {ψ : Fn} {E0 : XK} (M : MethF T X.prog X.w X.K X.mg X.base k cc mn ψ)
    (hP : ∀ (f : Addr) (fd : FuncData) (pn : List Str) (ds : List Value) (dvs : List V) (n : Nat) (φ : Fn), Cls X.K (T.c cc) → Meth X.K (T.c cc) mn f → FnOk X.prog X.w X.K X.mg X.base (L2.CX X.prog X.w) k f fd pn (spW T X.K n φ) → Binds X.K fd pn ds → Vals dvs ds → PE X c (tMeth (T.c cc) mn (spW T X.K n φ) dvs E0 (tW T X.K (fun c d _ H => E0 c d H) p) t))
    (ht : ∀ σ H Q, tL T X.K (fun c d _ H => E0 c d H) ps σ H Q → t σ H Q) :
    PE X c (tW T X.K (fun c d _ H => E0 c d H) (mMethC cc ψ p ps)) := by
  obtain ⟨f, fd, pn, ds, dvs, dws, n, φ, FO, hn, hc, hM, hf, hb, hd, hw, rfl⟩ := M
  refine peM (hP f fd pn ds dvs n φ hc hM FO hb hd) ?_
  rintro σ H Q ⟨F, al, S, ρ, g, e, h⟩
  refine (tW.bind g e h).imp fun x H1 ⟨F1, al1, S1, w, m, r, h1⟩ => ?_
  split at h1
  case isFalse => exact h1.elim
  rename_i hi
  unfold isObj at hi
  split at hi
  case h_2 => cases hi
  rename_i i
  split at hi
  case h_2 => cases hi
  rename_i d fs hS
  have hdc : d = cc := beq_iff_eq.mp hi
  subst hdc
  cases r with
  | @loc a _ ha =>
    obtain ⟨dx, gs, h5, h6, h7⟩ := m.g.cell i a _ ha hS
    refine ⟨a, dx, gs, rfl, h5, noField hf h7, ht _ _ _ ?_⟩
    refine (tL.bind m.g m.e h1).imp fun vs H2 ⟨F2, al2, S2, us, m2, r2, h2⟩ => ?_
    exact spW_of (E := fun c d _ H => E0 c d H) (σ := σ) hn m2.g (.cons (.loc (m2.p.pre _ _ ha)) (r2.append (hw _ _))) h2
theorem w_methC {pl : Sem Bool} {k j cc : Nat} {mn : Str} {apos : Pos} {ψ : Fn} {Ec : XK} (M : MethF T X.prog X.w X.K X.mg X.base k cc mn ψ) (hr : Room j X.A) (hj : k ≤ j) (tk : Takes X fun c d _ H => Ec c d H) (ho : PE X b (tW T X.K (fun c d _ H => Ec c d H) p)) (ha : PA X (a :: es) (tL T X.K (fun c d _ H => Ec c d H) ps))
    (he : starEach (a :: es) X.env = (false, eval a X.env) :: starEach es X.env) (hpl : (backTo pos (starEach es X.env)).any (·.1) = false)
    (ht : eval (.Call (.Attribute b mn apos) (a :: es) [] pos) X.env = (do
      let ov ← eval b X.env
      standAt apos.atName
      let (f, first) ← holding [ov] (getMethod ov mn pl)
      callWith pos f first (backTo pos (starEach (a :: es) X.env)) (backToKw pos (keywordEach [] X.env)))) :
    PE X (.Call (.Attribute b mn apos) (a :: es) [] pos) (tW T X.K (fun c d _ H => Ec c d H) (mMethC cc ψ p ps)) :=
  w_methCZ (t := tL T X.K (fun c d _ H => Ec c d H) ps) (j := j) (apos := apos) M (fun f fd pn ds dvs n φ hc hM FO hb hd => pe_meth ho hc hM FO (hr.mono hj) hb hd (passes_call tk fun _ _ _ _ h => h) ha he hpl ht) fun _ _ _ h => h
end
/-! ### an instance frozen, with the lists that it holds -/
def stF1 (S : Sto) : W → Sto
  | .loc n => match S[n]? with
    | some (.lst ws) => S.set n (.frz (.lst ws))
    | _ => S
  | _ => S
def stF (S : Sto) : List (Nat × W) → Sto
  | [] => S
  | (_, w) :: fs => stF (stF1 S w) fs
section
variable {T : Tab} {K : PySem.W.Frag} {F F' : Hp} {al al' : List Addr} {H H' : Hp} {S S' : Sto}
theorem frz_st1 {w u : W} (h : frzW S w = some u) : Frz S (stF1 S w) := by
  unfold stF1
  split
  · rename_i n
    split
    · rename_i ws hc
      have hn : nlL ws = true := by
        unfold frzW at h
        simp only [hc] at h
        split at h
        · assumption
        · cases h
      refine ⟨fun w u e => ?_, fun m d fs e => ?_⟩
      · unfold frzW at e ⊢
        split at e
        · rename_i m
          by_cases hm : n = m
          · subst hm
            rw [List.getElem?_set_self (List.getElem?_eq_some_iff.mp hc).1]
            simp only [hc] at e
            rw [if_pos hn] at e
            cases e
            show (if W.nl (W.lst ws) = true then some (W.lst ws) else none) = _
            rw [if_pos (show W.nl (W.lst ws) = true from hn)]
          · rw [List.getElem?_set_ne hm]
            exact e
        · exact e
      · by_cases hm : n = m
        · subst hm; rw [hc] at e; cases e
        · rw [List.getElem?_set_ne hm]; exact e
    · exact ⟨fun _ _ e => e, fun _ _ _ e => e⟩
  · exact ⟨fun _ _ e => e, fun _ _ _ e => e⟩
theorem freeze_oneS (g : Good T K F al S H) {v : V} {w u : W} (r : Rw T K F al v w) (h : frzW S w = some u) : ∃ F', Good T K F' al (stF1 S w) H ∧ Post F al H F' al H ∧ Rw T K F' al v u := by
  cases w with
  | loc n =>
    cases r with
    | @loc a _ ha =>
      unfold frzW at h
      unfold stF1
      cases hc : S[n]? with
      | none => simp [hc] at h
      | some c =>
        have cl := g.cell n a c ha hc
        cases c with
        | lst ws =>
          simp only [hc] at h ⊢
          split at h
          · cases h
            obtain ⟨xs, h1, h2, h3⟩ := cl
            have s1 : Same F (upd F a (.lst xs)) := fun b u e => by rw [upd_ne (ne_of_none e h2)]; exact e
            have hw : Rw T K (upd F a (.lst xs)) al (.ref a) (.lst ws) := .lst (SqL.of upd_same) (h3.mono s1 (Pre.refl _))
            obtain ⟨g1, p1⟩ := g.freeze ha h2 h1 hw
            exact ⟨_, g1, p1, hw⟩
          · cases h
        | frz w =>
          simp only [hc] at h ⊢
          split at h
          · cases h
            exact ⟨F, g, Post.refl, cl⟩
          · cases h
        | _ => simp [hc] at h
  | _ =>
    unfold frzW at h
    simp only at h
    split at h
    · cases h
      exact ⟨F, g, Post.refl, r⟩
    · cases h
theorem freeze_allS : ∀ {fs us : List (Nat × W)} {gs : List (Str × V)} {F : Hp} {S : Sto}, Good T K F al S H → RwF T K F al gs fs → frzFs S fs = some us → ∃ F', Good T K F' al (stF S fs) H ∧ Post F al H F' al H ∧ RwF T K F' al gs us ∧ nlF us = true ∧ ∀ (n : Nat) d fs', S[n]? = some (.obj d fs') → (stF S fs)[n]? = some (.obj d fs')
  | [], us, gs, F, S, g, r, h => by
    cases r; cases h
    exact ⟨F, g, Post.refl, .nil, rfl, fun _ _ _ e => e⟩
  | (i, w) :: fs, us, gs, F, S, g, r, h => by
    unfold frzFs at h
    cases e : frzW S w with
    | none => simp [e] at h
    | some u =>
      simp only [e] at h
      rw [Option.map_eq_some_iff] at h
      obtain ⟨vs, h1, rfl⟩ := h
      cases r with
      | cons l r1 r2 =>
        have z1 := frz_st1 e
        obtain ⟨F1, g1, p1, q1⟩ := freeze_oneS g r1 e
        obtain ⟨F2, g2, p2, q2, n2, z2⟩ := freeze_allS g1 (r2.mono p1.ext p1.pre) (frzFs_mono z1 h1)
        refine ⟨F2, g2, p1.trans p2, .cons l (q1.post p2) q2, ?_, fun n d fs' e => z2 n d fs' (z1.2 n d fs' e)⟩
        show (u.nl && nlF vs) = true
        rw [frzW_nl e, n2]; rfl
end
def frzOR (x : W) (S : Sto) : Res := match x with
  | .loc n => match S[n]? with
    | some (.obj d fs) => match frzFs S fs with
      | some us => .ok (.ins d us) ((stF S fs).set n (.frz (.ins d us)))
      | none => .bad
    | some (.frz w) => if w.nl then .ok w S else .bad
    | _ => .bad
  | w => if w.nl then .ok w S else .bad
def mFrzO (a : Me) : Me := fun ρ S => (a ρ S).bind frzOR
theorem w_frzO {X : Cx} {T : Tab} {E : WX} {a : Expr} {p : Me} (h : PE X a (tW T X.K E p)) : PE X a (tW T X.K E (mFrzO p)) := by
  refine peM h ?_
  rintro σ H Q ⟨F, al, S, ρ, g, e, h⟩
  refine (tW.bind g e h).imp fun x H1 ⟨F1, al1, S1, w, m, r, h1⟩ => ?_
  have plain : ∀ w : W, Rw T X.K F1 al1 x w → RQ T X.K E σ F1 al1 H1 (if w.nl then .ok w S1 else .bad) Q → Q x H1 := fun w r h1 => by
    split at h1
    · exact h1.val m.g r
    · exact h1.elim
  cases w with
  | loc n =>
    cases r with
    | @loc a _ ha =>
      unfold frzOR at h1
      cases q : S1[n]? with
      | none => simp only [q] at h1; exact h1.elim
      | some c =>
        have hc := m.g.cell n a c ha q
        cases c with
        | obj d fs =>
          simp only [q] at h1
          cases e3 : frzFs S1 fs with
          | none => simp only [e3] at h1; exact h1.elim
          | some us =>
            simp only [e3] at h1
            obtain ⟨dx, gs, h5, h6, h7⟩ := hc
            obtain ⟨F3, g3, p3, q3, n3, z3⟩ := freeze_allS m.g h7 e3
            obtain ⟨dx4, gs4, i5, i6, i7⟩ := g3.cell n a _ ha (z3 n _ _ q)
            rw [h5] at i5
            cases i5
            have s1 : Same F3 (upd F3 a (.ins (T.c d) dx gs)) := fun b u e => by rw [upd_ne (ne_of_none e i6)]; exact e
            have hw2 : Rw T X.K (upd F3 a (.ins (T.c d) dx gs)) al1 (.ref a) (.ins d us) := .ins upd_same (q3.mono s1 (Pre.refl _))
            obtain ⟨a1, a2⟩ := g3.freeze ha i6 h5 hw2
            exact h1 _ _ _ _ (p3.trans a2) a1 hw2
        | frz w =>
          simp only [q] at h1
          exact plain w hc h1
        | _ => simp only [q] at h1; exact h1.elim
  | _ => exact plain _ r h1
/-! ### isinstance(x, a built-in type), x perhaps an instance of some own classes -/
def isTyOs (cs : List Nat) (t : Ty) (S : Sto) (w : W) : Option Bool := match derefF S w with
  | .ins d _ => if cs.contains d then some false else none
  | u => isTy t (deref S u)
def mIsiOs (cs : List Nat) (t : Ty) (a : Me) : Me := fun ρ S => (a ρ S).bind fun x S => optR S ((isTyOs cs t S x).map .bl)
def insTsB (K : PySem.W.Frag) (cl : List Addr) (cs : List Nat) (t : Ty) : Bool := cs.all fun c => insTB K (cl.getD c 0) t
theorem w_isOs {X : Cx} {T : Tab} {E : WX} {pos pp : Pos} {a : Expr} {p : Me} {cs : List Nat} {tp : Pos} {tx : Str} {t : Ty} (cl : ∀ c, cs.contains c = true → Cls X.K (T.c c)) (hk : insTsB X.K T.cls cs t = true) (hg : Gl X "isinstance") (hm : X.mg "isinstance" = none) (htg : Gl X tx) (htm : X.mg tx = none) (hv : bootBuiltins tx = some (.type t.s)) (hn : tx ≠ "__name__") (hdb : (tx == ("__debug__" : Str)) = false) (ha : PE X a (tW T X.K E p))
    (he : starEach [a, .Name tx tp] X.env = (false, eval a X.env) :: starEach [.Name tx tp] X.env) (he2 : starEach [.Name tx tp] X.env = (false, eval (.Name tx tp) X.env) :: starEach [] X.env) (hpl : (backTo pos (starEach [.Name tx tp] X.env)).any (·.1) = false) : PE X (.Call (.Name "isinstance" pp) [a, .Name tx tp] [] pos) (tW T X.K E (mIsiOs cs t p)) := by
  have ht : PE X (.Name tx tp) (tC (.ty t.s)) := pe_bltn htg htm hv rfl hn hdb
  refine peM (pe_callB call_isi hg hm PyProof.Rows.boot_isinstance (pa_cons ha (pa_cons ht pa_nil he2) he) (by decide) rfl he hpl) ?_
  rintro σ H Q ⟨F, al, S, ρ, g, e, h⟩
  refine (tW.bind g e h).imp fun x H1 ⟨F1, al1, S1, w, m, r, h1⟩ => ?_
  obtain ⟨z, e1, h3⟩ := optR_some h1
  rw [Option.map_eq_some_iff] at e1
  obtain ⟨k, e1, rfl⟩ := e1
  have r2 := r.derefF m.g
  unfold isTyOs at e1
  generalize derefF S1 w = u at e1 r2
  cases u with
  | ins d fs =>
    simp only at e1
    split at e1
    · rename_i hd
      cases e1
      have hk2 : insTB X.K (T.c d) t = true := List.all_eq_true.mp hk d (List.contains_iff_mem.mp hd)
      exact isO_sound (c := d) (cl d hd) hk2 m.g r2 (S := S1) (by show (if d = d then some false else none) = some false; rw [if_pos rfl]) (h3.val m.g (.bl _))
    · cases e1
  | _ => exact isi_sound m.g (vw_of m.g r2) e1 (h3.val m.g (.bl _))
end DL
set_option Elab.async false
set_option linter.all false
set_option maxRecDepth 100000
set_option maxHeartbeats 4000000
/-! Zs: a bool and a whole number added. -/
namespace DL
open PySem PySem.Spec L2 PyProof.Rows
def addB (x y : W) : Option W := match x, y with
  | .bl b, .int j => some (.int ((if b = true then (1 : Int) else 0) + j))
  | x, y => binop .Add x y
def mAddB (a b : Me) : Me := fun ρ S => (a ρ S).bind fun x S => (b ρ S).bind fun y S => optR S (addB (deref S x) (deref S y))
theorem op_add_bi {X : Cx} : OpR X (binaryOp .Add) (fun x y H Q => ∃ b j, x = .bl b ∧ y = .int j ∧ Q (.int ((if b = true then (1 : Int) else 0) + j)) H) := by
  intro pins s σ H x y v u Q I rx ry h
  obtain ⟨b, j, rfl, rfl, q⟩ := h
  cases (show v = .bool b from rx)
  obtain ⟨t', rfl⟩ := ry
  exact PySem.IntBool.add_bool_int ⟨.int _, H, I.tok _, ⟨_, rfl⟩, q⟩
theorem w_addB {X : Cx} {T : Tab} {E : WX} {pos : Pos} {a b : Expr} {p q : Me} (ha : PE X a (tW T X.K E p)) (hb : PE X b (tW T X.K E q)) : PE X (.BinOp a .Add b pos) (tW T X.K E (mAddB p q)) := by
  refine peM (pe_op (op_add_bi.or (op_bin .Add)) ha hb) ?_
  rintro σ H Q ⟨F, al, S, ρ, g, e, h⟩
  refine (tW.bind g e h).imp fun x H1 ⟨F1, al1, S1, w, m, r, h1⟩ => ?_
  refine (tW.bind m.g m.e h1).imp fun y H2 ⟨F2, al2, S2, u, m2, r2, h2⟩ => ?_
  have v1 := vw_of m2.g (r.post m2.p)
  have v2 := vw_of m2.g r2
  obtain ⟨z, e1, h3⟩ := optR_some h2
  unfold addB at e1
  split at e1
  · rename_i b j q1 q2
    rw [q1] at v1
    rw [q2] at v2
    cases e1
    cases v1.bl
    cases v2.int
    exact .inl ⟨_, _, rfl, rfl, h3.val m2.g (.int _)⟩
  · exact .inr (bin_sound (E := E) (σ := σ) m2.g v1 v2 (by rw [e1]; exact h3))
end DL
set_option Elab.async false
set_option linter.all false
set_option maxRecDepth 100000
set_option maxHeartbeats 4000000
namespace K05
open PySem PySem.Spec L2 DL
def top (i : Nat) : Stmt := PySem.Challenge.pw_hushrules_k05_states_known.main.body.getD i (.Pass ⟨0, 0, 0, 0⟩)
/-! ### what each def does -/
def r__law_spoilt (psi : Fn) : Fn := fnW 2 4 (sSeq (sIf (bOr (bNot (bTest (mIsi .tuple (mVar 1)))) (bOr (bTest (mCmp .Eq (mVar 1) (mTup (mNil)))) (bTest (mCmp .Eq (mCall f__law_take (mCons (mVar 0) (mCons (mCon (.int 6)) (mNil)))) (mCon (.int 0)))))) (sSeq (sAsg (.nm 2) (mCall f__law_take (mCons (mVar 0) (mCons (mCon (.int 4)) (mNil))))) (sSeq (sIf (bAnd (bTest (mCmp .Eq (mVar 2) (mCon (.int 0)))) (bTest (mIsi .int (mVar 1)))) (sSeq (sRet (mAddB (mVar 1) (mIdx (mTup (mCons (mCon (.int 1)) (mCons (mNeg (mCon (.int 1))) (mCons (mCon (.int 4)) (mCons (mNeg (mCon (.int 5))) (mNil)))))) (mCall f__law_take (mCons (mVar 0) (mCons (mCon (.int 4)) (mNil))))))) (sNext)) (sNext)) (sSeq (sIf (bAnd (bTest (mCmp .Eq (mVar 2) (mCon (.int 1)))) (bTest (mIsi .str (mVar 1)))) (sSeq (sRet (mIdx (mTup (mCons (mCon (.str "is")) (mCons (mCon (.str "not")) (mCons (mCon (.str "below")) (mCons (mCon (.str "hushed")) (mCons (mCon (.str "awake")) (mCons (mCon (.str "put")) (mCons (mCon (.str "turn")) (mCons (mCon (.str "Is")) (mCons (mCon (.str "")) (mNil))))))))))) (mCall f__law_take (mCons (mVar 0) (mCons (mCon (.int 9)) (mNil)))))) (sNext)) (sNext)) (sSeq (sRet (mCall f__law_any (mCons (mVar 0) (mNil)))) (sNext))))) (sNext)) (sSeq (sPar [2, 3] (mCons (mCall f__law_take (mCons (mVar 0) (mCons (mCon (.int 9)) (mNil)))) (mCons (mCall f__law_take (mCons (mVar 0) (mCons (mPrim .len (mCons (mVar 1) (mNil))) (mNil)))) (mNil)))) (sSeq (sIf (bTest (mCmp .Eq (mVar 2) (mCon (.int 0)))) (sSeq (sRet (mBin .Add (mSlc (mVar 1) (mCon .non) (mPart (mVar 3))) (mSlc (mVar 1) (mPart (mBin .Add (mVar 3) (mCon (.int 1)))) (mCon .non)))) (sNext)) (sNext)) (sSeq (sIf (bTest (mCmp .Eq (mVar 2) (mCon (.int 1)))) (sSeq (sRet (mBin .Add (mBin .Add (mSlc (mVar 1) (mCon .non) (mPart (mVar 3))) (mTup (mCons (mIdx (mVar 1) (mVar 3)) (mNil)))) (mSlc (mVar 1) (mPart (mVar 3)) (mCon .non)))) (sNext)) (sNext)) (sSeq (sIf (bTest (mCmp .Eq (mVar 2) (mCon (.int 2)))) (sSeq (sRet (mIdx (mLst (mCons (mPrim .list (mCons (mVar 1) (mNil))) (mCons (mRevT (mVar 1)) (mCons (mBin .Add (mVar 1) (mTup (mCons (mCall f__law_any (mCons (mVar 0) (mNil))) (mNil)))) (mNil))))) (mCall f__law_take (mCons (mVar 0) (mCons (mCon (.int 3)) (mNil)))))) (sNext)) (sNext)) (sSeq (sIf (bTest (mCmp .Eq (mVar 2) (mCon (.int 3)))) (sSeq (sRet (mBin .Add (mBin .Add (mSlc (mVar 1) (mCon .non) (mPart (mVar 3))) (mTup (mCons (mIdx (mVar 1) (mBin .Sub (mVar 3) (mCon (.int 1)))) (mNil)))) (mSlc (mVar 1) (mPart (mBin .Add (mVar 3) (mCon (.int 1)))) (mCon .non)))) (sNext)) (sNext)) (sSeq (sRet (mBin .Add (mBin .Add (mSlc (mVar 1) (mCon .non) (mPart (mVar 3))) (mTup (mCons (mCall psi (mCons (mVar 0) (mCons (mIdx (mVar 1) (mVar 3)) (mNil)))) (mNil)))) (mSlc (mVar 1) (mPart (mBin .Add (mVar 3) (mCon (.int 1)))) (mCon .non)))) (sNext))))))))
def y__law_spoilt : Nat → Fn := fun m => m.rec (fun _ _ => .bad) fun _ psi => r__law_spoilt psi
def f__law_spoilt : Fn := y__law_spoilt 6
def f_are_values : Fn := fnW 2 4 (sSeq (sIf (bOr (bNot (bTest (mIsiOs [0, 2] .tuple (mVar 1)))) (bTest (mCmp .NotEq (mPrim .len (mCons (mVar 1) (mNil))) (mPrim .len (mCons (mFld 0 0 (mVar 0)) (mNil)))))) (sSeq (sRet (mCon (.bl false))) (sNext)) (sNext)) (sSeq (sRet (mPrim .all (mCons (mLc false [2, 3] (.tup [2, 3]) (jZips (mVar 1) (mFld 0 0 (mVar 0))) (bYes) (mCallP f_is_from (mCons (mVar 2) (mCons (mCon (.int 0)) (mCons (mVar 3) (mNil)))))) (mNil)))) (sNext)))
def f_begun : Fn := fnW 2 2 (sSeq (sIf (bNot (bTest (mCallP f_are_values (mCons (mVar 0) (mCons (mVar 1) (mNil)))))) (sSeq (sRaise 12) (sNext)) (sNext)) (sSeq (sRet (mTup (mCons (mVar 1) (mCons (mBin .Mult (mTup (mCons (mCon (.int 0)) (mNil))) (mPrim .len (mCons (mFld 0 1 (mVar 0)) (mNil)))) (mNil))))) (sNext)))
def f_Watch___init__ : Fn := fnW 4 5 (sSeq (sAsg (.nm 4) (mCallP f_begun (mCons (mVar 1) (mCons (mVar 2) (mNil))))) (sSeq (sExpr (mCallP f_look_off (mCons (mVar 1) (mCons (mVar 3) (mNil))))) (sSeq (sSetFld 2 13 (mVar 0) (mVar 1)) (sSeq (sSetFld 2 14 (mVar 0) (mMake 19 f_Stand___init__ (mCons (mCon (.int 0)) (mCons (mVar 4) (mCons (mVar 3) (mCons (mBin .Mult (mTup (mCons (mCon (.int 0)) (mNil))) (mLenI 0 f_Book___len__ (mVar 1))) (mNil))))))) (sSeq (sSetFld 2 15 (mVar 0) (mNLst (mNil))) (sNext))))))
def f_Watch_go : Fn := fnW 2 9 (sSeq (sExpr (mCallP f_look_beats (mCons (mVar 1) (mNil)))) (sSeq (sAsg (.nm 2) (mFld 2 14 (mVar 0))) (sSeq (sAsg (.nm 3) (mMakeZ 1 f_Track___init__ (mCons (mFld 2 13 (mVar 0)) (mCons (mFld 19 9 (mVar 2)) (mCons (mFld 19 11 (mVar 2)) (mNil)))))) (sSeq (sAsg (.nm 4) (mPrim .tuple (mCons (mLc false [6] (.nm 6) (jRange1 (mLenI 0 f_Book___len__ (mFld 2 13 (mVar 0)))) (bYes) (mMeth 1 f_Track_often (mVar 3) (mCons (mVar 6) (mCons (mVar 1) (mNil))))) (mNil)))) (sSeq (sAsg (.nm 5) (mPrim .tuple (mCons (mLc false [7, 8] (.tup [7, 8]) (jZips (mFld 19 12 (mVar 2)) (mVar 4)) (bYes) (mBin .Add (mVar 7) (mVar 8))) (mNil)))) (sSeq (sExpr (mMethC 2 f_Watch_done (mVar 0) (mCons (mMake 19 f_Stand___init__ (mCons (mBin .Add (mFld 19 10 (mVar 2)) (mVar 1)) (mCons (mIdx (mFld 1 2 (mVar 3)) (mMeth 1 f_Track_spot (mVar 3) (mCons (mVar 1) (mNil)))) (mCons (mFld 19 11 (mVar 2)) (mCons (mVar 5) (mNil)))))) (mNil)))) (sSeq (sRet (mVar 4)) (sNext))))))))
def f_is_state : Fn := fnW 2 4 (sSeq (sIf (bOr (bNot (bTest (mIsiOs [0, 2] .tuple (mVar 1)))) (bOr (bTest (mCmp .NotEq (mPrim .len (mCons (mVar 1) (mNil))) (mCon (.int 2)))) (bNot (bTest (mCallP f_are_values (mCons (mVar 0) (mCons (mIdx (mVar 1) (mCon (.int 0))) (mNil)))))))) (sSeq (sRet (mCon (.bl false))) (sNext)) (sNext)) (sSeq (sAsg (.nm 2) (mIdx (mVar 1) (mCon (.int 1)))) (sSeq (sIf (bOr (bNot (bTest (mIsiOs [0, 2] .tuple (mVar 2)))) (bTest (mCmp .NotEq (mPrim .len (mCons (mVar 2) (mNil))) (mPrim .len (mCons (mFld 0 1 (mVar 0)) (mNil)))))) (sSeq (sRet (mCon (.bl false))) (sNext)) (sNext)) (sSeq (sRet (mPrim .all (mCons (mLc false [3] (.nm 3) (jE (mVar 2)) (bYes) (mCallP f_is_from (mCons (mVar 3) (mCons (mCon (.int 0)) (mCons (mCon (.int 3)) (mNil)))))) (mNil)))) (sNext)))))
def f__law_are : Fn := fnW 2 4 (sSeq (sIf (bOr (bNot (bTest (mIsiOs [0, 2] .tuple (mVar 0)))) (bTest (mCmp .NotEq (mPrim .len (mCons (mVar 0) (mNil))) (mPrim .len (mCons (mVar 1) (mNil)))))) (sSeq (sRet (mCon (.bl false))) (sNext)) (sNext)) (sSeq (sRet (mPrim .all (mCons (mLc false [2, 3] (.tup [2, 3]) (jZip (mVar 0) (mVar 1)) (bYes) (mCallP f__law_whole (mCons (mVar 2) (mCons (mCon (.int 0)) (mCons (mVar 3) (mNil)))))) (mNil)))) (sNext)))
def f__law_due : Fn := fnW 3 3 (sSeq (sIf (bOr (bNot (bTest (mIsiOs [0, 2] .tuple (mVar 2)))) (bTest (mCmp .NotEq (mPrim .len (mCons (mVar 2) (mNil))) (mCon (.int 2))))) (sSeq (sRet (mCon (.bl false))) (sNext)) (sNext)) (sSeq (sRet (mAnd (mCallP f__law_are (mCons (mIdx (mVar 2) (mCon (.int 0))) (mCons (mVar 0) (mNil)))) (mCallP f__law_are (mCons (mIdx (mVar 2) (mCon (.int 1))) (mCons (mBin .Mult (mTup (mCons (mCon (.int 3)) (mNil))) (mVar 1)) (mNil)))))) (sNext)))
def c_new_Watch_2 : Fn := fun ws S => f_Watch___init__ (ws ++ [.tup []]) S
def b_law_3_0 : Ms := sIf (bOr (bNot (bTest (mIsi .bool (mVar 13)))) (bTest (mCmp .NotEq (mVar 13) (mCallP f__law_due (mCons (mVar 3) (mCons (mVar 6) (mCons (mVar 12) (mNil)))))))) (sSeq (sRet (mCon (.bl false))) (sNext)) (sNext)
def b_law_3t0 : Ms := sSeq b_law_3_0 sNext
def b_law_3 : Ms := b_law_3t0
def b_law_2_0 : Ms := sFor (jE (mTup (mCons (mCallP f_is_state (mCons (mVar 5) (mCons (mVar 12) (mNil)))) (mCons (mCallP f_is_state (mCons (mVar 5) (mCons (mVar 12) (mNil)))) (mNil))))) (.nm 13) (b_law_3)
def b_law_2t0 : Ms := sSeq b_law_2_0 sNext
def b_law_2 : Ms := b_law_2t0
def b_law_1_15 : Ms := sIf (bTest (mCmp .IsNot (mCallP f_is_state (mCons (mVar 5) (mCons (mVar 7) (mNil)))) (mCon (.bl true)))) (sSeq (sRet (mCon (.bl false))) (sNext)) (sNext)
def b_law_1t15 : Ms := sSeq b_law_1_15 sNext
def b_law_1_14 : Ms := sFor (jE (mBin .Add (mVar 9) (mLc false [14] (.nm 14) (jRange1 (mCon (.int 6))) (bYes) (mCall f__law_spoilt (mCons (mVar 2) (mCons (mVar 7) (mNil))))))) (.nm 12) (b_law_2)
def b_law_1t14 : Ms := sSeq b_law_1_14 b_law_1t15
def b_law_1_13 : Ms := sAsg (.nm 9) (mNAddL (mVar 9) (mLst (mCons (mVar 5) (mCons (mTup (mCons (mVar 5) (mCons (mIdx (mVar 7) (mCon (.int 1))) (mNil)))) (mCons (mTup (mCons (mIdx (mVar 7) (mCon (.int 0))) (mCons (mVar 5) (mNil)))) (mCons (mTup (mCons (mVar 7) (mCons (mVar 7) (mNil)))) (mCons (mCon (.str "0\n0")) (mCons (mVar 10) (mCons (mFrzO (mVar 11)) (mCons (mTup (mCons (mFrzO (mVar 11)) (mCons (mFrzO (mVar 11)) (mNil)))) (mNil)))))))))))
def b_law_1t13 : Ms := sSeq b_law_1_13 b_law_1t14
def b_law_1_12 : Ms := sExpr (mMethC 2 f_Watch_go (mVar 11) (mCons (mCon (.int 0)) (mNil)))
def b_law_1t12 : Ms := sSeq b_law_1_12 b_law_1t13
def b_law_1_11 : Ms := sExpr (mMethC 2 f_Watch_go (mVar 11) (mCons (mCon (.int 1)) (mNil)))
def b_law_1t11 : Ms := sSeq b_law_1_11 b_law_1t12
def b_law_1_10 : Ms := sAsg (.nm 11) (mMakeC 2 c_new_Watch_2 (mCons (mVar 10) (mCons (mTup (mCons (mCon (.int 1)) (mNil))) (mNil))))
def b_law_1t10 : Ms := sSeq b_law_1_10 b_law_1t11
def b_law_1_9 : Ms := sAsg (.nm 10) (mMake 0 f_Book___init__ (mCons (mTup (mCons (mCon (.int 2)) (mNil))) (mCons (mBin .Mult (mTup (mCons (mTup (mCons (mTup (mNil)) (mCons (mTup (mNil)) (mCons (mTup (mNil)) (mCons (mTup (mNil)) (mNil)))))) (mNil))) (mCon (.int 2))) (mNil))))
def b_law_1t9 : Ms := sSeq b_law_1_9 b_law_1t10
def b_law_1_8 : Ms := sExpr (mApp (mVar 9) (mTup (mCons (mPrim .tuple (mCons (mLc false [15] (.nm 15) (jE (mVar 3)) (bYes) (mBin .Sub (mVar 15) (mCon (.int 1)))) (mNil))) (mCons (mBin .Mult (mTup (mCons (mCon (.int 0)) (mNil))) (mVar 6)) (mNil)))))
def b_law_1t8 : Ms := sSeq b_law_1_8 b_law_1t9
def b_law_1_7 : Ms := sExpr (mApp (mVar 9) (mCall f__law_state (mCons (mVar 2) (mCons (mVar 3) (mCons (mVar 6) (mNil))))))
def b_law_1t7 : Ms := sSeq b_law_1_7 b_law_1t8
def b_law_1_6 : Ms := sAsg (.nm 9) (mNAddL (mVar 9) (mLst (mCons (mTup (mCons (mIdx (mVar 7) (mCon (.int 0))) (mCons (mBin .Mult (mTup (mCons (mCon (.int 0)) (mNil))) (mBin .Add (mVar 6) (mCon (.int 1)))) (mNil)))) (mCons (mTup (mCons (mVar 3) (mCons (mIdx (mVar 7) (mCon (.int 1))) (mNil)))) (mCons (mBin .Add (mVar 7) (mTup (mCons (mTup (mNil)) (mNil)))) (mNil))))))
def b_law_1t6 : Ms := sSeq b_law_1_6 b_law_1t7
def b_law_1_5 : Ms := sAsg (.nm 9) (mNLst (mCons (mVar 7) (mCons (mVar 8) (mCons (mCall f__law_spoilt (mCons (mVar 2) (mCons (mVar 8) (mNil)))) (mCons (mCall f__law_any (mCons (mVar 2) (mNil))) (mCons (mTup (mCons (mIdx (mVar 7) (mCon (.int 0))) (mCons (mBin .Mult (mTup (mCons (mCon (.int 2)) (mNil))) (mVar 6)) (mNil)))) (mCons (mTup (mCons (mIdx (mVar 7) (mCon (.int 0))) (mCons (mBin .Mult (mTup (mCons (mCon (.int 3)) (mNil))) (mVar 6)) (mNil)))) (mNil))))))))
def b_law_1t5 : Ms := sSeq b_law_1_5 b_law_1t6
def b_law_1_4 : Ms := sAsg (.nm 8) (mCall f__law_spoilt (mCons (mVar 2) (mCons (mVar 7) (mNil))))
def b_law_1t4 : Ms := sSeq b_law_1_4 b_law_1t5
def b_law_1_3 : Ms := sAsg (.nm 7) (mCall f__law_state (mCons (mVar 2) (mCons (mVar 3) (mCons (mVar 6) (mNil)))))
def b_law_1t3 : Ms := sSeq b_law_1_3 b_law_1t4
def b_law_1_2 : Ms := sPar [5, 6] (mCons (mMake 0 f_Book___init__ (mCons (mVar 3) (mCons (mVar 4) (mNil)))) (mCons (mPrim .len (mCons (mVar 4) (mNil))) (mNil)))
def b_law_1t2 : Ms := sSeq b_law_1_2 b_law_1t3
def b_law_1_1 : Ms := sAsg (.tup [3, 4]) (mCall f__law_drawn (mCons (mVar 2) (mNil)))
def b_law_1t1 : Ms := sSeq b_law_1_1 b_law_1t2
def b_law_1_0 : Ms := sAsg (.nm 2) (mCall f__law_bag (mCons (mVar 0) (mCons (mVar 1) (mNil))))
def b_law_1t0 : Ms := sSeq b_law_1_0 b_law_1t1
def b_law_1 : Ms := b_law_1t0
def b_law_0_1 : Ms := sRet (mCon (.bl true))
def b_law_0t1 : Ms := sSeq b_law_0_1 sNext
def b_law_0_0 : Ms := sFor (jRange1 (mPrim .max (mCons (mCon (.int 5)) (mCons (mPrim .min (mCons (mCon (.int 12)) (mCons (mPrim .len (mCons (mVar 0) (mNil))) (mNil)))) (mNil))))) (.nm 1) (b_law_1)
def b_law_0t0 : Ms := sSeq b_law_0_0 b_law_0t1
def f_law : Fn := fnW 1 16 (b_law_0t0)
/-! ### the module's names -/
structure Glo (K : PySem.W.Frag) (mg : Str → Option Value) : Prop where
  b_len : mg "len" = none
  b_abs : mg "abs" = none
  b_range : mg "range" = none
  b_tuple : mg "tuple" = none
  b_isinstance : mg "isinstance" = none
  b_int : mg "int" = none
  b_str : mg "str" = none
  b_list : mg "list" = none
  b_bool : mg "bool" = none
  b_all : mg "all" = none
  b_zip : mg "zip" = none
  b_any : mg "any" = none
  b_enumerate : mg "enumerate" = none
  b_OverflowError : mg "OverflowError" = none
  b_max : mg "max" = none
  b_divmod : mg "divmod" = none
  b_min : mg "min" = none
  c_MOST_WHEELS : ∀ P w, GloW (tab P w K) K mg "MOST_WHEELS" (.int 3)
  c_MOST_BEGINNINGS : ∀ P w, GloW (tab P w K) K mg "MOST_BEGINNINGS" (.int 24)
  c_MOST_PLACES : ∀ P w, GloW (tab P w K) K mg "MOST_PLACES" (.int 4)
  c_LEAST_PLACES : ∀ P w, GloW (tab P w K) K mg "LEAST_PLACES" (.int 2)
  c_MOST_HUSHED : ∀ P w, GloW (tab P w K) K mg "MOST_HUSHED" (.int 3)
  c_RULED : ∀ P w, GloW (tab P w K) K mg "RULED" (.tup [.str "hushed", .str "awake"])
  c_PLACED : ∀ P w, GloW (tab P w K) K mg "PLACED" (.tup [.str "is", .str "not", .str "below"])
  c_PARTS : ∀ P w, GloW (tab P w K) K mg "PARTS" (.int 4)
  c_MOST_CONDITIONS : ∀ P w, GloW (tab P w K) K mg "MOST_CONDITIONS" (.int 4)
  c_CHANGES : ∀ P w, GloW (tab P w K) K mg "CHANGES" (.tup [.str "put", .str "turn"])
  c_MOST_CHANGES : ∀ P w, GloW (tab P w K) K mg "MOST_CHANGES" (.int 3)
  c_MOST_RULES : ∀ P w, GloW (tab P w K) K mg "MOST_RULES" (.int 5)
  c_MOST_BEATS : ∀ P w, GloW (tab P w K) K mg "MOST_BEATS" (.int 1000000000000000000000000000000000000000000000000000000000000)
  k_Book : Cls K (He.ga K "Book")
  k_Watch : Cls K (He.ga K "Watch")
  k_Stand : Cls K (He.ga K "Stand")
  k_Track : Cls K (He.ga K "Track")
  n_Book_wheels : NoAttr K (He.ga K "Book") "wheels"
  n_Book_rules : NoAttr K (He.ga K "Book") "rules"
  n_Stand_beats : NoAttr K (He.ga K "Stand") "beats"
  n_Stand_place : NoAttr K (He.ga K "Stand") "place"
  n_Stand_out : NoAttr K (He.ga K "Stand") "out"
  n_Stand_tally : NoAttr K (He.ga K "Stand") "tally"
  n_Watch_of_book : NoAttr K (He.ga K "Watch") "of_book"
  n_Watch_stand : NoAttr K (He.ga K "Watch") "stand"
  n_Watch_past : NoAttr K (He.ga K "Watch") "past"
  n_Track_states : NoAttr K (He.ga K "Track") "states"
  n_Track_deeds : NoAttr K (He.ga K "Track") "deeds"
  n_Track_begin : NoAttr K (He.ga K "Track") "begin"
  n_Track_length : NoAttr K (He.ga K "Track") "length"
  g_HushError : mg "HushError" = some (.ref (He.ga K "HushError"))
  g_NoState : mg "NoState" = some (.ref (He.ga K "NoState"))
  g_NoOff : mg "NoOff" = some (.ref (He.ga K "NoOff"))
  x_NoState : ExcK K (He.ga K "NoState") [.type "ValueError", .type "Exception", .type "BaseException", .type "object"] "ValueError.__new__"
  x_NoOff : ExcK K (He.ga K "NoOff") [.type "ValueError", .type "Exception", .type "BaseException", .type "object"] "ValueError.__new__"
  t_0 : oexGB K (He.ga K "NoBook") [.type "ValueError", .type "Exception", .type "BaseException", .type "object"] "ValueError.__new__" = true
  t_1 : errB K (He.ga K "NoBook") "at" (He.fAd K ("NoBook", some "__init__")) = true
  t_2 : ownAtB K (He.ga K "HushError") "__init__" "ValueError.__init__" = true
  t_3 : insTsB K (clsL K) [0, 2] .tuple = true
  t_4 : oexGB K (He.ga K "NoBeat") [.type "OverflowError", .type "ArithmeticError", .type "Exception", .type "BaseException", .type "object"] "OverflowError.__new__" = true
  t_5 : errB K (He.ga K "NoBeat") "beats" (He.fAd K ("NoBeat", some "__init__")) = true
section
variable {P : Program} {w : World} {K : PySem.W.Frag} {mg : Str → Option Value} {base : Heap}
abbrev s__law_bag : Stmt := top 70
theorem sc__law_bag : FnScope ["_law_script", "_law_at", "_law_cell", "_law_great", "_law_primes"] ["_law_script", "_law_at"] (defScope s__law_bag) := ⟨rfl, rfl, rfl, by decide +kernel, rfl, by decide +kernel, by decide +kernel⟩
theorem ok__law_bag (G : Glo K mg) {dvs : List V} {kws : List (Str × V)} {f : Addr} {fd : FuncData} (Fd : FunD K "_law_bag" "_law_bag" (defArgs s__law_bag) (defBody s__law_bag) (defScope s__law_bag) dvs kws f fd) : FnOk P w K mg base (L2.CX P w) 1 f fd ["_law_script", "_law_at"] (spW (tab P w K) K 2 f__law_bag) := by
  have nd := (sc__law_bag).nd
  refine fnW_ok (k := 0) Fd sc__law_bag fun cdv A outer s H E hr => ?_
  have tk := takes_of (X := cxOf (L2.CX P w) P w K mg base ["_law_script", "_law_at", "_law_cell", "_law_great", "_law_primes"] "_law_bag" (defScope s__law_bag) f cdv A outer s H E) (E := E) rfl rfl rfl rfl
  exact s_cons (s_set (i := 2) nd rfl (.inl rfl) (w_int) rfl (.inl rfl))
      (s_cons (s_if (b_cmp hr (w_var (i := 1) rfl (.inl rfl) rfl rfl) (w_len rfl G.b_len (w_cons (w_var (i := 0) rfl (.inl rfl) rfl rfl) (w_nil) rfl) rfl rfl) rfl) (s_cons (s_set (i := 2) nd rfl (.inl rfl) (w_idx (w_var (i := 0) rfl (.inl rfl) rfl rfl) (w_var (i := 1) rfl (.inl rfl) rfl rfl) (fun _ _ => rfl)) rfl (.inl rfl))
      (s_nil)) (s_nil))
      (s_cons (s_set (i := 3) nd rfl (.inl rfl) (w_int) rfl (.inl rfl))
      (s_cons (s_if (b_cmp hr (w_abs rfl G.b_abs (w_cons (w_var (i := 2) rfl (.inl rfl) rfl rfl) (w_nil) rfl) rfl rfl) (w_bin (w_int) (w_int)) rfl) (s_cons (s_set (i := 3) nd rfl (.inl rfl) (w_abs rfl G.b_abs (w_cons (w_var (i := 2) rfl (.inl rfl) rfl rfl) (w_nil) rfl) rfl rfl) rfl (.inl rfl))
      (s_nil)) (s_nil))
      (s_cons (s_set (i := 4) nd rfl (.inl rfl) (w_lst (w_cons (w_int) (w_cons (w_int) (w_cons (w_int) (w_cons (w_int) (w_cons (w_int) (w_cons (w_int) (w_cons (w_int) (w_cons (w_int) (w_nil) rfl) rfl) rfl) rfl) rfl) rfl) rfl) rfl)) rfl (.inl rfl))
      (s_cons (s_ret (w_nlst (w_cons (w_var (i := 3) rfl (.inl rfl) rfl rfl) (w_cons (w_bin (w_bin (w_bin (w_bin (w_bin (w_var (i := 2) rfl (.inl rfl) rfl rfl) (w_int)) (w_bin (w_int) (w_var (i := 1) rfl (.inl rfl) rfl rfl))) (w_int)) (w_int)) (w_idx (w_var (i := 4) rfl (.inl rfl) rfl rfl) (w_bin (w_var (i := 1) rfl (.inl rfl) rfl rfl) (w_int)) (fun _ _ => rfl))) (w_cons (w_int) (w_nil) rfl) rfl) rfl)))
      (s_nil))))))
abbrev s__law_take : Stmt := top 71
theorem sc__law_take : FnScope ["_law_bag_here", "_law_many", "_law_digit"] ["_law_bag_here", "_law_many"] (defScope s__law_take) := ⟨rfl, rfl, rfl, by decide +kernel, rfl, by decide +kernel, by decide +kernel⟩
theorem ok__law_take (G : Glo K mg) {dvs : List V} {kws : List (Str × V)} {f : Addr} {fd : FuncData} (Fd : FunD K "_law_take" "_law_take" (defArgs s__law_take) (defBody s__law_take) (defScope s__law_take) dvs kws f fd) : FnOk P w K mg base (L2.CX P w) 1 f fd ["_law_bag_here", "_law_many"] (spW (tab P w K) K 2 f__law_take) := by
  have nd := (sc__law_take).nd
  refine fnW_ok (k := 0) Fd sc__law_take fun cdv A outer s H E hr => ?_
  have tk := takes_of (X := cxOf (L2.CX P w) P w K mg base ["_law_bag_here", "_law_many", "_law_digit"] "_law_take" (defScope s__law_take) f cdv A outer s H E) (E := E) rfl rfl rfl rfl
  exact s_cons (s_if (b_cmp hr (w_idx (w_var (i := 0) rfl (.inl rfl) rfl rfl) (w_int) (fun _ _ => rfl)) (w_int) rfl) (s_cons (s_set (i := 2) nd rfl (.inl rfl) (w_bin (w_idx (w_var (i := 0) rfl (.inl rfl) rfl rfl) (w_int) (fun _ _ => rfl)) (w_var (i := 1) rfl (.inl rfl) rfl rfl)) rfl (.inl rfl))
      (s_cons (s_setIx (w_var (i := 0) rfl (.inl rfl) rfl rfl) (w_int) (w_bin (w_idx (w_var (i := 0) rfl (.inl rfl) rfl rfl) (w_int) (fun _ _ => rfl)) (w_var (i := 1) rfl (.inl rfl) rfl rfl)) rfl rfl rfl (fun _ => rfl))
      (s_cons (s_ret (w_var (i := 2) rfl (.inl rfl) rfl rfl))
      (s_nil)))) (s_nil))
      (s_cons (s_setIx (w_var (i := 0) rfl (.inl rfl) rfl rfl) (w_int) (w_bin (w_idx (w_var (i := 0) rfl (.inl rfl) rfl rfl) (w_int) (fun _ _ => rfl)) (w_int)) rfl rfl rfl (fun _ => rfl))
      (s_cons (s_setIx (w_var (i := 0) rfl (.inl rfl) rfl rfl) (w_int) (w_bin (w_bin (w_bin (w_bin (w_idx (w_var (i := 0) rfl (.inl rfl) rfl rfl) (w_int) (fun _ _ => rfl)) (w_int)) (w_bin (w_bin (w_int) (w_idx (w_var (i := 0) rfl (.inl rfl) rfl rfl) (w_int) (fun _ _ => rfl))) (w_idx (w_var (i := 0) rfl (.inl rfl) rfl rfl) (w_int) (fun _ _ => rfl)))) (w_int)) (w_int)) rfl rfl rfl (fun _ => rfl))
      (s_cons (s_ret (w_bin (w_bin (w_bin (w_bin (w_idx (w_var (i := 0) rfl (.inl rfl) rfl rfl) (w_int) (fun _ _ => rfl)) (w_int)) (w_int)) (w_int)) (w_var (i := 1) rfl (.inl rfl) rfl rfl)))
      (s_nil))))
abbrev s__law_wheels : Stmt := top 72
theorem sc__law_wheels : FnScope ["_law_bag_here", "_law_found", "_law_many", "_law_turn", "_law_places"] ["_law_bag_here"] (defScope s__law_wheels) := ⟨rfl, rfl, rfl, by decide +kernel, rfl, by decide +kernel, by decide +kernel⟩
theorem ok__law_wheels (G : Glo K mg) {dvs : List V} {kws : List (Str × V)} {f : Addr} {fd : FuncData} (h__law_take : CallF (tab P w K) P w K mg base 1 "_law_take" f__law_take) (Fd : FunD K "_law_wheels" "_law_wheels" (defArgs s__law_wheels) (defBody s__law_wheels) (defScope s__law_wheels) dvs kws f fd) : FnOk P w K mg base (L2.CX P w) 2 f fd ["_law_bag_here"] (spW (tab P w K) K 1 f__law_wheels) := by
  have nd := (sc__law_wheels).nd
  refine fnW_ok (k := 1) Fd sc__law_wheels fun cdv A outer s H E hr => ?_
  have tk := takes_of (X := cxOf (L2.CX P w) P w K mg base ["_law_bag_here", "_law_found", "_law_many", "_law_turn", "_law_places"] "_law_wheels" (defScope s__law_wheels) f cdv A outer s H E) (E := E) rfl rfl rfl rfl
  exact s_cons (s_par2 rfl nd rfl rfl (by decide) rfl rfl (w_cons (w_nlst (w_nil)) (w_cons (w_int) (w_nil) rfl) rfl) rfl rfl)
      (s_cons (s_for (passes_of rfl) rfl (i_range1 rfl G.b_range (w_bin (w_int) (w_call h__law_take hr (by decide) rfl tk (w_cons (w_var (i := 0) rfl (.inl rfl) rfl rfl) (w_cons (w_int) (w_nil) rfl) rfl) rfl rfl rfl)) rfl) (g_name (i := 3) nd rfl (.inl rfl) (.inl rfl)) (s_cons (s_set (i := 4) nd rfl (.inl rfl) (w_bin (w_int) (w_call h__law_take hr (by decide) rfl tk (w_cons (w_var (i := 0) rfl (.inl rfl) rfl rfl) (w_cons (w_int) (w_nil) rfl) rfl) rfl rfl rfl)) rfl (.inl rfl))
      (s_cons (s_if (b_cmp hr (w_bin (w_var (i := 2) rfl (.inl rfl) rfl rfl) (w_var (i := 4) rfl (.inl rfl) rfl rfl)) (w_int) rfl) (s_cons (s_expr (w_app (w_var (i := 1) rfl (.inl rfl) rfl rfl) (w_var (i := 4) rfl (.inl rfl) rfl rfl) rfl rfl rfl rfl rfl) rfl)
      (s_cons (s_set (i := 2) nd rfl (.inl rfl) (w_bin (w_var (i := 2) rfl (.inl rfl) rfl rfl) (w_var (i := 4) rfl (.inl rfl) rfl rfl)) rfl (.inl rfl))
      (s_nil))) (s_nil))
      (s_nil))) (fun _ => rfl))
      (s_cons (s_ret (w_tuple rfl G.b_tuple (w_cons (w_var (i := 1) rfl (.inl rfl) rfl rfl) (w_nil) rfl) rfl rfl))
      (s_nil)))
abbrev s__law_condition : Stmt := top 73
theorem sc__law_condition : FnScope ["_law_bag_here", "_law_wheels_here", "_law_many", "_law_word", "_law_wheel"] ["_law_bag_here", "_law_wheels_here", "_law_many"] (defScope s__law_condition) := ⟨rfl, rfl, rfl, by decide +kernel, rfl, by decide +kernel, by decide +kernel⟩
theorem ok__law_condition (G : Glo K mg) {dvs : List V} {kws : List (Str × V)} {f : Addr} {fd : FuncData} (h__law_take : CallF (tab P w K) P w K mg base 1 "_law_take" f__law_take) (Fd : FunD K "_law_condition" "_law_condition" (defArgs s__law_condition) (defBody s__law_condition) (defScope s__law_condition) dvs kws f fd) : FnOk P w K mg base (L2.CX P w) 2 f fd ["_law_bag_here", "_law_wheels_here", "_law_many"] (spW (tab P w K) K 3 f__law_condition) := by
  have nd := (sc__law_condition).nd
  refine fnW_ok (k := 1) Fd sc__law_condition fun cdv A outer s H E hr => ?_
  have tk := takes_of (X := cxOf (L2.CX P w) P w K mg base ["_law_bag_here", "_law_wheels_here", "_law_many", "_law_word", "_law_wheel"] "_law_condition" (defScope s__law_condition) f cdv A outer s H E) (E := E) rfl rfl rfl rfl
  exact s_cons (s_set (i := 3) nd rfl (.inl rfl) (w_idx (w_tup (w_cons (w_str) (w_cons (w_str) (w_cons (w_str) (w_cons (w_str) (w_cons (w_str) (w_cons (w_str) (w_nil) rfl) rfl) rfl) rfl) rfl) rfl)) (w_call h__law_take hr (by decide) rfl tk (w_cons (w_var (i := 0) rfl (.inl rfl) rfl rfl) (w_cons (w_int) (w_nil) rfl) rfl) rfl rfl rfl) (fun _ _ => rfl)) rfl (.inl rfl))
      (s_cons (s_if (b_cmp hr (w_var (i := 3) rfl (.inl rfl) rfl rfl) (w_tup (w_cons (w_str) (w_cons (w_str) (w_nil) rfl) rfl)) rfl) (s_cons (s_ret (w_tup (w_cons (w_var (i := 3) rfl (.inl rfl) rfl rfl) (w_cons (w_call h__law_take hr (by decide) rfl tk (w_cons (w_var (i := 0) rfl (.inl rfl) rfl rfl) (w_cons (w_var (i := 2) rfl (.inl rfl) rfl rfl) (w_nil) rfl) rfl) rfl rfl rfl) (w_nil) rfl) rfl)))
      (s_nil)) (s_nil))
      (s_cons (s_set (i := 4) nd rfl (.inl rfl) (w_call h__law_take hr (by decide) rfl tk (w_cons (w_var (i := 0) rfl (.inl rfl) rfl rfl) (w_cons (w_len rfl G.b_len (w_cons (w_var (i := 1) rfl (.inl rfl) rfl rfl) (w_nil) rfl) rfl rfl) (w_nil) rfl) rfl) rfl rfl rfl) rfl (.inl rfl))
      (s_cons (s_ret (w_tup (w_cons (w_var (i := 3) rfl (.inl rfl) rfl rfl) (w_cons (w_var (i := 4) rfl (.inl rfl) rfl rfl) (w_cons (w_call h__law_take hr (by decide) rfl tk (w_cons (w_var (i := 0) rfl (.inl rfl) rfl rfl) (w_cons (w_idx (w_var (i := 1) rfl (.inl rfl) rfl rfl) (w_var (i := 4) rfl (.inl rfl) rfl rfl) (fun _ _ => rfl)) (w_nil) rfl) rfl) rfl rfl rfl) (w_nil) rfl) rfl) rfl)))
      (s_nil))))
abbrev s__law_change : Stmt := top 74
theorem sc__law_change : FnScope ["_law_bag_here", "_law_wheels_here", "_law_wheel"] ["_law_bag_here", "_law_wheels_here"] (defScope s__law_change) := ⟨rfl, rfl, rfl, by decide +kernel, rfl, by decide +kernel, by decide +kernel⟩
theorem ok__law_change (G : Glo K mg) {dvs : List V} {kws : List (Str × V)} {f : Addr} {fd : FuncData} (h__law_take : CallF (tab P w K) P w K mg base 1 "_law_take" f__law_take) (Fd : FunD K "_law_change" "_law_change" (defArgs s__law_change) (defBody s__law_change) (defScope s__law_change) dvs kws f fd) : FnOk P w K mg base (L2.CX P w) 2 f fd ["_law_bag_here", "_law_wheels_here"] (spW (tab P w K) K 2 f__law_change) := by
  have nd := (sc__law_change).nd
  refine fnW_ok (k := 1) Fd sc__law_change fun cdv A outer s H E hr => ?_
  have tk := takes_of (X := cxOf (L2.CX P w) P w K mg base ["_law_bag_here", "_law_wheels_here", "_law_wheel"] "_law_change" (defScope s__law_change) f cdv A outer s H E) (E := E) rfl rfl rfl rfl
  exact s_cons (s_set (i := 2) nd rfl (.inl rfl) (w_call h__law_take hr (by decide) rfl tk (w_cons (w_var (i := 0) rfl (.inl rfl) rfl rfl) (w_cons (w_len rfl G.b_len (w_cons (w_var (i := 1) rfl (.inl rfl) rfl rfl) (w_nil) rfl) rfl rfl) (w_nil) rfl) rfl) rfl rfl rfl) rfl (.inl rfl))
      (s_cons (s_ret (w_tup (w_cons (w_idx (w_tup (w_cons (w_str) (w_cons (w_str) (w_cons (w_str) (w_nil) rfl) rfl) rfl)) (w_call h__law_take hr (by decide) rfl tk (w_cons (w_var (i := 0) rfl (.inl rfl) rfl rfl) (w_cons (w_int) (w_nil) rfl) rfl) rfl rfl rfl) (fun _ _ => rfl)) (w_cons (w_var (i := 2) rfl (.inl rfl) rfl rfl) (w_cons (w_call h__law_take hr (by decide) rfl tk (w_cons (w_var (i := 0) rfl (.inl rfl) rfl rfl) (w_cons (w_idx (w_var (i := 1) rfl (.inl rfl) rfl rfl) (w_var (i := 2) rfl (.inl rfl) rfl rfl) (fun _ _ => rfl)) (w_nil) rfl) rfl) rfl rfl rfl) (w_nil) rfl) rfl) rfl)))
      (s_nil))
abbrev s__law_rule : Stmt := top 75
theorem sc__law_rule : FnScope ["_law_bag_here", "_law_wheels_here", "_law_many", "_law_test", "_law_changes", "_law_hushes", "_law_wakes", "_law_other", "_law_way", "_law_turn"] ["_law_bag_here", "_law_wheels_here", "_law_many"] (defScope s__law_rule) := ⟨rfl, rfl, rfl, by decide +kernel, rfl, by decide +kernel, by decide +kernel⟩
theorem ok__law_rule (G : Glo K mg) {dvs : List V} {kws : List (Str × V)} {f : Addr} {fd : FuncData} (h__law_take : CallF (tab P w K) P w K mg base 1 "_law_take" f__law_take) (h__law_condition : CallF (tab P w K) P w K mg base 2 "_law_condition" f__law_condition) (h__law_change : CallF (tab P w K) P w K mg base 2 "_law_change" f__law_change) (Fd : FunD K "_law_rule" "_law_rule" (defArgs s__law_rule) (defBody s__law_rule) (defScope s__law_rule) dvs kws f fd) : FnOk P w K mg base (L2.CX P w) 3 f fd ["_law_bag_here", "_law_wheels_here", "_law_many"] (spW (tab P w K) K 3 f__law_rule) := by
  have nd := (sc__law_rule).nd
  refine fnW_ok (k := 2) Fd sc__law_rule fun cdv A outer s H E hr => ?_
  have tk := takes_of (X := cxOf (L2.CX P w) P w K mg base ["_law_bag_here", "_law_wheels_here", "_law_many", "_law_test", "_law_changes", "_law_hushes", "_law_wakes", "_law_other", "_law_way", "_law_turn"] "_law_rule" (defScope s__law_rule) f cdv A outer s H E) (E := E) rfl rfl rfl rfl
  exact s_cons (s_setLc (i := 3) (mt := false) rfl nd rfl rfl (sw_true rfl rfl rfl rfl) (i_range1 rfl G.b_range (w_idx (w_tup (w_cons (w_int) (w_cons (w_int) (w_cons (w_int) (w_cons (w_int) (w_cons (w_int) (w_cons (w_int) (w_nil) rfl) rfl) rfl) rfl) rfl) rfl)) (w_call h__law_take hr (by decide) rfl tk (w_cons (w_var (i := 0) rfl (.inr (.inl rfl)) rfl rfl) (w_cons (w_int) (w_nil) rfl) rfl) rfl rfl rfl) (fun _ _ => rfl)) rfl) (blkOk_by (own := [("_law_turn", 9)]) (by kernel_rfl)) rfl rfl (fun _ _ _ _ _ => g_name (i := 9) nd rfl (.inl rfl) (.inr rfl)) (fun _ _ _ _ _ => bs_nil) (fun _ _ _ _ _ => w_call h__law_condition hr (by decide) rfl L2.takes0 (w_cons (w_var (i := 0) rfl (.inr (.inl rfl)) rfl rfl) (w_cons (w_var (i := 1) rfl (.inr (.inl rfl)) rfl rfl) (w_cons (w_var (i := 2) rfl (.inr (.inl rfl)) rfl rfl) (w_nil) rfl) rfl) rfl) rfl rfl rfl) (fun _ => rfl))
      (s_cons (s_setLc (i := 4) (mt := false) rfl nd rfl rfl (sw_true rfl rfl rfl rfl) (i_range1 rfl G.b_range (w_idx (w_tup (w_cons (w_int) (w_cons (w_int) (w_cons (w_int) (w_cons (w_int) (w_cons (w_int) (w_nil) rfl) rfl) rfl) rfl) rfl)) (w_call h__law_take hr (by decide) rfl tk (w_cons (w_var (i := 0) rfl (.inr (.inl rfl)) rfl rfl) (w_cons (w_int) (w_nil) rfl) rfl) rfl rfl rfl) (fun _ _ => rfl)) rfl) (blkOk_by (own := [("_law_turn", 9)]) (by kernel_rfl)) rfl rfl (fun _ _ _ _ _ => g_name (i := 9) nd rfl (.inl rfl) (.inr rfl)) (fun _ _ _ _ _ => bs_nil) (fun _ _ _ _ _ => w_call h__law_change hr (by decide) rfl L2.takes0 (w_cons (w_var (i := 0) rfl (.inr (.inl rfl)) rfl rfl) (w_cons (w_var (i := 1) rfl (.inr (.inl rfl)) rfl rfl) (w_nil) rfl) rfl) rfl rfl rfl) (fun _ => rfl))
      (s_cons (s_par2 rfl nd rfl rfl (by decide) rfl rfl (w_cons (w_nlst (w_nil)) (w_cons (w_nlst (w_nil)) (w_nil) rfl) rfl) rfl rfl)
      (s_cons (s_for (passes_of rfl) rfl (i_range1 rfl G.b_range (w_var (i := 2) rfl (.inr (.inl rfl)) rfl rfl) rfl) (g_name (i := 7) nd rfl (.inl rfl) (.inl rfl)) (s_cons (s_set (i := 8) nd rfl (.inl rfl) (w_call h__law_take hr (by decide) rfl tk (w_cons (w_var (i := 0) rfl (.inr (.inl rfl)) rfl rfl) (w_cons (w_int) (w_nil) rfl) rfl) rfl rfl rfl) rfl (.inl rfl))
      (s_cons (s_if (b_cmp hr (w_var (i := 8) rfl (.inl rfl) rfl rfl) (w_int) rfl) (s_cons (s_expr (w_app (w_var (i := 5) rfl (.inl rfl) rfl rfl) (w_tup (w_cons (w_var (i := 7) rfl (.inl rfl) rfl rfl) (w_cons (w_bin (w_int) (w_call h__law_take hr (by decide) rfl tk (w_cons (w_var (i := 0) rfl (.inr (.inl rfl)) rfl rfl) (w_cons (w_int) (w_nil) rfl) rfl) rfl rfl rfl)) (w_nil) rfl) rfl)) rfl rfl rfl rfl rfl) rfl)
      (s_nil)) (s_nil))
      (s_cons (s_if (b_cmp hr (w_var (i := 8) rfl (.inl rfl) rfl rfl) (w_int) rfl) (s_cons (s_expr (w_app (w_var (i := 6) rfl (.inl rfl) rfl rfl) (w_var (i := 7) rfl (.inl rfl) rfl rfl) rfl rfl rfl rfl rfl) rfl)
      (s_nil)) (s_nil))
      (s_nil)))) (fun _ => rfl))
      (s_cons (s_ret (w_tup (w_cons (w_tuple rfl G.b_tuple (w_cons (w_var (i := 3) rfl (.inl rfl) rfl rfl) (w_nil) rfl) rfl rfl) (w_cons (w_tuple rfl G.b_tuple (w_cons (w_var (i := 4) rfl (.inl rfl) rfl rfl) (w_nil) rfl) rfl rfl) (w_cons (w_tuple rfl G.b_tuple (w_cons (w_var (i := 5) rfl (.inl rfl) rfl rfl) (w_nil) rfl) rfl rfl) (w_cons (w_tuple rfl G.b_tuple (w_cons (w_var (i := 6) rfl (.inl rfl) rfl rfl) (w_nil) rfl) rfl rfl) (w_nil) rfl) rfl) rfl) rfl)))
      (s_nil)))))
abbrev s__law_rules : Stmt := top 76
theorem sc__law_rules : FnScope ["_law_bag_here", "_law_wheels_here", "_law_many", "_law_turn"] ["_law_bag_here", "_law_wheels_here", "_law_many"] (defScope s__law_rules) := ⟨rfl, rfl, rfl, by decide +kernel, rfl, by decide +kernel, by decide +kernel⟩
theorem ok__law_rules (G : Glo K mg) {dvs : List V} {kws : List (Str × V)} {f : Addr} {fd : FuncData} (h__law_rule : CallF (tab P w K) P w K mg base 3 "_law_rule" f__law_rule) (Fd : FunD K "_law_rules" "_law_rules" (defArgs s__law_rules) (defBody s__law_rules) (defScope s__law_rules) dvs kws f fd) : FnOk P w K mg base (L2.CX P w) 4 f fd ["_law_bag_here", "_law_wheels_here", "_law_many"] (spW (tab P w K) K 3 f__law_rules) := by
  have nd := (sc__law_rules).nd
  refine fnW_ok (k := 3) Fd sc__law_rules fun cdv A outer s H E hr => ?_
  have tk := takes_of (X := cxOf (L2.CX P w) P w K mg base ["_law_bag_here", "_law_wheels_here", "_law_many", "_law_turn"] "_law_rules" (defScope s__law_rules) f cdv A outer s H E) (E := E) rfl rfl rfl rfl
  exact s_cons (s_ret (w_tuple rfl G.b_tuple (w_cons (w_lc (mt := false) rfl nd (i_range1 rfl G.b_range (w_var (i := 2) rfl (.inr (.inl rfl)) rfl rfl) rfl) (blkOk_by (own := [("_law_turn", 3)]) (by kernel_rfl)) rfl rfl (fun _ _ _ _ _ => g_name (i := 3) nd rfl (.inl rfl) (.inr rfl)) (fun _ _ _ _ _ => bs_nil) (fun _ _ _ _ _ => w_call h__law_rule hr (by decide) rfl L2.takes0 (w_cons (w_var (i := 0) rfl (.inr (.inl rfl)) rfl rfl) (w_cons (w_var (i := 1) rfl (.inr (.inl rfl)) rfl rfl) (w_cons (w_var (i := 2) rfl (.inr (.inl rfl)) rfl rfl) (w_nil) rfl) rfl) rfl) rfl rfl rfl) (fun _ => rfl)) (w_nil) rfl) rfl rfl))
      (s_nil)
abbrev s__law_drawn : Stmt := top 77
theorem sc__law_drawn : FnScope ["_law_bag_here", "_law_wheels_here"] ["_law_bag_here"] (defScope s__law_drawn) := ⟨rfl, rfl, rfl, by decide +kernel, rfl, by decide +kernel, by decide +kernel⟩
theorem ok__law_drawn (G : Glo K mg) {dvs : List V} {kws : List (Str × V)} {f : Addr} {fd : FuncData} (h__law_wheels : CallF (tab P w K) P w K mg base 2 "_law_wheels" f__law_wheels) (h__law_rules : CallF (tab P w K) P w K mg base 4 "_law_rules" f__law_rules) (h__law_take : CallF (tab P w K) P w K mg base 1 "_law_take" f__law_take) (Fd : FunD K "_law_drawn" "_law_drawn" (defArgs s__law_drawn) (defBody s__law_drawn) (defScope s__law_drawn) dvs kws f fd) : FnOk P w K mg base (L2.CX P w) 5 f fd ["_law_bag_here"] (spW (tab P w K) K 1 f__law_drawn) := by
  have nd := (sc__law_drawn).nd
  refine fnW_ok (k := 4) Fd sc__law_drawn fun cdv A outer s H E hr => ?_
  have tk := takes_of (X := cxOf (L2.CX P w) P w K mg base ["_law_bag_here", "_law_wheels_here"] "_law_drawn" (defScope s__law_drawn) f cdv A outer s H E) (E := E) rfl rfl rfl rfl
  exact s_cons (s_set (i := 1) nd rfl (.inl rfl) (w_call h__law_wheels hr (by decide) rfl tk (w_cons (w_var (i := 0) rfl (.inl rfl) rfl rfl) (w_nil) rfl) rfl rfl rfl) rfl (.inl rfl))
      (s_cons (s_ret (w_tup (w_cons (w_var (i := 1) rfl (.inl rfl) rfl rfl) (w_cons (w_call h__law_rules hr (by decide) rfl tk (w_cons (w_var (i := 0) rfl (.inl rfl) rfl rfl) (w_cons (w_var (i := 1) rfl (.inl rfl) rfl rfl) (w_cons (w_idx (w_tup (w_cons (w_int) (w_cons (w_int) (w_cons (w_int) (w_cons (w_int) (w_cons (w_int) (w_cons (w_int) (w_nil) rfl) rfl) rfl) rfl) rfl) rfl)) (w_call h__law_take hr (by decide) rfl tk (w_cons (w_var (i := 0) rfl (.inl rfl) rfl rfl) (w_cons (w_int) (w_nil) rfl) rfl) rfl rfl rfl) (fun _ _ => rfl)) (w_nil) rfl) rfl) rfl) rfl rfl rfl) (w_nil) rfl) rfl)))
      (s_nil))
abbrev s__law_state : Stmt := top 78
theorem sc__law_state : FnScope ["_law_bag_here", "_law_wheels_here", "_law_many", "_law_values", "_law_places", "_law_turn"] ["_law_bag_here", "_law_wheels_here", "_law_many"] (defScope s__law_state) := ⟨rfl, rfl, rfl, by decide +kernel, rfl, by decide +kernel, by decide +kernel⟩
theorem ok__law_state (G : Glo K mg) {dvs : List V} {kws : List (Str × V)} {f : Addr} {fd : FuncData} (h__law_take : CallF (tab P w K) P w K mg base 1 "_law_take" f__law_take) (Fd : FunD K "_law_state" "_law_state" (defArgs s__law_state) (defBody s__law_state) (defScope s__law_state) dvs kws f fd) : FnOk P w K mg base (L2.CX P w) 2 f fd ["_law_bag_here", "_law_wheels_here", "_law_many"] (spW (tab P w K) K 3 f__law_state) := by
  have nd := (sc__law_state).nd
  refine fnW_ok (k := 1) Fd sc__law_state fun cdv A outer s H E hr => ?_
  have tk := takes_of (X := cxOf (L2.CX P w) P w K mg base ["_law_bag_here", "_law_wheels_here", "_law_many", "_law_values", "_law_places", "_law_turn"] "_law_state" (defScope s__law_state) f cdv A outer s H E) (E := E) rfl rfl rfl rfl
  exact s_cons (s_set (i := 3) nd rfl (.inl rfl) (w_tuple rfl G.b_tuple (w_cons (w_lc (mt := false) rfl nd (i_seq (w_var (i := 1) rfl (.inl rfl) rfl rfl)) (blkOk_by (own := [("_law_places", 4)]) (by kernel_rfl)) rfl rfl (fun _ _ _ _ _ => g_name (i := 4) nd rfl (.inl rfl) (.inr rfl)) (fun _ _ _ _ _ => bs_nil) (fun _ _ _ _ _ => w_call h__law_take hr (by decide) rfl L2.takes0 (w_cons (w_var (i := 0) rfl (.inr (.inl rfl)) rfl rfl) (w_cons (w_var (i := 4) rfl (.inl rfl) rfl rfl) (w_nil) rfl) rfl) rfl rfl rfl) (fun _ => rfl)) (w_nil) rfl) rfl rfl) rfl (.inl rfl))
      (s_cons (s_ret (w_tup (w_cons (w_var (i := 3) rfl (.inl rfl) rfl rfl) (w_cons (w_tuple rfl G.b_tuple (w_cons (w_lc (mt := false) rfl nd (i_range1 rfl G.b_range (w_var (i := 2) rfl (.inl rfl) rfl rfl) rfl) (blkOk_by (own := [("_law_turn", 5)]) (by kernel_rfl)) rfl rfl (fun _ _ _ _ _ => g_name (i := 5) nd rfl (.inl rfl) (.inr rfl)) (fun _ _ _ _ _ => bs_nil) (fun _ _ _ _ _ => w_idx (w_tup (w_cons (w_int) (w_cons (w_int) (w_cons (w_int) (w_cons (w_int) (w_nil) rfl) rfl) rfl) rfl)) (w_call h__law_take hr (by decide) rfl L2.takes0 (w_cons (w_var (i := 0) rfl (.inr (.inl rfl)) rfl rfl) (w_cons (w_int) (w_nil) rfl) rfl) rfl rfl rfl) (fun _ _ => rfl)) (fun _ => rfl)) (w_nil) rfl) rfl rfl) (w_nil) rfl) rfl)))
      (s_nil))
abbrev s__law_any : Stmt := top 79
theorem sc__law_any : FnScope ["_law_bag_here", "_law_some"] ["_law_bag_here"] (defScope s__law_any) := ⟨rfl, rfl, rfl, by decide +kernel, rfl, by decide +kernel, by decide +kernel⟩
theorem ok__law_any (G : Glo K mg) {dvs : List V} {kws : List (Str × V)} {f : Addr} {fd : FuncData} (h__law_take : CallF (tab P w K) P w K mg base 1 "_law_take" f__law_take) (Fd : FunD K "_law_any" "_law_any" (defArgs s__law_any) (defBody s__law_any) (defScope s__law_any) dvs kws f fd) : FnOk P w K mg base (L2.CX P w) 2 f fd ["_law_bag_here"] (spW (tab P w K) K 1 f__law_any) := by
  have nd := (sc__law_any).nd
  refine fnW_ok (k := 1) Fd sc__law_any fun cdv A outer s H E hr => ?_
  have tk := takes_of (X := cxOf (L2.CX P w) P w K mg base ["_law_bag_here", "_law_some"] "_law_any" (defScope s__law_any) f cdv A outer s H E) (E := E) rfl rfl rfl rfl
  exact s_cons (s_set (i := 1) nd rfl (.inl rfl) (w_lst (w_cons (w_non) (w_cons (w_bl) (w_cons (w_bl) (w_cons (w_int) (w_cons (w_int) (w_cons (w_neg (w_int)) (w_cons (w_int) (w_cons (w_int) (w_cons (w_bin (w_int) (w_int)) (w_cons (w_str) (w_cons (w_str) (w_cons (w_str) (w_cons (w_str) (w_cons (w_lst (w_nil)) (w_cons (w_tup (w_nil)) (w_cons (w_lst (w_cons (w_int) (w_nil) rfl)) (w_cons (w_tup (w_cons (w_int) (w_nil) rfl)) (w_cons (w_tup (w_cons (w_int) (w_cons (w_int) (w_nil) rfl) rfl)) (w_cons (w_tup (w_cons (w_int) (w_cons (w_int) (w_nil) rfl) rfl)) (w_nil) rfl) rfl) rfl) rfl) rfl) rfl) rfl) rfl) rfl) rfl) rfl) rfl) rfl) rfl) rfl) rfl) rfl) rfl) rfl)) rfl (.inl rfl))
      (s_cons (s_set (i := 1) nd rfl (.inl rfl) (w_bin (w_var (i := 1) rfl (.inl rfl) rfl rfl) (w_lst (w_cons (w_tup (w_cons (w_int) (w_cons (w_int) (w_cons (w_int) (w_nil) rfl) rfl) rfl)) (w_cons (w_tup (w_cons (w_tup (w_nil)) (w_cons (w_tup (w_nil)) (w_nil) rfl) rfl)) (w_cons (w_tup (w_cons (w_tup (w_cons (w_int) (w_nil) rfl)) (w_cons (w_tup (w_cons (w_int) (w_nil) rfl)) (w_nil) rfl) rfl)) (w_cons (w_lst (w_cons (w_tup (w_cons (w_int) (w_nil) rfl)) (w_cons (w_tup (w_cons (w_int) (w_nil) rfl)) (w_nil) rfl) rfl)) (w_cons (w_tup (w_cons (w_int) (w_cons (w_bl) (w_nil) rfl) rfl)) (w_cons (w_tup (w_cons (w_str) (w_cons (w_int) (w_cons (w_int) (w_nil) rfl) rfl) rfl)) (w_cons (w_tup (w_cons (w_str) (w_cons (w_int) (w_nil) rfl) rfl)) (w_nil) rfl) rfl) rfl) rfl) rfl) rfl) rfl))) rfl (.inl rfl))
      (s_cons (s_ret (w_idx (w_bin (w_var (i := 1) rfl (.inl rfl) rfl rfl) (w_lst (w_cons (w_tup (w_cons (w_non) (w_cons (w_lst (w_cons (w_int) (w_cons (w_tup (w_nil)) (w_nil) rfl) rfl)) (w_nil) rfl) rfl)) (w_nil) rfl))) (w_call h__law_take hr (by decide) rfl tk (w_cons (w_var (i := 0) rfl (.inl rfl) rfl rfl) (w_cons (w_int) (w_nil) rfl) rfl) rfl rfl rfl) (fun _ _ => rfl)))
      (s_nil)))
abbrev s__law_spoilt : Stmt := top 80
theorem sc__law_spoilt : FnScope ["_law_bag_here", "_law_thing", "_law_way", "_law_at"] ["_law_bag_here", "_law_thing"] (defScope s__law_spoilt) := ⟨rfl, rfl, rfl, by decide +kernel, rfl, by decide +kernel, by decide +kernel⟩
theorem tk__law_spoilt : ∀ m, TakesN 2 (y__law_spoilt m)
  | 0 => fun _ _ _ => rfl
  | _ + 1 => fnW_takes _ _ _
theorem oy__law_spoilt (G : Glo K mg) {dvs : List V} {kws : List (Str × V)} {f : Addr} {fd : FuncData} (h__law_take : CallF (tab P w K) P w K mg base 1 "_law_take" f__law_take) (h__law_any : CallF (tab P w K) P w K mg base 2 "_law_any" f__law_any) (hC : ∀ (k : Nat) (psi : Fn), FnOk P w K mg base (L2.CX P w) k f fd ["_law_bag_here", "_law_thing"] (spW (tab P w K) K 2 psi) → TakesN 2 psi → CallF (tab P w K) P w K mg base k "_law_spoilt" psi) (Fd : FunD K "_law_spoilt" "_law_spoilt" (defArgs s__law_spoilt) (defBody s__law_spoilt) (defScope s__law_spoilt) dvs kws f fd) : ∀ m : Nat, FnOk P w K mg base (L2.CX P w) (2 + m) f fd ["_law_bag_here", "_law_thing"] (spW (tab P w K) K 2 (y__law_spoilt m)) := by
  intro m
  induction m with
  | zero => exact bad_ok
  | succ m ih =>
    have h_rec := hC _ _ ih (tk__law_spoilt m)
    have nd := (sc__law_spoilt).nd
    refine fnW_ok (k := 2 + m) Fd sc__law_spoilt fun cdv A outer s H E hr => ?_
    have tk := takes_of (X := cxOf (L2.CX P w) P w K mg base ["_law_bag_here", "_law_thing", "_law_way", "_law_at"] "_law_spoilt" (defScope s__law_spoilt) f cdv A outer s H E) (E := E) rfl rfl rfl rfl
    exact s_cons (s_if (L2.PW.pt (b_or (b_not (b_test (w_isTuple rfl G.b_isinstance rfl G.b_tuple (w_var (i := 1) rfl (.inl rfl) rfl rfl) rfl rfl rfl) (fun _ => rfl))) (b_or (b_cmp hr (w_var (i := 1) rfl (.inl rfl) rfl rfl) (w_tup (w_nil)) rfl) (b_or1 (b_cmp hr (w_call h__law_take hr (by omega) rfl tk (w_cons (w_var (i := 0) rfl (.inl rfl) rfl rfl) (w_cons (w_int) (w_nil) rfl) rfl) rfl rfl rfl) (w_int) rfl))))) (s_cons (s_set (i := 2) nd rfl (.inl rfl) (w_call h__law_take hr (by omega) rfl tk (w_cons (w_var (i := 0) rfl (.inl rfl) rfl rfl) (w_cons (w_int) (w_nil) rfl) rfl) rfl rfl rfl) rfl (.inl rfl))
      (s_cons (s_if (L2.PW.pt (b_and (b_cmp hr (w_var (i := 2) rfl (.inl rfl) rfl rfl) (w_int) rfl) (b_and1 (b_test (w_isInt rfl G.b_isinstance rfl G.b_int (w_var (i := 1) rfl (.inl rfl) rfl rfl) rfl rfl rfl) (fun _ => rfl))))) (s_cons (s_ret (w_addB (w_var (i := 1) rfl (.inl rfl) rfl rfl) (w_idx (w_tup (w_cons (w_int) (w_cons (w_neg (w_int)) (w_cons (w_int) (w_cons (w_neg (w_int)) (w_nil) rfl) rfl) rfl) rfl)) (w_call h__law_take hr (by omega) rfl tk (w_cons (w_var (i := 0) rfl (.inl rfl) rfl rfl) (w_cons (w_int) (w_nil) rfl) rfl) rfl rfl rfl) (fun _ _ => rfl))))
      (s_nil)) (s_nil))
      (s_cons (s_if (L2.PW.pt (b_and (b_cmp hr (w_var (i := 2) rfl (.inl rfl) rfl rfl) (w_int) rfl) (b_and1 (b_test (w_isStr rfl G.b_isinstance rfl G.b_str (w_var (i := 1) rfl (.inl rfl) rfl rfl) rfl rfl rfl) (fun _ => rfl))))) (s_cons (s_ret (w_idx (w_tup (w_cons (w_str) (w_cons (w_str) (w_cons (w_str) (w_cons (w_str) (w_cons (w_str) (w_cons (w_str) (w_cons (w_str) (w_cons (w_str) (w_cons (w_str) (w_nil) rfl) rfl) rfl) rfl) rfl) rfl) rfl) rfl) rfl)) (w_call h__law_take hr (by omega) rfl tk (w_cons (w_var (i := 0) rfl (.inl rfl) rfl rfl) (w_cons (w_int) (w_nil) rfl) rfl) rfl rfl rfl) (fun _ _ => rfl)))
      (s_nil)) (s_nil))
      (s_cons (s_ret (w_call h__law_any hr (by omega) rfl tk (w_cons (w_var (i := 0) rfl (.inl rfl) rfl rfl) (w_nil) rfl) rfl rfl rfl))
      (s_nil))))) (s_nil))
      (s_cons (s_par2 rfl nd rfl rfl (by decide) rfl rfl (w_cons (w_call h__law_take hr (by omega) rfl tk (w_cons (w_var (i := 0) rfl (.inl rfl) rfl rfl) (w_cons (w_int) (w_nil) rfl) rfl) rfl rfl rfl) (w_cons (w_call h__law_take hr (by omega) rfl tk (w_cons (w_var (i := 0) rfl (.inl rfl) rfl rfl) (w_cons (w_len rfl G.b_len (w_cons (w_var (i := 1) rfl (.inl rfl) rfl rfl) (w_nil) rfl) rfl rfl) (w_nil) rfl) rfl) rfl rfl rfl) (w_nil) rfl) rfl) rfl rfl)
      (s_cons (s_if (b_cmp hr (w_var (i := 2) rfl (.inl rfl) rfl rfl) (w_int) rfl) (s_cons (s_ret (w_bin (w_slc (w_var (i := 1) rfl (.inl rfl) rfl rfl) (w_noPart) (w_part (w_var (i := 3) rfl (.inl rfl) rfl rfl))) (w_slc (w_var (i := 1) rfl (.inl rfl) rfl rfl) (w_part (w_bin (w_var (i := 3) rfl (.inl rfl) rfl rfl) (w_int))) (w_noPart))))
      (s_nil)) (s_nil))
      (s_cons (s_if (b_cmp hr (w_var (i := 2) rfl (.inl rfl) rfl rfl) (w_int) rfl) (s_cons (s_ret (w_bin (w_bin (w_slc (w_var (i := 1) rfl (.inl rfl) rfl rfl) (w_noPart) (w_part (w_var (i := 3) rfl (.inl rfl) rfl rfl))) (w_tup (w_cons (w_idx (w_var (i := 1) rfl (.inl rfl) rfl rfl) (w_var (i := 3) rfl (.inl rfl) rfl rfl) (fun _ _ => rfl)) (w_nil) rfl))) (w_slc (w_var (i := 1) rfl (.inl rfl) rfl rfl) (w_part (w_var (i := 3) rfl (.inl rfl) rfl rfl)) (w_noPart))))
      (s_nil)) (s_nil))
      (s_cons (s_if (b_cmp hr (w_var (i := 2) rfl (.inl rfl) rfl rfl) (w_int) rfl) (s_cons (s_ret (w_idx (w_lst (w_cons (w_list rfl G.b_list (w_cons (w_var (i := 1) rfl (.inl rfl) rfl rfl) (w_nil) rfl) rfl rfl) (w_cons (w_revT (w_var (i := 1) rfl (.inl rfl) rfl rfl)) (w_cons (w_bin (w_var (i := 1) rfl (.inl rfl) rfl rfl) (w_tup (w_cons (w_call h__law_any hr (by omega) rfl tk (w_cons (w_var (i := 0) rfl (.inl rfl) rfl rfl) (w_nil) rfl) rfl rfl rfl) (w_nil) rfl))) (w_nil) rfl) rfl) rfl)) (w_call h__law_take hr (by omega) rfl tk (w_cons (w_var (i := 0) rfl (.inl rfl) rfl rfl) (w_cons (w_int) (w_nil) rfl) rfl) rfl rfl rfl) (fun _ _ => rfl)))
      (s_nil)) (s_nil))
      (s_cons (s_if (b_cmp hr (w_var (i := 2) rfl (.inl rfl) rfl rfl) (w_int) rfl) (s_cons (s_ret (w_bin (w_bin (w_slc (w_var (i := 1) rfl (.inl rfl) rfl rfl) (w_noPart) (w_part (w_var (i := 3) rfl (.inl rfl) rfl rfl))) (w_tup (w_cons (w_idx (w_var (i := 1) rfl (.inl rfl) rfl rfl) (w_bin (w_var (i := 3) rfl (.inl rfl) rfl rfl) (w_int)) (fun _ _ => rfl)) (w_nil) rfl))) (w_slc (w_var (i := 1) rfl (.inl rfl) rfl rfl) (w_part (w_bin (w_var (i := 3) rfl (.inl rfl) rfl rfl) (w_int))) (w_noPart))))
      (s_nil)) (s_nil))
      (s_cons (s_ret (w_bin (w_bin (w_slc (w_var (i := 1) rfl (.inl rfl) rfl rfl) (w_noPart) (w_part (w_var (i := 3) rfl (.inl rfl) rfl rfl))) (w_tup (w_cons (w_call h_rec hr (Nat.le_refl _) rfl tk (w_cons (w_var (i := 0) rfl (.inl rfl) rfl rfl) (w_cons (w_idx (w_var (i := 1) rfl (.inl rfl) rfl rfl) (w_var (i := 3) rfl (.inl rfl) rfl rfl) (fun _ _ => rfl)) (w_nil) rfl) rfl) rfl rfl rfl) (w_nil) rfl))) (w_slc (w_var (i := 1) rfl (.inl rfl) rfl rfl) (w_part (w_bin (w_var (i := 3) rfl (.inl rfl) rfl rfl) (w_int))) (w_noPart))))
      (s_nil)))))))
theorem ok__law_spoilt (G : Glo K mg) {dvs : List V} {kws : List (Str × V)} {f : Addr} {fd : FuncData} (h__law_take : CallF (tab P w K) P w K mg base 1 "_law_take" f__law_take) (h__law_any : CallF (tab P w K) P w K mg base 2 "_law_any" f__law_any) (hC : ∀ (k : Nat) (psi : Fn), FnOk P w K mg base (L2.CX P w) k f fd ["_law_bag_here", "_law_thing"] (spW (tab P w K) K 2 psi) → TakesN 2 psi → CallF (tab P w K) P w K mg base k "_law_spoilt" psi) (Fd : FunD K "_law_spoilt" "_law_spoilt" (defArgs s__law_spoilt) (defBody s__law_spoilt) (defScope s__law_spoilt) dvs kws f fd) : FnOk P w K mg base (L2.CX P w) 8 f fd ["_law_bag_here", "_law_thing"] (spW (tab P w K) K 2 f__law_spoilt) := oy__law_spoilt G h__law_take h__law_any hC Fd 6
abbrev s_NoBook___init__ : Stmt := inClass (top 3) 0
theorem sc_NoBook___init__ : FnScope ["self", "at"] ["self", "at"] (defScope s_NoBook___init__) := ⟨rfl, rfl, rfl, by decide +kernel, rfl, by decide +kernel, by decide +kernel⟩
theorem ok_NoBook___init__ (G : Glo K mg) {f : Addr} {fd : FuncData} (Fd : FunD K "__init__" "NoBook.__init__" (defArgs s_NoBook___init__) (defBody s_NoBook___init__) (defScope s_NoBook___init__) [] [] f fd) : FnOk P w K mg base (L2.CX P w) 1 f fd ["self", "at"] (spIni (He.ga K "NoBook") "at") :=
  ini_ok (oexGB_ok G.t_0) (errB_no G.t_1) Fd sc_NoBook___init__ fun cdv A outer s H E => ini_body PySem.GX.base_Value (pe_ownat (call_ini PySem.GX.base_Value) (ownAtB_ok G.t_2).1 (ownAtB_ok G.t_2).2.1 (ownAtB_ok G.t_2).2.2 (by decide +kernel) rfl G.g_HushError (pa_cons (pe_var (i := 0) rfl (.inl rfl) rfl rfl) (pa_cons pe_str pa_nil rfl) rfl) rfl rfl rfl rfl) rfl rfl rfl (.inl rfl) (.inl rfl) rfl rfl rfl rfl rfl
abbrev s_is_row : Stmt := top 33
theorem sc_is_row : FnScope ["thing", "most"] ["thing", "most"] (defScope s_is_row) := ⟨rfl, rfl, rfl, by decide +kernel, rfl, by decide +kernel, by decide +kernel⟩
theorem ok_is_row (G : Glo K mg) {dvs : List V} {kws : List (Str × V)} {f : Addr} {fd : FuncData} (Fd : FunD K "is_row" "is_row" (defArgs s_is_row) (defBody s_is_row) (defScope s_is_row) dvs kws f fd) : FnOk P w K mg base (L2.CX P w) 1 f fd ["thing", "most"] (spW (tab P w K) K 2 f_is_row) := by
  have nd := (sc_is_row).nd
  refine fnW_ok (k := 0) Fd sc_is_row fun cdv A outer s H E hr => ?_
  have tk := takes_of (X := cxOf (L2.CX P w) P w K mg base ["thing", "most"] "is_row" (defScope s_is_row) f cdv A outer s H E) (E := E) rfl rfl rfl rfl
  exact s_cons (s_ret (w_and (w_isTuple rfl G.b_isinstance rfl G.b_tuple (w_var (i := 0) rfl (.inl rfl) rfl rfl) rfl rfl rfl) (one (w_cmp hr (w_len rfl G.b_len (w_cons (w_var (i := 0) rfl (.inl rfl) rfl rfl) (w_nil) rfl) rfl rfl) (w_var (i := 1) rfl (.inl rfl) rfl rfl) rfl))))
      (s_nil)
abbrev s_how_many : Stmt := top 35
theorem sc_how_many : FnScope ["wheels", "found", "places"] ["wheels"] (defScope s_how_many) := ⟨rfl, rfl, rfl, by decide +kernel, rfl, by decide +kernel, by decide +kernel⟩
theorem ok_how_many (G : Glo K mg) {dvs : List V} {kws : List (Str × V)} {f : Addr} {fd : FuncData} (Fd : FunD K "how_many" "how_many" (defArgs s_how_many) (defBody s_how_many) (defScope s_how_many) dvs kws f fd) : FnOk P w K mg base (L2.CX P w) 1 f fd ["wheels"] (spW (tab P w K) K 1 f_how_many) := by
  have nd := (sc_how_many).nd
  refine fnW_ok (k := 0) Fd sc_how_many fun cdv A outer s H E hr => ?_
  have tk := takes_of (X := cxOf (L2.CX P w) P w K mg base ["wheels", "found", "places"] "how_many" (defScope s_how_many) f cdv A outer s H E) (E := E) rfl rfl rfl rfl
  exact s_cons (s_set (i := 1) nd rfl (.inl rfl) (w_int) rfl (.inl rfl))
      (s_cons (s_for (passes_of rfl) rfl (i_seq (w_var (i := 0) rfl (.inl rfl) rfl rfl)) (g_name (i := 2) nd rfl (.inl rfl) (.inl rfl)) (s_cons (s_aug (i := 1) nd rfl (.inl rfl) (w_var (i := 2) rfl (.inl rfl) rfl rfl) (.inl rfl))
      (s_nil)) (fun _ => rfl))
      (s_cons (s_ret (w_var (i := 1) rfl (.inl rfl) rfl rfl))
      (s_nil)))
abbrev s_is_whole : Stmt := top 31
theorem sc_is_whole : FnScope ["thing"] ["thing"] (defScope s_is_whole) := ⟨rfl, rfl, rfl, by decide +kernel, rfl, by decide +kernel, by decide +kernel⟩
theorem ok_is_whole (G : Glo K mg) {dvs : List V} {kws : List (Str × V)} {f : Addr} {fd : FuncData} (Fd : FunD K "is_whole" "is_whole" (defArgs s_is_whole) (defBody s_is_whole) (defScope s_is_whole) dvs kws f fd) : FnOk P w K mg base (L2.CX P w) 1 f fd ["thing"] (spW (tab P w K) K 1 f_is_whole) := by
  have nd := (sc_is_whole).nd
  refine fnW_ok (k := 0) Fd sc_is_whole fun cdv A outer s H E hr => ?_
  have tk := takes_of (X := cxOf (L2.CX P w) P w K mg base ["thing"] "is_whole" (defScope s_is_whole) f cdv A outer s H E) (E := E) rfl rfl rfl rfl
  exact s_cons (s_ret (w_and (w_isInt rfl G.b_isinstance rfl G.b_int (w_var (i := 0) rfl (.inl rfl) rfl rfl) rfl rfl rfl) (one (w_not (w_isBool rfl G.b_isinstance rfl G.b_bool (w_var (i := 0) rfl (.inl rfl) rfl rfl) rfl rfl rfl)))))
      (s_nil)
abbrev s_is_from : Stmt := top 32
theorem sc_is_from : FnScope ["thing", "least", "below"] ["thing", "least", "below"] (defScope s_is_from) := ⟨rfl, rfl, rfl, by decide +kernel, rfl, by decide +kernel, by decide +kernel⟩
theorem ok_is_from (G : Glo K mg) {dvs : List V} {kws : List (Str × V)} {f : Addr} {fd : FuncData} (h_is_whole : CallF (tab P w K) P w K mg base 1 "is_whole" f_is_whole) (Fd : FunD K "is_from" "is_from" (defArgs s_is_from) (defBody s_is_from) (defScope s_is_from) dvs kws f fd) : FnOk P w K mg base (L2.CX P w) 2 f fd ["thing", "least", "below"] (spW (tab P w K) K 3 f_is_from) := by
  have nd := (sc_is_from).nd
  refine fnW_ok (k := 1) Fd sc_is_from fun cdv A outer s H E hr => ?_
  have tk := takes_of (X := cxOf (L2.CX P w) P w K mg base ["thing", "least", "below"] "is_from" (defScope s_is_from) f cdv A outer s H E) (E := E) rfl rfl rfl rfl
  exact s_cons (s_ret (w_and (w_callP h_is_whole hr (by decide) rfl tk (w_cons (w_var (i := 0) rfl (.inl rfl) rfl rfl) (w_nil) rfl) rfl rfl rfl) (one (w_chain hr (w_var (i := 1) rfl (.inl rfl) rfl rfl) (w_var (i := 0) rfl (.inl rfl) rfl rfl) (w_var (i := 2) rfl (.inl rfl) rfl rfl) (by with_unfolding_all rfl)))))
      (s_nil)
abbrev s_are_wheels : Stmt := top 36
theorem sc_are_wheels : FnScope ["thing", "one"] ["thing"] (defScope s_are_wheels) := ⟨rfl, rfl, rfl, by decide +kernel, rfl, by decide +kernel, by decide +kernel⟩
theorem ok_are_wheels (G : Glo K mg) {dvs : List V} {kws : List (Str × V)} {f : Addr} {fd : FuncData} (h_is_row : CallF (tab P w K) P w K mg base 1 "is_row" f_is_row) (h_how_many : CallF (tab P w K) P w K mg base 1 "how_many" f_how_many) (h_is_from : CallF (tab P w K) P w K mg base 2 "is_from" f_is_from) (Fd : FunD K "are_wheels" "are_wheels" (defArgs s_are_wheels) (defBody s_are_wheels) (defScope s_are_wheels) dvs kws f fd) : FnOk P w K mg base (L2.CX P w) 3 f fd ["thing"] (spW (tab P w K) K 1 f_are_wheels) := by
  have nd := (sc_are_wheels).nd
  refine fnW_ok (k := 2) Fd sc_are_wheels fun cdv A outer s H E hr => ?_
  have tk := takes_of (X := cxOf (L2.CX P w) P w K mg base ["thing", "one"] "are_wheels" (defScope s_are_wheels) f cdv A outer s H E) (E := E) rfl rfl rfl rfl
  exact s_cons (s_if (L2.PW.pt (b_or (b_not (b_test (w_callP h_is_row hr (by decide) rfl tk (w_cons (w_var (i := 0) rfl (.inl rfl) rfl rfl) (w_cons (w_globW rfl (G.c_MOST_WHEELS _ _) rfl) (w_nil) rfl) rfl) rfl rfl rfl) (fun _ => rfl))) (b_or1 (b_cmp hr (w_var (i := 0) rfl (.inl rfl) rfl rfl) (w_tup (w_nil)) rfl)))) (s_cons (s_ret (w_bl))
      (s_nil)) (s_nil))
      (s_cons (s_ret (w_and (w_all rfl rfl G.b_all (w_cons (w_lc (mt := false) rfl nd (i_seq (w_var (i := 0) rfl (.inl rfl) rfl rfl)) (blkOk_by (own := [("one", 1)]) (by kernel_rfl)) rfl rfl (fun _ _ _ _ _ => g_name (i := 1) nd rfl (.inl rfl) (.inr rfl)) (fun _ _ _ _ _ => bs_nil) (fun _ _ _ _ _ => w_callP h_is_from hr (by decide) rfl L2.takes0 (w_cons (w_var (i := 1) rfl (.inl rfl) rfl rfl) (w_cons (w_globW rfl (G.c_LEAST_PLACES _ _) rfl) (w_cons (w_bin (w_globW rfl (G.c_MOST_PLACES _ _) rfl) (w_int)) (w_nil) rfl) rfl) rfl) rfl rfl rfl) (fun _ => rfl)) (w_nil) rfl) rfl rfl) (one (w_cmp hr (w_callP h_how_many hr (by decide) rfl tk (w_cons (w_var (i := 0) rfl (.inl rfl) rfl rfl) (w_nil) rfl) rfl rfl rfl) (w_globW rfl (G.c_MOST_BEGINNINGS _ _) rfl) rfl))))
      (s_nil))
abbrev s_are_rising : Stmt := top 34
theorem sc_are_rising : FnScope ["numbers", "one", "other"] ["numbers"] (defScope s_are_rising) := ⟨rfl, rfl, rfl, by decide +kernel, rfl, by decide +kernel, by decide +kernel⟩
theorem ok_are_rising (G : Glo K mg) {dvs : List V} {kws : List (Str × V)} {f : Addr} {fd : FuncData} (Fd : FunD K "are_rising" "are_rising" (defArgs s_are_rising) (defBody s_are_rising) (defScope s_are_rising) dvs kws f fd) : FnOk P w K mg base (L2.CX P w) 1 f fd ["numbers"] (spW (tab P w K) K 1 f_are_rising) := by
  have nd := (sc_are_rising).nd
  refine fnW_ok (k := 0) Fd sc_are_rising fun cdv A outer s H E hr => ?_
  have tk := takes_of (X := cxOf (L2.CX P w) P w K mg base ["numbers", "one", "other"] "are_rising" (defScope s_are_rising) f cdv A outer s H E) (E := E) rfl rfl rfl rfl
  exact s_cons (s_ret (w_all rfl rfl G.b_all (w_cons (w_lc (mt := false) rfl nd (i_zip rfl G.b_zip (w_var (i := 0) rfl (.inl rfl) rfl rfl) (w_slc (w_var (i := 0) rfl (.inl rfl) rfl rfl) (w_part (w_int)) (w_noPart)) rfl rfl rfl) (blkOk_by (own := [("one", 1), ("other", 2)]) (by kernel_rfl)) rfl rfl (fun _ _ _ _ _ => g_tup rfl (gs_name (i := 1) nd rfl (.inl rfl) (.inr rfl) (gs_name (i := 2) nd rfl (.inl rfl) (.inr rfl) (gs_nil) rfl) rfl) rfl rfl) (fun _ _ _ _ _ => bs_nil) (fun _ _ _ _ _ => w_cmp hr (w_var (i := 1) rfl (.inl rfl) rfl rfl) (w_var (i := 2) rfl (.inl rfl) rfl rfl) rfl) (fun _ => rfl)) (w_nil) rfl) rfl rfl))
      (s_nil)
abbrev s_is_hush : Stmt := top 41
theorem sc_is_hush : FnScope ["many", "thing"] ["many", "thing"] (defScope s_is_hush) := ⟨rfl, rfl, rfl, by decide +kernel, rfl, by decide +kernel, by decide +kernel⟩
theorem ok_is_hush (G : Glo K mg) {dvs : List V} {kws : List (Str × V)} {f : Addr} {fd : FuncData} (h_is_from : CallF (tab P w K) P w K mg base 2 "is_from" f_is_from) (Fd : FunD K "is_hush" "is_hush" (defArgs s_is_hush) (defBody s_is_hush) (defScope s_is_hush) dvs kws f fd) : FnOk P w K mg base (L2.CX P w) 3 f fd ["many", "thing"] (spW (tab P w K) K 2 f_is_hush) := by
  have nd := (sc_is_hush).nd
  refine fnW_ok (k := 2) Fd sc_is_hush fun cdv A outer s H E hr => ?_
  have tk := takes_of (X := cxOf (L2.CX P w) P w K mg base ["many", "thing"] "is_hush" (defScope s_is_hush) f cdv A outer s H E) (E := E) rfl rfl rfl rfl
  exact s_cons (s_if (L2.PW.pt (b_or (b_not (b_test (w_isTuple rfl G.b_isinstance rfl G.b_tuple (w_var (i := 1) rfl (.inl rfl) rfl rfl) rfl rfl rfl) (fun _ => rfl))) (b_or1 (b_cmp hr (w_len rfl G.b_len (w_cons (w_var (i := 1) rfl (.inl rfl) rfl rfl) (w_nil) rfl) rfl rfl) (w_int) rfl)))) (s_cons (s_ret (w_bl))
      (s_nil)) (s_nil))
      (s_cons (s_ret (w_and (w_callP h_is_from hr (by decide) rfl tk (w_cons (w_idx (w_var (i := 1) rfl (.inl rfl) rfl rfl) (w_int) (fun _ _ => rfl)) (w_cons (w_int) (w_cons (w_var (i := 0) rfl (.inl rfl) rfl rfl) (w_nil) rfl) rfl) rfl) rfl rfl rfl) (one (w_callP h_is_from hr (by decide) rfl tk (w_cons (w_idx (w_var (i := 1) rfl (.inl rfl) rfl rfl) (w_int) (fun _ _ => rfl)) (w_cons (w_int) (w_cons (w_bin (w_globW rfl (G.c_MOST_HUSHED _ _) rfl) (w_int)) (w_nil) rfl) rfl) rfl) rfl rfl rfl))))
      (s_nil))
abbrev s_are_hushes : Stmt := top 42
theorem sc_are_hushes : FnScope ["many", "thing", "rule", "beats", "one"] ["many", "thing"] (defScope s_are_hushes) := ⟨rfl, rfl, rfl, by decide +kernel, rfl, by decide +kernel, by decide +kernel⟩
theorem ok_are_hushes (G : Glo K mg) {dvs : List V} {kws : List (Str × V)} {f : Addr} {fd : FuncData} (h_is_hush : CallF (tab P w K) P w K mg base 3 "is_hush" f_is_hush) (h_are_rising : CallF (tab P w K) P w K mg base 1 "are_rising" f_are_rising) (Fd : FunD K "are_hushes" "are_hushes" (defArgs s_are_hushes) (defBody s_are_hushes) (defScope s_are_hushes) dvs kws f fd) : FnOk P w K mg base (L2.CX P w) 4 f fd ["many", "thing"] (spW (tab P w K) K 2 f_are_hushes) := by
  have nd := (sc_are_hushes).nd
  refine fnW_ok (k := 3) Fd sc_are_hushes fun cdv A outer s H E hr => ?_
  have tk := takes_of (X := cxOf (L2.CX P w) P w K mg base ["many", "thing", "rule", "beats", "one"] "are_hushes" (defScope s_are_hushes) f cdv A outer s H E) (E := E) rfl rfl rfl rfl
  exact s_cons (s_if (L2.PW.pt (b_or (b_not (b_test (w_isTuple rfl G.b_isinstance rfl G.b_tuple (w_var (i := 1) rfl (.inl rfl) rfl rfl) rfl rfl rfl) (fun _ => rfl))) (b_or1 (b_not (b_test (w_all rfl rfl G.b_all (w_cons (w_lc (mt := false) rfl nd (i_seq (w_var (i := 1) rfl (.inl rfl) rfl rfl)) (blkOk_by (own := [("one", 4)]) (by kernel_rfl)) rfl rfl (fun _ _ _ _ _ => g_name (i := 4) nd rfl (.inl rfl) (.inr rfl)) (fun _ _ _ _ _ => bs_nil) (fun _ _ _ _ _ => w_callP h_is_hush hr (by decide) rfl L2.takes0 (w_cons (w_var (i := 0) rfl (.inr (.inl rfl)) rfl rfl) (w_cons (w_var (i := 4) rfl (.inl rfl) rfl rfl) (w_nil) rfl) rfl) rfl rfl rfl) (fun _ => rfl)) (w_nil) rfl) rfl rfl) (fun _ => rfl)))))) (s_cons (s_ret (w_bl))
      (s_nil)) (s_nil))
      (s_cons (s_ret (w_callP h_are_rising hr (by decide) rfl tk (w_cons (w_lc (mt := false) rfl nd (i_seq (w_var (i := 1) rfl (.inl rfl) rfl rfl)) (blkOk_by (own := [("rule", 2), ("beats", 3)]) (by kernel_rfl)) rfl rfl (fun _ _ _ _ _ => g_tup rfl (gs_name (i := 2) nd rfl (.inl rfl) (.inr rfl) (gs_name (i := 3) nd rfl (.inl rfl) (.inr rfl) (gs_nil) rfl) rfl) rfl rfl) (fun _ _ _ _ _ => bs_nil) (fun _ _ _ _ _ => w_var (i := 2) rfl (.inl rfl) rfl rfl) (fun _ => rfl)) (w_nil) rfl) rfl rfl rfl))
      (s_nil))
abbrev s_are_rules_numbers : Stmt := top 40
theorem sc_are_rules_numbers : FnScope ["thing", "many", "one"] ["thing", "many"] (defScope s_are_rules_numbers) := ⟨rfl, rfl, rfl, by decide +kernel, rfl, by decide +kernel, by decide +kernel⟩
theorem ok_are_rules_numbers (G : Glo K mg) {dvs : List V} {kws : List (Str × V)} {f : Addr} {fd : FuncData} (h_are_rising : CallF (tab P w K) P w K mg base 1 "are_rising" f_are_rising) (h_is_from : CallF (tab P w K) P w K mg base 2 "is_from" f_is_from) (Fd : FunD K "are_rules_numbers" "are_rules_numbers" (defArgs s_are_rules_numbers) (defBody s_are_rules_numbers) (defScope s_are_rules_numbers) dvs kws f fd) : FnOk P w K mg base (L2.CX P w) 3 f fd ["thing", "many"] (spW (tab P w K) K 2 f_are_rules_numbers) := by
  have nd := (sc_are_rules_numbers).nd
  refine fnW_ok (k := 2) Fd sc_are_rules_numbers fun cdv A outer s H E hr => ?_
  have tk := takes_of (X := cxOf (L2.CX P w) P w K mg base ["thing", "many", "one"] "are_rules_numbers" (defScope s_are_rules_numbers) f cdv A outer s H E) (E := E) rfl rfl rfl rfl
  exact s_cons (s_ret (w_and (w_isTuple rfl G.b_isinstance rfl G.b_tuple (w_var (i := 0) rfl (.inl rfl) rfl rfl) rfl rfl rfl) (w_and (w_all rfl rfl G.b_all (w_cons (w_lc (mt := false) rfl nd (i_seq (w_var (i := 0) rfl (.inl rfl) rfl rfl)) (blkOk_by (own := [("one", 2)]) (by kernel_rfl)) rfl rfl (fun _ _ _ _ _ => g_name (i := 2) nd rfl (.inl rfl) (.inr rfl)) (fun _ _ _ _ _ => bs_nil) (fun _ _ _ _ _ => w_callP h_is_from hr (by decide) rfl L2.takes0 (w_cons (w_var (i := 2) rfl (.inl rfl) rfl rfl) (w_cons (w_int) (w_cons (w_var (i := 1) rfl (.inr (.inl rfl)) rfl rfl) (w_nil) rfl) rfl) rfl) rfl rfl rfl) (fun _ => rfl)) (w_nil) rfl) rfl rfl) (one (w_callP h_are_rising hr (by decide) rfl tk (w_cons (w_var (i := 0) rfl (.inl rfl) rfl rfl) (w_nil) rfl) rfl rfl rfl)))))
      (s_nil)
abbrev s_is_worded : Stmt := top 37
theorem sc_is_worded : FnScope ["thing", "words", "many"] ["thing", "words", "many"] (defScope s_is_worded) := ⟨rfl, rfl, rfl, by decide +kernel, rfl, by decide +kernel, by decide +kernel⟩
theorem ok_is_worded (G : Glo K mg) {dvs : List V} {kws : List (Str × V)} {f : Addr} {fd : FuncData} (Fd : FunD K "is_worded" "is_worded" (defArgs s_is_worded) (defBody s_is_worded) (defScope s_is_worded) dvs kws f fd) : FnOk P w K mg base (L2.CX P w) 1 f fd ["thing", "words", "many"] (spW (tab P w K) K 3 f_is_worded) := by
  have nd := (sc_is_worded).nd
  refine fnW_ok (k := 0) Fd sc_is_worded fun cdv A outer s H E hr => ?_
  have tk := takes_of (X := cxOf (L2.CX P w) P w K mg base ["thing", "words", "many"] "is_worded" (defScope s_is_worded) f cdv A outer s H E) (E := E) rfl rfl rfl rfl
  exact s_cons (s_ret (w_and (w_isTuple rfl G.b_isinstance rfl G.b_tuple (w_var (i := 0) rfl (.inl rfl) rfl rfl) rfl rfl rfl) (w_and (w_cmp hr (w_len rfl G.b_len (w_cons (w_var (i := 0) rfl (.inl rfl) rfl rfl) (w_nil) rfl) rfl rfl) (w_var (i := 2) rfl (.inl rfl) rfl rfl) rfl) (w_and (w_isStr rfl G.b_isinstance rfl G.b_str (w_idx (w_var (i := 0) rfl (.inl rfl) rfl rfl) (w_int) (fun _ _ => rfl)) rfl rfl rfl) (one (w_cmp hr (w_idx (w_var (i := 0) rfl (.inl rfl) rfl rfl) (w_int) (fun _ _ => rfl)) (w_var (i := 1) rfl (.inl rfl) rfl rfl) rfl))))))
      (s_nil)
abbrev s_is_placed : Stmt := top 38
theorem sc_is_placed : FnScope ["wheels", "thing", "words", "word", "wheel", "place"] ["wheels", "thing", "words"] (defScope s_is_placed) := ⟨rfl, rfl, rfl, by decide +kernel, rfl, by decide +kernel, by decide +kernel⟩
theorem ok_is_placed (G : Glo K mg) {dvs : List V} {kws : List (Str × V)} {f : Addr} {fd : FuncData} (h_is_worded : CallF (tab P w K) P w K mg base 1 "is_worded" f_is_worded) (h_is_from : CallF (tab P w K) P w K mg base 2 "is_from" f_is_from) (Fd : FunD K "is_placed" "is_placed" (defArgs s_is_placed) (defBody s_is_placed) (defScope s_is_placed) dvs kws f fd) : FnOk P w K mg base (L2.CX P w) 3 f fd ["wheels", "thing", "words"] (spW (tab P w K) K 3 f_is_placed) := by
  have nd := (sc_is_placed).nd
  refine fnW_ok (k := 2) Fd sc_is_placed fun cdv A outer s H E hr => ?_
  have tk := takes_of (X := cxOf (L2.CX P w) P w K mg base ["wheels", "thing", "words", "word", "wheel", "place"] "is_placed" (defScope s_is_placed) f cdv A outer s H E) (E := E) rfl rfl rfl rfl
  exact s_cons (s_if (b_not (b_test (w_callP h_is_worded hr (by decide) rfl tk (w_cons (w_var (i := 1) rfl (.inl rfl) rfl rfl) (w_cons (w_var (i := 2) rfl (.inl rfl) rfl rfl) (w_cons (w_int) (w_nil) rfl) rfl) rfl) rfl rfl rfl) (fun _ => rfl))) (s_cons (s_ret (w_bl))
      (s_nil)) (s_nil))
      (s_cons (s_asg (w_var (i := 1) rfl (.inl rfl) rfl rfl) (g_tup rfl (gs_name (i := 3) nd rfl (.inl rfl) (.inl rfl) (gs_name (i := 4) nd rfl (.inl rfl) (.inl rfl) (gs_name (i := 5) nd rfl (.inl rfl) (.inl rfl) (gs_nil) rfl) rfl) rfl) rfl rfl) rfl rfl rfl)
      (s_cons (s_ret (w_and (w_callP h_is_from hr (by decide) rfl tk (w_cons (w_var (i := 4) rfl (.inl rfl) rfl rfl) (w_cons (w_int) (w_cons (w_len rfl G.b_len (w_cons (w_var (i := 0) rfl (.inl rfl) rfl rfl) (w_nil) rfl) rfl rfl) (w_nil) rfl) rfl) rfl) rfl rfl rfl) (one (w_callP h_is_from hr (by decide) rfl tk (w_cons (w_var (i := 5) rfl (.inl rfl) rfl rfl) (w_cons (w_int) (w_cons (w_idx (w_var (i := 0) rfl (.inl rfl) rfl rfl) (w_var (i := 4) rfl (.inl rfl) rfl rfl) (fun _ _ => rfl)) (w_nil) rfl) rfl) rfl) rfl rfl rfl))))
      (s_nil)))
abbrev s_is_condition : Stmt := top 39
theorem sc_is_condition : FnScope ["wheels", "many", "thing"] ["wheels", "many", "thing"] (defScope s_is_condition) := ⟨rfl, rfl, rfl, by decide +kernel, rfl, by decide +kernel, by decide +kernel⟩
theorem ok_is_condition (G : Glo K mg) {dvs : List V} {kws : List (Str × V)} {f : Addr} {fd : FuncData} (h_is_worded : CallF (tab P w K) P w K mg base 1 "is_worded" f_is_worded) (h_is_from : CallF (tab P w K) P w K mg base 2 "is_from" f_is_from) (h_is_placed : CallF (tab P w K) P w K mg base 3 "is_placed" f_is_placed) (Fd : FunD K "is_condition" "is_condition" (defArgs s_is_condition) (defBody s_is_condition) (defScope s_is_condition) dvs kws f fd) : FnOk P w K mg base (L2.CX P w) 4 f fd ["wheels", "many", "thing"] (spW (tab P w K) K 3 f_is_condition) := by
  have nd := (sc_is_condition).nd
  refine fnW_ok (k := 3) Fd sc_is_condition fun cdv A outer s H E hr => ?_
  have tk := takes_of (X := cxOf (L2.CX P w) P w K mg base ["wheels", "many", "thing"] "is_condition" (defScope s_is_condition) f cdv A outer s H E) (E := E) rfl rfl rfl rfl
  exact s_cons (s_if (b_test (w_callP h_is_worded hr (by decide) rfl tk (w_cons (w_var (i := 2) rfl (.inl rfl) rfl rfl) (w_cons (w_globW rfl (G.c_RULED _ _) rfl) (w_cons (w_int) (w_nil) rfl) rfl) rfl) rfl rfl rfl) (fun _ => rfl)) (s_cons (s_ret (w_callP h_is_from hr (by decide) rfl tk (w_cons (w_idx (w_var (i := 2) rfl (.inl rfl) rfl rfl) (w_int) (fun _ _ => rfl)) (w_cons (w_int) (w_cons (w_var (i := 1) rfl (.inl rfl) rfl rfl) (w_nil) rfl) rfl) rfl) rfl rfl rfl))
      (s_nil)) (s_nil))
      (s_cons (s_ret (w_callP h_is_placed hr (by decide) rfl tk (w_cons (w_var (i := 0) rfl (.inl rfl) rfl rfl) (w_cons (w_var (i := 2) rfl (.inl rfl) rfl rfl) (w_cons (w_globW rfl (G.c_PLACED _ _) rfl) (w_nil) rfl) rfl) rfl) rfl rfl rfl))
      (s_nil))
abbrev s_is_rule : Stmt := top 43
theorem sc_is_rule : FnScope ["wheels", "many", "thing", "test", "changes", "hushes", "wakes", "rule", "beats", "one"] ["wheels", "many", "thing"] (defScope s_is_rule) := ⟨rfl, rfl, rfl, by decide +kernel, rfl, by decide +kernel, by decide +kernel⟩
theorem ok_is_rule (G : Glo K mg) {dvs : List V} {kws : List (Str × V)} {f : Addr} {fd : FuncData} (h_is_condition : CallF (tab P w K) P w K mg base 4 "is_condition" f_is_condition) (h_is_row : CallF (tab P w K) P w K mg base 1 "is_row" f_is_row) (h_is_placed : CallF (tab P w K) P w K mg base 3 "is_placed" f_is_placed) (h_are_rules_numbers : CallF (tab P w K) P w K mg base 3 "are_rules_numbers" f_are_rules_numbers) (h_are_hushes : CallF (tab P w K) P w K mg base 4 "are_hushes" f_are_hushes) (Fd : FunD K "is_rule" "is_rule" (defArgs s_is_rule) (defBody s_is_rule) (defScope s_is_rule) dvs kws f fd) : FnOk P w K mg base (L2.CX P w) 5 f fd ["wheels", "many", "thing"] (spW (tab P w K) K 3 f_is_rule) := by
  have nd := (sc_is_rule).nd
  refine fnW_ok (k := 4) Fd sc_is_rule fun cdv A outer s H E hr => ?_
  have tk := takes_of (X := cxOf (L2.CX P w) P w K mg base ["wheels", "many", "thing", "test", "changes", "hushes", "wakes", "rule", "beats", "one"] "is_rule" (defScope s_is_rule) f cdv A outer s H E) (E := E) rfl rfl rfl rfl
  exact s_cons (s_if (L2.PW.pt (b_or (b_not (b_test (w_isTuple rfl G.b_isinstance rfl G.b_tuple (w_var (i := 2) rfl (.inl rfl) rfl rfl) rfl rfl rfl) (fun _ => rfl))) (b_or1 (b_cmp hr (w_len rfl G.b_len (w_cons (w_var (i := 2) rfl (.inl rfl) rfl rfl) (w_nil) rfl) rfl rfl) (w_globW rfl (G.c_PARTS _ _) rfl) rfl)))) (s_cons (s_ret (w_bl))
      (s_nil)) (s_nil))
      (s_cons (s_asg (w_var (i := 2) rfl (.inl rfl) rfl rfl) (g_tup rfl (gs_name (i := 3) nd rfl (.inl rfl) (.inl rfl) (gs_name (i := 4) nd rfl (.inl rfl) (.inl rfl) (gs_name (i := 5) nd rfl (.inl rfl) (.inl rfl) (gs_name (i := 6) nd rfl (.inr rfl) (.inl rfl) (gs_nil) rfl) rfl) rfl) rfl) rfl rfl) rfl rfl rfl)
      (s_cons (s_if (L2.PW.pt (b_or (b_not (b_test (w_callP h_is_row hr (by decide) rfl tk (w_cons (w_var (i := 3) rfl (.inl rfl) rfl rfl) (w_cons (w_globW rfl (G.c_MOST_CONDITIONS _ _) rfl) (w_nil) rfl) rfl) rfl rfl rfl) (fun _ => rfl))) (b_or1 (b_not (b_test (w_all rfl rfl G.b_all (w_cons (w_lc (mt := false) rfl nd (i_seq (w_var (i := 3) rfl (.inl rfl) rfl rfl)) (blkOk_by (own := [("one", 9)]) (by kernel_rfl)) rfl rfl (fun _ _ _ _ _ => g_name (i := 9) nd rfl (.inl rfl) (.inr rfl)) (fun _ _ _ _ _ => bs_nil) (fun _ _ _ _ _ => w_callP h_is_condition hr (by decide) rfl L2.takes0 (w_cons (w_var (i := 0) rfl (.inr (.inl rfl)) rfl rfl) (w_cons (w_var (i := 1) rfl (.inr (.inl rfl)) rfl rfl) (w_cons (w_var (i := 9) rfl (.inl rfl) rfl rfl) (w_nil) rfl) rfl) rfl) rfl rfl rfl) (fun _ => rfl)) (w_nil) rfl) rfl rfl) (fun _ => rfl)))))) (s_cons (s_ret (w_bl))
      (s_nil)) (s_nil))
      (s_cons (s_if (L2.PW.pt (b_or (b_not (b_test (w_callP h_is_row hr (by decide) rfl tk (w_cons (w_var (i := 4) rfl (.inl rfl) rfl rfl) (w_cons (w_globW rfl (G.c_MOST_CHANGES _ _) rfl) (w_nil) rfl) rfl) rfl rfl rfl) (fun _ => rfl))) (b_or1 (b_not (b_test (w_all rfl rfl G.b_all (w_cons (w_lc (mt := false) rfl nd (i_seq (w_var (i := 4) rfl (.inl rfl) rfl rfl)) (blkOk_by (own := [("one", 9)]) (by kernel_rfl)) rfl rfl (fun _ _ _ _ _ => g_name (i := 9) nd rfl (.inl rfl) (.inr rfl)) (fun _ _ _ _ _ => bs_nil) (fun _ _ _ _ _ => w_callP h_is_placed hr (by decide) rfl L2.takes0 (w_cons (w_var (i := 0) rfl (.inr (.inl rfl)) rfl rfl) (w_cons (w_var (i := 9) rfl (.inl rfl) rfl rfl) (w_cons (w_globW rfl (G.c_CHANGES _ _) rfl) (w_nil) rfl) rfl) rfl) rfl rfl rfl) (fun _ => rfl)) (w_nil) rfl) rfl rfl) (fun _ => rfl)))))) (s_cons (s_ret (w_bl))
      (s_nil)) (s_nil))
      (s_cons (s_if (L2.PW.pt (b_or (b_not (b_test (w_callP h_are_hushes hr (by decide) rfl tk (w_cons (w_var (i := 1) rfl (.inr (.inl rfl)) rfl rfl) (w_cons (w_var (i := 5) rfl (.inl rfl) rfl rfl) (w_nil) rfl) rfl) rfl rfl rfl) (fun _ => rfl))) (b_or1 (b_not (b_test (w_callP h_are_rules_numbers hr (by decide) rfl tk (w_cons (w_var (i := 6) rfl (.inr (.inl rfl)) rfl rfl) (w_cons (w_var (i := 1) rfl (.inr (.inl rfl)) rfl rfl) (w_nil) rfl) rfl) rfl rfl rfl) (fun _ => rfl)))))) (s_cons (s_ret (w_bl))
      (s_nil)) (s_nil))
      (s_cons (s_ret (w_not (w_any rfl rfl G.b_any (w_cons (w_lc (mt := false) rfl nd (i_seq (w_var (i := 5) rfl (.inl rfl) rfl rfl)) (blkOk_by (own := [("rule", 7), ("beats", 8)]) (by kernel_rfl)) rfl rfl (fun _ _ _ _ _ => g_tup rfl (gs_name (i := 7) nd rfl (.inl rfl) (.inr rfl) (gs_name (i := 8) nd rfl (.inl rfl) (.inr rfl) (gs_nil) rfl) rfl) rfl rfl) (fun _ _ _ _ _ => bs_nil) (fun _ _ _ _ _ => w_cmp hr (w_var (i := 7) rfl (.inl rfl) rfl rfl) (w_var (i := 6) rfl (.inr (.inl rfl)) rfl rfl) rfl) (fun _ => rfl)) (w_nil) rfl) rfl rfl)))
      (s_nil))))))
abbrev s_look_book : Stmt := top 44
theorem sc_look_book : FnScope ["wheels", "rules", "at", "rule"] ["wheels", "rules"] (defScope s_look_book) := ⟨rfl, rfl, rfl, by decide +kernel, rfl, by decide +kernel, by decide +kernel⟩
theorem ok_look_book (G : Glo K mg) {dvs : List V} {kws : List (Str × V)} {f : Addr} {fd : FuncData} (h_is_row : CallF (tab P w K) P w K mg base 1 "is_row" f_is_row) (h_are_wheels : CallF (tab P w K) P w K mg base 3 "are_wheels" f_are_wheels) (h_err_NoBook : ErrF P w K mg base "NoBook" (He.ga K "NoBook") "at") (h_is_rule : CallF (tab P w K) P w K mg base 5 "is_rule" f_is_rule) (Fd : FunD K "look_book" "look_book" (defArgs s_look_book) (defBody s_look_book) (defScope s_look_book) dvs kws f fd) : FnOk P w K mg base (L2.CX P w) 6 f fd ["wheels", "rules"] (spW (tab P w K) K 2 f_look_book) := by
  have nd := (sc_look_book).nd
  refine fnW_ok (k := 5) Fd sc_look_book fun cdv A outer s H E hr => ?_
  have tk := takes_of (X := cxOf (L2.CX P w) P w K mg base ["wheels", "rules", "at", "rule"] "look_book" (defScope s_look_book) f cdv A outer s H E) (E := E) rfl rfl rfl rfl
  exact s_cons (s_if (L2.PW.pt (b_or (b_not (b_test (w_callP h_are_wheels hr (by decide) rfl tk (w_cons (w_var (i := 0) rfl (.inl rfl) rfl rfl) (w_nil) rfl) rfl rfl rfl) (fun _ => rfl))) (b_or1 (b_not (b_test (w_callP h_is_row hr (by decide) rfl tk (w_cons (w_var (i := 1) rfl (.inl rfl) rfl rfl) (w_cons (w_globW rfl (G.c_MOST_RULES _ _) rfl) (w_nil) rfl) rfl) rfl rfl rfl) (fun _ => rfl)))))) (s_cons (s_raiseF rfl tk h_err_NoBook rfl (Nat.le_of_ble_eq_true rfl) hr (by decide) rfl (w_neg (w_int)) rfl rfl rfl)
      (s_nil)) (s_nil))
      (s_cons (s_for (passes_of rfl) rfl (i_enum rfl G.b_enumerate (w_var (i := 1) rfl (.inl rfl) rfl rfl) rfl) (g_tup rfl (gs_name (i := 2) nd rfl (.inl rfl) (.inl rfl) (gs_name (i := 3) nd rfl (.inl rfl) (.inl rfl) (gs_nil) rfl) rfl) rfl rfl) (s_cons (s_if (b_not (b_test (w_callP h_is_rule hr (by decide) rfl tk (w_cons (w_var (i := 0) rfl (.inl rfl) rfl rfl) (w_cons (w_len rfl G.b_len (w_cons (w_var (i := 1) rfl (.inl rfl) rfl rfl) (w_nil) rfl) rfl rfl) (w_cons (w_var (i := 3) rfl (.inl rfl) rfl rfl) (w_nil) rfl) rfl) rfl) rfl rfl rfl) (fun _ => rfl))) (s_cons (s_raiseF rfl tk h_err_NoBook rfl (Nat.le_of_ble_eq_true rfl) hr (by decide) rfl (w_var (i := 2) rfl (.inl rfl) rfl rfl) rfl rfl rfl)
      (s_nil)) (s_nil))
      (s_nil)) (fun _ => rfl))
      (s_nil))
abbrev s_Book___init__ : Stmt := inClass (top 45) 0
theorem sc_Book___init__ : FnScope ["self", "wheels", "rules"] ["self", "wheels", "rules"] (defScope s_Book___init__) := ⟨rfl, rfl, rfl, by decide +kernel, rfl, by decide +kernel, by decide +kernel⟩
theorem ok_Book___init__ (G : Glo K mg) {dvs : List V} {kws : List (Str × V)} {f : Addr} {fd : FuncData} (h_look_book : CallF (tab P w K) P w K mg base 6 "look_book" f_look_book) (Fd : FunD K "__init__" "Book.__init__" (defArgs s_Book___init__) (defBody s_Book___init__) (defScope s_Book___init__) dvs kws f fd) : FnOk P w K mg base (L2.CX P w) 7 f fd ["self", "wheels", "rules"] (spW (tab P w K) K 3 f_Book___init__) := by
  have nd := (sc_Book___init__).nd
  refine fnW_ok (k := 6) Fd sc_Book___init__ fun cdv A outer s H E hr => ?_
  have tk := takes_of (X := cxOf (L2.CX P w) P w K mg base ["self", "wheels", "rules"] "Book.__init__" (defScope s_Book___init__) f cdv A outer s H E) (E := E) rfl rfl rfl rfl
  exact s_cons (s_expr (w_callP h_look_book hr (by decide) rfl tk (w_cons (w_var (i := 1) rfl (.inl rfl) rfl rfl) (w_cons (w_var (i := 2) rfl (.inl rfl) rfl rfl) (w_nil) rfl) rfl) rfl rfl rfl) rfl)
      (s_cons (s_setFld fldN (Nat.le_of_ble_eq_true rfl) rfl G.k_Book G.n_Book_wheels (w_var (i := 0) rfl (.inl rfl) rfl rfl) (w_var (i := 1) rfl (.inl rfl) rfl rfl) rfl)
      (s_cons (s_setFld fldN (Nat.le_of_ble_eq_true rfl) rfl G.k_Book G.n_Book_rules (w_var (i := 0) rfl (.inl rfl) rfl rfl) (w_var (i := 2) rfl (.inl rfl) rfl rfl) rfl)
      (s_nil)))
abbrev s_are_values : Stmt := top 46
theorem sc_are_values : FnScope ["book", "thing", "place", "places"] ["book", "thing"] (defScope s_are_values) := ⟨rfl, rfl, rfl, by decide +kernel, rfl, by decide +kernel, by decide +kernel⟩
theorem ok_are_values (G : Glo K mg) {dvs : List V} {kws : List (Str × V)} {f : Addr} {fd : FuncData} (h_is_from : CallF (tab P w K) P w K mg base 2 "is_from" f_is_from) (Fd : FunD K "are_values" "are_values" (defArgs s_are_values) (defBody s_are_values) (defScope s_are_values) dvs kws f fd) : FnOk P w K mg base (L2.CX P w) 3 f fd ["book", "thing"] (spW (tab P w K) K 2 f_are_values) := by
  have nd := (sc_are_values).nd
  refine fnW_ok (k := 2) Fd sc_are_values fun cdv A outer s H E hr => ?_
  have tk := takes_of (X := cxOf (L2.CX P w) P w K mg base ["book", "thing", "place", "places"] "are_values" (defScope s_are_values) f cdv A outer s H E) (E := E) rfl rfl rfl rfl
  exact s_cons (s_if (L2.PW.pt (b_or (b_not (b_test (w_isOs (fun c hc => by rcases (by simpa using hc : c = 0 ∨ c = 2) with rfl | rfl; exact G.k_Book; exact G.k_Watch) G.t_3 rfl G.b_isinstance rfl G.b_tuple PyProof.Rows.boot_tuple (by decide) rfl (w_var (i := 1) rfl (.inl rfl) rfl rfl) rfl rfl rfl) (fun _ => rfl))) (b_or1 (b_cmp hr (w_len rfl G.b_len (w_cons (w_var (i := 1) rfl (.inl rfl) rfl rfl) (w_nil) rfl) rfl rfl) (w_len rfl G.b_len (w_cons (w_fld fldN (Nat.le_of_ble_eq_true rfl) rfl G.k_Book G.n_Book_wheels (w_var (i := 0) rfl (.inl rfl) rfl rfl) rfl) (w_nil) rfl) rfl rfl) rfl)))) (s_cons (s_ret (w_bl))
      (s_nil)) (s_nil))
      (s_cons (s_ret (w_all rfl rfl G.b_all (w_cons (w_lc (mt := false) rfl nd (i_zips rfl G.b_zip (w_var (i := 1) rfl (.inl rfl) rfl rfl) (w_fld fldN (Nat.le_of_ble_eq_true rfl) rfl G.k_Book G.n_Book_wheels (w_var (i := 0) rfl (.inl rfl) rfl rfl) rfl) rfl rfl rfl (fun ha => pi_zipS rfl G.b_zip ha rfl rfl)) (blkOk_by (own := [("place", 2), ("places", 3)]) (by kernel_rfl)) rfl rfl (fun _ _ _ _ _ => g_tup rfl (gs_name (i := 2) nd rfl (.inl rfl) (.inr rfl) (gs_name (i := 3) nd rfl (.inl rfl) (.inr rfl) (gs_nil) rfl) rfl) rfl rfl) (fun _ _ _ _ _ => bs_nil) (fun _ _ _ _ _ => w_callP h_is_from hr (by decide) rfl L2.takes0 (w_cons (w_var (i := 2) rfl (.inl rfl) rfl rfl) (w_cons (w_int) (w_cons (w_var (i := 3) rfl (.inl rfl) rfl rfl) (w_nil) rfl) rfl) rfl) rfl rfl rfl) (fun _ => rfl)) (w_nil) rfl) rfl rfl))
      (s_nil))
abbrev s_begun : Stmt := top 48
theorem sc_begun : FnScope ["book", "values"] ["book", "values"] (defScope s_begun) := ⟨rfl, rfl, rfl, by decide +kernel, rfl, by decide +kernel, by decide +kernel⟩
theorem ok_begun (G : Glo K mg) {dvs : List V} {kws : List (Str × V)} {f : Addr} {fd : FuncData} (h_are_values : CallF (tab P w K) P w K mg base 3 "are_values" f_are_values) (Fd : FunD K "begun" "begun" (defArgs s_begun) (defBody s_begun) (defScope s_begun) dvs kws f fd) : FnOk P w K mg base (L2.CX P w) 4 f fd ["book", "values"] (spW (tab P w K) K 2 f_begun) := by
  have nd := (sc_begun).nd
  refine fnW_ok (k := 3) Fd sc_begun fun cdv A outer s H E hr => ?_
  have tk := takes_of (X := cxOf (L2.CX P w) P w K mg base ["book", "values"] "begun" (defScope s_begun) f cdv A outer s H E) (E := E) rfl rfl rfl rfl
  exact s_cons (s_if (b_not (b_test (w_callP h_are_values hr (by decide) rfl tk (w_cons (w_var (i := 0) rfl (.inl rfl) rfl rfl) (w_cons (w_var (i := 1) rfl (.inl rfl) rfl rfl) (w_nil) rfl) rfl) rfl rfl rfl) (fun _ => rfl))) (s_cons (s_raise rfl tk PySem.F.excBase_ValueError G.x_NoState G.g_NoState rfl rfl)
      (s_nil)) (s_nil))
      (s_cons (s_ret (w_tup (w_cons (w_var (i := 1) rfl (.inl rfl) rfl rfl) (w_cons (w_bin (w_tup (w_cons (w_int) (w_nil) rfl)) (w_len rfl G.b_len (w_cons (w_fld fldN (Nat.le_of_ble_eq_true rfl) rfl G.k_Book G.n_Book_rules (w_var (i := 0) rfl (.inl rfl) rfl rfl) rfl) (w_nil) rfl) rfl rfl)) (w_nil) rfl) rfl)))
      (s_nil))
abbrev s_look_off : Stmt := top 51
theorem sc_look_off : FnScope ["book", "off"] ["book", "off"] (defScope s_look_off) := ⟨rfl, rfl, rfl, by decide +kernel, rfl, by decide +kernel, by decide +kernel⟩
theorem ok_look_off (G : Glo K mg) {dvs : List V} {kws : List (Str × V)} {f : Addr} {fd : FuncData} (h_are_rules_numbers : CallF (tab P w K) P w K mg base 3 "are_rules_numbers" f_are_rules_numbers) (Fd : FunD K "look_off" "look_off" (defArgs s_look_off) (defBody s_look_off) (defScope s_look_off) dvs kws f fd) : FnOk P w K mg base (L2.CX P w) 4 f fd ["book", "off"] (spW (tab P w K) K 2 f_look_off) := by
  have nd := (sc_look_off).nd
  refine fnW_ok (k := 3) Fd sc_look_off fun cdv A outer s H E hr => ?_
  have tk := takes_of (X := cxOf (L2.CX P w) P w K mg base ["book", "off"] "look_off" (defScope s_look_off) f cdv A outer s H E) (E := E) rfl rfl rfl rfl
  exact s_cons (s_if (b_not (b_test (w_callP h_are_rules_numbers hr (by decide) rfl tk (w_cons (w_var (i := 1) rfl (.inl rfl) rfl rfl) (w_cons (w_len rfl G.b_len (w_cons (w_fld fldN (Nat.le_of_ble_eq_true rfl) rfl G.k_Book G.n_Book_rules (w_var (i := 0) rfl (.inl rfl) rfl rfl) rfl) (w_nil) rfl) rfl rfl) (w_nil) rfl) rfl) rfl rfl rfl) (fun _ => rfl))) (s_cons (s_raise rfl tk PySem.F.excBase_ValueError G.x_NoOff G.g_NoOff rfl rfl)
      (s_nil)) (s_nil))
      (s_nil)
abbrev s_Stand___init__ : Stmt := inClass (top 67) 0
theorem sc_Stand___init__ : FnScope ["self", "beats", "place", "out", "tally"] ["self", "beats", "place", "out", "tally"] (defScope s_Stand___init__) := ⟨rfl, rfl, rfl, by decide +kernel, rfl, by decide +kernel, by decide +kernel⟩
theorem ok_Stand___init__ (G : Glo K mg) {dvs : List V} {kws : List (Str × V)} {f : Addr} {fd : FuncData} (Fd : FunD K "__init__" "Stand.__init__" (defArgs s_Stand___init__) (defBody s_Stand___init__) (defScope s_Stand___init__) dvs kws f fd) : FnOk P w K mg base (L2.CX P w) 1 f fd ["self", "beats", "place", "out", "tally"] (spW (tab P w K) K 5 f_Stand___init__) := by
  have nd := (sc_Stand___init__).nd
  refine fnW_ok (k := 0) Fd sc_Stand___init__ fun cdv A outer s H E hr => ?_
  have tk := takes_of (X := cxOf (L2.CX P w) P w K mg base ["self", "beats", "place", "out", "tally"] "Stand.__init__" (defScope s_Stand___init__) f cdv A outer s H E) (E := E) rfl rfl rfl rfl
  exact s_cons (s_setFld fldN (Nat.le_of_ble_eq_true rfl) rfl G.k_Stand G.n_Stand_beats (w_var (i := 0) rfl (.inl rfl) rfl rfl) (w_var (i := 1) rfl (.inl rfl) rfl rfl) rfl)
      (s_cons (s_setFld fldN (Nat.le_of_ble_eq_true rfl) rfl G.k_Stand G.n_Stand_place (w_var (i := 0) rfl (.inl rfl) rfl rfl) (w_var (i := 2) rfl (.inl rfl) rfl rfl) rfl)
      (s_cons (s_setFld fldN (Nat.le_of_ble_eq_true rfl) rfl G.k_Stand G.n_Stand_out (w_var (i := 0) rfl (.inl rfl) rfl rfl) (w_var (i := 3) rfl (.inl rfl) rfl rfl) rfl)
      (s_cons (s_setFld fldN (Nat.le_of_ble_eq_true rfl) rfl G.k_Stand G.n_Stand_tally (w_var (i := 0) rfl (.inl rfl) rfl rfl) (w_var (i := 4) rfl (.inl rfl) rfl rfl) rfl)
      (s_nil))))
abbrev s_Book___len__ : Stmt := inClass (top 45) 2
theorem sc_Book___len__ : FnScope ["self"] ["self"] (defScope s_Book___len__) := ⟨rfl, rfl, rfl, by decide +kernel, rfl, by decide +kernel, by decide +kernel⟩
theorem ok_Book___len__ (G : Glo K mg) {dvs : List V} {kws : List (Str × V)} {f : Addr} {fd : FuncData} (Fd : FunD K "__len__" "Book.__len__" (defArgs s_Book___len__) (defBody s_Book___len__) (defScope s_Book___len__) dvs kws f fd) : FnOk P w K mg base (L2.CX P w) 1 f fd ["self"] (spW (tab P w K) K 1 f_Book___len__) := by
  have nd := (sc_Book___len__).nd
  refine fnW_ok (k := 0) Fd sc_Book___len__ fun cdv A outer s H E hr => ?_
  have tk := takes_of (X := cxOf (L2.CX P w) P w K mg base ["self"] "Book.__len__" (defScope s_Book___len__) f cdv A outer s H E) (E := E) rfl rfl rfl rfl
  exact s_cons (s_ret (w_len rfl G.b_len (w_cons (w_fld fldN (Nat.le_of_ble_eq_true rfl) rfl G.k_Book G.n_Book_rules (w_var (i := 0) rfl (.inl rfl) rfl rfl) rfl) (w_nil) rfl) rfl rfl))
      (s_nil)
abbrev s_Watch___init__ : Stmt := inClass (top 68) 0
theorem sc_Watch___init__ : FnScope ["self", "book", "values", "off", "place"] ["self", "book", "values", "off"] (defScope s_Watch___init__) := ⟨rfl, rfl, rfl, by decide +kernel, rfl, by decide +kernel, by decide +kernel⟩
theorem ok_Watch___init__ (G : Glo K mg) {dvs : List V} {kws : List (Str × V)} {f : Addr} {fd : FuncData} (h_begun : CallF (tab P w K) P w K mg base 4 "begun" f_begun) (h_look_off : CallF (tab P w K) P w K mg base 4 "look_off" f_look_off) (h_new_Stand : MakeF (tab P w K) P w K mg base 1 "Stand" 19 f_Stand___init__) (h_m_Book___len__ : MethF (tab P w K) P w K mg base 1 0 "__len__" f_Book___len__) (Fd : FunD K "__init__" "Watch.__init__" (defArgs s_Watch___init__) (defBody s_Watch___init__) (defScope s_Watch___init__) dvs kws f fd) : FnOk P w K mg base (L2.CX P w) 5 f fd ["self", "book", "values", "off"] (spW (tab P w K) K 4 f_Watch___init__) := by
  have nd := (sc_Watch___init__).nd
  refine fnW_ok (k := 4) Fd sc_Watch___init__ fun cdv A outer s H E hr => ?_
  have tk := takes_of (X := cxOf (L2.CX P w) P w K mg base ["self", "book", "values", "off", "place"] "Watch.__init__" (defScope s_Watch___init__) f cdv A outer s H E) (E := E) rfl rfl rfl rfl
  exact s_cons (s_set (i := 4) nd rfl (.inl rfl) (w_callP h_begun hr (by decide) rfl tk (w_cons (w_var (i := 1) rfl (.inl rfl) rfl rfl) (w_cons (w_var (i := 2) rfl (.inl rfl) rfl rfl) (w_nil) rfl) rfl) rfl rfl rfl) rfl (.inl rfl))
      (s_cons (s_expr (w_callP h_look_off hr (by decide) rfl tk (w_cons (w_var (i := 1) rfl (.inl rfl) rfl rfl) (w_cons (w_var (i := 3) rfl (.inl rfl) rfl rfl) (w_nil) rfl) rfl) rfl rfl rfl) rfl)
      (s_cons (s_setFld fldN (Nat.le_of_ble_eq_true rfl) rfl G.k_Watch G.n_Watch_of_book (w_var (i := 0) rfl (.inl rfl) rfl rfl) (w_var (i := 1) rfl (.inl rfl) rfl rfl) rfl)
      (s_cons (s_setFld fldN (Nat.le_of_ble_eq_true rfl) rfl G.k_Watch G.n_Watch_stand (w_var (i := 0) rfl (.inl rfl) rfl rfl) (w_make h_new_Stand hr (by decide) rfl tk (w_cons (w_int) (w_cons (w_var (i := 4) rfl (.inl rfl) rfl rfl) (w_cons (w_var (i := 3) rfl (.inl rfl) rfl rfl) (w_cons (w_bin (w_tup (w_cons (w_int) (w_nil) rfl)) (w_lenI h_m_Book___len__ hr (by decide) tk rfl G.b_len (w_var (i := 1) rfl (.inl rfl) rfl rfl) rfl)) (w_nil) rfl) rfl) rfl) rfl) rfl rfl rfl) rfl)
      (s_cons (s_setFld fldN (Nat.le_of_ble_eq_true rfl) rfl G.k_Watch G.n_Watch_past (w_var (i := 0) rfl (.inl rfl) rfl rfl) (w_nlst (w_nil)) rfl)
      (s_nil)))))
abbrev s_NoBeat___init__ : Stmt := inClass (top 9) 0
theorem sc_NoBeat___init__ : FnScope ["self", "beats"] ["self", "beats"] (defScope s_NoBeat___init__) := ⟨rfl, rfl, rfl, by decide +kernel, rfl, by decide +kernel, by decide +kernel⟩
theorem ok_NoBeat___init__ (G : Glo K mg) {f : Addr} {fd : FuncData} (Fd : FunD K "__init__" "NoBeat.__init__" (defArgs s_NoBeat___init__) (defBody s_NoBeat___init__) (defScope s_NoBeat___init__) [] [] f fd) : FnOk P w K mg base (L2.CX P w) 1 f fd ["self", "beats"] (spIni (He.ga K "NoBeat") "beats") :=
  ini_ok (oexGB_ok G.t_4) (errB_no G.t_5) Fd sc_NoBeat___init__ fun cdv A outer s H E => ini_body PySem.GX.base_Overflow (NwS.pe_tyat (call_ini PySem.GX.base_Overflow) ty_Overflow rfl G.b_OverflowError PyProof.Rows.Boot.«OverflowError» (pa_cons (pe_var (i := 0) rfl (.inl rfl) rfl rfl) (pa_cons pe_str pa_nil rfl) rfl) (by decide) rfl rfl rfl rfl) rfl rfl rfl (.inl rfl) (.inl rfl) rfl rfl rfl rfl rfl
abbrev s_look_beats : Stmt := top 62
theorem sc_look_beats : FnScope ["beats"] ["beats"] (defScope s_look_beats) := ⟨rfl, rfl, rfl, by decide +kernel, rfl, by decide +kernel, by decide +kernel⟩
theorem ok_look_beats (G : Glo K mg) {dvs : List V} {kws : List (Str × V)} {f : Addr} {fd : FuncData} (h_is_whole : CallF (tab P w K) P w K mg base 1 "is_whole" f_is_whole) (h_err_NoBeat : ErrF P w K mg base "NoBeat" (He.ga K "NoBeat") "beats") (Fd : FunD K "look_beats" "look_beats" (defArgs s_look_beats) (defBody s_look_beats) (defScope s_look_beats) dvs kws f fd) : FnOk P w K mg base (L2.CX P w) 3 f fd ["beats"] (spW (tab P w K) K 1 f_look_beats) := by
  have nd := (sc_look_beats).nd
  refine fnW_ok (k := 2) Fd sc_look_beats fun cdv A outer s H E hr => ?_
  have tk := takes_of (X := cxOf (L2.CX P w) P w K mg base ["beats"] "look_beats" (defScope s_look_beats) f cdv A outer s H E) (E := E) rfl rfl rfl rfl
  exact s_cons (s_if (L2.PW.pt (b_or (b_not (b_test (w_callP h_is_whole hr (by decide) rfl tk (w_cons (w_var (i := 0) rfl (.inl rfl) rfl rfl) (w_nil) rfl) rfl rfl rfl) (fun _ => rfl))) (b_or1 (b_not (b_chain hr (w_int) (w_var (i := 0) rfl (.inl rfl) rfl rfl) (w_globW rfl (G.c_MOST_BEATS _ _) rfl) (by with_unfolding_all rfl)))))) (s_cons (s_raiseF rfl tk h_err_NoBeat rfl (Nat.le_of_ble_eq_true rfl) hr (by decide) rfl (w_var (i := 0) rfl (.inl rfl) rfl rfl) rfl rfl rfl)
      (s_nil)) (s_nil))
      (s_nil)
abbrev s_own_order : Stmt := top 52
theorem sc_own_order : FnScope ["book"] ["book"] (defScope s_own_order) := ⟨rfl, rfl, rfl, by decide +kernel, rfl, by decide +kernel, by decide +kernel⟩
theorem ok_own_order (G : Glo K mg) {dvs : List V} {kws : List (Str × V)} {f : Addr} {fd : FuncData} (Fd : FunD K "own_order" "own_order" (defArgs s_own_order) (defBody s_own_order) (defScope s_own_order) dvs kws f fd) : FnOk P w K mg base (L2.CX P w) 1 f fd ["book"] (spW (tab P w K) K 1 f_own_order) := by
  have nd := (sc_own_order).nd
  refine fnW_ok (k := 0) Fd sc_own_order fun cdv A outer s H E hr => ?_
  have tk := takes_of (X := cxOf (L2.CX P w) P w K mg base ["book"] "own_order" (defScope s_own_order) f cdv A outer s H E) (E := E) rfl rfl rfl rfl
  exact s_cons (s_ret (w_tupRg1 rfl rfl G.b_tuple rfl G.b_range (w_len rfl G.b_len (w_cons (w_fld fldN (Nat.le_of_ble_eq_true rfl) rfl G.k_Book G.n_Book_rules (w_var (i := 0) rfl (.inl rfl) rfl rfl) rfl) (w_nil) rfl) rfl rfl) rfl rfl))
      (s_nil)
abbrev s_ended : Stmt := top 57
theorem sc_ended : FnScope ["state", "values", "hushes", "hush"] ["state"] (defScope s_ended) := ⟨rfl, rfl, rfl, by decide +kernel, rfl, by decide +kernel, by decide +kernel⟩
theorem ok_ended (G : Glo K mg) {dvs : List V} {kws : List (Str × V)} {f : Addr} {fd : FuncData} (Fd : FunD K "ended" "ended" (defArgs s_ended) (defBody s_ended) (defScope s_ended) dvs kws f fd) : FnOk P w K mg base (L2.CX P w) 1 f fd ["state"] (spW (tab P w K) K 1 f_ended) := by
  have nd := (sc_ended).nd
  refine fnW_ok (k := 0) Fd sc_ended fun cdv A outer s H E hr => ?_
  have tk := takes_of (X := cxOf (L2.CX P w) P w K mg base ["state", "values", "hushes", "hush"] "ended" (defScope s_ended) f cdv A outer s H E) (E := E) rfl rfl rfl rfl
  exact s_cons (s_asg (w_var (i := 0) rfl (.inl rfl) rfl rfl) (g_tup rfl (gs_name (i := 1) nd rfl (.inl rfl) (.inl rfl) (gs_name (i := 2) nd rfl (.inl rfl) (.inl rfl) (gs_nil) rfl) rfl) rfl rfl) rfl rfl rfl)
      (s_cons (s_ret (w_tup (w_cons (w_var (i := 1) rfl (.inl rfl) rfl rfl) (w_cons (w_tuple rfl G.b_tuple (w_cons (w_lc (mt := false) rfl nd (i_seq (w_var (i := 2) rfl (.inl rfl) rfl rfl)) (blkOk_by (own := [("hush", 3)]) (by kernel_rfl)) rfl rfl (fun _ _ _ _ _ => g_name (i := 3) nd rfl (.inl rfl) (.inr rfl)) (fun _ _ _ _ _ => bs_nil) (fun _ _ _ _ _ => w_max rfl rfl G.b_max (w_cons (w_int) (w_cons (w_bin (w_var (i := 3) rfl (.inl rfl) rfl rfl) (w_int)) (w_nil) rfl) rfl) rfl rfl) (fun _ => rfl)) (w_nil) rfl) rfl rfl) (w_nil) rfl) rfl)))
      (s_nil))
abbrev s_is_so : Stmt := top 53
theorem sc_is_so : FnScope ["condition", "values", "hushes", "word", "number", "place"] ["condition", "values", "hushes"] (defScope s_is_so) := ⟨rfl, rfl, rfl, by decide +kernel, rfl, by decide +kernel, by decide +kernel⟩
theorem ok_is_so (G : Glo K mg) {dvs : List V} {kws : List (Str × V)} {f : Addr} {fd : FuncData} (Fd : FunD K "is_so" "is_so" (defArgs s_is_so) (defBody s_is_so) (defScope s_is_so) dvs kws f fd) : FnOk P w K mg base (L2.CX P w) 1 f fd ["condition", "values", "hushes"] (spW (tab P w K) K 3 f_is_so) := by
  have nd := (sc_is_so).nd
  refine fnW_ok (k := 0) Fd sc_is_so fun cdv A outer s H E hr => ?_
  have tk := takes_of (X := cxOf (L2.CX P w) P w K mg base ["condition", "values", "hushes", "word", "number", "place"] "is_so" (defScope s_is_so) f cdv A outer s H E) (E := E) rfl rfl rfl rfl
  exact s_cons (s_asg (w_var (i := 0) rfl (.inl rfl) rfl rfl) (g_star rfl (gs_name (i := 3) nd rfl (.inl rfl) (.inl rfl) (gs_name (i := 4) nd rfl (.inl rfl) (.inl rfl) (gs_star (i := 5) nd rfl (.inl rfl) (.inl rfl) rfl) rfl) rfl) rfl rfl) rfl rfl rfl)
      (s_cons (s_if (b_cmp hr (w_var (i := 3) rfl (.inl rfl) rfl rfl) (w_str) rfl) (s_cons (s_ret (w_cmp hr (w_idx (w_var (i := 2) rfl (.inl rfl) rfl rfl) (w_var (i := 4) rfl (.inl rfl) rfl rfl) (fun _ _ => rfl)) (w_int) rfl))
      (s_nil)) (s_nil))
      (s_cons (s_if (b_cmp hr (w_var (i := 3) rfl (.inl rfl) rfl rfl) (w_str) rfl) (s_cons (s_ret (w_cmp hr (w_idx (w_var (i := 2) rfl (.inl rfl) rfl rfl) (w_var (i := 4) rfl (.inl rfl) rfl rfl) (fun _ _ => rfl)) (w_int) rfl))
      (s_nil)) (s_nil))
      (s_cons (s_if (b_cmp hr (w_var (i := 3) rfl (.inl rfl) rfl rfl) (w_str) rfl) (s_cons (s_ret (w_cmp hr (w_idx (w_var (i := 1) rfl (.inl rfl) rfl rfl) (w_var (i := 4) rfl (.inl rfl) rfl rfl) (fun _ _ => rfl)) (w_idx (w_var (i := 5) rfl (.inl rfl) rfl rfl) (w_int) (fun _ _ => rfl)) rfl))
      (s_nil)) (s_nil))
      (s_cons (s_ret (w_cmp hr (w_cmp hr (w_idx (w_var (i := 1) rfl (.inl rfl) rfl rfl) (w_var (i := 4) rfl (.inl rfl) rfl rfl) (fun _ _ => rfl)) (w_idx (w_var (i := 5) rfl (.inl rfl) rfl rfl) (w_int) (fun _ _ => rfl)) rfl) (w_cmp hr (w_var (i := 3) rfl (.inl rfl) rfl rfl) (w_str) rfl) rfl))
      (s_nil)))))
abbrev s_would_do : Stmt := top 54
theorem sc_would_do : FnScope ["book", "rule", "values", "hushes", "condition"] ["book", "rule", "values", "hushes"] (defScope s_would_do) := ⟨rfl, rfl, rfl, by decide +kernel, rfl, by decide +kernel, by decide +kernel⟩
theorem ok_would_do (G : Glo K mg) {dvs : List V} {kws : List (Str × V)} {f : Addr} {fd : FuncData} (h_is_so : CallF (tab P w K) P w K mg base 1 "is_so" f_is_so) (Fd : FunD K "would_do" "would_do" (defArgs s_would_do) (defBody s_would_do) (defScope s_would_do) dvs kws f fd) : FnOk P w K mg base (L2.CX P w) 2 f fd ["book", "rule", "values", "hushes"] (spW (tab P w K) K 4 f_would_do) := by
  have nd := (sc_would_do).nd
  refine fnW_ok (k := 1) Fd sc_would_do fun cdv A outer s H E hr => ?_
  have tk := takes_of (X := cxOf (L2.CX P w) P w K mg base ["book", "rule", "values", "hushes", "condition"] "would_do" (defScope s_would_do) f cdv A outer s H E) (E := E) rfl rfl rfl rfl
  exact s_cons (s_ret (w_and (w_cmp hr (w_idx (w_var (i := 3) rfl (.inr (.inl rfl)) rfl rfl) (w_var (i := 1) rfl (.inl rfl) rfl rfl) (fun _ _ => rfl)) (w_int) rfl) (one (w_all rfl rfl G.b_all (w_cons (w_lc (mt := false) rfl nd (i_seq (w_idx (w_idx (w_fld fldN (Nat.le_of_ble_eq_true rfl) rfl G.k_Book G.n_Book_rules (w_var (i := 0) rfl (.inl rfl) rfl rfl) rfl) (w_var (i := 1) rfl (.inl rfl) rfl rfl) (fun _ _ => rfl)) (w_int) (fun _ _ => rfl))) (blkOk_by (own := [("condition", 4)]) (by kernel_rfl)) rfl rfl (fun _ _ _ _ _ => g_name (i := 4) nd rfl (.inl rfl) (.inr rfl)) (fun _ _ _ _ _ => bs_nil) (fun _ _ _ _ _ => w_callP h_is_so hr (by decide) rfl L2.takes0 (w_cons (w_var (i := 4) rfl (.inl rfl) rfl rfl) (w_cons (w_var (i := 2) rfl (.inr (.inl rfl)) rfl rfl) (w_cons (w_var (i := 3) rfl (.inr (.inl rfl)) rfl rfl) (w_nil) rfl) rfl) rfl) rfl rfl rfl) (fun _ => rfl)) (w_nil) rfl) rfl rfl))))
      (s_nil)
abbrev s_change : Stmt := top 55
theorem sc_change : FnScope ["book", "rule", "values", "word", "wheel", "place"] ["book", "rule", "values"] (defScope s_change) := ⟨rfl, rfl, rfl, by decide +kernel, rfl, by decide +kernel, by decide +kernel⟩
theorem ok_change (G : Glo K mg) {dvs : List V} {kws : List (Str × V)} {f : Addr} {fd : FuncData} (Fd : FunD K "change" "change" (defArgs s_change) (defBody s_change) (defScope s_change) dvs kws f fd) : FnOk P w K mg base (L2.CX P w) 1 f fd ["book", "rule", "values"] (spW (tab P w K) K 3 f_change) := by
  have nd := (sc_change).nd
  refine fnW_ok (k := 0) Fd sc_change fun cdv A outer s H E hr => ?_
  have tk := takes_of (X := cxOf (L2.CX P w) P w K mg base ["book", "rule", "values", "word", "wheel", "place"] "change" (defScope s_change) f cdv A outer s H E) (E := E) rfl rfl rfl rfl
  exact s_cons (s_for (passes_of rfl) rfl (i_seq (w_idx (w_idx (w_fld fldN (Nat.le_of_ble_eq_true rfl) rfl G.k_Book G.n_Book_rules (w_var (i := 0) rfl (.inl rfl) rfl rfl) rfl) (w_var (i := 1) rfl (.inl rfl) rfl rfl) (fun _ _ => rfl)) (w_int) (fun _ _ => rfl))) (g_tup rfl (gs_name (i := 3) nd rfl (.inl rfl) (.inl rfl) (gs_name (i := 4) nd rfl (.inl rfl) (.inl rfl) (gs_name (i := 5) nd rfl (.inl rfl) (.inl rfl) (gs_nil) rfl) rfl) rfl) rfl rfl) (s_cons (s_setIx (w_var (i := 2) rfl (.inl rfl) rfl rfl) (w_var (i := 4) rfl (.inl rfl) rfl rfl) (w_ifx (b_cmp hr (w_var (i := 3) rfl (.inl rfl) rfl rfl) (w_str) rfl) (w_var (i := 5) rfl (.inl rfl) rfl rfl) (w_bin (w_bin (w_idx (w_var (i := 2) rfl (.inl rfl) rfl rfl) (w_var (i := 4) rfl (.inl rfl) rfl rfl) (fun _ _ => rfl)) (w_var (i := 5) rfl (.inl rfl) rfl rfl)) (w_idx (w_fld fldN (Nat.le_of_ble_eq_true rfl) rfl G.k_Book G.n_Book_wheels (w_var (i := 0) rfl (.inl rfl) rfl rfl) rfl) (w_var (i := 4) rfl (.inl rfl) rfl rfl) (fun _ _ => rfl)))) rfl rfl rfl (fun _ => rfl))
      (s_nil)) (fun _ => rfl))
      (s_nil)
abbrev s_hush_and_wake : Stmt := top 56
theorem sc_hush_and_wake : FnScope ["book", "rule", "hushes", "test", "changes", "hushed", "wakes", "other", "beats"] ["book", "rule", "hushes"] (defScope s_hush_and_wake) := ⟨rfl, rfl, rfl, by decide +kernel, rfl, by decide +kernel, by decide +kernel⟩
theorem ok_hush_and_wake (G : Glo K mg) {dvs : List V} {kws : List (Str × V)} {f : Addr} {fd : FuncData} (Fd : FunD K "hush_and_wake" "hush_and_wake" (defArgs s_hush_and_wake) (defBody s_hush_and_wake) (defScope s_hush_and_wake) dvs kws f fd) : FnOk P w K mg base (L2.CX P w) 1 f fd ["book", "rule", "hushes"] (spW (tab P w K) K 3 f_hush_and_wake) := by
  have nd := (sc_hush_and_wake).nd
  refine fnW_ok (k := 0) Fd sc_hush_and_wake fun cdv A outer s H E hr => ?_
  have tk := takes_of (X := cxOf (L2.CX P w) P w K mg base ["book", "rule", "hushes", "test", "changes", "hushed", "wakes", "other", "beats"] "hush_and_wake" (defScope s_hush_and_wake) f cdv A outer s H E) (E := E) rfl rfl rfl rfl
  exact s_cons (s_asg (w_idx (w_fld fldN (Nat.le_of_ble_eq_true rfl) rfl G.k_Book G.n_Book_rules (w_var (i := 0) rfl (.inl rfl) rfl rfl) rfl) (w_var (i := 1) rfl (.inl rfl) rfl rfl) (fun _ _ => rfl)) (g_tup rfl (gs_name (i := 3) nd rfl (.inl rfl) (.inl rfl) (gs_name (i := 4) nd rfl (.inl rfl) (.inl rfl) (gs_name (i := 5) nd rfl (.inl rfl) (.inl rfl) (gs_name (i := 6) nd rfl (.inl rfl) (.inl rfl) (gs_nil) rfl) rfl) rfl) rfl) rfl rfl) rfl rfl rfl)
      (s_cons (s_for (passes_of rfl) rfl (i_seq (w_var (i := 5) rfl (.inl rfl) rfl rfl)) (g_tup rfl (gs_name (i := 7) nd rfl (.inl rfl) (.inl rfl) (gs_name (i := 8) nd rfl (.inl rfl) (.inl rfl) (gs_nil) rfl) rfl) rfl rfl) (s_cons (s_setIx (w_var (i := 2) rfl (.inl rfl) rfl rfl) (w_var (i := 7) rfl (.inl rfl) rfl rfl) (w_max rfl rfl G.b_max (w_cons (w_idx (w_var (i := 2) rfl (.inl rfl) rfl rfl) (w_var (i := 7) rfl (.inl rfl) rfl rfl) (fun _ _ => rfl)) (w_cons (w_var (i := 8) rfl (.inl rfl) rfl rfl) (w_nil) rfl) rfl) rfl rfl) rfl rfl rfl (fun _ => rfl))
      (s_nil)) (fun _ => rfl))
      (s_cons (s_for (passes_of rfl) rfl (i_seq (w_var (i := 6) rfl (.inl rfl) rfl rfl)) (g_name (i := 7) nd rfl (.inl rfl) (.inl rfl)) (s_cons (s_setIx (w_var (i := 2) rfl (.inl rfl) rfl rfl) (w_var (i := 7) rfl (.inl rfl) rfl rfl) (w_int) rfl rfl rfl (fun _ => rfl))
      (s_nil)) (fun _ => rfl))
      (s_nil)))
abbrev s_beat_of : Stmt := top 58
theorem sc_beat_of : FnScope ["book", "state", "order", "off", "values", "hushes", "done", "rule"] ["book", "state", "order", "off"] (defScope s_beat_of) := ⟨rfl, rfl, rfl, by decide +kernel, rfl, by decide +kernel, by decide +kernel⟩
theorem ok_beat_of (G : Glo K mg) {dvs : List V} {kws : List (Str × V)} {f : Addr} {fd : FuncData} (h_would_do : CallF (tab P w K) P w K mg base 2 "would_do" f_would_do) (h_change : CallF (tab P w K) P w K mg base 1 "change" f_change) (h_hush_and_wake : CallF (tab P w K) P w K mg base 1 "hush_and_wake" f_hush_and_wake) (h_ended : CallF (tab P w K) P w K mg base 1 "ended" f_ended) (Fd : FunD K "beat_of" "beat_of" (defArgs s_beat_of) (defBody s_beat_of) (defScope s_beat_of) dvs kws f fd) : FnOk P w K mg base (L2.CX P w) 3 f fd ["book", "state", "order", "off"] (spW (tab P w K) K 4 f_beat_of) := by
  have nd := (sc_beat_of).nd
  refine fnW_ok (k := 2) Fd sc_beat_of fun cdv A outer s H E hr => ?_
  have tk := takes_of (X := cxOf (L2.CX P w) P w K mg base ["book", "state", "order", "off", "values", "hushes", "done", "rule"] "beat_of" (defScope s_beat_of) f cdv A outer s H E) (E := E) rfl rfl rfl rfl
  exact s_cons (s_par2 rfl nd rfl rfl (by decide) rfl rfl (w_cons (w_nlist rfl G.b_list PyProof.Rows.boot_list (w_idx (w_var (i := 1) rfl (.inl rfl) rfl rfl) (w_int) (fun _ _ => rfl)) (by decide) rfl rfl) (w_cons (w_nlist rfl G.b_list PyProof.Rows.boot_list (w_idx (w_var (i := 1) rfl (.inl rfl) rfl rfl) (w_int) (fun _ _ => rfl)) (by decide) rfl rfl) (w_nil) rfl) rfl) rfl rfl)
      (s_cons (s_set (i := 6) nd rfl (.inl rfl) (w_nlst (w_nil)) rfl (.inl rfl))
      (s_cons (s_for (passes_of rfl) rfl (i_seq (w_var (i := 2) rfl (.inl rfl) rfl rfl)) (g_name (i := 7) nd rfl (.inl rfl) (.inl rfl)) (s_cons (s_if (L2.PW.pt (b_and (b_cmp hr (w_var (i := 7) rfl (.inl rfl) rfl rfl) (w_var (i := 3) rfl (.inl rfl) rfl rfl) rfl) (b_and1 (b_test (w_callV h_would_do hr (by decide) rfl tk (w_cons (w_var (i := 0) rfl (.inl rfl) rfl rfl) (w_cons (w_var (i := 7) rfl (.inl rfl) rfl rfl) (w_cons (w_var (i := 4) rfl (.inl rfl) rfl rfl) (w_cons (w_var (i := 5) rfl (.inl rfl) rfl rfl) (w_nil) rfl) rfl) rfl) rfl) rfl rfl rfl) (fun _ => rfl))))) (s_cons (s_expr (w_call h_change hr (by decide) rfl tk (w_cons (w_var (i := 0) rfl (.inl rfl) rfl rfl) (w_cons (w_var (i := 7) rfl (.inl rfl) rfl rfl) (w_cons (w_var (i := 4) rfl (.inl rfl) rfl rfl) (w_nil) rfl) rfl) rfl) rfl rfl rfl) rfl)
      (s_cons (s_expr (w_call h_hush_and_wake hr (by decide) rfl tk (w_cons (w_var (i := 0) rfl (.inl rfl) rfl rfl) (w_cons (w_var (i := 7) rfl (.inl rfl) rfl rfl) (w_cons (w_var (i := 5) rfl (.inl rfl) rfl rfl) (w_nil) rfl) rfl) rfl) rfl rfl rfl) rfl)
      (s_cons (s_expr (w_app (w_var (i := 6) rfl (.inl rfl) rfl rfl) (w_var (i := 7) rfl (.inl rfl) rfl rfl) rfl rfl rfl rfl rfl) rfl)
      (s_nil)))) (s_nil))
      (s_nil)) (fun _ => rfl))
      (s_cons (s_ret (w_tup (w_cons (w_tuple rfl G.b_tuple (w_cons (w_var (i := 6) rfl (.inl rfl) rfl rfl) (w_nil) rfl) rfl rfl) (w_cons (w_callP h_ended hr (by decide) rfl tk (w_cons (w_tup (w_cons (w_tuple rfl G.b_tuple (w_cons (w_var (i := 4) rfl (.inl rfl) rfl rfl) (w_nil) rfl) rfl rfl) (w_cons (w_tuple rfl G.b_tuple (w_cons (w_var (i := 5) rfl (.inl rfl) rfl rfl) (w_nil) rfl) rfl rfl) (w_nil) rfl) rfl)) (w_nil) rfl) rfl rfl rfl) (w_nil) rfl) rfl)))
      (s_nil))))
abbrev s_Track___init__ : Stmt := inClass (top 61) 0
theorem sc_Track___init__ : FnScope ["self", "book", "state", "off", "own", "places", "done"] ["self", "book", "state", "off"] (defScope s_Track___init__) := ⟨rfl, rfl, rfl, by decide +kernel, rfl, by decide +kernel, by decide +kernel⟩
theorem ok_Track___init__ (G : Glo K mg) {dvs : List V} {kws : List (Str × V)} {f : Addr} {fd : FuncData} (h_own_order : CallF (tab P w K) P w K mg base 1 "own_order" f_own_order) (h_beat_of : CallF (tab P w K) P w K mg base 3 "beat_of" f_beat_of) (Fd : FunD K "__init__" "Track.__init__" (defArgs s_Track___init__) (defBody s_Track___init__) (defScope s_Track___init__) dvs kws f fd) : FnOk P w K mg base (L2.CX P w) 4 f fd ["self", "book", "state", "off"] (spW (tab P w K) K 4 f_Track___init__) := by
  have nd := (sc_Track___init__).nd
  refine fnW_ok (k := 3) Fd sc_Track___init__ fun cdv A outer s H E hr => ?_
  have tk := takes_of (X := cxOf (L2.CX P w) P w K mg base ["self", "book", "state", "off", "own", "places", "done"] "Track.__init__" (defScope s_Track___init__) f cdv A outer s H E) (E := E) rfl rfl rfl rfl
  exact s_cons (s_setFld fldN (Nat.le_of_ble_eq_true rfl) rfl G.k_Track G.n_Track_states (w_var (i := 0) rfl (.inl rfl) rfl rfl) (w_nlst (w_nil)) rfl)
      (s_cons (s_setFld fldN (Nat.le_of_ble_eq_true rfl) rfl G.k_Track G.n_Track_deeds (w_var (i := 0) rfl (.inl rfl) rfl rfl) (w_nlst (w_nil)) rfl)
      (s_cons (s_par2 rfl nd rfl rfl (by decide) rfl rfl (w_cons (w_callP h_own_order hr (by decide) rfl tk (w_cons (w_var (i := 1) rfl (.inl rfl) rfl rfl) (w_nil) rfl) rfl rfl rfl) (w_cons (w_dnew rfl rfl) (w_nil) rfl) rfl) rfl rfl)
      (s_cons (s_while (n := 10000) (passes_of rfl) (b_dnotin hr rfl rfl (w_var (i := 2) rfl (.inl rfl) rfl rfl) (w_var (i := 5) rfl (.inl rfl) rfl rfl) rfl) (s_cons (s_dput hr rfl rfl (w_var (i := 5) rfl (.inl rfl) rfl rfl) (w_var (i := 2) rfl (.inl rfl) rfl rfl) (w_len rfl G.b_len (w_cons (w_fld fldN (Nat.le_of_ble_eq_true rfl) rfl G.k_Track G.n_Track_states (w_var (i := 0) rfl (.inl rfl) rfl rfl) rfl) (w_nil) rfl) rfl rfl) rfl rfl rfl (fun _ => rfl))
      (s_cons (s_expr (w_app (w_fld fldN (Nat.le_of_ble_eq_true rfl) rfl G.k_Track G.n_Track_states (w_var (i := 0) rfl (.inl rfl) rfl rfl) rfl) (w_var (i := 2) rfl (.inl rfl) rfl rfl) rfl rfl rfl rfl rfl) rfl)
      (s_cons (s_asg (w_callP h_beat_of hr (by decide) rfl tk (w_cons (w_var (i := 1) rfl (.inl rfl) rfl rfl) (w_cons (w_var (i := 2) rfl (.inl rfl) rfl rfl) (w_cons (w_var (i := 4) rfl (.inl rfl) rfl rfl) (w_cons (w_var (i := 3) rfl (.inl rfl) rfl rfl) (w_nil) rfl) rfl) rfl) rfl) rfl rfl rfl) (g_tup rfl (gs_name (i := 6) nd rfl (.inl rfl) (.inl rfl) (gs_name (i := 2) nd rfl (.inl rfl) (.inl rfl) (gs_nil) rfl) rfl) rfl rfl) rfl rfl rfl)
      (s_cons (s_expr (w_app (w_fld fldN (Nat.le_of_ble_eq_true rfl) rfl G.k_Track G.n_Track_deeds (w_var (i := 0) rfl (.inl rfl) rfl rfl) rfl) (w_var (i := 6) rfl (.inl rfl) rfl rfl) rfl rfl rfl rfl rfl) rfl)
      (s_nil))))))
      (s_cons (s_setFld fldN (Nat.le_of_ble_eq_true rfl) rfl G.k_Track G.n_Track_begin (w_var (i := 0) rfl (.inl rfl) rfl rfl) (w_dget hr rfl rfl (w_var (i := 5) rfl (.inl rfl) rfl rfl) (w_var (i := 2) rfl (.inl rfl) rfl rfl) (fun _ _ => rfl)) rfl)
      (s_cons (s_setFld fldN (Nat.le_of_ble_eq_true rfl) rfl G.k_Track G.n_Track_length (w_var (i := 0) rfl (.inl rfl) rfl rfl) (w_bin (w_len rfl G.b_len (w_cons (w_fld fldN (Nat.le_of_ble_eq_true rfl) rfl G.k_Track G.n_Track_states (w_var (i := 0) rfl (.inl rfl) rfl rfl) rfl) (w_nil) rfl) rfl rfl) (w_fld fldN (Nat.le_of_ble_eq_true rfl) rfl G.k_Track G.n_Track_begin (w_var (i := 0) rfl (.inl rfl) rfl rfl) rfl)) rfl)
      (s_nil))))))
abbrev s_Watch_done : Stmt := inClass (top 68) 4
theorem sc_Watch_done : FnScope ["self", "stand"] ["self", "stand"] (defScope s_Watch_done) := ⟨rfl, rfl, rfl, by decide +kernel, rfl, by decide +kernel, by decide +kernel⟩
theorem ok_Watch_done (G : Glo K mg) {dvs : List V} {kws : List (Str × V)} {f : Addr} {fd : FuncData} (Fd : FunD K "done" "Watch.done" (defArgs s_Watch_done) (defBody s_Watch_done) (defScope s_Watch_done) dvs kws f fd) : FnOk P w K mg base (L2.CX P w) 1 f fd ["self", "stand"] (spW (tab P w K) K 2 f_Watch_done) := by
  have nd := (sc_Watch_done).nd
  refine fnW_ok (k := 0) Fd sc_Watch_done fun cdv A outer s H E hr => ?_
  have tk := takes_of (X := cxOf (L2.CX P w) P w K mg base ["self", "stand"] "Watch.done" (defScope s_Watch_done) f cdv A outer s H E) (E := E) rfl rfl rfl rfl
  exact s_cons (s_expr (w_app (w_fld fldN (Nat.le_of_ble_eq_true rfl) rfl G.k_Watch G.n_Watch_past (w_var (i := 0) rfl (.inl rfl) rfl rfl) rfl) (w_fld fldN (Nat.le_of_ble_eq_true rfl) rfl G.k_Watch G.n_Watch_stand (w_var (i := 0) rfl (.inl rfl) rfl rfl) rfl) rfl rfl rfl rfl rfl) rfl)
      (s_cons (s_setFld fldN (Nat.le_of_ble_eq_true rfl) rfl G.k_Watch G.n_Watch_stand (w_var (i := 0) rfl (.inl rfl) rfl rfl) (w_var (i := 1) rfl (.inl rfl) rfl rfl) rfl)
      (s_nil))
abbrev s_Track_turns : Stmt := inClass (top 61) 3
theorem sc_Track_turns : FnScope ["self", "rule", "at", "done"] ["self", "rule"] (defScope s_Track_turns) := ⟨rfl, rfl, rfl, by decide +kernel, rfl, by decide +kernel, by decide +kernel⟩
theorem ok_Track_turns (G : Glo K mg) {dvs : List V} {kws : List (Str × V)} {f : Addr} {fd : FuncData} (Fd : FunD K "turns" "Track.turns" (defArgs s_Track_turns) (defBody s_Track_turns) (defScope s_Track_turns) dvs kws f fd) : FnOk P w K mg base (L2.CX P w) 1 f fd ["self", "rule"] (spW (tab P w K) K 2 f_Track_turns) := by
  have nd := (sc_Track_turns).nd
  refine fnW_ok (k := 0) Fd sc_Track_turns fun cdv A outer s H E hr => ?_
  have tk := takes_of (X := cxOf (L2.CX P w) P w K mg base ["self", "rule", "at", "done"] "Track.turns" (defScope s_Track_turns) f cdv A outer s H E) (E := E) rfl rfl rfl rfl
  exact s_cons (s_ret (w_lc (mt := false) rfl nd (i_enum rfl G.b_enumerate (w_fld fldN (Nat.le_of_ble_eq_true rfl) rfl G.k_Track G.n_Track_deeds (w_var (i := 0) rfl (.inl rfl) rfl rfl) rfl) rfl) (blkOk_by (own := [("at", 2), ("done", 3)]) (by kernel_rfl)) rfl rfl (fun _ _ _ _ _ => g_tup rfl (gs_name (i := 2) nd rfl (.inl rfl) (.inr rfl) (gs_name (i := 3) nd rfl (.inl rfl) (.inr rfl) (gs_nil) rfl) rfl) rfl rfl) (fun _ _ _ _ _ => bs_one (b_cmp hr (w_var (i := 1) rfl (.inr (.inl rfl)) rfl rfl) (w_var (i := 3) rfl (.inl rfl) rfl rfl) rfl)) (fun _ _ _ _ _ => w_var (i := 2) rfl (.inl rfl) rfl rfl) (fun _ => rfl)))
      (s_nil)
abbrev s_Track_often : Stmt := inClass (top 61) 6
theorem sc_Track_often : FnScope ["self", "rule", "beats", "turns", "rounds", "rest", "inner", "at"] ["self", "rule", "beats"] (defScope s_Track_often) := ⟨rfl, rfl, rfl, by decide +kernel, rfl, by decide +kernel, by decide +kernel⟩
theorem ok_Track_often (G : Glo K mg) {dvs : List V} {kws : List (Str × V)} {f : Addr} {fd : FuncData} (h_m_Track_turns : MethF (tab P w K) P w K mg base 1 1 "turns" f_Track_turns) (Fd : FunD K "often" "Track.often" (defArgs s_Track_often) (defBody s_Track_often) (defScope s_Track_often) dvs kws f fd) : FnOk P w K mg base (L2.CX P w) 2 f fd ["self", "rule", "beats"] (spW (tab P w K) K 3 f_Track_often) := by
  have nd := (sc_Track_often).nd
  refine fnW_ok (k := 1) Fd sc_Track_often fun cdv A outer s H E hr => ?_
  have tk := takes_of (X := cxOf (L2.CX P w) P w K mg base ["self", "rule", "beats", "turns", "rounds", "rest", "inner", "at"] "Track.often" (defScope s_Track_often) f cdv A outer s H E) (E := E) rfl rfl rfl rfl
  exact s_cons (s_set (i := 3) nd rfl (.inl rfl) (w_meth h_m_Track_turns hr (by decide) tk (w_var (i := 0) rfl (.inr (.inl rfl)) rfl rfl) (w_cons (w_var (i := 1) rfl (.inl rfl) rfl rfl) (w_nil) rfl) rfl rfl rfl) rfl (.inl rfl))
      (s_cons (s_if (b_cmp hr (w_var (i := 2) rfl (.inr (.inl rfl)) rfl rfl) (w_len rfl G.b_len (w_cons (w_fld fldN (Nat.le_of_ble_eq_true rfl) rfl G.k_Track G.n_Track_deeds (w_var (i := 0) rfl (.inr (.inl rfl)) rfl rfl) rfl) (w_nil) rfl) rfl rfl) rfl) (s_cons (s_ret (w_len rfl G.b_len (w_cons (w_lc (mt := false) rfl nd (i_seq (w_var (i := 3) rfl (.inl rfl) rfl rfl)) (blkOk_by (own := [("at", 7)]) (by kernel_rfl)) rfl rfl (fun _ _ _ _ _ => g_name (i := 7) nd rfl (.inl rfl) (.inr rfl)) (fun _ _ _ _ _ => bs_one (b_cmp hr (w_var (i := 7) rfl (.inl rfl) rfl rfl) (w_var (i := 2) rfl (.inr (.inl rfl)) rfl rfl) rfl)) (fun _ _ _ _ _ => w_var (i := 7) rfl (.inl rfl) rfl rfl) (fun _ => rfl)) (w_nil) rfl) rfl rfl))
      (s_nil)) (s_nil))
      (s_cons (s_asg (w_divmod rfl G.b_divmod (w_cons (w_bin (w_var (i := 2) rfl (.inr (.inl rfl)) rfl rfl) (w_fld fldN (Nat.le_of_ble_eq_true rfl) rfl G.k_Track G.n_Track_begin (w_var (i := 0) rfl (.inr (.inl rfl)) rfl rfl) rfl)) (w_cons (w_fld fldN (Nat.le_of_ble_eq_true rfl) rfl G.k_Track G.n_Track_length (w_var (i := 0) rfl (.inr (.inl rfl)) rfl rfl) rfl) (w_nil) rfl) rfl) rfl rfl) (g_tup rfl (gs_name (i := 4) nd rfl (.inl rfl) (.inl rfl) (gs_name (i := 5) nd rfl (.inr rfl) (.inl rfl) (gs_nil) rfl) rfl) rfl rfl) rfl rfl rfl)
      (s_cons (s_setLc (i := 6) (mt := false) rfl nd rfl rfl (sw_true rfl rfl rfl rfl) (i_seq (w_var (i := 3) rfl (.inl rfl) rfl rfl)) (blkOk_by (own := [("at", 7)]) (by kernel_rfl)) rfl rfl (fun _ _ _ _ _ => g_name (i := 7) nd rfl (.inl rfl) (.inr rfl)) (fun _ _ _ _ _ => bs_one (b_cmp hr (w_var (i := 7) rfl (.inl rfl) rfl rfl) (w_fld fldN (Nat.le_of_ble_eq_true rfl) rfl G.k_Track G.n_Track_begin (w_var (i := 0) rfl (.inr (.inl rfl)) rfl rfl) rfl) rfl)) (fun _ _ _ _ _ => w_bin (w_var (i := 7) rfl (.inl rfl) rfl rfl) (w_fld fldN (Nat.le_of_ble_eq_true rfl) rfl G.k_Track G.n_Track_begin (w_var (i := 0) rfl (.inr (.inl rfl)) rfl rfl) rfl)) (fun _ => rfl))
      (s_cons (s_ret (w_bin (w_bin (w_bin (w_len rfl G.b_len (w_cons (w_var (i := 3) rfl (.inl rfl) rfl rfl) (w_nil) rfl) rfl rfl) (w_len rfl G.b_len (w_cons (w_var (i := 6) rfl (.inl rfl) rfl rfl) (w_nil) rfl) rfl rfl)) (w_bin (w_var (i := 4) rfl (.inl rfl) rfl rfl) (w_len rfl G.b_len (w_cons (w_var (i := 6) rfl (.inl rfl) rfl rfl) (w_nil) rfl) rfl rfl))) (w_len rfl G.b_len (w_cons (w_lc (mt := false) rfl nd (i_seq (w_var (i := 6) rfl (.inl rfl) rfl rfl)) (blkOk_by (own := [("at", 7)]) (by kernel_rfl)) rfl rfl (fun _ _ _ _ _ => g_name (i := 7) nd rfl (.inl rfl) (.inr rfl)) (fun _ _ _ _ _ => bs_one (b_cmp hr (w_var (i := 7) rfl (.inl rfl) rfl rfl) (w_var (i := 5) rfl (.inr (.inl rfl)) rfl rfl) rfl)) (fun _ _ _ _ _ => w_var (i := 7) rfl (.inl rfl) rfl rfl) (fun _ => rfl)) (w_nil) rfl) rfl rfl)))
      (s_nil)))))
abbrev s_Track_spot : Stmt := inClass (top 61) 1
theorem sc_Track_spot : FnScope ["self", "beats"] ["self", "beats"] (defScope s_Track_spot) := ⟨rfl, rfl, rfl, by decide +kernel, rfl, by decide +kernel, by decide +kernel⟩
theorem ok_Track_spot (G : Glo K mg) {dvs : List V} {kws : List (Str × V)} {f : Addr} {fd : FuncData} (Fd : FunD K "spot" "Track.spot" (defArgs s_Track_spot) (defBody s_Track_spot) (defScope s_Track_spot) dvs kws f fd) : FnOk P w K mg base (L2.CX P w) 1 f fd ["self", "beats"] (spW (tab P w K) K 2 f_Track_spot) := by
  have nd := (sc_Track_spot).nd
  refine fnW_ok (k := 0) Fd sc_Track_spot fun cdv A outer s H E hr => ?_
  have tk := takes_of (X := cxOf (L2.CX P w) P w K mg base ["self", "beats"] "Track.spot" (defScope s_Track_spot) f cdv A outer s H E) (E := E) rfl rfl rfl rfl
  exact s_cons (s_ret (w_ifx (b_cmp hr (w_var (i := 1) rfl (.inl rfl) rfl rfl) (w_fld fldN (Nat.le_of_ble_eq_true rfl) rfl G.k_Track G.n_Track_begin (w_var (i := 0) rfl (.inl rfl) rfl rfl) rfl) rfl) (w_var (i := 1) rfl (.inl rfl) rfl rfl) (w_bin (w_fld fldN (Nat.le_of_ble_eq_true rfl) rfl G.k_Track G.n_Track_begin (w_var (i := 0) rfl (.inl rfl) rfl rfl) rfl) (w_bin (w_bin (w_var (i := 1) rfl (.inl rfl) rfl rfl) (w_fld fldN (Nat.le_of_ble_eq_true rfl) rfl G.k_Track G.n_Track_begin (w_var (i := 0) rfl (.inl rfl) rfl rfl) rfl)) (w_fld fldN (Nat.le_of_ble_eq_true rfl) rfl G.k_Track G.n_Track_length (w_var (i := 0) rfl (.inl rfl) rfl rfl) rfl)))))
      (s_nil)
abbrev s_Watch_go : Stmt := inClass (top 68) 5
theorem sc_Watch_go : FnScope ["self", "beats", "ahead", "track", "did", "tally", "rule", "one", "other"] ["self", "beats"] (defScope s_Watch_go) := ⟨rfl, rfl, rfl, by decide +kernel, rfl, by decide +kernel, by decide +kernel⟩
theorem ok_Watch_go (G : Glo K mg) {dvs : List V} {kws : List (Str × V)} {f : Addr} {fd : FuncData} (h_look_beats : CallF (tab P w K) P w K mg base 3 "look_beats" f_look_beats) (h_new_Track : MakeF (tab P w K) P w K mg base 4 "Track" 1 f_Track___init__) (h_m_Book___len__ : MethF (tab P w K) P w K mg base 1 0 "__len__" f_Book___len__) (h_m_Track_often : MethF (tab P w K) P w K mg base 2 1 "often" f_Track_often) (h_m_Watch_done : MethF (tab P w K) P w K mg base 1 2 "done" f_Watch_done) (h_new_Stand : MakeF (tab P w K) P w K mg base 1 "Stand" 19 f_Stand___init__) (h_m_Track_spot : MethF (tab P w K) P w K mg base 1 1 "spot" f_Track_spot) (Fd : FunD K "go" "Watch.go" (defArgs s_Watch_go) (defBody s_Watch_go) (defScope s_Watch_go) dvs kws f fd) : FnOk P w K mg base (L2.CX P w) 6 f fd ["self", "beats"] (spW (tab P w K) K 2 f_Watch_go) := by
  have nd := (sc_Watch_go).nd
  refine fnW_ok (k := 5) Fd sc_Watch_go fun cdv A outer s H E hr => ?_
  have tk := takes_of (X := cxOf (L2.CX P w) P w K mg base ["self", "beats", "ahead", "track", "did", "tally", "rule", "one", "other"] "Watch.go" (defScope s_Watch_go) f cdv A outer s H E) (E := E) rfl rfl rfl rfl
  exact s_cons (s_expr (w_callP h_look_beats hr (by decide) rfl tk (w_cons (w_var (i := 1) rfl (.inr (.inl rfl)) rfl rfl) (w_nil) rfl) rfl rfl rfl) rfl)
      (s_cons (s_set (i := 2) nd rfl (.inl rfl) (w_fld fldN (Nat.le_of_ble_eq_true rfl) rfl G.k_Watch G.n_Watch_stand (w_var (i := 0) rfl (.inl rfl) rfl rfl) rfl) rfl (.inl rfl))
      (s_cons (s_set (i := 3) nd rfl (.inr rfl) (w_makeZ h_new_Track hr (by decide) rfl tk (w_cons (w_fld fldN (Nat.le_of_ble_eq_true rfl) rfl G.k_Watch G.n_Watch_of_book (w_var (i := 0) rfl (.inl rfl) rfl rfl) rfl) (w_cons (w_fld fldN (Nat.le_of_ble_eq_true rfl) rfl G.k_Stand G.n_Stand_place (w_var (i := 2) rfl (.inl rfl) rfl rfl) rfl) (w_cons (w_fld fldN (Nat.le_of_ble_eq_true rfl) rfl G.k_Stand G.n_Stand_out (w_var (i := 2) rfl (.inl rfl) rfl rfl) rfl) (w_nil) rfl) rfl) rfl) rfl rfl rfl) rfl (.inl rfl))
      (s_cons (s_set (i := 4) nd rfl (.inl rfl) (w_tuple rfl G.b_tuple (w_cons (w_lc (mt := false) rfl nd (i_range1 rfl G.b_range (w_lenI h_m_Book___len__ hr (by decide) tk rfl G.b_len (w_fld fldN (Nat.le_of_ble_eq_true rfl) rfl G.k_Watch G.n_Watch_of_book (w_var (i := 0) rfl (.inl rfl) rfl rfl) rfl) rfl) rfl) (blkOk_by (own := [("rule", 6)]) (by kernel_rfl)) rfl rfl (fun _ _ _ _ _ => g_name (i := 6) nd rfl (.inl rfl) (.inr rfl)) (fun _ _ _ _ _ => bs_nil) (fun _ _ _ _ _ => w_meth h_m_Track_often hr (by decide) L2.takes0 (w_var (i := 3) rfl (.inr (.inl rfl)) rfl rfl) (w_cons (w_var (i := 6) rfl (.inl rfl) rfl rfl) (w_cons (w_var (i := 1) rfl (.inr (.inl rfl)) rfl rfl) (w_nil) rfl) rfl) rfl rfl rfl) (fun _ => rfl)) (w_nil) rfl) rfl rfl) rfl (.inl rfl))
      (s_cons (s_set (i := 5) nd rfl (.inl rfl) (w_tuple rfl G.b_tuple (w_cons (w_lc (mt := false) rfl nd (i_zips rfl G.b_zip (w_fld fldN (Nat.le_of_ble_eq_true rfl) rfl G.k_Stand G.n_Stand_tally (w_var (i := 2) rfl (.inl rfl) rfl rfl) rfl) (w_var (i := 4) rfl (.inl rfl) rfl rfl) rfl rfl rfl (fun ha => pi_zipS rfl G.b_zip ha rfl rfl)) (blkOk_by (own := [("one", 7), ("other", 8)]) (by kernel_rfl)) rfl rfl (fun _ _ _ _ _ => g_tup rfl (gs_name (i := 7) nd rfl (.inl rfl) (.inr rfl) (gs_name (i := 8) nd rfl (.inl rfl) (.inr rfl) (gs_nil) rfl) rfl) rfl rfl) (fun _ _ _ _ _ => bs_nil) (fun _ _ _ _ _ => w_bin (w_var (i := 7) rfl (.inl rfl) rfl rfl) (w_var (i := 8) rfl (.inl rfl) rfl rfl)) (fun _ => rfl)) (w_nil) rfl) rfl rfl) rfl (.inl rfl))
      (s_cons (s_expr (w_methC h_m_Watch_done hr (by decide) tk (w_var (i := 0) rfl (.inl rfl) rfl rfl) (w_cons (w_make h_new_Stand hr (by decide) rfl tk (w_cons (w_bin (w_fld fldN (Nat.le_of_ble_eq_true rfl) rfl G.k_Stand G.n_Stand_beats (w_var (i := 2) rfl (.inl rfl) rfl rfl) rfl) (w_var (i := 1) rfl (.inr (.inl rfl)) rfl rfl)) (w_cons (w_idx (w_fld fldN (Nat.le_of_ble_eq_true rfl) rfl G.k_Track G.n_Track_states (w_var (i := 3) rfl (.inr (.inl rfl)) rfl rfl) rfl) (w_meth h_m_Track_spot hr (by decide) tk (w_var (i := 3) rfl (.inr (.inl rfl)) rfl rfl) (w_cons (w_var (i := 1) rfl (.inr (.inl rfl)) rfl rfl) (w_nil) rfl) rfl rfl rfl) (fun _ _ => rfl)) (w_cons (w_fld fldN (Nat.le_of_ble_eq_true rfl) rfl G.k_Stand G.n_Stand_out (w_var (i := 2) rfl (.inl rfl) rfl rfl) rfl) (w_cons (w_var (i := 5) rfl (.inl rfl) rfl rfl) (w_nil) rfl) rfl) rfl) rfl) rfl rfl rfl) (w_nil) rfl) rfl rfl rfl) rfl)
      (s_cons (s_ret (w_var (i := 4) rfl (.inl rfl) rfl rfl))
      (s_nil)))))))
abbrev s_is_state : Stmt := top 47
theorem sc_is_state : FnScope ["book", "thing", "hushes", "hush"] ["book", "thing"] (defScope s_is_state) := ⟨rfl, rfl, rfl, by decide +kernel, rfl, by decide +kernel, by decide +kernel⟩
theorem ok_is_state (G : Glo K mg) {dvs : List V} {kws : List (Str × V)} {f : Addr} {fd : FuncData} (h_are_values : CallF (tab P w K) P w K mg base 3 "are_values" f_are_values) (h_is_from : CallF (tab P w K) P w K mg base 2 "is_from" f_is_from) (Fd : FunD K "is_state" "is_state" (defArgs s_is_state) (defBody s_is_state) (defScope s_is_state) dvs kws f fd) : FnOk P w K mg base (L2.CX P w) 4 f fd ["book", "thing"] (spW (tab P w K) K 2 f_is_state) := by
  have nd := (sc_is_state).nd
  refine fnW_ok (k := 3) Fd sc_is_state fun cdv A outer s H E hr => ?_
  have tk := takes_of (X := cxOf (L2.CX P w) P w K mg base ["book", "thing", "hushes", "hush"] "is_state" (defScope s_is_state) f cdv A outer s H E) (E := E) rfl rfl rfl rfl
  exact s_cons (s_if (L2.PW.pt (b_or (b_not (b_test (w_isOs (fun c hc => by rcases (by simpa using hc : c = 0 ∨ c = 2) with rfl | rfl; exact G.k_Book; exact G.k_Watch) G.t_3 rfl G.b_isinstance rfl G.b_tuple PyProof.Rows.boot_tuple (by decide) rfl (w_var (i := 1) rfl (.inl rfl) rfl rfl) rfl rfl rfl) (fun _ => rfl))) (b_or (b_cmp hr (w_len rfl G.b_len (w_cons (w_var (i := 1) rfl (.inl rfl) rfl rfl) (w_nil) rfl) rfl rfl) (w_int) rfl) (b_or1 (b_not (b_test (w_callP h_are_values hr (by decide) rfl tk (w_cons (w_var (i := 0) rfl (.inl rfl) rfl rfl) (w_cons (w_idx (w_var (i := 1) rfl (.inl rfl) rfl rfl) (w_int) (fun _ _ => rfl)) (w_nil) rfl) rfl) rfl rfl rfl) (fun _ => rfl))))))) (s_cons (s_ret (w_bl))
      (s_nil)) (s_nil))
      (s_cons (s_set (i := 2) nd rfl (.inl rfl) (w_idx (w_var (i := 1) rfl (.inl rfl) rfl rfl) (w_int) (fun _ _ => rfl)) rfl (.inl rfl))
      (s_cons (s_if (L2.PW.pt (b_or (b_not (b_test (w_isOs (fun c hc => by rcases (by simpa using hc : c = 0 ∨ c = 2) with rfl | rfl; exact G.k_Book; exact G.k_Watch) G.t_3 rfl G.b_isinstance rfl G.b_tuple PyProof.Rows.boot_tuple (by decide) rfl (w_var (i := 2) rfl (.inl rfl) rfl rfl) rfl rfl rfl) (fun _ => rfl))) (b_or1 (b_cmp hr (w_len rfl G.b_len (w_cons (w_var (i := 2) rfl (.inl rfl) rfl rfl) (w_nil) rfl) rfl rfl) (w_len rfl G.b_len (w_cons (w_fld fldN (Nat.le_of_ble_eq_true rfl) rfl G.k_Book G.n_Book_rules (w_var (i := 0) rfl (.inl rfl) rfl rfl) rfl) (w_nil) rfl) rfl rfl) rfl)))) (s_cons (s_ret (w_bl))
      (s_nil)) (s_nil))
      (s_cons (s_ret (w_all rfl rfl G.b_all (w_cons (w_lc (mt := false) rfl nd (i_seq (w_var (i := 2) rfl (.inl rfl) rfl rfl)) (blkOk_by (own := [("hush", 3)]) (by kernel_rfl)) rfl rfl (fun _ _ _ _ _ => g_name (i := 3) nd rfl (.inl rfl) (.inr rfl)) (fun _ _ _ _ _ => bs_nil) (fun _ _ _ _ _ => w_callP h_is_from hr (by decide) rfl L2.takes0 (w_cons (w_var (i := 3) rfl (.inl rfl) rfl rfl) (w_cons (w_int) (w_cons (w_globW rfl (G.c_MOST_HUSHED _ _) rfl) (w_nil) rfl) rfl) rfl) rfl rfl rfl) (fun _ => rfl)) (w_nil) rfl) rfl rfl))
      (s_nil))))
abbrev s__law_whole : Stmt := top 81
theorem sc__law_whole : FnScope ["_law_thing", "_law_low", "_law_below"] ["_law_thing", "_law_low", "_law_below"] (defScope s__law_whole) := ⟨rfl, rfl, rfl, by decide +kernel, rfl, by decide +kernel, by decide +kernel⟩
theorem ok__law_whole (G : Glo K mg) {dvs : List V} {kws : List (Str × V)} {f : Addr} {fd : FuncData} (Fd : FunD K "_law_whole" "_law_whole" (defArgs s__law_whole) (defBody s__law_whole) (defScope s__law_whole) dvs kws f fd) : FnOk P w K mg base (L2.CX P w) 1 f fd ["_law_thing", "_law_low", "_law_below"] (spW (tab P w K) K 3 f__law_whole) := by
  have nd := (sc__law_whole).nd
  refine fnW_ok (k := 0) Fd sc__law_whole fun cdv A outer s H E hr => ?_
  have tk := takes_of (X := cxOf (L2.CX P w) P w K mg base ["_law_thing", "_law_low", "_law_below"] "_law_whole" (defScope s__law_whole) f cdv A outer s H E) (E := E) rfl rfl rfl rfl
  exact s_cons (s_ret (w_and (w_isInt rfl G.b_isinstance rfl G.b_int (w_var (i := 0) rfl (.inl rfl) rfl rfl) rfl rfl rfl) (w_and (w_not (w_isBool rfl G.b_isinstance rfl G.b_bool (w_var (i := 0) rfl (.inl rfl) rfl rfl) rfl rfl rfl)) (one (w_chain hr (w_var (i := 1) rfl (.inl rfl) rfl rfl) (w_var (i := 0) rfl (.inl rfl) rfl rfl) (w_var (i := 2) rfl (.inl rfl) rfl rfl) (by with_unfolding_all rfl))))))
      (s_nil)
abbrev s__law_are : Stmt := top 82
theorem sc__law_are : FnScope ["_law_thing", "_law_sizes", "_law_one", "_law_size"] ["_law_thing", "_law_sizes"] (defScope s__law_are) := ⟨rfl, rfl, rfl, by decide +kernel, rfl, by decide +kernel, by decide +kernel⟩
theorem ok__law_are (G : Glo K mg) {dvs : List V} {kws : List (Str × V)} {f : Addr} {fd : FuncData} (h__law_whole : CallF (tab P w K) P w K mg base 1 "_law_whole" f__law_whole) (Fd : FunD K "_law_are" "_law_are" (defArgs s__law_are) (defBody s__law_are) (defScope s__law_are) dvs kws f fd) : FnOk P w K mg base (L2.CX P w) 2 f fd ["_law_thing", "_law_sizes"] (spW (tab P w K) K 2 f__law_are) := by
  have nd := (sc__law_are).nd
  refine fnW_ok (k := 1) Fd sc__law_are fun cdv A outer s H E hr => ?_
  have tk := takes_of (X := cxOf (L2.CX P w) P w K mg base ["_law_thing", "_law_sizes", "_law_one", "_law_size"] "_law_are" (defScope s__law_are) f cdv A outer s H E) (E := E) rfl rfl rfl rfl
  exact s_cons (s_if (L2.PW.pt (b_or (b_not (b_test (w_isOs (fun c hc => by rcases (by simpa using hc : c = 0 ∨ c = 2) with rfl | rfl; exact G.k_Book; exact G.k_Watch) G.t_3 rfl G.b_isinstance rfl G.b_tuple PyProof.Rows.boot_tuple (by decide) rfl (w_var (i := 0) rfl (.inl rfl) rfl rfl) rfl rfl rfl) (fun _ => rfl))) (b_or1 (b_cmp hr (w_len rfl G.b_len (w_cons (w_var (i := 0) rfl (.inl rfl) rfl rfl) (w_nil) rfl) rfl rfl) (w_len rfl G.b_len (w_cons (w_var (i := 1) rfl (.inl rfl) rfl rfl) (w_nil) rfl) rfl rfl) rfl)))) (s_cons (s_ret (w_bl))
      (s_nil)) (s_nil))
      (s_cons (s_ret (w_all rfl rfl G.b_all (w_cons (w_lc (mt := false) rfl nd (i_zip rfl G.b_zip (w_var (i := 0) rfl (.inl rfl) rfl rfl) (w_var (i := 1) rfl (.inl rfl) rfl rfl) rfl rfl rfl) (blkOk_by (own := [("_law_one", 2), ("_law_size", 3)]) (by kernel_rfl)) rfl rfl (fun _ _ _ _ _ => g_tup rfl (gs_name (i := 2) nd rfl (.inl rfl) (.inr rfl) (gs_name (i := 3) nd rfl (.inl rfl) (.inr rfl) (gs_nil) rfl) rfl) rfl rfl) (fun _ _ _ _ _ => bs_nil) (fun _ _ _ _ _ => w_callP h__law_whole hr (by decide) rfl L2.takes0 (w_cons (w_var (i := 2) rfl (.inl rfl) rfl rfl) (w_cons (w_int) (w_cons (w_var (i := 3) rfl (.inl rfl) rfl rfl) (w_nil) rfl) rfl) rfl) rfl rfl rfl) (fun _ => rfl)) (w_nil) rfl) rfl rfl))
      (s_nil))
abbrev s__law_due : Stmt := top 83
theorem sc__law_due : FnScope ["_law_wheels_here", "_law_many", "_law_thing"] ["_law_wheels_here", "_law_many", "_law_thing"] (defScope s__law_due) := ⟨rfl, rfl, rfl, by decide +kernel, rfl, by decide +kernel, by decide +kernel⟩
theorem ok__law_due (G : Glo K mg) {dvs : List V} {kws : List (Str × V)} {f : Addr} {fd : FuncData} (h__law_are : CallF (tab P w K) P w K mg base 2 "_law_are" f__law_are) (Fd : FunD K "_law_due" "_law_due" (defArgs s__law_due) (defBody s__law_due) (defScope s__law_due) dvs kws f fd) : FnOk P w K mg base (L2.CX P w) 3 f fd ["_law_wheels_here", "_law_many", "_law_thing"] (spW (tab P w K) K 3 f__law_due) := by
  have nd := (sc__law_due).nd
  refine fnW_ok (k := 2) Fd sc__law_due fun cdv A outer s H E hr => ?_
  have tk := takes_of (X := cxOf (L2.CX P w) P w K mg base ["_law_wheels_here", "_law_many", "_law_thing"] "_law_due" (defScope s__law_due) f cdv A outer s H E) (E := E) rfl rfl rfl rfl
  exact s_cons (s_if (L2.PW.pt (b_or (b_not (b_test (w_isOs (fun c hc => by rcases (by simpa using hc : c = 0 ∨ c = 2) with rfl | rfl; exact G.k_Book; exact G.k_Watch) G.t_3 rfl G.b_isinstance rfl G.b_tuple PyProof.Rows.boot_tuple (by decide) rfl (w_var (i := 2) rfl (.inl rfl) rfl rfl) rfl rfl rfl) (fun _ => rfl))) (b_or1 (b_cmp hr (w_len rfl G.b_len (w_cons (w_var (i := 2) rfl (.inl rfl) rfl rfl) (w_nil) rfl) rfl rfl) (w_int) rfl)))) (s_cons (s_ret (w_bl))
      (s_nil)) (s_nil))
      (s_cons (s_ret (w_and (w_callP h__law_are hr (by decide) rfl tk (w_cons (w_idx (w_var (i := 2) rfl (.inl rfl) rfl rfl) (w_int) (fun _ _ => rfl)) (w_cons (w_var (i := 0) rfl (.inl rfl) rfl rfl) (w_nil) rfl) rfl) rfl rfl rfl) (one (w_callP h__law_are hr (by decide) rfl tk (w_cons (w_idx (w_var (i := 2) rfl (.inl rfl) rfl rfl) (w_int) (fun _ _ => rfl)) (w_cons (w_bin (w_tup (w_cons (w_int) (w_nil) rfl)) (w_var (i := 1) rfl (.inl rfl) rfl rfl)) (w_nil) rfl) rfl) rfl rfl rfl))))
      (s_nil))
abbrev s_law : Stmt := top 84
theorem sc_law : FnScope ["_law_script", "_law_k", "_law_bag_here", "_law_wheels_here", "_law_rules_here", "_law_book", "_law_many", "_law_state_here", "_law_bent", "_law_things", "_law_two", "_law_watch", "_law_thing", "_law_told", "_law_turn", "_law_places"] ["_law_script"] (defScope s_law) := ⟨rfl, rfl, rfl, by decide +kernel, rfl, by decide +kernel, by decide +kernel⟩
theorem ok_law (G : Glo K mg) {dvs : List V} {kws : List (Str × V)} {f : Addr} {fd : FuncData} (h__law_bag : CallF (tab P w K) P w K mg base 1 "_law_bag" f__law_bag) (h__law_drawn : CallF (tab P w K) P w K mg base 5 "_law_drawn" f__law_drawn) (h_new_Book : MakeF (tab P w K) P w K mg base 7 "Book" 0 f_Book___init__) (h__law_state : CallF (tab P w K) P w K mg base 2 "_law_state" f__law_state) (h__law_spoilt : CallF (tab P w K) P w K mg base 8 "_law_spoilt" f__law_spoilt) (h__law_any : CallF (tab P w K) P w K mg base 2 "_law_any" f__law_any) (h_new_Watch_2 : MakeF (tab P w K) P w K mg base 5 "Watch" 2 c_new_Watch_2) (h_m_Watch_go : MethF (tab P w K) P w K mg base 6 2 "go" f_Watch_go) (h_is_state : CallF (tab P w K) P w K mg base 4 "is_state" f_is_state) (h__law_due : CallF (tab P w K) P w K mg base 3 "_law_due" f__law_due) (Fd : FunD K "law" "law" (defArgs s_law) (defBody s_law) (defScope s_law) dvs kws f fd) : FnOk P w K mg base (L2.CX P w) 9 f fd ["_law_script"] (spW (tab P w K) K 1 f_law) := by
  have nd := (sc_law).nd
  refine fnW_ok (k := 8) Fd sc_law fun cdv A outer s H E hr => ?_
  have tk := takes_of (X := cxOf (L2.CX P w) P w K mg base ["_law_script", "_law_k", "_law_bag_here", "_law_wheels_here", "_law_rules_here", "_law_book", "_law_many", "_law_state_here", "_law_bent", "_law_things", "_law_two", "_law_watch", "_law_thing", "_law_told", "_law_turn", "_law_places"] "law" (defScope s_law) f cdv A outer s H E) (E := E) rfl rfl rfl rfl
  exact s_cons (m := b_law_0_0) (m2 := b_law_0t1) (s_for (passes_of rfl) rfl (i_range1 rfl G.b_range (w_max rfl rfl G.b_max (w_cons (w_int) (w_cons (w_min rfl rfl G.b_min (w_cons (w_int) (w_cons (w_len rfl G.b_len (w_cons (w_var (i := 0) rfl (.inl rfl) rfl rfl) (w_nil) rfl) rfl rfl) (w_nil) rfl) rfl) rfl rfl) (w_nil) rfl) rfl) rfl rfl) rfl) (g_name (i := 1) nd rfl (.inl rfl) (.inl rfl)) (s_cons (m := b_law_1_0) (m2 := b_law_1t1) (s_set (i := 2) nd rfl (.inr rfl) (w_call h__law_bag hr (by decide) rfl tk (w_cons (w_var (i := 0) rfl (.inl rfl) rfl rfl) (w_cons (w_var (i := 1) rfl (.inl rfl) rfl rfl) (w_nil) rfl) rfl) rfl rfl rfl) rfl (.inl rfl))
      (s_cons (m := b_law_1_1) (m2 := b_law_1t2) (s_asg (w_call h__law_drawn hr (by decide) rfl tk (w_cons (w_var (i := 2) rfl (.inr (.inl rfl)) rfl rfl) (w_nil) rfl) rfl rfl rfl) (g_tup rfl (gs_name (i := 3) nd rfl (.inl rfl) (.inl rfl) (gs_name (i := 4) nd rfl (.inl rfl) (.inl rfl) (gs_nil) rfl) rfl) rfl rfl) rfl rfl rfl)
      (s_cons (m := b_law_1_2) (m2 := b_law_1t3) (s_par2 rfl nd rfl rfl (by decide) rfl rfl (w_cons (w_make h_new_Book hr (by decide) rfl tk (w_cons (w_var (i := 3) rfl (.inl rfl) rfl rfl) (w_cons (w_var (i := 4) rfl (.inl rfl) rfl rfl) (w_nil) rfl) rfl) rfl rfl rfl) (w_cons (w_len rfl G.b_len (w_cons (w_var (i := 4) rfl (.inl rfl) rfl rfl) (w_nil) rfl) rfl rfl) (w_nil) rfl) rfl) rfl rfl)
      (s_cons (m := b_law_1_3) (m2 := b_law_1t4) (s_set (i := 7) nd rfl (.inr rfl) (w_call h__law_state hr (by decide) rfl tk (w_cons (w_var (i := 2) rfl (.inr (.inl rfl)) rfl rfl) (w_cons (w_var (i := 3) rfl (.inl rfl) rfl rfl) (w_cons (w_var (i := 6) rfl (.inl rfl) rfl rfl) (w_nil) rfl) rfl) rfl) rfl rfl rfl) rfl (.inl rfl))
      (s_cons (m := b_law_1_4) (m2 := b_law_1t5) (s_set (i := 8) nd rfl (.inl rfl) (w_call h__law_spoilt hr (by decide) rfl tk (w_cons (w_var (i := 2) rfl (.inr (.inl rfl)) rfl rfl) (w_cons (w_var (i := 7) rfl (.inr (.inl rfl)) rfl rfl) (w_nil) rfl) rfl) rfl rfl rfl) rfl (.inl rfl))
      (s_cons (m := b_law_1_5) (m2 := b_law_1t6) (s_set (i := 9) nd rfl (.inl rfl) (w_nlst (w_cons (w_var (i := 7) rfl (.inr (.inl rfl)) rfl rfl) (w_cons (w_var (i := 8) rfl (.inl rfl) rfl rfl) (w_cons (w_call h__law_spoilt hr (by decide) rfl tk (w_cons (w_var (i := 2) rfl (.inr (.inl rfl)) rfl rfl) (w_cons (w_var (i := 8) rfl (.inl rfl) rfl rfl) (w_nil) rfl) rfl) rfl rfl rfl) (w_cons (w_call h__law_any hr (by decide) rfl tk (w_cons (w_var (i := 2) rfl (.inr (.inl rfl)) rfl rfl) (w_nil) rfl) rfl rfl rfl) (w_cons (w_tup (w_cons (w_idx (w_var (i := 7) rfl (.inr (.inl rfl)) rfl rfl) (w_int) (fun _ _ => rfl)) (w_cons (w_bin (w_tup (w_cons (w_int) (w_nil) rfl)) (w_var (i := 6) rfl (.inl rfl) rfl rfl)) (w_nil) rfl) rfl)) (w_cons (w_tup (w_cons (w_idx (w_var (i := 7) rfl (.inr (.inl rfl)) rfl rfl) (w_int) (fun _ _ => rfl)) (w_cons (w_bin (w_tup (w_cons (w_int) (w_nil) rfl)) (w_var (i := 6) rfl (.inl rfl) rfl rfl)) (w_nil) rfl) rfl)) (w_nil) rfl) rfl) rfl) rfl) rfl) rfl)) rfl (.inl rfl))
      (s_cons (m := b_law_1_6) (m2 := b_law_1t7) (s_set (i := 9) nd rfl (.inl rfl) (w_naddL (w_var (i := 9) rfl (.inl rfl) rfl rfl) (w_lst (w_cons (w_tup (w_cons (w_idx (w_var (i := 7) rfl (.inr (.inl rfl)) rfl rfl) (w_int) (fun _ _ => rfl)) (w_cons (w_bin (w_tup (w_cons (w_int) (w_nil) rfl)) (w_bin (w_var (i := 6) rfl (.inl rfl) rfl rfl) (w_int))) (w_nil) rfl) rfl)) (w_cons (w_tup (w_cons (w_var (i := 3) rfl (.inl rfl) rfl rfl) (w_cons (w_idx (w_var (i := 7) rfl (.inr (.inl rfl)) rfl rfl) (w_int) (fun _ _ => rfl)) (w_nil) rfl) rfl)) (w_cons (w_bin (w_var (i := 7) rfl (.inr (.inl rfl)) rfl rfl) (w_tup (w_cons (w_tup (w_nil)) (w_nil) rfl))) (w_nil) rfl) rfl) rfl))) rfl (.inl rfl))
      (s_cons (m := b_law_1_7) (m2 := b_law_1t8) (s_expr (w_app (w_var (i := 9) rfl (.inl rfl) rfl rfl) (w_call h__law_state hr (by decide) rfl tk (w_cons (w_var (i := 2) rfl (.inr (.inl rfl)) rfl rfl) (w_cons (w_var (i := 3) rfl (.inl rfl) rfl rfl) (w_cons (w_var (i := 6) rfl (.inl rfl) rfl rfl) (w_nil) rfl) rfl) rfl) rfl rfl rfl) rfl rfl rfl rfl rfl) rfl)
      (s_cons (m := b_law_1_8) (m2 := b_law_1t9) (s_expr (w_app (w_var (i := 9) rfl (.inl rfl) rfl rfl) (w_tup (w_cons (w_tuple rfl G.b_tuple (w_cons (w_lc (mt := false) rfl nd (i_seq (w_var (i := 3) rfl (.inl rfl) rfl rfl)) (blkOk_by (own := [("_law_places", 15)]) (by kernel_rfl)) rfl rfl (fun _ _ _ _ _ => g_name (i := 15) nd rfl (.inl rfl) (.inr rfl)) (fun _ _ _ _ _ => bs_nil) (fun _ _ _ _ _ => w_bin (w_var (i := 15) rfl (.inl rfl) rfl rfl) (w_int)) (fun _ => rfl)) (w_nil) rfl) rfl rfl) (w_cons (w_bin (w_tup (w_cons (w_int) (w_nil) rfl)) (w_var (i := 6) rfl (.inl rfl) rfl rfl)) (w_nil) rfl) rfl)) rfl rfl rfl rfl rfl) rfl)
      (s_cons (m := b_law_1_9) (m2 := b_law_1t10) (s_set (i := 10) nd rfl (.inl rfl) (w_make h_new_Book hr (by decide) rfl tk (w_cons (w_tup (w_cons (w_int) (w_nil) rfl)) (w_cons (w_bin (w_tup (w_cons (w_tup (w_cons (w_tup (w_nil)) (w_cons (w_tup (w_nil)) (w_cons (w_tup (w_nil)) (w_cons (w_tup (w_nil)) (w_nil) rfl) rfl) rfl) rfl)) (w_nil) rfl)) (w_int)) (w_nil) rfl) rfl) rfl rfl rfl) rfl (.inl rfl))
      (s_cons (m := b_law_1_10) (m2 := b_law_1t11) (s_set (i := 11) nd rfl (.inl rfl) (w_makeC h_new_Watch_2 hr (by decide) rfl tk (w_cons (w_var (i := 10) rfl (.inl rfl) rfl rfl) (w_cons (w_tup (w_cons (w_int) (w_nil) rfl)) (w_nil) rfl) rfl) rfl rfl rfl) rfl (.inl rfl))
      (s_cons (m := b_law_1_11) (m2 := b_law_1t12) (s_expr (w_methC h_m_Watch_go hr (by decide) tk (w_var (i := 11) rfl (.inl rfl) rfl rfl) (w_cons (w_int) (w_nil) rfl) rfl rfl rfl) rfl)
      (s_cons (m := b_law_1_12) (m2 := b_law_1t13) (s_expr (w_methC h_m_Watch_go hr (by decide) tk (w_var (i := 11) rfl (.inl rfl) rfl rfl) (w_cons (w_int) (w_nil) rfl) rfl rfl rfl) rfl)
      (s_cons (m := b_law_1_13) (m2 := b_law_1t14) (s_set (i := 9) nd rfl (.inl rfl) (w_naddL (w_var (i := 9) rfl (.inl rfl) rfl rfl) (w_lst (w_cons (w_var (i := 5) rfl (.inl rfl) rfl rfl) (w_cons (w_tup (w_cons (w_var (i := 5) rfl (.inl rfl) rfl rfl) (w_cons (w_idx (w_var (i := 7) rfl (.inr (.inl rfl)) rfl rfl) (w_int) (fun _ _ => rfl)) (w_nil) rfl) rfl)) (w_cons (w_tup (w_cons (w_idx (w_var (i := 7) rfl (.inr (.inl rfl)) rfl rfl) (w_int) (fun _ _ => rfl)) (w_cons (w_var (i := 5) rfl (.inl rfl) rfl rfl) (w_nil) rfl) rfl)) (w_cons (w_tup (w_cons (w_var (i := 7) rfl (.inr (.inl rfl)) rfl rfl) (w_cons (w_var (i := 7) rfl (.inr (.inl rfl)) rfl rfl) (w_nil) rfl) rfl)) (w_cons (w_str) (w_cons (w_var (i := 10) rfl (.inl rfl) rfl rfl) (w_cons (w_frzO (w_var (i := 11) rfl (.inl rfl) rfl rfl)) (w_cons (w_tup (w_cons (w_frzO (w_var (i := 11) rfl (.inl rfl) rfl rfl)) (w_cons (w_frzO (w_var (i := 11) rfl (.inl rfl) rfl rfl)) (w_nil) rfl) rfl)) (w_nil) rfl) rfl) rfl) rfl) rfl) rfl) rfl) rfl))) rfl (.inl rfl))
      (s_cons (m := b_law_1_14) (m2 := b_law_1t15) (s_for (passes_of rfl) rfl (i_seq (w_bin (w_var (i := 9) rfl (.inl rfl) rfl rfl) (w_lc (mt := false) rfl nd (i_range1 rfl G.b_range (w_int) rfl) (blkOk_by (own := [("_law_turn", 14)]) (by kernel_rfl)) rfl rfl (fun _ _ _ _ _ => g_name (i := 14) nd rfl (.inl rfl) (.inr rfl)) (fun _ _ _ _ _ => bs_nil) (fun _ _ _ _ _ => w_call h__law_spoilt hr (by decide) rfl L2.takes0 (w_cons (w_var (i := 2) rfl (.inr (.inl rfl)) rfl rfl) (w_cons (w_var (i := 7) rfl (.inr (.inl rfl)) rfl rfl) (w_nil) rfl) rfl) rfl rfl rfl) (fun _ => rfl)))) (g_name (i := 12) nd rfl (.inl rfl) (.inl rfl)) (s_cons (m := b_law_2_0) (m2 := sNext) (s_for (passes_of rfl) rfl (i_seq (w_tup (w_cons (w_callP h_is_state hr (by decide) rfl tk (w_cons (w_var (i := 5) rfl (.inl rfl) rfl rfl) (w_cons (w_var (i := 12) rfl (.inl rfl) rfl rfl) (w_nil) rfl) rfl) rfl rfl rfl) (w_cons (w_callP h_is_state hr (by decide) rfl tk (w_cons (w_var (i := 5) rfl (.inl rfl) rfl rfl) (w_cons (w_var (i := 12) rfl (.inl rfl) rfl rfl) (w_nil) rfl) rfl) rfl rfl rfl) (w_nil) rfl) rfl))) (g_name (i := 13) nd rfl (.inl rfl) (.inl rfl)) (s_cons (m := b_law_3_0) (m2 := sNext) (s_if (L2.PW.pt (b_or (b_not (b_test (w_isBool rfl G.b_isinstance rfl G.b_bool (w_var (i := 13) rfl (.inl rfl) rfl rfl) rfl rfl rfl) (fun _ => rfl))) (b_or1 (b_cmp hr (w_var (i := 13) rfl (.inl rfl) rfl rfl) (w_callP h__law_due hr (by decide) rfl tk (w_cons (w_var (i := 3) rfl (.inl rfl) rfl rfl) (w_cons (w_var (i := 6) rfl (.inl rfl) rfl rfl) (w_cons (w_var (i := 12) rfl (.inl rfl) rfl rfl) (w_nil) rfl) rfl) rfl) rfl rfl rfl) rfl)))) (s_cons (s_ret (w_bl))
      (s_nil)) (s_nil))
      (s_nil)) (fun _ => rfl))
      (s_nil)) (fun _ => rfl))
      (s_cons (m := b_law_1_15) (m2 := sNext) (s_if (b_cmp hr (w_callP h_is_state hr (by decide) rfl tk (w_cons (w_var (i := 5) rfl (.inl rfl) rfl rfl) (w_cons (w_var (i := 7) rfl (.inr (.inl rfl)) rfl rfl) (w_nil) rfl) rfl) rfl rfl rfl) (w_bl) rfl) (s_cons (s_ret (w_bl))
      (s_nil)) (s_nil))
      (s_nil))))))))))))))))) (fun _ => rfl))
      (s_cons (m := b_law_0_1) (m2 := sNext) (s_ret (w_bl))
      (s_nil))
end
/-! ### the head -/
def d__law_bag : He.DefD := ⟨("_law_bag", none), "_law_bag", "_law_bag", defArgs s__law_bag, defBody s__law_bag, defScope s__law_bag, [], []⟩
def d__law_take : He.DefD := ⟨("_law_take", none), "_law_take", "_law_take", defArgs s__law_take, defBody s__law_take, defScope s__law_take, [], []⟩
def d__law_wheels : He.DefD := ⟨("_law_wheels", none), "_law_wheels", "_law_wheels", defArgs s__law_wheels, defBody s__law_wheels, defScope s__law_wheels, [], []⟩
def d__law_condition : He.DefD := ⟨("_law_condition", none), "_law_condition", "_law_condition", defArgs s__law_condition, defBody s__law_condition, defScope s__law_condition, [], []⟩
def d__law_change : He.DefD := ⟨("_law_change", none), "_law_change", "_law_change", defArgs s__law_change, defBody s__law_change, defScope s__law_change, [], []⟩
def d__law_rule : He.DefD := ⟨("_law_rule", none), "_law_rule", "_law_rule", defArgs s__law_rule, defBody s__law_rule, defScope s__law_rule, [], []⟩
def d__law_rules : He.DefD := ⟨("_law_rules", none), "_law_rules", "_law_rules", defArgs s__law_rules, defBody s__law_rules, defScope s__law_rules, [], []⟩
def d__law_drawn : He.DefD := ⟨("_law_drawn", none), "_law_drawn", "_law_drawn", defArgs s__law_drawn, defBody s__law_drawn, defScope s__law_drawn, [], []⟩
def d__law_state : He.DefD := ⟨("_law_state", none), "_law_state", "_law_state", defArgs s__law_state, defBody s__law_state, defScope s__law_state, [], []⟩
def d__law_any : He.DefD := ⟨("_law_any", none), "_law_any", "_law_any", defArgs s__law_any, defBody s__law_any, defScope s__law_any, [], []⟩
def d__law_spoilt : He.DefD := ⟨("_law_spoilt", none), "_law_spoilt", "_law_spoilt", defArgs s__law_spoilt, defBody s__law_spoilt, defScope s__law_spoilt, [], []⟩
def d_NoBook___init__ : He.DefD := ⟨("NoBook", some "__init__"), "__init__", "NoBook.__init__", defArgs s_NoBook___init__, defBody s_NoBook___init__, defScope s_NoBook___init__, [], []⟩
def d_is_row : He.DefD := ⟨("is_row", none), "is_row", "is_row", defArgs s_is_row, defBody s_is_row, defScope s_is_row, [], []⟩
def d_how_many : He.DefD := ⟨("how_many", none), "how_many", "how_many", defArgs s_how_many, defBody s_how_many, defScope s_how_many, [], []⟩
def d_is_whole : He.DefD := ⟨("is_whole", none), "is_whole", "is_whole", defArgs s_is_whole, defBody s_is_whole, defScope s_is_whole, [], []⟩
def d_is_from : He.DefD := ⟨("is_from", none), "is_from", "is_from", defArgs s_is_from, defBody s_is_from, defScope s_is_from, [], []⟩
def d_are_wheels : He.DefD := ⟨("are_wheels", none), "are_wheels", "are_wheels", defArgs s_are_wheels, defBody s_are_wheels, defScope s_are_wheels, [], []⟩
def d_are_rising : He.DefD := ⟨("are_rising", none), "are_rising", "are_rising", defArgs s_are_rising, defBody s_are_rising, defScope s_are_rising, [], []⟩
def d_is_hush : He.DefD := ⟨("is_hush", none), "is_hush", "is_hush", defArgs s_is_hush, defBody s_is_hush, defScope s_is_hush, [], []⟩
def d_are_hushes : He.DefD := ⟨("are_hushes", none), "are_hushes", "are_hushes", defArgs s_are_hushes, defBody s_are_hushes, defScope s_are_hushes, [], []⟩
def d_are_rules_numbers : He.DefD := ⟨("are_rules_numbers", none), "are_rules_numbers", "are_rules_numbers", defArgs s_are_rules_numbers, defBody s_are_rules_numbers, defScope s_are_rules_numbers, [], []⟩
def d_is_worded : He.DefD := ⟨("is_worded", none), "is_worded", "is_worded", defArgs s_is_worded, defBody s_is_worded, defScope s_is_worded, [], []⟩
def d_is_placed : He.DefD := ⟨("is_placed", none), "is_placed", "is_placed", defArgs s_is_placed, defBody s_is_placed, defScope s_is_placed, [], []⟩
def d_is_condition : He.DefD := ⟨("is_condition", none), "is_condition", "is_condition", defArgs s_is_condition, defBody s_is_condition, defScope s_is_condition, [], []⟩
def d_is_rule : He.DefD := ⟨("is_rule", none), "is_rule", "is_rule", defArgs s_is_rule, defBody s_is_rule, defScope s_is_rule, [], []⟩
def d_look_book : He.DefD := ⟨("look_book", none), "look_book", "look_book", defArgs s_look_book, defBody s_look_book, defScope s_look_book, [], []⟩
def d_Book___init__ : He.DefD := ⟨("Book", some "__init__"), "__init__", "Book.__init__", defArgs s_Book___init__, defBody s_Book___init__, defScope s_Book___init__, [.adr (He.dflAt ("Book", some "__init__") 0)], []⟩
def d_are_values : He.DefD := ⟨("are_values", none), "are_values", "are_values", defArgs s_are_values, defBody s_are_values, defScope s_are_values, [], []⟩
def d_begun : He.DefD := ⟨("begun", none), "begun", "begun", defArgs s_begun, defBody s_begun, defScope s_begun, [], []⟩
def d_look_off : He.DefD := ⟨("look_off", none), "look_off", "look_off", defArgs s_look_off, defBody s_look_off, defScope s_look_off, [], []⟩
def d_Stand___init__ : He.DefD := ⟨("Stand", some "__init__"), "__init__", "Stand.__init__", defArgs s_Stand___init__, defBody s_Stand___init__, defScope s_Stand___init__, [], []⟩
def d_Book___len__ : He.DefD := ⟨("Book", some "__len__"), "__len__", "Book.__len__", defArgs s_Book___len__, defBody s_Book___len__, defScope s_Book___len__, [], []⟩
def d_Watch___init__ : He.DefD := ⟨("Watch", some "__init__"), "__init__", "Watch.__init__", defArgs s_Watch___init__, defBody s_Watch___init__, defScope s_Watch___init__, [], [("off", .adr (DL.kwdAt ("Watch", some "__init__") "off"))]⟩
def d_NoBeat___init__ : He.DefD := ⟨("NoBeat", some "__init__"), "__init__", "NoBeat.__init__", defArgs s_NoBeat___init__, defBody s_NoBeat___init__, defScope s_NoBeat___init__, [], []⟩
def d_look_beats : He.DefD := ⟨("look_beats", none), "look_beats", "look_beats", defArgs s_look_beats, defBody s_look_beats, defScope s_look_beats, [], []⟩
def d_own_order : He.DefD := ⟨("own_order", none), "own_order", "own_order", defArgs s_own_order, defBody s_own_order, defScope s_own_order, [], []⟩
def d_ended : He.DefD := ⟨("ended", none), "ended", "ended", defArgs s_ended, defBody s_ended, defScope s_ended, [], []⟩
def d_is_so : He.DefD := ⟨("is_so", none), "is_so", "is_so", defArgs s_is_so, defBody s_is_so, defScope s_is_so, [], []⟩
def d_would_do : He.DefD := ⟨("would_do", none), "would_do", "would_do", defArgs s_would_do, defBody s_would_do, defScope s_would_do, [], []⟩
def d_change : He.DefD := ⟨("change", none), "change", "change", defArgs s_change, defBody s_change, defScope s_change, [], []⟩
def d_hush_and_wake : He.DefD := ⟨("hush_and_wake", none), "hush_and_wake", "hush_and_wake", defArgs s_hush_and_wake, defBody s_hush_and_wake, defScope s_hush_and_wake, [], []⟩
def d_beat_of : He.DefD := ⟨("beat_of", none), "beat_of", "beat_of", defArgs s_beat_of, defBody s_beat_of, defScope s_beat_of, [], []⟩
def d_Track___init__ : He.DefD := ⟨("Track", some "__init__"), "__init__", "Track.__init__", defArgs s_Track___init__, defBody s_Track___init__, defScope s_Track___init__, [], []⟩
def d_Watch_done : He.DefD := ⟨("Watch", some "done"), "done", "Watch.done", defArgs s_Watch_done, defBody s_Watch_done, defScope s_Watch_done, [], []⟩
def d_Track_turns : He.DefD := ⟨("Track", some "turns"), "turns", "Track.turns", defArgs s_Track_turns, defBody s_Track_turns, defScope s_Track_turns, [], []⟩
def d_Track_often : He.DefD := ⟨("Track", some "often"), "often", "Track.often", defArgs s_Track_often, defBody s_Track_often, defScope s_Track_often, [], []⟩
def d_Track_spot : He.DefD := ⟨("Track", some "spot"), "spot", "Track.spot", defArgs s_Track_spot, defBody s_Track_spot, defScope s_Track_spot, [], []⟩
def d_Watch_go : He.DefD := ⟨("Watch", some "go"), "go", "Watch.go", defArgs s_Watch_go, defBody s_Watch_go, defScope s_Watch_go, [.int 1], []⟩
def d_is_state : He.DefD := ⟨("is_state", none), "is_state", "is_state", defArgs s_is_state, defBody s_is_state, defScope s_is_state, [], []⟩
def d__law_whole : He.DefD := ⟨("_law_whole", none), "_law_whole", "_law_whole", defArgs s__law_whole, defBody s__law_whole, defScope s__law_whole, [], []⟩
def d__law_are : He.DefD := ⟨("_law_are", none), "_law_are", "_law_are", defArgs s__law_are, defBody s__law_are, defScope s__law_are, [], []⟩
def d__law_due : He.DefD := ⟨("_law_due", none), "_law_due", "_law_due", defArgs s__law_due, defBody s__law_due, defScope s__law_due, [], []⟩
def d_law : He.DefD := ⟨("law", none), "law", "law", defArgs s_law, defBody s_law, defScope s_law, [], []⟩
def fn : List He.DefD := [d__law_bag, d__law_take, d__law_wheels, d__law_condition, d__law_change, d__law_rule, d__law_rules, d__law_drawn, d__law_state, d__law_any, d__law_spoilt, d_NoBook___init__, d_is_row, d_how_many, d_is_whole, d_is_from, d_are_wheels, d_are_rising, d_is_hush, d_are_hushes, d_are_rules_numbers, d_is_worded, d_is_placed, d_is_condition, d_is_rule, d_look_book, d_Book___init__, d_are_values, d_begun, d_look_off, d_Stand___init__, d_Book___len__, d_Watch___init__, d_NoBeat___init__, d_look_beats, d_own_order, d_ended, d_is_so, d_would_do, d_change, d_hush_and_wake, d_beat_of, d_Track___init__, d_Watch_done, d_Track_turns, d_Track_often, d_Track_spot, d_Watch_go, d_is_state, d__law_whole, d__law_are, d__law_due, d_law]
def fa : List He.Fa := [.free "len", .free "abs", .free "range", .free "tuple", .free "isinstance", .free "int", .free "str", .free "list", .free "bool", .free "all", .free "zip", .free "any", .free "enumerate", .free "OverflowError", .free "max", .free "divmod", .free "min", .int "MOST_WHEELS" 3, .int "MOST_BEGINNINGS" 24, .int "MOST_PLACES" 4, .int "LEAST_PLACES" 2, .int "MOST_HUSHED" 3, .glo "RULED", .glo "PLACED", .int "PARTS" 4, .int "MOST_CONDITIONS" 4, .glo "CHANGES", .int "MOST_CHANGES" 3, .int "MOST_RULES" 5, .int "MOST_BEATS" 1000000000000000000000000000000000000000000000000000000000000, .cls "Book", .cls "Watch", .cls "Stand", .cls "Track", .noat "Book" "wheels", .noat "Book" "rules", .noat "Stand" "beats", .noat "Stand" "place", .noat "Stand" "out", .noat "Stand" "tally", .noat "Watch" "of_book", .noat "Watch" "stand", .noat "Watch" "past", .noat "Track" "states", .noat "Track" "deeds", .noat "Track" "begin", .noat "Track" "length", .glo "HushError", .glo "NoState", .glo "NoOff", .glo "_law_bag", .glo "_law_take", .glo "_law_wheels", .glo "_law_condition", .glo "_law_change", .glo "_law_rule", .glo "_law_rules", .glo "_law_drawn", .glo "_law_state", .glo "_law_any", .glo "_law_spoilt", .glo "NoBook", .glo "is_row", .glo "how_many", .glo "is_whole", .glo "is_from", .glo "are_wheels", .glo "are_rising", .glo "is_hush", .glo "are_hushes", .glo "are_rules_numbers", .glo "is_worded", .glo "is_placed", .glo "is_condition", .glo "is_rule", .glo "look_book", .glo "Book", .mkr "Book", .glo "are_values", .glo "begun", .glo "look_off", .glo "Stand", .mkr "Stand", .meth "Book" "__len__", .glo "Watch", .mkr "Watch", .glo "NoBeat", .glo "look_beats", .glo "own_order", .glo "ended", .glo "is_so", .glo "would_do", .glo "change", .glo "hush_and_wake", .glo "beat_of", .glo "Track", .mkr "Track", .meth "Watch" "done", .meth "Track" "turns", .meth "Track" "often", .meth "Track" "spot", .meth "Watch" "go", .glo "is_state", .glo "_law_whole", .glo "_law_are", .glo "_law_due", .glo "law"]
def ex (K : PySem.W.Frag) : Bool := He.tupB K "RULED" ((["hushed", "awake"] : List Str).map He.Dv.str) && (He.tupB K "PLACED" ((["is", "not", "below"] : List Str).map He.Dv.str) && (He.tupB K "CHANGES" ((["put", "turn"] : List Str).map He.Dv.str) && (tupE K ((DL.kwdAt ("Watch", some "__init__") "off") K) && (excKB K (He.ga K "NoState") [.type "ValueError", .type "Exception", .type "BaseException", .type "object"] "ValueError.__new__" && (excKB K (He.ga K "NoOff") [.type "ValueError", .type "Exception", .type "BaseException", .type "object"] "ValueError.__new__" && (oexGB K (He.ga K "NoBook") [.type "ValueError", .type "Exception", .type "BaseException", .type "object"] "ValueError.__new__" && (errB K (He.ga K "NoBook") "at" (He.fAd K ("NoBook", some "__init__")) && (ownAtB K (He.ga K "HushError") "__init__" "ValueError.__init__" && (insTsB K (clsL K) [0, 2] .tuple && (oexGB K (He.ga K "NoBeat") [.type "OverflowError", .type "ArithmeticError", .type "Exception", .type "BaseException", .type "object"] "OverflowError.__new__" && (errB K (He.ga K "NoBeat") "beats" (He.fAd K ("NoBeat", some "__init__")))))))))))))
/-- THE PLAIN LAW -/
def Plain : Prop := ∀ ns : List Int, ns.length ≤ 63 → ∃ S, f_law [.lst (ns.map W.int)] [] = .ok (.bl true) S
theorem facts (hp : Plain) {P : Program} {w : World} {K : PySem.W.Frag} {h : Heap} {mg : Str → Option Value} {f : Addr} (X : K.In h) (G : h.Ns mainGlobals mg) (hfa : mg ("law" : Str) = some (.ref f)) (c : He.SaysD fa fn K) (hex : ex K = true) :
    ∃ fd : FuncData, (∀ (s : Shared) (v : Value), BindsTo s fd ⟨[v], []⟩ [("_law_script", v)]) ∧ ∀ base : Heap, K.In base → base.Ns mainGlobals mg → FnOk P w K mg base (L2.CX P w) 9 f fd ["_law_script"] (spLaw K) := by
  obtain ⟨e0, r0⟩ := He.ba hex
  obtain ⟨e1, r1⟩ := He.ba r0
  obtain ⟨e2, r2⟩ := He.ba r1
  obtain ⟨e3, r3⟩ := He.ba r2
  obtain ⟨e4, r4⟩ := He.ba r3
  obtain ⟨e5, r5⟩ := He.ba r4
  obtain ⟨e6, r6⟩ := He.ba r5
  obtain ⟨e7, r7⟩ := He.ba r6
  obtain ⟨e8, r8⟩ := He.ba r7
  obtain ⟨e9, r9⟩ := He.ba r8
  obtain ⟨e10, r10⟩ := He.ba r9
  have e11 := r10
  obtain ⟨fd__law_bag, F__law_bag⟩ := c.def_ 0 (d := d__law_bag) rfl
  obtain ⟨fd__law_take, F__law_take⟩ := c.def_ 1 (d := d__law_take) rfl
  obtain ⟨fd__law_wheels, F__law_wheels⟩ := c.def_ 2 (d := d__law_wheels) rfl
  obtain ⟨fd__law_condition, F__law_condition⟩ := c.def_ 3 (d := d__law_condition) rfl
  obtain ⟨fd__law_change, F__law_change⟩ := c.def_ 4 (d := d__law_change) rfl
  obtain ⟨fd__law_rule, F__law_rule⟩ := c.def_ 5 (d := d__law_rule) rfl
  obtain ⟨fd__law_rules, F__law_rules⟩ := c.def_ 6 (d := d__law_rules) rfl
  obtain ⟨fd__law_drawn, F__law_drawn⟩ := c.def_ 7 (d := d__law_drawn) rfl
  obtain ⟨fd__law_state, F__law_state⟩ := c.def_ 8 (d := d__law_state) rfl
  obtain ⟨fd__law_any, F__law_any⟩ := c.def_ 9 (d := d__law_any) rfl
  obtain ⟨fd__law_spoilt, F__law_spoilt⟩ := c.def_ 10 (d := d__law_spoilt) rfl
  obtain ⟨fd_NoBook___init__, F_NoBook___init__⟩ := c.def_ 11 (d := d_NoBook___init__) rfl
  obtain ⟨fd_is_row, F_is_row⟩ := c.def_ 12 (d := d_is_row) rfl
  obtain ⟨fd_how_many, F_how_many⟩ := c.def_ 13 (d := d_how_many) rfl
  obtain ⟨fd_is_whole, F_is_whole⟩ := c.def_ 14 (d := d_is_whole) rfl
  obtain ⟨fd_is_from, F_is_from⟩ := c.def_ 15 (d := d_is_from) rfl
  obtain ⟨fd_are_wheels, F_are_wheels⟩ := c.def_ 16 (d := d_are_wheels) rfl
  obtain ⟨fd_are_rising, F_are_rising⟩ := c.def_ 17 (d := d_are_rising) rfl
  obtain ⟨fd_is_hush, F_is_hush⟩ := c.def_ 18 (d := d_is_hush) rfl
  obtain ⟨fd_are_hushes, F_are_hushes⟩ := c.def_ 19 (d := d_are_hushes) rfl
  obtain ⟨fd_are_rules_numbers, F_are_rules_numbers⟩ := c.def_ 20 (d := d_are_rules_numbers) rfl
  obtain ⟨fd_is_worded, F_is_worded⟩ := c.def_ 21 (d := d_is_worded) rfl
  obtain ⟨fd_is_placed, F_is_placed⟩ := c.def_ 22 (d := d_is_placed) rfl
  obtain ⟨fd_is_condition, F_is_condition⟩ := c.def_ 23 (d := d_is_condition) rfl
  obtain ⟨fd_is_rule, F_is_rule⟩ := c.def_ 24 (d := d_is_rule) rfl
  obtain ⟨fd_look_book, F_look_book⟩ := c.def_ 25 (d := d_look_book) rfl
  obtain ⟨fd_Book___init__, F_Book___init__⟩ := c.def_ 26 (d := d_Book___init__) rfl
  obtain ⟨fd_are_values, F_are_values⟩ := c.def_ 27 (d := d_are_values) rfl
  obtain ⟨fd_begun, F_begun⟩ := c.def_ 28 (d := d_begun) rfl
  obtain ⟨fd_look_off, F_look_off⟩ := c.def_ 29 (d := d_look_off) rfl
  obtain ⟨fd_Stand___init__, F_Stand___init__⟩ := c.def_ 30 (d := d_Stand___init__) rfl
  obtain ⟨fd_Book___len__, F_Book___len__⟩ := c.def_ 31 (d := d_Book___len__) rfl
  obtain ⟨fd_Watch___init__, F_Watch___init__⟩ := c.def_ 32 (d := d_Watch___init__) rfl
  obtain ⟨fd_NoBeat___init__, F_NoBeat___init__⟩ := c.def_ 33 (d := d_NoBeat___init__) rfl
  obtain ⟨fd_look_beats, F_look_beats⟩ := c.def_ 34 (d := d_look_beats) rfl
  obtain ⟨fd_own_order, F_own_order⟩ := c.def_ 35 (d := d_own_order) rfl
  obtain ⟨fd_ended, F_ended⟩ := c.def_ 36 (d := d_ended) rfl
  obtain ⟨fd_is_so, F_is_so⟩ := c.def_ 37 (d := d_is_so) rfl
  obtain ⟨fd_would_do, F_would_do⟩ := c.def_ 38 (d := d_would_do) rfl
  obtain ⟨fd_change, F_change⟩ := c.def_ 39 (d := d_change) rfl
  obtain ⟨fd_hush_and_wake, F_hush_and_wake⟩ := c.def_ 40 (d := d_hush_and_wake) rfl
  obtain ⟨fd_beat_of, F_beat_of⟩ := c.def_ 41 (d := d_beat_of) rfl
  obtain ⟨fd_Track___init__, F_Track___init__⟩ := c.def_ 42 (d := d_Track___init__) rfl
  obtain ⟨fd_Watch_done, F_Watch_done⟩ := c.def_ 43 (d := d_Watch_done) rfl
  obtain ⟨fd_Track_turns, F_Track_turns⟩ := c.def_ 44 (d := d_Track_turns) rfl
  obtain ⟨fd_Track_often, F_Track_often⟩ := c.def_ 45 (d := d_Track_often) rfl
  obtain ⟨fd_Track_spot, F_Track_spot⟩ := c.def_ 46 (d := d_Track_spot) rfl
  obtain ⟨fd_Watch_go, F_Watch_go⟩ := c.def_ 47 (d := d_Watch_go) rfl
  obtain ⟨fd_is_state, F_is_state⟩ := c.def_ 48 (d := d_is_state) rfl
  obtain ⟨fd__law_whole, F__law_whole⟩ := c.def_ 49 (d := d__law_whole) rfl
  obtain ⟨fd__law_are, F__law_are⟩ := c.def_ 50 (d := d__law_are) rfl
  obtain ⟨fd__law_due, F__law_due⟩ := c.def_ 51 (d := d__law_due) rfl
  obtain ⟨fd_law, F_law⟩ := c.def_ 52 (d := d_law) rfl
  have GG : Glo K mg := ⟨He.free_ok X G (c.fact 0 (f := .free "len") rfl), He.free_ok X G (c.fact 1 (f := .free "abs") rfl), He.free_ok X G (c.fact 2 (f := .free "range") rfl), He.free_ok X G (c.fact 3 (f := .free "tuple") rfl), He.free_ok X G (c.fact 4 (f := .free "isinstance") rfl), He.free_ok X G (c.fact 5 (f := .free "int") rfl), He.free_ok X G (c.fact 6 (f := .free "str") rfl), He.free_ok X G (c.fact 7 (f := .free "list") rfl), He.free_ok X G (c.fact 8 (f := .free "bool") rfl), He.free_ok X G (c.fact 9 (f := .free "all") rfl), He.free_ok X G (c.fact 10 (f := .free "zip") rfl), He.free_ok X G (c.fact 11 (f := .free "any") rfl), He.free_ok X G (c.fact 12 (f := .free "enumerate") rfl), He.free_ok X G (c.fact 13 (f := .free "OverflowError") rfl), He.free_ok X G (c.fact 14 (f := .free "max") rfl), He.free_ok X G (c.fact 15 (f := .free "divmod") rfl), He.free_ok X G (c.fact 16 (f := .free "min") rfl), fun _ _ => gloW_int (He.int_ok X G (c.fact 17 (f := .int "MOST_WHEELS" 3) rfl)), fun _ _ => gloW_int (He.int_ok X G (c.fact 18 (f := .int "MOST_BEGINNINGS" 24) rfl)), fun _ _ => gloW_int (He.int_ok X G (c.fact 19 (f := .int "MOST_PLACES" 4) rfl)), fun _ _ => gloW_int (He.int_ok X G (c.fact 20 (f := .int "LEAST_PLACES" 2) rfl)), fun _ _ => gloW_int (He.int_ok X G (c.fact 21 (f := .int "MOST_HUSHED" 3) rfl)), fun _ _ => gloW_strs (xs := ["hushed", "awake"]) (He.glo_ok X G (c.fact 22 (f := .glo "RULED") rfl)) e0, fun _ _ => gloW_strs (xs := ["is", "not", "below"]) (He.glo_ok X G (c.fact 23 (f := .glo "PLACED") rfl)) e1, fun _ _ => gloW_int (He.int_ok X G (c.fact 24 (f := .int "PARTS" 4) rfl)), fun _ _ => gloW_int (He.int_ok X G (c.fact 25 (f := .int "MOST_CONDITIONS" 4) rfl)), fun _ _ => gloW_strs (xs := ["put", "turn"]) (He.glo_ok X G (c.fact 26 (f := .glo "CHANGES") rfl)) e2, fun _ _ => gloW_int (He.int_ok X G (c.fact 27 (f := .int "MOST_CHANGES" 3) rfl)), fun _ _ => gloW_int (He.int_ok X G (c.fact 28 (f := .int "MOST_RULES" 5) rfl)), fun _ _ => gloW_int (He.int_ok X G (c.fact 29 (f := .int "MOST_BEATS" 1000000000000000000000000000000000000000000000000000000000000) rfl)), He.cls_ok (c.fact 30 (f := .cls "Book") rfl), He.cls_ok (c.fact 31 (f := .cls "Watch") rfl), He.cls_ok (c.fact 32 (f := .cls "Stand") rfl), He.cls_ok (c.fact 33 (f := .cls "Track") rfl), He.noat_ok (c.fact 34 (f := .noat "Book" "wheels") rfl), He.noat_ok (c.fact 35 (f := .noat "Book" "rules") rfl), He.noat_ok (c.fact 36 (f := .noat "Stand" "beats") rfl), He.noat_ok (c.fact 37 (f := .noat "Stand" "place") rfl), He.noat_ok (c.fact 38 (f := .noat "Stand" "out") rfl), He.noat_ok (c.fact 39 (f := .noat "Stand" "tally") rfl), He.noat_ok (c.fact 40 (f := .noat "Watch" "of_book") rfl), He.noat_ok (c.fact 41 (f := .noat "Watch" "stand") rfl), He.noat_ok (c.fact 42 (f := .noat "Watch" "past") rfl), He.noat_ok (c.fact 43 (f := .noat "Track" "states") rfl), He.noat_ok (c.fact 44 (f := .noat "Track" "deeds") rfl), He.noat_ok (c.fact 45 (f := .noat "Track" "begin") rfl), He.noat_ok (c.fact 46 (f := .noat "Track" "length") rfl), He.glo_ok X G (c.fact 47 (f := .glo "HushError") rfl), He.glo_ok X G (c.fact 48 (f := .glo "NoState") rfl), He.glo_ok X G (c.fact 49 (f := .glo "NoOff") rfl), excKB_ok e4, excKB_ok e5, e6, e7, e8, e9, e10, e11⟩
  have e := hfa.symm.trans (He.glo_ok X G (c.fact 106 (f := .glo "law") rfl))
  cases e
  have b := FunD.bindsA (ps := ["_law_script"]) F_law fun _ _ _ _ _ _ us hl => match us, hl with | [_], _ => rfl
  refine ⟨fd_law, fun s v => b s [v] rfl, fun base _ _ => ?_⟩
  have o__law_bag := ok__law_bag (P := P) (w := w) (base := base) GG  F__law_bag
  have h__law_bag : CallF (tab P w K) P w K mg base 1 "_law_bag" f__law_bag := callF_mk F__law_bag (He.glo_ok X G (c.fact 50 (f := .glo "_law_bag") rfl)) o__law_bag (fnW_takes _ _ _) (F__law_bag.bindsN (ps := ["_law_script", "_law_at"]) (fun _ _ _ _ _ _ us hl => match us, hl with | [_, _], _ => rfl))
  have o__law_take := ok__law_take (P := P) (w := w) (base := base) GG  F__law_take
  have h__law_take : CallF (tab P w K) P w K mg base 1 "_law_take" f__law_take := callF_mk F__law_take (He.glo_ok X G (c.fact 51 (f := .glo "_law_take") rfl)) o__law_take (fnW_takes _ _ _) (F__law_take.bindsN (ps := ["_law_bag_here", "_law_many"]) (fun _ _ _ _ _ _ us hl => match us, hl with | [_, _], _ => rfl))
  have o__law_wheels := ok__law_wheels (P := P) (w := w) (base := base) GG h__law_take F__law_wheels
  have h__law_wheels : CallF (tab P w K) P w K mg base 2 "_law_wheels" f__law_wheels := callF_mk F__law_wheels (He.glo_ok X G (c.fact 52 (f := .glo "_law_wheels") rfl)) o__law_wheels (fnW_takes _ _ _) (F__law_wheels.bindsN (ps := ["_law_bag_here"]) (fun _ _ _ _ _ _ us hl => match us, hl with | [_], _ => rfl))
  have o__law_condition := ok__law_condition (P := P) (w := w) (base := base) GG h__law_take F__law_condition
  have h__law_condition : CallF (tab P w K) P w K mg base 2 "_law_condition" f__law_condition := callF_mk F__law_condition (He.glo_ok X G (c.fact 53 (f := .glo "_law_condition") rfl)) o__law_condition (fnW_takes _ _ _) (F__law_condition.bindsN (ps := ["_law_bag_here", "_law_wheels_here", "_law_many"]) (fun _ _ _ _ _ _ us hl => match us, hl with | [_, _, _], _ => rfl))
  have o__law_change := ok__law_change (P := P) (w := w) (base := base) GG h__law_take F__law_change
  have h__law_change : CallF (tab P w K) P w K mg base 2 "_law_change" f__law_change := callF_mk F__law_change (He.glo_ok X G (c.fact 54 (f := .glo "_law_change") rfl)) o__law_change (fnW_takes _ _ _) (F__law_change.bindsN (ps := ["_law_bag_here", "_law_wheels_here"]) (fun _ _ _ _ _ _ us hl => match us, hl with | [_, _], _ => rfl))
  have o__law_rule := ok__law_rule (P := P) (w := w) (base := base) GG h__law_take h__law_condition h__law_change F__law_rule
  have h__law_rule : CallF (tab P w K) P w K mg base 3 "_law_rule" f__law_rule := callF_mk F__law_rule (He.glo_ok X G (c.fact 55 (f := .glo "_law_rule") rfl)) o__law_rule (fnW_takes _ _ _) (F__law_rule.bindsN (ps := ["_law_bag_here", "_law_wheels_here", "_law_many"]) (fun _ _ _ _ _ _ us hl => match us, hl with | [_, _, _], _ => rfl))
  have o__law_rules := ok__law_rules (P := P) (w := w) (base := base) GG h__law_rule F__law_rules
  have h__law_rules : CallF (tab P w K) P w K mg base 4 "_law_rules" f__law_rules := callF_mk F__law_rules (He.glo_ok X G (c.fact 56 (f := .glo "_law_rules") rfl)) o__law_rules (fnW_takes _ _ _) (F__law_rules.bindsN (ps := ["_law_bag_here", "_law_wheels_here", "_law_many"]) (fun _ _ _ _ _ _ us hl => match us, hl with | [_, _, _], _ => rfl))
  have o__law_drawn := ok__law_drawn (P := P) (w := w) (base := base) GG h__law_wheels h__law_rules h__law_take F__law_drawn
  have h__law_drawn : CallF (tab P w K) P w K mg base 5 "_law_drawn" f__law_drawn := callF_mk F__law_drawn (He.glo_ok X G (c.fact 57 (f := .glo "_law_drawn") rfl)) o__law_drawn (fnW_takes _ _ _) (F__law_drawn.bindsN (ps := ["_law_bag_here"]) (fun _ _ _ _ _ _ us hl => match us, hl with | [_], _ => rfl))
  have o__law_state := ok__law_state (P := P) (w := w) (base := base) GG h__law_take F__law_state
  have h__law_state : CallF (tab P w K) P w K mg base 2 "_law_state" f__law_state := callF_mk F__law_state (He.glo_ok X G (c.fact 58 (f := .glo "_law_state") rfl)) o__law_state (fnW_takes _ _ _) (F__law_state.bindsN (ps := ["_law_bag_here", "_law_wheels_here", "_law_many"]) (fun _ _ _ _ _ _ us hl => match us, hl with | [_, _, _], _ => rfl))
  have o__law_any := ok__law_any (P := P) (w := w) (base := base) GG h__law_take F__law_any
  have h__law_any : CallF (tab P w K) P w K mg base 2 "_law_any" f__law_any := callF_mk F__law_any (He.glo_ok X G (c.fact 59 (f := .glo "_law_any") rfl)) o__law_any (fnW_takes _ _ _) (F__law_any.bindsN (ps := ["_law_bag_here"]) (fun _ _ _ _ _ _ us hl => match us, hl with | [_], _ => rfl))
  have o__law_spoilt := ok__law_spoilt (P := P) (w := w) (base := base) GG h__law_take h__law_any (fun k psi o t => callF_mk F__law_spoilt (He.glo_ok X G (c.fact 60 (f := .glo "_law_spoilt") rfl)) o t (F__law_spoilt.bindsN (ps := ["_law_bag_here", "_law_thing"]) (fun _ _ _ _ _ _ us hl => match us, hl with | [_, _], _ => rfl))) F__law_spoilt
  have h__law_spoilt : CallF (tab P w K) P w K mg base 8 "_law_spoilt" f__law_spoilt := callF_mk F__law_spoilt (He.glo_ok X G (c.fact 60 (f := .glo "_law_spoilt") rfl)) o__law_spoilt (tk__law_spoilt _) (F__law_spoilt.bindsN (ps := ["_law_bag_here", "_law_thing"]) (fun _ _ _ _ _ _ us hl => match us, hl with | [_, _], _ => rfl))
  have h_err_NoBook : ErrF P w K mg base "NoBook" (He.ga K "NoBook") "at" := errF_mk PySem.GX.base_Value GG.t_0 GG.t_1 (He.glo_ok X G (c.fact 61 (f := .glo "NoBook") rfl)) (ok_NoBook___init__ (P := P) (w := w) (base := base) GG F_NoBook___init__) (F_NoBook___init__.bindsN (ps := ["self", "at"]) (fun _ _ _ _ _ _ us hl => match us, hl with | [_, _], _ => rfl))
  have o_is_row := ok_is_row (P := P) (w := w) (base := base) GG  F_is_row
  have h_is_row : CallF (tab P w K) P w K mg base 1 "is_row" f_is_row := callF_mk F_is_row (He.glo_ok X G (c.fact 62 (f := .glo "is_row") rfl)) o_is_row (fnW_takes _ _ _) (F_is_row.bindsN (ps := ["thing", "most"]) (fun _ _ _ _ _ _ us hl => match us, hl with | [_, _], _ => rfl))
  have o_how_many := ok_how_many (P := P) (w := w) (base := base) GG  F_how_many
  have h_how_many : CallF (tab P w K) P w K mg base 1 "how_many" f_how_many := callF_mk F_how_many (He.glo_ok X G (c.fact 63 (f := .glo "how_many") rfl)) o_how_many (fnW_takes _ _ _) (F_how_many.bindsN (ps := ["wheels"]) (fun _ _ _ _ _ _ us hl => match us, hl with | [_], _ => rfl))
  have o_is_whole := ok_is_whole (P := P) (w := w) (base := base) GG  F_is_whole
  have h_is_whole : CallF (tab P w K) P w K mg base 1 "is_whole" f_is_whole := callF_mk F_is_whole (He.glo_ok X G (c.fact 64 (f := .glo "is_whole") rfl)) o_is_whole (fnW_takes _ _ _) (F_is_whole.bindsN (ps := ["thing"]) (fun _ _ _ _ _ _ us hl => match us, hl with | [_], _ => rfl))
  have o_is_from := ok_is_from (P := P) (w := w) (base := base) GG h_is_whole F_is_from
  have h_is_from : CallF (tab P w K) P w K mg base 2 "is_from" f_is_from := callF_mk F_is_from (He.glo_ok X G (c.fact 65 (f := .glo "is_from") rfl)) o_is_from (fnW_takes _ _ _) (F_is_from.bindsN (ps := ["thing", "least", "below"]) (fun _ _ _ _ _ _ us hl => match us, hl with | [_, _, _], _ => rfl))
  have o_are_wheels := ok_are_wheels (P := P) (w := w) (base := base) GG h_is_row h_how_many h_is_from F_are_wheels
  have h_are_wheels : CallF (tab P w K) P w K mg base 3 "are_wheels" f_are_wheels := callF_mk F_are_wheels (He.glo_ok X G (c.fact 66 (f := .glo "are_wheels") rfl)) o_are_wheels (fnW_takes _ _ _) (F_are_wheels.bindsN (ps := ["thing"]) (fun _ _ _ _ _ _ us hl => match us, hl with | [_], _ => rfl))
  have o_are_rising := ok_are_rising (P := P) (w := w) (base := base) GG  F_are_rising
  have h_are_rising : CallF (tab P w K) P w K mg base 1 "are_rising" f_are_rising := callF_mk F_are_rising (He.glo_ok X G (c.fact 67 (f := .glo "are_rising") rfl)) o_are_rising (fnW_takes _ _ _) (F_are_rising.bindsN (ps := ["numbers"]) (fun _ _ _ _ _ _ us hl => match us, hl with | [_], _ => rfl))
  have o_is_hush := ok_is_hush (P := P) (w := w) (base := base) GG h_is_from F_is_hush
  have h_is_hush : CallF (tab P w K) P w K mg base 3 "is_hush" f_is_hush := callF_mk F_is_hush (He.glo_ok X G (c.fact 68 (f := .glo "is_hush") rfl)) o_is_hush (fnW_takes _ _ _) (F_is_hush.bindsN (ps := ["many", "thing"]) (fun _ _ _ _ _ _ us hl => match us, hl with | [_, _], _ => rfl))
  have o_are_hushes := ok_are_hushes (P := P) (w := w) (base := base) GG h_is_hush h_are_rising F_are_hushes
  have h_are_hushes : CallF (tab P w K) P w K mg base 4 "are_hushes" f_are_hushes := callF_mk F_are_hushes (He.glo_ok X G (c.fact 69 (f := .glo "are_hushes") rfl)) o_are_hushes (fnW_takes _ _ _) (F_are_hushes.bindsN (ps := ["many", "thing"]) (fun _ _ _ _ _ _ us hl => match us, hl with | [_, _], _ => rfl))
  have o_are_rules_numbers := ok_are_rules_numbers (P := P) (w := w) (base := base) GG h_are_rising h_is_from F_are_rules_numbers
  have h_are_rules_numbers : CallF (tab P w K) P w K mg base 3 "are_rules_numbers" f_are_rules_numbers := callF_mk F_are_rules_numbers (He.glo_ok X G (c.fact 70 (f := .glo "are_rules_numbers") rfl)) o_are_rules_numbers (fnW_takes _ _ _) (F_are_rules_numbers.bindsN (ps := ["thing", "many"]) (fun _ _ _ _ _ _ us hl => match us, hl with | [_, _], _ => rfl))
  have o_is_worded := ok_is_worded (P := P) (w := w) (base := base) GG  F_is_worded
  have h_is_worded : CallF (tab P w K) P w K mg base 1 "is_worded" f_is_worded := callF_mk F_is_worded (He.glo_ok X G (c.fact 71 (f := .glo "is_worded") rfl)) o_is_worded (fnW_takes _ _ _) (F_is_worded.bindsN (ps := ["thing", "words", "many"]) (fun _ _ _ _ _ _ us hl => match us, hl with | [_, _, _], _ => rfl))
  have o_is_placed := ok_is_placed (P := P) (w := w) (base := base) GG h_is_worded h_is_from F_is_placed
  have h_is_placed : CallF (tab P w K) P w K mg base 3 "is_placed" f_is_placed := callF_mk F_is_placed (He.glo_ok X G (c.fact 72 (f := .glo "is_placed") rfl)) o_is_placed (fnW_takes _ _ _) (F_is_placed.bindsN (ps := ["wheels", "thing", "words"]) (fun _ _ _ _ _ _ us hl => match us, hl with | [_, _, _], _ => rfl))
  have o_is_condition := ok_is_condition (P := P) (w := w) (base := base) GG h_is_worded h_is_from h_is_placed F_is_condition
  have h_is_condition : CallF (tab P w K) P w K mg base 4 "is_condition" f_is_condition := callF_mk F_is_condition (He.glo_ok X G (c.fact 73 (f := .glo "is_condition") rfl)) o_is_condition (fnW_takes _ _ _) (F_is_condition.bindsN (ps := ["wheels", "many", "thing"]) (fun _ _ _ _ _ _ us hl => match us, hl with | [_, _, _], _ => rfl))
  have o_is_rule := ok_is_rule (P := P) (w := w) (base := base) GG h_is_condition h_is_row h_is_placed h_are_rules_numbers h_are_hushes F_is_rule
  have h_is_rule : CallF (tab P w K) P w K mg base 5 "is_rule" f_is_rule := callF_mk F_is_rule (He.glo_ok X G (c.fact 74 (f := .glo "is_rule") rfl)) o_is_rule (fnW_takes _ _ _) (F_is_rule.bindsN (ps := ["wheels", "many", "thing"]) (fun _ _ _ _ _ _ us hl => match us, hl with | [_, _, _], _ => rfl))
  have o_look_book := ok_look_book (P := P) (w := w) (base := base) GG h_is_row h_are_wheels h_err_NoBook h_is_rule F_look_book
  have h_look_book : CallF (tab P w K) P w K mg base 6 "look_book" f_look_book := callF_mk F_look_book (He.glo_ok X G (c.fact 75 (f := .glo "look_book") rfl)) o_look_book (fnW_takes _ _ _) (F_look_book.bindsN (ps := ["wheels", "rules"]) (fun _ _ _ _ _ _ us hl => match us, hl with | [_, _], _ => rfl))
  have o_Book___init__ := ok_Book___init__ (P := P) (w := w) (base := base) GG h_look_book F_Book___init__
  have h_new_Book : MakeF (tab P w K) P w K mg base 7 "Book" 0 f_Book___init__ := makeF_mk (He.glo_ok X G (c.fact 76 (f := .glo "Book") rfl)) (He.mkr_ok (c.fact 77 (f := .mkr "Book") rfl)) o_Book___init__ (fnW_takes _ _ _) (binds_full (pn := ["self", "wheels", "rules"]) F_Book___init__ 3 (by simp [He.DefD.dvs, d_Book___init__]) rfl (fun _ _ _ _ _ _ _ us its hl hi => match us, hl, its, hi with | [_, _, _], _, [_], _ => ⟨_, rfl, rfl⟩))
  have o_are_values := ok_are_values (P := P) (w := w) (base := base) GG h_is_from F_are_values
  have h_are_values : CallF (tab P w K) P w K mg base 3 "are_values" f_are_values := callF_mk F_are_values (He.glo_ok X G (c.fact 78 (f := .glo "are_values") rfl)) o_are_values (fnW_takes _ _ _) (F_are_values.bindsN (ps := ["book", "thing"]) (fun _ _ _ _ _ _ us hl => match us, hl with | [_, _], _ => rfl))
  have o_begun := ok_begun (P := P) (w := w) (base := base) GG h_are_values F_begun
  have h_begun : CallF (tab P w K) P w K mg base 4 "begun" f_begun := callF_mk F_begun (He.glo_ok X G (c.fact 79 (f := .glo "begun") rfl)) o_begun (fnW_takes _ _ _) (F_begun.bindsN (ps := ["book", "values"]) (fun _ _ _ _ _ _ us hl => match us, hl with | [_, _], _ => rfl))
  have o_look_off := ok_look_off (P := P) (w := w) (base := base) GG h_are_rules_numbers F_look_off
  have h_look_off : CallF (tab P w K) P w K mg base 4 "look_off" f_look_off := callF_mk F_look_off (He.glo_ok X G (c.fact 80 (f := .glo "look_off") rfl)) o_look_off (fnW_takes _ _ _) (F_look_off.bindsN (ps := ["book", "off"]) (fun _ _ _ _ _ _ us hl => match us, hl with | [_, _], _ => rfl))
  have o_Stand___init__ := ok_Stand___init__ (P := P) (w := w) (base := base) GG  F_Stand___init__
  have h_new_Stand : MakeF (tab P w K) P w K mg base 1 "Stand" 19 f_Stand___init__ := makeF_mk (He.glo_ok X G (c.fact 81 (f := .glo "Stand") rfl)) (He.mkr_ok (c.fact 82 (f := .mkr "Stand") rfl)) o_Stand___init__ (fnW_takes _ _ _) (F_Stand___init__.bindsN (ps := ["self", "beats", "place", "out", "tally"]) (fun _ _ _ _ _ _ us hl => match us, hl with | [_, _, _, _, _], _ => rfl))
  have o_Book___len__ := ok_Book___len__ (P := P) (w := w) (base := base) GG  F_Book___len__
  have h_m_Book___len__ : MethF (tab P w K) P w K mg base 1 0 "__len__" f_Book___len__ := methF_mk (He.cls_ok (c.fact 30 (f := .cls "Book") rfl)) (He.meth_ok (c.fact 83 (f := .meth "Book" "__len__") rfl)) (by show _ ∉ flds; decide +kernel) o_Book___len__ (fnW_takes _ _ _) (F_Book___len__.bindsN (ps := ["self"]) (fun _ _ _ _ _ _ us hl => match us, hl with | [_], _ => rfl))
  have o_Watch___init__ := ok_Watch___init__ (P := P) (w := w) (base := base) GG h_begun h_look_off h_new_Stand h_m_Book___len__ F_Watch___init__
  have F3_Watch___init__ : FunD K "__init__" "Watch.__init__" (defArgs s_Watch___init__) (defBody s_Watch___init__) (defScope s_Watch___init__) [] [("off", .ref ((DL.kwdAt ("Watch", some "__init__") "off") K))] (He.fAd K ("Watch", some "__init__")) fd_Watch___init__ := F_Watch___init__
  obtain ⟨ds_new_Watch_2, dv_new_Watch_2, db_new_Watch_2⟩ := FunD.binds0 (ps := ["self", "book", "values", "off"]) F3_Watch___init__ 3 (by simp) rfl (fun _ _ _ _ _ _ us ks h1 h2 => match us, h1, ks, h2 with | [_, _, _], _, [_], _ => ⟨_, _, _, _, _, _, rfl, rfl, rfl⟩)
  have h_new_Watch_2 : MakeF (tab P w K) P w K mg base 5 "Watch" 2 c_new_Watch_2 := makeF_dfl (He.glo_ok X G (c.fact 84 (f := .glo "Watch") rfl)) (He.mkr_ok (c.fact 85 (f := .mkr "Watch") rfl)) o_Watch___init__ (fnW_takes _ _ _) dv_new_Watch_2 db_new_Watch_2 (fun F al => .cons (tupE_rw e3 F al) (.nil))
  have h_err_NoBeat : ErrF P w K mg base "NoBeat" (He.ga K "NoBeat") "beats" := errF_mk PySem.GX.base_Overflow GG.t_4 GG.t_5 (He.glo_ok X G (c.fact 86 (f := .glo "NoBeat") rfl)) (ok_NoBeat___init__ (P := P) (w := w) (base := base) GG F_NoBeat___init__) (F_NoBeat___init__.bindsN (ps := ["self", "beats"]) (fun _ _ _ _ _ _ us hl => match us, hl with | [_, _], _ => rfl))
  have o_look_beats := ok_look_beats (P := P) (w := w) (base := base) GG h_is_whole h_err_NoBeat F_look_beats
  have h_look_beats : CallF (tab P w K) P w K mg base 3 "look_beats" f_look_beats := callF_mk F_look_beats (He.glo_ok X G (c.fact 87 (f := .glo "look_beats") rfl)) o_look_beats (fnW_takes _ _ _) (F_look_beats.bindsN (ps := ["beats"]) (fun _ _ _ _ _ _ us hl => match us, hl with | [_], _ => rfl))
  have o_own_order := ok_own_order (P := P) (w := w) (base := base) GG  F_own_order
  have h_own_order : CallF (tab P w K) P w K mg base 1 "own_order" f_own_order := callF_mk F_own_order (He.glo_ok X G (c.fact 88 (f := .glo "own_order") rfl)) o_own_order (fnW_takes _ _ _) (F_own_order.bindsN (ps := ["book"]) (fun _ _ _ _ _ _ us hl => match us, hl with | [_], _ => rfl))
  have o_ended := ok_ended (P := P) (w := w) (base := base) GG  F_ended
  have h_ended : CallF (tab P w K) P w K mg base 1 "ended" f_ended := callF_mk F_ended (He.glo_ok X G (c.fact 89 (f := .glo "ended") rfl)) o_ended (fnW_takes _ _ _) (F_ended.bindsN (ps := ["state"]) (fun _ _ _ _ _ _ us hl => match us, hl with | [_], _ => rfl))
  have o_is_so := ok_is_so (P := P) (w := w) (base := base) GG  F_is_so
  have h_is_so : CallF (tab P w K) P w K mg base 1 "is_so" f_is_so := callF_mk F_is_so (He.glo_ok X G (c.fact 90 (f := .glo "is_so") rfl)) o_is_so (fnW_takes _ _ _) (F_is_so.bindsN (ps := ["condition", "values", "hushes"]) (fun _ _ _ _ _ _ us hl => match us, hl with | [_, _, _], _ => rfl))
  have o_would_do := ok_would_do (P := P) (w := w) (base := base) GG h_is_so F_would_do
  have h_would_do : CallF (tab P w K) P w K mg base 2 "would_do" f_would_do := callF_mk F_would_do (He.glo_ok X G (c.fact 91 (f := .glo "would_do") rfl)) o_would_do (fnW_takes _ _ _) (F_would_do.bindsN (ps := ["book", "rule", "values", "hushes"]) (fun _ _ _ _ _ _ us hl => match us, hl with | [_, _, _, _], _ => rfl))
  have o_change := ok_change (P := P) (w := w) (base := base) GG  F_change
  have h_change : CallF (tab P w K) P w K mg base 1 "change" f_change := callF_mk F_change (He.glo_ok X G (c.fact 92 (f := .glo "change") rfl)) o_change (fnW_takes _ _ _) (F_change.bindsN (ps := ["book", "rule", "values"]) (fun _ _ _ _ _ _ us hl => match us, hl with | [_, _, _], _ => rfl))
  have o_hush_and_wake := ok_hush_and_wake (P := P) (w := w) (base := base) GG  F_hush_and_wake
  have h_hush_and_wake : CallF (tab P w K) P w K mg base 1 "hush_and_wake" f_hush_and_wake := callF_mk F_hush_and_wake (He.glo_ok X G (c.fact 93 (f := .glo "hush_and_wake") rfl)) o_hush_and_wake (fnW_takes _ _ _) (F_hush_and_wake.bindsN (ps := ["book", "rule", "hushes"]) (fun _ _ _ _ _ _ us hl => match us, hl with | [_, _, _], _ => rfl))
  have o_beat_of := ok_beat_of (P := P) (w := w) (base := base) GG h_would_do h_change h_hush_and_wake h_ended F_beat_of
  have h_beat_of : CallF (tab P w K) P w K mg base 3 "beat_of" f_beat_of := callF_mk F_beat_of (He.glo_ok X G (c.fact 94 (f := .glo "beat_of") rfl)) o_beat_of (fnW_takes _ _ _) (F_beat_of.bindsN (ps := ["book", "state", "order", "off"]) (fun _ _ _ _ _ _ us hl => match us, hl with | [_, _, _, _], _ => rfl))
  have o_Track___init__ := ok_Track___init__ (P := P) (w := w) (base := base) GG h_own_order h_beat_of F_Track___init__
  have h_new_Track : MakeF (tab P w K) P w K mg base 4 "Track" 1 f_Track___init__ := makeF_mk (He.glo_ok X G (c.fact 95 (f := .glo "Track") rfl)) (He.mkr_ok (c.fact 96 (f := .mkr "Track") rfl)) o_Track___init__ (fnW_takes _ _ _) (F_Track___init__.bindsN (ps := ["self", "book", "state", "off"]) (fun _ _ _ _ _ _ us hl => match us, hl with | [_, _, _, _], _ => rfl))
  have o_Watch_done := ok_Watch_done (P := P) (w := w) (base := base) GG  F_Watch_done
  have h_m_Watch_done : MethF (tab P w K) P w K mg base 1 2 "done" f_Watch_done := methF_mk (He.cls_ok (c.fact 31 (f := .cls "Watch") rfl)) (He.meth_ok (c.fact 97 (f := .meth "Watch" "done") rfl)) (by show _ ∉ flds; decide +kernel) o_Watch_done (fnW_takes _ _ _) (F_Watch_done.bindsN (ps := ["self", "stand"]) (fun _ _ _ _ _ _ us hl => match us, hl with | [_, _], _ => rfl))
  have o_Track_turns := ok_Track_turns (P := P) (w := w) (base := base) GG  F_Track_turns
  have h_m_Track_turns : MethF (tab P w K) P w K mg base 1 1 "turns" f_Track_turns := methF_mk (He.cls_ok (c.fact 33 (f := .cls "Track") rfl)) (He.meth_ok (c.fact 98 (f := .meth "Track" "turns") rfl)) (by show _ ∉ flds; decide +kernel) o_Track_turns (fnW_takes _ _ _) (F_Track_turns.bindsN (ps := ["self", "rule"]) (fun _ _ _ _ _ _ us hl => match us, hl with | [_, _], _ => rfl))
  have o_Track_often := ok_Track_often (P := P) (w := w) (base := base) GG h_m_Track_turns F_Track_often
  have h_m_Track_often : MethF (tab P w K) P w K mg base 2 1 "often" f_Track_often := methF_mk (He.cls_ok (c.fact 33 (f := .cls "Track") rfl)) (He.meth_ok (c.fact 99 (f := .meth "Track" "often") rfl)) (by show _ ∉ flds; decide +kernel) o_Track_often (fnW_takes _ _ _) (F_Track_often.bindsN (ps := ["self", "rule", "beats"]) (fun _ _ _ _ _ _ us hl => match us, hl with | [_, _, _], _ => rfl))
  have o_Track_spot := ok_Track_spot (P := P) (w := w) (base := base) GG  F_Track_spot
  have h_m_Track_spot : MethF (tab P w K) P w K mg base 1 1 "spot" f_Track_spot := methF_mk (He.cls_ok (c.fact 33 (f := .cls "Track") rfl)) (He.meth_ok (c.fact 100 (f := .meth "Track" "spot") rfl)) (by show _ ∉ flds; decide +kernel) o_Track_spot (fnW_takes _ _ _) (F_Track_spot.bindsN (ps := ["self", "beats"]) (fun _ _ _ _ _ _ us hl => match us, hl with | [_, _], _ => rfl))
  have o_Watch_go := ok_Watch_go (P := P) (w := w) (base := base) GG h_look_beats h_new_Track h_m_Book___len__ h_m_Track_often h_m_Watch_done h_new_Stand h_m_Track_spot F_Watch_go
  have h_m_Watch_go : MethF (tab P w K) P w K mg base 6 2 "go" f_Watch_go := methF_mk (He.cls_ok (c.fact 31 (f := .cls "Watch") rfl)) (He.meth_ok (c.fact 101 (f := .meth "Watch" "go") rfl)) (by show _ ∉ flds; decide +kernel) o_Watch_go (fnW_takes _ _ _) (binds_full (pn := ["self", "beats"]) F_Watch_go 2 (by simp [He.DefD.dvs, d_Watch_go]) rfl (fun _ _ _ _ _ _ _ us its hl hi => match us, hl, its, hi with | [_, _], _, [_], _ => ⟨_, rfl, rfl⟩))
  have o_is_state := ok_is_state (P := P) (w := w) (base := base) GG h_are_values h_is_from F_is_state
  have h_is_state : CallF (tab P w K) P w K mg base 4 "is_state" f_is_state := callF_mk F_is_state (He.glo_ok X G (c.fact 102 (f := .glo "is_state") rfl)) o_is_state (fnW_takes _ _ _) (F_is_state.bindsN (ps := ["book", "thing"]) (fun _ _ _ _ _ _ us hl => match us, hl with | [_, _], _ => rfl))
  have o__law_whole := ok__law_whole (P := P) (w := w) (base := base) GG  F__law_whole
  have h__law_whole : CallF (tab P w K) P w K mg base 1 "_law_whole" f__law_whole := callF_mk F__law_whole (He.glo_ok X G (c.fact 103 (f := .glo "_law_whole") rfl)) o__law_whole (fnW_takes _ _ _) (F__law_whole.bindsN (ps := ["_law_thing", "_law_low", "_law_below"]) (fun _ _ _ _ _ _ us hl => match us, hl with | [_, _, _], _ => rfl))
  have o__law_are := ok__law_are (P := P) (w := w) (base := base) GG h__law_whole F__law_are
  have h__law_are : CallF (tab P w K) P w K mg base 2 "_law_are" f__law_are := callF_mk F__law_are (He.glo_ok X G (c.fact 104 (f := .glo "_law_are") rfl)) o__law_are (fnW_takes _ _ _) (F__law_are.bindsN (ps := ["_law_thing", "_law_sizes"]) (fun _ _ _ _ _ _ us hl => match us, hl with | [_, _], _ => rfl))
  have o__law_due := ok__law_due (P := P) (w := w) (base := base) GG h__law_are F__law_due
  have h__law_due : CallF (tab P w K) P w K mg base 3 "_law_due" f__law_due := callF_mk F__law_due (He.glo_ok X G (c.fact 105 (f := .glo "_law_due") rfl)) o__law_due (fnW_takes _ _ _) (F__law_due.bindsN (ps := ["_law_wheels_here", "_law_many", "_law_thing"]) (fun _ _ _ _ _ _ us hl => match us, hl with | [_, _, _], _ => rfl))
  have o_law := ok_law (P := P) (w := w) (base := base) GG h__law_bag h__law_drawn h_new_Book h__law_state h__law_spoilt h__law_any h_new_Watch_2 h_m_Watch_go h_is_state h__law_due F_law
  exact law_end o_law hp
def loose0 : List Str := ["_wall", "__name__", "HushError", "NoBook", "NoState", "NoOff", "NoRule", "NoWheel", "NoPlace", "NoBeat", "NOTHING", "part_text", "words_of", "rule_text", "book_text", "numbers_text", "state_text", "MOST_WHEELS", "LEAST_PLACES", "MOST_PLACES", "MOST_BEGINNINGS", "MOST_RULES", "MOST_CONDITIONS", "MOST_CHANGES", "MOST_HUSHED", "PARTS", "PLACED", "RULED", "CHANGES", "is_whole"]
def loose1 : List Str := ["is_from", "is_row", "are_rising", "how_many", "are_wheels", "is_worded", "is_placed", "is_condition", "are_rules_numbers", "is_hush", "are_hushes", "is_rule", "look_book", "Book", "are_values", "is_state", "begun", "look_rule", "look_off", "own_order", "is_so", "would_do", "change", "hush_and_wake", "ended", "beat_of", "MOST_BEATS", "Track", "look_beats", "MOST_BY_HAND"]
def loose2 : List Str := ["look_wheel", "with_part", "Stand", "Watch", "_law_bag", "_law_take", "_law_wheels", "_law_condition", "_law_change", "_law_rule", "_law_rules", "_law_drawn", "_law_state", "_law_any", "_law_spoilt", "_law_whole", "_law_are", "_law_due"]
def loose : List Str := loose0 ++ loose1 ++ loose2
def ads : List Addr := [2, 3, 6, 4, 21, 31, 51, 63, 75, 94, 114, 134, 154, 164, 169, 174, 179, 184, 191, 192, 193, 194, 201, 208, 215, 220, 227, 232, 239, 246, 253, 258, 265, 270, 275, 282, 329, 338, 343, 350, 357, 364, 371, 378, 383, 390, 397, 402, 409, 464, 475, 482, 489, 541, 684, 695, 702, 709, 716, 723, 728, 733, 740, 745, 752, 759, 766, 771, 778, 783, 0, 20, 30, 50, 62, 74, 93, 113, 133, 153, 163, 168, 173, 178, 183, 190, 200, 207, 214, 219, 226, 231, 238, 245, 252, 257, 264, 269, 274, 281, 328, 337, 342, 349, 356, 363, 370, 377, 382, 389, 396, 401, 408, 463, 474, 481, 488, 540, 683, 694, 701, 708, 715, 722, 727, 732, 739, 744, 751, 758, 765, 770, 777, 782, 15, 16, 17, 18, 19, 29, 32, 48, 49, 61, 73, 91, 92, 95, 111, 112, 115, 131, 132, 135, 151, 152, 155, 158, 159, 160, 161, 162, 165, 166, 167, 170, 171, 172, 175, 176, 177, 180, 181, 182, 185, 186, 187, 188, 189, 195, 196, 197, 198, 199, 202, 203, 204, 205, 206, 209, 210, 211, 212, 213, 216, 217, 218, 221, 222, 223, 224, 225, 228, 229, 230, 233, 234, 235, 236, 237, 240, 241, 242, 243, 244, 247, 248, 249, 250, 251, 254, 255, 256, 259, 260, 261, 262, 263, 266, 267, 268, 271, 272, 273, 276, 277, 278, 279, 280, 298, 305, 312, 319, 326, 327, 330, 331, 334, 335, 336, 339, 340, 341, 344, 345, 346, 347, 348, 351, 352, 353, 354, 355, 358, 359, 360, 361, 362, 365, 366, 367, 368, 369, 372, 373, 374, 375, 376, 379, 380, 381, 384, 385, 386, 387, 388, 391, 392, 393, 394, 395, 398, 399, 400, 403, 404, 405, 406, 407, 423, 430, 437, 442, 449, 456, 461, 462, 465, 466, 469, 470, 471, 472, 473, 476, 477, 478, 479, 480, 483, 484, 485, 486, 487, 503, 510, 517, 524, 531, 538, 539, 542, 543, 561, 568, 575, 582, 589, 595, 603, 610, 618, 625, 632, 639, 646, 653, 660, 667, 674, 681, 682, 685, 686, 689, 690, 691, 692, 693, 696, 697, 698, 699, 700, 703, 704, 705, 706, 707, 710, 711, 712, 713, 714, 717, 718, 719, 720, 721, 724, 725, 726, 729, 730, 731, 734, 735, 736, 737, 738, 741, 742, 743, 746, 747, 748, 749, 750, 753, 754, 755, 756, 757, 760, 761, 762, 763, 764, 767, 768, 769, 772, 773, 774, 775, 776, 779, 780, 781, 47, 90, 110, 130, 150, 297, 291, 304, 311, 318, 325, 422, 429, 436, 441, 448, 455, 460, 502, 509, 516, 523, 530, 537, 560, 554, 567, 574, 581, 588, 594, 590, 602, 596, 609, 617, 611, 624, 631, 638, 645, 652, 659, 666, 673, 680, 42, 43, 44, 45, 46, 85, 86, 87, 88, 89, 105, 106, 107, 108, 109, 125, 126, 127, 128, 129, 145, 146, 147, 148, 149, 292, 293, 294, 295, 296, 290, 299, 300, 301, 302, 303, 306, 307, 308, 309, 310, 313, 314, 315, 316, 317, 320, 321, 322, 323, 324, 417, 418, 419, 420, 421, 424, 425, 426, 427, 428, 431, 432, 433, 434, 435, 438, 439, 440, 443, 444, 445, 446, 447, 450, 451, 452, 453, 454, 457, 458, 459, 497, 498, 499, 500, 501, 504, 505, 506, 507, 508, 511, 512, 513, 514, 515, 518, 519, 520, 521, 522, 525, 526, 527, 528, 529, 532, 533, 534, 535, 536, 555, 556, 557, 558, 559, 553, 562, 563, 564, 565, 566, 569, 570, 571, 572, 573, 576, 577, 578, 579, 580, 583, 584, 585, 586, 587, 591, 592, 593, 597, 598, 599, 600, 601, 604, 605, 606, 607, 608, 612, 613, 614, 615, 616, 619, 620, 621, 622, 623, 626, 627, 628, 629, 630, 633, 634, 635, 636, 637, 640, 641, 642, 643, 644, 647, 648, 649, 650, 651, 654, 655, 656, 657, 658, 661, 662, 663, 664, 665, 668, 669, 670, 671, 672, 675, 676, 677, 678, 679]
abbrev Ro : PySem.W.OpenRow := PySem.W.OpenLaw.row PySem.Challenge.rw_hushrules_k05_states_known
abbrev hk : PySem.W.Hook := hookL ads fa fn ex
def ob (s : PySem.W.SharedT) : He.AlD × Bool := obsL ads fa fn ex (HandSHeadRun.getT s)
theorem ob_eq (s : PySem.W.SharedT) : ob s = hk.obs s.abs := obsL_eq (HandSHeadRun.getT_eq s)
open PySem.W PySem.Calls PyProof.Rows HandSHeadRun in
theorem run_a (w : World) (os : OsState) : (endF (stepQ (denQ tabQ) Ro.prog w) 6000 Ro.prog w os).map (fun s => looksF Ro.prog (boot_heap w.params) s.abs) = some true := by kernel_rfl
open PySem.W PySem.Calls PyProof.Rows HandSHeadRun in
theorem run_b (w : World) (os : OsState) : (endF (stepQ (denQ tabQ) Ro.prog w) 6000 Ro.prog w os).map (fun s => seenQ (view Ro.prog [84]) loose (importedModules Ro.prog.main.body) (fun s => xlAt (view Ro.prog [84]) [] s && recOk Ro.toRowW.records s) s.abs) = some (openGood (view Ro.prog [84]) loose) := by kernel_rfl
open PySem.W PySem.Calls PyProof.Rows HandSHeadRun in
theorem run_c (w : World) (os : OsState) : (endF (stepQ (denQ tabQ) Ro.prog w) 6000 Ro.prog w os).map ob = some (hk.val w) := by kernel_rfl
theorem map3 {α β γ δ : Type} {R : Option α} {f : α → β} {g : α → γ} {h : α → δ} {a : β} {b : γ} {c : δ} (h1 : R.map f = some a) (h2 : R.map g = some b) (h3 : R.map h = some c) : R.map (fun s => (f s, g s, h s)) = some (a, b, c) := by
  cases R with
  | none => cases h1
  | some s =>
    have e1 : f s = a := Option.some.inj h1
    have e2 : g s = b := Option.some.inj h2
    have e3 : h s = c := Option.some.inj h3
    rw [← e1, ← e2, ← e3]; rfl
theorem run (w : World) : HandSHeadRun.RunEq Ro (PySem.W.view Ro.prog [84]) hk ob 6000 loose w := by
  intro os
  have a := run_a w os
  have b := run_b w os
  have c := run_c w os
  exact map3 a b c
end K05
open PySem PySem.W PySem.Calls PyProof.Rows in
theorem PySem.Challenge.held_hushrules_k05_states_known (hp : K05.Plain) : PySem.Challenge.rw_hushrules_k05_states_known.Holds := by
  w_on; o_law
  refine HandSHeadRun.head_any (r := OpenLaw.row PySem.Challenge.rw_hushrules_k05_states_known) (q := view (OpenLaw.row PySem.Challenge.rw_hushrules_k05_states_known).prog [84]) (H := K05.hk) (ob := K05.ob) (M := 6000) (loose := K05.loose) (d := HandSHeadRun.topDef (OpenLaw.row PySem.Challenge.rw_hushrules_k05_states_known).prog 84) (kwd := []) K05.ob_eq
    (by kernel_rfl) (fun s => by kernel_rfl) K05.run (by kernel_rfl) (by kernel_rfl) (by kernel_rfl) (by rfl) (by first | assumption | decide +kernel) (by decide +kernel) ⟨rfl, rfl, rfl, rfl, rfl, by decide +kernel⟩ ?hw ?hc
  case hw => w_witness2
  case hc =>
    refine DL.walk_end (l := PySem.Challenge.rw_hushrules_k05_states_known) (n := 63) (k := 9) (x := "_law_script") (CX := L2.CX (PySem.Challenge.rw_hushrules_k05_states_known).prog) rfl (by decide) (by kernel_rfl) ⟨rfl, by decide, by decide⟩ ?F (fun w => DL.noX)
    intro w mg fa h Y G hmg0
    obtain ⟨K, KX, c, hex⟩ := Y
    have hmg : mg ("law" : PySem.Str) = some (.ref fa) := by
      have e : (HandSHeadRun.topDef (OpenLaw.row PySem.Challenge.rw_hushrules_k05_states_known).prog 84).name = ("law" : PySem.Str) := by kernel_rfl
      rw [← e]
      exact hmg0
    obtain ⟨fd, hb, hF⟩ := K05.facts hp (P := (PySem.Challenge.rw_hushrules_k05_states_known).prog) (w := w) KX G hmg c hex
    exact ⟨K, fd, DL.spLaw K, KX, hb, fun H a ns hl _ hS => ⟨a, ns, rfl, hS, hl, fun _ => rfl⟩, hF⟩
set_option Elab.async false
set_option linter.all false
set_option maxRecDepth 100000
set_option maxHeartbeats 4000000
/-! S0: the data functions' pieces, opened step by step. -/
namespace DL
open PySem
section
variable (ρ : Env) (S : Sto) (a b c l h : Me) (ms : Ml) (p q r : Mb) (s t u : Ms) (w : W) (x y z : W)
@[simp] theorem o_var (i : Nat) : mVar i ρ S = match ρ[i]? with
  | some (some w) => .ok w S
  | _ => .bad := (rfl)
@[simp] theorem o_con : mCon w ρ S = .ok w S := (rfl)
@[simp] theorem o_nil : mNil ρ S = .ok [] S := (rfl)
@[simp] theorem o_cons : mCons a ms ρ S = (a ρ S).bindL fun w S => (ms ρ S).bindL fun ws S => .ok (w :: ws) S := (rfl)
@[simp] theorem o_tup : mTup ms ρ S = (ms ρ S).bind fun ws S => if ws.length ≤ limit then .ok (.tup ws) S else .bad := (rfl)
@[simp] theorem o_lst : mLst ms ρ S = (ms ρ S).bind fun ws S => if ws.length ≤ limit then .ok (.lst ws) S else .bad := (rfl)
@[simp] theorem o_nlst : mNLst ms ρ S = (ms ρ S).bind fun ws S => if ws.length ≤ limit then .ok (.loc S.length) (S ++ [.lst ws]) else .bad := (rfl)
@[simp] theorem o_bin (o : Operator) : mBin o a b ρ S = (a ρ S).bind fun x S => (b ρ S).bind fun y S => optR S (binop o (deref S x) (deref S y)) := (rfl)
@[simp] theorem o_neg : mNeg a ρ S = (a ρ S).bind fun x S => optR S (negW x) := (rfl)
@[simp] theorem o_not : mNot a ρ S = (a ρ S).bind fun x S => optR S ((truthy (deref S x)).map fun k => .bl (!k)) := (rfl)
@[simp] theorem o_and : mAnd a b ρ S = (a ρ S).bind fun x S => match truthy (deref S x) with
  | some true => b ρ S
  | some false => .ok x S
  | none => .bad := (rfl)
@[simp] theorem o_or : mOr a b ρ S = (a ρ S).bind fun x S => match truthy (deref S x) with
  | some true => .ok x S
  | some false => b ρ S
  | none => .bad := (rfl)
@[simp] theorem o_cmp (o : CmpOp) : mCmp o a b ρ S = (a ρ S).bind fun x S => (b ρ S).bind fun y S => optR S ((cmpop o (deref S x) (deref S y)).map .bl) := (rfl)
@[simp] theorem o_chain (o o' : CmpOp) : mChain o o' a b c ρ S = (a ρ S).bind fun x S => (b ρ S).bind fun y S => match cmpop o (deref S x) (deref S y) with
  | some true => (c ρ S).bind fun z S => optR S ((cmpop o' (deref S y) (deref S z)).map .bl)
  | some false => .ok (.bl false) S
  | none => .bad := (rfl)
@[simp] theorem o_idx : mIdx a b ρ S = (a ρ S).bind fun x S => (b ρ S).bind fun y S => optR S (getIx (deref S x) y) := (rfl)
@[simp] theorem o_part : mPart a ρ S = (a ρ S).bind fun x S => match x with
  | .int i => .ok (.int i) S
  | _ => .bad := (rfl)
@[simp] theorem o_slc : mSlc a l h ρ S = (a ρ S).bind fun x S => (l ρ S).bind fun l S => match partW l with
  | none => .bad
  | some l => (h ρ S).bind fun h S => match partW h with
    | none => .bad
    | some u => optR S (getSl (deref S x) l u) := (rfl)
@[simp] theorem o_fld (k f : Nat) : mFld k f a ρ S = (a ρ S).bind fun x S => optR S (getFld S k f x) := (rfl)
@[simp] theorem o_prim (p : Prim) : mPrim p ms ρ S = (ms ρ S).bind fun ws S => optR S (DL.prim p (ws.map (deref S))) := (rfl)
@[simp] theorem o_nlist : mNlist a ρ S = (a ρ S).bind fun x S => match items (deref S x) with
  | some ws => .ok (.loc S.length) (S ++ [.lst ws])
  | none => .bad := (rfl)
@[simp] theorem o_isi (t : Ty) : mIsi t a ρ S = (a ρ S).bind fun x S => optR S ((isTy t (deref S x)).map .bl) := (rfl)
@[simp] theorem o_frz : mFrz a ρ S = (a ρ S).bind freezeR := (rfl)
@[simp] theorem o_app : mApp a b ρ S = (a ρ S).bind fun x S => if isCell S x then (b ρ S).bind fun y S => appR x y S else .bad := (rfl)
@[simp] theorem o_ifx : mIfx p a b ρ S = (p ρ S).bind fun k S => if k then a ρ S else b ρ S := (rfl)
@[simp] theorem o_yes : bYes ρ S = .ok true S := (rfl)
@[simp] theorem o_btest : bTest a ρ S = (a ρ S).bindB truthyR := (rfl)
@[simp] theorem o_truthyR : truthyR x S = optB S (truthy (deref S x)) := (rfl)
@[simp] theorem o_band : bAnd p q ρ S = (p ρ S).bindB fun k S => if k then q ρ S else .ok false S := (rfl)
@[simp] theorem o_bor : bOr p q ρ S = (p ρ S).bindB fun k S => if k then .ok true S else q ρ S := (rfl)
@[simp] theorem o_bnot : bNot p ρ S = (p ρ S).bindB fun k S => .ok (!k) S := (rfl)
@[simp] theorem o_bifx : bIfx p q r ρ S = (p ρ S).bindB fun k S => if k then q ρ S else r ρ S := (rfl)
@[simp] theorem o_call (ψ : Fn) : mCall ψ ms ρ S = (ms ρ S).bind ψ := (rfl)
@[simp] theorem o_callP (ψ : Fn) : mCallP ψ ms ρ S = (ms ρ S).bind fun ws S => if nlL (ws.map (derefF S)) then pureR (ψ (ws.map (derefF S)) []) S else .bad := (rfl)
@[simp] theorem o_callV (ψ : Fn) : mCallV ψ ms ρ S = (ms ρ S).bind fun ws S => if nlL (ws.map (deref S)) then pureV (ψ (ws.map (deref S)) []) S else .bad := (rfl)
@[simp] theorem o_callKP (ψ : List W → List W → Sto → Res) (n m : Nat) (ks : Ml) : mCallKP ψ n m ms ks ρ S = (ms ρ S).bind fun ws S => (ks ρ S).bind fun us S => if ws.length = n ∧ us.length = m ∧ nlL (ws.map (derefF S)) = true ∧ nlL (us.map (derefF S)) = true then pureR (ψ (ws.map (derefF S)) (us.map (derefF S)) []) S else .bad := (rfl)
@[simp] theorem o_make (k : Nat) (ψ : Fn) : mMake k ψ ms ρ S = (ms ρ S).bind fun ws S => if nlL (ws.map (derefF S)) then makeR k ψ (ws.map (derefF S)) S else .bad := (rfl)
@[simp] theorem o_makeZ (k : Nat) (ψ : Fn) : mMakeZ k ψ ms ρ S = (ms ρ S).bind fun ws S => if nlL (ws.map (derefF S)) then makeZR k ψ (ws.map (derefF S)) S else .bad := (rfl)
@[simp] theorem o_meth (k : Nat) (ψ : Fn) : mMeth k ψ a ms ρ S = (a ρ S).bind fun x S => if isIns k x && x.nl then (ms ρ S).bind fun ws S => if nlL (ws.map (derefF S)) then pureR (ψ (x :: ws.map (derefF S)) []) S else .bad else .bad := (rfl)
@[simp] theorem o_dnew : mDNew ρ S = .ok (.loc S.length) (S ++ [.dic []]) := (rfl)
@[simp] theorem o_mdin (n : Bool) : mDIn n a b ρ S = (a ρ S).bind fun x S => (b ρ S).bind fun y S => optR S ((dinR n x y S).map .bl) := (rfl)
@[simp] theorem o_bdin (n : Bool) : bDIn n a b ρ S = (a ρ S).bindB fun x S => (b ρ S).bindB fun y S => optB S (dinR n x y S) := (rfl)
@[simp] theorem o_dget : mDGet a b ρ S = (a ρ S).bind fun x S => (b ρ S).bind fun y S => optR S (dgetR x y S) := (rfl)
@[simp] theorem o_lc (mt : Bool) (vs : List Nat) (tg : Tg) (it : Ml) : mLc mt vs tg it p a ρ S = (it ρ S).bind fun xs S => if xs.length ≤ limit then
    (compM (lcStep ρ vs tg p a) xs [] S).bind fun ys S => if mt then newCellR (.lst ys) S else .ok (.lst ys) S
  else .bad := (rfl)
@[simp] theorem o_jE : jE a ρ S = (a ρ S).bindL fun x S => optL S (items x) := (rfl)
@[simp] theorem o_range1 : jRange1 a ρ S = (a ρ S).bindL fun x S => match x with
  | .int j => if -(2 ^ 62) ≤ j ∧ j < 2 ^ 62 then .ok (rangeW 0 j.toNat) S else .bad
  | _ => .bad := (rfl)
@[simp] theorem o_range2 : jRange2 a b ρ S = (a ρ S).bindL fun x S => (b ρ S).bindL fun y S => match x, y with
  | .int i, .int j => if (-(2 ^ 62) ≤ i ∧ i < 2 ^ 62) ∧ -(2 ^ 62) ≤ j ∧ j < 2 ^ 62 then .ok (rangeW i (j - i).toNat) S else .bad
  | _, _ => .bad := (rfl)
@[simp] theorem o_enum (k : Int) : jEnum k a ρ S = (a ρ S).bindL fun x S => optL S ((items x).map (jEnum.enumI k)) := (rfl)
@[simp] theorem o_zip : jZip a b ρ S = (a ρ S).bindL fun x S => (b ρ S).bindL fun y S => match x, y with
  | .tup xs, .tup ys => .ok (zipW xs ys) S
  | .lst xs, .lst ys => .ok (zipW xs ys) S
  | _, _ => .bad := (rfl)
@[simp] theorem o_zips : jZips a b ρ S = (a ρ S).bindL fun x S => (b ρ S).bindL fun y S => match items x, items y with
  | some xs, some ys => if xs.length = ys.length then .ok (zipW xs ys) S else .bad
  | _, _ => .bad := (rfl)
theorem rg1_ok {k : List W → Sto → Res} {a : Me} {ρ : Env} {S S' : Sto} {j : Int} (h : a ρ S = .ok (.int j) S') (hr : rgOk 0 j = true) : mRg1 k a ρ S = k (rgR 0 j) S' := by
  unfold mRg1
  rw [h]
  exact if_pos hr
@[simp] theorem o_seq : sSeq s t ρ S = (s ρ S).seq t := (rfl)
@[simp] theorem o_next : sNext ρ S = .nx ρ S := (rfl)
@[simp] theorem o_expr : sExpr a ρ S = (a ρ S).toS ρ fun _ S => .nx ρ S := (rfl)
@[simp] theorem o_ret : sRet a ρ S = (a ρ S).toS ρ fun w S => .ret w S := (rfl)
@[simp] theorem o_retN : sRetN ρ S = .ret .non S := (rfl)
@[simp] theorem o_if : sIf p s t ρ S = (p ρ S).toS ρ fun k S => if k then s ρ S else t ρ S := (rfl)
@[simp] theorem o_asg (tg : Tg) : sAsg tg a ρ S = (a ρ S).toS ρ fun w S => Fl.ofO S (bindTg tg w ρ) := (rfl)
@[simp] theorem o_par (is : List Nat) : sPar is ms ρ S = (ms ρ S).toS ρ fun ws S => Fl.ofO S (setAll is ws ρ) := (rfl)
@[simp] theorem o_aug (o : Operator) (i : Nat) : sAug o i a ρ S = match ρ[i]? with
  | some (some x) => (a ρ S).toS ρ fun y S => match augW o x y with
    | some z => .nx (ρ.set i (some z)) S
    | none => .bad
  | _ => .bad := (rfl)
@[simp] theorem o_setIx : sSetIx a b c ρ S = (c ρ S).toS ρ fun v S => (a ρ S).toS ρ fun x S => (b ρ S).toS ρ fun i S => match setIxR x i v S with
  | some S => .nx ρ S
  | none => .bad := (rfl)
@[simp] theorem o_setFld (k f : Nat) : sSetFld k f a b ρ S = (b ρ S).toS ρ fun v S => (a ρ S).toS ρ fun x S => match setFldR k f x v S with
  | some S => .nx ρ S
  | none => .bad := (rfl)
@[simp] theorem o_dput : sDPut a b c ρ S = (c ρ S).toS ρ fun v S => (a ρ S).toS ρ fun x S => (b ρ S).toS ρ fun i S => match dputR x i v S with
  | some S => .nx ρ S
  | none => .bad := (rfl)
@[simp] theorem o_for (it : Ml) (tg : Tg) : sFor it tg s ρ S = (it ρ S).toS ρ fun xs S => forM tg s xs ρ S := (rfl)
@[simp] theorem o_fn (n N : Nat) (ws : List W) : fnW n N s ws S = if ws.length = n then (s (startW N ws) S).toR else .bad := (rfl)
end
section
variable (S : Sto) (w x : W) (ws : List W) (f : W → Sto → Res) (f2 : W → Sto → LRes) (f3 : W → Sto → BRes) (f4 : List W → Sto → Res) (f5 : List W → Sto → LRes) (f6 : Bool → Sto → Res) (f7 : Bool → Sto → BRes) (f8 : W → Sto → Fl) (f9 : List W → Sto → Fl) (f10 : Bool → Sto → Fl) (k : Bool) (ρ : Env) (s : Ms)
@[simp] theorem r_bind : (Res.ok w S).bind f = f w S := (rfl)
@[simp] theorem r_bindL : (Res.ok w S).bindL f2 = f2 w S := (rfl)
@[simp] theorem r_bindB : (Res.ok w S).bindB f3 = f3 w S := (rfl)
@[simp] theorem l_bind : (LRes.ok ws S).bind f4 = f4 ws S := (rfl)
@[simp] theorem l_bindL : (LRes.ok ws S).bindL f5 = f5 ws S := (rfl)
@[simp] theorem b_bind : (BRes.ok k S).bind f6 = f6 k S := (rfl)
@[simp] theorem b_bindB : (BRes.ok k S).bindB f7 = f7 k S := (rfl)
@[simp] theorem r_toS : (Res.ok w S).toS ρ f8 = f8 w S := (rfl)
@[simp] theorem l_toS : (LRes.ok ws S).toS ρ f9 = f9 ws S := (rfl)
@[simp] theorem b_toS : (BRes.ok k S).toS ρ f10 = f10 k S := (rfl)
@[simp] theorem rb_bind : Res.bad.bind f = .bad := (rfl)
@[simp] theorem rb_bindL : Res.bad.bindL f2 = .bad := (rfl)
@[simp] theorem rb_bindB : Res.bad.bindB f3 = .bad := (rfl)
@[simp] theorem optR_s : optR S (some w) = .ok w S := (rfl)
@[simp] theorem optB_s : optB S (some k) = .ok k S := (rfl)
@[simp] theorem optL_s : optL S (some ws) = .ok ws S := (rfl)
@[simp] theorem ofO_s : Fl.ofO S (some ρ) = .nx ρ S := (rfl)
@[simp] theorem seq_nx : (Fl.nx ρ S).seq s = s ρ S := (rfl)
@[simp] theorem seq_ret : (Fl.ret w S).seq s = .ret w S := (rfl)
@[simp] theorem seq_bk : (Fl.bk ρ S).seq s = .bk ρ S := (rfl)
@[simp] theorem seq_ct : (Fl.ct ρ S).seq s = .ct ρ S := (rfl)
@[simp] theorem toR_nx : (Fl.nx ρ S).toR = .ok .non S := (rfl)
@[simp] theorem toR_ret : (Fl.ret w S).toR = .ok w S := (rfl)
@[simp] theorem for_nil (tg : Tg) : forM tg s [] ρ S = .nx ρ S := (rfl)
theorem for_cons (tg : Tg) : forM tg s (x :: ws) ρ S = match bindTg tg x ρ with
    | none => .bad
    | some ρ => match s ρ S with
      | .nx ρ S => forM tg s ws ρ S
      | .ct ρ S => forM tg s ws ρ S
      | .bk ρ S => .nx ρ S
      | r => r := (rfl)
@[simp] theorem comp_nil (st : W → Sto → LRes) (acc : List W) : compM st [] acc S = .ok acc S := (rfl)
@[simp] theorem b_nm (i : Nat) : bindTg (.nm i) w ρ = some (ρ.set i (some w)) := (rfl)
@[simp] theorem b_tup (is : List Nat) : bindTg (.tup is) (.tup ws) ρ = setAll is ws ρ := (rfl)
@[simp] theorem b_tupl (is : List Nat) : bindTg (.tup is) (.lst ws) ρ = setAll is ws ρ := (rfl)
@[simp] theorem b_star (is : List Nat) (j : Nat) : bindTg (.star is j) (.tup ws) ρ = if is.length ≤ ws.length ∧ ws.length ≤ 16384 then (setAll is (ws.take is.length) ρ).map fun ρ' => ρ'.set j (some (.lst (ws.drop is.length))) else none := (rfl)
@[simp] theorem sa_nil : setAll [] [] ρ = some ρ := (rfl)
@[simp] theorem sa_cons (i : Nat) (is : List Nat) : setAll (i :: is) (w :: ws) ρ = setAll is ws (ρ.set i (some w)) := (rfl)
@[simp] theorem wipe_nil : wipeW ρ [] = ρ := (rfl)
@[simp] theorem wipe_cons (i : Nat) (is : List Nat) : wipeW ρ (i :: is) = (wipeW ρ is).set i none := (rfl)
end
section
variable (S : Sto) (ws xs : List W) (i j : Int) (k : Bool) (x y : Str) (c : Nat) (fs : List (Nat × W))
@[simp] theorem d_non : deref S .non = .non := (rfl)
@[simp] theorem d_bl : deref S (.bl k) = .bl k := (rfl)
@[simp] theorem d_int : deref S (.int i) = .int i := (rfl)
@[simp] theorem d_str : deref S (.str x) = .str x := (rfl)
@[simp] theorem d_tup : deref S (.tup ws) = .tup ws := (rfl)
@[simp] theorem d_lst : deref S (.lst ws) = .lst ws := (rfl)
@[simp] theorem d_ins : deref S (.ins c fs) = .ins c fs := (rfl)
@[simp] theorem d_loc (n : Nat) : deref S (.loc n) = match S[n]? with
  | some (.lst ws) => .lst ws
  | some (.frz w) => w
  | _ => .loc n := (rfl)
@[simp] theorem df_loc (n : Nat) : derefF S (.loc n) = match S[n]? with
  | some (.frz w) => w
  | _ => .loc n := (rfl)
@[simp] theorem df_non : derefF S .non = .non := (rfl)
@[simp] theorem df_bl : derefF S (.bl k) = .bl k := (rfl)
@[simp] theorem df_int : derefF S (.int i) = .int i := (rfl)
@[simp] theorem df_str : derefF S (.str x) = .str x := (rfl)
@[simp] theorem df_tup : derefF S (.tup ws) = .tup ws := (rfl)
@[simp] theorem df_lst : derefF S (.lst ws) = .lst ws := (rfl)
@[simp] theorem df_ins : derefF S (.ins c fs) = .ins c fs := (rfl)
@[simp] theorem i_tup : items (.tup ws) = some ws := (rfl)
@[simp] theorem i_lst : items (.lst ws) = some ws := (rfl)
@[simp] theorem n_nil : nlL [] = true := (rfl)
@[simp] theorem n_cons (w : W) : nlL (w :: ws) = (w.nl && nlL ws) := (rfl)
@[simp] theorem n_non : W.nl .non = true := (rfl)
@[simp] theorem n_bl : W.nl (.bl k) = true := (rfl)
@[simp] theorem n_int : W.nl (.int i) = true := (rfl)
@[simp] theorem n_str : W.nl (.str x) = true := (rfl)
@[simp] theorem n_tup : W.nl (.tup ws) = nlL ws := (rfl)
@[simp] theorem n_lst : W.nl (.lst ws) = nlL ws := (rfl)
@[simp] theorem n_ins : W.nl (.ins c fs) = nlF fs := (rfl)
@[simp] theorem n_fnil : nlF [] = true := (rfl)
@[simp] theorem n_fcons (p : Nat × W) : nlF (p :: fs) = (p.2.nl && nlF fs) := by cases p; rfl
@[simp] theorem n_ints (ns : List Int) : nlL (ns.map W.int) = true := nl_ints ns
@[simp] theorem t_non : truthy .non = some false := (rfl)
@[simp] theorem t_bl : truthy (.bl k) = some k := (rfl)
@[simp] theorem t_int : truthy (.int i) = some (i != 0) := (rfl)
@[simp] theorem t_tup : truthy (.tup ws) = some (!ws.isEmpty) := (rfl)
@[simp] theorem t_lst : truthy (.lst ws) = some (!ws.isEmpty) := (rfl)
@[simp] theorem ge_tup : getIx (.tup ws) (.int i) = L2.atI ws i := (rfl)
@[simp] theorem ge_lst : getIx (.lst ws) (.int i) = L2.atI ws i := (rfl)
@[simp] theorem gs_tup (lo hi : Option Int) : getSl (.tup ws) lo hi = some (.tup (cutW ws lo hi)) := (rfl)
@[simp] theorem gs_lst (lo hi : Option Int) : getSl (.lst ws) lo hi = some (.lst (cutW ws lo hi)) := (rfl)
@[simp] theorem pw_non : partW .non = some none := (rfl)
@[simp] theorem pw_int : partW (.int i) = some (some i) := (rfl)
@[simp] theorem cl_lt : cmpop .Lt (.int i) (.int j) = some (decide (i < j)) := (rfl)
@[simp] theorem cl_le : cmpop .LtE (.int i) (.int j) = some (decide (i ≤ j)) := (rfl)
@[simp] theorem cl_gt : cmpop .Gt (.int i) (.int j) = some (decide (j < i)) := (rfl)
@[simp] theorem cl_ge : cmpop .GtE (.int i) (.int j) = some (decide (j ≤ i)) := (rfl)
@[simp] theorem cl_eq (a b : W) : cmpop .Eq a b = cmpEq a b := (rfl)
@[simp] theorem cl_ne (a b : W) : cmpop .NotEq a b = (cmpEq a b).map (!·) := (rfl)
@[simp] theorem cl_inT (a : W) : cmpop .In a (.tup ws) = memW a ws := (rfl)
@[simp] theorem cl_inL (a : W) : cmpop .In a (.lst ws) = memW a ws := (rfl)
@[simp] theorem cl_ninT (a : W) : cmpop .NotIn a (.tup ws) = (memW a ws).map (!·) := (rfl)
@[simp] theorem cl_ninL (a : W) : cmpop .NotIn a (.lst ws) = (memW a ws).map (!·) := (rfl)
@[simp] theorem ce_int : cmpEq (.int i) (.int j) = some (i == j) := (rfl)
@[simp] theorem ce_bl (m : Bool) : cmpEq (.bl k) (.bl m) = some (k == m) := (rfl)
@[simp] theorem bo_add : binop .Add (.int i) (.int j) = some (.int (i + j)) := (rfl)
@[simp] theorem bo_sub : binop .Sub (.int i) (.int j) = some (.int (i - j)) := (rfl)
@[simp] theorem bo_mod : binop .Mod (.int i) (.int j) = if 0 < j then some (.int (i % j)) else none := (rfl)
@[simp] theorem bo_mul : binop .Mult (.int i) (.int j) = if mulOk i j then some (.int (i * j)) else none := (rfl)
@[simp] theorem bo_div : binop .FloorDiv (.int i) (.int j) = if 0 < j ∧ j < divLim then some (.int (i / j)) else none := (rfl)
@[simp] theorem bo_pow : binop .Pow (.int i) (.int j) = if 0 ≤ j ∧ j ≤ 1000000 ∧ i.natAbs < 2 ^ 64 then some (.int (i ^ j.toNat)) else none := (rfl)
@[simp] theorem p_lenT : DL.prim .len [.tup ws] = some (.int ws.length) := (rfl)
@[simp] theorem p_lenL : DL.prim .len [.lst ws] = some (.int ws.length) := (rfl)
@[simp] theorem p_tupT : DL.prim .tuple [.tup ws] = some (.tup ws) := (rfl)
@[simp] theorem p_tupL : DL.prim .tuple [.lst ws] = some (.tup ws) := (rfl)
@[simp] theorem p_lstT : DL.prim .list [.tup ws] = some (.lst ws) := (rfl)
@[simp] theorem p_lstL : DL.prim .list [.lst ws] = some (.lst ws) := (rfl)
@[simp] theorem p_max : DL.prim .max [.int i, .int j] = some (.int (max i j)) := by
  show some (W.int (if j > i then j else i)) = _
  congr 2; split <;> omega
@[simp] theorem p_min : DL.prim .min [.int i, .int j] = some (.int (min i j)) := by
  show some (W.int (if j < i then j else i)) = _
  congr 2; split <;> omega
@[simp] theorem p_abs : DL.prim .abs [.int i] = some (.int (if i < 0 then -i else i)) := (rfl)
@[simp] theorem p_all : DL.prim .all [.lst ws] = (allB ws).map fun bs => .bl (bs.all id) := (rfl)
@[simp] theorem p_any : DL.prim .any [.lst ws] = (allB ws).map fun bs => .bl (bs.any id) := (rfl)
@[simp] theorem p_int : DL.prim .int [.int i] = some (.int i) := (rfl)
@[simp] theorem p_intb : DL.prim .int [.bl k] = some (.int (if k then 1 else 0)) := (rfl)
@[simp] theorem p_divmod : DL.prim .divmod [.int i, .int j] = if 0 < j ∧ j < 1073741824 then some (.tup [.int (i / j), .int (i % j)]) else none := (rfl)
@[simp] theorem f_ins (d f : Nat) : getFld S d f (.ins c fs) = if c = d then lookF f fs else none := (rfl)
@[simp] theorem f_nil (f : Nat) : lookF f [] = none := (rfl)
@[simp] theorem f_cons (f : Nat) (p : Nat × W) : lookF f (p :: fs) = if f = p.1 then some p.2 else lookF f fs := by cases p; rfl
@[simp] theorem a_nil : allB [] = some [] := (rfl)
@[simp] theorem a_cons : allB (.bl k :: ws) = (allB ws).map (k :: ·) := (rfl)
@[simp] theorem p_ok (w : W) (T : Sto) : pureR (.ok w T) S = if w.nl then .ok w S else .bad := (rfl)
@[simp] theorem v_ok (w : W) (T : Sto) : pureV (.ok w T) S = if w.nol then .ok w S else .bad := (rfl)
@[simp] theorem no_bl : W.nol (.bl k) = true := (rfl)
@[simp] theorem no_int : W.nol (.int i) = true := (rfl)
@[simp] theorem is_int (w : Int) : isTy .int (.int w) = some true := (rfl)
@[simp] theorem is_intb : isTy .int (.bl k) = some true := (rfl)
@[simp] theorem is_bli : isTy .bool (.int i) = some false := (rfl)
@[simp] theorem is_bl : isTy .bool (.bl k) = some true := (rfl)
@[simp] theorem is_str : isTy .str (.str x) = some true := (rfl)
@[simp] theorem is_tup : isTy .tuple (.tup ws) = some true := (rfl)
@[simp] theorem is_lst : isTy .list (.lst ws) = some true := (rfl)
@[simp] theorem is_tupl : isTy .tuple (.lst ws) = some false := (rfl)
end
@[simp] theorem allB_map {α : Type} (f : α → Bool) (l : List α) : allB (l.map fun a => W.bl (f a)) = some (l.map f) := by
  have := allB_bls (l.map f)
  rw [List.map_map] at this
  exact this
theorem for_step {tg : Tg} {s : Ms} {x : W} {ws : List W} {ρ ρ1 ρ2 : Env} {S S2 : Sto} (h1 : bindTg tg x ρ = some ρ1) (h2 : s ρ1 S = .nx ρ2 S2) : forM tg s (x :: ws) ρ S = forM tg s ws ρ2 S2 := by
  rw [forM, h1]
  dsimp only
  rw [h2]
theorem for_ct {tg : Tg} {s : Ms} {x : W} {ws : List W} {ρ ρ1 ρ2 : Env} {S S2 : Sto} (h1 : bindTg tg x ρ = some ρ1) (h2 : s ρ1 S = .ct ρ2 S2) : forM tg s (x :: ws) ρ S = forM tg s ws ρ2 S2 := by
  rw [forM, h1]
  dsimp only
  rw [h2]
theorem seq_step {a b : Ms} {ρ ρ1 : Env} {S S1 : Sto} (h : a ρ S = .nx ρ1 S1) : sSeq a b ρ S = b ρ1 S1 := by
  unfold sSeq
  rw [h]; rfl
/-- a comprehension over data that is told -/
theorem lc_data {α : Type} {l : List α} {e g : α → W} {ρ : Env} {S : Sto} {vs : List Nat} {tg : Tg} {p : Mb} {el : Me} (h : ∀ a ∈ l, lcStep ρ vs tg p el (e a) S = .ok [g a] S) : compM (lcStep ρ vs tg p el) (l.map e) [] S = .ok (l.map g) S := by
  have := compM_map (step := lcStep ρ vs tg p el) (S := S) (xs := l.map e) (f := fun w => match lcStep ρ vs tg p el w S with | .ok [u] _ => u | _ => .non) (acc := []) fun x hx => by
    obtain ⟨a, ha, rfl⟩ := List.mem_map.mp hx
    rw [h a ha]
  rw [this, List.nil_append, List.map_map]
  congr 1
  refine List.map_congr_left fun a ha => ?_
  simp only [Function.comp]
  rw [h a ha]
theorem lc_filter {α : Type} {l : List α} {e : α → W} {g : α → List W} {ρ : Env} {S : Sto} {vs : List Nat} {tg : Tg} {p : Mb} {el : Me} (h : ∀ a ∈ l, lcStep ρ vs tg p el (e a) S = .ok (g a) S) : compM (lcStep ρ vs tg p el) (l.map e) [] S = .ok (l.flatMap g) S := by
  have := compM_filter (step := lcStep ρ vs tg p el) (S := S) (xs := l.map e) (f := fun w => match lcStep ρ vs tg p el w S with | .ok u _ => u | _ => []) (acc := []) fun x hx => by
    obtain ⟨a, ha, rfl⟩ := List.mem_map.mp hx
    rw [h a ha]
  rw [this, List.nil_append]
  congr 1
  clear this
  induction l with
  | nil => rfl
  | cons a l ih =>
    rw [List.map_cons, List.flatMap_cons, List.flatMap_cons, ih fun b hb => h b (List.mem_cons_of_mem _ hb), h a (List.mem_cons_self ..)]
theorem limit_big {n : Nat} (h : n ≤ 10000) : n ≤ limit := by unfold limit; omega
end DL
set_option Elab.async false
set_option linter.all false
set_option maxRecDepth 100000
set_option maxHeartbeats 4000000
/-! S1: books, states, beats as plain things; how they look as data. -/
namespace SP
open DL
open PySem
def gi (xs : List Int) (i : Int) : Int := xs.getD i.toNat 0
def seti (xs : List Int) (i v : Int) : List Int := xs.set i.toNat v
abbrev tpI (ns : List Int) : W := .tup (ns.map W.int)
abbrev lsI (ns : List Int) : W := .lst (ns.map W.int)
/-- i is a place of xs -/
def Ix (n : Nat) (i : Int) : Prop := 0 ≤ i ∧ i < n
theorem gi_at {xs : List Int} {i : Int} (h : Ix xs.length i) : L2.atI (xs.map W.int) i = some (.int (gi xs i)) := by
  obtain ⟨h0, h1⟩ := h
  unfold L2.atI L2.ixN gi
  rw [if_pos h0, List.length_map, if_pos h1]
  show (xs.map W.int)[i.toNat]? = _
  rw [List.getElem?_map, List.getD_eq_getElem?_getD, List.getElem?_eq_getElem (by omega)]
  rfl
theorem at_map {α : Type} {f : α → W} {xs : List α} {d : α} {i : Int} (h : Ix xs.length i) : L2.atI (xs.map f) i = some (f (xs.getD i.toNat d)) := by
  obtain ⟨h0, h1⟩ := h
  unfold L2.atI L2.ixN
  rw [if_pos h0, List.length_map, if_pos h1]
  show (xs.map f)[i.toNat]? = _
  rw [List.getElem?_map, List.getD_eq_getElem?_getD, List.getElem?_eq_getElem (by omega)]
  rfl
inductive PK where
  | is | not | below
  deriving DecidableEq
inductive Cnd where
  | pl (k : PK) (w p : Int) | hu (r : Int) | aw (r : Int)
def PK.s : PK → Str
  | .is => "is" | .not => "not" | .below => "below"
def Cnd.w : Cnd → W
  | .pl k w p => .tup [.str k.s, .int w, .int p]
  | .hu r => .tup [.str "hushed", .int r]
  | .aw r => .tup [.str "awake", .int r]
structure Chg where
  put : Bool
  w : Int
  p : Int
def Chg.wd (c : Chg) : Str := if c.put then "put" else "turn"
def Chg.W (c : Chg) : W := .tup [.str c.wd, .int c.w, .int c.p]
def hw (p : Int × Int) : W := .tup [.int p.1, .int p.2]
structure Rul where
  test : List Cnd
  chg : List Chg
  hus : List (Int × Int)
  wak : List Int
  deriving Inhabited
def Rul.W (r : Rul) : W := .tup [.tup (r.test.map Cnd.w), .tup (r.chg.map Chg.W), .tup (r.hus.map hw), tpI r.wak]
structure Bk where
  wh : List Int
  ru : List Rul
def Bk.W (b : Bk) : W := .ins 0 [(0, tpI b.wh), (1, .tup (b.ru.map Rul.W))]
def Bk.rule (b : Bk) (r : Int) : Rul := b.ru.getD r.toNat default
abbrev Sta := List Int × List Int
def stW (s : Sta) : W := .tup [tpI s.1, tpI s.2]
def Cnd.Ok (wh : List Int) (n : Nat) : Cnd → Prop
  | .pl _ w p => Ix wh.length w ∧ 0 ≤ p ∧ p < gi wh w
  | .hu r => Ix n r
  | .aw r => Ix n r
def Chg.Ok (wh : List Int) (c : Chg) : Prop := Ix wh.length c.w ∧ 0 ≤ c.p ∧ c.p < gi wh c.w
structure Rul.Ok (wh : List Int) (n : Nat) (r : Rul) : Prop where
  tl : r.test.length ≤ 4
  t : ∀ c ∈ r.test, c.Ok wh n
  cl : r.chg.length ≤ 3
  c : ∀ c ∈ r.chg, c.Ok wh
  h : ∀ p ∈ r.hus, Ix n p.1 ∧ 1 ≤ p.2 ∧ p.2 ≤ 3
  hr : (r.hus.map (·.1)).Pairwise (· < ·)
  k : ∀ p ∈ r.wak, Ix n p
  kr : r.wak.Pairwise (· < ·)
  x : ∀ p ∈ r.hus, p.1 ∉ r.wak
structure WhOk (wh : List Int) : Prop where
  l0 : 1 ≤ wh.length
  l1 : wh.length ≤ 3
  m : ∀ x ∈ wh, 2 ≤ x ∧ x ≤ 4
  p : wh.prod ≤ 24
structure Bk.Ok (b : Bk) : Prop where
  w : WhOk b.wh
  n : b.ru.length ≤ 5
  r : ∀ r ∈ b.ru, r.Ok b.wh b.ru.length
structure StOk (b : Bk) (s : Sta) : Prop where
  l1 : s.1.length = b.wh.length
  m1 : ∀ i, Ix b.wh.length i → 0 ≤ gi s.1 i ∧ gi s.1 i < gi b.wh i
  l2 : s.2.length = b.ru.length
  m2 : ∀ h ∈ s.2, 0 ≤ h ∧ h ≤ 2
def OffOk (b : Bk) (off : List Int) : Prop := (∀ r ∈ off, Ix b.ru.length r) ∧ off.Pairwise (· < ·)
/-! ### what a beat does -/
def Cnd.so (vs hs : List Int) : Cnd → Bool
  | .pl .is w p => gi vs w == p
  | .pl .not w p => gi vs w != p
  | .pl .below w p => decide (gi vs w < p)
  | .hu r => decide (0 < gi hs r)
  | .aw r => gi hs r == 0
def wouldDo (b : Bk) (r : Int) (vs hs : List Int) : Bool := gi hs r == 0 && (b.rule r).test.all (Cnd.so vs hs)
def Chg.do (wh vs : List Int) (c : Chg) : List Int := seti vs c.w (if c.put then c.p else (gi vs c.w + c.p) % gi wh c.w)
def husDo (hs : List Int) (l : List (Int × Int)) : List Int := l.foldl (fun hs p => seti hs p.1 (max (gi hs p.1) p.2)) hs
def wakDo (hs : List Int) (l : List Int) : List Int := l.foldl (fun hs r => seti hs r 0) hs
structure Mid3 where
  vs : List Int
  hs : List Int
  dn : List Int
def ask (b : Bk) (off : List Int) (m : Mid3) (r : Int) : Mid3 :=
  if !off.contains r && wouldDo b r m.vs m.hs then ⟨(b.rule r).chg.foldl (Chg.do b.wh) m.vs, wakDo (husDo m.hs (b.rule r).hus) (b.rule r).wak, m.dn ++ [r]⟩ else m
def less (hs : List Int) : List Int := hs.map fun h => max 0 (h - 1)
def beatOf (b : Bk) (s : Sta) (order off : List Int) : List Int × Sta :=
  let m := order.foldl (ask b off) ⟨s.1, s.2, []⟩
  (m.dn, (m.vs, less m.hs))
def own (b : Bk) : List Int := (List.range b.ru.length).map fun (i : Nat) => (i : Int)
end SP
set_option Elab.async false
set_option linter.all false
set_option maxRecDepth 100000
set_option maxHeartbeats 4000000
/-! S2: what the program's defs about books and beats do. -/
namespace SP
open PySem DL
theorem plainL_ints (n : Nat) : ∀ l : List Int, W.plainL n (l.map W.int) = true
  | [] => rfl
  | a :: l => by show (W.plain n (.int a) && W.plainL n (l.map W.int)) = true; rw [plainL_ints n l]; cases n <;> rfl
theorem eqvL_ints : ∀ a b : List Int, W.eqvL (a.map W.int) (b.map W.int) = (a == b)
  | [], [] => rfl
  | [], _ :: _ => rfl
  | _ :: _, [] => rfl
  | x :: a, y :: b => by
    show (x == y && W.eqvL (a.map W.int) (b.map W.int)) = (x :: a == y :: b)
    rw [eqvL_ints a b]; rfl
theorem ce_ints (a b : List Int) : cmpEq (tpI a) (tpI b) = some (a == b) := by
  unfold cmpEq
  rw [show W.plain 60 (tpI a) = true from plainL_ints 59 a, show W.plain 60 (tpI b) = true from plainL_ints 59 b]
  show some (W.eqvL _ _) = _
  rw [eqvL_ints]
theorem ce_intsE (a : List Int) : cmpEq (tpI a) (.tup []) = some (a == []) := ce_ints a []
theorem mem_ints (x : Int) (l : List Int) : memW (.int x) (l.map W.int) = some (l.contains x) := by
  unfold memW
  rw [plainL_ints 60 l, show W.plain 60 (.int x) = true from rfl]
  show some _ = _
  congr 1
  induction l with
  | nil => rfl
  | cons a l ih =>
    rw [List.map_cons, List.any_cons, ih, List.contains_cons]
    show ((a == x) || _) = _
    congr 1
    exact Bool.beq_comm
theorem e_is_whole (i : Int) (S : Sto) : pureR (f_is_whole [.int i] []) S = .ok (.bl true) S := by
  simp [f_is_whole, startW]
theorem e_is_from (i lo hi : Int) (S : Sto) : pureR (f_is_from [.int i, .int lo, .int hi] []) S = .ok (.bl (decide (lo ≤ i) && decide (i < hi))) S := by
  by_cases h : lo ≤ i <;> simp [f_is_from, startW, e_is_whole, h]
theorem e_is_row (ws : List W) (n : Int) (S : Sto) : pureR (f_is_row [.tup ws, .int n] []) S = .ok (.bl (decide ((ws.length : Int) ≤ n))) S := by
  simp [f_is_row, startW]
theorem e_how_many (ns : List Int) (hn : ∀ x ∈ ns, 0 ≤ x ∧ x ≤ 4) (S : Sto) : pureR (f_how_many [tpI ns] []) S = .ok (.int ns.prod) S := by
  have key : ∀ (l : List Int) (a : Int) (x : Option W), (∀ x ∈ l, 0 ≤ x ∧ x ≤ 4) → ∃ x', forM (.nm 2) b_how_many_1 (l.map W.int) [some (tpI ns), some (.int a), x] [] = .nx [some (tpI ns), some (.int (a * l.prod)), x'] [] := by
    intro l
    induction l with
    | nil => intro a x _; exact ⟨x, by simp⟩
    | cons y l ih =>
      intro a x h
      have hy := h y (List.mem_cons_self ..)
      obtain ⟨x', e⟩ := ih (a * y) (some (.int y)) fun z hz => h z (List.mem_cons_of_mem _ hz)
      refine ⟨x', ?_⟩
      have hm : mulOk a y = true := by
        unfold mulOk
        have h1 : -(2 ^ 64) < y := by omega
        have h2 : y < 2 ^ 64 := by omega
        rw [decide_eq_true h1, decide_eq_true h2]; simp
      rw [List.map_cons, for_cons, List.prod_cons, ← Int.mul_assoc, ← e]
      simp [b_how_many_1, augW, hm]
  obtain ⟨x', e⟩ := key ns 1 none hn
  simp [f_how_many, startW, e]
end SP
set_option Elab.async false
set_option linter.all false
set_option maxRecDepth 100000
set_option maxHeartbeats 4000000
namespace SP
open PySem DL
@[simp] theorem all_tt {α : Type} (l : List α) : (l.all fun _ => true) = true := by simp
theorem l_small {α : Type} {l : List α} {n : Nat} (h : l.length ≤ n) (hn : n ≤ 10000 := by decide) : l.length ≤ limit := limit_big (by omega)
theorem e_are_wheels {wh : List Int} (h : WhOk wh) (S : Sto) : pureR (f_are_wheels [tpI wh] []) S = .ok (.bl true) S := by
  have h1 := e_how_many wh (fun x hx => by have := h.m x hx; omega)
  have hl : wh.length ≤ limit := l_small h.l1
  have hne : (wh == []) = false := by cases wh with
    | nil => have := h.l0; simp at this
    | cons _ _ => rfl
  have h3 : (wh.length : Int) ≤ 3 := by have := h.l1; omega
  simp [f_are_wheels, startW, e_is_row, h3, ce_intsE, hne, hl, h1]
  rw [lc_data (g := fun _ => .bl true) fun a ha => by
    have := h.m a ha
    have h4 : a < 5 := by omega
    simp [lcStep, e_is_from, this, h4]]
  simp [h.p]
theorem memW_strs (x : Str) (l : List Str) (hx : PyData.strOk x = true) (hl : ∀ y ∈ l, PyData.strOk y = true) : memW (.str x) (l.map W.str) = some (l.contains x) := by
  have key : ∀ l : List Str, (∀ y ∈ l, PyData.strOk y = true) → W.plainL 60 (l.map W.str) = true := by
    intro l; induction l with
    | nil => intro _; rfl
    | cons a l ih =>
      intro h
      show (PyData.strOk a && W.plainL 60 (l.map W.str)) = true
      rw [h a (List.mem_cons_self ..), ih fun y hy => h y (List.mem_cons_of_mem _ hy)]; rfl
  unfold memW
  rw [key l hl, show W.plain 60 (.str x) = true from hx]
  show some _ = _
  congr 1
  clear key hl
  induction l with
  | nil => rfl
  | cons a l ih =>
    rw [List.map_cons, List.any_cons, ih, List.contains_cons]
    show ((a == x) || _) = _
    congr 1
    exact Bool.beq_comm
theorem e_worded (x : Str) (ws : List W) (l : List Str) (n : Int) (hx : PyData.strOk x = true) (hl : ∀ y ∈ l, PyData.strOk y = true) (S : Sto) : pureR (f_is_worded [.tup (.str x :: ws), .tup (l.map W.str), .int n] []) S = .ok (.bl ((ws.length + 1 : Int) == n && l.contains x)) S := by
  have ha : L2.atI (W.str x :: ws) 0 = some (.str x) := by simp [L2.atI, L2.ixN]
  have hm := memW_strs x l hx hl
  by_cases h : (ws.length + 1 : Int) = n
  · have h2 : ((ws.length + 1 : Int) == n) = true := by simpa using h
    simp [f_is_worded, startW, ha, hm, h2]
  · have h2 : ((ws.length + 1 : Int) == n) = false := by simpa using h
    simp [f_is_worded, startW, ha, hm, h2]
theorem pk_ok (k : PK) : PyData.strOk k.s = true := by cases k <;> kernel_rfl
theorem cw_ok (c : Chg) : PyData.strOk c.wd = true := by unfold Chg.wd; split <;> kernel_rfl
theorem ok_words : ∀ y ∈ (["is", "not", "below"] : List Str), PyData.strOk y = true := by
  intro y hy
  simp only [List.mem_cons, List.not_mem_nil, or_false] at hy
  rcases hy with rfl | rfl | rfl <;> kernel_rfl
theorem ok_words2 : ∀ y ∈ (["hushed", "awake"] : List Str), PyData.strOk y = true := by
  intro y hy
  simp only [List.mem_cons, List.not_mem_nil, or_false] at hy
  rcases hy with rfl | rfl <;> kernel_rfl
theorem ok_words3 : ∀ y ∈ (["put", "turn"] : List Str), PyData.strOk y = true := by
  intro y hy
  simp only [List.mem_cons, List.not_mem_nil, or_false] at hy
  rcases hy with rfl | rfl <;> kernel_rfl
theorem e_placed {wh : List Int} {x : Str} {w p : Int} {l : List Str} (hw : Ix wh.length w) (hp : 0 ≤ p ∧ p < gi wh w) (hx : PyData.strOk x = true) (hl : ∀ y ∈ l, PyData.strOk y = true) (hc : l.contains x = true) (S : Sto) :
    pureR (f_is_placed [tpI wh, .tup [.str x, .int w, .int p], .tup (l.map W.str)] []) S = .ok (.bl true) S := by
  have h1 := e_worded x [.int w, .int p] l 3 hx hl
  have hs : nlL (l.map W.str) = true := by clear hl hc h1; induction l with
    | nil => rfl
    | cons a l ih => simpa using ih
  have hm : x ∈ l := by simpa using hc
  simp [f_is_placed, startW, h1, hs, e_is_from, hw.1, hw.2, gi_at hw, hp, hm]
theorem e_condition {wh : List Int} {n : Nat} {c : Cnd} (h : c.Ok wh n) (S : Sto) : pureR (f_is_condition [tpI wh, .int n, c.w] []) S = .ok (.bl true) S := by
  have e2 : ∀ (x : Str) (ws : List W) (n : Int), PyData.strOk x = true → ∀ S, pureR (f_is_worded [.tup (.str x :: ws), .tup [.str "hushed", .str "awake"], .int n] []) S = .ok (.bl ((ws.length + 1 : Int) == n && (["hushed", "awake"] : List Str).contains x)) S := fun x ws n hx S => e_worded x ws ["hushed", "awake"] n hx ok_words2 S
  cases c with
  | pl k w p =>
    have e1 : ∀ S, pureR (f_is_placed [tpI wh, .tup [.str k.s, .int w, .int p], .tup [.str "is", .str "not", .str "below"]] []) S = .ok (.bl true) S := fun S => e_placed (l := ["is", "not", "below"]) h.1 h.2 (pk_ok k) ok_words (by cases k <;> kernel_rfl) S
    simp [f_is_condition, startW, Cnd.w, e2 _ _ _ (pk_ok k), e1]
  | hu r =>
    have c1 : (["hushed", "awake"] : List Str).contains "hushed" = true := by kernel_rfl
    simp only [f_is_condition, o_fn, Cnd.w]
    simp [startW, e2 "hushed" _ _ (by kernel_rfl), c1, e_is_from, h.1, h.2, L2.atI, L2.ixN]
  | aw r =>
    have c1 : (["hushed", "awake"] : List Str).contains "awake" = true := by kernel_rfl
    simp only [f_is_condition, o_fn, Cnd.w]
    simp [startW, e2 "awake" _ _ (by kernel_rfl), c1, e_is_from, h.1, h.2, L2.atI, L2.ixN]
theorem zipW_map {α β : Type} (f : α → W) (g : β → W) : ∀ (a : List α) (b : List β), zipW (a.map f) (b.map g) = (a.zip b).map fun p => .tup [f p.1, g p.2]
  | [], _ => by cases ‹List β› <;> rfl
  | _ :: _, [] => rfl
  | x :: a, y :: b => by show _ :: zipW (a.map f) (b.map g) = _; rw [zipW_map f g a b]; rfl
theorem rising_all : ∀ l : List Int, l.Pairwise (· < ·) → ∀ p ∈ l.zip (l.drop 1), p.1 < p.2
  | [], _, p, h => by simp at h
  | [_], _, p, h => by simp at h
  | x :: y :: l, h, p, hp => by
    rw [List.drop_succ_cons, List.drop_zero, List.zip_cons_cons] at hp
    rw [List.pairwise_cons] at h
    rcases List.mem_cons.mp hp with rfl | hp
    · exact h.1 y (List.mem_cons_self ..)
    · exact rising_all (y :: l) h.2 p (by simpa using hp)
theorem cut1 (l : List W) : cutW l (some 1) none = l.drop 1 := by
  unfold cutW HT.sIx
  cases l with
  | nil => simp
  | cons a l => simp
end SP
set_option Elab.async false
set_option linter.all false
set_option maxRecDepth 100000
set_option maxHeartbeats 4000000
namespace SP
open PySem DL
theorem zip_cut (l : List Int) : zipW (l.map W.int) (cutW (l.map W.int) (some 1) none) = (l.zip (l.drop 1)).map fun p => .tup [.int p.1, .int p.2] := by
  rw [cut1, ← List.map_drop]; exact zipW_map _ _ _ _
theorem e_are_risingT {l : List Int} (h : l.Pairwise (· < ·)) (hl : l.length ≤ limit) (S : Sto) : pureR (f_are_rising [tpI l] []) S = .ok (.bl true) S := by
  have hl2 : l.length ≤ limit + 1 := by omega
  simp [f_are_rising, startW, zip_cut, hl2]
  rw [lc_data (g := fun _ => .bl true) fun p hp => by
    have := rising_all l h p (by simpa using hp)
    simp [lcStep, this]]
  simp
theorem e_are_risingL {l : List Int} (h : l.Pairwise (· < ·)) (hl : l.length ≤ limit) (S : Sto) : pureR (f_are_rising [lsI l] []) S = .ok (.bl true) S := by
  have hl2 : l.length ≤ limit + 1 := by omega
  simp [f_are_rising, startW, zip_cut, hl2]
  rw [lc_data (g := fun _ => .bl true) fun p hp => by
    have := rising_all l h p (by simpa using hp)
    simp [lcStep, this]]
  simp
theorem e_rules_numbers {l : List Int} {n : Nat} (h : l.Pairwise (· < ·)) (hn : ∀ r ∈ l, Ix n r) (hl : l.length ≤ limit) (S : Sto) : pureR (f_are_rules_numbers [tpI l, .int n] []) S = .ok (.bl true) S := by
  simp [f_are_rules_numbers, startW, hl, e_are_risingT h hl]
  rw [lc_data (g := fun _ => .bl true) fun p hp => by
    have := hn p hp
    simp [lcStep, e_is_from, this.1, this.2]]
  simp
theorem e_hush {p : Int × Int} {n : Nat} (h : Ix n p.1 ∧ 1 ≤ p.2 ∧ p.2 ≤ 3) (S : Sto) : pureR (f_is_hush [.int n, hw p] []) S = .ok (.bl true) S := by
  have h4 : p.2 < 4 := by omega
  have a0 : L2.atI [W.int p.1, W.int p.2] 0 = some (.int p.1) := by simp [L2.atI, L2.ixN]
  have a1 : L2.atI [W.int p.1, W.int p.2] 1 = some (.int p.2) := by simp [L2.atI, L2.ixN]
  simp [f_is_hush, startW, hw, a0, a1, e_is_from, h.1.1, h.1.2, h.2, h4]
@[simp] theorem nl_map {α : Type} {f : α → W} (hf : ∀ a, (f a).nl = true) : ∀ l : List α, nlL (l.map f) = true
  | [] => rfl
  | a :: l => by rw [List.map_cons, n_cons, hf a, nl_map hf l]; rfl
@[simp] theorem nl_hw (p : Int × Int) : (hw p).nl = true := rfl
@[simp] theorem nl_cnd (c : Cnd) : c.w.nl = true := by cases c <;> rfl
@[simp] theorem nl_chg (c : Chg) : c.W.nl = true := rfl
@[simp] theorem nl_hws (l : List (Int × Int)) : nlL (l.map hw) = true := nl_map nl_hw l
@[simp] theorem nl_cnds (l : List Cnd) : nlL (l.map Cnd.w) = true := nl_map nl_cnd l
@[simp] theorem nl_chgs (l : List Chg) : nlL (l.map Chg.W) = true := nl_map nl_chg l
@[simp] theorem nl_rul (r : Rul) : r.W.nl = true := by simp [Rul.W]
@[simp] theorem nl_ruls (l : List Rul) : nlL (l.map Rul.W) = true := nl_map nl_rul l
@[simp] theorem nl_bk (b : Bk) : b.W.nl = true := by simp [Bk.W]
@[simp] theorem nl_st (s : Sta) : (stW s).nl = true := by simp [stW]
@[simp] theorem nl_sts (l : List Sta) : nlL (l.map stW) = true := nl_map nl_st l
@[simp] theorem dd_hw (S : Sto) (p : Int × Int) : derefF S (hw p) = hw p := rfl
@[simp] theorem dd_cnd (S : Sto) (c : Cnd) : derefF S c.w = c.w := by cases c <;> rfl
@[simp] theorem dd_chg (S : Sto) (c : Chg) : derefF S c.W = c.W := rfl
@[simp] theorem dd_rul (S : Sto) (c : Rul) : derefF S c.W = c.W := rfl
@[simp] theorem dd_bk (S : Sto) (c : Bk) : derefF S c.W = c.W := rfl
@[simp] theorem dd_st (S : Sto) (c : Sta) : derefF S (stW c) = stW c := rfl
@[simp] theorem de_hw (S : Sto) (p : Int × Int) : deref S (hw p) = hw p := rfl
@[simp] theorem de_cnd (S : Sto) (c : Cnd) : deref S c.w = c.w := by cases c <;> rfl
@[simp] theorem de_chg (S : Sto) (c : Chg) : deref S c.W = c.W := rfl
@[simp] theorem de_rul (S : Sto) (c : Rul) : deref S c.W = c.W := rfl
@[simp] theorem de_bk (S : Sto) (c : Bk) : deref S c.W = c.W := rfl
@[simp] theorem de_st (S : Sto) (c : Sta) : deref S (stW c) = stW c := rfl
theorem e_hushes {l : List (Int × Int)} {n : Nat} (h : ∀ p ∈ l, Ix n p.1 ∧ 1 ≤ p.2 ∧ p.2 ≤ 3) (hr : (l.map (·.1)).Pairwise (· < ·)) (hl : l.length ≤ limit) (S : Sto) : pureR (f_are_hushes [.int n, .tup (l.map hw)] []) S = .ok (.bl true) S := by
  have e2 : ∀ S, pureR (f_are_rising [.lst (l.map fun p => W.int p.1)] []) S = .ok (.bl true) S := fun S => by
    have := e_are_risingL hr (by simpa using hl) S
    rw [show (l.map fun p => W.int p.1) = (l.map (·.1)).map W.int by rw [List.map_map]; rfl]
    exact this
  simp [f_are_hushes, startW, hl]
  rw [lc_data (g := fun _ => .bl true) fun p hp => by
    simp [lcStep, e_hush (h p hp)]]
  simp [hl]
  rw [lc_data (g := fun p => .int p.1) fun p hp => by simp [lcStep, hw]]
  have hn : nlL (l.map fun p => W.int p.1) = true := nl_map (fun _ => rfl) l
  simp [e2, hn]
theorem e_rule {wh : List Int} {n : Nat} {r : Rul} (h : r.Ok wh n) (hw1 : r.hus.length ≤ limit) (hw2 : r.wak.length ≤ limit) (S : Sto) : pureR (f_is_rule [tpI wh, .int n, r.W] []) S = .ok (.bl true) S := by
  have t4 : (r.test.length : Int) ≤ 4 := by have := h.tl; omega
  have c3 : (r.chg.length : Int) ≤ 3 := by have := h.cl; omega
  have e1 : ∀ c ∈ r.chg, ∀ S, pureR (f_is_placed [tpI wh, c.W, .tup [.str "put", .str "turn"]] []) S = .ok (.bl true) S := fun c hc S => e_placed (l := ["put", "turn"]) (h.c c hc).1 (h.c c hc).2 (cw_ok c) ok_words3 (by cases c with | mk p _ _ => cases p <;> kernel_rfl) S
  simp [f_is_rule, startW, Rul.W, e_is_row, t4, c3, l_small h.tl, l_small h.cl, hw1]
  rw [lc_data (g := fun _ => .bl true) fun c hc => by simp [lcStep, e_condition (h.t c hc)]]
  simp [e_is_row, c3, l_small h.cl]
  rw [lc_data (g := fun _ => .bl true) fun c hc => by simp [lcStep, e1 c hc]]
  simp [e_hushes h.h h.hr hw1, e_rules_numbers h.kr h.k hw2, hw1]
  rw [lc_data (g := fun _ => .bl false) fun p hp => by
    have := h.x p hp
    simp [lcStep, SP.hw, mem_ints, this]]
  simp
end SP
set_option Elab.async false
set_option linter.all false
set_option maxRecDepth 100000
set_option maxHeartbeats 4000000
namespace SP
open PySem DL
theorem rising_len {n : Nat} : ∀ (l : List Int) (lo : Int), l.Pairwise (· < ·) → (∀ x ∈ l, lo ≤ x ∧ x < n) → l.length ≤ (n - lo).toNat
  | [], _, _, _ => Nat.zero_le _
  | x :: l, lo, h, hx => by
    rw [List.pairwise_cons] at h
    have h1 := hx x (List.mem_cons_self ..)
    have := rising_len l (x + 1) h.2 fun y hy => ⟨by have := h.1 y hy; omega, (hx y (List.mem_cons_of_mem _ hy)).2⟩
    rw [List.length_cons]
    omega
theorem rising_le {n : Nat} {l : List Int} (h : l.Pairwise (· < ·)) (hx : ∀ x ∈ l, Ix n x) : l.length ≤ n := by
  have := rising_len l 0 h hx
  omega
theorem look_book_loop {wh : List Int} {ru : List Rul} (h : ∀ r ∈ ru, ∀ S, pureR (f_is_rule [tpI wh, .int ru.length, r.W] []) S = .ok (.bl true) S) : ∀ (l : List Rul) (k : Int) (x y : Option W), (∀ r ∈ l, r ∈ ru) →
    ∃ x' y', forM (.tup [2, 3]) b_look_book_1 (jEnum.enumI k (l.map Rul.W)) [some (tpI wh), some (.tup (ru.map Rul.W)), x, y] [] = .nx [some (tpI wh), some (.tup (ru.map Rul.W)), x', y'] []
  | [], k, x, y, _ => ⟨x, y, rfl⟩
  | r :: l, k, x, y, hl => by
    obtain ⟨x', y', e⟩ := look_book_loop h l (k + 1) (some (.int k)) (some r.W) fun r hr => hl r (List.mem_cons_of_mem _ hr)
    refine ⟨x', y', ?_⟩
    rw [List.map_cons, jEnum.enumI, for_cons, ← e]
    simp [b_look_book_1, h r (hl r (List.mem_cons_self ..))]
theorem e_look_book {b : Bk} (h : b.Ok) (S : Sto) : pureR (f_look_book [tpI b.wh, .tup (b.ru.map Rul.W)] []) S = .ok .non S := by
  have hn : (b.ru.length : Int) ≤ 5 := by have := h.n; omega
  have hr : ∀ r ∈ b.ru, ∀ S, pureR (f_is_rule [tpI b.wh, .int b.ru.length, r.W] []) S = .ok (.bl true) S := fun r hr S => by
    have hk := h.r r hr
    have := h.n
    refine e_rule hk ?_ ?_ S
    · have h1 := rising_le (l := r.hus.map (·.1)) hk.hr fun x hx => by
        obtain ⟨p, hp, rfl⟩ := List.mem_map.mp hx
        exact (hk.h p hp).1
      rw [List.length_map] at h1
      exact l_small (n := 5) (by omega)
    · exact l_small (n := 5) (by have := rising_le hk.kr hk.k; omega)
  obtain ⟨x', y', e⟩ := look_book_loop hr b.ru 0 none none fun _ h => h
  simp [f_look_book, startW, e_are_wheels h.w, e_is_row, hn, e]
theorem e_Book {b : Bk} (h : b.Ok) (S : Sto) : makeR 0 f_Book___init__ [tpI b.wh, .tup (b.ru.map Rul.W)] S = .ok b.W S := by
  have e : f_Book___init__ (.loc 0 :: [tpI b.wh, .tup (b.ru.map Rul.W)]) [.obj 0 []] = .ok .non [.obj 0 [(0, tpI b.wh), (1, .tup (b.ru.map Rul.W))]] := by
    simp [f_Book___init__, startW, e_look_book h, setFldR, putFN]
  unfold makeR
  rw [e]
  simp [Bk.W]
theorem prod_gi {wh : List Int} (h : WhOk wh) {w : Int} (hw : Ix wh.length w) : 2 ≤ gi wh w ∧ gi wh w ≤ 4 := by
  obtain ⟨h0, h1⟩ := hw
  unfold gi
  rw [List.getD_eq_getElem?_getD, List.getElem?_eq_getElem (by omega)]
  exact h.m _ (List.getElem_mem _)
theorem g_ru (b : Bk) (S : Sto) : getFld S 0 1 b.W = some (.tup (b.ru.map Rul.W)) := by simp [Bk.W]
theorem g_wh (b : Bk) (S : Sto) : getFld S 0 0 b.W = some (tpI b.wh) := by simp [Bk.W]
theorem e_look_off {b : Bk} {off : List Int} (hb : b.Ok) (h : OffOk b off) (S : Sto) : pureR (f_look_off [b.W, tpI off] []) S = .ok .non S := by
  have hl : off.length ≤ limit := l_small (n := 5) (by have := rising_le h.2 h.1; have := hb.n; omega)
  simp [f_look_off, startW, g_ru, e_rules_numbers h.2 h.1 hl]
theorem range_ints (n : Nat) : ∀ lo : Int, rangeW lo n = ((List.range n).map fun (i : Nat) => lo + (i : Int)).map W.int := by
  induction n with
  | zero => intro lo; rfl
  | succ n ih =>
    intro lo
    rw [rangeW, ih, List.range_succ_eq_map, List.map_cons, List.map_cons, List.map_map, List.map_map, List.map_map]
    congr 1
    · simp
    · apply List.map_congr_left; intro a _; simp; omega
theorem range0 (n : Nat) : rangeW 0 n = ((List.range n).map fun (i : Nat) => (i : Int)).map W.int := by
  rw [range_ints]
  congr 1
  apply List.map_congr_left; intro a _; simp
theorem rgOk_of {i j : Int} (h1 : -1000000000 ≤ i) (h2 : i ≤ 1000000000) (h3 : -1000000000 ≤ j) (h4 : j ≤ 1000000000) (h5 : j - i ≤ 10000000) : rgOk i j = true := by
  have e1 : -(2 ^ 62 : Int) ≤ i := Int.le_trans (by decide) h1
  have e2 : i < 2 ^ 62 := Int.lt_of_le_of_lt h2 (by decide)
  have e3 : -(2 ^ 62 : Int) ≤ j := Int.le_trans (by decide) h3
  have e4 : j < 2 ^ 62 := Int.lt_of_le_of_lt h4 (by decide)
  have e5 : (j - i).toNat ≤ 2 ^ 24 := Nat.le_trans (show (j - i).toNat ≤ 10000000 by omega) (Nat.le_of_ble_eq_true rfl)
  unfold rgOk
  rw [decide_eq_true e1, decide_eq_true e2, decide_eq_true e3, decide_eq_true e4, decide_eq_true e5]; rfl
theorem e_own {b : Bk} (hb : b.Ok) (S : Sto) : pureR (f_own_order [b.W] []) S = .ok (tpI (own b)) S := by
  have hn := hb.n
  have hr : rgOk 0 (b.ru.length : Int) = true := rgOk_of (by omega) (by omega) (by omega) (by omega) (by omega)
  have hz : rgR 0 (b.ru.length : Int) = (own b).map W.int := by
    unfold rgR own
    rw [Int.sub_zero, Int.toNat_natCast]; exact range0 _
  have e1 : (mPrim .len (mCons (mFld 0 1 (mVar 0)) mNil)) [some b.W] [] = .ok (.int b.ru.length) [] := by simp [g_ru]
  have e : mRg1 kTup (mPrim .len (mCons (mFld 0 1 (mVar 0)) mNil)) [some b.W] [] = .ok (tpI (own b)) [] := by
    rw [rg1_ok e1 hr, hz]; rfl
  simp [f_own_order, startW, e]
end SP
set_option Elab.async false
set_option linter.all false
set_option maxRecDepth 100000
set_option maxHeartbeats 4000000
/-! S4: beats. -/
namespace SP
open PySem DL
theorem ce_str (x y : Str) (hx : PyData.strOk x = true) (hy : PyData.strOk y = true) : cmpEq (.str x) (.str y) = some (x == y) := by
  unfold cmpEq
  rw [show W.plain 60 (.str x) = true from hx, show W.plain 60 (.str y) = true from hy]; rfl
theorem w_is : PyData.strOk ("is" : Str) = true := by kernel_rfl
theorem w_hu : PyData.strOk ("hushed" : Str) = true := by kernel_rfl
theorem w_aw : PyData.strOk ("awake" : Str) = true := by kernel_rfl
theorem w_be : PyData.strOk ("below" : Str) = true := by kernel_rfl
theorem w_pu : PyData.strOk ("put" : Str) = true := by kernel_rfl
theorem k_hu (k : PK) : (k.s == ("hushed" : Str)) = false := by cases k <;> kernel_rfl
theorem k_aw (k : PK) : (k.s == ("awake" : Str)) = false := by cases k <;> kernel_rfl
theorem k_be (k : PK) : (k.s == ("below" : Str)) = (k == .below) := by cases k <;> kernel_rfl
theorem k_is (k : PK) : (k.s == ("is" : Str)) = (k == .is) := by cases k <;> kernel_rfl
theorem k_pu (c : Chg) : (c.wd == ("put" : Str)) = c.put := by unfold Chg.wd; cases c.put <;> kernel_rfl
theorem e_is_so {wh : List Int} {n : Nat} {c : Cnd} (h : c.Ok wh n) {vs hs : List Int} (hv : vs.length = wh.length) (hh : hs.length = n) (S : Sto) : pureR (f_is_so [c.w, lsI vs, lsI hs] []) S = .ok (.bl (c.so vs hs)) S := by
  cases c with
  | pl k w p =>
    have hw : Ix vs.length w := by rw [hv]; exact h.1
    have a0 : L2.atI [W.int p] 0 = some (.int p) := by simp [L2.atI, L2.ixN]
    cases k with
    | is => simp [f_is_so, startW, Cnd.w, ce_str _ _ (pk_ok _) w_hu, ce_str _ _ (pk_ok _) w_aw, ce_str _ _ (pk_ok _) w_be, ce_str _ _ (pk_ok _) w_is, k_hu, k_aw, k_be, k_is, gi_at hw, a0, Cnd.so]
    | not => simp [f_is_so, startW, Cnd.w, ce_str _ _ (pk_ok _) w_hu, ce_str _ _ (pk_ok _) w_aw, ce_str _ _ (pk_ok _) w_be, ce_str _ _ (pk_ok _) w_is, k_hu, k_aw, k_be, k_is, gi_at hw, a0, Cnd.so]
             show ((gi vs w == p) == (PK.not == PK.is)) = !(gi vs w == p)
             cases (gi vs w == p) <;> rfl
    | below => simp [f_is_so, startW, Cnd.w, ce_str _ _ (pk_ok _) w_hu, ce_str _ _ (pk_ok _) w_aw, ce_str _ _ (pk_ok _) w_be, ce_str _ _ (pk_ok _) w_is, k_hu, k_aw, k_be, k_is, gi_at hw, a0, Cnd.so]
  | hu r =>
    have hr : Ix hs.length r := by rw [hh]; exact h
    have e : (("hushed" : Str) == ("hushed" : Str)) = true := by kernel_rfl
    simp [f_is_so, startW, Cnd.w, ce_str _ _ w_hu w_hu, e, gi_at hr, Cnd.so]
  | aw r =>
    have hr : Ix hs.length r := by rw [hh]; exact h
    have e : (("awake" : Str) == ("hushed" : Str)) = false := by kernel_rfl
    have e2 : (("awake" : Str) == ("awake" : Str)) = true := by kernel_rfl
    simp [f_is_so, startW, Cnd.w, ce_str _ _ w_aw w_hu, ce_str _ _ w_aw w_aw, e, e2, gi_at hr, Cnd.so]
theorem rule_at {b : Bk} {r : Int} (h : Ix b.ru.length r) : L2.atI (b.ru.map Rul.W) r = some (b.rule r).W := at_map h
theorem rule_mem {b : Bk} {r : Int} (h : Ix b.ru.length r) : b.rule r ∈ b.ru := by
  obtain ⟨h0, h1⟩ := h
  unfold Bk.rule
  rw [List.getD_eq_getElem?_getD, List.getElem?_eq_getElem (by omega)]
  exact List.getElem_mem _
theorem rule_ok {b : Bk} (hb : b.Ok) {r : Int} (h : Ix b.ru.length r) : (b.rule r).Ok b.wh b.ru.length := hb.r _ (rule_mem h)
theorem rul_0 (r : Rul) : getIx r.W (.int 0) = some (.tup (r.test.map Cnd.w)) := by simp [Rul.W, L2.atI, L2.ixN]
theorem rul_1 (r : Rul) : getIx r.W (.int 1) = some (.tup (r.chg.map Chg.W)) := by simp [Rul.W, L2.atI, L2.ixN]
/-- the lengths fit -/
structure Fit (b : Bk) (vs hs : List Int) : Prop where
  v : vs.length = b.wh.length
  h : hs.length = b.ru.length
theorem e_would_do {b : Bk} (hb : b.Ok) {r : Int} (hr : Ix b.ru.length r) {vs hs : List Int} (f : Fit b vs hs) (S : Sto) : f_would_do [b.W, .int r, lsI vs, lsI hs] [] = .ok (.bl (wouldDo b r vs hs)) [] := by
  have hk := rule_ok hb hr
  have hr2 : Ix hs.length r := by rw [f.h]; exact hr
  by_cases h0 : gi hs r = 0
  · have h1 : (gi hs r == 0) = true := by simpa using h0
    simp [f_would_do, startW, gi_at hr2, h1, g_ru, rule_at hr, rul_0, l_small hk.tl]
    rw [lc_data (g := fun c => .bl (c.so vs hs)) fun c hc => by simp [lcStep, e_is_so (hk.t c hc) f.v f.h]]
    simp [wouldDo, h0]
  · have h1 : (gi hs r == 0) = false := by simpa using h0
    simp [f_would_do, startW, gi_at hr2, h1, wouldDo]
/-- a def at a list that it changes: the list stands in the cell n -/
theorem set_at {vs : List Int} {i v : Int} (h : Ix vs.length i) (n : Nat) (S : Sto) (hS : S[n]? = some (.lst (vs.map W.int))) : setIxR (.loc n) (.int i) (.int v) S = some (S.set n (.lst ((seti vs i v).map W.int))) := by
  obtain ⟨h0, h1⟩ := h
  unfold setIxR
  simp only [hS, L2.ixN, List.length_map, if_pos h0, if_pos h1]
  unfold seti
  rw [List.map_set]
theorem seti_len (vs : List Int) (i v : Int) : (seti vs i v).length = vs.length := by unfold seti; rw [List.length_set]
theorem loc_d {S : Sto} {n : Nat} {ws : List W} (h : S[n]? = some (.lst ws)) : deref S (.loc n) = .lst ws := by
  show (match S[n]? with
    | some (.lst ws) => W.lst ws
    | some (.frz w) => w
    | _ => .loc n) = _
  rw [h]
theorem set_self {α : Type} : ∀ {l : List α} {n : Nat} {a : α}, l[n]? = some a → l.set n a = l
  | [], n, a, h => by simp at h
  | x :: l, 0, a, h => by simp at h; subst h; rfl
  | x :: l, n + 1, a, h => by rw [List.set_cons_succ, set_self (by simpa using h)]
theorem change_loop {b : Bk} (n : Nat) (r : W) : ∀ (l : List Chg) (vs : List Int) (S : Sto) (x y z : Option W), (∀ c ∈ l, c.Ok b.wh) → WhOk b.wh → vs.length = b.wh.length → S[n]? = some (.lst (vs.map W.int)) →
    ∃ x' y' z', forM (.tup [3, 4, 5]) b_change_1 (l.map Chg.W) [some b.W, some r, some (.loc n), x, y, z] S = .nx [some b.W, some r, some (.loc n), x', y', z'] (S.set n (.lst ((l.foldl (Chg.do b.wh) vs).map W.int)))
  | [], vs, S, x, y, z, _, _, _, hS => ⟨x, y, z, by
      show Fl.nx _ S = Fl.nx _ (S.set n (.lst (vs.map W.int)))
      rw [set_self hS]⟩
  | c :: l, vs, S, x, y, z, hc, hw, hv, hS => by
    have h0 := hc c (List.mem_cons_self ..)
    have hl : n < S.length := (List.getElem?_eq_some_iff.mp hS).1
    have hx : Ix vs.length c.w := by rw [hv]; exact h0.1
    have h2 := prod_gi hw h0.1
    obtain ⟨x', y', z', e⟩ := change_loop n r l (Chg.do b.wh vs c) (S.set n (.lst ((Chg.do b.wh vs c).map W.int))) (some (.str c.wd)) (some (.int c.w)) (some (.int c.p)) (fun c h => hc c (List.mem_cons_of_mem _ h)) hw (by unfold Chg.do; rw [seti_len]; exact hv) (List.getElem?_set_self hl)
    refine ⟨x', y', z', ?_⟩
    rw [List.map_cons, for_cons]
    rw [List.set_set] at e
    rw [show (c :: l).foldl (Chg.do b.wh) vs = l.foldl (Chg.do b.wh) (Chg.do b.wh vs c) from rfl, ← e]
    have hd := loc_d hS
    have hp : 0 < gi b.wh c.w := by omega
    have gw : L2.atI (b.wh.map W.int) c.w = some (.int (gi b.wh c.w)) := gi_at h0.1
    cases hput : c.put with
    | true => simp [b_change_1, Chg.W, hS, ce_str _ _ (cw_ok c) w_pu, k_pu, hput, set_at hx n S hS, Chg.do]
    | false => simp [b_change_1, Chg.W, hS, ce_str _ _ (cw_ok c) w_pu, k_pu, hput, gi_at hx, g_wh, gw, hp, set_at hx n S hS, Chg.do]
theorem e_change {b : Bk} (hb : b.Ok) {r : Int} (hr : Ix b.ru.length r) {vs : List Int} (hv : vs.length = b.wh.length) {n : Nat} {S : Sto} (hS : S[n]? = some (.lst (vs.map W.int))) : f_change [b.W, .int r, .loc n] S = .ok .non (S.set n (.lst (((b.rule r).chg.foldl (Chg.do b.wh) vs).map W.int))) := by
  have hk := rule_ok hb hr
  obtain ⟨x', y', z', e⟩ := change_loop n (.int r) (b.rule r).chg vs S none none none hk.c hb.w hv hS
  simp [f_change, startW, g_ru, rule_at hr, rul_1, e]
theorem hus_loop {b : Bk} (n : Nat) (r x3 x4 x5 x6 : Option W) : ∀ (l : List (Int × Int)) (hs : List Int) (S : Sto) (x y : Option W), (∀ p ∈ l, Ix hs.length p.1) → S[n]? = some (.lst (hs.map W.int)) →
    ∃ x' y', forM (.tup [7, 8]) b_hush_and_wake_1 (l.map hw) [some b.W, r, some (.loc n), x3, x4, x5, x6, x, y] S = .nx [some b.W, r, some (.loc n), x3, x4, x5, x6, x', y'] (S.set n (.lst ((husDo hs l).map W.int)))
  | [], hs, S, x, y, _, hS => ⟨x, y, by
      show Fl.nx _ S = Fl.nx _ (S.set n (.lst (hs.map W.int)))
      rw [set_self hS]⟩
  | p :: l, hs, S, x, y, hp, hS => by
    have h0 := hp p (List.mem_cons_self ..)
    have hl : n < S.length := (List.getElem?_eq_some_iff.mp hS).1
    obtain ⟨x', y', e⟩ := hus_loop n r x3 x4 x5 x6 l (seti hs p.1 (max (gi hs p.1) p.2)) (S.set n (.lst ((seti hs p.1 (max (gi hs p.1) p.2)).map W.int))) (some (.int p.1)) (some (.int p.2)) (fun q h => by rw [seti_len]; exact hp q (List.mem_cons_of_mem _ h)) (List.getElem?_set_self hl)
    refine ⟨x', y', ?_⟩
    rw [List.map_cons, for_cons]
    rw [List.set_set] at e
    rw [show husDo hs (p :: l) = husDo (seti hs p.1 (max (gi hs p.1) p.2)) l from rfl, ← e]
    have hd := loc_d hS
    simp [b_hush_and_wake_1, hw, hS, gi_at h0, set_at h0 n S hS]
theorem wak_loop {b : Bk} (n : Nat) (r x3 x4 x5 x6 y : Option W) : ∀ (l : List Int) (hs : List Int) (S : Sto) (x : Option W), (∀ p ∈ l, Ix hs.length p) → S[n]? = some (.lst (hs.map W.int)) →
    ∃ x', forM (.nm 7) b_hush_and_wake_2 (l.map W.int) [some b.W, r, some (.loc n), x3, x4, x5, x6, x, y] S = .nx [some b.W, r, some (.loc n), x3, x4, x5, x6, x', y] (S.set n (.lst ((wakDo hs l).map W.int)))
  | [], hs, S, x, _, hS => ⟨x, by
      show Fl.nx _ S = Fl.nx _ (S.set n (.lst (hs.map W.int)))
      rw [set_self hS]⟩
  | p :: l, hs, S, x, hp, hS => by
    have h0 := hp p (List.mem_cons_self ..)
    have hl : n < S.length := (List.getElem?_eq_some_iff.mp hS).1
    obtain ⟨x', e⟩ := wak_loop n r x3 x4 x5 x6 y l (seti hs p 0) (S.set n (.lst ((seti hs p 0).map W.int))) (some (.int p)) (fun q h => by rw [seti_len]; exact hp q (List.mem_cons_of_mem _ h)) (List.getElem?_set_self hl)
    refine ⟨x', ?_⟩
    rw [List.map_cons, for_cons]
    rw [List.set_set] at e
    rw [show wakDo hs (p :: l) = wakDo (seti hs p 0) l from rfl, ← e]
    simp [b_hush_and_wake_2, set_at h0 n S hS]
theorem hus_len (l : List (Int × Int)) : ∀ hs : List Int, (husDo hs l).length = hs.length := by
  induction l with
  | nil => intro hs; rfl
  | cons p l ih => intro hs; show (husDo (seti _ _ _) l).length = _; rw [ih, seti_len]
theorem wak_len (l : List Int) : ∀ hs : List Int, (wakDo hs l).length = hs.length := by
  induction l with
  | nil => intro hs; rfl
  | cons p l ih => intro hs; show (wakDo (seti _ _ _) l).length = _; rw [ih, seti_len]
theorem chg_len (wh : List Int) (l : List Chg) : ∀ vs : List Int, (l.foldl (Chg.do wh) vs).length = vs.length := by
  induction l with
  | nil => intro hs; rfl
  | cons p l ih => intro hs; show (l.foldl (Chg.do wh) _).length = _; rw [ih]; exact seti_len _ _ _
theorem e_hush_and_wake {b : Bk} (hb : b.Ok) {r : Int} (hr : Ix b.ru.length r) {hs : List Int} (hh : hs.length = b.ru.length) {n : Nat} {S : Sto} (hS : S[n]? = some (.lst (hs.map W.int))) : f_hush_and_wake [b.W, .int r, .loc n] S = .ok .non (S.set n (.lst ((wakDo (husDo hs (b.rule r).hus) (b.rule r).wak).map W.int))) := by
  have hk := rule_ok hb hr
  have hl : n < S.length := (List.getElem?_eq_some_iff.mp hS).1
  obtain ⟨x, y, e⟩ := hus_loop (b := b) n (some (.int r)) (some (.tup ((b.rule r).test.map Cnd.w))) (some (.tup ((b.rule r).chg.map Chg.W))) (some (.tup ((b.rule r).hus.map hw))) (some (tpI (b.rule r).wak)) (b.rule r).hus hs S none none (fun p hp => by rw [hh]; exact (hk.h p hp).1) hS
  obtain ⟨x2, e2⟩ := wak_loop (b := b) n (some (.int r)) (some (.tup ((b.rule r).test.map Cnd.w))) (some (.tup ((b.rule r).chg.map Chg.W))) (some (.tup ((b.rule r).hus.map hw))) (some (tpI (b.rule r).wak)) y (b.rule r).wak (husDo hs (b.rule r).hus) (S.set n (.lst ((husDo hs (b.rule r).hus).map W.int))) x (fun p hp => by rw [hus_len, hh]; exact hk.k p hp) (List.getElem?_set_self hl)
  rw [List.set_set] at e2
  have hru : (b.rule r).W = .tup [.tup ((b.rule r).test.map Cnd.w), .tup ((b.rule r).chg.map Chg.W), .tup ((b.rule r).hus.map hw), tpI (b.rule r).wak] := rfl
  simp [f_hush_and_wake, startW, g_ru, rule_at hr, hru, e, e2]
theorem e_ended (vs hs : List Int) (hl : hs.length ≤ limit) (S : Sto) : pureR (f_ended [.tup [tpI vs, tpI hs]] []) S = .ok (stW (vs, less hs)) S := by
  have hlc : ∀ ρ : DL.Env, ∀ S, ρ.length = 4 → compM (lcStep ρ [3] (.nm 3) bYes (mPrim .max (mCons (mCon (.int 0)) (mCons (mBin .Sub (mVar 3) (mCon (.int 1))) mNil)))) (hs.map W.int) [] S = .ok ((less hs).map W.int) S := by
    intro ρ S hρ
    rw [lc_data (g := fun h => .int (max 0 (h - 1))) fun h _ => by
      match ρ, hρ with
      | [a, b, c, d], _ => simp [lcStep]]
    unfold less
    rw [List.map_map]; rfl
  have l2 : 2 ≤ limit := by unfold limit; omega
  simp [f_ended, startW, hl, hlc, stW, l2]
/-! ### one whole beat -/
theorem beat_loop {b : Bk} (hb : b.Ok) {off : List Int} (s : W) (od : W) : ∀ (l : List Int) (m : Mid3) (x : Option W), (∀ r ∈ l, Ix b.ru.length r) → Fit b m.vs m.hs → m.dn.length + l.length ≤ 1000 →
    ∃ x', forM (.nm 7) b_beat_of_1 (l.map W.int) [some b.W, some s, some od, some (tpI off), some (.loc 0), some (.loc 1), some (.loc 2), x] [.lst (m.vs.map W.int), .lst (m.hs.map W.int), .lst (m.dn.map W.int)] =
      .nx [some b.W, some s, some od, some (tpI off), some (.loc 0), some (.loc 1), some (.loc 2), x'] [.lst ((l.foldl (ask b off) m).vs.map W.int), .lst ((l.foldl (ask b off) m).hs.map W.int), .lst ((l.foldl (ask b off) m).dn.map W.int)]
  | [], m, x, _, _, _ => ⟨x, rfl⟩
  | r :: l, m, x, hr, f, hl => by
    have h0 := hr r (List.mem_cons_self ..)
    have hln : m.dn.length < limit := by unfold limit; rw [List.length_cons] at hl; omega
    have hw := e_would_do hb h0 f []
    rw [List.map_cons, for_cons, List.foldl_cons]
    by_cases hc : (!off.contains r && wouldDo b r m.vs m.hs) = true
    · have ea : ask b off m r = ⟨(b.rule r).chg.foldl (Chg.do b.wh) m.vs, wakDo (husDo m.hs (b.rule r).hus) (b.rule r).wak, m.dn ++ [r]⟩ := by unfold ask; rw [if_pos hc]
      rw [Bool.and_eq_true] at hc
      have h1 : off.contains r = false := by simpa using hc.1
      have h2 := hc.2
      have hS0 : ([.lst (m.vs.map W.int), .lst (m.hs.map W.int), .lst (m.dn.map W.int)] : Sto)[0]? = some (.lst (m.vs.map W.int)) := rfl
      have e1 := e_change hb h0 f.v hS0
      have hS1 : ([.lst (((b.rule r).chg.foldl (Chg.do b.wh) m.vs).map W.int), .lst (m.hs.map W.int), .lst (m.dn.map W.int)] : Sto)[1]? = some (.lst (m.hs.map W.int)) := rfl
      have e2 := e_hush_and_wake hb h0 f.h hS1
      rw [ea]
      obtain ⟨x', e⟩ := beat_loop hb s od l (ask b off m r) (some (.int r)) (fun q h => hr q (List.mem_cons_of_mem _ h)) (by
        rw [ea]; exact ⟨by show List.length _ = _; rw [chg_len]; exact f.v, by show List.length _ = _; rw [wak_len, hus_len]; exact f.h⟩) (by rw [ea]; show (m.dn ++ [r]).length + _ ≤ _; rw [List.length_append, List.length_singleton]; rw [List.length_cons] at hl; omega)
      rw [ea] at e
      refine ⟨x', ?_⟩
      rw [← e]
      simp at e1 e2
      have h3 : r ∉ off := by simpa using h1
      simp [b_beat_of_1, mem_ints, h3, hw, h2, e1, e2, isCell, appR, hln]
    · have ea : ask b off m r = m := by unfold ask; rw [if_neg hc]
      obtain ⟨x', e⟩ := beat_loop hb s od l m (some (.int r)) (fun q h => hr q (List.mem_cons_of_mem _ h)) f (by rw [List.length_cons] at hl; omega)
      refine ⟨x', ?_⟩
      rw [ea, ← e]
      cases h1 : off.contains r with
      | true =>
        have h3 : r ∈ off := by simpa using h1
        simp [b_beat_of_1, mem_ints, h3]
      | false =>
        have h2 : wouldDo b r m.vs m.hs = false := by rw [h1] at hc; simpa using hc
        have h3 : r ∉ off := by simpa using h1
        simp [b_beat_of_1, mem_ints, h3, hw, h2]
theorem ask_fit {b : Bk} {off : List Int} : ∀ (l : List Int) (m : Mid3), Fit b m.vs m.hs → Fit b (l.foldl (ask b off) m).vs (l.foldl (ask b off) m).hs
  | [], m, f => f
  | r :: l, m, f => by
    rw [List.foldl_cons]
    refine ask_fit l _ ?_
    unfold ask
    split
    · exact ⟨by show List.length _ = _; rw [chg_len]; exact f.v, by show List.length _ = _; rw [wak_len, hus_len]; exact f.h⟩
    · exact f
theorem e_beat_of {b : Bk} (hb : b.Ok) {s : Sta} (hs : StOk b s) {order off : List Int} (ho : ∀ r ∈ order, Ix b.ru.length r) (hl : order.length ≤ 1000) (S : Sto) :
    pureR (f_beat_of [b.W, stW s, tpI order, tpI off] []) S = .ok (.tup [tpI (beatOf b s order off).1, stW (beatOf b s order off).2]) S := by
  have f : Fit b s.1 s.2 := ⟨hs.l1, hs.l2⟩
  obtain ⟨x', e⟩ := beat_loop hb (stW s) (tpI order) (off := off) order ⟨s.1, s.2, []⟩ none ho f (by simpa using hl)
  have f2 := ask_fit (off := off) order ⟨s.1, s.2, []⟩ f
  have hlim : (order.foldl (ask b off) ⟨s.1, s.2, []⟩).hs.length ≤ limit := by rw [f2.h]; exact l_small hb.n
  have a0 : L2.atI [tpI s.1, tpI s.2] 0 = some (tpI s.1) := by simp [L2.atI, L2.ixN]
  have a1 : L2.atI [tpI s.1, tpI s.2] 1 = some (tpI s.2) := by simp [L2.atI, L2.ixN]
  have gs0 : getIx (stW s) (.int 0) = some (tpI s.1) := a0
  have gs1 : getIx (stW s) (.int 1) = some (tpI s.2) := a1
  have ee := e_ended (order.foldl (ask b off) ⟨s.1, s.2, []⟩).vs (order.foldl (ask b off) ⟨s.1, s.2, []⟩).hs hlim
  have l0 : 0 ≤ limit := Nat.zero_le _
  have l2 : 2 ≤ limit := by unfold limit; omega
  simp at e
  simp [f_beat_of, startW, gs0, gs1, e, l0, l2, ee, beatOf]
end SP
set_option Elab.async false
set_option linter.all false
/-! M1: what comes of a step told again and again, on finitely many things. -/
namespace SP
def itr {α : Type} (f : α → α) : Nat → α → α
  | 0, s => s
  | n + 1, s => f (itr f n s)
theorem itr_add {α : Type} (f : α → α) (s : α) (m : Nat) : ∀ n, itr f (m + n) s = itr f n (itr f m s)
  | 0 => rfl
  | n + 1 => by show f (itr f (m + n) s) = f (itr f n (itr f m s)); rw [itr_add f s m n]
/-- the states of a run up to where it comes round: the n-th is known to come again at bg -/
structure Trk {α : Type} (f : α → α) (s : α) (sts : List α) (bg : Nat) : Prop where
  lt : bg < sts.length
  at_ : ∀ i, i < sts.length → sts[i]? = some (itr f i s)
  nd : sts.Nodup
  back : itr f sts.length s = itr f bg s
def spot (bg len n : Nat) : Nat := if n < bg then n else bg + (n - bg) % len
section
variable {α : Type} {f : α → α} {s : α} {sts : List α} {bg : Nat}
theorem Trk.len0 (t : Trk f s sts bg) : 0 < sts.length - bg := by have := t.lt; omega
theorem Trk.step (t : Trk f s sts bg) (n : Nat) (h : bg ≤ n) : itr f (n + (sts.length - bg)) s = itr f n s := by
  have e : n + (sts.length - bg) = sts.length + (n - bg) := by have := t.lt; omega
  rw [e, itr_add, t.back, ← itr_add]
  congr 1; omega
theorem Trk.rounds (t : Trk f s sts bg) (n : Nat) (h : bg ≤ n) : ∀ k, itr f (n + k * (sts.length - bg)) s = itr f n s
  | 0 => by rw [Nat.zero_mul]; rfl
  | k + 1 => by
    have e : n + (k + 1) * (sts.length - bg) = (n + k * (sts.length - bg)) + (sts.length - bg) := by rw [Nat.add_mul, Nat.one_mul]; omega
    rw [e, t.step _ (by omega), t.rounds n h k]
theorem Trk.spot_lt (t : Trk f s sts bg) (n : Nat) : spot bg (sts.length - bg) n < sts.length := by
  have h1 := t.lt
  unfold spot
  split
  · omega
  · have := Nat.mod_lt (n - bg) t.len0; omega
theorem Trk.spot_at (t : Trk f s sts bg) (n : Nat) : itr f (spot bg (sts.length - bg) n) s = itr f n s := by
  unfold spot
  split
  · rfl
  · rename_i h
    have e : n = (bg + (n - bg) % (sts.length - bg)) + ((n - bg) / (sts.length - bg)) * (sts.length - bg) := by
      have := Nat.div_add_mod (n - bg) (sts.length - bg)
      rw [Nat.mul_comm] at this
      omega
    have := t.rounds (bg + (n - bg) % (sts.length - bg)) (by omega) ((n - bg) / (sts.length - bg))
    rw [← e] at this
    exact this.symm
theorem Trk.get (t : Trk f s sts bg) (n : Nat) : sts[spot bg (sts.length - bg) n]? = some (itr f n s) := by
  rw [t.at_ _ (t.spot_lt n), t.spot_at n]
theorem Trk.inj (t : Trk f s sts bg) {i j : Nat} (hi : i < sts.length) (hj : j < sts.length) (e : itr f i s = itr f j s) : i = j := by
  have h1 := t.at_ i hi
  have h2 := t.at_ j hj
  exact (List.getElem?_inj hi t.nd).mp (by rw [h1, h2, e])
theorem Trk.uniq {sts' : List α} {bg' : Nat} (t : Trk f s sts bg) (t' : Trk f s sts' bg') : sts = sts' ∧ bg = bg' := by
  have key : ∀ {sts sts' : List α} {bg bg' : Nat}, Trk f s sts bg → Trk f s sts' bg' → ¬ sts.length < sts'.length := by
    intro sts sts' bg bg' t t' hl
    have := t'.inj (i := sts.length) (j := bg) hl (Nat.lt_trans t.lt hl) t.back
    have := t.lt
    omega
  have hl : sts.length = sts'.length := by
    have := key t t'; have := key t' t; omega
  have hs : sts = sts' := by
    apply List.ext_getElem? 
    intro i
    by_cases hi : i < sts.length
    · rw [t.at_ i hi, t'.at_ i (by omega)]
    · rw [List.getElem?_eq_none (by omega), List.getElem?_eq_none (by omega)]
  subst hs
  refine ⟨rfl, t.inj t.lt t'.lt ?_⟩
  rw [← t.back, ← t'.back]
end
/-- pigeons -/
theorem nd_len : ∀ (l D : List Nat), l.Nodup → (∀ x ∈ l, x ∈ D) → l.length ≤ D.length
  | [], _, _, _ => Nat.zero_le _
  | x :: l, D, hn, hs => by
    obtain ⟨h1, h2⟩ := List.nodup_cons.mp hn
    have hx : x ∈ D := hs x (List.mem_cons_self ..)
    have ih := nd_len l (D.erase x) h2 fun y hy => by
      have hne : y ≠ x := fun e => h1 (e ▸ hy)
      exact (List.mem_erase_of_ne hne).2 (hs y (List.mem_cons_of_mem _ hy))
    have e := List.length_erase_of_mem hx
    have hp : 0 < D.length := List.length_pos_of_mem hx
    rw [List.length_cons]
    omega
theorem nd_code {α : Type} (c : α → Nat) (N : Nat) {l : List α} (hn : l.Nodup) (hc : ∀ x ∈ l, c x < N) (hi : ∀ x ∈ l, ∀ y ∈ l, c x = c y → x = y) : l.length ≤ N := by
  have h1 : (l.map c).Nodup := by
    rw [List.nodup_iff_pairwise_ne] at hn ⊢
    rw [List.pairwise_map]
    exact List.Pairwise.imp_of_mem (fun {a b} ha hb hab e => hab (hi a ha b hb e)) hn
  have := nd_len (l.map c) (List.range N) h1 fun x hx => by
    obtain ⟨a, ha, rfl⟩ := List.mem_map.mp hx
    exact List.mem_range.mpr (hc a ha)
  simpa using this
end SP
set_option Elab.async false
set_option linter.all false
set_option maxRecDepth 100000
set_option maxHeartbeats 4000000
/-! S5: beats lead from states to states; there are few states. -/
namespace SP
open PySem DL
theorem gi_seti {xs : List Int} {i j v : Int} (hi : Ix xs.length i) (hj : 0 ≤ j) : gi (seti xs i v) j = if j = i then v else gi xs j := by
  obtain ⟨h0, h1⟩ := hi
  unfold gi seti
  rw [List.getD_eq_getElem?_getD, List.getD_eq_getElem?_getD, List.getElem?_set]
  by_cases e : j = i
  · subst e
    rw [if_pos rfl, if_pos rfl, if_pos (by omega)]; rfl
  · rw [if_neg e, if_neg (by omega)]
structure MidOk (b : Bk) (m : Mid3) : Prop where
  f : Fit b m.vs m.hs
  v : ∀ i, Ix b.wh.length i → 0 ≤ gi m.vs i ∧ gi m.vs i < gi b.wh i
  h : ∀ h ∈ m.hs, 0 ≤ h ∧ h ≤ 3
theorem chg_vals {wh : List Int} (hw : WhOk wh) : ∀ (l : List Chg) (vs : List Int), (∀ c ∈ l, c.Ok wh) → vs.length = wh.length → (∀ i, Ix wh.length i → 0 ≤ gi vs i ∧ gi vs i < gi wh i) → ∀ i, Ix wh.length i → 0 ≤ gi (l.foldl (Chg.do wh) vs) i ∧ gi (l.foldl (Chg.do wh) vs) i < gi wh i
  | [], vs, _, _, h => h
  | c :: l, vs, hc, hv, h => by
    rw [List.foldl_cons]
    have h0 := hc c (List.mem_cons_self ..)
    have hx : Ix vs.length c.w := by rw [hv]; exact h0.1
    have hp := prod_gi hw h0.1
    refine chg_vals hw l _ (fun c h => hc c (List.mem_cons_of_mem _ h)) (by unfold Chg.do; rw [seti_len]; exact hv) fun i hi => ?_
    unfold Chg.do
    rw [gi_seti hx hi.1]
    split
    · rename_i e
      subst e
      split
      · exact h0.2
      · exact ⟨Int.emod_nonneg _ (by omega), Int.emod_lt_of_pos _ (by omega)⟩
    · exact h i hi
theorem mem_seti {xs : List Int} {i v x : Int} (h : x ∈ seti xs i v) : x ∈ xs ∨ x = v := List.mem_or_eq_of_mem_set h
theorem gi_mem {xs : List Int} {i : Int} (h : Ix xs.length i) : gi xs i ∈ xs := by
  obtain ⟨h0, h1⟩ := h
  unfold gi
  rw [List.getD_eq_getElem?_getD, List.getElem?_eq_getElem (by omega)]
  exact List.getElem_mem _
theorem hus_vals {n : Nat} : ∀ (l : List (Int × Int)) (hs : List Int), (∀ p ∈ l, Ix n p.1 ∧ 1 ≤ p.2 ∧ p.2 ≤ 3) → hs.length = n → (∀ h ∈ hs, 0 ≤ h ∧ h ≤ 3) → ∀ h ∈ husDo hs l, 0 ≤ h ∧ h ≤ 3
  | [], hs, _, _, h => h
  | p :: l, hs, hp, hl, h => by
    have h0 := hp p (List.mem_cons_self ..)
    refine hus_vals l (seti hs p.1 (max (gi hs p.1) p.2)) (fun q hq => hp q (List.mem_cons_of_mem _ hq)) (by rw [seti_len]; exact hl) fun x hx => ?_
    rcases mem_seti hx with hx | hx
    · exact h x hx
    · have := h _ (gi_mem (by rw [hl]; exact h0.1))
      omega
theorem wak_vals : ∀ (l : List Int) (hs : List Int), (∀ h ∈ hs, 0 ≤ h ∧ h ≤ 3) → ∀ h ∈ wakDo hs l, 0 ≤ h ∧ h ≤ 3
  | [], hs, h => h
  | p :: l, hs, h => by
    refine wak_vals l (seti hs p 0) fun x hx => ?_
    rcases mem_seti hx with hx | hx
    · exact h x hx
    · omega
theorem ask_ok {b : Bk} (hb : b.Ok) {off : List Int} : ∀ (l : List Int) (m : Mid3), (∀ r ∈ l, Ix b.ru.length r) → MidOk b m → MidOk b (l.foldl (ask b off) m)
  | [], m, _, f => f
  | r :: l, m, hr, f => by
    rw [List.foldl_cons]
    refine ask_ok hb l _ (fun q h => hr q (List.mem_cons_of_mem _ h)) ?_
    have hk := rule_ok hb (hr r (List.mem_cons_self ..))
    unfold ask
    split
    · exact ⟨⟨by show List.length _ = _; rw [chg_len]; exact f.f.v, by show List.length _ = _; rw [wak_len, hus_len]; exact f.f.h⟩, chg_vals hb.w _ _ hk.c f.f.v f.v, wak_vals _ _ (hus_vals _ _ hk.h f.f.h f.h)⟩
    · exact f
theorem beatOf_ok {b : Bk} (hb : b.Ok) {s : Sta} (hs : StOk b s) {order off : List Int} (ho : ∀ r ∈ order, Ix b.ru.length r) : StOk b (beatOf b s order off).2 := by
  have m := ask_ok hb (off := off) order ⟨s.1, s.2, []⟩ ho ⟨⟨hs.l1, hs.l2⟩, hs.m1, fun h hh => by have := hs.m2 h hh; exact ⟨this.1, by omega⟩⟩
  refine ⟨m.f.v, m.v, ?_, ?_⟩
  · show (less _).length = _
    unfold less
    rw [List.length_map]; exact m.f.h
  · intro h hh
    obtain ⟨x, hx, rfl⟩ := List.mem_map.mp hh
    have := m.h x hx
    omega
theorem own_ix (b : Bk) : ∀ r ∈ own b, Ix b.ru.length r := by
  intro r hr
  obtain ⟨i, hi, rfl⟩ := List.mem_map.mp hr
  have := List.mem_range.mp hi
  exact ⟨by omega, by omega⟩
theorem own_len (b : Bk) : (own b).length = b.ru.length := by unfold own; rw [List.length_map, List.length_range]
/-! ### there are few states -/
def cod : List Int → List Int → Nat
  | w :: ws, v :: vs => v.toNat + w.toNat * cod ws vs
  | _, _ => 0
theorem cod_lt : ∀ (ws vs : List Int), vs.length = ws.length → (∀ i, Ix ws.length i → 0 ≤ gi vs i ∧ gi vs i < gi ws i) → cod ws vs < (ws.map Int.toNat).prod ∨ (ws.map Int.toNat).prod = 0
  | [], [], _, _ => .inl (by decide)
  | [], _ :: _, h, _ => by simp at h
  | _ :: _, [], h, _ => by simp at h
  | w :: ws, v :: vs, hl, h => by
    have h0 := h 0 ⟨by omega, by simp <;> omega⟩
    simp [gi] at h0
    have ih := cod_lt ws vs (by simpa using hl) fun i hi => by
      have := h (i + 1) ⟨by have := hi.1; omega, by have := hi.2; simp <;> omega⟩
      unfold gi at this ⊢
      rw [show (i + 1).toNat = i.toNat + 1 by have := hi.1; omega] at this
      simpa using this
    rw [List.map_cons, List.prod_cons]
    rcases ih with ih | ih
    · refine .inl ?_
      show v.toNat + w.toNat * cod ws vs < _
      have : w.toNat * (cod ws vs + 1) ≤ w.toNat * (ws.map Int.toNat).prod := Nat.mul_le_mul_left _ ih
      rw [Nat.mul_add, Nat.mul_one] at this
      omega
    · refine .inr ?_
      rw [ih, Nat.mul_zero]
theorem cod_inj : ∀ (ws vs us : List Int), vs.length = ws.length → us.length = ws.length → (∀ i, Ix ws.length i → 0 ≤ gi vs i ∧ gi vs i < gi ws i) → (∀ i, Ix ws.length i → 0 ≤ gi us i ∧ gi us i < gi ws i) → cod ws vs = cod ws us → vs = us
  | [], [], [], _, _, _, _, _ => rfl
  | [], _ :: _, _, h, _, _, _, _ => by simp at h
  | [], _, _ :: _, _, h, _, _, _ => by simp at h
  | _ :: _, [], _, h, _, _, _, _ => by simp at h
  | _ :: _, _, [], _, h, _, _, _ => by simp at h
  | w :: ws, v :: vs, u :: us, hl, hl', h, h', e => by
    have h0 := h 0 ⟨by omega, by simp <;> omega⟩
    have h1 := h' 0 ⟨by omega, by simp <;> omega⟩
    simp [gi] at h0 h1
    have sub : ∀ (v : Int) (vs : List Int), (∀ i, Ix (w :: ws).length i → 0 ≤ gi (v :: vs) i ∧ gi (v :: vs) i < gi (w :: ws) i) → ∀ i, Ix ws.length i → 0 ≤ gi vs i ∧ gi vs i < gi ws i := fun v vs h i hi => by
      have := h (i + 1) ⟨by have := hi.1; omega, by have := hi.2; simp <;> omega⟩
      unfold gi at this ⊢
      rw [show (i + 1).toNat = i.toNat + 1 by have := hi.1; omega] at this
      simpa using this
    replace e : v.toNat + w.toNat * cod ws vs = u.toNat + w.toNat * cod ws us := e
    have hw : 0 < w.toNat := by omega
    have em : (v.toNat + w.toNat * cod ws vs) % w.toNat = (u.toNat + w.toNat * cod ws us) % w.toNat := by rw [e]
    rw [Nat.add_mul_mod_self_left, Nat.add_mul_mod_self_left, Nat.mod_eq_of_lt (by omega), Nat.mod_eq_of_lt (by omega)] at em
    have ed : w.toNat * cod ws vs = w.toNat * cod ws us := by omega
    have ed := Nat.eq_of_mul_eq_mul_left hw ed
    rw [cod_inj ws vs us (by simpa using hl) (by simpa using hl') (sub v vs h) (sub u us h') ed, show v = u by omega]
def stCod (b : Bk) (s : Sta) : Nat := cod b.wh s.1 + 24 * cod (b.ru.map fun _ => 3) s.2
theorem prod_nat {wh : List Int} (h : WhOk wh) : (wh.map Int.toNat).prod ≤ 24 := by
  have key : ∀ l : List Int, (∀ x ∈ l, 2 ≤ x ∧ x ≤ 4) → ((l.map Int.toNat).prod : Int) = l.prod := by
    intro l
    induction l with
    | nil => intro _; rfl
    | cons a l ih =>
      intro h
      have := h a (List.mem_cons_self ..)
      rw [List.map_cons, List.prod_cons, List.prod_cons, Int.natCast_mul, ih fun x hx => h x (List.mem_cons_of_mem _ hx)]
      congr 1
      omega
  have h1 := key wh h.m
  have h2 := h.p
  omega
theorem prod_pos {wh : List Int} (h : WhOk wh) : 0 < (wh.map Int.toNat).prod := by
  have key : ∀ l : List Int, (∀ x ∈ l, 2 ≤ x ∧ x ≤ 4) → 0 < (l.map Int.toNat).prod := by
    intro l
    induction l with
    | nil => intro _; decide
    | cons a l ih =>
      intro h
      have := h a (List.mem_cons_self ..)
      rw [List.map_cons, List.prod_cons]
      exact Nat.mul_pos (by omega) (ih fun x hx => h x (List.mem_cons_of_mem _ hx))
  exact key wh h.m
theorem gi_three {n : Nat} {l : List Rul} (hn : l.length = n) {i : Int} (hi : Ix n i) : gi (l.map fun _ => (3 : Int)) i = 3 := by
  obtain ⟨h0, h1⟩ := hi
  unfold gi
  rw [List.getD_eq_getElem?_getD, List.getElem?_eq_getElem (by rw [List.length_map]; omega), List.getElem_map]; rfl
theorem three_prod (l : List Rul) : ((l.map fun _ => (3 : Int)).map Int.toNat).prod = 3 ^ l.length := by
  induction l with
  | nil => rfl
  | cons a l ih => rw [List.map_cons, List.map_cons, List.prod_cons, ih, List.length_cons, Nat.pow_succ, Nat.mul_comm]; rfl
theorem hus_fit {b : Bk} {s : Sta} (h : StOk b s) : ∀ i, Ix (b.ru.map fun _ => (3 : Int)).length i → 0 ≤ gi s.2 i ∧ gi s.2 i < gi (b.ru.map fun _ => (3 : Int)) i := fun i hi => by
  rw [List.length_map] at hi
  rw [gi_three rfl hi]
  have := h.m2 _ (gi_mem (by rw [h.l2]; exact hi))
  omega
theorem stCod_lt {b : Bk} (hb : b.Ok) {s : Sta} (h : StOk b s) : stCod b s < 5832 := by
  have h1 : cod b.wh s.1 < 24 := by
    have := prod_nat hb.w
    have hp := prod_pos hb.w
    rcases cod_lt b.wh s.1 h.l1 h.m1 with h | h <;> omega
  have h2 : cod (b.ru.map fun _ => 3) s.2 < 243 := by
    have := cod_lt (b.ru.map fun _ => (3 : Int)) s.2 (by rw [List.length_map]; exact h.l2) (hus_fit h)
    rw [three_prod] at this
    have : 3 ^ b.ru.length ≤ 3 ^ 5 := Nat.pow_le_pow_right (by omega) hb.n
    have : 0 < 3 ^ b.ru.length := Nat.pow_pos (by omega)
    omega
  unfold stCod
  omega
theorem stCod_inj {b : Bk} (hb : b.Ok) {s t : Sta} (h : StOk b s) (h' : StOk b t) (e : stCod b s = stCod b t) : s = t := by
  have lt : ∀ {s : Sta}, StOk b s → cod b.wh s.1 < 24 := fun {s} h => by
    have := prod_nat hb.w
    have hp := prod_pos hb.w
    rcases cod_lt b.wh s.1 h.l1 h.m1 with h | h <;> omega
  have l1 := lt h
  have l2 := lt h'
  unfold stCod at e
  have e1 : cod b.wh s.1 = cod b.wh t.1 := by omega
  have e2 : cod (b.ru.map fun _ => 3) s.2 = cod (b.ru.map fun _ => 3) t.2 := by omega
  have a1 := cod_inj b.wh _ _ h.l1 h'.l1 h.m1 h'.m1 e1
  have a2 := cod_inj (b.ru.map fun _ => (3 : Int)) _ _ (by rw [List.length_map]; exact h.l2) (by rw [List.length_map]; exact h'.l2) (hus_fit h) (hus_fit h') e2
  exact Prod.ext a1 a2
theorem few {b : Bk} (hb : b.Ok) {l : List Sta} (hn : l.Nodup) (h : ∀ s ∈ l, StOk b s) : l.length ≤ 5832 :=
  nd_code (stCod b) 5832 hn (fun s hs => stCod_lt hb (h s hs)) fun s hs t ht e => stCod_inj hb (h s hs) (h t ht) e
end SP
set_option Elab.async false
set_option linter.all false
set_option maxRecDepth 100000
set_option maxHeartbeats 4000000
/-! S6: a run's track. -/
namespace SP
open PySem DL
def tst (b : Bk) (off : List Int) (s : Sta) : Sta := (beatOf b s (own b) off).2
def tdn (b : Bk) (off : List Int) (s : Sta) : List Int := (beatOf b s (own b) off).1
def trW (sts : List Sta) (dds : List (List Int)) (bg : Nat) : W := .ins 1 [(2, .lst (sts.map stW)), (3, .lst (dds.map fun d => tpI d)), (4, .int bg), (5, .int ((sts.length : Int) - bg))]
theorem tst_ok {b : Bk} (hb : b.Ok) {off : List Int} {s : Sta} (h : StOk b s) : StOk b (tst b off s) := beatOf_ok hb h (own_ix b)
theorem itr_ok {b : Bk} (hb : b.Ok) {off : List Int} {s : Sta} (h : StOk b s) : ∀ n, StOk b (itr (tst b off) n s)
  | 0 => h
  | n + 1 => tst_ok hb (itr_ok hb h n)
theorem eqv_st (a b : Sta) : W.eqv (stW a) (stW b) = decide (a = b) := by
  show (W.eqvL _ _ && (W.eqvL _ _ && true)) = _
  rw [eqvL_ints, eqvL_ints, Bool.and_true]
  obtain ⟨a1, a2⟩ := a
  obtain ⟨b1, b2⟩ := b
  by_cases h1 : a1 = b1
  · by_cases h2 : a2 = b2
    · subst h1; subst h2; simp
    · have e : (a2 == b2) = false := by simpa using h2
      simp [h1, h2, e]
  · have e : (a1 == b1) = false := by simpa using h1
    simp [h1, e]
theorem keyL_ints (n : Nat) : ∀ l : List Int, W.keyOkL n (l.map W.int) = true
  | [] => rfl
  | a :: l => by show (W.keyOk n (.int a) && W.keyOkL n (l.map W.int)) = true; rw [keyL_ints n l]; cases n <;> rfl
@[simp] theorem key_st (s : Sta) : isKey (stW s) = true := by
  show (W.keyOkL 6 _ && (W.keyOkL 6 _ && true)) = true
  rw [keyL_ints, keyL_ints]; rfl
/-- the dict of places -/
def kvs (k : Nat) : List Sta → List (W × W)
  | [] => []
  | s :: l => (stW s, .int k) :: kvs (k + 1) l
theorem look_kvs (s : Sta) : ∀ (l : List Sta) (k : Nat), lookD (stW s) (kvs k l) = if s ∈ l then some (.int ((k + l.idxOf s : Nat) : Int)) else none
  | [], k => rfl
  | t :: l, k => by
    show (if W.eqv (stW t) (stW s) then some (W.int k) else lookD (stW s) (kvs (k + 1) l)) = _
    rw [eqv_st, look_kvs s l (k + 1)]
    by_cases h : t = s
    · subst h
      simp
    · rw [List.idxOf_cons]
      have h2 : ¬ s = t := fun e => h e.symm
      have h3 : (t == s) = false := by simpa using h
      simp [h, h2, h3]
      by_cases hm : s ∈ l
      · simp [hm]; omega
      · simp [hm]
theorem kvs_app (s : Sta) : ∀ (l : List Sta) (k : Nat), kvs k (l ++ [s]) = kvs k l ++ [(stW s, .int ((k + l.length : Nat) : Int))]
  | [], k => rfl
  | t :: l, k => by
    rw [List.cons_append]
    show _ :: kvs (k + 1) (l ++ [s]) = _ :: (kvs (k + 1) l ++ _)
    rw [kvs_app s l (k + 1), List.length_cons]
    rw [show k + 1 + l.length = k + (l.length + 1) by omega]
theorem kvs_len : ∀ (l : List Sta) (k : Nat), (kvs k l).length = l.length
  | [], _ => rfl
  | _ :: l, k => by show (kvs (k + 1) l).length + 1 = _; rw [kvs_len l]; rfl
theorem put_kvs {s : Sta} {l : List Sta} (h : s ∉ l) : putD (stW s) (.int l.length) (kvs 0 l) = kvs 0 (l ++ [s]) := by
  unfold putD
  rw [look_kvs, if_neg h, kvs_app, Nat.zero_add]
  rfl
def trS (vis : List Sta) (dds : List (List Int)) : Sto := [.obj 1 [(2, .loc 1), (3, .loc 2)], .lst (vis.map stW), .lst (dds.map fun d => tpI d), .dic (kvs 0 vis)]
theorem own_le {b : Bk} (hb : b.Ok) : (own b).length ≤ 1000 := by rw [own_len]; have := hb.n; omega
theorem track_loop {b : Bk} (hb : b.Ok) {off : List Int} {s : Sta} (hs : StOk b s) : ∀ (n : Nat) (vis : List Sta) (x : Option W), vis.Nodup → (∀ i, i < vis.length → vis[i]? = some (itr (tst b off) i s)) → 5834 ≤ n + vis.length →
    ∃ sts bg x', Trk (tst b off) s sts bg ∧ whileM (bDIn true (mVar 2) (mVar 5)) b_Track___init___1 n [some (.loc 0), some b.W, some (stW (itr (tst b off) vis.length s)), some (tpI off), some (tpI (own b)), some (.loc 3), x] (trS vis (vis.map (tdn b off))) =
      .nx [some (.loc 0), some b.W, some (stW (itr (tst b off) bg s)), some (tpI off), some (tpI (own b)), some (.loc 3), x'] (trS sts (sts.map (tdn b off)))
  | 0, vis, x, hn, hv, hl => by
    exfalso
    have := few hb hn fun t ht => by
      obtain ⟨i, hi, e⟩ := List.getElem_of_mem ht
      have := hv i hi
      rw [List.getElem?_eq_getElem hi] at this
      rw [← e, Option.some.inj this]; exact itr_ok hb hs i
    omega
  | n + 1, vis, x, hn, hv, hl => by
    have hfew := few hb hn fun t ht => by
      obtain ⟨i, hi, e⟩ := List.getElem_of_mem ht
      have := hv i hi
      rw [List.getElem?_eq_getElem hi] at this
      rw [← e, Option.some.inj this]; exact itr_ok hb hs i
    have hlk := look_kvs (itr (tst b off) vis.length s) vis 0
    by_cases hm : itr (tst b off) vis.length s ∈ vis
    · have hlt := List.idxOf_lt_length_of_mem hm
      have hg := hv _ hlt
      rw [List.getElem?_eq_getElem hlt, List.getElem_idxOf hlt] at hg
      have hg := Option.some.inj hg
      refine ⟨vis, vis.idxOf (itr (tst b off) vis.length s), x, ⟨hlt, hv, hn, hg⟩, ?_⟩
      rw [if_pos hm] at hlk
      rw [← hg]
      unfold whileM
      simp [dinR, dicOf, trS, hlk]
    · have hv2 : ∀ i, i < (vis ++ [itr (tst b off) vis.length s]).length → (vis ++ [itr (tst b off) vis.length s])[i]? = some (itr (tst b off) i s) := fun i hi => by
        rw [List.length_append, List.length_singleton] at hi
        by_cases h : i < vis.length
        · rw [List.getElem?_append_left h]; exact hv i h
        · have e : i = vis.length := by omega
          subst e
          rw [List.getElem?_append_right (Nat.le_refl _), Nat.sub_self]; rfl
      have hn2 : (vis ++ [itr (tst b off) vis.length s]).Nodup := by
        rw [List.nodup_append]
        exact ⟨hn, by simp, fun a ha c hc e => by
          have : c = itr (tst b off) vis.length s := by simpa using hc
          exact hm (by rw [← this, ← e]; exact ha)⟩
      obtain ⟨sts, bg, x', ht, e⟩ := track_loop hb hs n (vis ++ [itr (tst b off) vis.length s]) (some (tpI (tdn b off (itr (tst b off) vis.length s)))) hn2 hv2 (by rw [List.length_append, List.length_singleton]; omega)
      refine ⟨sts, bg, x', ht, ?_⟩
      rw [← e]
      rw [if_neg hm] at hlk
      have hbt := e_beat_of (off := off) hb (itr_ok hb hs (off := off) vis.length) (own_ix b) (own_le hb)
      have h1 : vis.length < limit := by unfold limit; omega
      have hk : (kvs 0 vis).length < limit := by rw [kvs_len]; exact h1
      have hp := put_kvs hm
      conv => lhs; unfold whileM
      simp [dinR, dicOf, trS, hlk, b_Track___init___1, dputR, hk, hp, getFld, isCell, appR, h1, hbt]
      rfl
end SP
set_option Elab.async false
set_option linter.all false
set_option maxRecDepth 100000
set_option maxHeartbeats 4000000
/-! S7: runs. -/
namespace SP
open PySem DL
open Classical in
noncomputable def trk (b : Bk) (off : List Int) (s : Sta) : List Sta × Nat := if h : ∃ p : List Sta × Nat, Trk (tst b off) s p.1 p.2 then Classical.choose h else ([], 0)
theorem trk_of {b : Bk} {off : List Int} {s : Sta} {sts : List Sta} {bg : Nat} (t : Trk (tst b off) s sts bg) : trk b off s = (sts, bg) := by
  have h : ∃ p : List Sta × Nat, Trk (tst b off) s p.1 p.2 := ⟨(sts, bg), t⟩
  unfold trk
  rw [dif_pos h]
  obtain ⟨e1, e2⟩ := (Classical.choose_spec h).uniq t
  exact Prod.ext e1 e2
theorem track_init {b : Bk} (hb : b.Ok) {off : List Int} {s : Sta} (hs : StOk b s) : ∃ sts bg, Trk (tst b off) s sts bg ∧ ∀ S, makeZR 1 f_Track___init__ [b.W, stW s, tpI off] S = .ok (trW sts (sts.map (tdn b off)) bg) S := by
  obtain ⟨sts, bg, x', t, e⟩ := track_loop hb (off := off) hs 10000 [] none List.nodup_nil (fun i hi => by simp at hi) (by decide)
  refine ⟨sts, bg, t, fun S => ?_⟩
  have eo := e_own hb
  have l0 : 0 ≤ limit := Nat.zero_le _
  have hlk := look_kvs (itr (tst b off) bg s) sts 0
  have hg := t.at_ bg t.lt
  have hm : itr (tst b off) bg s ∈ sts := List.mem_of_getElem? hg
  have hix : sts.idxOf (itr (tst b off) bg s) = bg := by
    have h1 := List.idxOf_lt_length_of_mem hm
    have h2 := t.at_ _ h1
    rw [List.getElem?_eq_getElem h1, List.getElem_idxOf h1] at h2
    exact (t.inj t.lt h1 (Option.some.inj h2)).symm
  rw [if_pos hm, hix, Nat.zero_add] at hlk
  have e2 : (sWhile 10000 (bDIn true (mVar 2) (mVar 5)) b_Track___init___1) [some (.loc 0), some b.W, some (stW s), some (tpI off), some (tpI (own b)), some (.loc 3), none] [.obj 1 [(2, .loc 1), (3, .loc 2)], .lst [], .lst [], .dic []] = _ := e
  have hF : f_Track___init__ [.loc 0, b.W, stW s, tpI off] [.obj 1 []] = .ok .non [.obj 1 [(2, .loc 1), (3, .loc 2), (4, .int bg), (5, .int ((sts.length : Int) - bg))], .lst (sts.map stW), .lst ((sts.map (tdn b off)).map fun d => tpI d), .dic (kvs 0 sts)] := by
    simp [f_Track___init__, startW, setFldR, putFN, l0, eo, e2]
    simp [trS, setFldR, putFN, dgetR, dicOf, hlk, getFld]
  unfold makeZR
  rw [hF]
  have hn2 : nlL (sts.map ((fun d => tpI d) ∘ tdn b off)) = true := nl_map (fun d => by simp) _
  simp [frzFs, frzW, trW, hn2]
theorem trk_spec {b : Bk} (hb : b.Ok) {off : List Int} {s : Sta} (hs : StOk b s) : Trk (tst b off) s (trk b off s).1 (trk b off s).2 := by
  obtain ⟨sts, bg, t, _⟩ := track_init hb (off := off) hs
  rw [trk_of t]; exact t
noncomputable def trO (b : Bk) (off : List Int) (s : Sta) : W := trW (trk b off s).1 ((trk b off s).1.map (tdn b off)) (trk b off s).2
theorem e_Track {b : Bk} (hb : b.Ok) {off : List Int} {s : Sta} (hs : StOk b s) (S : Sto) : makeZR 1 f_Track___init__ [b.W, stW s, tpI off] S = .ok (trO b off s) S := by
  obtain ⟨sts, bg, t, e⟩ := track_init hb (off := off) hs
  unfold trO
  rw [trk_of t]; exact e S
@[simp] theorem nl_tr (b : Bk) (off : List Int) (s : Sta) : (trO b off s).nl = true := by
  have hn : ∀ l : List Sta, nlL (l.map ((fun d => tpI d) ∘ tdn b off)) = true := fun l => nl_map (fun d => by simp) _
  simp [trO, trW, hn]
@[simp] theorem is_tr (b : Bk) (off : List Int) (s : Sta) : isIns 1 (trO b off s) = true := rfl
@[simp] theorem dd_tr (S : Sto) (b : Bk) (off : List Int) (s : Sta) : derefF S (trO b off s) = trO b off s := rfl
@[simp] theorem de_tr (S : Sto) (b : Bk) (off : List Int) (s : Sta) : deref S (trO b off s) = trO b off s := rfl
theorem g_states (b : Bk) (off : List Int) (s : Sta) (S : Sto) : getFld S 1 2 (trO b off s) = some (.lst ((trk b off s).1.map stW)) := by simp [trO, trW]
theorem g_deeds (b : Bk) (off : List Int) (s : Sta) (S : Sto) : getFld S 1 3 (trO b off s) = some (.lst (((trk b off s).1.map (tdn b off)).map fun d => tpI d)) := by simp [trO, trW]
theorem g_begin (b : Bk) (off : List Int) (s : Sta) (S : Sto) : getFld S 1 4 (trO b off s) = some (.int (trk b off s).2) := by simp [trO, trW]
theorem g_length (b : Bk) (off : List Int) (s : Sta) (S : Sto) : getFld S 1 5 (trO b off s) = some (.int (((trk b off s).1.length : Int) - (trk b off s).2)) := by simp [trO, trW]
theorem e_spot {b : Bk} (hb : b.Ok) {off : List Int} {s : Sta} (hs : StOk b s) (n : Nat) (S : Sto) : pureR (f_Track_spot [trO b off s, .int n] []) S = .ok (.int (spot (trk b off s).2 ((trk b off s).1.length - (trk b off s).2) n)) S := by
  have t := trk_spec hb (off := off) hs
  have h0 := t.lt
  have hp : 0 < (((trk b off s).1.length : Int) - (trk b off s).2) := by omega
  by_cases h : n < (trk b off s).2
  · have h2 : (n : Int) < (trk b off s).2 := by omega
    simp [f_Track_spot, startW, g_begin, h2, spot, h]
  · have h2 : ¬ (n : Int) < (trk b off s).2 := by omega
    have h3 : ((trk b off s).2 : Int) < (trk b off s).1.length := by omega
    simp [f_Track_spot, startW, g_begin, g_length, h2, h3, spot, h]
    rw [show ((n : Int) - (trk b off s).2) = ((n - (trk b off s).2 : Nat) : Int) by omega, show (((trk b off s).1.length : Int) - (trk b off s).2) = (((trk b off s).1.length - (trk b off s).2 : Nat) : Int) by omega]
def MOST : Int := 1000000000000000000000000000000000000000000000000000000000000
theorem e_look_beats {n : Int} (h : 0 ≤ n) (h2 : n < MOST) (S : Sto) : pureR (f_look_beats [.int n] []) S = .ok .non S := by
  unfold MOST at h2
  simp [f_look_beats, startW, e_is_whole, h, h2]
theorem st_at {l : List Sta} {n : Nat} {s : Sta} (h : l[n]? = some s) : L2.atI (l.map stW) (n : Int) = some (stW s) := by
  have hl : n < l.length := (List.getElem?_eq_some_iff.mp h).1
  unfold L2.atI L2.ixN
  rw [if_pos (by omega), if_pos (by rw [List.length_map]; omega)]
  show (l.map stW)[n]? = _
  rw [List.getElem?_map, h]; rfl
end SP
set_option Elab.async false
set_option linter.all false
set_option maxRecDepth 100000
set_option maxHeartbeats 4000000
/-! S8: what the laws draw. -/
namespace SP
open PySem DL
/-- the bag stands in the cell n, at most c numbers were mixed -/
def Bg (n c : Nat) (S : Sto) : Prop := ∃ g b k : Int, S[n]? = some (.lst [.int g, .int b, .int k]) ∧ 0 ≤ k ∧ k ≤ c
/-- all cells below L but n stay -/
def Keep (n L : Nat) (S S' : Sto) : Prop := S.length ≤ S'.length ∧ ∀ i, i < L → i ≠ n → S'[i]? = S[i]?
theorem Keep.refl (n L : Nat) (S : Sto) : Keep n L S S := ⟨Nat.le_refl _, fun _ _ _ => rfl⟩
theorem Keep.trans {n L : Nat} {S S' S'' : Sto} (h : Keep n L S S') (h' : Keep n L S' S'') : Keep n L S S'' := ⟨Nat.le_trans h.1 h'.1, fun i hi hn => (h'.2 i hi hn).trans (h.2 i hi hn)⟩
theorem Keep.mono {n L L' : Nat} {S S' : Sto} (h : Keep n L S S') (hl : L' ≤ L) : Keep n L' S S' := ⟨h.1, fun i hi hn => h.2 i (by omega) hn⟩
theorem Keep.app (n : Nat) (S : Sto) (T : Sto) : Keep n S.length S (S ++ T) := ⟨by rw [List.length_append]; omega, fun i hi _ => List.getElem?_append_left hi⟩
theorem Keep.set (n : Nat) (L : Nat) (S : Sto) (c : Cell) {m : Nat} (h : L ≤ m ∨ m = n) : Keep n L S (S.set m c) := ⟨by rw [List.length_set]; exact Nat.le_refl _, fun i hi hn => List.getElem?_set_ne (by omega)⟩
theorem Bg.lt {n c : Nat} {S : Sto} (h : Bg n c S) : n < S.length := by obtain ⟨g, b, k, e, _⟩ := h; exact (List.getElem?_eq_some_iff.mp e).1
theorem Bg.mono {n c c' : Nat} {S : Sto} (h : Bg n c S) (hc : c ≤ c') : Bg n c' S := by obtain ⟨g, b, k, e, h0, h1⟩ := h; exact ⟨g, b, k, e, h0, by omega⟩
theorem Bg.app {n c : Nat} {S : Sto} (h : Bg n c S) (T : Sto) : Bg n c (S ++ T) := by obtain ⟨g, b, k, e, h0⟩ := h; exact ⟨g, b, k, by rw [List.getElem?_append_left (List.getElem?_eq_some_iff.mp e).1]; exact e, h0⟩
theorem Bg.set {n c : Nat} {S : Sto} (h : Bg n c S) {m : Nat} (hm : m ≠ n) (x : Cell) : Bg n c (S.set m x) := by obtain ⟨g, b, k, e, h0⟩ := h; exact ⟨g, b, k, by rw [List.getElem?_set_ne hm]; exact e, h0⟩
theorem d_take {S : Sto} {n c : Nat} {m : Int} (hB : Bg n c S) (hm : 0 < m) (hm2 : m < divLim) (hc : c < 1000000000) :
    ∃ d S', 0 ≤ d ∧ d < m ∧ f__law_take [.loc n, .int m] S = .ok (.int d) S' ∧ S'.length = S.length ∧ Keep n S.length S S' ∧ Bg n (c + 1) S' := by
  obtain ⟨g, b, k, hS, hk, hkc⟩ := hB
  have hl : n < S.length := (List.getElem?_eq_some_iff.mp hS).1
  have a0 : L2.atI [W.int g, .int b, .int k] 0 = some (.int g) := by simp [L2.atI, L2.ixN]
  have a1 : L2.atI [W.int g, .int b, .int k] 1 = some (.int b) := by simp [L2.atI, L2.ixN]
  have a2 : L2.atI [W.int g, .int b, .int k] 2 = some (.int k) := by simp [L2.atI, L2.ixN]
  by_cases hg : 0 < g
  · refine ⟨g % m, S.set n (.lst [.int (g / m), .int b, .int k]), Int.emod_nonneg _ (by omega), Int.emod_lt_of_pos _ hm, ?_, List.length_set, Keep.set n _ _ _ (.inr rfl), ⟨g / m, b, k, List.getElem?_set_self hl, hk, by omega⟩⟩
    simp [f__law_take, startW, hS, a0, hg, hm, hm2, setIxR, L2.ixN]
  · have m1 : mulOk b 48271 = true := by simp [mulOk]
    have m2 : mulOk 7919 (k + 1) = true := by simp [mulOk]
    have m3 : mulOk (7919 * (k + 1)) (k + 1) = true := by
      have h1 : -(2 ^ 64) < k + 1 := by omega
      have h2 : k + 1 < 2 ^ 64 := by omega
      unfold mulOk
      rw [decide_eq_true h1, decide_eq_true h2]; simp
    have hb1 : 0 ≤ (b * 48271 + 7919 * (k + 1) * (k + 1) + 11) % 2147483647 := Int.emod_nonneg _ (by omega)
    have hb2 : (b * 48271 + 7919 * (k + 1) * (k + 1) + 11) % 2147483647 < 2147483647 := Int.emod_lt_of_pos _ (by omega)
    generalize hbb : (b * 48271 + 7919 * (k + 1) * (k + 1) + 11) % 2147483647 = B at hb1 hb2
    have p1 : (B / 8).natAbs < 18446744073709551616 := by omega
    have d8 : (8 : Int) < divLim := by decide
    have c0 : L2.atI [W.int g, .int b, .int (k + 1)] 1 = some (.int b) := by simp [L2.atI, L2.ixN]
    have c2 : L2.atI [W.int g, .int b, .int (k + 1)] 2 = some (.int (k + 1)) := by simp [L2.atI, L2.ixN]
    have c1 : L2.atI [W.int g, .int B, .int (k + 1)] 1 = some (.int B) := by simp [L2.atI, L2.ixN]
    refine ⟨(B / 8) ^ 3 % 2147483629 % m, S.set n (.lst [.int g, .int B, .int (k + 1)]), Int.emod_nonneg _ (by omega), Int.emod_lt_of_pos _ hm, ?_, List.length_set, Keep.set n _ _ _ (.inr rfl), ⟨g, B, k + 1, List.getElem?_set_self hl, by omega, by omega⟩⟩
    have hset : ∀ c : Cell, (S.set n c)[n]? = some c := fun c => List.getElem?_set_self hl
    simp [f__law_take, startW, hS, a0, a2, hg, hm, setIxR, L2.ixN, hset, m1, m2, m3, hbb, p1, d8, c0, c1, c2]
/-- a comprehension that draws -/
theorem comp_draw {α : Type} {w : α → W} {P : α → Prop} {step : W → Sto → LRes} {n L k : Nat} : ∀ (xs : List W) (acc : List W) (S : Sto) (c : Nat), Bg n c S → L ≤ S.length →
    (∀ x ∈ xs, ∀ S c', Bg n c' S → L ≤ S.length → c' ≤ c + k * xs.length → ∃ y S', P y ∧ step x S = .ok [w y] S' ∧ Keep n L S S' ∧ Bg n (c' + k) S') →
    ∃ (ys : List α) (S' : Sto), ys.length = xs.length ∧ (∀ y ∈ ys, P y) ∧ compM step xs acc S = .ok (acc ++ ys.map w) S' ∧ Keep n L S S' ∧ Bg n (c + k * xs.length) S'
  | [], acc, S, c, hB, _, _ => ⟨[], S, rfl, (fun _ h => nomatch h), by simp, Keep.refl _ _ _, hB⟩
  | x :: xs, acc, S, c, hB, hL, h => by
    obtain ⟨y, S1, hy, e1, k1, b1⟩ := h x (List.mem_cons_self ..) S c hB hL (by omega)
    obtain ⟨ys, S2, hl, hP, e2, k2, b2⟩ := comp_draw (w := w) (P := P) xs (acc ++ [w y]) S1 (c + k) b1 (Nat.le_trans hL k1.1) fun x' hx S' c' hb hl hc => h x' (List.mem_cons_of_mem _ hx) S' c' hb hl (by rw [List.length_cons, Nat.mul_add]; omega)
    refine ⟨y :: ys, S2, by rw [List.length_cons, List.length_cons, hl], fun z hz => ?_, ?_, k1.trans k2, b2.mono (by rw [List.length_cons, Nat.mul_add]; omega)⟩
    · rcases List.mem_cons.mp hz with rfl | hz
      · exact hy
      · exact hP z hz
    · show (step x S).bindL _ = _
      rw [e1]
      show compM step xs (acc ++ [w y]) S1 = _
      rw [e2, List.map_cons, List.append_assoc]; rfl
end SP
set_option Elab.async false
set_option linter.all false
set_option maxRecDepth 100000
set_option maxHeartbeats 4000000
/-! S9: drawn conditions, changes, rules, wheels, books, states. -/
namespace SP
open PySem DL
theorem n3 : (3 : Int) < divLim := by decide
theorem small_div {m : Int} (h : m ≤ 1000000000000) : m < divLim := Int.lt_of_le_of_lt h (by decide)
theorem d_condition {wh : List Int} {n many c : Nat} {S : Sto} (hw : WhOk wh) (hm : 0 < many) (hm2 : many ≤ 5) (hB : Bg n c S) (hc : c ≤ 900000000) :
    ∃ cn S', Cnd.Ok wh many cn ∧ f__law_condition [.loc n, tpI wh, .int many] S = .ok cn.w S' ∧ Keep n S.length S S' ∧ Bg n (c + 3) S' := by
  obtain ⟨d, S1, p1, p2, e1, l1, k1, b1⟩ := d_take hB (m := 6) (by omega) (by decide) (by omega)
  have hwl := hw.l0
  have hwl2 := hw.l1
  have l6 : 6 ≤ limit := by unfold limit; omega
  have l2 : 2 ≤ limit := by unfold limit; omega
  have l3 : 3 ≤ limit := by unfold limit; omega
  have mem : ∀ x : Str, PyData.strOk x = true → memW (.str x) [W.str "hushed", W.str "awake"] = some ((["hushed", "awake"] : List Str).contains x) := fun x hx => memW_strs x ["hushed", "awake"] hx ok_words2
  have i0 : L2.atI [W.str "is", .str "is", .str "not", .str "below", .str "hushed", .str "awake"] d = some (.str (if d < 2 then "is" else if d = 2 then "not" else if d = 3 then "below" else if d = 4 then "hushed" else "awake")) := by
    rcases (by omega : d = 0 ∨ d = 1 ∨ d = 2 ∨ d = 3 ∨ d = 4 ∨ d = 5) with rfl | rfl | rfl | rfl | rfl | rfl <;> rfl
  by_cases hd : d < 4
  · have hk : ∃ k : PK, (if d < 2 then ("is" : Str) else if d = 2 then "not" else if d = 3 then "below" else if d = 4 then "hushed" else "awake") = k.s := by
      rcases (by omega : d = 0 ∨ d = 1 ∨ d = 2 ∨ d = 3) with rfl | rfl | rfl | rfl
      · exact ⟨.is, rfl⟩
      · exact ⟨.is, rfl⟩
      · exact ⟨.not, rfl⟩
      · exact ⟨.below, rfl⟩
    obtain ⟨k, hk⟩ := hk
    rw [hk] at i0
    have mk : (["hushed", "awake"] : List Str).contains k.s = false := by cases k <;> kernel_rfl
    have mk2 := mem k.s (pk_ok k)
    rw [mk] at mk2
    obtain ⟨w, S2, q1, q2, e2, l2', k2, b2⟩ := d_take b1 (m := wh.length) (by omega) (small_div (by omega)) (by omega)
    have hw' : Ix wh.length w := ⟨q1, q2⟩
    have hg := prod_gi hw hw'
    obtain ⟨p, S3, r1, r2, e3, l3', k3, b3⟩ := d_take b2 (m := gi wh w) (by omega) (small_div (by omega)) (by omega)
    refine ⟨.pl k w p, S3, ⟨hw', r1, r2⟩, ?_, (k1.trans (k2.mono (by omega))).trans (k3.mono (by omega)), b3⟩
    simp [f__law_condition, startW, l6, e1, i0, l2, mk2, e2, e3, gi_at hw', l3, Cnd.w]
  · have hk : ∃ f : Int → Cnd, (∃ s : Str, (∀ r, (f r).w = .tup [.str s, .int r]) ∧ PyData.strOk s = true ∧ (["hushed", "awake"] : List Str).contains s = true ∧ (if d < 2 then ("is" : Str) else if d = 2 then "not" else if d = 3 then "below" else if d = 4 then "hushed" else "awake") = s) ∧ ∀ r, Ix many r → (f r).Ok wh many := by
      rcases (by omega : d = 4 ∨ d = 5) with rfl | rfl
      · exact ⟨.hu, ⟨"hushed", fun _ => rfl, by kernel_rfl, by kernel_rfl, rfl⟩, fun r h => h⟩
      · exact ⟨.aw, ⟨"awake", fun _ => rfl, by kernel_rfl, by kernel_rfl, rfl⟩, fun r h => h⟩
    obtain ⟨f, ⟨s, hf, so, sc, hk⟩, hok⟩ := hk
    rw [hk] at i0
    have mk2 := mem s so
    rw [sc] at mk2
    obtain ⟨w, S2, q1, q2, e2, l2', k2, b2⟩ := d_take b1 (m := many) (by omega) (small_div (by omega)) (by omega)
    refine ⟨f w, S2, hok w ⟨q1, q2⟩, ?_, k1.trans (k2.mono (by omega)), b2.mono (by omega)⟩
    simp [f__law_condition, startW, l6, e1, i0, l2, mk2, e2, hf]
theorem d_change {wh : List Int} {n c : Nat} {S : Sto} (hw : WhOk wh) (hB : Bg n c S) (hc : c ≤ 900000000) :
    ∃ (cn : Chg) (S' : Sto), cn.Ok wh ∧ f__law_change [.loc n, tpI wh] S = .ok cn.W S' ∧ Keep n S.length S S' ∧ Bg n (c + 3) S' := by
  have hwl := hw.l0
  have hwl2 := hw.l1
  have l3 : 3 ≤ limit := by unfold limit; omega
  obtain ⟨w, S2, q1, q2, e2, l2', k2, b2⟩ := d_take hB (m := wh.length) (by omega) (small_div (by omega)) (by omega)
  have hw' : Ix wh.length w := ⟨q1, q2⟩
  have hg := prod_gi hw hw'
  obtain ⟨d, S1, p1, p2, e1, l1, k1, b1⟩ := d_take b2 (m := 3) (by omega) (by decide) (by omega)
  obtain ⟨p, S3, r1, r2, e3, l3', k3, b3⟩ := d_take b1 (m := gi wh w) (by omega) (small_div (by omega)) (by omega)
  have hk : ∃ t : Bool, L2.atI [W.str "turn", .str "turn", .str "put"] d = some (.str (if t then "put" else "turn")) := by
    rcases (by omega : d = 0 ∨ d = 1 ∨ d = 2) with rfl | rfl | rfl
    · exact ⟨false, rfl⟩
    · exact ⟨false, rfl⟩
    · exact ⟨true, rfl⟩
  obtain ⟨t, ht⟩ := hk
  refine ⟨⟨t, w, p⟩, S3, ⟨hw', r1, r2⟩, ?_, (k2.trans (k1.mono (by omega))).trans (k3.mono (by omega)), b3⟩
  simp [f__law_change, startW, l3, e2, e1, ht, e3, gi_at hw', Chg.W, Chg.wd]
theorem small_range {j : Int} (h0 : 0 ≤ j) (h : j ≤ 100000) : -(2 ^ 62 : Int) ≤ j ∧ j < 2 ^ 62 := ⟨Int.le_trans (by decide) h0, Int.lt_of_le_of_lt h (by decide)⟩
theorem rangeW_length (n : Nat) : ∀ lo, (rangeW lo n).length = n := fun lo => rangeW_len n lo
/-- hushes and wakes of a rule: what the loop makes -/
theorem d_parts {n m1 m2 many : Nat} (wh x3 x4 : Option W) (hne : m1 ≠ n) (hne2 : m2 ≠ n) (h12 : m1 ≠ m2) (hm5 : many ≤ 5) : ∀ (t lo : Nat) (hus : List (Int × Int)) (wak : List Int) (S : Sto) (c : Nat) (x7 x8 x9 : Option W), lo + t = many → Bg n c S → c + 2 * t ≤ 900000000 → S[m1]? = some (.lst (hus.map hw)) → S[m2]? = some (.lst (wak.map W.int)) → hus.length ≤ lo → wak.length ≤ lo →
    (∀ p ∈ hus, (0 ≤ p.1 ∧ p.1 < lo) ∧ 1 ≤ p.2 ∧ p.2 ≤ 3) → (hus.map (·.1)).Pairwise (· < ·) → (∀ p ∈ wak, 0 ≤ p ∧ p < lo) → wak.Pairwise (· < ·) → (∀ p ∈ hus, p.1 ∉ wak) →
    ∃ (hus' : List (Int × Int)) (wak' : List Int) (S' : Sto) (x7' x8' : Option W), forM (.nm 7) b__law_rule_1 (rangeW lo t) [some (.loc n), wh, some (.int many), x3, x4, some (.loc m1), some (.loc m2), x7, x8, x9] S = .nx [some (.loc n), wh, some (.int many), x3, x4, some (.loc m1), some (.loc m2), x7', x8', x9] S' ∧
      S'.length = S.length ∧ (∀ i, i ≠ n → i ≠ m1 → i ≠ m2 → S'[i]? = S[i]?) ∧ Bg n (c + 2 * t) S' ∧ S'[m1]? = some (.lst (hus'.map hw)) ∧ S'[m2]? = some (.lst (wak'.map W.int)) ∧
      (∀ p ∈ hus', Ix many p.1 ∧ 1 ≤ p.2 ∧ p.2 ≤ 3) ∧ (hus'.map (·.1)).Pairwise (· < ·) ∧ (∀ p ∈ wak', Ix many p) ∧ wak'.Pairwise (· < ·) ∧ (∀ p ∈ hus', p.1 ∉ wak')
  | 0, lo, hus, wak, S, c, x7, x8, x9, hlo, hB, hc, h1, h2, hl1, hl2, a1, a2, a3, a4, a5 => by
    have : lo = many := by omega
    subst this
    exact ⟨hus, wak, S, x7, x8, rfl, rfl, fun _ _ _ _ => rfl, hB, h1, h2, a1, a2, a3, a4, a5⟩
  | t + 1, lo, hus, wak, S, c, x7, x8, x9, hlo, hB, hc, h1, h2, hl1, hl2, a1, a2, a3, a4, a5 => by
    have l2 : 2 ≤ limit := by unfold limit; omega
    have ll1 : hus.length < limit := by unfold limit; omega
    have ll2 : wak.length < limit := by unfold limit; omega
    obtain ⟨d, S1, p1, p2, e1, l1, k1, b1⟩ := d_take hB (m := 5) (by omega) (by decide) (by omega)
    have m1l : m1 < S.length := (List.getElem?_eq_some_iff.mp h1).1
    have m2l : m2 < S.length := (List.getElem?_eq_some_iff.mp h2).1
    have g1 : S1[m1]? = some (.lst (hus.map hw)) := by rw [k1.2 m1 m1l hne]; exact h1
    have g2 : S1[m2]? = some (.lst (wak.map W.int)) := by rw [k1.2 m2 m2l hne2]; exact h2
    have kk : ∀ i, i ≠ n → S1[i]? = S[i]? := fun i hi => by
      by_cases h : i < S.length
      · exact k1.2 i h hi
      · rw [List.getElem?_eq_none (by omega), List.getElem?_eq_none (by omega)]
    have er : rangeW (lo : Int) (t + 1) = .int lo :: rangeW ((lo + 1 : Nat) : Int) t := by rw [rangeW]; push_cast; rfl
    by_cases hd0 : d = 0
    · obtain ⟨d2, S2, q1, q2, e2, l2', k2, b2⟩ := d_take b1 (m := 3) (by omega) (by decide) (by omega)
      have kk2 : ∀ i, i ≠ n → S2[i]? = S[i]? := fun i hi => by
        by_cases h : i < S1.length
        · rw [k2.2 i h hi]; exact kk i hi
        · rw [List.getElem?_eq_none (by omega), List.getElem?_eq_none (by omega)]
      have f1 : S2[m1]? = some (.lst (hus.map hw)) := by rw [kk2 m1 hne]; exact h1
      have f2 : S2[m2]? = some (.lst (wak.map W.int)) := by rw [kk2 m2 hne2]; exact h2
      have em : (hus ++ [((lo : Int), 1 + d2)]).map hw = hus.map hw ++ [.tup [.int lo, .int (1 + d2)]] := by rw [List.map_append]; rfl
      obtain ⟨hus', wak', S', x7', x8', r1, r2, r3, r4, r5⟩ := d_parts wh x3 x4 hne hne2 h12 hm5 t (lo + 1) (hus ++ [((lo : Int), 1 + d2)]) wak (S2.set m1 (.lst (hus.map hw ++ [.tup [.int lo, .int (1 + d2)]]))) (c + 2) (some (.int lo)) (some (.int d)) x9 (by omega) (b2.set hne _) (by omega) (by rw [em]; exact List.getElem?_set_self (by omega)) (by rw [List.getElem?_set_ne h12]; exact f2) (by rw [List.length_append, List.length_singleton]; omega) (by omega)
        (fun p hp => by
          rcases List.mem_append.mp hp with hp | hp
          · have := a1 p hp; omega
          · have : p = ((lo : Int), 1 + d2) := by simpa using hp
            subst this
            dsimp only; omega)
        (by
          rw [List.map_append, List.pairwise_append]
          refine ⟨a2, by simp, fun x hx y hy => ?_⟩
          obtain ⟨p, hp, rfl⟩ := List.mem_map.mp hx
          have : y = (lo : Int) := by simpa using hy
          have := (a1 p hp).1
          omega)
        (fun p hp => by have := a3 p hp; omega) a4
        (fun p hp => by
          rcases List.mem_append.mp hp with hp | hp
          · exact a5 p hp
          · have : p = ((lo : Int), 1 + d2) := by simpa using hp
            subst this
            intro hm
            have := a3 _ hm
            dsimp only at this; omega)
      refine ⟨hus', wak', S', x7', x8', ?_, by rw [r2, List.length_set]; omega, fun i i1 i2 i3 => by rw [r3 i i1 i2 i3, List.getElem?_set_ne (Ne.symm i2)]; exact kk2 i i1, r4.mono (by omega), r5⟩
      rw [er, for_cons, ← r1]
      simp [b__law_rule_1, e1, hd0, e2, l2, f1, isCell, g1, appR, ll1]
    · by_cases hd1 : d = 1
      · have em : (wak ++ [(lo : Int)]).map W.int = wak.map W.int ++ [.int lo] := by rw [List.map_append]; rfl
        obtain ⟨hus', wak', S', x7', x8', r1, r2, r3, r4, r5⟩ := d_parts wh x3 x4 hne hne2 h12 hm5 t (lo + 1) hus (wak ++ [(lo : Int)]) (S1.set m2 (.lst (wak.map W.int ++ [.int lo]))) (c + 2) (some (.int lo)) (some (.int d)) x9 (by omega) ((b1.mono (by omega)).set hne2 _) (by omega) (by rw [List.getElem?_set_ne (Ne.symm h12)]; exact g1) (by rw [em]; exact List.getElem?_set_self (by omega)) (by omega) (by rw [List.length_append, List.length_singleton]; omega)
          (fun p hp => by have := a1 p hp; omega) a2
          (fun p hp => by
            rcases List.mem_append.mp hp with hp | hp
            · have := a3 p hp; omega
            · have : p = (lo : Int) := by simpa using hp
              omega)
          (by
            rw [List.pairwise_append]
            refine ⟨a4, by simp, fun x hx y hy => ?_⟩
            have : y = (lo : Int) := by simpa using hy
            have := (a3 x hx)
            omega)
          (fun p hp hm => by
            rcases List.mem_append.mp hm with hm | hm
            · exact a5 p hp hm
            · have : p.1 = (lo : Int) := by simpa using hm
              have := (a1 p hp).1
              omega)
        refine ⟨hus', wak', S', x7', x8', ?_, by rw [r2, List.length_set]; omega, fun i i1 i2 i3 => by rw [r3 i i1 i2 i3, List.getElem?_set_ne (Ne.symm i3)]; exact kk i i1, r4.mono (by omega), r5⟩
        rw [er, for_cons, ← r1]
        simp [b__law_rule_1, e1, hd1, isCell, g2, appR, ll2]
      · obtain ⟨hus', wak', S', x7', x8', r1, r2, r3, r4, r5⟩ := d_parts wh x3 x4 hne hne2 h12 hm5 t (lo + 1) hus wak S1 (c + 2) (some (.int lo)) (some (.int d)) x9 (by omega) (b1.mono (by omega)) (by omega) g1 g2 (by omega) (by omega)
          (fun p hp => by have := a1 p hp; omega) a2 (fun p hp => by have := a3 p hp; omega) a4 a5
        refine ⟨hus', wak', S', x7', x8', ?_, by rw [r2]; omega, fun i i1 i2 i3 => by rw [r3 i i1 i2 i3]; exact kk i i1, r4.mono (by omega), r5⟩
        rw [er, for_cons, ← r1]
        have h5 : (d == 0) = false := by simpa using hd0
        have h6 : (d == 1) = false := by simpa using hd1
        simp [b__law_rule_1, e1, h5, h6]
end SP
set_option Elab.async false
set_option linter.all false
set_option maxRecDepth 100000
set_option maxHeartbeats 4000000
/-! S10: drawn rules, wheels, books. -/
namespace SP
open PySem DL
theorem d_rule {wh : List Int} {n many c : Nat} {S : Sto} (hw : WhOk wh) (hm : 0 < many) (hm5 : many ≤ 5) (hB : Bg n c S) (hc : c ≤ 800000000) :
    ∃ (r : Rul) (S' : Sto), r.Ok wh many ∧ f__law_rule [.loc n, tpI wh, .int many] S = .ok r.W S' ∧ Keep n S.length S S' ∧ Bg n (c + 40) S' := by
  obtain ⟨d, S1, p1, p2, e1, l1, k1, b1⟩ := d_take hB (m := 6) (by omega) (by decide) (by omega)
  have l6 : 6 ≤ limit := by unfold limit; omega
  have l5 : 5 ≤ limit := by unfold limit; omega
  have l4 : 4 ≤ limit := by unfold limit; omega
  have l0 : 0 ≤ limit := Nat.zero_le _
  have i0 : ∃ t : Nat, t ≤ 4 ∧ L2.atI [W.int 1, .int 1, .int 0, .int 2, .int 3, .int 4] d = some (.int t) := by
    rcases (by omega : d = 0 ∨ d = 1 ∨ d = 2 ∨ d = 3 ∨ d = 4 ∨ d = 5) with rfl | rfl | rfl | rfl | rfl | rfl
    · exact ⟨1, by omega, rfl⟩
    · exact ⟨1, by omega, rfl⟩
    · exact ⟨0, by omega, rfl⟩
    · exact ⟨2, by omega, rfl⟩
    · exact ⟨3, by omega, rfl⟩
    · exact ⟨4, by omega, rfl⟩
  obtain ⟨t, ht, i0⟩ := i0
  have hcomp1 : ∀ a3 a4 a5 a6 a7 a8 a9 : Option W, ∃ (ys : List Cnd) (S' : Sto), ys.length = t ∧ (∀ y ∈ ys, y.Ok wh many) ∧ compM (lcStep [some (.loc n), some (tpI wh), some (.int many), a3, a4, a5, a6, a7, a8, a9] [9] (.nm 9) bYes (mCall f__law_condition (mCons (mVar 0) (mCons (mVar 1) (mCons (mVar 2) mNil))))) (rangeW 0 t) [] S1 = .ok (ys.map Cnd.w) S' ∧ Keep n S1.length S1 S' ∧ Bg n (c + 1 + 3 * t) S' := by
    intro a3 a4 a5 a6 a7 a8 a9
    have := comp_draw (w := Cnd.w) (P := fun y => y.Ok wh many) (step := lcStep [some (.loc n), some (tpI wh), some (.int many), a3, a4, a5, a6, a7, a8, a9] [9] (.nm 9) bYes (mCall f__law_condition (mCons (mVar 0) (mCons (mVar 1) (mCons (mVar 2) mNil))))) (n := n) (L := S1.length) (k := 3) (rangeW 0 t) [] S1 (c + 1) b1 (Nat.le_refl _) (by
      intro x hx S' c' hb hl hc'
      rw [rangeW_length] at hc'
      obtain ⟨y, S2, q1, q2, q3, q4⟩ := d_condition hw hm hm5 hb (by omega)
      exact ⟨y, S2, q1, by simp [lcStep, q2], q3.mono hl, q4⟩)
    rw [rangeW_length] at this
    simpa using this
  obtain ⟨ys, S2, yl, yP, e2, k2, b2⟩ := hcomp1 none none none none none none none
  obtain ⟨d2, S3, p3, p4, e3, l3, k3, b3⟩ := d_take b2 (m := 5) (by omega) (by decide) (by omega)
  have i1 : ∃ u : Nat, u ≤ 3 ∧ L2.atI [W.int 1, .int 1, .int 2, .int 0, .int 3] d2 = some (.int u) := by
    rcases (by omega : d2 = 0 ∨ d2 = 1 ∨ d2 = 2 ∨ d2 = 3 ∨ d2 = 4) with rfl | rfl | rfl | rfl | rfl
    · exact ⟨1, by omega, rfl⟩
    · exact ⟨1, by omega, rfl⟩
    · exact ⟨2, by omega, rfl⟩
    · exact ⟨0, by omega, rfl⟩
    · exact ⟨3, by omega, rfl⟩
  obtain ⟨u, hu, i1⟩ := i1
  have hcomp2 : ∃ (zs : List Chg) (S' : Sto), zs.length = u ∧ (∀ y ∈ zs, y.Ok wh) ∧ compM (lcStep [some (.loc n), some (tpI wh), some (.int many), some (.lst (ys.map Cnd.w)), none, none, none, none, none, none] [9] (.nm 9) bYes (mCall f__law_change (mCons (mVar 0) (mCons (mVar 1) mNil)))) (rangeW 0 u) [] S3 = .ok (zs.map Chg.W) S' ∧ Keep n S3.length S3 S' ∧ Bg n (c + 1 + 3 * t + 1 + 3 * u) S' := by
    have := comp_draw (w := Chg.W) (P := fun y => y.Ok wh) (step := lcStep [some (.loc n), some (tpI wh), some (.int many), some (.lst (ys.map Cnd.w)), none, none, none, none, none, none] [9] (.nm 9) bYes (mCall f__law_change (mCons (mVar 0) (mCons (mVar 1) mNil)))) (n := n) (L := S3.length) (k := 3) (rangeW 0 u) [] S3 (c + 1 + 3 * t + 1) b3 (Nat.le_refl _) (by
      intro x hx S' c' hb hl hc'
      rw [rangeW_length] at hc'
      obtain ⟨y, S2, q1, q2, q3, q4⟩ := d_change hw hb (by omega)
      exact ⟨y, S2, q1, by simp [lcStep, q2], q3.mono hl, q4⟩)
    rw [rangeW_length] at this
    simpa using this
  obtain ⟨zs, S4, zl, zP, e4, k4, b4⟩ := hcomp2
  have hn4 : n < S4.length := b4.lt
  obtain ⟨hus, wak, S5, x7, x8, r1, r2, r3, r4, r5, r6, r7, r8, r9, r10, r11⟩ := d_parts (n := n) (m1 := S4.length) (m2 := S4.length + 1) (many := many) (some (tpI wh)) (some (.lst (ys.map Cnd.w))) (some (.lst (zs.map Chg.W))) (by omega) (by omega) (by omega) hm5 many 0 [] [] (S4 ++ [.lst []] ++ [.lst []]) (c + 1 + 3 * t + 1 + 3 * u) none none none (by omega) ((b4.app _).app _) (by omega) (by simp) (by simp) (by simp) (by simp) (fun _ h => nomatch h) (by simp) (fun _ h => nomatch h) (by simp) (fun _ h => nomatch h)
  refine ⟨⟨ys, zs, hus, wak⟩, S5, ⟨by show ys.length ≤ 4; omega, yP, by show zs.length ≤ 3; omega, zP, r7, r8, r9, r10, r11⟩, ?_, ?_, r4.mono (by omega)⟩
  · have hr : (t : Int) < 4611686018427387904 := by omega
    have hr2 : (u : Int) < 4611686018427387904 := by omega
    have hr3 : (many : Int) < 4611686018427387904 := by omega
    have t1 : (rangeW 0 t).length ≤ limit := by rw [rangeW_length]; unfold limit; omega
    have t2 : (rangeW 0 u).length ≤ limit := by rw [rangeW_length]; unfold limit; omega
    simp only [List.append_assoc, List.cons_append, List.nil_append] at r1
    have r1' : forM (.nm 7) b__law_rule_1 (rangeW 0 many) [some (.loc n), some (tpI wh), some (.int many), some (.lst (ys.map Cnd.w)), some (.lst (zs.map Chg.W)), some (.loc S4.length), some (.loc (S4.length + 1)), none, none, none] (S4 ++ [.lst [], .lst []]) = _ := r1
    simp only [f__law_rule, o_fn, List.length_cons, List.length_nil]
    simp only [startW, List.map_cons, List.map_nil, o_seq, o_asg, o_lc, o_range1, o_idx, o_tup, o_cons, o_nil, o_con, o_call, o_var]
    simp [l6, l5, e1, i0, hr, t1, e2, e3, i1, hr2, t2, e4, l0, hr3, r1', r5, r6, l4, Rul.W]
  · refine (k1.trans ((k2.mono (by omega)).trans ((k3.mono (by have := k2.1; omega)).trans (k4.mono (by have := k2.1; omega))))).trans ⟨?_, fun i hi hne => ?_⟩
    · have h2 : (S4 ++ [Cell.lst []] ++ [Cell.lst []]).length = S4.length + 2 := by simp
      omega
    · have hi4 : i < S4.length := by have := k2.1; have := k3.1; have := k4.1; omega
      rw [r3 i hne (by omega) (by omega), List.append_assoc, List.getElem?_append_left hi4]
end SP
set_option Elab.async false
set_option linter.all false
set_option maxRecDepth 100000
set_option maxHeartbeats 4000000
/-! S11: drawn books and states. -/
namespace SP
open PySem DL
theorem d_rules {wh : List Int} {n many c : Nat} {S : Sto} (hw : WhOk wh) (hm5 : many ≤ 5) (hB : Bg n c S) (hc : c ≤ 700000000) :
    ∃ (rs : List Rul) (S' : Sto), rs.length = many ∧ (∀ r ∈ rs, r.Ok wh many) ∧ f__law_rules [.loc n, tpI wh, .int many] S = .ok (.tup (rs.map Rul.W)) S' ∧ Keep n S.length S S' ∧ Bg n (c + 40 * many) S' := by
  have := comp_draw (w := Rul.W) (P := fun y => y.Ok wh many) (step := lcStep [some (.loc n), some (tpI wh), some (.int many), none] [3] (.nm 3) bYes (mCall f__law_rule (mCons (mVar 0) (mCons (mVar 1) (mCons (mVar 2) mNil))))) (n := n) (L := S.length) (k := 40) (rangeW 0 many) [] S c hB (Nat.le_refl _) (by
    intro x hx S' c' hb hl hc'
    rw [rangeW_length] at hc'
    have hm : 0 < many := by
      cases many with
      | zero => cases hx
      | succ m => omega
    obtain ⟨y, S2, q1, q2, q3, q4⟩ := d_rule hw hm hm5 hb (by omega)
    exact ⟨y, S2, q1, by simp [lcStep, q2], q3.mono hl, q4⟩)
  rw [rangeW_length] at this
  obtain ⟨ys, S', h1, h2, h3, h4, h5⟩ := this
  rw [List.nil_append] at h3
  have hr : (many : Int) < 4611686018427387904 := by omega
  have t1 : (rangeW 0 many).length ≤ limit := by rw [rangeW_length]; unfold limit; omega
  exact ⟨ys, S', h1, h2, by simp [f__law_rules, startW, hr, t1, h3], h4, h5⟩
theorem prod_app (l : List Int) (x : Int) : (l ++ [x]).prod = l.prod * x := by
  induction l with
  | nil => simp
  | cons a l ih => rw [List.cons_append, List.prod_cons, List.prod_cons, ih, Int.mul_assoc]
theorem d_wheels_loop {n m : Nat} (hne : m ≠ n) : ∀ (t lo : Nat) (found : List Int) (S : Sto) (c : Nat) (x3 x4 : Option W), Bg n c S → c + t ≤ 900000000 → S[m]? = some (.lst (found.map W.int)) → found.length + t ≤ 3 → (∀ x ∈ found, 2 ≤ x ∧ x ≤ 4) → found.prod ≤ 24 → 1 ≤ found.prod →
    ∃ (found' : List Int) (S' : Sto) (x3' x4' : Option W), forM (.nm 3) b__law_wheels_1 (rangeW lo t) [some (.loc n), some (.loc m), some (.int found.prod), x3, x4] S = .nx [some (.loc n), some (.loc m), some (.int found'.prod), x3', x4'] S' ∧
      S'.length = S.length ∧ (∀ i, i ≠ n → i ≠ m → S'[i]? = S[i]?) ∧ Bg n (c + t) S' ∧ S'[m]? = some (.lst (found'.map W.int)) ∧ found'.length ≤ 3 ∧ (∀ x ∈ found', 2 ≤ x ∧ x ≤ 4) ∧ found'.prod ≤ 24 ∧ (0 < t → found = [] → found' ≠ []) ∧ (found ≠ [] → found' ≠ [])
  | 0, lo, found, S, c, x3, x4, hB, hc, hS, hl, hm, hp, hp1 => ⟨found, S, x3, x4, rfl, rfl, fun _ _ _ => rfl, hB, hS, by omega, hm, hp, fun h => by omega, fun h => h⟩
  | t + 1, lo, found, S, c, x3, x4, hB, hc, hS, hl, hm, hp, hp1 => by
    obtain ⟨d, S1, p1, p2, e1, l1, k1, b1⟩ := d_take hB (m := 3) (by omega) (by decide) (by omega)
    have ml : m < S.length := (List.getElem?_eq_some_iff.mp hS).1
    have g1 : S1[m]? = some (.lst (found.map W.int)) := by rw [k1.2 m ml hne]; exact hS
    have kk : ∀ i, i ≠ n → S1[i]? = S[i]? := fun i hi => by
      by_cases h : i < S.length
      · exact k1.2 i h hi
      · rw [List.getElem?_eq_none (by omega), List.getElem?_eq_none (by omega)]
    have er : rangeW (lo : Int) (t + 1) = .int lo :: rangeW ((lo + 1 : Nat) : Int) t := by rw [rangeW]; push_cast; rfl
    have hmu : mulOk found.prod (2 + d) = true := by
      unfold mulOk
      have h1 : -(2 ^ 64) < 2 + d := by omega
      have h2 : 2 + d < 2 ^ 64 := by omega
      rw [decide_eq_true h1, decide_eq_true h2]; simp
    have ll : found.length < limit := by unfold limit; omega
    by_cases h24 : found.prod * (2 + d) ≤ 24
    · have em : (found ++ [2 + d]).map W.int = found.map W.int ++ [.int (2 + d)] := by rw [List.map_append]; rfl
      obtain ⟨f', S', x3', x4', r1, r2, r3, r4, r5, r6, r7, r8, r9, r10⟩ := d_wheels_loop hne t (lo + 1) (found ++ [2 + d]) (S1.set m (.lst (found.map W.int ++ [.int (2 + d)]))) (c + 1) (some (.int lo)) (some (.int (2 + d))) (b1.set hne _) (by omega) (by rw [em]; exact List.getElem?_set_self (by omega)) (by rw [List.length_append, List.length_singleton]; omega)
        (fun x hx => by
          rcases List.mem_append.mp hx with hx | hx
          · exact hm x hx
          · have : x = 2 + d := by simpa using hx
            omega) (by rw [prod_app]; exact h24) (by rw [prod_app]; have := Int.mul_le_mul hp1 (show (1 : Int) ≤ 2 + d by omega) (by omega) (by omega); omega)
      refine ⟨f', S', x3', x4', ?_, by rw [r2, List.length_set]; omega, fun i i1 i2 => by rw [r3 i i1 i2, List.getElem?_set_ne (Ne.symm i2)]; exact kk i i1, r4.mono (by omega), r5, r6, r7, r8, fun _ _ => r10 (by simp), fun _ => r10 (by simp)⟩
      rw [er, for_cons, ← r1, prod_app]
      simp [b__law_wheels_1, e1, hmu, h24, isCell, g1, appR, ll]
    · have hf : found ≠ [] := fun e => by subst e; simp at h24; omega
      obtain ⟨f', S', x3', x4', r1, r2, r3, r4, r5, r6, r7, r8, r9, r10⟩ := d_wheels_loop hne t (lo + 1) found S1 (c + 1) (some (.int lo)) (some (.int (2 + d))) b1 (by omega) g1 (by omega) hm hp hp1
      refine ⟨f', S', x3', x4', ?_, by rw [r2]; omega, fun i i1 i2 => by rw [r3 i i1 i2]; exact kk i i1, r4.mono (by omega), r5, r6, r7, r8, fun _ e => absurd e hf, r10⟩
      rw [er, for_cons, ← r1]
      simp [b__law_wheels_1, e1, hmu, h24]
theorem d_wheels {n c : Nat} {S : Sto} (hB : Bg n c S) (hc : c ≤ 700000000) :
    ∃ (wh : List Int) (S' : Sto), WhOk wh ∧ f__law_wheels [.loc n] S = .ok (tpI wh) S' ∧ Keep n S.length S S' ∧ Bg n (c + 4) S' := by
  have l0 : 0 ≤ limit := Nat.zero_le _
  have hn : n < S.length := hB.lt
  obtain ⟨d, S1, p1, p2, e1, l1, k1, b1⟩ := d_take (hB.app [.lst []]) (m := 3) (by omega) (by decide) (by omega)
  rw [List.length_append, List.length_singleton] at l1 k1
  have hS1 : S1[S.length]? = some (.lst (([] : List Int).map W.int)) := by
    rw [k1.2 S.length (by omega) (by omega)]; simp
  obtain ⟨f, S2, x3, x4, r1, r2, r3, r4, r5, r6, r7, r8, r9, r10⟩ := d_wheels_loop (n := n) (m := S.length) (by omega) (1 + d.toNat) 0 [] S1 (c + 1) none none b1 (by omega) hS1 (by simp; omega) (fun _ h => nomatch h) (by decide) (by decide)
  have hr : (1 + d : Int) < 4611686018427387904 := by omega
  have hr0 : -4611686018427387904 ≤ (1 + d : Int) := by omega
  have hd : (1 + d).toNat = 1 + d.toNat := by omega
  refine ⟨f, S2, ⟨?_, r6, r7, r8⟩, ?_, ?_, r4.mono (by omega)⟩
  · have := r9 (by omega) rfl
    cases f with
    | nil => exact absurd rfl this
    | cons _ _ => simp
  · have r1' : forM (.nm 3) b__law_wheels_1 (rangeW 0 (1 + d.toNat)) [some (.loc n), some (.loc S.length), some (.int 1), none, none] S1 = _ := r1
    simp [f__law_wheels, startW, l0, e1, hr, hr0, hd, r1', r5]
  · refine ⟨by rw [r2, l1]; omega, fun i hi hne => ?_⟩
    rw [r3 i hne (by omega), k1.2 i (by omega) hne, List.getElem?_append_left hi]
theorem d_drawn {n c : Nat} {S : Sto} (hB : Bg n c S) (hc : c ≤ 600000000) :
    ∃ (b : Bk) (S' : Sto), b.Ok ∧ f__law_drawn [.loc n] S = .ok (.tup [tpI b.wh, .tup (b.ru.map Rul.W)]) S' ∧ Keep n S.length S S' ∧ Bg n (c + 205) S' := by
  have l6 : 6 ≤ limit := by unfold limit; omega
  have l2 : 2 ≤ limit := by unfold limit; omega
  obtain ⟨wh, S1, hw, e1, k1, b1⟩ := d_wheels hB (by omega)
  obtain ⟨d, S2, p1, p2, e2, l2', k2, b2⟩ := d_take b1 (m := 6) (by omega) (by decide) (by omega)
  have i0 : ∃ t : Nat, t ≤ 5 ∧ L2.atI [W.int 3, .int 5, .int 2, .int 4, .int 1, .int 0] d = some (.int t) := by
    rcases (by omega : d = 0 ∨ d = 1 ∨ d = 2 ∨ d = 3 ∨ d = 4 ∨ d = 5) with rfl | rfl | rfl | rfl | rfl | rfl
    · exact ⟨3, by omega, rfl⟩
    · exact ⟨5, by omega, rfl⟩
    · exact ⟨2, by omega, rfl⟩
    · exact ⟨4, by omega, rfl⟩
    · exact ⟨1, by omega, rfl⟩
    · exact ⟨0, by omega, rfl⟩
  obtain ⟨t, ht, i0⟩ := i0
  obtain ⟨rs, S3, q1, q2, q3, q4, q5⟩ := d_rules hw ht b2 (by omega)
  refine ⟨⟨wh, rs⟩, S3, ⟨hw, by show rs.length ≤ 5; omega, by show ∀ r ∈ rs, r.Ok wh rs.length; rw [q1]; exact q2⟩, ?_, (k1.trans (k2.mono k1.1)).trans (q4.mono (by have := k1.1; omega)), q5.mono (by omega)⟩
  simp [f__law_drawn, startW, e1, l6, e2, i0, q3, l2]
/-- any places of some wheels -/
theorem d_places {wh : List Int} {n c : Nat} {S : Sto} {el : Me} {ρ : DL.Env} {vs : List Nat} {tg : Tg} (hw : WhOk wh) (hB : Bg n c S) (hc : c ≤ 800000000) (hstep : ∀ x S y S', f__law_take [.loc n, .int x] S = .ok y S' → lcStep ρ vs tg bYes el (.int x) S = .ok [y] S') :
    ∃ (us : List Int) (S' : Sto), us.length = wh.length ∧ (∀ i, Ix wh.length i → 0 ≤ gi us i ∧ gi us i < gi wh i) ∧ compM (lcStep ρ vs tg bYes el) (wh.map W.int) [] S = .ok (us.map W.int) S' ∧ S'.length = S.length ∧ Keep n S.length S S' ∧ Bg n (c + wh.length) S' := by
  have key : ∀ (l : List Int) (acc : List W) (S : Sto) (c : Nat), (∀ x ∈ l, 2 ≤ x ∧ x ≤ 4) → Bg n c S → c + l.length ≤ 900000000 → ∃ (us : List Int) (S' : Sto), us.length = l.length ∧ (∀ i, Ix l.length i → 0 ≤ gi us i ∧ gi us i < gi l i) ∧ compM (lcStep ρ vs tg bYes el) (l.map W.int) acc S = .ok (acc ++ us.map W.int) S' ∧ S'.length = S.length ∧ Keep n S.length S S' ∧ Bg n (c + l.length) S' := by
    intro l
    induction l with
    | nil => intro acc S c _ hB _; exact ⟨[], S, rfl, fun i hi => by have h0 := hi.1; have h1 := hi.2; simp at h1; omega, by simp, rfl, Keep.refl _ _ _, hB⟩
    | cons x l ih =>
      intro acc S c hx hB hc
      have h0 := hx x (List.mem_cons_self ..)
      rw [List.length_cons] at hc
      obtain ⟨d, S1, p1, p2, e1, l1, k1, b1⟩ := d_take hB (m := x) (by omega) (small_div (by omega)) (by omega)
      obtain ⟨us, S2, q1, q2, q3, q4, q5, q6⟩ := ih (acc ++ [.int d]) S1 (c + 1) (fun y hy => hx y (List.mem_cons_of_mem _ hy)) b1 (by omega)
      refine ⟨d :: us, S2, by rw [List.length_cons, List.length_cons, q1], fun i hi => ?_, ?_, by omega, k1.trans (q5.mono (by omega)), q6.mono (by rw [List.length_cons]; omega)⟩
      · obtain ⟨h1, h2⟩ := hi
        rw [List.length_cons] at h2
        by_cases hi0 : i = 0
        · subst hi0; exact ⟨p1, p2⟩
        · have := q2 (i - 1) ⟨by omega, by omega⟩
          unfold gi at this ⊢
          rw [show i.toNat = (i - 1).toNat + 1 by omega]
          simpa using this
      · rw [List.map_cons]
        show (lcStep ρ vs tg bYes el (.int x) S).bindL _ = _
        rw [hstep _ _ _ _ e1]
        show compM _ _ (acc ++ [.int d]) S1 = _
        rw [q3, List.map_cons, List.append_assoc]; rfl
  have := key wh [] S c hw.m hB (by have := hw.l1; omega)
  simpa using this
theorem d_state {b : Bk} {n c : Nat} {S : Sto} (hb : b.Ok) (hB : Bg n c S) (hc : c ≤ 600000000) :
    ∃ (s : Sta) (S' : Sto), StOk b s ∧ f__law_state [.loc n, tpI b.wh, .int b.ru.length] S = .ok (stW s) S' ∧ Keep n S.length S S' ∧ Bg n (c + 8) S' := by
  have l2 : 2 ≤ limit := by unfold limit; omega
  have l4 : 4 ≤ limit := by unfold limit; omega
  have hn := hb.n
  have hl : b.wh.length ≤ limit := l_small hb.w.l1
  obtain ⟨us, S1, q1, q2, q3, q4, q5, q6⟩ := d_places (ρ := [some (.loc n), some (tpI b.wh), some (.int b.ru.length), none, none, none]) (vs := [4]) (tg := .nm 4) (el := mCall f__law_take (mCons (mVar 0) (mCons (mVar 4) mNil))) hb.w hB (by omega) (by
    intro x S y S' e
    simp [lcStep, e])
  have := comp_draw (w := W.int) (P := fun h => 0 ≤ h ∧ h ≤ 2) (step := lcStep [some (.loc n), some (tpI b.wh), some (.int b.ru.length), some (tpI us), none, none] [5] (.nm 5) bYes (mIdx (mTup (mCons (mCon (.int 0)) (mCons (mCon (.int 0)) (mCons (mCon (.int 1)) (mCons (mCon (.int 2)) mNil))))) (mCall f__law_take (mCons (mVar 0) (mCons (mCon (.int 4)) mNil))))) (n := n) (L := S1.length) (k := 1) (rangeW 0 b.ru.length) [] S1 (c + b.wh.length) q6 (Nat.le_refl _) (by
    intro x hx S' c' hb' hl' hc'
    rw [rangeW_length] at hc'
    have := hb.w.l1
    obtain ⟨d, S2, p1, p2, e1, l1, k1, b1⟩ := d_take hb' (m := 4) (by omega) (by decide) (by omega)
    have i0 : ∃ t : Int, (0 ≤ t ∧ t ≤ 2) ∧ L2.atI [W.int 0, .int 0, .int 1, .int 2] d = some (.int t) := by
      rcases (by omega : d = 0 ∨ d = 1 ∨ d = 2 ∨ d = 3) with rfl | rfl | rfl | rfl
      · exact ⟨0, by omega, rfl⟩
      · exact ⟨0, by omega, rfl⟩
      · exact ⟨1, by omega, rfl⟩
      · exact ⟨2, by omega, rfl⟩
    obtain ⟨t, ht, i0⟩ := i0
    exact ⟨t, S2, ht, by simp [lcStep, l4, e1, i0], k1.mono hl', b1⟩)
  rw [rangeW_length] at this
  obtain ⟨hs, S2, h1, h2, h3, h4, h5⟩ := this
  rw [List.nil_append] at h3
  have hr : (b.ru.length : Int) < 4611686018427387904 := by omega
  have t1 : (rangeW 0 b.ru.length).length ≤ limit := by rw [rangeW_length]; unfold limit; omega
  have := hb.w.l1
  refine ⟨(us, hs), S2, ⟨q1, q2, h1, h2⟩, ?_, q5.trans (h4.mono (by omega)), h5.mono (by omega)⟩
  simp [f__law_state, startW, hl, q3, hr, t1, h3, l2, stW]
end SP
set_option Elab.async false
set_option linter.all false
set_option maxRecDepth 100000
set_option maxHeartbeats 4000000
/-! S12: the bag itself; far numbers; the law's own beat. -/
namespace SP
open PySem DL
abbrev scr (ns : List Int) : W := .lst (ns.map W.int)
theorem d_bag {S : Sto} {k : Nat} (ns : List Int) (hk : k < 100) :
    ∃ S', f__law_bag [scr ns, .int k] S = .ok (.loc S.length) S' ∧ S'.length = S.length + 1 ∧ Keep S.length S.length S S' ∧ Bg S.length 0 S' := by
  have cell : ∃ cell : Int, (if k < ns.length then L2.atI (ns.map W.int) k else some (.int 0)) = some (.int cell) := by
    split
    · rename_i h
      exact ⟨ns[k], by simp [L2.atI, L2.ixN, h]⟩
    · exact ⟨0, rfl⟩
  obtain ⟨z, hz⟩ := cell
  have p1 : mulOk 104729 k = true := by simp [mulOk]
  have hm : 0 ≤ z % 2147483647 := Int.emod_nonneg _ (by omega)
  have hm2 : z % 2147483647 < 2147483647 := Int.emod_lt_of_pos _ (by omega)
  have p2 : (z % 2147483647 + 104729 * (k : Int) + 7).natAbs < 18446744073709551616 := by omega
  have hp : ∃ q : Int, 0 < q ∧ L2.atI [W.int 2147483629, .int 2147483587, .int 2147483579, .int 2147483563, .int 2147483549, .int 2147483543, .int 2147483497, .int 2147483489] ((k : Int) % 8) = some (.int q) := by
    have : k % 8 = 0 ∨ k % 8 = 1 ∨ k % 8 = 2 ∨ k % 8 = 3 ∨ k % 8 = 4 ∨ k % 8 = 5 ∨ k % 8 = 6 ∨ k % 8 = 7 := by omega
    have e : ((k : Int) % 8) = ((k % 8 : Nat) : Int) := by omega
    rw [e]
    rcases this with h | h | h | h | h | h | h | h <;> rw [h] <;> exact ⟨_, by decide, rfl⟩
  obtain ⟨q, hq, hq2⟩ := hp
  have l8 : 8 ≤ limit := by unfold limit; omega
  have l3 : 3 ≤ limit := by unfold limit; omega
  have fin : ∀ g b : Int, f__law_bag [scr ns, .int k] S = .ok (.loc S.length) (S ++ [.lst [.int g, .int b, .int 0]]) → ∃ S', f__law_bag [scr ns, .int k] S = .ok (.loc S.length) S' ∧ S'.length = S.length + 1 ∧ Keep S.length S.length S S' ∧ Bg S.length 0 S' := fun g b e =>
    ⟨_, e, by simp, Keep.app _ _ _, ⟨g, b, 0, by simp, by omega, by omega⟩⟩
  by_cases h1 : k < ns.length
  · have hzz : L2.atI (ns.map W.int) k = some (.int z) := by rw [if_pos h1] at hz; exact hz
    by_cases h2 : (1000000000000000000 : Int) ≤ (if z < 0 then -z else z)
    · refine fin (if z < 0 then -z else z) ((z % 2147483647 + 104729 * (k : Int) + 7) ^ 5 % q) ?_
      simp [f__law_bag, startW, p1, hq, hq2, p2, hzz, h1, h2, l8, l3]
    · refine fin 0 ((z % 2147483647 + 104729 * (k : Int) + 7) ^ 5 % q) ?_
      simp [f__law_bag, startW, p1, hq, hq2, p2, hzz, h1, h2, l8, l3]
  · have p3 : (104729 * (k : Int) + 7).natAbs < 18446744073709551616 := by omega
    refine fin 0 ((104729 * (k : Int) + 7) ^ 5 % q) ?_
    simp [f__law_bag, startW, p1, hq, hq2, p3, h1, l8, l3]
end SP
set_option Elab.async false
set_option linter.all false
set_option maxRecDepth 100000
set_option maxHeartbeats 4000000
/-! S13: the law's own beat (as in k07, k13 .. k20). -/
namespace SP
open PySem DL
end SP
set_option Elab.async false
set_option linter.all false
set_option maxRecDepth 100000
set_option maxHeartbeats 4000000
/-! S14: a beat by any order. -/
namespace SP
open PySem DL
@[simp] theorem o_sorted (ρ : DL.Env) (S : Sto) (a : Me) (k : List W → Sto → Res) : mSorted k a ρ S = (a ρ S).bind fun x S => match (items (deref S x)).bind allI with
  | some ns => k ((srtI ns).map W.int) S
  | none => .bad := (rfl)
@[simp] theorem allI_ints : ∀ l : List Int, allI (l.map W.int) = some l
  | [] => rfl
  | a :: l => by rw [List.map_cons, allI, allI_ints l]; rfl
@[simp] theorem kLst_d (ws : List W) (S : Sto) : kLst ws S = .ok (.lst ws) S := (rfl)
@[simp] theorem kTup_d (ws : List W) (S : Sto) : kTup ws S = .ok (.tup ws) S := (rfl)
@[simp] theorem is_nn : cmpop .Is .non .non = some true := (rfl)
@[simp] theorem is_tn (ws : List W) : cmpop .Is (.tup ws) .non = some false := (rfl)
noncomputable def rbeg (b : Bk) (off : List Int) (s : Sta) : Nat := (trk b off s).2
noncomputable def rlen (b : Bk) (off : List Int) (s : Sta) : Nat := (trk b off s).1.length - (trk b off s).2
theorem rlen_pos {b : Bk} (hb : b.Ok) {off : List Int} {s : Sta} (hs : StOk b s) : 0 < rlen b off s := (trk_spec hb (off := off) hs).len0
theorem itr_rounds {b : Bk} (hb : b.Ok) {off : List Int} {s : Sta} (hs : StOk b s) {n : Nat} (h : rbeg b off s ≤ n) (k : Nat) : itr (tst b off) (n + k * rlen b off s) s = itr (tst b off) n s := (trk_spec hb (off := off) hs).rounds n h k
theorem trk_few {b : Bk} (hb : b.Ok) {off : List Int} {s : Sta} (hs : StOk b s) : (trk b off s).1.length ≤ 5832 := by
  have t := trk_spec hb (off := off) hs
  refine few hb t.nd fun x hx => ?_
  obtain ⟨i, hi, e⟩ := List.getElem_of_mem hx
  have := t.at_ i hi
  rw [List.getElem?_eq_getElem hi] at this
  rw [← e, Option.some.inj this]; exact itr_ok hb hs i
theorem rb_few {b : Bk} (hb : b.Ok) {off : List Int} {s : Sta} (hs : StOk b s) : rbeg b off s + rlen b off s ≤ 5832 := by
  have h := (trk_spec hb (off := off) hs).lt
  have := trk_few hb (off := off) hs
  unfold rbeg rlen; omega
end SP
set_option Elab.async false
set_option linter.all false
set_option maxRecDepth 100000
set_option maxHeartbeats 4000000
/-! S63: the program's looks at any plain data. -/
namespace SP
open PySem DL
theorem nlL_of {ws : List W} (h : ∀ w ∈ ws, w.nl = true) : nlL ws = true := by
  induction ws with
  | nil => rfl
  | cons w ws ih =>
    show (w.nl && nlL ws) = true
    rw [h w (List.mem_cons_self ..), ih fun x hx => h x (List.mem_cons_of_mem _ hx)]; rfl
theorem nopL_of {ws : List W} (h : ∀ w ∈ ws, w.nop = true) : nopL ws = true := by
  induction ws with
  | nil => rfl
  | cons w ws ih =>
    show (w.nop && nopL ws) = true
    rw [h w (List.mem_cons_self ..), ih fun x hx => h x (List.mem_cons_of_mem _ hx)]; rfl
theorem plain_nl : ∀ (n : Nat) (w : W), W.plain n w = true → w.nl = true ∧ w.nop = true
  | n, .non, _ => ⟨rfl, rfl⟩
  | n, .bl _, _ => ⟨rfl, rfl⟩
  | n, .int _, _ => ⟨rfl, rfl⟩
  | n, .str _, _ => ⟨rfl, rfl⟩
  | 0, .tup ws, h => by simp [W.plain] at h
  | 0, .lst ws, h => by simp [W.plain] at h
  | n + 1, .tup ws, h => ⟨nlL_of fun w hw => (plain_nl n w (plainL_mem h hw)).1, nopL_of fun w hw => (plain_nl n w (plainL_mem h hw)).2⟩
  | n + 1, .lst ws, h => ⟨nlL_of fun w hw => (plain_nl n w (plainL_mem h hw)).1, nopL_of fun w hw => (plain_nl n w (plainL_mem h hw)).2⟩
  | n, .ins _ _, h => by simp [W.plain] at h
  | n, .loc _, h => by simp [W.plain] at h
  | n, .tpx _, h => by simp [W.plain] at h
  | n, .opq _ _, h => by simp [W.plain] at h
  | n, .lam, h => by simp [W.plain] at h
theorem plainL_of {n : Nat} {ws : List W} (h : ∀ w ∈ ws, W.plain n w = true) : W.plainL n ws = true := by
  induction ws with
  | nil => rfl
  | cons w ws ih => rw [W.plainL, h w (List.mem_cons_self ..), ih fun x hx => h x (List.mem_cons_of_mem _ hx)]; rfl
theorem plain_up : ∀ (n : Nat) (w : W) (m : Nat), n ≤ m → W.plain n w = true → W.plain m w = true
  | n, .non, m, _, _ => by simp [W.plain]
  | n, .bl _, m, _, _ => by simp [W.plain]
  | n, .int _, m, _, _ => by simp [W.plain]
  | n, .str x, m, _, h => by simpa [W.plain] using h
  | 0, .tup ws, m, _, h => by simp [W.plain] at h
  | 0, .lst ws, m, _, h => by simp [W.plain] at h
  | n + 1, .tup ws, m + 1, hm, h => plainL_of fun w hw => plain_up n w m (by omega) (plainL_mem h hw)
  | n + 1, .lst ws, m + 1, hm, h => plainL_of fun w hw => plain_up n w m (by omega) (plainL_mem h hw)
  | n, .ins _ _, m, _, h => by simp [W.plain] at h
  | n, .loc _, m, _, h => by simp [W.plain] at h
  | n, .tpx _, m, _, h => by simp [W.plain] at h
  | n, .opq _ _, m, _, h => by simp [W.plain] at h
  | n, .lam, m, _, h => by simp [W.plain] at h
theorem plain_deref {n : Nat} {w : W} (h : W.plain n w = true) (S : Sto) : deref S w = w := by cases w <;> first | rfl | simp [W.plain] at h
theorem plain_derefF {n : Nat} {w : W} (h : W.plain n w = true) (S : Sto) : derefF S w = w := by cases w <;> first | rfl | simp [W.plain] at h
/-- a whole number from lo below hi, and no bool -/
def isN (lo hi : Int) : W → Bool
  | .int i => decide (lo ≤ i) && decide (i < hi)
  | _ => false
theorem a_whole {n : Nat} {w : W} (h : W.plain n w = true) (S : Sto) : pureR (f_is_whole [w] []) S = .ok (.bl (match w with | .int _ => true | _ => false)) S := by
  cases w with
  | int i => exact e_is_whole i S
  | bl k => simp [f_is_whole, startW]
  | non => simp [f_is_whole, startW, isTy]
  | str x => simp [f_is_whole, startW, isTy]
  | tup ws => simp [f_is_whole, startW, isTy]
  | lst ws => simp [f_is_whole, startW, isTy]
  | _ => simp [W.plain] at h
theorem a_from {n : Nat} {w : W} (h : W.plain n w = true) (lo hi : Int) (S : Sto) : pureR (f_is_from [w, .int lo, .int hi] []) S = .ok (.bl (isN lo hi w)) S := by
  have e := a_whole h
  cases w with
  | int i => exact e_is_from i lo hi S
  | bl k => simp [f_is_from, startW, e, isN]
  | non => simp [f_is_from, startW, e, isN]
  | str x => simp [f_is_from, startW, e, isN]
  | tup ws => have hn : nlL ws = true := (plain_nl _ _ h).1; simp [f_is_from, startW, e, isN, hn]
  | lst ws => have hn : nlL ws = true := (plain_nl _ _ h).1; simp [f_is_from, startW, e, isN, hn]
  | _ => simp [W.plain] at h
theorem all_of {α : Type} (l : List α) (f : α → Bool) : DL.prim .all [.lst (l.map fun a => .bl (f a))] = some (.bl (l.all f)) := by
  have k := allB_map f l
  rw [p_all, k, Option.map_some, List.all_map]; rfl
/-- values of a book's wheels -/
def isVs (wh : List Int) : W → Bool
  | .tup vs => decide (vs.length = wh.length) && (vs.zip wh).all fun p => isN 0 p.2 p.1
  | _ => false
/-- a state of a book -/
def isSt (b : Bk) : W → Bool
  | .tup [v, .tup hs] => isVs b.wh v && decide (hs.length = b.ru.length) && hs.all (isN 0 3)
  | _ => false
end SP
set_option Elab.async false
set_option linter.all false
set_option maxRecDepth 100000
set_option maxHeartbeats 4000000
/-! S15: how often a rule does. -/
namespace SP
open PySem DL
/-- the first n beats' deeds -/
def dn (b : Bk) (off : List Int) (s : Sta) (n : Nat) : List (List Int) := (List.range n).map fun i => tdn b off (itr (tst b off) i s)
def cnt (b : Bk) (off : List Int) (s : Sta) (r : Int) (n : Nat) : Nat := (dn b off s n).countP fun d => d.contains r
theorem cnt_succ (b : Bk) (off : List Int) (s : Sta) (r : Int) (n : Nat) : cnt b off s r (n + 1) = cnt b off s r n + (if (tdn b off (itr (tst b off) n s)).contains r then 1 else 0) := by
  unfold cnt dn
  rw [List.range_succ, List.map_append, List.countP_append, List.map_singleton, List.countP_singleton]
theorem cnt_add (b : Bk) (off : List Int) (s : Sta) (r : Int) (m : Nat) : ∀ n, cnt b off s r (m + n) = cnt b off s r m + cnt b off (itr (tst b off) m s) r n
  | 0 => rfl
  | n + 1 => by rw [← Nat.add_assoc, cnt_succ, cnt_add b off s r m n, cnt_succ, itr_add, Nat.add_assoc]
theorem cnt_round {b : Bk} (hb : b.Ok) {off : List Int} {s : Sta} (hs : StOk b s) (r : Int) {n : Nat} (h : rbeg b off s ≤ n) : cnt b off (itr (tst b off) n s) r (rlen b off s) = cnt b off (itr (tst b off) (rbeg b off s) s) r (rlen b off s) := by
  have key : ∀ k, cnt b off (itr (tst b off) (rbeg b off s + k) s) r (rlen b off s) = cnt b off (itr (tst b off) (rbeg b off s) s) r (rlen b off s) := by
    intro k
    induction k with
    | zero => rfl
    | succ k ih =>
      rw [← ih]
      have e1 := cnt_add b off (itr (tst b off) (rbeg b off s + k) s) r (rlen b off s) 1
      have e2 := cnt_add b off (itr (tst b off) (rbeg b off s + k) s) r 1 (rlen b off s)
      rw [Nat.add_comm 1, e1, ← itr_add, ← itr_add] at e2
      have hr := itr_rounds hb hs (off := off) (n := rbeg b off s + k) (by omega) 1
      rw [Nat.one_mul] at hr
      rw [hr] at e2
      rw [← Nat.add_assoc]
      omega
  have := key (n - rbeg b off s)
  rwa [show rbeg b off s + (n - rbeg b off s) = n by omega] at this
theorem cnt_rounds {b : Bk} (hb : b.Ok) {off : List Int} {s : Sta} (hs : StOk b s) (r : Int) {n : Nat} (h : rbeg b off s ≤ n) : ∀ k, cnt b off (itr (tst b off) n s) r (k * rlen b off s) = k * cnt b off (itr (tst b off) (rbeg b off s) s) r (rlen b off s)
  | 0 => by rw [Nat.zero_mul, Nat.zero_mul]; rfl
  | k + 1 => by
    rw [Nat.add_mul, Nat.one_mul, cnt_add, cnt_rounds hb hs r h k, ← itr_add, cnt_round hb hs r (n := n + k * rlen b off s) (by omega), Nat.add_mul, Nat.one_mul]
/-- the beats among the first ones at which a rule does -/
def tu (r : Int) : Int → List (List Int) → List Int
  | _, [] => []
  | k, d :: l => if d.contains r then k :: tu r (k + 1) l else tu r (k + 1) l
theorem tu_lt (r : Int) : ∀ (l : List (List Int)) (k : Int) (j : Nat), ((tu r k l).filter fun a => decide (a < k + j)).length = (l.take j).countP fun d => d.contains r
  | [], k, j => by cases j <;> rfl
  | d :: l, k, 0 => by
    have key : ∀ (l : List (List Int)) (m : Int), k ≤ m → (tu r m l).filter (fun a => decide (a < k + (0 : Nat))) = [] := by
      intro l
      induction l with
      | nil => intro m _; rfl
      | cons d l ih =>
        intro m hm
        unfold tu
        split
        · rw [List.filter_cons, ih (m + 1) (by omega), decide_eq_false (by omega)]; rfl
        · exact ih (m + 1) (by omega)
    rw [key _ _ (by omega)]; rfl
  | d :: l, k, j + 1 => by
    have ih := tu_lt r l (k + 1) j
    rw [show k + 1 + (j : Int) = k + ((j + 1 : Nat) : Int) by omega] at ih
    unfold tu
    rw [List.take_succ_cons, List.countP_cons]
    split
    · rename_i h
      rw [List.filter_cons, decide_eq_true (show k < k + ((j + 1 : Nat) : Int) by omega)]
      simp only [if_true, List.length_cons, ih]
    · rename_i h
      rw [ih]; omega
theorem tu_ge (r : Int) : ∀ (l : List (List Int)) (k : Int), ∀ a ∈ tu r k l, k ≤ a ∧ a < k + l.length
  | [], k, a, h => by cases h
  | d :: l, k, a, h => by
    unfold tu at h
    rw [List.length_cons]
    split at h
    · rcases List.mem_cons.mp h with rfl | h
      · omega
      · have := tu_ge r l (k + 1) a h; omega
    · have := tu_ge r l (k + 1) a h; omega
theorem tu_all (r : Int) (l : List (List Int)) (k : Int) : (tu r k l).length = l.countP fun d => d.contains r := by
  have := tu_lt r l k l.length
  rw [List.take_length] at this
  rw [← this]
  congr 1
  rw [List.filter_eq_self.mpr]
  intro a ha
  have := tu_ge r l k a ha
  exact decide_eq_true this.2
theorem dn_take (b : Bk) (off : List Int) (s : Sta) {j m : Nat} (h : j ≤ m) : (dn b off s m).take j = dn b off s j := by
  unfold dn
  rw [← List.map_take, List.take_range, Nat.min_eq_left h]
theorem trk_dn {b : Bk} (hb : b.Ok) {off : List Int} {s : Sta} (hs : StOk b s) : (trk b off s).1.map (tdn b off) = dn b off s (trk b off s).1.length := by
  have t := trk_spec hb (off := off) hs
  apply List.ext_getElem?
  intro i
  unfold dn
  rw [List.getElem?_map, List.getElem?_map]
  by_cases h : i < (trk b off s).1.length
  · rw [t.at_ i h, List.getElem?_range h]; rfl
  · rw [List.getElem?_eq_none (by omega), List.getElem?_eq_none (by rw [List.length_range]; omega)]; rfl
noncomputable def tus (b : Bk) (off : List Int) (s : Sta) (r : Int) : List Int := tu r 0 ((trk b off s).1.map (tdn b off))
theorem tus_lt {b : Bk} (hb : b.Ok) {off : List Int} {s : Sta} (hs : StOk b s) (r : Int) {n : Nat} (h : n ≤ (trk b off s).1.length) : ((tus b off s r).filter fun a => decide (a < (n : Int))).length = cnt b off s r n := by
  have := tu_lt r ((trk b off s).1.map (tdn b off)) 0 n
  rw [Int.zero_add] at this
  unfold tus
  rw [this, trk_dn hb hs, dn_take b off s h]; rfl
theorem tus_len {b : Bk} (hb : b.Ok) {off : List Int} {s : Sta} (hs : StOk b s) (r : Int) : (tus b off s r).length = cnt b off s r (trk b off s).1.length := by
  unfold tus
  rw [tu_all, trk_dn hb hs]; rfl
theorem tus_le {b : Bk} (hb : b.Ok) {off : List Int} {s : Sta} (hs : StOk b s) (r : Int) : (tus b off s r).length ≤ 5832 := by
  rw [tus_len hb hs]
  unfold cnt
  refine Nat.le_trans List.countP_le_length ?_
  unfold dn
  rw [List.length_map, List.length_range]; exact trk_few hb hs
theorem filt_split (T : List Int) {a c : Int} (h : a ≤ c) : (T.filter fun x => decide (x < c)).length = (T.filter fun x => decide (x < a)).length + ((T.filter fun x => decide (a ≤ x)).filter fun x => decide (x < c)).length := by
  induction T with
  | nil => rfl
  | cons x T ih =>
    rw [List.filter_cons, List.filter_cons, List.filter_cons (p := fun x => decide (a ≤ x))]
    by_cases h1 : x < a
    · rw [decide_eq_true h1, decide_eq_true (show x < c by omega), decide_eq_false (show ¬ a ≤ x by omega)]
      simp only [if_true, if_false, List.length_cons, ih, Bool.false_eq_true]; omega
    · rw [decide_eq_false h1, decide_eq_true (show a ≤ x by omega)]
      simp only [if_true, if_false, Bool.false_eq_true]
      rw [List.filter_cons]
      by_cases h2 : x < c
      · rw [decide_eq_true h2]
        simp only [if_true, List.length_cons, ih]; omega
      · rw [decide_eq_false h2]
        simp only [if_false, Bool.false_eq_true, ih]
theorem flat_if {α β : Type} (p : α → Bool) (f : α → β) (l : List α) : (l.flatMap fun a => if p a then [f a] else []) = (l.filter p).map f := by
  induction l with
  | nil => rfl
  | cons a l ih =>
    rw [List.flatMap_cons, ih, List.filter_cons]
    cases p a <;> rfl
/-- a comprehension with a test over data that is told -/
theorem lc_if {α : Type} {l : List α} {e f : α → W} {p : α → Bool} {ρ : DL.Env} {S : Sto} {vs : List Nat} {tg : Tg} {c : Mb} {el : Me} (h : ∀ a ∈ l, lcStep ρ vs tg c el (e a) S = .ok (if p a then [f a] else []) S) : compM (lcStep ρ vs tg c el) (l.map e) [] S = .ok ((l.filter p).map f) S := by
  rw [lc_filter (g := fun a => if p a then [f a] else []) h, flat_if]
theorem turns_comp (r : Int) (step : W → Sto → LRes) (h : ∀ (i : Int) (d : List Int) S, step (.tup [.int i, tpI d]) S = .ok (if d.contains r then [.int i] else []) S) : ∀ (l : List (List Int)) (k : Int) (acc : List W) (S : Sto), compM step (jEnum.enumI k (l.map fun d => tpI d)) acc S = .ok (acc ++ (tu r k l).map W.int) S
  | [], k, acc, S => by simp [jEnum.enumI, tu]
  | d :: l, k, acc, S => by
    rw [List.map_cons, jEnum.enumI]
    show (step _ S).bindL _ = _
    rw [h k d S]
    show compM step _ (acc ++ _) S = _
    rw [turns_comp r step h l (k + 1)]
    have et : tu r k (d :: l) = if d.contains r then k :: tu r (k + 1) l else tu r (k + 1) l := rfl
    rw [et]
    cases d.contains r <;> simp
theorem enum_len (l : List W) : ∀ k, (jEnum.enumI k l).length = l.length := fun k => enumI_len l k
theorem e_turns {b : Bk} (hb : b.Ok) {off : List Int} {s : Sta} (hs : StOk b s) (r : Int) (S : Sto) : pureR (f_Track_turns [trO b off s, .int r] []) S = .ok (lsI (tus b off s r)) S := by
  have hl : (jEnum.enumI 0 (((trk b off s).1.map (tdn b off)).map fun d => tpI d)).length ≤ limit := by rw [enum_len, List.length_map, List.length_map]; exact l_small (trk_few hb hs)
  have hc := turns_comp r (lcStep [some (trO b off s), some (.int r), none, none] [2, 3] (.tup [2, 3]) (bTest (mCmp .In (mVar 1) (mVar 3))) (mVar 2)) (fun i d S => by
    by_cases h : r ∈ d <;> simp [lcStep, mem_ints, h]) ((trk b off s).1.map (tdn b off)) 0 [] []
  rw [List.nil_append] at hc
  have hg := g_deeds b off s
  generalize ((trk b off s).1.map (tdn b off)).map (fun d => tpI d) = ds at hl hc hg
  simp [f_Track_turns, startW, hg, hl, hc, tus]
/-- how often, as the program reckons it -/
theorem e_often {b : Bk} (hb : b.Ok) {off : List Int} {s : Sta} (hs : StOk b s) (r : Int) (n : Nat) (S : Sto) : pureR (f_Track_often [trO b off s, .int r, .int n] []) S = .ok (.int (cnt b off s r n)) S := by
  have ht := e_turns hb hs (off := off) r
  have hle := tus_le hb hs (off := off) r
  have hlim : (tus b off s r).length ≤ limit := l_small hle
  have hg := g_deeds b off s
  have hdl : (((trk b off s).1.map (tdn b off)).map (fun d => tpI d)).length = (trk b off s).1.length := by rw [List.length_map, List.length_map]
  generalize ((trk b off s).1.map (tdn b off)).map (fun d => tpI d) = ds at hdl hg
  by_cases h : n ≤ (trk b off s).1.length
  · have h2 : (n : Int) ≤ (trk b off s).1.length := by omega
    have hc := lc_if (l := tus b off s r) (e := W.int) (f := W.int) (p := fun a => decide (a < (n : Int))) (ρ := [some (trO b off s), some (.int r), some (.int n), some (lsI (tus b off s r)), none, none, none, none]) (S := []) (vs := [7]) (tg := .nm 7) (c := bTest (mCmp .Lt (mVar 7) (mVar 2))) (el := mVar 7) (fun a _ => by
      by_cases h : a < (n : Int) <;> simp [lcStep, h])
    have hl := tus_lt hb hs (off := off) r h
    simp [f_Track_often, startW, ht, hg, hdl, h2, h, hlim, hc, hl]
  · have t := trk_spec hb (off := off) hs
    have hlt := t.lt
    have hpos := rlen_pos hb (off := off) hs
    have hfew := rb_few hb (off := off) hs
    have hlen : (trk b off s).1.length = rbeg b off s + rlen b off s := by unfold rbeg rlen; omega
    have hgb : ∀ S, getFld S 1 4 (trO b off s) = some (.int (rbeg b off s)) := g_begin b off s
    have hgl : ∀ S, getFld S 1 5 (trO b off s) = some (.int (rlen b off s)) := fun S => by rw [g_length b off s S]; unfold rlen; congr 2; omega
    rw [hlen] at hdl
    have hn : rbeg b off s + rlen b off s < n := by omega
    have hI : ∀ x4 x5 x6 x7 : Option W, compM (lcStep [some (trO b off s), some (.int r), some (.int n), some (lsI (tus b off s r)), x4, x5, x6, x7] [7] (.nm 7) (bTest (mCmp .GtE (mVar 7) (mFld 1 4 (mVar 0)))) (mBin .Sub (mVar 7) (mFld 1 4 (mVar 0)))) ((tus b off s r).map W.int) [] [] = .ok ((((tus b off s r).filter fun a => decide ((rbeg b off s : Int) ≤ a)).map fun a => a - (rbeg b off s : Int)).map W.int) [] := by
      intro x4 x5 x6 x7
      rw [List.map_map]
      refine lc_if (p := fun a => decide ((rbeg b off s : Int) ≤ a)) fun a _ => ?_
      by_cases h : (rbeg b off s : Int) ≤ a <;> simp [lcStep, hgb, h]
    generalize hII : (((tus b off s r).filter fun a => decide ((rbeg b off s : Int) ≤ a)).map fun a => a - (rbeg b off s : Int)) = I at hI
    have hIl : I.length = ((tus b off s r).filter fun a => decide ((rbeg b off s : Int) ≤ a)).length := by rw [← hII, List.length_map]
    have hIle : I.length ≤ 5832 := by rw [hIl]; exact Nat.le_trans (List.length_filter_le _ _) hle
    have hIlim : I.length ≤ limit := l_small hIle
    obtain ⟨q, hq⟩ : ∃ q : Nat, (q : Int) = ((n : Int) - rbeg b off s) / (rlen b off s : Int) := ⟨(n - rbeg b off s) / rlen b off s, by rw [Int.natCast_ediv, show ((n - rbeg b off s : Nat) : Int) = (n : Int) - rbeg b off s by omega]⟩
    obtain ⟨e, he⟩ : ∃ e : Nat, (e : Int) = ((n : Int) - rbeg b off s) % (rlen b off s : Int) := ⟨(n - rbeg b off s) % rlen b off s, by rw [Int.natCast_emod, show ((n - rbeg b off s : Nat) : Int) = (n : Int) - rbeg b off s by omega]⟩
    have hqe : n = rbeg b off s + (q * rlen b off s + e) := by
      have := Int.mul_ediv_add_emod ((n : Int) - rbeg b off s) (rlen b off s : Int)
      rw [← hq, ← he, Int.mul_comm] at this
      have h2 : ((q * rlen b off s : Nat) : Int) = (q : Int) * (rlen b off s : Int) := by simp
      omega
    have hel : e < rlen b off s := by
      have := Int.emod_lt_of_pos ((n : Int) - rbeg b off s) (show (0 : Int) < rlen b off s by omega)
      omega
    have hR : ∀ x3 x4 x6 x7 : Option W, compM (lcStep [some (trO b off s), some (.int r), some (.int n), x3, x4, some (.int e), x6, x7] [7] (.nm 7) (bTest (mCmp .Lt (mVar 7) (mVar 5))) (mVar 7)) (I.map W.int) [] [] = .ok ((I.filter fun a => decide (a < (e : Int))).map W.int) [] := by
      intro x3 x4 x6 x7
      refine lc_if (p := fun a => decide (a < (e : Int))) fun a _ => ?_
      by_cases h : a < (e : Int) <;> simp [lcStep, h]
    -- the counts
    have c0 := tus_lt hb hs (off := off) r (n := rbeg b off s) (by omega)
    have c1 := tus_lt hb hs (off := off) r (n := rbeg b off s + rlen b off s) (by omega)
    have c2 := tus_lt hb hs (off := off) r (n := rbeg b off s + e) (by omega)
    have lt_all : ∀ a ∈ tus b off s r, a < ((rbeg b off s + rlen b off s : Nat) : Int) := fun a ha => by
      have := tu_ge r _ _ a ha
      rw [List.length_map, hlen] at this
      omega
    have f1 := filt_split (tus b off s r) (a := (rbeg b off s : Int)) (c := ((rbeg b off s + rlen b off s : Nat) : Int)) (by omega)
    rw [List.filter_eq_self.mpr (fun a ha => decide_eq_true (lt_all a ha)), List.filter_eq_self.mpr (fun a ha => decide_eq_true (lt_all a (List.mem_filter.mp ha).1)), c0, ← hIl] at f1
    rw [List.filter_eq_self.mpr (fun a ha => decide_eq_true (lt_all a ha))] at c1
    have f2 := filt_split (tus b off s r) (a := (rbeg b off s : Int)) (c := ((rbeg b off s + e : Nat) : Int)) (by omega)
    rw [c0, c2] at f2
    have f3 : (I.filter fun a => decide (a < (e : Int))).length = (((tus b off s r).filter fun a => decide ((rbeg b off s : Int) ≤ a)).filter fun a => decide (a < ((rbeg b off s + e : Nat) : Int))).length := by
      rw [← hII, List.filter_map, List.length_map]
      congr 1
      apply List.filter_congr
      intro a _
      show decide (a - (rbeg b off s : Int) < (e : Int)) = _
      by_cases h : a - (rbeg b off s : Int) < (e : Int)
      · rw [decide_eq_true h, decide_eq_true (by omega)]
      · rw [decide_eq_false h, decide_eq_false (by omega)]
    have g1 := cnt_add b off s r (rbeg b off s) (rlen b off s)
    have g2 := cnt_add b off s r (rbeg b off s) e
    have g3 := cnt_add b off s r (rbeg b off s) (q * rlen b off s + e)
    have g4 : cnt b off (itr (tst b off) (rbeg b off s) s) r (q * rlen b off s + e) = q * cnt b off (itr (tst b off) (rbeg b off s) s) r (rlen b off s) + cnt b off (itr (tst b off) (rbeg b off s) s) r e := by
      rw [cnt_add, cnt_rounds hb hs r (Nat.le_refl _), ← itr_add, itr_rounds hb hs (off := off) (Nat.le_refl _)]
    rw [g4] at g3
    have hfin : ((tus b off s r).length : Int) - I.length + q * I.length + (I.filter fun a => decide (a < (e : Int))).length = cnt b off s r n := by
      have hC : I.length = cnt b off (itr (tst b off) (rbeg b off s) s) r (rlen b off s) := by omega
      have h4 : cnt b off s r n = cnt b off s r (rbeg b off s) + q * I.length + (I.filter fun a => decide (a < (e : Int))).length := by
        rw [hqe, g3, hC, f3]; omega
      have h5 : (cnt b off s r n : Int) = cnt b off s r (rbeg b off s) + q * I.length + (I.filter fun a => decide (a < (e : Int))).length := by
        rw [h4]; simp
      omega
    have h2 : ¬ (n : Int) ≤ (rbeg b off s : Int) + rlen b off s := by omega
    have h3 : (rlen b off s : Int) < 1073741824 := by omega
    have hmu : mulOk (q : Int) I.length = true := by
      unfold mulOk
      have q1 : -(2 ^ 64) < (I.length : Int) := by omega
      have q2 : (I.length : Int) < 2 ^ 64 := by omega
      rw [decide_eq_true q1, decide_eq_true q2]; simp
    have hJl : (I.filter fun a => decide (a < (e : Int))).length ≤ limit := Nat.le_trans (List.length_filter_le _ _) hIlim
    rw [← hfin]
    simp [f_Track_often, startW, ht, hg, hdl, h2, hgb, hgl, hpos, h3, hlim, hI, hIlim, ← hq, ← he, hR, hmu]
end SP
set_option Elab.async false
set_option linter.all false
set_option maxRecDepth 100000
set_option maxHeartbeats 4000000
/-! S16: quiet; the law's own track. -/
namespace SP
open PySem DL
section
variable {a i b : Me} {pk : Ml} {ρ : DL.Env} {S : Sto}
@[simp] theorem o_maxD : mMaxD a pk ρ S = (a ρ S).bind fun x S => (pk ρ S).bind fun zs S => maxDR x zs S := (rfl)
@[simp] theorem o_ins : mIns a i b ρ S = (a ρ S).bind fun x S => if isCell S x then (i ρ S).bind fun i S => (b ρ S).bind fun y S => insR x i y S else .bad := (rfl)
@[simp] theorem o_isLT : mIsLT a ρ S = (a ρ S).bind fun x S => optR S ((isLT (deref S x)).map .bl) := (rfl)
end
/-- the last of the loud ones, and one more -/
def lq : Nat → Nat → List (List Int) → Nat
  | q, _, [] => q
  | q, k, d :: l => if d = [] then lq q (k + 1) l else lq (k + 1) (k + 1) l
def quD (D : List (List Int)) (bg : Nat) : Option Nat := if (D.drop bg).any (fun d => !(d == [])) then none else some (lq 0 0 D)
def Qt (δ : Nat → List Int) : Option Nat → Prop
  | none => ∀ n, ∃ m, n ≤ m ∧ δ m ≠ []
  | some q => (∀ n, q ≤ n → δ n = []) ∧ (q = 0 ∨ δ (q - 1) ≠ [])
theorem Qt.uniq {δ : Nat → List Int} : ∀ {o p : Option Nat}, Qt δ o → Qt δ p → o = p
  | none, none, _, _ => rfl
  | none, some q, h, k => by obtain ⟨m, h1, h2⟩ := h q; exact absurd (k.1 m h1) h2
  | some q, none, h, k => by obtain ⟨m, h1, h2⟩ := k q; exact absurd (h.1 m h1) h2
  | some q, some p, h, k => by
    have key : ∀ {q p : Nat}, Qt δ (some q) → Qt δ (some p) → ¬ q < p := by
      intro q p h k hl
      rcases k.2 with e | e
      · omega
      · exact e (h.1 _ (by omega))
    have h1 := key h k
    have h2 := key k h
    rw [show q = p by omega]
/-! ### what the two sides reckon -/
def qW : Option Nat → W
  | none => .non
  | some q => .int q
@[simp] theorem nl_qW (o : Option Nat) : (qW o).nl = true := by cases o <;> rfl
theorem cut_drop (l : List W) (n : Nat) : cutW l (some (n : Int)) none = l.drop n := by
  unfold cutW HT.sIx
  simp only [Int.toNat_natCast]
  rw [if_neg (by omega)]
  by_cases h : n ≤ l.length
  · rw [Nat.min_eq_left h, List.take_of_length_le (by rw [List.length_drop]; omega)]
  · rw [Nat.min_eq_right (by omega), List.drop_eq_nil_of_le (Nat.le_refl _), List.drop_eq_nil_of_le (by omega), List.take_nil]
noncomputable def qt (b : Bk) (off : List Int) (s : Sta) : Option Nat := quD ((trk b off s).1.map (tdn b off)) (trk b off s).2
end SP
set_option Elab.async false
set_option linter.all false
set_option maxRecDepth 100000
set_option maxHeartbeats 4000000
/-! S17: the law's own track. -/
namespace SP
open PySem DL
end SP
set_option Elab.async false
set_option linter.all false
set_option maxRecDepth 100000
set_option maxHeartbeats 4000000
/-! S18: the law's likeness; rounds from within. -/
namespace SP
open PySem DL
end SP
set_option Elab.async false
set_option linter.all false
set_option maxRecDepth 100000
set_option maxHeartbeats 4000000
/-! S19: the n-th time. -/
namespace SP
open PySem DL
theorem cnt_mono (b : Bk) (off : List Int) (s : Sta) (r : Int) {m n : Nat} (h : m ≤ n) : cnt b off s r m ≤ cnt b off s r n := by
  have := cnt_add b off s r m (n - m)
  rw [show m + (n - m) = n by omega] at this
  omega
def Nth (b : Bk) (off : List Int) (s : Sta) (r : Int) (m : Nat) : Option Nat → Prop
  | none => ∀ n, cnt b off s r n < m
  | some n => (tdn b off (itr (tst b off) n s)).contains r = true ∧ cnt b off s r n + 1 = m
theorem Nth.uniq {b : Bk} {off : List Int} {s : Sta} {r : Int} {m : Nat} : ∀ {o p : Option Nat}, Nth b off s r m o → Nth b off s r m p → o = p
  | none, none, _, _ => rfl
  | none, some q, h, k => by
    have := h (q + 1)
    rw [cnt_succ, if_pos k.1] at this
    have := k.2; omega
  | some q, none, h, k => by
    have := k (q + 1)
    rw [cnt_succ, if_pos h.1] at this
    have := h.2; omega
  | some q, some p, h, k => by
    have key : ∀ {q p : Nat}, Nth b off s r m (some q) → Nth b off s r m (some p) → ¬ q < p := by
      intro q p h k hl
      have h1 := cnt_mono b off s r (show q + 1 ≤ p by omega)
      rw [cnt_succ, if_pos h.1] at h1
      have h2 := h.2
      have h3 := k.2
      omega
    have h1 := key h k
    have h2 := key k h
    rw [show q = p by omega]
end SP
set_option Elab.async false
set_option linter.all false
set_option maxRecDepth 100000
set_option maxHeartbeats 4000000
/-! S20: orders drawn, numbers picked. -/
namespace SP
open PySem DL
def upTo (n : Nat) : List Int := (List.range n).map fun (i : Nat) => (i : Int)
end SP
set_option Elab.async false
set_option linter.all false
set_option maxRecDepth 100000
set_option maxHeartbeats 4000000
/-! S64: orders, rules put off, states of any plain data; a beat asked of anything. -/
namespace SP
open PySem hiding upTo
open DL
@[simp] theorem x_seq (x : Xn) (ρ : DL.Env) (S : Sto) (t : Ms) : (Fl.exc x ρ S).seq t = .exc x ρ S := (rfl)
@[simp] theorem x_toR (x : Xn) (ρ : DL.Env) (S : Sto) : (Fl.exc x ρ S).toR = .exc x S := (rfl)
@[simp] theorem x_pure (x : Xn) (S S' : Sto) : pureR (.exc x S') S = if x.nl then .exc x S else .bad := (rfl)
@[simp] theorem x_bind (x : Xn) (S : Sto) (f : W → Sto → Res) : (Res.exc x S).bind f = .exc x S := (rfl)
@[simp] theorem x_toS (x : Xn) (S : Sto) (ρ : DL.Env) (f : W → Sto → Fl) : (Res.exc x S).toS ρ f = .exc x ρ S := (rfl)
def short : W → Prop
  | .tup ws => ws.length ≤ 50
  | .lst ws => ws.length ≤ 50
  | _ => True
end SP
set_option Elab.async false
set_option linter.all false
set_option maxRecDepth 100000
set_option maxHeartbeats 4000000
/-! S21: rows, beginnings, wishes. -/
namespace SP
open PySem DL
section
variable {it it1 : Ml} {c c1 : Mb} {el : Me} {tg tg1 : Tg} {vs vs1 : List Nat} {mt : Bool} {ρ : DL.Env} {S : Sto}
@[simp] theorem o_lc2 : mLc2 mt vs tg it c vs1 tg1 it1 c1 el ρ S = (it ρ S).bind fun xs S => match compM (lc2Step ρ vs tg c vs1 tg1 it1 c1 el) xs [] S with
  | .ok ys S => if ys.length ≤ limit then (if mt then newCellR (.lst ys) S else .ok (.lst ys) S) else .bad
  | _ => .bad := (rfl)
end
def wider (found : List (List Int)) (z : Nat) : List (List Int) := found.flatMap fun row => (upTo z).map fun i => row ++ [i]
def rowsOf (sz : List Nat) : List (List Int) := sz.foldl wider [[]]
theorem wider_mem {found : List (List Int)} {z : Nat} {r : List Int} : r ∈ wider found z ↔ ∃ row ∈ found, ∃ i : Nat, i < z ∧ r = row ++ [(i : Int)] := by
  unfold wider upTo
  simp only [List.mem_flatMap, List.mem_map, List.mem_range]
  constructor
  · rintro ⟨row, h, i, ⟨j, hj, rfl⟩, rfl⟩; exact ⟨row, h, j, hj, rfl⟩
  · rintro ⟨row, h, j, hj, rfl⟩; exact ⟨row, h, _, ⟨j, hj, rfl⟩, rfl⟩
theorem mem_rows : ∀ (sz : List Nat) (found : List (List Int)) (r : List Int), r ∈ sz.foldl wider found → ∃ row ∈ found, ∃ l : List Int, r = row ++ l ∧ l.length = sz.length ∧ ∀ i, Ix sz.length i → 0 ≤ gi l i ∧ gi l i < (sz.getD i.toNat 0 : Nat)
  | [], found, r, h => ⟨r, h, [], by simp, rfl, fun i hi => by have h0 := hi.1; have h1 := hi.2; simp at h1; omega⟩
  | z :: sz, found, r, h => by
    obtain ⟨row, h1, l, h2, h3, h4⟩ := mem_rows sz (wider found z) r h
    obtain ⟨row0, k1, i0, k2, rfl⟩ := wider_mem.mp h1
    refine ⟨row0, k1, (i0 : Int) :: l, by rw [h2, List.append_assoc]; rfl, by rw [List.length_cons, List.length_cons, h3], fun i hi => ?_⟩
    obtain ⟨q0, q1⟩ := hi
    rw [List.length_cons] at q1
    by_cases e : i = 0
    · subst e
      show 0 ≤ (i0 : Int) ∧ (i0 : Int) < (z : Nat)
      omega
    · have := h4 (i - 1) ⟨by omega, by omega⟩
      unfold gi at this ⊢
      rw [show i.toNat = (i - 1).toNat + 1 by omega]
      simpa using this
def zeros (n : Nat) : List Int := List.replicate n 0
theorem begun_ok {b : Bk} {vs : List Int} (hl : vs.length = b.wh.length) (hv : ∀ i, Ix b.wh.length i → 0 ≤ gi vs i ∧ gi vs i < gi b.wh i) : StOk b (vs, zeros b.ru.length) :=
  ⟨hl, hv, by simp [zeros], fun h hh => by
    have : h = 0 := (List.mem_replicate.mp hh).2
    omega⟩
end SP
set_option Elab.async false
set_option linter.all false
set_option maxRecDepth 100000
set_option maxHeartbeats 4000000
/-! S22: wishes. -/
namespace SP
open PySem DL
inductive Wish where
  | quiet | never (r : Int) | does (r : Int) | at_ (w p : Int)
def Wish.W : Wish → W
  | .quiet => .tup [.str "quiet"]
  | .never r => .tup [.str "never", .int r]
  | .does r => .tup [.str "does", .int r]
  | .at_ w p => .tup [.str "at", .int w, .int p]
def Wish.Ok (b : Bk) : Wish → Prop
  | .quiet => True
  | .never r => Ix b.ru.length r
  | .does r => Ix b.ru.length r
  | .at_ w p => Ix b.wh.length w ∧ 0 ≤ p ∧ p < gi b.wh w
/-- a run from s breaks the wish -/
noncomputable def broken (b : Bk) (off : List Int) (s : Sta) : Wish → Bool
  | .quiet => (qt b off s).isNone
  | .never r => !(tus b off s r == [])
  | .does r => tus b off s r == []
  | .at_ w p => ((trk b off s).1.drop (trk b off s).2).any fun t => gi t.1 w != p
@[simp] theorem nl_wish (u : Wish) : u.W.nl = true := by cases u <;> rfl
@[simp] theorem dd_wish (S : Sto) (u : Wish) : derefF S u.W = u.W := by cases u <;> rfl
end SP
set_option Elab.async false
set_option linter.all false
set_option maxRecDepth 100000
set_option maxHeartbeats 4000000
/-! S23: all values of a book, wishes looked at and drawn, the least beginning that breaks one. -/
namespace SP
open PySem DL
def szs (b : Bk) : List Nat := b.wh.map Int.toNat
def begs (b : Bk) : List (List Int) := rowsOf (szs b)
theorem begs_ok {b : Bk} (hb : b.Ok) {vs : List Int} (h : vs ∈ begs b) : vs.length = b.wh.length ∧ ∀ i, Ix b.wh.length i → 0 ≤ gi vs i ∧ gi vs i < gi b.wh i := by
  obtain ⟨row, h1, l, h2, h3, h4⟩ := mem_rows (szs b) [[]] vs h
  have hr : row = [] := by simpa using h1
  rw [hr, List.nil_append] at h2
  rw [← h2] at h3 h4
  have hz : (szs b).length = b.wh.length := List.length_map ..
  refine ⟨by rw [h3, hz], fun i hi => ?_⟩
  have := h4 i (by rw [hz]; exact hi)
  have hl : i.toNat < b.wh.length := by have := hi.1; have := hi.2; omega
  have e : (((szs b).getD i.toNat 0 : Nat) : Int) = gi b.wh i := by
    unfold szs gi
    rw [List.getD_eq_getElem?_getD, List.getD_eq_getElem?_getD, List.getElem?_map, List.getElem?_eq_getElem hl]
    have := (hb.w.m _ (List.getElem_mem hl)).1
    show ((b.wh[i.toNat].toNat : Nat) : Int) = b.wh[i.toNat]
    omega
  rw [e] at this
  exact this
theorem beg_st {b : Bk} (hb : b.Ok) {vs : List Int} (h : vs ∈ begs b) : StOk b (vs, zeros b.ru.length) := begun_ok (begs_ok hb h).1 (begs_ok hb h).2
def vW : Option (List Int) → W
  | none => .non
  | some l => tpI l
end SP
set_option Elab.async false
set_option linter.all false
set_option maxRecDepth 100000
set_option maxHeartbeats 4000000
/-! S24: lots of rules. -/
namespace SP
open PySem DL
section
variable {ρ : DL.Env} {S : Sto} {a : Me} {k : List W → Sto → Res}
@[simp] theorem o_sortedD : mSortedD k a ρ S = (a ρ S).bind fun x S => match dataOf S x with
  | some ws => k (srtW ws) S
  | none => .bad := (rfl)
end
def subs : Nat → List Int → List (List Int)
  | 0, _ => [[]]
  | _ + 1, [] => []
  | k + 1, x :: xs => (subs k xs).map (fun l => x :: l) ++ subs (k + 1) xs
end SP
set_option Elab.async false
set_option linter.all false
set_option maxRecDepth 100000
set_option maxHeartbeats 4000000
/-! S25: the fewest rules put off, told and looked at. -/
namespace SP
open PySem DL
section
variable {ρ : DL.Env} {S : Sto} {a b : Me}
@[simp] theorem o_indexD : mIndexD a b ρ S = (a ρ S).bind fun x S => if isLstW x then (b ρ S).bind fun y S => idxRD x (deref S y) S else .bad := (rfl)
end
theorem upTo_ix {n : Nat} {r : Int} (h : r ∈ upTo n) : Ix n r := by
  unfold upTo at h
  obtain ⟨i, hi, rfl⟩ := List.mem_map.mp h
  have := List.mem_range.mp hi
  exact ⟨by omega, by omega⟩
noncomputable def brk (b : Bk) (u : Wish) (ls vs : List (List Int)) : Bool := vs.length == ls.length && (ls.zip vs).all fun p => broken b p.1 (p.2, zeros b.ru.length) u
theorem cut_front (l : List W) (n : Nat) : cutW l none (some (n : Int)) = l.take n := by
  unfold cutW HT.sIx
  simp only []
  rw [if_neg (by omega), Nat.sub_zero, List.drop_zero]
  show l.take (min n l.length) = _
  by_cases h : n ≤ l.length
  · rw [Nat.min_eq_left h]
  · rw [Nat.min_eq_right (by omega), List.take_of_length_le (Nat.le_refl _), List.take_of_length_le (by omega)]
end SP
set_option Elab.async false
set_option linter.all false
set_option maxRecDepth 100000
set_option maxHeartbeats 4000000
/-! S65: the law's drawing of any data; what is said of a deed. -/
namespace SP
open PySem hiding upTo
open DL
@[simp] theorem o_revT2 (a : Me) (ρ : DL.Env) (S : Sto) : mRevT a ρ S = (a ρ S).bind fun x S => match deref S x with
  | .tup ws => .ok (.tup ws.reverse) S
  | _ => .bad := (rfl)
theorem bo_addL (a b : List W) : binop .Add (.lst a) (.lst b) = if a.length + b.length ≤ limit then some (.lst (a ++ b)) else none := (rfl)
theorem bo_addT (a b : List W) : binop .Add (.tup a) (.tup b) = if a.length + b.length ≤ limit then some (.tup (a ++ b)) else none := (rfl)
def anyL : List W := [.non, .bl true, .bl false, .int 0, .int 1, .int (-1), .int 2, .int 5, .int 1000000000000000000000000000000000000000000000000000000000000, .str "", .str "is", .str "0", .str "free", .lst [], .tup [], .lst [.int 0], .tup [.int 0], .tup [.int 0, .int 0], .tup [.int 1, .int 0],
  .tup [.int 0, .int 1, .int 2], .tup [.tup [], .tup []], .tup [.tup [.int 0], .tup [.int 0]], .lst [.tup [.int 0], .tup [.int 0]], .tup [.int 0, .bl true], .tup [.str "is", .int 0, .int 0], .tup [.str "hushed", .int 0], .tup [.non, .lst [.int 1, .tup []]]]
theorem anyL_plain : ∀ w ∈ anyL, W.plain 10 w = true := by
  have : anyL.all (W.plain 10) = true := by kernel_rfl
  rw [List.all_eq_true] at this
  exact this
def shortB : W → Bool
  | .tup ws => decide (ws.length ≤ 50)
  | .lst ws => decide (ws.length ≤ 50)
  | _ => true
theorem short_of {w : W} (h : shortB w = true) : short w := by cases w <;> first | trivial | exact (decide_eq_true_eq.mp h : _ ≤ 50)
theorem anyL_short : ∀ w ∈ anyL, short w := by
  have : anyL.all shortB = true := by kernel_rfl
  rw [List.all_eq_true] at this
  exact fun w hw => short_of (this w hw)
theorem anyL_at {d : Int} (h0 : 0 ≤ d) (h1 : d < 27) : ∃ w, w ∈ anyL ∧ L2.atI anyL d = some w := by
  have hl : anyL.length = 27 := rfl
  refine ⟨anyL[d.toNat]'(by rw [hl]; omega), List.getElem_mem _, ?_⟩
  have hd : d.toNat < anyL.length := by rw [hl]; omega
  unfold L2.atI L2.ixN
  simp [h0, hl, h1, hd]
theorem ysp (m : Nat) (ws : List W) (S : Sto) : y__law_spoilt (m + 1) ws S = r__law_spoilt (y__law_spoilt m) ws S := rfl
/-- what a drawing gives: plain data -/
def Drew (n c q : Nat) (S : Sto) (r : Res) : Prop := ∃ (w : W) (S' : Sto), r = .ok w S' ∧ W.plain q w = true ∧ short w ∧ Keep n S.length S S' ∧ Bg n c S'
theorem Drew.up {n c c' q q' : Nat} {S : Sto} {r : Res} (h : Drew n c q S r) (hc : c ≤ c') (hq : q ≤ q') : Drew n c' q' S r := by
  obtain ⟨w, S', e, p, s, k, b⟩ := h
  exact ⟨w, S', e, plain_up q w q' hq p, s, k, b.mono hc⟩
theorem four {d : Int} (h0 : 0 ≤ d) (h1 : d < 4) : ∃ j : Int, L2.atI [W.int 1, .int (-1), .int 4, .int (-5)] d = some (.int j) := by
  rcases (by omega : d = 0 ∨ d = 1 ∨ d = 2 ∨ d = 3) with rfl | rfl | rfl | rfl
  · exact ⟨1, by simp [L2.atI, L2.ixN]⟩
  · exact ⟨-1, by simp [L2.atI, L2.ixN]⟩
  · exact ⟨4, by simp [L2.atI, L2.ixN]⟩
  · exact ⟨-5, by simp [L2.atI, L2.ixN]⟩
theorem cutT (ws : List W) (u : Nat) : cutW ws none (some (u : Int)) = ws.take u := cut_front ws u
theorem cutD (ws : List W) (u : Nat) : cutW ws (some (u : Int)) none = ws.drop u := cut_drop ws u
theorem cutD1 (ws : List W) (u : Nat) : cutW ws (some ((u : Int) + 1)) none = ws.drop (u + 1) := cut_drop ws (u + 1)
theorem at_nat {ws : List W} {u : Nat} {w : W} (h : ws[u]? = some w) : L2.atI ws (u : Int) = some w := by
  have hl := (List.getElem?_eq_some_iff.mp h).1
  unfold L2.atI L2.ixN
  rw [if_pos (by omega), if_pos (by omega)]
  show ws[((u : Int)).toNat]? = _
  rw [Int.toNat_natCast]; exact h
theorem at_prev {ws : List W} {u : Nat} (h : u < ws.length) : ∃ w, w ∈ ws ∧ L2.atI ws ((u : Int) - 1) = some w := by
  cases u with
  | zero =>
    have hl : ws.length - 1 < ws.length := by omega
    refine ⟨ws[ws.length - 1], List.getElem_mem _, ?_⟩
    unfold L2.atI L2.ixN
    rw [if_neg (by omega), if_pos (by omega)]
    show ws[((ws.length : Int) + (((0 : Nat) : Int) - 1)).toNat]? = _
    rw [show ((ws.length : Int) + (((0 : Nat) : Int) - 1)).toNat = ws.length - 1 by omega, List.getElem?_eq_getElem hl]
  | succ u =>
    refine ⟨ws[u], List.getElem_mem _, ?_⟩
    rw [show ((((u + 1 : Nat) : Int)) - 1) = (u : Int) by push_cast; omega]
    exact at_nat (List.getElem?_eq_getElem (by omega))
end SP
set_option Elab.async false
set_option linter.all false
set_option maxRecDepth 100000
set_option maxHeartbeats 4000000
/-! S66: spoilt rows and states; what is said of a deed. -/
namespace SP
open PySem hiding upTo
open DL
theorem pl_tpI (l : List Int) : W.plain 11 (tpI l) = true := plainL_of fun w hw => by
  obtain ⟨i, _, rfl⟩ := List.mem_map.mp hw; rfl
end SP
set_option Elab.async false
set_option linter.all false
set_option maxRecDepth 100000
set_option maxHeartbeats 4000000
/-! S26: all starts by the law; rules that never do, rules that always do. -/
namespace SP
open PySem DL
/-! ### never, always -/
theorem mid0 {b : Bk} {s : Sta} (hs : StOk b s) : MidOk b ⟨s.1, s.2, []⟩ := ⟨⟨hs.l1, hs.l2⟩, hs.m1, fun h hh => by have := hs.m2 h hh; exact ⟨this.1, by omega⟩⟩
end SP
set_option Elab.async false
set_option linter.all false
set_option maxRecDepth 100000
set_option maxHeartbeats 4000000
/-! S27: the fewest, its meaning; breaks as the law sees them. -/
namespace SP
open PySem DL
end SP
set_option Elab.async false
set_option linter.all false
set_option maxRecDepth 100000
set_option maxHeartbeats 4000000
/-! S28: likeness of any plain tuples; papers as data; lesser books drawn. -/
namespace SP
open PySem DL
theorem nl_rows (l : List (List Int)) : nlL (l.map fun r => tpI r) = true := nl_map (f := fun l : List Int => tpI l) (fun a => nl_ints a) l
end SP
set_option Elab.async false
set_option linter.all false
set_option maxRecDepth 100000
set_option maxHeartbeats 4000000
/-! S29: a run that was walked, and a wish. -/
namespace SP
open PySem DL
noncomputable def trkW (b : Bk) (off : List Int) (s : Sta) : W := .tup [.lst ((trk b off s).1.map stW), .lst (((trk b off s).1.map (tdn b off)).map fun d => tpI d), .int (trk b off s).2]
theorem nl_trkW (b : Bk) (off : List Int) (s : Sta) : (trkW b off s).nl = true := by
  have h2 := nl_rows ((trk b off s).1.map (tdn b off))
  show (nlL ((trk b off s).1.map stW) && (nlL (((trk b off s).1.map (tdn b off)).map fun d => tpI d) && true)) = true
  rw [nl_sts, h2]; rfl
end SP
set_option Elab.async false
set_option linter.all false
set_option maxRecDepth 100000
set_option maxHeartbeats 4000000
/-! S30: all beginnings, truths in lists, all rules put off. -/
namespace SP
open PySem DL
end SP
set_option Elab.async false
set_option linter.all false
set_option maxRecDepth 100000
set_option maxHeartbeats 4000000
/-! S47: all states of a book, the states ahead of one, all rules put off. -/
namespace SP
open PySem DL
/-! ### all rules put off -/
end SP
set_option Elab.async false
set_option linter.all false
set_option maxRecDepth 100000
set_option maxHeartbeats 4000000
/-! S31: walks that keep what stands first in the environment. -/
namespace SP
open PySem DL
/-- it goes on, the environment begins with fx, m more behind it, the store is so -/
def NxE (fx : DL.Env) (m : Nat) (P : Sto → Prop) : Fl → Prop
  | .nx ρ S => ∃ r, ρ = fx ++ r ∧ r.length = m ∧ P S
  | .ct ρ S => ∃ r, ρ = fx ++ r ∧ r.length = m ∧ P S
  | _ => False
section
variable {fx : DL.Env} {m : Nat} {P Q : Sto → Prop} {ρ r : DL.Env} {S : Sto} {X : Fl}
theorem nxe (e : ρ = fx ++ r) (hr : r.length = m) (h : P S) : NxE fx m P (.nx ρ S) := ⟨r, e, hr, h⟩
theorem NxE.imp (h : NxE fx m P X) (i : ∀ S, P S → Q S) : NxE fx m Q X := by
  cases X with
  | nx ρ S => obtain ⟨r, a, b, c⟩ := h; exact ⟨r, a, b, i _ c⟩
  | ct ρ S => obtain ⟨r, a, b, c⟩ := h; exact ⟨r, a, b, i _ c⟩
  | _ => exact h
end
/-- a walk -/
theorem for_nxe {tg : Tg} {body : Ms} {fx : DL.Env} {m : Nat} : ∀ (xs : List W) (P : Nat → Sto → Prop),
    (∀ i x, xs[i]? = some x → ∀ r S, r.length = m → P i S → ∃ ρ, bindTg tg x (fx ++ r) = some ρ ∧ NxE fx m (P (i + 1)) (body ρ S)) →
    ∀ r S, r.length = m → P 0 S → ∃ r' S', forM tg body xs (fx ++ r) S = .nx (fx ++ r') S' ∧ r'.length = m ∧ P xs.length S'
  | [], P, _, r, S, hr, h => ⟨r, S, rfl, hr, h⟩
  | x :: xs, P, hs, r, S, hr, h => by
    obtain ⟨ρ, e, hb⟩ := hs 0 x rfl r S hr h
    have ih := for_nxe xs (fun i => P (i + 1)) fun i y hy r S hr h => hs (i + 1) y hy r S hr h
    cases q : body ρ S with
    | nx ρ1 S1 =>
      rw [q] at hb
      obtain ⟨r1, e1, hr1, h1⟩ := hb
      obtain ⟨r', S', e2, hr2, h2⟩ := ih r1 S1 hr1 h1
      refine ⟨r', S', ?_, hr2, h2⟩
      rw [for_step e q, e1, e2]
    | ct ρ1 S1 =>
      rw [q] at hb
      obtain ⟨r1, e1, hr1, h1⟩ := hb
      obtain ⟨r', S', e2, hr2, h2⟩ := ih r1 S1 hr1 h1
      refine ⟨r', S', ?_, hr2, h2⟩
      rw [for_ct e q, e1, e2]
    | _ => rw [q] at hb; exact hb.elim
end SP
set_option Elab.async false
set_option linter.all false
set_option maxRecDepth 100000
set_option maxHeartbeats 4000000
/-! S32: a book in which some rules cannot do. -/
namespace SP
open PySem DL
def lessR (c : Rul) : Rul := ⟨c.test.take 3 ++ [.pl .below 0 0], c.chg, c.hus, c.wak⟩
end SP
set_option Elab.async false
set_option linter.all false
set_option maxRecDepth 100000
set_option maxHeartbeats 4000000
/-! S33: words held against words; what is told of the fewest. -/
namespace SP
open PySem DL
@[simp] theorem cw_quiet_quiet : cmpEq (.str "quiet") (.str "quiet") = some true := by rw [ce_str _ _ (by kernel_rfl) (by kernel_rfl)]; rfl
@[simp] theorem cw_quiet_never : cmpEq (.str "quiet") (.str "never") = some false := by rw [ce_str _ _ (by kernel_rfl) (by kernel_rfl)]; congr 1
@[simp] theorem cw_quiet_does : cmpEq (.str "quiet") (.str "does") = some false := by rw [ce_str _ _ (by kernel_rfl) (by kernel_rfl)]; congr 1
@[simp] theorem cw_quiet_at : cmpEq (.str "quiet") (.str "at") = some false := by rw [ce_str _ _ (by kernel_rfl) (by kernel_rfl)]; congr 1
@[simp] theorem cw_never_quiet : cmpEq (.str "never") (.str "quiet") = some false := by rw [ce_str _ _ (by kernel_rfl) (by kernel_rfl)]; congr 1
@[simp] theorem cw_never_never : cmpEq (.str "never") (.str "never") = some true := by rw [ce_str _ _ (by kernel_rfl) (by kernel_rfl)]; rfl
@[simp] theorem cw_never_does : cmpEq (.str "never") (.str "does") = some false := by rw [ce_str _ _ (by kernel_rfl) (by kernel_rfl)]; congr 1
@[simp] theorem cw_never_at : cmpEq (.str "never") (.str "at") = some false := by rw [ce_str _ _ (by kernel_rfl) (by kernel_rfl)]; congr 1
@[simp] theorem cw_does_quiet : cmpEq (.str "does") (.str "quiet") = some false := by rw [ce_str _ _ (by kernel_rfl) (by kernel_rfl)]; congr 1
@[simp] theorem cw_does_never : cmpEq (.str "does") (.str "never") = some false := by rw [ce_str _ _ (by kernel_rfl) (by kernel_rfl)]; congr 1
@[simp] theorem cw_does_does : cmpEq (.str "does") (.str "does") = some true := by rw [ce_str _ _ (by kernel_rfl) (by kernel_rfl)]; rfl
@[simp] theorem cw_does_at : cmpEq (.str "does") (.str "at") = some false := by rw [ce_str _ _ (by kernel_rfl) (by kernel_rfl)]; congr 1
@[simp] theorem cw_at_quiet : cmpEq (.str "at") (.str "quiet") = some false := by rw [ce_str _ _ (by kernel_rfl) (by kernel_rfl)]; congr 1
@[simp] theorem cw_at_never : cmpEq (.str "at") (.str "never") = some false := by rw [ce_str _ _ (by kernel_rfl) (by kernel_rfl)]; congr 1
@[simp] theorem cw_at_does : cmpEq (.str "at") (.str "does") = some false := by rw [ce_str _ _ (by kernel_rfl) (by kernel_rfl)]; congr 1
@[simp] theorem cw_at_at : cmpEq (.str "at") (.str "at") = some true := by rw [ce_str _ _ (by kernel_rfl) (by kernel_rfl)]; rfl
@[simp] theorem cw_off_off : cmpEq (.str "off") (.str "off") = some true := by rw [ce_str _ _ (by kernel_rfl) (by kernel_rfl)]; rfl
@[simp] theorem cw_off_none : cmpEq (.str "off") (.str "none") = some false := by rw [ce_str _ _ (by kernel_rfl) (by kernel_rfl)]; congr 1
@[simp] theorem cw_none_off : cmpEq (.str "none") (.str "off") = some false := by rw [ce_str _ _ (by kernel_rfl) (by kernel_rfl)]; congr 1
@[simp] theorem cw_none_none : cmpEq (.str "none") (.str "none") = some true := by rw [ce_str _ _ (by kernel_rfl) (by kernel_rfl)]; rfl
@[simp] theorem cw_stood_stood : cmpEq (.str "stood") (.str "stood") = some true := by rw [ce_str _ _ (by kernel_rfl) (by kernel_rfl)]; rfl
@[simp] theorem cw_stood_did : cmpEq (.str "stood") (.str "did") = some false := by rw [ce_str _ _ (by kernel_rfl) (by kernel_rfl)]; congr 1
@[simp] theorem cw_stood_rested : cmpEq (.str "stood") (.str "rested") = some false := by rw [ce_str _ _ (by kernel_rfl) (by kernel_rfl)]; congr 1
@[simp] theorem cw_did_stood : cmpEq (.str "did") (.str "stood") = some false := by rw [ce_str _ _ (by kernel_rfl) (by kernel_rfl)]; congr 1
@[simp] theorem cw_did_did : cmpEq (.str "did") (.str "did") = some true := by rw [ce_str _ _ (by kernel_rfl) (by kernel_rfl)]; rfl
@[simp] theorem cw_did_rested : cmpEq (.str "did") (.str "rested") = some false := by rw [ce_str _ _ (by kernel_rfl) (by kernel_rfl)]; congr 1
@[simp] theorem cw_rested_stood : cmpEq (.str "rested") (.str "stood") = some false := by rw [ce_str _ _ (by kernel_rfl) (by kernel_rfl)]; congr 1
@[simp] theorem cw_rested_did : cmpEq (.str "rested") (.str "did") = some false := by rw [ce_str _ _ (by kernel_rfl) (by kernel_rfl)]; congr 1
@[simp] theorem cw_rested_rested : cmpEq (.str "rested") (.str "rested") = some true := by rw [ce_str _ _ (by kernel_rfl) (by kernel_rfl)]; rfl
@[simp] theorem cw_clash_clash : cmpEq (.str "clash") (.str "clash") = some true := by rw [ce_str _ _ (by kernel_rfl) (by kernel_rfl)]; rfl
@[simp] theorem cw_alike_alike : cmpEq (.str "alike") (.str "alike") = some true := by rw [ce_str _ _ (by kernel_rfl) (by kernel_rfl)]; rfl
@[simp] theorem cw_alike_parted : cmpEq (.str "alike") (.str "parted") = some false := by rw [ce_str _ _ (by kernel_rfl) (by kernel_rfl)]; congr 1
@[simp] theorem cw_parted_alike : cmpEq (.str "parted") (.str "alike") = some false := by rw [ce_str _ _ (by kernel_rfl) (by kernel_rfl)]; congr 1
@[simp] theorem cw_parted_parted : cmpEq (.str "parted") (.str "parted") = some true := by rw [ce_str _ _ (by kernel_rfl) (by kernel_rfl)]; rfl
@[simp] theorem cw_free_free : cmpEq (.str "free") (.str "free") = some true := by rw [ce_str _ _ (by kernel_rfl) (by kernel_rfl)]; rfl
@[simp] theorem cw_free_matters : cmpEq (.str "free") (.str "matters") = some false := by rw [ce_str _ _ (by kernel_rfl) (by kernel_rfl)]; congr 1
@[simp] theorem cw_matters_free : cmpEq (.str "matters") (.str "free") = some false := by rw [ce_str _ _ (by kernel_rfl) (by kernel_rfl)]; congr 1
@[simp] theorem cw_matters_matters : cmpEq (.str "matters") (.str "matters") = some true := by rw [ce_str _ _ (by kernel_rfl) (by kernel_rfl)]; rfl
@[simp] theorem cw_is_is : cmpEq (.str "is") (.str "is") = some true := by rw [ce_str _ _ (by kernel_rfl) (by kernel_rfl)]; rfl
@[simp] theorem cw_is_not : cmpEq (.str "is") (.str "not") = some false := by rw [ce_str _ _ (by kernel_rfl) (by kernel_rfl)]; congr 1
@[simp] theorem cw_is_below : cmpEq (.str "is") (.str "below") = some false := by rw [ce_str _ _ (by kernel_rfl) (by kernel_rfl)]; congr 1
@[simp] theorem cw_is_hushed : cmpEq (.str "is") (.str "hushed") = some false := by rw [ce_str _ _ (by kernel_rfl) (by kernel_rfl)]; congr 1
@[simp] theorem cw_is_awake : cmpEq (.str "is") (.str "awake") = some false := by rw [ce_str _ _ (by kernel_rfl) (by kernel_rfl)]; congr 1
@[simp] theorem cw_not_is : cmpEq (.str "not") (.str "is") = some false := by rw [ce_str _ _ (by kernel_rfl) (by kernel_rfl)]; congr 1
@[simp] theorem cw_not_not : cmpEq (.str "not") (.str "not") = some true := by rw [ce_str _ _ (by kernel_rfl) (by kernel_rfl)]; rfl
@[simp] theorem cw_not_below : cmpEq (.str "not") (.str "below") = some false := by rw [ce_str _ _ (by kernel_rfl) (by kernel_rfl)]; congr 1
@[simp] theorem cw_not_hushed : cmpEq (.str "not") (.str "hushed") = some false := by rw [ce_str _ _ (by kernel_rfl) (by kernel_rfl)]; congr 1
@[simp] theorem cw_not_awake : cmpEq (.str "not") (.str "awake") = some false := by rw [ce_str _ _ (by kernel_rfl) (by kernel_rfl)]; congr 1
@[simp] theorem cw_below_is : cmpEq (.str "below") (.str "is") = some false := by rw [ce_str _ _ (by kernel_rfl) (by kernel_rfl)]; congr 1
@[simp] theorem cw_below_not : cmpEq (.str "below") (.str "not") = some false := by rw [ce_str _ _ (by kernel_rfl) (by kernel_rfl)]; congr 1
@[simp] theorem cw_below_below : cmpEq (.str "below") (.str "below") = some true := by rw [ce_str _ _ (by kernel_rfl) (by kernel_rfl)]; rfl
@[simp] theorem cw_below_hushed : cmpEq (.str "below") (.str "hushed") = some false := by rw [ce_str _ _ (by kernel_rfl) (by kernel_rfl)]; congr 1
@[simp] theorem cw_below_awake : cmpEq (.str "below") (.str "awake") = some false := by rw [ce_str _ _ (by kernel_rfl) (by kernel_rfl)]; congr 1
@[simp] theorem cw_hushed_is : cmpEq (.str "hushed") (.str "is") = some false := by rw [ce_str _ _ (by kernel_rfl) (by kernel_rfl)]; congr 1
@[simp] theorem cw_hushed_not : cmpEq (.str "hushed") (.str "not") = some false := by rw [ce_str _ _ (by kernel_rfl) (by kernel_rfl)]; congr 1
@[simp] theorem cw_hushed_below : cmpEq (.str "hushed") (.str "below") = some false := by rw [ce_str _ _ (by kernel_rfl) (by kernel_rfl)]; congr 1
@[simp] theorem cw_hushed_hushed : cmpEq (.str "hushed") (.str "hushed") = some true := by rw [ce_str _ _ (by kernel_rfl) (by kernel_rfl)]; rfl
@[simp] theorem cw_hushed_awake : cmpEq (.str "hushed") (.str "awake") = some false := by rw [ce_str _ _ (by kernel_rfl) (by kernel_rfl)]; congr 1
@[simp] theorem cw_awake_is : cmpEq (.str "awake") (.str "is") = some false := by rw [ce_str _ _ (by kernel_rfl) (by kernel_rfl)]; congr 1
@[simp] theorem cw_awake_not : cmpEq (.str "awake") (.str "not") = some false := by rw [ce_str _ _ (by kernel_rfl) (by kernel_rfl)]; congr 1
@[simp] theorem cw_awake_below : cmpEq (.str "awake") (.str "below") = some false := by rw [ce_str _ _ (by kernel_rfl) (by kernel_rfl)]; congr 1
@[simp] theorem cw_awake_hushed : cmpEq (.str "awake") (.str "hushed") = some false := by rw [ce_str _ _ (by kernel_rfl) (by kernel_rfl)]; congr 1
@[simp] theorem cw_awake_awake : cmpEq (.str "awake") (.str "awake") = some true := by rw [ce_str _ _ (by kernel_rfl) (by kernel_rfl)]; rfl
@[simp] theorem cw_put_put : cmpEq (.str "put") (.str "put") = some true := by rw [ce_str _ _ (by kernel_rfl) (by kernel_rfl)]; rfl
@[simp] theorem cw_put_turn : cmpEq (.str "put") (.str "turn") = some false := by rw [ce_str _ _ (by kernel_rfl) (by kernel_rfl)]; congr 1
@[simp] theorem cw_turn_put : cmpEq (.str "turn") (.str "put") = some false := by rw [ce_str _ _ (by kernel_rfl) (by kernel_rfl)]; congr 1
@[simp] theorem cw_turn_turn : cmpEq (.str "turn") (.str "turn") = some true := by rw [ce_str _ _ (by kernel_rfl) (by kernel_rfl)]; rfl
@[simp] theorem o_zipN (a b : Me) (ρ : DL.Env) (S : Sto) : jZipN a b ρ S = (a ρ S).bindL fun x S => (b ρ S).bindL fun y S => match items x, items y with
  | some xs, some ys => .ok (zipW xs ys) S
  | _, _ => .bad := (rfl)
end SP
set_option Elab.async false
set_option linter.all false
set_option maxRecDepth 100000
set_option maxHeartbeats 4000000
/-! S34: cells of any things; a book made still; a wish broken, by the functions of runs. -/
namespace SP
open PySem DL
end SP
set_option Elab.async false
set_option linter.all false
set_option maxRecDepth 100000
set_option maxHeartbeats 4000000
/-! S35: walks by what holds of environment and store. -/
namespace SP
open PySem DL
/-- it goes on, and then this holds of environment and store -/
def NxP (P : DL.Env → Sto → Prop) : Fl → Prop
  | .nx ρ S => P ρ S
  | .ct ρ S => P ρ S
  | _ => False
theorem NxP.imp {P Q : DL.Env → Sto → Prop} {X : Fl} (h : NxP P X) (i : ∀ ρ S, P ρ S → Q ρ S) : NxP Q X := by
  cases X with
  | nx ρ S => exact i _ _ h
  | ct ρ S => exact i _ _ h
  | _ => exact h
theorem rangeW_at (n : Nat) : ∀ (lo : Int) (i : Nat) (x : W), (rangeW lo n)[i]? = some x → i < n ∧ x = .int (lo + i) := by
  induction n with
  | zero => intro lo i x h; simp [rangeW] at h
  | succ n ih =>
    intro lo i x h
    rw [rangeW] at h
    cases i with
    | zero =>
      have := Option.some.inj h
      exact ⟨by omega, by rw [← this]; simp⟩
    | succ i =>
      obtain ⟨h1, h2⟩ := ih (lo + 1) i x (by simpa using h)
      refine ⟨by omega, ?_⟩
      rw [h2]
      congr 1
      push_cast
      omega
/-- the law's outer loop -/
theorem main_nxe {ns : List Int} {body : Ms} {lo hi N : Nat} (hlo : lo ≤ 1000) (hhi : hi ≤ 1000) (hb : ∀ (k : Nat), k < max lo hi → ∀ (r : DL.Env) (S : Sto), r.length = N → NxE [some (scr ns)] N (fun _ => True) (body (some (scr ns) :: (r.set 0 (some (.int k)))) S)) :
    ∃ S, fnW 1 (N + 1) (sSeq (sFor (jRange1 (mPrim .max (mCons (mCon (.int lo)) (mCons (mPrim .min (mCons (mCon (.int hi)) (mCons (mPrim .len (mCons (mVar 0) mNil)) mNil))) mNil)))) (.nm 1) body) (sSeq (sRet (mCon (.bl true))) sNext)) [scr ns] [] = .ok (.bl true) S := by
  have hm : max (lo : Int) (min (hi : Int) (ns.length : Int)) = ((max lo (min hi ns.length) : Nat) : Int) := by omega
  obtain ⟨r, S, e, hr, _⟩ := for_nxe (tg := .nm 1) (body := body) (fx := [some (scr ns)]) (m := N) (rangeW 0 (max lo (min hi ns.length))) (fun _ _ => True) (fun i x hx r S hr _ => by
    obtain ⟨h1, h2⟩ := rangeW_at _ _ _ _ hx
    rw [h2, Int.zero_add]
    exact ⟨_, rfl, hb i (by omega) r S hr⟩) (List.replicate N none) [] (by simp) trivial
  refine ⟨S, ?_⟩
  have hs : startW (N + 1) [scr ns] = some (scr ns) :: List.replicate N none := by simp [startW]
  have hit : jRange1 (mPrim .max (mCons (mCon (.int lo)) (mCons (mPrim .min (mCons (mCon (.int hi)) (mCons (mPrim .len (mCons (mVar 0) mNil)) mNil))) mNil))) (some (scr ns) :: List.replicate N none) [] = .ok (rangeW 0 (max lo (min hi ns.length))) [] := by
    simp only [o_range1, o_prim, o_cons, o_con, o_nil, o_var]
    simp only [List.getElem?_cons_zero, r_bindL, l_bindL, l_bind, List.map_cons, List.map_nil, d_int, d_lst, p_lenL, optR_s, p_min, p_max, List.length_map, hm]
    rw [if_pos (small_range (by omega) (by omega)), Int.toNat_natCast]
  have hf : sFor (jRange1 (mPrim .max (mCons (mCon (.int lo)) (mCons (mPrim .min (mCons (mCon (.int hi)) (mCons (mPrim .len (mCons (mVar 0) mNil)) mNil))) mNil)))) (.nm 1) body (some (scr ns) :: List.replicate N none) [] = .nx (some (scr ns) :: r) S := by
    rw [o_for, hit, l_toS]
    exact e
  rw [o_fn, if_pos (by rfl), hs, seq_step hf]
  simp
@[simp] theorem o_rev (a : Me) (ρ : DL.Env) (S : Sto) : mRev a ρ S = (a ρ S).bind fun x S => match deref S x with
  | .lst ws => .ok (.lst ws.reverse) S
  | _ => .bad := (rfl)
@[simp] theorem plain_bl60 (k : Bool) : W.plain 60 (.bl k) = true := rfl
@[simp] theorem plain_int60 (k : Int) : W.plain 60 (.int k) = true := rfl
@[simp] theorem plain_non60 : W.plain 60 .non = true := rfl
end SP
set_option Elab.async false
set_option linter.all false
set_option maxRecDepth 100000
set_option maxHeartbeats 4000000
/-! S45: repr, range with a step of -1: simp lemmas and what is shown. -/
namespace SP
open PySem DL
@[simp] theorem o_rangeD (a b c : Me) (ρ : DL.Env) (S : Sto) : jRangeD a b c ρ S = (a ρ S).bindL fun x S => (b ρ S).bindL fun y S => (c ρ S).bindL fun z S => match x, y, z with
  | .int i, .int j, .int k => if ((-(2 ^ 62) ≤ i ∧ i < 2 ^ 62) ∧ -(2 ^ 62) ≤ j ∧ j < 2 ^ 62) ∧ k = -1 then .ok (downW i (i - j).toNat) S else .bad
  | _, _, _ => .bad := (rfl)
@[simp] theorem o_repr (a : Me) (ρ : DL.Env) (S : Sto) : mRepr a ρ S = (a ρ S).bind fun x S => reprR (deref S x) S := (rfl)
end SP
set_option Elab.async false
set_option linter.all false
set_option maxRecDepth 100000
set_option maxHeartbeats 4000000
/-! S67: all states by the law (three rules at most). -/
namespace SP
open PySem hiding upTo
open DL
@[simp] theorem o_ext2 (a b : Me) (ρ : DL.Env) (S : Sto) : mExt a b ρ S = (a ρ S).bind fun x S => if isCell S x then (b ρ S).bind fun y S => extR x y S else .bad := (rfl)
/-! ### all states, by the law -/
end SP
set_option Elab.async false
set_option linter.all false
set_option maxRecDepth 100000
set_option maxHeartbeats 4000000
/-! S68: errors with one field; repr of any plain thing. -/
namespace SP
open PySem hiding upTo
open DL
@[simp] theorem o_raiseF (c i : Nat) (a : Me) (ρ : DL.Env) (S : Sto) : sRaiseF c i a ρ S = (a ρ S).toS ρ fun w S => if (derefF S w).nl then .exc (.own c [(i, derefF S w)]) ρ S else .bad := (rfl)
@[simp] theorem o_reprS (a : Me) (ρ : DL.Env) (S : Sto) : mReprS a ρ S = (a ρ S).bind fun x S => reprS (deref S x) S := (rfl)
@[simp] theorem o_xf (hit : Nat → Option Bool) (i : Nat) (p : Me) (ρ : DL.Env) (S : Sto) : mXf hit i p ρ S = (p ρ S).bind fun x S => match x with
  | .opq k fs => match hit k with
    | some true => optR S (lookF i fs)
    | _ => .bad
  | _ => .bad := (rfl)
@[simp] theorem o_isX (hit : Nat → Option Bool) (p : Me) (ρ : DL.Env) (S : Sto) : mIsX hit p ρ S = (p ρ S).bind fun x S => match x with
  | .opq k _ => optR S ((hit k).map .bl)
  | _ => .bad := (rfl)
@[simp] theorem x_bindL (x : Xn) (S : Sto) (f : W → Sto → LRes) : (Res.exc x S).bindL f = .exc x S := (rfl)
@[simp] theorem x_lbindL (x : Xn) (S : Sto) (f : List W → Sto → LRes) : (LRes.exc x S).bindL f = .exc x S := (rfl)
@[simp] theorem x_lbind (x : Xn) (S : Sto) (f : List W → Sto → Res) : (LRes.exc x S).bind f = .exc x S := (rfl)
@[simp] theorem df_opq (S : Sto) (k : Nat) (fs : List (Nat × W)) : derefF S (.opq k fs) = .opq k fs := (rfl)
@[simp] theorem n_opq (k : Nat) (fs : List (Nat × W)) : W.nl (.opq k fs) = nlF fs := (rfl)
@[simp] theorem d_opq (S : Sto) (k : Nat) (fs : List (Nat × W)) : deref S (.opq k fs) = .opq k fs := (rfl)
@[simp] theorem d_lam (S : Sto) : deref S .lam = .lam := (rfl)
theorem isSt_yes {b : Bk} {s : Sta} (hs : StOk b s) : isSt b (stW s) = true := by
  have hv : isVs b.wh (tpI s.1) = true := by
    show (decide ((s.1.map W.int).length = b.wh.length) && ((s.1.map W.int).zip b.wh).all fun p => isN 0 p.2 p.1) = true
    rw [List.length_map, decide_eq_true hs.l1, Bool.true_and, List.all_eq_true]
    intro p hp
    rw [List.zip_map_left] at hp
    obtain ⟨q, hq, rfl⟩ := List.mem_map.mp hp
    obtain ⟨i, hi, e⟩ := List.getElem_of_mem hq
    rw [List.length_zip] at hi
    have := hs.m1 i ⟨by omega, by omega⟩
    unfold gi at this
    rw [List.getElem_zip] at e
    simp only [Int.toNat_natCast, List.getD_eq_getElem?_getD] at this
    rw [List.getElem?_eq_getElem (by omega), List.getElem?_eq_getElem (by omega)] at this
    subst e
    have h3 : 0 ≤ s.1[i] ∧ s.1[i] < b.wh[i] := this
    show (decide (0 ≤ s.1[i]) && decide (s.1[i] < b.wh[i])) = true
    simp [h3.1, h3.2]
  show (isVs b.wh (tpI s.1) && decide ((s.2.map W.int).length = b.ru.length) && (s.2.map W.int).all (isN 0 3)) = true
  rw [hv, List.length_map, decide_eq_true hs.l2, List.all_map, Bool.and_eq_true]
  refine ⟨rfl, List.all_eq_true.mpr fun h hh => ?_⟩
  have := hs.m2 h hh
  show (decide (0 ≤ h) && decide (h < 3)) = true
  rw [decide_eq_true this.1, decide_eq_true (by omega)]; rfl
end SP
set_option Elab.async false
set_option linter.all false
set_option maxRecDepth 100000
set_option maxHeartbeats 4000000
/-! S48: states in order; sets of states; all states a book comes to. -/
namespace SP
open PySem DL
@[simp] theorem o_snew (ρ : DL.Env) (S : Sto) : mSNew ρ S = newCellR (.set []) S := (rfl)
@[simp] theorem o_bsin (neg : Bool) (a b : Me) (ρ : DL.Env) (S : Sto) : bSIn neg a b ρ S = (a ρ S).bindB fun x S => (b ρ S).bindB fun y S => optB S (sinR neg x y S) := (rfl)
@[simp] theorem o_msin (neg : Bool) (a b : Me) (ρ : DL.Env) (S : Sto) : mSIn neg a b ρ S = (a ρ S).bind fun x S => (b ρ S).bind fun y S => optR S ((sinR neg x y S).map .bl) := (rfl)
@[simp] theorem o_sadd (a b : Me) (ρ : DL.Env) (S : Sto) : mSAdd a b ρ S = (a ρ S).bind fun x S => if (setOf S x).isSome then (b ρ S).bind fun y S => saddR x y S else .bad := (rfl)
@[simp] theorem o_sortS (k : List W → Sto → Res) (a : Me) (ρ : DL.Env) (S : Sto) : mSortS k a ρ S = (a ρ S).bind fun x S => match sortsOf S x with
  | some ws => k ws S
  | none => .bad := (rfl)
/-! ### the order of states -/
/-! ### sets of states -/
end SP
set_option Elab.async false
set_option linter.all false
set_option maxRecDepth 100000
set_option maxHeartbeats 4000000
/-! S49: pairs of states of two books; alike. -/
namespace SP
open PySem DL
abbrev Pr := Sta × Sta
/-! ### how many pairs there are -/
/-! ### the walk over pairs -/
def nxP (b1 b2 : Bk) (p : Pr) : Pr := (tst b1 [] p.1, tst b2 [] p.2)
def begP (b1 b2 : Bk) (v : List Int) : Pr := ((v, zeros b1.ru.length), (v, zeros b2.ru.length))
@[simp] theorem o_sortK (k : List W → Sto → Res) (a : Me) (ρ : DL.Env) (S : Sto) : mSortK k a ρ S = (a ρ S).bind fun x S => match keysOf S x with
  | some ws => k ws S
  | none => .bad := (rfl)
/-! ### the program's alike -/
end SP
set_option Elab.async false
set_option linter.all false
set_option maxRecDepth 100000
set_option maxHeartbeats 4000000
/-! S36: sightings. -/
namespace SP
open PySem hiding upTo
open DL
inductive See where
  | stood (n : Nat) (w p : Int) | did (n : Nat) (r : Int) | rested (n : Nat) (r : Int)
  deriving Inhabited, DecidableEq
def See.W : See → W
  | .stood n w p => .tup [.str "stood", .int n, .int w, .int p]
  | .did n r => .tup [.str "did", .int n, .int r]
  | .rested n r => .tup [.str "rested", .int n, .int r]
def See.Ok (b : Bk) : See → Prop
  | .stood n w p => (n : Int) < MOST ∧ Ix b.wh.length w ∧ 0 ≤ p ∧ p < gi b.wh w
  | .did n r => (n : Int) < MOST ∧ Ix b.ru.length r
  | .rested n r => (n : Int) < MOST ∧ Ix b.ru.length r
def seenSo (b : Bk) (off : List Int) (s : Sta) : See → Bool
  | .stood n w p => gi (itr (tst b off) n s).1 w == p
  | .did n r => (tdn b off (itr (tst b off) n s)).contains r
  | .rested n r => !(tdn b off (itr (tst b off) n s)).contains r
@[simp] theorem nl_see (u : See) : u.W.nl = true := by cases u <;> rfl
@[simp] theorem dd_see (S : Sto) (u : See) : derefF S u.W = u.W := by cases u <;> rfl
@[simp] theorem de_see (S : Sto) (u : See) : deref S u.W = u.W := by cases u <;> rfl
end SP
set_option Elab.async false
set_option linter.all false
set_option maxRecDepth 100000
set_option maxHeartbeats 4000000
/-! S37: a sighting drawn. -/
namespace SP
open PySem hiding upTo
open DL
end SP
set_option Elab.async false
set_option linter.all false
set_option maxRecDepth 100000
set_option maxHeartbeats 4000000
/-! S38: all tuples of so many; a walk up to a find; clashes. -/
namespace SP
open PySem hiding upTo
open DL
theorem subs_mem : ∀ (l : List Int) (k : Nat) (s : List Int), s ∈ subs k l ↔ s.Sublist l ∧ s.length = k
  | [], 0, s => by
    constructor
    · intro h; have : s = [] := by simpa [subs] using h
      subst this; exact ⟨List.Sublist.refl _, rfl⟩
    · rintro ⟨h, _⟩; have : s = [] := by simpa using h
      subst this; simp [subs]
  | [], k + 1, s => by
    constructor
    · intro h; simp [subs] at h
    · rintro ⟨h, h2⟩; have : s = [] := by simpa using h
      subst this; cases h2
  | x :: xs, 0, s => by
    constructor
    · intro h; have : s = [] := by simpa [subs] using h
      subst this; exact ⟨List.nil_sublist _, rfl⟩
    · rintro ⟨_, h2⟩; have : s = [] := List.eq_nil_of_length_eq_zero h2
      subst this; simp [subs]
  | x :: xs, k + 1, s => by
    have i1 := subs_mem xs k
    have i2 := subs_mem xs (k + 1)
    rw [subs, List.mem_append, List.mem_map]
    constructor
    · rintro (⟨t, ht, rfl⟩ | h)
      · obtain ⟨h1, h2⟩ := (i1 t).mp ht
        exact ⟨h1.cons_cons x, by rw [List.length_cons, h2]⟩
      · obtain ⟨h1, h2⟩ := (i2 s).mp h
        exact ⟨h1.cons x, h2⟩
    · rintro ⟨h1, h2⟩
      cases h1 with
      | cons _ h => exact .inr ((i2 s).mpr ⟨h, h2⟩)
      | cons_cons _ h => exact .inl ⟨_, (i1 _).mpr ⟨h, by simpa using h2⟩, rfl⟩
def clashW : Option (List Int × List (List Int)) → W
  | none => .non
  | some (s, fs) => .tup [.str "clash", tpI s, .tup (fs.map fun r => tpI r)]
@[simp] theorem nl_clash (o : Option (List Int × List (List Int))) : (clashW o).nl = true := by
  cases o with
  | none => rfl
  | some p =>
    obtain ⟨s, fs⟩ := p
    have h := nl_rows fs
    show (true && (nlL (s.map W.int) && (nlL (fs.map fun r => tpI r) && true))) = true
    rw [h, nl_ints]; rfl
@[simp] theorem dd_clash (S : Sto) (o : Option (List Int × List (List Int))) : derefF S (clashW o) = clashW o := by cases o <;> rfl
@[simp] theorem de_clash (S : Sto) (o : Option (List Int × List (List Int))) : deref S (clashW o) = clashW o := by cases o <;> rfl
end SP
set_option Elab.async false
set_option linter.all false
set_option maxRecDepth 100000
set_option maxHeartbeats 4000000
/-! S39: the law's own clash. -/
namespace SP
open PySem hiding upTo
open DL
noncomputable def runW (b : Bk) (vs : List Int) : W := .tup [tpI vs, trkW b [] (vs, zeros b.ru.length)]
@[simp] theorem nl_runW (b : Bk) (vs : List Int) : (runW b vs).nl = true := by
  have := nl_trkW b [] (vs, zeros b.ru.length)
  simp [runW, this]
/-- the beginnings by which some sightings are so -/
noncomputable def letsP (b : Bk) (us : List See) (nums : List Int) : List (List Int) := (begs b).filter fun vs => nums.all fun i => seenSo b [] (vs, zeros b.ru.length) (us.getD i.toNat default)
theorem upTo_len (n : Nat) : (upTo n).length = n := by unfold upTo; rw [List.length_map, List.length_range]
end SP
set_option Elab.async false
set_option linter.all false
set_option maxRecDepth 100000
set_option maxHeartbeats 4000000
/-! S40: what a clash is. -/
namespace SP
open PySem hiding upTo
open DL
@[simp] theorem o_revT (a : Me) (ρ : DL.Env) (S : Sto) : mRevT a ρ S = (a ρ S).bind fun x S => match deref S x with
  | .tup ws => .ok (.tup ws.reverse) S
  | _ => .bad := (rfl)
structure ClashS (b : Bk) (us : List See) (s : List Int) (fs : List (List Int)) : Prop where
  sub : s ∈ subs s.length (upTo us.length)
  emp : letsP b us s = []
  pos : 0 < s.length
  few : ∀ k, k < s.length → ∀ t ∈ subs k (upTo us.length), letsP b us t ≠ []
  fse : fs = (subs (s.length - 1) (upTo us.length)).map fun f => (letsP b us f).headD []
theorem ClashS.len {b : Bk} {us : List See} {s : List Int} {fs : List (List Int)} (h : ClashS b us s fs) : s.length ≤ us.length := by
  have h1 := ((subs_mem _ _ _).mp h.sub).1.length_le
  rwa [upTo_len] at h1
theorem ClashS.drop {b : Bk} {us : List See} {s : List Int} {fs : List (List Int)} (h : ClashS b us s fs) {i : Nat} (hi : i < s.length) : s.take i ++ s.drop (i + 1) ∈ subs (s.length - 1) (upTo us.length) := by
  refine (subs_mem _ _ _).mpr ⟨?_, by rw [List.length_append, List.length_take, List.length_drop]; omega⟩
  have h1 : (s.take i ++ s.drop (i + 1)).Sublist s := by
    conv => rhs; rw [← List.take_append_drop i s]
    exact (List.Sublist.refl _).append (List.drop_sublist_drop_left s (by omega))
  exact h1.trans ((subs_mem _ _ _).mp h.sub).1
end SP
set_option Elab.async false
set_option linter.all false
set_option maxRecDepth 100000
set_option maxHeartbeats 4000000
/-! S51: dict and set comprehensions, pop, reverse, dict(pairs): simp lemmas; papers of alike looked at. -/
namespace SP
open PySem hiding upTo
open DL
@[simp] theorem o_dc (vs : List Nat) (tg : Tg) (it : Ml) (c : Mb) (ek ev : Me) (ρ : DL.Env) (S : Sto) : mDc vs tg it c ek ev ρ S = (it ρ S).bind fun xs S => mDc.dcM ρ vs tg c ek ev xs [] S := (rfl)
@[simp] theorem o_sc (vs : List Nat) (tg : Tg) (it : Ml) (c : Mb) (el : Me) (ρ : DL.Env) (S : Sto) : mSc vs tg it c el ρ S = (it ρ S).bind fun xs S => mSc.scM ρ vs tg c el xs [] S := (rfl)
@[simp] theorem o_pop (a i : Me) (ρ : DL.Env) (S : Sto) : mPop a i ρ S = (a ρ S).bind fun x S => if isCell S x then (i ρ S).bind fun i S => popR x i S else .bad := (rfl)
@[simp] theorem o_rvs (a : Me) (ρ : DL.Env) (S : Sto) : mRvs a ρ S = (a ρ S).bind fun x S => if isCell S x then rvsR x S else .bad := (rfl)
@[simp] theorem o_dicP (a : Me) (ρ : DL.Env) (S : Sto) : mDicP a ρ S = (a ρ S).bind dicPR := (rfl)
@[simp] theorem o_lenD (a : Me) (ρ : DL.Env) (S : Sto) : mLenD a ρ S = (a ρ S).bind fun x S => optR S (lenDR S x) := (rfl)
@[simp] theorem o_thru (m : Ms) (ρ : DL.Env) (S : Sto) : sThru m ρ S = thruF (m ρ S) := (rfl)
@[simp] theorem thru_nx (ρ : DL.Env) (S : Sto) : thruF (.nx ρ S) = .nx ρ S := (rfl)
@[simp] theorem thru_ret (w : W) (S : Sto) : thruF (.ret w S) = .ret w S := (rfl)
/-! ### a dict of pairs, all told true -/
def samP (p : Pr) : Bool := decide (p.1.1 = p.2.1)
end SP
set_option Elab.async false
set_option linter.all false
set_option maxRecDepth 100000
set_option maxHeartbeats 4000000
/-! S52: what alike tells, its meaning. -/
namespace SP
open PySem hiding upTo
open DL
theorem itP_fst (b1 b2 : Bk) (p : Pr) : ∀ n, (itr (nxP b1 b2) n p).1 = itr (tst b1 []) n p.1
  | 0 => rfl
  | n + 1 => by show (nxP b1 b2 (itr (nxP b1 b2) n p)).1 = tst b1 [] (itr (tst b1 []) n p.1); rw [← itP_fst b1 b2 p n]; rfl
theorem itP_snd (b1 b2 : Bk) (p : Pr) : ∀ n, (itr (nxP b1 b2) n p).2 = itr (tst b2 []) n p.2
  | 0 => rfl
  | n + 1 => by show (nxP b1 b2 (itr (nxP b1 b2) n p)).2 = tst b2 [] (itr (tst b2 []) n p.2); rw [← itP_snd b1 b2 p n]; rfl
/-- the values are the same ahead of the n-th beat of the runs from v -/
def samAt (b1 b2 : Bk) (v : List Int) (n : Nat) : Bool := samP (itr (nxP b1 b2) n (begP b1 b2 v))
theorem samAt_eq (b1 b2 : Bk) (v : List Int) (n : Nat) : samAt b1 b2 v n = decide ((itr (tst b1 []) n (v, zeros b1.ru.length)).1 = (itr (tst b2 []) n (v, zeros b2.ru.length)).1) := by
  unfold samAt samP
  rw [itP_fst, itP_snd]; rfl
def Part (f : Nat → Bool) : Option Nat → Prop
  | none => ∀ n, f n = true
  | some k => f k = false ∧ ∀ j, j < k → f j = true
theorem Part.uniq {f : Nat → Bool} : ∀ {o p : Option Nat}, Part f o → Part f p → o = p
  | none, none, _, _ => rfl
  | none, some q, h, k => by have := h q; rw [k.1] at this; cases this
  | some q, none, h, k => by have := k q; rw [h.1] at this; cases this
  | some q, some r, h, k => by
    rcases Nat.lt_trichotomy q r with c | c | c
    · have := k.2 q c; rw [h.1] at this; cases this
    · rw [c]
    · have := h.2 r c; rw [k.1] at this; cases this
structure ClsP (b1 b2 : Bk) (vis : List Pr) : Prop where
  sam : ∀ p ∈ vis, samP p = true
  nx : ∀ p ∈ vis, nxP b1 b2 p ∈ vis
theorem ClsP.itr {b1 b2 : Bk} {vis : List Pr} (h : ClsP b1 b2 vis) {p : Pr} (hp : p ∈ vis) : ∀ n, itr (nxP b1 b2) n p ∈ vis
  | 0 => hp
  | n + 1 => h.nx _ (ClsP.itr h hp n)
theorem ClsP.at_ {b1 b2 : Bk} {vis : List Pr} (h : ClsP b1 b2 vis) {v : List Int} (hp : begP b1 b2 v ∈ vis) (n : Nat) : samAt b1 b2 v n = true := h.sam _ (h.itr hp n)
end SP
set_option Elab.async false
set_option linter.all false
set_option maxRecDepth 100000
set_option maxHeartbeats 4000000
/-! S53: pairs in order; what alike tells, by its members. -/
namespace SP
open PySem hiding upTo
open DL
def AL (b1 b2 : Bk) : Prop := ∀ v ∈ begs b1, ∀ n, samAt b1 b2 v n = true
/-- the other way about -/
theorem begs_eq {b1 b2 : Bk} (hw : b1.wh = b2.wh) : begs b1 = begs b2 := by unfold begs szs; rw [hw]
theorem AL.trans {b1 b2 b3 : Bk} (hw : b1.wh = b2.wh) (h : AL b1 b2) (h' : AL b2 b3) : AL b1 b3 := fun v hv n => by
  have e1 := h v hv n
  have e2 := h' v (by rw [← begs_eq hw]; exact hv) n
  rw [samAt_eq] at e1 e2 ⊢
  exact decide_eq_true ((of_decide_eq_true e1).trans (of_decide_eq_true e2))
end SP
set_option Elab.async false
set_option linter.all false
set_option maxRecDepth 100000
set_option maxHeartbeats 4000000
/-! S41: orders that are tracked tuples. -/
namespace SP
open PySem hiding upTo
open DL
@[simp] theorem it_tpx (ws : List W) : items (.tpx ws) = some ws := (rfl)
@[simp] theorem de_tpx (S : Sto) (ws : List W) : deref S (.tpx ws) = .tup ws := (rfl)
@[simp] theorem df_tpx (S : Sto) (ws : List W) : derefF S (.tpx ws) = .tpx ws := (rfl)
@[simp] theorem nl_tpx (ws : List W) : (W.tpx ws).nl = nlL ws := (rfl)
end SP
set_option Elab.async false
set_option linter.all false
set_option maxRecDepth 100000
set_option maxHeartbeats 4000000
/-! S44: rules by other numbers. -/
namespace SP
open PySem hiding upTo
open DL
def nw (rk : List Int) (r : Int) : Int := (rk.idxOf r : Nat)
section
variable {rk : List Int} {n : Nat}
theorem rk_mem (h : rk.Perm (upTo n)) {r : Int} : r ∈ rk ↔ Ix n r := by
  rw [h.mem_iff]
  constructor
  · intro hr; exact upTo_ix hr
  · rintro ⟨h0, h1⟩
    unfold upTo
    exact List.mem_map.mpr ⟨r.toNat, List.mem_range.mpr (by omega), by omega⟩
theorem gi_ext {a c : List Int} (h1 : a.length = n) (h2 : c.length = n) (h : ∀ i, Ix n i → gi a i = gi c i) : a = c := by
  apply List.ext_getElem (by rw [h1, h2])
  intro i h3 h4
  have := h i ⟨by omega, by omega⟩
  unfold gi at this
  rw [Int.toNat_natCast, List.getD_eq_getElem?_getD, List.getD_eq_getElem?_getD, List.getElem?_eq_getElem h3, List.getElem?_eq_getElem h4] at this
  exact this
/-- what hushing makes of hushes, place by place -/
structure HP (n : Nat) (hs : List Int) (l : List (Int × Int)) (hs' : List Int) : Prop where
  len : hs'.length = n
  i : ∀ p ∈ l, gi hs' p.1 = max (gi hs p.1) p.2
  o : ∀ j, Ix n j → (∀ p ∈ l, p.1 ≠ j) → gi hs' j = gi hs j
theorem HP.of : ∀ (l : List (Int × Int)) (hs : List Int), hs.length = n → (∀ p ∈ l, Ix n p.1) → (l.map (·.1)).Nodup → HP n hs l (husDo hs l)
  | [], hs, hl, _, _ => ⟨hl, (fun _ h => nomatch h), fun _ _ _ => rfl⟩
  | q :: l, hs, hl, hi, hn => by
    rw [List.map_cons, List.nodup_cons] at hn
    have hq := hi q (List.mem_cons_self ..)
    have ih := HP.of l (seti hs q.1 (max (gi hs q.1) q.2)) (by rw [seti_len, hl]) (fun p hp => hi p (List.mem_cons_of_mem _ hp)) hn.2
    have hne : ∀ p ∈ l, p.1 ≠ q.1 := fun p hp e => hn.1 (by rw [← e]; exact List.mem_map.mpr ⟨p, hp, rfl⟩)
    refine ⟨ih.len, fun p hp => ?_, fun j hj ho => ?_⟩
    · show gi (husDo (seti hs q.1 (max (gi hs q.1) q.2)) l) p.1 = _
      rcases List.mem_cons.mp hp with rfl | hp
      · rw [ih.o p.1 hq hne, gi_seti (by rw [hl]; exact hq) hq.1, if_pos rfl]
      · rw [ih.i p hp, gi_seti (by rw [hl]; exact hq) (hi p (List.mem_cons_of_mem _ hp)).1, if_neg (hne p hp)]
    · show gi (husDo (seti hs q.1 (max (gi hs q.1) q.2)) l) j = _
      rw [ih.o j hj fun p hp => ho p (List.mem_cons_of_mem _ hp), gi_seti (by rw [hl]; exact hq) hj.1, if_neg fun e => ho q (List.mem_cons_self ..) e.symm]
theorem HP.uniq {hs a c : List Int} {l : List (Int × Int)} (h1 : HP n hs l a) (h2 : HP n hs l c) : a = c := by
  refine gi_ext h1.len h2.len fun i hi => ?_
  by_cases h : ∃ p ∈ l, p.1 = i
  · obtain ⟨p, hp, rfl⟩ := h
    rw [h1.i p hp, h2.i p hp]
  · have h : ∀ p ∈ l, p.1 ≠ i := fun p hp e => h ⟨p, hp, e⟩
    rw [h1.o i hi h, h2.o i hi h]
structure WP (n : Nat) (hs : List Int) (l : List Int) (hs' : List Int) : Prop where
  len : hs'.length = n
  i : ∀ p ∈ l, gi hs' p = 0
  o : ∀ j, Ix n j → j ∉ l → gi hs' j = gi hs j
theorem WP.of : ∀ (l : List Int) (hs : List Int), hs.length = n → (∀ p ∈ l, Ix n p) → WP n hs l (wakDo hs l)
  | [], hs, hl, _ => ⟨hl, (fun _ h => nomatch h), fun _ _ _ => rfl⟩
  | q :: l, hs, hl, hi => by
    have hq := hi q (List.mem_cons_self ..)
    have ih := WP.of l (seti hs q 0) (by rw [seti_len, hl]) (fun p hp => hi p (List.mem_cons_of_mem _ hp))
    refine ⟨ih.len, fun p hp => ?_, fun j hj ho => ?_⟩
    · show gi (wakDo (seti hs q 0) l) p = 0
      by_cases hpl : p ∈ l
      · exact ih.i p hpl
      · have e : p = q := by
          rcases List.mem_cons.mp hp with h | h
          · exact h
          · exact absurd h hpl
        subst e
        rw [ih.o p hq hpl, gi_seti (by rw [hl]; exact hq) hq.1, if_pos rfl]
    · show gi (wakDo (seti hs q 0) l) j = _
      rw [ih.o j hj fun h => ho (List.mem_cons_of_mem _ h), gi_seti (by rw [hl]; exact hq) hj.1, if_neg fun e => ho (by rw [e]; exact List.mem_cons_self ..)]
theorem WP.uniq {hs a c : List Int} {l : List Int} (h1 : WP n hs l a) (h2 : WP n hs l c) : a = c := by
  refine gi_ext h1.len h2.len fun i hi => ?_
  by_cases h : i ∈ l
  · rw [h1.i i h, h2.i i h]
  · rw [h1.o i hi h, h2.o i hi h]
end
section
variable {b : Bk} {rk : List Int}
theorem all_cg {α : Type} {f g : α → Bool} : ∀ {l : List α}, (∀ a ∈ l, f a = g a) → l.all f = l.all g
  | [], _ => rfl
  | a :: l, h => by rw [List.all_cons, List.all_cons, h a (List.mem_cons_self ..), all_cg fun c hc => h c (List.mem_cons_of_mem _ hc)]
theorem ask_in {b : Bk} {off : List Int} : ∀ (l : List Int) (m : Mid3) (P : Int → Prop), (∀ r ∈ l, P r) → (∀ r ∈ m.dn, P r) → ∀ r ∈ (l.foldl (ask b off) m).dn, P r
  | [], m, P, _, h => h
  | i :: l, m, P, hl, h => by
    rw [List.foldl_cons]
    refine ask_in l _ P (fun r hr => hl r (List.mem_cons_of_mem _ hr)) fun r hr => ?_
    unfold ask at hr
    split at hr
    · rcases List.mem_append.mp hr with hr | hr
      · exact h r hr
      · have : r = i := by simpa using hr
        rw [this]; exact hl i (List.mem_cons_self ..)
    · exact h r hr
theorem beat_in {b : Bk} {off : List Int} {s : Sta} {order : List Int} {P : Int → Prop} (h : ∀ r ∈ order, P r) : ∀ r ∈ (beatOf b s order off).1, P r := ask_in order _ P h (fun _ h => nomatch h)
end
end SP
set_option Elab.async false
set_option linter.all false
set_option maxRecDepth 100000
set_option maxHeartbeats 4000000
/-! S57: rules written otherwise: the same runs. -/
namespace SP
open PySem hiding upTo
open DL
/-- hushes seen through f -/
def HR (f : Int → Int) (n n' : Nat) (hs hs' : List Int) : Prop := hs.length = n ∧ hs'.length = n' ∧ ∀ i, Ix n i → gi hs' (f i) = gi hs i
structure Emb (f : Int → Int) (n n' : Nat) : Prop where
  ix : ∀ i, Ix n i → Ix n' (f i)
  inj : ∀ i j, Ix n i → Ix n j → f i = f j → i = j
structure RulR (f : Int → Int) (wh : List Int) (n n' : Nat) (r r' : Rul) : Prop where
  t : ∀ vs hs hs', HR f n n' hs hs' → r'.test.all (Cnd.so vs hs') = r.test.all (Cnd.so vs hs)
  c : ∀ vs, vs.length = wh.length → r'.chg.foldl (Chg.do wh) vs = r.chg.foldl (Chg.do wh) vs
  h : r'.hus = r.hus.map fun p => (f p.1, p.2)
  w : r'.wak = r.wak.map f
inductive Ords (f : Int → Int) (P : Int → Prop) : List Int → List Int → Prop where
  | nil : Ords f P [] []
  | go (i : Int) {l l' : List Int} : Ords f P l l' → Ords f P (i :: l) (f i :: l')
  | by_ (j : Int) {l l' : List Int} : P j → Ords f P l l' → Ords f P l (j :: l')
theorem Ords.map {f : Int → Int} {P : Int → Prop} : ∀ l : List Int, Ords f P l (l.map f)
  | [] => .nil
  | i :: l => .go i (Ords.map l)
theorem Ords.app {f : Int → Int} {P : Int → Prop} {a a' c c' : List Int} (h : Ords f P a a') (k : Ords f P c c') : Ords f P (a ++ c) (a' ++ c') := by
  induction h with
  | nil => exact k
  | go i _ ih => exact .go i ih
  | by_ j p _ ih => exact .by_ j p ih
def Mute (b : Bk) (j : Int) : Prop := Ix b.ru.length j ∧ ∀ m, MidOk b m → wouldDo b j m.vs m.hs = false
structure Stp (b b' : Bk) (f : Int → Int) : Prop where
  wh : b'.wh = b.wh
  e : Emb f b.ru.length b'.ru.length
  r : ∀ i, Ix b.ru.length i → RulR f b.wh b.ru.length b'.ru.length (b.rule i) (b'.rule (f i))
  o : Ords f (Mute b') (own b) (own b')
section
variable {f : Int → Int} {n n' : Nat}
theorem HR.set (e : Emb f n n') {hs hs' : List Int} (h : HR f n n' hs hs') {k : Int} (hk : Ix n k) (v : Int) : HR f n n' (seti hs k v) (seti hs' (f k) v) := by
  obtain ⟨h1, h2, h3⟩ := h
  refine ⟨by rw [seti_len]; exact h1, by rw [seti_len]; exact h2, fun i hi => ?_⟩
  rw [gi_seti (by rw [h2]; exact e.ix k hk) (e.ix i hi).1, gi_seti (by rw [h1]; exact hk) hi.1]
  by_cases c : i = k
  · rw [if_pos c, if_pos (by rw [c])]
  · rw [if_neg c, if_neg fun q => c (e.inj i k hi hk q)]
    exact h3 i hi
theorem HR.hus (e : Emb f n n') : ∀ (l : List (Int × Int)) {hs hs' : List Int}, (∀ p ∈ l, Ix n p.1) → HR f n n' hs hs' → HR f n n' (husDo hs l) (husDo hs' (l.map fun p => (f p.1, p.2)))
  | [], _, _, _, h => h
  | p :: l, hs, hs', hp, h => by
    have h0 := hp p (List.mem_cons_self ..)
    show HR f n n' (husDo (seti hs p.1 (max (gi hs p.1) p.2)) l) (husDo (seti hs' (f p.1) (max (gi hs' (f p.1)) p.2)) (l.map fun p => (f p.1, p.2)))
    rw [h.2.2 p.1 h0]
    exact HR.hus e l (fun q hq => hp q (List.mem_cons_of_mem _ hq)) (h.set e h0 _)
theorem HR.wak (e : Emb f n n') : ∀ (l : List Int) {hs hs' : List Int}, (∀ p ∈ l, Ix n p) → HR f n n' hs hs' → HR f n n' (wakDo hs l) (wakDo hs' (l.map f))
  | [], _, _, _, h => h
  | p :: l, hs, hs', hp, h => by
    have h0 := hp p (List.mem_cons_self ..)
    show HR f n n' (wakDo (seti hs p 0) l) (wakDo (seti hs' (f p) 0) (l.map f))
    exact HR.wak e l (fun q hq => hp q (List.mem_cons_of_mem _ hq)) (h.set e h0 _)
theorem gi_less' {hs : List Int} {i : Int} (h : Ix hs.length i) : gi (less hs) i = max 0 (gi hs i - 1) := by
  obtain ⟨h0, h1⟩ := h
  unfold gi less
  rw [List.getD_eq_getElem?_getD, List.getD_eq_getElem?_getD, List.getElem?_map, List.getElem?_eq_getElem (by omega)]
  rfl
theorem HR.less (e : Emb f n n') {hs hs' : List Int} (h : HR f n n' hs hs') : HR f n n' (less hs) (less hs') := by
  obtain ⟨h1, h2, h3⟩ := h
  refine ⟨by unfold SP.less; rw [List.length_map]; exact h1, by unfold SP.less; rw [List.length_map]; exact h2, fun i hi => ?_⟩
  rw [gi_less' (by rw [h2]; exact e.ix i hi), gi_less' (by rw [h1]; exact hi), h3 i hi]
end
structure MR (f : Int → Int) (n n' : Nat) (m m' : Mid3) : Prop where
  v : m'.vs = m.vs
  h : HR f n n' m.hs m'.hs
  d : m'.dn = m.dn.map f
theorem ask_sim {b b' : Bk} {f : Int → Int} (hb : b.Ok) (s : Stp b b' f) {m m' : Mid3} (hm : MidOk b m) (h : MR f b.ru.length b'.ru.length m m') {i : Int} (hi : Ix b.ru.length i) : MR f b.ru.length b'.ru.length (ask b [] m i) (ask b' [] m' (f i)) := by
  have hr := s.r i hi
  have hw : wouldDo b' (f i) m'.vs m'.hs = wouldDo b i m.vs m.hs := by
    unfold wouldDo
    rw [h.h.2.2 i hi, h.v, hr.t m.vs m.hs m'.hs h.h]
  have hok : (b.rule i).Ok b.wh b.ru.length := rule_ok hb hi
  unfold ask
  rw [hw]
  show MR f _ _ (if (!([] : List Int).contains i && _) = true then _ else _) (if (!([] : List Int).contains (f i) && _) = true then _ else _)
  rw [show ([] : List Int).contains i = false from rfl, show ([] : List Int).contains (f i) = false from rfl]
  cases wouldDo b i m.vs m.hs with
  | false => exact h
  | true =>
    refine ⟨?_, ?_, ?_⟩
    · show (b'.rule (f i)).chg.foldl (Chg.do b'.wh) m'.vs = (b.rule i).chg.foldl (Chg.do b.wh) m.vs
      rw [s.wh, h.v]
      exact hr.c _ hm.f.1
    · show HR f _ _ (wakDo (husDo m.hs (b.rule i).hus) (b.rule i).wak) (wakDo (husDo m'.hs (b'.rule (f i)).hus) (b'.rule (f i)).wak)
      rw [hr.h, hr.w]
      exact HR.wak s.e _ hok.k (HR.hus s.e _ (fun p hp => (hok.h p hp).1) h.h)
    · show m'.dn ++ [f i] = (m.dn ++ [i]).map f
      rw [h.d, List.map_append]; rfl
theorem ask1_ok {b : Bk} (hb : b.Ok) {m : Mid3} (hm : MidOk b m) {i : Int} (hi : Ix b.ru.length i) : MidOk b (ask b [] m i) :=
  ask_ok hb (off := []) [i] m (fun q hq => by
    have : q = i := by simpa using hq
    rw [this]
    exact hi) hm
theorem fold_sim {b b' : Bk} {f : Int → Int} (hb : b.Ok) (hb' : b'.Ok) (s : Stp b b' f) {l l' : List Int} (o : Ords f (Mute b') l l') : ∀ {m m' : Mid3}, (∀ r ∈ l, Ix b.ru.length r) → MidOk b m → MidOk b' m' → MR f b.ru.length b'.ru.length m m' → MR f b.ru.length b'.ru.length (l.foldl (ask b []) m) (l'.foldl (ask b' []) m') := by
  induction o with
  | nil => intro m m' _ _ _ h; exact h
  | go i _ ih =>
    intro m m' hl hm hm' h
    have hi := hl i (List.mem_cons_self ..)
    rw [List.foldl_cons, List.foldl_cons]
    exact ih (fun r hr => hl r (List.mem_cons_of_mem _ hr)) (ask1_ok hb hm hi) (ask1_ok hb' hm' (s.e.ix i hi)) (ask_sim hb s hm h hi)
  | by_ j p _ ih =>
    intro m m' hl hm hm' h
    have e : ask b' [] m' j = m' := by
      unfold ask
      rw [p.2 m' hm', Bool.and_false]
      rfl
    rw [List.foldl_cons, e]
    exact ih hl hm hm' h
structure SR (f : Int → Int) (n n' : Nat) (s s' : Sta) : Prop where
  v : s'.1 = s.1
  h : HR f n n' s.2 s'.2
theorem beat_sim {b b' : Bk} {f : Int → Int} (hb : b.Ok) (hb' : b'.Ok) (p : Stp b b' f) {s s' : Sta} (hs : StOk b s) (hs' : StOk b' s') (h : SR f b.ru.length b'.ru.length s s') :
    SR f b.ru.length b'.ru.length (tst b [] s) (tst b' [] s') ∧ tdn b' [] s' = (tdn b [] s).map f := by
  have k := fold_sim hb hb' p p.o (m := ⟨s.1, s.2, []⟩) (m' := ⟨s'.1, s'.2, []⟩) (own_ix b) (mid0 hs) (mid0 hs') ⟨h.v, h.h, rfl⟩
  exact ⟨⟨k.v, k.h.less p.e⟩, k.d⟩
theorem zeros_gi (n : Nat) (i : Int) : gi (zeros n) i = 0 := by
  unfold gi zeros
  rw [List.getD_eq_getElem?_getD, List.getElem?_replicate]
  split <;> rfl
theorem itr_sim {b b' : Bk} {f : Int → Int} (hb : b.Ok) (hb' : b'.Ok) (p : Stp b b' f) {v : List Int} (hv : v ∈ begs b) : ∀ n, SR f b.ru.length b'.ru.length (itr (tst b []) n (v, zeros b.ru.length)) (itr (tst b' []) n (v, zeros b'.ru.length))
  | 0 => ⟨rfl, by unfold itr zeros; rw [List.length_replicate], by unfold itr zeros; rw [List.length_replicate], fun i _ => by
      show gi (zeros _) _ = gi (zeros _) _
      rw [zeros_gi, zeros_gi]⟩
  | n + 1 => by
    have hv' : v ∈ begs b' := by rw [begs_eq p.wh]; exact hv
    exact (beat_sim hb hb' p (itr_ok hb (beg_st hb hv) n) (itr_ok hb' (beg_st hb' hv') n) (itr_sim hb hb' p hv n)).1
/-- alike, rule by rule -/
structure Lk (b1 b2 : Bk) (nm : List Int) : Prop where
  wh : b2.wh = b1.wh
  len : nm.length = b1.ru.length
  ix : ∀ r ∈ nm, Ix b2.ru.length r
  v : ∀ v ∈ begs b1, ∀ n, (itr (tst b2 []) n (v, zeros b2.ru.length)).1 = (itr (tst b1 []) n (v, zeros b1.ru.length)).1
  d : ∀ v ∈ begs b1, ∀ n i, Ix b1.ru.length i → (gi nm i ∈ tdn b2 [] (itr (tst b2 []) n (v, zeros b2.ru.length)) ↔ i ∈ tdn b1 [] (itr (tst b1 []) n (v, zeros b1.ru.length)))
theorem gi_upTo {n : Nat} {i : Int} (h : Ix n i) : gi (upTo n) i = i := by
  obtain ⟨h0, h1⟩ := h
  unfold gi upTo
  rw [List.getD_eq_getElem?_getD, List.getElem?_map, List.getElem?_range (by omega)]
  show ((i.toNat : Nat) : Int) = i
  omega
theorem Lk.refl (b : Bk) : Lk b b (upTo b.ru.length) := ⟨rfl, upTo_len _, fun r hr => upTo_ix hr, fun _ _ _ => rfl, fun v _ n i hi => by rw [gi_upTo hi]⟩
theorem tdn_ix {b : Bk} {s : Sta} : ∀ r ∈ tdn b [] s, Ix b.ru.length r := beat_in (own_ix b)
theorem gi_map {f : Int → Int} {l : List Int} {i : Int} (h : Ix l.length i) : gi (l.map f) i = f (gi l i) := by
  obtain ⟨h0, h1⟩ := h
  unfold gi
  rw [List.getD_eq_getElem?_getD, List.getD_eq_getElem?_getD, List.getElem?_map, List.getElem?_eq_getElem (by omega)]
  rfl
theorem Lk.step {b1 b2 b3 : Bk} {nm : List Int} {f : Int → Int} (h : Lk b1 b2 nm) (h2 : b2.Ok) (h3 : b3.Ok) (p : Stp b2 b3 f) : Lk b1 b3 (nm.map f) := by
  have hb : ∀ v ∈ begs b1, v ∈ begs b2 := fun v hv => by rw [begs_eq h.wh]; exact hv
  refine ⟨p.wh.trans h.wh, by rw [List.length_map]; exact h.len, fun r hr => ?_, fun v hv n => ?_, fun v hv n i hi => ?_⟩
  · obtain ⟨q, hq, rfl⟩ := List.mem_map.mp hr
    exact p.e.ix q (h.ix q hq)
  · rw [← h.v v hv n]
    exact (itr_sim h2 h3 p (hb v hv) n).v
  · have hi' : Ix nm.length i := by rw [h.len]; exact hi
    have hv3 : v ∈ begs b3 := by rw [begs_eq p.wh]; exact hb v hv
    rw [gi_map hi', ← h.d v hv n i hi, (beat_sim h2 h3 p (itr_ok h2 (beg_st h2 (hb v hv)) n) (itr_ok h3 (beg_st h3 hv3) n) (itr_sim h2 h3 p (hb v hv) n)).2, List.mem_map]
    constructor
    · rintro ⟨j, hj, e⟩
      rw [p.e.inj _ _ (h.ix _ (gi_mem hi')) (tdn_ix j hj) e.symm]; exact hj
    · intro hj
      exact ⟨_, hj, rfl⟩
/-! ### one rule put otherwise -/
theorem HR.eq {n : Nat} {hs hs' : List Int} (h : HR (fun i => i) n n hs hs') : hs' = hs := gi_ext h.2.1 h.1 h.2.2
theorem Stp.same (b : Bk) : Stp b b (fun i => i) := by
  refine ⟨rfl, ⟨fun i hi => hi, fun i j _ _ e => e⟩, fun i hi => ⟨fun vs hs hs' h => by rw [h.eq], fun _ _ => rfl, by rw [List.map_id'], by rw [List.map_id']⟩, ?_⟩
  have := Ords.map (f := fun i => i) (P := Mute b) (own b)
  rw [List.map_id'] at this
  exact this
/-! ### a vain rule put in -/
def mvN (s : Int) (i : Int) : Int := if s ≤ i then i + 1 else i
def mvC (s : Int) : Cnd → Cnd
  | .pl k w p => .pl k w p
  | .hu r => .hu (mvN s r)
  | .aw r => .aw (mvN s r)
def mvR (s : Int) (c : Rul) : Rul := ⟨c.test.map (mvC s), c.chg, c.hus.map fun p => (mvN s p.1, p.2), c.wak.map (mvN s)⟩
def insB (b : Bk) (s : Nat) (r : Rul) : Bk := ⟨b.wh, (b.ru.map (mvR s)).take s ++ r :: (b.ru.map (mvR s)).drop s⟩
theorem insB_len (b : Bk) {s : Nat} (hs : s ≤ b.ru.length) (r : Rul) : (insB b s r).ru.length = b.ru.length + 1 := by
  show ((b.ru.map (mvR s)).take s ++ r :: (b.ru.map (mvR s)).drop s).length = _
  rw [List.length_append, List.length_cons, List.length_take, List.length_drop, List.length_map]; omega
theorem insB_at (b : Bk) {s : Nat} (hs : s ≤ b.ru.length) (r : Rul) {i : Int} (hi : Ix b.ru.length i) : (insB b s r).rule (mvN s i) = mvR s (b.rule i) := by
  obtain ⟨h0, h1⟩ := hi
  have hr : (b.ru.map (mvR s))[i.toNat]? = some (mvR s (b.rule i)) := by
    unfold Bk.rule
    rw [List.getElem?_map, List.getD_eq_getElem?_getD, List.getElem?_eq_getElem (by omega)]; rfl
  have hl : (b.ru.map (mvR s)).length = b.ru.length := List.length_map ..
  show ((b.ru.map (mvR s)).take s ++ r :: (b.ru.map (mvR s)).drop s).getD (mvN s i).toNat default = _
  rw [List.getD_eq_getElem?_getD]
  unfold mvN
  split
  · rw [List.getElem?_append_right (by rw [List.length_take]; omega), List.length_take, show (i + 1).toNat - min s (b.ru.map (mvR s)).length = (i.toNat - s) + 1 by omega, List.getElem?_cons_succ, List.getElem?_drop, show s + (i.toNat - s) = i.toNat by omega, hr]; rfl
  · rw [List.getElem?_append_left (by rw [List.length_take]; omega), List.getElem?_take_of_lt (by omega), hr]; rfl
theorem insB_spot (b : Bk) {s : Nat} (hs : s ≤ b.ru.length) (r : Rul) : (insB b s r).rule s = r := by
  have hl : (b.ru.map (mvR s)).length = b.ru.length := List.length_map ..
  show ((b.ru.map (mvR s)).take s ++ r :: (b.ru.map (mvR s)).drop s).getD (s : Int).toNat default = _
  rw [List.getD_eq_getElem?_getD, List.getElem?_append_right (by rw [List.length_take]; omega), List.length_take, show (s : Int).toNat - min s (b.ru.map (mvR s)).length = 0 by omega]; rfl
theorem mvN_emb (s n : Nat) : Emb (mvN s) n (n + 1) := ⟨fun i hi => by unfold mvN; obtain ⟨h0, h1⟩ := hi; split <;> exact ⟨by omega, by omega⟩, fun i j _ _ e => by
  unfold mvN at e
  split at e <;> split at e <;> omega⟩
theorem mvC_so {n n' : Nat} {s : Int} {hs hs' : List Int} (h : HR (mvN s) n n' hs hs') {wh : List Int} {c : Cnd} (hc : c.Ok wh n) (vs : List Int) : Cnd.so vs hs' (mvC s c) = Cnd.so vs hs c := by
  cases c with
  | pl k w p => cases k <;> rfl
  | hu r => show decide (0 < gi hs' (mvN s r)) = decide (0 < gi hs r); rw [h.2.2 r hc]
  | aw r => show (gi hs' (mvN s r) == 0) = (gi hs r == 0); rw [h.2.2 r hc]
theorem Stp.ins {b : Bk} (hb : b.Ok) {s : Nat} (hs : s ≤ b.ru.length) (c : Rul) : Stp b (insB b s (lessR c)) (mvN s) := by
  have hl := insB_len b hs (lessR c)
  refine ⟨rfl, by rw [hl]; exact mvN_emb s _, fun i hi => ?_, ?_⟩
  · rw [hl, insB_at b hs _ hi]
    have hok : (b.rule i).Ok b.wh b.ru.length := rule_ok hb hi
    refine ⟨fun vs hs hs' h => ?_, fun _ _ => rfl, rfl, rfl⟩
    show ((b.rule i).test.map (mvC s)).all _ = _
    rw [List.all_map]
    exact all_cg fun d hd => mvC_so h (hok.t d hd) vs
  · have hmute : Mute (insB b s (lessR c)) s := by
      refine ⟨by rw [hl]; exact ⟨by omega, by omega⟩, fun m hm => ?_⟩
      unfold wouldDo
      rw [insB_spot b hs]
      have hg : ¬ gi m.vs 0 < 0 := by
        have := hm.v 0 ⟨by omega, by have := hb.w.l0; show ((0 : Int) < (b.wh.length : Int)); omega⟩
        omega
      have e : (lessR c).test.all (Cnd.so m.vs m.hs) = false := by
        show (c.test.take 3 ++ [Cnd.pl .below 0 0]).all _ = false
        rw [List.all_append]
        have : ([Cnd.pl .below 0 0] : List Cnd).all (Cnd.so m.vs m.hs) = false := by
          simp [Cnd.so, hg]
        rw [this, Bool.and_false]
      rw [e, Bool.and_false]
    obtain ⟨t, ht⟩ : ∃ t, b.ru.length = s + t := ⟨b.ru.length - s, by omega⟩
    have o1 : own b = (List.range s).map (fun i : Nat => (i : Int)) ++ (List.range t).map fun i : Nat => ((s + i : Nat) : Int) := by
      unfold own
      rw [ht, List.range_add, List.map_append, List.map_map]; rfl
    have o2 : own (insB b s (lessR c)) = ((List.range s).map fun i : Nat => (i : Int)).map (mvN s) ++ (s : Int) :: ((List.range t).map fun i : Nat => ((s + i : Nat) : Int)).map (mvN s) := by
      unfold own
      rw [hl, ht, show s + t + 1 = s + (t + 1) by omega, List.range_add, List.map_append, List.map_map, List.range_succ_eq_map, List.map_cons, List.map_map, List.map_map, List.map_map]
      congr 1
      · refine List.map_congr_left fun i hi => ?_
        have := List.mem_range.mp hi
        show (i : Int) = mvN s i
        unfold mvN
        rw [if_neg (by omega)]
      · congr 1
        refine List.map_congr_left fun i _ => ?_
        show ((s + (i + 1) : Nat) : Int) = mvN s ((s + i : Nat) : Int)
        unfold mvN
        rw [if_pos (by omega)]; omega
    rw [o1, o2]
    exact (Ords.map _).app (.by_ _ hmute (Ords.map _))
end SP
set_option Elab.async false
set_option linter.all false
set_option maxRecDepth 100000
set_option maxHeartbeats 4000000
/-! S54: all orders; the least order that leads elsewhere; papers of orders. -/
namespace SP
open PySem hiding upTo
open DL
@[simp] theorem o_dc' (vs : List Nat) (tg : Tg) (it : Ml) (c : Mb) (ek ev : Me) (ρ : DL.Env) (S : Sto) : mDc vs tg it c ek ev ρ S = (it ρ S).bind fun xs S => mDc.dcM ρ vs tg c ek ev xs [] S := (rfl)
@[simp] theorem o_dicP' (a : Me) (ρ : DL.Env) (S : Sto) : mDicP a ρ S = (a ρ S).bind dicPR := (rfl)
@[simp] theorem o_tupD (a : Me) (ρ : DL.Env) (S : Sto) : mTupD a ρ S = (a ρ S).bind fun x S => optR S (keyLR S x) := (rfl)
/-! ### all orders, by the program -/
/-! ### all orders, by the law -/
end SP
set_option Elab.async false
set_option linter.all false
set_option maxRecDepth 100000
set_option maxHeartbeats 4000000
/-! S55: the least order that leads elsewhere; papers of orders told. -/
namespace SP
open PySem hiding upTo
open DL
@[simp] theorem nl_vW (o : Option (List Int)) : (vW o).nl = true := by
  cases o with
  | none => rfl
  | some l => exact nl_ints l
end SP
set_option Elab.async false
set_option linter.all false
set_option maxRecDepth 100000
set_option maxHeartbeats 4000000
/-! S58: which rows are orders; outcomes. -/
namespace SP
open PySem hiding upTo
open DL
theorem mem_upTo {n : Nat} {i : Int} : i ∈ upTo n ↔ Ix n i := rk_mem (List.Perm.refl (upTo n))
structure OrdP (n : Nat) (o : List Int) : Prop where
  len : o.length = n
  ix : ∀ i ∈ o, Ix n i
  nd : o.Nodup
theorem OrdP.all {n : Nat} {o : List Int} (h : OrdP n o) {i : Int} (hi : Ix n i) : i ∈ o := by
  apply Classical.byContradiction
  intro hn
  have h2 : (i :: o).Nodup := by rw [List.nodup_cons]; exact ⟨hn, h.nd⟩
  have := List.Nodup.length_le_of_subset h2 (l₂ := upTo n) (fun x hx => by
    rcases List.mem_cons.mp hx with rfl | hx
    · exact mem_upTo.mpr hi
    · exact mem_upTo.mpr (h.ix x hx))
  rw [upTo_len, List.length_cons, h.len] at this
  omega
theorem OrdP.map {n : Nat} {o : List Int} (h : OrdP n o) {f : Int → Int} (hf : ∀ i, Ix n i → Ix n (f i)) (hi : ∀ i j, Ix n i → Ix n j → f i = f j → i = j) : OrdP n (o.map f) := by
  refine ⟨by rw [List.length_map]; exact h.len, fun i hx => ?_, ?_⟩
  · obtain ⟨j, hj, rfl⟩ := List.mem_map.mp hx
    exact hf j (h.ix j hj)
  · have := h.nd
    rw [List.nodup_iff_pairwise_ne] at this ⊢
    rw [List.pairwise_map]
    refine List.pairwise_iff_forall_sublist.mpr fun {a c} hs e => ?_
    exact List.pairwise_iff_forall_sublist.mp this hs (hi a c (h.ix a (hs.subset (by simp))) (h.ix c (hs.subset (by simp))) e)
/-! ### outcomes -/
end SP
set_option Elab.async false
set_option linter.all false
set_option maxRecDepth 100000
set_option maxHeartbeats 4000000
/-! S69: the shown text of papers is short. -/
namespace SP
open PySem hiding upTo
open DL
open PyProof.Rows hiding St
theorem d_anyM {n c : Nat} {S : Sto} (hB : Bg n c S) (hc : c ≤ 900000000) : ∃ (w : W) (S' : Sto), f__law_any [.loc n] S = .ok w S' ∧ w ∈ anyL ∧ W.plain 10 w = true ∧ short w ∧ S'.length = S.length ∧ Keep n S.length S S' ∧ Bg n (c + 1) S' := by
  obtain ⟨d, S1, h0, h1, e, l, kp, b1⟩ := d_take hB (m := 27) (by omega) (by decide) (by omega)
  obtain ⟨w, hw, ha⟩ := anyL_at h0 h1
  have hlim : ∀ k : Nat, k ≤ 1000 → k ≤ limit := fun k hk => by unfold limit; omega
  refine ⟨w, S1, ?_, hw, anyL_plain w hw, anyL_short w hw, l, kp, b1⟩
  unfold anyL at ha
  have l19 : 19 ≤ limit := hlim _ (by omega)
  have l26 : 26 ≤ limit := hlim _ (by omega)
  have l27 : 27 ≤ limit := hlim _ (by omega)
  have l1 : 1 ≤ limit := hlim _ (by omega)
  have l2 : 2 ≤ limit := hlim _ (by omega)
  have l3 : 3 ≤ limit := hlim _ (by omega)
  have l7 : 7 ≤ limit := hlim _ (by omega)
  have l0 : 0 ≤ limit := hlim _ (by omega)
  have ng : negW (.int 1) = some (.int (-1)) := rfl
  simp [f__law_any, startW, bo_addL, e, ha, ng, l19, l26, l27, l1, l2, l3, l7, l0]
@[simp] theorem o_setL (a : Me) (ρ : DL.Env) (S : Sto) : mSetL a ρ S = (a ρ S).bind setLR := (rfl)
end SP
set_option Elab.async false
set_option linter.all false
set_option maxRecDepth 100000
set_option maxHeartbeats 4000000
/-! P05a: spoiling any plain data, again and again (k05: a bool may be added to). -/
namespace K05
open PySem hiding upTo
open DL SP
/-- tuples at most so deep, and at most so long -/
def Tb (L : Nat) : Nat → W → Bool
  | 0, .tup ws => ws.isEmpty
  | d + 1, .tup ws => decide (ws.length ≤ L) && ws.all (Tb L d)
  | _, .lst ws => decide (ws.length ≤ L)
  | _, _ => true
theorem tb_up {L L' : Nat} (h : L ≤ L') : ∀ (d d' : Nat) (w : W), d ≤ d' → Tb L d w = true → Tb L' d' w = true
  | 0, 0, .tup ws, _, e => e
  | 0, d' + 1, .tup ws, _, e => by
    have : ws = [] := List.isEmpty_iff.mp e
    subst this; rfl
  | d + 1, d' + 1, .tup ws, hd, e => by
    have e : (decide (ws.length ≤ L) && ws.all (Tb L d)) = true := e
    rw [Bool.and_eq_true, List.all_eq_true] at e
    show (decide (ws.length ≤ L') && ws.all (Tb L' d')) = true
    rw [Bool.and_eq_true, List.all_eq_true]
    exact ⟨decide_eq_true (Nat.le_trans (of_decide_eq_true e.1) h), fun w hw => tb_up h d d' w (by omega) (e.2 w hw)⟩
  | d, d', .lst ws, _, e => by
    have e : decide (ws.length ≤ L) = true := by cases d <;> exact e
    have : decide (ws.length ≤ L') = true := decide_eq_true (Nat.le_trans (of_decide_eq_true e) h)
    cases d' <;> exact this
  | _, d', .non, _, _ => by cases d' <;> rfl
  | _, d', .bl _, _, _ => by cases d' <;> rfl
  | _, d', .int _, _, _ => by cases d' <;> rfl
  | _, d', .str _, _, _ => by cases d' <;> rfl
  | _, d', .ins _ _, _, _ => by cases d' <;> rfl
  | _, d', .loc _, _, _ => by cases d' <;> rfl
  | _, d', .tpx _, _, _ => by cases d' <;> rfl
  | _, d', .opq _ _, _, _ => by cases d' <;> rfl
  | _, d', .lam, _, _ => by cases d' <;> rfl
  | _, d', .fn _, _, _ => by cases d' <;> rfl
/-- plain data whose tuples are at most d deep, at most L long -/
def PD (L d : Nat) (w : W) : Prop := W.plain (10 + d) w = true ∧ Tb L d w = true
theorem PD.up {L L' d d' : Nat} {w : W} (h : PD L d w) (hL : L ≤ L') (hd : d ≤ d') : PD L' d' w := ⟨plain_up _ w _ (by omega) h.1, tb_up hL d d' w hd h.2⟩
theorem pd_tup {L d : Nat} {ws : List W} (h : ∀ w ∈ ws, PD L d w) (hl : ws.length ≤ L) : PD L (d + 1) (.tup ws) :=
  ⟨plainL_of fun w hw => (h w hw).1, by
    show (decide (ws.length ≤ L) && ws.all (Tb L d)) = true
    rw [Bool.and_eq_true, List.all_eq_true]
    exact ⟨decide_eq_true hl, fun w hw => (h w hw).2⟩⟩
theorem pd_lst {L d : Nat} {ws : List W} (h : ∀ w ∈ ws, PD L d w) (hl : ws.length ≤ L) : PD L (d + 1) (.lst ws) := ⟨plainL_of fun w hw => (h w hw).1, decide_eq_true hl⟩
theorem pd_int (L d : Nat) (i : Int) : PD L d (.int i) := ⟨by simp [W.plain], by cases d <;> rfl⟩
theorem pd_any {w : W} (h : w ∈ anyL) {L d : Nat} (hL : 3 ≤ L) (hd : 2 ≤ d) : PD L d w := by
  refine ⟨plain_up 10 w _ (by omega) (anyL_plain w h), tb_up hL 2 d w hd ?_⟩
  have : anyL.all (Tb 3 2) = true := by kernel_rfl
  rw [List.all_eq_true] at this
  exact this w h
theorem pd_ints {L : Nat} {l : List Int} (d : Nat) (h : l.length ≤ L) : PD L (d + 1) (tpI l) := pd_tup (fun w hw => by obtain ⟨i, _, rfl⟩ := List.mem_map.mp hw; exact pd_int ..) (by rw [List.length_map]; exact h)
theorem pd_st {L : Nat} {s : Sta} (hL : 2 ≤ L) (h1 : s.1.length ≤ L) (h2 : s.2.length ≤ L) : PD L 2 (stW s) := pd_tup (fun w hw => by
  rcases List.mem_cons.mp hw with rfl | hw
  · exact pd_ints 0 h1
  · rcases List.mem_cons.mp hw with rfl | hw
    · exact pd_ints 0 h2
    · cases hw) hL
/-- what a drawing gives -/
def Got (n c : Nat) (Q : W → Prop) (S : Sto) (r : Res) : Prop := ∃ (w : W) (S' : Sto), r = .ok w S' ∧ Q w ∧ Keep n S.length S S' ∧ Bg n c S'
theorem Got.imp {n c c' : Nat} {Q Q' : W → Prop} {S : Sto} {r : Res} (h : Got n c Q S r) (hc : c ≤ c') (hq : ∀ w, Q w → Q' w) : Got n c' Q' S r := by
  obtain ⟨w, S', e, p, k, b⟩ := h
  exact ⟨w, S', e, hq w p, k, b.mono hc⟩
def nineL : List Str := ["is", "not", "below", "hushed", "awake", "put", "turn", "Is", ""]
theorem nine {d : Int} (h0 : 0 ≤ d) (h1 : d < 9) : ∃ x : Str, PyData.strOk x = true ∧ L2.atI [W.str "is", .str "not", .str "below", .str "hushed", .str "awake", .str "put", .str "turn", .str "Is", .str ""] d = some (.str x) := by
  obtain ⟨u, rfl⟩ : ∃ u : Nat, d = (u : Int) := ⟨d.toNat, by omega⟩
  have hu : u < nineL.length := by show u < 9; omega
  have hat := at_nat (ws := nineL.map W.str) (u := u) (by rw [List.getElem?_map, List.getElem?_eq_getElem hu]; rfl)
  have ho : nineL.all PyData.strOk = true := by kernel_rfl
  rw [List.all_eq_true] at ho
  exact ⟨_, ho _ (List.getElem_mem hu), hat⟩
theorem ysp (m : Nat) (ws : List W) (S : Sto) : y__law_spoilt (m + 1) ws S = r__law_spoilt (y__law_spoilt m) ws S := rfl
@[simp] theorem o_addB (a b : Me) (ρ : DL.Env) (S : Sto) : mAddB a b ρ S = (a ρ S).bind fun x S => (b ρ S).bind fun y S => optR S (addB (deref S x) (deref S y)) := (rfl)
/-- what is no tuple with members -/
theorem sp_leaf (m L d : Nat) {n c : Nat} {S : Sto} {w : W} (hL : 3 ≤ L) (hw : PD L d w) (ht : ∀ ws, w = .tup ws → ws = []) (hB : Bg n c S) (hc : c ≤ 800000000) : Got n (c + 3) (PD L (d + 2)) S (y__law_spoilt (m + 1) [.loc n, w] S) := by
  obtain ⟨d1, S1, h0, h1, e1, l1, k1, b1⟩ := d_take hB (m := 4) (by omega) (by decide) (by omega)
  obtain ⟨w2, S2, e2, hm, p2, s2, l2, k2, b2⟩ := d_anyM b1 (by omega)
  obtain ⟨d3, S3, h3, h4, e3, l3, k3, b3⟩ := d_take b1 (m := 4) (by omega) (by decide) (by omega)
  obtain ⟨d4, S4, h5, h6, e4, l4, k4, b4⟩ := d_take b1 (m := 9) (by omega) (by decide) (by omega)
  obtain ⟨j, hj⟩ := four h3 h4
  obtain ⟨x, hxo, hx⟩ := nine h5 h6
  have l0 : 0 ≤ limit := Nat.zero_le _
  have l4 : 4 ≤ limit := by unfold limit; omega
  have l9 : 9 ≤ limit := by unfold limit; omega
  have n1 : negW (.int 1) = some (.int (-1)) := rfl
  have n5 : negW (.int 5) = some (.int (-5)) := rfl
  have A : Got n (c + 3) (PD L (d + 2)) S (.ok w2 S2) := ⟨w2, S2, rfl, pd_any hm hL (by omega), k1.trans (k2.mono (by omega)), b2.mono (by omega)⟩
  have B : ∀ i : Int, Got n (c + 3) (PD L (d + 2)) S (.ok (.int i) S3) := fun i => ⟨_, S3, rfl, pd_int .., k1.trans (k3.mono (by omega)), b3.mono (by omega)⟩
  have C : Got n (c + 3) (PD L (d + 2)) S (.ok (.str x) S4) := ⟨_, S4, rfl, ⟨by simp [W.plain]; exact hxo, by cases d <;> rfl⟩, k1.trans (k4.mono (by omega)), b4.mono (by omega)⟩
  rw [ysp]
  cases w with
  | int i =>
    have it : isTy .tuple (.int i) = some false := rfl
    have is : isTy .str (.int i) = some false := rfl
    have ad : addB (.int i) (.int j) = some (.int (i + j)) := rfl
    by_cases hd : d1 = 0
    · subst hd
      have : r__law_spoilt (y__law_spoilt m) [.loc n, .int i] S = .ok (.int (i + j)) S3 := by simp [r__law_spoilt, startW, e1, e3, n1, n5, l4, hj, it, ad]
      rw [this]; exact B _
    · have : r__law_spoilt (y__law_spoilt m) [.loc n, .int i] S = .ok w2 S2 := by simp [r__law_spoilt, startW, e1, e2, hd, is, it]
      rw [this]; exact A
  | bl i =>
    have it : isTy .tuple (.bl i) = some false := rfl
    have is : isTy .str (.bl i) = some false := rfl
    have ii : isTy .int (.bl i) = some true := rfl
    have ad : addB (.bl i) (.int j) = some (.int ((if i = true then 1 else 0) + j)) := rfl
    by_cases hd : d1 = 0
    · subst hd
      have : r__law_spoilt (y__law_spoilt m) [.loc n, .bl i] S = .ok (.int ((if i = true then 1 else 0) + j)) S3 := by simp [r__law_spoilt, startW, e1, e3, n1, n5, l4, hj, it, ii, ad]
      rw [this]; exact B _
    · have : r__law_spoilt (y__law_spoilt m) [.loc n, .bl i] S = .ok w2 S2 := by simp [r__law_spoilt, startW, e1, e2, hd, is, it]
      rw [this]; exact A
  | non =>
    have it : isTy .tuple .non = some false := rfl
    have is : isTy .str .non = some false := rfl
    have ii : isTy .int .non = some false := rfl
    have : r__law_spoilt (y__law_spoilt m) [.loc n, .non] S = .ok w2 S2 := by simp [r__law_spoilt, startW, e1, e2, is, it, ii]
    rw [this]; exact A
  | lst ws =>
    have it : isTy .tuple (.lst ws) = some false := rfl
    have is : isTy .str (.lst ws) = some false := rfl
    have ii : isTy .int (.lst ws) = some false := rfl
    have : r__law_spoilt (y__law_spoilt m) [.loc n, .lst ws] S = .ok w2 S2 := by simp [r__law_spoilt, startW, e1, e2, is, it, ii]
    rw [this]; exact A
  | str s =>
    have it : isTy .tuple (.str s) = some false := rfl
    have is : isTy .str (.str s) = some true := rfl
    have ii : isTy .int (.str s) = some false := rfl
    by_cases hd : d1 = 1
    · subst hd
      have : r__law_spoilt (y__law_spoilt m) [.loc n, .str s] S = .ok (.str x) S4 := by simp [r__law_spoilt, startW, e1, e4, l9, hx, it, is, ii]
      rw [this]; exact C
    · have : r__law_spoilt (y__law_spoilt m) [.loc n, .str s] S = .ok w2 S2 := by simp [r__law_spoilt, startW, e1, e2, hd, is, it, ii]
      rw [this]; exact A
  | tup ws =>
    have := ht ws rfl
    subst this
    have ce : cmpEq (.tup []) (.tup []) = some true := rfl
    have is : isTy .str (.tup []) = some false := rfl
    have it : isTy .int (.tup []) = some false := rfl
    have : r__law_spoilt (y__law_spoilt m) [.loc n, .tup []] S = .ok w2 S2 := by simp [r__law_spoilt, startW, e1, e2, is, it, ce, l0]
    rw [this]; exact A
  | _ => have := hw.1; simp [W.plain] at this
theorem sp_tup2 (m L d : Nat) {n c₀ e : Nat} {S : Sto} {ws : List W} (hL : 3 ≤ L) (hL2 : L ≤ 30) (hd40 : d ≤ 20) (hB : Bg n c₀ S) (hc : c₀ + e ≤ 700000000) (h0 : ws ≠ []) (hl : ws.length < L) (hp : ∀ w ∈ ws, PD L d w)
    (hpsi : ∀ w ∈ ws, ∀ (S : Sto) (c : Nat), Bg n c S → c ≤ c₀ + 5 → Got n (c + e) (PD L (d + 2)) S (y__law_spoilt m [.loc n, w] S)) : Got n (c₀ + e + 6) (PD L (d + 3)) S (y__law_spoilt (m + 1) [.loc n, .tup ws] S) := by
  have hp2 : ∀ w ∈ ws, PD L (d + 2) w := fun w hw => (hp w hw).up (by omega) (by omega)
  have tk : ∀ (a b m : List W), (∀ w ∈ a, w ∈ ws) → (∀ w ∈ b, w ∈ ws) → (∀ w ∈ m, PD L (d + 2) w) → (a ++ m ++ b).length ≤ L → PD L (d + 3) (.tup (a ++ m ++ b)) := fun a b m ha hb hm hl => pd_tup (fun w hw => by
    rcases List.mem_append.mp hw with hw | hw
    · rcases List.mem_append.mp hw with hw | hw
      · exact hp2 w (ha w hw)
      · exact hm w hw
    · exact hp2 w (hb w hw)) hl
  have l0 : 0 ≤ limit := Nat.zero_le _
  have l1 : 1 ≤ limit := by unfold limit; omega
  have l3 : 3 ≤ limit := by unfold limit; omega
  have lw : ws.length ≤ limit := by unfold limit; omega
  have hpw : W.plain 60 (.tup ws) = true := plain_up (10 + d + 1) _ 60 (by omega) (plainL_of fun w hw => (hp w hw).1)
  have ce : cmpEq (.tup ws) (.tup []) = some false := by
    unfold cmpEq
    rw [hpw, show W.plain 60 (.tup []) = true from rfl]
    cases ws with
    | nil => exact absurd rfl h0
    | cons a r => rfl
  have hpos : 0 < ws.length := List.length_pos_iff.mpr h0
  have is : isTy .str (.tup ws) = some false := rfl
  have ii : isTy .int (.tup ws) = some false := rfl
  rw [ysp]
  obtain ⟨d, S1, q0, q1, e1, l1', k1, b1⟩ := d_take hB (m := 6) (by omega) (by decide) (by omega)
  by_cases hd : d = 0
  · subst hd
    obtain ⟨d2, S2, g0, g1, e2, l2', k2, b2⟩ := d_take b1 (m := 4) (by omega) (by decide) (by omega)
    obtain ⟨w, S3, e3, hm3, p3, s3, l3', k3, b3⟩ := d_anyM b2 (by omega)
    refine ⟨w, S3, ?_, pd_any hm3 hL (by omega), k1.trans ((k2.trans (k3.mono (by omega))).mono (by omega)), b3.mono (by omega)⟩
    simp [r__law_spoilt, startW, e1, e2, e3, is, ii, ce, l0]
  · obtain ⟨d2, S2, g0, g1, e2, l2', k2, b2⟩ := d_take b1 (m := 9) (by omega) (by decide) (by omega)
    obtain ⟨d3, S3, u0, u1, e3, l3', k3, b3⟩ := d_take b2 (m := (ws.length : Int)) (by omega) (by show _ < (divLim : Int); unfold divLim; omega) (by omega)
    obtain ⟨u, rfl⟩ : ∃ u : Nat, d3 = (u : Int) := ⟨d3.toNat, by omega⟩
    have hu : u < ws.length := by omega
    have kk : Keep n S.length S S3 := k1.trans ((k2.trans (k3.mono (by omega))).mono (by omega))
    have hat := at_nat (List.getElem?_eq_getElem hu)
    have htk : ∀ w ∈ ws.take u, w ∈ ws := fun w hw => List.mem_of_mem_take hw
    have hdk : ∀ j, ∀ w ∈ ws.drop j, w ∈ ws := fun j w hw => List.mem_of_mem_drop hw
    have ad : ∀ a b : List W, a.length ≤ 100 → b.length ≤ 100 → binop .Add (.tup a) (.tup b) = some (.tup (a ++ b)) := fun a b h1 h2 => by
      rw [bo_addT, if_pos (by unfold limit; omega)]
    have a1 : binop .Add (.tup (ws.take u)) (.tup (ws.drop (u + 1))) = some (.tup (ws.take u ++ ws.drop (u + 1))) := ad _ _ (by simp; omega) (by simp; omega)
    have a2 : ∀ w : W, binop .Add (.tup (ws.take u)) (.tup [w]) = some (.tup (ws.take u ++ [w])) := fun w => ad _ _ (by simp; omega) (by simp)
    have a3 : ∀ w : W, binop .Add (.tup (ws.take u ++ [w])) (.tup (ws.drop u)) = some (.tup (ws.take u ++ [w] ++ ws.drop u)) := fun w => ad _ _ (by simp; omega) (by simp; omega)
    have a4 : ∀ w : W, binop .Add (.tup (ws.take u ++ [w])) (.tup (ws.drop (u + 1))) = some (.tup (ws.take u ++ [w] ++ ws.drop (u + 1))) := fun w => ad _ _ (by simp; omega) (by simp; omega)
    have a6 : binop .Add (.tup (ws.take (u + 1))) (.tup (ws.drop u)) = some (.tup (ws.take (u + 1) ++ ws.drop u)) := ad _ _ (by simp; omega) (by simp; omega)
    have a5 : ∀ w : W, binop .Add (.tup ws) (.tup [w]) = some (.tup (ws ++ [w])) := fun w => ad _ _ (by omega) (by simp)
    by_cases w0 : d2 = 0
    · subst w0
      refine ⟨.tup (ws.take u ++ ws.drop (u + 1)), S3, ?_, ?_, kk, b3.mono (by omega)⟩
      · simp [r__law_spoilt, startW, e1, e2, e3, hd, ce, l0, cutT, cutD1, a1]
      · have := tk (ws.take u) (ws.drop (u + 1)) [] htk (hdk _) (fun _ h => nomatch h) (by simp; omega)
        rwa [List.append_nil] at this
    by_cases w1 : d2 = 1
    · subst w1
      refine ⟨.tup (ws.take u ++ [ws[u]] ++ ws.drop u), S3, ?_, tk _ _ _ htk (hdk _) (fun w hw => by rw [List.mem_singleton.mp hw]; exact hp2 _ (List.getElem_mem _)) (by simp; omega), kk, b3.mono (by omega)⟩
      · simp [r__law_spoilt, startW, e1, e2, e3, hd, ce, l0, l1, cutT, cutD, a2, a3, a6, hat]
    by_cases w3 : d2 = 3
    · subst w3
      obtain ⟨w, hw, hpr⟩ := at_prev hu
      refine ⟨.tup (ws.take u ++ [w] ++ ws.drop (u + 1)), S3, ?_, tk _ _ _ htk (hdk _) (fun x hx => by rw [List.mem_singleton.mp hx]; exact hp2 _ hw) (by simp; omega), kk, b3.mono (by omega)⟩
      · simp [r__law_spoilt, startW, e1, e2, e3, hd, ce, l0, l1, cutT, cutD1, a2, a4, hpr]
    by_cases w2 : d2 = 2
    · subst w2
      obtain ⟨w, S4, e4, hm4, p4, s4, l4', k4, b4⟩ := d_anyM b3 (by omega)
      obtain ⟨d5, S5, v0, v1, e5, l5', k5, b5⟩ := d_take b4 (m := 3) (by omega) (by decide) (by omega)
      have k5' : Keep n S.length S S5 := kk.trans ((k4.trans (k5.mono (by omega))).mono (by omega))
      have at3 : L2.atI [W.lst ws, W.tup ws.reverse, W.tup (ws ++ [w])] d5 = some (.lst ws) ∨ L2.atI [W.lst ws, W.tup ws.reverse, W.tup (ws ++ [w])] d5 = some (.tup ws.reverse) ∨ L2.atI [W.lst ws, W.tup ws.reverse, W.tup (ws ++ [w])] d5 = some (.tup (ws ++ [w])) := by
        rcases (by omega : d5 = 0 ∨ d5 = 1 ∨ d5 = 2) with rfl | rfl | rfl
        · exact .inl (by simp [L2.atI, L2.ixN])
        · exact .inr (.inl (by simp [L2.atI, L2.ixN]))
        · exact .inr (.inr (by simp [L2.atI, L2.ixN]))
      rcases at3 with at3 | at3 | at3
      · refine ⟨.lst ws, S5, ?_, pd_lst hp2 (by omega), k5', b5.mono (by omega)⟩
        simp [r__law_spoilt, startW, e1, e2, e3, e4, e5, hd, ce, l0, l1, l3, a5, at3, lw]
      · refine ⟨.tup ws.reverse, S5, ?_, pd_tup (fun x hx => hp2 x (List.mem_reverse.mp hx)) (by rw [List.length_reverse]; omega), k5', b5.mono (by omega)⟩
        simp [r__law_spoilt, startW, e1, e2, e3, e4, e5, hd, ce, l0, l1, l3, a5, at3, lw]
      · refine ⟨.tup (ws ++ [w]), S5, ?_, pd_tup (fun x hx => ?_) (by simp; omega), k5', b5.mono (by omega)⟩
        · simp [r__law_spoilt, startW, e1, e2, e3, e4, e5, hd, ce, l0, l1, l3, a5, at3, lw]
        · rcases List.mem_append.mp hx with hx | hx
          · exact hp2 x hx
          · rw [List.mem_singleton.mp hx]; exact pd_any hm4 hL (by omega)
    obtain ⟨w, S4, e4, p4, k4, b4⟩ := hpsi ws[u] (List.getElem_mem _) S3 _ b3 (by omega)
    refine ⟨.tup (ws.take u ++ [w] ++ ws.drop (u + 1)), S4, ?_, tk _ _ _ htk (hdk _) (fun x hx => by rw [List.mem_singleton.mp hx]; exact p4) (by simp; omega), kk.trans (k4.mono (by omega)), b4.mono (by omega)⟩
    · simp [r__law_spoilt, startW, e1, e2, e3, e4, hd, ce, l0, l1, cutT, cutD1, a2, a4, hat, w0, w1, w2, w3]
theorem sp_gen (L : Nat) (hL : 3 ≤ L) (hL2 : L < 30) : ∀ (d m : Nat) {n c : Nat} {S : Sto} {w : W}, d ≤ 8 → PD L d w → Bg n c S → c + 12 * d ≤ 600000000 → Got n (c + 6 * d + 3) (PD (L + 1) (d + 2)) S (y__law_spoilt (m + d + 1) [.loc n, w] S)
  | d, m, n, c, S, w, hd, hw, hB, hc => by
    by_cases ht : ∀ ws, w = .tup ws → ws = []
    · exact (sp_leaf (m + d) L d hL hw ht hB (by omega)).imp (by omega) fun w h => h.up (by omega) (by omega)
    · obtain ⟨ws, rfl, hne⟩ : ∃ ws, w = .tup ws ∧ ws ≠ [] := Classical.byContradiction fun h => ht fun ws e => Classical.byContradiction fun h2 => h ⟨ws, e, h2⟩
      cases d with
      | zero => exact absurd (List.isEmpty_iff.mp hw.2) hne
      | succ d =>
        have e : (decide (ws.length ≤ L) && ws.all (Tb L d)) = true := hw.2
        rw [Bool.and_eq_true, List.all_eq_true] at e
        have hl : ws.length ≤ L := of_decide_eq_true e.1
        have hp : ∀ w ∈ ws, PD L d w := fun w hx => ⟨plainL_mem (n := 10 + d) hw.1 hx, e.2 w hx⟩
        have := sp_tup2 (m + d + 1) (L + 1) d (n := n) (c₀ := c) (e := 6 * d + 3) (S := S) (ws := ws) (by omega) (by omega) (by omega) hB (by omega) hne (by omega) (fun w hx => (hp w hx).up (by omega) (by omega)) fun w hx S c1 hB1 hc1 => (sp_gen L hL hL2 d m (by omega) (hp w hx) hB1 (by omega)).imp (by omega) fun w h => h
        exact this.imp (by omega) fun w h => h.up (by omega) (by omega)
theorem d_sp {L d : Nat} (hL : 3 ≤ L) (hL2 : L < 30) (hd : d ≤ 5) {n c : Nat} {S : Sto} {w : W} (hw : PD L d w) (hB : Bg n c S) (hc : c ≤ 500000000) : Got n (c + 33) (PD (L + 1) (d + 2)) S (f__law_spoilt [.loc n, w] S) := by
  have := sp_gen L hL hL2 d (5 - d) (by omega) hw hB (by omega)
  rw [show 5 - d + d + 1 = 6 by omega] at this
  exact this.imp (by omega) fun w h => h
end K05
set_option Elab.async false
set_option linter.all false
set_option maxRecDepth 100000
set_option maxHeartbeats 4000000
/-! P05b: k05's looks at things; the watch. -/
namespace K05
open PySem hiding upTo
open DL SP
@[simp] theorem o_lenI (cc : Nat) (ψ : Fn) (a : Me) (ρ : DL.Env) (S : Sto) : mLenI cc ψ a ρ S = (a ρ S).bind fun x S => if isIns cc x && x.nl then (pureR (ψ [x] []) S).bind lenC else .bad := (rfl)
@[simp] theorem o_isiOs (cs : List Nat) (t : Ty) (a : Me) (ρ : DL.Env) (S : Sto) : mIsiOs cs t a ρ S = (a ρ S).bind fun x S => optR S ((isTyOs cs t S x).map .bl) := (rfl)
@[simp] theorem o_makeC (c : Nat) (ψ : Fn) (ms : Ml) (ρ : DL.Env) (S : Sto) : mMakeC c ψ ms ρ S = (ms ρ S).bind fun ws S => makeCR c ψ ws S := (rfl)
@[simp] theorem o_methC (c : Nat) (ψ : Fn) (a : Me) (ms : Ml) (ρ : DL.Env) (S : Sto) : mMethC c ψ a ms ρ S = (a ρ S).bind fun x S => if isObj c S x then (ms ρ S).bind fun ws S => ψ (x :: ws) S else .bad := (rfl)
@[simp] theorem o_frzO (a : Me) (ρ : DL.Env) (S : Sto) : mFrzO a ρ S = (a ρ S).bind frzOR := (rfl)
theorem ity {k : Nat} {w : W} (h : W.plain k w = true) (S : Sto) : isTyOs [0, 2] .tuple S w = isTy .tuple w := by
  cases w <;> first | rfl | simp [W.plain] at h
theorem ity_i {c : Nat} {fs : List (Nat × W)} (h : c = 0 ∨ c = 2) (S : Sto) : isTyOs [0, 2] .tuple S (.ins c fs) = some false := by
  rcases h with rfl | rfl <;> rfl
@[simp] theorem ity_t (ws : List W) (S : Sto) : isTyOs [0, 2] .tuple S (.tup ws) = some true := rfl
/-- plain, or a book, or a watch -/
def Pl (w : W) : Prop := W.plain 30 w = true ∨ ∃ c fs, w = .ins c fs ∧ (c = 0 ∨ c = 2) ∧ W.nl (.ins c fs) = true
theorem Pl.nl {w : W} (h : Pl w) : w.nl = true := by
  rcases h with h | ⟨c, fs, rfl, _, h⟩
  · exact (plain_nl _ _ h).1
  · exact h
theorem Pl.dF {w : W} (h : Pl w) (S : Sto) : derefF S w = w := by
  rcases h with h | ⟨c, fs, rfl, _, h⟩
  · exact plain_derefF h S
  · rfl
theorem Pl.d {w : W} (h : Pl w) (S : Sto) : deref S w = w := by
  rcases h with h | ⟨c, fs, rfl, _, h⟩
  · exact plain_deref h S
  · rfl
/-- the members of a plain tuple -/
theorem mem30 {ws : List W} (h : W.plain 30 (.tup ws) = true) : ∀ x ∈ ws, W.plain 30 x = true := fun x hx => plain_up 29 x 30 (by omega) (plainL_mem (n := 29) h hx)
/-- as many as sizes, each from 0 below its size -/
theorem a_val5 {b : Bk} (hb : b.Ok) {w : W} (h : Pl w) (S : Sto) : pureR (f_are_values [b.W, w] []) S = .ok (.bl (isVs b.wh w)) S := by
  rcases h with h | ⟨c, fs, rfl, hc, hn⟩
  · have it := ity h
    have hpl := fun ws (e : w = .tup ws) => mem30 (e ▸ h)
    cases w with
    | tup vs =>
      have hpl := hpl vs rfl
      by_cases hl : vs.length = b.wh.length
      · have hz2 : zipW vs (b.wh.map W.int) = (vs.zip b.wh).map fun p => .tup [p.1, .int p.2] := by
          have := zipW_map (fun w => w) W.int vs b.wh
          rw [List.map_id'] at this
          exact this
        have hlim : b.wh.length ≤ limit := l_small hb.w.l1
        simp [f_are_values, startW, Bk.W, hl, hz2, hlim]
        rw [lc_data (g := fun p => .bl (isN 0 p.2 p.1)) fun p hp => by
          have hm := hpl _ (List.of_mem_zip hp).1
          have := a_from hm 0 p.2
          have h1 := plain_derefF hm []
          have h2 := (plain_nl _ _ hm).1
          simp [lcStep, this, h1, h2]]
        simp [isVs, hl, all_of]
      · have hne : ¬ ((vs.length : Int) = (b.wh.length : Int)) := by omega
        simp [f_are_values, startW, Bk.W, isVs, hl, hne]
    | bl k => simp [f_are_values, startW, isTy, isVs, it]
    | int k => simp [f_are_values, startW, isTy, isVs, it]
    | non => simp [f_are_values, startW, isTy, isVs, it]
    | str x => simp [f_are_values, startW, isTy, isVs, it]
    | lst ws => simp [f_are_values, startW, isTy, isVs, it]
    | _ => simp [W.plain] at h
  · have it := ity_i (fs := fs) hc
    simp [f_are_values, startW, isVs, it]
theorem e_lwhole {k : Nat} {w : W} (h : W.plain k w = true) (lo hi : Int) (S : Sto) : pureR (f__law_whole [w, .int lo, .int hi] []) S = .ok (.bl (isN lo hi w)) S := by
  cases w with
  | int i => by_cases h0 : lo ≤ i <;> simp [f__law_whole, startW, isTy, isN, h0]
  | bl k => simp [f__law_whole, startW, isTy, isN]
  | non => simp [f__law_whole, startW, isTy, isN]
  | str x => simp [f__law_whole, startW, isTy, isN]
  | tup ws => simp [f__law_whole, startW, isTy, isN]
  | lst ws => simp [f__law_whole, startW, isTy, isN]
  | _ => simp [W.plain] at h
theorem a_are {wh : List Int} (hl0 : wh.length ≤ 100) {w : W} (h : Pl w) (S : Sto) : pureR (f__law_are [w, tpI wh] []) S = .ok (.bl (isVs wh w)) S := by
  rcases h with h | ⟨c, fs, rfl, hc, hn⟩
  · have it := ity h
    have hpl := fun ws (e : w = .tup ws) => mem30 (e ▸ h)
    cases w with
    | tup vs =>
      have hpl := hpl vs rfl
      by_cases hl : vs.length = wh.length
      · have hz2 : zipW vs (wh.map W.int) = (vs.zip wh).map fun p => .tup [p.1, .int p.2] := by
          have := zipW_map (fun w => w) W.int vs wh
          rw [List.map_id'] at this
          exact this
        have hlim : wh.length ≤ limit := by unfold limit; omega
        simp [f__law_are, startW, hl, hz2, hlim]
        rw [lc_data (g := fun p => .bl (isN 0 p.2 p.1)) fun p hp => by
          have hm := hpl _ (List.of_mem_zip hp).1
          have := e_lwhole hm 0 p.2
          have h1 := plain_derefF hm []
          have h2 := (plain_nl _ _ hm).1
          simp [lcStep, this, h1, h2]]
        simp [isVs, hl, all_of]
      · have hne : ¬ ((vs.length : Int) = (wh.length : Int)) := by omega
        simp [f__law_are, startW, isVs, hl, hne]
    | bl k => simp [f__law_are, startW, isTy, isVs, it]
    | int k => simp [f__law_are, startW, isTy, isVs, it]
    | non => simp [f__law_are, startW, isTy, isVs, it]
    | str x => simp [f__law_are, startW, isTy, isVs, it]
    | lst ws => simp [f__law_are, startW, isTy, isVs, it]
    | _ => simp [W.plain] at h
  · have it := ity_i (fs := fs) hc
    simp [f__law_are, startW, isVs, it]
/-- what a state is asked of -/
def Th (w : W) : Prop := Pl w ∨ ∃ v u, w = .tup [v, u] ∧ Pl v ∧ Pl u
theorem Th.nl {w : W} (h : Th w) : w.nl = true := by
  rcases h with h | ⟨v, u, rfl, h1, h2⟩
  · exact h.nl
  · show (v.nl && (u.nl && true)) = true
    rw [h1.nl, h2.nl]; rfl
theorem Th.dF {w : W} (h : Th w) (S : Sto) : derefF S w = w := by
  rcases h with h | ⟨v, u, rfl, h1, h2⟩
  · exact h.dF S
  · rfl
theorem Th.two {v u : W} (h : Th (.tup [v, u])) : Pl v ∧ Pl u := by
  rcases h with h | ⟨v', u', e, h1, h2⟩
  · rcases h with h | ⟨c, fs, e, _⟩
    · exact ⟨.inl (mem30 h v (by simp)), .inl (mem30 h u (by simp))⟩
    · cases e
  · cases e; exact ⟨h1, h2⟩
theorem three_vs (n : Nat) (u : W) : isVs (List.replicate n 3) u = match u with
    | .tup hs => decide (hs.length = n) && hs.all (isN 0 3)
    | _ => false := by
  cases u with
  | tup hs =>
    show (decide (hs.length = (List.replicate n (3 : Int)).length) && (hs.zip (List.replicate n (3 : Int))).all fun p => isN 0 p.2 p.1) = _
    rw [List.length_replicate]
    by_cases hl : hs.length = n
    · subst hl
      simp only [decide_true, Bool.true_and]
      induction hs with
      | nil => rfl
      | cons a r ih => rw [List.length_cons, List.replicate_succ, List.zip_cons_cons, List.all_cons, List.all_cons, ih]
    · rw [decide_eq_false hl]
      show (false && _) = (decide (hs.length = n) && _)
      rw [decide_eq_false hl]; rfl
  | _ => rfl
theorem isSt_two (b : Bk) (v u : W) : isSt b (.tup [v, u]) = (isVs b.wh v && isVs (List.replicate b.ru.length 3) u) := by
  rw [three_vs]
  cases u <;> simp [isSt, Bool.and_assoc]
theorem th_cases {w : W} (h : Th w) : (∃ ws, w = .tup ws) ∨ (∀ S, isTyOs [0, 2] .tuple S w = some false) := by
  rcases h with h | ⟨v, u, rfl, _⟩
  · rcases h with h | ⟨c, fs, rfl, hc, _⟩
    · have it := ity h
      cases w with
      | tup ws => exact .inl ⟨ws, rfl⟩
      | bl k => exact .inr fun S => it S
      | int k => exact .inr fun S => it S
      | non => exact .inr fun S => it S
      | str x => exact .inr fun S => it S
      | lst ws => exact .inr fun S => it S
      | _ => simp [W.plain] at h
    · exact .inr fun S => ity_i hc S
  · exact .inl ⟨_, rfl⟩
theorem st_no {b : Bk} {w : W} (h : ∀ S, isTyOs [0, 2] .tuple S w = some false) : isSt b w = false := by
  cases w <;> first | rfl | (have := h []; cases this)
theorem a_state5 {b : Bk} (hb : b.Ok) {w : W} (h : Th w) (S : Sto) : pureR (f_is_state [b.W, w] []) S = .ok (.bl (isSt b w)) S := by
  have hW : ∀ S, getFld S 0 1 b.W = some (.tup (b.ru.map Rul.W)) := fun S => by simp [Bk.W]
  have dB : ∀ S, deref S b.W = b.W := fun S => rfl
  have hlim : b.ru.length ≤ limit := l_small hb.n
  rcases th_cases h with ⟨ws, rfl⟩ | it
  · match ws, h with
    | [], _ => simp [f_is_state, startW, isSt]
    | [v], _ => simp [f_is_state, startW, isSt]
    | [v, u], h =>
      obtain ⟨pv, pu⟩ := h.two
      have a0 : L2.atI [v, u] 0 = some v := by simp [L2.atI, L2.ixN]
      have a1 : L2.atI [v, u] 1 = some u := by simp [L2.atI, L2.ixN]
      have ev := a_val5 hb pv
      have d1 := pu.d
      have d2 := pv.dF
      have n1 := pv.nl
      have n2 := pu.nl
      cases hv : isVs b.wh v with
      | false =>
        rw [hv] at ev
        have : isSt b (.tup [v, u]) = false := by rw [isSt_two, hv]; rfl
        rw [this]
        simp [f_is_state, startW, a0, a1, ev, d1, d2, n1, n2]
      | true =>
        rw [hv] at ev
        rcases th_cases (.inl pu) with ⟨hs, rfl⟩ | it
        · have ph : ∀ x ∈ hs, W.plain 30 x = true := by
            rcases pu with pu | ⟨_, _, e, _⟩
            · exact mem30 pu
            · cases e
          by_cases hl : hs.length = b.ru.length
          · simp [f_is_state, startW, a0, a1, ev, d2, n1, hW, dB, hl, hlim]
            rw [show hs = hs.map (fun w => w) by rw [List.map_id'], lc_data (g := fun p => .bl (isN 0 3 p)) fun p hp => by
              have := a_from (ph p hp) 0 3
              have h1 := plain_derefF (ph p hp) []
              have h2 := (plain_nl _ _ (ph p hp)).1
              simp [lcStep, this, h1, h2]]
            simp [isSt, hv, hl, all_of]
          · have hne : ¬ ((hs.length : Int) = (b.ru.length : Int)) := by omega
            simp [f_is_state, startW, a0, a1, ev, d2, n1, hW, dB, hl, hne, isSt]
        · have : isSt b (.tup [v, u]) = false := by
            rw [isSt_two, hv, three_vs]
            cases u <;> first | rfl | (have := it []; cases this)
          rw [this]
          simp [f_is_state, startW, a0, a1, ev, d1, d2, n1, n2, it]
    | v :: u :: x :: r, h =>
      have hne : ¬ (((v :: u :: x :: r).length : Int) = 2) := by simp; omega
      have hs : isSt b (.tup (v :: u :: x :: r)) = false := by cases u <;> simp [isSt]
      rw [hs]
      generalize v :: u :: x :: r = L at *
      simp [f_is_state, startW, hne]
  · rw [st_no it]
    simp [f_is_state, startW, it]
theorem rep3 (n : Nat) : (List.replicate n [W.int 3]).flatten = (List.replicate n (3 : Int)).map W.int := by
  induction n with
  | zero => rfl
  | succ n ih => rw [List.replicate_succ, List.flatten_cons, ih]; rfl
theorem a_due5 {b : Bk} (hb : b.Ok) {w : W} (h : Th w) (S : Sto) : pureR (f__law_due [tpI b.wh, .int b.ru.length, w] []) S = .ok (.bl (isSt b w)) S := by
  have hn := hb.n
  have bo : binop .Mult (.tup [W.int 3]) (.int b.ru.length) = some (tpI (List.replicate b.ru.length 3)) := by
    show (if decide (0 ≤ (b.ru.length : Int)) && decide ((b.ru.length : Int) ≤ 1000) && decide ([W.int 3].length ≤ 1000) then some (W.tup (List.replicate ((b.ru.length : Int)).toNat [W.int 3]).flatten) else none) = _
    rw [if_pos (by simp; omega), Int.toNat_natCast, rep3]
  have l1 : 1 ≤ limit := by unfold limit; omega
  rcases th_cases h with ⟨ws, rfl⟩ | it
  · match ws, h with
    | [], _ => simp [f__law_due, startW, isSt]
    | [v], _ => simp [f__law_due, startW, isSt]
    | [v, u], h =>
      obtain ⟨pv, pu⟩ := h.two
      have a0 : L2.atI [v, u] 0 = some v := by simp [L2.atI, L2.ixN]
      have a1 : L2.atI [v, u] 1 = some u := by simp [L2.atI, L2.ixN]
      have ev := a_are (wh := b.wh) (by have := hb.w.l1; omega) pv
      have eu := a_are (wh := List.replicate b.ru.length 3) (by rw [List.length_replicate]; omega) pu
      have d1 := pu.dF
      have d2 := pv.dF
      have n1 := pv.nl
      have n2 := pu.nl
      rw [isSt_two]
      have dR : ∀ S, derefF S (tpI (List.replicate b.ru.length 3)) = tpI (List.replicate b.ru.length 3) := fun S => rfl
      have nR : (tpI (List.replicate b.ru.length 3)).nl = true := nl_ints _
      generalize tpI (List.replicate b.ru.length 3) = R3 at *
      cases hv : isVs b.wh v with
      | false =>
        rw [hv] at ev
        simp [f__law_due, startW, a0, a1, ev, d1, d2, n1, n2]
      | true =>
        rw [hv] at ev
        simp [f__law_due, startW, a0, a1, ev, eu, d1, d2, n1, n2, bo, l1, dR, nR]
    | v :: u :: x :: r, h =>
      have hne : ¬ (((v :: u :: x :: r).length : Int) = 2) := by simp; omega
      have hs : isSt b (.tup (v :: u :: x :: r)) = false := by cases u <;> simp [isSt]
      rw [hs]
      generalize v :: u :: x :: r = L at *
      simp [f__law_due, startW, hne]
  · rw [st_no it]
    simp [f__law_due, startW, it]
/-! ### the watch -/
def stdW (t : Int) (s : Sta) (off tal : List Int) : W := .ins 19 [(10, .int t), (9, stW s), (11, tpI off), (12, tpI tal)]
theorem e_Stand (t : Int) (s : Sta) (off tal : List Int) (S : Sto) : makeR 19 f_Stand___init__ [.int t, stW s, tpI off, tpI tal] S = .ok (stdW t s off tal) S := by
  have e : f_Stand___init__ (.loc 0 :: [.int t, stW s, tpI off, tpI tal]) [.obj 19 []] = .ok .non [.obj 19 [(10, .int t), (9, stW s), (11, tpI off), (12, tpI tal)]] := by
    simp [f_Stand___init__, startW, setFldR, putFN]
  unfold makeR
  rw [e]
  simp [stdW]
theorem nl_std (t : Int) (s : Sta) (off tal : List Int) : (stdW t s off tal).nl = true := by simp [stdW]
theorem e_blen {b : Bk} (hb : b.Ok) (S : Sto) : (pureR (f_Book___len__ [b.W] []) S).bind lenC = .ok (.int b.ru.length) S := by
  have hlim : b.ru.length ≤ limit := l_small hb.n
  have e : pureR (f_Book___len__ [b.W] []) S = .ok (.int b.ru.length) S := by have g := fun S => g_ru b S; generalize b.W = B1 at *; simp [f_Book___len__, startW, g]
  have := hb.n
  rw [e]
  simp [lenC]
  omega
theorem rep0 (n : Nat) : (List.replicate n [W.int 0]).flatten = (zeros n).map W.int := by
  induction n with
  | zero => rfl
  | succ n ih => rw [List.replicate_succ, List.flatten_cons, ih]; rfl
theorem bo0 {n : Nat} (hn : n ≤ 100) : binop .Mult (.tup [W.int 0]) (.int n) = some (tpI (zeros n)) := by
  show (if decide (0 ≤ (n : Int)) && decide ((n : Int) ≤ 1000) && decide ([W.int 0].length ≤ 1000) then some (W.tup (List.replicate ((n : Int)).toNat [W.int 0]).flatten) else none) = _
  rw [if_pos (by simp; omega), Int.toNat_natCast, rep0]
theorem e_begun5 {b : Bk} (hb : b.Ok) {v : List Int} (hv : isVs b.wh (tpI v) = true) (S : Sto) : pureR (f_begun [b.W, tpI v] []) S = .ok (stW (v, zeros b.ru.length)) S := by
  have ev := a_val5 hb (w := tpI v) (.inl (plain_up 11 _ 30 (by omega) (pl_tpI v)))
  rw [hv] at ev
  have b0 := bo0 (n := b.ru.length) (by have := hb.n; omega)
  have g := fun S => g_ru b S
  have nb : b.W.nl = true := by simp [Bk.W]
  have dB : ∀ S, derefF S b.W = b.W := fun S => rfl
  have l1 : 1 ≤ limit := by unfold limit; omega
  have l2 : 2 ≤ limit := by unfold limit; omega
  generalize b.W = B1 at *
  simp [f_begun, startW, ev, g, b0, l1, l2, nb, dB]
  rfl
/-- the cells of a watch -/
def wCell (b : Bk) (t : Int) (s : Sta) (off tal : List Int) (p : Nat) : Cell := .obj 2 [(13, b.W), (14, stdW t s off tal), (15, .loc p)]
theorem new_watch {b : Bk} (hb : b.Ok) {v : List Int} (hv : isVs b.wh (tpI v) = true) (S : Sto) : makeCR 2 c_new_Watch_2 [b.W, tpI v] S = .ok (.loc S.length) (S ++ [wCell b 0 (v, zeros b.ru.length) [] (zeros b.ru.length) (S.length + 1), .lst []]) := by
  have eb := e_begun5 hb hv
  have eo := e_look_off hb (off := []) ⟨(fun _ h => nomatch h), List.Pairwise.nil⟩
  have es := e_Stand 0 (v, zeros b.ru.length) [] (zeros b.ru.length)
  have el := e_blen hb
  have b0 := bo0 (n := b.ru.length) (by have := hb.n; omega)
  have nb : b.W.nl = true := by simp [Bk.W]
  have ib : isIns 0 b.W = true := rfl
  have dB : ∀ S, derefF S b.W = b.W := fun S => rfl
  have l1 : 1 ≤ limit := by unfold limit; omega
  have l0 : 0 ≤ limit := Nat.zero_le _
  have hg : ∀ c, (S ++ [c])[S.length]? = some c := fun c => by simp
  have hs : ∀ c d : Cell, (S ++ [c]).set S.length d = S ++ [d] := fun c d => by rw [List.set_append, if_neg (by omega)]; simp
  have hg2 : ∀ c d, (S ++ [c] ++ [d])[S.length]? = some c := fun c d => by simp
  have hs2 : ∀ c d e : Cell, (S ++ [c] ++ [d]).set S.length e = S ++ [e] ++ [d] := fun c d e => by rw [List.append_assoc, List.set_append, if_neg (by omega)]; simp
  have hl : ∀ c : Cell, (S ++ [c]).length = S.length + 1 := fun c => by simp
  have e : c_new_Watch_2 (.loc S.length :: [b.W, tpI v]) (S ++ [.obj 2 []]) = .ok .non (S ++ [wCell b 0 (v, zeros b.ru.length) [] (zeros b.ru.length) (S.length + 1)] ++ [.lst []]) := by
    unfold wCell
    have eo : ∀ S, pureR (f_look_off [b.W, .tup []] []) S = .ok .non S := eo
    have es : ∀ S, makeR 19 f_Stand___init__ [.int 0, stW (v, zeros b.ru.length), .tup [], tpI (zeros b.ru.length)] S = .ok (stdW 0 (v, zeros b.ru.length) [] (zeros b.ru.length)) S := es
    generalize stdW 0 (v, zeros b.ru.length) [] (zeros b.ru.length) = SW at *
    have nS : (stW (v, zeros b.ru.length)).nl = true := by simp
    have dS : ∀ S, derefF S (stW (v, zeros b.ru.length)) = stW (v, zeros b.ru.length) := fun S => rfl
    have nT : (tpI (zeros b.ru.length)).nl = true := nl_ints _
    have dT : ∀ S, derefF S (tpI (zeros b.ru.length)) = tpI (zeros b.ru.length) := fun S => rfl
    have nV : (tpI v).nl = true := nl_ints _
    have dV : ∀ S, derefF S (tpI v) = tpI v := fun S => rfl
    generalize stW (v, zeros b.ru.length) = ST at *
    generalize tpI (zeros b.ru.length) = TL at *
    generalize tpI v = TV at *
    generalize b.W = B1 at *
    simp [c_new_Watch_2, f_Watch___init__, startW, eb, eo, es, el, b0, nb, ib, dB, l1, l0, nS, dS, nT, dT, nV, dV, setFldR, putFN, hg, hs, hg2, hs2, hl, -List.append_assoc]
  unfold makeCR
  rw [e, List.append_assoc]; rfl
end K05
set_option Elab.async false
set_option linter.all false
set_option maxRecDepth 100000
set_option maxHeartbeats 4000000
/-! P05c: the watch goes. -/
namespace K05
open PySem hiding upTo
open DL SP
/-- how often each rule did something in so many beats -/
def dids (b : Bk) (off : List Int) (s : Sta) (j : Nat) : List Int := (upTo b.ru.length).map fun r => (cnt b off s r j : Int)
theorem dids_len (b : Bk) (off : List Int) (s : Sta) (j : Nat) : (dids b off s j).length = b.ru.length := by simp [dids, upTo]
theorem zip_add : ∀ l r : List Int, (l.zip r).map (fun p => W.int (p.1 + p.2)) = (List.zipWith (· + ·) l r).map W.int
  | [], _ => rfl
  | _ :: _, [] => rfl
  | a :: l, b :: r => by rw [List.zip_cons_cons, List.map_cons, zip_add l r]; rfl
theorem go_ok {b : Bk} (hb : b.Ok) {t : Int} {s : Sta} (hs : StOk b s) {off tal : List Int} {j : Nat} (hj : (j : Int) < MOST) (htl : tal.length = b.ru.length) {m p : Nat} {ws : List W} {S : Sto} (hm : S[m]? = some (wCell b t s off tal p)) (hp : S[p]? = some (.lst ws)) (hne : m ≠ p) (hw : ws.length < 1000) :
    f_Watch_go [.loc m, .int j] S = .ok (tpI (dids b off s j)) ((S.set p (.lst (ws ++ [stdW t s off tal]))).set m (wCell b (t + j) (itr (tst b off) j s) off (List.zipWith (· + ·) tal (dids b off s j)) p)) := by
  have hml := (List.getElem?_eq_some_iff.mp hm).1
  have el := e_blen hb
  have elb := e_look_beats (Int.natCast_nonneg j) hj
  have eT := e_Track hb (off := off) hs
  have eo := fun r => e_often hb (off := off) hs r j
  have tk := trk_spec hb (off := off) hs
  have gS := fun S => g_states b off s S
  have eS := e_spot hb (off := off) hs j
  have eat := st_at (tk.get j)
  have nT : (trO b off s).nl = true := nl_tr ..
  have iT : isIns 1 (trO b off s) = true := rfl
  have dT : ∀ S, derefF S (trO b off s) = trO b off s := fun S => rfl
  have dT2 : ∀ S, deref S (trO b off s) = trO b off s := fun S => rfl
  have hc1 : ∀ x4 x5 x6 x7 x8 : Option W, compM (lcStep [some (.loc m), some (.int j), some (stdW t s off tal), some (trO b off s), x4, x5, x6, x7, x8] [6] (.nm 6) bYes (mMeth 1 f_Track_often (mVar 3) (mCons (mVar 6) (mCons (mVar 1) (mNil))))) ((upTo b.ru.length).map W.int) [] S = .ok ((dids b off s j).map W.int) S := fun x4 x5 x6 x7 x8 => by
    unfold dids
    rw [List.map_map]
    exact lc_data fun r _ => by
      have := eo r
      generalize trO b off s = TR at *
      simp [lcStep, this, nT, iT, dT]
  have hc2 : ∀ x4 x5 x6 x7 x8 : Option W, compM (lcStep [some (.loc m), some (.int j), some (stdW t s off tal), some (trO b off s), x4, x5, x6, x7, x8] [7, 8] (.tup [7, 8]) bYes (mBin .Add (mVar 7) (mVar 8))) (zipW (tal.map W.int) ((dids b off s j).map W.int)) [] S = .ok ((List.zipWith (· + ·) tal (dids b off s j)).map W.int) S := fun x4 x5 x6 x7 x8 => by
    have hz : zipW (tal.map W.int) ((dids b off s j).map W.int) = (tal.zip (dids b off s j)).map fun p => .tup [.int p.1, .int p.2] := zipW_map W.int W.int _ _
    rw [hz, lc_data (g := fun p : Int × Int => .int (p.1 + p.2)) fun p _ => by simp [lcStep]]
    rw [zip_add]
  have hdl := dids_len b off s j
  have hlim : b.ru.length ≤ limit := l_small hb.n
  have hzl : (List.zipWith (· + ·) tal (dids b off s j)).length = b.ru.length := by rw [List.length_zipWith, htl, hdl]; simp
  have hzw : (zipW (tal.map W.int) ((dids b off s j).map W.int)).length ≤ limit := by
    have hz : zipW (tal.map W.int) ((dids b off s j).map W.int) = (tal.zip (dids b off s j)).map fun p => .tup [.int p.1, .int p.2] := zipW_map W.int W.int _ _
    rw [hz, List.length_map, List.length_zip, htl, hdl]; omega
  have g13 : getFld S 2 13 (.loc m) = some b.W := by simp [getFld, hm, wCell, lookF]
  have g14 : getFld S 2 14 (.loc m) = some (stdW t s off tal) := by simp [getFld, hm, wCell, lookF]
  have g15 : getFld S 2 15 (.loc m) = some (.loc p) := by simp [getFld, hm, wCell, lookF]
  have s9 : ∀ S, getFld S 19 9 (stdW t s off tal) = some (stW s) := fun S => rfl
  have s10 : ∀ S, getFld S 19 10 (stdW t s off tal) = some (.int t) := fun S => rfl
  have s11 : ∀ S, getFld S 19 11 (stdW t s off tal) = some (tpI off) := fun S => rfl
  have s12 : ∀ S, getFld S 19 12 (stdW t s off tal) = some (tpI tal) := fun S => rfl
  have nb : b.W.nl = true := by simp [Bk.W]
  have ib : isIns 0 b.W = true := rfl
  have dB : ∀ S, derefF S b.W = b.W := fun S => rfl
  have eN := e_Stand (t + j) (itr (tst b off) j s) off (List.zipWith (· + ·) tal (dids b off s j))
  have iso : isObj 2 S (.loc m) = true := by simp [isObj, hm, wCell]
  -- done
  have hd : ∀ w : W, f_Watch_done [.loc m, w] S = .ok .non ((S.set p (.lst (ws ++ [stdW t s off tal]))).set m (.obj 2 [(13, b.W), (14, w), (15, .loc p)])) := fun w => by
    have ap : ∀ w, appR (.loc p) w S = .ok .non (S.set p (.lst (ws ++ [w]))) := fun w => by
      unfold appR
      simp only [hp]
      rw [if_pos (by unfold limit; omega)]
    have hm2 : (S.set p (.lst (ws ++ [stdW t s off tal])))[m]? = some (.obj 2 [(13, b.W), (14, stdW t s off tal), (15, .loc p)]) := by rw [List.getElem?_set_ne (fun e => hne e.symm)]; exact hm
    have ic : isCell S (.loc p) = true := by simp only [isCell, hp]
    generalize stdW t s off tal = SW at *
    generalize b.W = B1 at *
    simp [f_Watch_done, startW, g15, g14, ap, ic, setFldR, hm2, putFN]
  have rr : rangeW 0 b.ru.length = (upTo b.ru.length).map W.int := range0 _
  have nS : (stW s).nl = true := by simp
  have dS : ∀ S, derefF S (stW s) = stW s := fun S => rfl
  have nO : (tpI off).nl = true := nl_ints _
  have dO : ∀ S, derefF S (tpI off) = tpI off := fun S => rfl
  have nS2 : (stW (itr (tst b off) j s)).nl = true := by simp
  have dS2 : ∀ S, derefF S (stW (itr (tst b off) j s)) = stW (itr (tst b off) j s) := fun S => rfl
  have nZ : (tpI (List.zipWith (· + ·) tal (dids b off s j))).nl = true := nl_ints _
  have dZ : ∀ S, derefF S (tpI (List.zipWith (· + ·) tal (dids b off s j))) = tpI (List.zipWith (· + ·) tal (dids b off s j)) := fun S => rfl
  unfold wCell
  generalize stdW (t + j) (itr (tst b off) j s) off (List.zipWith (· + ·) tal (dids b off s j)) = SN at *
  generalize stdW t s off tal = SW at *
  have hul : (upTo b.ru.length).length = b.ru.length := by simp [upTo]
  generalize hD : dids b off s j = D at *
  generalize hZ : List.zipWith (· + ·) tal D = Z at *
  generalize stW s = ST at *
  generalize stW (itr (tst b off) j s) = ST2 at *
  generalize hTR : trO b off s = TR at *
  have hslim : ((trk b off s).1.map stW).length ≤ limit := by rw [List.length_map]; exact l_small (trk_few hb hs)
  generalize (trk b off s).1.map stW = STS at *
  generalize b.W = B1 at *
  have hnl : (b.ru.length : Int) < 4611686018427387904 := by have := hb.n; omega
  simp [f_Watch_go, startW, hc1, hc2, hnl, hzw, elb, g13, g14, s9, s10, s11, s12, el, eT, eS, eat, nT, iT, dT, dT2, nb, ib, dB, eN, iso, hd, rr, nS, dS, nO, dO, nS2, dS2, nZ, dZ, gS, hlim, hdl, hzl, htl, hul, hslim]
end K05
set_option Elab.async false
set_option linter.all false
set_option maxRecDepth 100000
set_option maxHeartbeats 4000000
/-! S56: all states come to, by the law. -/
namespace SP
open PySem hiding upTo
open DL
end SP
set_option Elab.async false
set_option linter.all false
set_option maxRecDepth 100000
set_option maxHeartbeats 4000000
/-! S62: papers of orders, let by where they are told. -/
namespace SP
open PySem hiding upTo
open DL
@[simp] theorem o_keysL (p : Me) (ρ : DL.Env) (S : Sto) : jKeysL p ρ S = (p ρ S).bindL fun x S => match x with
  | .loc n => match S[n]? with
    | some (.dlk kvs) => .ok (kvs.map (·.1)) S
    | _ => .bad
  | _ => .bad := (rfl)
@[simp] theorem o_dinL (a b : Me) (ρ : DL.Env) (S : Sto) : mDInL a b ρ S = (a ρ S).bind fun x S => (b ρ S).bind fun y S => optR S ((dinLR x y S).map .bl) := (rfl)
end SP
set_option Elab.async false
set_option linter.all false
set_option maxRecDepth 100000
set_option maxHeartbeats 4000000
/-! P05: k05's plain part. -/
namespace K05
open PySem hiding upTo
open DL SP
@[simp] theorem o_naddL (a b : Me) (ρ : DL.Env) (S : Sto) : mNAddL a b ρ S = (a ρ S).bind fun x S => (b ρ S).bind fun y S => match deref S x, deref S y with
  | .lst ws, .lst us => if ws.length + us.length ≤ limit then newCellR (.lst (ws ++ us)) S else .bad
  | _, _ => .bad := (rfl)
noncomputable def E (ns : List Int) (k : Int) (n : Nat) (b : Bk) (x7 x8 x9 x10 x11 x12 x13 x14 x15 : Option W) : DL.Env := [some (scr ns), some (.int k), some (.loc n), some (tpI b.wh), some (.tup (b.ru.map Rul.W)), some b.W, some (.int b.ru.length), x7, x8, x9, x10, x11, x12, x13, x14, x15]
theorem th_pd {L d : Nat} {w : W} (h : PD L d w) (hd : d ≤ 20) : Th w := .inl (.inl (plain_up _ w 30 (by omega) h.1))
theorem th_pl {q : Nat} {w : W} (h : W.plain q w = true) (hq : q ≤ 30) : Th w := .inl (.inl (plain_up _ w 30 hq h))
theorem pl_ti (l : List Int) : Pl (tpI l) := .inl (plain_up 11 _ 30 (by omega) (pl_tpI l))
theorem pl_stW (s : Sta) : W.plain 12 (stW s) = true := plainL_of fun w hw => by
  rcases List.mem_cons.mp hw with rfl | hw
  · exact pl_tpI _
  · rcases List.mem_cons.mp hw with rfl | hw
    · exact pl_tpI _
    · cases hw
theorem th_two {v u : W} (h1 : Pl v) (h2 : Pl u) : Th (.tup [v, u]) := .inr ⟨v, u, rfl, h1, h2⟩
theorem nlB' (b : Bk) : b.W.nl = true := by simp [Bk.W]
theorem pl_bk (b : Bk) : Pl b.W := .inr ⟨0, _, rfl, .inl rfl, by show W.nl b.W = true; simp [Bk.W]⟩
theorem boR {n : Nat} (i : Int) (hn : n ≤ 100) : binop .Mult (.tup [W.int i]) (.int n) = some (tpI (List.replicate n i)) := by
  have rep : ∀ n : Nat, (List.replicate n [W.int i]).flatten = (List.replicate n i).map W.int := fun n => by
    induction n with
    | zero => rfl
    | succ n ih => rw [List.replicate_succ, List.flatten_cons, ih]; rfl
  show (if decide (0 ≤ (n : Int)) && decide ((n : Int) ≤ 1000) && decide ([W.int i].length ≤ 1000) then some (W.tup (List.replicate ((n : Int)).toNat [W.int i]).flatten) else none) = _
  rw [if_pos (by simp; omega), Int.toNat_natCast, rep]
/-- the things stand in the cell q -/
structure Has (n c q : Nat) (S : Sto) : Prop where
  bg : Bg n c S
  ne : q ≠ n
  ex : ∃ ws : List W, S[q]? = some (.lst ws) ∧ ws.length ≤ 10 ∧ ∀ w ∈ ws, Th w
section
variable (ns : List Int) (k : Int) {n c q : Nat} {b : Bk} {S : Sto}
theorem st_at0 (s : Sta) : L2.atI [tpI s.1, tpI s.2] 0 = some (tpI s.1) := by simp [L2.atI, L2.ixN]
theorem st_at1 (s : Sta) : L2.atI [tpI s.1, tpI s.2] 1 = some (tpI s.2) := by simp [L2.atI, L2.ixN]
theorem t5 (hb : b.Ok) {s : Sta} (hs : StOk b s) {w1 : W} (hw1 : PD 11 4 w1) (hB : Bg n c S) (hc : c ≤ 300000000) (x9 x10 x11 x12 x13 x14 x15 : Option W) :
    ∃ (q : Nat) (S' : Sto), b_law_1_5 (E ns k n b (some (stW s)) (some w1) x9 x10 x11 x12 x13 x14 x15) S = .nx (E ns k n b (some (stW s)) (some w1) (some (.loc q)) x10 x11 x12 x13 x14 x15) S' ∧ Has n (c + 40) q S' := by
  obtain ⟨w2, S1, e1, p1, k1, b1⟩ := d_sp (L := 11) (d := 4) (by omega) (by omega) (by omega) hw1 hB (by omega)
  obtain ⟨w3, S2, e2, hm3, p3, s3, l3, k2, b2⟩ := d_anyM b1 (by omega)
  have r2 := boR (n := b.ru.length) 2 (by have := hb.n; omega)
  have r3 := boR (n := b.ru.length) 3 (by have := hb.n; omega)
  have a0 := st_at0 s
  have l1 : 1 ≤ limit := by unfold limit; omega
  have l2 : 2 ≤ limit := by unfold limit; omega
  have l6 : 6 ≤ limit := by unfold limit; omega
  refine ⟨S2.length, S2 ++ [.lst [stW s, w1, w2, w3, .tup [tpI s.1, tpI (List.replicate b.ru.length 2)], .tup [tpI s.1, tpI (List.replicate b.ru.length 3)]]], ?_, (b2.app _).mono (by omega), ?_, ⟨_, by simp; rfl, by simp, ?_⟩⟩
  · unfold E stW at *
    generalize tpI (List.replicate b.ru.length 2) = R2 at *
    generalize tpI (List.replicate b.ru.length 3) = R3 at *
    generalize tpI s.1 = T1 at *
    generalize tpI s.2 = T2 at *
    generalize b.W = B1 at *
    simp [b_law_1_5, e1, e2, r2, r3, a0, l1, l2, l6]
  · have := b2.lt; omega
  · intro w hw
    simp only [List.mem_cons, List.not_mem_nil, or_false] at hw
    rcases hw with rfl | rfl | rfl | rfl | rfl | rfl
    · exact th_two (pl_ti _) (pl_ti _)
    · exact th_pd hw1 (by omega)
    · exact th_pd p1 (by omega)
    · exact th_pl p3 (by omega)
    · exact th_two (pl_ti _) (pl_ti _)
    · exact th_two (pl_ti _) (pl_ti _)
theorem t6 (hb : b.Ok) {s : Sta} (hs : StOk b s) {ws : List W} (hq : S[q]? = some (.lst ws)) (hl : ws.length ≤ 10) (x8 x10 x11 x12 x13 x14 x15 : Option W) :
    ∃ us : List W, b_law_1_6 (E ns k n b (some (stW s)) x8 (some (.loc q)) x10 x11 x12 x13 x14 x15) S = .nx (E ns k n b (some (stW s)) x8 (some (.loc S.length)) x10 x11 x12 x13 x14 x15) (S ++ [.lst (ws ++ us)]) ∧ us.length = 3 ∧ ∀ w ∈ us, Th w := by
  have r0 : binop .Mult (.tup [W.int 0]) (.int ((b.ru.length : Int) + 1)) = some (tpI (List.replicate (b.ru.length + 1) 0)) := boR (n := b.ru.length + 1) 0 (by have := hb.n; omega)
  have a0 := st_at0 s
  have a1 := st_at1 s
  have l1 : 1 ≤ limit := by unfold limit; omega
  have l2 : 2 ≤ limit := by unfold limit; omega
  have l3 : 3 ≤ limit := by unfold limit; omega
  have l0 : 0 ≤ limit := Nat.zero_le _
  have lw : ws.length + 3 ≤ limit := by unfold limit; omega
  have ad : binop .Add (stW s) (.tup [.tup []]) = some (.tup [tpI s.1, tpI s.2, .tup []]) := by
    show binop .Add (.tup [tpI s.1, tpI s.2]) (.tup [.tup []]) = _
    rw [bo_addT, if_pos (by show 3 ≤ limit; exact l3)]; rfl
  refine ⟨[.tup [tpI s.1, tpI (List.replicate (b.ru.length + 1) 0)], .tup [tpI b.wh, tpI s.2], .tup [tpI s.1, tpI s.2, .tup []]], ?_, rfl, ?_⟩
  · have dd : deref S (.loc q) = .lst ws := by simp only [deref, hq]
    unfold E stW at *
    generalize tpI (List.replicate (b.ru.length + 1) 0) = R0 at *
    generalize tpI s.1 = T1 at *
    generalize tpI s.2 = T2 at *
    generalize b.W = B1 at *
    generalize tpI b.wh = WW at *
    simp [b_law_1_6, r0, a0, a1, l1, l2, l3, l0, ad, dd, hq, lw, newCellR]
  · intro w hw
    simp only [List.mem_cons, List.not_mem_nil, or_false] at hw
    rcases hw with rfl | rfl | rfl
    · exact th_two (pl_ti _) (pl_ti _)
    · exact th_two (pl_ti _) (pl_ti _)
    · refine th_pl (q := 12) (plainL_of fun x hx => ?_) (by omega)
      simp only [List.mem_cons, List.not_mem_nil, or_false] at hx
      rcases hx with rfl | rfl | rfl
      · exact pl_tpI _
      · exact pl_tpI _
      · rfl
theorem app_ok {ws : List W} (hq : S[q]? = some (.lst ws)) (hl : ws.length ≤ 100) (w : W) : appR (.loc q) w S = .ok .non (S.set q (.lst (ws ++ [w]))) ∧ isCell S (.loc q) = true := by
  refine ⟨?_, by simp only [isCell, hq]⟩
  unfold appR
  simp only [hq]
  rw [if_pos (by unfold limit; omega)]
theorem t7 (hb : b.Ok) {ws : List W} (hq : S[q]? = some (.lst ws)) (hne : q ≠ n) (hl : ws.length ≤ 15) (hB : Bg n c S) (hc : c ≤ 300000000) (x7 x8 x10 x11 x12 x13 x14 x15 : Option W) :
    ∃ (w : W) (S' : Sto), b_law_1_7 (E ns k n b x7 x8 (some (.loc q)) x10 x11 x12 x13 x14 x15) S = .nx (E ns k n b x7 x8 (some (.loc q)) x10 x11 x12 x13 x14 x15) S' ∧ Th w ∧ S'[q]? = some (.lst (ws ++ [w])) ∧ Bg n (c + 8) S' := by
  obtain ⟨s, S1, hs, e, k1, b1⟩ := d_state hb hB (by omega)
  have hql := (List.getElem?_eq_some_iff.mp hq).1
  have hq1 : S1[q]? = some (.lst ws) := (k1.2 q hql hne).trans hq
  obtain ⟨ap, _⟩ := app_ok hq1 (by omega) (stW s)
  have ic := (app_ok hq (by omega) (stW s)).2
  refine ⟨stW s, S1.set q (.lst (ws ++ [stW s])), ?_, th_two (pl_ti _) (pl_ti _), ?_, b1.set hne _⟩
  · unfold E
    generalize stW s = ST at *
    simp [b_law_1_7, e, ap, ic]
  · rw [List.getElem?_set_self (List.getElem?_eq_some_iff.mp hq1).1]
theorem t8 (hb : b.Ok) {ws : List W} (hq : S[q]? = some (.lst ws)) (hl : ws.length ≤ 15) (x7 x8 x10 x11 x12 x13 x14 x15 : Option W) :
    ∃ (w : W), b_law_1_8 (E ns k n b x7 x8 (some (.loc q)) x10 x11 x12 x13 x14 x15) S = .nx (E ns k n b x7 x8 (some (.loc q)) x10 x11 x12 x13 x14 x15) (S.set q (.lst (ws ++ [w]))) ∧ Th w := by
  have r0 := boR (n := b.ru.length) 0 (by have := hb.n; omega)
  have hlim : b.wh.length ≤ limit := l_small hb.w.l1
  have l1 : 1 ≤ limit := by unfold limit; omega
  have l2 : 2 ≤ limit := by unfold limit; omega
  have hc : ∀ x13 x14 x15 : Option W, compM (lcStep (E ns k n b x7 x8 (some (.loc q)) x10 x11 x12 x13 x14 x15) [15] (.nm 15) bYes (mBin .Sub (mVar 15) (mCon (.int 1)))) (b.wh.map W.int) [] S = .ok ((b.wh.map fun i => i - 1).map W.int) S := fun x13 x14 x15 => by
    rw [List.map_map]
    exact lc_data fun i _ => by unfold E; simp [lcStep]
  obtain ⟨ap, ic⟩ := app_ok hq (by omega) (.tup [.tup ((b.wh.map fun i => i - 1).map W.int), tpI (List.replicate b.ru.length 0)])
  have hml : ((b.wh.map fun i => i - 1).map W.int).length = b.wh.length := by rw [List.length_map, List.length_map]
  refine ⟨.tup [.tup ((b.wh.map fun i => i - 1).map W.int), tpI (List.replicate b.ru.length 0)], ?_, th_two (pl_ti (b.wh.map fun i => i - 1)) (pl_ti (List.replicate b.ru.length 0))⟩
  have hc0 := hc x13 x14 x15
  clear hc
  unfold E at hc0 ⊢
  generalize (b.wh.map fun i => i - 1).map W.int = PM at *
  generalize tpI (List.replicate b.ru.length 0) = R0 at *
  generalize b.W = B1 at *
  simp [b_law_1_8, r0, hc0, hlim, hml, ap, ic, l1, l2]
end
/-- the watched book -/
def twoB : Bk := ⟨[2], [⟨[], [], [], []⟩, ⟨[], [], [], []⟩]⟩
theorem two_ok : twoB.Ok := ⟨⟨by decide, by decide, by decide, by decide⟩, by decide, fun r hr => by
  simp only [twoB, List.mem_cons, List.not_mem_nil, or_false, or_self] at hr
  subst hr
  exact ⟨by decide, (fun _ h => nomatch h), by decide, (fun _ h => nomatch h), (fun _ h => nomatch h), List.Pairwise.nil, (fun _ h => nomatch h), List.Pairwise.nil, fun _ h => nomatch h⟩⟩
theorem two_st : StOk twoB ([1], [0, 0]) := ⟨rfl, fun i hi => by
  obtain ⟨h0, h1⟩ := hi
  have h1 : i < 1 := h1
  have : i = 0 := by omega
  subst this
  decide, rfl, by decide⟩
theorem itr_st {b : Bk} (hb : b.Ok) {off : List Int} {s : Sta} (hs : StOk b s) : ∀ n, StOk b (itr (tst b off) n s)
  | 0 => hs
  | n + 1 => beatOf_ok hb (itr_st hb hs n) (own_ix b)
section
variable (ns : List Int) (k : Int) {n c q : Nat} {b : Bk} {S : Sto}
theorem t9 (x7 x8 x9 x10 x11 x12 x13 x14 x15 : Option W) : b_law_1_9 (E ns k n b x7 x8 x9 x10 x11 x12 x13 x14 x15) S = .nx (E ns k n b x7 x8 x9 (some twoB.W) x11 x12 x13 x14 x15) S := by
  have e : ∀ S, makeR 0 f_Book___init__ [.tup [.int 2], .tup [.tup [.tup [], .tup [], .tup [], .tup []], .tup [.tup [], .tup [], .tup [], .tup []]]] S = .ok twoB.W S := e_Book two_ok
  have bo : binop .Mult (.tup [.tup [.tup [], .tup [], .tup [], .tup []]]) (.int 2) = some (.tup [.tup [.tup [], .tup [], .tup [], .tup []], .tup [.tup [], .tup [], .tup [], .tup []]]) := rfl
  have l0 : 0 ≤ limit := Nat.zero_le _
  have l1 : 1 ≤ limit := by unfold limit; omega
  have l4 : 4 ≤ limit := by unfold limit; omega
  unfold E
  generalize twoB.W = B2 at *
  simp [b_law_1_9, e, bo, l0, l1, l4]
theorem t10 (x7 x8 x9 x11 x12 x13 x14 x15 : Option W) : b_law_1_10 (E ns k n b x7 x8 x9 (some twoB.W) x11 x12 x13 x14 x15) S = .nx (E ns k n b x7 x8 x9 (some twoB.W) (some (.loc S.length)) x12 x13 x14 x15) (S ++ [wCell twoB 0 ([1], zeros twoB.ru.length) [] (zeros twoB.ru.length) (S.length + 1), .lst []]) := by
  have e := new_watch two_ok (v := [1]) rfl S
  have e : makeCR 2 c_new_Watch_2 [twoB.W, .tup [.int 1]] S = _ := e
  have l1 : 1 ≤ limit := by unfold limit; omega
  unfold E
  generalize twoB.W = B2 at *
  simp [b_law_1_10, e, l1]
/-- the watch stands in the cell m, the things in q -/
structure Wt (n c q m e : Nat) (ts : List W) (S : Sto) : Prop where
  bg : Bg n c S
  hq : S[q]? = some (.lst ts)
  qn : q ≠ n
  wt : ∃ (t : Int) (s : Sta) (tal : List Int) (p : Nat) (ws : List W), S[m]? = some (wCell twoB t s [] tal p) ∧ S[p]? = some (.lst ws) ∧ m ≠ p ∧ m ≠ n ∧ m ≠ q ∧ p ≠ n ∧ p ≠ q ∧ StOk twoB s ∧ tal.length = 2 ∧ ws.length ≤ e ∧ nlL ws = true
theorem nlL_app : ∀ {l r : List W}, nlL l = true → nlL r = true → nlL (l ++ r) = true
  | [], _, _, h => h
  | a :: l, r, h, h2 => by
    have h : (a.nl && nlL l) = true := h
    rw [Bool.and_eq_true] at h
    show (a.nl && nlL (l ++ r)) = true
    rw [h.1, nlL_app h.2 h2]; rfl
theorem go_turn {m e : Nat} {ts : List W} (hW : Wt n c q m e ts S) (he : e ≤ 10) (j : Nat) (hj : j ≤ 5) (x7 x8 x9 x10 x12 x13 x14 x15 : Option W) :
    ∃ S', (sExpr (mMethC 2 f_Watch_go (mVar 11) (mCons (mCon (.int j)) (mNil)))) (E ns k n b x7 x8 x9 x10 (some (.loc m)) x12 x13 x14 x15) S = .nx (E ns k n b x7 x8 x9 x10 (some (.loc m)) x12 x13 x14 x15) S' ∧ Wt n c q m (e + 1) ts S' := by
  obtain ⟨t, s, tal, p, ws, hm, hp, mp, mn, mq, pn, pq, hs, tl, wl, wn⟩ := hW.wt
  have hjm : (j : Int) < MOST := by unfold MOST; omega
  have tl' : tal.length = twoB.ru.length := tl
  have wl' : ws.length < 1000 := by omega
  have g := go_ok two_ok hs hjm tl' hm hp mp wl'
  have io : isObj 2 S (.loc m) = true := by simp [isObj, hm, wCell]
  have hml := (List.getElem?_eq_some_iff.mp hm).1
  have hpl := (List.getElem?_eq_some_iff.mp hp).1
  obtain ⟨C1, hC1⟩ : ∃ C1, C1 = Cell.lst (ws ++ [stdW t s [] tal]) := ⟨_, rfl⟩
  obtain ⟨C2, hC2⟩ : ∃ C2, C2 = wCell twoB (t + j) (itr (tst twoB []) j s) [] (List.zipWith (· + ·) tal (dids twoB [] s j)) p := ⟨_, rfl⟩
  rw [← hC1, ← hC2] at g
  have g1 : ((S.set p C1).set m C2)[m]? = some C2 := List.getElem?_set_self (by rw [List.length_set]; exact hml)
  have g2 : ((S.set p C1).set m C2)[p]? = some C1 := by rw [List.getElem?_set_ne mp, List.getElem?_set_self hpl]
  have g3 : ((S.set p C1).set m C2)[q]? = some (.lst ts) := by rw [List.getElem?_set_ne mq, List.getElem?_set_ne pq]; exact hW.hq
  refine ⟨(S.set p C1).set m C2, ?_, ⟨(hW.bg.set pn C1).set mn C2, g3, hW.qn, t + j, itr (tst twoB []) j s, List.zipWith (· + ·) tal (dids twoB [] s j), p, ws ++ [stdW t s [] tal], by rw [g1, hC2], by rw [g2, hC1], mp, mn, mq, pn, pq, itr_st two_ok hs j, ?_, ?_, ?_⟩⟩
  · unfold E
    generalize (S.set p C1).set m C2 = S2 at *
    generalize tpI (dids twoB [] s j) = RR at *
    simp [g, io]
  · rw [List.length_zipWith, tl, dids_len]; rfl
  · rw [List.length_append]; show _ + 1 ≤ _; omega
  · refine nlL_app wn ?_
    show ((stdW t s [] tal).nl && true) = true
    rw [nl_std]; rfl
theorem t11 {m e : Nat} {ts : List W} (hW : Wt n c q m e ts S) (he : e ≤ 10) (x7 x8 x9 x10 x12 x13 x14 x15 : Option W) :
    ∃ S', b_law_1_11 (E ns k n b x7 x8 x9 x10 (some (.loc m)) x12 x13 x14 x15) S = .nx (E ns k n b x7 x8 x9 x10 (some (.loc m)) x12 x13 x14 x15) S' ∧ Wt n c q m (e + 1) ts S' := go_turn ns k hW he 1 (by omega) x7 x8 x9 x10 x12 x13 x14 x15
theorem t12 {m e : Nat} {ts : List W} (hW : Wt n c q m e ts S) (he : e ≤ 10) (x7 x8 x9 x10 x12 x13 x14 x15 : Option W) :
    ∃ S', b_law_1_12 (E ns k n b x7 x8 x9 x10 (some (.loc m)) x12 x13 x14 x15) S = .nx (E ns k n b x7 x8 x9 x10 (some (.loc m)) x12 x13 x14 x15) S' ∧ Wt n c q m (e + 1) ts S' := go_turn ns k hW he 0 (by omega) x7 x8 x9 x10 x12 x13 x14 x15
/-- the watch frozen -/
theorem frz_watch {m e : Nat} {ts : List W} (hW : Wt n c q m e ts S) : ∃ (us : List (Nat × W)) (S' : Sto), frzOR (.loc m) S = .ok (.ins 2 us) S' ∧ frzOR (.loc m) S' = .ok (.ins 2 us) S' ∧ W.nl (.ins 2 us) = true ∧ Bg n c S' ∧ S'[q]? = some (.lst ts) := by
  obtain ⟨t, s, tal, p, ws, hm, hp, mp, mn, mq, pn, pq, hs, tl, wl, wn⟩ := hW.wt
  have hml := (List.getElem?_eq_some_iff.mp hm).1
  have nb : twoB.W.nl = true := rfl
  have nS := nl_std t s [] tal
  have fz : frzFs S [(13, twoB.W), (14, stdW t s [] tal), (15, .loc p)] = some [(13, twoB.W), (14, stdW t s [] tal), (15, .lst ws)] := by
    have f1 : frzW S twoB.W = some twoB.W := rfl
    have f2 : frzW S (stdW t s [] tal) = some (stdW t s [] tal) := by show (if (stdW t s [] tal).nl then some _ else none) = _; rw [nS]; rfl
    have f3 : frzW S (.loc p) = some (.lst ws) := by simp only [frzW, hp]; rw [wn]; rfl
    simp only [frzFs, f1, f2, f3, Option.map_some]
  have sf : stF S [(13, twoB.W), (14, stdW t s [] tal), (15, .loc p)] = S.set p (.frz (.lst ws)) := by
    show stF1 (stF1 (stF1 S twoB.W) (stdW t s [] tal)) (.loc p) = _
    show stF1 S (.loc p) = _
    simp only [stF1, hp]
  have nI : W.nl (.ins 2 [(13, twoB.W), (14, stdW t s [] tal), (15, .lst ws)]) = true := by
    show (twoB.W.nl && ((stdW t s [] tal).nl && (nlL ws && true))) = true
    rw [nb, nS, wn]; rfl
  have hm' : S[m]? = some (.obj 2 [(13, twoB.W), (14, stdW t s [] tal), (15, .loc p)]) := hm
  refine ⟨_, (S.set p (.frz (.lst ws))).set m (.frz (.ins 2 [(13, twoB.W), (14, stdW t s [] tal), (15, .lst ws)])), ?_, ?_, nI, (hW.bg.set pn _).set mn _, ?_⟩
  · simp only [frzOR, hm', fz, sf]
  · have h2 : ((S.set p (.frz (.lst ws))).set m (.frz (.ins 2 [(13, twoB.W), (14, stdW t s [] tal), (15, .lst ws)])))[m]? = some (.frz (.ins 2 [(13, twoB.W), (14, stdW t s [] tal), (15, .lst ws)])) := List.getElem?_set_self (by rw [List.length_set]; exact hml)
    simp only [frzOR, h2]
    rw [if_pos nI]
  · rw [List.getElem?_set_ne mq, List.getElem?_set_ne pq]; exact hW.hq
theorem t13 {m e : Nat} {ts : List W} {s : Sta} (hW : Wt n c q m e ts S) (hl : ts.length ≤ 20) (hT : ∀ w ∈ ts, Th w) (x8 x12 x13 x14 x15 : Option W) :
    ∃ (q' : Nat) (S' : Sto) (vs : List W), b_law_1_13 (E ns k n b (some (stW s)) x8 (some (.loc q)) (some twoB.W) (some (.loc m)) x12 x13 x14 x15) S = .nx (E ns k n b (some (stW s)) x8 (some (.loc q')) (some twoB.W) (some (.loc m)) x12 x13 x14 x15) S' ∧ Bg n c S' ∧ q' ≠ n ∧ S'[q']? = some (.lst vs) ∧ vs.length ≤ 28 ∧ ∀ w ∈ vs, Th w := by
  obtain ⟨us, S1, z1, z2, nI, b1, hq1⟩ := frz_watch hW
  have a0 := st_at0 s
  have a1 := st_at1 s
  have l2 : 2 ≤ limit := by unfold limit; omega
  have l8 : 8 ≤ limit := by unfold limit; omega
  have lw : ts.length + 8 ≤ limit := by unfold limit; omega
  have dq : deref S1 (.loc q) = .lst ts := by simp only [deref, hq1]
  have pw : Pl (.ins 2 us) := .inr ⟨2, us, rfl, .inr rfl, nI⟩
  have hql := (List.getElem?_eq_some_iff.mp hW.hq).1
  refine ⟨S1.length, S1 ++ [.lst (ts ++ [b.W, .tup [b.W, tpI s.2], .tup [tpI s.1, b.W], .tup [stW s, stW s], .str "0\n0", twoB.W, .ins 2 us, .tup [.ins 2 us, .ins 2 us]])], _, ?_, b1.app _, (by have := b1.lt; omega), (by simp; rfl), ?_, ?_⟩
  · unfold E stW at *
    generalize tpI s.1 = T1 at *
    generalize tpI s.2 = T2 at *
    generalize b.W = B1 at *
    generalize twoB.W = B2 at *
    generalize W.ins 2 us = WI at *
    simp [b_law_1_13, a0, a1, l2, l8, lw, z1, z2, dq, hq1, newCellR]
  · rw [List.length_append]; show _ + 8 ≤ _; omega
  · intro w hw
    rcases List.mem_append.mp hw with hw | hw
    · exact hT w hw
    · simp only [List.mem_cons, List.not_mem_nil, or_false] at hw
      rcases hw with rfl | rfl | rfl | rfl | rfl | rfl | rfl | rfl
      · exact .inl (pl_bk b)
      · exact th_two (pl_bk b) (pl_ti _)
      · exact th_two (pl_ti _) (pl_bk b)
      · exact th_two (.inl (plain_up 12 _ 30 (by omega) (pl_stW s))) (.inl (plain_up 12 _ 30 (by omega) (pl_stW s)))
      · exact .inl (.inl (by kernel_rfl))
      · exact .inl (pl_bk twoB)
      · exact .inl pw
      · exact th_two pw pw
end
section
variable (ns : List Int) (k : Int) {n c q : Nat} {b : Bk} {S : Sto}
theorem t3 (hb : b.Ok) {w : W} (hw : Th w) (x7 x8 x9 x10 x11 x14 x15 : Option W) : b_law_3 (E ns k n b x7 x8 x9 x10 x11 (some w) (some (.bl (isSt b w))) x14 x15) S = .nx (E ns k n b x7 x8 x9 x10 x11 (some w) (some (.bl (isSt b w))) x14 x15) S := by
  have e := a_due5 hb hw
  have n1 := hw.nl
  have d1 := hw.dF
  have c1 : ∀ r : Bool, cmpEq (.bl r) (.bl r) = some true := fun r => by cases r <;> rfl
  have nt : (tpI b.wh).nl = true := nl_ints _
  have dt : ∀ S, derefF S (tpI b.wh) = tpI b.wh := fun S => rfl
  generalize isSt b w = r at *
  have c2 := c1 r
  unfold E
  generalize tpI b.wh = WW at *
  generalize b.W = B1 at *
  simp [b_law_3, b_law_3t0, b_law_3_0, e, n1, d1, c2, nt, dt]
theorem t2 (hb : b.Ok) {w : W} (hw : Th w) (x7 x8 x9 x10 x11 x13 x14 x15 : Option W) : b_law_2 (E ns k n b x7 x8 x9 x10 x11 (some w) x13 x14 x15) S = .nx (E ns k n b x7 x8 x9 x10 x11 (some w) (some (.bl (isSt b w))) x14 x15) S := by
  have e := a_state5 hb hw
  have n1 := hw.nl
  have d1 := hw.dF
  have nb : b.W.nl = true := nlB' b
  have dB : ∀ S, derefF S b.W = b.W := fun S => rfl
  have l2 : 2 ≤ limit := by unfold limit; omega
  have it : jE (mTup (mCons (mCallP f_is_state (mCons (mVar 5) (mCons (mVar 12) (mNil)))) (mCons (mCallP f_is_state (mCons (mVar 5) (mCons (mVar 12) (mNil)))) (mNil)))) (E ns k n b x7 x8 x9 x10 x11 (some w) x13 x14 x15) S = .ok [.bl (isSt b w), .bl (isSt b w)] S := by
    unfold E
    generalize b.W = B1 at *
    simp [e, n1, d1, nb, dB, l2]
  have h3 : ∀ x13, forM (.nm 13) b_law_3 [.bl (isSt b w), .bl (isSt b w)] (E ns k n b x7 x8 x9 x10 x11 (some w) x13 x14 x15) S = .nx (E ns k n b x7 x8 x9 x10 x11 (some w) (some (.bl (isSt b w))) x14 x15) S := fun x13 => by
    rw [for_step (by rfl) (t3 ns k hb hw x7 x8 x9 x10 x11 x14 x15), for_step (by rfl) (t3 ns k hb hw x7 x8 x9 x10 x11 x14 x15)]
    rfl
  have hf : b_law_2_0 (E ns k n b x7 x8 x9 x10 x11 (some w) x13 x14 x15) S = .nx (E ns k n b x7 x8 x9 x10 x11 (some w) (some (.bl (isSt b w))) x14 x15) S := by
    unfold b_law_2_0
    rw [o_for, it, l_toS]
    exact h3 x13
  show sSeq b_law_2_0 sNext _ _ = _
  rw [seq_step hf]; rfl
theorem t14 (hb : b.Ok) {s : Sta} (hs : StOk b s) {vs : List W} (hq : S[q]? = some (.lst vs)) (hne : q ≠ n) (hl : vs.length ≤ 28) (hv : ∀ w ∈ vs, Th w) (hB : Bg n c S) (hc : c ≤ 300000000) (x8 x10 x11 x12 x13 x14 x15 : Option W) :
    ∃ (y12 y13 y14 y15 : Option W) (S' : Sto), b_law_1_14 (E ns k n b (some (stW s)) x8 (some (.loc q)) x10 x11 x12 x13 x14 x15) S = .nx (E ns k n b (some (stW s)) x8 (some (.loc q)) x10 x11 y12 y13 y14 y15) S' := by
  have hp : PD 10 2 (stW s) := pd_st (by omega) (by rw [hs.l1]; have := hb.w.l1; omega) (by rw [hs.l2]; have := hb.n; omega)
  have hql := (List.getElem?_eq_some_iff.mp hq).1
  obtain ⟨ys, S1, yl, hy, ec, k1, b1⟩ := comp_draw (w := fun w : W => w) (P := fun w => Th w) (step := lcStep (E ns k n b (some (stW s)) x8 (some (.loc q)) x10 x11 x12 x13 x14 x15) [14] (.nm 14) bYes (mCall f__law_spoilt (mCons (mVar 2) (mCons (mVar 7) (mNil))))) (n := n) (L := S.length) (k := 33) (rangeW 0 6) [] S c hB (Nat.le_refl _) (fun x hx S2 c' hb2 hl2 hc2 => by
    have h6 : (rangeW 0 6).length = 6 := rfl
    rw [h6] at hc2
    obtain ⟨w2, S3, e2, p2, k2, b2⟩ := d_sp (L := 10) (d := 2) (by omega) (by omega) (by omega) hp hb2 (by omega)
    refine ⟨w2, S3, th_pd p2 (by omega), ?_, k2.mono hl2, b2⟩
    unfold E
    generalize stW s = ST at *
    simp [lcStep, e2])
  rw [List.map_id', List.nil_append] at ec
  have h6 : (rangeW 0 6).length = 6 := rfl
  rw [h6] at yl
  have hq1 : S1[q]? = some (.lst vs) := (k1.2 q hql hne).trans hq
  have ad : binop .Add (.lst vs) (.lst ys) = some (.lst (vs ++ ys)) := by rw [bo_addL, if_pos (by unfold limit; omega)]
  have l6 : 6 ≤ limit := by unfold limit; omega
  have it : jE (mBin .Add (mVar 9) (mLc false [14] (.nm 14) (jRange1 (mCon (.int 6))) (bYes) (mCall f__law_spoilt (mCons (mVar 2) (mCons (mVar 7) (mNil)))))) (E ns k n b (some (stW s)) x8 (some (.loc q)) x10 x11 x12 x13 x14 x15) S = .ok (vs ++ ys) S1 := by
    have dq : deref S1 (.loc q) = .lst vs := by simp only [deref, hq1]
    unfold E at ec ⊢
    generalize stW s = ST at *
    simp [ec, h6, l6, dq, hq1, ad]
  obtain ⟨r, S2, e2, hr, _⟩ := for_nxe (tg := .nm 12) (body := b_law_2) (fx := [some (scr ns), some (.int k), some (.loc n), some (tpI b.wh), some (.tup (b.ru.map Rul.W)), some b.W, some (.int b.ru.length), some (stW s), x8, some (.loc q), x10, x11]) (m := 4) (vs ++ ys) (fun i S => True) (fun i x hx r S' hr _ => by
    have hx2 : x ∈ vs ++ ys := List.mem_of_getElem? hx
    have hT : Th x := by
      rcases List.mem_append.mp hx2 with h | h
      · exact hv x h
      · exact hy x h
    match r, hr with
    | [y12, y13, y14, y15], _ =>
      refine ⟨_, rfl, ?_⟩
      have := t2 (S := S') ns k (n := n) hb hT (some (stW s)) x8 (some (.loc q)) x10 x11 y13 y14 y15
      have e : b_law_2 [some (scr ns), some (.int k), some (.loc n), some (tpI b.wh), some (.tup (b.ru.map Rul.W)), some b.W, some (.int b.ru.length), some (stW s), x8, some (.loc q), x10, x11, some x, y13, y14, y15] S' = _ := this
      show NxE _ _ _ (b_law_2 [some (scr ns), some (.int k), some (.loc n), some (tpI b.wh), some (.tup (b.ru.map Rul.W)), some b.W, some (.int b.ru.length), some (stW s), x8, some (.loc q), x10, x11, some x, y13, y14, y15] S')
      rw [e]
      exact nxe (r := [some x, _, y14, y15]) rfl rfl trivial) [x12, x13, x14, x15] S1 rfl trivial
  match r, hr with
  | [y12, y13, y14, y15], _ =>
    refine ⟨y12, y13, y14, y15, S2, ?_⟩
    unfold b_law_1_14
    rw [o_for, it, l_toS]
    exact e2
theorem t15 (hb : b.Ok) {s : Sta} (hs : StOk b s) (x8 x9 x10 x11 x12 x13 x14 x15 : Option W) : b_law_1_15 (E ns k n b (some (stW s)) x8 x9 x10 x11 x12 x13 x14 x15) S = .nx (E ns k n b (some (stW s)) x8 x9 x10 x11 x12 x13 x14 x15) S := by
  have e := a_state5 hb (th_pl (pl_stW s) (by omega))
  rw [isSt_yes hs] at e
  have nb : b.W.nl = true := nlB' b
  have dB : ∀ S, derefF S b.W = b.W := fun S => rfl
  have nS : (stW s).nl = true := by simp
  have dS : ∀ S, derefF S (stW s) = stW s := fun S => rfl
  have isn : cmpop .IsNot (.bl true) (.bl true) = some false := rfl
  unfold E
  generalize b.W = B1 at *
  generalize stW s = ST at *
  simp [b_law_1_15, e, nb, dB, nS, dS, isn]
end
theorem body_ok (ns : List Int) (k : Nat) (hk : k < 12) (a2 a3 a4 a5 a6 a7 a8 a9 a10 a11 a12 a13 a14 a15 : Option W) (S : Sto) :
    NxE [some (scr ns)] 15 (fun _ => True) (b_law_1 [some (scr ns), some (.int k), a2, a3, a4, a5, a6, a7, a8, a9, a10, a11, a12, a13, a14, a15] S) := by
  obtain ⟨S1, e1, l1, k1, b1⟩ := d_bag (S := S) ns (show k < 100 by omega)
  obtain ⟨b, S2, hb, e2, k2, b2⟩ := d_drawn b1 (by omega)
  have hn := hb.n
  have f0 : b_law_1_0 [some (scr ns), some (.int k), a2, a3, a4, a5, a6, a7, a8, a9, a10, a11, a12, a13, a14, a15] S = .nx [some (scr ns), some (.int k), some (.loc S.length), a3, a4, a5, a6, a7, a8, a9, a10, a11, a12, a13, a14, a15] S1 := by simp [b_law_1_0, e1]
  have f1 : b_law_1_1 [some (scr ns), some (.int k), some (.loc S.length), a3, a4, a5, a6, a7, a8, a9, a10, a11, a12, a13, a14, a15] S1 = .nx [some (scr ns), some (.int k), some (.loc S.length), some (tpI b.wh), some (.tup (b.ru.map Rul.W)), a5, a6, a7, a8, a9, a10, a11, a12, a13, a14, a15] S2 := by simp [b_law_1_1, e2]
  have f2 : b_law_1_2 [some (scr ns), some (.int k), some (.loc S.length), some (tpI b.wh), some (.tup (b.ru.map Rul.W)), a5, a6, a7, a8, a9, a10, a11, a12, a13, a14, a15] S2 = .nx (E ns k S.length b a7 a8 a9 a10 a11 a12 a13 a14 a15) S2 := by
    have eb : ∀ S, makeR 0 f_Book___init__ [tpI b.wh, .tup (b.ru.map Rul.W)] S = .ok b.W S := e_Book hb
    have hlr : DL.prim .len [.tup (b.ru.map Rul.W)] = some (.int b.ru.length) := by simp
    have nr : nlL (b.ru.map Rul.W) = true := nl_map nl_rul _
    unfold E
    generalize b.W = B1 at *
    simp [b_law_1_2, eb, hlr, nr, setAll]
  obtain ⟨s, S3, hs, e3, k3, b3⟩ := d_state hb b2 (by omega)
  have f3 : b_law_1_3 (E ns k S.length b a7 a8 a9 a10 a11 a12 a13 a14 a15) S2 = .nx (E ns k S.length b (some (stW s)) a8 a9 a10 a11 a12 a13 a14 a15) S3 := by
    unfold E
    generalize stW s = ST at *
    simp [b_law_1_3, e3]
  have hp : PD 10 2 (stW s) := pd_st (by omega) (by rw [hs.l1]; have := hb.w.l1; omega) (by rw [hs.l2]; have := hb.n; omega)
  obtain ⟨w1, S4, e4, p4, k4, b4⟩ := d_sp (L := 10) (d := 2) (by omega) (by omega) (by omega) hp b3 (by omega)
  have f4 : b_law_1_4 (E ns k S.length b (some (stW s)) a8 a9 a10 a11 a12 a13 a14 a15) S3 = .nx (E ns k S.length b (some (stW s)) (some w1) a9 a10 a11 a12 a13 a14 a15) S4 := by
    unfold E
    generalize stW s = ST at *
    simp [b_law_1_4, e4]
  obtain ⟨q5, S5, f5, h5⟩ := t5 ns k hb hs p4 b4 (by omega) a9 a10 a11 a12 a13 a14 a15
  obtain ⟨ws, hq5, wl, hw⟩ := h5.ex
  obtain ⟨us, f6, ul, hu⟩ := t6 ns k (n := S.length) hb hs hq5 wl (some w1) a10 a11 a12 a13 a14 a15
  have b6 := h5.bg.app [Cell.lst (ws ++ us)]
  have n6 : S5.length ≠ S.length := by have := h5.bg.lt; omega
  have hq6 : (S5 ++ [Cell.lst (ws ++ us)])[S5.length]? = some (.lst (ws ++ us)) := by simp
  obtain ⟨w7, S7, f7, h7, hq7, b7⟩ := t7 ns k hb hq6 n6 (by rw [List.length_append]; omega) b6 (by omega) (some (stW s)) (some w1) a10 a11 a12 a13 a14 a15
  obtain ⟨w8, f8, h8⟩ := t8 ns k (n := S.length) hb hq7 (by rw [List.length_append, List.length_append]; show _ + 1 ≤ _; omega) (some (stW s)) (some w1) a10 a11 a12 a13 a14 a15
  have b8 := b7.set n6 (.lst (ws ++ us ++ [w7] ++ [w8]))
  have hq8 : (S7.set S5.length (.lst (ws ++ us ++ [w7] ++ [w8])))[S5.length]? = some (.lst (ws ++ us ++ [w7] ++ [w8])) := List.getElem?_set_self (List.getElem?_eq_some_iff.mp hq7).1
  have hl8 : (ws ++ us ++ [w7] ++ [w8]).length ≤ 15 := by simp only [List.length_append, List.length_singleton]; omega
  have hT8 : ∀ w ∈ ws ++ us ++ [w7] ++ [w8], Th w := fun w h => by
    rcases List.mem_append.mp h with h | h
    · rcases List.mem_append.mp h with h | h
      · rcases List.mem_append.mp h with h | h
        · exact hw w h
        · exact hu w h
      · rw [List.mem_singleton.mp h]; exact h7
    · rw [List.mem_singleton.mp h]; exact h8
  generalize hTS : ws ++ us ++ [w7] ++ [w8] = TS at *
  generalize hS8 : S7.set S5.length (.lst TS) = S8 at *
  have f9 := t9 ns k (n := S.length) (b := b) (S := S8) (some (stW s)) (some w1) (some (.loc S5.length)) a10 a11 a12 a13 a14 a15
  have f10 := t10 ns k (n := S.length) (b := b) (S := S8) (some (stW s)) (some w1) (some (.loc S5.length)) a11 a12 a13 a14 a15
  have hl5 := (List.getElem?_eq_some_iff.mp hq8).1
  have hb8 := b8.lt
  have W10 : Wt S.length _ S5.length S8.length 0 TS (S8 ++ [wCell twoB 0 ([1], zeros twoB.ru.length) [] (zeros twoB.ru.length) (S8.length + 1), .lst []]) :=
    ⟨b8.app _, by rw [List.getElem?_append_left hl5]; exact hq8, n6, 0, ([1], zeros twoB.ru.length), zeros twoB.ru.length, S8.length + 1, [], by simp, by simp, by omega, by omega, by omega, by omega, by omega, two_st, rfl, Nat.le_refl _, rfl⟩
  obtain ⟨S11, f11, W11⟩ := t11 ns k (b := b) W10 (by omega) (some (stW s)) (some w1) (some (.loc S5.length)) (some twoB.W) a12 a13 a14 a15
  obtain ⟨S12, f12, W12⟩ := t12 ns k (b := b) W11 (by omega) (some (stW s)) (some w1) (some (.loc S5.length)) (some twoB.W) a12 a13 a14 a15
  obtain ⟨q13, S13, vs, f13, b13, n13, hq13, hl13, hT13⟩ := t13 ns k (b := b) (s := s) W12 (by omega) hT8 (some w1) a12 a13 a14 a15
  obtain ⟨y12, y13, y14, y15, S14, f14⟩ := t14 ns k hb hs hq13 n13 hl13 hT13 b13 (by omega) (some w1) (some twoB.W) (some (.loc S8.length)) a12 a13 a14 a15
  have f15 := t15 ns k (n := S.length) (S := S14) hb hs (some w1) (some (.loc q13)) (some twoB.W) (some (.loc S8.length)) y12 y13 y14 y15
  show NxE _ _ _ ((sSeq b_law_1_0 (sSeq b_law_1_1 (sSeq b_law_1_2 (sSeq b_law_1_3 (sSeq b_law_1_4 (sSeq b_law_1_5 (sSeq b_law_1_6 (sSeq b_law_1_7 (sSeq b_law_1_8 (sSeq b_law_1_9 (sSeq b_law_1_10 (sSeq b_law_1_11 (sSeq b_law_1_12 (sSeq b_law_1_13 (sSeq b_law_1_14 (sSeq b_law_1_15 sNext)))))))))))))))) _ _)
  rw [seq_step f0, seq_step f1, seq_step f2, seq_step f3, seq_step f4, seq_step f5, seq_step f6, seq_step f7, seq_step f8, seq_step f9, seq_step f10, seq_step f11, seq_step f12, seq_step f13, seq_step f14, seq_step f15]
  exact nxe (r := [_, _, _, _, _, _, _, _, _, _, _, _, _, _, _]) (P := fun _ => True) rfl rfl trivial
theorem plain : Plain := by
  intro ns hl
  exact main_nxe (lo := 5) (hi := 12) (N := 15) (by omega) (by omega) fun k hk r S hr => by
    match r, hr with
    | [a1, a2, a3, a4, a5, a6, a7, a8, a9, a10, a11, a12, a13, a14, a15], _ => exact body_ok ns k (by omega) a2 a3 a4 a5 a6 a7 a8 a9 a10 a11 a12 a13 a14 a15 S
end K05
theorem PySem.Challenge.cw_hushrules_k05_states_known_holds : PySem.Challenge.rw_hushrules_k05_states_known.Holds :=
  PySem.Challenge.held_hushrules_k05_states_known K05.plain
