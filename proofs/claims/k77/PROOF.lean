import PyProof.Rows.All
import Wide.All
import OpenK.AllK
import Wide.FinOn
import HandS.Base
import HandS.Call
import HandS.List
import HandS.Comp
import HandS.Words
import HandS.Dict
import KE.KeyNested
import KE.KDictKeyed
import HandS.Lambda
import HandS.TupSets
import KE.SortData
import PyProof.SetRoads
import HandS.Walk
import HandS.TupAny
import HandS.TupMul
import HandS.IsInst
import HandS.ExcOwn
import HandS.CallSlots
import HandS.Deep
import HandS.Wide
import HandS.Style
import HandS.Zip
import KE.GoesZip
import KE.GoesEnumKw
import KE.GoesMore
import KE.GoesEnum
import HandS.Flow
import HandS.TryOnly
import HandS.Defaults
import HandS.MakeKw
import HandS.WordsExc
import PyProof.Rows.Nodes
import HandS.Iter
import HandS.Ends
import HandS.Head0
import HandS.Head1
import HandS.Head2
import HandS.HeadEnd
import HandS.HeadHook1
import HandS.HeadHook2
import PyProof.FactsLen
import HandS.Conv
import HandS.SortInts
import HandS.Strs
import HandS.SortOrd
import PyProof.Rows.SortShell
import HandS.More
import KE.DatumOrd
import HandS.SortKw
import HandS.SortRule
import HandS.SetFor
import PyProof.Rows.ReprOcc
import HandS.NamedTupGet
import KE.KDictCopyH
import HandS.SetBool
import HandS.DictComp
import HandS.Exc
import HandS.TupLen
import HandS.TupLe
import KE.KTupSum
import HandS.ExcIs
import HandS.ExcField
import HandS.TryMany
import HandS.HotCalls
import HandS.EndTab
import HandS.EndOwn
import HandS.ExcInit
import HandS.New
import HandS.RaiseMore
import PyProof.Rows.IntBool
import HandS.FStr
import HandS.Text
import KE.KDflt
import HandS.MakeKwOnly
import KE.KSetDisp
import HandS.OwnEq
import PyProof.InstNe
import KE.KCallOwn
import PyProof.Rows.Range3
import HandS.HeadHook3
import PyProof.StrBlock2
import PyProof.StrBlockL
import PyProof.Rows.StrLawsPart
import PySem.Challenge.RW_hushrules_k77_states_nearly
set_option Elab.async false
set_option linter.all false
set_option maxRecDepth 100000
set_option maxHeartbeats 4000000
/-! Ya: the way of a search in a set's table of any size: every slot is met, each once in a round. -/
namespace NS
open PySem PySem.Spec L2
/-! ### 1 + 5 + .. + 5^(n-1) -/
/-! ### i -> 5 i + 1 in a table of 2^k places -/
/-- the masks that come -/
def Mask (m : Nat) : Prop := ∃ k, m + 1 = 2 ^ k ∧ 7 ≤ m ∧ m ≤ 32767
theorem way_le {m : Nat} {h : Int} {k : Nat} : way m h k ≤ m := by
  have hi : SetTable.bits h % (m + 1) ≤ m := Nat.le_of_lt_succ (Nat.mod_lt _ (Nat.succ_pos _))
  have r := runEnd_bd hi
  have q := nth_in (m := m) k (runAt m (SetTable.bits h % (m + 1)) (SetTable.bits h)) (by
    show SetTable.bits h % (m + 1) + (SetTable.runEnd m (SetTable.bits h % (m + 1)) - SetTable.bits h % (m + 1)) ≤ m
    omega)
  show (nth m (runAt m (SetTable.bits h % (m + 1)) (SetTable.bits h)) k).j ≤ m
  omega
end NS
set_option Elab.async false
set_option linter.all false
set_option maxRecDepth 100000
set_option maxHeartbeats 4000000
/-! Yb: a set's table of any size: one put in, all laid anew. -/
namespace NS
open PySem PySem.Spec L2
/-- a table whose places all are found again from their hashes -/
structure Tab (t : SetTable) (hs : List Int) : Prop where
  ris : Ris t.place.toList
  dm : t.dummies = #[]
  sz : t.place.size = hs.length
  mok : Mask t.mask
  bd : ∀ x ∈ t.place.toList, x ≤ t.mask
  reach : ∀ (i : Nat) (h : Int) (j : Nat), hs[i]? = some h → t.place.toList[i]? = some j → ∃ k, way t.mask h k = j ∧ ∀ k', k' < k → way t.mask h k' ∈ t.place.toList
theorem Tab.put {t : SetTable} {hs : List Int} (T : Tab t hs) {h : Int} {K : Nat} (hK : way t.mask h K ∉ t.place.toList) (hb : ∀ k, k < K → way t.mask h k ∈ t.place.toList) :
    (t.put (way t.mask h K)).2 = SetTable.below t.place (way t.mask h K) ∧ SetTable.below t.place (way t.mask h K) ≤ hs.length ∧
    Tab (t.put (way t.mask h K)).1 (hs.take (SetTable.below t.place (way t.mask h K)) ++ h :: hs.drop (SetTable.below t.place (way t.mask h K))) ∧
    (t.put (way t.mask h K)).1.mask = t.mask ∧ (t.put (way t.mask h K)).1.led = t.led ∧ (t.put (way t.mask h K)).1.fill = hs.length + 1 := by
  have hjm : way t.mask h K ≤ t.mask := way_le
  obtain ⟨j, hj⟩ : ∃ j, j = way t.mask h K := ⟨_, rfl⟩
  rw [← hj] at hK hjm ⊢
  obtain ⟨c1, _, _⟩ := below_cut T.ris j
  have hsz : t.place.toList.length = hs.length := by rw [Array.length_toList]; exact T.sz
  have hpl : SetTable.below t.place j ≤ t.place.toList.length := by rw [Array.length_toList]; exact c1
  have hph : SetTable.below t.place j ≤ hs.length := by rw [← hsz]; exact hpl
  have hpp := put_place t j
  have hsize : (t.put j).1.place.size = hs.length + 1 := by rw [← Array.length_toList, hpp, len_ins _ hpl, hsz]
  have up : ∀ {x : Nat}, x ∈ t.place.toList → x ∈ (t.put j).1.place.toList := fun hx => by rw [hpp]; exact mem_ins.2 (.inr hx)
  refine ⟨rfl, hph, ⟨ris_insert T.ris fun e => hK (List.mem_of_getElem? (by rw [Array.getElem?_toList]; exact e)), put_dm T.dm j, by rw [len_ins _ hph]; exact hsize, T.mok, fun x hx => ?_, fun i h' j' h1 h2 => ?_⟩, rfl, rfl, ?_⟩
  · rw [hpp] at hx
    rcases mem_ins.1 hx with z | z
    · rw [z]; exact hjm
    · exact T.bd x z
  · rw [tins_get hs hph] at h1
    rw [hpp, tins_get _ hpl] at h2
    show ∃ k, way t.mask h' k = j' ∧ ∀ k', k' < k → way t.mask h' k' ∈ (t.put j).1.place.toList
    have old : ∀ i, hs[i]? = some h' → t.place.toList[i]? = some j' → ∃ k, way t.mask h' k = j' ∧ ∀ k', k' < k → way t.mask h' k' ∈ (t.put j).1.place.toList := fun i h1 h2 => by
      obtain ⟨k, e, z⟩ := T.reach i h' j' h1 h2
      exact ⟨k, e, fun k' hk' => up (z k' hk')⟩
    by_cases c : i < SetTable.below t.place j
    · rw [if_pos c] at h1 h2
      exact old i h1 h2
    · rw [if_neg c] at h1 h2
      by_cases d : i = SetTable.below t.place j
      · rw [if_pos d] at h1 h2
        cases h1; cases h2
        exact ⟨K, hj.symm, fun k' hk' => up (hb k' hk')⟩
      · rw [if_neg d] at h1 h2
        exact old _ h1 h2
  · show (t.put j).1.place.size + (t.put j).1.dummies.size = hs.length + 1
    rw [hsize, put_dm T.dm j] <;> rfl
/-! ### all laid anew -/
/-! ### the size a table grows to -/
end NS
set_option Elab.async false
set_option linter.all false
set_option maxRecDepth 100000
set_option maxHeartbeats 4000000
/-! Yc: sets of tuples of plain data, nested as they may be: searching, adding. -/
namespace NS
open PySem PySem.Spec PyProof.Rows L2
abbrev NkIs (h : Heap) (k : NestedKey) (a : Addr) : Prop := NestedIs h k (.ref a) ∧ k.depth ≤ 8
section
variable {P : Program} {w : World} {A : Around} {E : Value → Shared → Prop} {s : Shared}
/-! ### small questions asked of keys -/
def NotCls (P : Program) (w : World) (n : Nat) (s : Shared) (v : Value) : Prop := ∀ (A : Around) (E : Value → Shared → Prop) (Q : Bool → Shared → Prop), Q false s → wpAny (model P w) A (ofAClassStatement n v) Q E s
theorem NotCls.tuple {n : Nat} {s : Shared} {a : Addr} {o : Obj} {vs : Array Value} {m : Nat} (ho : s.heap.get? a = some o) (hc : o.cls = .type "tuple") (hd : o.data = .seq vs m) (hq : ∀ v ∈ vs.toList, NotCls P w n s v) : NotCls P w (n + 1) s (.ref a) := fun A E Q h => by
  have hT : s.TypeIs (.ref a) "tuple" := ⟨o, ho, hc⟩
  unfold ofAClassStatement
  refine wpAny_bind (wpAny_typeOf hT ?_)
  dsimp only
  have e : (("tuple" : String) == "tuple") = true := by decide
  simp only [e, if_true, Bool.not_true, Bool.false_eq_true, if_false]
  try refine wpAny_bind (wpAny_pure ?_)
  try simp only [Bool.not_true, Bool.false_eq_true, if_false]
  show wpAny _ _ (seqItems? (.ref a) >>= _) _ _ s
  refine wpAny_bind (wpAny_seqItems ho hd ?_)
  dsimp only
  refine wpAny_bind ?_
  show wpAny _ _ (forIn vs _ _) _ _ s
  rw [← Array.forIn_toList]
  refine wpAny_forIn_list _ (fun rest r s' => r.1 = none ∧ s' = s ∧ ∀ v ∈ rest, NotCls P w n s v) _ ?_ ?_ _ _ ⟨rfl, rfl, hq⟩
  · rintro v rest r s' ⟨hr, rfl, hall⟩
    refine wpAny_bind (hall v List.mem_cons_self _ _ _ ?_)
    simp only [Bool.false_eq_true, if_false]
    exact wpAny_pure ⟨rfl, rfl, fun u hu' => hall u (List.mem_cons_of_mem _ hu')⟩
  · rintro ⟨r1, r2⟩ s' ⟨hr, rfl, _⟩
    simp only at hr
    subst hr
    exact wpAny_pure h
def ByVal (P : Program) (w : World) (n : Nat) (s : Shared) (v : Value) : Prop := ∀ (A : Around) (E : Value → Shared → Prop) (Q : Bool → Shared → Prop), (∀ b, Q b s) → wpAny (model P w) A (hashByValue n v) Q E s
theorem ByVal.tuple {n : Nat} {s : Shared} {a : Addr} {o : Obj} {vs : Array Value} {m : Nat} (ho : s.heap.get? a = some o) (hc : o.cls = .type "tuple") (hd : o.data = .seq vs m) (hq : ∀ v ∈ vs.toList, ByVal P w n s v) : ByVal P w (n + 1) s (.ref a) := fun A E Q h => by
  have hT : s.TypeIs (.ref a) "tuple" := ⟨o, ho, hc⟩
  unfold hashByValue
  refine wpAny_bind (wpAny_specialOf hT F.slot_tuple_hash.lookup ?_)
  show wpAny _ _ (seqItems? (.ref a) >>= _) _ _ s
  refine wpAny_bind (wpAny_seqItems ho hd ?_)
  refine wpAny_bind ?_
  show wpAny _ _ (forIn vs _ _) _ _ s
  rw [← Array.forIn_toList]
  refine wpAny_forIn_list _ (fun rest r s' => s' = s ∧ ∀ v ∈ rest, ByVal P w n s v) _ ?_ ?_ _ _ ⟨rfl, hq⟩
  · rintro v rest r s' ⟨rfl, hall⟩
    refine wpAny_bind (hall v List.mem_cons_self _ _ _ fun b => ?_)
    cases b
    · simp only [Bool.not_false, if_true]
      exact wpAny_pure (wpAny_pure (h _))
    · simp only [Bool.not_true, Bool.false_eq_true, if_false]
      exact wpAny_pure ⟨rfl, fun u hu' => hall u (List.mem_cons_of_mem _ hu')⟩
  · rintro ⟨r1, r2⟩ s' ⟨rfl, _⟩
    cases r1 with
    | none => exact wpAny_pure (h _)
    | some b => exact wpAny_pure (h _)
/-! ### the set -/
abbrev NL := List (Addr × NestedKey)
def rowsK (w : World) (L : NL) : List (Int × Value) := L.map fun p => (p.2.hash w, Value.ref p.1)
structure SetN (w : World) (h : Heap) (a : Addr) (L : NL) (es : Array (Int × Value)) (ep : Nat) (t : SetTable) : Prop where
  ob : ∃ o, h.get? a = some o ∧ o.ExactSet ∧ o.data = .set es ep t
  rows : es.toList = rowsK w L
  tab : Tab t (L.map fun p => p.2.hash w)
  nd : (L.map (·.2)).Nodup
  led : w.params.followText "set-order" = true ∨ t.led = true
  room : L.length * 5 < t.mask * 3
  few : L.length ≤ 8000
abbrev Keys (h : Heap) (L : NL) : Prop := ∀ p ∈ L, NkIs h p.2 p.1
variable {a : Addr} {L : NL} {es : Array (Int × Value)} {ep : Nat} {t : SetTable}
theorem rowsK_len (L : NL) (es : Array (Int × Value)) (h : es.toList = rowsK w L) : es.size = L.length := by
  have h := congrArg List.length h
  unfold rowsK at h
  rwa [Array.length_toList, List.length_map] at h
theorem SetN.size {h : Heap} (R : SetN w h a L es ep t) : es.size = L.length := rowsK_len L es R.rows
theorem SetN.entry {h : Heap} (R : SetN w h a L es ep t) {i : Nat} {p : Addr × NestedKey} (e : L[i]? = some p) : es[i]? = some (p.2.hash w, Value.ref p.1) := by
  rw [← Array.getElem?_toList, R.rows]
  unfold rowsK
  rw [List.getElem?_map, e] <;> rfl
end
end NS
set_option Elab.async false
set_option linter.all false
set_option maxRecDepth 100000
set_option maxHeartbeats 4000000
/-! Yd: sets of nested tuples: adding, in, gathering the members. -/
namespace NS
open PySem PySem.Spec PyProof.Rows L2
end NS
set_option Elab.async false
set_option linter.all false
set_option maxRecDepth 100000
set_option maxHeartbeats 4000000
/-! Ye: sets of nested tuples: in, set.add, set(), the members gathered, sorted. -/
namespace NS
open PySem PySem.Spec PyProof.Rows L2
/-! ### the members gathered, of a set of any size -/
/-! ### the set as a thing of the heap -/
/-- the set at a has the keys us, each of which stands where us says -/
def SetU (w : World) (h : Heap) (a : Addr) (us : NL) : Prop := ∃ (L : NL) (es : Array (Int × Value)) (ep : Nat) (t : SetTable), L.Perm us ∧ SetN w h a L es ep t
def SetO (w : World) (a : Addr) (us : NL) : HO := .ext fun h => SetU w h a us
theorem SetN.at {w : World} {h h' : Heap} {a : Addr} {L : NL} {es : Array (Int × Value)} {ep : Nat} {t : SetTable} (R : SetN w h a L es ep t) (k : ∀ o, h.get? a = some o → h'.get? a = some o) : SetN w h' a L es ep t := by
  obtain ⟨o, ho, r⟩ := R.ob
  exact ⟨⟨o, k o ho, r⟩, R.rows, R.tab, R.nd, R.led, R.room, R.few⟩
end NS
set_option Elab.async false
set_option linter.all false
set_option maxRecDepth 100000
set_option maxHeartbeats 4000000
/-! Wa: values as data (W), mutable cells, how they stand in the abstract heap. -/
namespace DL
open PySem PySem.Spec L2
/-- a value as data: tuples, lists that nobody changes any more, instances that nobody changes any more; loc: a thing that may be changed, by its number -/
inductive W where
  | non | bl (b : Bool) | int (i : Int) | str (s : Str)
  | tup (ws : List W) | lst (ws : List W) | ins (c : Nat) (fs : List (Nat × W)) | loc (n : Nat)
  | tpx (ws : List W) | opq (k : Nat) (fs : List (Nat × W)) | lam | fn (i : Nat)
  deriving Inhabited
inductive Cell where
  | lst (ws : List W) | obj (c : Nat) (fs : List (Nat × W)) | dic (kvs : List (W × W)) | set (ws : List W) | frz (w : W) | dead | dlk (kvs : List (W × W)) | tbl (i : Nat) | sdc (kvs : List (Key × W))
  deriving Inhabited
abbrev Env := List (Option W)
abbrev Sto := List Cell
/-- names of fields, addresses of classes -/
structure Tab where
  fld : List Str
  cls : List Addr
  prg : Program
  wld : World
  /-- a thing that is only handed on: by its number, where it stands, its dict -/
  opq : Nat → Addr → Option Addr → Prop
  /-- a lambda that is handed on: where it stands, the data's part of the heap when it was made -/
  lam : Option (Addr × Hp)
  /-- the tables of code objects, and the name that the code objects bear -/
  tbs : List (Addr × Str)
  /-- defs that are handed on as values -/
  fns : List Addr
  /-- classes whose instances may stand as data -/
  lv : Nat → Bool
def Tab.f (T : Tab) (i : Nat) : Str := T.fld.getD i Str.empty
def Tab.c (T : Tab) (i : Nat) : Addr := T.cls.getD i 0
theorem Tab.f_inj {T : Tab} (hn : T.fld.Nodup) {i j : Nat} (hi : i < T.fld.length) (hj : j < T.fld.length) (e : T.f i = T.f j) : i = j := by
  unfold Tab.f at e
  rw [List.getD_eq_getElem?_getD, List.getD_eq_getElem?_getD, List.getElem?_eq_getElem hi, List.getElem?_eq_getElem hj] at e
  exact (List.getElem_inj hn).mp e
/-- kept, but for locked dicts -/
def SameN (F F' : Hp) : Prop := ∀ b o, F b = some o → (∀ od φ, o ≠ .frz od (.ext φ)) → F' b = some o
theorem SameN.refl (F : Hp) : SameN F F := fun _ _ h _ => h
theorem SameN.trans {F F' F2 : Hp} (h : SameN F F') (h' : SameN F' F2) : SameN F F2 := fun b o e n => h' b o (h b o e n) n
theorem SameN.of {F F' : Hp} (h : Same F F') : SameN F F' := fun b o e _ => h b o e
mutual
inductive Rw (T : Tab) (K : PySem.W.Frag) (F : Hp) (al : List Addr) : V → W → Prop
  | non : Rw T K F al .non .non
  | bl (b : Bool) : Rw T K F al (.bl b) (.bl b)
  | int (i : Int) : Rw T K F al (.int i) (.int i)
  | str (x : Str) : Rw T K F al (.str x) (.str x)
  | tup {a : Addr} {xs : List V} {ws : List W} : SqT K F a xs → RwL T K F al xs ws → Rw T K F al (.ref a) (.tup ws)
  | lst {a : Addr} {xs : List V} {ws : List W} : SqL K F a xs → RwL T K F al xs ws → Rw T K F al (.ref a) (.lst ws)
  | ins {a dx : Addr} {c : Nat} {gs : List (Str × V)} {fs : List (Nat × W)} : F a = some (.ins (T.c c) dx gs) → T.lv c = true → RwF T K F al gs fs → Rw T K F al (.ref a) (.ins c fs)
  | loc {a : Addr} {n : Nat} : al[n]? = some a → Rw T K F al (.ref a) (.loc n)
  | tpx {a : Addr} {o : Obj} {xs : List V} {ws : List W} : F a = some (.frz o (.tup xs)) → o.dict = none → RwL T K F al xs ws → Rw T K F al (.ref a) (.tpx ws)
  | opq {a : Addr} {k : Nat} : T.opq k a none → Rw T K F al (.ref a) (.opq k [])
  | opx {a dx : Addr} {k : Nat} {gs : List (Str × V)} {fs : List (Nat × W)} : T.opq k a (some dx) → F dx = some (.xd gs) → RwF T K F al gs fs → Rw T K F al (.ref a) (.opq k fs)
  | lam {f : Addr} {F1 : Hp} : T.lam = some (f, F1) → SameN F1 F → Rw T K F al (.ref f) .lam
  | fn {a : Addr} {i : Nat} : T.fns[i]? = some a → Rw T K F al (.ref a) (.fn i)
inductive RwL (T : Tab) (K : PySem.W.Frag) (F : Hp) (al : List Addr) : List V → List W → Prop
  | nil : RwL T K F al [] []
  | cons {v : V} {vs : List V} {w : W} {ws : List W} : Rw T K F al v w → RwL T K F al vs ws → RwL T K F al (v :: vs) (w :: ws)
inductive RwF (T : Tab) (K : PySem.W.Frag) (F : Hp) (al : List Addr) : List (Str × V) → List (Nat × W) → Prop
  | nil : RwF T K F al [] []
  | cons {i : Nat} {v : V} {gs : List (Str × V)} {w : W} {fs : List (Nat × W)} : i < T.fld.length → Rw T K F al v w → RwF T K F al gs fs → RwF T K F al ((T.f i, v) :: gs) ((i, w) :: fs)
end
theorem sqT_mono {K : PySem.W.Frag} {F F' : Hp} (h : Same F F') {a : Addr} {xs : List V} (q : SqT K F a xs) : SqT K F' a xs := by
  rcases q with (q | ⟨o, q⟩) | q
  · exact .inl (.inl (h _ _ q))
  · exact .inl (.inr ⟨o, h _ _ q⟩)
  · exact .inr q
theorem rd_mono {F F' : Hp} (h : Same F F') {a : Addr} {u : HO} (q : Rd F a u) : Rd F' a u := by
  rcases q with q | ⟨o, q⟩
  · exact .inl (h _ _ q)
  · exact .inr ⟨o, h _ _ q⟩
theorem sqL_mono {K : PySem.W.Frag} {F F' : Hp} (h : Same F F') {a : Addr} {xs : List V} (q : SqL K F a xs) : SqL K F' a xs := by
  rcases q with q | q
  · exact .inl (rd_mono h q)
  · exact .inr q
/-- al' begins with al -/
def Pre (al al' : List Addr) : Prop := ∀ (n : Nat) (a : Addr), al[n]? = some a → al'[n]? = some a
theorem Pre.refl (al : List Addr) : Pre al al := fun _ _ h => h
theorem Pre.trans {a b c : List Addr} (h : Pre a b) (h' : Pre b c) : Pre a c := fun n x q => h' n x (h n x q)
theorem Pre.app (al be : List Addr) : Pre al (al ++ be) := fun n a q => by
  have := (List.getElem?_eq_some_iff.mp q).1
  rw [List.getElem?_append_left this]; exact q
section
variable {T : Tab} {K : PySem.W.Frag} {F F' : Hp} {al al' : List Addr}
mutual
theorem Rw.mono (h : Same F F') (p : Pre al al') : ∀ {v : V} {w : W}, Rw T K F al v w → Rw T K F' al' v w
  | _, _, .non => .non
  | _, _, .bl b => .bl b
  | _, _, .int i => .int i
  | _, _, .str x => .str x
  | _, _, .tup q r => .tup (sqT_mono h q) (RwL.mono h p r)
  | _, _, .lst q r => .lst (sqL_mono h q) (RwL.mono h p r)
  | _, _, .ins q l r => .ins (h _ _ q) l (RwF.mono h p r)
  | _, _, .loc q => .loc (p _ _ q)
  | _, _, .tpx q d r => .tpx (h _ _ q) d (RwL.mono h p r)
  | _, _, .opq q => .opq q
  | _, _, .opx q e r => .opx q (h _ _ e) (RwF.mono h p r)
  | _, _, .lam q e => .lam q (e.trans (.of h))
  | _, _, .fn q => .fn q
theorem RwL.mono (h : Same F F') (p : Pre al al') : ∀ {vs : List V} {ws : List W}, RwL T K F al vs ws → RwL T K F' al' vs ws
  | _, _, .nil => .nil
  | _, _, .cons a b => .cons (Rw.mono h p a) (RwL.mono h p b)
theorem RwF.mono (h : Same F F') (p : Pre al al') : ∀ {gs : List (Str × V)} {fs : List (Nat × W)}, RwF T K F al gs fs → RwF T K F' al' gs fs
  | _, _, .nil => .nil
  | _, _, .cons l a b => .cons l (Rw.mono h p a) (RwF.mono h p b)
end
theorem RwL.length : ∀ {vs : List V} {ws : List W}, RwL T K F al vs ws → vs.length = ws.length
  | _, _, .nil => rfl
  | _, _, .cons _ b => by rw [List.length_cons, List.length_cons, b.length]
theorem RwL.get : ∀ {vs : List V} {ws : List W} {i : Nat} {w : W}, RwL T K F al vs ws → ws[i]? = some w → ∃ v, vs[i]? = some v ∧ Rw T K F al v w
  | _, _, _, _, .nil, e => by simp at e
  | _, _, 0, _, .cons r _, e => by simp at e; subst e; exact ⟨_, rfl, r⟩
  | _, _, i + 1, _, .cons _ t, e => by
    obtain ⟨v, h1, h2⟩ := RwL.get (i := i) t (by simpa using e)
    exact ⟨v, by simpa using h1, h2⟩
theorem RwL.getV : ∀ {vs : List V} {ws : List W} {i : Nat} {v : V}, RwL T K F al vs ws → vs[i]? = some v → ∃ w, ws[i]? = some w ∧ Rw T K F al v w
  | _, _, _, _, .nil, e => by simp at e
  | _, _, 0, _, .cons r _, e => by simp at e; subst e; exact ⟨_, rfl, r⟩
  | _, _, i + 1, _, .cons _ t, e => by
    obtain ⟨v, h1, h2⟩ := RwL.getV (i := i) t (by simpa using e)
    exact ⟨v, by simpa using h1, h2⟩
theorem RwL.append : ∀ {vs us : List V} {ws xs : List W}, RwL T K F al vs ws → RwL T K F al us xs → RwL T K F al (vs ++ us) (ws ++ xs)
  | _, _, _, _, .nil, s => s
  | _, _, _, _, .cons r t, s => .cons r (RwL.append t s)
theorem RwL.take : ∀ {vs : List V} {ws : List W} (n : Nat), RwL T K F al vs ws → RwL T K F al (vs.take n) (ws.take n)
  | _, _, 0, _ => .nil
  | _, _, _ + 1, .nil => .nil
  | _, _, n + 1, .cons r t => .cons r (RwL.take n t)
theorem RwL.drop : ∀ {vs : List V} {ws : List W} (n : Nat), RwL T K F al vs ws → RwL T K F al (vs.drop n) (ws.drop n)
  | _, _, 0, r => r
  | _, _, _ + 1, .nil => .nil
  | _, _, n + 1, .cons _ t => RwL.drop n t
theorem RwL.set {v : V} {w : W} (r : Rw T K F al v w) : ∀ {vs : List V} {ws : List W} (i : Nat), RwL T K F al vs ws → RwL T K F al (vs.set i v) (ws.set i w)
  | _, _, _, .nil => .nil
  | _, _, 0, .cons _ t => .cons r t
  | _, _, i + 1, .cons q t => .cons q (RwL.set r i t)
theorem RwL.reverse {vs : List V} {ws : List W} (r : RwL T K F al vs ws) : RwL T K F al vs.reverse ws.reverse := by
  induction r using RwL.rec (motive_1 := fun _ _ _ => True) (motive_3 := fun _ _ _ => True) with
  | nil => exact .nil
  | cons a b _ ih => rw [List.reverse_cons, List.reverse_cons]; exact ih.append (.cons a .nil)
  | _ => trivial
theorem RwL.eraseIdx : ∀ {vs : List V} {ws : List W} (i : Nat), RwL T K F al vs ws → RwL T K F al (vs.eraseIdx i) (ws.eraseIdx i)
  | _, _, _, .nil => .nil
  | _, _, 0, .cons _ t => t
  | _, _, i + 1, .cons q t => .cons q (RwL.eraseIdx i t)
theorem RwL.rep {vs : List V} {ws : List W} (r : RwL T K F al vs ws) : ∀ k, RwL T K F al (List.replicate k vs).flatten (List.replicate k ws).flatten
  | 0 => .nil
  | k + 1 => by rw [List.replicate_succ, List.replicate_succ, List.flatten_cons, List.flatten_cons]; exact r.append (r.rep k)
theorem RwL.ints : ∀ {vs : List V} {ns : List Int}, RwL T K F al vs (ns.map W.int) → vs = ns.map V.int
  | _, [], .nil => rfl
  | _, n :: ns, .cons r t => by cases r; rw [List.map_cons, RwL.ints t]
theorem RwL.of_ints : ∀ (ns : List Int), RwL T K F al (ns.map V.int) (ns.map W.int)
  | [] => .nil
  | n :: ns => .cons (.int n) (RwL.of_ints ns)
theorem RwL.bls : ∀ {vs : List V} {ns : List Bool}, RwL T K F al vs (ns.map W.bl) → vs = ns.map V.bl
  | _, [], .nil => rfl
  | _, n :: ns, .cons r t => by cases r; rw [List.map_cons, RwL.bls t]
end
/-! ### keys of dicts: tuples of plain things -/
mutual
def W.keyOk : Nat → W → Bool
  | _, .non => true
  | _, .bl _ => true
  | _, .int _ => true
  | _, .str _ => true
  | n + 1, .tup ws => W.keyOkL n ws
  | _, _ => false
def W.keyOkL : Nat → List W → Bool
  | _, [] => true
  | n, w :: ws => W.keyOk n w && W.keyOkL n ws
end
mutual
def W.toN : W → NestedKey
  | .non => .none
  | .bl b => .num (if b then 1 else 0)
  | .int i => .num i
  | .str x => .text x
  | .tup ws => .tup (W.toNL ws)
  | _ => .none
def W.toNL : List W → List NestedKey
  | [] => []
  | w :: ws => W.toN w :: W.toNL ws
end
def isKey : W → Bool
  | .tup ws => W.keyOkL 7 ws
  | _ => false
/-- a dict whose keys are tuples: its keys, where they stand, its values -/
def DicO (P : Program) (w : World) (a : Addr) (us : List (NestedKey × Addr × V)) : HO := .ext fun h => us.length ≤ sizeLine ∧ (a == sysModules) = false ∧ ∃ (o : Obj) (es : Array DictEntry) (ep : Nat) (xs : List (NestedKey × Addr × Value)),
  Paired (fun (p : NestedKey × Addr × V) (q : NestedKey × Addr × Value) => p.1 = q.1 ∧ p.2.1 = q.2.1 ∧ RelV p.2.2 q.2.2) us xs ∧ h.get? a = some o ∧ o.ExactDict ∧ o.data = .dict es ep ∧ es.toList = xs.map (entryOfKey (nestedKind P w)) ∧ (xs.map (·.1)).Nodup
def RwD (T : Tab) (K : PySem.W.Frag) (F : Hp) (al : List Addr) : List (NestedKey × Addr × V) → List (W × W) → Prop :=
  Paired fun (p : NestedKey × Addr × V) (q : W × W) => isKey q.1 = true ∧ p.1 = W.toN q.1 ∧ Rw T K F al (.ref p.2.1) q.1 ∧ Rw T K F al p.2.2 q.2
/-- the members of a set of tuples: where they stand, their data -/
def RwS (T : Tab) (K : PySem.W.Frag) (F : Hp) (al : List Addr) : NS.NL → List W → Prop :=
  Paired fun (p : Addr × NestedKey) (q : W) => isKey q = true ∧ p.2 = W.toN q ∧ Rw T K F al (.ref p.1) q
/-- the pairs of a dict with texts and numbers as keys -/
def RwK (T : Tab) (K : PySem.W.Frag) (F : Hp) (al : List Addr) : List (Key × V) → List (Key × W) → Prop :=
  Paired fun (p : Key × V) (q : Key × W) => p.1 = q.1 ∧ Rw T K F al p.2 q.2
/-- what stands at the address of a cell -/
def CellOk (T : Tab) (K : PySem.W.Frag) (F : Hp) (al : List Addr) (H : Hp) (a : Addr) : Cell → Prop
  | .lst ws => ∃ xs, H a = some (.lst xs) ∧ F a = none ∧ RwL T K F al xs ws
  | .obj c fs => ∃ dx gs, H a = some (.ins (T.c c) dx gs) ∧ F a = none ∧ RwF T K F al gs fs
  | .dic kvs => ∃ us, H a = some (DicO T.prg T.wld a us) ∧ F a = none ∧ RwD T K F al us kvs
  | .set ws => ∃ us, H a = some (NS.SetO T.wld a us) ∧ F a = none ∧ RwS T K F al us ws
  | .frz w => Rw T K F al (.ref a) w
  | .sdc kvs => ∃ us, H a = some (.dK us) ∧ F a = none ∧ RwK T K F al us kvs
  | .dead => True
  | .dlk kvs => ∃ od us, F a = some (.frz od (DicO T.prg T.wld a us)) ∧ RwD T K F al us kvs
  | .tbl i => ∃ (q : Str) (ps : Array Value), T.tbs[i]? = some (a, q) ∧ H a = some (.tbl ps) ∧ F a = none ∧ TriplesOk ps.toList ∧ ∀ (pos : Pos) (cv : Value), codeAmong pos ps.toList = some cv → ∃ c, cv = .ref c ∧ F c = some (LamX.CodeO c q)
/-- the data's part F of the heap, the cells' addresses al -/
structure Good (T : Tab) (K : PySem.W.Frag) (F : Hp) (al : List Addr) (S : Sto) (H : Hp) : Prop where
  sub : Same F H
  nd : al.Nodup
  len : al.length = S.length
  tr : ∀ a ∈ al, H a ≠ none
  cell : ∀ (n : Nat) (a : Addr) (c : Cell), al[n]? = some a → S[n]? = some c → CellOk T K F al H a c
structure Post (F : Hp) (al : List Addr) (H : Hp) (F' : Hp) (al' : List Addr) (H' : Hp) : Prop where
  ext : Same F F'
  pre : Pre al al'
  fresh : ∀ b, b ∈ al' → b ∈ al ∨ H b = none
  keep : ∀ b o, H b = some o → b ∉ al → H' b = some o
  dom : ∀ b, F' b ≠ none → F b ≠ none ∨ b ∈ al ∨ H b = none
def EnvOk (T : Tab) (K : PySem.W.Frag) (F : Hp) (al : List Addr) (σ : St) (ρ : Env) : Prop :=
  ρ.length = σ.length ∧ ∀ (i : Nat) (w : W), ρ[i]? = some (some w) → ∃ v, σ[i]? = some (some v) ∧ Rw T K F al v w
section
variable {T : Tab} {K : PySem.W.Frag} {F F' F2 : Hp} {al al' al2 : List Addr} {H H' H2 : Hp} {S S' : Sto} {σ : St} {ρ : Env}
theorem Post.refl : Post F al H F al H := ⟨Same.refl _, Pre.refl _, fun _ h => .inl h, fun _ _ h _ => h, fun _ h => .inl h⟩
theorem Post.trans (p : Post F al H F' al' H') (q : Post F' al' H' F2 al2 H2) : Post F al H F2 al2 H2 := by
  have kn : ∀ b, H' b = none → b ∈ al ∨ H b = none := fun b h => by
    by_cases hb : b ∈ al
    · exact .inl hb
    · refine .inr ?_
      cases e : H b with
      | none => rfl
      | some o => rw [p.keep b o e hb] at h; cases h
  refine ⟨p.ext.trans q.ext, p.pre.trans q.pre, fun b h => ?_, fun b o h hb => ?_, fun b h => ?_⟩
  · rcases q.fresh b h with h | h
    · exact p.fresh b h
    · exact kn b h
  · refine q.keep b o (p.keep b o h hb) fun hm => ?_
    rcases p.fresh b hm with z | z
    · exact hb z
    · rw [h] at z; cases z
  · rcases q.dom b h with h | h | h
    · exact p.dom b h
    · rcases p.fresh b h with z | z
      · exact .inr (.inl z)
      · exact .inr (.inr z)
    · exact .inr (kn b h)
theorem EnvOk.mono (e : EnvOk T K F al σ ρ) (h : Same F F') (p : Pre al al') : EnvOk T K F' al' σ ρ :=
  ⟨e.1, fun i w q => let ⟨v, a, b⟩ := e.2 i w q; ⟨v, a, b.mono h p⟩⟩
theorem EnvOk.post (e : EnvOk T K F al σ ρ) (p : Post F al H F' al' H') : EnvOk T K F' al' σ ρ := e.mono p.ext p.pre
theorem Rw.post {v : V} {w : W} (e : Rw T K F al v w) (p : Post F al H F' al' H') : Rw T K F' al' v w := e.mono p.ext p.pre
theorem RwL.post {v : List V} {w : List W} (e : RwL T K F al v w) (p : Post F al H F' al' H') : RwL T K F' al' v w := e.mono p.ext p.pre
theorem EnvOk.set (e : EnvOk T K F al σ ρ) {v : V} {w : W} (r : Rw T K F al v w) (i : Nat) : EnvOk T K F al (σ.set i (some v)) (ρ.set i (some w)) := by
  refine ⟨by rw [List.length_set, List.length_set]; exact e.1, fun j x q => ?_⟩
  by_cases hj : i = j
  · subst hj
    by_cases hl : i < ρ.length
    · rw [List.getElem?_set_self hl] at q
      cases q
      exact ⟨v, List.getElem?_set_self (by rw [← e.1]; exact hl), r⟩
    · rw [List.getElem?_eq_none (by rw [List.length_set]; omega)] at q; cases q
  · rw [List.getElem?_set_ne hj] at q
    obtain ⟨u, a, b⟩ := e.2 j x q
    exact ⟨u, by rw [List.getElem?_set_ne hj]; exact a, b⟩
theorem EnvOk.wipe (e : EnvOk T K F al σ ρ) (i : Nat) : EnvOk T K F al (σ.set i none) (ρ.set i none) := by
  refine ⟨by rw [List.length_set, List.length_set]; exact e.1, fun j x q => ?_⟩
  by_cases hj : i = j
  · subst hj
    by_cases hl : i < ρ.length
    · rw [List.getElem?_set_self hl] at q; cases q
    · rw [List.getElem?_eq_none (by rw [List.length_set]; omega)] at q; cases q
  · rw [List.getElem?_set_ne hj] at q
    obtain ⟨u, a, b⟩ := e.2 j x q
    exact ⟨u, by rw [List.getElem?_set_ne hj]; exact a, b⟩
theorem Good.notF (g : Good T K F al S H) {p : Addr} (h : H p = none) : F p = none := g.sub.free h
theorem Good.notA (g : Good T K F al S H) {p : Addr} (h : H p = none) : p ∉ al := fun m => g.tr p m h
theorem CellOk.mono {a : Addr} : ∀ {c : Cell}, CellOk T K F al H a c → Same F F' → Pre al al' → (∀ o, H a = some o → H' a = some o) → (F a = none → F' a = none) → CellOk T K F' al' H' a c
  | .lst _, ⟨xs, h1, h2, h3⟩, s, p, k, f => ⟨xs, k _ h1, f h2, h3.mono s p⟩
  | .obj _ _, ⟨dx, gs, h1, h2, h3⟩, s, p, k, f => ⟨dx, gs, k _ h1, f h2, h3.mono s p⟩
  | .dic _, ⟨us, h1, h2, h3⟩, s, p, k, f => ⟨us, k _ h1, f h2, Paired.mapP h3 fun _ _ z => ⟨z.1, z.2.1, z.2.2.1.mono s p, z.2.2.2.mono s p⟩⟩
  | .set _, ⟨us, h1, h2, h3⟩, s, p, k, f => ⟨us, k _ h1, f h2, Paired.mapP h3 fun _ _ z => ⟨z.1, z.2.1, z.2.2.mono s p⟩⟩
  | .frz _, h, s, p, _, _ => Rw.mono s p h
  | .sdc _, ⟨us, h1, h2, h3⟩, s, p, k, f => ⟨us, k _ h1, f h2, Paired.mapP h3 fun _ _ z => ⟨z.1, z.2.mono s p⟩⟩
  | .dead, _, _, _, _, _ => trivial
  | .dlk _, ⟨od, us, h1, h2⟩, s, p, _, _ => ⟨od, us, s _ _ h1, Paired.mapP h2 fun _ _ z => ⟨z.1, z.2.1, z.2.2.1.mono s p, z.2.2.2.mono s p⟩⟩
  | .tbl _, ⟨q, ps, h1, h2, h3, h4, h5⟩, s, _, k, f => ⟨q, ps, h1, k _ h2, f h3, h4, fun pos cv z => by obtain ⟨c, e1, e2⟩ := h5 pos cv z; exact ⟨c, e1, s _ _ e2⟩⟩
/-- a new thing that is data from its begin on -/
theorem Good.newF (g : Good T K F al S H) {p : Addr} (hp : H p = none) (o : HO) : Good T K (upd F p o) al S (upd H p o) ∧ Post F al H (upd F p o) al (upd H p o) := by
  have hF := g.notF hp
  have hA := g.notA hp
  have s1 : Same F (upd F p o) := fun b u e => by rw [upd_ne (ne_of_none e hF)]; exact e
  refine ⟨⟨fun b u e => ?_, g.nd, g.len, fun a ha => ?_, fun n a c ha hc => ?_⟩, ⟨s1, Pre.refl _, fun _ h => .inl h, fun b u e _ => by rw [upd_ne (ne_of_none e hp)]; exact e, fun b h => ?_⟩⟩
  · by_cases hb : b = p
    · subst hb; rw [upd_same] at e ⊢; exact e
    · rw [upd_ne hb] at e ⊢; exact g.sub b u e
  · rw [upd_ne (show a ≠ p from fun e => hA (e ▸ ha))]; exact g.tr a ha
  · have ne : a ≠ p := fun e => hA (e ▸ List.mem_of_getElem? ha)
    exact (g.cell n a c ha hc).mono s1 (Pre.refl _) (fun o h => by rw [upd_ne ne]; exact h) (fun h => by rw [upd_ne ne]; exact h)
  · by_cases hb : b = p
    · subst hb; exact .inr (.inr hp)
    · rw [upd_ne hb] at h; exact .inl h
theorem Good.newTup (g : Good T K F al S H) {p : Addr} (hp : H p = none) {xs : List V} {ws : List W} (r : RwL T K F al xs ws) :
    Good T K (upd F p (.tup xs)) al S (upd H p (.tup xs)) ∧ Post F al H (upd F p (.tup xs)) al (upd H p (.tup xs)) ∧ Rw T K (upd F p (.tup xs)) al (.ref p) (.tup ws) := by
  obtain ⟨a, b⟩ := g.newF hp (.tup xs)
  exact ⟨a, b, .tup (.of upd_same) (r.post b)⟩
theorem Good.newLst (g : Good T K F al S H) {p : Addr} (hp : H p = none) {xs : List V} {ws : List W} (r : RwL T K F al xs ws) :
    Good T K (upd F p (.lst xs)) al S (upd H p (.lst xs)) ∧ Post F al H (upd F p (.lst xs)) al (upd H p (.lst xs)) ∧ Rw T K (upd F p (.lst xs)) al (.ref p) (.lst ws) := by
  obtain ⟨a, b⟩ := g.newF hp (.lst xs)
  exact ⟨a, b, .lst (SqL.of upd_same) (r.post b)⟩
/-- a new cell -/
theorem Good.newCell (g : Good T K F al S H) {p : Addr} (hp : H p = none) {o : HO} {c : Cell} (hc : CellOk T K F (al ++ [p]) (upd H p o) p c) :
    Good T K F (al ++ [p]) (S ++ [c]) (upd H p o) ∧ Post F al H F (al ++ [p]) (upd H p o) ∧ Rw T K F (al ++ [p]) (.ref p) (.loc S.length) := by
  have hF := g.notF hp
  have hA := g.notA hp
  refine ⟨⟨fun b u e => ?_, ?_, by rw [List.length_append, List.length_append, g.len]; rfl, fun a ha => ?_, fun n a d ha hd => ?_⟩, ⟨Same.refl _, Pre.app _ _, fun b h => ?_, fun b u e _ => by rw [upd_ne (ne_of_none e hp)]; exact e, fun _ h => .inl h⟩, .loc ?_⟩
  · rw [upd_ne (ne_of_none e hF)]; exact g.sub b u e
  · rw [List.nodup_append]
    refine ⟨g.nd, by simp, fun a ha b hb e => ?_⟩
    have : b = p := by simpa using hb
    subst this; subst e; exact hA ha
  · rcases List.mem_append.mp ha with h | h
    · by_cases e : a = p
      · subst e; rw [upd_same]; simp
      · rw [upd_ne e]; exact g.tr a h
    · have : a = p := by simpa using h
      subst this; rw [upd_same]; simp
  · by_cases hn : n < al.length
    · rw [List.getElem?_append_left hn] at ha
      rw [List.getElem?_append_left (by rw [← g.len]; exact hn)] at hd
      have ne : a ≠ p := fun e => hA (e ▸ List.mem_of_getElem? ha)
      exact (g.cell n a d ha hd).mono (Same.refl _) (Pre.app _ _) (fun o h => by rw [upd_ne ne]; exact h) (fun h => h)
    · have h2 : n = al.length := by
        have := (List.getElem?_eq_some_iff.mp ha).1
        rw [List.length_append] at this
        simp at this; omega
      subst h2
      rw [List.getElem?_append_right (Nat.le_refl _), Nat.sub_self] at ha
      rw [g.len, List.getElem?_append_right (Nat.le_refl _), Nat.sub_self] at hd
      simp at ha hd
      subst ha; subst hd
      exact hc
  · rcases List.mem_append.mp h with h | h
    · exact .inl h
    · have : b = p := by simpa using h
      subst this; exact .inr hp
  · rw [← g.len, List.getElem?_append_right (Nat.le_refl _), Nat.sub_self]; rfl
/-- a cell is changed -/
theorem Good.setCell (g : Good T K F al S H) {n : Nat} {a : Addr} {o : HO} {c : Cell} (ha : al[n]? = some a) (hF : F a = none) (hc : CellOk T K F al (upd H a o) a c) :
    Good T K F al (S.set n c) (upd H a o) ∧ Post F al H F al (upd H a o) := by
  have hm : a ∈ al := List.mem_of_getElem? ha
  refine ⟨⟨fun b u e => ?_, g.nd, by rw [List.length_set]; exact g.len, fun b hb => ?_, fun m b d hb hd => ?_⟩, ⟨Same.refl _, Pre.refl _, fun _ h => .inl h, fun b u e hb => ?_, fun _ h => .inl h⟩⟩
  · rw [upd_ne (ne_of_none e hF)]; exact g.sub b u e
  · by_cases e : b = a
    · subst e; rw [upd_same]; simp
    · rw [upd_ne e]; exact g.tr b hb
  · by_cases e : m = n
    · subst e
      rw [ha] at hb; cases hb
      have hl : m < S.length := by rw [← g.len]; exact (List.getElem?_eq_some_iff.mp ha).1
      rw [List.getElem?_set_self hl] at hd
      cases hd
      exact hc
    · rw [List.getElem?_set_ne (Ne.symm e)] at hd
      have ne : b ≠ a := fun q => e (by subst q; exact nd_ix' g.nd hb ha)
      exact (g.cell m b d hb hd).mono (Same.refl _) (Pre.refl _) (fun o h => by rw [upd_ne ne]; exact h) (fun h => h)
  · rw [upd_ne (show b ≠ a from fun q => hb (q ▸ hm))]; exact e
where nd_ix' {l : List Addr} (hN : l.Nodup) {i j : Nat} {x : Addr} (a : l[i]? = some x) (b : l[j]? = some x) : i = j := by
        obtain ⟨h1, e1⟩ := List.getElem?_eq_some_iff.mp a
        obtain ⟨h2, e2⟩ := List.getElem?_eq_some_iff.mp b
        exact (List.getElem_inj hN).mp (e1.trans e2.symm)
/-- a cell is frozen: what it holds becomes data -/
theorem Good.freeze (g : Good T K F al S H) {n : Nat} {a : Addr} {o : HO} {w : W} (ha : al[n]? = some a) (hF : F a = none) (ho : H a = some o) (hw : Rw T K (upd F a o) al (.ref a) w) :
    Good T K (upd F a o) al (S.set n (.frz w)) H ∧ Post F al H (upd F a o) al H := by
  have hm : a ∈ al := List.mem_of_getElem? ha
  have s1 : Same F (upd F a o) := fun b u e => by rw [upd_ne (ne_of_none e hF)]; exact e
  refine ⟨⟨fun b u e => ?_, g.nd, by rw [List.length_set]; exact g.len, g.tr, fun m b d hb hd => ?_⟩, ⟨s1, Pre.refl _, fun _ h => .inl h, fun b u e _ => e, fun b h => ?_⟩⟩
  · by_cases q : b = a
    · subst q; rw [upd_same] at e; rw [← e]; exact ho
    · rw [upd_ne q] at e; exact g.sub b u e
  · by_cases e : m = n
    · subst e
      rw [ha] at hb; cases hb
      have hl : m < S.length := by rw [← g.len]; exact (List.getElem?_eq_some_iff.mp ha).1
      rw [List.getElem?_set_self hl] at hd
      cases hd
      exact hw
    · rw [List.getElem?_set_ne (Ne.symm e)] at hd
      have ne : b ≠ a := fun q => e (by subst q; exact setCell.nd_ix' g.nd hb ha)
      exact (g.cell m b d hb hd).mono s1 (Pre.refl _) (fun o h => h) (fun h => by rw [upd_ne ne]; exact h)
  · by_cases q : b = a
    · subst q; exact .inr (.inl hm)
    · rw [upd_ne q] at h; exact .inl h
end
end DL
set_option Elab.async false
set_option linter.all false
set_option maxRecDepth 100000
set_option maxHeartbeats 4000000
/-! Wb: a small language of expressions and statements over data, and what it does. -/
namespace DL
open PySem PySem.Spec L2
def limit : Nat := 16777216
/-! ### plain data, == -/
mutual
def W.plain : Nat → W → Bool
  | _, .non => true
  | _, .bl _ => true
  | _, .int _ => true
  | _, .str s => PyData.strOk s
  | 0, .tup _ => false
  | 0, .lst _ => false
  | n + 1, .tup ws => W.plainL n ws
  | n + 1, .lst ws => W.plainL n ws
  | _, .ins _ _ => false
  | _, .loc _ => false
  | _, .tpx _ => false
  | _, .opq _ _ => false
  | _, .lam => false
  | _, .fn _ => false
def W.plainL : Nat → List W → Bool
  | _, [] => true
  | n, w :: ws => W.plain n w && W.plainL n ws
end
mutual
def W.eqv : W → W → Bool
  | .non, .non => true
  | .bl a, .bl b => a == b
  | .bl a, .int j => (if a then 1 else 0) == j
  | .int i, .bl b => i == (if b then 1 else 0)
  | .int i, .int j => i == j
  | .str x, .str y => x == y
  | .lst xs, .lst ys => W.eqvL xs ys
  | .tup xs, .tup ys => W.eqvL xs ys
  | _, _ => false
def W.eqvL : List W → List W → Bool
  | [], [] => true
  | x :: xs, y :: ys => W.eqv x y && W.eqvL xs ys
  | _, _ => false
end
/-- a thing that may be changed, as it stands now -/
def deref (S : Sto) : W → W
  | .loc n => match S[n]? with
    | some (.lst ws) => .lst ws
    | some (.frz w) => w
    | _ => .loc n
  | .tpx ws => .tup ws
  | w => w
/-- tuples item by item, as far as both go -/
def eqTl : List W → List W → Option Bool
  | [], [] => some true
  | [], _ :: _ => some false
  | _ :: _, [] => some false
  | x :: xs, y :: ys => if W.plain 60 x && W.plain 60 y then (eqTl xs ys).map fun k => W.eqv x y && k else none
def cmpEq (a b : W) : Option Bool := if W.plain 60 a && W.plain 60 b then some (W.eqv a b) else match a, b with
  | .tup xs, .tup ys => eqTl xs ys
  | .lst xs, .lst ys => if xs.length = ys.length then eqTl xs ys else some false
  | _, _ => none
inductive Xn where
  | own (c : Nat) (fs : List (Nat × W))
  deriving Inhabited
inductive Res where
  | ok (w : W) (S : Sto) | exc (x : Xn) (S : Sto) | bad
  deriving Inhabited
inductive LRes where
  | ok (ws : List W) (S : Sto) | exc (x : Xn) (S : Sto) | bad
  deriving Inhabited
inductive BRes where
  | ok (b : Bool) (S : Sto) | exc (x : Xn) (S : Sto) | bad
  deriving Inhabited
def Res.bind : Res → (W → Sto → Res) → Res
  | .ok w S, f => f w S
  | .exc x S, _ => .exc x S
  | .bad, _ => .bad
def Res.bindL : Res → (W → Sto → LRes) → LRes
  | .ok w S, f => f w S
  | .exc x S, _ => .exc x S
  | .bad, _ => .bad
def Res.bindB : Res → (W → Sto → BRes) → BRes
  | .ok w S, f => f w S
  | .exc x S, _ => .exc x S
  | .bad, _ => .bad
def LRes.bind : LRes → (List W → Sto → Res) → Res
  | .ok w S, f => f w S
  | .exc x S, _ => .exc x S
  | .bad, _ => .bad
def LRes.bindL : LRes → (List W → Sto → LRes) → LRes
  | .ok w S, f => f w S
  | .exc x S, _ => .exc x S
  | .bad, _ => .bad
def BRes.bind : BRes → (Bool → Sto → Res) → Res
  | .ok w S, f => f w S
  | .exc x S, _ => .exc x S
  | .bad, _ => .bad
def BRes.bindB : BRes → (Bool → Sto → BRes) → BRes
  | .ok w S, f => f w S
  | .exc x S, _ => .exc x S
  | .bad, _ => .bad
def optR (S : Sto) : Option W → Res
  | some w => .ok w S
  | none => .bad
abbrev Fn := List W → Sto → Res
/-! ### operators -/
def mulOk (i j : Int) : Bool := (decide (-(2 ^ 64) < i) && decide (i < 2 ^ 64)) || (decide (-(2 ^ 64) < j) && decide (j < 2 ^ 64))
def divLim : Int := 1000000000000000000000000000000000000000000000000000000000000000000000
def binop : Operator → W → W → Option W
  | .Add, .int i, .int j => some (.int (i + j))
  | .Add, .str x, .str y => if x.length + y.length ≤ limit then some (.str (x ++ y)) else none
  | .Add, .tup xs, .tup ys => if xs.length + ys.length ≤ limit then some (.tup (xs ++ ys)) else none
  | .Add, .lst xs, .lst ys => if xs.length + ys.length ≤ limit then some (.lst (xs ++ ys)) else none
  | .Sub, .int i, .int j => some (.int (i - j))
  | .Mult, .int i, .int j => if mulOk i j then some (.int (i * j)) else none
  | .Mult, .tup xs, .int k => if decide (0 ≤ k) && decide (k ≤ 1000) && decide (xs.length ≤ 1000) then some (.tup (List.replicate k.toNat xs).flatten) else none
  | .FloorDiv, .int i, .int j => if 0 < j ∧ j < divLim then some (.int (i / j)) else none
  | .Mod, .int i, .int j => if 0 < j then some (.int (i % j)) else none
  | .Pow, .int i, .int j => if 0 ≤ j ∧ j ≤ 1000000 ∧ i.natAbs < 2 ^ 64 then some (.int (i ^ j.toNat)) else none
  | _, _, _ => none
def memW (x : W) (ys : List W) : Option Bool := if W.plain 60 x && W.plainL 60 ys then some (ys.any fun y => W.eqv y x) else none
def cmpop : CmpOp → W → W → Option Bool
  | .Eq, a, b => cmpEq a b
  | .NotEq, a, b => (cmpEq a b).map (!·)
  | .Lt, .int i, .int j => some (decide (i < j))
  | .LtE, .int i, .int j => some (decide (i ≤ j))
  | .Gt, .int i, .int j => some (decide (j < i))
  | .GtE, .int i, .int j => some (decide (j ≤ i))
  | .Is, .non, .non => some true
  | .Is, .bl _, .non => some false
  | .Is, .int _, .non => some false
  | .Is, .str _, .non => some false
  | .Is, .tup _, .non => some false
  | .Is, .lst _, .non => some false
  | .Is, .ins _ _, .non => some false
  | .IsNot, .non, .non => some false
  | .IsNot, .bl _, .non => some true
  | .IsNot, .int _, .non => some true
  | .IsNot, .str _, .non => some true
  | .IsNot, .tup _, .non => some true
  | .IsNot, .lst _, .non => some true
  | .IsNot, .ins _ _, .non => some true
  | .Is, .bl a, .bl b => some (a == b)
  | .IsNot, .bl a, .bl b => some (!(a == b))
  | .In, x, .tup ys => memW x ys
  | .In, x, .lst ys => memW x ys
  | .NotIn, x, .tup ys => (memW x ys).map (!·)
  | .NotIn, x, .lst ys => (memW x ys).map (!·)
  | _, _, _ => none
def truthy : W → Option Bool
  | .non => some false
  | .bl b => some b
  | .int i => some (i != 0)
  | .str y => if y.length ≤ limit then some ((y.length : Int) != 0) else none
  | .tup ws => some (!ws.isEmpty)
  | .lst ws => some (!ws.isEmpty)
  | _ => none
def getIx : W → W → Option W
  | .tup ws, .int i => atI ws i
  | .lst ws, .int i => atI ws i
  | _, _ => none
def cutW (ws : List W) (lo hi : Option Int) : List W := (ws.drop (HT.sIx ws.length 0 lo)).take (HT.sIx ws.length ws.length hi - HT.sIx ws.length 0 lo)
def getSl : W → Option Int → Option Int → Option W
  | .tup ws, lo, hi => some (.tup (cutW ws lo hi))
  | .lst ws, lo, hi => some (.lst (cutW ws lo hi))
  | _, _, _ => none
def lookF (i : Nat) : List (Nat × W) → Option W
  | [] => none
  | (j, w) :: fs => if i = j then some w else lookF i fs
def putFN (i : Nat) (w : W) : List (Nat × W) → List (Nat × W)
  | [] => [(i, w)]
  | (j, x) :: fs => if j = i then (j, w) :: fs else (j, x) :: putFN i w fs
def getFld (S : Sto) (c f : Nat) : W → Option W
  | .ins d fs => if d = c then lookF f fs else none
  | .loc n => match S[n]? with
    | some (.obj d fs) => if d = c then lookF f fs else none
    | some (.frz (.ins d fs)) => if d = c then lookF f fs else none
    | _ => none
  | _ => none
inductive Ty where
  | int | bool | str | tuple | list
  deriving DecidableEq
def isTy : Ty → W → Option Bool
  | .int, .int _ => some true
  | .int, .bl _ => some true
  | .bool, .bl _ => some true
  | .str, .str _ => some true
  | .tuple, .tup _ => some true
  | .list, .lst _ => some true
  | _, .non => some false
  | _, .bl _ => some false
  | _, .int _ => some false
  | _, .str _ => some false
  | _, .tup _ => some false
  | _, .lst _ => some false
  | _, .ins _ _ => some false
  | _, _ => none
inductive Prim where
  | len | abs | max | min | all | any | tuple | list | divmod | sum | int | bool
  deriving DecidableEq
def allB : List W → Option (List Bool)
  | [] => some []
  | .bl b :: ws => (allB ws).map (b :: ·)
  | _ => none
def allI : List W → Option (List Int)
  | [] => some []
  | .int b :: ws => (allI ws).map (b :: ·)
  | _ => none
def prim : Prim → List W → Option W
  | .len, [.tup ws] => some (.int ws.length)
  | .len, [.lst ws] => some (.int ws.length)
  | .len, [.str x] => if x.length ≤ limit then some (.int x.length) else none
  | .abs, [.int i] => some (.int (if i < 0 then -i else i))
  | .max, [.int i, .int j] => some (.int (if j > i then j else i))
  | .min, [.int i, .int j] => some (.int (if j < i then j else i))
  | .all, [.lst ws] => (allB ws).map fun bs => .bl (bs.all id)
  | .any, [.lst ws] => (allB ws).map fun bs => .bl (bs.any id)
  | .tuple, [.tup ws] => some (.tup ws)
  | .tuple, [.lst ws] => some (.tup ws)
  | .list, [.tup ws] => some (.lst ws)
  | .list, [.lst ws] => some (.lst ws)
  | .divmod, [.int i, .int j] => if 0 < j ∧ j < 1073741824 then some (.tup [.int (i / j), .int (i % j)]) else none
  | .sum, [.lst ws] => (allI ws).map fun ns => .int ns.sum
  | .int, [.int i] => some (.int i)
  | .int, [.bl k] => some (.int (if k then 1 else 0))
  | .bool, [.int i] => some (.bl (i != 0))
  | .bool, [.bl k] => some (.bl k)
  | _, _ => none
/-! ### the language -/
inductive Tg where
  | nm (i : Nat) | tup (is : List Nat) | star (is : List Nat) (j : Nat) | two (i : Nat) (is : List Nat) | nst (i : Nat) (is js : List Nat)
  deriving DecidableEq
def setAll : List Nat → List W → Env → Option Env
  | [], [], ρ => some ρ
  | i :: is, w :: ws, ρ => setAll is ws (ρ.set i (some w))
  | _, _, _ => none
def setSeq (is : List Nat) : W → Env → Option Env
  | .tup ws, ρ => setAll is ws ρ
  | .lst ws, ρ => setAll is ws ρ
  | .tpx ws, ρ => setAll is ws ρ
  | _, _ => none
def bindTg : Tg → W → Env → Option Env
  | .nm i, w, ρ => some (ρ.set i (some w))
  | .tup is, .tup ws, ρ => setAll is ws ρ
  | .tup is, .lst ws, ρ => setAll is ws ρ
  | .tup is, .tpx ws, ρ => setAll is ws ρ
  | .star is j, .tup ws, ρ => if is.length ≤ ws.length ∧ ws.length ≤ 16384 then (setAll is (ws.take is.length) ρ).map fun ρ' => ρ'.set j (some (.lst (ws.drop is.length))) else none
  | .star is j, .lst ws, ρ => if is.length ≤ ws.length ∧ ws.length ≤ 16384 then (setAll is (ws.take is.length) ρ).map fun ρ' => ρ'.set j (some (.lst (ws.drop is.length))) else none
  | .two i is, .tup [x, y], ρ => setSeq is y (ρ.set i (some x))
  | .nst i is js, .tup (x :: y :: ws), ρ => (setSeq is y (ρ.set i (some x))).bind fun ρ' => setAll js ws ρ'
  | _, _, _ => none
def wipeW (ρ : Env) : List Nat → Env
  | [] => ρ
  | v :: vs => (wipeW ρ vs).set v none
def zipW : List W → List W → List W
  | x :: xs, y :: ys => .tup [x, y] :: zipW xs ys
  | _, _ => []
def rangeW (lo : Int) : Nat → List W
  | 0 => []
  | n + 1 => .int lo :: rangeW (lo + 1) n
def items : W → Option (List W)
  | .tup ws => some ws
  | .tpx ws => some ws
  | .lst ws => some ws
  | _ => none
def compM (step : W → Sto → LRes) : List W → List W → Sto → LRes
  | [], acc, S => .ok acc S
  | x :: xs, acc, S => (step x S).bindL fun ys S' => compM step xs (acc ++ ys) S'
def newCellR (c : Cell) (S : Sto) : Res := .ok (.loc S.length) (S ++ [c])
def freezeR : W → Sto → Res
  | .loc n, S => match S[n]? with
    | some (.lst ws) => .ok (.lst ws) (S.set n (.frz (.lst ws)))
    | some (.frz w) => .ok w S
    | _ => .bad
  | w, S => .ok w S
def optL (S : Sto) : Option (List W) → LRes
  | some ws => .ok ws S
  | none => .bad
def optB (S : Sto) : Option Bool → BRes
  | some b => .ok b S
  | none => .bad
def truthyR (w : W) (S : Sto) : BRes := optB S (truthy (deref S w))
def test (r : Res) : BRes := r.bindB truthyR
/-- a turn of a comprehension: nothing may be raised in it -/
def lcStep (ρ : Env) (vs : List Nat) (tg : Tg) (cond : Env → Sto → BRes) (elt : Env → Sto → Res) (x : W) (S : Sto) : LRes :=
  match bindTg tg x (wipeW ρ vs) with
  | none => .bad
  | some ρ' => match cond ρ' S with
    | .ok false S1 => .ok [] S1
    | .ok true S1 => match elt ρ' S1 with
      | .ok y S2 => .ok [y] S2
      | _ => .bad
    | _ => .bad
def partW : W → Option (Option Int)
  | .non => some none
  | .int i => some (some i)
  | _ => none
end DL
set_option Elab.async false
set_option linter.all false
set_option maxRecDepth 100000
set_option maxHeartbeats 4000000
/-! Wc: what the small language's expressions do is what the program's expressions do: the parts. -/
namespace DL
open PySem PySem.Spec L2
section
variable (T : Tab) (K : PySem.W.Frag)
def RwX (F : Hp) (al : List Addr) : Xn → Value → Option Addr → Prop
  | .own c fs, cls, d => cls = .ref (T.c c) ∧ ((fs = [] ∧ d = none) ∨ (fs ≠ [] ∧ ∃ a gs, d = some a ∧ F a = some (.xd gs) ∧ RwF T K F al gs fs))
def RQ (E : WX) (σ : L2.St) (F : Hp) (al : List Addr) (H : Hp) (r : Res) (Q : VK) : Prop :=
  match r with
  | .ok w S' => ∀ v F' al' H', Post F al H F' al' H' → Good T K F' al' S' H' → Rw T K F' al' v w → Q v H'
  | .exc x S' => ∀ cls d F' al' H', Post F al H F' al' H' → Good T K F' al' S' H' → RwX T K F' al' x cls d → E cls d σ H'
  | .bad => False
def LQ (E : WX) (σ : L2.St) (F : Hp) (al : List Addr) (H : Hp) (r : LRes) (Q : List V → Hp → Prop) : Prop :=
  match r with
  | .ok ws S' => ∀ vs F' al' H', Post F al H F' al' H' → Good T K F' al' S' H' → RwL T K F' al' vs ws → Q vs H'
  | .exc x S' => ∀ cls d F' al' H', Post F al H F' al' H' → Good T K F' al' S' H' → RwX T K F' al' x cls d → E cls d σ H'
  | .bad => False
def BQ (E : WX) (σ : L2.St) (F : Hp) (al : List Addr) (H : Hp) (r : BRes) (Q : Bool → Hp → Prop) : Prop :=
  match r with
  | .ok b S' => ∀ F' al' H', Post F al H F' al' H' → Good T K F' al' S' H' → Q b H'
  | .exc x S' => ∀ cls d F' al' H', Post F al H F' al' H' → Good T K F' al' S' H' → RwX T K F' al' x cls d → E cls d σ H'
  | .bad => False
def tW (E : WX) (m : Env → Sto → Res) : TE := fun σ H Q => ∃ F al S ρ, Good T K F al S H ∧ EnvOk T K F al σ ρ ∧ RQ T K E σ F al H (m ρ S) Q
def tL (E : WX) (m : Env → Sto → LRes) : TA := fun σ H Q => ∃ F al S ρ, Good T K F al S H ∧ EnvOk T K F al σ ρ ∧ LQ T K E σ F al H (m ρ S) Q
def tB (E : WX) (m : Env → Sto → BRes) : TT := fun σ H Q => ∃ F al S ρ, Good T K F al S H ∧ EnvOk T K F al σ ρ ∧ BQ T K E σ F al H (m ρ S) Q
end
section
variable {T : Tab} {K : PySem.W.Frag} {E : WX} {σ : L2.St} {ρ : Env} {F F' : Hp} {al al' : List Addr} {H H' : Hp} {S S' : Sto}
theorem RQ.post {r : Res} {Q : VK} (p : Post F al H F' al' H') (h : RQ T K E σ F al H r Q) : RQ T K E σ F' al' H' r Q := by
  cases r with
  | ok w S' => exact fun v F2 al2 H2 q g r => h v F2 al2 H2 (p.trans q) g r
  | exc x S' => exact fun c d F2 al2 H2 q g r => h c d F2 al2 H2 (p.trans q) g r
  | bad => exact h
theorem LQ.post {r : LRes} {Q : List V → Hp → Prop} (p : Post F al H F' al' H') (h : LQ T K E σ F al H r Q) : LQ T K E σ F' al' H' r Q := by
  cases r with
  | ok w S' => exact fun v F2 al2 H2 q g r => h v F2 al2 H2 (p.trans q) g r
  | exc x S' => exact fun c d F2 al2 H2 q g r => h c d F2 al2 H2 (p.trans q) g r
  | bad => exact h
theorem BQ.post {r : BRes} {Q : Bool → Hp → Prop} (p : Post F al H F' al' H') (h : BQ T K E σ F al H r Q) : BQ T K E σ F' al' H' r Q := by
  cases r with
  | ok w S' => exact fun F2 al2 H2 q g => h F2 al2 H2 (p.trans q) g
  | exc x S' => exact fun c d F2 al2 H2 q g r => h c d F2 al2 H2 (p.trans q) g r
  | bad => exact h
theorem RQ.imp {r : Res} {Q Q' : VK} (h : RQ T K E σ F al H r Q) (i : ∀ v H, Q v H → Q' v H) : RQ T K E σ F al H r Q' := by
  cases r with
  | ok w S' => exact fun v F2 al2 H2 q g r => i _ _ (h v F2 al2 H2 q g r)
  | exc x S' => exact h
  | bad => exact h
theorem LQ.imp {r : LRes} {Q Q' : List V → Hp → Prop} (h : LQ T K E σ F al H r Q) (i : ∀ v H, Q v H → Q' v H) : LQ T K E σ F al H r Q' := by
  cases r with
  | ok w S' => exact fun v F2 al2 H2 q g r => i _ _ (h v F2 al2 H2 q g r)
  | exc x S' => exact h
  | bad => exact h
theorem BQ.imp {r : BRes} {Q Q' : Bool → Hp → Prop} (h : BQ T K E σ F al H r Q) (i : ∀ v H, Q v H → Q' v H) : BQ T K E σ F al H r Q' := by
  cases r with
  | ok w S' => exact fun F2 al2 H2 q g => i _ _ (h F2 al2 H2 q g)
  | exc x S' => exact h
  | bad => exact h
theorem tW.imp {m : Env → Sto → Res} {Q Q' : VK} (h : tW T K E m σ H Q) (i : ∀ v H, Q v H → Q' v H) : tW T K E m σ H Q' :=
  let ⟨F, al, S, ρ, g, e, q⟩ := h
  ⟨F, al, S, ρ, g, e, q.imp i⟩
theorem tL.imp {m : Env → Sto → LRes} {Q Q' : List V → Hp → Prop} (h : tL T K E m σ H Q) (i : ∀ v H, Q v H → Q' v H) : tL T K E m σ H Q' :=
  let ⟨F, al, S, ρ, g, e, q⟩ := h
  ⟨F, al, S, ρ, g, e, q.imp i⟩
theorem tB.imp {m : Env → Sto → BRes} {Q Q' : Bool → Hp → Prop} (h : tB T K E m σ H Q) (i : ∀ v H, Q v H → Q' v H) : tB T K E m σ H Q' :=
  let ⟨F, al, S, ρ, g, e, q⟩ := h
  ⟨F, al, S, ρ, g, e, q.imp i⟩
/-- behind the first part of a computation -/
structure Mid (T : Tab) (K : PySem.W.Frag) (F : Hp) (al : List Addr) (H : Hp) (σ : L2.St) (ρ : Env) (F1 : Hp) (al1 : List Addr) (S1 : Sto) (H1 : Hp) : Prop where
  g : Good T K F1 al1 S1 H1
  e : EnvOk T K F1 al1 σ ρ
  p : Post F al H F1 al1 H1
theorem tW.bind {m : Env → Sto → Res} {f : W → Sto → Res} {Q : VK} (g : Good T K F al S H) (e : EnvOk T K F al σ ρ) (h : RQ T K E σ F al H ((m ρ S).bind f) Q) :
    tW T K E m σ H fun v H1 => ∃ F1 al1 S1 w, Mid T K F al H σ ρ F1 al1 S1 H1 ∧ Rw T K F1 al1 v w ∧ RQ T K E σ F1 al1 H1 (f w S1) Q := by
  refine ⟨F, al, S, ρ, g, e, ?_⟩
  cases q : m ρ S with
  | ok w S1 =>
    rw [q] at h
    exact fun v F1 al1 H1 p g1 r => ⟨F1, al1, S1, w, ⟨g1, e.post p, p⟩, r, RQ.post p h⟩
  | exc x S1 => rw [q] at h; exact h
  | bad => rw [q] at h; exact h
theorem tW.bindL {m : Env → Sto → Res} {f : W → Sto → LRes} {Q : List V → Hp → Prop} (g : Good T K F al S H) (e : EnvOk T K F al σ ρ) (h : LQ T K E σ F al H ((m ρ S).bindL f) Q) :
    tW T K E m σ H fun v H1 => ∃ F1 al1 S1 w, Mid T K F al H σ ρ F1 al1 S1 H1 ∧ Rw T K F1 al1 v w ∧ LQ T K E σ F1 al1 H1 (f w S1) Q := by
  refine ⟨F, al, S, ρ, g, e, ?_⟩
  cases q : m ρ S with
  | ok w S1 =>
    rw [q] at h
    exact fun v F1 al1 H1 p g1 r => ⟨F1, al1, S1, w, ⟨g1, e.post p, p⟩, r, LQ.post p h⟩
  | exc x S1 => rw [q] at h; exact h
  | bad => rw [q] at h; exact h
theorem tW.bindB {m : Env → Sto → Res} {f : W → Sto → BRes} {Q : Bool → Hp → Prop} (g : Good T K F al S H) (e : EnvOk T K F al σ ρ) (h : BQ T K E σ F al H ((m ρ S).bindB f) Q) :
    tW T K E m σ H fun v H1 => ∃ F1 al1 S1 w, Mid T K F al H σ ρ F1 al1 S1 H1 ∧ Rw T K F1 al1 v w ∧ BQ T K E σ F1 al1 H1 (f w S1) Q := by
  refine ⟨F, al, S, ρ, g, e, ?_⟩
  cases q : m ρ S with
  | ok w S1 =>
    rw [q] at h
    exact fun v F1 al1 H1 p g1 r => ⟨F1, al1, S1, w, ⟨g1, e.post p, p⟩, r, BQ.post p h⟩
  | exc x S1 => rw [q] at h; exact h
  | bad => rw [q] at h; exact h
theorem tL.bind {m : Env → Sto → LRes} {f : List W → Sto → Res} {Q : VK} (g : Good T K F al S H) (e : EnvOk T K F al σ ρ) (h : RQ T K E σ F al H ((m ρ S).bind f) Q) :
    tL T K E m σ H fun v H1 => ∃ F1 al1 S1 w, Mid T K F al H σ ρ F1 al1 S1 H1 ∧ RwL T K F1 al1 v w ∧ RQ T K E σ F1 al1 H1 (f w S1) Q := by
  refine ⟨F, al, S, ρ, g, e, ?_⟩
  cases q : m ρ S with
  | ok w S1 =>
    rw [q] at h
    exact fun v F1 al1 H1 p g1 r => ⟨F1, al1, S1, w, ⟨g1, e.post p, p⟩, r, RQ.post p h⟩
  | exc x S1 => rw [q] at h; exact h
  | bad => rw [q] at h; exact h
theorem tL.bindL {m : Env → Sto → LRes} {f : List W → Sto → LRes} {Q : List V → Hp → Prop} (g : Good T K F al S H) (e : EnvOk T K F al σ ρ) (h : LQ T K E σ F al H ((m ρ S).bindL f) Q) :
    tL T K E m σ H fun v H1 => ∃ F1 al1 S1 w, Mid T K F al H σ ρ F1 al1 S1 H1 ∧ RwL T K F1 al1 v w ∧ LQ T K E σ F1 al1 H1 (f w S1) Q := by
  refine ⟨F, al, S, ρ, g, e, ?_⟩
  cases q : m ρ S with
  | ok w S1 =>
    rw [q] at h
    exact fun v F1 al1 H1 p g1 r => ⟨F1, al1, S1, w, ⟨g1, e.post p, p⟩, r, LQ.post p h⟩
  | exc x S1 => rw [q] at h; exact h
  | bad => rw [q] at h; exact h
theorem tB.bind {m : Env → Sto → BRes} {f : Bool → Sto → Res} {Q : VK} (g : Good T K F al S H) (e : EnvOk T K F al σ ρ) (h : RQ T K E σ F al H ((m ρ S).bind f) Q) :
    tB T K E m σ H fun b H1 => ∃ F1 al1 S1, Mid T K F al H σ ρ F1 al1 S1 H1 ∧ RQ T K E σ F1 al1 H1 (f b S1) Q := by
  refine ⟨F, al, S, ρ, g, e, ?_⟩
  cases q : m ρ S with
  | ok w S1 =>
    rw [q] at h
    exact fun F1 al1 H1 p g1 => ⟨F1, al1, S1, ⟨g1, e.post p, p⟩, RQ.post p h⟩
  | exc x S1 => rw [q] at h; exact h
  | bad => rw [q] at h; exact h
theorem tB.bindB {m : Env → Sto → BRes} {f : Bool → Sto → BRes} {Q : Bool → Hp → Prop} (g : Good T K F al S H) (e : EnvOk T K F al σ ρ) (h : BQ T K E σ F al H ((m ρ S).bindB f) Q) :
    tB T K E m σ H fun b H1 => ∃ F1 al1 S1, Mid T K F al H σ ρ F1 al1 S1 H1 ∧ BQ T K E σ F1 al1 H1 (f b S1) Q := by
  refine ⟨F, al, S, ρ, g, e, ?_⟩
  cases q : m ρ S with
  | ok w S1 =>
    rw [q] at h
    exact fun F1 al1 H1 p g1 => ⟨F1, al1, S1, ⟨g1, e.post p, p⟩, BQ.post p h⟩
  | exc x S1 => rw [q] at h; exact h
  | bad => rw [q] at h; exact h
/-- a value at once -/
theorem RQ.val {w : W} {v : V} {Q : VK} (h : RQ T K E σ F al H (.ok w S) Q) (g : Good T K F al S H) (r : Rw T K F al v w) : Q v H := h v F al H Post.refl g r
theorem RQ.valL {w : List W} {v : List V} {Q : List V → Hp → Prop} (h : LQ T K E σ F al H (.ok w S) Q) (g : Good T K F al S H) (r : RwL T K F al v w) : Q v H := h v F al H Post.refl g r
theorem RQ.new {xs : List V} {ws : List W} {Q : VK} (h : RQ T K E σ F al H (.ok (.tup ws) S) Q) (g : Good T K F al S H) (r : RwL T K F al xs ws) {p : Addr} (hp : H p = none) : Q (.ref p) (upd H p (.tup xs)) := by
  obtain ⟨a, b, c⟩ := g.newTup hp r
  exact h _ _ _ _ b a c
theorem RQ.newL {xs : List V} {ws : List W} {Q : VK} (h : RQ T K E σ F al H (.ok (.lst ws) S) Q) (g : Good T K F al S H) (r : RwL T K F al xs ws) {p : Addr} (hp : H p = none) : Q (.ref p) (upd H p (.lst xs)) := by
  obtain ⟨a, b, c⟩ := g.newLst hp r
  exact h _ _ _ _ b a c
theorem RQ.newC {xs : List V} {ws : List W} {Q : VK} (h : RQ T K E σ F al H (newCellR (.lst ws) S) Q) (g : Good T K F al S H) (r : RwL T K F al xs ws) {p : Addr} (hp : H p = none) : Q (.ref p) (upd H p (.lst xs)) := by
  obtain ⟨a, b, c⟩ := g.newCell hp (o := .lst xs) (c := .lst ws) ⟨xs, upd_same, g.notF hp, r.mono (Same.refl _) (Pre.app _ _)⟩
  exact h _ _ _ _ b a c
/-! ### how a value that may be changed looks now -/
inductive Vw (T : Tab) (K : PySem.W.Frag) (F : Hp) (al : List Addr) (H : Hp) : V → W → Prop
  | same {v : V} {w : W} : Rw T K F al v w → Vw T K F al H v w
  | cell {a : Addr} {xs : List V} {ws : List W} : H a = some (.lst xs) → RwL T K F al xs ws → Vw T K F al H (.ref a) (.lst ws)
theorem vw_of (g : Good T K F al S H) {v : V} {w : W} (r : Rw T K F al v w) : Vw T K F al H v (deref S w) := by
  cases r with
  | @loc a n ha =>
    cases q : S[n]? with
    | none => rw [show deref S (.loc n) = .loc n by simp only [deref, q]]; exact .same (.loc ha)
    | some c =>
      have hc := g.cell n a c ha q
      cases c with
      | lst ws => rw [show deref S (.loc n) = .lst ws by simp only [deref, q]]; obtain ⟨xs, h1, _, h3⟩ := hc; exact .cell h1 h3
      | frz w => rw [show deref S (.loc n) = w by simp only [deref, q]]; exact .same hc
      | _ => rw [show deref S (.loc n) = .loc n by simp only [deref, q]]; exact .same (.loc ha)
  | non => exact .same .non
  | bl b => exact .same (.bl b)
  | int b => exact .same (.int b)
  | str b => exact .same (.str b)
  | tup a b => exact .same (.tup a b)
  | lst a b => exact .same (.lst a b)
  | ins a l b => exact .same (.ins a l b)
  | tpx a d b => exact .same (.tup (.inl (.inr ⟨_, a⟩)) b)
  | opq a => exact .same (.opq a)
  | opx a b c => exact .same (.opx a b c)
  | lam a b => exact .same (.lam a b)
  | fn a => exact .same (.fn a)
theorem Vw.lst (s : Same F H) {v : V} {ws : List W} (r : Vw T K F al H v (.lst ws)) : ∃ a xs, v = .ref a ∧ SqL K H a xs ∧ RwL T K F al xs ws := by
  cases r with
  | same r => cases r with
    | lst q r => exact ⟨_, _, rfl, sqL_mono s q, r⟩
  | cell h r => exact ⟨_, _, rfl, SqL.of h, r⟩
theorem Vw.tup (s : Same F H) {v : V} {ws : List W} (r : Vw T K F al H v (.tup ws)) : ∃ a xs, v = .ref a ∧ SqT K H a xs ∧ RwL T K F al xs ws := by
  cases r with
  | same r => cases r with
    | tup q r => exact ⟨_, _, rfl, sqT_mono s q, r⟩
theorem Vw.int {v : V} {i : Int} (r : Vw T K F al H v (.int i)) : v = .int i := by
  cases r with
  | same r => cases r; rfl
theorem Vw.str {v : V} {i : Str} (r : Vw T K F al H v (.str i)) : v = .str i := by
  cases r with
  | same r => cases r; rfl
theorem Vw.bl {v : V} {i : Bool} (r : Vw T K F al H v (.bl i)) : v = .bl i := by
  cases r with
  | same r => cases r; rfl
theorem Vw.insR {v : V} {c : Nat} {fs : List (Nat × W)} (r : Vw T K F al H v (.ins c fs)) : ∃ a, v = .ref a := by
  cases r with
  | same r => cases r with
    | ins _ _ _ => exact ⟨_, rfl⟩
theorem Vw.non {v : V} (r : Vw T K F al H v .non) : v = .non := by
  cases r with
  | same r => cases r; rfl
/-- of several values -/
def VwL (T : Tab) (K : PySem.W.Frag) (F : Hp) (al : List Addr) (H : Hp) : List V → List W → Prop := Paired (Vw T K F al H)
theorem vwL_of (g : Good T K F al S H) : ∀ {vs : List V} {ws : List W}, RwL T K F al vs ws → VwL T K F al H vs (ws.map (deref S))
  | _, _, .nil => .nil
  | _, _, .cons a b => .cons (vw_of g a) (vwL_of g b)
/-! ### plain data -/
mutual
def toP : W → PyData
  | .non => .none
  | .bl b => .bool b
  | .int i => .int i
  | .str s => .str s
  | .tup ws => .tuple (toPL ws)
  | .lst ws => .list (toPL ws)
  | .ins _ _ => .none
  | .loc _ => .none
  | .tpx _ => .none
  | .opq _ _ => .none
  | .lam => .none
  | .fn _ => .none
def toPL : List W → List PyData
  | [] => []
  | w :: ws => toP w :: toPL ws
end
mutual
theorem plain_eqv : ∀ (n m : Nat) (a b : W), W.plain n a = true → W.plain m b = true → PyData.eqv (toP a) (toP b) = W.eqv a b
  | _, _, .non, .non, _, _ => rfl
  | _, _, .non, .bl _, _, _ => rfl
  | _, _, .non, .int _, _, _ => rfl
  | _, _, .non, .str _, _, _ => rfl
  | _, _, .non, .tup _, _, _ => rfl
  | _, _, .non, .lst _, _, _ => rfl
  | _, _, .bl _, .non, _, _ => rfl
  | _, _, .bl _, .bl _, _, _ => rfl
  | _, _, .bl _, .int _, _, _ => rfl
  | _, _, .bl _, .str _, _, _ => rfl
  | _, _, .bl _, .tup _, _, _ => rfl
  | _, _, .bl _, .lst _, _, _ => rfl
  | _, _, .int _, .non, _, _ => rfl
  | _, _, .int _, .bl _, _, _ => rfl
  | _, _, .int _, .int _, _, _ => rfl
  | _, _, .int _, .str _, _, _ => rfl
  | _, _, .int _, .tup _, _, _ => rfl
  | _, _, .int _, .lst _, _, _ => rfl
  | _, _, .str _, .non, _, _ => rfl
  | _, _, .str _, .bl _, _, _ => rfl
  | _, _, .str _, .int _, _, _ => rfl
  | _, _, .str _, .str _, _, _ => rfl
  | _, _, .str _, .tup _, _, _ => rfl
  | _, _, .str _, .lst _, _, _ => rfl
  | _, _, .tup _, .non, _, _ => rfl
  | _, _, .tup _, .bl _, _, _ => rfl
  | _, _, .tup _, .int _, _, _ => rfl
  | _, _, .tup _, .str _, _, _ => rfl
  | n + 1, m + 1, .tup a, .tup b, h, k => plain_eqvL n m a b h k
  | _, _, .tup _, .lst _, _, _ => rfl
  | _, _, .lst _, .non, _, _ => rfl
  | _, _, .lst _, .bl _, _, _ => rfl
  | _, _, .lst _, .int _, _, _ => rfl
  | _, _, .lst _, .str _, _, _ => rfl
  | _, _, .lst _, .tup _, _, _ => rfl
  | n + 1, m + 1, .lst a, .lst b, h, k => plain_eqvL n m a b h k
theorem plain_eqvL : ∀ (n m : Nat) (a b : List W), W.plainL n a = true → W.plainL m b = true → PyData.eqvAll (toPL a) (toPL b) = W.eqvL a b
  | _, _, [], [], _, _ => rfl
  | _, _, [], _ :: _, _, _ => rfl
  | _, _, _ :: _, [], _, _ => rfl
  | n, m, a :: as, b :: bs, h, k => by
    rw [W.plainL, Bool.and_eq_true] at h k
    show (PyData.eqv (toP a) (toP b) && PyData.eqvAll (toPL as) (toPL bs)) = (W.eqv a b && W.eqvL as bs)
    rw [plain_eqv n m a b h.1 k.1, plain_eqvL n m as bs h.2 k.2]
end
mutual
theorem plain_lay : ∀ (n : Nat) (a : W), W.plain n a = true → (toP a).canLay0 = true ∧ (toP a).depth ≤ n
  | _, .non, _ => ⟨rfl, by simp [toP, PyData.depth]⟩
  | _, .bl _, _ => ⟨rfl, by simp [toP, PyData.depth]⟩
  | _, .int _, _ => ⟨rfl, by simp [toP, PyData.depth]⟩
  | n, .str s, h => ⟨by cases n <;> simpa [toP, PyData.canLay0, W.plain] using h, by simp [toP, PyData.depth]⟩
  | n + 1, .tup ws, h => by
    obtain ⟨a, b⟩ := plain_layL n ws h
    exact ⟨by simpa [toP, PyData.canLay0] using a, by simp only [toP, PyData.depth]; omega⟩
  | n + 1, .lst ws, h => by
    obtain ⟨a, b⟩ := plain_layL n ws h
    exact ⟨by simpa [toP, PyData.canLay0] using a, by simp only [toP, PyData.depth]; omega⟩
theorem plain_layL : ∀ (n : Nat) (a : List W), W.plainL n a = true → PyData.canLayAll0 (toPL a) = true ∧ PyData.depthAll (toPL a) ≤ n
  | _, [], _ => ⟨rfl, by simp [toPL, PyData.depthAll]⟩
  | n, a :: as, h => by
    rw [W.plainL, Bool.and_eq_true] at h
    obtain ⟨h1, h2⟩ := plain_lay n a h.1
    obtain ⟨h3, h4⟩ := plain_layL n as h.2
    refine ⟨?_, ?_⟩
    · simp only [toPL, PyData.canLayAll0, h1, h3, Bool.and_self]
    · simp only [toPL, PyData.depthAll]; omega
end
theorem plain_shaped {a : W} (h : W.plain 60 a = true) : SeqAt.shaped (toP a) = true := by
  obtain ⟨h1, h2⟩ := plain_lay 60 a h
  show ((toP a).canLay0 && decide ((toP a).depth ≤ 64)) = true
  rw [h1, decide_eq_true (by omega)]; rfl
mutual
theorem Rw.dp (s : Same F H) : ∀ (n : Nat) {v : V} {w : W}, Rw T K F al v w → W.plain n w = true → Dp K H v (toP w)
  | _, _, _, .non, _ => .non
  | _, _, _, .bl b, _ => .bl b
  | _, _, _, .int b, _ => .int b
  | _, _, _, .str b, _ => .str b
  | n + 1, _, _, .tup q r, h => .tup (sqT_mono s q) (RwL.dp s n r h)
  | n + 1, _, _, .lst q r, h => .lst (sqL_mono s q) (RwL.dp s n r h)
  | 0, _, _, .ins _ _ _, h => by simp [W.plain] at h
  | n + 1, _, _, .ins _ _ _, h => by simp [W.plain] at h
  | 0, _, _, .loc _, h => by simp [W.plain] at h
  | n + 1, _, _, .loc _, h => by simp [W.plain] at h
  | 0, _, _, .tpx _ _ _, h => by simp [W.plain] at h
  | n + 1, _, _, .tpx _ _ _, h => by simp [W.plain] at h
  | 0, _, _, .opq _, h => by simp [W.plain] at h
  | n + 1, _, _, .opq _, h => by simp [W.plain] at h
  | 0, _, _, .opx _ _ _, h => by simp [W.plain] at h
  | n + 1, _, _, .opx _ _ _, h => by simp [W.plain] at h
  | 0, _, _, .lam _ _, h => by simp [W.plain] at h
  | n + 1, _, _, .lam _ _, h => by simp [W.plain] at h
  | 0, _, _, .fn _, h => by simp [W.plain] at h
  | n + 1, _, _, .fn _, h => by simp [W.plain] at h
theorem RwL.dp (s : Same F H) : ∀ (n : Nat) {v : List V} {w : List W}, RwL T K F al v w → W.plainL n w = true → DpAll K H v (toPL w)
  | _, _, _, .nil, _ => .nil
  | n, _, _, .cons a b, h => by
    rw [W.plainL, Bool.and_eq_true] at h
    exact .cons (Rw.dp s n a h.1) (RwL.dp s n b h.2)
end
theorem Vw.dp (s : Same F H) {n : Nat} {v : V} {w : W} (r : Vw T K F al H v w) (h : W.plain n w = true) : Dp K H v (toP w) := by
  cases r with
  | same r => exact r.dp s n h
  | cell a r =>
    cases n with
    | zero => simp [W.plain] at h
    | succ n => exact .lst (.of a) (r.dp s n h)
end
end DL
set_option Elab.async false
set_option linter.all false
set_option maxRecDepth 100000
set_option maxHeartbeats 4000000
/-! Wd: operators and built-in functions over data. -/
namespace DL
open PySem PySem.Spec L2
theorem limit_eq : limit = sizeLine := by rw [sizeLine_eq]; rfl
/-! ### rules that lack -/
section
variable {X : Cx}
def rCatL (K : PySem.W.Frag) : R2 := fun x y H Q => ∃ l b xs zs, x = .ref l ∧ y = .ref b ∧ SqL K H l xs ∧ SqL K H b zs ∧ xs.length + zs.length ≤ sizeLine ∧ ∀ p, H p = none → Q (.ref p) (upd H p (.lst (xs ++ zs)))
theorem op_catL : OpR X (binaryOp .Add) (rCatL X.K) := by
  intro pins s σ H x y v u Q I rx ry h
  obtain ⟨l, b, xs, zs, rfl, rfl, hH, hB, hz, q⟩ := h
  cases rx
  cases ry
  obtain ⟨its, r, pl, _⟩ := I.list hH
  obtain ⟨its2, r2, pl2, _⟩ := I.list hB
  have hl := r.length
  have hl2 := r2.length
  obtain ⟨⟨cls, dd, data, sl⟩, ho, hc, n, hd⟩ := pl.isList
  obtain ⟨⟨cls2, dd2, data2, sl2⟩, ho2, hc2, n2, hd2⟩ := pl2.isList
  simp only at hc hd hc2 hd2
  subst hc hd hc2 hd2
  refine concat_meets ⟨_, ho, rfl⟩ ⟨_, ho2, rfl⟩ noFill_list_add seq_list_add PySem.F.slot_list_add PySem.F.entry_list_add (PySem.F.args_list_add_2 _ _) (PyProof.Rows.list_addW l b its.toArray its2.toArray n n2 dd dd2 sl sl2 (by rw [List.size_toArray, List.size_toArray]; omega)) ⟨ho, ho2, ?_⟩
  have ea : its.toArray ++ its2.toArray = (its ++ its2).toArray := by simp
  rw [ea]
  exact ⟨.ref _, _, I.lnew (t' := s.toks) (r.append r2) (by rw [List.length_append]; omega), rfl, q _ I.fresh⟩
theorem tuple_mul1 (l : Addr) (items : Array Value) (n : Nat) (dd : Option Addr) (sl : Array (Option Value)) (x : Int) (u : Tok) (c0 : (decide (x < -(2 ^ 63)) || decide (x ≥ 2 ^ 63)) = false) (c1 : (items.isEmpty || x == 1) = true) :
    Meets (Builtin.«tuple.__mul__» ⟨[.ref l, .int x u], []⟩) (fun _ R s => s.heap.get? l = some { cls := .type "tuple", dict := dd, data := .seq items n, slots := sl } ∧
      R (.ok (.ret (Value.ref l))) s) :=
  .of_wp fun prog w A R s h => by
    obtain ⟨hp, g, d, tk, os⟩ := s
    obtain ⟨hl, h⟩ := h
    have f1 := AutoSeq1.idx_int
    wp_walk using wpAny_loadPart' hl
    repeat (first
      | (refine wpAny_ite_false (decide_eq_false (by rw [c0]; exact Bool.false_ne_true)) ?_; wp_walk using wpAny_loadPart' hl)
      | (refine wpAny_ite_true (decide_eq_true (by rw [c1])) ?_; wp_walk using wpAny_loadPart' hl))
    exact ⟨_, rfl, h⟩
theorem tuple_mul0 (l : Addr) (items : Array Value) (n : Nat) (dd : Option Addr) (sl : Array (Option Value)) (x : Int) (u : Tok) (c0 : (decide (x < -(2 ^ 63)) || decide (x ≥ 2 ^ 63)) = false) (c1 : (items.isEmpty || x == 1) = false) (c2 : (decide (x ≤ 0) || items.isEmpty) = true) :
    Meets (Builtin.«tuple.__mul__» ⟨[.ref l, .int x u], []⟩) (fun _ R s => s.heap.get? l = some { cls := .type "tuple", dict := dd, data := .seq items n, slots := sl } ∧
      R (.ok (.ret (Value.ref s.heap.objs.size))) { s with heap := s.heap.push { cls := Value.type "tuple", data := Data.seq #[] }, toks := s.toks }) :=
  .of_wp fun prog w A R s h => by
    obtain ⟨hp, g, d, tk, os⟩ := s
    obtain ⟨hl, h⟩ := h
    have f1 := AutoSeq1.idx_int
    wp_walk using wpAny_loadPart' hl
    repeat (first
      | (refine wpAny_ite_false (decide_eq_false (by rw [c0]; exact Bool.false_ne_true)) ?_; wp_walk using wpAny_loadPart' hl)
      | (refine wpAny_ite_false (decide_eq_false (by rw [c1]; exact Bool.false_ne_true)) ?_; wp_walk using wpAny_loadPart' hl)
      | (refine wpAny_ite_true (decide_eq_true (by rw [c2])) ?_; wp_walk using wpAny_loadPart' hl))
    exact ⟨_, rfl, h⟩
def rRepA (K : PySem.W.Frag) : R2 := fun x y H Q => ∃ l k xs, x = .ref l ∧ y = .int k ∧ SqT K H l xs ∧ 0 ≤ k ∧ k ≤ 1000 ∧ xs.length ≤ 1000 ∧ ((xs = [] ∨ k = 1) → Q (.ref l) H) ∧
  (xs ≠ [] → k ≠ 1 → ∀ p, H p = none → Q (.ref p) (upd H p (.tup (List.replicate k.toNat xs).flatten)))
theorem op_repA : OpR X (binaryOp .Mult) (rRepA X.K) := by
  intro pins s σ H x y v u Q I rx ry h
  obtain ⟨l, k, xs, rfl, rfl, hT, h0, h2, hz, q1, q2⟩ := h
  by_cases h1 : 2 ≤ k ∧ xs ≠ []
  · exact op_repT pins s σ H _ _ v u Q I rx ry ⟨l, k, xs, rfl, rfl, hT, h1.2, h1.1, h2, hz, q2 h1.2 (by omega)⟩
  cases rx
  obtain ⟨t, rfl⟩ := ry
  obtain ⟨its, r, ⟨⟨cls, dd, data, sl⟩, ho, hc, n, hd⟩, hs⟩ := I.tuple hT
  simp only at hc hd
  subst hc hd
  have hle : its.length = xs.length := r.length.symm
  have c0 : (decide (k < -(2 ^ 63)) || decide (k ≥ 2 ^ 63)) = false := by
    rw [decide_eq_false (by omega), decide_eq_false (by omega)] <;> rfl
  by_cases hx : xs = [] ∨ k = 1
  · have c1 : (its.toArray.isEmpty || k == 1) = true := by
      rcases hx with e | e
      · subst e
        cases its with
        | nil => rfl
        | cons a b => simp at hle
      · subst e; simp
    refine wpAny_binaryOp_repeat_ref (T := "tuple") (U := "int") (by decide) ⟨_, ho, rfl⟩ (fun s' => typeIs_int s' k t) noFill_tuple_mul F.fills_int_mul F.slot_int_rmul repeat_tuple F.slot_int_index.lookup
      (call_meets F.slot_int_rmul (typeIs_int s k t) F.entry_int_rmul (F.args_int_rmul_2 _ _) (int_rmul_tuple k t l its.toArray n dd sl)
        ⟨ho, rfl, ⟨_, ho, rfl⟩, call_meets F.slot_tuple_mul ⟨_, ho, rfl⟩ F.entry_tuple_mul (F.args_tuple_mul_2 _ _) (tuple_mul1 l its.toArray n dd sl k t c0 c1) ⟨ho, ?_⟩⟩)
    exact ⟨.ref l, H, I, rfl, q1 hx⟩
  · have hx1 : xs ≠ [] := fun e => hx (.inl e)
    have hx2 : k ≠ 1 := fun e => hx (.inr e)
    have hk : k = 0 := by
      by_cases h3 : 2 ≤ k
      · exact absurd ⟨h3, hx1⟩ h1
      · omega
    subst hk
    have c1 : (its.toArray.isEmpty || (0 : Int) == 1) = false := by
      cases its with
      | nil => exact absurd (List.eq_nil_of_length_eq_zero hle.symm) hx1
      | cons a b => rfl
    refine wpAny_binaryOp_repeat_ref (T := "tuple") (U := "int") (by decide) ⟨_, ho, rfl⟩ (fun s' => typeIs_int s' 0 t) noFill_tuple_mul F.fills_int_mul F.slot_int_rmul repeat_tuple F.slot_int_index.lookup
      (call_meets F.slot_int_rmul (typeIs_int s 0 t) F.entry_int_rmul (F.args_int_rmul_2 _ _) (int_rmul_tuple 0 t l its.toArray n dd sl)
        ⟨ho, rfl, ⟨_, ho, rfl⟩, call_meets F.slot_tuple_mul ⟨_, ho, rfl⟩ F.entry_tuple_mul (F.args_tuple_mul_2 _ _) (tuple_mul0 l its.toArray n dd sl 0 t c0 c1 rfl) ⟨ho, ?_⟩⟩)
    refine ⟨.ref _, _, I.laid (t' := s.toks) (o := .tup []) (fun b o e => Heap.get?_push_of_some _ e) (Nat.le_refl _) ⟨Nat.zero_le _, [], .nil, ⟨_, Heap.get?_push_size _ rfl, rfl, 0, rfl⟩⟩, rfl, ?_⟩
    have := q2 hx1 hx2 _ I.fresh
    simpa using this
def rInT (K : PySem.W.Frag) : R2 := fun x y H Q => ∃ d ds, Dp K H x d ∧ Dp K H y (.tuple ds) ∧ SeqAt.shaped d = true ∧ SeqAt.shaped (.tuple ds) = true ∧ Q (.bl (ds.any fun z => PyData.eqv z d)) H
def rNotInT (K : PySem.W.Frag) : R2 := fun x y H Q => ∃ d ds, Dp K H x d ∧ Dp K H y (.tuple ds) ∧ SeqAt.shaped d = true ∧ SeqAt.shaped (.tuple ds) = true ∧ Q (.bl (!ds.any fun z => PyData.eqv z d)) H
theorem op_inT (hu : X.A.units + 65 < cLine) : OpR X (compareOp .In) (rInT X.K) := by
  intro pins s σ H x y v u Q I rx ry h
  obtain ⟨d, ds, hd, he, sd, se, q⟩ := h
  obtain ⟨as, r1⟩ := Dp.reads I d x v hd rx
  obtain ⟨bs, r2⟩ := Dp.reads I (.tuple ds) y u he ry
  exact SeqAt.in_tuple_reads r2 r1 (SeqAt.canLay_of_shaped se) (SeqAt.canLay_of_shaped sd) (PyProof.Rows.room_in_shaped sd hu) ⟨.bl _, H, I, rfl, q⟩
theorem op_notInT (hu : X.A.units + 65 < cLine) : OpR X (compareOp .NotIn) (rNotInT X.K) := by
  intro pins s σ H x y v u Q I rx ry h
  obtain ⟨d, ds, hd, he, sd, se, q⟩ := h
  obtain ⟨as, r1⟩ := Dp.reads I d x v hd rx
  obtain ⟨bs, r2⟩ := Dp.reads I (.tuple ds) y u he ry
  exact SeqAt.notIn_tuple_reads r2 r1 (SeqAt.canLay_of_shaped se) (SeqAt.canLay_of_shaped sd) (PyProof.Rows.room_in_shaped sd hu) ⟨.bl _, H, I, rfl, q⟩
end
/-- pairs of plain things, as far as both rows go -/
def EqPs (K : PySem.W.Frag) (H : Hp) : List V → List V → List Bool → Prop
  | x :: xs, y :: ys, k :: ks => (∃ d e, Dp K H x d ∧ Dp K H y e ∧ SeqAt.shaped d = true ∧ SeqAt.shaped e = true ∧ PyData.eqv d e = k) ∧ EqPs K H xs ys ks
  | [], _, [] => True
  | _ :: _, [], [] => True
  | _, _, _ => False
def rEqTl (K : PySem.W.Frag) : R2 := fun x y H Q => ∃ a b xs ys ks, x = .ref a ∧ y = .ref b ∧ SqT K H a xs ∧ SqT K H b ys ∧ EqPs K H xs ys ks ∧ Q (.bl (ks.all id && xs.length == ys.length)) H
def rNeTl (K : PySem.W.Frag) : R2 := fun x y H Q => ∃ a b xs ys ks, x = .ref a ∧ y = .ref b ∧ SqT K H a xs ∧ SqT K H b ys ∧ EqPs K H xs ys ks ∧ Q (.bl (!(ks.all id && xs.length == ys.length))) H
theorem eqPs_len {K : PySem.W.Frag} {H : Hp} : ∀ {xs ys : List V} {ks : List Bool}, EqPs K H xs ys ks → ks.length = min xs.length ys.length
  | x :: xs, y :: ys, k :: ks, h => by simp [eqPs_len h.2, Nat.add_min_add_right]
  | [], [], [], _ => rfl
  | [], _ :: _, [], _ => by simp
  | _ :: _, [], [], _ => by simp
  | [], [], _ :: _, h => h.elim
  | [], _ :: _, _ :: _, h => h.elim
  | _ :: _, [], _ :: _, h => h.elim
  | _ :: _, _ :: _, [], h => h.elim
theorem eqPs_at {X : Cx} {pins : List (Addr × Obj)} {σ : L2.St} {H : Hp} {s : Shared} {A : Around} (I : Inv X pins σ H s) (hu : A.units + 64 < cLine) : ∀ {xs ys : List V} {ks : List Bool} {us vs : List Value} {j : Nat}, EqPs X.K H xs ys ks → Vals xs us → Vals ys vs → ∀ (h1 : j < us.length) (h2 : j < vs.length), SeqAt.EqAt A s us[j] vs[j] (ks.getD j false)
  | x :: xs, y :: ys, k :: ks, u :: us, v :: vs, 0, h, .cons ru _, .cons rv _, _, _ => by
    obtain ⟨d, e, hd, he, sd, se, rfl⟩ := h.1
    obtain ⟨as, r1⟩ := Dp.reads I d x u hd ru
    obtain ⟨bs, r2⟩ := Dp.reads I e y v he rv
    refine SeqAt.eqAt_reads d e A s u v as bs r1 r2 (SeqAt.canLay_of_shaped sd) (SeqAt.canLay_of_shaped se) ?_
    have := SeqAt.room_of_shaped (A := A) (db := e) sd hu
    exact this
  | x :: xs, y :: ys, k :: ks, u :: us, v :: vs, j + 1, h, .cons _ rus, .cons _ rvs, h1, h2 => by
    have := eqPs_at (j := j) I hu h.2 rus rvs (by simpa using h1) (by simpa using h2)
    simpa using this
  | [], _, [], [], _, _, _, .nil, _, h1, _ => by simp at h1
  | _ :: _, [], [], _ :: _, [], _, _, _, .nil, _, h2 => by simp at h2
theorem all_get {ks : List Bool} {m : Nat} (h : ks.length = m) : (List.range m).all (fun j => ks.getD j false) = ks.all id := by
  subst h
  induction ks with
  | nil => rfl
  | cons k ks ih =>
    rw [List.length_cons, List.range_succ_eq_map, List.all_cons, List.all_map, List.all_cons]
    show (k && (List.range ks.length).all (fun j => (k :: ks).getD (j + 1) false)) = _
    rw [show (fun j => (k :: ks).getD (j + 1) false) = fun j => ks.getD j false from funext fun j => by simp, ih]
    rfl
section
variable {X : Cx}
theorem eqTl_of {pins : List (Addr × Obj)} {σ : L2.St} {H : Hp} {s : Shared} (hu : X.A.units + 66 < cLine) {a b : Addr} {xs ys : List V} {ks : List Bool} (I : Inv X pins σ H s) (ha : SqT X.K H a xs) (hb : SqT X.K H b ys) (hp : EqPs X.K H xs ys ks) :
    ∃ (items items2 : Array Value), s.heap.IsTuple a items ∧ s.heap.IsTuple b items2 ∧ (∀ j (h1 : j < items.size) (h2 : j < items2.size), SeqAt.EqAt X.A.in1 s items[j] items2[j] (ks.getD j false)) ∧ ((List.range (min items.size items2.size)).all (fun j => ks.getD j false) && items.size == items2.size) = (ks.all id && xs.length == ys.length) := by
  obtain ⟨us, ru, ⟨o1, p1, p2, p3⟩, _⟩ := I.tuple ha
  obtain ⟨vs, rv, ⟨o2, q1, q2, q3⟩, _⟩ := I.tuple hb
  have l1 := ru.length
  have l2 := rv.length
  refine ⟨us.toArray, vs.toArray, ⟨o1, p1, p2, p3⟩, ⟨o2, q1, q2, q3⟩, fun j h1 h2 => ?_, ?_⟩
  · have := eqPs_at (A := X.A.in1) (j := j) I (by show X.A.units + 1 + 64 < cLine; omega) hp ru rv (by simpa using h1) (by simpa using h2)
    simpa using this
  · rw [List.size_toArray, List.size_toArray, ← l1, ← l2, all_get (eqPs_len hp)]
theorem op_eqTl (hu : X.A.units + 66 < cLine) : OpR X (compareOp .Eq) (rEqTl X.K) := by
  intro pins s σ H x y v u Q I rx ry h
  obtain ⟨a, b, xs, ys, ks, rfl, rfl, ha, hb, hp, q⟩ := h
  cases rx; cases ry
  obtain ⟨i1, i2, t1, t2, he, e⟩ := eqTl_of hu I ha hb hp
  exact SeqAt.eq_tupleAt t1 t2 (by omega) he ⟨.bl _, H, I, rfl, by rw [e]; exact q⟩
theorem op_neTl (hu : X.A.units + 66 < cLine) : OpR X (compareOp .NotEq) (rNeTl X.K) := by
  intro pins s σ H x y v u Q I rx ry h
  obtain ⟨a, b, xs, ys, ks, rfl, rfl, ha, hb, hp, q⟩ := h
  cases rx; cases ry
  obtain ⟨i1, i2, t1, t2, he, e⟩ := eqTl_of hu I ha hb hp
  exact SeqAt.RcNeAt.tuples t1 t2 (by omega) he X.prog X.w _ _ ⟨.bl _, H, I, rfl, by rw [e]; exact q⟩
def rEqLl (K : PySem.W.Frag) : R2 := fun x y H Q => ∃ a b xs ys, x = .ref a ∧ y = .ref b ∧ SqL K H a xs ∧ SqL K H b ys ∧ ((xs.length ≠ ys.length ∧ Q (.bl false) H) ∨ (xs.length = ys.length ∧ ∃ ks, EqPs K H xs ys ks ∧ Q (.bl (ks.all id)) H))
def rNeLl (K : PySem.W.Frag) : R2 := fun x y H Q => ∃ a b xs ys, x = .ref a ∧ y = .ref b ∧ SqL K H a xs ∧ SqL K H b ys ∧ ((xs.length ≠ ys.length ∧ Q (.bl true) H) ∨ (xs.length = ys.length ∧ ∃ ks, EqPs K H xs ys ks ∧ Q (.bl (!(ks.all id))) H))
theorem eqLl_of {pins : List (Addr × Obj)} {σ : L2.St} {H : Hp} {s : Shared} (hu : X.A.units + 66 < cLine) {a b : Addr} {xs ys : List V} (I : Inv X pins σ H s) (ha : SqL X.K H a xs) (hb : SqL X.K H b ys) :
    ∃ (items items2 : Array Value), s.heap.IsList a items ∧ s.heap.IsList b items2 ∧ items.size = xs.length ∧ items2.size = ys.length ∧ (∀ ks, EqPs X.K H xs ys ks → ∀ j (h1 : j < items.size) (h2 : j < items2.size), SeqAt.EqAt X.A.in1 s items[j] items2[j] (ks.getD j false)) := by
  obtain ⟨us, ru, ⟨o1, n1, p1, p2, p3, p4⟩, _⟩ := I.list ha
  obtain ⟨vs, rv, ⟨o2, n2, q1, q2, q3, q4⟩, _⟩ := I.list hb
  have l1 := ru.length
  have l2 := rv.length
  refine ⟨us.toArray, vs.toArray, ⟨o1, p1, p2, n1, p4⟩, ⟨o2, q1, q2, n2, q4⟩, by rw [List.size_toArray, l1], by rw [List.size_toArray, l2], fun ks hp j h1 h2 => ?_⟩
  have := eqPs_at (A := X.A.in1) (j := j) I (by show X.A.units + 1 + 64 < cLine; omega) hp ru rv (by simpa using h1) (by simpa using h2)
  simpa using this
theorem op_eqLl (hu : X.A.units + 66 < cLine) : OpR X (compareOp .Eq) (rEqLl X.K) := by
  intro pins s σ H x y v u Q I rx ry h
  obtain ⟨a, b, xs, ys, rfl, rfl, ha, hb, h⟩ := h
  cases rx; cases ry
  obtain ⟨i1, i2, t1, t2, z1, z2, he⟩ := eqLl_of hu I ha hb
  rcases h with ⟨hn, q⟩ | ⟨hl, ks, hp, q⟩
  · exact SeqAt.eq_list_lengthsAt t1 t2 (by rw [z1, z2]; simpa using hn) (by omega) ⟨.bl _, H, I, rfl, q⟩
  · refine SeqAt.eq_listAt t1 t2 (by rw [z1, z2]; exact hl) (by omega) (he ks hp) ⟨.bl _, H, I, rfl, ?_⟩
    have e : (List.range i1.size).all (fun j => ks.getD j false) = ks.all id := all_get (by rw [eqPs_len hp, z1, ← hl, Nat.min_self])
    show Q (.bl ((List.range i1.size).all (fun j => ks.getD j false))) H
    rw [e]; exact q
theorem op_neLl (hu : X.A.units + 66 < cLine) : OpR X (compareOp .NotEq) (rNeLl X.K) := by
  intro pins s σ H x y v u Q I rx ry h
  obtain ⟨a, b, xs, ys, rfl, rfl, ha, hb, h⟩ := h
  cases rx; cases ry
  obtain ⟨i1, i2, t1, t2, z1, z2, he⟩ := eqLl_of hu I ha hb
  rcases h with ⟨hn, q⟩ | ⟨hl, ks, hp, q⟩
  · exact SeqAt.RcNeAt.lists_lengths t1 t2 (by rw [z1, z2]; simpa using hn) (by omega) X.prog X.w _ _ ⟨.bl _, H, I, rfl, q⟩
  · refine SeqAt.RcNeAt.lists t1 t2 (by rw [z1, z2]; exact hl) (by omega) (he ks hp) X.prog X.w _ _ ⟨.bl _, H, I, rfl, ?_⟩
    have e : (List.range i1.size).all (fun j => ks.getD j false) = ks.all id := all_get (by rw [eqPs_len hp, z1, ← hl, Nat.min_self])
    show Q (.bl (!((List.range i1.size).all (fun j => ks.getD j false)))) H
    rw [e]; exact q
end
/-! ### the operators, each with all its ways -/
def rNo : R2 := fun _ _ _ _ => False
theorem op_no {X : Cx} {f : Value → Value → Sem Value} : OpR X f rNo := fun _ _ _ _ _ _ _ _ _ _ _ _ h => h.elim
def rOr (a b : R2) : R2 := fun x y H Q => a x y H Q ∨ b x y H Q
def rBin (K : PySem.W.Frag) : Operator → R2
  | .Add => rOr (rI0 fun i j => .int (i + j)) (rOr (fun x y H Q => ∃ i j, x = .str i ∧ y = .str j ∧ i.length + j.length ≤ sizeLine ∧ Q (.str (i ++ j)) H) (rOr (rCatA K) (rCatL K)))
  | .Sub => rI0 fun i j => .int (i - j)
  | .Mult => rOr (rI CMul fun i j => .int (i * j)) (rRepA K)
  | .FloorDiv => rI CDivW fun i j => .int (i / j)
  | .Mod => rI (fun _ j => 0 < j) fun i j => .int (i % j)
  | .Pow => rI CPow fun i j => .int (i ^ j.toNat)
  | _ => rNo
theorem op_bin {X : Cx} (o : Operator) : OpR X (binaryOp o) (rBin X.K o) := by
  cases o with
  | Add => exact op_add.or (op_add_str.or (op_catA.or op_catL))
  | Sub => exact op_sub
  | Mult => exact op_mul.or op_repA
  | FloorDiv => exact op_fdivW
  | Mod => exact op_mod
  | Pow => exact op_pow
  | _ => exact op_no
section
variable {T : Tab} {K : PySem.W.Frag} {E : WX} {σ : L2.St} {ρ : Env} {F F' : Hp} {al al' : List Addr} {H H' : Hp} {S S' : Sto}
theorem flat_one {α : Type} (xs : List α) : (List.replicate (1 : Int).toNat xs).flatten = xs := by
  show (List.replicate 1 xs).flatten = xs
  simp
theorem flat_nil {α : Type} (k : Nat) : (List.replicate k ([] : List α)).flatten = [] := by
  induction k with
  | zero => rfl
  | succ k ih => rw [List.replicate_succ, List.flatten_cons, ih]; rfl
theorem divLim_ok {i j : Int} (h : 0 < j) (h2 : j < divLim) : CDivW i j := by
  refine wide_div (b := 300) h ?_ (by decide) (by decide)
  have h3 : divLim.toNat < 2 ^ 300 := by decide
  omega
theorem bin_sound {o : Operator} {x y : V} {a b : W} {Q : VK} (g : Good T K F al S H) (rx : Vw T K F al H x a) (ry : Vw T K F al H y b) (h : RQ T K E σ F al H (optR S (binop o a b)) Q) : rBin K o x y H Q := by
  cases e : binop o a b with
  | none => rw [e] at h; exact h.elim
  | some w =>
    rw [e] at h
    replace h : RQ T K E σ F al H (.ok w S) Q := h
    unfold binop at e
    split at e
    · cases e; cases rx.int; cases ry.int
      exact .inl ⟨_, _, rfl, rfl, h.val g (.int _)⟩
    · split at e
      · cases e; cases rx.str; cases ry.str
        rename_i hl
        exact .inr (.inl ⟨_, _, rfl, rfl, by rw [← limit_eq]; exact hl, h.val g (.str _)⟩)
      · cases e
    · split at e
      · cases e
        rename_i xs ys hl
        obtain ⟨p, us, rfl, hp, r1⟩ := rx.tup g.sub
        obtain ⟨q, vs, rfl, hq, r2⟩ := ry.tup g.sub
        refine .inr (.inr (.inl ⟨p, q, us, vs, rfl, rfl, hp, hq, by rw [← limit_eq, r1.length, r2.length]; exact hl, fun e => ?_, fun _ e => ?_, fun _ _ t ht => ?_⟩))
        · subst e
          have : xs = [] := by cases r1; rfl
          subst this
          refine h.val g ?_
          rw [List.nil_append]
          cases ry with
          | same r => exact r
        · subst e
          have : ys = [] := by cases r2; rfl
          subst this
          refine h.val g ?_
          rw [List.append_nil]
          cases rx with
          | same r => exact r
        · exact h.new g (r1.append r2) ht
      · cases e
    · split at e
      · cases e
        rename_i xs ys hl
        obtain ⟨p, us, rfl, hp, r1⟩ := rx.lst g.sub
        obtain ⟨q, vs, rfl, hq, r2⟩ := ry.lst g.sub
        exact .inr (.inr (.inr ⟨p, q, us, vs, rfl, rfl, hp, hq, by rw [← limit_eq, r1.length, r2.length]; exact hl, fun t ht => h.newL g (r1.append r2) ht⟩))
      · cases e
    · cases e; cases rx.int; cases ry.int
      exact ⟨_, _, rfl, rfl, h.val g (.int _)⟩
    · split at e
      · cases e; cases rx.int; cases ry.int
        rename_i hl
        refine .inl ⟨_, _, rfl, rfl, ?_, h.val g (.int _)⟩
        unfold mulOk at hl
        simpa [CMul] using hl
      · cases e
    · split at e
      · cases e; cases ry.int
        rename_i xs k hl
        obtain ⟨p, us, rfl, hp, r1⟩ := rx.tup g.sub
        simp only [Bool.and_eq_true, decide_eq_true_eq] at hl
        refine .inr ⟨p, _, us, rfl, rfl, hp, hl.1.1, hl.1.2, by rw [r1.length]; exact hl.2, fun e => ?_, fun _ _ t ht => h.new g (r1.rep _) ht⟩
        refine h.val g ?_
        rcases e with e | e
        · subst e
          have : xs = [] := by cases r1; rfl
          subst this
          rw [flat_nil]
          cases rx with
          | same r => exact r
        · subst e
          rw [flat_one]
          cases rx with
          | same r => exact r
      · cases e
    · split at e
      · cases e; cases rx.int; cases ry.int
        rename_i hl
        exact ⟨_, _, rfl, rfl, divLim_ok hl.1 hl.2, h.val g (.int _)⟩
      · cases e
    · split at e
      · cases e; cases rx.int; cases ry.int
        rename_i hl
        exact ⟨_, _, rfl, rfl, hl, h.val g (.int _)⟩
      · cases e
    · split at e
      · cases e; cases rx.int; cases ry.int
        rename_i hl
        exact ⟨_, _, rfl, rfl, hl, h.val g (.int _)⟩
      · cases e
    · cases e
def rIsN : R2 := fun x y H Q => y = .non ∧ Q (.bl (decide (x = .non))) H
def rNotN : R2 := fun x y H Q => y = .non ∧ Q (.bl (!decide (x = .non))) H
def rCmp (K : PySem.W.Frag) : CmpOp → R2
  | .Eq => rOr (rEqD K) (rOr (rEqTl K) (rEqLl K))
  | .NotEq => rOr (rNeD K) (rOr (rNeTl K) (rNeLl K))
  | .Lt => rI0 fun i j => .bl (decide (i < j))
  | .LtE => rI0 fun i j => .bl (decide (i ≤ j))
  | .Gt => rI0 fun i j => .bl (decide (j < i))
  | .GtE => rI0 fun i j => .bl (decide (j ≤ i))
  | .Is => rOr DL.rIsN rIsB
  | .IsNot => rOr DL.rNotN rNotB
  | .In => rOr (rInT K) (rInD K)
  | .NotIn => rOr (rNotInT K) (rNotInD K)
theorem op_cmp {X : Cx} {k : Nat} (hr : Room k X.A) (o : CmpOp) : OpR X (compareOp o) (rCmp X.K o) := by
  have hu : X.A.units + 66 < cLine := by have := hr.un; omega
  cases o with
  | Eq => exact (op_eqD (by omega)).or ((op_eqTl hu).or (op_eqLl hu))
  | NotEq => exact (op_neD (by omega)).or ((op_neTl hu).or (op_neLl hu))
  | Lt => exact op_lt
  | LtE => exact op_le
  | Gt => exact op_gt
  | GtE => exact op_ge
  | Is => exact op_isN.or op_isBl
  | IsNot => exact op_notN.or op_notBl
  | In => exact (op_inT (by omega)).or (op_inD (by omega))
  | NotIn => exact (op_notInT (by omega)).or (op_notInD (by omega))
theorem anyL : ∀ (n m : Nat) (ys : List W) (x : W), W.plainL n ys = true → W.plain m x = true → ((toPL ys).any fun z => PyData.eqv z (toP x)) = ys.any fun y => W.eqv y x
  | _, _, [], _, _, _ => rfl
  | n, m, y :: ys, x, h, k => by
    rw [W.plainL, Bool.and_eq_true] at h
    show (PyData.eqv (toP y) (toP x) || (toPL ys).any fun z => PyData.eqv z (toP x)) = (W.eqv y x || ys.any fun y => W.eqv y x)
    rw [plain_eqv n m y x h.1 k, anyL n m ys x h.2 k]
theorem shapedL {ws : List W} (h : W.plainL 60 ws = true) : SeqAt.shaped (.tuple (toPL ws)) = true ∧ SeqAt.shaped (.list (toPL ws)) = true := by
  obtain ⟨h1, h2⟩ := plain_layL 60 ws h
  have d1 : (PyData.tuple (toPL ws)).depth ≤ 64 := by simp only [PyData.depth]; omega
  have d2 : (PyData.list (toPL ws)).depth ≤ 64 := by simp only [PyData.depth]; omega
  have c1 : (PyData.tuple (toPL ws)).canLay0 = true := by simpa only [PyData.canLay0] using h1
  have c2 : (PyData.list (toPL ws)).canLay0 = true := by simpa only [PyData.canLay0] using h1
  refine ⟨?_, ?_⟩
  · show ((PyData.tuple (toPL ws)).canLay0 && decide ((PyData.tuple (toPL ws)).depth ≤ 64)) = true
    rw [c1, decide_eq_true d1]; rfl
  · show ((PyData.list (toPL ws)).canLay0 && decide ((PyData.list (toPL ws)).depth ≤ 64)) = true
    rw [c2, decide_eq_true d2]; rfl
theorem cmpEq_some {a b : W} {k : Bool} (h : cmpEq a b = some k) : (W.plain 60 a = true ∧ W.plain 60 b = true ∧ k = W.eqv a b) ∨ (∃ xs ys, a = .tup xs ∧ b = .tup ys ∧ eqTl xs ys = some k) ∨ ∃ xs ys, a = .lst xs ∧ b = .lst ys ∧ ((xs.length ≠ ys.length ∧ k = false) ∨ (xs.length = ys.length ∧ eqTl xs ys = some k)) := by
  unfold cmpEq at h
  split at h
  · rename_i hp
    rw [Bool.and_eq_true] at hp
    cases h
    exact .inl ⟨hp.1, hp.2, rfl⟩
  · split at h
    · exact .inr (.inl ⟨_, _, rfl, rfl, h⟩)
    · split at h
      · rename_i hl
        exact .inr (.inr ⟨_, _, rfl, rfl, .inr ⟨hl, h⟩⟩)
      · rename_i hl
        cases h
        exact .inr (.inr ⟨_, _, rfl, rfl, .inl ⟨hl, rfl⟩⟩)
    · cases h
theorem memW_some {a : W} {ys : List W} {k : Bool} (h : memW a ys = some k) : W.plain 60 a = true ∧ W.plainL 60 ys = true ∧ k = ys.any fun y => W.eqv y a := by
  unfold memW at h
  split at h
  · rename_i hp
    rw [Bool.and_eq_true] at hp
    cases h
    exact ⟨hp.1, hp.2, rfl⟩
  · cases h
theorem eqTl_sound {s : Same F H} : ∀ {xs ys : List W} {us vs : List V} {k : Bool}, eqTl xs ys = some k → RwL T K F al us xs → RwL T K F al vs ys → ∃ ks, EqPs K H us vs ks ∧ (ks.all id && us.length == vs.length) = k
  | [], [], _, _, _, e, .nil, .nil => by cases e; exact ⟨[], trivial, rfl⟩
  | [], _ :: _, _, _, _, e, .nil, .cons _ _ => by cases e; exact ⟨[], trivial, rfl⟩
  | _ :: _, [], _, _, _, e, .cons _ _, .nil => by cases e; exact ⟨[], trivial, rfl⟩
  | x :: xs, y :: ys, _, _, k, e, .cons rx rxs, .cons ry rys => by
    unfold eqTl at e
    split at e
    · rename_i hp
      rw [Bool.and_eq_true] at hp
      rw [Option.map_eq_some_iff] at e
      obtain ⟨k2, e2, rfl⟩ := e
      obtain ⟨ks, h1, h2⟩ := eqTl_sound (s := s) e2 rxs rys
      refine ⟨W.eqv x y :: ks, ⟨⟨_, _, (Vw.same rx).dp s hp.1, (Vw.same ry).dp s hp.2, plain_shaped hp.1, plain_shaped hp.2, plain_eqv 60 60 x y hp.1 hp.2⟩, h1⟩, ?_⟩
      rw [← h2]
      simp [Bool.and_assoc]
    · cases e
theorem cmp_sound {o : CmpOp} {x y : V} {a b : W} {k : Bool} {Q : VK} (g : Good T K F al S H) (rx : Vw T K F al H x a) (ry : Vw T K F al H y b) (e : cmpop o a b = some k) (h : Q (.bl k) H) : rCmp K o x y H Q := by
  have nref : ∀ p : Addr, decide (V.ref p = V.non) = false := fun p => decide_eq_false (fun z => nomatch z)
  unfold cmpop at e
  split at e
  · rcases cmpEq_some e with ⟨h1, h2, rfl⟩ | ⟨xs, ys, rfl, rfl, e2⟩ | ⟨xs, ys, rfl, rfl, e2⟩
    · exact .inl ⟨_, _, rx.dp g.sub h1, ry.dp g.sub h2, plain_shaped h1, plain_shaped h2, by rw [plain_eqv 60 60 a b h1 h2]; exact h⟩
    · obtain ⟨p1, us, rfl, t1, r1⟩ := rx.tup g.sub
      obtain ⟨p2, vs, rfl, t2, r2⟩ := ry.tup g.sub
      obtain ⟨ks, h1, h2⟩ := eqTl_sound (s := g.sub) e2 r1 r2
      exact .inr (.inl ⟨p1, p2, us, vs, ks, rfl, rfl, t1, t2, h1, by rw [h2]; exact h⟩)
    · obtain ⟨p1, us, rfl, t1, r1⟩ := rx.lst g.sub
      obtain ⟨p2, vs, rfl, t2, r2⟩ := ry.lst g.sub
      refine .inr (.inr ⟨p1, p2, us, vs, rfl, rfl, t1, t2, ?_⟩)
      rcases e2 with ⟨hn, rfl⟩ | ⟨hl, e2⟩
      · exact .inl ⟨by rw [r1.length, r2.length]; exact hn, h⟩
      · obtain ⟨ks, h1, h2⟩ := eqTl_sound (s := g.sub) e2 r1 r2
        have hl2 : us.length = vs.length := by rw [r1.length, r2.length]; exact hl
        refine .inr ⟨hl2, ks, h1, ?_⟩
        rw [hl2, beq_self_eq_true, Bool.and_true] at h2
        rw [h2]; exact h
  · rw [Option.map_eq_some_iff] at e
    obtain ⟨k2, e, rfl⟩ := e
    rcases cmpEq_some e with ⟨h1, h2, rfl⟩ | ⟨xs, ys, rfl, rfl, e2⟩ | ⟨xs, ys, rfl, rfl, e2⟩
    · exact .inl ⟨_, _, rx.dp g.sub h1, ry.dp g.sub h2, plain_shaped h1, plain_shaped h2, by rw [plain_eqv 60 60 a b h1 h2]; exact h⟩
    · obtain ⟨p1, us, rfl, t1, r1⟩ := rx.tup g.sub
      obtain ⟨p2, vs, rfl, t2, r2⟩ := ry.tup g.sub
      obtain ⟨ks, h1, h2⟩ := eqTl_sound (s := g.sub) e2 r1 r2
      exact .inr (.inl ⟨p1, p2, us, vs, ks, rfl, rfl, t1, t2, h1, by rw [h2]; exact h⟩)
    · obtain ⟨p1, us, rfl, t1, r1⟩ := rx.lst g.sub
      obtain ⟨p2, vs, rfl, t2, r2⟩ := ry.lst g.sub
      refine .inr (.inr ⟨p1, p2, us, vs, rfl, rfl, t1, t2, ?_⟩)
      rcases e2 with ⟨hn, rfl⟩ | ⟨hl, e2⟩
      · exact .inl ⟨by rw [r1.length, r2.length]; exact hn, h⟩
      · obtain ⟨ks, h1, h2⟩ := eqTl_sound (s := g.sub) e2 r1 r2
        have hl2 : us.length = vs.length := by rw [r1.length, r2.length]; exact hl
        refine .inr ⟨hl2, ks, h1, ?_⟩
        rw [hl2, beq_self_eq_true, Bool.and_true] at h2
        rw [h2]; exact h
  · cases e; cases rx.int; cases ry.int; exact ⟨_, _, rfl, rfl, h⟩
  · cases e; cases rx.int; cases ry.int; exact ⟨_, _, rfl, rfl, h⟩
  · cases e; cases rx.int; cases ry.int; exact ⟨_, _, rfl, rfl, h⟩
  · cases e; cases rx.int; cases ry.int; exact ⟨_, _, rfl, rfl, h⟩
  · cases e; cases rx.non; cases ry.non; exact .inl ⟨rfl, h⟩
  · cases e; cases rx.bl; cases ry.non; exact .inl ⟨rfl, h⟩
  · cases e; cases rx.int; cases ry.non; exact .inl ⟨rfl, h⟩
  · cases e; cases rx.str; cases ry.non; exact .inl ⟨rfl, h⟩
  · cases e; obtain ⟨p, us, rfl, _⟩ := rx.tup g.sub; cases ry.non; exact .inl ⟨rfl, by rw [nref]; exact h⟩
  · cases e; obtain ⟨p, us, rfl, _⟩ := rx.lst g.sub; cases ry.non; exact .inl ⟨rfl, by rw [nref]; exact h⟩
  · cases e; obtain ⟨p, rfl⟩ := rx.insR; cases ry.non; exact .inl ⟨rfl, by rw [nref]; exact h⟩
  · cases e; cases rx.non; cases ry.non; exact .inl ⟨rfl, h⟩
  · cases e; cases rx.bl; cases ry.non; exact .inl ⟨rfl, h⟩
  · cases e; cases rx.int; cases ry.non; exact .inl ⟨rfl, h⟩
  · cases e; cases rx.str; cases ry.non; exact .inl ⟨rfl, h⟩
  · cases e; obtain ⟨p, us, rfl, _⟩ := rx.tup g.sub; cases ry.non; exact .inl ⟨rfl, by rw [nref]; exact h⟩
  · cases e; obtain ⟨p, us, rfl, _⟩ := rx.lst g.sub; cases ry.non; exact .inl ⟨rfl, by rw [nref]; exact h⟩
  · cases e; obtain ⟨p, rfl⟩ := rx.insR; cases ry.non; exact .inl ⟨rfl, by rw [nref]; exact h⟩
  · cases e; cases rx.bl; cases ry.bl
    rename_i a b
    exact .inr ⟨_, _, rfl, rfl, by rw [show decide (a = b) = (a == b) by cases a <;> cases b <;> rfl]; exact h⟩
  · cases e; cases rx.bl; cases ry.bl
    rename_i a b
    exact .inr ⟨_, _, rfl, rfl, by rw [show decide (a = b) = (a == b) by cases a <;> cases b <;> rfl]; exact h⟩
  · obtain ⟨h1, h2, rfl⟩ := memW_some e
    exact .inl ⟨_, _, rx.dp g.sub h1, ry.dp g.sub (n := 61) h2, plain_shaped h1, (shapedL h2).1, by rw [anyL 60 60 _ _ h2 h1]; exact h⟩
  · obtain ⟨h1, h2, rfl⟩ := memW_some e
    exact .inr ⟨_, _, rx.dp g.sub h1, ry.dp g.sub (n := 61) h2, plain_shaped h1, (shapedL h2).2, by rw [anyL 60 60 _ _ h2 h1]; exact h⟩
  · rw [Option.map_eq_some_iff] at e
    obtain ⟨k2, e, rfl⟩ := e
    obtain ⟨h1, h2, rfl⟩ := memW_some e
    exact .inl ⟨_, _, rx.dp g.sub h1, ry.dp g.sub (n := 61) h2, plain_shaped h1, (shapedL h2).1, by rw [anyL 60 60 _ _ h2 h1]; exact h⟩
  · rw [Option.map_eq_some_iff] at e
    obtain ⟨k2, e, rfl⟩ := e
    obtain ⟨h1, h2, rfl⟩ := memW_some e
    exact .inr ⟨_, _, rx.dp g.sub h1, ry.dp g.sub (n := 61) h2, plain_shaped h1, (shapedL h2).2, by rw [anyL 60 60 _ _ h2 h1]; exact h⟩
  · cases e
end
end DL
set_option Elab.async false
set_option linter.all false
set_option maxRecDepth 100000
set_option maxHeartbeats 4000000
/-! Wz: for .. in zip(a, b, strict=True), a and b lists or tuples, both of one length; the same without strict where one is a list and one a tuple. -/
namespace DL
open PySem PySem.Spec L2
/-- a list (false) or a tuple (true) at a -/
def SeqIs : Bool → Heap → Addr → Array Value → Prop
  | false, h, a, its => h.IsList a its
  | true, h, a, its => h.IsTuple a its
def IterIs : Bool → Heap → Addr → Addr → Nat → Prop
  | false, h, i, a, k => h.IsListIter i a k
  | true, h, i, a, k => h.IsTupleIter i a k
def iterObj : Bool → Addr → Obj
  | false, a => { cls := .type "list_iterator", data := .fields #[.ref a, .int 0 0] }
  | true, a => { cls := .type "tuple_iterator", data := .fields #[.ref a, .int 0 0] }
abbrev IsZipB (b : Bool) (h : Heap) (z TI TO : Addr) (f0 : Value) : Prop :=
  h.get? z = some { cls := .type "zip", dict := none, data := .fields #[f0, .bool false, .bool b, .ref TI, .ref TO], slots := #[] }
theorem SeqIs.at {t : Bool} {h h' : Heap} {a : Addr} {its : Array Value} (x : SeqIs t h a its) (k : ∀ o, h.get? a = some o → h'.get? a = some o) : SeqIs t h' a its := by
  cases t with
  | false => exact Heap.IsList.at x k
  | true => obtain ⟨o, e, r⟩ := x; exact ⟨o, k o e, r⟩
theorem SeqIs.ext {t : Bool} {h h' : Heap} {a b : Addr} {its : Array Value} (x : SeqIs t h a its) (k : Heap.ExtBut b h h') (n : a ≠ b) : SeqIs t h' a its := x.at fun o e => k a o n e
theorem IterIs.at {t : Bool} {h h' : Heap} {i a : Addr} {n : Nat} (x : IterIs t h i a n) (k : ∀ o, h.get? i = some o → h'.get? i = some o) : IterIs t h' i a n := by
  cases t with
  | false => exact Heap.IsListIter.at x k
  | true => exact Heap.IsTupleIter.at x k
theorem IterIs.ext {t : Bool} {h h' : Heap} {i a b : Addr} {n : Nat} (x : IterIs t h i a n) (k : Heap.ExtBut b h h') (q : i ≠ b) : IterIs t h' i a n := x.at fun o e => k i o q e
theorem IterIs.obj {t : Bool} {h : Heap} {i a : Addr} {n : Nat} (x : IterIs t h i a n) : ∃ o, h.get? i = some o ∧ ∀ v, o.data ≠ .cell v := by
  cases t with
  | false => obtain ⟨o, e, _, d⟩ := x; exact ⟨o, e, fun v q => by rw [d] at q; cases q⟩
  | true => obtain ⟨o, e, _, d⟩ := x; exact ⟨o, e, fun v q => by rw [d] at q; cases q⟩
theorem IterIs.new {t : Bool} {h : Heap} {i a : Addr} (e : h.get? i = some (iterObj t a)) : IterIs t h i a 0 := by
  cases t with
  | false => exact ⟨_, e, rfl, rfl⟩
  | true => exact ⟨_, e, rfl, rfl⟩
section
variable {prog : Program} {w : World} {A : Around} {E : Value → Shared → Prop} {s : Shared}
theorem nextOf_item {t : Bool} {it l : Addr} {i : Nat} {items : Array Value} {x : Value} {Q : Value → Shared → Prop} (hit : IterIs t s.heap it l i) (hl : SeqIs t s.heap l items) (hx : items[i]? = some x)
    (hQ : ∀ h', IterIs t h' it l (i + 1) → Heap.SameBut it s.heap h' → Q x { s with heap := h' }) : wpAny (model prog w) A (Builtin.SmallTypes.nextOf (.ref it)) Q E s := by
  cases t with
  | false => exact wpAny_nextOf_list_item hit hl hx hQ
  | true => exact wpAny_nextOf_tuple_item hit hl hx hQ
theorem nextOf_end {t : Bool} {it l : Addr} {i : Nat} {items : Array Value} {Q : Value → Shared → Prop} (hh : A.handled = none) (hit : IterIs t s.heap it l i) (hl : SeqIs t s.heap l items) (hx : items[i]? = none)
    (hE : ∀ h' e, Heap.ExtBut it s.heap h' → (∃ o, h'.get? e = some o ∧ o.cls = .type "StopIteration") → E (.ref e) { s with heap := h' }) : wpAny (model prog w) A (Builtin.SmallTypes.nextOf (.ref it)) Q E s := by
  cases t with
  | false => exact wpAny_nextOf_list_end hh hit hl hx hE
  | true => exact wpAny_nextOf_tuple_end hh hit hl hx hE
theorem nextOrEnd_item {t : Bool} {it l : Addr} {i : Nat} {items : Array Value} {x : Value} {Q : Option Value → Shared → Prop} (hit : IterIs t s.heap it l i) (hl : SeqIs t s.heap l items) (hx : items[i]? = some x)
    (hQ : ∀ h', IterIs t h' it l (i + 1) → Heap.SameBut it s.heap h' → Q (some x) { s with heap := h' }) : wpAny (model prog w) A (Builtin.SmallTypes.nextOrEnd (.ref it)) Q E s := by
  unfold Builtin.SmallTypes.nextOrEnd
  exact wpAny_bind (wpAny_attempt (nextOf_item hit hl hx fun h' a b => wpAny_pure (hQ h' a b)))
theorem nextOrEnd_end {t : Bool} {it l : Addr} {i : Nat} {items : Array Value} {Q : Option Value → Shared → Prop} (hh : A.handled = none) (hit : IterIs t s.heap it l i) (hl : SeqIs t s.heap l items) (hx : items[i]? = none)
    (hQ : ∀ h', Heap.ExtBut it s.heap h' → Q none { s with heap := h' }) : wpAny (model prog w) A (Builtin.SmallTypes.nextOrEnd (.ref it)) Q E s := by
  unfold Builtin.SmallTypes.nextOrEnd
  refine wpAny_bind (wpAny_attempt (nextOf_end hh hit hl hx fun h' e a b => ?_))
  obtain ⟨o, ho, hc⟩ := b
  exact wpAny_bind (wpAny_isInstance (T := "StopIteration") (b := true) ⟨o, ho, hc⟩ isSubtype_stop (wpAny_pure (hQ _ a)))
theorem zipS_item {z TI TO i1 i2 l1 l2 : Addr} {t1 t2 : Bool} {k1 k2 : Nat} {xs ys : Array Value} {x y a b : Value} {Q : Value → Shared → Prop} (D : ZipApart z TI TO i1 i2 l1 l2)
    (hz : IsZipB true s.heap z TI TO .none) (hTI : IsPair s.heap TI (.ref i1) (.ref i2)) (hTO : IsPair s.heap TO a b)
    (h1 : IterIs t1 s.heap i1 l1 k1) (h2 : IterIs t2 s.heap i2 l2 k2) (hl1 : SeqIs t1 s.heap l1 xs) (hl2 : SeqIs t2 s.heap l2 ys) (hx : xs[k1]? = some x) (hy : ys[k2]? = some y)
    (hQ : ∀ h', IsZipB true h' z TI TO (rawInt s.heap.objs.size) → IsPair h' TO x y → IterIs t1 h' i1 l1 (k1 + 1) → IterIs t2 h' i2 l2 (k2 + 1) → IsPair h' s.heap.objs.size x y → h'.objs.size = s.heap.objs.size + 1 →
      (∀ c o, c ≠ z → c ≠ TO → c ≠ i1 → c ≠ i2 → s.heap.get? c = some o → h'.get? c = some o) → Q (.ref s.heap.objs.size) { s with heap := h' }) :
    wpAny (model prog w) A (Builtin.«zip.__next__» ⟨[.ref z], []⟩) (fun fin s' => ∃ v, fin = .done (.ret v) ∧ Q v s') E s := by
  show wpAny _ _ (field (.ref z) 2 >>= _) _ _ _
  refine wpAny_bind (wpAny_field hz rfl (x := .bool true) rfl ?_)
  show wpAny _ _ (field (.ref z) 3 >>= _) _ _ _
  refine wpAny_bind (wpAny_field hz rfl (x := .ref TI) rfl ?_)
  refine wpAny_bind (wpAny_seqItems hTI rfl ?_)
  show wpAny _ _ (Builtin.SmallTypes.ownedTupleIsFree (.ref z) >>= _) _ _ _
  refine wpAny_bind ?_
  unfold Builtin.SmallTypes.ownedTupleIsFree
  refine wpAny_bind (wpAny_field hz rfl (x := .none) rfl (wpAny_pure ?_))
  simp only [if_true]
  refine wpAny_bind (wpAny_rule ?_)
  refine wpAny_bind (wpAny_field hz rfl (x := .ref TO) rfl ?_)
  refine wpAny_bind (wpAny_setField_rec hz (by simp) fun h₁ hz₁ hs₁ => ?_)
  replace hz₁ : IsZipB true h₁ z TI TO .ellipsis := hz₁
  refine wpAny_bind ?_
  simp only [List.zipIdx_cons, List.zipIdx_nil, List.forIn_cons, List.forIn_nil]
  refine wpAny_bind (wpAny_bind (wpAny_onRaise ?_))
  show wpAny _ _ (Builtin.SmallTypes.nextOrEnd (.ref i1)) _ _ _
  refine nextOrEnd_item (h1.ext hs₁.extBut D.i1z) (hl1.ext hs₁.extBut D.l1z) hx fun h₂ h1₂ hs₂ => ?_
  have hTO₂ : IsPair h₂ TO a b := hs₂.extBut _ _ D.TOi1 (hs₁.extBut _ _ D.TOz hTO)
  refine wpAny_bind (wpAny_seqItems hTO₂ rfl ?_)
  refine wpAny_bind (wpAny_updateSeq_pair hTO₂ fun h₃ hTO₃ hs₃ => ?_)
  replace hTO₃ : IsPair h₃ TO x b := hTO₃
  refine wpAny_bind (wpAny_letGo (wpAny_pure ?_))
  refine wpAny_bind (wpAny_bind (wpAny_onRaise ?_))
  show wpAny _ _ (Builtin.SmallTypes.nextOrEnd (.ref i2)) _ _ _
  refine nextOrEnd_item (((h2.ext hs₁.extBut D.i2z).ext hs₂.extBut D.i12.symm).ext hs₃.extBut D.TOi2.symm)
    (((hl2.ext hs₁.extBut D.l2z).ext hs₂.extBut D.l2i1).ext hs₃.extBut D.l2TO) hy fun h₄ h2₄ hs₄ => ?_
  have hTO₄ : IsPair h₄ TO x b := hs₄.extBut _ _ D.TOi2 hTO₃
  refine wpAny_bind (wpAny_seqItems hTO₄ rfl ?_)
  refine wpAny_bind (wpAny_updateSeq_pair hTO₄ fun h₅ hTO₅ hs₅ => ?_)
  replace hTO₅ : IsPair h₅ TO x y := hTO₅
  refine wpAny_bind (wpAny_letGo (wpAny_pure (wpAny_pure ?_)))
  refine wpAny_bind (wpAny_seqItems hTO₅ rfl ?_)
  refine wpAny_bind (wpAny_newTuple ?_)
  have hsz : h₅.objs.size = s.heap.objs.size := by rw [hs₅.1, hs₄.1, hs₃.1, hs₂.1, hs₁.1]
  have hz₅ : IsZipB true h₅ z TI TO .ellipsis := hs₅.extBut _ _ D.TOz.symm (hs₄.extBut _ _ D.i2z.symm (hs₃.extBut _ _ D.TOz.symm (hs₂.extBut _ _ D.i1z.symm hz₁)))
  have hk₅ : ∀ c o, c ≠ z → c ≠ TO → c ≠ i1 → c ≠ i2 → s.heap.get? c = some o → h₅.get? c = some o := fun c o c1 c2 c3 c4 e =>
    hs₅.extBut _ _ c2 (hs₄.extBut _ _ c4 (hs₃.extBut _ _ c2 (hs₂.extBut _ _ c3 (hs₁.extBut _ _ c1 e))))
  have h1₅ : IterIs t1 h₅ i1 l1 (k1 + 1) := ((h1₂.ext hs₃.extBut D.TOi1.symm).ext hs₄.extBut D.i12).ext hs₅.extBut D.TOi1.symm
  have h2₅ : IterIs t2 h₅ i2 l2 (k2 + 1) := h2₄.ext hs₅.extBut D.TOi2.symm
  have hzlt : z < h₅.objs.size := Heap.lt_size hz₅
  show wpAny _ _ (Builtin.SmallTypes.ownedTupleHandOut (.ref z) (.ref h₅.objs.size) >>= _) _ _ _
  refine wpAny_bind ?_
  unfold Builtin.SmallTypes.ownedTupleHandOut
  have hz₆ : IsZipB true (h₅.push { cls := .type "tuple", data := .seq #[x, y] }) z TI TO .ellipsis := Heap.get?_push_of_some _ hz₅
  refine wpAny_bind (wpAny_setField_rec hz₆ (by simp) fun h₇ hz₇ hs₇ => ?_)
  replace hz₇ : IsZipB true h₇ z TI TO (rawInt h₅.objs.size) := hz₇
  refine wpAny_setField_rec hz₇ (by simp) fun h₈ hz₈ hs₈ => ?_
  replace hz₈ : IsZipB true h₈ z TI TO (rawInt h₅.objs.size) := hz₈
  have up : ∀ c o, c ≠ z → h₅.get? c = some o → h₈.get? c = some o := fun c o c1 e => hs₈.extBut _ _ c1 (hs₇.extBut _ _ c1 (Heap.get?_push_of_some _ e))
  have hT₈ : IsPair h₈ h₅.objs.size x y := hs₈.extBut _ _ (Nat.ne_of_gt hzlt) (hs₇.extBut _ _ (Nat.ne_of_gt hzlt) (Heap.get?_push_size _ rfl))
  have hz8 : h₈.objs.size = h₅.objs.size + 1 := by rw [hs₈.1, hs₇.1, Heap.size_push]
  rw [hsz] at hz₈ hT₈ hz8
  refine wpAny_pure ⟨_, rfl, ?_⟩
  show Q (.ref h₅.objs.size) _
  rw [hsz]
  exact hQ h₈ hz₈ (up _ _ D.TOz hTO₅) (h1₅.at fun o e => up _ o D.i1z e) (h2₅.at fun o e => up _ o D.i2z e) hT₈ hz8 fun c o c1 c2 c3 c4 e => up c o c1 (hk₅ c o c1 c2 c3 c4 e)
theorem zipS_end {z TI TO i1 i2 l1 l2 : Addr} {t1 t2 : Bool} {k1 k2 : Nat} {xs ys : Array Value} {a b : Value} {Q : PySem.Fin → Shared → Prop} (hh : A.handled = none) (D : ZipApart z TI TO i1 i2 l1 l2)
    (hz : IsZipB true s.heap z TI TO .none) (hTI : IsPair s.heap TI (.ref i1) (.ref i2)) (hTO : IsPair s.heap TO a b)
    (h1 : IterIs t1 s.heap i1 l1 k1) (h2 : IterIs t2 s.heap i2 l2 k2) (hl1 : SeqIs t1 s.heap l1 xs) (hl2 : SeqIs t2 s.heap l2 ys) (hx : xs[k1]? = none) (hy : ys[k2]? = none)
    (hE : ∀ h' e, (∀ c o, c ≠ z → c ≠ TO → c ≠ i1 → c ≠ i2 → s.heap.get? c = some o → h'.get? c = some o) → (∃ o, h'.get? e = some o ∧ o.cls = .type "StopIteration") → E (.ref e) { s with heap := h' }) :
    wpAny (model prog w) A (Builtin.«zip.__next__» ⟨[.ref z], []⟩) Q E s := by
  show wpAny _ _ (field (.ref z) 2 >>= _) _ _ _
  refine wpAny_bind (wpAny_field hz rfl (x := .bool true) rfl ?_)
  show wpAny _ _ (field (.ref z) 3 >>= _) _ _ _
  refine wpAny_bind (wpAny_field hz rfl (x := .ref TI) rfl ?_)
  refine wpAny_bind (wpAny_seqItems hTI rfl ?_)
  show wpAny _ _ (Builtin.SmallTypes.ownedTupleIsFree (.ref z) >>= _) _ _ _
  refine wpAny_bind ?_
  unfold Builtin.SmallTypes.ownedTupleIsFree
  refine wpAny_bind (wpAny_field hz rfl (x := .none) rfl (wpAny_pure ?_))
  simp only [if_true]
  refine wpAny_bind (wpAny_rule ?_)
  refine wpAny_bind (wpAny_field hz rfl (x := .ref TO) rfl ?_)
  refine wpAny_bind (wpAny_setField_rec hz (by simp) fun h₁ hz₁ hs₁ => ?_)
  replace hz₁ : IsZipB true h₁ z TI TO .ellipsis := hz₁
  refine wpAny_bind ?_
  simp only [List.zipIdx_cons, List.zipIdx_nil, List.forIn_cons, List.forIn_nil]
  refine wpAny_bind (wpAny_bind (wpAny_onRaise ?_))
  show wpAny _ _ (Builtin.SmallTypes.nextOrEnd (.ref i1)) _ _ _
  refine nextOrEnd_end hh (h1.ext hs₁.extBut D.i1z) (hl1.ext hs₁.extBut D.l1z) hx fun h₂ hs₂ => ?_
  have hz₂ : IsZipB true h₂ z TI TO .ellipsis := hs₂ _ _ D.i1z.symm hz₁
  refine wpAny_bind (wpAny_setField_rec hz₂ (by simp) fun h₃ hz₃ hs₃ => ?_)
  have e2 : IterIs t2 h₃ i2 l2 k2 := ((h2.ext hs₁.extBut D.i2z).at fun o e => hs₂ i2 o D.i12.symm e).ext hs₃.extBut D.i2z
  have e3 : SeqIs t2 h₃ l2 ys := ((hl2.ext hs₁.extBut D.l2z).at fun o e => hs₂ l2 o D.l2i1 e).ext hs₃.extBut D.l2z
  refine wpAny_bind ?_
  refine wpAny_ite_false (a := Builtin.SmallTypes.stopIteration) (c := 0 > 0) (decide_eq_false (by decide)) ?_
  rw [if_neg (Nat.lt_irrefl 0)]
  simp only [List.drop_succ_cons, List.drop_zero, List.zipIdx_cons, List.zipIdx_nil, List.forIn_cons, List.forIn_nil]
  refine wpAny_bind (wpAny_bind (wpAny_bind (nextOrEnd_end hh e2 e3 hy fun h₄ hs₄ => ?_)))
  simp only [Option.isSome_none, Bool.false_eq_true, if_false]
  refine wpAny_pure (wpAny_pure (wpAny_bind (wpAny_rule ?_)))
  show wpAny _ _ (newExc (.type "StopIteration") [] >>= _) _ _ _
  refine wpAny_bind ?_
  simp only [newExc, newTuple]
  refine wpAny_bind (wpAny_newObj_type ?_ (by size_fits))
  refine wpAny_bind (m := firstArgMember _ _) (wpAny_of_eq (a := Value.none) (by first | rfl | (simp only [firstArgMember]; rfl)) ?_)
  refine wpAny_newObj_type ?_ (by size_fits)
  simp only [raiseNew]
  refine wpAny_bind (wpAny_handled ?_)
  first | rw [show A.in1.handled = none from hh] | rw [hh]
  refine wpAny_bind (wpAny_pure (wpAny_throw ?_))
  exact hE _ _ (fun c o c1 c2 c3 c4 x => Heap.get?_push_of_some _ (Heap.get?_push_of_some _ (hs₄ _ _ c4 (hs₃.extBut _ _ c1 (hs₂ _ _ c3 (hs₁.extBut _ _ c1 x)))))) ⟨_, Heap.get?_push_size _ rfl, rfl⟩
theorem pyNextS_item {z TI TO i1 i2 l1 l2 : Addr} {t1 t2 : Bool} {k1 k2 : Nat} {xs ys : Array Value} {x y a b : Value} {Q : Option Value → Shared → Prop} (D : ZipApart z TI TO i1 i2 l1 l2)
    (hz : IsZipB true s.heap z TI TO .none) (hTI : IsPair s.heap TI (.ref i1) (.ref i2)) (hTO : IsPair s.heap TO a b)
    (h1 : IterIs t1 s.heap i1 l1 k1) (h2 : IterIs t2 s.heap i2 l2 k2) (hl1 : SeqIs t1 s.heap l1 xs) (hl2 : SeqIs t2 s.heap l2 ys) (hx : xs[k1]? = some x) (hy : ys[k2]? = some y)
    (hQ : ∀ h', IsZipB true h' z TI TO (rawInt s.heap.objs.size) → IsPair h' TO x y → IterIs t1 h' i1 l1 (k1 + 1) → IterIs t2 h' i2 l2 (k2 + 1) → IsPair h' s.heap.objs.size x y → h'.objs.size = s.heap.objs.size + 1 →
      (∀ c o, c ≠ z → c ≠ TO → c ≠ i1 → c ≠ i2 → s.heap.get? c = some o → h'.get? c = some o) → Q (some (.ref s.heap.objs.size)) { s with heap := h' }) :
    wpAny (model prog w) A (pyNext (.ref z)) Q E s := by
  have hT : s.TypeIs (.ref z) "zip" := ⟨_, hz, rfl⟩
  unfold pyNext
  exact wpAny_bind (wpAny_attempt (wpAny_callSpecial?_slot (name := Str.ofString "__next__") hT F.slot_zip_next
    (wpAny_call_entry F.slot_zip_next hT F.entry_zip_next
      (zipS_item D hz hTI hTO h1 h2 hl1 hl2 hx hy fun h' a1 a2 a3 a4 a5 a6 a7 => wpAny_pure (hQ h' a1 a2 a3 a4 a5 a6 a7)) (F.args_zip_next_1 _))))
theorem pyNextS_end {z TI TO i1 i2 l1 l2 : Addr} {t1 t2 : Bool} {k1 k2 : Nat} {xs ys : Array Value} {a b : Value} {Q : Option Value → Shared → Prop} (hh : A.handled = none) (D : ZipApart z TI TO i1 i2 l1 l2)
    (hz : IsZipB true s.heap z TI TO .none) (hTI : IsPair s.heap TI (.ref i1) (.ref i2)) (hTO : IsPair s.heap TO a b)
    (h1 : IterIs t1 s.heap i1 l1 k1) (h2 : IterIs t2 s.heap i2 l2 k2) (hl1 : SeqIs t1 s.heap l1 xs) (hl2 : SeqIs t2 s.heap l2 ys) (hx : xs[k1]? = none) (hy : ys[k2]? = none)
    (hQ : ∀ h', (∀ c o, c ≠ z → c ≠ TO → c ≠ i1 → c ≠ i2 → s.heap.get? c = some o → h'.get? c = some o) → Q none { s with heap := h' }) : wpAny (model prog w) A (pyNext (.ref z)) Q E s := by
  have hT : s.TypeIs (.ref z) "zip" := ⟨_, hz, rfl⟩
  unfold pyNext
  refine wpAny_bind (wpAny_attempt (wpAny_callSpecial?_slot (name := Str.ofString "__next__") hT F.slot_zip_next
    (wpAny_call_entry F.slot_zip_next hT F.entry_zip_next (zipS_end hh D hz hTI hTO h1 h2 hl1 hl2 hx hy fun h' e hk he => ?_) (F.args_zip_next_1 _))))
  obtain ⟨o, ho, hc⟩ := he
  refine wpAny_bind (wpAny_isInstance (T := "StopIteration") (b := true) ⟨o, ho, hc⟩ isSubtype_stop ?_)
  exact wpAny_pure (hQ _ hk)
theorem letGoS {elts : List Expr} {x1} {pos : Pos} {z TI TO T : Addr} {Q : Unit → Shared → Prop} (hz : IsZipB true s.heap z TI TO (rawInt T))
    (hQ : ∀ h', IsZipB true h' z TI TO .none → Heap.SameBut z s.heap h' → Q () { s with heap := h' }) :
    wpAny (model prog w) A (letOwnedTupleGo (.Tuple elts x1 pos) (.ref z) (.ref T)) Q E s := by
  unfold letOwnedTupleGo
  refine wpAny_bind (wpAny_load hz ?_)
  show wpAny _ _ (if (["enumerate", "zip", "dict_itemiterator", "dict_reverseitemiterator", "odict_iterator", "itertools.zip_longest", "itertools.pairwise"].contains "zip" &&
      (#[rawInt T, .bool false, .bool true, .ref TI, .ref TO] : Array Value)[0]? == some (rawInt T)) = true then _ else _) Q E s
  rw [if_pos (by simp)]
  refine wpAny_bind (wpAny_rule ?_)
  show wpAny _ _ (setField (.ref z) 0 .none) Q E s
  exact wpAny_setField_rec hz (by simp) fun h' hz' hs' => hQ h' hz' hs'
theorem pyIterS {z TI TO : Addr} {f0 : Value} {Q : Value → Shared → Prop} (hz : IsZipB true s.heap z TI TO f0) (h : Q (.ref z) s) : wpAny (model prog w) A (pyIter (.ref z)) Q E s := by
  have hT : s.TypeIs (.ref z) "zip" := ⟨_, hz, rfl⟩
  refine wpAny_pyIter_slot hT F.slot_zip_iter (wpAny_call_entry F.slot_zip_iter hT F.entry_zip_iter ?_ (F.args_zip_iter_1 _))
  show wpAny _ _ (ret (.ref z)) _ _ s
  exact wpAny_pure ⟨_, rfl, "zip", _, hT, F.slot_zip_next.lookup, h⟩
/-- iter(a) -/
theorem iter_new {t : Bool} {a : Addr} {items : Array Value} {Q : Value → Shared → Prop} (hl : SeqIs t s.heap a items) (h : Q (.ref s.heap.objs.size) { s with heap := s.heap.push (iterObj t a) }) : wpAny (model prog w) A (pyIter (.ref a)) Q E s := by
  cases t with
  | false => exact wpAny_pyIter_list hl h
  | true => exact wpAny_pyIter_tuple hl h
end
abbrev zH1 (h : Heap) (t1 : Bool) (l1 : Addr) : Heap := h.push (iterObj t1 l1)
abbrev zH2 (h : Heap) (t1 t2 : Bool) (l1 l2 : Addr) : Heap := (zH1 h t1 l1).push (iterObj t2 l2)
abbrev zH3 (h : Heap) (t1 t2 : Bool) (l1 l2 : Addr) : Heap := (zH2 h t1 t2 l1 l2).push { cls := .type "tuple", data := .seq #[.ref h.objs.size, .ref (zH1 h t1 l1).objs.size] }
abbrev zH4 (h : Heap) (t1 t2 : Bool) (l1 l2 : Addr) : Heap := (zH3 h t1 t2 l1 l2).push { cls := .type "tuple", data := .seq #[.none, .none] }
abbrev zH5 (b : Bool) (h : Heap) (t1 t2 : Bool) (l1 l2 : Addr) : Heap := (zH4 h t1 t2 l1 l2).push { cls := .type "zip", data := .fields #[.none, .bool false, .bool b, .ref (zH2 h t1 t2 l1 l2).objs.size, .ref (zH3 h t1 t2 l1 l2).objs.size] }
set_option maxHeartbeats 8000000 in
theorem meets_zipS_new (t1 t2 : Bool) (l1 l2 : Addr) (xs ys : Array Value) :
    Meets (Builtin.«zip.__new__» ⟨[.type "zip", .ref l1, .ref l2], [(Str.ofString "strict", .bool true)]⟩) (fun _ R s => SeqIs t1 s.heap l1 xs ∧ SeqIs t2 s.heap l2 ys ∧
      R (.ok (.ret (.ref (zH4 s.heap t1 t2 l1 l2).objs.size))) { s with heap := zH5 true s.heap t1 t2 l1 l2 }) :=
  .of_wp fun prog w A R s h => by
    obtain ⟨hp, g, d, tk, os⟩ := s; obtain ⟨hl1, hl2, h⟩ := h
    have hsub := sub_zip
    have e1 : (Str.ofString "strict" == ("strict" : Str)) = true := by decide +kernel
    have e2 : (Str.ofString "strict" != ("strict" : Str)) = false := by decide +kernel
    have q1 : ∀ {A' : Around} {E : Value → Shared → Prop} {Q : Value → Shared → Prop}, Q (.ref hp.objs.size) ⟨zH1 hp t1 l1, g, d, tk, os⟩ → wpAny (model prog w) A' (pyIter (.ref l1)) Q E ⟨hp, g, d, tk, os⟩ :=
      fun q => iter_new (s := ⟨hp, g, d, tk, os⟩) hl1 q
    have q2 : ∀ {A' : Around} {E : Value → Shared → Prop} {Q : Value → Shared → Prop}, Q (.ref (zH1 hp t1 l1).objs.size) ⟨zH2 hp t1 t2 l1 l2, g, d, tk, os⟩ → wpAny (model prog w) A' (pyIter (.ref l2)) Q E ⟨zH1 hp t1 l1, g, d, tk, os⟩ :=
      fun q => iter_new (s := ⟨zH1 hp t1 l1, g, d, tk, os⟩) (hl2.at fun o e => Heap.get?_push_of_some _ e) q
    wp_walk using q1, q2
    exact ⟨_, rfl, h⟩
namespace Fz
theorem typeCall (a b c : Value) : checkTypeCall "zip" ⟨[a, b], [(Str.ofString "strict", c)]⟩ = pure () := by kernel_rfl
theorem newCall (a b c : Value) : checkBuiltinCall "zip.__new__" ⟨[.type "zip", a, b], [(Str.ofString "strict", c)]⟩ = pure () := by kernel_rfl
theorem args_init (obj a b c : Value) : argsOk "object.__init__" ⟨[obj, a, b], [(Str.ofString "strict", c)]⟩ := by unfold argsOk; kernel_rfl
end Fz
section
variable {prog : Program} {w : World} {A : Around} {E : Value → Shared → Prop} {s : Shared}
theorem call_zipS {t1 t2 : Bool} {l1 l2 : Addr} {xs ys : Array Value} {Q : Value → Shared → Prop} (hl1 : SeqIs t1 s.heap l1 xs) (hl2 : SeqIs t2 s.heap l2 ys)
    (h : ∀ h', IsZipB true h' (s.heap.objs.size + 4) (s.heap.objs.size + 2) (s.heap.objs.size + 3) .none → IsPair h' (s.heap.objs.size + 2) (.ref s.heap.objs.size) (.ref (s.heap.objs.size + 1)) →
      IsPair h' (s.heap.objs.size + 3) .none .none → IterIs t1 h' s.heap.objs.size l1 0 → IterIs t2 h' (s.heap.objs.size + 1) l2 0 → h'.objs.size = s.heap.objs.size + 5 →
      (∀ c o, s.heap.get? c = some o → h'.get? c = some o) → Q (.ref (s.heap.objs.size + 4)) { s with heap := h' }) :
    wpAny (model prog w) A (call (.type "zip") [.ref l1, .ref l2] [(Str.ofString "strict", .bool true)]) Q E s := by
  refine callType_newKw F.called_zip (by decide) (Fz.typeCall _ _ _) (Fz.newCall _ _ _) (fun obj => Fz.args_init obj _ _ _) F.entry_zip_new
    (meets_zipS_new t1 t2 l1 l2 xs ys) ⟨hl1, hl2, ?_⟩
  have z1 : (zH1 s.heap t1 l1).objs.size = s.heap.objs.size + 1 := Heap.size_push ..
  have z2 : (zH2 s.heap t1 t2 l1 l2).objs.size = s.heap.objs.size + 2 := by rw [Heap.size_push, z1]
  have z3 : (zH3 s.heap t1 t2 l1 l2).objs.size = s.heap.objs.size + 3 := by rw [Heap.size_push, z2]
  have z4 : (zH4 s.heap t1 t2 l1 l2).objs.size = s.heap.objs.size + 4 := by rw [Heap.size_push, z3]
  have z5 : (zH5 true s.heap t1 t2 l1 l2).objs.size = s.heap.objs.size + 5 := by rw [Heap.size_push, z4]
  have g5 : (zH5 true s.heap t1 t2 l1 l2).get? (zH4 s.heap t1 t2 l1 l2).objs.size = some _ := Heap.get?_push_size _ rfl
  have g4 : (zH5 true s.heap t1 t2 l1 l2).get? (zH3 s.heap t1 t2 l1 l2).objs.size = some _ := Heap.get?_push_of_some _ (Heap.get?_push_size _ rfl)
  have g3 : (zH5 true s.heap t1 t2 l1 l2).get? (zH2 s.heap t1 t2 l1 l2).objs.size = some _ := Heap.get?_push_of_some _ (Heap.get?_push_of_some _ (Heap.get?_push_size _ rfl))
  have i1 : ∀ t a, (iterObj t a).isFreed = false := fun t a => by cases t <;> rfl
  have g2 : (zH5 true s.heap t1 t2 l1 l2).get? (zH1 s.heap t1 l1).objs.size = some _ := Heap.get?_push_of_some _ (Heap.get?_push_of_some _ (Heap.get?_push_of_some _ (Heap.get?_push_size _ (i1 _ _))))
  have g1 : (zH5 true s.heap t1 t2 l1 l2).get? s.heap.objs.size = some _ := Heap.get?_push_of_some _ (Heap.get?_push_of_some _ (Heap.get?_push_of_some _ (Heap.get?_push_of_some _ (Heap.get?_push_size _ (i1 _ _)))))
  show _ ∧ _
  rw [z2, z3, z4] at g5
  rw [z1, z2] at g3
  rw [z3] at g4
  rw [z1] at g2
  rw [z4]
  exact ⟨⟨_, g5, rfl⟩, h _ g5 g3 g4 (.new g1) (.new g2) z5 fun c o x =>
    Heap.get?_push_of_some _ (Heap.get?_push_of_some _ (Heap.get?_push_of_some _ (Heap.get?_push_of_some _ (Heap.get?_push_of_some _ x))))⟩
end
/-! ### the walk -/
def SqB (K : PySem.W.Frag) (H : Hp) : Bool → Addr → List V → Prop
  | false, a, xs => SqL K H a xs
  | true, a, xs => SqT K H a xs
section
variable {X : Cx} {pins : List (Addr × Obj)} {σ : L2.St} {H : Hp} {s : Shared}
theorem seqB (I : Inv X pins σ H s) {t : Bool} {a : Addr} {xs : List V} (h : SqB X.K H t a xs) : ∃ its : List Value, Vals xs its ∧ SeqIs t s.heap a its.toArray ∧ a < s.heap.objs.size := by
  cases t with
  | false =>
    obtain ⟨its, r, p, _⟩ := I.list h
    exact ⟨its, r, p.isList, p.lt⟩
  | true =>
    obtain ⟨its, r, p, _⟩ := I.tuple h
    exact ⟨its, r, p, p.lt⟩
theorem seqB_inj (I : Inv X pins σ H s) {t : Bool} {a : Addr} {xs ys : List V} (h : SqB X.K H t a xs) (h' : SqB X.K H t a ys) : xs = ys := by
  cases t with
  | false => exact I.list_inj h h'
  | true => exact I.tuple_inj h h'
end
/-- both sequences as they stand at each turn, of one length -/
def ItzS (K : PySem.W.Frag) (t1 t2 : Bool) (a b : Addr) : It :=
  ⟨fun i H => ∃ (xs ys : List V) (x y : V), SqB K H t1 a xs ∧ SqB K H t2 b ys ∧ xs[i]? = some x ∧ ys[i]? = some y,
    fun i H v H' => ∃ T x y, v = .ref T ∧ H T = none ∧ H' = upd H T (.tup [x, y]) ∧ (∀ xs, SqB K H t1 a xs → xs[i]? = some x) ∧ ∀ ys, SqB K H t2 b ys → ys[i]? = some y,
    fun i H => ∃ xs ys : List V, SqB K H t1 a xs ∧ SqB K H t2 b ys ∧ xs.length ≤ i ∧ ys.length ≤ i⟩
theorem turn_zipS {P : Program} {w : World} {K : PySem.W.Frag} {elts : List Expr} {kk : Nat} {tpos : Pos} {t1 t2 : Bool} {a b z TI TO i1 i2 : Addr} (D : ZipApart z TI TO i1 i2 a b) :
    Turn P w K (.Tuple elts kk tpos) (ItzS K t1 t2 a b) [z, TI, TO, i1, i2] z (fun i h => IsZipB true h z TI TO .none ∧ IsPair h TI (.ref i1) (.ref i2) ∧ (∃ x y, IsPair h TO x y) ∧ IterIs t1 h i1 a i ∧ IterIs t2 h i2 b i) where
  mem := by simp
  obj := fun i h st c hc => by
    obtain ⟨hz, hTI, ⟨x, y, hTO⟩, h1, h2⟩ := st
    have e' : c = z ∨ c = TI ∨ c = TO ∨ c = i1 ∨ c = i2 := by simpa using hc
    rcases e' with q | q | q | q | q
    · rw [q]; exact ⟨_, hz, fun v q => nomatch q⟩
    · rw [q]; exact ⟨_, hTI, fun v q => nomatch q⟩
    · rw [q]; exact ⟨_, hTO, fun v q => nomatch q⟩
    · rw [q]; exact h1.obj
    · rw [q]; exact h2.obj
  keep := fun i h h' st k => by
    obtain ⟨hz, hTI, ⟨x, y, hTO⟩, h1, h2⟩ := st
    exact ⟨k z (by simp) _ hz, k TI (by simp) _ hTI, ⟨x, y, k TO (by simp) _ hTO⟩, h1.at fun o q => k i1 (by simp) o q, h2.at fun o q => k i2 (by simp) o q⟩
  item := by
    intro X hP hw hK hc i pins s σ H E I hf st hg
    subst hP hw hK
    obtain ⟨hz, hTI, ⟨x0, y0, hTO⟩, h1, h2⟩ := st
    obtain ⟨xs, ys, x, y, hqx, hqy, hx, hy⟩ := hg
    obtain ⟨its, rv, p, _⟩ := seqB I hqx
    obtain ⟨its2, rv2, p2, _⟩ := seqB I hqy
    obtain ⟨u, hu, ru⟩ := rv.get hx
    obtain ⟨u2, hu2, ru2⟩ := rv2.get hy
    have hzl : z < s.heap.objs.size := Heap.lt_size hz
    have l1 : i1 < s.heap.objs.size := by obtain ⟨_, e, _⟩ := h1.obj; exact Heap.lt_size e
    have l2 : i2 < s.heap.objs.size := by obtain ⟨_, e, _⟩ := h2.obj; exact Heap.lt_size e
    refine pyNextS_item D hz hTI hTO h1 h2 p p2 (x := u) (y := u2) (by simpa using hu) (by simpa using hu2) fun h' z' TO' h1' h2' hT hsz hk => ?_
    refine ⟨_, rfl, letGoS (s := { s with heap := h' }) z' fun h'' z'' sb => ?_⟩
    have hT2 : h''.get? s.heap.objs.size = some { cls := .type "tuple", data := .seq #[u, u2] } := (sb.2 _ (Nat.ne_of_gt hzl)).trans hT
    have new : ObjOk X.prog X.w (upd H s.heap.objs.size (.tup [x, y])) h'' s.heap.objs.size (.tup [x, y]) :=
      ⟨by show 2 ≤ sizeLine; decide, [u, u2], .cons ru (.cons ru2 .nil), ⟨_, hT2, rfl, _, rfl⟩⟩
    have I1 : Inv X pins σ (upd H s.heap.objs.size (.tup [x, y])) { s with heap := h'' } :=
      I.turnedNew (t' := s.toks) (ch := [z, TI, TO, i1, i2]) (fun c o hb q => (sb.2 c (fun q' => hb (by simp [q']))).trans (hk c o (fun q' => hb (by simp [q'])) (fun q' => hb (by simp [q'])) (fun q' => hb (by simp [q'])) (fun q' => hb (by simp [q'])) q)) hf (Nat.le_refl _) new
    refine ⟨.ref s.heap.objs.size, _, I1, rfl, ⟨_, x, y, rfl, I.hok.fresh (Nat.le_refl _), rfl, fun l hl => by rw [seqB_inj I hl hqx]; exact hx, fun l hl => by rw [seqB_inj I hl hqy]; exact hy⟩, ⟨z'', ?_, ⟨u, u2, ?_⟩, ?_, ?_⟩, fun c hcm => ?_⟩
    · exact (sb.2 _ D.TIz).trans (hk _ _ D.TIz D.TITO D.TIi1 D.TIi2 hTI)
    · exact (sb.2 _ D.TOz).trans TO'
    · exact h1'.at fun o q => (sb.2 _ D.i1z).trans q
    · exact h2'.at fun o q => (sb.2 _ D.i2z).trans q
    · have hlt : c < s.heap.objs.size := by
        have e' : c = z ∨ c = TI ∨ c = TO ∨ c = i1 ∨ c = i2 := by simpa using hcm
        rcases e' with q | q | q | q | q
        · rw [q]; exact hzl
        · rw [q]; exact Heap.lt_size hTI
        · rw [q]; exact Heap.lt_size hTO
        · rw [q]; exact l1
        · rw [q]; exact l2
      rw [upd_ne (Nat.ne_of_lt hlt)]
      exact (hf c hcm).1
  done := by
    intro X hP hw hK hc i pins s σ H E I hf st hg
    subst hP hw hK
    obtain ⟨hz, hTI, ⟨x0, y0, hTO⟩, h1, h2⟩ := st
    obtain ⟨xs, ys, hqx, hqy, e1, e2⟩ := hg
    obtain ⟨its, rv, p, _⟩ := seqB I hqx
    obtain ⟨its2, rv2, p2, _⟩ := seqB I hqy
    have l1 := rv.length
    have l2 := rv2.length
    exact pyNextS_end (I.ok.hd hc) D hz hTI hTO h1 h2 p p2 (by simp; omega) (by simp; omega) fun h' hk => ⟨rfl, I.turnedL (t' := s.toks) (ch := [z, TI, TO, i1, i2]) (fun c o hb q =>
      hk c o (fun q' => hb (by simp [q'])) (fun q' => hb (by simp [q'])) (fun q' => hb (by simp [q'])) (fun q' => hb (by simp [q'])) q) hf⟩
  self := fun A i s Q E st h => pyIterS st.1 h
theorem callWith_type_kwB {M : Model} {A : Around} {E : Value → Shared → Prop} {s : Shared} {pos : Pos} {T : String} {first : List Value} {args : List (Bool × Sem Value)} {keywords : List (Option Str × Sem Value)} {Q : Value → Shared → Prop}
    (hplain : args.any (·.1) = false) (hkw : keywords.any (·.1.isNone) = false)
    (h : wpAny M A (evalArgs (.type T) true args keywords) (fun a s₁ => wpAny M A (call (.type T) (first ++ a.pos) a.kw) Q E s₁) E s) :
    wpAny M A (callWith pos (.type T) first args keywords) Q E s := by
  unfold callWith
  refine wpAny_bind (wpAny_holding (wpAny_mono h (fun a s₁ h₁ => wpAny_bind (wpAny_standAt ?_)) fun _ _ x => x))
  simp only [hplain, hkw, Bool.or_false]
  refine wpAny_bind (wpAny_pure ?_)
  exact wpAny_bind (wpAny_mono h₁ (fun r s₂ hr => wpAny_bind (wpAny_holding (wpAny_point (wpAny_pure hr)))) fun _ _ x => x)
theorem callWith_type_kw {M : Model} {A : Around} {E : Value → Shared → Prop} {s : Shared} {env : PySem.Env} {pos : Pos} {T : String} {e : Expr} {rest : List Expr} {kws : List Keyword} {Q : Value → Shared → Prop}
    (h : wpAny M A (spliced (backTo pos (starEach (e :: rest) env))) (fun vs s₁ => wpAny M A (evalAll ((backToKw pos (keywordEach kws env)).map (·.2)))
      (fun kvs s₂ => wpAny M A (call (.type T) vs (((backToKw pos (keywordEach kws env)).filterMap (·.1)).zip kvs)) Q E s₂) E s₁) E s)
    (he : backTo pos (starEach (e :: rest) env) = (false, eval e env) :: backTo pos (starEach rest env) := by rfl)
    (hplain : (backTo pos (starEach (e :: rest) env)).any (·.1) = false := by rfl)
    (hall : (backToKw pos (keywordEach kws env)).all (·.1.isSome) = true := by rfl)
    (hkw : (backToKw pos (keywordEach kws env)).any (·.1.isNone) = false := by rfl) :
    wpAny M A (callWith pos (.type T) [] (backTo pos (starEach (e :: rest) env)) (backToKw pos (keywordEach kws env))) Q E s := by
  refine callWith_type_kwB hplain hkw ?_
  rw [he] at h ⊢
  exact PyProof.Rows.evalArgs_kwB hall h
def iZipS (K : PySem.W.Frag) (ta : TA) : TI := fun σ H R => ta σ H fun vs H1 => ∃ (t1 t2 : Bool) (a b : Addr) (xs ys : List V), vs = [.ref a, .ref b] ∧ SqB K H1 t1 a xs ∧ SqB K H1 t2 b ys ∧ R (ItzS K t1 t2 a b) H1
theorem pi_zipS {X : Cx} {e e2 : Expr} {ta : TA} {p pos tpos cpos kpos : Pos} {ck : Nat} {elts : List Expr} {kk : Nat} (hg : Gl X "zip") (hm : X.mg "zip" = none) (ha : PA X [e, e2] ta)
    (hs : starEach [e, e2] X.env = [(false, eval e X.env), (false, eval e2 X.env)]) (hs2 : starEach [e2] X.env = [(false, eval e2 X.env)]) :
    PI X (.Tuple elts kk tpos) (.Call (.Name "zip" p) [e, e2] [⟨some (Str.ofString "strict"), .Constant (.bool true) ck cpos, kpos⟩] pos) (iZipS X.K ta) := by
  refine ⟨fun pins s σ H R I h => ?_⟩
  refine wpAny_Call_Name_kw (ld_blt I hg hm PyProof.Rows.boot_zip ?_)
  refine (callWith_type_kw (kws := [⟨some (Str.ofString "strict"), .Constant (.bool true) ck cpos, kpos⟩]) (thn (ha.run pos pins s σ H _ I h) fun us s1 ⟨vs, H1, I1, r1, q1⟩ => ?_) (by rw [hs, hs2]; rfl) (by rw [hs]; rfl))
  refine PyProof.Rows.kws_cons (PyProof.Rows.Constant_bool (PyProof.Rows.kws_nil ?_))
  obtain ⟨t1, t2, a, b, xs, ys, ex, hqx, hqy, q⟩ := q1
  subst ex
  cases r1 with
  | cons r rr =>
    cases rr with
    | cons r' rr =>
      cases rr
      cases r
      cases r'
      obtain ⟨its, rv, p1, la⟩ := seqB I1 hqx
      obtain ⟨its2, rv2, p2, lb⟩ := seqB I1 hqy
      refine call_zipS p1 p2 fun h' hz hTI hTO h1 h2 hsz hk => pyIterS hz ?_
      have I2 : Inv X pins σ H1 { s1 with heap := h' } := I1.kept (t' := s1.toks) hk
      refine ⟨s1.heap.objs.size + 4, [s1.heap.objs.size + 4, s1.heap.objs.size + 2, s1.heap.objs.size + 3, s1.heap.objs.size, s1.heap.objs.size + 1], _, _, H1, rfl, I2, turn_zipS (PySem.W.ktu_apart s1.heap.objs.size a b la lb), ⟨hz, hTI, ⟨_, _, hTO⟩, h1, h2⟩, fun c hcm => ?_, q⟩
      have e' : c = s1.heap.objs.size + 4 ∨ c = s1.heap.objs.size + 2 ∨ c = s1.heap.objs.size + 3 ∨ c = s1.heap.objs.size ∨ c = s1.heap.objs.size + 1 := by simpa using hcm
      have hle : s1.heap.objs.size ≤ c := by
        rcases e' with z | z | z | z | z
        · rw [z]; exact Nat.le_add_right _ _
        · rw [z]; exact Nat.le_add_right _ _
        · rw [z]; exact Nat.le_add_right _ _
        · rw [z]; exact Nat.le_refl _
        · rw [z]; exact Nat.le_add_right _ _
      exact I1.fpOk hle (I1.hok.fresh hle)
theorem walk_zipS {K : PySem.W.Frag} {t1 t2 : Bool} {a b : Addr} {xs ys : List V} (hn : xs.length = ys.length) : Walk (ItzS K t1 t2 a b) xs.length (fun H => SqB K H t1 a xs ∧ SqB K H t2 b ys) (YPair (fun i => xs[i]?) (fun i => ys[i]?)) := by
  refine ⟨fun i _ hi q => ?_, fun _ q => ⟨xs, ys, q.1, q.2, Nat.le_refl _, by omega⟩, fun i H v H' _ q y => ?_⟩
  · have h2 : i < ys.length := by omega
    exact ⟨xs, ys, xs[i], ys[i], q.1, q.2, by simp [hi], by simp [h2]⟩
  · obtain ⟨T, x, z, h1, h2, h3, h4, h5⟩ := y
    exact ⟨T, x, z, h1, h2, h3, h4 xs q.1, h5 ys q.2⟩
end DL
set_option Elab.async false
set_option linter.all false
set_option maxRecDepth 100000
set_option maxHeartbeats 4000000
/-! Wy: for i, x in enumerate(a) and enumerate(a, start=k), a a list or a tuple. -/
namespace DL
open PySem PySem.Spec L2
theorem begins (t : Bool) (a : Addr) (items : Array Value) : Begins (.ref a) (iterObj t a) fun h => SeqIs t h a items := by
  cases t with
  | false => exact begins_list a items
  | true => exact begins_tuple a items
set_option maxHeartbeats 1000000 in
theorem meets_enum1 {v : Value} {o : Obj} {H : Heap → Prop} (B : Begins v o H) :
    Meets (Builtin.«enumerate.__new__» ⟨[.type "enumerate", v], []⟩) (fun _ R s => H s.heap ∧
      R (.ok (.ret (.ref (s.heap.push o).objs.size))) { s with heap := (s.heap.push o).push { cls := .type "enumerate", data := .fields #[.none, .bool false, .ref s.heap.objs.size, rawInt 0, .none, .none] } }) :=
  .of_wp fun prog w A R s h => by
    obtain ⟨hp, g, d, tk, os⟩ := s; obtain ⟨h1, h⟩ := h
    have hsub := sub_enumerate
    have q1 : ∀ {A' : Around} {E : Value → Shared → Prop} {Q : Value → Shared → Prop}, Q (.ref hp.objs.size) ⟨hp.push o, g, d, tk, os⟩ → wpAny (model prog w) A' (pyIter v) Q E ⟨hp, g, d, tk, os⟩ :=
      fun q => B.iter prog w _ _ ⟨hp, g, d, tk, os⟩ _ h1 q
    wp_walk using q1
    refine wpAny_stack_any fun st => wpAny_pure ?_
    split
    · rename_i c _ _ _ _ _
      cases (c == Value.type "enumerate")
      · wp_walk using q1
        exact ⟨_, rfl, h⟩
      · wp_walk using q1
        exact ⟨_, rfl, h⟩
    · wp_walk using q1
      exact ⟨_, rfl, h⟩
section
variable {prog : Program} {w : World} {A : Around} {E : Value → Shared → Prop} {s : Shared}
theorem enum_begins1 {v : Value} {o : Obj} {H : Heap → Prop} {Q : Value → Shared → Prop} (B : Begins v o H) (h1 : H s.heap)
    (h : ∀ h', IsEnum h' (s.heap.objs.size + 1) s.heap.objs.size 0 .none → h'.get? s.heap.objs.size = some o → h'.objs.size = s.heap.objs.size + 2 →
      (∀ b o, s.heap.get? b = some o → h'.get? b = some o) → Q (.ref (s.heap.objs.size + 1)) { s with heap := h' }) :
    wpAny (model prog w) A (call (.type "enumerate") [v]) Q E s := by
  refine callType_new F.called_enumerate (by decide) (F.typeCall_enumerate_1 _) (F.newCall_enumerate_1 _) (fun obj => F.args_object_init_2 obj _) F.entry_enumerate_new
    (meets_enum1 B) ⟨h1, ?_⟩
  have hz : (s.heap.push o).objs.size = s.heap.objs.size + 1 := Heap.size_push ..
  show _ ∧ _
  rw [hz]
  have he : IsEnum ((s.heap.push o).push { cls := .type "enumerate", data := .fields #[.none, .bool false, .ref s.heap.objs.size, rawInt 0, .none, .none] }) (s.heap.objs.size + 1) s.heap.objs.size 0 .none := by
    have := Heap.get?_push_size (s.heap.push o) (o := { cls := .type "enumerate", data := .fields #[.none, .bool false, .ref s.heap.objs.size, rawInt 0, .none, .none] }) rfl
    rw [hz] at this; exact this
  exact ⟨⟨_, he, rfl⟩, h _ he (Heap.get?_push_of_some _ (Heap.get?_push_size _ B.free)) (by rw [Heap.size_push, hz]) fun b o x => Heap.get?_push_of_some _ (Heap.get?_push_of_some _ x)⟩
theorem enumB_item {t : Bool} {e it l : Addr} {i : Nat} {c : Int} {items : Array Value} {x old : Value} {Q : Value → Shared → Prop}
    (he : IsEnum s.heap e it c old) (hit : IterIs t s.heap it l i) (hl : SeqIs t s.heap l items) (hx : items[i]? = some x) (hne : e ≠ it)
    (hQ : ∀ h', IsEnumOut h' e it (c + 1) x s.heap.objs.size → IterIs t h' it l (i + 1) →
      h'.get? s.heap.objs.size = some { cls := .type "tuple", data := .seq #[.int c s.toks, x] } → h'.objs.size = s.heap.objs.size + 1 →
      (∀ b o, b ≠ e → b ≠ it → s.heap.get? b = some o → h'.get? b = some o) → Q (.ref s.heap.objs.size) { s with heap := h', toks := s.toks + 1 }) :
    wpAny (model prog w) A (Builtin.«enumerate.__next__» ⟨[.ref e], []⟩) (fun fin s' => ∃ v, fin = .done (.ret v) ∧ Q v s') E s := by
  obtain ⟨hp, g, d, tk, os⟩ := s
  show wpAny _ _ (field (.ref e) 2 >>= _) _ _ _
  refine wpAny_bind (wpAny_field he rfl (x := .ref it) rfl ?_)
  refine wpAny_bind (nextOf_item hit hl hx fun h₁ hit₁ hs₁ => ?_)
  replace hs₁ : Heap.SameBut it hp h₁ := hs₁
  have he₁ : IsEnum h₁ e it c old := (hs₁.2 e hne).trans he
  show wpAny _ _ (field (.ref e) 3 >>= _) _ _ ⟨h₁, g, d, tk, os⟩
  refine wpAny_bind (wpAny_field he₁ rfl (x := rawInt c) rfl ?_)
  show wpAny _ _ (field (.ref e) 4 >>= _) _ _ ⟨h₁, g, d, tk, os⟩
  refine wpAny_bind (wpAny_field he₁ rfl (x := .none) rfl ?_)
  show wpAny _ _ (mkInt c >>= _) _ _ ⟨h₁, g, d, tk, os⟩
  refine wpAny_bind (wpAny_mkInt ?_)
  show wpAny _ _ (setField (.ref e) 3 (rawInt (c + 1)) >>= _) _ _ ⟨h₁, g, d, tk + 1, os⟩
  refine wpAny_bind (wpAny_setField_rec he₁ (by simp) fun h₂ he₂ hs₂ => ?_)
  replace hs₂ : Heap.SameBut e h₁ h₂ := hs₂
  replace he₂ : IsEnum h₂ e it (c + 1) old := he₂
  show wpAny _ _ (setField (.ref e) 4 .none >>= _) _ _ ⟨h₂, g, d, tk + 1, os⟩
  refine wpAny_bind (wpAny_setField_rec he₂ (by simp) fun h₃ he₃ hs₃ => ?_)
  replace hs₃ : Heap.SameBut e h₂ h₃ := hs₃
  replace he₃ : IsEnum h₃ e it (c + 1) old := he₃
  show wpAny _ _ (newTuple [.int c tk, x] >>= _) _ _ ⟨h₃, g, d, tk + 1, os⟩
  refine wpAny_bind (wpAny_newTuple ?_)
  have he₄ : IsEnum (h₃.push { cls := .type "tuple", data := .seq #[.int c tk, x] }) e it (c + 1) old := Heap.get?_push_of_some _ he₃
  generalize hh₄ : h₃.push { cls := .type "tuple", data := .seq #[.int c tk, x] } = h₄ at he₄
  have hsz : h₃.objs.size = hp.objs.size := by rw [hs₃.1, hs₂.1, hs₁.1]
  have hel : e < hp.objs.size := Heap.lt_size he
  have ht₄ : h₄.get? hp.objs.size = some { cls := .type "tuple", data := .seq #[.int c tk, x] } := by rw [← hh₄, ← hsz]; exact Heap.get?_push_size _ rfl
  have hz₄ : h₄.objs.size = hp.objs.size + 1 := by rw [← hh₄, Heap.size_push, hsz]
  have hk₄ : ∀ b o, b ≠ e → b ≠ it → hp.get? b = some o → h₄.get? b = some o := fun b o hbe hbi hb => by
    rw [← hh₄]; exact Heap.get?_push_of_some _ (hs₃.extBut b o hbe (hs₂.extBut b o hbe (hs₁.extBut b o hbi hb)))
  have hit₄ : IterIs t h₄ it l (i + 1) := by
    rw [← hh₄]; exact ((hit₁.ext hs₂.extBut (Ne.symm hne)).ext hs₃.extBut (Ne.symm hne)).at fun o e => Heap.get?_push_of_some _ e
  show wpAny _ _ (Builtin.SmallTypes.ownedTupleIsFree (.ref e) >>= _) _ _ ⟨h₄, g, d, tk + 1, os⟩
  rw [hsz]
  clear hh₄ he₃ hs₃ he₂ hs₂ he₁ hs₁ hit₁ hsz h₃ h₂ h₁
  refine wpAny_bind ?_
  unfold Builtin.SmallTypes.ownedTupleIsFree
  refine wpAny_bind (wpAny_field he₄ rfl (x := .none) rfl (wpAny_pure ?_))
  simp only [if_true]
  refine wpAny_bind (wpAny_rule ?_)
  refine wpAny_bind (wpAny_field he₄ rfl (x := old) rfl ?_)
  refine wpAny_bind (wpAny_setField_rec he₄ (by simp) fun h₅ he₅ hs₅ => ?_)
  replace hs₅ : Heap.SameBut e h₄ h₅ := hs₅
  replace he₅ : IsEnum h₅ e it (c + 1) x := he₅
  show wpAny _ _ (Builtin.SmallTypes.ownedTupleHandOut (.ref e) (.ref hp.objs.size) >>= _) _ _ ⟨h₅, g, d, tk + 1, os⟩
  refine wpAny_bind ?_
  unfold Builtin.SmallTypes.ownedTupleHandOut
  refine wpAny_bind (wpAny_setField_rec he₅ (by simp) fun h₆ he₆ hs₆ => ?_)
  replace hs₆ : Heap.SameBut e h₅ h₆ := hs₆
  replace he₆ : IsEnumOut h₆ e it (c + 1) x hp.objs.size := he₆
  refine wpAny_setField_rec he₆ (by simp) fun h₇ he₇ hs₇ => ?_
  replace hs₇ : Heap.SameBut e h₆ h₇ := hs₇
  replace he₇ : IsEnumOut h₇ e it (c + 1) x hp.objs.size := he₇
  refine wpAny_bind (wpAny_letGo (wpAny_pure ⟨_, rfl, hQ h₇ he₇ ?_ ?_ ?_ ?_⟩))
  · exact ((hit₄.ext hs₅.extBut (Ne.symm hne)).ext hs₆.extBut (Ne.symm hne)).ext hs₇.extBut (Ne.symm hne)
  · exact hs₇.extBut _ _ (Nat.ne_of_gt hel) (hs₆.extBut _ _ (Nat.ne_of_gt hel) (hs₅.extBut _ _ (Nat.ne_of_gt hel) ht₄))
  · rw [hs₇.1, hs₆.1, hs₅.1, hz₄]
  · exact fun b o hbe hbi hb => hs₇.extBut b o hbe (hs₆.extBut b o hbe (hs₅.extBut b o hbe (hk₄ b o hbe hbi hb)))
theorem pyNextE_item {t : Bool} {e it l : Addr} {i : Nat} {c : Int} {items : Array Value} {x old : Value} {Q : Option Value → Shared → Prop}
    (he : IsEnum s.heap e it c old) (hit : IterIs t s.heap it l i) (hl : SeqIs t s.heap l items) (hx : items[i]? = some x) (hne : e ≠ it)
    (hQ : ∀ h', IsEnumOut h' e it (c + 1) x s.heap.objs.size → IterIs t h' it l (i + 1) →
      h'.get? s.heap.objs.size = some { cls := .type "tuple", data := .seq #[.int c s.toks, x] } → h'.objs.size = s.heap.objs.size + 1 →
      (∀ b o, b ≠ e → b ≠ it → s.heap.get? b = some o → h'.get? b = some o) → Q (some (.ref s.heap.objs.size)) { s with heap := h', toks := s.toks + 1 }) :
    wpAny (model prog w) A (pyNext (.ref e)) Q E s := by
  have hT : s.TypeIs (.ref e) "enumerate" := ⟨_, he, rfl⟩
  unfold pyNext
  exact wpAny_bind (wpAny_attempt (wpAny_callSpecial?_slot (name := Str.ofString "__next__") hT F.slot_enumerate_next
    (wpAny_call_entry F.slot_enumerate_next hT F.entry_enumerate_next
      (enumB_item he hit hl hx hne fun h' a b c d k => wpAny_pure (hQ h' a b c d k)) (F.args_enumerate_next_1 _))))
theorem pyNextE_end {t : Bool} {e it l : Addr} {i : Nat} {c : Int} {items : Array Value} {old : Value} {Q : Option Value → Shared → Prop} (hh : A.handled = none)
    (he : IsEnum s.heap e it c old) (hit : IterIs t s.heap it l i) (hl : SeqIs t s.heap l items) (hx : items[i]? = none)
    (hQ : ∀ h', Heap.ExtBut it s.heap h' → Q none { s with heap := h' }) : wpAny (model prog w) A (pyNext (.ref e)) Q E s := by
  have hT : s.TypeIs (.ref e) "enumerate" := ⟨_, he, rfl⟩
  unfold pyNext
  refine wpAny_bind (wpAny_attempt (wpAny_callSpecial?_slot (name := Str.ofString "__next__") hT F.slot_enumerate_next
    (wpAny_call_entry F.slot_enumerate_next hT F.entry_enumerate_next ?_ (F.args_enumerate_next_1 _))))
  show wpAny _ _ (field (.ref e) 2 >>= _) _ _ _
  refine wpAny_bind (wpAny_field he rfl (x := .ref it) rfl ?_)
  refine wpAny_bind (nextOf_end hh hit hl hx fun h' x he' hx' => ?_)
  obtain ⟨o, ho, hc⟩ := hx'
  refine wpAny_bind (wpAny_isInstance (T := "StopIteration") (b := true) ⟨o, ho, hc⟩ isSubtype_stop ?_)
  exact wpAny_pure (hQ _ he')
end
def ItE (K : PySem.W.Frag) (t : Bool) (c : Int) (a : Addr) : It :=
  ⟨fun i H => ∃ (xs : List V) (x : V), SqB K H t a xs ∧ xs[i]? = some x, fun i H v H' => ∃ T x, v = .ref T ∧ H T = none ∧ H' = upd H T (.tup [.int (c + (i : Nat)), x]) ∧ ∀ xs, SqB K H t a xs → xs[i]? = some x, fun i H => ∃ xs : List V, SqB K H t a xs ∧ xs.length ≤ i⟩
theorem turn_enumB {P : Program} {w : World} {K : PySem.W.Frag} {elts : List Expr} {kk : Nat} {tpos : Pos} {t : Bool} {c : Int} (a e it : Addr) :
    Turn P w K (.Tuple elts kk tpos) (ItE K t c a) [e, it] e (fun i h => (∃ old, IsEnum h e it (c + ((i : Nat) : Int)) old) ∧ IterIs t h it a i ∧ e ≠ it) where
  mem := by simp
  obj := fun i h st b hb => by
    obtain ⟨⟨old, he⟩, hi, _⟩ := st
    have e' : b = e ∨ b = it := by simpa using hb
    rcases e' with z | z
    · rw [z]; exact ⟨_, he, fun v q => nomatch q⟩
    · rw [z]; exact hi.obj
  keep := fun i h h' st k => let ⟨⟨old, he⟩, hi, hne⟩ := st; ⟨⟨old, k e (by simp) _ he⟩, hi.at fun o q => k it (by simp) o q, hne⟩
  item := by
    intro X hP hw hK hc i pins s σ H E I hf st hg
    subst hP hw hK
    obtain ⟨⟨old, he⟩, hit, hne⟩ := st
    obtain ⟨xs, x, hq, hx⟩ := hg
    obtain ⟨its, rv, p, _⟩ := seqB I hq
    obtain ⟨u, hu, ru⟩ := rv.get hx
    have hel : e < s.heap.objs.size := Heap.lt_size he
    have hil : it < s.heap.objs.size := by obtain ⟨_, q, _⟩ := hit.obj; exact Heap.lt_size q
    refine pyNextE_item he hit p (x := u) (by simpa using hu) hne fun h' ho hit' hT hsz hk => ?_
    refine ⟨_, rfl, wpAny_letOwnedTupleGo_enum (s := { s with heap := h', toks := s.toks + 1 }) ho fun h'' he' sb => ?_⟩
    have hT2 : h''.get? s.heap.objs.size = some { cls := .type "tuple", data := .seq #[.int (c + (i : Nat)) s.toks, u] } := (sb.2 _ (Nat.ne_of_gt hel)).trans hT
    have new : ObjOk X.prog X.w (upd H s.heap.objs.size (.tup [.int (c + (i : Nat)), x])) h'' s.heap.objs.size (.tup [.int (c + (i : Nat)), x]) :=
      ⟨by show 2 ≤ sizeLine; decide, [.int (c + (i : Nat)) s.toks, u], .cons ⟨_, rfl⟩ (.cons ru .nil), ⟨_, hT2, rfl, _, rfl⟩⟩
    have I1 : Inv X pins σ (upd H s.heap.objs.size (.tup [.int (c + (i : Nat)), x])) { s with heap := h'', toks := s.toks + 1 } :=
      I.turnedNew (ch := [e, it]) (fun b ob hb q => (sb.2 b (fun z => hb (by simp [z]))).trans (hk b ob (fun z => hb (by simp [z])) (fun z => hb (by simp [z])) q)) hf (Nat.le_refl _) new
    refine ⟨.ref s.heap.objs.size, _, I1, rfl, ⟨_, x, rfl, I.hok.fresh (Nat.le_refl _), rfl, fun ys hy => by rw [seqB_inj I hy hq]; exact hx⟩, ⟨⟨u, ?_⟩, hit'.at fun o q => (sb.2 it (Ne.symm hne)).trans q, hne⟩, fun b hb => ?_⟩
    · have e1 : c + ((i + 1 : Nat) : Int) = c + (i : Int) + 1 := by omega
      rw [e1]; exact he'
    · have hb' : b < s.heap.objs.size := by
        have e' : b = e ∨ b = it := by simpa using hb
        rcases e' with z | z
        · rw [z]; exact hel
        · rw [z]; exact hil
      rw [upd_ne (Nat.ne_of_lt hb')]
      exact (hf b hb).1
  done := by
    intro X hP hw hK hc i pins s σ H E I hf st hg
    subst hP hw hK
    obtain ⟨⟨old, he⟩, hit, hne⟩ := st
    obtain ⟨xs, hq, hx⟩ := hg
    obtain ⟨its, rv, p, _⟩ := seqB I hq
    obtain ⟨f0, f1, f2, f3, f4, f5⟩ := hf it (by simp)
    have hl := rv.length
    exact pyNextE_end (I.ok.hd hc) he hit p (by simp; omega) fun h' eb => ⟨rfl, I.turned (t' := s.toks) (fun b o hb q => eb b o hb q) f0 f1 f3 f4 f5⟩
  self := fun A i s Q E st h => let ⟨⟨_, he⟩, _⟩ := st; wpAny_pyIter_enum he h
def iEnumB (K : PySem.W.Frag) (c : Int) (ta : TA) : TI := fun σ H R => ta σ H fun vs H1 => ∃ (t : Bool) (a : Addr) (xs : List V), vs = [.ref a] ∧ SqB K H1 t a xs ∧ R (ItE K t c a) H1
section
variable {X : Cx} {pins : List (Addr × Obj)} {σ : L2.St} {H : Hp} {s : Shared}
theorem enumB_begun {elts : List Expr} {kk : Nat} {tpos : Pos} {t : Bool} {c : Int} {a : Addr} {h' : Heap} {R : It → Hp → Prop} (I2 : Inv X pins σ H { s with heap := h' }) (I1 : Inv X pins σ H s)
    (he : IsEnum h' (s.heap.objs.size + 1) s.heap.objs.size c .none) (hit : h'.get? s.heap.objs.size = some (iterObj t a)) (q : R (ItE X.K t c a) H) :
    PIE X pins σ (.Tuple elts kk tpos) R (.ref (s.heap.objs.size + 1)) { s with heap := h' } := by
  refine ⟨s.heap.objs.size + 1, [s.heap.objs.size + 1, s.heap.objs.size], _, _, H, rfl, I2, turn_enumB a (s.heap.objs.size + 1) s.heap.objs.size, ⟨⟨.none, ?_⟩, .new hit, Nat.succ_ne_self _⟩, fun b hb => ?_, q⟩
  · show IsEnum h' _ _ (c + ((0 : Nat) : Int)) _
    rw [show c + ((0 : Nat) : Int) = c by simp]; exact he
  · have e' : b = s.heap.objs.size + 1 ∨ b = s.heap.objs.size := by simpa using hb
    have hle : s.heap.objs.size ≤ b := by
      rcases e' with z | z
      · rw [z]; exact Nat.le_add_right _ _
      · rw [z]; exact Nat.le_refl _
    exact I1.fpOk hle (I1.hok.fresh hle)
end
theorem pi_enumB {X : Cx} {e : Expr} {ta : TA} {p pos tpos : Pos} {elts : List Expr} {kk : Nat} (hg : Gl X "enumerate") (hm : X.mg "enumerate" = none) (ha : PA X [e] ta) (hs : starEach [e] X.env = [(false, eval e X.env)]) :
    PI X (.Tuple elts kk tpos) (.Call (.Name "enumerate" p) [e] [] pos) (iEnumB X.K 0 ta) := by
  refine ⟨fun pins s σ H R I h => ?_⟩
  refine PyProof.Rows.Call_ (ld_blt I hg hm PyProof.Rows.boot_enumerate (PyProof.Rows.callWith_type1 (thn (ha.run pos pins s σ H _ I h) fun us s1 ⟨vs, H1, I1, r1, q1⟩ => ?_) hs rfl))
  obtain ⟨t, a, xs, ex, hq, q⟩ := q1
  subst ex
  cases r1 with
  | cons r rr =>
    cases rr
    cases r
    obtain ⟨its, rv, p', _⟩ := seqB I1 hq
    refine enum_begins1 (begins t a its.toArray) p' fun h' he hit hsz hk => wpAny_pyIter_enum he ?_
    exact enumB_begun (I1.kept (t' := s1.toks) hk) I1 he hit q
theorem walk_enumB {K : PySem.W.Frag} {t : Bool} {c : Int} {a : Addr} {xs : List V} : Walk (ItE K t c a) xs.length (fun H => SqB K H t a xs) (YPair (fun i => some (.int (c + (i : Nat)))) (fun i => xs[i]?)) := by
  refine ⟨fun i _ hi q => ⟨xs, xs[i], q, by simp [hi]⟩, fun _ q => ⟨xs, q, Nat.le_refl _⟩, fun i H v H' _ q y => ?_⟩
  obtain ⟨T, x, h1, h2, h3, h4⟩ := y
  exact ⟨T, .int (c + (i : Nat)), x, h1, h2, h3, rfl, h4 xs q⟩
end DL
set_option Elab.async false
set_option linter.all false
set_option maxRecDepth 100000
set_option maxHeartbeats 4000000
/-! We: truth, items, slices, fields, built-ins, targets, what is walked. -/
namespace DL
open PySem PySem.Spec L2
section
variable {T : Tab} {K : PySem.W.Frag} {E : WX} {σ : L2.St} {ρ : Env} {F F' : Hp} {al al' : List Addr} {H H' : Hp} {S S' : Sto}
theorem isEmptyL {vs : List V} {ws : List W} (r : RwL T K F al vs ws) : vs.isEmpty = ws.isEmpty := by cases r <;> rfl
theorem truthy_sound {v : V} {w : W} {k : Bool} (g : Good T K F al S H) (r : Vw T K F al H v w) (e : truthy w = some k) : TruV K v H k := by
  unfold truthy at e
  split at e
  · cases e; cases r.non; rfl
  · cases e; cases r.bl; rfl
  · cases e; cases r.int; rfl
  · split at e
    · cases e; cases r.str
      rename_i hl
      exact ⟨by rw [← limit_eq]; exact hl, rfl⟩
    · cases e
  · cases e
    obtain ⟨a, xs, rfl, h1, h2⟩ := r.tup g.sub
    exact .inr (.inl ⟨xs, h1, by rw [isEmptyL h2]⟩)
  · cases e
    obtain ⟨a, xs, rfl, h1, h2⟩ := r.lst g.sub
    exact .inl ⟨xs, h1, by rw [isEmptyL h2]⟩
  · cases e
theorem atI_sound {vs : List V} {ws : List W} {i : Int} {w : W} (r : RwL T K F al vs ws) (h : atI ws i = some w) : ∃ v, atI vs i = some v ∧ Rw T K F al v w := by
  unfold atI at h ⊢
  rw [r.length]
  cases e : ixN ws.length i with
  | none => rw [e] at h; simp at h
  | some j =>
    rw [e] at h
    exact r.get h
theorem ix_sound {x y : V} {a b w : W} {Q : VK} (g : Good T K F al S H) (rx : Vw T K F al H x a) (ry : Rw T K F al y b) (e : getIx a b = some w) (h : RQ T K E σ F al H (.ok w S) Q) : rIx K x y H Q := by
  unfold getIx at e
  split at e
  · cases ry
    obtain ⟨p, xs, rfl, h1, h2⟩ := rx.tup g.sub
    obtain ⟨v, h3, h4⟩ := atI_sound h2 e
    exact .inr (.inl ⟨p, xs, _, v, rfl, rfl, h1, h3, h.val g h4⟩)
  · cases ry
    obtain ⟨p, xs, rfl, h1, h2⟩ := rx.lst g.sub
    obtain ⟨v, h3, h4⟩ := atI_sound h2 e
    exact .inl ⟨p, xs, _, v, rfl, rfl, h1, h3, h.val g h4⟩
  · cases e
def rSl (K : PySem.W.Frag) : V → Option Int → Option Int → Hp → VK → Prop := fun x lo hi H Q => rSlA K x lo hi H Q ∨ rSlL K x lo hi H Q
theorem sl_any {X : Cx} : SlR X (rSl X.K) := sl_tupA.or sl_list
theorem cut_sound {vs : List V} {ws : List W} (r : RwL T K F al vs ws) (lo hi : Option Int) : RwL T K F al (cutV vs lo hi) (cutW ws lo hi) := by
  unfold cutV cutW
  rw [r.length]
  exact (r.drop _).take _
theorem cut_whole {ws : List W} {lo hi : Option Int} (h : HT.sIx ws.length 0 lo = 0 ∧ HT.sIx ws.length ws.length hi = ws.length) : cutW ws lo hi = ws := by
  unfold cutW
  rw [h.1, h.2]
  simp
theorem sl_sound {x : V} {a w : W} {lo hi : Option Int} {Q : VK} (g : Good T K F al S H) (rx : Vw T K F al H x a) (e : getSl a lo hi = some w) (h : RQ T K E σ F al H (.ok w S) Q) : rSl K x lo hi H Q := by
  unfold getSl at e
  split at e
  · cases e
    obtain ⟨p, xs, rfl, h1, h2⟩ := rx.tup g.sub
    refine .inl ⟨p, xs, rfl, h1, fun hw => ?_, fun _ t ht => h.new g (cut_sound h2 _ _) ht⟩
    rw [h2.length] at hw
    refine h.val g ?_
    rw [cut_whole hw]
    cases rx with
    | same r => exact r
  · cases e
    obtain ⟨p, xs, rfl, h1, h2⟩ := rx.lst g.sub
    exact .inr ⟨p, xs, rfl, h1, fun t ht => h.newL g (cut_sound h2 _ _) ht⟩
  · cases e
theorem lookF_sound (hn : T.fld.Nodup) {f : Nat} {w : W} (hf : f < T.fld.length) : ∀ {gs : List (Str × V)} {fs : List (Nat × W)}, RwF T K F al gs fs → lookF f fs = some w → ∃ v, gs.lookup (T.f f) = some v ∧ Rw T K F al v w
  | _, _, .nil, e => by cases e
  | _, _, .cons (i := i) (fs := fs) l r t, e => by
    unfold lookF at e
    by_cases h : f = i
    · subst h
      rw [if_pos rfl] at e; cases e
      exact ⟨_, by rw [List.lookup_cons_self], r⟩
    · rw [if_neg h] at e
      obtain ⟨v, h1, h2⟩ := lookF_sound hn hf t e
      refine ⟨v, ?_, h2⟩
      rw [List.lookup_cons, show (T.f f == T.f i) = false from beq_eq_false_iff_ne.mpr fun q => h (Tab.f_inj hn hf l q)]
      exact h1
/-- an instance's fields, however it stands -/
theorem getFld_sound {x : V} {a w : W} {c f : Nat} (hn : T.fld.Nodup) (hf : f < T.fld.length) (g : Good T K F al S H) (rx : Rw T K F al x a) (e : getFld S c f a = some w) :
    ∃ p dx gs v, x = .ref p ∧ H p = some (.ins (T.c c) dx gs) ∧ gs.lookup (T.f f) = some v ∧ Rw T K F al v w := by
  cases rx with
  | @ins a dx d gs fs h1 hl h2 =>
    replace e : (if d = c then lookF f fs else none) = some w := e
    split at e
    · rename_i q; subst q
      obtain ⟨v, h3, h4⟩ := lookF_sound hn hf h2 e
      exact ⟨_, _, _, v, rfl, g.sub _ _ h1, h3, h4⟩
    · cases e
  | @loc a n ha =>
    cases q : S[n]? with
    | none => simp only [getFld, q] at e; cases e
    | some cl =>
      have hc := g.cell n a cl ha q
      cases cl with
      | obj d fs =>
        simp only [getFld, q] at e
        split at e
        · rename_i q2; subst q2
          obtain ⟨dx, gs, h1, _, h2⟩ := hc
          obtain ⟨v, h3, h4⟩ := lookF_sound hn hf h2 e
          exact ⟨_, _, _, v, rfl, h1, h3, h4⟩
        · cases e
      | frz w2 =>
        cases w2 with
        | ins d fs =>
          simp only [getFld, q] at e
          split at e
          · rename_i q2; subst q2
            have hc : Rw T K F al (.ref a) (.ins d fs) := hc
            cases hc with
            | ins h1 hl h2 =>
              obtain ⟨v, h3, h4⟩ := lookF_sound hn hf h2 e
              exact ⟨_, _, _, v, rfl, g.sub _ _ h1, h3, h4⟩
          · cases e
        | _ => simp only [getFld, q] at e; cases e
      | _ => simp only [getFld, q] at e; cases e
  | _ => cases e
/-! ### isinstance -/
def Ty.s : Ty → String
  | .int => "int" | .bool => "bool" | .str => "str" | .tuple => "tuple" | .list => "list"
theorem tyX_lst {p : Addr} {xs : List V} (h : SqL K H p xs) : TyX K H (.ref p) (.type "list") := by
  rcases h with (h | ⟨o, h⟩) | ⟨o, its, n, h1, h2, _⟩
  · exact .base (.lst h)
  · exact .base (.frz h)
  · exact .kList h1 h2
theorem tyX_tup {p : Addr} {xs : List V} (h : SqT K H p xs) : TyX K H (.ref p) (.type "tuple") := by
  rcases h with (h | ⟨o, h⟩) | ⟨o, its, n, h1, h2, _⟩
  · exact .base (.tup h)
  · exact .fTuple h
  · exact .kTuple h1 h2
/-- what the classes say whose instances may stand as data -/
def LvOk (T : Tab) (K : PySem.W.Frag) : Prop := ∀ c, T.lv c = true → Cls K (T.c c) ∧ PySem.W.findIn K (.ref (T.c c)) "__class__" = some (some (.builtin "object.__class__")) ∧ PySem.W.specialIn K (.builtin "object.__class__") "__get__" = some (some (.builtin "getset_descriptor.__get__")) ∧
  PySem.W.takesIn K (.builtin "object.__class__") = some true ∧ PySem.W.mroIn K (T.c c) (.type "object") = some true ∧ ∀ t : Ty, PySem.W.kitOne K (.ref (T.c c)) (.type t.s) = some false
theorem isi_sound (hlv : LvOk T K) {x : V} {a : W} {t : Ty} {k : Bool} {Q : VK} (g : Good T K F al S H) (rx : Vw T K F al H x a) (e : isTy t a = some k) (h : Q (.bl k) H) : rIsi K [x, .ty t.s] H Q := by
  have kk : ∀ {s : String} {b : Bool}, kitB s t.s = some b → TyX K H x (.type s) → b = k → rIsi K [x, .ty t.s] H Q := fun {s b} h1 h2 h3 => ⟨x, .ty t.s, .type s, .type t.s, b, rfl, .ty _, h2, kit_ty h1, by rw [h3]; exact h⟩
  cases a with
  | non => cases rx.non; cases t <;> (cases e; exact kk (s := "NoneType") (by decide +kernel) (.base .non) rfl)
  | bl b => cases rx.bl; cases t <;> (cases e; exact kk (s := "bool") (by decide +kernel) (.base (.bl _)) rfl)
  | int i => cases rx.int; cases t <;> (cases e; exact kk (s := "int") (by decide +kernel) (.base (.int _)) rfl)
  | str i => cases rx.str; cases t <;> (cases e; exact kk (s := "str") (by decide +kernel) (.base (.str _)) rfl)
  | tup ws => obtain ⟨p, xs, rfl, h1, _⟩ := rx.tup g.sub; cases t <;> (cases e; exact kk (s := "tuple") (by decide +kernel) (tyX_tup h1) rfl)
  | lst ws => obtain ⟨p, xs, rfl, h1, _⟩ := rx.lst g.sub; cases t <;> (cases e; exact kk (s := "list") (by decide +kernel) (tyX_lst h1) rfl)
  | ins c fs =>
    have e2 : false = k := by cases t <;> (cases e; rfl)
    cases rx with
    | same r => cases r with
      | ins q l _ =>
        obtain ⟨k1, k2, k3, k4, k5, k6⟩ := hlv _ l
        exact ⟨_, .ty t.s, .ref (T.c c), .type t.s, false, rfl, .ty _, .base (.ins (g.sub _ _ q) k1 k2 k3 k4 k5), k6 t, by rw [e2]; exact h⟩
  | loc n => cases t <;> cases e
  | tpx n => cases t <;> cases e
  | opq n m => cases t <;> cases e
  | lam => cases t <;> cases e
  | fn n => cases t <;> cases e
/-! ### built-in functions -/
theorem allB_sound : ∀ {ws : List W} {bs : List Bool}, allB ws = some bs → ws = bs.map W.bl
  | [], bs, e => by cases e; rfl
  | .bl b :: ws, bs, e => by
    unfold allB at e
    rw [Option.map_eq_some_iff] at e
    obtain ⟨cs, h1, rfl⟩ := e
    rw [List.map_cons, ← allB_sound h1]
  | .non :: _, _, e => by cases e
  | .int _ :: _, _, e => by cases e
  | .str _ :: _, _, e => by cases e
  | .tup _ :: _, _, e => by cases e
  | .lst _ :: _, _, e => by cases e
  | .ins _ _ :: _, _, e => by cases e
  | .loc _ :: _, _, e => by cases e
  | .tpx _ :: _, _, e => by cases e
  | .opq _ _ :: _, _, e => by cases e
  | .lam :: _, _, e => by cases e
  | .fn _ :: _, _, e => by cases e
theorem allI_sound : ∀ {ws : List W} {bs : List Int}, allI ws = some bs → ws = bs.map W.int
  | [], bs, e => by cases e; rfl
  | .int b :: ws, bs, e => by
    unfold allI at e
    rw [Option.map_eq_some_iff] at e
    obtain ⟨cs, h1, rfl⟩ := e
    rw [List.map_cons, ← allI_sound h1]
  | .non :: _, _, e => by cases e
  | .bl _ :: _, _, e => by cases e
  | .str _ :: _, _, e => by cases e
  | .tup _ :: _, _, e => by cases e
  | .lst _ :: _, _, e => by cases e
  | .ins _ _ :: _, _, e => by cases e
  | .loc _ :: _, _, e => by cases e
  | .tpx _ :: _, _, e => by cases e
  | .opq _ _ :: _, _, e => by cases e
  | .lam :: _, _, e => by cases e
  | .fn _ :: _, _, e => by cases e
def Prim.nm : Prim → Str
  | .len => "len" | .abs => "abs" | .max => "max" | .min => "min" | .all => "all" | .any => "any" | .tuple => "tuple" | .list => "list" | .divmod => "divmod" | .sum => "sum" | .int => "int" | .bool => "bool"
abbrev rCall := List V → Hp → VK → Prop
def rPrim (K : PySem.W.Frag) : Prim → rCall
  | .len => fun xs H Q => (∃ p ys, xs = [.ref p] ∧ (SqL K H p ys ∨ SqT K H p ys) ∧ Q (.int ys.length) H) ∨ ∃ z, xs = [.str z] ∧ z.length ≤ sizeLine ∧ Q (.int z.length) H
  | .abs => fun xs H Q => ∃ i, xs = [.int i] ∧ Q (.int (if i < 0 then -i else i)) H
  | .max => fun xs H Q => ∃ i j, xs = [.int i, .int j] ∧ Q (.int (if j > i then j else i)) H
  | .min => fun xs H Q => ∃ i j, xs = [.int i, .int j] ∧ Q (.int (if j < i then j else i)) H
  | .all => rAll K
  | .any => rAny K
  | .tuple => fun xs H Q => ∃ p ys, xs = [.ref p] ∧ ((SqL K H p ys ∧ ∀ l, H l = none → Q (.ref l) (upd H l (.tup ys))) ∨ (SqT K H p ys ∧ Q (.ref p) H))
  | .list => fun xs H Q => ∃ p ys, xs = [.ref p] ∧ (SqL K H p ys ∨ SqT K H p ys) ∧ ∀ l, H l = none → Q (.ref l) (upd H l (.lst ys))
  | .divmod => fun xs H Q => ∃ i j, xs = [.int i, .int j] ∧ CDiv i j ∧ ∀ p, H p = none → Q (.ref p) (upd H p (.tup [.int (i / j), .int (i % j)]))
  | .sum => rSum K
  | .int => fun xs H Q => (∃ i, xs = [.int i] ∧ Q (.int i) H) ∨ ∃ k, xs = [.bl k] ∧ Q (.int (if k then 1 else 0)) H
  | .bool => fun xs H Q => (∃ i, xs = [.int i] ∧ Q (.bl (i != 0)) H) ∨ ∃ k, xs = [.bl k] ∧ Q (.bl k) H
theorem vwL1 {xs : List V} {w : W} (h : VwL T K F al H xs [w]) : ∃ x, xs = [x] ∧ Vw T K F al H x w := by
  cases h with
  | cons a b => cases b; exact ⟨_, rfl, a⟩
theorem vwL2 {xs : List V} {w u : W} (h : VwL T K F al H xs [w, u]) : ∃ x y, xs = [x, y] ∧ Vw T K F al H x w ∧ Vw T K F al H y u := by
  cases h with
  | cons a b => cases b with
    | cons b c => cases c; exact ⟨_, _, rfl, a, b⟩
theorem prim_sound {p : Prim} {xs : List V} {ws : List W} {w : W} {Q : VK} (g : Good T K F al S H) (rx : VwL T K F al H xs ws) (e : prim p ws = some w) (h : RQ T K E σ F al H (.ok w S) Q) : rPrim K p xs H Q := by
  unfold prim at e
  split at e
  · cases e; obtain ⟨x, rfl, r⟩ := vwL1 rx
    obtain ⟨q, ys, rfl, h1, h2⟩ := r.tup g.sub
    exact .inl ⟨q, ys, rfl, .inr h1, by rw [h2.length]; exact h.val g (.int _)⟩
  · cases e; obtain ⟨x, rfl, r⟩ := vwL1 rx
    obtain ⟨q, ys, rfl, h1, h2⟩ := r.lst g.sub
    exact .inl ⟨q, ys, rfl, .inl h1, by rw [h2.length]; exact h.val g (.int _)⟩
  · split at e
    · cases e; obtain ⟨x, rfl, r⟩ := vwL1 rx; cases r.str
      rename_i hl
      exact .inr ⟨_, rfl, by rw [← limit_eq]; exact hl, h.val g (.int _)⟩
    · cases e
  · cases e; obtain ⟨x, rfl, r⟩ := vwL1 rx; cases r.int
    exact ⟨_, rfl, h.val g (.int _)⟩
  · cases e; obtain ⟨x, y, rfl, r1, r2⟩ := vwL2 rx; cases r1.int; cases r2.int
    exact ⟨_, _, rfl, h.val g (.int _)⟩
  · cases e; obtain ⟨x, y, rfl, r1, r2⟩ := vwL2 rx; cases r1.int; cases r2.int
    exact ⟨_, _, rfl, h.val g (.int _)⟩
  · rw [Option.map_eq_some_iff] at e
    obtain ⟨bs, h1, rfl⟩ := e
    obtain ⟨x, rfl, r⟩ := vwL1 rx
    obtain ⟨q, ys, rfl, h3, h4⟩ := r.lst g.sub
    rw [allB_sound h1] at h4
    have := h4.bls
    subst this
    exact ⟨q, bs, rfl, h3, h.val g (.bl _)⟩
  · rw [Option.map_eq_some_iff] at e
    obtain ⟨bs, h1, rfl⟩ := e
    obtain ⟨x, rfl, r⟩ := vwL1 rx
    obtain ⟨q, ys, rfl, h3, h4⟩ := r.lst g.sub
    rw [allB_sound h1] at h4
    have := h4.bls
    subst this
    exact ⟨q, bs, rfl, h3, h.val g (.bl _)⟩
  · cases e; obtain ⟨x, rfl, r⟩ := vwL1 rx
    obtain ⟨q, ys, rfl, h1, h2⟩ := r.tup g.sub
    refine ⟨q, ys, rfl, .inr ⟨h1, h.val g ?_⟩⟩
    cases r with
    | same r => exact r
  · cases e; obtain ⟨x, rfl, r⟩ := vwL1 rx
    obtain ⟨q, ys, rfl, h1, h2⟩ := r.lst g.sub
    exact ⟨q, ys, rfl, .inl ⟨h1, fun t ht => h.new g h2 ht⟩⟩
  · cases e; obtain ⟨x, rfl, r⟩ := vwL1 rx
    obtain ⟨q, ys, rfl, h1, h2⟩ := r.tup g.sub
    exact ⟨q, ys, rfl, .inr h1, fun t ht => h.newL g h2 ht⟩
  · cases e; obtain ⟨x, rfl, r⟩ := vwL1 rx
    obtain ⟨q, ys, rfl, h1, h2⟩ := r.lst g.sub
    exact ⟨q, ys, rfl, .inl h1, fun t ht => h.newL g h2 ht⟩
  · split at e
    · cases e; obtain ⟨x, y, rfl, r1, r2⟩ := vwL2 rx; cases r1.int; cases r2.int
      rename_i hl
      exact ⟨_, _, rfl, hl, fun t ht => h.new g (.cons (.int _) (.cons (.int _) .nil)) ht⟩
    · cases e
  · rw [Option.map_eq_some_iff] at e
    obtain ⟨bs, h1, rfl⟩ := e
    obtain ⟨x, rfl, r⟩ := vwL1 rx
    obtain ⟨q, ys, rfl, h3, h4⟩ := r.lst g.sub
    rw [allI_sound h1] at h4
    have := h4.ints
    subst this
    exact ⟨q, bs, rfl, h3, h.val g (.int _)⟩
  · cases e; obtain ⟨x, rfl, r⟩ := vwL1 rx; cases r.int
    exact .inl ⟨_, rfl, h.val g (.int _)⟩
  · cases e; obtain ⟨x, rfl, r⟩ := vwL1 rx; cases r.bl
    exact .inr ⟨_, rfl, h.val g (.int _)⟩
  · cases e; obtain ⟨x, rfl, r⟩ := vwL1 rx; cases r.int
    exact .inl ⟨_, rfl, h.val g (.bl _)⟩
  · cases e; obtain ⟨x, rfl, r⟩ := vwL1 rx; cases r.bl
    exact .inr ⟨_, rfl, h.val g (.bl _)⟩
  · cases e
/-! ### targets -/
def gAll : List Nat → TGs
  | [] => gNil
  | i :: is => gCons (gName i) (gAll is)
theorem wipe_set {σ : L2.St} {i : Nat} {v : Option V} : ∀ {vs : List Nat}, i ∈ vs → L2.wipe (σ.set i v) vs = L2.wipe σ vs
  | [], h => by cases h
  | u :: vs, h => by
    unfold L2.wipe
    by_cases e : i ∈ vs
    · rw [wipe_set e]
    · have : i = u := by rcases List.mem_cons.mp h with h | h; exact h; exact absurd h e
      subst this
      have : ∀ (ws : List Nat) (σ : L2.St), (L2.wipe (σ.set i v) ws).set i none = (L2.wipe σ ws).set i none := by
        intro ws
        induction ws with
        | nil => intro σ; show (σ.set i v).set i none = σ.set i none; rw [List.set_set]
        | cons x ws ih =>
          intro σ
          show ((L2.wipe (σ.set i v) ws).set x none).set i none = ((L2.wipe σ ws).set x none).set i none
          by_cases q : x = i
          · subst q; rw [List.set_set, List.set_set]; exact ih σ
          · rw [List.set_comm _ _ q, ih σ, List.set_comm _ _ q]
      exact this vs σ
theorem wipe_envOk (e : EnvOk T K F al σ ρ) : ∀ vs : List Nat, EnvOk T K F al (L2.wipe σ vs) (wipeW ρ vs)
  | [] => e
  | v :: vs => (wipe_envOk e vs).wipe v
/-- Q is wanted of all slots that fit, the slots out of vs as they were -/
theorem gAll_sound (vs : List Nat) : ∀ {is : List Nat} {xs : List V} {ws : List W} {σ σ0 : L2.St} {ρ ρ' : Env} {Q : L2.St → Hp → Prop}, RwL T K F al xs ws → EnvOk T K F al σ ρ → setAll is ws ρ = some ρ' → (∀ i ∈ is, i ∈ vs) → L2.wipe σ vs = L2.wipe σ0 vs →
    (∀ σ', EnvOk T K F al σ' ρ' → L2.wipe σ' vs = L2.wipe σ0 vs → Q σ' H) → gAll is xs σ H Q
  | [], _, _, σ, σ0, ρ, ρ', Q, .nil, e, h, _, hw, k => by cases h; exact ⟨rfl, k σ e hw⟩
  | [], _, _, _, _, _, _, _, .cons _ _, _, h, _, _, _ => by cases h
  | _ :: _, _, _, _, _, _, _, _, .nil, _, h, _, _, _ => by cases h
  | i :: is, _, _, σ, σ0, ρ, ρ', Q, .cons r t, e, h, hv, hw, k => by
    refine ⟨_, _, rfl, ?_⟩
    exact gAll_sound vs t (e.set r i) h (fun j hj => hv j (List.mem_cons_of_mem _ hj)) (by rw [wipe_set (hv i (List.mem_cons_self ..))]; exact hw) k
end
/-! ### a star in a target -/
/-- a, b, *c = a tuple, the starred one last -/
def gStar (K : PySem.W.Frag) (n : Nat) (t : TGs) : TG := fun v σ H Q => ∃ a xs, v = .ref a ∧ SqT K H a xs ∧ n ≤ xs.length ∧ xs.length ≤ 16384 ∧ ∀ p, H p = none → t (xs.take n ++ [.ref p]) σ (upd H p (.lst (xs.drop n))) Q
/-- a, b, *c = a list, the starred one last -/
def gStarL (K : PySem.W.Frag) (n : Nat) (t : TGs) : TG := fun v σ H Q => ∃ a xs, v = .ref a ∧ SqL K H a xs ∧ n ≤ xs.length ∧ xs.length ≤ 16384 ∧ ∀ p, H p = none → t (xs.take n ++ [.ref p]) σ (upd H p (.lst (xs.drop n))) Q
end DL
set_option Elab.async false
set_option linter.all false
set_option maxRecDepth 100000
set_option maxHeartbeats 4000000
/-! Wf: parts of expressions as functions on data, each with its rule. -/
namespace DL
open PySem PySem.Spec L2
abbrev Me := Env → Sto → Res
abbrev Ml := Env → Sto → LRes
abbrev Mb := Env → Sto → BRes
abbrev EF : WX := fun _ _ _ _ => False
def mVar (i : Nat) : Me := fun ρ S => match ρ[i]? with
  | some (some w) => .ok w S
  | _ => .bad
def mCon (w : W) : Me := fun _ S => .ok w S
def mNil : Ml := fun _ S => .ok [] S
def mCons (m : Me) (ms : Ml) : Ml := fun ρ S => (m ρ S).bindL fun w S => (ms ρ S).bindL fun ws S => .ok (w :: ws) S
def mTup (ms : Ml) : Me := fun ρ S => (ms ρ S).bind fun ws S => if ws.length ≤ limit then .ok (.tup ws) S else .bad
def mLst (ms : Ml) : Me := fun ρ S => (ms ρ S).bind fun ws S => if ws.length ≤ limit then .ok (.lst ws) S else .bad
def mNLst (ms : Ml) : Me := fun ρ S => (ms ρ S).bind fun ws S => if ws.length ≤ limit then newCellR (.lst ws) S else .bad
def mBin (o : Operator) (a b : Me) : Me := fun ρ S => (a ρ S).bind fun x S => (b ρ S).bind fun y S => optR S (binop o (deref S x) (deref S y))
def negW : W → Option W
  | .int i => some (.int (-i))
  | _ => none
def mNeg (a : Me) : Me := fun ρ S => (a ρ S).bind fun x S => optR S (negW x)
def mNot (a : Me) : Me := fun ρ S => (a ρ S).bind fun x S => optR S ((truthy (deref S x)).map fun k => .bl (!k))
def mAnd (a b : Me) : Me := fun ρ S => (a ρ S).bind fun x S => match truthy (deref S x) with
  | some true => b ρ S
  | some false => .ok x S
  | none => .bad
def mOr (a b : Me) : Me := fun ρ S => (a ρ S).bind fun x S => match truthy (deref S x) with
  | some true => .ok x S
  | some false => b ρ S
  | none => .bad
def mCmp (o : CmpOp) (a b : Me) : Me := fun ρ S => (a ρ S).bind fun x S => (b ρ S).bind fun y S => optR S ((cmpop o (deref S x) (deref S y)).map .bl)
def mChain (o p : CmpOp) (a b c : Me) : Me := fun ρ S => (a ρ S).bind fun x S => (b ρ S).bind fun y S => match cmpop o (deref S x) (deref S y) with
  | some true => (c ρ S).bind fun z S => optR S ((cmpop p (deref S y) (deref S z)).map .bl)
  | some false => .ok (.bl false) S
  | none => .bad
def mIdx (a b : Me) : Me := fun ρ S => (a ρ S).bind fun x S => (b ρ S).bind fun y S => optR S (getIx (deref S x) y)
def mPart (a : Me) : Me := fun ρ S => (a ρ S).bind fun x S => match x with
  | .int i => .ok (.int i) S
  | _ => .bad
def mSlc (a l h : Me) : Me := fun ρ S => (a ρ S).bind fun x S => (l ρ S).bind fun l S => match partW l with
  | none => .bad
  | some l => (h ρ S).bind fun h S => match partW h with
    | none => .bad
    | some u => optR S (getSl (deref S x) l u)
def mFld (c f : Nat) (a : Me) : Me := fun ρ S => (a ρ S).bind fun x S => optR S (getFld S c f x)
def mPrim (p : Prim) (ms : Ml) : Me := fun ρ S => (ms ρ S).bind fun ws S => optR S (DL.prim p (ws.map (deref S)))
def mNlist (a : Me) : Me := fun ρ S => (a ρ S).bind fun x S => match items (deref S x) with
  | some ws => newCellR (.lst ws) S
  | none => .bad
def mIsi (t : Ty) (a : Me) : Me := fun ρ S => (a ρ S).bind fun x S => optR S ((isTy t (deref S x)).map .bl)
def mFrz (a : Me) : Me := fun ρ S => (a ρ S).bind freezeR
def appR (x y : W) (S : Sto) : Res := match x with
  | .loc n => match S[n]? with
    | some (.lst ws) => if ws.length < limit then .ok .non (S.set n (.lst (ws ++ [y]))) else .bad
    | _ => .bad
  | _ => .bad
def isCell (S : Sto) : W → Bool
  | .loc n => match S[n]? with
    | some (.lst _) => true
    | _ => false
  | _ => false
def mApp (a b : Me) : Me := fun ρ S => (a ρ S).bind fun x S => if isCell S x then (b ρ S).bind fun y S => appR x y S else .bad
def mLc (mt : Bool) (vs : List Nat) (tg : Tg) (it : Ml) (c : Mb) (elt : Me) : Me := fun ρ S => (it ρ S).bind fun xs S => if xs.length ≤ limit then
    (compM (lcStep ρ vs tg c elt) xs [] S).bind fun ys S => if mt then newCellR (.lst ys) S else .ok (.lst ys) S
  else .bad
def bYes : Mb := fun _ S => .ok true S
def bTest (a : Me) : Mb := fun ρ S => test (a ρ S)
def bAnd (a b : Mb) : Mb := fun ρ S => (a ρ S).bindB fun k S => if k then b ρ S else .ok false S
def bOr (a b : Mb) : Mb := fun ρ S => (a ρ S).bindB fun k S => if k then .ok true S else b ρ S
def bNot (a : Mb) : Mb := fun ρ S => (a ρ S).bindB fun k S => .ok (!k) S
def bIfx (c a b : Mb) : Mb := fun ρ S => (c ρ S).bindB fun k S => if k then a ρ S else b ρ S
def mIfx (c : Mb) (a b : Me) : Me := fun ρ S => (c ρ S).bind fun k S => if k then a ρ S else b ρ S
/-! what is walked -/
def jE (a : Me) : Ml := fun ρ S => (a ρ S).bindL fun x S => optL S (items x)
def jRange1 (a : Me) : Ml := fun ρ S => (a ρ S).bindL fun x S => match x with
  | .int j => if -(2 ^ 62) ≤ j ∧ j < 2 ^ 62 then .ok (rangeW 0 j.toNat) S else .bad
  | _ => .bad
def jRange2 (a b : Me) : Ml := fun ρ S => (a ρ S).bindL fun x S => (b ρ S).bindL fun y S => match x, y with
  | .int i, .int j => if (-(2 ^ 62) ≤ i ∧ i < 2 ^ 62) ∧ -(2 ^ 62) ≤ j ∧ j < 2 ^ 62 then .ok (rangeW i (j - i).toNat) S else .bad
  | _, _ => .bad
def jEnum (c : Int) (a : Me) : Ml := fun ρ S => (a ρ S).bindL fun x S => optL S ((items x).map (enumI c))
where enumI (n : Int) : List W → List W
  | [] => []
  | x :: xs => .tup [.int n, x] :: enumI (n + 1) xs
def jZip (a b : Me) : Ml := fun ρ S => (a ρ S).bindL fun x S => (b ρ S).bindL fun y S => match x, y with
  | .tup xs, .tup ys => .ok (zipW xs ys) S
  | .lst xs, .lst ys => .ok (zipW xs ys) S
  | _, _ => .bad
def jZips (a b : Me) : Ml := fun ρ S => (a ρ S).bindL fun x S => (b ρ S).bindL fun y S => match items x, items y with
  | some xs, some ys => if xs.length = ys.length then .ok (zipW xs ys) S else .bad
  | _, _ => .bad
theorem peM {X : Cx} {e : Expr} {t t' : TE} (h : PE X e t) (i : ∀ σ H Q, t' σ H Q → t σ H Q) : PE X e t' := ⟨fun pins s σ H Q I w => h.run pins s σ H Q I (i σ H Q w)⟩
theorem paM {X : Cx} {e : List Expr} {t t' : TA} (h : PA X e t) (i : ∀ σ H Q, t' σ H Q → t σ H Q) : PA X e t' := ⟨fun pos pins s σ H Q I w => h.run pos pins s σ H Q I (i σ H Q w)⟩
theorem ptM {X : Cx} {e : Expr} {t t' : TT} (h : PT X e t) (i : ∀ σ H Q, t' σ H Q → t σ H Q) : PT X e t' := ⟨fun pins s σ H Q I w => h.run pins s σ H Q I (i σ H Q w)⟩
theorem pwM {X : Cx} {e : Expr} {t t' : TT} (h : PW X e t) (i : ∀ σ H Q, t' σ H Q → t σ H Q) : PW X e t' := ⟨fun wh pins s σ H Q I w => h.run wh pins s σ H Q I (i σ H Q w)⟩
theorem poM {X : Cx} {e : Option Expr} {t t' : TO} (h : PO X e t) (i : ∀ σ H Q, t' σ H Q → t σ H Q) : PO X e t' := ⟨fun pins s σ H Q I w => h.run pins s σ H Q I (i σ H Q w)⟩
theorem piM {X : Cx} {tg e : Expr} {t t' : TI} (h : PI X tg e t) (i : ∀ σ H R, t' σ H R → t σ H R) : PI X tg e t' := ⟨fun pins s σ H Q I w => h.run pins s σ H Q I (i σ H Q w)⟩
theorem psM {X : Cx} {e : Stmt} {t t' : TS} (h : PS X e t) (i : ∀ D σ H, t' D σ H → t D σ H) : PS X e t' := ⟨fun pins s σ H D I w => h.run pins s σ H D I (i D σ H w)⟩
theorem pssM {X : Cx} {e : List Stmt} {t t' : TS} (h : PSs X e t) (i : ∀ D σ H, t' D σ H → t D σ H) : PSs X e t' := ⟨fun pins s σ H D I w => h.run pins s σ H D I (i D σ H w)⟩
section
variable {X : Cx} {T : Tab} {E : WX} {pos : Pos} {a b c : Expr} {p q r : Me} {es : List Expr} {ps : Ml} {bp bq : Mb}
theorem w_var {i : Nat} {x : Str} (hN : X.N[i]? = some x) (hv : Vis X.env.scope x) (hd : (x == ("__debug__" : Str)) = false) (hcd : (x == ("__classdict__" : Str)) = false) : PE X (.Name x pos) (tW T X.K E (mVar i)) := by
  refine peM (pe_var hN hv hd hcd) ?_
  rintro σ H Q ⟨F, al, S, ρ, g, e, h⟩
  unfold mVar at h
  split at h
  · rename_i w hw
    obtain ⟨v, h1, h2⟩ := e.2 i w hw
    exact ⟨v, h1, h.val g h2⟩
  · exact h.elim
theorem w_con {v : V} {w : W} (r : ∀ F al, Rw T X.K F al v w) (h : PE X a (tC v)) : PE X a (tW T X.K E (mCon w)) := by
  refine peM h ?_
  rintro σ H Q ⟨F, al, S, ρ, g, e, h⟩
  exact h.val g (r F al)
theorem w_int {i : Int} {j} : PE X (.Constant (.int i) j pos) (tW T X.K E (mCon (.int i))) := w_con (fun _ _ => .int i) pe_int
theorem w_bl {i : Bool} {j} : PE X (.Constant (.bool i) j pos) (tW T X.K E (mCon (.bl i))) := w_con (fun _ _ => .bl i) pe_bl
theorem w_non {j} : PE X (.Constant .none j pos) (tW T X.K E (mCon .non)) := w_con (fun _ _ => .non) pe_non
theorem w_str {i : Str} {j} : PE X (.Constant (.str i) j pos) (tW T X.K E (mCon (.str i))) := w_con (fun _ _ => .str i) pe_str
theorem w_glob {x : Str} {v : V} {u : Value} {w : W} (hg : Gl X x) (hm : X.mg x = some u) (r : RelV v u) (rw : ∀ F al, Rw T X.K F al v w) (hd : (x == ("__debug__" : Str)) = false) : PE X (.Name x pos) (tW T X.K E (mCon w)) := w_con rw (pe_glob hg hm r hd)
theorem w_nil : PA X [] (tL T X.K E mNil) := by
  refine paM pa_nil ?_
  rintro σ H Q ⟨F, al, S, ρ, g, e, h⟩
  exact RQ.valL h g .nil
theorem w_cons (ha : PE X a (tW T X.K E p)) (hr : PA X es (tL T X.K E ps)) (hs : starEach (a :: es) X.env = (false, eval a X.env) :: starEach es X.env) : PA X (a :: es) (tL T X.K E (mCons p ps)) := by
  refine paM (pa_cons ha hr hs) ?_
  rintro σ H Q ⟨F, al, S, ρ, g, e, h⟩
  refine (tW.bindL g e h).imp fun x H1 ⟨F1, al1, S1, w, m, r, h1⟩ => ?_
  refine (tL.bindL m.g m.e h1).imp fun y H2 ⟨F2, al2, S2, u, m2, r2, h2⟩ => ?_
  exact RQ.valL h2 m2.g (.cons (r.post m2.p) r2)
theorem w_tup {k : Nat} (h : PA X es (tL T X.K E ps)) : PE X (.Tuple es k pos) (tW T X.K E (mTup ps)) := by
  refine peM (pe_tup h) ?_
  rintro σ H Q ⟨F, al, S, ρ, g, e, h⟩
  refine (tL.bind g e h).imp fun x H1 ⟨F1, al1, S1, w, m, r, h1⟩ => ?_
  split at h1
  · rename_i hl
    exact ⟨by rw [r.length, ← limit_eq]; exact hl, fun p hp => h1.new m.g r hp⟩
  · exact h1.elim
theorem w_lst (h : PA X es (tL T X.K E ps)) : PE X (.List es pos) (tW T X.K E (mLst ps)) := by
  refine peM (pe_lst h) ?_
  rintro σ H Q ⟨F, al, S, ρ, g, e, h⟩
  refine (tL.bind g e h).imp fun x H1 ⟨F1, al1, S1, w, m, r, h1⟩ => ?_
  split at h1
  · rename_i hl
    exact ⟨by rw [r.length, ← limit_eq]; exact hl, fun p hp => h1.newL m.g r hp⟩
  · exact h1.elim
theorem w_nlst (h : PA X es (tL T X.K E ps)) : PE X (.List es pos) (tW T X.K E (mNLst ps)) := by
  refine peM (pe_lst h) ?_
  rintro σ H Q ⟨F, al, S, ρ, g, e, h⟩
  refine (tL.bind g e h).imp fun x H1 ⟨F1, al1, S1, w, m, r, h1⟩ => ?_
  split at h1
  · rename_i hl
    exact ⟨by rw [r.length, ← limit_eq]; exact hl, fun p hp => h1.newC m.g r hp⟩
  · exact h1.elim
theorem w_bin {o : Operator} (ha : PE X a (tW T X.K E p)) (hb : PE X b (tW T X.K E q)) : PE X (.BinOp a o b pos) (tW T X.K E (mBin o p q)) := by
  refine peM (pe_op (op_bin o) ha hb) ?_
  rintro σ H Q ⟨F, al, S, ρ, g, e, h⟩
  refine (tW.bind g e h).imp fun x H1 ⟨F1, al1, S1, w, m, r, h1⟩ => ?_
  refine (tW.bind m.g m.e h1).imp fun y H2 ⟨F2, al2, S2, u, m2, r2, h2⟩ => ?_
  exact bin_sound m2.g (vw_of m2.g (r.post m2.p)) (vw_of m2.g r2) h2
theorem optR_some {T : Tab} {K : PySem.W.Frag} {E : WX} {σ : L2.St} {F : Hp} {al : List Addr} {H : Hp} {S : Sto} {Q : VK} {o : Option W} (h : RQ T K E σ F al H (optR S o) Q) : ∃ w, o = some w ∧ RQ T K E σ F al H (.ok w S) Q := by
  cases o with
  | none => exact h.elim
  | some w => exact ⟨w, rfl, h⟩
theorem w_neg (ha : PE X a (tW T X.K E p)) : PE X (.UnaryOp .USub a pos) (tW T X.K E (mNeg p)) := by
  refine peM (pe_un un_neg ha) ?_
  rintro σ H Q ⟨F, al, S, ρ, g, e, h⟩
  refine (tW.bind g e h).imp fun x H1 ⟨F1, al1, S1, w, m, r, h1⟩ => ?_
  obtain ⟨u, e1, h2⟩ := optR_some h1
  unfold negW at e1
  split at e1
  · cases e1; cases r
    exact ⟨_, rfl, h2.val m.g (.int _)⟩
  · cases e1
theorem w_not (ha : PE X a (tW T X.K E p)) : PE X (.UnaryOp .Not a pos) (tW T X.K E (mNot p)) := by
  refine peM (pe_notT ha) ?_
  rintro σ H Q ⟨F, al, S, ρ, g, e, h⟩
  refine (tW.bind g e h).imp fun x H1 ⟨F1, al1, S1, w, m, r, h1⟩ => ?_
  obtain ⟨u, e1, h2⟩ := optR_some h1
  rw [Option.map_eq_some_iff] at e1
  obtain ⟨k, e1, rfl⟩ := e1
  exact ⟨k, truthy_sound m.g (vw_of m.g r) e1, h2.val m.g (.bl _)⟩
theorem w_and {rest : List Expr} (ha : PE X a (tW T X.K E p)) (hb : PE X (.BoolOp .And (b :: rest) pos) (tW T X.K E q)) : PE X (.BoolOp .And (a :: b :: rest) pos) (tW T X.K E (mAnd p q)) := by
  refine peM (pe_andT ha hb) ?_
  rintro σ H Q ⟨F, al, S, ρ, g, e, h⟩
  refine (tW.bind g e h).imp fun x H1 ⟨F1, al1, S1, w, m, r, h1⟩ => ?_
  split at h1
  · rename_i e1
    exact ⟨true, truthy_sound m.g (vw_of m.g r) e1, by rw [if_pos rfl]; exact ⟨F1, al1, S1, ρ, m.g, m.e, h1⟩⟩
  · rename_i e1
    exact ⟨false, truthy_sound m.g (vw_of m.g r) e1, by rw [if_neg Bool.false_ne_true]; exact h1.val m.g r⟩
  · exact h1.elim
theorem w_or {rest : List Expr} (ha : PE X a (tW T X.K E p)) (hb : PE X (.BoolOp .Or (b :: rest) pos) (tW T X.K E q)) : PE X (.BoolOp .Or (a :: b :: rest) pos) (tW T X.K E (mOr p q)) := by
  refine peM (pe_orT ha hb) ?_
  rintro σ H Q ⟨F, al, S, ρ, g, e, h⟩
  refine (tW.bind g e h).imp fun x H1 ⟨F1, al1, S1, w, m, r, h1⟩ => ?_
  split at h1
  · rename_i e1
    exact ⟨true, truthy_sound m.g (vw_of m.g r) e1, by rw [if_pos rfl]; exact h1.val m.g r⟩
  · rename_i e1
    exact ⟨false, truthy_sound m.g (vw_of m.g r) e1, by rw [if_neg Bool.false_ne_true]; exact ⟨F1, al1, S1, ρ, m.g, m.e, h1⟩⟩
  · exact h1.elim
theorem w_cmp {k : Nat} {o : CmpOp} (hr : Room k X.A) (ha : PE X a (tW T X.K E p)) (hb : PE X b (tW T X.K E q)) (hm : behindInMarks o b = false) : PE X (.Compare a [o] [b] pos) (tW T X.K E (mCmp o p q)) := by
  refine peM (pe_cmpR (op_cmp hr o) ha hb hm) ?_
  rintro σ H Q ⟨F, al, S, ρ, g, e, h⟩
  refine (tW.bind g e h).imp fun x H1 ⟨F1, al1, S1, w, m, r, h1⟩ => ?_
  refine (tW.bind m.g m.e h1).imp fun y H2 ⟨F2, al2, S2, u, m2, r2, h2⟩ => ?_
  obtain ⟨z, e1, h3⟩ := optR_some h2
  rw [Option.map_eq_some_iff] at e1
  obtain ⟨k, e1, rfl⟩ := e1
  exact cmp_sound m2.g (vw_of m2.g (r.post m2.p)) (vw_of m2.g r2) e1 (h3.val m2.g (.bl _))
theorem w_chain {k : Nat} {o o' : CmpOp} (hr : Room k X.A) (ha : PE X a (tW T X.K E p)) (hb : PE X b (tW T X.K E q)) (hc : PE X c (tW T X.K E r)) (hm : lastMarks [o, o'] [b, c] = false) : PE X (.Compare a [o, o'] [b, c] pos) (tW T X.K E (mChain o o' p q r)) := by
  refine peM (pe_chain (op_cmp hr o) (op_cmp hr o') ha hb hc hm) ?_
  rintro σ H Q ⟨F, al, S, ρ, g, e, h⟩
  refine (tW.bind g e h).imp fun x H1 ⟨F1, al1, S1, w, m, r, h1⟩ => ?_
  refine (tW.bind m.g m.e h1).imp fun y H2 ⟨F2, al2, S2, u, m2, r2, h2⟩ => ?_
  split at h2
  · rename_i e1
    refine cmp_sound m2.g (vw_of m2.g (r.post m2.p)) (vw_of m2.g r2) e1 ⟨true, rfl, ?_⟩
    rw [if_pos rfl]
    refine (tW.bind m2.g m2.e h2).imp fun z H3 ⟨F3, al3, S3, u3, m3, r3, h3⟩ => ?_
    obtain ⟨z, e1, h3⟩ := optR_some h3
    rw [Option.map_eq_some_iff] at e1
    obtain ⟨k, e1, rfl⟩ := e1
    exact cmp_sound m3.g (vw_of m3.g (r2.post m3.p)) (vw_of m3.g r3) e1 (h3.val m3.g (.bl _))
  · rename_i e1
    refine cmp_sound m2.g (vw_of m2.g (r.post m2.p)) (vw_of m2.g r2) e1 ⟨false, rfl, ?_⟩
    rw [if_neg Bool.false_ne_true]
    exact h2.val m2.g (.bl _)
  · exact h2.elim
theorem w_idx (ha : PE X a (tW T X.K E p)) (hb : PE X b (tW T X.K E q)) (hs : PlainIx b) : PE X (.Subscript a b pos) (tW T X.K E (mIdx p q)) := by
  refine peM (pe_ix ix_seq ha hb hs) ?_
  rintro σ H Q ⟨F, al, S, ρ, g, e, h⟩
  refine (tW.bind g e h).imp fun x H1 ⟨F1, al1, S1, w, m, r, h1⟩ => ?_
  refine (tW.bind m.g m.e h1).imp fun y H2 ⟨F2, al2, S2, u, m2, r2, h2⟩ => ?_
  obtain ⟨z, e1, h3⟩ := optR_some h2
  exact ix_sound m2.g (vw_of m2.g (r.post m2.p)) r2 e1 h3
/-! slices -/
def partV : V → Option (Option Int)
  | .non => some none
  | .int i => some (some i)
  | _ => none
def tOW (T : Tab) (K : PySem.W.Frag) (E : WX) (m : Me) : TO := fun σ H Q => tW T K E m σ H fun x H1 => ∃ o, partV x = some o ∧ Q o H1
theorem w_part (h : PE X a (tW T X.K E p)) : PO X (some a) (tOW T X.K E (mPart p)) := by
  refine poM (po_some h) ?_
  rintro σ H Q ⟨F, al, S, ρ, g, e, h⟩
  refine (tW.bind g e h).imp fun x H1 ⟨F1, al1, S1, w, m, r, h1⟩ => ?_
  split at h1
  · cases r
    obtain ⟨o, e1, e2⟩ := h1.val m.g (.int _)
    cases e1
    exact ⟨_, rfl, e2⟩
  · exact h1.elim
theorem w_noPart : PO X none (tOW T X.K E (mCon .non)) := by
  refine poM po_none ?_
  rintro σ H Q ⟨F, al, S, ρ, g, e, h⟩
  obtain ⟨o, e1, e2⟩ := h.val g .non
  cases e1; exact e2
theorem partW_sound {K : PySem.W.Frag} {F : Hp} {al : List Addr} {v : V} {w : W} {o : Option Int} (r : Rw T K F al v w) (e : partW w = some o) : partV v = some o := by
  unfold partW at e
  split at e
  · cases r; exact e
  · cases r; exact e
  · cases e
theorem w_slc {lo hi : Option Expr} {p2 : Pos} (ha : PE X a (tW T X.K E p)) (hl : PO X lo (tOW T X.K E q)) (hh : PO X hi (tOW T X.K E r)) : PE X (.Subscript a (.Slice lo hi none p2) pos) (tW T X.K E (mSlc p q r)) := by
  refine peM (pe_slice sl_any ha hl hh) ?_
  rintro σ H Q ⟨F, al, S, ρ, g, e, h⟩
  refine (tW.bind g e h).imp fun x H1 ⟨F1, al1, S1, w, m, r, h1⟩ => ?_
  refine (tW.bind m.g m.e h1).imp fun y H2 ⟨F2, al2, S2, u, m2, r2, h2⟩ => ?_
  cases e1 : partW u with
  | none =>
    rw [e1] at h2
    exact h2.elim
  | some o =>
    rw [e1] at h2
    refine ⟨o, partW_sound r2 e1, ?_⟩
    refine (tW.bind m2.g m2.e h2).imp fun y3 H3 ⟨F3, al3, S3, u3, m3, r3, h3⟩ => ?_
    cases e2 : partW u3 with
    | none => rw [e2] at h3; exact h3.elim
    | some o2 =>
      rw [e2] at h3
      refine ⟨o2, partW_sound r3 e2, ?_⟩
      obtain ⟨z, e3, h4⟩ := optR_some h3
      exact sl_sound m3.g (vw_of m3.g ((r.post m2.p).post m3.p)) e3 h4
end
end DL
set_option Elab.async false
set_option linter.all false
set_option maxRecDepth 100000
set_option maxHeartbeats 4000000
/-! Wg: tests, built-ins, fields, calls. -/
namespace DL
open PySem PySem.Spec L2
/-! ### nothing in it that may be changed -/
mutual
def W.nl : W → Bool
  | .non => true
  | .bl _ => true
  | .int _ => true
  | .str _ => true
  | .tup ws => nlL ws
  | .lst ws => nlL ws
  | .ins _ fs => nlF fs
  | .loc _ => false
  | .tpx ws => nlL ws
  | .opq _ fs => nlF fs
  | .lam => true
  | .fn _ => true
def nlL : List W → Bool
  | [] => true
  | w :: ws => W.nl w && nlL ws
def nlF : List (Nat × W) → Bool
  | [] => true
  | (_, w) :: ws => W.nl w && nlF ws
end
section
variable {T : Tab} {K : PySem.W.Frag} {F F' : Hp} {al al' be : List Addr} {H H' H1 : Hp} {S S' : Sto} {E : WX} {σ : L2.St}
mutual
theorem Rw.nl : ∀ {v : V} {w : W}, Rw T K F al v w → W.nl w = true → Rw T K F al' v w
  | _, _, .non, _ => .non
  | _, _, .bl b, _ => .bl b
  | _, _, .int i, _ => .int i
  | _, _, .str i, _ => .str i
  | _, _, .tup q r, h => .tup q (RwL.nl r h)
  | _, _, .lst q r, h => .lst q (RwL.nl r h)
  | _, _, .ins q l r, h => .ins q l (RwF.nl r h)
  | _, _, .loc _, h => by cases h
  | _, _, .tpx q d r, h => .tpx q d (RwL.nl r h)
  | _, _, .opq q, _ => .opq q
  | _, _, .opx q e r, h => .opx q e (RwF.nl r h)
  | _, _, .lam q e, _ => .lam q e
  | _, _, .fn q, _ => .fn q
theorem RwL.nl : ∀ {v : List V} {w : List W}, RwL T K F al v w → nlL w = true → RwL T K F al' v w
  | _, _, .nil, _ => .nil
  | _, _, .cons a b, h => by
    rw [nlL, Bool.and_eq_true] at h
    exact .cons (Rw.nl a h.1) (RwL.nl b h.2)
theorem RwF.nl : ∀ {v : List (Str × V)} {w : List (Nat × W)}, RwF T K F al v w → nlF w = true → RwF T K F al' v w
  | _, _, .nil, _ => .nil
  | _, _, .cons l a b, h => by
    rw [nlF, Bool.and_eq_true] at h
    exact .cons l (Rw.nl a h.1) (RwF.nl b h.2)
end
def Xn.nl : Xn → Bool
  | .own _ fs => nlF fs
theorem RwX.nl {x : Xn} {cls : Value} {d : Option Addr} (r : RwX T K F al x cls d) (h : x.nl = true) : RwX T K F al' x cls d := by
  cases x with
  | own c fs =>
    refine ⟨r.1, ?_⟩
    rcases r.2 with e | ⟨h0, a, gs, h1, h2, h3⟩
    · exact .inl e
    · exact .inr ⟨h0, a, gs, h1, h2, h3.nl h⟩
theorem Good.frame (g : Good T K F al S H) (hs : Same H H1) (hb : ∀ b ∈ be, H b = none) (p : Post F be H1 F' al' H') (g' : Good T K F' al' S' H') : Good T K F' al S H' ∧ Post F al H F' al H' := by
  have kp : ∀ b o, H b = some o → H' b = some o := fun b o h => p.keep b o (hs b o h) fun hm => by rw [hb b hm] at h; cases h
  have dm : ∀ b, F' b ≠ none → F b ≠ none ∨ H b = none := fun b h => by
    rcases p.dom b h with h | h | h
    · exact .inl h
    · exact .inr (hb b h)
    · refine .inr ?_
      cases e : H b with
      | none => rfl
      | some o => rw [hs b o e] at h; cases h
  refine ⟨⟨g'.sub, g.nd, g.len, fun a ha => ?_, fun n a c ha hc => ?_⟩, ⟨p.ext, Pre.refl _, fun _ h => .inl h, fun b o h _ => kp b o h, fun b h => ?_⟩⟩
  · cases e : H a with
    | none => exact absurd e (g.tr a ha)
    | some o => rw [kp a o e]; simp
  · refine (g.cell n a c ha hc).mono p.ext (Pre.refl _) (fun o h => kp a o h) fun h => ?_
    cases e : F' a with
    | none => rfl
    | some o =>
      rcases dm a (by rw [e]; simp) with z | z
      · exact absurd h z
      · exact absurd z (g.tr a (List.mem_of_getElem? ha))
  · rcases dm b h with z | z
    · exact .inl z
    · exact .inr (.inr z)
theorem Good.bare (g : Good T K F al S H) : Good T K F [] [] H := ⟨g.sub, List.nodup_nil, rfl, (fun _ h => nomatch h), (fun n a c h => by simp at h)⟩
/-- a call on data alone: the store is out of it -/
def pureR (r : Res) (S : Sto) : Res := match r with
  | .ok w _ => if w.nl then .ok w S else .bad
  | .exc x _ => if x.nl then .exc x S else .bad
  | .bad => .bad
theorem RQ.wish {E' : WX} {σ' : L2.St} {r : Res} {Q : VK} (h : RQ T K E σ F al H r Q) (i : ∀ c d H, E c d σ H → E' c d σ' H) : RQ T K E' σ' F al H r Q := by
  cases r with
  | ok w S => exact h
  | exc x S => exact fun c d F' al' H' p g r => i _ _ _ (h c d F' al' H' p g r)
  | bad => exact h
theorem pure_sound {r : Res} {Q : VK} (g : Good T K F al S H) (hs : Same H H1) (hb : ∀ b ∈ be, H b = none) (h : RQ T K E σ F al H (pureR r S) Q) : RQ T K E σ F be H1 r Q := by
  cases r with
  | ok w S' =>
    replace h : RQ T K E σ F al H (if w.nl then .ok w S else .bad) Q := h
    split at h
    · rename_i hw
      intro v F' al' H' p g' r
      obtain ⟨a, b⟩ := g.frame hs hb p g'
      exact h v F' al H' b a (r.nl hw)
    · exact h.elim
  | exc x S' =>
    replace h : RQ T K E σ F al H (if x.nl then .exc x S else .bad) Q := h
    split at h
    · rename_i hw
      intro c d F' al' H' p g' r
      obtain ⟨a, b⟩ := g.frame hs hb p g'
      exact h c d F' al H' b a (r.nl hw)
    · exact h.elim
  | bad => exact h.elim
/-- a thing that is frozen, as data -/
def derefF (S : Sto) : W → W
  | .loc n => match S[n]? with
    | some (.frz w) => w
    | _ => .loc n
  | w => w
theorem Rw.derefF (g : Good T K F al S H) {v : V} {w : W} (r : Rw T K F al v w) : Rw T K F al v (derefF S w) := by
  cases r with
  | @loc a n ha =>
    cases q : S[n]? with
    | none => rw [show DL.derefF S (.loc n) = .loc n by simp only [DL.derefF, q]]; exact .loc ha
    | some c =>
      have hc := g.cell n a c ha q
      cases c with
      | frz w => rw [show DL.derefF S (.loc n) = w by simp only [DL.derefF, q]]; exact hc
      | _ => rw [show DL.derefF S (.loc n) = .loc n by simp only [DL.derefF, q]]; exact .loc ha
  | non => exact .non
  | bl b => exact .bl b
  | int b => exact .int b
  | str b => exact .str b
  | tup a b => exact .tup a b
  | lst a b => exact .lst a b
  | ins a l b => exact .ins a l b
  | tpx a d b => exact .tpx a d b
  | opq a => exact .opq a
  | opx a b c => exact .opx a b c
  | lam a b => exact .lam a b
  | fn a => exact .fn a
theorem RwL.derefF (g : Good T K F al S H) : ∀ {v : List V} {w : List W}, RwL T K F al v w → RwL T K F al v (w.map (DL.derefF S))
  | _, _, .nil => .nil
  | _, _, .cons a b => .cons (Rw.derefF g a) (RwL.derefF g b)
end
/-! ### tests -/
section
variable {X : Cx} {T : Tab} {E : WX} {pos : Pos} {a b c : Expr} {p q r : Me} {es : List Expr} {ps : Ml} {bp bq br : Mb}
theorem b_test (h : PE X a (tW T X.K E p)) (he : ∀ whole, isTrue a X.env whole = (do let v ← whole; standAt a.pos; holding [v] (PySem.truthy v))) : PT X a (DL.tB T X.K E (bTest p)) := by
  refine ptM (pt_truth h he) ?_
  rintro σ H Q ⟨F, al, S, ρ, g, e, h⟩
  refine (tW.bindB g e h).imp fun x H1 ⟨F1, al1, S1, w, m, r, h1⟩ => ?_
  unfold truthyR at h1
  cases e1 : DL.truthy (deref S1 w) with
  | none => rw [e1] at h1; exact h1.elim
  | some k =>
    rw [e1] at h1
    exact ⟨k, truthy_sound m.g (vw_of m.g r) e1, h1 _ _ _ Post.refl m.g⟩
theorem b_cmp {k : Nat} {o : CmpOp} (hr : Room k X.A) (ha : PE X a (tW T X.K E p)) (hb : PE X b (tW T X.K E q)) (hm : behindInMarks o b = false) : PT X (.Compare a [o] [b] pos) (DL.tB T X.K E (bTest (mCmp o p q))) := by
  refine ptM (pt_cmpR (op_cmp hr o) ha hb hm) ?_
  rintro σ H Q ⟨F, al, S, ρ, g, e, h⟩
  have h0 : BQ T X.K E σ F al H ((p ρ S).bindB fun x S => (q ρ S).bindB fun y S => optB S (cmpop o (deref S x) (deref S y))) Q := by
    unfold bTest mCmp test at h
    revert h
    cases p ρ S with
    | ok x S1 =>
      show BQ T X.K E σ F al H (((q ρ S1).bind _).bindB truthyR) Q → BQ T X.K E σ F al H ((q ρ S1).bindB _) Q
      cases q ρ S1 with
      | ok y S2 =>
        show BQ T X.K E σ F al H ((optR S2 _).bindB truthyR) Q → BQ T X.K E σ F al H (optB S2 _) Q
        cases cmpop o (deref S2 x) (deref S2 y) with
        | none => exact id
        | some k => exact id
      | exc x S => exact id
      | bad => exact id
    | exc x S => exact id
    | bad => exact id
  refine (tW.bindB g e h0).imp fun x H1 ⟨F1, al1, S1, w, m, r, h1⟩ => ?_
  refine (tW.bindB m.g m.e h1).imp fun y H2 ⟨F2, al2, S2, u, m2, r2, h2⟩ => ?_
  cases e1 : cmpop o (deref S2 w) (deref S2 u) with
  | none => rw [e1] at h2; exact h2.elim
  | some k =>
    rw [e1] at h2
    exact cmp_sound m2.g (vw_of m2.g (r.post m2.p)) (vw_of m2.g r2) e1 ⟨k, rfl, h2 _ _ _ Post.refl m2.g⟩
theorem b_chain {k : Nat} {o o' : CmpOp} (hr : Room k X.A) (ha : PE X a (tW T X.K E p)) (hb : PE X b (tW T X.K E q)) (hc : PE X c (tW T X.K E r)) (hm : lastMarks [o, o'] [b, c] = false) : PT X (.Compare a [o, o'] [b, c] pos) (DL.tB T X.K E (bTest (mChain o o' p q r))) := by
  refine ptM (pt_chain (op_cmp hr o) (op_cmp hr o') ha hb hc hm) ?_
  rintro σ H Q ⟨F, al, S, ρ, g, e, h⟩
  have h0 : BQ T X.K E σ F al H ((p ρ S).bindB fun x S => (q ρ S).bindB fun y S => match cmpop o (deref S x) (deref S y) with
      | some true => (r ρ S).bindB fun z S => optB S (cmpop o' (deref S y) (deref S z))
      | some false => .ok false S
      | none => .bad) Q := by
    unfold bTest mChain test at h
    revert h
    cases p ρ S with
    | ok x S1 =>
      show BQ T X.K E σ F al H (((q ρ S1).bind _).bindB truthyR) Q → BQ T X.K E σ F al H ((q ρ S1).bindB _) Q
      cases q ρ S1 with
      | ok y S2 =>
        show BQ T X.K E σ F al H (Res.bindB (match cmpop o (deref S2 x) (deref S2 y) with
          | some true => (r ρ S2).bind fun z S => optR S ((cmpop o' (deref S y) (deref S z)).map .bl)
          | some false => Res.ok (.bl false) S2
          | none => .bad) truthyR) Q → BQ T X.K E σ F al H (match cmpop o (deref S2 x) (deref S2 y) with
          | some true => (r ρ S2).bindB fun z S => optB S (cmpop o' (deref S y) (deref S z))
          | some false => .ok false S2
          | none => .bad) Q
        cases cmpop o (deref S2 x) (deref S2 y) with
        | none => exact id
        | some k =>
          cases k with
          | false => exact id
          | true =>
            show BQ T X.K E σ F al H (((r ρ S2).bind _).bindB truthyR) Q → BQ T X.K E σ F al H ((r ρ S2).bindB _) Q
            cases r ρ S2 with
            | ok z S3 =>
              show BQ T X.K E σ F al H ((optR S3 _).bindB truthyR) Q → BQ T X.K E σ F al H (optB S3 _) Q
              cases cmpop o' (deref S3 y) (deref S3 z) with
              | none => exact id
              | some k => exact id
            | exc x S => exact id
            | bad => exact id
      | exc x S => exact id
      | bad => exact id
    | exc x S => exact id
    | bad => exact id
  refine (tW.bindB g e h0).imp fun x H1 ⟨F1, al1, S1, w, m, r, h1⟩ => ?_
  refine (tW.bindB m.g m.e h1).imp fun y H2 ⟨F2, al2, S2, u, m2, r2, h2⟩ => ?_
  split at h2
  · rename_i e1
    refine cmp_sound m2.g (vw_of m2.g (r.post m2.p)) (vw_of m2.g r2) e1 ⟨true, rfl, ?_⟩
    rw [if_pos rfl]
    refine (tW.bindB m2.g m2.e h2).imp fun z H3 ⟨F3, al3, S3, u3, m3, r3, h3⟩ => ?_
    cases e2 : cmpop o' (deref S3 u) (deref S3 u3) with
    | none => rw [e2] at h3; exact h3.elim
    | some k =>
      rw [e2] at h3
      exact cmp_sound m3.g (vw_of m3.g (r2.post m3.p)) (vw_of m3.g r3) e2 ⟨k, rfl, h3 _ _ _ Post.refl m3.g⟩
  · rename_i e1
    refine cmp_sound m2.g (vw_of m2.g (r.post m2.p)) (vw_of m2.g r2) e1 ⟨false, rfl, ?_⟩
    rw [if_neg Bool.false_ne_true]
    exact ⟨false, rfl, h2 _ _ _ Post.refl m2.g⟩
  · exact h2.elim
theorem b_and1 (ha : PT X a (DL.tB T X.K E bp)) : PW X (.BoolOp .And [a] pos) (DL.tB T X.K E bp) := pw_and1 ha
theorem b_or1 (ha : PT X a (DL.tB T X.K E bp)) : PW X (.BoolOp .Or [a] pos) (DL.tB T X.K E bp) := pw_or1 ha
theorem b_and {rest : List Expr} (ha : PT X a (DL.tB T X.K E bp)) (hb : PW X (.BoolOp .And (b :: rest) pos) (DL.tB T X.K E bq)) : PW X (.BoolOp .And (a :: b :: rest) pos) (DL.tB T X.K E (bAnd bp bq)) := by
  refine pwM (pw_and ha hb) ?_
  rintro σ H Q ⟨F, al, S, ρ, g, e, h⟩
  refine (tB.bindB g e h).imp fun k H1 ⟨F1, al1, S1, m, h1⟩ => ?_
  cases k with
  | true => rw [if_pos rfl]; exact ⟨F1, al1, S1, ρ, m.g, m.e, h1⟩
  | false => rw [if_neg Bool.false_ne_true]; exact h1 _ _ _ Post.refl m.g
theorem b_or {rest : List Expr} (ha : PT X a (DL.tB T X.K E bp)) (hb : PW X (.BoolOp .Or (b :: rest) pos) (DL.tB T X.K E bq)) : PW X (.BoolOp .Or (a :: b :: rest) pos) (DL.tB T X.K E (bOr bp bq)) := by
  refine pwM (pw_or ha hb) ?_
  rintro σ H Q ⟨F, al, S, ρ, g, e, h⟩
  refine (tB.bindB g e h).imp fun k H1 ⟨F1, al1, S1, m, h1⟩ => ?_
  cases k with
  | true => rw [if_pos rfl]; exact h1 _ _ _ Post.refl m.g
  | false => rw [if_neg Bool.false_ne_true]; exact ⟨F1, al1, S1, ρ, m.g, m.e, h1⟩
theorem b_not (ha : PT X a (DL.tB T X.K E bp)) : PT X (.UnaryOp .Not a pos) (DL.tB T X.K E (bNot bp)) := by
  refine ptM (pt_not ha) ?_
  rintro σ H Q ⟨F, al, S, ρ, g, e, h⟩
  refine (tB.bindB g e h).imp fun k H1 ⟨F1, al1, S1, m, h1⟩ => ?_
  exact h1 _ _ _ Post.refl m.g
theorem w_ifx (hc : PT X c (DL.tB T X.K E bp)) (ha : PE X a (tW T X.K E p)) (hb : PE X b (tW T X.K E q)) : PE X (.IfExp c a b pos) (tW T X.K E (mIfx bp p q)) := by
  refine peM (pe_ifExp hc ha hb) ?_
  rintro σ H Q ⟨F, al, S, ρ, g, e, h⟩
  refine (tB.bind g e h).imp fun k H1 ⟨F1, al1, S1, m, h1⟩ => ?_
  cases k with
  | true => rw [if_pos rfl]; exact ⟨F1, al1, S1, ρ, m.g, m.e, h1⟩
  | false => rw [if_neg Bool.false_ne_true]; exact ⟨F1, al1, S1, ρ, m.g, m.e, h1⟩
/-! ### built-ins, fields -/
theorem w_primB {P : Prim} {id : String} {x : Str} {pp : Pos} (hc : CallR X (.builtin id) (rPrim X.K P)) (hg : Gl X x) (hm : X.mg x = none) (hv : bootBuiltins x = some (.builtin id)) (ha : PA X (a :: es) (tL T X.K E ps)) (hn : x ≠ "__name__") (hdb : (x == ("__debug__" : Str)) = false)
    (he : starEach (a :: es) X.env = (false, eval a X.env) :: starEach es X.env) (hpl : (backTo pos (starEach es X.env)).any (·.1) = false) : PE X (.Call (.Name x pp) (a :: es) [] pos) (tW T X.K E (mPrim P ps)) := by
  refine peM (pe_callB hc hg hm hv ha hn hdb he hpl) ?_
  rintro σ H Q ⟨F, al, S, ρ, g, e, h⟩
  refine (tL.bind g e h).imp fun x H1 ⟨F1, al1, S1, w, m, r, h1⟩ => ?_
  obtain ⟨z, e1, h3⟩ := optR_some h1
  exact prim_sound m.g (vwL_of m.g r) e1 h3
theorem w_primT {P : Prim} {id : String} {x : Str} {pp : Pos} (hc : CallR X (.type id) (rPrim X.K P)) (hg : Gl X x) (hm : X.mg x = none) (hv : bootBuiltins x = some (.type id)) (ha : PA X (a :: es) (tL T X.K E ps)) (hn : x ≠ "__name__") (hdb : (x == ("__debug__" : Str)) = false)
    (he : starEach (a :: es) X.env = (false, eval a X.env) :: starEach es X.env) (hpl : (backTo pos (starEach es X.env)).any (·.1) = false) : PE X (.Call (.Name x pp) (a :: es) [] pos) (tW T X.K E (mPrim P ps)) := by
  refine peM (pe_callTy hc hg hm hv ha hn hdb he hpl) ?_
  rintro σ H Q ⟨F, al, S, ρ, g, e, h⟩
  refine (tL.bind g e h).imp fun x H1 ⟨F1, al1, S1, w, m, r, h1⟩ => ?_
  obtain ⟨z, e1, h3⟩ := optR_some h1
  exact prim_sound m.g (vwL_of m.g r) e1 h3
theorem call_len {X : Cx} : CallR X (.builtin "len") (rPrim X.K .len) := call_len_seq.or call_len_str
theorem w_isi {x : Str} {pp tp : Pos} {tx : Str} {t : Ty} (hlv : LvOk T X.K) (hg : Gl X x) (hm : X.mg x = none) (hv : bootBuiltins x = some (.builtin "isinstance")) (ht : PE X (.Name tx tp) (tC (.ty t.s))) (ha : PE X a (tW T X.K E p)) (hn : x ≠ "__name__") (hdb : (x == ("__debug__" : Str)) = false)
    (he : starEach [a, .Name tx tp] X.env = (false, eval a X.env) :: starEach [.Name tx tp] X.env) (he2 : starEach [.Name tx tp] X.env = (false, eval (.Name tx tp) X.env) :: starEach [] X.env) (hpl : (backTo pos (starEach [.Name tx tp] X.env)).any (·.1) = false) : PE X (.Call (.Name x pp) [a, .Name tx tp] [] pos) (tW T X.K E (mIsi t p)) := by
  refine peM (pe_callB call_isi hg hm hv (pa_cons ha (pa_cons ht pa_nil he2) he) hn hdb he hpl) ?_
  rintro σ H Q ⟨F, al, S, ρ, g, e, h⟩
  refine (tW.bind g e h).imp fun x H1 ⟨F1, al1, S1, w, m, r, h1⟩ => ?_
  obtain ⟨z, e1, h3⟩ := optR_some h1
  rw [Option.map_eq_some_iff] at e1
  obtain ⟨k, e1, rfl⟩ := e1
  exact isi_sound hlv m.g (vw_of m.g r) e1 (h3.val m.g (.bl _))
theorem w_fld {cc f : Nat} {fn : Str} (hn : T.fld.Nodup) (hf : f < T.fld.length) (hfn : T.f f = fn) (hc : Cls X.K (T.c cc)) (hna : NoAttr X.K (T.c cc) fn) (ha : PE X a (tW T X.K E p)) (hb : attributeBase a fn X.env (eval a X.env) = eval a X.env) : PE X (.Attribute a fn pos) (tW T X.K E (mFld cc f p)) := by
  subst hfn
  refine peM (pe_fld ha hb) ?_
  rintro σ H Q ⟨F, al, S, ρ, g, e, h⟩
  refine (tW.bind g e h).imp fun x H1 ⟨F1, al1, S1, w, m, r, h1⟩ => ?_
  obtain ⟨z, e1, h3⟩ := optR_some h1
  obtain ⟨pp, dx, gs, v, h4, h5, h6, h7⟩ := getFld_sound hn hf m.g r e1
  exact ⟨pp, _, dx, gs, v, h4, h5, hc, hna, h6, h3.val m.g h7⟩
/-- a list that may be changed gets one more -/
theorem app_sound {K : PySem.W.Frag} {F : Hp} {al : List Addr} {H : Hp} {S : Sto} {σ : L2.St} {x y : V} {w u : W} {Q : VK} (g : Good T K F al S H) (rx : Rw T K F al x w) (ry : Rw T K F al y u) (h : RQ T K E σ F al H (appR w u S) Q) : rAppend x [y] H Q := by
  unfold appR at h
  split at h
  · rename_i n
    split at h
    · rename_i ws e
      split at h
      · rename_i hl
        cases rx with
        | @loc a _ ha =>
          obtain ⟨xs, h1, h2, h3⟩ := g.cell n a _ ha e
          refine ⟨a, xs, y, rfl, rfl, h1, by rw [h3.length, ← limit_eq]; exact hl, ?_⟩
          obtain ⟨g1, p1⟩ := g.setCell (o := .lst (xs ++ [y])) (c := .lst (ws ++ [u])) ha h2 ⟨_, upd_same, h2, h3.append (.cons ry .nil)⟩
          exact h _ _ _ _ p1 g1 .non
      · exact h.elim
    · exact h.elim
  · exact h.elim
theorem isCell_ty {K : PySem.W.Frag} {F : Hp} {al : List Addr} {H : Hp} {S : Sto} {x : V} {w : W} (g : Good T K F al S H) (r : Rw T K F al x w) (e : isCell S w = true) : tyV K "list" x H := by
  cases r with
  | @loc a n ha =>
    cases q : S[n]? with
    | none => simp [isCell, q] at e
    | some c =>
      cases c with
      | lst ws =>
        obtain ⟨xs, h1, _⟩ := g.cell n a _ ha q
        exact .inl ⟨rfl, _, .inl (.inl h1)⟩
      | _ => simp [isCell, q] at e
  | _ => cases e
theorem w_app {apos : Pos} (ha : PE X a (tW T X.K E p)) (hb : PE X b (tW T X.K E q)) (hbase : attributeBase a "append" X.env (eval a X.env) = eval a X.env)
    (hfew : ((backTo pos (starEach [b] X.env)).all (fun x => !x.1) && (backToKw pos (keywordEach [] X.env)).all (fun x => x.1.isSome) && decide ([b].length + ([] : List Keyword).length + (if ([] : List Keyword).isEmpty then 0 else 1) < 30)) = true)
    (hline : (apos.endLine == pos.line) = true) (hs : starEach [b] X.env = (false, eval b X.env) :: starEach [] X.env) (hplain : (backTo pos (starEach [] X.env)).any (·.1) = false) :
    PE X (.Call (.Attribute a "append" apos) [b] [] pos) (tW T X.K E (mApp p q)) := by
  refine peM (pe_bm PySem.F.plainAttrs_list PySem.F.slot_list_append PySem.F.type_list_append mt_append ha (pa_cons hb pa_nil hs) hbase hfew hline hs hplain) ?_
  rintro σ H Q ⟨F, al, S, ρ, g, e, h⟩
  refine (tW.bind g e h).imp fun x H1 ⟨F1, al1, S1, w, m, r, h1⟩ => ?_
  split at h1
  · rename_i hc
    refine ⟨isCell_ty m.g r hc, ?_⟩
    refine (tW.bind m.g m.e h1).imp fun y H2 ⟨F2, al2, S2, u, m2, r2, h2⟩ => ?_
    exact app_sound m2.g (r.post m2.p) r2 h2
  · exact h1.elim
/-! ### calls -/
/-- what a def promises: it does what φ does -/
def spW (T : Tab) (K : PySem.W.Frag) (n : Nat) (φ : Fn) : Sp := fun vs H Q E => ∃ F al S ws, ws.length = n ∧ Good T K F al S H ∧ RwL T K F al vs ws ∧ RQ T K (fun c d _ H => E c d H) [] F al H (φ ws S) Q
def TakesN (n : Nat) (φ : Fn) : Prop := ∀ ws S, ws.length ≠ n → φ ws S = .bad
theorem spW_of {T : Tab} {K : PySem.W.Frag} {n : Nat} {φ : Fn} (hn : TakesN n φ) {vs : List V} {ws : List W} {H : Hp} {Q : VK} {E : WX} {σ : L2.St} {F : Hp} {al : List Addr} {S : Sto} (g : Good T K F al S H) (r : RwL T K F al vs ws) (h : RQ T K E σ F al H (φ ws S) Q) : spW T K n φ vs H Q (WE E σ) := by
  refine ⟨F, al, S, ws, ?_, g, r, h.wish fun c d H e => e⟩
  by_cases hl : ws.length = n
  · exact hl
  · rw [hn ws S hl] at h; exact h.elim
/-- a def by its name: ψ is what a call with written arguments does -/
def CallF (T : Tab) (P : Program) (w : World) (K : PySem.W.Frag) (mg : Str → Option Value) (base : Heap) (k : Nat) (x : Str) (ψ : Fn) : Prop :=
  ∃ (f : Addr) (fd : FuncData) (pn : List Str) (ds : List Value) (dvs : List V) (dws : List W) (n : Nat) (φ : Fn), FnOk P w K mg base (L2.CX P w) k f fd pn (spW T K n φ) ∧ TakesN n φ ∧ mg x = some (.ref f) ∧ PySem.W.keepIn K (.ref f) = true ∧ Binds K fd pn ds ∧ Vals dvs ds ∧
    (∀ F al, RwL T K F al dvs dws) ∧ ψ = fun ws S => φ (ws ++ dws) S
def mCall (ψ : Fn) (ms : Ml) : Me := fun ρ S => (ms ρ S).bind ψ
/-- data alone goes in and comes out -/
def mCallP (ψ : Fn) (ms : Ml) : Me := fun ρ S => (ms ρ S).bind fun ws S => if nlL (ws.map (derefF S)) then pureR (ψ (ws.map (derefF S)) []) S else .bad
theorem w_call {k j : Nat} {x : Str} {pp : Pos} {ψ : Fn} (C : CallF T X.prog X.w X.K X.mg X.base k x ψ) (hr : Room j X.A) (hj : k ≤ j) (hg : Gl X x) (tk : Takes X E) (ha : PA X (a :: es) (tL T X.K E ps)) (hdb : (x == ("__debug__" : Str)) = false)
    (he : starEach (a :: es) X.env = (false, eval a X.env) :: starEach es X.env) (hpl : (backTo pos (starEach es X.env)).any (·.1) = false) : PE X (.Call (.Name x pp) (a :: es) [] pos) (tW T X.K E (mCall ψ ps)) := by
  obtain ⟨f, fd, pn, ds, dvs, dws, n, φ, FO, hn, hm, hk, hb, hd, hw, rfl⟩ := C
  refine peM (pe_callSD FO (hr.mono hj) hg hm hk hb hd (E := WE E) (fun σ => passAt tk σ) ha hdb he hpl) ?_
  rintro σ H Q ⟨F, al, S, ρ, g, e, h⟩
  refine (tL.bind g e h).imp fun x H1 ⟨F1, al1, S1, w, m, r, h1⟩ => ?_
  exact spW_of hn m.g (r.append (hw _ _)) h1
theorem w_callP {k j : Nat} {x : Str} {pp : Pos} {ψ : Fn} (C : CallF T X.prog X.w X.K X.mg X.base k x ψ) (hr : Room j X.A) (hj : k ≤ j) (hg : Gl X x) (tk : Takes X E) (ha : PA X (a :: es) (tL T X.K E ps)) (hdb : (x == ("__debug__" : Str)) = false)
    (he : starEach (a :: es) X.env = (false, eval a X.env) :: starEach es X.env) (hpl : (backTo pos (starEach es X.env)).any (·.1) = false) : PE X (.Call (.Name x pp) (a :: es) [] pos) (tW T X.K E (mCallP ψ ps)) := by
  obtain ⟨f, fd, pn, ds, dvs, dws, n, φ, FO, hn, hm, hk, hb, hd, hw, rfl⟩ := C
  refine peM (pe_callSD FO (hr.mono hj) hg hm hk hb hd (E := WE E) (fun σ => passAt tk σ) ha hdb he hpl) ?_
  rintro σ H Q ⟨F, al, S, ρ, g, e, h⟩
  refine (tL.bind g e h).imp fun x H1 ⟨F1, al1, S1, w, m, r, h1⟩ => ?_
  split at h1
  · rename_i hnl
    exact spW_of hn m.g.bare (((r.derefF m.g).nl hnl).append (hw _ _)) (pure_sound m.g (Same.refl _) (fun _ h => nomatch h) h1)
  · exact h1.elim
/-! ### a class's call -/
/-- C(..): __init__ at a new instance; all it holds is data behind it -/
def makeR (c : Nat) (ψ : Fn) (ws : List W) (S : Sto) : Res := match ψ (.loc 0 :: ws) [.obj c []] with
  | .ok .non S' => match (S' : List Cell)[0]? with
    | some (Cell.obj d fs) => if d = c ∧ nlF fs = true then .ok (.ins c fs) S else .bad
    | _ => .bad
  | .ok _ _ => .bad
  | .exc x _ => if x.nl then .exc x S else .bad
  | .bad => .bad
def mMake (c : Nat) (ψ : Fn) (ms : Ml) : Me := fun ρ S => (ms ρ S).bind fun ws S => if nlL (ws.map (derefF S)) then makeR c ψ (ws.map (derefF S)) S else .bad
theorem Good.side {K : PySem.W.Frag} {F : Hp} {al : List Addr} {H : Hp} {S : Sto} (g : Good T K F al S H) {p : Addr} (hp : H p = none) (o : HO) : Good T K F al S (upd H p o) ∧ Post F al H F al (upd H p o) := by
  have sm : Same H (upd H p o) := fun b u e => by rw [upd_ne (ne_of_none e hp)]; exact e
  refine ⟨⟨fun b u e => sm b u (g.sub b u e), g.nd, g.len, fun a ha => ?_, fun n a c ha hc => ?_⟩, ⟨Same.refl _, Pre.refl _, fun _ h => .inl h, fun b u e _ => sm b u e, fun _ h => .inl h⟩⟩
  · cases e : H a with
    | none => exact absurd e (g.tr a ha)
    | some u => rw [sm a u e]; simp
  · exact (g.cell n a c ha hc).mono (Same.refl _) (Pre.refl _) (fun u e => sm a u e) (fun h => h)
/-- a class by its name -/
def MakeF (T : Tab) (P : Program) (w : World) (K : PySem.W.Frag) (mg : Str → Option Value) (base : Heap) (k : Nat) (x : Str) (c : Nat) (ψ : Fn) : Prop :=
  ∃ (f : Addr) (fd : FuncData) (pn : List Str) (ds : List Value) (dvs : List V) (dws : List W) (n : Nat) (φ : Fn), FnOk P w K mg base (L2.CX P w) k f fd pn (spW T K n φ) ∧ TakesN n φ ∧ mg x = some (.ref (T.c c)) ∧ Mk K (T.c c) f ∧ Binds K fd pn ds ∧ Vals dvs ds ∧
    (∀ F al, RwL T K F al dvs dws) ∧ ψ = fun ws S => φ (ws ++ dws) S
theorem w_make {k j cc : Nat} {x : Str} {pp : Pos} {ψ : Fn} {Ec : XK} (hlv : T.lv cc = true) (C : MakeF T X.prog X.w X.K X.mg X.base k x cc ψ) (hr : Room j X.A) (hj : k + 1 ≤ j) (hg : Gl X x) (tk : Takes X fun c d _ H => Ec c d H) (ha : PA X (a :: es) (tL T X.K (fun c d _ H => Ec c d H) ps)) (hdb : (x == ("__debug__" : Str)) = false)
    (he : starEach (a :: es) X.env = (false, eval a X.env) :: starEach es X.env) (hpl : (backTo pos (starEach es X.env)).any (·.1) = false) : PE X (.Call (.Name x pp) (a :: es) [] pos) (tW T X.K (fun c d _ H => Ec c d H) (mMake cc ψ ps)) := by
  obtain ⟨f, fd, pn, ds, dvs, dws, n, φ, FO, hn, hm, hM, hb, hd, hw, rfl⟩ := C
  refine peM (pe_make hM FO (hr.mono hj) hg hm hb hd (passes_call tk fun _ _ _ _ h => h) ha hdb he hpl) ?_
  rintro σ H Q ⟨F, al, S, ρ, g, e, h⟩
  refine (tL.bind g e h).imp fun vs H1 ⟨F1, al1, S1, ws, m, r, h1⟩ => ?_
  intro x dx hx hdx hne
  split at h1
  · rename_i hnl
    obtain ⟨gs, _⟩ := m.g.bare.side hdx (.own x)
    have hx2 : upd H1 dx (.own x) x = none := by rw [upd_ne (Ne.symm hne)]; exact hx
    obtain ⟨g2, p2, r2⟩ := gs.newCell hx2 (o := .ins (T.c cc) dx []) (c := .obj cc []) ⟨dx, [], upd_same, m.g.notF hx, .nil⟩
    have sm : Same H1 (upd (upd H1 dx (.own x)) x (.ins (T.c cc) dx [])) := fun b u eb => by
      rw [upd_ne (ne_of_none eb hx), upd_ne (ne_of_none eb hdx)]; exact eb
    have hbe : ∀ b ∈ ([] ++ [x] : List Addr), H1 b = none := fun b hb => by
      have : b = x := by simpa using hb
      rw [this]; exact hx
    refine spW_of (E := fun c d _ H => Ec c d H) (σ := σ) hn g2 (.cons r2 (((r.derefF m.g).nl hnl).append (hw _ _))) ?_
    unfold makeR at h1
    show RQ T X.K (fun c d _ H => Ec c d H) σ F1 ([] ++ [x]) _ (φ (.loc 0 :: (ws.map (derefF S1) ++ dws)) [.obj cc []]) _
    replace h1 : RQ T X.K (fun c d _ H => Ec c d H) σ F1 al1 H1 (match φ (.loc 0 :: (ws.map (derefF S1) ++ dws)) [.obj cc []] with
      | .ok .non S' => match (S' : List Cell)[0]? with
        | some (Cell.obj d fs) => if d = cc ∧ nlF fs = true then .ok (.ins cc fs) S1 else .bad
        | _ => .bad
      | .ok _ _ => .bad
      | .exc x _ => if x.nl then .exc x S1 else .bad
      | .bad => .bad) Q := h1
    cases e1 : φ (.loc 0 :: (ws.map (derefF S1) ++ dws)) [.obj cc []] with
    | bad => rw [e1] at h1; exact h1.elim
    | exc z S' =>
      rw [e1] at h1
      replace h1 : RQ T X.K (fun c d _ H => Ec c d H) σ F1 al1 H1 (if z.nl then .exc z S1 else .bad) Q := h1
      split at h1
      · rename_i hz
        intro c d F' al' H' p g' rz
        obtain ⟨a1, b1⟩ := m.g.frame sm hbe p g'
        exact h1 c d F' al1 H' b1 a1 (rz.nl hz)
      · exact h1.elim
    | ok v S' =>
      rw [e1] at h1
      cases v with
      | non =>
        replace h1 : RQ T X.K (fun c d _ H => Ec c d H) σ F1 al1 H1 (match (S' : List Cell)[0]? with
          | some (Cell.obj d fs) => if d = cc ∧ nlF fs = true then .ok (.ins cc fs) S1 else .bad
          | _ => .bad) Q := h1
        split at h1
        · rename_i d fs e2
          split at h1
          · rename_i hdf
            obtain ⟨rfl, hfs⟩ := hdf
            intro u F' al' H' p g' ru
            cases ru
            refine ⟨rfl, ?_⟩
            have hx0 : al'[0]? = some x := p.pre 0 x rfl
            obtain ⟨dx2, gs2, h5, h6, h7⟩ := g'.cell 0 x _ hx0 e2
            have s1 : Same F' (upd F' x (.ins (T.c d) dx2 gs2)) := fun b u e => by rw [upd_ne (ne_of_none e h6)]; exact e
            have hw2 : ∀ al, Rw T X.K (upd F' x (.ins (T.c d) dx2 gs2)) al (.ref x) (.ins d fs) := fun al => .ins upd_same hlv ((h7.nl hfs).mono s1 (Pre.refl _))
            obtain ⟨a1, a2⟩ := g'.freeze hx0 h6 h5 (hw2 _)
            obtain ⟨a3, b3⟩ := m.g.frame sm hbe (p.trans a2) a1
            exact h1 _ _ _ _ b3 a3 (hw2 _)
          · exact h1.elim
        · exact h1.elim
      | _ => exact h1.elim
  · exact h1.elim
end
end DL
set_option Elab.async false
set_option linter.all false
set_option maxRecDepth 100000
set_option maxHeartbeats 4000000
/-! Wh: what is walked, targets, comprehensions. -/
namespace DL
open PySem PySem.Spec L2
/-- a walk that gives the data xs -/
def WkW (T : Tab) (K : PySem.W.Frag) (F : Hp) (al : List Addr) (J : L2.It) (xs : List W) : Prop :=
  ∃ (G : Hp → Prop) (Y : Nat → Hp → V → Hp → Prop), Walk J xs.length G Y ∧ (∀ H, Same F H → G H) ∧ ∀ i H v H', i < xs.length → Y i H v H' → ∀ F1 al1 S1, Same F F1 → Pre al al1 → Good T K F1 al1 S1 H →
    ∃ F2 x, xs[i]? = some x ∧ Good T K F2 al1 S1 H' ∧ Post F1 al1 H F2 al1 H' ∧ Rw T K F2 al1 v x
section
variable (T : Tab) (K : PySem.W.Frag)
def IQ (E : WX) (σ : L2.St) (F : Hp) (al : List Addr) (H : Hp) (r : LRes) (R : L2.It → Hp → Prop) : Prop :=
  match r with
  | .ok ws S' => ∀ J F' al' H', Post F al H F' al' H' → Good T K F' al' S' H' → WkW T K F' al' J ws → R J H'
  | .exc x S' => ∀ cls d F' al' H', Post F al H F' al' H' → Good T K F' al' S' H' → RwX T K F' al' x cls d → E cls d σ H'
  | .bad => False
def tI (E : WX) (m : Ml) : TI := fun σ H R => ∃ F al S ρ, Good T K F al S H ∧ EnvOk T K F al σ ρ ∧ IQ T K E σ F al H (m ρ S) R
end
section
variable {T : Tab} {K : PySem.W.Frag} {E : WX} {σ : L2.St} {ρ : Env} {F F' : Hp} {al al' : List Addr} {H H' : Hp} {S S' : Sto}
theorem IQ.post {r : LRes} {Q : L2.It → Hp → Prop} (p : Post F al H F' al' H') (h : IQ T K E σ F al H r Q) : IQ T K E σ F' al' H' r Q := by
  cases r with
  | ok w S' => exact fun v F2 al2 H2 q g r => h v F2 al2 H2 (p.trans q) g r
  | exc x S' => exact fun c d F2 al2 H2 q g r => h c d F2 al2 H2 (p.trans q) g r
  | bad => exact h
theorem tW.bindI {m : Me} {f : W → Sto → LRes} {R : L2.It → Hp → Prop} (g : Good T K F al S H) (e : EnvOk T K F al σ ρ) (h : IQ T K E σ F al H ((m ρ S).bindL f) R) :
    tW T K E m σ H fun v H1 => ∃ F1 al1 S1 w, Mid T K F al H σ ρ F1 al1 S1 H1 ∧ Rw T K F1 al1 v w ∧ IQ T K E σ F1 al1 H1 (f w S1) R := by
  refine ⟨F, al, S, ρ, g, e, ?_⟩
  cases q : m ρ S with
  | ok w S1 =>
    rw [q] at h
    exact fun v F1 al1 H1 p g1 r => ⟨F1, al1, S1, w, ⟨g1, e.post p, p⟩, r, IQ.post p h⟩
  | exc x S1 => rw [q] at h; exact h
  | bad => rw [q] at h; exact h
theorem IQ.val {ws : List W} {J : L2.It} {R : L2.It → Hp → Prop} (h : IQ T K E σ F al H (.ok ws S) R) (g : Good T K F al S H) (r : WkW T K F al J ws) : R J H := h J F al H Post.refl g r
theorem wk_seq {a : Addr} {xs : List V} {ws : List W} (b : Bool) (q : SqB K F b a xs) (r : RwL T K F al xs ws) : WkW T K F al (match b with | false => Itl K a | true => Itt K a) ws := by
  have yld : ∀ i (H : Hp) v (H' : Hp), i < ws.length → YAt xs i H v H' → ∀ F1 al1 S1, Same F F1 → Pre al al1 → Good T K F1 al1 S1 H → ∃ F2 x, ws[i]? = some x ∧ Good T K F2 al1 S1 H' ∧ Post F1 al1 H F2 al1 H' ∧ Rw T K F2 al1 v x := by
    rintro i H v H' hi ⟨rfl, hx⟩ F1 al1 S1 s p g
    obtain ⟨w, h1, h2⟩ := r.getV hx
    exact ⟨F1, w, h1, g, Post.refl, h2.mono s p⟩
  cases b with
  | false => exact ⟨_, _, by rw [← r.length]; exact walk_list, fun H s => (by
      rcases (q : SqL K F a xs) with q | q
      · exact .inl (rd_mono s q)
      · exact .inr q : SqL K H a xs), yld⟩
  | true => exact ⟨_, _, by rw [← r.length]; exact walk_tup, fun H s => sqT_mono s q, yld⟩
theorem sqB_mono {b : Bool} {a : Addr} {xs : List V} (s : Same F F') (q : SqB K F b a xs) : SqB K F' b a xs := by
  cases b with
  | false =>
    rcases (q : SqL K F a xs) with q | q
    · exact .inl (rd_mono s q)
    · exact .inr q
  | true => exact sqT_mono s q
theorem items_seq {v : V} {w : W} {ws : List W} (r : Rw T K F al v w) (e : items w = some ws) : ∃ (b : Bool) (a : Addr) (xs : List V), v = .ref a ∧ SqB K F b a xs ∧ RwL T K F al xs ws := by
  unfold items at e
  split at e
  · cases e
    cases r with
    | tup q r => exact ⟨true, _, _, rfl, q, r⟩
  · cases e
    cases r with
    | tpx q d r => exact ⟨true, _, _, rfl, .inl (.inr ⟨_, q⟩), r⟩
  · cases e
    cases r with
    | lst q r => exact ⟨false, _, _, rfl, q, r⟩
  · cases e
theorem wk_pair {J : L2.It} {n : Nat} {G : Hp → Prop} {f g : Nat → Option V} {ws : List W} (hn : ws.length = n) (wk : Walk J n G (YPair f g)) (hG : ∀ H, Same F H → G H)
    (h : ∀ i x y, i < n → f i = some x → g i = some y → ∃ u w, ws[i]? = some (.tup [u, w]) ∧ Rw T K F al x u ∧ Rw T K F al y w) : WkW T K F al J ws := by
  subst hn
  refine ⟨_, _, wk, hG, ?_⟩
  rintro i H v H' hi ⟨a, x, y, rfl, h1, rfl, h2, h3⟩ F1 al1 S1 s p gg
  obtain ⟨u, w, h4, h5, h6⟩ := h i x y hi h2 h3
  obtain ⟨a1, b1, c1⟩ := gg.newTup h1 (.cons (h5.mono s p) (.cons (h6.mono s p) .nil))
  exact ⟨_, _, h4, a1, b1, c1⟩
theorem rangeW_len : ∀ (n : Nat) (lo : Int), (rangeW lo n).length = n
  | 0, _ => rfl
  | n + 1, lo => by rw [rangeW, List.length_cons, rangeW_len n]
theorem rangeW_get : ∀ (n : Nat) (lo : Int) (i : Nat), i < n → (rangeW lo n)[i]? = some (.int (lo + i))
  | 0, _, _, h => by omega
  | n + 1, lo, 0, _ => by simp [rangeW]
  | n + 1, lo, i + 1, h => by
    rw [rangeW, List.getElem?_cons_succ, rangeW_get n (lo + 1) i (by omega)]
    congr 2; push_cast; omega
theorem wk_range (lo : Int) (n : Nat) : WkW T K F al (Itr lo n) (rangeW lo n) := by
  refine ⟨_, _, by rw [rangeW_len]; exact walk_range, fun _ _ => trivial, ?_⟩
  rintro i H v H' hi ⟨rfl, rfl⟩ F1 al1 S1 s p g
  rw [rangeW_len] at hi
  exact ⟨F1, _, rangeW_get n lo i hi, g, Post.refl, .int _⟩
theorem enumI_len : ∀ (ws : List W) (c : Int), (jEnum.enumI c ws).length = ws.length
  | [], _ => rfl
  | w :: ws, c => by rw [jEnum.enumI, List.length_cons, List.length_cons, enumI_len ws]
theorem enumI_get : ∀ (ws : List W) (c : Int) (i : Nat) (w : W), ws[i]? = some w → (jEnum.enumI c ws)[i]? = some (.tup [.int (c + (i : Nat)), w])
  | [], _, _, _, h => by simp at h
  | x :: ws, c, 0, w, h => by simp at h; subst h; simp [jEnum.enumI]
  | x :: ws, c, i + 1, w, h => by
    rw [jEnum.enumI, List.getElem?_cons_succ, enumI_get ws (c + 1) i w (by simpa using h)]
    congr 4; push_cast; omega
theorem zipW_len : ∀ (xs ys : List W), (zipW xs ys).length = min xs.length ys.length
  | [], _ => by simp [zipW]
  | _ :: _, [] => by simp [zipW]
  | x :: xs, y :: ys => by rw [zipW, List.length_cons, List.length_cons, List.length_cons, zipW_len xs ys]; omega
theorem zipW_get : ∀ (xs ys : List W) (i : Nat) (x y : W), xs[i]? = some x → ys[i]? = some y → (zipW xs ys)[i]? = some (.tup [x, y])
  | [], _, _, _, _, h, _ => by simp at h
  | _ :: _, [], _, _, _, _, h => by simp at h
  | a :: xs, b :: ys, 0, x, y, h, k => by simp at h k; subst h; subst k; simp [zipW]
  | a :: xs, b :: ys, i + 1, x, y, h, k => by
    rw [zipW, List.getElem?_cons_succ]
    exact zipW_get xs ys i x y (by simpa using h) (by simpa using k)
theorem walk_zipT {a b : Addr} {xs ys : List V} {n : Nat} (hn : n = min xs.length ys.length) : Walk (RZ.ItzT K a b) n (fun H => SqT K H a xs ∧ SqT K H b ys) (YPair (fun i => xs[i]?) (fun i => ys[i]?)) := by
  subst hn
  refine ⟨fun i _ hi q => ?_, fun _ q => ⟨xs, ys, q.1, q.2, by omega⟩, fun i H v H' _ q y => ?_⟩
  · have h1 : i < xs.length := by omega
    have h2 : i < ys.length := by omega
    exact ⟨xs, ys, xs[i], ys[i], q.1, q.2, by simp [h1], by simp [h2]⟩
  · obtain ⟨T, x, z, h1, h2, h3, h4, h5⟩ := y
    exact ⟨T, x, z, h1, h2, h3, h4 xs q.1, h5 ys q.2⟩
theorem zip_pairs {xs ys : List V} {us ws : List W} (r : RwL T K F al xs us) (r2 : RwL T K F al ys ws) : ∀ i x y, i < min xs.length ys.length → xs[i]? = some x → ys[i]? = some y → ∃ u w, (zipW us ws)[i]? = some (.tup [u, w]) ∧ Rw T K F al x u ∧ Rw T K F al y w := by
  intro i x y _ hx hy
  obtain ⟨u, h1, h2⟩ := r.getV hx
  obtain ⟨w, h3, h4⟩ := r2.getV hy
  exact ⟨u, w, zipW_get us ws i u w h1 h3, h2, h4⟩
end
section
variable {X : Cx} {T : Tab} {E : WX} {pos : Pos} {a b c tg : Expr} {p q r : Me} {es : List Expr} {ps : Ml} {bp bq br : Mb}
theorem i_seq (h : PE X a (tW T X.K E p)) : PI X tg a (tI T X.K E (jE p)) := by
  refine ⟨fun pins s σ H R I h0 => ?_⟩
  obtain ⟨F, al, S, ρ, g, e, h0⟩ := h0
  have h1 := (tW.bindI g e h0)
  cases q0 : p ρ S with
  | bad =>
    obtain ⟨_, _, _, _, _, _, h2⟩ := h1
    unfold jE at h0; rw [q0] at h0; exact h0.elim
  | exc x S' =>
    unfold jE at h0; rw [q0] at h0
    exact (pi_list (tg := tg) h).run pins s σ H R I ⟨F, al, S, ρ, g, e, by rw [q0]; exact h0⟩
  | ok w S' =>
    unfold jE at h0; rw [q0] at h0
    replace h0 : IQ T X.K E σ F al H (optL S' (items w)) R := h0
    cases e1 : items w with
    | none => rw [e1] at h0; exact h0.elim
    | some ws =>
      rw [e1] at h0
      replace h0 : IQ T X.K E σ F al H (.ok ws S') R := h0
      cases w with
      | tup us =>
        cases e1
        refine (pi_tup (tg := tg) h).run pins s σ H R I ⟨F, al, S, ρ, g, e, ?_⟩
        rw [q0]
        intro v F' al' H' po g' r
        cases r with
        | tup hq hr => exact ⟨_, rfl, ⟨_, sqT_mono g'.sub hq⟩, h0 _ _ _ _ po g' (wk_seq true hq hr)⟩
      | tpx us =>
        cases e1
        refine (pi_tup (tg := tg) h).run pins s σ H R I ⟨F, al, S, ρ, g, e, ?_⟩
        rw [q0]
        intro v F' al' H' po g' r
        cases r with
        | tpx hq hd hr => exact ⟨_, rfl, ⟨_, .inl (.inr ⟨_, g'.sub _ _ hq⟩)⟩, h0 _ _ _ _ po g' (wk_seq true (.inl (.inr ⟨_, hq⟩)) hr)⟩
      | lst us =>
        cases e1
        refine (pi_list (tg := tg) h).run pins s σ H R I ⟨F, al, S, ρ, g, e, ?_⟩
        rw [q0]
        intro v F' al' H' po g' r
        cases r with
        | lst hq hr => exact ⟨_, rfl, ⟨_, sqL_mono g'.sub hq⟩, h0 _ _ _ _ po g' (wk_seq false hq hr)⟩
      | _ => cases e1
theorem i_range1 {pp : Pos} (hg : Gl X "range") (hm : X.mg "range" = none) (ha : PE X a (tW T X.K E p)) (hs : starEach [a] X.env = (false, eval a X.env) :: starEach [] X.env) : PI X tg (.Call (.Name "range" pp) [a] [] pos) (tI T X.K E (jRange1 p)) := by
  refine piM (pi_range1 hg hm (pa_cons ha pa_nil hs) hs) ?_
  rintro σ H R ⟨F, al, S, ρ, g, e, h⟩
  refine (tW.bindI g e h).imp fun x H1 ⟨F1, al1, S1, w, m, r, h1⟩ => ?_
  split at h1
  · split at h1
    · rename_i j hj
      cases r
      exact ⟨j, rfl, hj.1, hj.2, h1.val m.g (wk_range 0 j.toNat)⟩
    · exact h1.elim
  · exact h1.elim
theorem enum_sound {K : PySem.W.Frag} {F : Hp} {al : List Addr} {H : Hp} {S : Sto} {σ : L2.St} {c : Int} {v : V} {w : W} {R : L2.It → Hp → Prop} (g : Good T K F al S H) (r : Rw T K F al v w) (h : IQ T K E σ F al H (optL S ((items w).map (jEnum.enumI c))) R) :
    ∃ (t : Bool) (a : Addr) (xs : List V), [v] = [.ref a] ∧ SqB K H t a xs ∧ R (ItE K t c a) H := by
  cases e1 : items w with
  | none => rw [e1] at h; exact h.elim
  | some ws =>
    rw [e1] at h
    obtain ⟨t, a, xs, rfl, h1, h2⟩ := items_seq r e1
    refine ⟨t, a, xs, rfl, sqB_mono g.sub h1, h.val g ?_⟩
    refine wk_pair (n := xs.length) (by rw [enumI_len, h2.length]) walk_enumB (fun H s => sqB_mono s h1) fun i x y hi e2 e3 => ?_
    cases e2
    obtain ⟨w, h4, h5⟩ := h2.getV e3
    exact ⟨_, _, enumI_get ws c i w h4, .int _, h5⟩
theorem i_enum {elts : List Expr} {kk : Nat} {tpos pp : Pos} (hg : Gl X "enumerate") (hm : X.mg "enumerate" = none) (ha : PE X a (tW T X.K E p)) (hs : starEach [a] X.env = (false, eval a X.env) :: starEach [] X.env) : PI X (.Tuple elts kk tpos) (.Call (.Name "enumerate" pp) [a] [] pos) (tI T X.K E (jEnum 0 p)) := by
  refine piM (pi_enumB hg hm (pa_cons ha pa_nil hs) hs) ?_
  rintro σ H R ⟨F, al, S, ρ, g, e, h⟩
  exact (tW.bindI g e h).imp fun x H1 ⟨F1, al1, S1, w, m, r, h1⟩ => enum_sound m.g r h1
theorem i_zip {elts : List Expr} {kk : Nat} {tpos pp : Pos} (hg : Gl X "zip") (hm : X.mg "zip" = none) (ha : PE X a (tW T X.K E p)) (hb : PE X b (tW T X.K E q)) (hs : starEach [a, b] X.env = (false, eval a X.env) :: starEach [b] X.env) (hs2 : starEach [b] X.env = (false, eval b X.env) :: starEach [] X.env) (hpl : (backTo pos (starEach [b] X.env)).any (·.1) = false) :
    PI X (.Tuple elts kk tpos) (.Call (.Name "zip" pp) [a, b] [] pos) (tI T X.K E (jZip p q)) := by
  refine piM (RZ.pi_zipA hg hm (pa_cons ha (pa_cons hb pa_nil hs2) hs) hs hpl) ?_
  rintro σ H R ⟨F, al, S, ρ, g, e, h⟩
  refine (tW.bindI g e h).imp fun x H1 ⟨F1, al1, S1, w, m, r, h1⟩ => ?_
  refine (tW.bindI m.g m.e h1).imp fun y H2 ⟨F2, al2, S2, u, m2, r2, h2⟩ => ?_
  replace r := r.post m2.p
  split at h2
  · cases r with
    | tup q1 r1 => cases r2 with
      | tup q3 r3 =>
        refine ⟨_, _, _, _, rfl, .inr ⟨sqT_mono m2.g.sub q1, sqT_mono m2.g.sub q3, h2.val m2.g ?_⟩⟩
        exact wk_pair (by rw [zipW_len, r1.length, r3.length]) (walk_zipT rfl) (fun H s => ⟨sqT_mono s q1, sqT_mono s q3⟩) (zip_pairs r1 r3)
  · cases r with
    | lst q1 r1 => cases r2 with
      | lst q3 r3 =>
        refine ⟨_, _, _, _, rfl, .inl ⟨sqL_mono m2.g.sub q1, sqL_mono m2.g.sub q3, h2.val m2.g ?_⟩⟩
        exact wk_pair (by rw [zipW_len, r1.length, r3.length]) (walk_zip rfl) (fun H s => ⟨sqL_mono s q1, sqL_mono s q3⟩) (zip_pairs r1 r3)
  · exact h2.elim
theorem i_zips {elts : List Expr} {kk ck : Nat} {tpos pp cpos kpos : Pos} (hg : Gl X "zip") (hm : X.mg "zip" = none) (ha : PE X a (tW T X.K E p)) (hb : PE X b (tW T X.K E q)) (hs : starEach [a, b] X.env = (false, eval a X.env) :: starEach [b] X.env) (hs2 : starEach [b] X.env = (false, eval b X.env) :: starEach [] X.env) (hpl : (backTo pos (starEach [b] X.env)).any (·.1) = false)
    (hi : ∀ {ta : TA}, PA X [a, b] ta → PI X (.Tuple elts kk tpos) (.Call (.Name "zip" pp) [a, b] [⟨some (Str.ofString "strict"), .Constant (.bool true) ck cpos, kpos⟩] pos) (iZipS X.K ta)) :
    PI X (.Tuple elts kk tpos) (.Call (.Name "zip" pp) [a, b] [⟨some (Str.ofString "strict"), .Constant (.bool true) ck cpos, kpos⟩] pos) (tI T X.K E (jZips p q)) := by
  refine piM (hi (pa_cons ha (pa_cons hb pa_nil hs2) hs)) ?_
  rintro σ H R ⟨F, al, S, ρ, g, e, h⟩
  refine (tW.bindI g e h).imp fun x H1 ⟨F1, al1, S1, w, m, r, h1⟩ => ?_
  refine (tW.bindI m.g m.e h1).imp fun y H2 ⟨F2, al2, S2, u, m2, r2, h2⟩ => ?_
  replace r := r.post m2.p
  split at h2
  · rename_i us ws e1 e2
    split at h2
    · rename_i hl
      obtain ⟨t1, a1, xs, rfl, q1, r1⟩ := items_seq r e1
      obtain ⟨t2, a2, ys, rfl, q3, r3⟩ := items_seq r2 e2
      have hl2 : xs.length = ys.length := by rw [r1.length, r3.length, hl]
      refine ⟨t1, t2, _, _, _, _, rfl, sqB_mono m2.g.sub q1, sqB_mono m2.g.sub q3, h2.val m2.g ?_⟩
      refine wk_pair (by rw [zipW_len, ← r1.length, ← r3.length, ← hl2, Nat.min_self]) (walk_zipS hl2) (fun H s => ⟨sqB_mono s q1, sqB_mono s q3⟩) ?_
      intro i x y hi hx hy
      exact zip_pairs r1 r3 i x y (by omega) hx hy
    · exact h2.elim
  · exact h2.elim
/-! ### targets -/
def gSeq (K : PySem.W.Frag) (is : List Nat) : TG := fun v σ H Q => gTup K is.length (gAll is) v σ H Q ∨ gLst K is.length (gAll is) v σ H Q
def gTg (K : PySem.W.Frag) : Tg → TG
  | .nm i => gName i
  | .tup is => gSeq K is
  | .two i is => gTup K 2 (gCons (gName i) (gCons (gSeq K is) gNil))
  | .nst i is js => gTup K (js.length + 2) (gCons (gName i) (gCons (gSeq K is) (gAll js)))
  | .star is j => fun v σ H Q => gStar K is.length (gAll (is ++ [j])) v σ H Q ∨ gStarL K is.length (gAll (is ++ [j])) v σ H Q
theorem pgs_len : ∀ {is : List Nat} {ws : List W} {ρ ρ' : Env}, setAll is ws ρ = some ρ' → ws.length = is.length
  | [], [], _, _, _ => rfl
  | [], _ :: _, _, _, e => by cases e
  | _ :: _, [], _, _, e => by cases e
  | i :: is, w :: ws, ρ, ρ', e => by rw [List.length_cons, List.length_cons, pgs_len (is := is) (ws := ws) e]
def Tg.slots : Tg → List Nat
  | .nm i => [i]
  | .tup is => is
  | .star is j => is ++ [j]
  | .two i is => i :: is
  | .nst i is js => i :: (is ++ js)
theorem setAll_app : ∀ {is : List Nat} {ws : List W} {j : Nat} {w : W} {ρ ρ' : Env}, setAll is ws ρ = some ρ' → setAll (is ++ [j]) (ws ++ [w]) ρ = some (ρ'.set j (some w))
  | [], [], _, _, _, _, e => by cases e; rfl
  | [], _ :: _, _, _, _, _, e => by cases e
  | _ :: _, [], _, _, _, _, e => by cases e
  | i :: is, x :: ws, j, w, ρ, ρ', e => setAll_app (is := is) (ws := ws) e
theorem seq_sound {K : PySem.W.Frag} {F : Hp} {al : List Addr} {H : Hp} {S : Sto} {σ σ0 : L2.St} {ρ ρ' : Env} (vs : List Nat) {is : List Nat} {v : V} {w : W} {Q : L2.St → Hp → Prop} (g : Good T K F al S H) (r : Rw T K F al v w) (e : EnvOk T K F al σ ρ) (hb : setSeq is w ρ = some ρ') (hv : ∀ i ∈ is, i ∈ vs) (hw : L2.wipe σ vs = L2.wipe σ0 vs)
    (k : ∀ σ', EnvOk T K F al σ' ρ' → L2.wipe σ' vs = L2.wipe σ0 vs → Q σ' H) : gSeq K is v σ H Q := by
  cases r with
  | tup q r => exact .inl ⟨_, _, rfl, sqT_mono g.sub q, by rw [r.length, pgs_len hb], gAll_sound vs r e hb hv hw k⟩
  | tpx q d r => exact .inl ⟨_, _, rfl, .inl (.inr ⟨_, g.sub _ _ q⟩), by rw [r.length, pgs_len hb], gAll_sound vs r e hb hv hw k⟩
  | lst q r => exact .inr ⟨_, _, rfl, sqL_mono g.sub q, by rw [r.length, pgs_len hb], gAll_sound vs r e hb hv hw k⟩
  | _ => cases hb
theorem tg_sound {K : PySem.W.Frag} {F : Hp} {al : List Addr} {H : Hp} {S : Sto} {σ σ0 : L2.St} {ρ ρ' : Env} (vs : List Nat) {tg : Tg} {v : V} {w : W} {Q : L2.St → Hp → Prop} (g : Good T K F al S H) (r : Rw T K F al v w) (e : EnvOk T K F al σ ρ) (hb : bindTg tg w ρ = some ρ') (hv : ∀ i ∈ tg.slots, i ∈ vs) (hw : L2.wipe σ vs = L2.wipe σ0 vs)
    (k : ∀ σ' F' al' H', Post F al H F' al' H' → Good T K F' al' S H' → EnvOk T K F' al' σ' ρ' → L2.wipe σ' vs = L2.wipe σ0 vs → Q σ' H') : gTg K tg v σ H Q := by
  cases tg with
  | nm i =>
    cases hb
    exact k _ _ _ _ Post.refl g (e.set r i) (by rw [wipe_set (hv i (List.mem_singleton.mpr rfl))]; exact hw)
  | tup is =>
    have hb2 : setSeq is w ρ = some ρ' := by
      cases w <;> first | exact hb | cases hb
    exact seq_sound vs g r e hb2 hv hw fun σ' e' h' => k _ _ _ _ Post.refl g e' h'
  | two i is =>
    cases r with
    | @tup a xs ws q r =>
      cases ws with
      | nil => cases hb
      | cons x ws =>
        cases ws with
        | nil => cases hb
        | cons y ws =>
          cases ws with
          | cons z ws => cases hb
          | nil =>
            cases r with
            | cons r1 r =>
              cases r with
              | cons r2 r =>
                cases r
                have hb2 : setSeq is y (ρ.set i (some x)) = some ρ' := hb
                refine ⟨a, _, rfl, sqT_mono g.sub q, rfl, _, _, rfl, ?_⟩
                show gCons (gSeq K is) gNil _ _ H Q
                refine ⟨_, _, rfl, ?_⟩
                exact seq_sound vs g r2 (e.set r1 i) hb2 (fun z hz => hv z (List.mem_cons_of_mem _ hz)) (by rw [wipe_set (hv i (List.mem_cons_self ..))]; exact hw) fun σ' e' h' => ⟨rfl, k _ _ _ _ Post.refl g e' h'⟩
    | _ => cases hb
  | nst i is js =>
    cases r with
    | @tup a xs ws q r =>
      cases ws with
      | nil => cases hb
      | cons x ws =>
        cases ws with
        | nil => cases hb
        | cons y ws =>
          cases r with
          | cons r1 r =>
            cases r with
            | cons r2 r =>
              have hb2 : (setSeq is y (ρ.set i (some x))).bind (fun ρ' => setAll js ws ρ') = some ρ' := hb
              obtain ⟨ρ1, h1, h2⟩ := Option.bind_eq_some_iff.mp hb2
              refine ⟨a, _, rfl, sqT_mono g.sub q, by rw [List.length_cons, List.length_cons, r.length, pgs_len h2], _, _, rfl, ?_⟩
              show gCons (gSeq K is) (gAll js) _ _ H Q
              refine ⟨_, _, rfl, ?_⟩
              refine seq_sound (σ0 := σ0) vs g r2 (e.set r1 i) h1 (fun z hz => hv z (List.mem_cons_of_mem _ (List.mem_append_left _ hz))) (by rw [wipe_set (hv i (List.mem_cons_self ..))]; exact hw) fun σ' e' h' => ?_
              exact gAll_sound vs r e' h2 (fun z hz => hv z (List.mem_cons_of_mem _ (List.mem_append_right _ hz))) h' fun σ2 e2 h3 => k _ _ _ _ Post.refl g e2 h3
    | _ => cases hb
  | star is j =>
    cases r with
    | @tup a xs ws q r =>
      replace hb : (if is.length ≤ ws.length ∧ ws.length ≤ 16384 then (setAll is (ws.take is.length) ρ).map fun ρ' => ρ'.set j (some (.lst (ws.drop is.length))) else none) = some ρ' := hb
      split at hb
      · rename_i hl
        rw [Option.map_eq_some_iff] at hb
        obtain ⟨ρ1, h1, rfl⟩ := hb
        refine .inl ⟨_, _, rfl, sqT_mono g.sub q, by rw [r.length]; exact hl.1, by rw [r.length]; exact hl.2, fun p hp => ?_⟩
        obtain ⟨a1, b1, c1⟩ := g.newLst hp (r.drop is.length)
        refine gAll_sound vs ((r.take is.length).mono b1.ext b1.pre |>.append (.cons c1 .nil)) (e.post b1) (setAll_app h1) hv hw fun σ' e' h' => k _ _ _ _ b1 a1 e' h'
      · cases hb
    | @lst a xs ws q r =>
      replace hb : (if is.length ≤ ws.length ∧ ws.length ≤ 16384 then (setAll is (ws.take is.length) ρ).map fun ρ' => ρ'.set j (some (.lst (ws.drop is.length))) else none) = some ρ' := hb
      split at hb
      · rename_i hl
        rw [Option.map_eq_some_iff] at hb
        obtain ⟨ρ1, h1, rfl⟩ := hb
        refine .inr ⟨_, _, rfl, sqL_mono g.sub q, by rw [r.length]; exact hl.1, by rw [r.length]; exact hl.2, fun p hp => ?_⟩
        obtain ⟨a1, b1, c1⟩ := g.newLst hp (r.drop is.length)
        refine gAll_sound vs ((r.take is.length).mono b1.ext b1.pre |>.append (.cons c1 .nil)) (e.post b1) (setAll_app h1) hv hw fun σ' e' h' => k _ _ _ _ b1 a1 e' h'
      · cases hb
    | _ => cases hb
theorem g_name {i : Nat} {x : Str} (hN : X.N.Nodup) (hi : X.N[i]? = some x) (hx : Loc X.env.scope x) (hf : X.fn x = true ∨ X.env.scope.names.lookup x = some .local) : PG X (.Name x pos) (gTg X.K (.nm i)) := pg_name hN hi hx hf
theorem gs_nil : PGs X [] (gAll []) := pgs_nil
theorem gs_name {i : Nat} {x : Str} {is : List Nat} (hN : X.N.Nodup) (hi : X.N[i]? = some x) (hx : Loc X.env.scope x) (hf : X.fn x = true ∨ X.env.scope.names.lookup x = some .local) (h2 : PGs X es (gAll is)) (hs : (assignEach (.Name x pos :: es) X.env).map (·.2) = assign (.Name x pos) X.env :: (assignEach es X.env).map (·.2)) : PGs X (.Name x pos :: es) (gAll (i :: is)) := pgs_cons (pg_name hN hi hx hf) h2 hs
theorem g_tup {is : List Nat} {k : Nat} (hc : X.calm = true) (h : PGs X es (gAll is)) (hn : (assignEach es X.env).length = is.length) (hst : (assignEach es X.env).findIdx? (·.1) = none) : PG X (.Tuple es k pos) (gTg X.K (.tup is)) := by
  refine ⟨fun pins s σ H v u Q I r hw => ?_⟩
  rcases hw with hw | hw
  · exact (pg_tup hc h hn hst).run pins s σ H v u Q I r hw
  · exact (pg_lst hc h hn hst).run pins s σ H v u Q I r hw
end
end DL
set_option Elab.async false
set_option linter.all false
set_option maxRecDepth 100000
set_option maxHeartbeats 4000000
/-! Wi: comprehensions. -/
namespace DL
open PySem PySem.Spec L2
section
variable {T : Tab} {K : PySem.W.Frag} {E : WX} {σ : L2.St} {ρ : Env} {F F' F2 : Hp} {al al' al2 : List Addr} {H H' H2 : Hp} {S S' : Sto} {D : Addr} {o : HO}
theorem wipe_wipe {vs : List Nat} : ∀ {ws : List Nat} {σ : L2.St}, (∀ i ∈ ws, i ∈ vs) → L2.wipe (L2.wipe σ ws) vs = L2.wipe σ vs
  | [], _, _ => rfl
  | w :: ws, σ, h => by
    show L2.wipe ((L2.wipe σ ws).set w none) vs = _
    rw [wipe_set (h w (List.mem_cons_self ..))]
    exact wipe_wipe fun i hi => h i (List.mem_cons_of_mem _ hi)
theorem Good.other (g : Good T K F al S H) (hA : D ∉ al) (hF : F D = none) (o : HO) : Good T K F al S (upd H D o) := by
  refine ⟨fun b u e => ?_, g.nd, g.len, fun a ha => ?_, fun n a c ha hc => ?_⟩
  · rw [upd_ne (ne_of_none e hF)]; exact g.sub b u e
  · rw [upd_ne (show a ≠ D from fun e => hA (e ▸ ha))]; exact g.tr a ha
  · have ne : a ≠ D := fun e => hA (e ▸ List.mem_of_getElem? ha)
    exact (g.cell n a c ha hc).mono (Same.refl _) (Pre.refl _) (fun o h => by rw [upd_ne ne]; exact h) (fun h => h)
theorem Post.other (p : Post F al H F' al' H') (hD : H D = none) (o : HO) : Post F al H F' al' (upd H' D o) :=
  ⟨p.ext, p.pre, p.fresh, fun b u e hb => by rw [upd_ne (ne_of_none e hD)]; exact p.keep b u e hb, p.dom⟩
theorem Good.adoptF (g : Good T K F al S H) (hA : D ∉ al) (hF : F D = none) (ho : H D = some o) : Good T K (upd F D o) al S H := by
  have s1 : Same F (upd F D o) := fun b u e => by rw [upd_ne (ne_of_none e hF)]; exact e
  refine ⟨fun b u e => ?_, g.nd, g.len, g.tr, fun n a c ha hc => ?_⟩
  · by_cases q : b = D
    · subst q; rw [upd_same] at e; rw [← e]; exact ho
    · rw [upd_ne q] at e; exact g.sub b u e
  · have ne : a ≠ D := fun e => hA (e ▸ List.mem_of_getElem? ha)
    exact (g.cell n a c ha hc).mono s1 (Pre.refl _) (fun o h => h) (fun h => by rw [upd_ne ne]; exact h)
theorem Post.adoptF (p : Post F al H F' al' H') (hF : F' D = none) (hD : H D = none) (o : HO) : Post F al H (upd F' D o) al' H' := by
  refine ⟨fun b u e => ?_, p.pre, p.fresh, p.keep, fun b h => ?_⟩
  · have := p.ext b u e
    rw [upd_ne (ne_of_none this hF)]; exact this
  · by_cases q : b = D
    · subst q; exact .inr (.inr hD)
    · rw [upd_ne q] at h; exact p.dom b h
theorem Good.adoptC (g : Good T K F al S H) (hA : D ∉ al) (ho : H D ≠ none) {c : Cell} (hc : CellOk T K F (al ++ [D]) H D c) : Good T K F (al ++ [D]) (S ++ [c]) H := by
  refine ⟨g.sub, ?_, by rw [List.length_append, List.length_append, g.len]; rfl, fun a ha => ?_, fun n a d ha hd => ?_⟩
  · rw [List.nodup_append]
    refine ⟨g.nd, by simp, fun a ha b hb e => ?_⟩
    have : b = D := by simpa using hb
    subst this; subst e; exact hA ha
  · rcases List.mem_append.mp ha with h | h
    · exact g.tr a h
    · have : a = D := by simpa using h
      subst this; exact ho
  · by_cases hn : n < al.length
    · rw [List.getElem?_append_left hn] at ha
      rw [List.getElem?_append_left (by rw [← g.len]; exact hn)] at hd
      exact (g.cell n a d ha hd).mono (Same.refl _) (Pre.app _ _) (fun o h => h) (fun h => h)
    · have h2 : n = al.length := by
        have := (List.getElem?_eq_some_iff.mp ha).1
        rw [List.length_append] at this
        simp at this; omega
      subst h2
      rw [List.getElem?_append_right (Nat.le_refl _), Nat.sub_self] at ha
      rw [g.len, List.getElem?_append_right (Nat.le_refl _), Nat.sub_self] at hd
      simp at ha hd
      subst ha; subst hd
      exact hc
theorem Post.adoptC (p : Post F al H F' al' H') (hD : H D = none) : Post F al H F' (al' ++ [D]) H' := by
  refine ⟨p.ext, p.pre.trans (Pre.app _ _), fun b h => ?_, p.keep, p.dom⟩
  rcases List.mem_append.mp h with h | h
  · exact p.fresh b h
  · have : b = D := by simpa using h
    subst this; exact .inr hD
theorem Post.offA (p : Post F al H F' al' H') (hA : D ∉ al) (ho : H D = some o) : D ∉ al' := fun h => by
  rcases p.fresh D h with z | z
  · exact hA z
  · rw [ho] at z; cases z
theorem Post.offF (p : Post F al H F' al' H') (hA : D ∉ al) (hF : F D = none) (ho : H D = some o) : F' D = none := by
  cases e : F' D with
  | none => rfl
  | some u =>
    rcases p.dom D (by rw [e]; simp) with z | z | z
    · exact absurd hF z
    · exact absurd z hA
    · rw [ho] at z; cases z
theorem lc_sound {it : Ml} {c : Mb} {el : Me} {tgt : Tg} {vs : List Nat} {mt : Bool} {Q : VK} (hsl : ∀ i ∈ tgt.slots, i ∈ vs) (h : tW T K E (mLc mt vs tgt it c el) σ H Q) : tLc (tI T K E it) (gTg K tgt) (DL.tB T K EF c) (tW T K EF el) vs σ H Q := by
  obtain ⟨F, al, S, ρ, g, e, h⟩ := h
  refine ⟨F, al, S, ρ, g, e, ?_⟩
  unfold mLc at h
  cases q : it ρ S with
  | bad => rw [q] at h; exact h.elim
  | exc x S' => rw [q] at h; exact h
  | ok xs S' =>
    rw [q] at h
    replace h : RQ T K E σ F al H (if xs.length ≤ limit then (compM (lcStep ρ vs tgt c el) xs [] S').bind fun ys S => if mt then newCellR (.lst ys) S else .ok (.lst ys) S else .bad) Q := h
    intro J F1 al1 H1 p1 g1 wk D hD
    split at h
    case isFalse => exact h.elim
    rename_i hlim
    obtain ⟨G, Y, w, hG, hY⟩ := wk
    have nb : compM (lcStep ρ vs tgt c el) xs [] S' ≠ .bad := fun z => by rw [z] at h; exact h.elim
    refine lc_it w (fun i H2 => ∃ F2 al2 S2 acc vacc, Post F1 al1 H1 F2 al2 H2 ∧ Good T K F2 al2 S2 H2 ∧ H2 D = some (.lst vacc) ∧ F2 D = none ∧ D ∉ al2 ∧ RwL T K F2 al2 vacc acc ∧ vacc.length ≤ i ∧
      compM (lcStep ρ vs tgt c el) (xs.drop i) acc S2 = compM (lcStep ρ vs tgt c el) xs [] S') ?_ ?_ ?_ ?_
    · obtain ⟨a, b⟩ := g1.side hD (.lst [])
      exact ⟨F1, al1, S', [], [], b, a, upd_same, g1.notF hD, g1.notA hD, .nil, Nat.le_refl _, rfl⟩
    · rintro i H2 hi ⟨F2, al2, S2, acc, vacc, p2, g2, _⟩
      exact hG H2 fun b u e => g2.sub b u (p2.ext b u e)
    · rintro i x H2 H2' hi ⟨F2, al2, S2, acc, vacc, p2, g2, hHD, hFD, hAD, racc, hl, hcm⟩ y
      obtain ⟨F3, u, hu, g3, p3, r3⟩ := hY i H2 x H2' hi y F2 al2 S2 p2.ext p2.pre g2
      have hHD3 : H2' D = some (.lst vacc) := p3.keep D _ hHD hAD
      have hFD3 : F3 D = none := p3.offF hAD hFD hHD
      have hdrop : xs.drop i = u :: xs.drop (i + 1) := by
        obtain ⟨hi', hu'⟩ := List.getElem?_eq_some_iff.mp hu
        rw [List.drop_eq_getElem_cons hi', hu']
      rw [hdrop] at hcm
      replace hcm : (lcStep ρ vs tgt c el u S2).bindL (fun ys S' => compM (lcStep ρ vs tgt c el) (xs.drop (i + 1)) (acc ++ ys) S') = compM (lcStep ρ vs tgt c el) xs [] S' := hcm
      unfold lcStep at hcm
      cases hb : bindTg tgt u (wipeW ρ vs) with
      | none => rw [hb] at hcm; exact absurd hcm.symm nb
      | some ρ' =>
        simp only [hb] at hcm
        refine tg_sound vs (σ0 := σ) g3 r3 ((wipe_envOk e vs).mono (p1.ext.trans (p2.ext.trans p3.ext)) (p1.pre.trans (p2.pre.trans p3.pre))) hb hsl (wipe_wipe fun i h => h) fun σ' F4 al4 H4 p4 g4 e4 hw4 => ⟨hw4, ?_⟩
        have hHD4 : H4 D = some (.lst vacc) := p4.keep D _ hHD3 hAD
        have hFD4 : F4 D = none := p4.offF hAD hFD3 hHD3
        have hAD4 : D ∉ al4 := p4.offA hAD hHD3
        refine ⟨F4, al4, S2, ρ', g4, e4, ?_⟩
        cases hc : c ρ' S2 with
        | bad => rw [hc] at hcm; exact absurd hcm.symm nb
        | exc z S3 => rw [hc] at hcm; exact absurd hcm.symm nb
        | ok b S3 =>
          rw [hc] at hcm
          intro F5 al5 H5 p5 g5
          have hHD5 : H5 D = some (.lst vacc) := p5.keep D _ hHD4 hAD4
          have hFD5 : F5 D = none := p5.offF hAD4 hFD4 hHD4
          have hAD5 : D ∉ al5 := p5.offA hAD4 hHD4
          have p15 := ((p2.trans p3).trans p4).trans p5
          cases b with
          | false =>
            rw [if_neg Bool.false_ne_true]
            replace hcm : compM (lcStep ρ vs tgt c el) (xs.drop (i + 1)) (acc ++ []) S3 = compM (lcStep ρ vs tgt c el) xs [] S' := hcm
            rw [List.append_nil] at hcm
            exact ⟨F5, al5, S3, acc, vacc, p15, g5, hHD5, hFD5, hAD5, ((racc.post p3).post p4).post p5, by omega, hcm⟩
          | true =>
            rw [if_pos rfl]
            refine ⟨F5, al5, S3, ρ', g5, e4.post p5, ?_⟩
            cases hv : el ρ' S3 with
            | bad => simp only [hv] at hcm; exact absurd hcm.symm nb
            | exc z S4 => simp only [hv] at hcm; exact absurd hcm.symm nb
            | ok yw S4 =>
              simp only [hv] at hcm
              replace hcm : compM (lcStep ρ vs tgt c el) (xs.drop (i + 1)) (acc ++ [yw]) S4 = compM (lcStep ρ vs tgt c el) xs [] S' := hcm
              intro v F6 al6 H6 p6 g6 r6
              have hHD6 : H6 D = some (.lst vacc) := p6.keep D _ hHD5 hAD5
              have hFD6 : F6 D = none := p6.offF hAD5 hFD5 hHD5
              have hAD6 : D ∉ al6 := p6.offA hAD5 hHD5
              refine ⟨vacc, hHD6, by rw [← limit_eq]; omega, F6, al6, S4, acc ++ [yw], vacc ++ [v], (p15.trans p6).other hD _, g6.other hAD6 hFD6 _, upd_same, hFD6, hAD6, ((((racc.post p3).post p4).post p5).post p6).append (.cons r6 .nil), by rw [List.length_append, List.length_singleton]; omega, hcm⟩
    · rintro H2 ⟨F2, al2, S2, acc, vacc, p2, g2, hHD, hFD, hAD, racc, hl, hcm⟩
      rw [List.drop_length] at hcm
      replace hcm : LRes.ok acc S2 = compM (lcStep ρ vs tgt c el) xs [] S' := hcm
      rw [← hcm] at h
      replace h : RQ T K E σ F al H (if mt then newCellR (.lst acc) S2 else .ok (.lst acc) S2) Q := h
      cases mt with
      | false =>
        rw [if_neg Bool.false_ne_true] at h
        refine h _ _ _ _ (p1.trans (p2.adoptF hFD hD _)) (g2.adoptF hAD hFD hHD) (.lst (SqL.of upd_same) (racc.mono (fun b u e => by rw [upd_ne (ne_of_none e hFD)]; exact e) (Pre.refl _)))
      | true =>
        rw [if_pos rfl] at h
        refine h _ _ _ _ (p1.trans (p2.adoptC hD)) (g2.adoptC hAD (by rw [hHD]; simp) ⟨vacc, hHD, hFD, racc.mono (Same.refl _) (Pre.app _ _)⟩) (.loc ?_)
        rw [← g2.len, List.getElem?_append_right (Nat.le_refl _), Nat.sub_self]; rfl
end
section
variable {X : Cx} {T : Tab} {E : WX} {pos : Pos} {p q r : Me} {es : List Expr} {ps : Ml} {bp bq br : Mb}
theorem bs_nil : PTs X [] (DL.tB T X.K E bYes) := by
  refine ⟨fun pins s σ H Q I h => ?_⟩
  obtain ⟨F, al, S, ρ, g, e, h⟩ := h
  exact pts_nil.run pins s σ H Q I (h _ _ _ Post.refl g)
theorem w_lc {elt tg iter : Expr} {ifs : List Expr} {scope : Scope} {own : List (Str × Nat)} {it : Ml} {c : Mb} {el : Me} {tgt : Tg} {mt : Bool} {vs : List Nat} (hc : X.calm = true) (hN : X.N.Nodup) (hi : PI X tg iter (tI T X.K E it)) (ok : BlkOk X.N X.env.scope scope own) (hvs : own.map (·.2) = vs) (hsl : (tgt.slots.all fun i => vs.contains i) = true)
    (hg : ∀ (s : Shared) (H : Hp) (C : Addr) (cl : List (Str × Addr)) (fp : List Addr), PG (X.blk s H scope (compEnvC scope cl C X.env) fp) tg (gTg X.K tgt)) (ht : ∀ (s : Shared) (H : Hp) (C : Addr) (cl : List (Str × Addr)) (fp : List Addr), PTs (X.blk s H scope (compEnvC scope cl C X.env) fp) ifs (DL.tB T X.K EF c))
    (he : ∀ (s : Shared) (H : Hp) (C : Addr) (cl : List (Str × Addr)) (fp : List Addr), PE (X.blk s H scope (compEnvC scope cl C X.env) fp) elt (tW T X.K EF el)) (hs : ∀ x, foldedSetIterable iter X.env x = pure x) :
    PE X (.ListComp elt [⟨tg, iter, ifs, 0⟩] scope pos) (tW T X.K E (mLc mt vs tgt it c el)) := by
  subst hvs
  refine peM (pe_lc hc hN hi ok hg ht he hs) fun σ H Q h => lc_sound (fun i hi => ?_) h
  have := List.all_eq_true.mp hsl i hi
  simpa using this
end
end DL
set_option Elab.async false
set_option linter.all false
set_option maxRecDepth 100000
set_option maxHeartbeats 4000000
/-! Wj: statements. -/
namespace DL
open PySem PySem.Spec L2
inductive Fl where
  | nx (ρ : Env) (S : Sto) | bk (ρ : Env) (S : Sto) | ct (ρ : Env) (S : Sto) | ret (w : W) (S : Sto) | exc (x : Xn) (ρ : Env) (S : Sto) | bad
  deriving Inhabited
abbrev Ms := Env → Sto → Fl
def Res.toS (ρ : Env) : Res → (W → Sto → Fl) → Fl
  | .ok w S, f => f w S
  | .exc x S, _ => .exc x ρ S
  | .bad, _ => .bad
def LRes.toS (ρ : Env) : LRes → (List W → Sto → Fl) → Fl
  | .ok w S, f => f w S
  | .exc x S, _ => .exc x ρ S
  | .bad, _ => .bad
def BRes.toS (ρ : Env) : BRes → (Bool → Sto → Fl) → Fl
  | .ok w S, f => f w S
  | .exc x S, _ => .exc x ρ S
  | .bad, _ => .bad
def Fl.seq : Fl → Ms → Fl
  | .nx ρ S, f => f ρ S
  | r, _ => r
def Fl.ofO (S : Sto) : Option Env → Fl
  | some ρ => .nx ρ S
  | none => .bad
def sNext : Ms := fun ρ S => .nx ρ S
def sSeq (a b : Ms) : Ms := fun ρ S => (a ρ S).seq b
def sExpr (m : Me) : Ms := fun ρ S => (m ρ S).toS ρ fun _ S => .nx ρ S
def sRet (m : Me) : Ms := fun ρ S => (m ρ S).toS ρ fun w S => .ret w S
def sRetN : Ms := fun _ S => .ret .non S
def sIf (c : Mb) (a b : Ms) : Ms := fun ρ S => (c ρ S).toS ρ fun k S => if k then a ρ S else b ρ S
def sAsg (tg : Tg) (m : Me) : Ms := fun ρ S => (m ρ S).toS ρ fun w S => Fl.ofO S (bindTg tg w ρ)
def sPar (is : List Nat) (m : Ml) : Ms := fun ρ S => (m ρ S).toS ρ fun ws S => Fl.ofO S (setAll is ws ρ)
def augW : Operator → W → W → Option W
  | .Add, .int i, .int j => some (.int (i + j))
  | .Sub, .int i, .int j => some (.int (i - j))
  | .Mult, .int i, .int j => if mulOk i j then some (.int (i * j)) else none
  | .FloorDiv, .int i, .int j => if 0 < j ∧ j < 1073741824 then some (.int (i / j)) else none
  | .Mod, .int i, .int j => if 0 < j then some (.int (i % j)) else none
  | _, _, _ => none
def sAug (o : Operator) (i : Nat) (m : Me) : Ms := fun ρ S => match ρ[i]? with
  | some (some x) => (m ρ S).toS ρ fun y S => match augW o x y with
    | some z => .nx (ρ.set i (some z)) S
    | none => .bad
  | _ => .bad
def setIxR (x i v : W) (S : Sto) : Option Sto := match x, i with
  | .loc n, .int i => match S[n]? with
    | some (.lst ws) => match ixN ws.length i with
      | some j => some (S.set n (.lst (ws.set j v)))
      | none => none
    | _ => none
  | _, _ => none
def sSetIx (a b m : Me) : Ms := fun ρ S => (m ρ S).toS ρ fun v S => (a ρ S).toS ρ fun x S => (b ρ S).toS ρ fun i S => match setIxR x i v S with
  | some S => .nx ρ S
  | none => .bad
def setFldR (c f : Nat) (x v : W) (S : Sto) : Option Sto := match x with
  | .loc n => match S[n]? with
    | some (.obj d fs) => if d = c ∧ fs.length < 100 then some (S.set n (.obj d (putFN f v fs))) else none
    | _ => none
  | _ => none
def sSetFld (c f : Nat) (a m : Me) : Ms := fun ρ S => (m ρ S).toS ρ fun v S => (a ρ S).toS ρ fun x S => match setFldR c f x v S with
  | some S => .nx ρ S
  | none => .bad
def forM (tg : Tg) (b : Ms) : List W → Env → Sto → Fl
  | [], ρ, S => .nx ρ S
  | x :: xs, ρ, S => match bindTg tg x ρ with
    | none => .bad
    | some ρ => match b ρ S with
      | .nx ρ S => forM tg b xs ρ S
      | .ct ρ S => forM tg b xs ρ S
      | .bk ρ S => .nx ρ S
      | r => r
def sFor (it : Ml) (tg : Tg) (b : Ms) : Ms := fun ρ S => (it ρ S).toS ρ fun xs S => forM tg b xs ρ S
section
variable (T : Tab) (K : PySem.W.Frag)
def FQ (E : WX) (D : Ends) (F : Hp) (al : List Addr) (H : Hp) (r : Fl) : Prop :=
  match r with
  | .nx ρ S' => ∀ σ' F' al' H', Post F al H F' al' H' → Good T K F' al' S' H' → EnvOk T K F' al' σ' ρ → D.nx σ' H'
  | .bk ρ S' => ∀ σ' F' al' H', Post F al H F' al' H' → Good T K F' al' S' H' → EnvOk T K F' al' σ' ρ → D.bk σ' H'
  | .ct ρ S' => ∀ σ' F' al' H', Post F al H F' al' H' → Good T K F' al' S' H' → EnvOk T K F' al' σ' ρ → D.ct σ' H'
  | .ret w S' => ∀ v F' al' H', Post F al H F' al' H' → Good T K F' al' S' H' → Rw T K F' al' v w → D.rt v H'
  | .exc x ρ S' => ∀ cls d σ' F' al' H', Post F al H F' al' H' → Good T K F' al' S' H' → EnvOk T K F' al' σ' ρ → RwX T K F' al' x cls d → E cls d σ' H'
  | .bad => False
def tS (E : WX) (m : Ms) : TS := fun D σ H => ∃ F al S ρ, Good T K F al S H ∧ EnvOk T K F al σ ρ ∧ FQ T K E D F al H (m ρ S)
end
section
variable {T : Tab} {K : PySem.W.Frag} {E : WX} {σ : L2.St} {ρ : Env} {F F' : Hp} {al al' : List Addr} {H H' : Hp} {S S' : Sto} {D : Ends}
theorem FQ.post {r : Fl} (p : Post F al H F' al' H') (h : FQ T K E D F al H r) : FQ T K E D F' al' H' r := by
  cases r with
  | nx ρ S => exact fun v F2 al2 H2 q g r => h v F2 al2 H2 (p.trans q) g r
  | bk ρ S => exact fun v F2 al2 H2 q g r => h v F2 al2 H2 (p.trans q) g r
  | ct ρ S => exact fun v F2 al2 H2 q g r => h v F2 al2 H2 (p.trans q) g r
  | ret w S' => exact fun v F2 al2 H2 q g r => h v F2 al2 H2 (p.trans q) g r
  | exc x ρ S' => exact fun c d v F2 al2 H2 q g e r => h c d v F2 al2 H2 (p.trans q) g e r
  | bad => exact h
theorem tW.toS {m : Me} {f : W → Sto → Fl} (g : Good T K F al S H) (e : EnvOk T K F al σ ρ) (h : FQ T K E D F al H ((m ρ S).toS ρ f)) :
    tW T K E m σ H fun v H1 => ∃ F1 al1 S1 w, Mid T K F al H σ ρ F1 al1 S1 H1 ∧ Rw T K F1 al1 v w ∧ FQ T K E D F1 al1 H1 (f w S1) := by
  refine ⟨F, al, S, ρ, g, e, ?_⟩
  cases q : m ρ S with
  | ok w S1 =>
    rw [q] at h
    exact fun v F1 al1 H1 p g1 r => ⟨F1, al1, S1, w, ⟨g1, e.post p, p⟩, r, FQ.post p h⟩
  | exc x S1 => rw [q] at h; exact fun c d F1 al1 H1 p g1 r => h c d σ F1 al1 H1 p g1 (e.post p) r
  | bad => rw [q] at h; exact h
theorem tL.toS {m : Ml} {f : List W → Sto → Fl} (g : Good T K F al S H) (e : EnvOk T K F al σ ρ) (h : FQ T K E D F al H ((m ρ S).toS ρ f)) :
    tL T K E m σ H fun v H1 => ∃ F1 al1 S1 w, Mid T K F al H σ ρ F1 al1 S1 H1 ∧ RwL T K F1 al1 v w ∧ FQ T K E D F1 al1 H1 (f w S1) := by
  refine ⟨F, al, S, ρ, g, e, ?_⟩
  cases q : m ρ S with
  | ok w S1 =>
    rw [q] at h
    exact fun v F1 al1 H1 p g1 r => ⟨F1, al1, S1, w, ⟨g1, e.post p, p⟩, r, FQ.post p h⟩
  | exc x S1 => rw [q] at h; exact fun c d F1 al1 H1 p g1 r => h c d σ F1 al1 H1 p g1 (e.post p) r
  | bad => rw [q] at h; exact h
theorem tB.toS {m : Mb} {f : Bool → Sto → Fl} (g : Good T K F al S H) (e : EnvOk T K F al σ ρ) (h : FQ T K E D F al H ((m ρ S).toS ρ f)) :
    DL.tB T K E m σ H fun b H1 => ∃ F1 al1 S1, Mid T K F al H σ ρ F1 al1 S1 H1 ∧ FQ T K E D F1 al1 H1 (f b S1) := by
  refine ⟨F, al, S, ρ, g, e, ?_⟩
  cases q : m ρ S with
  | ok w S1 =>
    rw [q] at h
    exact fun F1 al1 H1 p g1 => ⟨F1, al1, S1, ⟨g1, e.post p, p⟩, FQ.post p h⟩
  | exc x S1 => rw [q] at h; exact fun c d F1 al1 H1 p g1 r => h c d σ F1 al1 H1 p g1 (e.post p) r
  | bad => rw [q] at h; exact h
theorem tI.toS {m : Ml} {f : List W → Sto → Fl} (g : Good T K F al S H) (e : EnvOk T K F al σ ρ) (h : FQ T K E D F al H ((m ρ S).toS ρ f)) :
    tI T K E m σ H fun J H1 => ∃ F1 al1 S1 ws, Mid T K F al H σ ρ F1 al1 S1 H1 ∧ WkW T K F1 al1 J ws ∧ FQ T K E D F1 al1 H1 (f ws S1) := by
  refine ⟨F, al, S, ρ, g, e, ?_⟩
  cases q : m ρ S with
  | ok w S1 =>
    rw [q] at h
    exact fun v F1 al1 H1 p g1 r => ⟨F1, al1, S1, w, ⟨g1, e.post p, p⟩, r, FQ.post p h⟩
  | exc x S1 => rw [q] at h; exact fun c d F1 al1 H1 p g1 r => h c d σ F1 al1 H1 p g1 (e.post p) r
  | bad => rw [q] at h; exact h
theorem tI.imp {m : Ml} {Q Q' : L2.It → Hp → Prop} (h : tI T K E m σ H Q) (i : ∀ v H, Q v H → Q' v H) : tI T K E m σ H Q' := by
  obtain ⟨F, al, S, ρ, g, e, q⟩ := h
  refine ⟨F, al, S, ρ, g, e, ?_⟩
  cases r : m ρ S with
  | ok w S' => rw [r] at q; exact fun v F2 al2 H2 p g r => i _ _ (q v F2 al2 H2 p g r)
  | exc x S' => rw [r] at q; exact q
  | bad => rw [r] at q; exact q
theorem FQ.now {ρ : Env} (h : FQ T K E D F al H (.nx ρ S)) (g : Good T K F al S H) (e : EnvOk T K F al σ ρ) : D.nx σ H := h σ F al H Post.refl g e
/-- a target's binding, then what follows -/
theorem FQ.tg {tg : Tg} {v : V} {w : W} (g : Good T K F al S H) (r : Rw T K F al v w) (e : EnvOk T K F al σ ρ) (h : FQ T K E D F al H (Fl.ofO S (bindTg tg w ρ))) : gTg K tg v σ H D.nx := by
  cases q : bindTg tg w ρ with
  | none => rw [q] at h; exact h.elim
  | some ρ' =>
    rw [q] at h
    exact tg_sound tg.slots (σ0 := σ) g r e q (fun i hi => hi) rfl fun σ' F' al' H' p g' e' _ => h σ' F' al' H' p g' e'
end
section
variable {X : Cx} {T : Tab} {E : WX} {pos : Pos} {a b c tg : Expr} {p q r : Me} {es : List Expr} {ps : Ml} {bp bq br : Mb} {st : Stmt} {rest bd od : List Stmt} {m m2 : Ms}
theorem s_nil : PSs X [] (tS T X.K E sNext) := by
  refine pssM pss_nil ?_
  rintro D σ H ⟨F, al, S, ρ, g, e, h⟩
  exact h.now g e
theorem s_cons (h1 : PS X st (tS T X.K E m)) (h2 : PSs X rest (tS T X.K E m2)) : PSs X (st :: rest) (tS T X.K E (sSeq m m2)) := by
  refine pssM (pss_cons h1 h2) ?_
  rintro D σ H ⟨F, al, S, ρ, g, e, h⟩
  refine ⟨F, al, S, ρ, g, e, ?_⟩
  unfold sSeq at h
  cases q : m ρ S with
  | nx ρ1 S1 =>
    rw [q] at h
    exact fun σ' F' al' H' p g' e' => ⟨F', al', S1, ρ1, g', e', FQ.post p h⟩
  | bk ρ1 S1 => rw [q] at h; exact h
  | ct ρ1 S1 => rw [q] at h; exact h
  | ret w S1 => rw [q] at h; exact h
  | exc x ρ1 S1 => rw [q] at h; exact h
  | bad => rw [q] at h; exact h.elim
theorem s_expr (ha : PE X a (tW T X.K E p)) (hs : swapsWith a none pos.line X.env = pure false) : PS X (.Expr a pos) (tS T X.K E (sExpr p)) := by
  refine psM (ps_expr ha hs) ?_
  rintro D σ H ⟨F, al, S, ρ, g, e, h⟩
  exact (tW.toS g e h).imp fun x H1 ⟨F1, al1, S1, w, m, r, h1⟩ => h1.now m.g m.e
theorem s_ret (ha : PE X a (tW T X.K E p)) : PS X (.Return (some a) pos) (tS T X.K E (sRet p)) := by
  refine psM (ps_ret ha) ?_
  rintro D σ H ⟨F, al, S, ρ, g, e, h⟩
  exact (tW.toS g e h).imp fun x H1 ⟨F1, al1, S1, w, m, r, h1⟩ => h1 _ _ _ _ Post.refl m.g r
theorem s_if (hc : PT X c (DL.tB T X.K E bp)) (ha : PSs X bd (tS T X.K E m)) (hb : PSs X od (tS T X.K E m2)) : PS X (.If c bd od pos) (tS T X.K E (sIf bp m m2)) := by
  refine psM (ps_if hc ha hb) ?_
  rintro D σ H ⟨F, al, S, ρ, g, e, h⟩
  refine (tB.toS g e h).imp fun k H1 ⟨F1, al1, S1, m, h1⟩ => ?_
  cases k with
  | true => rw [if_pos rfl]; exact ⟨F1, al1, S1, ρ, m.g, m.e, h1⟩
  | false => rw [if_neg Bool.false_ne_true]; exact ⟨F1, al1, S1, ρ, m.g, m.e, h1⟩
theorem s_asg {t : Tg} (ha : PE X a (tW T X.K E p)) (hg : PG X tg (gTg X.K t)) (hs : swapsWithSole [tg] a pos.line X.env = pure false) (hw : swappedStores [tg] a X.env = pure none) (h1 : (assignEach [tg] X.env).map (·.2) = [assign tg X.env]) : PS X (.Assign [tg] a pos) (tS T X.K E (sAsg t p)) := by
  refine psM (ps_asg ha hg hs hw h1) ?_
  rintro D σ H ⟨F, al, S, ρ, g, e, h⟩
  exact (tW.toS g e h).imp fun x H1 ⟨F1, al1, S1, w, m, r, h1⟩ => h1.tg m.g r m.e
theorem s_set {i : Nat} {x : Str} {pos' : Pos} (hN : X.N.Nodup) (hi : X.N[i]? = some x) (hx : Loc X.env.scope x) (ha : PE X a (tW T X.K E p)) (hs : swapsWith a (some (.Name x pos')) pos.line X.env = pure false) (hf : X.fn x = true ∨ X.env.scope.names.lookup x = some .local) :
    PS X (.Assign [.Name x pos'] a pos) (tS T X.K E (sAsg (.nm i) p)) := by
  refine psM (ps_set hN hi hx ha hs hf) ?_
  rintro D σ H ⟨F, al, S, ρ, g, e, h⟩
  exact (tW.toS g e h).imp fun x H1 ⟨F1, al1, S1, w, m, r, h1⟩ => h1.tg m.g r m.e
theorem s_setLc {i : Nat} {y : Str} {py : Pos} {elt iter : Expr} {ifs : List Expr} {scope : Scope} {own : List (Str × Nat)} {spos : Pos} {it : Ml} {cb : Mb} {el : Me} {tgt : Tg} {mt : Bool} {vs : List Nat} (hc : X.calm = true) (hN : X.N.Nodup) (hy : X.N[i]? = some y) (hyl : X.env.scope.names.lookup y = some .local)
    (hsw : swapsWith (.ListComp elt [⟨tg, iter, ifs, 0⟩] scope pos) (some (.Name y py)) spos.line X.env = pure true) (hi : PI X tg iter (tI T X.K E it)) (ok : BlkOk X.N X.env.scope scope own) (hvs : own.map (·.2) = vs) (hsl : (tgt.slots.all fun i => vs.contains i) = true)
    (hg : ∀ (s : Shared) (H : Hp) (C : Addr) (cl : List (Str × Addr)) (fp : List Addr), PG (X.blk s H scope (compEnvC scope cl C X.env) fp) tg (gTg X.K tgt)) (ht : ∀ (s : Shared) (H : Hp) (C : Addr) (cl : List (Str × Addr)) (fp : List Addr), PTs (X.blk s H scope (compEnvC scope cl C X.env) fp) ifs (DL.tB T X.K EF cb))
    (he : ∀ (s : Shared) (H : Hp) (C : Addr) (cl : List (Str × Addr)) (fp : List Addr), PE (X.blk s H scope (compEnvC scope cl C X.env) fp) elt (tW T X.K EF el)) (hs : ∀ x, foldedSetIterable iter X.env x = pure x) :
    PS X (.Assign [.Name y py] (.ListComp elt [⟨tg, iter, ifs, 0⟩] scope pos) spos) (tS T X.K E (sAsg (.nm i) (mLc mt vs tgt it cb el))) := by
  subst hvs
  refine psM (ps_setLc hc hN hy hyl hsw hi ok hg ht he hs) ?_
  rintro D σ H ⟨F, al, S, ρ, g, e, h⟩
  refine lc_sound (mt := mt) (fun i hi => ?_) ((tW.toS g e h).imp fun x H1 ⟨F1, al1, S1, w, m, r, h1⟩ => h1.tg m.g r m.e)
  have := List.all_eq_true.mp hsl i hi
  simpa using this
theorem s_par2 {i j : Nat} {x y : Str} {px py pt : Pos} {kt k2 pt2} (hc : X.calm = true) (hN : X.N.Nodup) (hi : X.N[i]? = some x) (hj : X.N[j]? = some y) (hij : i ≠ j)
    (hx : X.env.scope.names.lookup x = some .local) (hy : X.env.scope.names.lookup y = some .local) (ha : PA X [a, b] (tL T X.K E ps))
    (hw : swappedStores [.Tuple [.Name x px, .Name y py] kt pt] (.Tuple [a, b] k2 pt2) X.env = pure (some [x, y])) (hs : swapsWithSole [.Tuple [.Name x px, .Name y py] kt pt] (.Tuple [a, b] k2 pt2) pos.line X.env = pure false) :
    PS X (.Assign [.Tuple [.Name x px, .Name y py] kt pt] (.Tuple [a, b] k2 pt2) pos) (tS T X.K E (sPar [i, j] ps)) := by
  refine psM (ps_par hc hN hi hj hij hx hy ha hw hs) ?_
  rintro D σ H ⟨F, al, S, ρ, g, e, h⟩
  refine (tL.toS g e h).imp fun vs H1 ⟨F1, al1, S1, w, m, r, h1⟩ => ?_
  cases r with
  | nil => exact h1.elim
  | cons r1 r =>
    cases r with
    | nil => exact h1.elim
    | cons r2 r =>
      cases r with
      | nil => exact ⟨_, _, rfl, h1.now m.g ((m.e.set r1 i).set r2 j)⟩
      | cons r3 r => exact h1.elim
/-- op= -/
def rAug : Operator → R2
  | .Add => rI0 fun i j => .int (i + j)
  | .Sub => rI0 fun i j => .int (i - j)
  | .Mult => rI CMul fun i j => .int (i * j)
  | .FloorDiv => rI CDiv fun i j => .int (i / j)
  | .Mod => rI (fun _ j => 0 < j) fun i j => .int (i % j)
  | _ => rNo
theorem op_aug (o : Operator) : OpR X (inplaceOp o) (rAug o) := by
  cases o <;> first | exact iop_add | exact iop_sub | exact iop_mul | exact iop_fdiv | exact iop_mod | exact op_no
theorem aug_sound {K : PySem.W.Frag} {F : Hp} {al : List Addr} {H : Hp} {o : Operator} {x y : V} {u w z : W} {Q : VK} (rx : Rw T K F al x u) (ry : Rw T K F al y w) (e : augW o u w = some z) (k : ∀ v, Rw T K F al v z → Q v H) : rAug o x y H Q := by
  unfold augW at e
  split at e
  · cases e; cases rx; cases ry; exact ⟨_, _, rfl, rfl, k _ (.int _)⟩
  · cases e; cases rx; cases ry; exact ⟨_, _, rfl, rfl, k _ (.int _)⟩
  · split at e
    · rename_i hm
      cases e; cases rx; cases ry
      refine ⟨_, _, rfl, rfl, ?_, k _ (.int _)⟩
      unfold mulOk at hm
      simp only [Bool.or_eq_true, Bool.and_eq_true, decide_eq_true_eq] at hm
      exact hm
    · cases e
  · split at e
    · rename_i hm
      cases e; cases rx; cases ry
      exact ⟨_, _, rfl, rfl, hm, k _ (.int _)⟩
    · cases e
  · split at e
    · rename_i hm
      cases e; cases rx; cases ry
      exact ⟨_, _, rfl, rfl, hm, k _ (.int _)⟩
    · cases e
  · cases e
theorem s_aug {i : Nat} {x : Str} {o : Operator} {pos' : Pos} (hN : X.N.Nodup) (hi : X.N[i]? = some x) (hx : Loc X.env.scope x) (ha : PE X a (tW T X.K E p)) (hf : X.fn x = true ∨ X.env.scope.names.lookup x = some .local) : PS X (.AugAssign (.Name x pos') o a pos) (tS T X.K E (sAug o i p)) := by
  refine psM (ps_aug hN hi hx ha (ti := rAug o) (fun pins s σ H x y v u Q I rx ry q => augR (op_aug o) I rx ry q) hf) ?_
  rintro D σ H ⟨F, al, S, ρ, g, e, h⟩
  unfold sAug at h
  split at h
  · rename_i w hw
    obtain ⟨v, h1, h2⟩ := e.2 i w hw
    refine ⟨v, h1, (tW.toS g e h).imp fun y H1 ⟨F1, al1, S1, u, m, r, h3⟩ => ?_⟩
    cases q : augW o w u with
    | none => rw [q] at h3; exact h3.elim
    | some z =>
      rw [q] at h3
      exact aug_sound (h2.post m.p) r q fun v rv => h3.now m.g (m.e.set rv i)
  · exact h.elim
theorem s_setIx {iv : Expr} {tpos : Pos} (ha : PE X a (tW T X.K E p)) (hb : PE X b (tW T X.K E q)) (hv : PE X iv (tW T X.K E r)) (hs : swapsWithSole [.Subscript a b tpos] iv pos.line X.env = pure false) (hw : swappedStores [.Subscript a b tpos] iv X.env = pure none) (h1 : (assignEach [.Subscript a b tpos] X.env).map (·.2) = [assign (.Subscript a b tpos) X.env])
    (h2 : ∀ v, assign (.Subscript a b tpos) X.env v = (do
      let ov ← holding [v] (eval a X.env)
      let iv ← holding [v, ov] (eval b X.env)
      standAt tpos
      holding [v, ov, iv] (setItem ov iv v)
      release [v, ov, iv] [])) : PS X (.Assign [.Subscript a b tpos] iv pos) (tS T X.K E (sSetIx p q r)) := by
  refine psM (ps_asg hv (pg_sub ha hb set_list h2) hs hw h1) ?_
  rintro D σ H ⟨F, al, S, ρ, g, e, h⟩
  refine (tW.toS g e h).imp fun v H1 ⟨F1, al1, S1, vw, m, rv, h1⟩ => ?_
  refine (tW.toS m.g m.e h1).imp fun x H2 ⟨F2, al2, S2, xw, m2, rx, h2⟩ => ?_
  refine (tW.toS m2.g m2.e h2).imp fun i H3 ⟨F3, al3, S3, iw, m3, ri, h3⟩ => ?_
  cases q : setIxR xw iw vw S3 with
  | none => simp only [q] at h3; exact h3.elim
  | some S4 =>
    simp only [q] at h3
    unfold setIxR at q
    split at q
    · split at q
      · rename_i ws hn
        split at q
        · rename_i j hj
          cases q
          cases ri
          cases rx.post m3.p with
          | @loc pa _ hl =>
            obtain ⟨xs, h4, h5, h6⟩ := m3.g.cell _ pa _ hl hn
            refine ⟨pa, xs, _, j, rfl, rfl, h4, by rw [h6.length]; exact hj, ?_⟩
            obtain ⟨g1, p1⟩ := m3.g.setCell (o := .lst (xs.set j v)) (c := .lst (ws.set j vw)) hl h5 ⟨_, upd_same, h5, h6.set ((rv.post m2.p).post m3.p) j⟩
            exact h3 _ _ _ _ p1 g1 (m3.e.post p1)
        · cases q
      · cases q
    · cases q
theorem putF_sound {K : PySem.W.Frag} {F : Hp} {al : List Addr} (hn : T.fld.Nodup) {f : Nat} (hf : f < T.fld.length) {v : V} {w : W} (rv : Rw T K F al v w) : ∀ {gs : List (Str × V)} {fs : List (Nat × W)}, RwF T K F al gs fs → RwF T K F al (putF (T.f f) v gs) (putFN f w fs)
  | _, _, .nil => .cons hf rv .nil
  | _, _, .cons (i := i) l r t => by
    unfold putF putFN
    by_cases h : i = f
    · subst h
      rw [if_pos rfl, if_pos rfl]
      exact .cons l rv t
    · rw [if_neg h, if_neg (fun q => h (Tab.f_inj hn l hf q))]
      exact .cons l r (putF_sound hn hf rv t)
theorem rwF_len {K : PySem.W.Frag} {F : Hp} {al : List Addr} : ∀ {gs : List (Str × V)} {fs : List (Nat × W)}, RwF T K F al gs fs → gs.length = fs.length
  | _, _, .nil => rfl
  | _, _, .cons _ _ t => by rw [List.length_cons, List.length_cons, rwF_len t]
theorem s_setFld {cc f : Nat} {fn : Str} {pos' : Pos} (hn : T.fld.Nodup) (hf : f < T.fld.length) (hfn : T.f f = fn) (hc : Cls X.K (T.c cc)) (hna : NoAttr X.K (T.c cc) fn) (ha : PE X a (tW T X.K E p)) (hv : PE X b (tW T X.K E q)) (hs : swapsWith b (some (.Attribute a fn pos')) pos.line X.env = pure false) : PS X (.Assign [.Attribute a fn pos'] b pos) (tS T X.K E (sSetFld cc f p q)) := by
  subst hfn
  refine psM (ps_fld ha hv hs) ?_
  rintro D σ H ⟨F, al, S, ρ, g, e, h⟩
  refine (tW.toS g e h).imp fun v H1 ⟨F1, al1, S1, vw, m, rv, h1⟩ => ?_
  refine (tW.toS m.g m.e h1).imp fun x H2 ⟨F2, al2, S2, xw, m2, rx, h2⟩ => ?_
  cases q : setFldR cc f xw vw S2 with
  | none => rw [q] at h2; exact h2.elim
  | some S3 =>
    rw [q] at h2
    unfold setFldR at q
    split at q
    · split at q
      · rename_i d fs hn2
        split at q
        · rename_i hd
          cases q
          obtain ⟨rfl, hl⟩ := hd
          cases rx with
          | @loc pa _ hl2 =>
            obtain ⟨dx, gs, h4, h5, h6⟩ := m2.g.cell _ pa _ hl2 hn2
            refine ⟨pa, _, dx, gs, rfl, h4, hc, hna, by rw [rwF_len h6]; omega, ?_⟩
            obtain ⟨g1, p1⟩ := m2.g.setCell (o := .ins (T.c d) dx (putF (T.f f) v gs)) (c := .obj d (putFN f vw fs)) hl2 h5 ⟨dx, _, upd_same, h5, putF_sound hn hf (rv.post m2.p) h6⟩
            exact h2 _ _ _ _ p1 g1 (m2.e.post p1)
        · cases q
      · cases q
    · cases q
theorem s_for {iter : Expr} {it : Ml} {t : Tg} (hp : PassesOwn (model X.prog X.w) X.A X.env X.xe) (hc : X.calm = true) (hi : PI X tg iter (tI T X.K E it)) (hg : PG X tg (gTg X.K t)) (hb : PSs X bd (tS T X.K E m)) (hs : ∀ x, foldedSetIterable iter X.env x = pure x) : PS X (.For tg iter bd [] pos) (tS T X.K E (sFor it t m)) := by
  refine psM (ps_for hp hc hi hg hb hs) ?_
  rintro D σ H ⟨F, al, S, ρ, g, e, h⟩
  refine (tI.toS g e h).imp fun J H1 ⟨F1, al1, S1, xs, mid, wk, h1⟩ => ?_
  obtain ⟨G, Y, w, hG, hY⟩ := wk
  refine for_it w (fun i σ2 H2 => ∃ F2 al2 S2 ρ2, Post F1 al1 H1 F2 al2 H2 ∧ Good T X.K F2 al2 S2 H2 ∧ EnvOk T X.K F2 al2 σ2 ρ2 ∧ FQ T X.K E D F2 al2 H2 (forM t m (xs.drop i) ρ2 S2)) ?_ ?_ ?_ ?_
  · exact ⟨F1, al1, S1, ρ, Post.refl, mid.g, mid.e, h1⟩
  · rintro i σ2 H2 hi ⟨F2, al2, S2, ρ2, p2, g2, _⟩
    exact hG H2 fun b u e => g2.sub b u (p2.ext b u e)
  · rintro i x σ2 H2 H2' hi ⟨F2, al2, S2, ρ2, p2, g2, e2, h2⟩ y
    obtain ⟨F3, u, hu, g3, p3, r3⟩ := hY i H2 x H2' hi y F2 al2 S2 p2.ext p2.pre g2
    have hdrop : xs.drop i = u :: xs.drop (i + 1) := by
      obtain ⟨hi', hu'⟩ := List.getElem?_eq_some_iff.mp hu
      rw [List.drop_eq_getElem_cons hi', hu']
    rw [hdrop] at h2
    unfold forM at h2
    cases hb : bindTg t u ρ2 with
    | none => rw [hb] at h2; exact h2.elim
    | some ρ3 =>
      simp only [hb] at h2
      refine tg_sound t.slots (σ0 := σ2) g3 r3 (e2.post p3) hb (fun i hi => hi) rfl fun σ3 F4 al4 H4 p4 g4 e4 _ => ?_
      refine ⟨F4, al4, S2, ρ3, g4, e4, ?_⟩
      have p14 := (p2.trans p3).trans p4
      replace h2 := FQ.post (p3.trans p4) h2
      cases hm : m ρ3 S2 with
      | nx ρ5 S5 =>
        simp only [hm] at h2
        exact fun σ5 F5 al5 H5 p5 g5 e5 => ⟨F5, al5, S5, ρ5, p14.trans p5, g5, e5, FQ.post p5 h2⟩
      | ct ρ5 S5 =>
        simp only [hm] at h2
        exact fun σ5 F5 al5 H5 p5 g5 e5 => ⟨F5, al5, S5, ρ5, p14.trans p5, g5, e5, FQ.post p5 h2⟩
      | bk ρ5 S5 =>
        simp only [hm] at h2
        exact fun σ5 F5 al5 H5 p5 g5 e5 => h2 σ5 F5 al5 H5 p5 g5 e5
      | ret w S5 =>
        simp only [hm] at h2
        exact h2
      | exc x ρ5 S5 =>
        simp only [hm] at h2
        exact h2
      | bad => simp only [hm] at h2; exact h2.elim
  · rintro σ2 H2 ⟨F2, al2, S2, ρ2, p2, g2, e2, h2⟩
    rw [List.drop_length] at h2
    exact h2.now g2 e2
end
/-! ### a statement on data alone: the store stays out of it -/
end DL
set_option Elab.async false
set_option linter.all false
set_option maxRecDepth 100000
set_option maxHeartbeats 4000000
/-! Wk: defs, the head's facts, the law's end. -/
namespace DL
open PySem PySem.Spec L2
def startW (N : Nat) (ws : List W) : Env := ws.map some ++ List.replicate (N - ws.length) none
def Fl.toR : Fl → Res
  | .nx _ S => .ok .non S
  | .ret w S => .ok w S
  | .exc x _ S => .exc x S
  | _ => .bad
def fnW (n N : Nat) (b : Ms) : Fn := fun ws S => if ws.length = n then (b (startW N ws) S).toR else .bad
theorem fnW_takes (n N : Nat) (b : Ms) : TakesN n (fnW n N b) := fun ws S h => if_neg h
section
variable {T : Tab} {P : Program} {w : World} {K : PySem.W.Frag} {mg : Str → Option Value} {base : Heap}
theorem start_get {vs : List V} : ∀ {N : List Str} {i : Nat} {v : V}, vs[i]? = some v → (start N vs)[i]? = some (some v) := fun {N i v} h => by
  unfold L2.start
  have hi := (List.getElem?_eq_some_iff.mp h).1
  rw [List.getElem?_append_left (by rw [List.length_map]; exact hi), List.getElem?_map, h]; rfl
theorem start_envOk {F : Hp} {al : List Addr} {N : List Str} {vs : List V} {ws : List W} (r : RwL T K F al vs ws) : EnvOk T K F al (start N vs) (startW N.length ws) := by
  refine ⟨?_, fun i u h => ?_⟩
  · unfold L2.start startW
    rw [List.length_append, List.length_append, List.length_map, List.length_map, List.length_replicate, List.length_replicate, r.length]
  · unfold startW at h
    by_cases hi : i < ws.length
    · rw [List.getElem?_append_left (by rw [List.length_map]; exact hi), List.getElem?_map] at h
      cases q : ws[i]? with
      | none => rw [q] at h; cases h
      | some x =>
        rw [q] at h
        have : x = u := by simpa using h
        subst this
        obtain ⟨v, h1, h2⟩ := r.get q
        exact ⟨v, start_get h1, h2⟩
    · rw [List.getElem?_append_right (by rw [List.length_map]; omega), List.getElem?_replicate] at h
      split at h <;> cases h
theorem fnW_ok {x qual : Str} {params : Arguments} {body : List Stmt} {scope : Scope} {dvs : List V} {kws : List (Str × V)} {f : Addr} {fd : FuncData} {N pn : List Str} {k : Nat} {b : Ms} (Fd : FunD K x qual params body scope dvs kws f fd) (Sc : FnScope N pn scope)
    (hb : ∀ (cdv : Value) (A : Around) (outer : List PySem.Env) (s : Shared) (H : Hp) (E : XK), Room k (A.deeper (PyProof.Rows.envOfC qual scope s.heap.objs.size f cdv)) →
      PSs (cxOf (L2.CX P w) P w K mg base N qual scope f cdv A outer s H E) body (tS T K (fun c d _ H' => E c d H') b)) :
    FnOk P w K mg base (L2.CX P w) (k + 1) f fd pn (spW T K pn.length (fnW pn.length N.length b)) := by
  refine Fd.ok Sc (fun vs H Q E h => ?_) (fun cdv A outer s H vs Q E hr h => ⟨_, hb cdv A outer s H E hr, ?_⟩)
  · obtain ⟨F, al, S, ws, hl, g, r, _⟩ := h
    exact r.length.trans hl
  · obtain ⟨F, al, S, ws, hl, g, r, h⟩ := h
    refine ⟨F, al, S, startW N.length ws, g, start_envOk r, ?_⟩
    unfold fnW at h
    rw [if_pos hl] at h
    cases q : b (startW N.length ws) S with
    | nx ρ S' => rw [q] at h; exact fun σ' F' al' H' p g' _ => h .non F' al' H' p g' .non
    | bk ρ S' => rw [q] at h; exact h.elim
    | ct ρ S' => rw [q] at h; exact h.elim
    | ret u S' => rw [q] at h; exact h
    | exc z ρ S' => rw [q] at h; exact fun c d σ' F' al' H' p g' _ rx => h c d F' al' H' p g' rx
    | bad => rw [q] at h; exact h.elim
theorem callF_mk {x qual : Str} {params : Arguments} {body : List Stmt} {scope : Scope} {dv0 : List V} {kws : List (Str × V)} {f : Addr} {fd : FuncData} {pn : List Str} {k n : Nat} {φ : Fn} (Fd : FunD K x qual params body scope dv0 kws f fd) (hm : mg x = some (.ref f))
    (FO : FnOk P w K mg base (L2.CX P w) k f fd pn (spW T K n φ)) (hn : TakesN n φ) (hb : Binds K fd pn []) : CallF T P w K mg base k x φ :=
  ⟨f, fd, pn, [], [], [], n, φ, FO, hn, hm, Fd.kp, hb, .nil, fun _ _ => .nil, funext fun ws => funext fun S => by rw [List.append_nil]⟩
theorem makeF_mk {x : Str} {f : Addr} {fd : FuncData} {pn : List Str} {k n c : Nat} {φ : Fn} (hm : mg x = some (.ref (T.c c))) (hM : Mk K (T.c c) f)
    (FO : FnOk P w K mg base (L2.CX P w) k f fd pn (spW T K n φ)) (hn : TakesN n φ) (hb : Binds K fd pn []) : MakeF T P w K mg base k x c φ :=
  ⟨f, fd, pn, [], [], [], n, φ, FO, hn, hm, hM, hb, .nil, fun _ _ => .nil, funext fun ws => funext fun S => by rw [List.append_nil]⟩
/-- a def with defaults, all of them written at the call -/
theorem binds_full {x qual : Str} {params : Arguments} {body : List Stmt} {scope : Scope} {dvs : List V} {kws : List (Str × V)} {f : Addr} {fd : FuncData} {pn : List Str} (Fd : FunD K x qual params body scope dvs kws f fd) (n : Nat) (hd : dvs ≠ []) (hn : n = pn.length)
    (h : ∀ (Ta : Addr) (kV doc pm : Value) (an : Option Addr) (cdv ct : Value) (us its : List Value), us.length = n → its.length = dvs.length →
      ∃ k, bindArgs (PySem.W.fnOf x qual params body scope (.ref Ta) kV doc pm an cdv ct) ⟨us, []⟩ = seqItems? (.ref Ta) >>= k ∧ k (some its.toArray) = pure (pn.zip us)) : Binds K fd pn [] := by
  have := Fd.binds1 (ps := pn) n dvs.length hd (by omega) fun Ta kV doc pm an cdv ct us its h1 h2 => by
    obtain ⟨k, e1, e2⟩ := h Ta kV doc pm an cdv ct us its h1 h2
    refine ⟨k, e1, ?_⟩
    rw [e2, ← h2, List.drop_length, List.append_nil]
  obtain ⟨ds, h1, h2⟩ := this
  rw [List.drop_length] at h1
  cases h1
  exact h2
end
/-- what the law promises -/
def spLaw (K : PySem.W.Frag) : Sp := fun vs H Q _ => ∃ (a : Addr) (ns : List Int), vs = [.ref a] ∧ SqL K H a (ns.map V.int) ∧ ns.length ≤ 63 ∧ ∀ H', Q (.bl true) H'
theorem law_end {T : Tab} {P : Program} {w : World} {K : PySem.W.Frag} {mg : Str → Option Value} {base : Heap} {k : Nat} {f : Addr} {fd : FuncData} {pn : List Str} {φ : Fn} (FO : FnOk P w K mg base (L2.CX P w) k f fd pn (spW T K 1 φ))
    (hφ : ∀ ns : List Int, ns.length ≤ 63 → ∃ S, φ [.lst (ns.map W.int)] [] = .ok (.bl true) S) : FnOk P w K mg base (L2.CX P w) k f fd pn (spLaw K) := by
  refine FO.imp fun vs H Q E h => ?_
  obtain ⟨a, ns, rfl, hS, hl, hq⟩ := h
  obtain ⟨S, e⟩ := hφ ns hl
  refine ⟨H, [], [], [.lst (ns.map W.int)], rfl, ⟨Same.refl _, List.nodup_nil, rfl, (fun _ h => nomatch h), (fun n a c h => by simp at h)⟩, .cons (.lst hS (RwL.of_ints ns)) .nil, ?_⟩
  rw [e]
  intro v F' al' H' p g r
  cases r
  exact hq H'
theorem noX {P : Program} {w : World} (H : Hp) (s : Shared) (e : Value) (s' : Shared) (h : L2.CX P w [] H s (fun _ _ _ => False) e s') : False := by
  obtain ⟨_, _, _, _, _, _, _, _, _, _, _, _, z⟩ := h
  exact z
/-! ### the head with more facts -/
/-- the end of a walk, the wish about exceptions by the world -/
theorem walk_end {l : PySem.W.OpenLaw} {n k : Nat} {q : Program} {loose : List Str} {XP : (Str → Option Value) → Heap → Prop} {YP : World → Heap → Prop} {d : DefRec} {CX : World → CXT} {x : Str}
    (hn : l.most = some n) (hn2 : n ≤ sizeLine) (hdf : d.params.defaults = []) (hr : Room k callerA)
    (hF : ∀ (w : World) (mg : Str → Option Value) (fa : Addr) (h : Heap), YP w h → h.Ns mainGlobals mg → mg d.name = some (.ref fa) →
      ∃ (K : PySem.W.Frag) (fd : FuncData) (sp : Sp), K.In h ∧ (∀ (s : Shared) (u : Value), BindsTo s fd ⟨[u], []⟩ [(x, u)]) ∧
        (∀ (H : Hp) (a : Addr) (ns : List Int), ns.length ≤ n → Only H → SqL K H a (ns.map V.int) → sp [.ref a] H (fun v _ => v = .bl true) fun _ _ _ => False) ∧
        ∀ base : Heap, K.In base → base.Ns mainGlobals mg → FnOk l.prog w K mg base (CX w) k fa fd [x] sp)
    (hCX : ∀ (w : World) (H : Hp) (s : Shared) (e : Value) (s' : Shared), CX w [] H s (fun _ _ _ => False) e s' → False) :
    PySem.W.WalkO q loose XP YP l.row.toRowW d [] (fun f vs => PySem.call f vs) := by
  refine Att.attach_call hn hdf fun w s₀ s₁ mg mb fa o pm cd doc a vs ns Gd hY ho hd hcd hmg hobj hints hlen hg => ?_
  obtain ⟨K, fd, sp, KX, hb, hsp, hf⟩ := hF w mg fa _ hY Gd.T.g hmg
  exact law_call KX Gd.T.g Gd.T.b Gd.T.builtins Gd.T.nolimit hg hobj hints (Nat.le_trans hlen hn2) hr hf hb (fun H hO hS => hsp H a ns hlen hO hS) fun H e s' => hCX w H s₁ e s'
end DL
set_option Elab.async false
set_option linter.all false
set_option maxRecDepth 100000
set_option maxHeartbeats 4000000
/-! Wl: rules by names. -/
namespace DL
open PySem PySem.Spec L2
section
variable {X : Cx} {T : Tab} {E : WX} {pos pp : Pos} {a b c : Expr} {p q r : Me} {es : List Expr} {ps : Ml} {bp bq br : Mb} {x : Str}
/-- a name of the module that stands for data -/
def GloW (T : Tab) (K : PySem.W.Frag) (mg : Str → Option Value) (x : Str) (w : W) : Prop := ∃ (v : V) (u : Value), mg x = some u ∧ RelV v u ∧ ∀ F al, Rw T K F al v w
theorem w_globW {w : W} (hg : Gl X x) (h : GloW T X.K X.mg x w) (hd : (x == ("__debug__" : Str)) = false) : PE X (.Name x pos) (tW T X.K E (mCon w)) := by
  obtain ⟨v, u, h1, h2, h3⟩ := h
  exact w_glob hg h1 h2 h3 hd
theorem gloW_int {K : PySem.W.Frag} {mg : Str → Option Value} {i : Int} (h : ∃ t, mg x = some (.int i t)) : GloW T K mg x (.int i) := by
  obtain ⟨t, h⟩ := h
  exact ⟨.int i, _, h, ⟨t, rfl⟩, fun _ _ => .int i⟩
theorem gloW_str {K : PySem.W.Frag} {mg : Str → Option Value} {i : Str} (h : ∃ t, mg x = some (.str i t)) : GloW T K mg x (.str i) := by
  obtain ⟨t, h⟩ := h
  exact ⟨.str i, _, h, ⟨t, rfl⟩, fun _ _ => .str i⟩
theorem gloW_strs {K : PySem.W.Frag} {mg : Str → Option Value} {xs : List Str} (hm : mg x = some (.ref (He.ga K x))) (h : He.tupB K x (xs.map He.Dv.str) = true) : GloW T K mg x (.tup (xs.map W.str)) := by
  refine ⟨.ref (He.ga K x), _, hm, rfl, fun F al => .tup (He.tupB_ok h F) ?_⟩
  clear h
  induction xs with
  | nil => exact .nil
  | cons y ys ih => exact .cons (.str y) ih
theorem one {o : BoolOp} (h : PE X a (tW T X.K E p)) : PE X (.BoolOp o [a] pos) (tW T X.K E p) := pe_one h
theorem w_len (hg : Gl X "len") (hm : X.mg "len" = none) (ha : PA X (a :: es) (tL T X.K E ps)) (he : starEach (a :: es) X.env = (false, eval a X.env) :: starEach es X.env) (hpl : (backTo pos (starEach es X.env)).any (·.1) = false) : PE X (.Call (.Name "len" pp) (a :: es) [] pos) (tW T X.K E (mPrim .len ps)) :=
  w_primB call_len hg hm PySem.boot_len ha (by decide) rfl he hpl
theorem w_abs (hg : Gl X "abs") (hm : X.mg "abs" = none) (ha : PA X (a :: es) (tL T X.K E ps)) (he : starEach (a :: es) X.env = (false, eval a X.env) :: starEach es X.env) (hpl : (backTo pos (starEach es X.env)).any (·.1) = false) : PE X (.Call (.Name "abs" pp) (a :: es) [] pos) (tW T X.K E (mPrim .abs ps)) :=
  w_primB call_abs hg hm PyProof.Rows.boot_abs ha (by decide) rfl he hpl
theorem w_max (hc : X.calm = true) (hg : Gl X "max") (hm : X.mg "max" = none) (ha : PA X (a :: es) (tL T X.K E ps)) (he : starEach (a :: es) X.env = (false, eval a X.env) :: starEach es X.env) (hpl : (backTo pos (starEach es X.env)).any (·.1) = false) : PE X (.Call (.Name "max" pp) (a :: es) [] pos) (tW T X.K E (mPrim .max ps)) :=
  w_primB (P := .max) (call_max2 hc) hg hm PyProof.Rows.boot_max ha (by decide) rfl he hpl
theorem w_min (hc : X.calm = true) (hg : Gl X "min") (hm : X.mg "min" = none) (ha : PA X (a :: es) (tL T X.K E ps)) (he : starEach (a :: es) X.env = (false, eval a X.env) :: starEach es X.env) (hpl : (backTo pos (starEach es X.env)).any (·.1) = false) : PE X (.Call (.Name "min" pp) (a :: es) [] pos) (tW T X.K E (mPrim .min ps)) :=
  w_primB (P := .min) (call_min2 hc) hg hm PyProof.Rows.boot_min ha (by decide) rfl he hpl
theorem w_all (hc : X.calm = true) (hg : Gl X "all") (hm : X.mg "all" = none) (ha : PA X (a :: es) (tL T X.K E ps)) (he : starEach (a :: es) X.env = (false, eval a X.env) :: starEach es X.env) (hpl : (backTo pos (starEach es X.env)).any (·.1) = false) : PE X (.Call (.Name "all" pp) (a :: es) [] pos) (tW T X.K E (mPrim .all ps)) :=
  w_primB (P := .all) (cr_all hc) hg hm PyProof.Rows.boot_all ha (by decide) rfl he hpl
theorem w_any (hc : X.calm = true) (hg : Gl X "any") (hm : X.mg "any" = none) (ha : PA X (a :: es) (tL T X.K E ps)) (he : starEach (a :: es) X.env = (false, eval a X.env) :: starEach es X.env) (hpl : (backTo pos (starEach es X.env)).any (·.1) = false) : PE X (.Call (.Name "any" pp) (a :: es) [] pos) (tW T X.K E (mPrim .any ps)) :=
  w_primB (P := .any) (cr_any hc) hg hm PyProof.Rows.boot_any ha (by decide) rfl he hpl
theorem w_tuple (hg : Gl X "tuple") (hm : X.mg "tuple" = none) (ha : PA X (a :: es) (tL T X.K E ps)) (he : starEach (a :: es) X.env = (false, eval a X.env) :: starEach es X.env) (hpl : (backTo pos (starEach es X.env)).any (·.1) = false) : PE X (.Call (.Name "tuple" pp) (a :: es) [] pos) (tW T X.K E (mPrim .tuple ps)) :=
  w_primT (P := .tuple) call_tuple_of hg hm PyProof.Rows.boot_tuple ha (by decide) rfl he hpl
theorem w_int1 (hg : Gl X "int") (hm : X.mg "int" = none) (ha : PA X (a :: es) (tL T X.K E ps)) (he : starEach (a :: es) X.env = (false, eval a X.env) :: starEach es X.env) (hpl : (backTo pos (starEach es X.env)).any (·.1) = false) : PE X (.Call (.Name "int" pp) (a :: es) [] pos) (tW T X.K E (mPrim .int ps)) :=
  w_primT (P := .int) call_int1 hg hm PyProof.Rows.boot_int ha (by decide) rfl he hpl
theorem w_isT {tp : Pos} {tx : Str} {t : Ty} (hlv : LvOk T X.K) (hg : Gl X "isinstance") (hm : X.mg "isinstance" = none) (htg : Gl X tx) (htm : X.mg tx = none) (hv : bootBuiltins tx = some (.type t.s)) (hn : tx ≠ "__name__") (hdb : (tx == ("__debug__" : Str)) = false) (ha : PE X a (tW T X.K E p))
    (he : starEach [a, .Name tx tp] X.env = (false, eval a X.env) :: starEach [.Name tx tp] X.env) (he2 : starEach [.Name tx tp] X.env = (false, eval (.Name tx tp) X.env) :: starEach [] X.env) (hpl : (backTo pos (starEach [.Name tx tp] X.env)).any (·.1) = false) : PE X (.Call (.Name "isinstance" pp) [a, .Name tx tp] [] pos) (tW T X.K E (mIsi t p)) :=
  w_isi hlv hg hm PyProof.Rows.boot_isinstance (pe_bltn htg htm hv rfl hn hdb) ha (by decide) rfl he he2 hpl
theorem w_isInt {tp : Pos} (hlv : LvOk T X.K) (hg : Gl X "isinstance") (hm : X.mg "isinstance" = none) (htg : Gl X "int") (htm : X.mg "int" = none) (ha : PE X a (tW T X.K E p))
    (he : starEach [a, .Name "int" tp] X.env = (false, eval a X.env) :: starEach [.Name "int" tp] X.env) (he2 : starEach [.Name "int" tp] X.env = (false, eval (.Name "int" tp) X.env) :: starEach [] X.env) (hpl : (backTo pos (starEach [.Name "int" tp] X.env)).any (·.1) = false) : PE X (.Call (.Name "isinstance" pp) [a, .Name "int" tp] [] pos) (tW T X.K E (mIsi .int p)) :=
  w_isT (t := .int) hlv hg hm htg htm PyProof.Rows.boot_int (by decide) rfl ha he he2 hpl
theorem w_isBool {tp : Pos} (hlv : LvOk T X.K) (hg : Gl X "isinstance") (hm : X.mg "isinstance" = none) (htg : Gl X "bool") (htm : X.mg "bool" = none) (ha : PE X a (tW T X.K E p))
    (he : starEach [a, .Name "bool" tp] X.env = (false, eval a X.env) :: starEach [.Name "bool" tp] X.env) (he2 : starEach [.Name "bool" tp] X.env = (false, eval (.Name "bool" tp) X.env) :: starEach [] X.env) (hpl : (backTo pos (starEach [.Name "bool" tp] X.env)).any (·.1) = false) : PE X (.Call (.Name "isinstance" pp) [a, .Name "bool" tp] [] pos) (tW T X.K E (mIsi .bool p)) :=
  w_isT (t := .bool) hlv hg hm htg htm PyProof.Rows.boot_bool (by decide) rfl ha he he2 hpl
theorem w_isStr {tp : Pos} (hlv : LvOk T X.K) (hg : Gl X "isinstance") (hm : X.mg "isinstance" = none) (htg : Gl X "str") (htm : X.mg "str" = none) (ha : PE X a (tW T X.K E p))
    (he : starEach [a, .Name "str" tp] X.env = (false, eval a X.env) :: starEach [.Name "str" tp] X.env) (he2 : starEach [.Name "str" tp] X.env = (false, eval (.Name "str" tp) X.env) :: starEach [] X.env) (hpl : (backTo pos (starEach [.Name "str" tp] X.env)).any (·.1) = false) : PE X (.Call (.Name "isinstance" pp) [a, .Name "str" tp] [] pos) (tW T X.K E (mIsi .str p)) :=
  w_isT (t := .str) hlv hg hm htg htm PyProof.Rows.boot_str (by decide) rfl ha he he2 hpl
theorem w_isTuple {tp : Pos} (hlv : LvOk T X.K) (hg : Gl X "isinstance") (hm : X.mg "isinstance" = none) (htg : Gl X "tuple") (htm : X.mg "tuple" = none) (ha : PE X a (tW T X.K E p))
    (he : starEach [a, .Name "tuple" tp] X.env = (false, eval a X.env) :: starEach [.Name "tuple" tp] X.env) (he2 : starEach [.Name "tuple" tp] X.env = (false, eval (.Name "tuple" tp) X.env) :: starEach [] X.env) (hpl : (backTo pos (starEach [.Name "tuple" tp] X.env)).any (·.1) = false) : PE X (.Call (.Name "isinstance" pp) [a, .Name "tuple" tp] [] pos) (tW T X.K E (mIsi .tuple p)) :=
  w_isT (t := .tuple) hlv hg hm htg htm PyProof.Rows.boot_tuple (by decide) rfl ha he he2 hpl
end
end DL
set_option Elab.async false
set_option linter.all false
set_option maxRecDepth 100000
set_option maxHeartbeats 4000000
/-! Wm: ranges as values, keywords, tuple.index, sorted. -/
namespace DL
open PySem PySem.Spec L2
def kTup (ws : List W) (S : Sto) : Res := .ok (.tup ws) S
def kLst (ws : List W) (S : Sto) : Res := .ok (.lst ws) S
section
variable {X : Cx} {T : Tab} {E : WX} {pos pp pp2 pos2 : Pos} {a b c : Expr} {p q r : Me} {es : List Expr} {ps : Ml} {bp bq br : Mb} {x : Str}
/-! ### keywords -/
def mCallKP (ψ : List W → List W → Sto → Res) (n m : Nat) (ps pk : Ml) : Me := fun ρ S => (ps ρ S).bind fun ws S => (pk ρ S).bind fun us S => if ws.length = n ∧ us.length = m ∧ nlL (ws.map (derefF S)) = true ∧ nlL (us.map (derefF S)) = true then pureR (ψ (ws.map (derefF S)) (us.map (derefF S)) []) S else .bad
/-! ### tuple.index, flat values -/
def idxW (x : W) : List W → Option Nat
  | [] => none
  | y :: ys => if W.eqv y x then some 0 else (idxW x ys).map (· + 1)
end
end DL
set_option Elab.async false
set_option linter.all false
set_option maxRecDepth 100000
set_option maxHeartbeats 4000000
/-! Wn: sorted of ints. -/
namespace DL
open PySem PySem.Spec L2
/-! ### sorted(a tuple of ints) -/
/-! ### sorted, ints in a list or tuple -/
def insI (x : Int) : List Int → List Int
  | [] => [x]
  | y :: ys => if x ≤ y then x :: y :: ys else y :: insI x ys
def srtI : List Int → List Int
  | [] => []
  | x :: xs => insI x (srtI xs)
def mSorted (k : List W → Sto → Res) (a : Me) : Me := fun ρ S => (a ρ S).bind fun x S => match (items (deref S x)).bind allI with
  | some ns => k ((srtI ns).map W.int) S
  | none => .bad
end DL
set_option Elab.async false
set_option linter.all false
set_option maxRecDepth 100000
set_option maxHeartbeats 4000000
/-! Wo: defaults and keyword-only parameters. -/
namespace DL
open PySem PySem.Spec L2
end DL
set_option Elab.async false
set_option linter.all false
set_option maxRecDepth 100000
set_option maxHeartbeats 4000000
/-! Wp: a call that only looks at lists that may be changed later. -/
namespace DL
open PySem PySem.Spec L2
/-! ### no list, no instance in it -/
mutual
def W.nol : W → Bool
  | .non => true
  | .bl _ => true
  | .int _ => true
  | .str _ => true
  | .tup ws => nolL ws
  | _ => false
def nolL : List W → Bool
  | [] => true
  | w :: ws => W.nol w && nolL ws
end
def nolF : List (Nat × W) → Bool
  | [] => true
  | (_, w) :: ws => W.nol w && nolF ws
def Xn.nol : Xn → Bool
  | .own _ fs => nolF fs
def pureV (r : Res) (S : Sto) : Res := match r with
  | .ok w _ => if w.nol then .ok w S else .bad
  | .exc x _ => if x.nol then .exc x S else .bad
  | .bad => .bad
section
variable {T : Tab} {K : PySem.W.Frag} {F F' : Hp} {al al' : List Addr} {H H' : Hp} {S S' : Sto} {E : WX} {σ : L2.St}
/-- the lists are let go again -/
def back (F F' : Hp) (al : List Addr) : Hp := fun b => if b ∈ al ∧ F b = none then none else F' b
structure Seen (T : Tab) (K : PySem.W.Frag) (F : Hp) (al : List Addr) (S : Sto) (H : Hp) (F' : Hp) (H' : Hp) : Prop where
  g : Good T K (back F F' al) al S H'
  p : Post F al H (back F F' al) al H'
  tup : ∀ a xs, F' a = some (.tup xs) → back F F' al a = some (.tup xs)
  frz : ∀ a o u, F' a = some (.frz o u) → back F F' al a = some (.frz o u)
  xd : ∀ a u, F' a = some (.xd u) → back F F' al a = some (.xd u)
theorem sqT_back (B : Seen T K F al S H F' H') {a : Addr} {xs : List V} (q : SqT K F' a xs) : SqT K (back F F' al) a xs := by
  rcases q with (q | ⟨o, q⟩) | q
  · exact .inl (.inl (B.tup _ _ q))
  · exact .inl (.inr ⟨o, B.frz _ _ _ q⟩)
  · exact .inr q
mutual
theorem Rw.back (B : Seen T K F al S H F' H') : ∀ {v : V} {w : W}, Rw T K F' al' v w → W.nol w = true → Rw T K (DL.back F F' al) al v w
  | _, _, .non, _ => .non
  | _, _, .bl b, _ => .bl b
  | _, _, .int i, _ => .int i
  | _, _, .str i, _ => .str i
  | _, _, .tup q r, h => .tup (sqT_back B q) (RwL.back B r h)
  | _, _, .lst _ _, h => by cases h
  | _, _, .ins _ _ _, h => by cases h
  | _, _, .loc _, h => by cases h
  | _, _, .tpx _ _ _, h => by cases h
  | _, _, .opq _, h => by cases h
  | _, _, .opx _ _ _, h => by cases h
  | _, _, .lam _ _, h => by cases h
  | _, _, .fn _, h => by cases h
theorem RwL.back (B : Seen T K F al S H F' H') : ∀ {v : List V} {w : List W}, RwL T K F' al' v w → nolL w = true → RwL T K (DL.back F F' al) al v w
  | _, _, .nil, _ => .nil
  | _, _, .cons a b, h => by
    rw [nolL, Bool.and_eq_true] at h
    exact .cons (Rw.back B a h.1) (RwL.back B b h.2)
end
theorem RwF.back (B : Seen T K F al S H F' H') : ∀ {v : List (Str × V)} {w : List (Nat × W)}, RwF T K F' al' v w → nolF w = true → RwF T K (DL.back F F' al) al v w
  | _, _, .nil, _ => .nil
  | _, _, .cons l a b, h => by
    rw [nolF, Bool.and_eq_true] at h
    exact .cons l (Rw.back B a h.1) (RwF.back B b h.2)
end
/-- lists are handed in as they stand, none comes out -/
def mCallV (ψ : Fn) (ms : Ml) : Me := fun ρ S => (ms ρ S).bind fun ws S => if nlL (ws.map (deref S)) then pureV (ψ (ws.map (deref S)) []) S else .bad
end DL
set_option Elab.async false
set_option linter.all false
set_option maxRecDepth 100000
set_option maxHeartbeats 4000000
/-! Wq: tuples whose object is known: index. -/
namespace DL
open PySem PySem.Spec L2
end DL
set_option Elab.async false
set_option linter.all false
set_option maxRecDepth 100000
set_option maxHeartbeats 4000000
/-! Wr: tools for the plain laws. -/
namespace DL
open PySem PySem.Spec L2
/-- a comprehension whose turns all keep their value and leave the store alone -/
theorem compM_map {step : W → Sto → LRes} {f : W → W} {S : Sto} : ∀ {xs acc : List W}, (∀ x ∈ xs, step x S = .ok [f x] S) → compM step xs acc S = .ok (acc ++ xs.map f) S
  | [], acc, _ => by rw [List.map_nil, List.append_nil]; rfl
  | x :: xs, acc, h => by
    show (step x S).bindL _ = _
    rw [h x (List.mem_cons_self ..)]
    show compM step xs (acc ++ [f x]) S = _
    rw [compM_map fun y hy => h y (List.mem_cons_of_mem _ hy), List.map_cons, List.append_assoc]; rfl
theorem allB_bls : ∀ bs : List Bool, allB (bs.map W.bl) = some bs
  | [] => rfl
  | b :: bs => by rw [List.map_cons, allB, allB_bls bs]; rfl
theorem nl_ints : ∀ ns : List Int, nlL (ns.map W.int) = true
  | [] => rfl
  | n :: ns => by rw [List.map_cons, nlL, nl_ints ns]; rfl
end DL
set_option Elab.async false
set_option linter.all false
set_option maxRecDepth 100000
set_option maxHeartbeats 4000000
/-! Ws: dicts whose keys are tuples of plain data, nested as they may be. -/
namespace DL
open PySem PySem.Spec L2 PyProof.Rows
def lookD (k : W) : List (W × W) → Option W
  | [] => none
  | p :: r => if W.eqv p.1 k then some p.2 else lookD k r
def putD (k v : W) (kvs : List (W × W)) : List (W × W) := if (lookD k kvs).isSome then kvs.map (fun p => if W.eqv p.1 k then (p.1, v) else p) else kvs ++ [(k, v)]
/-! ### the rules -/
end DL
set_option Elab.async false
set_option linter.all false
set_option maxRecDepth 100000
set_option maxHeartbeats 4000000
/-! Wt: dicts in expressions and statements; while. -/
namespace DL
open PySem PySem.Spec L2 PyProof.Rows
def dicOf (S : Sto) : W → Option (List (W × W))
  | .loc n => match S[n]? with
    | some (.dic kvs) => some kvs
    | _ => none
  | _ => none
def mDNew : Me := fun _ S => newCellR (.dic []) S
def dinR (neg : Bool) (x y : W) (S : Sto) : Option Bool := match dicOf S y with
  | some kvs => if isKey x then some (if neg then !(lookD x kvs).isSome else (lookD x kvs).isSome) else none
  | none => none
def mDIn (neg : Bool) (a b : Me) : Me := fun ρ S => (a ρ S).bind fun x S => (b ρ S).bind fun y S => optR S ((dinR neg x y S).map .bl)
def bDIn (neg : Bool) (a b : Me) : Mb := fun ρ S => (a ρ S).bindB fun x S => (b ρ S).bindB fun y S => optB S (dinR neg x y S)
def dgetR (x k : W) (S : Sto) : Option W := match dicOf S x with
  | some kvs => if isKey k then lookD k kvs else none
  | none => none
def mDGet (a b : Me) : Me := fun ρ S => (a ρ S).bind fun x S => (b ρ S).bind fun y S => optR S (dgetR x y S)
def dputR (x k v : W) (S : Sto) : Option Sto := match x with
  | .loc n => match S[n]? with
    | some (.dic kvs) => if isKey k ∧ kvs.length < limit then some (S.set n (.dic (putD k v kvs))) else none
    | _ => none
  | _ => none
def sDPut (a b m : Me) : Ms := fun ρ S => (m ρ S).toS ρ fun v S => (a ρ S).toS ρ fun x S => (b ρ S).toS ρ fun i S => match dputR x i v S with
  | some S => .nx ρ S
  | none => .bad
end DL
set_option Elab.async false
set_option linter.all false
set_option maxRecDepth 100000
set_option maxHeartbeats 4000000
/-! Wu: instances whose lists are frozen behind __init__; methods of instances that are data. -/
namespace DL
open PySem PySem.Spec L2 PyProof.Rows
/-- a thing as data for ever -/
def frzW (S : Sto) : W → Option W
  | .loc n => match S[n]? with
    | some (.lst ws) => if nlL ws then some (.lst ws) else none
    | some (.frz w) => if w.nl then some w else none
    | _ => none
  | w => if w.nl then some w else none
def frzFs (S : Sto) : List (Nat × W) → Option (List (Nat × W))
  | [] => some []
  | (i, w) :: fs => match frzW S w with
    | some u => (frzFs S fs).map fun us => (i, u) :: us
    | none => none
/-- C(..): __init__ at a new instance; all it holds is frozen behind it -/
def makeZR (c : Nat) (ψ : Fn) (ws : List W) (S : Sto) : Res := match ψ (.loc 0 :: ws) [.obj c []] with
  | .ok .non S' => match (S' : List Cell)[0]? with
    | some (Cell.obj d fs) => match frzFs S' fs with
      | some us => if d = c then .ok (.ins c us) S else .bad
      | none => .bad
    | _ => .bad
  | .ok _ _ => .bad
  | .exc x _ => if x.nl then .exc x S else .bad
  | .bad => .bad
def mMakeZ (c : Nat) (ψ : Fn) (ms : Ml) : Me := fun ρ S => (ms ρ S).bind fun ws S => if nlL (ws.map (derefF S)) then makeZR c ψ (ws.map (derefF S)) S else .bad
section
variable {X : Cx} {T : Tab} {E : WX} {pos : Pos} {a b c : Expr} {p q r : Me} {es : List Expr} {ps : Ml} {bp bq br : Mb}
def isIns (c : Nat) : W → Bool
  | .ins d _ => d == c
  | _ => false
/-- o.m(..), o data, the method looks alone -/
def mMeth (c : Nat) (ψ : Fn) (a : Me) (ms : Ml) : Me := fun ρ S => (a ρ S).bind fun x S => if isIns c x && x.nl then (ms ρ S).bind fun ws S => if nlL (ws.map (derefF S)) then pureR (ψ (x :: ws.map (derefF S)) []) S else .bad else .bad
end
end DL
set_option Elab.async false
set_option linter.all false
set_option maxRecDepth 100000
set_option maxHeartbeats 4000000
/-! Wv: max with a default, insert, isinstance of list or tuple, defs that call themselves. -/
namespace DL
open PySem PySem.Spec L2
/-! ### max(xs, default=d) of a list of ints -/
def maxI : Int → List Int → Int
  | a, [] => a
  | a, y :: ys => maxI (if a < y then y else a) ys
def maxDR (x : W) (zs : List W) (S : Sto) : Res := match zs with
  | [y] => match (match deref S x with | .lst ws => allI ws | _ => none) with
    | some [] => .ok y S
    | some (n :: ns) => .ok (.int (maxI n ns)) S
    | none => .bad
  | _ => .bad
def mMaxD (a : Me) (pk : Ml) : Me := fun ρ S => (a ρ S).bind fun x S => (pk ρ S).bind fun zs S => maxDR x zs S
section
variable {X : Cx} {T : Tab} {E : WX} {pos pp kpos apos tpos : Pos} {a b d c : Expr} {p q r : Me} {x : Str} {kws : List Keyword} {pk : Ml}
/-! ### xs.insert(i, y) -/
def insR (x i y : W) (S : Sto) : Res := match x, i with
  | .loc n, .int i => match S[n]? with
    | some (.lst ws) => if ws.length < limit ∧ 0 ≤ i ∧ i < 4611686018427387904 then .ok .non (S.set n (.lst (ws.take i.toNat ++ [y] ++ ws.drop i.toNat))) else .bad
    | _ => .bad
  | _, _ => .bad
def mIns (a i b : Me) : Me := fun ρ S => (a ρ S).bind fun x S => if isCell S x then (i ρ S).bind fun i S => (b ρ S).bind fun y S => insR x i y S else .bad
/-! ### isinstance(x, (list, tuple)) -/
def isLT : W → Option Bool
  | .non => some false
  | .bl _ => some false
  | .int _ => some false
  | .str _ => some false
  | .tup _ => some true
  | .lst _ => some true
  | _ => none
def mIsLT (a : Me) : Me := fun ρ S => (a ρ S).bind fun x S => optR S ((isLT (deref S x)).map .bl)
end
/-! ### a def that calls itself -/
end DL
set_option Elab.async false
set_option linter.all false
set_option maxRecDepth 100000
set_option maxHeartbeats 4000000
/-! Ww: comprehensions with two fors. -/
namespace DL
open PySem PySem.Spec L2
def lc2Step (ρ : Env) (vs : List Nat) (tg : Tg) (c : Mb) (vs1 : List Nat) (tg1 : Tg) (it1 : Ml) (c1 : Mb) (el : Me) (u : W) (S : Sto) : LRes :=
  match bindTg tg u (wipeW ρ vs) with
  | none => .bad
  | some ρ' => match c ρ' S with
    | .ok false S1 => .ok [] S1
    | .ok true S1 => match it1 ρ' S1 with
      | .ok xs S2 => compM (lcStep ρ' vs1 tg1 c1 el) xs [] S2
      | _ => .bad
    | _ => .bad
def mLc2 (mt : Bool) (vs : List Nat) (tg : Tg) (it : Ml) (c : Mb) (vs1 : List Nat) (tg1 : Tg) (it1 : Ml) (c1 : Mb) (el : Me) : Me := fun ρ S => (it ρ S).bind fun xs S =>
  match compM (lc2Step ρ vs tg c vs1 tg1 it1 c1 el) xs [] S with
  | .ok ys S => if ys.length ≤ limit then (if mt then newCellR (.lst ys) S else .ok (.lst ys) S) else .bad
  | _ => .bad
end DL
set_option Elab.async false
set_option linter.all false
set_option maxRecDepth 100000
set_option maxHeartbeats 4000000
/-! Wx: sorted, pairs of ints in a list. -/
namespace DL
open PySem PySem.Spec L2
abbrev P2 := Int × Int
/-- the V xs hold the pairs ps -/
inductive Prs (K : PySem.W.Frag) (H : Hp) : List V → List P2 → Prop where
  | nil : Prs K H [] []
  | cons {t : Addr} {p : P2} {xs : List V} {ps : List P2} : SqT K H t [.int p.1, .int p.2] → Prs K H xs ps → Prs K H (.ref t :: xs) (p :: ps)
theorem Prs.at {K : PySem.W.Frag} {H : Hp} {xs : List V} {ps : List P2} (h : Prs K H xs ps) : ∀ x ∈ xs, ∃ (t : Addr) (p : P2), x = .ref t ∧ SqT K H t [.int p.1, .int p.2] := by
  induction h with
  | nil => intro x hx; cases hx
  | cons q _ ih =>
    intro x hx
    rcases List.mem_cons.mp hx with rfl | hx
    · exact ⟨_, _, rfl, q⟩
    · exact ih x hx
def allP : List W → Option (List P2)
  | [] => some []
  | .tup [.int a, .int b] :: ws => (allP ws).map ((a, b) :: ·)
  | _ => none
end DL
set_option Elab.async false
set_option linter.all false
set_option maxRecDepth 100000
set_option maxHeartbeats 4000000
/-! Xa: sorted, items of any plain data. -/
namespace DL
open PySem PySem.Spec L2
def nonE : W → Bool
  | .tup (_ :: _) => true
  | _ => false
def noT : W → Bool
  | .int _ => true
  | .bl _ => true
  | .str _ => true
  | .lst _ => true
  | _ => false
def srtOk (ws : List W) : Bool := W.plainL 60 ws && (ws.all fun a => ws.all fun b => PySem.W.alike (toP a) (toP b)) && (ws.all nonE || ws.all noT)
def leW (a b : W) : Bool := PySem.W.dataLe false toP a b
def srtW (ws : List W) : List W := ws.mergeSort leW
theorem plainL_mem : ∀ {n : Nat} {ws : List W} {w : W}, W.plainL n ws = true → w ∈ ws → W.plain n w = true
  | n, a :: as, w, h, hm => by
    rw [W.plainL, Bool.and_eq_true] at h
    rcases List.mem_cons.mp hm with rfl | hm
    · exact h.1
    · exact plainL_mem h.2 hm
def dataOf (S : Sto) (x : W) : Option (List W) := match deref S x with
  | .lst ws => if srtOk ws then some ws else none
  | _ => none
def mSortedD (k : List W → Sto → Res) (a : Me) : Me := fun ρ S => (a ρ S).bind fun x S => match dataOf S x with
  | some ws => k (srtW ws) S
  | none => .bad
end DL
set_option Elab.async false
set_option linter.all false
set_option maxRecDepth 100000
set_option maxHeartbeats 4000000
/-! Xb: index, in a list of any plain data. -/
namespace DL
open PySem PySem.Spec L2
def isLstW : W → Bool
  | .lst _ => true
  | _ => false
def idxRD (x y : W) (S : Sto) : Res := match x with
  | .lst ws => if W.plainL 60 ws && W.plain 60 y then (match idxW y ws with | some j => .ok (.int (j : Nat)) S | none => .bad) else .bad
  | _ => .bad
def mIndexD (a b : Me) : Me := fun ρ S => (a ρ S).bind fun x S => if isLstW x then (b ρ S).bind fun y S => idxRD x (deref S y) S else .bad
end DL
set_option Elab.async false
set_option linter.all false
set_option maxRecDepth 100000
set_option maxHeartbeats 4000000
/-! Xc: a list times a number; zip of two of any kind. -/
namespace DL
open PySem PySem.Spec L2
end DL
set_option Elab.async false
set_option linter.all false
set_option maxRecDepth 100000
set_option maxHeartbeats 4000000
/-! Xd: count, in a list of any plain data. -/
namespace DL
open PySem PySem.Spec L2
end DL
set_option Elab.async false
set_option linter.all false
set_option maxRecDepth 100000
set_option maxHeartbeats 4000000
/-! Xe: zip of two sequences of any kind, until one ends. -/
namespace DL
open PySem PySem.Spec L2
section
variable {T : Tab} {X : Cx} {E : WX} {a b : Expr} {p q : Me} {pos : Pos}
def jZipN (a b : Me) : Ml := fun ρ S => (a ρ S).bindL fun x S => (b ρ S).bindL fun y S => match items x, items y with
  | some xs, some ys => .ok (zipW xs ys) S
  | _, _ => .bad
end
end DL
set_option Elab.async false
set_option linter.all false
set_option maxRecDepth 100000
set_option maxHeartbeats 4000000
/-! Xf: a written dict of two texts, asked at once; xs[::-1]. -/
namespace DL
open PySem PySem.Spec L2
section
variable {X : Cx} {T : Tab} {E : WX} {pos : Pos} {a b : Expr} {p q : Me}
def mRev (a : Me) : Me := fun ρ S => (a ρ S).bind fun x S => match deref S x with
  | .lst ws => .ok (.lst ws.reverse) S
  | _ => .bad
end
/-- the head's facts by written addresses -/
def obsL (as : List Addr) (fa : List He.Fa) (fn : List He.DefD) (ex : PySem.W.Frag → Bool) (g : Addr → Option Obj) : He.AlD × Bool := (He.obsD fa fn (He.frG g as), ex (He.frG g as))
def hookL (as : List Addr) (fa : List He.Fa) (fn : List He.DefD) (ex : PySem.W.Frag → Bool) : PySem.W.Hook where
  α := He.AlD × Bool
  obs := fun s => obsL as fa fn ex s.heap.get?
  val := fun _ => (He.valD fn, true)
  says := fun _ h => ∃ K : PySem.W.Frag, K.In h ∧ He.SaysD fa fn K ∧ ex K = true
  of := fun _ _ e => ⟨_, He.frG_in, congrArg (fun z : He.AlD × Bool => z.1) e, congrArg (fun z : He.AlD × Bool => z.2) e⟩
  keeps := fun _ _ _ ⟨K, hK, c⟩ k => ⟨K, PySem.W.Frag.In.keeps hK k, c⟩
theorem obsL_eq {as : List Addr} {fa : List He.Fa} {fn : List He.DefD} {ex : PySem.W.Frag → Bool} {g : Addr → Option Obj} {s : Shared} (h : ∀ a, g a = s.heap.get? a) : obsL as fa fn ex g = (hookL as fa fn ex).obs s := by
  have e : g = s.heap.get? := funext h
  rw [e] <;> rfl
end DL
set_option Elab.async false
set_option linter.all false
set_option maxRecDepth 100000
set_option maxHeartbeats 4000000
/-! Xg: t[::-1] of a tuple. -/
namespace DL
open PySem PySem.Spec L2 PyProof.Rows
section
variable {T : Tab} {X : Cx} {E : WX} {a : Expr} {p : Me} {pos : Pos}
def mRevT (a : Me) : Me := fun ρ S => (a ρ S).bind fun x S => match deref S x with
  | .tup ws => .ok (.tup ws.reverse) S
  | _ => .bad
end
end DL
set_option Elab.async false
set_option linter.all false
set_option maxRecDepth 100000
set_option maxHeartbeats 4000000
/-! Xh: tuple(xs) of a list, tracked as the very object. -/
namespace DL
open PySem PySem.Spec L2 PyProof.Rows
end DL
set_option Elab.async false
set_option linter.all false
set_option maxRecDepth 100000
set_option maxHeartbeats 4000000
/-! Xi: set(xs) of a list of ints, sorted at once. -/
namespace L2
open PySem PySem.Spec PyProof.Rows
end L2
set_option Elab.async false
set_option linter.all false
set_option maxRecDepth 100000
set_option maxHeartbeats 4000000
/-! Xj: sorted(set(xs)) of a list that rises. -/
namespace DL
open PySem PySem.Spec L2 PyProof.Rows
end DL
set_option Elab.async false
set_option linter.all false
set_option maxRecDepth 100000
set_option maxHeartbeats 4000000
/-! Xk: repr(x) of data, where no repr is under way. -/
namespace DL
open PySem PySem.Spec L2
open PyProof.Rows hiding St
/-! how long the shown text of small things is -/
def bigW : Nat := 2097152
mutual
def wtW : W → Nat
  | .non => 0
  | .bl _ => 0
  | .int i => if 0 ≤ i ∧ i < 64 then 6 else bigW
  | .tup ws => wtL ws
  | .lst ws => wtL ws
  | .str _ => bigW
  | .ins _ _ => bigW
  | .loc _ => bigW
  | .tpx _ => bigW
  | .opq _ _ => bigW
  | .lam => bigW
  | .fn _ => bigW
def wtL : List W → Nat
  | [] => 0
  | w :: ws => wtW w + 1 + wtL ws
end
theorem strOk_iff {x : Str} : PyData.strOk x = true ↔ ∀ k ∈ x.cps.toList, k < 1114112 := by
  unfold PyData.strOk
  rw [Array.all_eq_true_iff_forall_mem]
  exact ⟨fun h k hk => of_decide_eq_true (h k (Array.mem_toList_iff.mp hk)), fun h k hk => decide_eq_true (h k (Array.mem_toList_iff.mpr hk))⟩
theorem strOk_app {x y : Str} (h1 : PyData.strOk x = true) (h2 : PyData.strOk y = true) : PyData.strOk (x ++ y) = true := by
  rw [strOk_iff] at *
  intro k hk
  rw [mem_cps_append] at hk
  exact hk.elim (h1 k) (h2 k)
section
variable {X : Cx} {T : Tab} {E : WX} {pos pp : Pos} {a : Expr} {p : Me}
def isSq : W → Bool
  | .tup _ => true
  | .lst _ => true
  | _ => false
def okR (x : W) : Bool := W.plain 60 x && isSq x && decide (wtW x ≤ 1048576)
def reprR (x : W) (S : Sto) : Res := if okR x then .ok (.str (toP x).shown) S else .bad
def mRepr (a : Me) : Me := fun ρ S => (a ρ S).bind fun x S => reprR (deref S x) S
end
/-- a def's promise, where no repr is under way -/
structure FnAt (P : Program) (w : World) (K : PySem.W.Frag) (mg : Str → Option Value) (base : Heap) (CX : CXT) (k : Nat) (f : Addr) (fd : FuncData) (ps : List Str) (sp : Sp) : Prop where
  len : ∀ vs H Q E, sp vs H Q E → vs.length = ps.length
  run : ∀ (A : Around) (outer : List PySem.Env) (s : Shared) (H : Hp) (args : Args) (us : List Value) (vs : List V) (Q : VK) (E : XK), A.guards = some [] → Room k A → Env0 P w K mg base A outer s H → BindsTo s fd args (ps.zip us) → Vals vs us → sp vs H Q E →
    codeAny (model P w) A (.call (.ref f) args) (CR CX outer P w H s Q E) s
theorem FnAt.imp {P : Program} {w : World} {K : PySem.W.Frag} {mg : Str → Option Value} {base : Heap} {CX : CXT} {k : Nat} {f : Addr} {fd : FuncData} {ps : List Str} {sp sp' : Sp} (F : FnAt P w K mg base CX k f fd ps sp)
    (h : ∀ vs H Q E, sp' vs H Q E → sp vs H Q E) : FnAt P w K mg base CX k f fd ps sp' :=
  ⟨fun vs H Q E q => F.len vs H Q E (h _ _ _ _ q), fun A outer s H args us vs Q E g hr he hb hv hs => F.run A outer s H args us vs Q E g hr he hb hv (h _ _ _ _ hs)⟩
end DL
set_option Elab.async false
set_option linter.all false
set_option maxRecDepth 100000
set_option maxHeartbeats 4000000
/-! Xl: range(i, j, -1). -/
namespace DL
open PySem PySem.Spec L2
def downW (lo : Int) : Nat → List W
  | 0 => []
  | n + 1 => .int lo :: downW (lo - 1) n
def jRangeD (a b c : Me) : Ml := fun ρ S => (a ρ S).bindL fun x S => (b ρ S).bindL fun y S => (c ρ S).bindL fun z S => match x, y, z with
  | .int i, .int j, .int k => if ((-(2 ^ 62) ≤ i ∧ i < 2 ^ 62) ∧ -(2 ^ 62) ≤ j ∧ j < 2 ^ 62) ∧ k = -1 then .ok (downW i (i - j).toNat) S else .bad
  | _, _, _ => .bad
end DL
set_option Elab.async false
set_option linter.all false
set_option maxRecDepth 100000
set_option maxHeartbeats 4000000
/-! Xm: zip of three sequences, until one ends. -/
namespace DL
open PySem PySem.Spec L2
end DL
set_option Elab.async false
set_option linter.all false
set_option maxRecDepth 100000
set_option maxHeartbeats 4000000
/-! Xn: tuple(range(i, j)). -/
namespace DL
open PySem PySem.Spec L2
end DL
set_option Elab.async false
set_option linter.all false
set_option maxRecDepth 100000
set_option maxHeartbeats 4000000
/-! Xo: len(x) by an own __len__. -/
namespace DL
open PySem PySem.Spec L2
section
variable {X : Cx} {T : Tab} {b : Expr} {p : Me} {pos pp : Pos}
def lenC (y : W) (S : Sto) : Res := match y with
  | .int n => if 0 ≤ n ∧ n < 4611686018427387904 then .ok (.int n) S else .bad
  | _ => .bad
theorem RQ.len {K : PySem.W.Frag} {E : WX} {σ : L2.St} {F : Hp} {al : List Addr} {H : Hp} {Q : VK} {r : Res} (h : RQ T K E σ F al H (r.bind lenC) Q) : RQ T K E σ F al H r (fun v H2 => ∃ n : Int, v = .int n ∧ 0 ≤ n ∧ n < 2 ^ 63 ∧ Q (.int n) H2) := by
  cases r with
  | bad => exact h.elim
  | exc x S => exact h
  | ok y S =>
    replace h : RQ T K E σ F al H (lenC y S) Q := h
    unfold lenC at h
    split at h
    · split at h
      · rename_i n hn
        intro v F' al' H' po g rv
        cases rv
        exact ⟨n, rfl, hn.1, by omega, h (.int n) F' al' H' po g (.int n)⟩
      · exact h.elim
    · exact h.elim
end
end DL
set_option Elab.async false
set_option linter.all false
set_option maxRecDepth 100000
set_option maxHeartbeats 4000000
/-! Xp: a def called with no arguments. -/
namespace DL
open PySem PySem.Spec L2
end DL
set_option Elab.async false
set_option linter.all false
set_option maxRecDepth 100000
set_option maxHeartbeats 4000000
/-! Yf: sets of tuples (nested as they may be) in expressions and statements. -/
namespace DL
open PySem PySem.Spec L2 PyProof.Rows
open NS (NL SetN Keys NkIs)
def hasW (k : W) (ws : List W) : Bool := ws.any fun q => W.eqv q k
def addW (k : W) (ws : List W) : List W := if hasW k ws then ws else ws ++ [k]
def setOf (S : Sto) : W → Option (List W)
  | .loc n => match S[n]? with
    | some (.set ws) => some ws
    | _ => none
  | _ => none
def mSNew : Me := fun _ S => newCellR (.set []) S
def sinR (neg : Bool) (x y : W) (S : Sto) : Option Bool := match setOf S y with
  | some ws => if isKey x then some (if neg then !hasW x ws else hasW x ws) else none
  | none => none
def mSIn (neg : Bool) (a b : Me) : Me := fun ρ S => (a ρ S).bind fun x S => (b ρ S).bind fun y S => optR S ((sinR neg x y S).map .bl)
def bSIn (neg : Bool) (a b : Me) : Mb := fun ρ S => (a ρ S).bindB fun x S => (b ρ S).bindB fun y S => optB S (sinR neg x y S)
def saddR (x k : W) (S : Sto) : Res := match x with
  | .loc n => match S[n]? with
    | some (.set ws) => if isKey k ∧ ws.length < 8000 then .ok .non (S.set n (.set (addW k ws))) else .bad
    | _ => .bad
  | _ => .bad
def mSAdd (a b : Me) : Me := fun ρ S => (a ρ S).bind fun x S => if (setOf S x).isSome then (b ρ S).bind fun y S => saddR x y S else .bad
def strictW (ws : List W) : Prop := ws.Pairwise fun a b => leW b a = false
instance (ws : List W) : Decidable (strictW ws) := inferInstanceAs (Decidable (List.Pairwise _ ws))
def sortsOf (S : Sto) (x : W) : Option (List W) := match setOf S x with
  | some ws => if srtOk ws = true ∧ strictW (srtW ws) then some (srtW ws) else none
  | none => none
def mSortS (k : List W → Sto → Res) (a : Me) : Me := fun ρ S => (a ρ S).bind fun x S => match sortsOf S x with
  | some ws => k ws S
  | none => .bad
/-! ### one order -/
/-! ### the set's members -/
/-! ### in expressions -/
end DL
set_option Elab.async false
set_option linter.all false
set_option maxRecDepth 100000
set_option maxHeartbeats 4000000
/-! Yg: sorted of a dict whose keys are tuples. -/
namespace NS
open PySem PySem.Spec PyProof.Rows L2
end NS
namespace DL
open PySem PySem.Spec L2 PyProof.Rows
def keysOf (S : Sto) (x : W) : Option (List W) := match dicOf S x with
  | some kvs => if srtOk (kvs.map (·.1)) = true then some (srtW (kvs.map (·.1))) else none
  | none => none
def mSortK (k : List W → Sto → Res) (a : Me) : Me := fun ρ S => (a ρ S).bind fun x S => match keysOf S x with
  | some ws => k ws S
  | none => .bad
end DL
set_option Elab.async false
set_option linter.all false
set_option maxRecDepth 100000
set_option maxHeartbeats 4000000
/-! Yh: dicts and sets of nested tuples, made by a comprehension. -/
namespace DL
open PySem PySem.Spec L2 PyProof.Rows
/-! ### dicts -/
section
variable {X : Cx} {T : Tab} {E : WX} {pos : Pos}
def mDc (vs : List Nat) (tg : Tg) (it : Ml) (c : Mb) (ek ev : Me) : Me := fun ρ S => (it ρ S).bind fun xs S => dcM ρ vs tg c ek ev xs [] S
where
  /-- the entries one by one -/
  dcM (ρ : Env) (vs : List Nat) (tg : Tg) (c : Mb) (ek ev : Me) : List W → List (W × W) → Sto → Res
  | [], acc, S => newCellR (.dic acc) S
  | x :: xs, acc, S => match bindTg tg x (wipeW ρ vs) with
    | none => .bad
    | some ρ' => match c ρ' S with
      | .ok true S1 => match ek ρ' S1 with
        | .ok k S2 => match ev ρ' S2 with
          | .ok v S3 => if isKey k ∧ acc.length < limit then dcM ρ vs tg c ek ev xs (putD k v acc) S3 else .bad
          | _ => .bad
        | _ => .bad
      | .ok false S1 => dcM ρ vs tg c ek ev xs acc S1
      | _ => .bad
end
end DL
set_option Elab.async false
set_option linter.all false
set_option maxRecDepth 100000
set_option maxHeartbeats 4000000
/-! Yi: sets of nested tuples made by a comprehension. -/
namespace DL
open PySem PySem.Spec L2 PyProof.Rows
section
variable {X : Cx} {T : Tab} {E : WX} {pos : Pos}
def mSc (vs : List Nat) (tg : Tg) (it : Ml) (c : Mb) (el : Me) : Me := fun ρ S => (it ρ S).bind fun xs S => scM ρ vs tg c el xs [] S
where
  /-- the members one by one -/
  scM (ρ : Env) (vs : List Nat) (tg : Tg) (c : Mb) (el : Me) : List W → List W → Sto → Res
  | [], acc, S => newCellR (.set acc) S
  | x :: xs, acc, S => match bindTg tg x (wipeW ρ vs) with
    | none => .bad
    | some ρ' => match c ρ' S with
      | .ok true S1 => match el ρ' S1 with
        | .ok k S2 => if isKey k ∧ acc.length < 8000 then scM ρ vs tg c el xs (addW k acc) S2 else .bad
        | _ => .bad
      | .ok false S1 => scM ρ vs tg c el xs acc S1
      | _ => .bad
end
end DL
set_option Elab.async false
set_option linter.all false
set_option maxRecDepth 100000
set_option maxHeartbeats 4000000
/-! Yj: xs.pop(i), xs.reverse(). -/
namespace DL
open PySem PySem.Spec L2 PyProof.Rows
def popR (x i : W) (S : Sto) : Res := match x, i with
  | .loc n, .int i => match S[n]? with
    | some (.lst ws) => if 0 ≤ i ∧ i < ws.length ∧ i < 4611686018427387904 then (match ws[i.toNat]? with | some y => .ok y (S.set n (.lst (ws.eraseIdx i.toNat))) | none => .bad) else .bad
    | _ => .bad
  | _, _ => .bad
def mPop (a i : Me) : Me := fun ρ S => (a ρ S).bind fun x S => if isCell S x then (i ρ S).bind fun i S => popR x i S else .bad
def rvsR (x : W) (S : Sto) : Res := match x with
  | .loc n => match S[n]? with
    | some (.lst ws) => .ok .non (S.set n (.lst ws.reverse))
    | _ => .bad
  | _ => .bad
def mRvs (a : Me) : Me := fun ρ S => (a ρ S).bind fun x S => if isCell S x then rvsR x S else .bad
end DL
set_option Elab.async false
set_option linter.all false
set_option maxRecDepth 100000
set_option maxHeartbeats 4000000
/-! Yk: dict(pairs), keys nested tuples. -/
namespace DL
open PySem PySem.Spec L2 PyProof.Rows
def pairsW : List W → Option (List (W × W))
  | [] => some []
  | .tup [k, v] :: ws => if isKey k then (pairsW ws).map ((k, v) :: ·) else none
  | _ => none
def putAll (kvs : List (W × W)) (acc : List (W × W)) : List (W × W) := kvs.foldl (fun d p => putD p.1 p.2 d) acc
def dicPR (x : W) (S : Sto) : Res := match x with
  | .lst ws => match pairsW ws with
    | some kvs => newCellR (.dic (putAll kvs [])) S
    | none => .bad
  | _ => .bad
def mDicP (a : Me) : Me := fun ρ S => (a ρ S).bind dicPR
end DL
set_option Elab.async false
set_option linter.all false
set_option maxRecDepth 100000
set_option maxHeartbeats 4000000
/-! Yl: a try that nothing is raised in. -/
namespace DL
open PySem PySem.Spec L2 PyProof.Rows
def thruF : Fl → Fl
  | .exc _ _ _ => .bad
  | r => r
def sThru (m : Ms) : Ms := fun ρ S => thruF (m ρ S)
end DL
set_option Elab.async false
set_option linter.all false
set_option maxRecDepth 100000
set_option maxHeartbeats 4000000
/-! Ym: len of a dict of nested tuples. -/
namespace DL
open PySem PySem.Spec L2 PyProof.Rows
def lenDR (S : Sto) (x : W) : Option W := (dicOf S x).map fun kvs => .int kvs.length
def mLenD (a : Me) : Me := fun ρ S => (a ρ S).bind fun x S => optR S (lenDR S x)
end DL
set_option Elab.async false
set_option linter.all false
set_option maxRecDepth 100000
set_option maxHeartbeats 4000000
/-! Yn: tuple(d) of a dict of nested tuples. -/
namespace NS
open PySem PySem.Spec PyProof.Rows L2
section
variable {P : Program} {w : World} {A : Around} {E : Value → Shared → Prop} {s : Shared} {T : String} {r : Addr} {vs : List Value}
theorem tuple_new_of {Q : Value → Shared → Prop} (hT : s.TypeIs (.ref r) "dict") (hn : vs.length ≤ sizeLine)
    (hcol : ∀ {Q' : List Value → Shared → Prop} {E' : Value → Shared → Prop}, (∀ (h' : Heap) (tk : Nat), (∀ b o, s.heap.get? b = some o → h'.get? b = some o) → s.heap.objs.size ≤ h'.objs.size → Q' vs { s with heap := h', toks := tk }) → wpAny (model P w) A.in1 (collect (.ref r)) Q' E' s)
    (h : ∀ (h' : Heap) (tk : Nat), (∀ b o, s.heap.get? b = some o → h'.get? b = some o) → s.heap.objs.size ≤ h'.objs.size → Q (.ref h'.objs.size) { s with heap := h'.push { cls := .type "tuple", data := .seq vs.toArray }, toks := tk }) :
    codeAny (model P w) A (.call (.builtin "tuple.__new__") ⟨[.type "tuple", .ref r], []⟩) (wants Q E) s := by
  refine codeAny_of_tree ?_
  show wpAny _ A.in1 (do checkBuiltinCall "tuple.__new__" ⟨[.type "tuple", .ref r], []⟩; again (.builtin "tuple.__new__" ⟨[.type "tuple", .ref r], []⟩)) _ _ s
  refine wpAny_bind (wpAny_of_eq (F.newCall_tuple_1 _) (wpAny_pure ⟨plainId_quiet F.plain_tuple_new _, codeAny_builtin F.entry_tuple_new ?_⟩))
  rw [Around.under_plainId F.plain_tuple_new _]
  have q1 := sub_tuple_self
  have q2 := init_tuple_lookup
  have q3 := madeHere_tuple
  wp_walk using wpAny_typeOf hT, hcol
  intro h' tk hk hz
  show wpAny _ _ (Builtin.Tuple.tupleExact vs.toArray >>= fun v => ret v) _ _ _
  unfold Builtin.Tuple.tupleExact
  refine wpAny_bind (wpAny_newObj_type ?_ (by show vs.toArray.size ≤ sizeLine; simpa using hn))
  exact wpAny_pure (h h' tk hk hz)
theorem call_tuple_of {Q : Value → Shared → Prop} (hT : s.TypeIs (.ref r) "dict") (hn : vs.length ≤ sizeLine)
    (hcol : ∀ {Q' : List Value → Shared → Prop} {E' : Value → Shared → Prop}, (∀ (h' : Heap) (tk : Nat), (∀ b o, s.heap.get? b = some o → h'.get? b = some o) → s.heap.objs.size ≤ h'.objs.size → Q' vs { s with heap := h', toks := tk }) → wpAny (model P w) A.in1.in1 (collect (.ref r)) Q' E' s)
    (h : ∀ (h' : Heap) (tk : Nat), (∀ b o, s.heap.get? b = some o → h'.get? b = some o) → s.heap.objs.size ≤ h'.objs.size → Q (.ref h'.objs.size) { s with heap := h'.push { cls := .type "tuple", data := .seq vs.toArray }, toks := tk }) :
    wpAny (model P w) A (call (.type "tuple") [.ref r]) Q E s := by
  refine callType_codes (Q₁ := fun ob s1 => s1.TypeIs ob "tuple" ∧ Q ob s1) F.called_tuple (F.typeCall_tuple_1 _) F.entry_object_init
    (tuple_new_of (A := A.in1) hT hn hcol fun h' tk hk hz => ⟨⟨_, Heap.get?_push_size _ rfl, rfl⟩, h h' tk hk hz⟩) fun ob s1 h1 => ?_
  exact ⟨h1.1, F.args_object_init_2 ob _, object_init_meets F.called_tuple.init.lookup F.called_tuple.made (by decide) P w A.in1 _ s1 ⟨h1.1, rfl, h1.2⟩⟩
end
end NS
namespace DL
open PySem PySem.Spec L2 PyProof.Rows
def keyLR (S : Sto) (x : W) : Option W := (dicOf S x).map fun kvs => .tup (kvs.map (·.1))
def mTupD (a : Me) : Me := fun ρ S => (a ρ S).bind fun x S => optR S (keyLR S x)
end DL
set_option Elab.async false
set_option linter.all false
set_option maxRecDepth 100000
set_option maxHeartbeats 4000000
/-! Yo: name = {..} on one line, the name a local: dict and set comprehensions. -/
namespace DL
open PySem PySem.Spec L2 PyProof.Rows
end DL
set_option Elab.async false
set_option linter.all false
set_option maxRecDepth 100000
set_option maxHeartbeats 4000000
/-! Yp: [..] * n, a list that will be changed. -/
namespace DL
open PySem PySem.Spec L2 PyProof.Rows
end DL
set_option Elab.async false
set_option linter.all false
set_option maxRecDepth 100000
set_option maxHeartbeats 4000000
/-! Yq: set(xs) of a list of nested tuples; xs.extend(ys). -/
namespace NS
open PySem PySem.Spec PyProof.Rows L2
end NS
set_option Elab.async false
set_option linter.all false
set_option maxRecDepth 100000
set_option maxHeartbeats 4000000
/-! Yr: set(xs), xs.extend(ys) as values. -/
namespace DL
open PySem PySem.Spec L2 PyProof.Rows
def setLW (ws : List W) : List W := ws.foldl (fun acc k => addW k acc) []
def setLR (x : W) (S : Sto) : Res := match x with
  | .lst ws => if (ws.all isKey) = true ∧ (setLW ws).length < 8000 then newCellR (.set (setLW ws)) S else .bad
  | _ => .bad
def mSetL (a : Me) : Me := fun ρ S => (a ρ S).bind setLR
def extR (x y : W) (S : Sto) : Res := match x, y with
  | .loc n, .lst vs => match S[n]? with
    | some (.lst ws) => if ws.length + vs.length ≤ limit then .ok .non (S.set n (.lst (ws ++ vs))) else .bad
    | _ => .bad
  | _, _ => .bad
def mExt (a b : Me) : Me := fun ρ S => (a ρ S).bind fun x S => if isCell S x then (b ρ S).bind fun y S => extR x y S else .bad
end DL
set_option Elab.async false
set_option linter.all false
set_option maxRecDepth 100000
set_option maxHeartbeats 4000000
/-! Ys: the walk over the keys of a locked dict of nested tuples. -/
namespace DL
open PySem PySem.Spec L2 PyProof.Rows
end DL
set_option Elab.async false
set_option linter.all false
set_option maxRecDepth 100000
set_option maxHeartbeats 4000000
/-! Yt: a dict locked while its keys are walked over. -/
namespace DL
open PySem PySem.Spec L2 PyProof.Rows
/-! ### the walk -/
def jKeysL (p : Me) : Ml := fun ρ S => (p ρ S).bindL fun x S => match x with
  | .loc n => match S[n]? with
    | some (.dlk kvs) => .ok (kvs.map (·.1)) S
    | _ => .bad
  | _ => .bad
end DL
set_option Elab.async false
set_option linter.all false
set_option maxRecDepth 100000
set_option maxHeartbeats 4000000
/-! Yu: [.. for k in d], d a dict that is locked meanwhile; k in d under the lock. -/
namespace DL
open PySem PySem.Spec L2 PyProof.Rows
section
variable {X : Cx} {T : Tab} {E : WX} {pos : Pos} {a b : Expr} {p q : Me}
/-! ### k in d, under the lock -/
def dicL (S : Sto) : W → Option (List (W × W))
  | .loc n => match S[n]? with
    | some (.dlk kvs) => some kvs
    | _ => none
  | _ => none
def dinLR (x y : W) (S : Sto) : Option Bool := match dicL S y with
  | some kvs => if isKey x then some (lookD x kvs).isSome else none
  | none => none
def mDInL (a b : Me) : Me := fun ρ S => (a ρ S).bind fun x S => (b ρ S).bind fun y S => optR S ((dinLR x y S).map .bl)
end
end DL
set_option Elab.async false
set_option linter.all false
set_option maxRecDepth 100000
set_option maxHeartbeats 4000000
/-! Yv: t < u of two tuples of ints. -/
namespace DL
open PySem PySem.Spec L2 PyProof.Rows
end DL
namespace DL
open PySem PySem.Spec L2
end DL
namespace DL
open PySem PySem.Spec L2 PyProof.Rows
/-! ### sum(t), t a tuple of ints -/
end DL
set_option Elab.async false
set_option linter.all false
set_option maxRecDepth 100000
set_option maxHeartbeats 4000000
/-! Za: an except clause with a tuple of classes. -/
namespace PySem.W
open PySem PySem.Spec PySem.Calls PyProof.Rows
end PySem.W
set_option Elab.async false
set_option linter.all false
set_option maxRecDepth 100000
set_option maxHeartbeats 4000000
/-! Zb: try .. except C as e, C a class or a tuple of classes. -/
namespace DL
open PySem PySem.Spec PyProof.Rows L2
section
variable {B h h' : Heap} {l : List PySem.Env} {a : Addr} {Z : Obj → Prop}
/-- new objects do not trouble the flight -/
theorem fly_more (f : HandSPX.FlyingZ B l a Z h) (k : ∀ b o, h.get? b = some o → h'.get? b = some o) : HandSPX.FlyingZ B l a Z h' := by
  obtain ⟨p1, p2, p3, oe, vs, U, oU, us, q1, q2, q3, q4, q5, q6, q7, q8, q9⟩ := f
  exact ⟨fun b o e => k b o (p1 b o e), p2, Heap.FunFrames.of_keeps (fun b o e _ => ⟨o, k b o e, rfl⟩) p3, oe, vs, U, oU, us, k _ _ q1, q2, q3, q4, q5, q6, k _ _ q7, q8, q9⟩
end
/-- the classes that a clause names: asked of an exception of the class cls -/
def ClauseOk (X : Cx) (ex : Expr) (cs : List Value) : Prop := ∀ (a : Addr) (oe : Obj) (pn pins : List (Addr × Obj)) (σ : L2.St) (H : Hp) (s : Shared) (cls : Value) (b : Bool) (Q : Bool → Shared → Prop) (E : Value → Shared → Prop),
  Inv (X.suite a ((a, oe) :: pn)) pins σ H s → PySem.W.exmAny X.K cls cs = some b → oe.cls = cls → (∀ h', (∀ c o, s.heap.get? c = some o → h'.get? c = some o) → Q b { s with heap := h' }) →
  wpAny (model X.prog X.w) (X.A.mark (some (.ref a))) (eval ex X.env) (fun c s1 => wpAny (model X.prog X.w) (X.A.mark (some (.ref a))) (excMatches (.ref a) c) Q E s1) E s
theorem name_run {X : Cx} {x : Str} {c : Value} {np : Pos} (hc : Names X x c) {pins : List (Addr × Obj)} {σ : L2.St} {H : Hp} {s : Shared} {a : Addr} {oe : Obj} {pn : List (Addr × Obj)} (I : Inv (X.suite a ((a, oe) :: pn)) pins σ H s) {Q : Value → Shared → Prop} {E : Value → Shared → Prop} (q : Q c s) :
    wpAny (model X.prog X.w) (X.A.mark (some (.ref a))) (eval (.Name x np) X.env) Q E s := by
  obtain ⟨g1, g2, g3 | ⟨g3, g4, g5⟩⟩ := hc
  · exact ld_glob (X := X.suite a ((a, oe) :: pn)) I g1 g3 q g2
  · exact ld_blt (X := X.suite a ((a, oe) :: pn)) I g1 g3 g4 q g5 g2
theorem type_look {X : Cx} {pins : List (Addr × Obj)} {σ : L2.St} {H : Hp} {s : Shared} {a : Addr} {oe : Obj} {pn : List (Addr × Obj)} {cls : Value} (I : Inv (X.suite a ((a, oe) :: pn)) pins σ H s) (hz : oe.cls = cls) : PySem.W.Looks (model X.prog X.w) s.heap (typeOf (.ref a)) cls := by
  have P := (I.pin (a, oe) (List.mem_append_left _ (List.mem_cons_self ..))).1
  exact fun A Q E s k q => wpAny_typeOf_ref (k _ _ P) (by rw [hz]; exact q)
theorem clause_one {X : Cx} {x : Str} {c : Value} {np : Pos} (hc : Names X x c) : ClauseOk X (.Name x np) [c] := by
  intro a oe pn pins σ H s cls b Q E I e hz q
  have e1 : PySem.W.exmOne X.K cls c = some b := by
    obtain ⟨b1, d1, x1, y1, z1⟩ := PySem.W.exmAny_cons e
    cases y1
    rw [z1, Bool.or_false]; exact x1
  exact name_run hc I ((PySem.W.exm_one (M := model X.prog X.w) I.kIn (type_look I hz) e1).here (q s.heap fun _ _ h => h))
/-- what the clause wishes of an exception of the body -/
def wAsC (K : PySem.W.Frag) (cs : List Value) (i : Nat) (ts : Addr → Value → Option Addr → TS) (Wout : WX) (D : Ends) : WX := fun cls d σ H =>
  ∃ b, PySem.W.exmAny K cls cs = some b ∧ (b = true → ∀ a, H a = none → ts a cls d { nx := fun σ1 H1 => D.nx (σ1.set i none) H1, rt := D.rt, bk := fun σ1 H1 => D.bk (σ1.set i none) H1, ct := fun σ1 H1 => D.ct (σ1.set i none) H1 } (σ.set i (some (.ref a))) H) ∧ (b = false → Wout cls d σ H)
section
variable {X : Cx} {n : Str} {cs : List Value} {ex : Expr} {i : Nat} {body suite : List Stmt} {b₀ : Stmt} {pos pos' : Pos} {tb : WX → TS} {ts : Addr → Value → Option Addr → TS} {Wout : WX}
theorem ps_try_asC (hst : X.stack = X.env :: X.outer) (hfm : X.env.frame = some X.env.locals) (hN : X.N.Nodup) (hi : X.N[i]? = some n) (hln : X.env.kindOf n = some .local) (hc : ClauseOk X ex cs) (tk : Takes X Wout)
    (hb : ∀ (W : WX) (pn : List (Addr × Obj)) (xe : Value → Shared → Prop), Takes (X.tr pn xe) W → PassesOwn (model X.prog X.w) X.A X.env xe → PSs (X.tr pn xe) body (tb W))
    (hu : ∀ (a : Addr) (oe : Obj) (cls : Value) (d : Option Addr) (pn : List (Addr × Obj)), Zc cls d oe → (∃ vs, oe.data = .fields vs) → PSs (X.suite a ((a, oe) :: pn)) (b₀ :: suite) (ts a cls d)) :
    PS X (.Try body [.ExceptHandler (some ex) (some n) (b₀ :: suite) pos'] [] [] pos) (fun D σ H => tb (wAsC X.K cs i ts Wout D) D σ H) := by
  refine ⟨fun pins s σ H D I h0 => ?_⟩
  have okX := I.ok
  have frX : X.A.frames = some (X.env :: X.outer) := by rw [okX.frames, hst]
  have locN : Loc X.env.scope n := .inl hln
  refine wpAny_Try_except ?_
  refine wpAny_mono ((hb (wAsC X.K cs i ts Wout D) (X.pn ++ pins) (fun u s1 => wpAny (model X.prog X.w) X.A (noteFrame u X.env) (fun _ s2 => wpAny (model X.prog X.w) X.A (setFlight u none) (fun _ s3 =>
    wpAny (model X.prog X.w) X.A (handleBy u X.env [.ExceptHandler (some ex) (some n) (b₀ :: suite) pos']) (SP X pins D) X.xe s3) X.xe s2) X.xe s1) (fun u s1 air => ?_) PassesOwn.looking).run [] s σ H D (I.toTry _) h0) (fun fl s1 hsp => ?_) (fun u s1 hu => hu)
  · obtain ⟨a, G, sI, pins1, σ1, H1, cls, d, rfl, J1, gr, up, sk, na, eos, gbare, b, eb, hy, hn⟩ := air
    have J : Inv X pins σ1 H1 sI := J1.ofTry okX
    have sk1 : Sky G (X.env :: X.outer) a (Zc cls d) X.env.locals s1.heap := by rw [← hst]; exact sk
    show wpAny (model X.prog X.w) X.A (noteFrame (.ref a) X.env) _ _ _
    refine Sky.land Zc.steady frX hfm sk1 fun h3 fl3 up3 => ?_
    have J3 : Inv X pins σ1 H1 { s1 with heap := h3 } := J.landed gr fl3.1 (up.trans up3) eos gbare
    obtain ⟨oe3, vs3, ge3, gz3, gd3⟩ := fl3.there
    have offF : ∀ {g : Heap} {o : Obj} {vs : Array Value}, g.FunFrames G (X.env :: X.outer) → g.get? a = some o → o.data = .fields vs → a ∉ frs (X.env :: X.outer) := fun {g o vs} fF ge gd hm => by
      obtain ⟨_, o2, e2, hno⟩ := fF.mem hm
      rw [ge] at e2; cases e2
      exact hno _ gd
    have nfr := offF fl3.2.2.1 ge3 gd3
    have notL : a ≠ X.env.locals := fun z => nfr (List.mem_filterMap.mpr ⟨X.env, List.mem_cons_self, by rw [hfm, z]⟩)
    have notF : a ∉ X.fs := fun hm => by
      obtain ⟨en, hen, q⟩ := List.mem_filterMap.mp hm
      exact nfr (List.mem_filterMap.mpr ⟨en, List.mem_cons_of_mem _ hen, q⟩)
    have S3 := J3.suite ge3 gd3 na notL notF
    refine wpAny_handleBy_cons (codeAny_handlers_test ?_) (by intro q; cases q)
    refine hc a oe3 (X.pn ++ pins) [] σ1 H1 { s1 with heap := h3 } cls b _ _ S3 eb gz3.1 fun h5 k5 => ?_
    have k5 : ∀ c o, h3.get? c = some o → h5.get? c = some o := k5
    have fl5 := fly_more fl3 k5
    have up5 : sI.heap.UpToSlots h5 := (up.trans up3).trans (Heap.UpToSlots.of_keeps k5)
    cases b with
    | true =>
      refine codeAny_handlers_suite_as ?_
      refine HandSPX.lands_againZ (s := { s1 with heap := h5 }) fl5 fun h6 fl6 up6 => ?_
      have J6 : Inv X pins σ1 H1 { s1 with heap := h6 } := J.landed gr fl6.1 (up5.trans up6) eos gbare
      obtain ⟨oe6, vs6, ge6, gz6, gd6⟩ := fl6.there
      have S6 := J6.suite ge6 gd6 na notL notF
      refine store_ok (X := X.suite a ((a, oe6) :: (X.pn ++ pins))) (v := .ref a) S6 hN hi locN rfl (fun s7 S7 => ?_) (.inr hln)
      refine wpAny_mono ((hu a oe6 cls d (X.pn ++ pins) gz6 ⟨_, gd6⟩).run [] s7 _ H1 _ S7 (hy rfl a na)) (fun fl s8 hsp => ?_) (fun _ _ z => False.elim z)
      have fin : ∀ {σ8 : L2.St} {H8 : Hp} {Q : Shared → Prop}, Inv (X.suite a ((a, oe6) :: (X.pn ++ pins))) [] σ8 H8 s8 → (∀ s9, Inv X pins (σ8.set i none) H8 s9 → Q s9) →
          wpAny (model X.prog X.w) X.A (do bindName X.env n .none; unbindBehindTheSuite X.env n pos') (fun _ s9 => Q s9) X.xe s8 := fun {σ8 H8 Q} S8 hq => gone_ok (S8.unsuite okX) hN hi hln hq
      cases fl with
      | next => obtain ⟨σ8, H8, S8, q8⟩ := hsp; exact fin S8 fun s9 J9 => ⟨_, _, J9, q8⟩
      | brk => obtain ⟨σ8, H8, S8, q8⟩ := hsp; exact fin S8 fun s9 J9 => ⟨_, _, J9, q8⟩
      | cont => obtain ⟨σ8, H8, S8, q8⟩ := hsp; exact fin S8 fun s9 J9 => ⟨_, _, J9, q8⟩
      | ret u => obtain ⟨v8, σ8, H8, S8, r8, q8⟩ := hsp; exact fin S8 fun s9 J9 => ⟨_, _, _, J9, r8, q8⟩
    | false =>
      show wpAny _ X.A (handleBy (.ref a) X.env []) _ _ _
      refine wpAny_handleBy_nil ?_
      obtain ⟨p1, p2, p3, oe, vs, U, oU, us, g1, g2, g3, g4, g5⟩ := id fl5
      unfold PySem.passOn
      refine wpAny_bind (wpAny_field g1 g3 g4 ?_)
      rw [if_neg (show ¬ ((Value.ref U == Value.none) = true) from by simp)]
      have last : wpAny (model X.prog X.w) X.A (setFlight (.ref a) X.env.frame) (fun _ s7 => wpAny (model X.prog X.w) X.A (throw (.ref a) : Sem Flow) (SP X pins D) X.xe s7) X.xe { s1 with heap := h5 } := by
        rw [hfm]
        refine HandSPX.setFlight_upZ (s := { s1 with heap := h5 }) fl5 fun h7 hh7 up7 => wpAny_throw (tk _ _ ?_)
        exact ⟨a, G, sI, pins, σ1, H1, cls, d, rfl, J, gr, up5.trans up7, .inr (.inr (by rw [hst]; exact hh7)), na, eos, gbare, hn rfl⟩
      first
        | exact wpAny_bind (wpAny_pure (wpAny_bind last))
        | exact wpAny_bind last
  · cases fl with
    | next =>
      obtain ⟨σ1, H1, J1, q⟩ := hsp
      exact wpAny_execs_nil ⟨σ1, H1, J1.ofTry okX, q⟩
    | brk => obtain ⟨σ1, H1, J1, q⟩ := hsp; exact ⟨σ1, H1, J1.ofTry okX, q⟩
    | cont => obtain ⟨σ1, H1, J1, q⟩ := hsp; exact ⟨σ1, H1, J1.ofTry okX, q⟩
    | ret u => obtain ⟨v, σ1, H1, J1, r, q⟩ := hsp; exact ⟨v, σ1, H1, J1.ofTry okX, r, q⟩
end
end DL
set_option Elab.async false
set_option linter.all false
set_option maxRecDepth 100000
set_option maxHeartbeats 4000000
/-! Zc: raise, try .. except .. as e over data; isinstance of a caught exception. -/
namespace DL
open PySem PySem.Spec L2
/-! ### nothing opaque in it -/
mutual
def W.nop : W → Bool
  | .tup ws => nopL ws
  | .lst ws => nopL ws
  | .ins _ fs => nopF fs
  | .tpx ws => nopL ws
  | .opq _ _ => false
  | .lam => false
  | .fn _ => true
  | _ => true
def nopL : List W → Bool
  | [] => true
  | w :: ws => W.nop w && nopL ws
def nopF : List (Nat × W) → Bool
  | [] => true
  | (_, w) :: ws => W.nop w && nopF ws
end
/-- other opaque things, another lambda -/
def Tab.alt (T : Tab) (o : Nat → Addr → Option Addr → Prop) (l : Option (Addr × Hp)) : Tab := ⟨T.fld, T.cls, T.prg, T.wld, o, l, T.tbs, T.fns, T.lv⟩
section
variable {T : Tab} {K : PySem.W.Frag} {F : Hp} {al : List Addr} {o : Nat → Addr → Option Addr → Prop} {l : Option (Addr × Hp)}
mutual
theorem Rw.alt (ho : ∀ k a d, T.opq k a d → o k a d) (hl : ∀ x, T.lam = some x → l = some x) : ∀ {v : V} {w : W}, Rw T K F al v w → Rw (T.alt o l) K F al v w
  | _, _, .non => .non
  | _, _, .bl b => .bl b
  | _, _, .int i => .int i
  | _, _, .str x => .str x
  | _, _, .tup q r => .tup q (RwL.alt ho hl r)
  | _, _, .lst q r => .lst q (RwL.alt ho hl r)
  | _, _, .ins q l r => .ins q l (RwF.alt ho hl r)
  | _, _, .loc q => .loc q
  | _, _, .tpx q d r => .tpx q d (RwL.alt ho hl r)
  | _, _, .opq q => .opq (ho _ _ _ q)
  | _, _, .opx q e r => .opx (ho _ _ _ q) e (RwF.alt ho hl r)
  | _, _, .lam q e => .lam (hl _ q) e
  | _, _, .fn q => .fn q
theorem RwL.alt (ho : ∀ k a d, T.opq k a d → o k a d) (hl : ∀ x, T.lam = some x → l = some x) : ∀ {vs : List V} {ws : List W}, RwL T K F al vs ws → RwL (T.alt o l) K F al vs ws
  | _, _, .nil => .nil
  | _, _, .cons a b => .cons (Rw.alt ho hl a) (RwL.alt ho hl b)
theorem RwF.alt (ho : ∀ k a d, T.opq k a d → o k a d) (hl : ∀ x, T.lam = some x → l = some x) : ∀ {gs : List (Str × V)} {fs : List (Nat × W)}, RwF T K F al gs fs → RwF (T.alt o l) K F al gs fs
  | _, _, .nil => .nil
  | _, _, .cons lt a b => .cons lt (Rw.alt ho hl a) (RwF.alt ho hl b)
end
mutual
theorem Rw.unalt : ∀ {v : V} {w : W}, Rw (T.alt o l) K F al v w → w.nop = true → Rw T K F al v w
  | _, _, .non, _ => .non
  | _, _, .bl b, _ => .bl b
  | _, _, .int i, _ => .int i
  | _, _, .str x, _ => .str x
  | _, _, .tup q r, h => .tup q (RwL.unalt r h)
  | _, _, .lst q r, h => .lst q (RwL.unalt r h)
  | _, _, .ins q l r, h => .ins q l (RwF.unalt r h)
  | _, _, .loc q, _ => .loc q
  | _, _, .tpx q d r, h => .tpx q d (RwL.unalt r h)
  | _, _, .opq _, h => by cases h
  | _, _, .opx _ _ _, h => by cases h
  | _, _, .lam _ _, h => by cases h
  | _, _, .fn q, _ => .fn q
theorem RwL.unalt : ∀ {vs : List V} {ws : List W}, RwL (T.alt o l) K F al vs ws → nopL ws = true → RwL T K F al vs ws
  | _, _, .nil, _ => .nil
  | _, _, .cons a b, h => by
    rw [nopL, Bool.and_eq_true] at h
    exact .cons (Rw.unalt a h.1) (RwL.unalt b h.2)
theorem RwF.unalt : ∀ {gs : List (Str × V)} {fs : List (Nat × W)}, RwF (T.alt o l) K F al gs fs → nopF fs = true → RwF T K F al gs fs
  | _, _, .nil, _ => .nil
  | _, _, .cons lt a b, h => by
    rw [nopF, Bool.and_eq_true] at h
    exact .cons lt (Rw.unalt a h.1) (RwF.unalt b h.2)
end
/-- the data alone: whatever is opaque -/
theorem Good.bareA {T' : Tab} {al : List Addr} {S : Sto} {H : Hp} (g : Good T K F al S H) : Good T' K F [] [] H := ⟨g.sub, List.nodup_nil, rfl, (fun _ h => nomatch h), (fun n a c h => by simp at h)⟩
/-- back from the data alone -/
theorem Good.frameA {T' : Tab} {F' : Hp} {al al' : List Addr} {S S' : Sto} {H H' : Hp} (g : Good T K F al S H) (p : Post F [] H F' al' H') (g' : Good T' K F' al' S' H') : Good T K F' al S H' ∧ Post F al H F' al H' := by
  have kp : ∀ b u, H b = some u → H' b = some u := fun b u h => p.keep b u h (fun hm => nomatch hm)
  have dm : ∀ b, F' b ≠ none → F b ≠ none ∨ H b = none := fun b h => by
    rcases p.dom b h with h | h | h
    · exact .inl h
    · exact nomatch h
    · exact .inr h
  refine ⟨⟨g'.sub, g.nd, g.len, fun a ha => ?_, fun n a c ha hc => ?_⟩, ⟨p.ext, Pre.refl _, fun _ h => .inl h, fun b u h _ => kp b u h, fun b h => ?_⟩⟩
  · cases e : H a with
    | none => exact absurd e (g.tr a ha)
    | some u => rw [kp a u e]; simp
  · refine (g.cell n a c ha hc).mono p.ext (Pre.refl _) (fun u e => kp a u e) fun e => ?_
    cases q : F' a with
    | none => rfl
    | some u =>
      rcases dm a (by rw [q]; simp) with z | z
      · exact absurd e z
      · exact absurd z (g.tr a (List.mem_of_getElem? ha))
  · rcases dm b h with z | z
    · exact .inl z
    · exact .inr (.inr z)
/-- at an exception of the class c that stands at a, its dict at d -/
def Tab.at (T : Tab) (c : Nat) (a : Addr) (d : Option Addr) : Tab := T.alt (fun k b e => T.opq k b e ∨ (k = c ∧ b = a ∧ e = d)) T.lam
end
/-! ### raise -/
/-! ### try -/
/-- what is data in an environment, its lists as they stand -/
def hideD (S : Sto) (ρ : Env) : Env := ρ.map fun o => o.bind fun w => let u := derefF S w; if u.nl then some u else none
theorem hideD_envOk {T : Tab} {K : PySem.W.Frag} {F : Hp} {al al' : List Addr} {S : Sto} {H : Hp} {σ : L2.St} {ρ : Env} (g : Good T K F al S H) (e : EnvOk T K F al σ ρ) : EnvOk T K F al' σ (hideD S ρ) := by
  refine ⟨by unfold hideD; rw [List.length_map]; exact e.1, fun i w h => ?_⟩
  unfold hideD at h
  rw [List.getElem?_map] at h
  cases q : ρ[i]? with
  | none => rw [q] at h; cases h
  | some o =>
    rw [q] at h
    cases o with
    | none => cases h
    | some u =>
      replace h : some (if (derefF S u).nl then some (derefF S u) else none) = some (some w) := h
      split at h
      · rename_i hu
        cases h
        obtain ⟨v, h1, h2⟩ := e.2 i _ q
        exact ⟨v, h1, (h2.derefF g).nl hu⟩
      · cases h
theorem EnvOk.alt {T : Tab} {K : PySem.W.Frag} {F : Hp} {al : List Addr} {o : Nat → Addr → Option Addr → Prop} {l : Option (Addr × Hp)} {σ : L2.St} {ρ : Env} (ho : ∀ k a d, T.opq k a d → o k a d) (hl : ∀ x, T.lam = some x → l = some x) (e : EnvOk T K F al σ ρ) : EnvOk (T.alt o l) K F al σ ρ :=
  ⟨e.1, fun i w q => let ⟨v, a, b⟩ := e.2 i w q; ⟨v, a, b.alt ho hl⟩⟩
def tryR (r : Fl) (S : Sto) : Fl := match r with
  | .ret w _ => if w.nl && w.nop then .ret w S else .bad
  | _ => .bad
/-- the body; of its exceptions those of classes that hit tells of: the suite, on data alone, which must give a value back -/
def sTryC (hit : Nat → Option Bool) (i : Nat) (b u : Ms) : Ms := fun ρ S => match b ρ S with
  | .exc (.own c fs) ρ1 S1 => match hit c with
    | some true => if nlF fs then tryR (u (hideD S1 (ρ1.set i (some (.opq c fs)))) []) S1 else .bad
    | _ => .bad
  | r => r
section
variable {X : Cx} {T : Tab} {E : WX}
theorem s_tryC {n : Str} {cs : List Value} {ex : Expr} {i : Nat} {body suite : List Stmt} {b₀ : Stmt} {pos pos' : Pos} {hit : Nat → Option Bool} {b u : Ms} (hst : X.stack = X.env :: X.outer) (hfm : X.env.frame = some X.env.locals) (hN : X.N.Nodup) (hi : X.N[i]? = some n) (hln : X.env.kindOf n = some .local)
    (hc : ClauseOk X ex cs) (hx : ∀ c k, hit c = some k → PySem.W.exmAny X.K (.ref (T.c c)) cs = some k)
    (hb : ∀ (W : WX) (pn : List (Addr × Obj)) (xe : Value → Shared → Prop), Takes (X.tr pn xe) W → PSs (X.tr pn xe) body (tS T X.K W b))
    (hu : ∀ (c : Nat) (a : Addr) (oe : Obj) (pn : List (Addr × Obj)) (d : Option Addr), oe.cls = .ref (T.c c) → oe.dict = d → (∃ vs, oe.data = .fields vs) → PSs (X.suite a ((a, oe) :: pn)) (b₀ :: suite) (tS (T.at c a d) X.K EF u)) :
    PS X (.Try body [.ExceptHandler (some ex) (some n) (b₀ :: suite) pos'] [] [] pos) (tS T X.K E (sTryC hit i b u)) := by
  refine psM (ps_try_asC (Wout := EF) (tb := fun W => tS T X.K W b) (ts := fun a cls d D σ H => ∃ c, cls = .ref (T.c c) ∧ tS (T.at c a d) X.K EF u D σ H) hst hfm hN hi hln hc takes0 (fun W pn xe tk _ => hb W pn xe tk) fun a oe cls d pn hz hf => ?_) ?_
  · refine ⟨fun pins s σ H D I h => ?_⟩
    obtain ⟨c, rfl, h⟩ := h
    exact (hu c a oe pn d hz.1 hz.2 hf).run pins s σ H D I h
  · rintro D σ H ⟨F, al, S, ρ, g, e, h⟩
    refine ⟨F, al, S, ρ, g, e, ?_⟩
    unfold sTryC at h
    cases q : b ρ S with
    | nx ρ1 S1 => rw [q] at h; exact h
    | bk ρ1 S1 => rw [q] at h; exact h
    | ct ρ1 S1 => rw [q] at h; exact h
    | ret w S1 => rw [q] at h; exact h
    | bad => rw [q] at h; exact h
    | exc x ρ1 S1 =>
      rw [q] at h
      obtain ⟨c, fs⟩ := x
      simp only at h
      split at h
      case h_2 => exact h.elim
      rename_i hit1
      split at h
      case isFalse => exact h.elim
      rename_i hnf
      intro cls d σ1 F1 al1 H1 p1 g1 e1 rx
      obtain ⟨rfl, hd⟩ := rx
      refine ⟨true, hx c true hit1, fun _ a na => ⟨c, rfl, ?_⟩, fun z => by cases z⟩
      have rel : Rw (T.at c a d) X.K F1 [] (.ref a) (.opq c fs) := by
        rcases hd with ⟨rfl, rfl⟩ | ⟨_, dx, gs, rfl, e2, r2⟩
        · exact .opq (.inr ⟨rfl, rfl, rfl⟩)
        · exact .opx (.inr ⟨rfl, rfl, rfl⟩) e2 ((r2.nl hnf).alt (fun k b d z => .inl z) fun _ z => z)
      have eA : EnvOk (T.at c a d) X.K F1 [] (σ1.set i (some (.ref a))) (hideD S1 (ρ1.set i (some (.opq c fs)))) := by
        rw [show hideD S1 (ρ1.set i (some (W.opq c fs))) = (hideD S1 ρ1).set i (some (W.opq c fs)) by
          unfold hideD
          rw [List.map_set]
          show (List.map _ ρ1).set i (if nlF fs then some (W.opq c fs) else none) = _
          rw [if_pos hnf]]
        exact ((hideD_envOk (al' := []) g1 e1).alt (fun k b d z => .inl z) fun _ z => z).set rel i
      refine ⟨F1, [], [], _, g1.bareA, eA, ?_⟩
      cases q2 : u (hideD S1 (ρ1.set i (some (.opq c fs)))) [] with
      | ret w S2 =>
        rw [q2] at h
        replace h : FQ T X.K E D F al H (if w.nl && w.nop then .ret w S1 else .bad) := h
        split at h
        · rename_i hw
          rw [Bool.and_eq_true] at hw
          intro v F2 al2 H2 p2 g2 r2
          obtain ⟨g3, p3⟩ := g1.frameA p2 g2
          exact h v F2 al1 H2 (p1.trans p3) g3 ((r2.nl hw.1).unalt hw.2)
        · exact h.elim
      | _ => rw [q2] at h; exact h.elim
end
end DL
set_option Elab.async false
set_option linter.all false
set_option maxRecDepth 100000
set_option maxHeartbeats 4000000
/-! Zd: isinstance of a caught exception; defs that are called while one is handled. -/
namespace PySem.W
open PySem PySem.Spec PySem.Calls PyProof.Rows
section
variable {prog : Program} {w : World} {A : Around} {E : Value → Shared → Prop} {s : Shared} {K : Frag} {x D : Addr} {ox : Obj} {od : Option Obj}
theorem findObj_dataG {C : Addr} {name : Str} {a g : Value} (hc : (clsIn K C).isSome = true) (ha : findIn K (.ref C) name = some (some a)) (hg : specialIn K a "__get__" = some (some g)) (ht : takesIn K a = some true) : findObj K C od name = some (.bind g a) := by
  obtain ⟨cd, hc⟩ := Option.isSome_iff_exists.mp hc
  unfold findObj
  rw [hc, Option.bind_some, ha, Option.bind_some]
  simp [hg, ht]
theorem kin_classG {Q : Option Value → Shared → Prop} (hga : findIn K (.ref D) "__getattribute__" = some (some (.builtin "BaseException.__getattribute__"))) (hgt : findIn K (.ref D) "__getattr__" = some none) (hsub : subIn K (.ref D) (.type "BaseException") = some true)
    (hdct : hasDictIn K D = true) (ha : findIn K (.ref D) "__class__" = some (some (.builtin "object.__class__")))
    (hn : specialIn K (.builtin "object.__class__") "__get__" = some (some (.builtin "getset_descriptor.__get__"))) (htk : takesIn K (.builtin "object.__class__") = some true) (hm : mroIn K D (.type "object") = some true)
    (X : K.In s.heap) (I : InstAt s.heap x ox D od) (h : Q (some (.ref D)) { s with toks := s.toks + 1 }) : wpAny (model prog w) A (getAttr? (.ref x) "__class__") Q E s := by
  have hf : findObj K D od "__class__" = some (.bind (.builtin "getset_descriptor.__get__") (.builtin "object.__class__")) := findObj_dataG (by obtain ⟨cd, hc, _⟩ := any_some hdct; rw [hc]; rfl) ha hn htk
  obtain ⟨hp, g, d, t, os⟩ := s
  have L0 := I.type (M := model prog w)
  have L1 := looks_findIn (M := model prog w) X hga
  have L2 := looks_findIn (M := model prog w) X hgt
  have L3 := looks_find (M := model prog w) X I hf
  have sub : Looks (model prog w) hp (isInstance (.ref x) (.type "BaseException")) true := L0.andThen (looks_subIn X hsub)
  have hx0 : (false && onTheHeap (Value.builtin "BaseException.__getattribute__")) = false := rfl
  have hx2 : (Value.builtin "BaseException.__getattribute__" == Value.builtin "object.__getattribute__") = false := by decide +kernel
  have hx1 : (onTheHeap (Value.ref D) && Value.builtin "BaseException.__getattribute__" == Value.builtin "object.__getattribute__") = false := by rw [hx2]; rfl
  unfold getAttr? getAttrBy? getAttrBy
  refine wpAny_bind (wpAny_mkText (wpAny_bind (wpAny_attempt (wpAny_holding (wpAny_bind (L0.at (wpAny_bind (L1.at ?_))))))))
  show wpAny _ _ (if (onTheHeap (Value.ref D) && Value.builtin "BaseException.__getattribute__" == Value.builtin "object.__getattribute__") = true then _ else _) _ _ _
  rw [hx1, if_neg Bool.false_ne_true]
  unfold getAttrByItsOwn hookBefore
  refine wpAny_bind ?_
  rw [if_pos (show onTheHeap (Value.ref D) = true from rfl)]
  refine L2.at ?_
  refine wpAny_bind (wpAny_attempt (wpAny_holding ?_))
  unfold callGetattribute
  rw [hx0, if_neg Bool.false_ne_true]
  unfold boundAndCalled
  rw [PySem.F.excAttr_ValueError.ga.bind (.ref x)]
  refine wpAny_bind (wpAny_pure ?_)
  show wpAny _ _ (call (.builtin "BaseException.__getattribute__") [.ref x, .str "__class__" t]) _ _ _
  refine wpAny_call (codeAny_call_builtin PySem.F.excAttr_ValueError.ga.plain PySem.F.entry_bexc_ga ?_)
  refine @check_slot (model prog w) _ _ ⟨hp, g, d, t + 1, os⟩ "BaseException.__getattribute__" "BaseException" "__getattribute__" (.ref x) [.str "__class__" t] [] _ (by decide +kernel) (by decide +kernel) sub (PySem.F.args_bexc_ga (.ref x) (.str "__class__" t)) ?_
  unfold Builtin.«object.__getattribute__»
  refine wpAny_bind (wpAny_of_eq (a := ((Value.ref x : Value), [Value.str "__class__" t])) (by first | rfl | (simp only [slotArgs]; rfl)) ?_)
  refine wpAny_bind (wpAny_pure (wpAny_bind (L0.at (wpAny_bind (L3.at ?_)))))
  show wpAny _ _ (holding [Value.builtin "object.__class__"] (call (.builtin "getset_descriptor.__get__") [.builtin "object.__class__", .ref x, .ref D]) >>= ret) _ _ _
  refine wpAny_bind (wpAny_holding (wpAny_call (class_get (s := ⟨hp, g, d, t + 1, os⟩) (ox := ox) (od := od) X I hm ?_)))
  refine wpAny_pure ?_
  show wpAny _ _ (handedOut (.ref D)) _ _ _
  rw [handedOut_of (v := .ref D) rfl]
  first
    | exact wpAny_pure (wpAny_pure h)
    | exact wpAny_pure h
    | exact wpAny_pure (wpAny_bind (wpAny_pure (wpAny_pure h)))
theorem kitx_excG (hga : findIn K (.ref D) "__getattribute__" = some (some (.builtin "BaseException.__getattribute__"))) (hgt : findIn K (.ref D) "__getattr__" = some none) (hsub : subIn K (.ref D) (.type "BaseException") = some true) (hdct : hasDictIn K D = true) (ha : findIn K (.ref D) "__class__" = some (some (.builtin "object.__class__")))
    (hn : specialIn K (.builtin "object.__class__") "__get__" = some (some (.builtin "getset_descriptor.__get__"))) (htk : takesIn K (.builtin "object.__class__") = some true) (hm : mroIn K D (.type "object") = some true) :
    KitX K (.ref x) (.ref D) (fun h => InstAt h x ox D od) where
  ty := fun _ _ _ I => I.type
  it := fun _ _ X _ => by
    obtain ⟨cdD, hcD, _⟩ := any_some hdct
    unfold clsIn at hcD
    split at hcD
    · rename_i c' d' cd' sl' ho
      intro A' Q' E' s' k q
      unfold isType loadHead
      exact wpAny_bind (wpAny_loadPart (k _ _ (X _ _ ho)) (wpAny_pure q))
    · cases hcD
  ne := fun h tp dd its n sl X htp => by
    obtain ⟨cdD, hcD, _⟩ := any_some hdct
    refine Bool.eq_false_iff.mpr fun q => ?_
    have e : D = tp := Value.ref.inj (beq_iff_eq.mp q)
    subst e
    unfold clsIn at hcD
    split at hcD
    · rename_i c' d' cd' sl' ho
      have z := (X _ _ ho).symm.trans htp
      cases z
    · cases hcD
  ca := fun X I k => kin_classG hga hgt hsub hdct ha hn htk hm X I k
end
end PySem.W
namespace DL
open PySem PySem.Spec L2 PyProof.Rows
/-- the opaque things are exceptions that the context holds fast -/
def Holds (X : Cx) (T : Tab) : Prop := ∀ k a d, T.opq k a d → ∃ oe : Obj, (a, oe) ∈ X.pn ∧ oe.cls = .ref (T.c k) ∧ oe.dict = d ∧ ∃ vs, oe.data = .fields vs
/-- an exception's dict as it stands -/
def DctAt (d : Option Addr) (H : Hp) : Prop := d = none ∨ ∃ dx gs, d = some dx ∧ H dx = some (.xd gs)
def mIsX (hit : Nat → Option Bool) (p : Me) : Me := fun ρ S => (p ρ S).bind fun x S => match x with
  | .opq k _ => optR S ((hit k).map .bl)
  | _ => .bad
section
variable {X : Cx} {T : Tab} {E : WX}
theorem inst_of (hold : Holds X T) {pins : List (Addr × Obj)} {σ : L2.St} {H : Hp} {s : Shared} (I : Inv X pins σ H s) {k : Nat} {a : Addr} {d : Option Addr} (q : T.opq k a d) (hd : DctAt d H) : ∃ oe od, PySem.W.InstAt s.heap a oe (T.c k) od := by
  obtain ⟨oe, hm, h1, h2, vs, h3⟩ := hold k a d q
  have g := (I.pin (a, oe) (List.mem_append_left _ hm)).1
  rcases hd with rfl | ⟨dx, gs, rfl, hdx⟩
  · refine ⟨oe, none, ?_⟩
    obtain ⟨oc, od, oda, osl⟩ := oe
    dsimp only at h1 h2 h3
    subst h1 h2 h3
    exact ⟨g, rfl, rfl, trivial⟩
  · obtain ⟨mA, ⟨o, _, _, ho, _⟩, _⟩ := (show ObjOk X.prog X.w H s.heap dx (.xd gs) from I.hok dx _ hdx)
    refine ⟨oe, some o, ?_⟩
    obtain ⟨oc, od, oda, osl⟩ := oe
    dsimp only at h1 h2 h3
    subst h1 h2 h3
    exact ⟨g, rfl, rfl, ho⟩
def rIsX (K : PySem.W.Frag) (T : Tab) : List V → Hp → VK → Prop := fun xs H Q => ∃ (k : Nat) (a : Addr) (d : Option Addr) (c : V) (cv : Value) (b : Bool), xs = [.ref a, c] ∧ ClsV c cv ∧ T.opq k a d ∧ DctAt d H ∧ ExcC K (T.c k) ∧ PySem.W.kitOne K (.ref (T.c k)) cv = some b ∧ Q (.bl b) H
theorem call_isX (hold : Holds X T) : CallR X (.builtin "isinstance") (rIsX X.K T) := by
  intro pins s σ H xs us Q I r h
  obtain ⟨k, a, d, c, cv, b, rfl, hc, ho, hd, C, e, q⟩ := h
  obtain ⟨u1, u2, rfl, r1, r2⟩ := vals2 r
  cases r1
  have ec := hc.eq r2
  subst ec
  obtain ⟨oe, od, J⟩ := inst_of hold I ho hd
  exact PySem.W.kia_one (PySem.W.kitx_excG C.hg C.hk C.hs C.hd C.ha C.hn C.ht C.hm) I.kIn J e (fun z => nomatch z) fun tk => ⟨.bl b, H, I.tok tk, rfl, q⟩
/-- a class by its name, as a value -/
inductive ClsN (X : Cx) : Str → V → Value → Prop
  | own {x : Str} {C : Addr} (hg : Gl X x) (hm : X.mg x = some (.ref C)) (hd : (x == ("__debug__" : Str)) = false) : ClsN X x (.ref C) (.ref C)
  | ty {x : Str} {t : String} (hg : Gl X x) (hm : X.mg x = none) (hv : bootBuiltins x = some (.type t)) (hn : x ≠ "__name__") (hd : (x == ("__debug__" : Str)) = false) : ClsN X x (.ty t) (.type t)
theorem ClsN.pe {x : Str} {c : V} {u : Value} {pos : Pos} (h : ClsN X x c u) : PE X (.Name x pos) (tC c) := by
  cases h with
  | own hg hm hd => exact pe_glob hg hm rfl hd
  | ty hg hm hv hn hd => exact pe_bltn hg hm hv rfl hn hd
theorem ClsN.cv {x : Str} {c : V} {u : Value} (h : ClsN X x c u) : ClsV c u := by
  cases h with
  | own => exact .own _
  | ty => exact .ty _
theorem ClsN.nm {x : Str} {c : V} {u : Value} (h : ClsN X x c u) : Names X x u := by
  cases h with
  | own hg hm hd => exact ⟨hg, hd, .inl hm⟩
  | ty hg hm hv hn hd => exact ⟨hg, hd, .inr ⟨hm, hv, hn⟩⟩
variable {pos pp tp : Pos} {a : Expr} {p : Me} {hit : Nat → Option Bool}
theorem opq_of {K : PySem.W.Frag} {F : Hp} {al : List Addr} {x : V} {k : Nat} {fs : List (Nat × W)} (r : Rw T K F al x (.opq k fs)) : ∃ b d, x = .ref b ∧ T.opq k b d ∧ DctAt d F := by
  cases r with
  | opq q => exact ⟨_, _, rfl, q, .inl rfl⟩
  | opx q e _ => exact ⟨_, _, rfl, q, .inr ⟨_, _, rfl, e⟩⟩
theorem DctAt.mono {d : Option Addr} {H H' : Hp} (h : DctAt d H) (s : ∀ b o, H b = some o → H' b = some o) : DctAt d H' := by
  rcases h with h | ⟨dx, gs, h1, h2⟩
  · exact .inl h
  · exact .inr ⟨dx, gs, h1, s _ _ h2⟩
theorem w_isX {tx : Str} {c : V} {cv : Value} (hold : Holds X T) (hg : Gl X "isinstance") (hm : X.mg "isinstance" = none) (hc : ClsN X tx c cv) (hk : ∀ k b, hit k = some b → ExcC X.K (T.c k) ∧ PySem.W.kitOne X.K (.ref (T.c k)) cv = some b) (ha : PE X a (tW T X.K E p))
    (he : starEach [a, .Name tx tp] X.env = (false, eval a X.env) :: starEach [.Name tx tp] X.env) (he2 : starEach [.Name tx tp] X.env = (false, eval (.Name tx tp) X.env) :: starEach [] X.env) (hpl : (backTo pos (starEach [.Name tx tp] X.env)).any (·.1) = false) : PE X (.Call (.Name "isinstance" pp) [a, .Name tx tp] [] pos) (tW T X.K E (mIsX hit p)) := by
  refine peM (pe_callB (call_isX hold) hg hm PyProof.Rows.boot_isinstance (pa_cons ha (pa_cons hc.pe pa_nil he2) he) (by decide) rfl he hpl) ?_
  rintro σ H Q ⟨F, al, S, ρ, g, e, h⟩
  refine (tW.bind g e h).imp fun x H1 ⟨F1, al1, S1, w, m, r, h1⟩ => ?_
  split at h1
  · obtain ⟨z, e1, h3⟩ := optR_some h1
    rw [Option.map_eq_some_iff] at e1
    obtain ⟨b, e1, rfl⟩ := e1
    obtain ⟨q, d, rfl, ho, hd⟩ := opq_of r
    obtain ⟨h4, h5⟩ := hk _ _ e1
    exact ⟨_, q, d, c, cv, b, rfl, hc.cv, ho, hd.mono m.g.sub, h4, h5, h3.val m.g (.bl _)⟩
  · exact h1.elim
/-- a written tuple of classes -/
inductive ClsT (X : Cx) : List Expr → List V → List Value → Prop
  | nil : ClsT X [] [] []
  | cons {x : Str} {np : Pos} {c : V} {u : Value} {es : List Expr} {cs : List V} {us : List Value} (hc : ClsN X x c u) (hs : starEach (.Name x np :: es) X.env = (false, eval (.Name x np) X.env) :: starEach es X.env) (r : ClsT X es cs us) : ClsT X (.Name x np :: es) (c :: cs) (u :: us)
theorem ClsT.cv {es : List Expr} {cs : List V} {us : List Value} (h : ClsT X es cs us) : Paired ClsV cs us := by
  induction h with
  | nil => exact .nil
  | cons hc hs r ih => exact .cons hc.cv ih
end
/-! ### defs that are called while an exception is handled -/
end DL
set_option Elab.async false
set_option linter.all false
set_option maxRecDepth 100000
set_option maxHeartbeats 4000000
/-! Ze: a lambda without parameters handed to a def. -/
namespace DL
open PySem PySem.Spec L2 PyProof.Rows LamX
section
variable {T : Tab} {K : PySem.W.Frag} {F F' : Hp} {al : List Addr}
theorem RwX.alt {o : Nat → Addr → Option Addr → Prop} {l : Option (Addr × Hp)} (ho : ∀ k a d, T.opq k a d → o k a d) (hl : ∀ x, T.lam = some x → l = some x) {x : Xn} {cls : Value} {d : Option Addr} (r : RwX T K F al x cls d) : RwX (T.alt o l) K F al x cls d := by
  cases x with
  | own c fs =>
    refine ⟨r.1, ?_⟩
    rcases r.2 with e | ⟨h0, a, gs, h1, h2, h3⟩
    · exact .inl e
    · exact .inr ⟨h0, a, gs, h1, h2, h3.alt ho hl⟩
end
/-! ### a def that is handed a lambda -/
end DL
set_option Elab.async false
set_option linter.all false
set_option maxRecDepth 100000
set_option maxHeartbeats 4000000
/-! Zf: the end of a law that makes lambdas. -/
namespace DL
open PySem PySem.Spec L2 PyProof.Rows LamX
/-- the code object of the def at f, and its table -/
def codeOfA (K : PySem.W.Frag) (f : Addr) : Addr := match K.lookup f with
  | some ⟨_, _, .func fd, _⟩ => (match fd.code with | .ref c => c | _ => 0)
  | _ => 0
def tblOfA (K : PySem.W.Frag) (f : Addr) : Addr := match K.lookup (codeOfA K f) with
  | some ⟨_, _, .fields vs, _⟩ => (match (vs[11]? : Option Value) with | some (.ref P) => P | _ => 0)
  | _ => 0
end DL
set_option Elab.async false
set_option linter.all false
set_option maxRecDepth 100000
set_option maxHeartbeats 4000000
/-! Zg: what the head must say of exception classes; rules that hold while an exception is handled. -/
namespace DL
open PySem PySem.Spec L2 PyProof.Rows
/-! ### facts as tests -/
def isBlt (o : Option (Option Value)) (s : String) : Bool := match o with
  | some (some (.builtin t)) => t == s
  | _ => false
theorem isBlt_ok {o : Option (Option Value)} {s : String} (h : isBlt o s = true) : o = some (some (.builtin s)) := by
  unfold isBlt at h
  split at h
  · rw [beq_iff_eq.mp h]
  · cases h
def isAbs (o : Option (Option Value)) : Bool := match o with
  | some none => true
  | _ => false
theorem isAbs_ok {o : Option (Option Value)} (h : isAbs o = true) : o = some none := by
  unfold isAbs at h
  split at h
  · rfl
  · cases h
def isYes (o : Option Bool) (b : Bool) : Bool := match o with
  | some c => c == b
  | none => false
theorem isYes_ok {o : Option Bool} {b : Bool} (h : isYes o b = true) : o = some b := by
  unfold isYes at h
  split at h
  · rw [beq_iff_eq.mp h]
  · cases h
def isTyp (o : Option Value) : Bool := match o with
  | some (.type t) => t == "type"
  | _ => false
theorem isTyp_ok {o : Option Value} (h : isTyp o = true) : o = some (.type "type") := by
  unfold isTyp at h
  split at h
  · rw [beq_iff_eq.mp h]
  · cases h
def excCB (K : PySem.W.Frag) (D : Addr) : Bool := isBlt (PySem.W.findIn K (.ref D) "__getattribute__") "BaseException.__getattribute__" && isAbs (PySem.W.findIn K (.ref D) "__getattr__") && isYes (PySem.W.subIn K (.ref D) (.type "BaseException")) true && PySem.W.hasDictIn K D &&
  isBlt (PySem.W.findIn K (.ref D) "__class__") "object.__class__" && isBlt (PySem.W.specialIn K (.builtin "object.__class__") "__get__") "getset_descriptor.__get__" && isYes (PySem.W.takesIn K (.builtin "object.__class__")) true && isYes (PySem.W.mroIn K D (.type "object")) true
theorem excCB_ok {K : PySem.W.Frag} {D : Addr} (h : excCB K D = true) : ExcC K D := by
  unfold excCB at h
  simp only [Bool.and_eq_true] at h
  obtain ⟨⟨⟨⟨⟨⟨⟨h1, h2⟩, h3⟩, h4⟩, h5⟩, h6⟩, h7⟩, h8⟩ := h
  exact ⟨isBlt_ok h1, isAbs_ok h2, isYes_ok h3, h4, isBlt_ok h5, isBlt_ok h6, isYes_ok h7, isYes_ok h8⟩
/-- the table of answers, class by class -/
def hitL (l : List (Nat × Bool)) : Nat → Option Bool := fun k => l.lookup k
theorem lookup_mem {l : List (Nat × Bool)} {k : Nat} {b : Bool} (h : l.lookup k = some b) : (k, b) ∈ l := by
  induction l with
  | nil => cases h
  | cons p l ih =>
    obtain ⟨k1, b1⟩ := p
    rw [List.lookup_cons] at h
    split at h
    · rename_i e
      cases beq_iff_eq.mp e
      cases h
      exact List.mem_cons_self ..
    · exact List.mem_cons_of_mem _ (ih h)
def kitB (K : PySem.W.Frag) (cl : List Addr) (cv : Value) (l : List (Nat × Bool)) : Bool := l.all fun p => excCB K (cl.getD p.1 0) && isYes (PySem.W.kitOne K (.ref (cl.getD p.1 0)) cv) p.2
theorem kitB_ok {K : PySem.W.Frag} {T : Tab} {cv : Value} {l : List (Nat × Bool)} (h : kitB K T.cls cv l = true) : ∀ k b, hitL l k = some b → ExcC K (T.c k) ∧ PySem.W.kitOne K (.ref (T.c k)) cv = some b := fun k b e => by
  have := List.all_eq_true.mp h _ (lookup_mem e)
  rw [Bool.and_eq_true] at this
  exact ⟨excCB_ok this.1, isYes_ok this.2⟩
def exmB (K : PySem.W.Frag) (cl : List Addr) (cvs : List Value) (l : List (Nat × Bool)) : Bool := l.all fun p => isYes (PySem.W.exmAny K (.ref (cl.getD p.1 0)) cvs) p.2
theorem exmB_ok {K : PySem.W.Frag} {T : Tab} {cvs : List Value} {l : List (Nat × Bool)} (h : exmB K T.cls cvs l = true) : ∀ k b, hitL l k = some b → PySem.W.exmAny K (.ref (T.c k)) cvs = some b := fun k b e =>
  isYes_ok (List.all_eq_true.mp h _ (lookup_mem e))
/-! ### comparing, counting, looking up under an exception -/
end DL
set_option Elab.async false
set_option linter.all false
set_option maxRecDepth 100000
set_option maxHeartbeats 4000000
/-! Zh: a def that is handed a lambda, by its name. -/
namespace DL
open PySem PySem.Spec L2 PyProof.Rows LamX
theorem holds_at {X : Cx} {T : Tab} {c : Nat} {a : Addr} {oe : Obj} {pn : List (Addr × Obj)} {d : Option Addr} (ho : ∀ k b d, ¬ T.opq k b d) (h1 : oe.cls = .ref (T.c c)) (h2 : oe.dict = d) (h3 : ∃ vs, oe.data = .fields vs) : Holds (X.suite a ((a, oe) :: pn)) (T.at c a d) := fun k b e q => by
  rcases q with q | ⟨rfl, rfl, rfl⟩
  · exact absurd q (ho _ _ _)
  · exact ⟨oe, List.mem_cons_self .., h1, h2, h3⟩
end DL
set_option Elab.async false
set_option linter.all false
set_option maxRecDepth 100000
set_option maxHeartbeats 4000000
/-! Zi: sorted(set(t)) of a tuple of any ints. -/
namespace L2
open PySem PySem.Spec PyProof.Rows
end L2
namespace DL
open PySem PySem.Spec L2 PyProof.Rows
def insU (k : Int) : List Int → List Int
  | [] => [k]
  | x :: l => if k < x then k :: x :: l else if k = x then x :: l else x :: insU k l
def srtU (l : List Int) : List Int := l.foldr insU []
def srtTR (x : W) (S : Sto) : Res := match deref S x with
  | .tup ws => match allI ws with
    | some ns => if ns.length < 60 then .ok (.lst ((srtU ns).map W.int)) S else .bad
    | none => .bad
  | _ => .bad
def mSrtSetT (a : Me) : Me := fun ρ S => (a ρ S).bind srtTR
end DL
set_option Elab.async false
set_option linter.all false
set_option maxRecDepth 100000
set_option maxHeartbeats 4000000
/-! Zj: xs + ys, a list that will be changed. -/
namespace DL
open PySem PySem.Spec L2 PyProof.Rows
end DL
set_option Elab.async false
set_option linter.all false
set_option maxRecDepth 100000
set_option maxHeartbeats 4000000
/-! Zk: xs.clear(); the end of a law that makes lambdas and asks for repr. -/
namespace DL
open PySem PySem.Spec L2 PyProof.Rows LamX
end DL
set_option Elab.async false
set_option linter.all false
set_option maxRecDepth 100000
set_option maxHeartbeats 4000000
/-! Zl: a call on data alone whose answer, a new list, is a cell of the caller's. -/
namespace DL
open PySem PySem.Spec L2 PyProof.Rows
end DL
set_option Elab.async false
set_option linter.all false
set_option maxRecDepth 100000
set_option maxHeartbeats 4000000
/-! Zm: isinstance(x, a built-in type), where x may be an instance of one own class. -/
namespace DL
open PySem PySem.Spec L2 PyProof.Rows
end DL
set_option Elab.async false
set_option linter.all false
set_option maxRecDepth 100000
set_option maxHeartbeats 4000000
/-! Zn: errors with one field: an own __init__ over any built-in base. -/
namespace PySem
namespace GX
open PySem.W PySem.Calls PyProof.Rows PySem.HandSPX
open Builtin Builtin.ObjectAttr
/-- own classes, then the mro of the built-in base -/
def refsB (bmB : List Value) : List Value → Bool
  | .ref _ :: r => refsB bmB r
  | l => l == bmB
theorem refsB_split {bmB : List Value} : ∀ l : List Value, refsB bmB l = true → (∃ c r, l = .ref c :: r ∧ refsB bmB r = true) ∨ l = bmB := fun l e => by
  cases l with
  | nil => exact .inr (beq_iff_eq.mp e)
  | cons v r => cases v <;> first | exact .inl ⟨_, r, rfl, e⟩ | exact .inr (beq_iff_eq.mp e)
/-- what a built-in base of errors must be -/
structure BaseB (B newId initId : String) (bmB : List Value) : Prop where
  F : ExcBaseFacts B newId initId bmB
  pass : ∀ self : Value, refuseLoop self "__setattr__" bmB = pure ()
  obj : bmB.contains (.type "object") = true
theorem base_Value : BaseB "ValueError" "ValueError.__new__" "ValueError.__init__" [.type "ValueError", .type "Exception", .type "BaseException", .type "object"] := ⟨F.excBase_ValueError, fun self => by kernel_rfl, by decide +kernel⟩
section
variable {B newId initId : String} {bmB : List Value}
theorem refsB_pass (hB : BaseB B newId initId bmB) (self : Value) : ∀ l : List Value, refsB bmB l = true → refuseLoop self "__setattr__" l = pure () := by
  intro l
  induction l with
  | nil =>
    intro e
    rcases refsB_split [] e with ⟨c, r, q, _⟩ | q
    · cases q
    · rw [q]; exact hB.pass self
  | cons a r ih =>
    intro e
    rcases refsB_split (a :: r) e with ⟨c, r', q, h⟩ | q
    · cases q
      rw [refuseLoop_ref]; exact ih h
    · rw [q]; exact hB.pass self
theorem refsB_has (X : String) : ∀ l : List Value, refsB bmB l = true → l.contains (.type X) = bmB.contains (.type X) := by
  intro l
  induction l with
  | nil =>
    intro e
    rcases refsB_split [] e with ⟨c, r, q, _⟩ | q
    · cases q
    · rw [q]
  | cons a r ih =>
    intro e
    rcases refsB_split (a :: r) e with ⟨c, r', q, h⟩ | q
    · cases q
      rw [List.contains_cons, ih h]; rfl
    · rw [q]
theorem refsB_some (hB : BaseB B newId initId bmB) {l : List Value} (e : refsB bmB l = true) : l.isEmpty = false := by
  cases l with
  | nil =>
    have := refsB_has "object" [] e
    rw [hB.obj] at this
    cases this
  | cons _ _ => rfl
variable {prog : Program} {w : World} {A : Around} {R : Result → Shared → Prop} {hp : Heap} {g : Array GenState} {d : Drawn} {t : Nat} {os : OsState}
/-- self.name = v on an error that has no dict as yet, whatever its base -/
theorem first_field (hB : BaseB B newId initId bmB) {K : W.Frag} {name : Str} {tk : Tok} {v : Value} {x C : Addr} {fv : Array Value} {cd : ClassData}
    (X : K.In hp) (hx : hp.get? x = some { cls := .ref C, data := .fields fv }) (hcd : W.clsIn K C = some cd) (hm : refsB bmB cd.mro = true) (hh : cd.hasDict = true) (ha : W.findIn K (.ref C) name = some none)
    (hq : ∀ h' tk' dx, (∀ b o, b ≠ x → hp.get? b = some o → h'.get? b = some o) → hp.objs.size ≤ dx → dx ≠ x → h'.get? x = some { cls := .ref C, dict := some dx, data := .fields fv } →
      h'.Ns1 dx (fun y => if y = name then some v else none) → R (.ok (.ret .none)) ⟨h', g, d, tk', os⟩) :
    codeAny (model prog w) A (.call (.builtin "object.__setattr__") ⟨[.ref x, .str name tk, v], []⟩) R ⟨hp, g, d, t, os⟩ := by
  have J : W.InstAt hp x { cls := .ref C, data := .fields fv } C none := ⟨hx, rfl, rfl, trivial⟩
  have so := F.store_object
  have nE := refsB_some hB hm
  have isO : cd.mro.contains (.type "object") = true := (refsB_has "object" _ hm).trans hB.obj
  have xs : x ≠ hp.objs.size := Nat.ne_of_lt (Heap.lt_size hx)
  have isI : W.Looks (model prog w) hp (isInstance (.ref x) (.type "object")) true := J.type.andThen (W.looks_mroIn X (by
    unfold W.mroIn
    rw [hcd, Option.bind_some, if_neg (by rw [nE]; decide), isO]))
  refine codeAny_call_builtin so.slot.plain so.entry (@W.check_slot (model prog w) _ _ ⟨hp, g, d, t, os⟩ "object.__setattr__" "object" "__setattr__" (.ref x) [.str name tk, v] [] _ so.kind so.split isI (so.args (.ref x) (.str name tk) v) ?_)
  have lm : W.Looks (model prog w) hp (mroOf (.ref C)) cd.mro := (W.looks_clsIn X hcd).andThen .now
  have lt : W.Looks (model prog w) hp (storeTaker? none) none := .now
  have lc : W.Looks (model prog w) hp (classData C) cd := W.looks_clsIn X hcd
  rw [W.osa_eq, refuse_eq]
  refine wpAny_bind (wpAny_bind (J.type.at (wpAny_bind (lm.at ?_))))
  rw [refsB_pass hB _ _ hm]
  refine wpAny_pure (wpAny_bind (J.type.at (wpAny_bind ((W.looks_findIn X ha).at (wpAny_bind (lt.at ?_))))))
  show wpAny _ _ (storeInOwnDict (.ref x) (.ref C) (.str name tk) name v false) _ _ _
  obtain ⟨nm, bs, mro, ns, qn, hd, sn, sb, ab, col, del⟩ := cd
  dsimp only at hh
  subst hh
  unfold storeInOwnDict ownDictForStores
  repeat (first | with_reducible refine store_in_new ?_ ?_ | with_reducible refine wpAny_loadPart_at hx ?_ | with_reducible refine lc.at ?_ | wp_step)
  · exact ⟨_, #[], _, (Heap.get?_update_ne _ _ _ _ xs.symm).trans (Heap.get?_push_at rfl rfl), rfl, fun e he => absurd he (by simp), fun _ => rfl⟩
  · intro h' tk' hn' hs
    have hx2 : (hp.push { cls := .type "dict", data := .dict #[] }).get? x = some { cls := .ref C, data := .fields fv } := Heap.get?_push_of_some _ hx
    refine hq h' tk' hp.objs.size (fun b o hb ho => ?_) (Nat.le_refl _) xs.symm ?_ hn'
    · exact (hs.2 b (Nat.ne_of_lt (Heap.lt_size ho))).trans ((Heap.get?_update_ne _ _ _ _ hb).trans (Heap.get?_push_of_some _ ho))
    · exact (hs.2 x xs).trans (Heap.get?_update_self _ hx2 rfl)
end
end GX
end PySem
namespace DL
open PySem PySem.Spec L2 PyProof.Rows
open PySem.GX (BaseB refsB)
/-- what the written part says of an error class with own __init__ -/
structure OexG (K : PySem.W.Frag) (C : Addr) (bmB : List Value) (newId : String) : Prop where
  cls : ∃ nm q N bs bm sn sub ab col dd k0 k1 k2 k3 k5, K.lookup C = some (excClassObj nm q C N bs bm true sn sub ab col dd k0 k1 k2 k3 k5 newId) ∧ refsB bmB bm = true
  sa : PySem.W.findIn K (.ref C) "__setattr__" = some (some (.builtin "object.__setattr__"))
  exC : PySem.W.subIn K (.ref C) (.type "BaseException") = some true
  tyC : PySem.W.typeIn K (.ref C) = some (.type "type")
  kC : PySem.W.keepIn K (.ref C) = true
section
variable {X : Cx} {pins : List (Addr × Obj)} {σ : L2.St} {H : Hp} {s : Shared} {a C dx : Addr} {f : Str} {y : V} {u : Value} {Q : Unit → Shared → Prop} {E : Value → Shared → Prop} {A : Around} {B newId initId : String} {bmB : List Value}
/-- self.f = y, the first one -/
theorem field_new (hB : BaseB B newId initId bmB) (T : OexG X.K C bmB newId) (I : Inv X pins σ H s) (e : H a = some (exo a C none)) (hno : PySem.W.findIn X.K (.ref C) f = some none) (ry : RelV y u)
    (h : ∀ dx s', H dx = none → dx ≠ a → Inv X pins σ (upd (upd H dx (exd dx [(f, y)])) a (exo a C (some dx))) s' → Q () s') : wpAny (model X.prog X.w) A (setAttr (.ref a) f u) Q E s := by
  obtain ⟨nm, q, N, bs, bm, sn, sub, ab, col, dd, k0, k1, k2, k3, k5, hC, hbm⟩ := T.cls
  have hcl : PySem.W.clsIn X.K C = some { name := nm, bases := bs, mro := .ref C :: bm, ns := N, qualname := q, hasDict := true, slotNames := sn, subclasses := sub, abstract := ab, collection := col, hasDel := false } := by
    unfold PySem.W.clsIn
    rw [hC] <;> rfl
  obtain ⟨t1, ho⟩ := exo_at I.hok e
  obtain ⟨hp, g, d, t, os⟩ := s
  refine PySem.W.set_plain I.kIn (ox := { cls := .ref C, dict := none, data := .fields #[.ref t1, .none, .none, .none, .bool false, .none] }) (od := none) ⟨ho, rfl, rfl, trivial⟩ T.sa ?_
  refine PySem.GX.first_field hB I.kIn ho hcl (show refsB bmB (.ref C :: bm) = true from hbm) rfl hno (fun h' tk' dx k dn dne hx hn => ?_)
  have hnd : H dx = none := I.hok.fresh dn
  have nd : ∀ {b : Addr} {o : Obj}, hp.get? b = some o → b ≠ dx := fun {b o} q => Nat.ne_of_lt (Nat.lt_of_lt_of_le (Heap.lt_size q) dn)
  have na : ∀ {b : Addr}, H b = none → b ≠ a := fun {b} n z => by
    rw [z, e] at n
    cases n
  have un : Un X.fs [] H (upd (upd H dx (exd dx [(f, y)])) a (exo a C (some dx))) hp h' := {
    keep := fun b o q n _ _ => k b o (na n) q
    slot := fun b o q n _ _ => ⟨o.slots, k b o (na n) q⟩
    free := fun b o q n _ => by rw [upd_ne (na n), upd_ne (nd q)]; exact n
    there := fun b o q _ => by
      by_cases hb : b = a
      · exact ⟨_, by rw [hb]; exact hx⟩
      · exact ⟨o, k b o hb q⟩
    tups := fun b xs q => by rw [upd_ne (at_ne e q exo_tup), upd_ne (ne_of_none q hnd)]; exact q
    frzs := fun b o v q => by rw [upd_ne (at_ne e q exo_frz), upd_ne (ne_of_none q hnd)]; exact q
    tbls := fun b ps q => ⟨#[], by rw [upd_ne (at_ne e q exo_tbl), upd_ne (ne_of_none q hnd), q]; simp⟩ }
  refine h dx _ hnd dne (I.un (t' := tk') un fun b o q => ?_)
  by_cases hb : b = a
  · subst hb
    rw [upd_same] at q
    cases q
    exact exo_ok hx
  · rw [upd_ne hb] at q
    by_cases hd : b = dx
    · subst hd
      rw [upd_same] at q
      cases q
      exact exd_ok hn (relO_put (fs := []) ry fun g => True.intro)
    · rw [upd_ne hd] at q
      exact (I.hok b o q).stay (fun c v hc z => k c v (by
          rcases hc with hc | hc
          · rw [hc]
            exact hb
          · exact at_ne e hc exo_own) z)
        (fun c hc => by rw [upd_ne (at_ne e hc exo_own), upd_ne (ne_of_none hc hnd)]; exact hc) (fun c xs hc => by rw [upd_ne (at_ne e hc exo_tup), upd_ne (ne_of_none hc hnd)]; exact hc)
/-- B.__init__(self, ..): nothing of it is told -/
theorem base_init {us : List Value} {Q : Value → Shared → Prop} (hB : BaseB B newId initId bmB) (T : OexG X.K C bmB newId) (I : Inv X pins σ H s) (e : H a = some (exo a C none)) (hl : us.length ≤ sizeLine) (h : ∀ s', Inv X pins σ H s' → Q .none s') :
    wpAny (model X.prog X.w) A (call (.builtin initId) (.ref a :: us)) Q E s := by
  obtain ⟨nm, q, N, bs, bm, sn, sub, ab, col, dd, k0, k1, k2, k3, k5, hC, hbm⟩ := T.cls
  obtain ⟨t1, ho⟩ := exo_at I.hok e
  obtain ⟨hp, g, d, t, os⟩ := s
  refine wpAny_call (PySem.HandSPX.init_base hB.F (fun Y => PySem.GX.refsB_has Y bm hbm) (I.kIn _ _ hC) ho hl fun h' t2 k hx => ?_)
  have J := I.write (t' := t) (x := a) (e := a) (o := exo a C none) (by rw [e]; exact True.intro) (.inl rfl) k ⟨_, hx⟩ (exo_ok hx)
  have eu : upd H a (exo a C none) = H := by
    funext b
    by_cases hb : b = a
    · rw [hb, upd_same, e]
    · rw [upd_ne hb]
  rw [eu] at J
  exact h _ J
def rIni (K : PySem.W.Frag) (bmB : List Value) (newId : String) : List V → Hp → VK → Prop := fun xs H Q => ∃ (a C : Addr) (ws : List V), xs = .ref a :: ws ∧ ws.length ≤ 1000 ∧ OexG K C bmB newId ∧ H a = some (exo a C none) ∧ Q .non H
theorem call_ini (hB : BaseB B newId initId bmB) : CallR X (.builtin initId) (rIni X.K bmB newId) := by
  intro pins s σ H xs us Q I r h
  obtain ⟨a, C, ws, rfl, hl, T, ea, q⟩ := h
  cases r with
  | @cons _ u0 _ ur ra rw' =>
    obtain rfl : u0 = Value.ref a := ra
    exact base_init hB T I ea (by rw [← Paired.length rw', sizeLine_eq]; omega) fun s' J => ⟨.non, H, J, rfl, q⟩
end
end DL
set_option Elab.async false
set_option linter.all false
set_option maxRecDepth 100000
set_option maxHeartbeats 4000000
/-! Zo: raise of an error with one field; its field read where it is caught. -/
namespace DL
open PySem PySem.Spec L2 PyProof.Rows
open PySem.GX (BaseB refsB)
section
variable {X : Cx} {x m : Str} {np apos pos : Pos} {e o : Expr} {es : List Expr} {t : TA} {id : String} {r : List V → Hp → VK → Prop} {C : Addr} {to te : TE} {f : Str} {B newId initId : String} {bmB : List Value}
/-- an own class's inherited built-in method, called by the class -/
theorem pe_ownat {pl : Sem Bool} (hc : CallR X (.builtin id) r) (hga : PySem.W.specialIn X.K (.ref C) "__getattribute__" = some (some (.builtin "type.__getattribute__"))) (hrd : PySem.W.readsIn X.K C (.type "type") = true) (hfi : PySem.W.findCls X.K (.ref C) (.type "type") m = some (.val (.builtin id))) (hhd : PySem.W.handedIn (.builtin id) = true) (hg : Gl X x) (hm : X.mg x = some (.ref C)) (ha : PA X (e :: es) t) (hdb : (x == ("__debug__" : PySem.Str)) = false)
    (he : starEach (e :: es) X.env = (false, eval e X.env) :: starEach es X.env) (hpl : (backTo pos (starEach es X.env)).any (·.1) = false)
    (ht : eval (.Call (.Attribute (.Name x np) m apos) (e :: es) [] pos) X.env = (do
      let ov ← eval (.Name x np) X.env
      standAt apos.atName
      let (f, first) ← holding [ov] (getMethod ov m pl)
      callWith pos f first (backTo pos (starEach (e :: es) X.env)) (backToKw pos (keywordEach [] X.env)))) :
    PE X (.Call (.Attribute (.Name x np) m apos) (e :: es) [] pos) (tCB r t) := by
  refine ⟨fun pins s σ H Q I h => ?_⟩
  refine PySem.W.methodCall_KW (pl := pl) (ld_glob I hg hm ?_ hdb) ht
  refine PySem.W.method_cls I.kIn hga (PySem.W.cls_value I.kIn hrd hfi hhd ?_)
  have I2 : Inv X pins σ H { s with toks := s.toks + 1 } := I.tok _
  exact PyProof.Rows.callWith_builtin1 (thn (ha.run pos pins { s with toks := s.toks + 1 } σ H _ I2 h) fun us s1 ⟨vs, H1, I1, r1, q1⟩ => hc pins s1 σ H1 vs us Q I1 r1 q1) he hpl
/-- self.f = e, the first one -/
def tOne (K : PySem.W.Frag) (bmB : List Value) (newId : String) (f : Str) (to te : TE) : TS := fun D σ H => te σ H fun y H1 => to σ H1 fun x H2 => ∃ a C : Addr, x = .ref a ∧ OexG K C bmB newId ∧ PySem.W.findIn K (.ref C) f = some none ∧
  H2 a = some (exo a C none) ∧ ∀ dx, H2 dx = none → dx ≠ a → D.nx σ (upd (upd H2 dx (exd dx [(f, y)])) a (exo a C (some dx)))
theorem ps_one (hB : BaseB B newId initId bmB) (ho : PE X o to) (he : PE X e te) (hs : swapsWith e (some (.Attribute o f apos)) pos.line X.env = pure false) : PS X (.Assign [.Attribute o f apos] e pos) (tOne X.K bmB newId f to te) := by
  refine ⟨fun pins s σ H D I h => ?_⟩
  refine plainObj_wpAny_Assign_Attribute (thn (he.run pins s σ H _ I h) fun v s1 ⟨y, H1, I1, r1, q1⟩ => thn (ho.run pins s1 σ H1 _ I1 q1) fun u s2 ⟨x, H2, I2, r2, a, C, ex, T, hno, ea, q⟩ => ?_) hs
  subst ex
  obtain rfl : u = Value.ref a := r2
  exact field_new hB T I2 ea hno r1 fun dx s' n ne J => ⟨σ, _, J, q dx n ne⟩
/-- what an own __init__ with one field does -/
def spIni (C : Addr) (f : Str) : Sp := fun vs H Q _ => ∃ (a : Addr) (v : V), vs = [.ref a, v] ∧ H a = some (exo a C none) ∧ ∀ dx, H dx = none → dx ≠ a → Q .non (upd (upd H dx (exd dx [(f, v)])) a (exo a C (some dx)))
def tIni (K : PySem.W.Frag) (bmB : List Value) (newId : String) (f : Str) : TS := fun D σ H => ∃ (a C : Addr) (v : V), σ[0]? = some (some (.ref a)) ∧ σ[1]? = some (some v) ∧ OexG K C bmB newId ∧ PySem.W.findIn K (.ref C) f = some none ∧ H a = some (exo a C none) ∧ ∀ dx, H dx = none → dx ≠ a → D.nx σ (upd (upd H dx (exd dx [(f, v)])) a (exo a C (some dx)))
theorem ini_body {xs xa : Str} {c : Expr} {p1 p2 p3 : Pos} {mm : Str} (hB : BaseB B newId initId bmB) (hc : PE X c (tCB (rIni X.K bmB newId) (tCons (tVar 0) (tCons (tC (.str mm)) tNil)))) (hsw : swapsWith c none p1.line X.env = pure false) (h0 : X.N[0]? = some xs) (h1 : X.N[1]? = some xa) (v0 : Vis X.env.scope xs) (v1 : Vis X.env.scope xa)
    (d0 : (xs == ("__debug__" : Str)) = false) (c0 : (xs == ("__classdict__" : Str)) = false) (d1 : (xa == ("__debug__" : Str)) = false) (c1 : (xa == ("__classdict__" : Str)) = false) (hs : swapsWith (.Name xa p3) (some (.Attribute (.Name xs p2) f apos)) pos.line X.env = pure false) :
    PSs X [.Expr c p1, .Assign [.Attribute (.Name xs p2) f apos] (.Name xa p3) pos] (tIni X.K bmB newId f) := by
  refine pssM (pss_cons (ps_expr hc hsw) (pss_one (ps_one hB (pe_var h0 v0 d0 c0) (pe_var h1 v1 d1 c1) hs))) ?_
  rintro D σ H ⟨a, C, v, e0, e1, T, hno, ea, q⟩
  exact ⟨_, e0, ⟨a, C, [.str mm], rfl, by simp, T, ea, v, e1, _, e0, a, C, rfl, T, hno, ea, q⟩⟩
theorem ini_ok {P : Program} {w : World} {K : PySem.W.Frag} {mg : Str → Option Value} {base : Heap} {qual : Str} {params : Arguments} {body : List Stmt} {scope : Scope} {fI C : Addr} {fd : FuncData} {xs xa : Str} (T : OexG K C bmB newId) (hno : PySem.W.findIn K (.ref C) f = some none) (Fd : FunD K "__init__" qual params body scope [] [] fI fd) (Sc : FnScope [xs, xa] [xs, xa] scope)
    (hb : ∀ (cdv : Value) (A : Around) (outer : List PySem.Env) (s : Shared) (H : Hp) (E : XK), PSs (cxOf (L2.CX P w) P w K mg base [xs, xa] qual scope fI cdv A outer s H E) body (tIni K bmB newId f)) : FnOk P w K mg base (L2.CX P w) 1 fI fd [xs, xa] (spIni C f) := by
  refine Fd.ok Sc (fun vs H Q E h => ?_) (fun cdv A outer s H vs Q E hr h => ⟨_, hb cdv A outer s H E, ?_⟩)
  · obtain ⟨a, v, rfl, _⟩ := h
    rfl
  · obtain ⟨a, v, rfl, ea, q⟩ := h
    exact ⟨a, C, v, rfl, rfl, T, hno, ea, q⟩
/-- an error class, by its name -/
def ErrF (P : Program) (w : World) (K : PySem.W.Frag) (mg : Str → Option Value) (base : Heap) (x : Str) (C : Addr) (f : Str) : Prop :=
  ∃ (B newId initId : String) (bmB : List Value) (fI : Addr) (fd : FuncData) (ps : List Str), BaseB B newId initId bmB ∧ OexG K C bmB newId ∧ mg x = some (.ref C) ∧ PySem.W.findIn K (.ref C) "__init__" = some (some (.ref fI)) ∧ PySem.W.typeIn K (.ref fI) = some (.type "function") ∧ FnOk P w K mg base (L2.CX P w) 1 fI fd ps (spIni C f) ∧ Binds K fd ps []
/-- C(e), C's own __init__ keeping the one field -/
def tMk1 (C : Addr) (f : Str) (te : TE) : L2.St → Hp → XK → Prop := fun σ H Q => te σ H fun v H1 => ∀ d, H1 d = none → Q (.ref C) (some d) (upd H1 d (.xd [(f, v)]))
def oneV (C : Addr) (f : Str) (Q : XK) : List V → Hp → Prop
  | [v], H1 => ∀ d, H1 d = none → Q (.ref C) (some d) (upd H1 d (.xd [(f, v)]))
  | _, _ => False
theorem oneV_of {C : Addr} {f : Str} {Q : XK} {vs : List V} {H1 : Hp} (h : oneV C f Q vs H1) : ∃ v, vs = [v] ∧ ∀ d, H1 d = none → Q (.ref C) (some d) (upd H1 d (.xd [(f, v)])) := by
  match vs, h with
  | [v], h => exact ⟨v, rfl, h⟩
  | [], h => exact h.elim
  | _ :: _ :: _, h => exact h.elim
theorem pmk_one {p : Pos} (R : ErrF X.prog X.w X.K X.mg X.base x C f) (hr : Room 2 X.A) (hg : Gl X x) (ha : PE X e te) (hdb : (x == ("__debug__" : Str)) = false)
    (he : starEach [e] X.env = (false, eval e X.env) :: starEach [] X.env) (hpl : (backTo pos (starEach [] X.env)).any (·.1) = false) :
    PMk X (.Call (.Name x p) [e] [] pos) (tMk1 C f te) := by
  obtain ⟨B, newId, initId, bmB, fI, fd, ps, hB, T, hm, iC, tI, F1, hb⟩ := R
  intro pins s σ H Q I h
  obtain ⟨nm, q, N, bs, bm, sn, sub, ab, col, dd, k0, k1, k2, k3, k5, hC, hbm⟩ := T.cls
  refine wpAny_Call_Name_kw (ld_glob I hg hm ?_ hdb)
  have hPA : PA X [e] (tCons te tNil) := pa_cons ha pa_nil he
  refine PySem.W.callWith_K (h₀ := X.base) I.ok.mod.kin T.kC (thn (hPA.run pos pins s σ H (oneV C f Q) I h) fun us s1 ⟨vs, H1, I1, r1, q0⟩ => ⟨I1.kIn, ?_⟩) he hpl
  obtain ⟨v, rfl, q1⟩ := oneV_of q0
  show wpAny _ _ (call (.ref C) us) _ _ _
  obtain ⟨hp, g, dr, tk, os⟩ := s1
  have hsz : hp.objs.size ≤ hp.objs.size + 1 := Nat.le_succ _
  have hn : H1 (hp.objs.size + 1) = none := I1.hok.fresh hsz
  have kk : ∀ b o, hp.get? b = some o → ((hp.push (PySem.W.kdv_tup us)).push (PySem.HandSPX.excO C hp.objs.size)).get? b = some o := fun b o e => Heap.get?_push_of_some _ (Heap.get?_push_of_some _ e)
  have hget : ((hp.push (PySem.W.kdv_tup us)).push (PySem.HandSPX.excO C hp.objs.size)).get? (hp.objs.size + 1) = some (PySem.HandSPX.excO C hp.objs.size) := by heap_get
  have I2 : Inv X pins σ (upd H1 (hp.objs.size + 1) (exo (hp.objs.size + 1) C none)) ⟨(hp.push (PySem.W.kdv_tup us)).push (PySem.HandSPX.excO C hp.objs.size), g, dr, tk, os⟩ :=
    I1.laid (t' := tk) (a := hp.objs.size + 1) (o := exo (hp.objs.size + 1) C none) (h' := (hp.push (PySem.W.kdv_tup us)).push (PySem.HandSPX.excO C hp.objs.size)) kk hsz (exo_ok hget)
  generalize hae : hp.objs.size + 1 = a at hsz hn hget I2
  have r2 : Vals (V.ref a :: [v]) (Value.ref a :: us) := .cons rfl r1
  have hq : spIni C f [.ref a, v] (upd H1 a (exo a C none)) (fun v2 H2 => v2 = .non ∧ ∃ dx, H1 dx = none ∧ dx ≠ a ∧ H2 = upd (upd (upd H1 a (exo a C none)) dx (exd dx [(f, v)])) a (exo a C (some dx))) (fun _ _ _ => False) := by
    refine ⟨a, v, rfl, upd_same, fun dx hdx hne => ⟨rfl, dx, ?_, hne, rfl⟩⟩
    rw [upd_ne hne] at hdx; exact hdx
  have hl : (Value.ref a :: us ++ []).length = ps.length := by
    have e := r2.length
    rw [F1.len _ _ _ _ hq] at e
    rw [List.append_nil]
    exact e.symm
  have hus : us.length ≤ sizeLine := by
    rw [← Paired.length r1, sizeLine_eq]
    simp
  have hbb := hb _ (Value.ref a :: us) I2.kIn hl
  rw [List.append_nil] at hbb
  refine wpAny_call (PySem.HandSPX.call_own hB.F (fun Y => PySem.GX.refsB_has Y bm hbm) (I1.kIn _ _ hC) (PySem.W.looks_findIn I1.kIn iC) (fun self => PySem.W.bind_fn I1.kIn self tI) hus ?_)
  rw [hae]
  refine codeAny_mono (F1.run _ X.stack _ _ ⟨Value.ref a :: us, []⟩ (Value.ref a :: us) _ _ (fun _ _ _ => False) (hr.make C us []) (I2.env0.make C us []) hbb r2 hq) fun r s' hq' => ?_
  cases r with
  | error er =>
    obtain ⟨_, _, _, _, _, _, _, _, _, _, _, _, z⟩ := hq'
    exact z.elim
  | ok fl =>
    cases fl with
    | ret u =>
      obtain ⟨v2, H2, os2, bare2, un2, hok2, rv, ev, dx, hd1, hne, eH2⟩ := hq'
      subst ev
      obtain ⟨h2, g2, d2, t2, os'⟩ := s'
      have ea : H2 a = some (exo a C (some dx)) := by rw [eH2, upd_same]
      have ed : H2 dx = some (exd dx [(f, v)]) := by rw [eH2, upd_ne hne, upd_same]
      have eE : upd (del H2 a) dx (.xd [(f, v)]) = upd H1 dx (.xd [(f, v)]) := by
        funext b
        by_cases hb : b = dx
        · rw [hb, upd_same, upd_same]
        · rw [upd_ne hb, upd_ne hb]
          by_cases hba : b = a
          · rw [hba, del_same, hn]
          · rw [del_ne hba, eH2, upd_ne hba, upd_ne hb, upd_ne hba]
      refine ⟨rv, mk_end (raises_own T.exC T.tyC) I1 hsz kk un2 hok2 os2 bare2 ea ed hd1 ?_⟩
      rw [eE]
      exact q1 dx hd1
    | next => exact False.elim hq'
    | brk => exact False.elim hq'
    | cont => exact False.elim hq'
end
end DL
set_option Elab.async false
set_option linter.all false
set_option maxRecDepth 100000
set_option maxHeartbeats 4000000
/-! Zp: raise C(e) and e.f over data; what the head must say of such classes. -/
namespace DL
open PySem PySem.Spec L2 PyProof.Rows
open PySem.GX (BaseB refsB)
/-- raise C(e): the field i holds what e is -/
def sRaiseF (c i : Nat) (a : Me) : Ms := fun ρ S => (a ρ S).toS ρ fun w S => if (derefF S w).nl then .exc (.own c [(i, derefF S w)]) ρ S else .bad
/-- the field i of a caught error -/
def mXf (hit : Nat → Option Bool) (i : Nat) (p : Me) : Me := fun ρ S => (p ρ S).bind fun x S => match x with
  | .opq k fs => match hit k with
    | some true => optR S (lookF i fs)
    | _ => .bad
  | _ => .bad
section
variable {X : Cx} {T : Tab} {E : WX} {a : Expr} {p : Me}
theorem s_raiseF {c i k : Nat} {x : Str} {pp pos pos' : Pos} {fn : Str} (hc : X.calm = true) (tk : Takes X E) (R : ErrF X.prog X.w X.K X.mg X.base x (T.c c) fn) (hfn : T.f i = fn) (hi : i < T.fld.length) (hr : Room k X.A) (hk : 2 ≤ k) (hg : Gl X x) (ha : PE X a (tW T X.K E p)) (hdb : (x == ("__debug__" : Str)) = false)
    (he : starEach [a] X.env = (false, eval a X.env) :: starEach [] X.env) (hpl : (backTo pos (starEach [] X.env)).any (·.1) = false) :
    PS X (.Raise (some (.Call (.Name x pp) [a] [] pos)) none pos') (tS T X.K E (sRaiseF c i p)) := by
  subst hfn
  refine psM (ps_raise hc tk (pmk_one R (hr.mono hk) hg ha hdb he hpl)) ?_
  rintro D σ H ⟨F, al, S, ρ, g, e, h⟩
  refine (tW.toS g e h).imp fun v H1 ⟨F1, al1, S1, w, m, r, h1⟩ => ?_
  split at h1
  case isFalse => exact h1.elim
  rename_i hnl
  intro d hd
  obtain ⟨g2, p2⟩ := m.g.newF hd (.xd [(T.f i, v)])
  exact h1 (.ref (T.c c)) (some d) σ _ al1 _ p2 g2 (m.e.post p2) ⟨rfl, .inr ⟨by simp, d, _, rfl, upd_same, .cons hi ((r.derefF m.g).post p2) .nil⟩⟩
theorem w_xf {i : Nat} {n : Str} {pos : Pos} {hit : Nat → Option Bool} (hold : Holds X T) (hnd : T.fld.Nodup) (hi : i < T.fld.length) (hn : T.f i = n) (hok : ∀ k b, hit k = some b → XfC X.K (T.c k) ∧ PySem.W.findIn X.K (.ref (T.c k)) n = some none) (ha : PE X a (tW T X.K E p)) (hb : attributeBase a n X.env (eval a X.env) = eval a X.env) : PE X (.Attribute a n pos) (tW T X.K E (mXf hit i p)) := by
  subst hn
  refine ⟨fun pins s σ H Q I h => ?_⟩
  obtain ⟨F, al, S, ρ, g, e, h⟩ := h
  refine attr_of hb (thn (ha.run pins s σ H _ I (tW.bind g e h)) fun u s1 hh => ?_)
  obtain ⟨x, H1, I1, rx, F1, al1, S1, w, m, r, h1⟩ := hh
  split at h1
  case h_2 => exact h1.elim
  rename_i k fs
  split at h1
  case h_2 => exact h1.elim
  rename_i hk
  obtain ⟨z, e1, h3⟩ := optR_some h1
  obtain ⟨T1, hno⟩ := hok k true hk
  cases r with
  | opq q => cases e1
  | @opx b dd _ gs _ q e2 rf =>
    obtain rfl : u = Value.ref b := rx
    obtain ⟨oe, hm, h4, h5, vs, h6⟩ := hold _ _ _ q
    have gt := (I1.pin (b, oe) (List.mem_append_left _ hm)).1
    have hx : ObjOk X.prog X.w H1 s1.heap dd (.xd gs) := I1.hok dd _ (m.g.sub _ _ e2)
    obtain ⟨mA, hns, hr⟩ := hx
    obtain ⟨od, ho, hl⟩ := lookIn_ns hns
    obtain ⟨v, hv, rv⟩ := lookF_sound hnd hi rf e1
    obtain ⟨u2, hu, ru⟩ := RelO.some_of (v := v) (o := mA (T.f i)) (by rw [← hv]; exact hr _)
    have J : PySem.W.InstAt s1.heap b oe (T.c k) (some od) := ⟨gt, h4, by unfold PySem.W.notCls; rw [h6] <;> rfl, by rw [h5]; exact ho⟩
    exact HandSPX.exc_get I1.kIn J T1.ga T1.gg T1.exC (PySem.W.findObj_own T1.hdC hno rfl (by rw [hl, hu])) (handed_of ru) ⟨v, H1, I1.tok _, ru, h3.val m.g rv⟩
end
/-! ### tests -/
def isRefA (o : Option (Option Value)) (f : Addr) : Bool := match o with
  | some (some (.ref g)) => g == f
  | _ => false
theorem isRefA_ok {o : Option (Option Value)} {f : Addr} (h : isRefA o f = true) : o = some (some (.ref f)) := by
  unfold isRefA at h
  split at h
  · rw [beq_iff_eq.mp h]
  · cases h
def isTypS (o : Option Value) (s : String) : Bool := match o with
  | some (.type t) => t == s
  | _ => false
theorem isTypS_ok {o : Option Value} {s : String} (h : isTypS o s = true) : o = some (.type s) := by
  unfold isTypS at h
  split at h
  · rw [beq_iff_eq.mp h]
  · cases h
def oexGB (K : PySem.W.Frag) (C : Addr) (bmB : List Value) (newId : String) : Bool := (match K.lookup C with
  | some ⟨.type "type", _, .cls cd, sl⟩ => (match cd.mro, sl.toList with
    | .ref C' :: bm, [_, _, _, _, some (.builtin n), _] => C' == C && n == newId && !cd.hasDel && cd.hasDict && refsB bmB bm
    | _, _ => false)
  | _ => false) && isBlt (PySem.W.findIn K (.ref C) "__setattr__") "object.__setattr__" && isYes (PySem.W.subIn K (.ref C) (.type "BaseException")) true && isTyp (PySem.W.typeIn K (.ref C)) && PySem.W.keepIn K (.ref C)
theorem oexGB_ok {K : PySem.W.Frag} {C : Addr} {bmB : List Value} {newId : String} (h : oexGB K C bmB newId = true) : OexG K C bmB newId := by
  unfold oexGB at h
  simp only [Bool.and_eq_true] at h
  obtain ⟨⟨⟨⟨q, h2⟩, h3⟩, h4⟩, h5⟩ := h
  refine ⟨?_, isBlt_ok h2, isYes_ok h3, isTyp_ok h4, h5⟩
  split at q
  · rename_i dd cd sl ho
    split at q
    · rename_i C' bm k0 k1 k2 k3 n k5 hm hs
      simp only [Bool.and_eq_true, beq_iff_eq, Bool.not_eq_true'] at q
      obtain ⟨⟨⟨⟨rfl, rfl⟩, hdel⟩, hd⟩, hr⟩ := q
      obtain ⟨nm, bs, mro, ns, qn, hd', sn, sub, ab, col, del⟩ := cd
      dsimp only at hm hdel hd
      subst hm hdel hd
      have hsl : sl = #[k0, k1, k2, k3, some (.builtin n), k5] := by
        obtain ⟨l⟩ := sl
        simp only at hs
        rw [hs]
      subst hsl
      exact ⟨_, _, _, _, _, _, _, _, _, _, _, _, _, _, _, ho, hr⟩
    · cases q
  · cases q
def errB (K : PySem.W.Frag) (C : Addr) (f : Str) (fI : Addr) : Bool := isRefA (PySem.W.findIn K (.ref C) "__init__") fI && isTypS (PySem.W.typeIn K (.ref fI)) "function" && isAbs (PySem.W.findIn K (.ref C) f)
theorem errF_mk {P : Program} {w : World} {K : PySem.W.Frag} {mg : Str → Option Value} {base : Heap} {x f : Str} {C fI : Addr} {B newId initId : String} {bmB : List Value} {fd : FuncData} {ps : List Str} (hB : BaseB B newId initId bmB) (h1 : oexGB K C bmB newId = true) (h2 : errB K C f fI = true) (hm : mg x = some (.ref C)) (F : FnOk P w K mg base (L2.CX P w) 1 fI fd ps (spIni C f)) (hb : Binds K fd ps []) : ErrF P w K mg base x C f := by
  unfold errB at h2
  simp only [Bool.and_eq_true] at h2
  exact ⟨B, newId, initId, bmB, fI, fd, ps, hB, oexGB_ok h1, hm, isRefA_ok h2.1.1, isTypS_ok h2.1.2, F, hb⟩
theorem errB_no {K : PySem.W.Frag} {C fI : Addr} {f : Str} (h : errB K C f fI = true) : PySem.W.findIn K (.ref C) f = some none := by
  unfold errB at h
  simp only [Bool.and_eq_true] at h
  exact isAbs_ok h.2
def xfsB (K : PySem.W.Frag) (cl : List Addr) (n : Str) (l : List (Nat × Bool)) : Bool := l.all fun p => excCB K (cl.getD p.1 0) && isAbs (PySem.W.findIn K (.ref (cl.getD p.1 0)) n)
theorem xfsB_ok {K : PySem.W.Frag} {T : Tab} {n : Str} {l : List (Nat × Bool)} (h : xfsB K T.cls n l = true) : ∀ k b, hitL l k = some b → XfC K (T.c k) ∧ PySem.W.findIn K (.ref (T.c k)) n = some none := fun k b e => by
  have := List.all_eq_true.mp h _ (lookup_mem e)
  rw [Bool.and_eq_true] at this
  have c := excCB_ok this.1
  exact ⟨⟨c.hg, c.hk, c.hs, c.hd⟩, isAbs_ok this.2⟩
/-- an own class's inherited built-in method -/
def ownAtB (K : PySem.W.Frag) (C : Addr) (m : Str) (id : String) : Bool := isBlt (PySem.W.specialIn K (.ref C) "__getattribute__") "type.__getattribute__" && PySem.W.readsIn K C (.type "type") && (match PySem.W.findCls K (.ref C) (.type "type") m with
  | some (.val (.builtin s)) => s == id
  | _ => false)
theorem ownAtB_ok {K : PySem.W.Frag} {C : Addr} {m : Str} {id : String} (h : ownAtB K C m id = true) : PySem.W.specialIn K (.ref C) "__getattribute__" = some (some (.builtin "type.__getattribute__")) ∧ PySem.W.readsIn K C (.type "type") = true ∧ PySem.W.findCls K (.ref C) (.type "type") m = some (.val (.builtin id)) := by
  unfold ownAtB at h
  simp only [Bool.and_eq_true] at h
  obtain ⟨⟨h1, h2⟩, h3⟩ := h
  refine ⟨isBlt_ok h1, h2, ?_⟩
  split at h3
  · rename_i s e
    rw [e, beq_iff_eq.mp h3]
  · cases h3
end DL
set_option Elab.async false
set_option linter.all false
set_option maxRecDepth 100000
set_option maxHeartbeats 4000000
/-! Zq: repr(x) of any data whose shown text is short; str(x). -/
namespace DL
open PySem PySem.Spec L2
open PyProof.Rows hiding St
/-- its shown text is no trouble -/
def okS (x : W) : Bool := W.plain 60 x && (toP x).showable && decide ((toP x).shown.length ≤ limit) && PyData.strOk (toP x).shown
def reprS (x : W) (S : Sto) : Res := if okS x then .ok (.str (toP x).shown) S else .bad
def mReprS (a : Me) : Me := fun ρ S => (a ρ S).bind fun x S => reprS (deref S x) S
end DL
set_option Elab.async false
set_option linter.all false
set_option maxRecDepth 100000
set_option maxHeartbeats 4000000
/-! Zr: instances that are changed by their methods; an instance frozen; isinstance(x, a built-in type) where x may be such. -/
namespace DL
open PySem PySem.Spec L2 PyProof.Rows
def isObj (c : Nat) (S : Sto) : W → Bool
  | .loc n => match S[n]? with
    | some (.obj d _) => d == c
    | _ => false
  | _ => false
/-! ### an instance frozen, with the lists that it holds -/
/-! ### isinstance(x, a built-in type), x perhaps an instance of some own classes -/
end DL
set_option Elab.async false
set_option linter.all false
set_option maxRecDepth 100000
set_option maxHeartbeats 4000000
/-! Zs: a bool and a whole number added. -/
namespace DL
open PySem PySem.Spec L2 PyProof.Rows
def addB (x y : W) : Option W := match x, y with
  | .bl b, .int j => some (.int ((if b = true then (1 : Int) else 0) + j))
  | x, y => binop .Add x y
def mAddB (a b : Me) : Me := fun ρ S => (a ρ S).bind fun x S => (b ρ S).bind fun y S => optR S (addB (deref S x) (deref S y))
end DL
set_option Elab.async false
set_option linter.all false
set_option maxRecDepth 100000
set_option maxHeartbeats 4000000
/-! Ad: what a class must say for its instances to stand as data. -/
namespace DL
open PySem PySem.Spec L2 PyProof.Rows
def liveB (K : PySem.W.Frag) (C : Addr) : Bool := PySem.W.plainGet K C Str.empty && PySem.W.hasDictIn K C && PySem.W.plainOver K C && isBlt (PySem.W.findIn K (.ref C) "__setattr__") "object.__setattr__" &&
  isBlt (PySem.W.findIn K (.ref C) "__class__") "object.__class__" && isBlt (PySem.W.specialIn K (.builtin "object.__class__") "__get__") "getset_descriptor.__get__" && isYes (PySem.W.takesIn K (.builtin "object.__class__")) true &&
  isYes (PySem.W.mroIn K C (.type "object")) true && ([Ty.int, .bool, .str, .tuple, .list].all fun t => isYes (PySem.W.kitOne K (.ref C) (.type t.s)) false)
theorem liveB_ok {T : Tab} {K : PySem.W.Frag} (h : ∀ c, T.lv c = liveB K (T.c c)) : LvOk T K := fun c hc => by
  rw [h] at hc
  unfold liveB at hc
  simp only [Bool.and_eq_true] at hc
  obtain ⟨⟨⟨⟨⟨⟨⟨⟨k1, k2⟩, k3⟩, k4⟩, k5⟩, k6⟩, k7⟩, k8⟩, k9⟩ := hc
  exact ⟨⟨k1, k2, k3, isBlt_ok k4⟩, isBlt_ok k5, isBlt_ok k6, isYes_ok k7, isYes_ok k8, fun t => isYes_ok (List.all_eq_true.mp k9 t (by cases t <;> simp))⟩
end DL
set_option Elab.async false
set_option linter.all false
set_option maxRecDepth 100000
set_option maxHeartbeats 4000000
/-! Ai: texts: {x} and f-strings, str(int), sep.join(texts), split, partition. -/
namespace DL
open PySem PySem.Spec L2
open PyProof.Rows hiding St
section
variable {X : Cx} {T : Tab} {E : WX} {pos pp apos : Pos} {a b : Expr} {p q : Me}
/-! ### {x} -/
def fmtR (x : W) (S : Sto) : Res := match x with
  | .str y => if y.length ≤ 16777216 then .ok (.str y) S else .bad
  | .int i => if i.natAbs.log2 < 1920 then .ok (.str (toString i)) S else .bad
  | _ => .bad
def mFmt (a : Me) : Me := fun ρ S => (a ρ S).bind fmtR
theorem w_fmt (ha : PE X a (tW T X.K E p)) : PE X (.FormattedValue a (-1) none pos) (tW T X.K E (mFmt p)) := by
  refine peM (pe_fmt ha) ?_
  rintro σ H Q ⟨F, al, S, ρ, g, e, h⟩
  refine (tW.bind g e h).imp fun x H1 ⟨F1, al1, S1, w, m, r, h1⟩ => ?_
  cases w with
  | str y =>
    cases r
    replace h1 : RQ T X.K E σ F1 al1 H1 (if y.length ≤ 16777216 then .ok (.str y) S1 else .bad) Q := h1
    split at h1
    · rename_i hz
      exact .inl ⟨y, rfl, by rw [sizeLine_eq]; exact hz, h1.val m.g (.str _)⟩
    · exact h1.elim
  | int i =>
    cases r
    replace h1 : RQ T X.K E σ F1 al1 H1 (if i.natAbs.log2 < 1920 then .ok (.str (toString i)) S1 else .bad) Q := h1
    split at h1
    · rename_i hz
      exact .inr ⟨i, rfl, hz, h1.val m.g (.str _)⟩
    · exact h1.elim
  | _ => exact h1.elim
/-! ### the parts one behind the other -/
def mJs : List Me → Str → Env → Sto → Res
  | [], acc, _, S => .ok (.str acc) S
  | m :: ms, acc, ρ, S => (m ρ S).bind fun x S => match x with
    | .str y => if (acc ++ y).length ≤ 16777216 then mJs ms (acc ++ y) ρ S else .bad
    | _ => .bad
theorem js_imp {K : PySem.W.Frag} {σ : L2.St} {Q : VK} : ∀ (ms : List Me) (acc : Str) (F : Hp) (al : List Addr) (S : Sto) (ρ : Env) (H : Hp), Good T K F al S H → EnvOk T K F al σ ρ → RQ T K E σ F al H (mJs ms acc ρ S) Q → tJs (ms.map (tW T K E)) acc σ H fun out H1 => Q (.str out) H1
  | [], acc, F, al, S, ρ, H, g, e, h => RQ.val h g (.str acc)
  | m :: ms, acc, F, al, S, ρ, H, g, e, h => by
    refine (tW.bind g e h).imp fun x H1 ⟨F1, al1, S1, w, md, r, h1⟩ => ?_
    cases w with
    | str y =>
      cases r
      replace h1 : RQ T K E σ F1 al1 H1 (if (acc ++ y).length ≤ 16777216 then mJs ms (acc ++ y) ρ S1 else .bad) Q := h1
      split at h1
      · rename_i hz
        exact ⟨y, rfl, by rw [sizeLine_eq]; exact hz, js_imp ms _ F1 al1 S1 ρ H1 md.g md.e h1⟩
      · exact h1.elim
    | _ => exact h1.elim
theorem w_joined {v1 v2 : Expr} {rest : List Expr} {ms : List Me} (h : PJ X (v1 :: v2 :: rest) (ms.map (tW T X.K E))) : PE X (.JoinedStr (v1 :: v2 :: rest) pos) (tW T X.K E (mJs ms Str.empty)) := by
  refine peM (pe_joined h) ?_
  rintro σ H Q ⟨F, al, S, ρ, g, e, h⟩
  exact js_imp ms _ F al S ρ H g e h
/-! ### str(int) -/
def strR (x : W) (S : Sto) : Res := match x with
  | .int i => if i.natAbs.log2 < 1920 then .ok (.str (toString i)) S else .bad
  | _ => .bad
def mStrI (a : Me) : Me := fun ρ S => (a ρ S).bind strR
theorem w_strI (hg : Gl X "str") (hm : X.mg "str" = none) (ha : PE X a (tW T X.K E p)) (he : starEach [a] X.env = (false, eval a X.env) :: starEach [] X.env) : PE X (.Call (.Name "str" pp) [a] [] pos) (tW T X.K E (mStrI p)) := by
  refine peM (pe_callTy call_str_int hg hm (show bootBuiltins "str" = some (.type "str") by decide +kernel) (pa_cons ha pa_nil he) (by decide) rfl he rfl) ?_
  rintro σ H Q ⟨F, al, S, ρ, g, e, h⟩
  refine (tW.bind g e h).imp fun x H1 ⟨F1, al1, S1, w, m, r, h1⟩ => ?_
  cases w with
  | int i =>
    cases r
    replace h1 : RQ T X.K E σ F1 al1 H1 (if i.natAbs.log2 < 1920 then .ok (.str (toString i)) S1 else .bad) Q := h1
    split at h1
    · rename_i hz
      exact ⟨i, rfl, hz, h1.val m.g (.str _)⟩
    · exact h1.elim
  | _ => exact h1.elim
/-! ### sep.join -/
def strsOf : List W → Option (List Str)
  | [] => some []
  | .str y :: ws => (strsOf ws).map (y :: ·)
  | _ :: _ => none
def joinR (x : Str) (ws : List W) (S : Sto) : Res := match strsOf ws with
  | some ys => if (ys.map (·.length)).sum + ys.length * x.length ≤ 16777216 then .ok (.str (Txt.join x ys)) S else .bad
  | none => .bad
def joinV (x : Str) (w : W) (S : Sto) : Res := match w with
  | .lst ws => joinR x ws S
  | .tup ws => joinR x ws S
  | _ => .bad
def txtR (x : W) (k : Str → Res) : Res := match x with
  | .str s => k s
  | _ => .bad
def mJoin (a b : Me) : Me := fun ρ S => (a ρ S).bind fun x S => txtR x fun s => (b ρ S).bind fun y S => joinV s (deref S y) S
theorem strsOf_vals {K : PySem.W.Frag} {F : Hp} {al : List Addr} : ∀ {ws : List W} {ys : List Str} {xs : List V}, strsOf ws = some ys → RwL T K F al xs ws → xs = ys.map V.str
  | [], ys, xs, h, r => by cases h; cases r; rfl
  | w :: ws, ys, xs, h, r => by
    cases r with
    | cons r1 r2 =>
      cases w with
      | str y =>
        cases r1
        simp only [strsOf, Option.map_eq_some_iff] at h
        obtain ⟨zs, e, rfl⟩ := h
        rw [strsOf_vals e r2]; rfl
      | _ => cases h
theorem w_join (ha : PE X a (tW T X.K E p)) (hb : PE X b (tW T X.K E q)) (hs : starEach [b] X.env = [(false, eval b X.env)]) (hbase : attributeBase a "join" X.env (eval a X.env) = eval a X.env) (hline : (apos.endLine == pos.line) = true) : PE X (.Call (.Attribute a "join" apos) [b] [] pos) (tW T X.K E (mJoin p q)) := by
  refine peM (pe_join ha hb hs hbase hline) ?_
  rintro σ H Q ⟨F, al, S, ρ, g, e, h⟩
  refine (tW.bind g e h).imp fun x H1 ⟨F1, al1, S1, w, m, r, h1⟩ => ?_
  cases w with
  | str s =>
    cases r
    refine ⟨⟨s, rfl⟩, (tW.bind m.g m.e h1).imp fun y H2 ⟨F2, al2, S2, u, m2, r2, h2⟩ => ?_⟩
    have vw := vw_of m2.g r2
    cases hq : deref S2 u with
    | lst ws =>
      rw [hq] at vw h2
      obtain ⟨b, xs, e, sq, rl⟩ := vw.lst m2.g.sub
      replace h2 : RQ T X.K E σ F2 al2 H2 (joinR s ws S2) Q := h2
      unfold joinR at h2
      split at h2
      · rename_i ys hy
        split at h2
        · rename_i hz
          refine ⟨s, b, ys, rfl, by rw [e], .inl ?_, hz, h2.val m2.g (.str _)⟩
          rw [← strsOf_vals hy rl]; exact sq
        · exact h2.elim
      · exact h2.elim
    | tup ws =>
      rw [hq] at vw h2
      obtain ⟨b, xs, e, sq, rl⟩ := vw.tup m2.g.sub
      replace h2 : RQ T X.K E σ F2 al2 H2 (joinR s ws S2) Q := h2
      unfold joinR at h2
      split at h2
      · rename_i ys hy
        split at h2
        · rename_i hz
          refine ⟨s, b, ys, rfl, by rw [e], .inr ?_, hz, h2.val m2.g (.str _)⟩
          rw [← strsOf_vals hy rl]; exact sq
        · exact h2.elim
      · exact h2.elim
    | _ => rw [hq] at h2; exact h2.elim
  | _ => exact h1.elim
/-! ### split, partition -/
theorem strs_rw {K : PySem.W.Frag} {F : Hp} {al : List Addr} : ∀ ys : List Str, RwL T K F al (ys.map V.str) (ys.map W.str)
  | [] => .nil
  | y :: ys => .cons (.str y) (strs_rw ys)
def splitR (x y : Str) (S : Sto) : Res := if (y.length == 0) = false ∧ x.length + 2 ≤ 16777216 then .ok (.lst ((Txt.split x y).map W.str)) S else .bad
def mSplit (a b : Me) : Me := fun ρ S => (a ρ S).bind fun x S => txtR x fun s => (b ρ S).bind fun y S => txtR y fun t => splitR s t S
theorem w_split (ha : PE X a (tW T X.K E p)) (hb : PE X b (tW T X.K E q)) (hs : starEach [b] X.env = [(false, eval b X.env)]) (hbase : attributeBase a "split" X.env (eval a X.env) = eval a X.env) (hline : (apos.endLine == pos.line) = true) : PE X (.Call (.Attribute a "split" apos) [b] [] pos) (tW T X.K E (mSplit p q)) := by
  refine peM (pe_split ha hb hs hbase hline) ?_
  rintro σ H Q ⟨F, al, S, ρ, g, e, h⟩
  refine (tW.bind g e h).imp fun x H1 ⟨F1, al1, S1, w, m, r, h1⟩ => ?_
  cases w with
  | str s =>
    cases r
    refine ⟨⟨s, rfl⟩, (tW.bind m.g m.e h1).imp fun y H2 ⟨F2, al2, S2, u, m2, r2, h2⟩ => ?_⟩
    cases u with
    | str t =>
      cases r2
      replace h2 : RQ T X.K E σ F2 al2 H2 (splitR s t S2) Q := h2
      unfold splitR at h2
      split at h2
      · rename_i hz
        exact ⟨s, t, rfl, rfl, hz.1, by rw [sizeLine_eq]; exact hz.2, fun p hp => h2.newL m2.g (strs_rw _) hp⟩
      · exact h2.elim
    | _ => exact h2.elim
  | _ => exact h1.elim
def partR (x y : Str) (S : Sto) : Res := if (y.length == 0) = false ∧ x.length ≤ 16777216 then .ok (.tup [.str (Txt.partition x y).1, .str (Txt.partition x y).2.1, .str (Txt.partition x y).2.2]) S else .bad
def mPtn (a b : Me) : Me := fun ρ S => (a ρ S).bind fun x S => txtR x fun s => (b ρ S).bind fun y S => txtR y fun t => partR s t S
theorem w_ptn (ha : PE X a (tW T X.K E p)) (hb : PE X b (tW T X.K E q)) (hs : starEach [b] X.env = [(false, eval b X.env)]) (hbase : attributeBase a "partition" X.env (eval a X.env) = eval a X.env) (hline : (apos.endLine == pos.line) = true) : PE X (.Call (.Attribute a "partition" apos) [b] [] pos) (tW T X.K E (mPtn p q)) := by
  refine peM (pe_partition ha hb hs hbase hline) ?_
  rintro σ H Q ⟨F, al, S, ρ, g, e, h⟩
  refine (tW.bind g e h).imp fun x H1 ⟨F1, al1, S1, w, m, r, h1⟩ => ?_
  cases w with
  | str s =>
    cases r
    refine ⟨⟨s, rfl⟩, (tW.bind m.g m.e h1).imp fun y H2 ⟨F2, al2, S2, u, m2, r2, h2⟩ => ?_⟩
    cases u with
    | str t =>
      cases r2
      replace h2 : RQ T X.K E σ F2 al2 H2 (partR s t S2) Q := h2
      unfold partR at h2
      split at h2
      · rename_i hz
        exact ⟨s, t, rfl, rfl, hz.1, by rw [sizeLine_eq]; exact hz.2, fun p hp => h2.new m2.g (.cons (.str _) (.cons (.str _) (.cons (.str _) .nil))) hp⟩
      · exact h2.elim
    | _ => exact h2.elim
  | _ => exact h1.elim
/-! ### int(text) -/
def intTR (x : W) (S : Sto) : Res := match x with
  | .str y => match PySem.intText? y with
    | some n => if y.length ≤ 640 then .ok (.int n) S else .bad
    | none => .bad
  | _ => .bad
def mIntT (a : Me) : Me := fun ρ S => (a ρ S).bind intTR
theorem w_intT (hg : Gl X "int") (hm : X.mg "int" = none) (ha : PE X a (tW T X.K E p)) (he : starEach [a] X.env = (false, eval a X.env) :: starEach [] X.env) : PE X (.Call (.Name "int" pp) [a] [] pos) (tW T X.K E (mIntT p)) := by
  refine peM (pe_callTy call_int_str hg hm PyProof.Rows.boot_int (pa_cons ha pa_nil he) (by decide) rfl he rfl) ?_
  rintro σ H Q ⟨F, al, S, ρ, g, e, h⟩
  refine (tW.bind g e h).imp fun x H1 ⟨F1, al1, S1, w, m, r, h1⟩ => ?_
  cases w with
  | str y =>
    cases r
    replace h1 : RQ T X.K E σ F1 al1 H1 (intTR (.str y) S1) Q := h1
    unfold intTR at h1
    simp only at h1
    split at h1
    · rename_i n hn
      split at h1
      · rename_i hz
        exact ⟨y, n, rfl, hn, hz, h1.val m.g (.int _)⟩
      · exact h1.elim
    · exact h1.elim
  | _ => exact h1.elim
end
end DL
set_option Elab.async false
set_option linter.all false
set_option maxRecDepth 100000
set_option maxHeartbeats 4000000
/-! Aa: defs that ask for repr, called by other defs; the end of a law with several tables of code objects. -/
namespace DL
open PySem PySem.Spec L2 PyProof.Rows LamX
/-! ### several tables -/
def TbAt (T : Tab) (K : PySem.W.Frag) : List Addr → List Nat → Prop
  | [], [] => True
  | f :: fs, j :: js => (∃ q, T.tbs[j]? = some (tblOfA K f, q)) ∧ TbAt T K fs js
  | _, _ => False
theorem TbAt.len {T : Tab} {K : PySem.W.Frag} : ∀ {fs : List Addr} {js : List Nat}, TbAt T K fs js → js.length = fs.length
  | [], [], _ => rfl
  | _ :: _, _ :: _, h => congrArg (· + 1) (TbAt.len h.2)
  | [], _ :: _, h => h.elim
  | _ :: _, [], h => h.elim
theorem TbAt.get {T : Tab} {K : PySem.W.Frag} : ∀ {fs : List Addr} {js : List Nat} {i : Nat} {g : Addr} {j : Nat}, TbAt T K fs js → fs[i]? = some g → js[i]? = some j → ∃ q, T.tbs[j]? = some (tblOfA K g, q)
  | [], _, _, _, _, _, h1, _ => by simp at h1
  | _ :: _, [], _, _, _, h, _, _ => h.elim
  | _ :: _, _ :: _, 0, _, _, h, h1, h2 => by
    simp at h1 h2
    subst h1 h2
    exact h.1
  | _ :: _, _ :: _, i + 1, _, _, h, h1, h2 => TbAt.get (i := i) h.2 (by simpa using h1) (by simpa using h2)
end DL
set_option Elab.async false
set_option linter.all false
set_option maxRecDepth 100000
set_option maxHeartbeats 4000000
/-! Ab: a lambda with one parameter that has a default (a whole number) and is not read, handed to a def. -/
namespace DL
open PySem PySem.Spec L2 PyProof.Rows LamX
end DL
set_option Elab.async false
set_option linter.all false
set_option maxRecDepth 100000
set_option maxHeartbeats 4000000
/-! Ac: isinstance(x, an own class), x data, or an instance. -/
namespace DL
open PySem PySem.Spec L2 PyProof.Rows LamX
/-- of which class a thing is: l tells of instances -/
def isOwnW (l : List (Nat × Bool)) (S : Sto) (w : W) : Option Bool := match derefF S w with
  | .non => some false
  | .bl _ => some false
  | .int _ => some false
  | .str _ => some false
  | .tup _ => some false
  | .lst _ => some false
  | .ins d _ => l.lookup d
  | .loc n => match S[n]? with
    | some (.obj d _) => l.lookup d
    | _ => none
  | _ => none
def mIsC (l : List (Nat × Bool)) (a : Me) : Me := fun ρ S => (a ρ S).bind fun x S => optR S ((isOwnW l S x).map .bl)
end DL
set_option Elab.async false
set_option linter.all false
set_option maxRecDepth 100000
set_option maxHeartbeats 4000000
/-! Ae: a method called without its last arguments. -/
namespace DL
open PySem PySem.Spec L2 PyProof.Rows LamX
end DL
set_option Elab.async false
set_option linter.all false
set_option maxRecDepth 100000
set_option maxHeartbeats 4000000
/-! Zt: C(.., k = v): the new instance stays a cell. -/
namespace DL
open PySem PySem.Spec L2 PyProof.Rows
end DL
set_option Elab.async false
set_option linter.all false
set_option maxRecDepth 100000
set_option maxHeartbeats 4000000
/-! Zu: sorted(set(t) | {r}), t and r numbers from 0 to 4. -/
namespace L2
open PySem PySem.Spec PyProof.Rows
/-! ### the layings of a table of small numbers: a finite look -/
end L2
set_option Elab.async false
set_option linter.all false
set_option maxRecDepth 100000
set_option maxHeartbeats 4000000
/-! Zv: a set copied (under way). -/
namespace L2
open PySem PySem.Spec PyProof.Rows
section
variable {P : Program} {w : World} {A : Around} {E : Value → Shared → Prop} {s : Shared}
def mk (n : Nat) : Nat := if n ≤ 4 then 7 else 15
end
end L2
set_option Elab.async false
set_option linter.all false
set_option maxRecDepth 100000
set_option maxHeartbeats 4000000
/-! Zw: one number more merged into a small set. -/
namespace L2
open PySem PySem.Spec PyProof.Rows
end L2
set_option Elab.async false
set_option linter.all false
set_option maxRecDepth 100000
set_option maxHeartbeats 4000000
/-! Zx: the union of a small set and a set of one number (under way). -/
namespace L2
open PySem PySem.Spec PyProof.Rows
end L2
set_option Elab.async false
set_option linter.all false
set_option maxRecDepth 100000
set_option maxHeartbeats 4000000
/-! Zy2: a set | a set of one number. -/
namespace L2
open PySem PySem.Spec PyProof.Rows
end L2
set_option Elab.async false
set_option linter.all false
set_option maxRecDepth 100000
set_option maxHeartbeats 4000000
/-! Zy3: the display {r} of one number (under way). -/
namespace L2
open PySem PySem.Spec PyProof.Rows
end L2
set_option Elab.async false
set_option linter.all false
set_option maxRecDepth 100000
set_option maxHeartbeats 4000000
/-! Zy4: the display {name}. -/
namespace L2
open PySem PySem.Spec PyProof.Rows
end L2
set_option Elab.async false
set_option linter.all false
set_option maxRecDepth 100000
set_option maxHeartbeats 4000000
/-! Zy5: sorted(set(t) | {name}), numbers from 0 to 4. -/
namespace DL
open PySem PySem.Spec L2 PyProof.Rows
end DL
set_option Elab.async false
set_option linter.all false
set_option maxRecDepth 100000
set_option maxHeartbeats 4000000
/-! Af: a def whose code is known to lie in the frame (for the display of a set). -/
namespace DL
open PySem PySem.Spec L2 PyProof.Rows LamX
end DL
set_option Elab.async false
set_option linter.all false
set_option maxRecDepth 100000
set_option maxHeartbeats 4000000
/-! Ag: != of instances whose class has its own == (object.__ne__ asks it), == likewise: over the frame. -/
namespace DL.OwnCmp
open PySem PySem.Spec PyProof.Rows PySem.SeqAt
end DL.OwnCmp
set_option Elab.async false
set_option linter.all false
set_option maxRecDepth 100000
set_option maxHeartbeats 4000000
/-! Ah: x == y, x != y of instances whose class has its own == . -/
namespace DL
open PySem PySem.Spec L2 PyProof.Rows
def boolR (neg : Bool) : Res → Res
  | .ok (.bl k) S => .ok (.bl (if neg then !k else k)) S
  | .ok _ _ => .bad
  | .exc x S => .exc x S
  | .bad => .bad
/-- x == y, or x != y, both instances of class c, data -/
def mEqO (neg : Bool) (c : Nat) (ψ : Fn) (a b : Me) : Me := fun ρ S => (a ρ S).bind fun x S => (b ρ S).bind fun y S => if isIns c x && x.nl && (isIns c y && y.nl) then boolR neg (pureR (ψ [x, y] []) S) else .bad
end DL
set_option Elab.async false
set_option linter.all false
set_option maxRecDepth 100000
set_option maxHeartbeats 4000000
/-! Aj: str(x) by an own __str__: x as data, x a cell. -/
namespace DL
open PySem PySem.Spec L2 PyProof.Rows
section
variable {X : Cx} {T : Tab} {b : Expr} {p : Me} {pos pp : Pos}
def strC (y : W) (S : Sto) : Res := match y with
  | .str n => .ok (.str n) S
  | _ => .bad
def mStrO (c : Nat) (ψ : Fn) (a : Me) : Me := fun ρ S => (a ρ S).bind fun x S => if isIns c x && x.nl then (pureR (ψ [x] []) S).bind strC else .bad
def mStrC (c : Nat) (ψ : Fn) (a : Me) : Me := fun ρ S => (a ρ S).bind fun x S => if isObj c S x then (ψ [x] S).bind strC else .bad
end
end DL
set_option Elab.async false
set_option linter.all false
set_option maxRecDepth 100000
set_option maxHeartbeats 4000000
/-! Ak: x == y by x's own ==, x a cell, y anything whose class is known; x != y, both cells of one class. -/
namespace DL
open PySem PySem.Spec L2 PyProof.Rows LamX
/-- x == y, x a cell of class c; l tells of which classes y may be an instance -/
def mEqC (c : Nat) (l : List (Nat × Bool)) (ψ : Fn) (a b : Me) : Me := fun ρ S => (a ρ S).bind fun x S => (b ρ S).bind fun y S => if isObj c S x && (isOwnW l S y).isSome then boolR false (ψ [x, y] S) else .bad
/-- x != y, both cells of class c -/
def mNeC (c : Nat) (ψ : Fn) (a b : Me) : Me := fun ρ S => (a ρ S).bind fun x S => (b ρ S).bind fun y S => if isObj c S x && isObj c S y then boolR true (ψ [x, y] S) else .bad
end DL
set_option Elab.async false
set_option linter.all false
set_option maxRecDepth 100000
set_option maxHeartbeats 4000000
/-! Al: x in a list, where items are asked by an own ==. -/
namespace DL.OwnIn
open PySem PySem.SeqAt
open AutoSeq1 (wpAny_loadPart')
open MeetsSeq MeetsSeq2 MeetsSeq3 SeqRoads2
/-! ### None == x, x of a class with its own == -/
end DL.OwnIn
namespace DL
open PySem PySem.Spec L2 PyProof.Rows
end DL
set_option Elab.async false
set_option linter.all false
set_option maxRecDepth 100000
set_option maxHeartbeats 4000000
/-! Am: x in [..], x a cell of a class with its own ==, the items None or such cells. -/
namespace DL
open PySem PySem.Spec L2 PyProof.Rows
def inStep (r : Res) (k : Sto → Res) : Res := match r with
  | .ok (.bl b) S => if b = true then .ok (.bl true) S else k S
  | .ok _ _ => .bad
  | .exc x S => .exc x S
  | .bad => .bad
def inOwn (c : Nat) (ψ : Fn) (n : Nat) : List W → Sto → Res
  | [], S => .ok (.bl false) S
  | y :: ys, S => if isObj c S (.loc n) then match y with
    | .non => inStep (ψ [.loc n, .non] S) (inOwn c ψ n ys)
    | .loc m => if m = n then .ok (.bl true) S else if isObj c S (.loc m) then inStep (ψ [.loc m, .loc n] S) (inOwn c ψ n ys) else .bad
    | _ => .bad
    else .bad
def inOR (c : Nat) (ψ : Fn) (x y : W) (S : Sto) : Res := match x, y with
  | .loc n, .lst ws => inOwn c ψ n ws S
  | _, _ => .bad
def mInO (c : Nat) (ψ : Fn) (a b : Me) : Me := fun ρ S => (a ρ S).bind fun x S => (b ρ S).bind fun y S => inOR c ψ x y S
end DL
set_option Elab.async false
set_option linter.all false
set_option maxRecDepth 100000
set_option maxHeartbeats 4000000
/-! An: len(x) by an own __len__, x a cell. -/
namespace DL
open PySem PySem.Spec L2
section
variable {X : Cx} {T : Tab} {b : Expr} {p : Me} {pos pp : Pos}
def mLenC (c : Nat) (ψ : Fn) (a : Me) : Me := fun ρ S => (a ρ S).bind fun x S => if isObj c S x then (ψ [x] S).bind lenC else .bad
end
end DL
set_option Elab.async false
set_option linter.all false
set_option maxRecDepth 100000
set_option maxHeartbeats 4000000
/-! Ao: compares by an own == as tests. -/
namespace DL
open PySem PySem.Spec L2 PyProof.Rows LamX
end DL
set_option Elab.async false
set_option linter.all false
set_option maxRecDepth 100000
set_option maxHeartbeats 4000000
/-! Ap: x == y, one of the two a data instance with its own ==, the other anything, both ways about. -/
namespace DL.OwnRev
open PySem PySem.SeqAt
open AutoSeq1 (wpAny_loadPart')
end DL.OwnRev
namespace DL
open PySem PySem.Spec L2 PyProof.Rows LamX
end DL
set_option Elab.async false
set_option linter.all false
set_option maxRecDepth 100000
set_option maxHeartbeats 4000000
/-! Aq: repr(x) by an own __repr__; not x by an own __len__; x data. -/
namespace DL
open PySem PySem.Spec L2 PyProof.Rows LamX
end DL
set_option Elab.async false
set_option linter.all false
set_option maxRecDepth 100000
set_option maxHeartbeats 4000000
/-! Ar: xs.pop(). -/
namespace DL
open PySem PySem.Spec L2 PyProof.Rows
end DL
set_option Elab.async false
set_option linter.all false
set_option maxRecDepth 100000
set_option maxHeartbeats 4000000
/-! As: x.m() on a cell inside a try, whatever is wished of what it raises. -/
namespace DL
open PySem PySem.Spec L2 PyProof.Rows
end DL
set_option Elab.async false
set_option linter.all false
set_option maxRecDepth 100000
set_option maxHeartbeats 4000000
/-! At: str(x) of any data whose shown text is short. -/
namespace DL
open PySem PySem.Spec L2
open PyProof.Rows hiding St
end DL
set_option Elab.async false
set_option linter.all false
set_option maxRecDepth 100000
set_option maxHeartbeats 4000000
/-! Au: C(e).f and C(f = e).f of an own error class that keeps one field. -/
namespace PySem
end PySem
namespace DL
open PySem PySem.Spec L2 PyProof.Rows
open PySem.GX (BaseB refsB)
end DL
set_option Elab.async false
set_option linter.all false
set_option maxRecDepth 100000
set_option maxHeartbeats 4000000
/-! Av: C(e).f, C(f = e).f of an own error class; defaults ahead of keywords; data instances made by keywords alone. -/
namespace DL
open PySem PySem.Spec L2 PyProof.Rows
open PySem.GX (BaseB refsB)
/-! ### defaults ahead of keywords -/
end DL
set_option Elab.async false
set_option linter.all false
set_option maxRecDepth 100000
set_option maxHeartbeats 4000000
/-! Aw: C(k = v, ..) by keywords alone, the new instance as data. -/
namespace DL
open PySem PySem.Spec L2 PyProof.Rows
end DL
set_option Elab.async false
set_option linter.all false
set_option maxRecDepth 100000
set_option maxHeartbeats 4000000
/-! Ax: a call whose answer is data or a new list; two lists of instances are equal. -/
namespace DL
open PySem PySem.Spec L2 PyProof.Rows
/-! ### looking at cells as at data: what comes of it is flat -/
end DL
set_option Elab.async false
set_option linter.all false
set_option maxRecDepth 100000
set_option maxHeartbeats 4000000
/-! Ay: dicts with texts as keys, that may hold cells: a display of two, d[k], d[k] = v. -/
namespace DL
open PySem PySem.Spec L2 PyProof.Rows
end DL
set_option Elab.async false
set_option linter.all false
set_option maxRecDepth 100000
set_option maxHeartbeats 4000000
/-! Az: bool(x) by an own __len__, x a cell. -/
namespace DL
open PySem PySem.Spec L2 PyProof.Rows LamX
end DL
set_option Elab.async false
set_option linter.all false
set_option maxRecDepth 100000
set_option maxHeartbeats 4000000
/-! Ba: a def called by a local name that holds it; a name of the module that stands for a tuple of defs. -/
namespace DL
open PySem PySem.Spec L2
/-- a def as a value: ψ is what a call with written arguments does -/
def CallN (T : Tab) (P : Program) (w : World) (K : PySem.W.Frag) (mg : Str → Option Value) (base : Heap) (k q : Nat) (φ : Fn) : Prop :=
  ∃ (f : Addr) (fd : FuncData) (pn : List Str) (n : Nat), FnOk P w K mg base (L2.CX P w) k f fd pn (spW T K n φ) ∧ TakesN n φ ∧ T.fns[q]? = some f ∧ PySem.W.keepIn K (.ref f) = true ∧ Binds K fd pn []
/-- several defs, each at its level -/
inductive CallNs (T : Tab) (P : Program) (w : World) (K : PySem.W.Frag) (mg : Str → Option Value) (base : Heap) (j : Nat) : List (Nat × Fn) → Prop
  | nil : CallNs T P w K mg base j []
  | cons {k q : Nat} {φ : Fn} {l : List (Nat × Fn)} : k ≤ j → CallN T P w K mg base k q φ → CallNs T P w K mg base j l → CallNs T P w K mg base j ((q, φ) :: l)
theorem CallNs.at {T : Tab} {P : Program} {w : World} {K : PySem.W.Frag} {mg : Str → Option Value} {base : Heap} {j : Nat} : ∀ {l : List (Nat × Fn)}, CallNs T P w K mg base j l → ∀ p ∈ l, ∃ k, k ≤ j ∧ CallN T P w K mg base k p.1 p.2
  | _, .cons h c r, p, hp => by
    rcases List.mem_cons.mp hp with rfl | hp
    · exact ⟨_, h, c⟩
    · exact r.at p hp
/-! ### texts: sign by sign -/
def signs (z : Str) : List W := z.cps.toList.map fun c => .str ⟨#[c]⟩
def jStr (a : Me) : Ml := fun ρ S => (a ρ S).bindL fun x S => match x with
  | .str z => .ok (signs z) S
  | _ => .bad
def inSR (x y : W) (S : Sto) : Res := match x, y with
  | .str s, .str z => match s.cps.toList with
    | [c] => .ok (.bl (decide (c ∈ z.cps.toList))) S
    | _ => .bad
  | _, _ => .bad
def mInS (a b : Me) : Me := fun ρ S => (a ρ S).bind fun x S => (b ρ S).bind fun y S => inSR x y S
def ixSR (x y : W) (S : Sto) : Res := match x, y with
  | .str z, .int i => if z.length ≤ 16777216 then optR S ((L2.atI z.cps.toList i).map fun c => .str ⟨#[c]⟩) else .bad
  | _, _ => .bad
def mIdxS (a b : Me) : Me := fun ρ S => (a ρ S).bind fun x S => (b ρ S).bind fun y S => ixSR x y S
section
variable {X : Cx} {T : Tab} {E : WX} {pos : Pos} {a b tg : Expr} {p q : Me}
theorem i_str (h : PE X a (tW T X.K E p)) : PI X tg a (tI T X.K E (jStr p)) := by
  refine piM (pi_str h) ?_
  rintro σ H R ⟨F, al, S, ρ, g, e, h⟩
  refine (tW.bindI g e h).imp fun x H1 ⟨F1, al1, S1, w, m, r, h1⟩ => ?_
  cases w with
  | str z =>
    cases r
    replace h1 : IQ T X.K E σ F1 al1 H1 (.ok (signs z) S1) R := h1
    refine ⟨z, rfl, h1.val m.g ?_⟩
    have hl : (signs z).length = z.cps.size := by unfold signs; rw [List.length_map, Array.length_toList]
    refine ⟨_, _, by rw [hl]; exact walk_str, fun _ _ => trivial, ?_⟩
    rintro i H v H' hi ⟨rfl, c, hc, rfl⟩ F1 al1 S1 s p g
    refine ⟨F1, .str ⟨#[c]⟩, ?_, g, Post.refl, .str _⟩
    unfold signs
    rw [List.getElem?_map, Array.getElem?_toList, hc]; rfl
  | _ => exact h1.elim
theorem w_inS (ha : PE X a (tW T X.K E p)) (hb : PE X b (tW T X.K E q)) (hm : behindInMarks .In b = false) : PE X (.Compare a [.In] [b] pos) (tW T X.K E (mInS p q)) := by
  refine peM (pe_cmpR op_in_sign ha hb hm) ?_
  rintro σ H Q ⟨F, al, S, ρ, g, e, h⟩
  refine (tW.bind g e h).imp fun x H1 ⟨F1, al1, S1, w, m, r, h1⟩ => ?_
  refine (tW.bind m.g m.e h1).imp fun y H2 ⟨F2, al2, S2, u, m2, r2, h2⟩ => ?_
  cases w with
  | str s =>
    cases u with
    | str z =>
      cases r; cases r2
      replace h2 : RQ T X.K E σ F2 al2 H2 (match s.cps.toList with
        | [c] => .ok (.bl (decide (c ∈ z.cps.toList))) S2
        | _ => .bad) Q := h2
      split at h2
      · rename_i c hc
        refine ⟨c, z, ?_, rfl, h2.val m2.g (.bl _)⟩
        obtain ⟨cps⟩ := s
        have : cps = #[c] := by rw [← Array.toArray_toList (xs := cps), hc]
        rw [this]
      · exact h2.elim
    | _ => exact h2.elim
  | _ => exact h2.elim
theorem w_idxS (ha : PE X a (tW T X.K E p)) (hb : PE X b (tW T X.K E q)) (hs : PlainIx b) : PE X (.Subscript a b pos) (tW T X.K E (mIdxS p q)) := by
  refine peM (pe_ix ix_str ha hb hs) ?_
  rintro σ H Q ⟨F, al, S, ρ, g, e, h⟩
  refine (tW.bind g e h).imp fun x H1 ⟨F1, al1, S1, w, m, r, h1⟩ => ?_
  refine (tW.bind m.g m.e h1).imp fun y H2 ⟨F2, al2, S2, u, m2, r2, h2⟩ => ?_
  cases w with
  | str z =>
    cases u with
    | int i =>
      cases r; cases r2
      replace h2 : RQ T X.K E σ F2 al2 H2 (if z.length ≤ 16777216 then optR S2 ((L2.atI z.cps.toList i).map fun c => .str ⟨#[c]⟩) else .bad) Q := h2
      split at h2
      · rename_i hz
        obtain ⟨w, e1, h3⟩ := optR_some h2
        rw [Option.map_eq_some_iff] at e1
        obtain ⟨c, e1, rfl⟩ := e1
        exact ⟨z, i, c, rfl, rfl, by rw [sizeLine_eq]; exact hz, e1, h3.val m2.g (.str _)⟩
      · exact h2.elim
    | _ => exact h2.elim
  | _ => exact h2.elim
end
end DL
set_option Elab.async false
set_option linter.all false
set_option maxRecDepth 100000
set_option maxHeartbeats 4000000
/-! Bb: for i, (x, y) in enumerate(zip(a, b, strict=True), start=c). -/
namespace DL
open PySem PySem.Spec L2
def jEnZip (c : Int) (a b : Me) : Ml := fun ρ S => (a ρ S).bindL fun x S => (b ρ S).bindL fun y S => match items x, items y with
  | some us, some ws => if us.length = ws.length then .ok (jEnum.enumI c (zipW us ws)) S else .bad
  | _, _ => .bad
end DL
set_option Elab.async false
set_option linter.all false
set_option maxRecDepth 100000
set_option maxHeartbeats 4000000
/-! PLib: the program's defs and the laws' common defs as functions on data, printed by mklib.py. -/
namespace DL
open PySem PySem.Spec L2
def flds : List Str := ["wheels", "rules", "states", "deeds", "begin", "length", "at", "rule", "wheel", "place", "beats", "out", "tally", "of_book", "stand", "past", "book", "watch", "sightings"]
theorem fldN0 : flds.Nodup := by decide +kernel
def clsL (K : PySem.W.Frag) : List Addr := [He.ga K "Book", He.ga K "Track", He.ga K "Watch", He.ga K "Desk", He.ga K "NoBook", He.ga K "NoSeen", He.ga K "NoText", He.ga K "NoRule", He.ga K "NoWheel", He.ga K "NoPlace", He.ga K "NoBeat", He.ga K "HushError", He.ga K "NoState", He.ga K "NoOrder", He.ga K "NoOff", He.ga K "NoWish", He.ga K "NoSaying", He.ga K "Unlike", He.ga K "Nothing", He.ga K "Stand"]
def tab (P : Program) (w : World) (K : PySem.W.Frag) : Tab := ⟨flds, clsL K, P, w, fun _ _ _ => False, none, [(tblOfA K (He.fAd K ("law", none)), ((("law" : Str) ++ (".<locals>." : Str)) ++ ("<lambda>" : Str))), (tblOfA K (He.fAd K ("_law_right", none)), ((("_law_right" : Str) ++ (".<locals>." : Str)) ++ ("<lambda>" : Str))), (tblOfA K (He.fAd K ("_law_tried", none)), ((("_law_tried" : Str) ++ (".<locals>." : Str)) ++ ("<lambda>" : Str))), (tblOfA K (He.fAd K ("_law_deed", none)), ((("_law_deed" : Str) ++ (".<locals>." : Str)) ++ ("<lambda>" : Str))), (tblOfA K (He.fAd K ("_law_no_watch", none)), ((("_law_no_watch" : Str) ++ (".<locals>." : Str)) ++ ("<lambda>" : Str))), (tblOfA K (He.fAd K ("_law_goes_on", none)), ((("_law_goes_on" : Str) ++ (".<locals>." : Str)) ++ ("<lambda>" : Str))), (tblOfA K (He.fAd K ("_law_each_refused", none)), ((("_law_each_refused" : Str) ++ (".<locals>." : Str)) ++ ("<lambda>" : Str))), (tblOfA K (He.fAd K ("_law_by_its_name", none)), ((("_law_by_its_name" : Str) ++ (".<locals>." : Str)) ++ ("<lambda>" : Str))), (tblOfA K (He.fAd K ("_law_trials", none)), ((("_law_trials" : Str) ++ (".<locals>." : Str)) ++ ("<lambda>" : Str))), (tblOfA K (He.fAd K ("_law_far", none)), ((("_law_far" : Str) ++ (".<locals>." : Str)) ++ ("<lambda>" : Str))), (tblOfA K (He.fAd K ("_law_asked", none)), ((("_law_asked" : Str) ++ (".<locals>." : Str)) ++ ("<lambda>" : Str))), (tblOfA K (He.fAd K ("_law_begun_wrong", none)), ((("_law_begun_wrong" : Str) ++ (".<locals>." : Str)) ++ ("<lambda>" : Str))), (tblOfA K (He.fAd K ("_law_text_refused", none)), ((("_law_text_refused" : Str) ++ (".<locals>." : Str)) ++ ("<lambda>" : Str))), (tblOfA K (He.fAd K ("_law_asks", none)), ((("_law_asks" : Str) ++ (".<locals>." : Str)) ++ ("<lambda>" : Str)))], [He.fAd K ("worded_in", none), He.fAd K ("hush_in", none), He.fAd K ("figures_in", none), He.fAd K ("say_hush", none), He.fAd K ("say_wake", none), He.fAd K ("say_turn", none), He.fAd K ("say_put", none), He.fAd K ("say_off", none), He.fAd K ("say_on", none), He.fAd K ("say_undo", none), He.fAd K ("say_go", none), He.fAd K ("say_state", none), He.fAd K ("say_beat", none), He.fAd K ("say_counts", none), He.fAd K ("say_at", none), He.fAd K ("say_round", none), He.fAd K ("say_quiet", none), He.fAd K ("say_times", none), He.fAd K ("say_nth", none), He.fAd K ("say_never", none), He.fAd K ("say_order", none), He.fAd K ("say_forget", none), He.fAd K ("say_began", none), He.fAd K ("say_clash", none)], fun c => liveB K ((clsL K).getD c 0)⟩
theorem tab_lv {P : Program} {w : World} {K : PySem.W.Frag} : LvOk (tab P w K) K := liveB_ok fun _ => rfl
theorem fldN {P : Program} {w : World} {K : PySem.W.Frag} : (tab P w K).fld.Nodup := fldN0
def f__law_bag : Fn := fnW 2 5 (sSeq (sAsg (.nm 2) (mCon (.int 0))) (sSeq (sIf (bTest (mCmp .Lt (mVar 1) (mPrim .len (mCons (mVar 0) (mNil))))) (sSeq (sAsg (.nm 2) (mIdx (mVar 0) (mVar 1))) (sNext)) (sNext)) (sSeq (sAsg (.nm 3) (mCon (.int 0))) (sSeq (sIf (bTest (mCmp .GtE (mPrim .abs (mCons (mVar 2) (mNil))) (mBin .Pow (mCon (.int 10)) (mCon (.int 18))))) (sSeq (sAsg (.nm 3) (mPrim .abs (mCons (mVar 2) (mNil)))) (sNext)) (sNext)) (sSeq (sAsg (.nm 4) (mLst (mCons (mCon (.int 2147483629)) (mCons (mCon (.int 2147483587)) (mCons (mCon (.int 2147483579)) (mCons (mCon (.int 2147483563)) (mCons (mCon (.int 2147483549)) (mCons (mCon (.int 2147483543)) (mCons (mCon (.int 2147483497)) (mCons (mCon (.int 2147483489)) (mNil))))))))))) (sSeq (sRet (mNLst (mCons (mVar 3) (mCons (mBin .Mod (mBin .Pow (mBin .Add (mBin .Add (mBin .Mod (mVar 2) (mCon (.int 2147483647))) (mBin .Mult (mCon (.int 104729)) (mVar 1))) (mCon (.int 7))) (mCon (.int 5))) (mIdx (mVar 4) (mBin .Mod (mVar 1) (mCon (.int 8))))) (mCons (mCon (.int 0)) (mNil)))))) (sNext)))))))
def f__law_take : Fn := fnW 2 3 (sSeq (sIf (bTest (mCmp .Gt (mIdx (mVar 0) (mCon (.int 0))) (mCon (.int 0)))) (sSeq (sAsg (.nm 2) (mBin .Mod (mIdx (mVar 0) (mCon (.int 0))) (mVar 1))) (sSeq (sSetIx (mVar 0) (mCon (.int 0)) (mBin .FloorDiv (mIdx (mVar 0) (mCon (.int 0))) (mVar 1))) (sSeq (sRet (mVar 2)) (sNext)))) (sNext)) (sSeq (sSetIx (mVar 0) (mCon (.int 2)) (mBin .Add (mIdx (mVar 0) (mCon (.int 2))) (mCon (.int 1)))) (sSeq (sSetIx (mVar 0) (mCon (.int 1)) (mBin .Mod (mBin .Add (mBin .Add (mBin .Mult (mIdx (mVar 0) (mCon (.int 1))) (mCon (.int 48271))) (mBin .Mult (mBin .Mult (mCon (.int 7919)) (mIdx (mVar 0) (mCon (.int 2)))) (mIdx (mVar 0) (mCon (.int 2))))) (mCon (.int 11))) (mCon (.int 2147483647)))) (sSeq (sRet (mBin .Mod (mBin .Mod (mBin .Pow (mBin .FloorDiv (mIdx (mVar 0) (mCon (.int 1))) (mCon (.int 8))) (mCon (.int 3))) (mCon (.int 2147483629))) (mVar 1))) (sNext)))))
def f__law_condition : Fn := fnW 3 5 (sSeq (sAsg (.nm 3) (mIdx (mTup (mCons (mCon (.str "is")) (mCons (mCon (.str "is")) (mCons (mCon (.str "not")) (mCons (mCon (.str "below")) (mCons (mCon (.str "hushed")) (mCons (mCon (.str "awake")) (mNil)))))))) (mCall f__law_take (mCons (mVar 0) (mCons (mCon (.int 6)) (mNil)))))) (sSeq (sIf (bTest (mCmp .In (mVar 3) (mTup (mCons (mCon (.str "hushed")) (mCons (mCon (.str "awake")) (mNil)))))) (sSeq (sRet (mTup (mCons (mVar 3) (mCons (mCall f__law_take (mCons (mVar 0) (mCons (mVar 2) (mNil)))) (mNil))))) (sNext)) (sNext)) (sSeq (sAsg (.nm 4) (mCall f__law_take (mCons (mVar 0) (mCons (mPrim .len (mCons (mVar 1) (mNil))) (mNil))))) (sSeq (sRet (mTup (mCons (mVar 3) (mCons (mVar 4) (mCons (mCall f__law_take (mCons (mVar 0) (mCons (mIdx (mVar 1) (mVar 4)) (mNil)))) (mNil)))))) (sNext)))))
def f__law_change : Fn := fnW 2 3 (sSeq (sAsg (.nm 2) (mCall f__law_take (mCons (mVar 0) (mCons (mPrim .len (mCons (mVar 1) (mNil))) (mNil))))) (sSeq (sRet (mTup (mCons (mIdx (mTup (mCons (mCon (.str "turn")) (mCons (mCon (.str "turn")) (mCons (mCon (.str "put")) (mNil))))) (mCall f__law_take (mCons (mVar 0) (mCons (mCon (.int 3)) (mNil))))) (mCons (mVar 2) (mCons (mCall f__law_take (mCons (mVar 0) (mCons (mIdx (mVar 1) (mVar 2)) (mNil)))) (mNil)))))) (sNext)))
def b__law_rule_1 : Ms := sSeq (sAsg (.nm 8) (mCall f__law_take (mCons (mVar 0) (mCons (mCon (.int 5)) (mNil))))) (sSeq (sIf (bTest (mCmp .Eq (mVar 8) (mCon (.int 0)))) (sSeq (sExpr (mApp (mVar 5) (mTup (mCons (mVar 7) (mCons (mBin .Add (mCon (.int 1)) (mCall f__law_take (mCons (mVar 0) (mCons (mCon (.int 3)) (mNil))))) (mNil)))))) (sNext)) (sNext)) (sSeq (sIf (bTest (mCmp .Eq (mVar 8) (mCon (.int 1)))) (sSeq (sExpr (mApp (mVar 6) (mVar 7))) (sNext)) (sNext)) (sNext)))
def f__law_rule : Fn := fnW 3 10 (sSeq (sAsg (.nm 3) (mLc false [9] (.nm 9) (jRange1 (mIdx (mTup (mCons (mCon (.int 1)) (mCons (mCon (.int 1)) (mCons (mCon (.int 0)) (mCons (mCon (.int 2)) (mCons (mCon (.int 3)) (mCons (mCon (.int 4)) (mNil)))))))) (mCall f__law_take (mCons (mVar 0) (mCons (mCon (.int 6)) (mNil)))))) (bYes) (mCall f__law_condition (mCons (mVar 0) (mCons (mVar 1) (mCons (mVar 2) (mNil))))))) (sSeq (sAsg (.nm 4) (mLc false [9] (.nm 9) (jRange1 (mIdx (mTup (mCons (mCon (.int 1)) (mCons (mCon (.int 1)) (mCons (mCon (.int 2)) (mCons (mCon (.int 0)) (mCons (mCon (.int 3)) (mNil))))))) (mCall f__law_take (mCons (mVar 0) (mCons (mCon (.int 5)) (mNil)))))) (bYes) (mCall f__law_change (mCons (mVar 0) (mCons (mVar 1) (mNil)))))) (sSeq (sPar [5, 6] (mCons (mNLst (mNil)) (mCons (mNLst (mNil)) (mNil)))) (sSeq (sFor (jRange1 (mVar 2)) (.nm 7) (b__law_rule_1)) (sSeq (sRet (mTup (mCons (mPrim .tuple (mCons (mVar 3) (mNil))) (mCons (mPrim .tuple (mCons (mVar 4) (mNil))) (mCons (mPrim .tuple (mCons (mVar 5) (mNil))) (mCons (mPrim .tuple (mCons (mVar 6) (mNil))) (mNil))))))) (sNext))))))
def f__law_any : Fn := fnW 1 2 (sSeq (sAsg (.nm 1) (mLst (mCons (mCon .non) (mCons (mCon (.bl true)) (mCons (mCon (.bl false)) (mCons (mCon (.int 0)) (mCons (mCon (.int 1)) (mCons (mNeg (mCon (.int 1))) (mCons (mCon (.int 2)) (mCons (mCon (.int 5)) (mCons (mBin .Pow (mCon (.int 10)) (mCon (.int 60))) (mCons (mCon (.str "")) (mCons (mCon (.str "is")) (mCons (mCon (.str "0")) (mCons (mCon (.str "free")) (mCons (mLst (mNil)) (mCons (mTup (mNil)) (mCons (mLst (mCons (mCon (.int 0)) (mNil))) (mCons (mTup (mCons (mCon (.int 0)) (mNil))) (mCons (mTup (mCons (mCon (.int 0)) (mCons (mCon (.int 0)) (mNil)))) (mCons (mTup (mCons (mCon (.int 1)) (mCons (mCon (.int 0)) (mNil)))) (mNil)))))))))))))))))))))) (sSeq (sAsg (.nm 1) (mBin .Add (mVar 1) (mLst (mCons (mTup (mCons (mCon (.int 0)) (mCons (mCon (.int 1)) (mCons (mCon (.int 2)) (mNil))))) (mCons (mTup (mCons (mTup (mNil)) (mCons (mTup (mNil)) (mNil)))) (mCons (mTup (mCons (mTup (mCons (mCon (.int 0)) (mNil))) (mCons (mTup (mCons (mCon (.int 0)) (mNil))) (mNil)))) (mCons (mLst (mCons (mTup (mCons (mCon (.int 0)) (mNil))) (mCons (mTup (mCons (mCon (.int 0)) (mNil))) (mNil)))) (mCons (mTup (mCons (mCon (.int 0)) (mCons (mCon (.bl true)) (mNil)))) (mCons (mTup (mCons (mCon (.str "is")) (mCons (mCon (.int 0)) (mCons (mCon (.int 0)) (mNil))))) (mCons (mTup (mCons (mCon (.str "hushed")) (mCons (mCon (.int 0)) (mNil)))) (mNil))))))))))) (sSeq (sRet (mIdx (mBin .Add (mVar 1) (mLst (mCons (mTup (mCons (mCon .non) (mCons (mLst (mCons (mCon (.int 1)) (mCons (mTup (mNil)) (mNil)))) (mNil)))) (mNil)))) (mCall f__law_take (mCons (mVar 0) (mCons (mCon (.int 27)) (mNil)))))) (sNext))))
def f_is_row : Fn := fnW 2 2 (sSeq (sRet (mAnd (mIsi .tuple (mVar 0)) (mCmp .LtE (mPrim .len (mCons (mVar 0) (mNil))) (mVar 1)))) (sNext))
def b_how_many_1 : Ms := sSeq (sAug .Mult 1 (mVar 2)) (sNext)
def f_how_many : Fn := fnW 1 3 (sSeq (sAsg (.nm 1) (mCon (.int 1))) (sSeq (sFor (jE (mVar 0)) (.nm 2) (b_how_many_1)) (sSeq (sRet (mVar 1)) (sNext))))
def f_is_whole : Fn := fnW 1 1 (sSeq (sRet (mAnd (mIsi .int (mVar 0)) (mNot (mIsi .bool (mVar 0))))) (sNext))
def f_is_from : Fn := fnW 3 3 (sSeq (sRet (mAnd (mCallP f_is_whole (mCons (mVar 0) (mNil))) (mChain .LtE .Lt (mVar 1) (mVar 0) (mVar 2)))) (sNext))
def f_are_wheels : Fn := fnW 1 2 (sSeq (sIf (bOr (bNot (bTest (mCallP f_is_row (mCons (mVar 0) (mCons (mCon (.int 3)) (mNil)))))) (bTest (mCmp .Eq (mVar 0) (mTup (mNil))))) (sSeq (sRet (mCon (.bl false))) (sNext)) (sNext)) (sSeq (sRet (mAnd (mPrim .all (mCons (mLc false [1] (.nm 1) (jE (mVar 0)) (bYes) (mCallP f_is_from (mCons (mVar 1) (mCons (mCon (.int 2)) (mCons (mBin .Add (mCon (.int 4)) (mCon (.int 1))) (mNil)))))) (mNil))) (mCmp .LtE (mCallP f_how_many (mCons (mVar 0) (mNil))) (mCon (.int 24))))) (sNext)))
def f_are_rising : Fn := fnW 1 3 (sSeq (sRet (mPrim .all (mCons (mLc false [1, 2] (.tup [1, 2]) (jZip (mVar 0) (mSlc (mVar 0) (mPart (mCon (.int 1))) (mCon .non))) (bYes) (mCmp .Lt (mVar 1) (mVar 2))) (mNil)))) (sNext))
def f_is_hush : Fn := fnW 2 2 (sSeq (sIf (bOr (bNot (bTest (mIsi .tuple (mVar 1)))) (bTest (mCmp .NotEq (mPrim .len (mCons (mVar 1) (mNil))) (mCon (.int 2))))) (sSeq (sRet (mCon (.bl false))) (sNext)) (sNext)) (sSeq (sRet (mAnd (mCallP f_is_from (mCons (mIdx (mVar 1) (mCon (.int 0))) (mCons (mCon (.int 0)) (mCons (mVar 0) (mNil))))) (mCallP f_is_from (mCons (mIdx (mVar 1) (mCon (.int 1))) (mCons (mCon (.int 1)) (mCons (mBin .Add (mCon (.int 3)) (mCon (.int 1))) (mNil))))))) (sNext)))
def f_are_hushes : Fn := fnW 2 5 (sSeq (sIf (bOr (bNot (bTest (mIsi .tuple (mVar 1)))) (bNot (bTest (mPrim .all (mCons (mLc false [4] (.nm 4) (jE (mVar 1)) (bYes) (mCallP f_is_hush (mCons (mVar 0) (mCons (mVar 4) (mNil))))) (mNil)))))) (sSeq (sRet (mCon (.bl false))) (sNext)) (sNext)) (sSeq (sRet (mCallP f_are_rising (mCons (mLc false [2, 3] (.tup [2, 3]) (jE (mVar 1)) (bYes) (mVar 2)) (mNil)))) (sNext)))
def f_are_rules_numbers : Fn := fnW 2 3 (sSeq (sRet (mAnd (mIsi .tuple (mVar 0)) (mAnd (mPrim .all (mCons (mLc false [2] (.nm 2) (jE (mVar 0)) (bYes) (mCallP f_is_from (mCons (mVar 2) (mCons (mCon (.int 0)) (mCons (mVar 1) (mNil)))))) (mNil))) (mCallP f_are_rising (mCons (mVar 0) (mNil)))))) (sNext))
def f_is_worded : Fn := fnW 3 3 (sSeq (sRet (mAnd (mIsi .tuple (mVar 0)) (mAnd (mCmp .Eq (mPrim .len (mCons (mVar 0) (mNil))) (mVar 2)) (mAnd (mIsi .str (mIdx (mVar 0) (mCon (.int 0)))) (mCmp .In (mIdx (mVar 0) (mCon (.int 0))) (mVar 1)))))) (sNext))
def f_is_placed : Fn := fnW 3 6 (sSeq (sIf (bNot (bTest (mCallP f_is_worded (mCons (mVar 1) (mCons (mVar 2) (mCons (mCon (.int 3)) (mNil))))))) (sSeq (sRet (mCon (.bl false))) (sNext)) (sNext)) (sSeq (sAsg (.tup [3, 4, 5]) (mVar 1)) (sSeq (sRet (mAnd (mCallP f_is_from (mCons (mVar 4) (mCons (mCon (.int 0)) (mCons (mPrim .len (mCons (mVar 0) (mNil))) (mNil))))) (mCallP f_is_from (mCons (mVar 5) (mCons (mCon (.int 0)) (mCons (mIdx (mVar 0) (mVar 4)) (mNil))))))) (sNext))))
def f_is_condition : Fn := fnW 3 3 (sSeq (sIf (bTest (mCallP f_is_worded (mCons (mVar 2) (mCons (mCon (.tup [.str "hushed", .str "awake"])) (mCons (mCon (.int 2)) (mNil)))))) (sSeq (sRet (mCallP f_is_from (mCons (mIdx (mVar 2) (mCon (.int 1))) (mCons (mCon (.int 0)) (mCons (mVar 1) (mNil)))))) (sNext)) (sNext)) (sSeq (sRet (mCallP f_is_placed (mCons (mVar 0) (mCons (mVar 2) (mCons (mCon (.tup [.str "is", .str "not", .str "below"])) (mNil)))))) (sNext)))
def f_is_rule : Fn := fnW 3 10 (sSeq (sIf (bOr (bNot (bTest (mIsi .tuple (mVar 2)))) (bTest (mCmp .NotEq (mPrim .len (mCons (mVar 2) (mNil))) (mCon (.int 4))))) (sSeq (sRet (mCon (.bl false))) (sNext)) (sNext)) (sSeq (sAsg (.tup [3, 4, 5, 6]) (mVar 2)) (sSeq (sIf (bOr (bNot (bTest (mCallP f_is_row (mCons (mVar 3) (mCons (mCon (.int 4)) (mNil)))))) (bNot (bTest (mPrim .all (mCons (mLc false [9] (.nm 9) (jE (mVar 3)) (bYes) (mCallP f_is_condition (mCons (mVar 0) (mCons (mVar 1) (mCons (mVar 9) (mNil)))))) (mNil)))))) (sSeq (sRet (mCon (.bl false))) (sNext)) (sNext)) (sSeq (sIf (bOr (bNot (bTest (mCallP f_is_row (mCons (mVar 4) (mCons (mCon (.int 3)) (mNil)))))) (bNot (bTest (mPrim .all (mCons (mLc false [9] (.nm 9) (jE (mVar 4)) (bYes) (mCallP f_is_placed (mCons (mVar 0) (mCons (mVar 9) (mCons (mCon (.tup [.str "put", .str "turn"])) (mNil)))))) (mNil)))))) (sSeq (sRet (mCon (.bl false))) (sNext)) (sNext)) (sSeq (sIf (bOr (bNot (bTest (mCallP f_are_hushes (mCons (mVar 1) (mCons (mVar 5) (mNil)))))) (bNot (bTest (mCallP f_are_rules_numbers (mCons (mVar 6) (mCons (mVar 1) (mNil))))))) (sSeq (sRet (mCon (.bl false))) (sNext)) (sNext)) (sSeq (sRet (mNot (mPrim .any (mCons (mLc false [7, 8] (.tup [7, 8]) (jE (mVar 5)) (bYes) (mCmp .In (mVar 7) (mVar 6))) (mNil))))) (sNext)))))))
def b_look_book_1 : Ms := sSeq (sIf (bNot (bTest (mCallP f_is_rule (mCons (mVar 0) (mCons (mPrim .len (mCons (mVar 1) (mNil))) (mCons (mVar 3) (mNil))))))) (sSeq (sRaiseF 4 6 (mVar 2)) (sNext)) (sNext)) (sNext)
def f_look_book : Fn := fnW 2 4 (sSeq (sIf (bOr (bNot (bTest (mCallP f_are_wheels (mCons (mVar 0) (mNil))))) (bNot (bTest (mCallP f_is_row (mCons (mVar 1) (mCons (mCon (.int 5)) (mNil))))))) (sSeq (sRaiseF 4 6 (mNeg (mCon (.int 1)))) (sNext)) (sNext)) (sSeq (sFor (jEnum 0 (mVar 1)) (.tup [2, 3]) (b_look_book_1)) (sNext)))
def f_Book___init__ : Fn := fnW 3 3 (sSeq (sExpr (mCallP f_look_book (mCons (mVar 1) (mCons (mVar 2) (mNil))))) (sSeq (sSetFld 0 0 (mVar 0) (mVar 1)) (sSeq (sSetFld 0 1 (mVar 0) (mVar 2)) (sNext))))
def f_are_values : Fn := fnW 2 4 (sSeq (sIf (bOr (bNot (bTest (mIsi .tuple (mVar 1)))) (bTest (mCmp .NotEq (mPrim .len (mCons (mVar 1) (mNil))) (mPrim .len (mCons (mFld 0 0 (mVar 0)) (mNil)))))) (sSeq (sRet (mCon (.bl false))) (sNext)) (sNext)) (sSeq (sRet (mPrim .all (mCons (mLc false [2, 3] (.tup [2, 3]) (jZips (mVar 1) (mFld 0 0 (mVar 0))) (bYes) (mCallP f_is_from (mCons (mVar 2) (mCons (mCon (.int 0)) (mCons (mVar 3) (mNil)))))) (mNil)))) (sNext)))
def b__law_wheels_1 : Ms := sSeq (sAsg (.nm 4) (mBin .Add (mCon (.int 2)) (mCall f__law_take (mCons (mVar 0) (mCons (mCon (.int 3)) (mNil)))))) (sSeq (sIf (bTest (mCmp .LtE (mBin .Mult (mVar 2) (mVar 4)) (mCon (.int 24)))) (sSeq (sExpr (mApp (mVar 1) (mVar 4))) (sSeq (sAsg (.nm 2) (mBin .Mult (mVar 2) (mVar 4))) (sNext))) (sNext)) (sNext))
def f__law_wheels : Fn := fnW 1 5 (sSeq (sPar [1, 2] (mCons (mNLst (mNil)) (mCons (mCon (.int 1)) (mNil)))) (sSeq (sFor (jRange1 (mBin .Add (mCon (.int 1)) (mCall f__law_take (mCons (mVar 0) (mCons (mCon (.int 3)) (mNil)))))) (.nm 3) (b__law_wheels_1)) (sSeq (sRet (mPrim .tuple (mCons (mVar 1) (mNil)))) (sNext))))
def f__law_whole : Fn := fnW 3 3 (sSeq (sRet (mAnd (mIsi .int (mVar 0)) (mAnd (mNot (mIsi .bool (mVar 0))) (mChain .LtE .Lt (mVar 1) (mVar 0) (mVar 2))))) (sNext))
def f__law_is_placed : Fn := fnW 3 3 (sSeq (sIf (bOr (bNot (bTest (mIsi .tuple (mVar 1)))) (bOr (bTest (mCmp .NotEq (mPrim .len (mCons (mVar 1) (mNil))) (mCon (.int 3)))) (bOr (bNot (bTest (mIsi .str (mIdx (mVar 1) (mCon (.int 0)))))) (bTest (mCmp .NotIn (mIdx (mVar 1) (mCon (.int 0))) (mVar 2)))))) (sSeq (sRet (mCon (.bl false))) (sNext)) (sNext)) (sSeq (sRet (mAnd (mCallP f__law_whole (mCons (mIdx (mVar 1) (mCon (.int 1))) (mCons (mCon (.int 0)) (mCons (mPrim .len (mCons (mVar 0) (mNil))) (mNil))))) (mCallP f__law_whole (mCons (mIdx (mVar 1) (mCon (.int 2))) (mCons (mCon (.int 0)) (mCons (mIdx (mVar 0) (mIdx (mVar 1) (mCon (.int 1)))) (mNil))))))) (sNext)))
def f__law_is_condition : Fn := fnW 3 3 (sSeq (sIf (bAnd (bTest (mIsi .tuple (mVar 2))) (bTest (mCmp .Eq (mPrim .len (mCons (mVar 2) (mNil))) (mCon (.int 2))))) (sSeq (sRet (mAnd (mIsi .str (mIdx (mVar 2) (mCon (.int 0)))) (mAnd (mCmp .In (mIdx (mVar 2) (mCon (.int 0))) (mLst (mCons (mCon (.str "hushed")) (mCons (mCon (.str "awake")) (mNil))))) (mCallP f__law_whole (mCons (mIdx (mVar 2) (mCon (.int 1))) (mCons (mCon (.int 0)) (mCons (mVar 1) (mNil)))))))) (sNext)) (sNext)) (sSeq (sRet (mCallP f__law_is_placed (mCons (mVar 0) (mCons (mVar 2) (mCons (mLst (mCons (mCon (.str "is")) (mCons (mCon (.str "not")) (mCons (mCon (.str "below")) (mNil))))) (mNil)))))) (sNext)))
def f__law_rules : Fn := fnW 3 4 (sSeq (sRet (mPrim .tuple (mCons (mLc false [3] (.nm 3) (jRange1 (mVar 2)) (bYes) (mCall f__law_rule (mCons (mVar 0) (mCons (mVar 1) (mCons (mVar 2) (mNil)))))) (mNil)))) (sNext))
def f__law_drawn : Fn := fnW 1 2 (sSeq (sAsg (.nm 1) (mCall f__law_wheels (mCons (mVar 0) (mNil)))) (sSeq (sRet (mTup (mCons (mVar 1) (mCons (mCall f__law_rules (mCons (mVar 0) (mCons (mVar 1) (mCons (mIdx (mTup (mCons (mCon (.int 3)) (mCons (mCon (.int 5)) (mCons (mCon (.int 2)) (mCons (mCon (.int 4)) (mCons (mCon (.int 1)) (mCons (mCon (.int 0)) (mNil)))))))) (mCall f__law_take (mCons (mVar 0) (mCons (mCon (.int 6)) (mNil))))) (mNil))))) (mNil))))) (sNext)))
def f__law_state : Fn := fnW 3 6 (sSeq (sAsg (.nm 3) (mPrim .tuple (mCons (mLc false [4] (.nm 4) (jE (mVar 1)) (bYes) (mCall f__law_take (mCons (mVar 0) (mCons (mVar 4) (mNil))))) (mNil)))) (sSeq (sRet (mTup (mCons (mVar 3) (mCons (mPrim .tuple (mCons (mLc false [5] (.nm 5) (jRange1 (mVar 2)) (bYes) (mIdx (mTup (mCons (mCon (.int 0)) (mCons (mCon (.int 0)) (mCons (mCon (.int 1)) (mCons (mCon (.int 2)) (mNil)))))) (mCall f__law_take (mCons (mVar 0) (mCons (mCon (.int 4)) (mNil)))))) (mNil))) (mNil))))) (sNext)))
def f_is_state : Fn := fnW 2 4 (sSeq (sIf (bOr (bNot (bTest (mIsi .tuple (mVar 1)))) (bOr (bTest (mCmp .NotEq (mPrim .len (mCons (mVar 1) (mNil))) (mCon (.int 2)))) (bNot (bTest (mCallP f_are_values (mCons (mVar 0) (mCons (mIdx (mVar 1) (mCon (.int 0))) (mNil)))))))) (sSeq (sRet (mCon (.bl false))) (sNext)) (sNext)) (sSeq (sAsg (.nm 2) (mIdx (mVar 1) (mCon (.int 1)))) (sSeq (sIf (bOr (bNot (bTest (mIsi .tuple (mVar 2)))) (bTest (mCmp .NotEq (mPrim .len (mCons (mVar 2) (mNil))) (mPrim .len (mCons (mFld 0 1 (mVar 0)) (mNil)))))) (sSeq (sRet (mCon (.bl false))) (sNext)) (sNext)) (sSeq (sRet (mPrim .all (mCons (mLc false [3] (.nm 3) (jE (mVar 2)) (bYes) (mCallP f_is_from (mCons (mVar 3) (mCons (mCon (.int 0)) (mCons (mCon (.int 3)) (mNil)))))) (mNil)))) (sNext)))))
def f_figures_in : Fn := fnW 1 2 (sSeq (sIf (bOr (bNot (bTest (mChain .LtE .LtE (mCon (.int 1)) (mPrim .len (mCons (mVar 0) (mNil))) (mCon (.int 60))))) (bNot (bTest (mPrim .all (mCons (mLc false [1] (.nm 1) (jStr (mVar 0)) (bYes) (mInS (mVar 1) (mCon (.str "0123456789")))) (mNil)))))) (sSeq (sRet (mCon .non)) (sNext)) (sNext)) (sSeq (sRet (mIfx (bAnd (bTest (mCmp .Eq (mIdxS (mVar 0) (mCon (.int 0))) (mCon (.str "0")))) (bTest (mCmp .NotEq (mVar 0) (mCon (.str "0"))))) (mCon .non) (mIntT (mVar 0)))) (sNext)))
def f_numbers_in : Fn := fnW 1 2 (sSeq (sRet (mPrim .tuple (mCons (mLc false [1] (.nm 1) (jE (mVar 0)) (bYes) (mCallP f_figures_in (mCons (mVar 1) (mNil)))) (mNil)))) (sNext))
def f__law_figures : Fn := fnW 1 2 (sSeq (sIf (bOr (bNot (bTest (mChain .LtE .LtE (mCon (.int 1)) (mPrim .len (mCons (mVar 0) (mNil))) (mCon (.int 60))))) (bNot (bTest (mPrim .all (mCons (mLc false [1] (.nm 1) (jE (mVar 0)) (bYes) (mCmp .In (mVar 1) (mCon (.str "0123456789")))) (mNil)))))) (sSeq (sRet (mNeg (mCon (.int 1)))) (sNext)) (sNext)) (sSeq (sRet (mIfx (bAnd (bTest (mCmp .Eq (mIdx (mVar 0) (mCon (.int 0))) (mCon (.str "0")))) (bTest (mCmp .NotEq (mVar 0) (mCon (.str "0"))))) (mNeg (mCon (.int 1))) (mPrim .int (mCons (mVar 0) (mNil))))) (sNext)))
def f_numbers_text : Fn := fnW 1 2 (sSeq (sRet (mOr (mJoin (mCon (.str " ")) (mLc false [1] (.nm 1) (jE (mVar 0)) (bYes) (mStrI (mVar 1)))) (mCon (.str "-")))) (sNext))
def f_state_text : Fn := fnW 1 3 (sSeq (sAsg (.tup [1, 2]) (mVar 0)) (sSeq (sRet (mJs [mFmt (mCallP f_numbers_text (mCons (mVar 1) (mNil))), mCon (.str " | "), mFmt (mCallP f_numbers_text (mCons (mVar 2) (mNil)))] Str.empty)) (sNext)))
def f_show_state : Fn := fnW 1 1 (sSeq (sRet (mCallP f_state_text (mCons (mVar 0) (mNil)))) (sNext))
def f_read_state : Fn := fnW 2 9 (sSeq (sIf (bNot (bTest (mIsi .str (mVar 1)))) (sSeq (sRaiseF 6 6 (mCon (.int 0))) (sNext)) (sNext)) (sSeq (sAsg (.tup [2, 3, 4]) (mPtn (mVar 1) (mCon (.str " | ")))) (sSeq (sAsg (.tup [5, 6]) (mLc false [8] (.nm 8) (jE (mTup (mCons (mVar 2) (mCons (mVar 4) (mNil))))) (bYes) (mIfx (bTest (mCmp .Eq (mVar 8) (mCon (.str "-")))) (mTup (mNil)) (mCallP f_numbers_in (mCons (mSplit (mVar 8) (mCon (.str " "))) (mNil)))))) (sSeq (sAsg (.nm 7) (mTup (mCons (mVar 5) (mCons (mVar 6) (mNil))))) (sSeq (sIf (bOr (bTest (mCmp .Eq (mVar 3) (mCon (.str "")))) (bOr (bNot (bTest (mCallP f_is_state (mCons (mVar 0) (mCons (mVar 7) (mNil)))))) (bTest (mCmp .NotEq (mCallP f_state_text (mCons (mVar 7) (mNil))) (mVar 1))))) (sSeq (sRaiseF 6 6 (mCon (.int 0))) (sNext)) (sNext)) (sSeq (sRet (mVar 7)) (sNext)))))))
end DL
set_option Elab.async false
set_option linter.all false
set_option maxRecDepth 100000
set_option maxHeartbeats 4000000
/-! Bc: str(x) of a whole number or a text. -/
namespace DL
open PySem PySem.Spec L2
open PyProof.Rows hiding St
end DL
set_option Elab.async false
set_option linter.all false
set_option maxRecDepth 100000
set_option maxHeartbeats 4000000
/-! Bd: a dict of the module with texts as keys: x in NAME, NAME[x]. -/
namespace DL
open PySem PySem.Spec L2
open PyProof.Rows hiding St
end DL
set_option Elab.async false
set_option linter.all false
set_option maxRecDepth 100000
set_option maxHeartbeats 4000000
/-! Be: the facts of the head that make a module's dict (Bd's KD): He.SaysT tells dicW; the rest is a Bool over the frame. -/
namespace DL
open PySem PySem.Spec L2
open PyProof.Rows hiding St
/-- a value told at a text: a plain one, or a tuple of plain ones -/
inductive Kv where
  | one (v : He.Dv) (w : W)
  | tup (vs : List (He.Dv × W))
def Kv.w : Kv → W
  | .one _ w => w
  | .tup vs => .tup (vs.map (·.2))
end DL
set_option Elab.async false
set_option linter.all false
set_option maxRecDepth 100000
set_option maxHeartbeats 4000000
/-! Bf: repr of a tuple that holds data instances with an own __repr__: one item (pyReprUnder by an own __repr__). -/
namespace PySem.W
open PySem PySem.Calls PyProof.Rows Builtin
end PySem.W
namespace DL
open PySem PySem.Spec L2 PyProof.Rows LamX
end DL
set_option Elab.async false
set_option linter.all false
set_option maxRecDepth 100000
set_option maxHeartbeats 4000000
/-! Bg: str(t), t a tuple whose items' texts are told one by one (an item may run a def). -/
namespace PySem.W
open PySem PySem.Calls PyProof.Rows Builtin
end PySem.W
set_option Elab.async false
set_option linter.all false
set_option maxRecDepth 100000
set_option maxHeartbeats 4000000
/-! Bh: one item's text, anywhere below the running body: plain data; an instance with its class's own __repr__. -/
namespace DL
open PySem PySem.Spec L2 PyProof.Rows LamX
end DL
set_option Elab.async false
set_option linter.all false
set_option maxRecDepth 100000
set_option maxHeartbeats 4000000
/-! Bi: str(x), x plain data or a tuple whose items are plain or data instances with an own __repr__. -/
namespace DL
open PySem PySem.Spec L2 PyProof.Rows LamX
end DL
set_option Elab.async false
set_option linter.all false
set_option maxRecDepth 100000
set_option maxHeartbeats 4000000
/-! Bj: str(x), x plain, a tuple of plain things and instances with an own __repr__, or an instance of one of two classes with an own __str__. -/
namespace DL
open PySem PySem.Spec L2 PyProof.Rows LamX
end DL
set_option Elab.async false
set_option linter.all false
set_option maxRecDepth 100000
set_option maxHeartbeats 4000000
/-! Bl: try .. except C: without a name; the suite goes on at the state that the exception left. -/
namespace DL
open PySem PySem.Spec L2 PyProof.Rows
section
variable {X : Cx} {T : Tab} {E : WX}
theorem FQ.calm {K : PySem.W.Frag} {E E' : WX} {D : Ends} {F : Hp} {al : List Addr} {H : Hp} {r : Fl} (h : FQ T K E D F al H (match r with | .exc _ _ _ => .bad | r => r)) : FQ T K E' D F al H r := by
  cases r with
  | exc x ρ S => exact h.elim
  | _ => exact h
end
end DL
set_option Elab.async false
set_option linter.all false
set_option maxRecDepth 100000
set_option maxHeartbeats 4000000
/-! Bm: a statement that runs while a dict is locked: for k in d. -/
namespace DL
open PySem PySem.Spec L2 PyProof.Rows
end DL
set_option Elab.async false
set_option linter.all false
set_option maxRecDepth 100000
set_option maxHeartbeats 4000000
/-! Bn: a piece of a text; a text none or one time. -/
namespace DL
open PySem PySem.Spec L2 PyProof.Rows
def mSlcS (a l h : Me) : Me := fun ρ S => (a ρ S).bind fun x S => (l ρ S).bind fun l S => match partW l with
  | none => .bad
  | some l => (h ρ S).bind fun h S => match partW h with
    | none => .bad
    | some u => match x with
      | .str z => if z.length ≤ limit then .ok (.str (cutS z l u)) S else .bad
      | _ => .bad
def mMulS (a b : Me) : Me := fun ρ S => (a ρ S).bind fun x S => (b ρ S).bind fun y S => match x, y with
  | .str z, .int k => if k = 0 then .ok (.str Str.empty) S else if k = 1 then .ok (.str z) S else .bad
  | _, _ => .bad
section
variable {X : Cx} {T : Tab} {E : WX} {pos : Pos} {a b : Expr} {p q r : Me}
theorem w_slcS {lo hi : Option Expr} {p2 : Pos} (ha : PE X a (tW T X.K E p)) (hl : PO X lo (tOW T X.K E q)) (hh : PO X hi (tOW T X.K E r)) : PE X (.Subscript a (.Slice lo hi none p2) pos) (tW T X.K E (mSlcS p q r)) := by
  refine peM (pe_slice sl_str ha hl hh) ?_
  rintro σ H Q ⟨F, al, S, ρ, g, e, h⟩
  refine (tW.bind g e h).imp fun x H1 ⟨F1, al1, S1, w, m, r, h1⟩ => ?_
  refine (tW.bind m.g m.e h1).imp fun y H2 ⟨F2, al2, S2, u, m2, r2, h2⟩ => ?_
  cases e1 : partW u with
  | none =>
    rw [e1] at h2
    exact h2.elim
  | some o =>
    rw [e1] at h2
    refine ⟨o, partW_sound r2 e1, ?_⟩
    refine (tW.bind m2.g m2.e h2).imp fun y3 H3 ⟨F3, al3, S3, u3, m3, r3, h3⟩ => ?_
    cases e2 : partW u3 with
    | none => rw [e2] at h3; exact h3.elim
    | some o2 =>
      rw [e2] at h3
      refine ⟨o2, partW_sound r3 e2, ?_⟩
      obtain ⟨z, rfl⟩ : ∃ z, w = .str z := by cases w <;> first | exact ⟨_, rfl⟩ | exact h3.elim
      replace h3 : RQ T X.K E σ F3 al3 H3 (if z.length ≤ limit then .ok (.str (cutS z o o2)) S3 else .bad) Q := h3
      split at h3
      case isFalse => exact h3.elim
      rename_i hz
      cases r with
      | str z => exact ⟨z, rfl, by rw [← limit_eq]; exact hz, h3.val m3.g (.str _)⟩
def rMulS : R2 := fun x y H Q => ∃ (z : Str) (k : Int), x = .str z ∧ y = .int k ∧ ((k = 0 ∧ Q (.str Str.empty) H) ∨ (k = 1 ∧ Q (.str z) H))
theorem op_mulS : OpR X (binaryOp .Mult) rMulS := by
  intro pins s σ H x y v u Q I rx ry h
  obtain ⟨z, k, rfl, rfl, h⟩ := h
  obtain ⟨t, rfl⟩ := rx
  obtain ⟨t', rfl⟩ := ry
  rcases h with ⟨rfl, q⟩ | ⟨rfl, q⟩
  · refine SB.mul ⟨by decide, fun h => absurd (by decide) h, fun h => absurd (by decide) h⟩ fun t2 k2 => ?_
    exact ⟨.str Str.empty, H, I.tok _, ⟨t2, rfl⟩, q⟩
  · refine SB.mul ⟨by decide, fun _ h => absurd h (by simp), fun _ h => absurd h (by simp)⟩ fun t2 k2 => ?_
    exact ⟨.str z, H, I.tok _, ⟨t2, rfl⟩, q⟩
theorem w_mulS (ha : PE X a (tW T X.K E p)) (hb : PE X b (tW T X.K E q)) : PE X (.BinOp a .Mult b pos) (tW T X.K E (mMulS p q)) := by
  refine peM (pe_op op_mulS ha hb) ?_
  rintro σ H Q ⟨F, al, S, ρ, g, e, h⟩
  refine (tW.bind g e h).imp fun x H1 ⟨F1, al1, S1, w, m, r, h1⟩ => ?_
  refine (tW.bind m.g m.e h1).imp fun y H2 ⟨F2, al2, S2, u, m2, r2, h2⟩ => ?_
  obtain ⟨z, k, rfl, rfl⟩ : ∃ z k, w = .str z ∧ u = .int k := by
    cases w <;> cases u <;> first | exact ⟨_, _, rfl, rfl⟩ | exact h2.elim
  replace h2 : RQ T X.K E σ F2 al2 H2 (if k = 0 then .ok (.str Str.empty) S2 else if k = 1 then .ok (.str z) S2 else .bad) Q := h2
  cases r with
  | str z =>
    cases r2 with
    | int k =>
      split at h2
      · rename_i hk
        exact ⟨z, k, rfl, rfl, .inl ⟨hk, h2.val m2.g (.str _)⟩⟩
      · split at h2
        · rename_i hk
          exact ⟨z, k, rfl, rfl, .inr ⟨hk, h2.val m2.g (.str _)⟩⟩
        · exact h2.elim
end
end DL
set_option Elab.async false
set_option linter.all false
set_option maxRecDepth 100000
set_option maxHeartbeats 4000000
namespace K77
open PySem PySem.Spec L2 DL
def top (i : Nat) : Stmt := PySem.Challenge.pw_hushrules_k77_states_nearly.main.body.getD i (.Pass ⟨0, 0, 0, 0⟩)
/-! ### what each def does -/
def f__law_numbers : Fn := fnW 1 2 (sSeq (sRet (mIfx (bTest (mCmp .NotEq (mVar 0) (mTup (mNil)))) (mJoin (mCon (.str " ")) (mLc false [1] (.nm 1) (jE (mVar 0)) (bYes) (mStrI (mVar 1)))) (mCon (.str "-")))) (sNext))
def f__law_state_text : Fn := fnW 1 1 (sSeq (sRet (mBin .Add (mBin .Add (mCallP f__law_numbers (mCons (mIdx (mVar 0) (mCon (.int 0))) (mNil))) (mCon (.str " | "))) (mCallP f__law_numbers (mCons (mIdx (mVar 0) (mCon (.int 1))) (mNil))))) (sNext))
def f__law_bent : Fn := fnW 2 8 (sSeq (sAsg (.nm 2) (mCon (.str " |-0123456789,x\n/"))) (sSeq (sPar [3, 4] (mCons (mCall f__law_take (mCons (mVar 0) (mCons (mCon (.int 5)) (mNil)))) (mCons (mCall f__law_take (mCons (mVar 0) (mCons (mBin .Add (mPrim .len (mCons (mVar 1) (mNil))) (mCon (.int 1))) (mNil)))) (mNil)))) (sSeq (sIf (bTest (mCmp .Lt (mVar 3) (mCon (.int 3)))) (sSeq (sRet (mBin .Add (mBin .Add (mSlcS (mVar 1) (mCon .non) (mPart (mVar 4))) (mMulS (mIdxS (mVar 2) (mCall f__law_take (mCons (mVar 0) (mCons (mPrim .len (mCons (mVar 2) (mNil))) (mNil))))) (mPrim .int (mCons (mCmp .Lt (mVar 3) (mCon (.int 2))) (mNil))))) (mSlcS (mVar 1) (mPart (mBin .Add (mVar 4) (mPrim .int (mCons (mCmp .Gt (mVar 3) (mCon (.int 0))) (mNil))))) (mCon .non)))) (sNext)) (sNext)) (sSeq (sAsg (.nm 5) (mIdx (mTup (mCons (mCon (.str " ")) (mCons (mCon (.str " | ")) (mNil)))) (mCall f__law_take (mCons (mVar 0) (mCons (mCon (.int 2)) (mNil)))))) (sSeq (sAsg (.nm 6) (mSplit (mVar 1) (mVar 5))) (sSeq (sAsg (.nm 7) (mCall f__law_take (mCons (mVar 0) (mCons (mPrim .len (mCons (mVar 6) (mNil))) (mNil))))) (sSeq (sIf (bTest (mCmp .Eq (mVar 3) (mCon (.int 3)))) (sSeq (sRet (mJoin (mVar 5) (mBin .Add (mSlc (mVar 6) (mCon .non) (mPart (mVar 7))) (mSlc (mVar 6) (mPart (mBin .Add (mVar 7) (mCon (.int 1)))) (mCon .non))))) (sNext)) (sNext)) (sSeq (sRet (mJoin (mVar 5) (mBin .Add (mBin .Add (mSlc (mVar 6) (mCon .non) (mPart (mVar 7))) (mLst (mCons (mIdx (mTup (mCons (mCon (.str "-")) (mCons (mCon (.str "0")) (mCons (mCon (.str "4")) (mCons (mCon (.str "00")) (mCons (mCon (.str "2")) (mCons (mCon (.str "3")) (mNil)))))))) (mCall f__law_take (mCons (mVar 0) (mCons (mCon (.int 6)) (mNil))))) (mNil)))) (mSlc (mVar 6) (mPart (mVar 7)) (mCon .non))))) (sNext)))))))))
def f__law_told : Fn := fnW 2 3 (sSeq (sTryC (hitL [(4, false), (6, true), (12, false)]) 2 (sSeq (sRet (mCallP f_read_state (mCons (mVar 0) (mCons (mVar 1) (mNil))))) (sNext)) (sSeq (sRet (mIfx (bAnd (bTest (mIsX (hitL [(4, true), (6, true), (12, true)]) (mVar 2))) (bNot (bTest (mIsX (hitL [(4, false), (6, false), (12, true)]) (mVar 2))))) (mXf (hitL [(4, true), (6, true)]) 6 (mVar 2)) (mCon (.str "other")))) (sNext))) (sNext))
def f__law_figures : Fn := fnW 1 2 (sSeq (sIf (bOr (bNot (bTest (mChain .LtE .LtE (mCon (.int 1)) (mPrim .len (mCons (mVar 0) (mNil))) (mCon (.int 60))))) (bNot (bTest (mPrim .all (mCons (mLc false [1] (.nm 1) (jStr (mVar 0)) (bYes) (mInS (mVar 1) (mCon (.str "0123456789")))) (mNil)))))) (sSeq (sRet (mNeg (mCon (.int 1)))) (sNext)) (sNext)) (sSeq (sRet (mIfx (bAnd (bTest (mCmp .Eq (mIdxS (mVar 0) (mCon (.int 0))) (mCon (.str "0")))) (bTest (mCmp .NotEq (mVar 0) (mCon (.str "0"))))) (mNeg (mCon (.int 1))) (mIntT (mVar 0)))) (sNext)))
def f__law_row_in : Fn := fnW 1 2 (sSeq (sRet (mIfx (bTest (mCmp .Eq (mVar 0) (mCon (.str "-")))) (mTup (mNil)) (mPrim .tuple (mCons (mLc false [1] (.nm 1) (jE (mSplit (mVar 0) (mCon (.str " ")))) (bYes) (mCallP f__law_figures (mCons (mVar 1) (mNil)))) (mNil))))) (sNext))
def f__law_due : Fn := fnW 3 10 (sSeq (sAsg (.nm 3) (mIfx (bTest (mIsi .str (mVar 2))) (mSplit (mVar 2) (mCon (.str " | "))) (mLst (mNil)))) (sSeq (sIf (bTest (mCmp .NotEq (mPrim .len (mCons (mVar 3) (mNil))) (mCon (.int 2)))) (sSeq (sRet (mCon (.int 0))) (sNext)) (sNext)) (sSeq (sAsg (.tup [4, 5]) (mLc false [6] (.nm 6) (jE (mVar 3)) (bYes) (mCallP f__law_row_in (mCons (mVar 6) (mNil))))) (sSeq (sIf (bOr (bTest (mCmp .NotEq (mPrim .len (mCons (mVar 4) (mNil))) (mPrim .len (mCons (mVar 0) (mNil))))) (bOr (bTest (mCmp .NotEq (mPrim .len (mCons (mVar 5) (mNil))) (mVar 1))) (bNot (bTest (mPrim .all (mCons (mLc false [9] (.nm 9) (jE (mVar 5)) (bYes) (mChain .LtE .LtE (mCon (.int 0)) (mVar 9) (mCon (.int 2)))) (mNil))))))) (sSeq (sRet (mCon (.int 0))) (sNext)) (sNext)) (sSeq (sRet (mIfx (bTest (mPrim .all (mCons (mLc false [7, 8] (.tup [7, 8]) (jZip (mVar 4) (mVar 0)) (bYes) (mChain .LtE .Lt (mCon (.int 0)) (mVar 7) (mVar 8))) (mNil)))) (mTup (mCons (mVar 4) (mCons (mVar 5) (mNil)))) (mCon (.int 0)))) (sNext))))))
def b_law_3_0 : Ms := sAsg (.nm 10) (mCall f__law_bent (mCons (mVar 2) (mCons (mVar 10) (mNil))))
def b_law_3t0 : Ms := sSeq b_law_3_0 sNext
def b_law_3 : Ms := b_law_3t0
def b_law_2_4 : Ms := sIf (bTest (mCmp .NotEq (mCallP f__law_told (mCons (mVar 5) (mCons (mVar 10) (mNil)))) (mCallP f__law_due (mCons (mVar 3) (mCons (mVar 6) (mCons (mVar 10) (mNil))))))) (sSeq (sRet (mCon (.bl false))) (sNext)) (sNext)
def b_law_2t4 : Ms := sSeq b_law_2_4 sNext
def b_law_2_3 : Ms := sFor (jRange1 (mBin .Add (mCon (.int 1)) (mCall f__law_take (mCons (mVar 2) (mCons (mCon (.int 2)) (mNil)))))) (.nm 11) (b_law_3)
def b_law_2t3 : Ms := sSeq b_law_2_3 b_law_2t4
def b_law_2_2 : Ms := sIf (bOr (bTest (mCmp .NotEq (mCallP f_show_state (mCons (mVar 9) (mNil))) (mVar 10))) (bTest (mCmp .NotEq (mCallP f__law_told (mCons (mVar 5) (mCons (mVar 10) (mNil)))) (mVar 9)))) (sSeq (sRet (mCon (.bl false))) (sNext)) (sNext)
def b_law_2t2 : Ms := sSeq b_law_2_2 b_law_2t3
def b_law_2_1 : Ms := sAsg (.nm 10) (mCallP f__law_state_text (mCons (mVar 9) (mNil)))
def b_law_2t1 : Ms := sSeq b_law_2_1 b_law_2t2
def b_law_2_0 : Ms := sAsg (.nm 9) (mCall f__law_state (mCons (mVar 2) (mCons (mVar 3) (mCons (mVar 6) (mNil)))))
def b_law_2t0 : Ms := sSeq b_law_2_0 b_law_2t1
def b_law_2 : Ms := b_law_2t0
def b_law_4_0 : Ms := sIf (bTest (mCmp .NotEq (mCallP f__law_told (mCons (mVar 5) (mCons (mVar 8) (mNil)))) (mCallP f__law_due (mCons (mVar 3) (mCons (mVar 6) (mCons (mVar 8) (mNil))))))) (sSeq (sRet (mCon (.bl false))) (sNext)) (sNext)
def b_law_4t0 : Ms := sSeq b_law_4_0 sNext
def b_law_4 : Ms := b_law_4t0
def b_law_1_4 : Ms := sFor (jE (mTup (mCons (mCall f__law_any (mCons (mVar 2) (mNil))) (mCons (mCon .non) (mCons (mCon (.int 0)) (mCons (mCon (.bl true)) (mCons (mLst (mCons (mVar 10) (mNil))) (mCons (mTup (mCons (mVar 10) (mNil))) (mCons (mCon (.str "")) (mCons (mCon (.str " | ")) (mCons (mCon (.str "- | -")) (mCons (mVar 9) (mNil))))))))))))) (.nm 8) (b_law_4)
def b_law_1t4 : Ms := sSeq b_law_1_4 sNext
def b_law_1_3 : Ms := sFor (jRange1 (mCon (.int 8))) (.nm 7) (b_law_2)
def b_law_1t3 : Ms := sSeq b_law_1_3 b_law_1t4
def b_law_1_2 : Ms := sPar [5, 6] (mCons (mMake 0 f_Book___init__ (mCons (mVar 3) (mCons (mVar 4) (mNil)))) (mCons (mPrim .len (mCons (mVar 4) (mNil))) (mNil)))
def b_law_1t2 : Ms := sSeq b_law_1_2 b_law_1t3
def b_law_1_1 : Ms := sAsg (.tup [3, 4]) (mCall f__law_drawn (mCons (mVar 2) (mNil)))
def b_law_1t1 : Ms := sSeq b_law_1_1 b_law_1t2
def b_law_1_0 : Ms := sAsg (.nm 2) (mCall f__law_bag (mCons (mVar 0) (mCons (mVar 1) (mNil))))
def b_law_1t0 : Ms := sSeq b_law_1_0 b_law_1t1
def b_law_1 : Ms := b_law_1t0
def b_law_0_1 : Ms := sRet (mCon (.bl true))
def b_law_0t1 : Ms := sSeq b_law_0_1 sNext
def b_law_0_0 : Ms := sFor (jRange1 (mPrim .max (mCons (mCon (.int 3)) (mCons (mPrim .min (mCons (mCon (.int 6)) (mCons (mPrim .len (mCons (mVar 0) (mNil))) (mNil)))) (mNil))))) (.nm 1) (b_law_1)
def b_law_0t0 : Ms := sSeq b_law_0_0 b_law_0t1
def f_law : Fn := fnW 1 12 (b_law_0t0)
/-! ### the module's names -/
structure Glo (K : PySem.W.Frag) (mg : Str → Option Value) : Prop where
  b_len : mg "len" = none
  b_abs : mg "abs" = none
  b_range : mg "range" = none
  b_tuple : mg "tuple" = none
  b_isinstance : mg "isinstance" = none
  b_bool : mg "bool" = none
  b_int : mg "int" = none
  b_all : mg "all" = none
  b_zip : mg "zip" = none
  b_str : mg "str" = none
  b_any : mg "any" = none
  b_enumerate : mg "enumerate" = none
  b_min : mg "min" = none
  b_max : mg "max" = none
  c_MOST_WHEELS : ∀ P w, GloW (tab P w K) K mg "MOST_WHEELS" (.int 3)
  c_MOST_BEGINNINGS : ∀ P w, GloW (tab P w K) K mg "MOST_BEGINNINGS" (.int 24)
  c_MOST_PLACES : ∀ P w, GloW (tab P w K) K mg "MOST_PLACES" (.int 4)
  c_LEAST_PLACES : ∀ P w, GloW (tab P w K) K mg "LEAST_PLACES" (.int 2)
  c_MOST_HUSHED : ∀ P w, GloW (tab P w K) K mg "MOST_HUSHED" (.int 3)
  c_RULED : ∀ P w, GloW (tab P w K) K mg "RULED" (.tup [.str "hushed", .str "awake"])
  c_PLACED : ∀ P w, GloW (tab P w K) K mg "PLACED" (.tup [.str "is", .str "not", .str "below"])
  c_PARTS : ∀ P w, GloW (tab P w K) K mg "PARTS" (.int 4)
  c_MOST_CONDITIONS : ∀ P w, GloW (tab P w K) K mg "MOST_CONDITIONS" (.int 4)
  c_CHANGES : ∀ P w, GloW (tab P w K) K mg "CHANGES" (.tup [.str "put", .str "turn"])
  c_MOST_CHANGES : ∀ P w, GloW (tab P w K) K mg "MOST_CHANGES" (.int 3)
  c_MOST_RULES : ∀ P w, GloW (tab P w K) K mg "MOST_RULES" (.int 5)
  c_FIGURES : ∀ P w, GloW (tab P w K) K mg "FIGURES" (.str "0123456789")
  c_MOST_FIGURES : ∀ P w, GloW (tab P w K) K mg "MOST_FIGURES" (.int 60)
  c_NOTHING : ∀ P w, GloW (tab P w K) K mg "NOTHING" (.str "-")
  k_Book : Cls K (He.ga K "Book")
  n_Book_wheels : NoAttr K (He.ga K "Book") "wheels"
  n_Book_rules : NoAttr K (He.ga K "Book") "rules"
  g_HushError : mg "HushError" = some (.ref (He.ga K "HushError"))
  g_NoState : mg "NoState" = some (.ref (He.ga K "NoState"))
  g_NoText : mg "NoText" = some (.ref (He.ga K "NoText"))
  t_0 : oexGB K (He.ga K "NoBook") [.type "ValueError", .type "Exception", .type "BaseException", .type "object"] "ValueError.__new__" = true
  t_1 : errB K (He.ga K "NoBook") "at" (He.fAd K ("NoBook", some "__init__")) = true
  t_2 : ownAtB K (He.ga K "HushError") "__init__" "ValueError.__init__" = true
  t_3 : oexGB K (He.ga K "NoText") [.type "ValueError", .type "Exception", .type "BaseException", .type "object"] "ValueError.__new__" = true
  t_4 : errB K (He.ga K "NoText") "at" (He.fAd K ("NoText", some "__init__")) = true
  t_5 : kitB K (clsL K) (.ref (He.ga K "NoState")) [(4, false), (6, false), (12, true)] = true
  t_6 : kitB K (clsL K) (.ref (He.ga K "HushError")) [(4, true), (6, true), (12, true)] = true
  t_7 : xfsB K (clsL K) "at" [(4, true), (6, true)] = true
  t_8 : exmB K (clsL K) [.ref (He.ga K "NoText")] [(4, false), (6, true), (12, false)] = true
  t_9 : liveB K (He.ga K "Book") = true
section
variable {P : Program} {w : World} {K : PySem.W.Frag} {mg : Str → Option Value} {base : Heap}
abbrev s__law_bag : Stmt := top 51
theorem sc__law_bag : FnScope ["_law_script", "_law_at", "_law_cell", "_law_great", "_law_primes"] ["_law_script", "_law_at"] (defScope s__law_bag) := ⟨rfl, rfl, rfl, by decide +kernel, rfl, by decide +kernel, by decide +kernel⟩
theorem ok__law_bag (G : Glo K mg) {dvs : List V} {kws : List (Str × V)} {f : Addr} {fd : FuncData} (Fd : FunD K "_law_bag" "_law_bag" (defArgs s__law_bag) (defBody s__law_bag) (defScope s__law_bag) dvs kws f fd) : FnOk P w K mg base (L2.CX P w) 1 f fd ["_law_script", "_law_at"] (spW (tab P w K) K 2 f__law_bag) := by
  have nd := (sc__law_bag).nd
  refine fnW_ok (k := 0) Fd sc__law_bag fun cdv A outer s H E hr => ?_
  have tk := takes_of (X := cxOf (L2.CX P w) P w K mg base ["_law_script", "_law_at", "_law_cell", "_law_great", "_law_primes"] "_law_bag" (defScope s__law_bag) f cdv A outer s H E) (E := E) rfl rfl rfl rfl
  exact s_cons (s_set (i := 2) nd rfl (.inl rfl) (w_int) rfl (.inl rfl))
      (s_cons (s_if (b_cmp hr (w_var (i := 1) rfl (.inl rfl) rfl rfl) (w_len rfl G.b_len (w_cons (w_var (i := 0) rfl (.inl rfl) rfl rfl) (w_nil) rfl) rfl rfl) rfl) (s_cons (s_set (i := 2) nd rfl (.inl rfl) (w_idx (w_var (i := 0) rfl (.inl rfl) rfl rfl) (w_var (i := 1) rfl (.inl rfl) rfl rfl) (fun _ _ => rfl)) rfl (.inl rfl))
      (s_nil)) (s_nil))
      (s_cons (s_set (i := 3) nd rfl (.inl rfl) (w_int) rfl (.inl rfl))
      (s_cons (s_if (b_cmp hr (w_abs rfl G.b_abs (w_cons (w_var (i := 2) rfl (.inl rfl) rfl rfl) (w_nil) rfl) rfl rfl) (w_bin (w_int) (w_int)) rfl) (s_cons (s_set (i := 3) nd rfl (.inl rfl) (w_abs rfl G.b_abs (w_cons (w_var (i := 2) rfl (.inl rfl) rfl rfl) (w_nil) rfl) rfl rfl) rfl (.inl rfl))
      (s_nil)) (s_nil))
      (s_cons (s_set (i := 4) nd rfl (.inl rfl) (w_lst (w_cons (w_int) (w_cons (w_int) (w_cons (w_int) (w_cons (w_int) (w_cons (w_int) (w_cons (w_int) (w_cons (w_int) (w_cons (w_int) (w_nil) rfl) rfl) rfl) rfl) rfl) rfl) rfl) rfl)) rfl (.inl rfl))
      (s_cons (s_ret (w_nlst (w_cons (w_var (i := 3) rfl (.inl rfl) rfl rfl) (w_cons (w_bin (w_bin (w_bin (w_bin (w_bin (w_var (i := 2) rfl (.inl rfl) rfl rfl) (w_int)) (w_bin (w_int) (w_var (i := 1) rfl (.inl rfl) rfl rfl))) (w_int)) (w_int)) (w_idx (w_var (i := 4) rfl (.inl rfl) rfl rfl) (w_bin (w_var (i := 1) rfl (.inl rfl) rfl rfl) (w_int)) (fun _ _ => rfl))) (w_cons (w_int) (w_nil) rfl) rfl) rfl)))
      (s_nil))))))
abbrev s__law_take : Stmt := top 52
theorem sc__law_take : FnScope ["_law_bag_here", "_law_many", "_law_digit"] ["_law_bag_here", "_law_many"] (defScope s__law_take) := ⟨rfl, rfl, rfl, by decide +kernel, rfl, by decide +kernel, by decide +kernel⟩
theorem ok__law_take (G : Glo K mg) {dvs : List V} {kws : List (Str × V)} {f : Addr} {fd : FuncData} (Fd : FunD K "_law_take" "_law_take" (defArgs s__law_take) (defBody s__law_take) (defScope s__law_take) dvs kws f fd) : FnOk P w K mg base (L2.CX P w) 1 f fd ["_law_bag_here", "_law_many"] (spW (tab P w K) K 2 f__law_take) := by
  have nd := (sc__law_take).nd
  refine fnW_ok (k := 0) Fd sc__law_take fun cdv A outer s H E hr => ?_
  have tk := takes_of (X := cxOf (L2.CX P w) P w K mg base ["_law_bag_here", "_law_many", "_law_digit"] "_law_take" (defScope s__law_take) f cdv A outer s H E) (E := E) rfl rfl rfl rfl
  exact s_cons (s_if (b_cmp hr (w_idx (w_var (i := 0) rfl (.inl rfl) rfl rfl) (w_int) (fun _ _ => rfl)) (w_int) rfl) (s_cons (s_set (i := 2) nd rfl (.inl rfl) (w_bin (w_idx (w_var (i := 0) rfl (.inl rfl) rfl rfl) (w_int) (fun _ _ => rfl)) (w_var (i := 1) rfl (.inl rfl) rfl rfl)) rfl (.inl rfl))
      (s_cons (s_setIx (w_var (i := 0) rfl (.inl rfl) rfl rfl) (w_int) (w_bin (w_idx (w_var (i := 0) rfl (.inl rfl) rfl rfl) (w_int) (fun _ _ => rfl)) (w_var (i := 1) rfl (.inl rfl) rfl rfl)) rfl rfl rfl (fun _ => rfl))
      (s_cons (s_ret (w_var (i := 2) rfl (.inl rfl) rfl rfl))
      (s_nil)))) (s_nil))
      (s_cons (s_setIx (w_var (i := 0) rfl (.inl rfl) rfl rfl) (w_int) (w_bin (w_idx (w_var (i := 0) rfl (.inl rfl) rfl rfl) (w_int) (fun _ _ => rfl)) (w_int)) rfl rfl rfl (fun _ => rfl))
      (s_cons (s_setIx (w_var (i := 0) rfl (.inl rfl) rfl rfl) (w_int) (w_bin (w_bin (w_bin (w_bin (w_idx (w_var (i := 0) rfl (.inl rfl) rfl rfl) (w_int) (fun _ _ => rfl)) (w_int)) (w_bin (w_bin (w_int) (w_idx (w_var (i := 0) rfl (.inl rfl) rfl rfl) (w_int) (fun _ _ => rfl))) (w_idx (w_var (i := 0) rfl (.inl rfl) rfl rfl) (w_int) (fun _ _ => rfl)))) (w_int)) (w_int)) rfl rfl rfl (fun _ => rfl))
      (s_cons (s_ret (w_bin (w_bin (w_bin (w_bin (w_idx (w_var (i := 0) rfl (.inl rfl) rfl rfl) (w_int) (fun _ _ => rfl)) (w_int)) (w_int)) (w_int)) (w_var (i := 1) rfl (.inl rfl) rfl rfl)))
      (s_nil))))
abbrev s__law_wheels : Stmt := top 53
theorem sc__law_wheels : FnScope ["_law_bag_here", "_law_found", "_law_many", "_law_turn", "_law_places"] ["_law_bag_here"] (defScope s__law_wheels) := ⟨rfl, rfl, rfl, by decide +kernel, rfl, by decide +kernel, by decide +kernel⟩
theorem ok__law_wheels (G : Glo K mg) {dvs : List V} {kws : List (Str × V)} {f : Addr} {fd : FuncData} (h__law_take : CallF (tab P w K) P w K mg base 1 "_law_take" f__law_take) (Fd : FunD K "_law_wheels" "_law_wheels" (defArgs s__law_wheels) (defBody s__law_wheels) (defScope s__law_wheels) dvs kws f fd) : FnOk P w K mg base (L2.CX P w) 2 f fd ["_law_bag_here"] (spW (tab P w K) K 1 f__law_wheels) := by
  have nd := (sc__law_wheels).nd
  refine fnW_ok (k := 1) Fd sc__law_wheels fun cdv A outer s H E hr => ?_
  have tk := takes_of (X := cxOf (L2.CX P w) P w K mg base ["_law_bag_here", "_law_found", "_law_many", "_law_turn", "_law_places"] "_law_wheels" (defScope s__law_wheels) f cdv A outer s H E) (E := E) rfl rfl rfl rfl
  exact s_cons (s_par2 rfl nd rfl rfl (by decide) rfl rfl (w_cons (w_nlst (w_nil)) (w_cons (w_int) (w_nil) rfl) rfl) rfl rfl)
      (s_cons (s_for (passes_of rfl) rfl (i_range1 rfl G.b_range (w_bin (w_int) (w_call h__law_take hr (by decide) rfl tk (w_cons (w_var (i := 0) rfl (.inl rfl) rfl rfl) (w_cons (w_int) (w_nil) rfl) rfl) rfl rfl rfl)) rfl) (g_name (i := 3) nd rfl (.inl rfl) (.inl rfl)) (s_cons (s_set (i := 4) nd rfl (.inl rfl) (w_bin (w_int) (w_call h__law_take hr (by decide) rfl tk (w_cons (w_var (i := 0) rfl (.inl rfl) rfl rfl) (w_cons (w_int) (w_nil) rfl) rfl) rfl rfl rfl)) rfl (.inl rfl))
      (s_cons (s_if (b_cmp hr (w_bin (w_var (i := 2) rfl (.inl rfl) rfl rfl) (w_var (i := 4) rfl (.inl rfl) rfl rfl)) (w_int) rfl) (s_cons (s_expr (w_app (w_var (i := 1) rfl (.inl rfl) rfl rfl) (w_var (i := 4) rfl (.inl rfl) rfl rfl) rfl rfl rfl rfl rfl) rfl)
      (s_cons (s_set (i := 2) nd rfl (.inl rfl) (w_bin (w_var (i := 2) rfl (.inl rfl) rfl rfl) (w_var (i := 4) rfl (.inl rfl) rfl rfl)) rfl (.inl rfl))
      (s_nil))) (s_nil))
      (s_nil))) (fun _ => rfl))
      (s_cons (s_ret (w_tuple rfl G.b_tuple (w_cons (w_var (i := 1) rfl (.inl rfl) rfl rfl) (w_nil) rfl) rfl rfl))
      (s_nil)))
abbrev s__law_condition : Stmt := top 54
theorem sc__law_condition : FnScope ["_law_bag_here", "_law_wheels_here", "_law_many", "_law_word", "_law_wheel"] ["_law_bag_here", "_law_wheels_here", "_law_many"] (defScope s__law_condition) := ⟨rfl, rfl, rfl, by decide +kernel, rfl, by decide +kernel, by decide +kernel⟩
theorem ok__law_condition (G : Glo K mg) {dvs : List V} {kws : List (Str × V)} {f : Addr} {fd : FuncData} (h__law_take : CallF (tab P w K) P w K mg base 1 "_law_take" f__law_take) (Fd : FunD K "_law_condition" "_law_condition" (defArgs s__law_condition) (defBody s__law_condition) (defScope s__law_condition) dvs kws f fd) : FnOk P w K mg base (L2.CX P w) 2 f fd ["_law_bag_here", "_law_wheels_here", "_law_many"] (spW (tab P w K) K 3 f__law_condition) := by
  have nd := (sc__law_condition).nd
  refine fnW_ok (k := 1) Fd sc__law_condition fun cdv A outer s H E hr => ?_
  have tk := takes_of (X := cxOf (L2.CX P w) P w K mg base ["_law_bag_here", "_law_wheels_here", "_law_many", "_law_word", "_law_wheel"] "_law_condition" (defScope s__law_condition) f cdv A outer s H E) (E := E) rfl rfl rfl rfl
  exact s_cons (s_set (i := 3) nd rfl (.inl rfl) (w_idx (w_tup (w_cons (w_str) (w_cons (w_str) (w_cons (w_str) (w_cons (w_str) (w_cons (w_str) (w_cons (w_str) (w_nil) rfl) rfl) rfl) rfl) rfl) rfl)) (w_call h__law_take hr (by decide) rfl tk (w_cons (w_var (i := 0) rfl (.inl rfl) rfl rfl) (w_cons (w_int) (w_nil) rfl) rfl) rfl rfl rfl) (fun _ _ => rfl)) rfl (.inl rfl))
      (s_cons (s_if (b_cmp hr (w_var (i := 3) rfl (.inl rfl) rfl rfl) (w_tup (w_cons (w_str) (w_cons (w_str) (w_nil) rfl) rfl)) rfl) (s_cons (s_ret (w_tup (w_cons (w_var (i := 3) rfl (.inl rfl) rfl rfl) (w_cons (w_call h__law_take hr (by decide) rfl tk (w_cons (w_var (i := 0) rfl (.inl rfl) rfl rfl) (w_cons (w_var (i := 2) rfl (.inl rfl) rfl rfl) (w_nil) rfl) rfl) rfl rfl rfl) (w_nil) rfl) rfl)))
      (s_nil)) (s_nil))
      (s_cons (s_set (i := 4) nd rfl (.inl rfl) (w_call h__law_take hr (by decide) rfl tk (w_cons (w_var (i := 0) rfl (.inl rfl) rfl rfl) (w_cons (w_len rfl G.b_len (w_cons (w_var (i := 1) rfl (.inl rfl) rfl rfl) (w_nil) rfl) rfl rfl) (w_nil) rfl) rfl) rfl rfl rfl) rfl (.inl rfl))
      (s_cons (s_ret (w_tup (w_cons (w_var (i := 3) rfl (.inl rfl) rfl rfl) (w_cons (w_var (i := 4) rfl (.inl rfl) rfl rfl) (w_cons (w_call h__law_take hr (by decide) rfl tk (w_cons (w_var (i := 0) rfl (.inl rfl) rfl rfl) (w_cons (w_idx (w_var (i := 1) rfl (.inl rfl) rfl rfl) (w_var (i := 4) rfl (.inl rfl) rfl rfl) (fun _ _ => rfl)) (w_nil) rfl) rfl) rfl rfl rfl) (w_nil) rfl) rfl) rfl)))
      (s_nil))))
abbrev s__law_change : Stmt := top 55
theorem sc__law_change : FnScope ["_law_bag_here", "_law_wheels_here", "_law_wheel"] ["_law_bag_here", "_law_wheels_here"] (defScope s__law_change) := ⟨rfl, rfl, rfl, by decide +kernel, rfl, by decide +kernel, by decide +kernel⟩
theorem ok__law_change (G : Glo K mg) {dvs : List V} {kws : List (Str × V)} {f : Addr} {fd : FuncData} (h__law_take : CallF (tab P w K) P w K mg base 1 "_law_take" f__law_take) (Fd : FunD K "_law_change" "_law_change" (defArgs s__law_change) (defBody s__law_change) (defScope s__law_change) dvs kws f fd) : FnOk P w K mg base (L2.CX P w) 2 f fd ["_law_bag_here", "_law_wheels_here"] (spW (tab P w K) K 2 f__law_change) := by
  have nd := (sc__law_change).nd
  refine fnW_ok (k := 1) Fd sc__law_change fun cdv A outer s H E hr => ?_
  have tk := takes_of (X := cxOf (L2.CX P w) P w K mg base ["_law_bag_here", "_law_wheels_here", "_law_wheel"] "_law_change" (defScope s__law_change) f cdv A outer s H E) (E := E) rfl rfl rfl rfl
  exact s_cons (s_set (i := 2) nd rfl (.inl rfl) (w_call h__law_take hr (by decide) rfl tk (w_cons (w_var (i := 0) rfl (.inl rfl) rfl rfl) (w_cons (w_len rfl G.b_len (w_cons (w_var (i := 1) rfl (.inl rfl) rfl rfl) (w_nil) rfl) rfl rfl) (w_nil) rfl) rfl) rfl rfl rfl) rfl (.inl rfl))
      (s_cons (s_ret (w_tup (w_cons (w_idx (w_tup (w_cons (w_str) (w_cons (w_str) (w_cons (w_str) (w_nil) rfl) rfl) rfl)) (w_call h__law_take hr (by decide) rfl tk (w_cons (w_var (i := 0) rfl (.inl rfl) rfl rfl) (w_cons (w_int) (w_nil) rfl) rfl) rfl rfl rfl) (fun _ _ => rfl)) (w_cons (w_var (i := 2) rfl (.inl rfl) rfl rfl) (w_cons (w_call h__law_take hr (by decide) rfl tk (w_cons (w_var (i := 0) rfl (.inl rfl) rfl rfl) (w_cons (w_idx (w_var (i := 1) rfl (.inl rfl) rfl rfl) (w_var (i := 2) rfl (.inl rfl) rfl rfl) (fun _ _ => rfl)) (w_nil) rfl) rfl) rfl rfl rfl) (w_nil) rfl) rfl) rfl)))
      (s_nil))
abbrev s__law_rule : Stmt := top 56
theorem sc__law_rule : FnScope ["_law_bag_here", "_law_wheels_here", "_law_many", "_law_test", "_law_changes", "_law_hushes", "_law_wakes", "_law_other", "_law_way", "_law_turn"] ["_law_bag_here", "_law_wheels_here", "_law_many"] (defScope s__law_rule) := ⟨rfl, rfl, rfl, by decide +kernel, rfl, by decide +kernel, by decide +kernel⟩
theorem ok__law_rule (G : Glo K mg) {dvs : List V} {kws : List (Str × V)} {f : Addr} {fd : FuncData} (h__law_take : CallF (tab P w K) P w K mg base 1 "_law_take" f__law_take) (h__law_condition : CallF (tab P w K) P w K mg base 2 "_law_condition" f__law_condition) (h__law_change : CallF (tab P w K) P w K mg base 2 "_law_change" f__law_change) (Fd : FunD K "_law_rule" "_law_rule" (defArgs s__law_rule) (defBody s__law_rule) (defScope s__law_rule) dvs kws f fd) : FnOk P w K mg base (L2.CX P w) 3 f fd ["_law_bag_here", "_law_wheels_here", "_law_many"] (spW (tab P w K) K 3 f__law_rule) := by
  have nd := (sc__law_rule).nd
  refine fnW_ok (k := 2) Fd sc__law_rule fun cdv A outer s H E hr => ?_
  have tk := takes_of (X := cxOf (L2.CX P w) P w K mg base ["_law_bag_here", "_law_wheels_here", "_law_many", "_law_test", "_law_changes", "_law_hushes", "_law_wakes", "_law_other", "_law_way", "_law_turn"] "_law_rule" (defScope s__law_rule) f cdv A outer s H E) (E := E) rfl rfl rfl rfl
  exact s_cons (s_setLc (i := 3) (mt := false) rfl nd rfl rfl (sw_true rfl rfl rfl rfl) (i_range1 rfl G.b_range (w_idx (w_tup (w_cons (w_int) (w_cons (w_int) (w_cons (w_int) (w_cons (w_int) (w_cons (w_int) (w_cons (w_int) (w_nil) rfl) rfl) rfl) rfl) rfl) rfl)) (w_call h__law_take hr (by decide) rfl tk (w_cons (w_var (i := 0) rfl (.inr (.inl rfl)) rfl rfl) (w_cons (w_int) (w_nil) rfl) rfl) rfl rfl rfl) (fun _ _ => rfl)) rfl) (blkOk_by (own := [("_law_turn", 9)]) (by kernel_rfl)) rfl rfl (fun _ _ _ _ _ => g_name (i := 9) nd rfl (.inl rfl) (.inr rfl)) (fun _ _ _ _ _ => bs_nil) (fun _ _ _ _ _ => w_call h__law_condition hr (by decide) rfl L2.takes0 (w_cons (w_var (i := 0) rfl (.inr (.inl rfl)) rfl rfl) (w_cons (w_var (i := 1) rfl (.inr (.inl rfl)) rfl rfl) (w_cons (w_var (i := 2) rfl (.inr (.inl rfl)) rfl rfl) (w_nil) rfl) rfl) rfl) rfl rfl rfl) (fun _ => rfl))
      (s_cons (s_setLc (i := 4) (mt := false) rfl nd rfl rfl (sw_true rfl rfl rfl rfl) (i_range1 rfl G.b_range (w_idx (w_tup (w_cons (w_int) (w_cons (w_int) (w_cons (w_int) (w_cons (w_int) (w_cons (w_int) (w_nil) rfl) rfl) rfl) rfl) rfl)) (w_call h__law_take hr (by decide) rfl tk (w_cons (w_var (i := 0) rfl (.inr (.inl rfl)) rfl rfl) (w_cons (w_int) (w_nil) rfl) rfl) rfl rfl rfl) (fun _ _ => rfl)) rfl) (blkOk_by (own := [("_law_turn", 9)]) (by kernel_rfl)) rfl rfl (fun _ _ _ _ _ => g_name (i := 9) nd rfl (.inl rfl) (.inr rfl)) (fun _ _ _ _ _ => bs_nil) (fun _ _ _ _ _ => w_call h__law_change hr (by decide) rfl L2.takes0 (w_cons (w_var (i := 0) rfl (.inr (.inl rfl)) rfl rfl) (w_cons (w_var (i := 1) rfl (.inr (.inl rfl)) rfl rfl) (w_nil) rfl) rfl) rfl rfl rfl) (fun _ => rfl))
      (s_cons (s_par2 rfl nd rfl rfl (by decide) rfl rfl (w_cons (w_nlst (w_nil)) (w_cons (w_nlst (w_nil)) (w_nil) rfl) rfl) rfl rfl)
      (s_cons (s_for (passes_of rfl) rfl (i_range1 rfl G.b_range (w_var (i := 2) rfl (.inr (.inl rfl)) rfl rfl) rfl) (g_name (i := 7) nd rfl (.inl rfl) (.inl rfl)) (s_cons (s_set (i := 8) nd rfl (.inl rfl) (w_call h__law_take hr (by decide) rfl tk (w_cons (w_var (i := 0) rfl (.inr (.inl rfl)) rfl rfl) (w_cons (w_int) (w_nil) rfl) rfl) rfl rfl rfl) rfl (.inl rfl))
      (s_cons (s_if (b_cmp hr (w_var (i := 8) rfl (.inl rfl) rfl rfl) (w_int) rfl) (s_cons (s_expr (w_app (w_var (i := 5) rfl (.inl rfl) rfl rfl) (w_tup (w_cons (w_var (i := 7) rfl (.inl rfl) rfl rfl) (w_cons (w_bin (w_int) (w_call h__law_take hr (by decide) rfl tk (w_cons (w_var (i := 0) rfl (.inr (.inl rfl)) rfl rfl) (w_cons (w_int) (w_nil) rfl) rfl) rfl rfl rfl)) (w_nil) rfl) rfl)) rfl rfl rfl rfl rfl) rfl)
      (s_nil)) (s_nil))
      (s_cons (s_if (b_cmp hr (w_var (i := 8) rfl (.inl rfl) rfl rfl) (w_int) rfl) (s_cons (s_expr (w_app (w_var (i := 6) rfl (.inl rfl) rfl rfl) (w_var (i := 7) rfl (.inl rfl) rfl rfl) rfl rfl rfl rfl rfl) rfl)
      (s_nil)) (s_nil))
      (s_nil)))) (fun _ => rfl))
      (s_cons (s_ret (w_tup (w_cons (w_tuple rfl G.b_tuple (w_cons (w_var (i := 3) rfl (.inl rfl) rfl rfl) (w_nil) rfl) rfl rfl) (w_cons (w_tuple rfl G.b_tuple (w_cons (w_var (i := 4) rfl (.inl rfl) rfl rfl) (w_nil) rfl) rfl rfl) (w_cons (w_tuple rfl G.b_tuple (w_cons (w_var (i := 5) rfl (.inl rfl) rfl rfl) (w_nil) rfl) rfl rfl) (w_cons (w_tuple rfl G.b_tuple (w_cons (w_var (i := 6) rfl (.inl rfl) rfl rfl) (w_nil) rfl) rfl rfl) (w_nil) rfl) rfl) rfl) rfl)))
      (s_nil)))))
abbrev s__law_rules : Stmt := top 57
theorem sc__law_rules : FnScope ["_law_bag_here", "_law_wheels_here", "_law_many", "_law_turn"] ["_law_bag_here", "_law_wheels_here", "_law_many"] (defScope s__law_rules) := ⟨rfl, rfl, rfl, by decide +kernel, rfl, by decide +kernel, by decide +kernel⟩
theorem ok__law_rules (G : Glo K mg) {dvs : List V} {kws : List (Str × V)} {f : Addr} {fd : FuncData} (h__law_rule : CallF (tab P w K) P w K mg base 3 "_law_rule" f__law_rule) (Fd : FunD K "_law_rules" "_law_rules" (defArgs s__law_rules) (defBody s__law_rules) (defScope s__law_rules) dvs kws f fd) : FnOk P w K mg base (L2.CX P w) 4 f fd ["_law_bag_here", "_law_wheels_here", "_law_many"] (spW (tab P w K) K 3 f__law_rules) := by
  have nd := (sc__law_rules).nd
  refine fnW_ok (k := 3) Fd sc__law_rules fun cdv A outer s H E hr => ?_
  have tk := takes_of (X := cxOf (L2.CX P w) P w K mg base ["_law_bag_here", "_law_wheels_here", "_law_many", "_law_turn"] "_law_rules" (defScope s__law_rules) f cdv A outer s H E) (E := E) rfl rfl rfl rfl
  exact s_cons (s_ret (w_tuple rfl G.b_tuple (w_cons (w_lc (mt := false) rfl nd (i_range1 rfl G.b_range (w_var (i := 2) rfl (.inr (.inl rfl)) rfl rfl) rfl) (blkOk_by (own := [("_law_turn", 3)]) (by kernel_rfl)) rfl rfl (fun _ _ _ _ _ => g_name (i := 3) nd rfl (.inl rfl) (.inr rfl)) (fun _ _ _ _ _ => bs_nil) (fun _ _ _ _ _ => w_call h__law_rule hr (by decide) rfl L2.takes0 (w_cons (w_var (i := 0) rfl (.inr (.inl rfl)) rfl rfl) (w_cons (w_var (i := 1) rfl (.inr (.inl rfl)) rfl rfl) (w_cons (w_var (i := 2) rfl (.inr (.inl rfl)) rfl rfl) (w_nil) rfl) rfl) rfl) rfl rfl rfl) (fun _ => rfl)) (w_nil) rfl) rfl rfl))
      (s_nil)
abbrev s__law_drawn : Stmt := top 58
theorem sc__law_drawn : FnScope ["_law_bag_here", "_law_wheels_here"] ["_law_bag_here"] (defScope s__law_drawn) := ⟨rfl, rfl, rfl, by decide +kernel, rfl, by decide +kernel, by decide +kernel⟩
theorem ok__law_drawn (G : Glo K mg) {dvs : List V} {kws : List (Str × V)} {f : Addr} {fd : FuncData} (h__law_wheels : CallF (tab P w K) P w K mg base 2 "_law_wheels" f__law_wheels) (h__law_rules : CallF (tab P w K) P w K mg base 4 "_law_rules" f__law_rules) (h__law_take : CallF (tab P w K) P w K mg base 1 "_law_take" f__law_take) (Fd : FunD K "_law_drawn" "_law_drawn" (defArgs s__law_drawn) (defBody s__law_drawn) (defScope s__law_drawn) dvs kws f fd) : FnOk P w K mg base (L2.CX P w) 5 f fd ["_law_bag_here"] (spW (tab P w K) K 1 f__law_drawn) := by
  have nd := (sc__law_drawn).nd
  refine fnW_ok (k := 4) Fd sc__law_drawn fun cdv A outer s H E hr => ?_
  have tk := takes_of (X := cxOf (L2.CX P w) P w K mg base ["_law_bag_here", "_law_wheels_here"] "_law_drawn" (defScope s__law_drawn) f cdv A outer s H E) (E := E) rfl rfl rfl rfl
  exact s_cons (s_set (i := 1) nd rfl (.inl rfl) (w_call h__law_wheels hr (by decide) rfl tk (w_cons (w_var (i := 0) rfl (.inl rfl) rfl rfl) (w_nil) rfl) rfl rfl rfl) rfl (.inl rfl))
      (s_cons (s_ret (w_tup (w_cons (w_var (i := 1) rfl (.inl rfl) rfl rfl) (w_cons (w_call h__law_rules hr (by decide) rfl tk (w_cons (w_var (i := 0) rfl (.inl rfl) rfl rfl) (w_cons (w_var (i := 1) rfl (.inl rfl) rfl rfl) (w_cons (w_idx (w_tup (w_cons (w_int) (w_cons (w_int) (w_cons (w_int) (w_cons (w_int) (w_cons (w_int) (w_cons (w_int) (w_nil) rfl) rfl) rfl) rfl) rfl) rfl)) (w_call h__law_take hr (by decide) rfl tk (w_cons (w_var (i := 0) rfl (.inl rfl) rfl rfl) (w_cons (w_int) (w_nil) rfl) rfl) rfl rfl rfl) (fun _ _ => rfl)) (w_nil) rfl) rfl) rfl) rfl rfl rfl) (w_nil) rfl) rfl)))
      (s_nil))
abbrev s_NoBook___init__ : Stmt := inClass (top 2) 0
theorem sc_NoBook___init__ : FnScope ["self", "at"] ["self", "at"] (defScope s_NoBook___init__) := ⟨rfl, rfl, rfl, by decide +kernel, rfl, by decide +kernel, by decide +kernel⟩
theorem ok_NoBook___init__ (G : Glo K mg) {f : Addr} {fd : FuncData} (Fd : FunD K "__init__" "NoBook.__init__" (defArgs s_NoBook___init__) (defBody s_NoBook___init__) (defScope s_NoBook___init__) [] [] f fd) : FnOk P w K mg base (L2.CX P w) 1 f fd ["self", "at"] (spIni (He.ga K "NoBook") "at") :=
  ini_ok (oexGB_ok G.t_0) (errB_no G.t_1) Fd sc_NoBook___init__ fun cdv A outer s H E => ini_body PySem.GX.base_Value (pe_ownat (call_ini PySem.GX.base_Value) (ownAtB_ok G.t_2).1 (ownAtB_ok G.t_2).2.1 (ownAtB_ok G.t_2).2.2 (by decide +kernel) rfl G.g_HushError (pa_cons (pe_var (i := 0) rfl (.inl rfl) rfl rfl) (pa_cons pe_str pa_nil rfl) rfl) rfl rfl rfl rfl) rfl rfl rfl (.inl rfl) (.inl rfl) rfl rfl rfl rfl rfl
abbrev s_is_row : Stmt := top 28
theorem sc_is_row : FnScope ["thing", "most"] ["thing", "most"] (defScope s_is_row) := ⟨rfl, rfl, rfl, by decide +kernel, rfl, by decide +kernel, by decide +kernel⟩
theorem ok_is_row (G : Glo K mg) {dvs : List V} {kws : List (Str × V)} {f : Addr} {fd : FuncData} (Fd : FunD K "is_row" "is_row" (defArgs s_is_row) (defBody s_is_row) (defScope s_is_row) dvs kws f fd) : FnOk P w K mg base (L2.CX P w) 1 f fd ["thing", "most"] (spW (tab P w K) K 2 f_is_row) := by
  have nd := (sc_is_row).nd
  refine fnW_ok (k := 0) Fd sc_is_row fun cdv A outer s H E hr => ?_
  have tk := takes_of (X := cxOf (L2.CX P w) P w K mg base ["thing", "most"] "is_row" (defScope s_is_row) f cdv A outer s H E) (E := E) rfl rfl rfl rfl
  exact s_cons (s_ret (w_and (w_isTuple tab_lv rfl G.b_isinstance rfl G.b_tuple (w_var (i := 0) rfl (.inl rfl) rfl rfl) rfl rfl rfl) (one (w_cmp hr (w_len rfl G.b_len (w_cons (w_var (i := 0) rfl (.inl rfl) rfl rfl) (w_nil) rfl) rfl rfl) (w_var (i := 1) rfl (.inl rfl) rfl rfl) rfl))))
      (s_nil)
abbrev s_how_many : Stmt := top 30
theorem sc_how_many : FnScope ["wheels", "found", "places"] ["wheels"] (defScope s_how_many) := ⟨rfl, rfl, rfl, by decide +kernel, rfl, by decide +kernel, by decide +kernel⟩
theorem ok_how_many (G : Glo K mg) {dvs : List V} {kws : List (Str × V)} {f : Addr} {fd : FuncData} (Fd : FunD K "how_many" "how_many" (defArgs s_how_many) (defBody s_how_many) (defScope s_how_many) dvs kws f fd) : FnOk P w K mg base (L2.CX P w) 1 f fd ["wheels"] (spW (tab P w K) K 1 f_how_many) := by
  have nd := (sc_how_many).nd
  refine fnW_ok (k := 0) Fd sc_how_many fun cdv A outer s H E hr => ?_
  have tk := takes_of (X := cxOf (L2.CX P w) P w K mg base ["wheels", "found", "places"] "how_many" (defScope s_how_many) f cdv A outer s H E) (E := E) rfl rfl rfl rfl
  exact s_cons (s_set (i := 1) nd rfl (.inl rfl) (w_int) rfl (.inl rfl))
      (s_cons (s_for (passes_of rfl) rfl (i_seq (w_var (i := 0) rfl (.inl rfl) rfl rfl)) (g_name (i := 2) nd rfl (.inl rfl) (.inl rfl)) (s_cons (s_aug (i := 1) nd rfl (.inl rfl) (w_var (i := 2) rfl (.inl rfl) rfl rfl) (.inl rfl))
      (s_nil)) (fun _ => rfl))
      (s_cons (s_ret (w_var (i := 1) rfl (.inl rfl) rfl rfl))
      (s_nil)))
abbrev s_is_whole : Stmt := top 26
theorem sc_is_whole : FnScope ["thing"] ["thing"] (defScope s_is_whole) := ⟨rfl, rfl, rfl, by decide +kernel, rfl, by decide +kernel, by decide +kernel⟩
theorem ok_is_whole (G : Glo K mg) {dvs : List V} {kws : List (Str × V)} {f : Addr} {fd : FuncData} (Fd : FunD K "is_whole" "is_whole" (defArgs s_is_whole) (defBody s_is_whole) (defScope s_is_whole) dvs kws f fd) : FnOk P w K mg base (L2.CX P w) 1 f fd ["thing"] (spW (tab P w K) K 1 f_is_whole) := by
  have nd := (sc_is_whole).nd
  refine fnW_ok (k := 0) Fd sc_is_whole fun cdv A outer s H E hr => ?_
  have tk := takes_of (X := cxOf (L2.CX P w) P w K mg base ["thing"] "is_whole" (defScope s_is_whole) f cdv A outer s H E) (E := E) rfl rfl rfl rfl
  exact s_cons (s_ret (w_and (w_isInt tab_lv rfl G.b_isinstance rfl G.b_int (w_var (i := 0) rfl (.inl rfl) rfl rfl) rfl rfl rfl) (one (w_not (w_isBool tab_lv rfl G.b_isinstance rfl G.b_bool (w_var (i := 0) rfl (.inl rfl) rfl rfl) rfl rfl rfl)))))
      (s_nil)
abbrev s_is_from : Stmt := top 27
theorem sc_is_from : FnScope ["thing", "least", "below"] ["thing", "least", "below"] (defScope s_is_from) := ⟨rfl, rfl, rfl, by decide +kernel, rfl, by decide +kernel, by decide +kernel⟩
theorem ok_is_from (G : Glo K mg) {dvs : List V} {kws : List (Str × V)} {f : Addr} {fd : FuncData} (h_is_whole : CallF (tab P w K) P w K mg base 1 "is_whole" f_is_whole) (Fd : FunD K "is_from" "is_from" (defArgs s_is_from) (defBody s_is_from) (defScope s_is_from) dvs kws f fd) : FnOk P w K mg base (L2.CX P w) 2 f fd ["thing", "least", "below"] (spW (tab P w K) K 3 f_is_from) := by
  have nd := (sc_is_from).nd
  refine fnW_ok (k := 1) Fd sc_is_from fun cdv A outer s H E hr => ?_
  have tk := takes_of (X := cxOf (L2.CX P w) P w K mg base ["thing", "least", "below"] "is_from" (defScope s_is_from) f cdv A outer s H E) (E := E) rfl rfl rfl rfl
  exact s_cons (s_ret (w_and (w_callP h_is_whole hr (by decide) rfl tk (w_cons (w_var (i := 0) rfl (.inl rfl) rfl rfl) (w_nil) rfl) rfl rfl rfl) (one (w_chain hr (w_var (i := 1) rfl (.inl rfl) rfl rfl) (w_var (i := 0) rfl (.inl rfl) rfl rfl) (w_var (i := 2) rfl (.inl rfl) rfl rfl) (by with_unfolding_all rfl)))))
      (s_nil)
abbrev s_are_wheels : Stmt := top 31
theorem sc_are_wheels : FnScope ["thing", "one"] ["thing"] (defScope s_are_wheels) := ⟨rfl, rfl, rfl, by decide +kernel, rfl, by decide +kernel, by decide +kernel⟩
theorem ok_are_wheels (G : Glo K mg) {dvs : List V} {kws : List (Str × V)} {f : Addr} {fd : FuncData} (h_is_row : CallF (tab P w K) P w K mg base 1 "is_row" f_is_row) (h_how_many : CallF (tab P w K) P w K mg base 1 "how_many" f_how_many) (h_is_from : CallF (tab P w K) P w K mg base 2 "is_from" f_is_from) (Fd : FunD K "are_wheels" "are_wheels" (defArgs s_are_wheels) (defBody s_are_wheels) (defScope s_are_wheels) dvs kws f fd) : FnOk P w K mg base (L2.CX P w) 3 f fd ["thing"] (spW (tab P w K) K 1 f_are_wheels) := by
  have nd := (sc_are_wheels).nd
  refine fnW_ok (k := 2) Fd sc_are_wheels fun cdv A outer s H E hr => ?_
  have tk := takes_of (X := cxOf (L2.CX P w) P w K mg base ["thing", "one"] "are_wheels" (defScope s_are_wheels) f cdv A outer s H E) (E := E) rfl rfl rfl rfl
  exact s_cons (s_if (L2.PW.pt (b_or (b_not (b_test (w_callP h_is_row hr (by decide) rfl tk (w_cons (w_var (i := 0) rfl (.inl rfl) rfl rfl) (w_cons (w_globW rfl (G.c_MOST_WHEELS _ _) rfl) (w_nil) rfl) rfl) rfl rfl rfl) (fun _ => rfl))) (b_or1 (b_cmp hr (w_var (i := 0) rfl (.inl rfl) rfl rfl) (w_tup (w_nil)) rfl)))) (s_cons (s_ret (w_bl))
      (s_nil)) (s_nil))
      (s_cons (s_ret (w_and (w_all rfl rfl G.b_all (w_cons (w_lc (mt := false) rfl nd (i_seq (w_var (i := 0) rfl (.inl rfl) rfl rfl)) (blkOk_by (own := [("one", 1)]) (by kernel_rfl)) rfl rfl (fun _ _ _ _ _ => g_name (i := 1) nd rfl (.inl rfl) (.inr rfl)) (fun _ _ _ _ _ => bs_nil) (fun _ _ _ _ _ => w_callP h_is_from hr (by decide) rfl L2.takes0 (w_cons (w_var (i := 1) rfl (.inl rfl) rfl rfl) (w_cons (w_globW rfl (G.c_LEAST_PLACES _ _) rfl) (w_cons (w_bin (w_globW rfl (G.c_MOST_PLACES _ _) rfl) (w_int)) (w_nil) rfl) rfl) rfl) rfl rfl rfl) (fun _ => rfl)) (w_nil) rfl) rfl rfl) (one (w_cmp hr (w_callP h_how_many hr (by decide) rfl tk (w_cons (w_var (i := 0) rfl (.inl rfl) rfl rfl) (w_nil) rfl) rfl rfl rfl) (w_globW rfl (G.c_MOST_BEGINNINGS _ _) rfl) rfl))))
      (s_nil))
abbrev s_are_rising : Stmt := top 29
theorem sc_are_rising : FnScope ["numbers", "one", "other"] ["numbers"] (defScope s_are_rising) := ⟨rfl, rfl, rfl, by decide +kernel, rfl, by decide +kernel, by decide +kernel⟩
theorem ok_are_rising (G : Glo K mg) {dvs : List V} {kws : List (Str × V)} {f : Addr} {fd : FuncData} (Fd : FunD K "are_rising" "are_rising" (defArgs s_are_rising) (defBody s_are_rising) (defScope s_are_rising) dvs kws f fd) : FnOk P w K mg base (L2.CX P w) 1 f fd ["numbers"] (spW (tab P w K) K 1 f_are_rising) := by
  have nd := (sc_are_rising).nd
  refine fnW_ok (k := 0) Fd sc_are_rising fun cdv A outer s H E hr => ?_
  have tk := takes_of (X := cxOf (L2.CX P w) P w K mg base ["numbers", "one", "other"] "are_rising" (defScope s_are_rising) f cdv A outer s H E) (E := E) rfl rfl rfl rfl
  exact s_cons (s_ret (w_all rfl rfl G.b_all (w_cons (w_lc (mt := false) rfl nd (i_zip rfl G.b_zip (w_var (i := 0) rfl (.inl rfl) rfl rfl) (w_slc (w_var (i := 0) rfl (.inl rfl) rfl rfl) (w_part (w_int)) (w_noPart)) rfl rfl rfl) (blkOk_by (own := [("one", 1), ("other", 2)]) (by kernel_rfl)) rfl rfl (fun _ _ _ _ _ => g_tup rfl (gs_name (i := 1) nd rfl (.inl rfl) (.inr rfl) (gs_name (i := 2) nd rfl (.inl rfl) (.inr rfl) (gs_nil) rfl) rfl) rfl rfl) (fun _ _ _ _ _ => bs_nil) (fun _ _ _ _ _ => w_cmp hr (w_var (i := 1) rfl (.inl rfl) rfl rfl) (w_var (i := 2) rfl (.inl rfl) rfl rfl) rfl) (fun _ => rfl)) (w_nil) rfl) rfl rfl))
      (s_nil)
abbrev s_is_hush : Stmt := top 36
theorem sc_is_hush : FnScope ["many", "thing"] ["many", "thing"] (defScope s_is_hush) := ⟨rfl, rfl, rfl, by decide +kernel, rfl, by decide +kernel, by decide +kernel⟩
theorem ok_is_hush (G : Glo K mg) {dvs : List V} {kws : List (Str × V)} {f : Addr} {fd : FuncData} (h_is_from : CallF (tab P w K) P w K mg base 2 "is_from" f_is_from) (Fd : FunD K "is_hush" "is_hush" (defArgs s_is_hush) (defBody s_is_hush) (defScope s_is_hush) dvs kws f fd) : FnOk P w K mg base (L2.CX P w) 3 f fd ["many", "thing"] (spW (tab P w K) K 2 f_is_hush) := by
  have nd := (sc_is_hush).nd
  refine fnW_ok (k := 2) Fd sc_is_hush fun cdv A outer s H E hr => ?_
  have tk := takes_of (X := cxOf (L2.CX P w) P w K mg base ["many", "thing"] "is_hush" (defScope s_is_hush) f cdv A outer s H E) (E := E) rfl rfl rfl rfl
  exact s_cons (s_if (L2.PW.pt (b_or (b_not (b_test (w_isTuple tab_lv rfl G.b_isinstance rfl G.b_tuple (w_var (i := 1) rfl (.inl rfl) rfl rfl) rfl rfl rfl) (fun _ => rfl))) (b_or1 (b_cmp hr (w_len rfl G.b_len (w_cons (w_var (i := 1) rfl (.inl rfl) rfl rfl) (w_nil) rfl) rfl rfl) (w_int) rfl)))) (s_cons (s_ret (w_bl))
      (s_nil)) (s_nil))
      (s_cons (s_ret (w_and (w_callP h_is_from hr (by decide) rfl tk (w_cons (w_idx (w_var (i := 1) rfl (.inl rfl) rfl rfl) (w_int) (fun _ _ => rfl)) (w_cons (w_int) (w_cons (w_var (i := 0) rfl (.inl rfl) rfl rfl) (w_nil) rfl) rfl) rfl) rfl rfl rfl) (one (w_callP h_is_from hr (by decide) rfl tk (w_cons (w_idx (w_var (i := 1) rfl (.inl rfl) rfl rfl) (w_int) (fun _ _ => rfl)) (w_cons (w_int) (w_cons (w_bin (w_globW rfl (G.c_MOST_HUSHED _ _) rfl) (w_int)) (w_nil) rfl) rfl) rfl) rfl rfl rfl))))
      (s_nil))
abbrev s_are_hushes : Stmt := top 37
theorem sc_are_hushes : FnScope ["many", "thing", "rule", "beats", "one"] ["many", "thing"] (defScope s_are_hushes) := ⟨rfl, rfl, rfl, by decide +kernel, rfl, by decide +kernel, by decide +kernel⟩
theorem ok_are_hushes (G : Glo K mg) {dvs : List V} {kws : List (Str × V)} {f : Addr} {fd : FuncData} (h_is_hush : CallF (tab P w K) P w K mg base 3 "is_hush" f_is_hush) (h_are_rising : CallF (tab P w K) P w K mg base 1 "are_rising" f_are_rising) (Fd : FunD K "are_hushes" "are_hushes" (defArgs s_are_hushes) (defBody s_are_hushes) (defScope s_are_hushes) dvs kws f fd) : FnOk P w K mg base (L2.CX P w) 4 f fd ["many", "thing"] (spW (tab P w K) K 2 f_are_hushes) := by
  have nd := (sc_are_hushes).nd
  refine fnW_ok (k := 3) Fd sc_are_hushes fun cdv A outer s H E hr => ?_
  have tk := takes_of (X := cxOf (L2.CX P w) P w K mg base ["many", "thing", "rule", "beats", "one"] "are_hushes" (defScope s_are_hushes) f cdv A outer s H E) (E := E) rfl rfl rfl rfl
  exact s_cons (s_if (L2.PW.pt (b_or (b_not (b_test (w_isTuple tab_lv rfl G.b_isinstance rfl G.b_tuple (w_var (i := 1) rfl (.inl rfl) rfl rfl) rfl rfl rfl) (fun _ => rfl))) (b_or1 (b_not (b_test (w_all rfl rfl G.b_all (w_cons (w_lc (mt := false) rfl nd (i_seq (w_var (i := 1) rfl (.inl rfl) rfl rfl)) (blkOk_by (own := [("one", 4)]) (by kernel_rfl)) rfl rfl (fun _ _ _ _ _ => g_name (i := 4) nd rfl (.inl rfl) (.inr rfl)) (fun _ _ _ _ _ => bs_nil) (fun _ _ _ _ _ => w_callP h_is_hush hr (by decide) rfl L2.takes0 (w_cons (w_var (i := 0) rfl (.inr (.inl rfl)) rfl rfl) (w_cons (w_var (i := 4) rfl (.inl rfl) rfl rfl) (w_nil) rfl) rfl) rfl rfl rfl) (fun _ => rfl)) (w_nil) rfl) rfl rfl) (fun _ => rfl)))))) (s_cons (s_ret (w_bl))
      (s_nil)) (s_nil))
      (s_cons (s_ret (w_callP h_are_rising hr (by decide) rfl tk (w_cons (w_lc (mt := false) rfl nd (i_seq (w_var (i := 1) rfl (.inl rfl) rfl rfl)) (blkOk_by (own := [("rule", 2), ("beats", 3)]) (by kernel_rfl)) rfl rfl (fun _ _ _ _ _ => g_tup rfl (gs_name (i := 2) nd rfl (.inl rfl) (.inr rfl) (gs_name (i := 3) nd rfl (.inl rfl) (.inr rfl) (gs_nil) rfl) rfl) rfl rfl) (fun _ _ _ _ _ => bs_nil) (fun _ _ _ _ _ => w_var (i := 2) rfl (.inl rfl) rfl rfl) (fun _ => rfl)) (w_nil) rfl) rfl rfl rfl))
      (s_nil))
abbrev s_are_rules_numbers : Stmt := top 35
theorem sc_are_rules_numbers : FnScope ["thing", "many", "one"] ["thing", "many"] (defScope s_are_rules_numbers) := ⟨rfl, rfl, rfl, by decide +kernel, rfl, by decide +kernel, by decide +kernel⟩
theorem ok_are_rules_numbers (G : Glo K mg) {dvs : List V} {kws : List (Str × V)} {f : Addr} {fd : FuncData} (h_are_rising : CallF (tab P w K) P w K mg base 1 "are_rising" f_are_rising) (h_is_from : CallF (tab P w K) P w K mg base 2 "is_from" f_is_from) (Fd : FunD K "are_rules_numbers" "are_rules_numbers" (defArgs s_are_rules_numbers) (defBody s_are_rules_numbers) (defScope s_are_rules_numbers) dvs kws f fd) : FnOk P w K mg base (L2.CX P w) 3 f fd ["thing", "many"] (spW (tab P w K) K 2 f_are_rules_numbers) := by
  have nd := (sc_are_rules_numbers).nd
  refine fnW_ok (k := 2) Fd sc_are_rules_numbers fun cdv A outer s H E hr => ?_
  have tk := takes_of (X := cxOf (L2.CX P w) P w K mg base ["thing", "many", "one"] "are_rules_numbers" (defScope s_are_rules_numbers) f cdv A outer s H E) (E := E) rfl rfl rfl rfl
  exact s_cons (s_ret (w_and (w_isTuple tab_lv rfl G.b_isinstance rfl G.b_tuple (w_var (i := 0) rfl (.inl rfl) rfl rfl) rfl rfl rfl) (w_and (w_all rfl rfl G.b_all (w_cons (w_lc (mt := false) rfl nd (i_seq (w_var (i := 0) rfl (.inl rfl) rfl rfl)) (blkOk_by (own := [("one", 2)]) (by kernel_rfl)) rfl rfl (fun _ _ _ _ _ => g_name (i := 2) nd rfl (.inl rfl) (.inr rfl)) (fun _ _ _ _ _ => bs_nil) (fun _ _ _ _ _ => w_callP h_is_from hr (by decide) rfl L2.takes0 (w_cons (w_var (i := 2) rfl (.inl rfl) rfl rfl) (w_cons (w_int) (w_cons (w_var (i := 1) rfl (.inr (.inl rfl)) rfl rfl) (w_nil) rfl) rfl) rfl) rfl rfl rfl) (fun _ => rfl)) (w_nil) rfl) rfl rfl) (one (w_callP h_are_rising hr (by decide) rfl tk (w_cons (w_var (i := 0) rfl (.inl rfl) rfl rfl) (w_nil) rfl) rfl rfl rfl)))))
      (s_nil)
abbrev s_is_worded : Stmt := top 32
theorem sc_is_worded : FnScope ["thing", "words", "many"] ["thing", "words", "many"] (defScope s_is_worded) := ⟨rfl, rfl, rfl, by decide +kernel, rfl, by decide +kernel, by decide +kernel⟩
theorem ok_is_worded (G : Glo K mg) {dvs : List V} {kws : List (Str × V)} {f : Addr} {fd : FuncData} (Fd : FunD K "is_worded" "is_worded" (defArgs s_is_worded) (defBody s_is_worded) (defScope s_is_worded) dvs kws f fd) : FnOk P w K mg base (L2.CX P w) 1 f fd ["thing", "words", "many"] (spW (tab P w K) K 3 f_is_worded) := by
  have nd := (sc_is_worded).nd
  refine fnW_ok (k := 0) Fd sc_is_worded fun cdv A outer s H E hr => ?_
  have tk := takes_of (X := cxOf (L2.CX P w) P w K mg base ["thing", "words", "many"] "is_worded" (defScope s_is_worded) f cdv A outer s H E) (E := E) rfl rfl rfl rfl
  exact s_cons (s_ret (w_and (w_isTuple tab_lv rfl G.b_isinstance rfl G.b_tuple (w_var (i := 0) rfl (.inl rfl) rfl rfl) rfl rfl rfl) (w_and (w_cmp hr (w_len rfl G.b_len (w_cons (w_var (i := 0) rfl (.inl rfl) rfl rfl) (w_nil) rfl) rfl rfl) (w_var (i := 2) rfl (.inl rfl) rfl rfl) rfl) (w_and (w_isStr tab_lv rfl G.b_isinstance rfl G.b_str (w_idx (w_var (i := 0) rfl (.inl rfl) rfl rfl) (w_int) (fun _ _ => rfl)) rfl rfl rfl) (one (w_cmp hr (w_idx (w_var (i := 0) rfl (.inl rfl) rfl rfl) (w_int) (fun _ _ => rfl)) (w_var (i := 1) rfl (.inl rfl) rfl rfl) rfl))))))
      (s_nil)
abbrev s_is_placed : Stmt := top 33
theorem sc_is_placed : FnScope ["wheels", "thing", "words", "word", "wheel", "place"] ["wheels", "thing", "words"] (defScope s_is_placed) := ⟨rfl, rfl, rfl, by decide +kernel, rfl, by decide +kernel, by decide +kernel⟩
theorem ok_is_placed (G : Glo K mg) {dvs : List V} {kws : List (Str × V)} {f : Addr} {fd : FuncData} (h_is_worded : CallF (tab P w K) P w K mg base 1 "is_worded" f_is_worded) (h_is_from : CallF (tab P w K) P w K mg base 2 "is_from" f_is_from) (Fd : FunD K "is_placed" "is_placed" (defArgs s_is_placed) (defBody s_is_placed) (defScope s_is_placed) dvs kws f fd) : FnOk P w K mg base (L2.CX P w) 3 f fd ["wheels", "thing", "words"] (spW (tab P w K) K 3 f_is_placed) := by
  have nd := (sc_is_placed).nd
  refine fnW_ok (k := 2) Fd sc_is_placed fun cdv A outer s H E hr => ?_
  have tk := takes_of (X := cxOf (L2.CX P w) P w K mg base ["wheels", "thing", "words", "word", "wheel", "place"] "is_placed" (defScope s_is_placed) f cdv A outer s H E) (E := E) rfl rfl rfl rfl
  exact s_cons (s_if (b_not (b_test (w_callP h_is_worded hr (by decide) rfl tk (w_cons (w_var (i := 1) rfl (.inl rfl) rfl rfl) (w_cons (w_var (i := 2) rfl (.inl rfl) rfl rfl) (w_cons (w_int) (w_nil) rfl) rfl) rfl) rfl rfl rfl) (fun _ => rfl))) (s_cons (s_ret (w_bl))
      (s_nil)) (s_nil))
      (s_cons (s_asg (w_var (i := 1) rfl (.inl rfl) rfl rfl) (g_tup rfl (gs_name (i := 3) nd rfl (.inl rfl) (.inl rfl) (gs_name (i := 4) nd rfl (.inl rfl) (.inl rfl) (gs_name (i := 5) nd rfl (.inl rfl) (.inl rfl) (gs_nil) rfl) rfl) rfl) rfl rfl) rfl rfl rfl)
      (s_cons (s_ret (w_and (w_callP h_is_from hr (by decide) rfl tk (w_cons (w_var (i := 4) rfl (.inl rfl) rfl rfl) (w_cons (w_int) (w_cons (w_len rfl G.b_len (w_cons (w_var (i := 0) rfl (.inl rfl) rfl rfl) (w_nil) rfl) rfl rfl) (w_nil) rfl) rfl) rfl) rfl rfl rfl) (one (w_callP h_is_from hr (by decide) rfl tk (w_cons (w_var (i := 5) rfl (.inl rfl) rfl rfl) (w_cons (w_int) (w_cons (w_idx (w_var (i := 0) rfl (.inl rfl) rfl rfl) (w_var (i := 4) rfl (.inl rfl) rfl rfl) (fun _ _ => rfl)) (w_nil) rfl) rfl) rfl) rfl rfl rfl))))
      (s_nil)))
abbrev s_is_condition : Stmt := top 34
theorem sc_is_condition : FnScope ["wheels", "many", "thing"] ["wheels", "many", "thing"] (defScope s_is_condition) := ⟨rfl, rfl, rfl, by decide +kernel, rfl, by decide +kernel, by decide +kernel⟩
theorem ok_is_condition (G : Glo K mg) {dvs : List V} {kws : List (Str × V)} {f : Addr} {fd : FuncData} (h_is_worded : CallF (tab P w K) P w K mg base 1 "is_worded" f_is_worded) (h_is_from : CallF (tab P w K) P w K mg base 2 "is_from" f_is_from) (h_is_placed : CallF (tab P w K) P w K mg base 3 "is_placed" f_is_placed) (Fd : FunD K "is_condition" "is_condition" (defArgs s_is_condition) (defBody s_is_condition) (defScope s_is_condition) dvs kws f fd) : FnOk P w K mg base (L2.CX P w) 4 f fd ["wheels", "many", "thing"] (spW (tab P w K) K 3 f_is_condition) := by
  have nd := (sc_is_condition).nd
  refine fnW_ok (k := 3) Fd sc_is_condition fun cdv A outer s H E hr => ?_
  have tk := takes_of (X := cxOf (L2.CX P w) P w K mg base ["wheels", "many", "thing"] "is_condition" (defScope s_is_condition) f cdv A outer s H E) (E := E) rfl rfl rfl rfl
  exact s_cons (s_if (b_test (w_callP h_is_worded hr (by decide) rfl tk (w_cons (w_var (i := 2) rfl (.inl rfl) rfl rfl) (w_cons (w_globW rfl (G.c_RULED _ _) rfl) (w_cons (w_int) (w_nil) rfl) rfl) rfl) rfl rfl rfl) (fun _ => rfl)) (s_cons (s_ret (w_callP h_is_from hr (by decide) rfl tk (w_cons (w_idx (w_var (i := 2) rfl (.inl rfl) rfl rfl) (w_int) (fun _ _ => rfl)) (w_cons (w_int) (w_cons (w_var (i := 1) rfl (.inl rfl) rfl rfl) (w_nil) rfl) rfl) rfl) rfl rfl rfl))
      (s_nil)) (s_nil))
      (s_cons (s_ret (w_callP h_is_placed hr (by decide) rfl tk (w_cons (w_var (i := 0) rfl (.inl rfl) rfl rfl) (w_cons (w_var (i := 2) rfl (.inl rfl) rfl rfl) (w_cons (w_globW rfl (G.c_PLACED _ _) rfl) (w_nil) rfl) rfl) rfl) rfl rfl rfl))
      (s_nil))
abbrev s_is_rule : Stmt := top 38
theorem sc_is_rule : FnScope ["wheels", "many", "thing", "test", "changes", "hushes", "wakes", "rule", "beats", "one"] ["wheels", "many", "thing"] (defScope s_is_rule) := ⟨rfl, rfl, rfl, by decide +kernel, rfl, by decide +kernel, by decide +kernel⟩
theorem ok_is_rule (G : Glo K mg) {dvs : List V} {kws : List (Str × V)} {f : Addr} {fd : FuncData} (h_is_condition : CallF (tab P w K) P w K mg base 4 "is_condition" f_is_condition) (h_is_row : CallF (tab P w K) P w K mg base 1 "is_row" f_is_row) (h_is_placed : CallF (tab P w K) P w K mg base 3 "is_placed" f_is_placed) (h_are_rules_numbers : CallF (tab P w K) P w K mg base 3 "are_rules_numbers" f_are_rules_numbers) (h_are_hushes : CallF (tab P w K) P w K mg base 4 "are_hushes" f_are_hushes) (Fd : FunD K "is_rule" "is_rule" (defArgs s_is_rule) (defBody s_is_rule) (defScope s_is_rule) dvs kws f fd) : FnOk P w K mg base (L2.CX P w) 5 f fd ["wheels", "many", "thing"] (spW (tab P w K) K 3 f_is_rule) := by
  have nd := (sc_is_rule).nd
  refine fnW_ok (k := 4) Fd sc_is_rule fun cdv A outer s H E hr => ?_
  have tk := takes_of (X := cxOf (L2.CX P w) P w K mg base ["wheels", "many", "thing", "test", "changes", "hushes", "wakes", "rule", "beats", "one"] "is_rule" (defScope s_is_rule) f cdv A outer s H E) (E := E) rfl rfl rfl rfl
  exact s_cons (s_if (L2.PW.pt (b_or (b_not (b_test (w_isTuple tab_lv rfl G.b_isinstance rfl G.b_tuple (w_var (i := 2) rfl (.inl rfl) rfl rfl) rfl rfl rfl) (fun _ => rfl))) (b_or1 (b_cmp hr (w_len rfl G.b_len (w_cons (w_var (i := 2) rfl (.inl rfl) rfl rfl) (w_nil) rfl) rfl rfl) (w_globW rfl (G.c_PARTS _ _) rfl) rfl)))) (s_cons (s_ret (w_bl))
      (s_nil)) (s_nil))
      (s_cons (s_asg (w_var (i := 2) rfl (.inl rfl) rfl rfl) (g_tup rfl (gs_name (i := 3) nd rfl (.inl rfl) (.inl rfl) (gs_name (i := 4) nd rfl (.inl rfl) (.inl rfl) (gs_name (i := 5) nd rfl (.inl rfl) (.inl rfl) (gs_name (i := 6) nd rfl (.inr rfl) (.inl rfl) (gs_nil) rfl) rfl) rfl) rfl) rfl rfl) rfl rfl rfl)
      (s_cons (s_if (L2.PW.pt (b_or (b_not (b_test (w_callP h_is_row hr (by decide) rfl tk (w_cons (w_var (i := 3) rfl (.inl rfl) rfl rfl) (w_cons (w_globW rfl (G.c_MOST_CONDITIONS _ _) rfl) (w_nil) rfl) rfl) rfl rfl rfl) (fun _ => rfl))) (b_or1 (b_not (b_test (w_all rfl rfl G.b_all (w_cons (w_lc (mt := false) rfl nd (i_seq (w_var (i := 3) rfl (.inl rfl) rfl rfl)) (blkOk_by (own := [("one", 9)]) (by kernel_rfl)) rfl rfl (fun _ _ _ _ _ => g_name (i := 9) nd rfl (.inl rfl) (.inr rfl)) (fun _ _ _ _ _ => bs_nil) (fun _ _ _ _ _ => w_callP h_is_condition hr (by decide) rfl L2.takes0 (w_cons (w_var (i := 0) rfl (.inr (.inl rfl)) rfl rfl) (w_cons (w_var (i := 1) rfl (.inr (.inl rfl)) rfl rfl) (w_cons (w_var (i := 9) rfl (.inl rfl) rfl rfl) (w_nil) rfl) rfl) rfl) rfl rfl rfl) (fun _ => rfl)) (w_nil) rfl) rfl rfl) (fun _ => rfl)))))) (s_cons (s_ret (w_bl))
      (s_nil)) (s_nil))
      (s_cons (s_if (L2.PW.pt (b_or (b_not (b_test (w_callP h_is_row hr (by decide) rfl tk (w_cons (w_var (i := 4) rfl (.inl rfl) rfl rfl) (w_cons (w_globW rfl (G.c_MOST_CHANGES _ _) rfl) (w_nil) rfl) rfl) rfl rfl rfl) (fun _ => rfl))) (b_or1 (b_not (b_test (w_all rfl rfl G.b_all (w_cons (w_lc (mt := false) rfl nd (i_seq (w_var (i := 4) rfl (.inl rfl) rfl rfl)) (blkOk_by (own := [("one", 9)]) (by kernel_rfl)) rfl rfl (fun _ _ _ _ _ => g_name (i := 9) nd rfl (.inl rfl) (.inr rfl)) (fun _ _ _ _ _ => bs_nil) (fun _ _ _ _ _ => w_callP h_is_placed hr (by decide) rfl L2.takes0 (w_cons (w_var (i := 0) rfl (.inr (.inl rfl)) rfl rfl) (w_cons (w_var (i := 9) rfl (.inl rfl) rfl rfl) (w_cons (w_globW rfl (G.c_CHANGES _ _) rfl) (w_nil) rfl) rfl) rfl) rfl rfl rfl) (fun _ => rfl)) (w_nil) rfl) rfl rfl) (fun _ => rfl)))))) (s_cons (s_ret (w_bl))
      (s_nil)) (s_nil))
      (s_cons (s_if (L2.PW.pt (b_or (b_not (b_test (w_callP h_are_hushes hr (by decide) rfl tk (w_cons (w_var (i := 1) rfl (.inr (.inl rfl)) rfl rfl) (w_cons (w_var (i := 5) rfl (.inl rfl) rfl rfl) (w_nil) rfl) rfl) rfl rfl rfl) (fun _ => rfl))) (b_or1 (b_not (b_test (w_callP h_are_rules_numbers hr (by decide) rfl tk (w_cons (w_var (i := 6) rfl (.inr (.inl rfl)) rfl rfl) (w_cons (w_var (i := 1) rfl (.inr (.inl rfl)) rfl rfl) (w_nil) rfl) rfl) rfl rfl rfl) (fun _ => rfl)))))) (s_cons (s_ret (w_bl))
      (s_nil)) (s_nil))
      (s_cons (s_ret (w_not (w_any rfl rfl G.b_any (w_cons (w_lc (mt := false) rfl nd (i_seq (w_var (i := 5) rfl (.inl rfl) rfl rfl)) (blkOk_by (own := [("rule", 7), ("beats", 8)]) (by kernel_rfl)) rfl rfl (fun _ _ _ _ _ => g_tup rfl (gs_name (i := 7) nd rfl (.inl rfl) (.inr rfl) (gs_name (i := 8) nd rfl (.inl rfl) (.inr rfl) (gs_nil) rfl) rfl) rfl rfl) (fun _ _ _ _ _ => bs_nil) (fun _ _ _ _ _ => w_cmp hr (w_var (i := 7) rfl (.inl rfl) rfl rfl) (w_var (i := 6) rfl (.inr (.inl rfl)) rfl rfl) rfl) (fun _ => rfl)) (w_nil) rfl) rfl rfl)))
      (s_nil))))))
abbrev s_look_book : Stmt := top 39
theorem sc_look_book : FnScope ["wheels", "rules", "at", "rule"] ["wheels", "rules"] (defScope s_look_book) := ⟨rfl, rfl, rfl, by decide +kernel, rfl, by decide +kernel, by decide +kernel⟩
theorem ok_look_book (G : Glo K mg) {dvs : List V} {kws : List (Str × V)} {f : Addr} {fd : FuncData} (h_is_row : CallF (tab P w K) P w K mg base 1 "is_row" f_is_row) (h_are_wheels : CallF (tab P w K) P w K mg base 3 "are_wheels" f_are_wheels) (h_err_NoBook : ErrF P w K mg base "NoBook" (He.ga K "NoBook") "at") (h_is_rule : CallF (tab P w K) P w K mg base 5 "is_rule" f_is_rule) (Fd : FunD K "look_book" "look_book" (defArgs s_look_book) (defBody s_look_book) (defScope s_look_book) dvs kws f fd) : FnOk P w K mg base (L2.CX P w) 6 f fd ["wheels", "rules"] (spW (tab P w K) K 2 f_look_book) := by
  have nd := (sc_look_book).nd
  refine fnW_ok (k := 5) Fd sc_look_book fun cdv A outer s H E hr => ?_
  have tk := takes_of (X := cxOf (L2.CX P w) P w K mg base ["wheels", "rules", "at", "rule"] "look_book" (defScope s_look_book) f cdv A outer s H E) (E := E) rfl rfl rfl rfl
  exact s_cons (s_if (L2.PW.pt (b_or (b_not (b_test (w_callP h_are_wheels hr (by decide) rfl tk (w_cons (w_var (i := 0) rfl (.inl rfl) rfl rfl) (w_nil) rfl) rfl rfl rfl) (fun _ => rfl))) (b_or1 (b_not (b_test (w_callP h_is_row hr (by decide) rfl tk (w_cons (w_var (i := 1) rfl (.inl rfl) rfl rfl) (w_cons (w_globW rfl (G.c_MOST_RULES _ _) rfl) (w_nil) rfl) rfl) rfl rfl rfl) (fun _ => rfl)))))) (s_cons (s_raiseF rfl tk h_err_NoBook rfl (Nat.le_of_ble_eq_true rfl) hr (by decide) rfl (w_neg (w_int)) rfl rfl rfl)
      (s_nil)) (s_nil))
      (s_cons (s_for (passes_of rfl) rfl (i_enum rfl G.b_enumerate (w_var (i := 1) rfl (.inl rfl) rfl rfl) rfl) (g_tup rfl (gs_name (i := 2) nd rfl (.inl rfl) (.inl rfl) (gs_name (i := 3) nd rfl (.inl rfl) (.inl rfl) (gs_nil) rfl) rfl) rfl rfl) (s_cons (s_if (b_not (b_test (w_callP h_is_rule hr (by decide) rfl tk (w_cons (w_var (i := 0) rfl (.inl rfl) rfl rfl) (w_cons (w_len rfl G.b_len (w_cons (w_var (i := 1) rfl (.inl rfl) rfl rfl) (w_nil) rfl) rfl rfl) (w_cons (w_var (i := 3) rfl (.inl rfl) rfl rfl) (w_nil) rfl) rfl) rfl) rfl rfl rfl) (fun _ => rfl))) (s_cons (s_raiseF rfl tk h_err_NoBook rfl (Nat.le_of_ble_eq_true rfl) hr (by decide) rfl (w_var (i := 2) rfl (.inl rfl) rfl rfl) rfl rfl rfl)
      (s_nil)) (s_nil))
      (s_nil)) (fun _ => rfl))
      (s_nil))
abbrev s_Book___init__ : Stmt := inClass (top 40) 0
theorem sc_Book___init__ : FnScope ["self", "wheels", "rules"] ["self", "wheels", "rules"] (defScope s_Book___init__) := ⟨rfl, rfl, rfl, by decide +kernel, rfl, by decide +kernel, by decide +kernel⟩
theorem ok_Book___init__ (G : Glo K mg) {dvs : List V} {kws : List (Str × V)} {f : Addr} {fd : FuncData} (h_look_book : CallF (tab P w K) P w K mg base 6 "look_book" f_look_book) (Fd : FunD K "__init__" "Book.__init__" (defArgs s_Book___init__) (defBody s_Book___init__) (defScope s_Book___init__) dvs kws f fd) : FnOk P w K mg base (L2.CX P w) 7 f fd ["self", "wheels", "rules"] (spW (tab P w K) K 3 f_Book___init__) := by
  have nd := (sc_Book___init__).nd
  refine fnW_ok (k := 6) Fd sc_Book___init__ fun cdv A outer s H E hr => ?_
  have tk := takes_of (X := cxOf (L2.CX P w) P w K mg base ["self", "wheels", "rules"] "Book.__init__" (defScope s_Book___init__) f cdv A outer s H E) (E := E) rfl rfl rfl rfl
  exact s_cons (s_expr (w_callP h_look_book hr (by decide) rfl tk (w_cons (w_var (i := 1) rfl (.inl rfl) rfl rfl) (w_cons (w_var (i := 2) rfl (.inl rfl) rfl rfl) (w_nil) rfl) rfl) rfl rfl rfl) rfl)
      (s_cons (s_setFld fldN (Nat.le_of_ble_eq_true rfl) rfl G.k_Book G.n_Book_wheels (w_var (i := 0) rfl (.inl rfl) rfl rfl) (w_var (i := 1) rfl (.inl rfl) rfl rfl) rfl)
      (s_cons (s_setFld fldN (Nat.le_of_ble_eq_true rfl) rfl G.k_Book G.n_Book_rules (w_var (i := 0) rfl (.inl rfl) rfl rfl) (w_var (i := 2) rfl (.inl rfl) rfl rfl) rfl)
      (s_nil)))
abbrev s__law_state : Stmt := top 59
theorem sc__law_state : FnScope ["_law_bag_here", "_law_wheels_here", "_law_many", "_law_values", "_law_places", "_law_turn"] ["_law_bag_here", "_law_wheels_here", "_law_many"] (defScope s__law_state) := ⟨rfl, rfl, rfl, by decide +kernel, rfl, by decide +kernel, by decide +kernel⟩
theorem ok__law_state (G : Glo K mg) {dvs : List V} {kws : List (Str × V)} {f : Addr} {fd : FuncData} (h__law_take : CallF (tab P w K) P w K mg base 1 "_law_take" f__law_take) (Fd : FunD K "_law_state" "_law_state" (defArgs s__law_state) (defBody s__law_state) (defScope s__law_state) dvs kws f fd) : FnOk P w K mg base (L2.CX P w) 2 f fd ["_law_bag_here", "_law_wheels_here", "_law_many"] (spW (tab P w K) K 3 f__law_state) := by
  have nd := (sc__law_state).nd
  refine fnW_ok (k := 1) Fd sc__law_state fun cdv A outer s H E hr => ?_
  have tk := takes_of (X := cxOf (L2.CX P w) P w K mg base ["_law_bag_here", "_law_wheels_here", "_law_many", "_law_values", "_law_places", "_law_turn"] "_law_state" (defScope s__law_state) f cdv A outer s H E) (E := E) rfl rfl rfl rfl
  exact s_cons (s_set (i := 3) nd rfl (.inl rfl) (w_tuple rfl G.b_tuple (w_cons (w_lc (mt := false) rfl nd (i_seq (w_var (i := 1) rfl (.inl rfl) rfl rfl)) (blkOk_by (own := [("_law_places", 4)]) (by kernel_rfl)) rfl rfl (fun _ _ _ _ _ => g_name (i := 4) nd rfl (.inl rfl) (.inr rfl)) (fun _ _ _ _ _ => bs_nil) (fun _ _ _ _ _ => w_call h__law_take hr (by decide) rfl L2.takes0 (w_cons (w_var (i := 0) rfl (.inr (.inl rfl)) rfl rfl) (w_cons (w_var (i := 4) rfl (.inl rfl) rfl rfl) (w_nil) rfl) rfl) rfl rfl rfl) (fun _ => rfl)) (w_nil) rfl) rfl rfl) rfl (.inl rfl))
      (s_cons (s_ret (w_tup (w_cons (w_var (i := 3) rfl (.inl rfl) rfl rfl) (w_cons (w_tuple rfl G.b_tuple (w_cons (w_lc (mt := false) rfl nd (i_range1 rfl G.b_range (w_var (i := 2) rfl (.inl rfl) rfl rfl) rfl) (blkOk_by (own := [("_law_turn", 5)]) (by kernel_rfl)) rfl rfl (fun _ _ _ _ _ => g_name (i := 5) nd rfl (.inl rfl) (.inr rfl)) (fun _ _ _ _ _ => bs_nil) (fun _ _ _ _ _ => w_idx (w_tup (w_cons (w_int) (w_cons (w_int) (w_cons (w_int) (w_cons (w_int) (w_nil) rfl) rfl) rfl) rfl)) (w_call h__law_take hr (by decide) rfl L2.takes0 (w_cons (w_var (i := 0) rfl (.inr (.inl rfl)) rfl rfl) (w_cons (w_int) (w_nil) rfl) rfl) rfl rfl rfl) (fun _ _ => rfl)) (fun _ => rfl)) (w_nil) rfl) rfl rfl) (w_nil) rfl) rfl)))
      (s_nil))
abbrev s__law_numbers : Stmt := top 61
theorem sc__law_numbers : FnScope ["_law_row", "_law_one"] ["_law_row"] (defScope s__law_numbers) := ⟨rfl, rfl, rfl, by decide +kernel, rfl, by decide +kernel, by decide +kernel⟩
theorem ok__law_numbers (G : Glo K mg) {dvs : List V} {kws : List (Str × V)} {f : Addr} {fd : FuncData} (Fd : FunD K "_law_numbers" "_law_numbers" (defArgs s__law_numbers) (defBody s__law_numbers) (defScope s__law_numbers) dvs kws f fd) : FnOk P w K mg base (L2.CX P w) 1 f fd ["_law_row"] (spW (tab P w K) K 1 f__law_numbers) := by
  have nd := (sc__law_numbers).nd
  refine fnW_ok (k := 0) Fd sc__law_numbers fun cdv A outer s H E hr => ?_
  have tk := takes_of (X := cxOf (L2.CX P w) P w K mg base ["_law_row", "_law_one"] "_law_numbers" (defScope s__law_numbers) f cdv A outer s H E) (E := E) rfl rfl rfl rfl
  exact s_cons (s_ret (w_ifx (b_cmp hr (w_var (i := 0) rfl (.inl rfl) rfl rfl) (w_tup (w_nil)) rfl) (w_join (w_str) (w_lc (mt := false) rfl nd (i_seq (w_var (i := 0) rfl (.inl rfl) rfl rfl)) (blkOk_by (own := [("_law_one", 1)]) (by kernel_rfl)) rfl rfl (fun _ _ _ _ _ => g_name (i := 1) nd rfl (.inl rfl) (.inr rfl)) (fun _ _ _ _ _ => bs_nil) (fun _ _ _ _ _ => w_strI rfl G.b_str (w_var (i := 1) rfl (.inl rfl) rfl rfl) rfl) (fun _ => rfl)) rfl rfl rfl) (w_str)))
      (s_nil)
abbrev s__law_state_text : Stmt := top 62
theorem sc__law_state_text : FnScope ["_law_state_here"] ["_law_state_here"] (defScope s__law_state_text) := ⟨rfl, rfl, rfl, by decide +kernel, rfl, by decide +kernel, by decide +kernel⟩
theorem ok__law_state_text (G : Glo K mg) {dvs : List V} {kws : List (Str × V)} {f : Addr} {fd : FuncData} (h__law_numbers : CallF (tab P w K) P w K mg base 1 "_law_numbers" f__law_numbers) (Fd : FunD K "_law_state_text" "_law_state_text" (defArgs s__law_state_text) (defBody s__law_state_text) (defScope s__law_state_text) dvs kws f fd) : FnOk P w K mg base (L2.CX P w) 2 f fd ["_law_state_here"] (spW (tab P w K) K 1 f__law_state_text) := by
  have nd := (sc__law_state_text).nd
  refine fnW_ok (k := 1) Fd sc__law_state_text fun cdv A outer s H E hr => ?_
  have tk := takes_of (X := cxOf (L2.CX P w) P w K mg base ["_law_state_here"] "_law_state_text" (defScope s__law_state_text) f cdv A outer s H E) (E := E) rfl rfl rfl rfl
  exact s_cons (s_ret (w_bin (w_bin (w_callP h__law_numbers hr (by decide) rfl tk (w_cons (w_idx (w_var (i := 0) rfl (.inl rfl) rfl rfl) (w_int) (fun _ _ => rfl)) (w_nil) rfl) rfl rfl rfl) (w_str)) (w_callP h__law_numbers hr (by decide) rfl tk (w_cons (w_idx (w_var (i := 0) rfl (.inl rfl) rfl rfl) (w_int) (fun _ _ => rfl)) (w_nil) rfl) rfl rfl rfl)))
      (s_nil)
abbrev s__law_any : Stmt := top 60
theorem sc__law_any : FnScope ["_law_bag_here", "_law_some"] ["_law_bag_here"] (defScope s__law_any) := ⟨rfl, rfl, rfl, by decide +kernel, rfl, by decide +kernel, by decide +kernel⟩
theorem ok__law_any (G : Glo K mg) {dvs : List V} {kws : List (Str × V)} {f : Addr} {fd : FuncData} (h__law_take : CallF (tab P w K) P w K mg base 1 "_law_take" f__law_take) (Fd : FunD K "_law_any" "_law_any" (defArgs s__law_any) (defBody s__law_any) (defScope s__law_any) dvs kws f fd) : FnOk P w K mg base (L2.CX P w) 2 f fd ["_law_bag_here"] (spW (tab P w K) K 1 f__law_any) := by
  have nd := (sc__law_any).nd
  refine fnW_ok (k := 1) Fd sc__law_any fun cdv A outer s H E hr => ?_
  have tk := takes_of (X := cxOf (L2.CX P w) P w K mg base ["_law_bag_here", "_law_some"] "_law_any" (defScope s__law_any) f cdv A outer s H E) (E := E) rfl rfl rfl rfl
  exact s_cons (s_set (i := 1) nd rfl (.inl rfl) (w_lst (w_cons (w_non) (w_cons (w_bl) (w_cons (w_bl) (w_cons (w_int) (w_cons (w_int) (w_cons (w_neg (w_int)) (w_cons (w_int) (w_cons (w_int) (w_cons (w_bin (w_int) (w_int)) (w_cons (w_str) (w_cons (w_str) (w_cons (w_str) (w_cons (w_str) (w_cons (w_lst (w_nil)) (w_cons (w_tup (w_nil)) (w_cons (w_lst (w_cons (w_int) (w_nil) rfl)) (w_cons (w_tup (w_cons (w_int) (w_nil) rfl)) (w_cons (w_tup (w_cons (w_int) (w_cons (w_int) (w_nil) rfl) rfl)) (w_cons (w_tup (w_cons (w_int) (w_cons (w_int) (w_nil) rfl) rfl)) (w_nil) rfl) rfl) rfl) rfl) rfl) rfl) rfl) rfl) rfl) rfl) rfl) rfl) rfl) rfl) rfl) rfl) rfl) rfl) rfl)) rfl (.inl rfl))
      (s_cons (s_set (i := 1) nd rfl (.inl rfl) (w_bin (w_var (i := 1) rfl (.inl rfl) rfl rfl) (w_lst (w_cons (w_tup (w_cons (w_int) (w_cons (w_int) (w_cons (w_int) (w_nil) rfl) rfl) rfl)) (w_cons (w_tup (w_cons (w_tup (w_nil)) (w_cons (w_tup (w_nil)) (w_nil) rfl) rfl)) (w_cons (w_tup (w_cons (w_tup (w_cons (w_int) (w_nil) rfl)) (w_cons (w_tup (w_cons (w_int) (w_nil) rfl)) (w_nil) rfl) rfl)) (w_cons (w_lst (w_cons (w_tup (w_cons (w_int) (w_nil) rfl)) (w_cons (w_tup (w_cons (w_int) (w_nil) rfl)) (w_nil) rfl) rfl)) (w_cons (w_tup (w_cons (w_int) (w_cons (w_bl) (w_nil) rfl) rfl)) (w_cons (w_tup (w_cons (w_str) (w_cons (w_int) (w_cons (w_int) (w_nil) rfl) rfl) rfl)) (w_cons (w_tup (w_cons (w_str) (w_cons (w_int) (w_nil) rfl) rfl)) (w_nil) rfl) rfl) rfl) rfl) rfl) rfl) rfl))) rfl (.inl rfl))
      (s_cons (s_ret (w_idx (w_bin (w_var (i := 1) rfl (.inl rfl) rfl rfl) (w_lst (w_cons (w_tup (w_cons (w_non) (w_cons (w_lst (w_cons (w_int) (w_cons (w_tup (w_nil)) (w_nil) rfl) rfl)) (w_nil) rfl) rfl)) (w_nil) rfl))) (w_call h__law_take hr (by decide) rfl tk (w_cons (w_var (i := 0) rfl (.inl rfl) rfl rfl) (w_cons (w_int) (w_nil) rfl) rfl) rfl rfl rfl) (fun _ _ => rfl)))
      (s_nil)))
abbrev s__law_bent : Stmt := top 67
theorem sc__law_bent : FnScope ["_law_bag_here", "_law_text", "_law_signs", "_law_way", "_law_spot", "_law_part", "_law_words", "_law_at"] ["_law_bag_here", "_law_text"] (defScope s__law_bent) := ⟨rfl, rfl, rfl, by decide +kernel, rfl, by decide +kernel, by decide +kernel⟩
theorem ok__law_bent (G : Glo K mg) {dvs : List V} {kws : List (Str × V)} {f : Addr} {fd : FuncData} (h__law_take : CallF (tab P w K) P w K mg base 1 "_law_take" f__law_take) (Fd : FunD K "_law_bent" "_law_bent" (defArgs s__law_bent) (defBody s__law_bent) (defScope s__law_bent) dvs kws f fd) : FnOk P w K mg base (L2.CX P w) 2 f fd ["_law_bag_here", "_law_text"] (spW (tab P w K) K 2 f__law_bent) := by
  have nd := (sc__law_bent).nd
  refine fnW_ok (k := 1) Fd sc__law_bent fun cdv A outer s H E hr => ?_
  have tk := takes_of (X := cxOf (L2.CX P w) P w K mg base ["_law_bag_here", "_law_text", "_law_signs", "_law_way", "_law_spot", "_law_part", "_law_words", "_law_at"] "_law_bent" (defScope s__law_bent) f cdv A outer s H E) (E := E) rfl rfl rfl rfl
  exact s_cons (s_set (i := 2) nd rfl (.inl rfl) (w_str) rfl (.inl rfl))
      (s_cons (s_par2 rfl nd rfl rfl (by decide) rfl rfl (w_cons (w_call h__law_take hr (by decide) rfl tk (w_cons (w_var (i := 0) rfl (.inl rfl) rfl rfl) (w_cons (w_int) (w_nil) rfl) rfl) rfl rfl rfl) (w_cons (w_call h__law_take hr (by decide) rfl tk (w_cons (w_var (i := 0) rfl (.inl rfl) rfl rfl) (w_cons (w_bin (w_len rfl G.b_len (w_cons (w_var (i := 1) rfl (.inl rfl) rfl rfl) (w_nil) rfl) rfl rfl) (w_int)) (w_nil) rfl) rfl) rfl rfl rfl) (w_nil) rfl) rfl) rfl rfl)
      (s_cons (s_if (b_cmp hr (w_var (i := 3) rfl (.inl rfl) rfl rfl) (w_int) rfl) (s_cons (s_ret (w_bin (w_bin (w_slcS (w_var (i := 1) rfl (.inl rfl) rfl rfl) (w_noPart) (w_part (w_var (i := 4) rfl (.inl rfl) rfl rfl))) (w_mulS (w_idxS (w_var (i := 2) rfl (.inl rfl) rfl rfl) (w_call h__law_take hr (by decide) rfl tk (w_cons (w_var (i := 0) rfl (.inl rfl) rfl rfl) (w_cons (w_len rfl G.b_len (w_cons (w_var (i := 2) rfl (.inl rfl) rfl rfl) (w_nil) rfl) rfl rfl) (w_nil) rfl) rfl) rfl rfl rfl) (fun _ _ => rfl)) (w_int1 rfl G.b_int (w_cons (w_cmp hr (w_var (i := 3) rfl (.inl rfl) rfl rfl) (w_int) rfl) (w_nil) rfl) rfl rfl))) (w_slcS (w_var (i := 1) rfl (.inl rfl) rfl rfl) (w_part (w_bin (w_var (i := 4) rfl (.inl rfl) rfl rfl) (w_int1 rfl G.b_int (w_cons (w_cmp hr (w_var (i := 3) rfl (.inl rfl) rfl rfl) (w_int) rfl) (w_nil) rfl) rfl rfl))) (w_noPart))))
      (s_nil)) (s_nil))
      (s_cons (s_set (i := 5) nd rfl (.inl rfl) (w_idx (w_tup (w_cons (w_str) (w_cons (w_str) (w_nil) rfl) rfl)) (w_call h__law_take hr (by decide) rfl tk (w_cons (w_var (i := 0) rfl (.inl rfl) rfl rfl) (w_cons (w_int) (w_nil) rfl) rfl) rfl rfl rfl) (fun _ _ => rfl)) rfl (.inl rfl))
      (s_cons (s_set (i := 6) nd rfl (.inl rfl) (w_split (w_var (i := 1) rfl (.inl rfl) rfl rfl) (w_var (i := 5) rfl (.inl rfl) rfl rfl) rfl rfl rfl) rfl (.inl rfl))
      (s_cons (s_set (i := 7) nd rfl (.inl rfl) (w_call h__law_take hr (by decide) rfl tk (w_cons (w_var (i := 0) rfl (.inl rfl) rfl rfl) (w_cons (w_len rfl G.b_len (w_cons (w_var (i := 6) rfl (.inl rfl) rfl rfl) (w_nil) rfl) rfl rfl) (w_nil) rfl) rfl) rfl rfl rfl) rfl (.inl rfl))
      (s_cons (s_if (b_cmp hr (w_var (i := 3) rfl (.inl rfl) rfl rfl) (w_int) rfl) (s_cons (s_ret (w_join (w_var (i := 5) rfl (.inl rfl) rfl rfl) (w_bin (w_slc (w_var (i := 6) rfl (.inl rfl) rfl rfl) (w_noPart) (w_part (w_var (i := 7) rfl (.inl rfl) rfl rfl))) (w_slc (w_var (i := 6) rfl (.inl rfl) rfl rfl) (w_part (w_bin (w_var (i := 7) rfl (.inl rfl) rfl rfl) (w_int))) (w_noPart))) rfl rfl rfl))
      (s_nil)) (s_nil))
      (s_cons (s_ret (w_join (w_var (i := 5) rfl (.inl rfl) rfl rfl) (w_bin (w_bin (w_slc (w_var (i := 6) rfl (.inl rfl) rfl rfl) (w_noPart) (w_part (w_var (i := 7) rfl (.inl rfl) rfl rfl))) (w_lst (w_cons (w_idx (w_tup (w_cons (w_str) (w_cons (w_str) (w_cons (w_str) (w_cons (w_str) (w_cons (w_str) (w_cons (w_str) (w_nil) rfl) rfl) rfl) rfl) rfl) rfl)) (w_call h__law_take hr (by decide) rfl tk (w_cons (w_var (i := 0) rfl (.inl rfl) rfl rfl) (w_cons (w_int) (w_nil) rfl) rfl) rfl rfl rfl) (fun _ _ => rfl)) (w_nil) rfl))) (w_slc (w_var (i := 6) rfl (.inl rfl) rfl rfl) (w_part (w_var (i := 7) rfl (.inl rfl) rfl rfl)) (w_noPart))) rfl rfl rfl))
      (s_nil))))))))
abbrev s_NoText___init__ : Stmt := inClass (top 4) 0
theorem sc_NoText___init__ : FnScope ["self", "at"] ["self", "at"] (defScope s_NoText___init__) := ⟨rfl, rfl, rfl, by decide +kernel, rfl, by decide +kernel, by decide +kernel⟩
theorem ok_NoText___init__ (G : Glo K mg) {f : Addr} {fd : FuncData} (Fd : FunD K "__init__" "NoText.__init__" (defArgs s_NoText___init__) (defBody s_NoText___init__) (defScope s_NoText___init__) [] [] f fd) : FnOk P w K mg base (L2.CX P w) 1 f fd ["self", "at"] (spIni (He.ga K "NoText") "at") :=
  ini_ok (oexGB_ok G.t_3) (errB_no G.t_4) Fd sc_NoText___init__ fun cdv A outer s H E => ini_body PySem.GX.base_Value (pe_ownat (call_ini PySem.GX.base_Value) (ownAtB_ok G.t_2).1 (ownAtB_ok G.t_2).2.1 (ownAtB_ok G.t_2).2.2 (by decide +kernel) rfl G.g_HushError (pa_cons (pe_var (i := 0) rfl (.inl rfl) rfl rfl) (pa_cons pe_str pa_nil rfl) rfl) rfl rfl rfl rfl) rfl rfl rfl (.inl rfl) (.inl rfl) rfl rfl rfl rfl rfl
abbrev s_figures_in : Stmt := top 47
theorem sc_figures_in : FnScope ["word", "sign"] ["word"] (defScope s_figures_in) := ⟨rfl, rfl, rfl, by decide +kernel, rfl, by decide +kernel, by decide +kernel⟩
theorem ok_figures_in (G : Glo K mg) {dvs : List V} {kws : List (Str × V)} {f : Addr} {fd : FuncData} (Fd : FunD K "figures_in" "figures_in" (defArgs s_figures_in) (defBody s_figures_in) (defScope s_figures_in) dvs kws f fd) : FnOk P w K mg base (L2.CX P w) 1 f fd ["word"] (spW (tab P w K) K 1 f_figures_in) := by
  have nd := (sc_figures_in).nd
  refine fnW_ok (k := 0) Fd sc_figures_in fun cdv A outer s H E hr => ?_
  have tk := takes_of (X := cxOf (L2.CX P w) P w K mg base ["word", "sign"] "figures_in" (defScope s_figures_in) f cdv A outer s H E) (E := E) rfl rfl rfl rfl
  exact s_cons (s_if (L2.PW.pt (b_or (b_not (b_chain hr (w_int) (w_len rfl G.b_len (w_cons (w_var (i := 0) rfl (.inl rfl) rfl rfl) (w_nil) rfl) rfl rfl) (w_globW rfl (G.c_MOST_FIGURES _ _) rfl) (by with_unfolding_all rfl))) (b_or1 (b_not (b_test (w_all rfl rfl G.b_all (w_cons (w_lc (mt := false) rfl nd (i_str (w_var (i := 0) rfl (.inl rfl) rfl rfl)) (blkOk_by (own := [("sign", 1)]) (by kernel_rfl)) rfl rfl (fun _ _ _ _ _ => g_name (i := 1) nd rfl (.inl rfl) (.inr rfl)) (fun _ _ _ _ _ => bs_nil) (fun _ _ _ _ _ => w_inS (w_var (i := 1) rfl (.inl rfl) rfl rfl) (w_globW rfl (G.c_FIGURES _ _) rfl) rfl) (fun _ => rfl)) (w_nil) rfl) rfl rfl) (fun _ => rfl)))))) (s_cons (s_ret (w_non))
      (s_nil)) (s_nil))
      (s_cons (s_ret (w_ifx (L2.PW.pt (b_and (b_cmp hr (w_idxS (w_var (i := 0) rfl (.inl rfl) rfl rfl) (w_int) (fun _ _ => rfl)) (w_str) rfl) (b_and1 (b_cmp hr (w_var (i := 0) rfl (.inl rfl) rfl rfl) (w_str) rfl)))) (w_non) (w_intT rfl G.b_int (w_var (i := 0) rfl (.inl rfl) rfl rfl) rfl)))
      (s_nil))
abbrev s_numbers_in : Stmt := top 48
theorem sc_numbers_in : FnScope ["words", "word"] ["words"] (defScope s_numbers_in) := ⟨rfl, rfl, rfl, by decide +kernel, rfl, by decide +kernel, by decide +kernel⟩
theorem ok_numbers_in (G : Glo K mg) {dvs : List V} {kws : List (Str × V)} {f : Addr} {fd : FuncData} (h_figures_in : CallF (tab P w K) P w K mg base 1 "figures_in" f_figures_in) (Fd : FunD K "numbers_in" "numbers_in" (defArgs s_numbers_in) (defBody s_numbers_in) (defScope s_numbers_in) dvs kws f fd) : FnOk P w K mg base (L2.CX P w) 2 f fd ["words"] (spW (tab P w K) K 1 f_numbers_in) := by
  have nd := (sc_numbers_in).nd
  refine fnW_ok (k := 1) Fd sc_numbers_in fun cdv A outer s H E hr => ?_
  have tk := takes_of (X := cxOf (L2.CX P w) P w K mg base ["words", "word"] "numbers_in" (defScope s_numbers_in) f cdv A outer s H E) (E := E) rfl rfl rfl rfl
  exact s_cons (s_ret (w_tuple rfl G.b_tuple (w_cons (w_lc (mt := false) rfl nd (i_seq (w_var (i := 0) rfl (.inl rfl) rfl rfl)) (blkOk_by (own := [("word", 1)]) (by kernel_rfl)) rfl rfl (fun _ _ _ _ _ => g_name (i := 1) nd rfl (.inl rfl) (.inr rfl)) (fun _ _ _ _ _ => bs_nil) (fun _ _ _ _ _ => w_callP h_figures_in hr (by decide) rfl L2.takes0 (w_cons (w_var (i := 1) rfl (.inl rfl) rfl rfl) (w_nil) rfl) rfl rfl rfl) (fun _ => rfl)) (w_nil) rfl) rfl rfl))
      (s_nil)
abbrev s_are_values : Stmt := top 41
theorem sc_are_values : FnScope ["book", "thing", "place", "places"] ["book", "thing"] (defScope s_are_values) := ⟨rfl, rfl, rfl, by decide +kernel, rfl, by decide +kernel, by decide +kernel⟩
theorem ok_are_values (G : Glo K mg) {dvs : List V} {kws : List (Str × V)} {f : Addr} {fd : FuncData} (h_is_from : CallF (tab P w K) P w K mg base 2 "is_from" f_is_from) (Fd : FunD K "are_values" "are_values" (defArgs s_are_values) (defBody s_are_values) (defScope s_are_values) dvs kws f fd) : FnOk P w K mg base (L2.CX P w) 3 f fd ["book", "thing"] (spW (tab P w K) K 2 f_are_values) := by
  have nd := (sc_are_values).nd
  refine fnW_ok (k := 2) Fd sc_are_values fun cdv A outer s H E hr => ?_
  have tk := takes_of (X := cxOf (L2.CX P w) P w K mg base ["book", "thing", "place", "places"] "are_values" (defScope s_are_values) f cdv A outer s H E) (E := E) rfl rfl rfl rfl
  exact s_cons (s_if (L2.PW.pt (b_or (b_not (b_test (w_isTuple tab_lv rfl G.b_isinstance rfl G.b_tuple (w_var (i := 1) rfl (.inl rfl) rfl rfl) rfl rfl rfl) (fun _ => rfl))) (b_or1 (b_cmp hr (w_len rfl G.b_len (w_cons (w_var (i := 1) rfl (.inl rfl) rfl rfl) (w_nil) rfl) rfl rfl) (w_len rfl G.b_len (w_cons (w_fld fldN (Nat.le_of_ble_eq_true rfl) rfl G.k_Book G.n_Book_wheels (w_var (i := 0) rfl (.inl rfl) rfl rfl) rfl) (w_nil) rfl) rfl rfl) rfl)))) (s_cons (s_ret (w_bl))
      (s_nil)) (s_nil))
      (s_cons (s_ret (w_all rfl rfl G.b_all (w_cons (w_lc (mt := false) rfl nd (i_zips rfl G.b_zip (w_var (i := 1) rfl (.inl rfl) rfl rfl) (w_fld fldN (Nat.le_of_ble_eq_true rfl) rfl G.k_Book G.n_Book_wheels (w_var (i := 0) rfl (.inl rfl) rfl rfl) rfl) rfl rfl rfl (fun ha => pi_zipS rfl G.b_zip ha rfl rfl)) (blkOk_by (own := [("place", 2), ("places", 3)]) (by kernel_rfl)) rfl rfl (fun _ _ _ _ _ => g_tup rfl (gs_name (i := 2) nd rfl (.inl rfl) (.inr rfl) (gs_name (i := 3) nd rfl (.inl rfl) (.inr rfl) (gs_nil) rfl) rfl) rfl rfl) (fun _ _ _ _ _ => bs_nil) (fun _ _ _ _ _ => w_callP h_is_from hr (by decide) rfl L2.takes0 (w_cons (w_var (i := 2) rfl (.inl rfl) rfl rfl) (w_cons (w_int) (w_cons (w_var (i := 3) rfl (.inl rfl) rfl rfl) (w_nil) rfl) rfl) rfl) rfl rfl rfl) (fun _ => rfl)) (w_nil) rfl) rfl rfl))
      (s_nil))
abbrev s_is_state : Stmt := top 42
theorem sc_is_state : FnScope ["book", "thing", "hushes", "hush"] ["book", "thing"] (defScope s_is_state) := ⟨rfl, rfl, rfl, by decide +kernel, rfl, by decide +kernel, by decide +kernel⟩
theorem ok_is_state (G : Glo K mg) {dvs : List V} {kws : List (Str × V)} {f : Addr} {fd : FuncData} (h_are_values : CallF (tab P w K) P w K mg base 3 "are_values" f_are_values) (h_is_from : CallF (tab P w K) P w K mg base 2 "is_from" f_is_from) (Fd : FunD K "is_state" "is_state" (defArgs s_is_state) (defBody s_is_state) (defScope s_is_state) dvs kws f fd) : FnOk P w K mg base (L2.CX P w) 4 f fd ["book", "thing"] (spW (tab P w K) K 2 f_is_state) := by
  have nd := (sc_is_state).nd
  refine fnW_ok (k := 3) Fd sc_is_state fun cdv A outer s H E hr => ?_
  have tk := takes_of (X := cxOf (L2.CX P w) P w K mg base ["book", "thing", "hushes", "hush"] "is_state" (defScope s_is_state) f cdv A outer s H E) (E := E) rfl rfl rfl rfl
  exact s_cons (s_if (L2.PW.pt (b_or (b_not (b_test (w_isTuple tab_lv rfl G.b_isinstance rfl G.b_tuple (w_var (i := 1) rfl (.inl rfl) rfl rfl) rfl rfl rfl) (fun _ => rfl))) (b_or (b_cmp hr (w_len rfl G.b_len (w_cons (w_var (i := 1) rfl (.inl rfl) rfl rfl) (w_nil) rfl) rfl rfl) (w_int) rfl) (b_or1 (b_not (b_test (w_callP h_are_values hr (by decide) rfl tk (w_cons (w_var (i := 0) rfl (.inl rfl) rfl rfl) (w_cons (w_idx (w_var (i := 1) rfl (.inl rfl) rfl rfl) (w_int) (fun _ _ => rfl)) (w_nil) rfl) rfl) rfl rfl rfl) (fun _ => rfl))))))) (s_cons (s_ret (w_bl))
      (s_nil)) (s_nil))
      (s_cons (s_set (i := 2) nd rfl (.inl rfl) (w_idx (w_var (i := 1) rfl (.inl rfl) rfl rfl) (w_int) (fun _ _ => rfl)) rfl (.inl rfl))
      (s_cons (s_if (L2.PW.pt (b_or (b_not (b_test (w_isTuple tab_lv rfl G.b_isinstance rfl G.b_tuple (w_var (i := 2) rfl (.inl rfl) rfl rfl) rfl rfl rfl) (fun _ => rfl))) (b_or1 (b_cmp hr (w_len rfl G.b_len (w_cons (w_var (i := 2) rfl (.inl rfl) rfl rfl) (w_nil) rfl) rfl rfl) (w_len rfl G.b_len (w_cons (w_fld fldN (Nat.le_of_ble_eq_true rfl) rfl G.k_Book G.n_Book_rules (w_var (i := 0) rfl (.inl rfl) rfl rfl) rfl) (w_nil) rfl) rfl rfl) rfl)))) (s_cons (s_ret (w_bl))
      (s_nil)) (s_nil))
      (s_cons (s_ret (w_all rfl rfl G.b_all (w_cons (w_lc (mt := false) rfl nd (i_seq (w_var (i := 2) rfl (.inl rfl) rfl rfl)) (blkOk_by (own := [("hush", 3)]) (by kernel_rfl)) rfl rfl (fun _ _ _ _ _ => g_name (i := 3) nd rfl (.inl rfl) (.inr rfl)) (fun _ _ _ _ _ => bs_nil) (fun _ _ _ _ _ => w_callP h_is_from hr (by decide) rfl L2.takes0 (w_cons (w_var (i := 3) rfl (.inl rfl) rfl rfl) (w_cons (w_int) (w_cons (w_globW rfl (G.c_MOST_HUSHED _ _) rfl) (w_nil) rfl) rfl) rfl) rfl rfl rfl) (fun _ => rfl)) (w_nil) rfl) rfl rfl))
      (s_nil))))
abbrev s_numbers_text : Stmt := top 11
theorem sc_numbers_text : FnScope ["numbers", "number"] ["numbers"] (defScope s_numbers_text) := ⟨rfl, rfl, rfl, by decide +kernel, rfl, by decide +kernel, by decide +kernel⟩
theorem ok_numbers_text (G : Glo K mg) {dvs : List V} {kws : List (Str × V)} {f : Addr} {fd : FuncData} (Fd : FunD K "numbers_text" "numbers_text" (defArgs s_numbers_text) (defBody s_numbers_text) (defScope s_numbers_text) dvs kws f fd) : FnOk P w K mg base (L2.CX P w) 1 f fd ["numbers"] (spW (tab P w K) K 1 f_numbers_text) := by
  have nd := (sc_numbers_text).nd
  refine fnW_ok (k := 0) Fd sc_numbers_text fun cdv A outer s H E hr => ?_
  have tk := takes_of (X := cxOf (L2.CX P w) P w K mg base ["numbers", "number"] "numbers_text" (defScope s_numbers_text) f cdv A outer s H E) (E := E) rfl rfl rfl rfl
  exact s_cons (s_ret (w_or (w_join (w_str) (w_lc (mt := false) rfl nd (i_seq (w_var (i := 0) rfl (.inl rfl) rfl rfl)) (blkOk_by (own := [("number", 1)]) (by kernel_rfl)) rfl rfl (fun _ _ _ _ _ => g_name (i := 1) nd rfl (.inl rfl) (.inr rfl)) (fun _ _ _ _ _ => bs_nil) (fun _ _ _ _ _ => w_strI rfl G.b_str (w_var (i := 1) rfl (.inl rfl) rfl rfl) rfl) (fun _ => rfl)) rfl rfl rfl) (one (w_globW rfl (G.c_NOTHING _ _) rfl))))
      (s_nil)
abbrev s_state_text : Stmt := top 12
theorem sc_state_text : FnScope ["state", "values", "hushes"] ["state"] (defScope s_state_text) := ⟨rfl, rfl, rfl, by decide +kernel, rfl, by decide +kernel, by decide +kernel⟩
theorem ok_state_text (G : Glo K mg) {dvs : List V} {kws : List (Str × V)} {f : Addr} {fd : FuncData} (h_numbers_text : CallF (tab P w K) P w K mg base 1 "numbers_text" f_numbers_text) (Fd : FunD K "state_text" "state_text" (defArgs s_state_text) (defBody s_state_text) (defScope s_state_text) dvs kws f fd) : FnOk P w K mg base (L2.CX P w) 2 f fd ["state"] (spW (tab P w K) K 1 f_state_text) := by
  have nd := (sc_state_text).nd
  refine fnW_ok (k := 1) Fd sc_state_text fun cdv A outer s H E hr => ?_
  have tk := takes_of (X := cxOf (L2.CX P w) P w K mg base ["state", "values", "hushes"] "state_text" (defScope s_state_text) f cdv A outer s H E) (E := E) rfl rfl rfl rfl
  exact s_cons (s_asg (w_var (i := 0) rfl (.inl rfl) rfl rfl) (g_tup rfl (gs_name (i := 1) nd rfl (.inl rfl) (.inl rfl) (gs_name (i := 2) nd rfl (.inl rfl) (.inl rfl) (gs_nil) rfl) rfl) rfl rfl) rfl rfl rfl)
      (s_cons (s_ret (w_joined (.cons (w_fmt (w_callP h_numbers_text hr (by decide) rfl tk (w_cons (w_var (i := 1) rfl (.inl rfl) rfl rfl) (w_nil) rfl) rfl rfl rfl)) (.cons (w_str) (.cons (w_fmt (w_callP h_numbers_text hr (by decide) rfl tk (w_cons (w_var (i := 2) rfl (.inl rfl) rfl rfl) (w_nil) rfl) rfl rfl rfl)) (.nil))))))
      (s_nil))
abbrev s_read_state : Stmt := top 49
theorem sc_read_state : FnScope ["book", "text", "first", "between", "last", "values", "hushes", "state", "part"] ["book", "text"] (defScope s_read_state) := ⟨rfl, rfl, rfl, by decide +kernel, rfl, by decide +kernel, by decide +kernel⟩
theorem ok_read_state (G : Glo K mg) {dvs : List V} {kws : List (Str × V)} {f : Addr} {fd : FuncData} (h_err_NoText : ErrF P w K mg base "NoText" (He.ga K "NoText") "at") (h_numbers_in : CallF (tab P w K) P w K mg base 2 "numbers_in" f_numbers_in) (h_state_text : CallF (tab P w K) P w K mg base 2 "state_text" f_state_text) (h_is_state : CallF (tab P w K) P w K mg base 4 "is_state" f_is_state) (Fd : FunD K "read_state" "read_state" (defArgs s_read_state) (defBody s_read_state) (defScope s_read_state) dvs kws f fd) : FnOk P w K mg base (L2.CX P w) 5 f fd ["book", "text"] (spW (tab P w K) K 2 f_read_state) := by
  have nd := (sc_read_state).nd
  refine fnW_ok (k := 4) Fd sc_read_state fun cdv A outer s H E hr => ?_
  have tk := takes_of (X := cxOf (L2.CX P w) P w K mg base ["book", "text", "first", "between", "last", "values", "hushes", "state", "part"] "read_state" (defScope s_read_state) f cdv A outer s H E) (E := E) rfl rfl rfl rfl
  exact s_cons (s_if (b_not (b_test (w_isStr tab_lv rfl G.b_isinstance rfl G.b_str (w_var (i := 1) rfl (.inl rfl) rfl rfl) rfl rfl rfl) (fun _ => rfl))) (s_cons (s_raiseF rfl tk h_err_NoText rfl (Nat.le_of_ble_eq_true rfl) hr (by decide) rfl (w_int) rfl rfl rfl)
      (s_nil)) (s_nil))
      (s_cons (s_asg (w_ptn (w_var (i := 1) rfl (.inl rfl) rfl rfl) (w_str) rfl rfl rfl) (g_tup rfl (gs_name (i := 2) nd rfl (.inl rfl) (.inl rfl) (gs_name (i := 3) nd rfl (.inl rfl) (.inl rfl) (gs_name (i := 4) nd rfl (.inl rfl) (.inl rfl) (gs_nil) rfl) rfl) rfl) rfl rfl) rfl rfl rfl)
      (s_cons (s_asg (w_lc (mt := false) rfl nd (i_seq (w_tup (w_cons (w_var (i := 2) rfl (.inl rfl) rfl rfl) (w_cons (w_var (i := 4) rfl (.inl rfl) rfl rfl) (w_nil) rfl) rfl))) (blkOk_by (own := [("part", 8)]) (by kernel_rfl)) rfl rfl (fun _ _ _ _ _ => g_name (i := 8) nd rfl (.inl rfl) (.inr rfl)) (fun _ _ _ _ _ => bs_nil) (fun _ _ _ _ _ => w_ifx (b_cmp hr (w_var (i := 8) rfl (.inl rfl) rfl rfl) (w_globW rfl (G.c_NOTHING _ _) rfl) rfl) (w_tup (w_nil)) (w_callP h_numbers_in hr (by decide) rfl L2.takes0 (w_cons (w_split (w_var (i := 8) rfl (.inl rfl) rfl rfl) (w_str) rfl rfl rfl) (w_nil) rfl) rfl rfl rfl)) (fun _ => rfl)) (g_tup rfl (gs_name (i := 5) nd rfl (.inl rfl) (.inl rfl) (gs_name (i := 6) nd rfl (.inl rfl) (.inl rfl) (gs_nil) rfl) rfl) rfl rfl) rfl rfl rfl)
      (s_cons (s_set (i := 7) nd rfl (.inl rfl) (w_tup (w_cons (w_var (i := 5) rfl (.inl rfl) rfl rfl) (w_cons (w_var (i := 6) rfl (.inl rfl) rfl rfl) (w_nil) rfl) rfl)) rfl (.inl rfl))
      (s_cons (s_if (L2.PW.pt (b_or (b_cmp hr (w_var (i := 3) rfl (.inl rfl) rfl rfl) (w_str) rfl) (b_or (b_not (b_test (w_callP h_is_state hr (by decide) rfl tk (w_cons (w_var (i := 0) rfl (.inl rfl) rfl rfl) (w_cons (w_var (i := 7) rfl (.inl rfl) rfl rfl) (w_nil) rfl) rfl) rfl rfl rfl) (fun _ => rfl))) (b_or1 (b_cmp hr (w_callP h_state_text hr (by decide) rfl tk (w_cons (w_var (i := 7) rfl (.inl rfl) rfl rfl) (w_nil) rfl) rfl rfl rfl) (w_var (i := 1) rfl (.inl rfl) rfl rfl) rfl))))) (s_cons (s_raiseF rfl tk h_err_NoText rfl (Nat.le_of_ble_eq_true rfl) hr (by decide) rfl (w_int) rfl rfl rfl)
      (s_nil)) (s_nil))
      (s_cons (s_ret (w_var (i := 7) rfl (.inl rfl) rfl rfl))
      (s_nil))))))
abbrev s__law_told : Stmt := top 66
theorem sc__law_told : FnScope ["_law_book", "_law_text", "e"] ["_law_book", "_law_text"] (defScope s__law_told) := ⟨rfl, rfl, rfl, by decide +kernel, rfl, by decide +kernel, by decide +kernel⟩
theorem ok__law_told (G : Glo K mg) {dvs : List V} {kws : List (Str × V)} {f : Addr} {fd : FuncData} (h_read_state : CallF (tab P w K) P w K mg base 5 "read_state" f_read_state) (Fd : FunD K "_law_told" "_law_told" (defArgs s__law_told) (defBody s__law_told) (defScope s__law_told) dvs kws f fd) : FnOk P w K mg base (L2.CX P w) 6 f fd ["_law_book", "_law_text"] (spW (tab P w K) K 2 f__law_told) := by
  have nd := (sc__law_told).nd
  refine fnW_ok (k := 5) Fd sc__law_told fun cdv A outer s H E hr => ?_
  have tk := takes_of (X := cxOf (L2.CX P w) P w K mg base ["_law_book", "_law_text", "e"] "_law_told" (defScope s__law_told) f cdv A outer s H E) (E := E) rfl rfl rfl rfl
  exact s_cons (s_tryC (i := 2) rfl rfl nd rfl rfl (clause_one (ClsN.nm (.own rfl G.g_NoText rfl))) (exmB_ok G.t_8) (fun W pn xe tkW => s_cons (s_ret (w_callP h_read_state hr (by decide) rfl tkW (w_cons (w_var (i := 0) rfl (.inl rfl) rfl rfl) (w_cons (w_var (i := 1) rfl (.inl rfl) rfl rfl) (w_nil) rfl) rfl) rfl rfl rfl))
      (s_nil)) (fun c a oe pn d h1 h2 h3 => by
    have hold := holds_at (X := cxOf (L2.CX P w) P w K mg base ["_law_book", "_law_text", "e"] "_law_told" (defScope s__law_told) f cdv A outer s H E) (T := tab P w K) (a := a) (pn := pn) (fun _ _ _ h => h) h1 h2 h3
    exact s_cons (s_ret (w_ifx (L2.PW.pt (b_and (b_test (w_isX hold rfl G.b_isinstance (.own rfl G.g_HushError rfl) (kitB_ok G.t_6) (w_var (i := 2) rfl (.inl rfl) rfl rfl) rfl rfl rfl) (fun _ => rfl)) (b_and1 (b_not (b_test (w_isX hold rfl G.b_isinstance (.own rfl G.g_NoState rfl) (kitB_ok G.t_5) (w_var (i := 2) rfl (.inl rfl) rfl rfl) rfl rfl rfl) (fun _ => rfl)))))) (w_xf hold (fldN (P := P) (w := w) (K := K)) (Nat.le_of_ble_eq_true rfl) rfl (xfsB_ok G.t_7) (w_var (i := 2) rfl (.inl rfl) rfl rfl) rfl) (w_str)))
      (s_nil)))
      (s_nil)
abbrev s__law_figures : Stmt := top 63
theorem sc__law_figures : FnScope ["_law_word", "_law_sign"] ["_law_word"] (defScope s__law_figures) := ⟨rfl, rfl, rfl, by decide +kernel, rfl, by decide +kernel, by decide +kernel⟩
theorem ok__law_figures (G : Glo K mg) {dvs : List V} {kws : List (Str × V)} {f : Addr} {fd : FuncData} (Fd : FunD K "_law_figures" "_law_figures" (defArgs s__law_figures) (defBody s__law_figures) (defScope s__law_figures) dvs kws f fd) : FnOk P w K mg base (L2.CX P w) 1 f fd ["_law_word"] (spW (tab P w K) K 1 f__law_figures) := by
  have nd := (sc__law_figures).nd
  refine fnW_ok (k := 0) Fd sc__law_figures fun cdv A outer s H E hr => ?_
  have tk := takes_of (X := cxOf (L2.CX P w) P w K mg base ["_law_word", "_law_sign"] "_law_figures" (defScope s__law_figures) f cdv A outer s H E) (E := E) rfl rfl rfl rfl
  exact s_cons (s_if (L2.PW.pt (b_or (b_not (b_chain hr (w_int) (w_len rfl G.b_len (w_cons (w_var (i := 0) rfl (.inl rfl) rfl rfl) (w_nil) rfl) rfl rfl) (w_int) (by with_unfolding_all rfl))) (b_or1 (b_not (b_test (w_all rfl rfl G.b_all (w_cons (w_lc (mt := false) rfl nd (i_str (w_var (i := 0) rfl (.inl rfl) rfl rfl)) (blkOk_by (own := [("_law_sign", 1)]) (by kernel_rfl)) rfl rfl (fun _ _ _ _ _ => g_name (i := 1) nd rfl (.inl rfl) (.inr rfl)) (fun _ _ _ _ _ => bs_nil) (fun _ _ _ _ _ => w_inS (w_var (i := 1) rfl (.inl rfl) rfl rfl) (w_str) rfl) (fun _ => rfl)) (w_nil) rfl) rfl rfl) (fun _ => rfl)))))) (s_cons (s_ret (w_neg (w_int)))
      (s_nil)) (s_nil))
      (s_cons (s_ret (w_ifx (L2.PW.pt (b_and (b_cmp hr (w_idxS (w_var (i := 0) rfl (.inl rfl) rfl rfl) (w_int) (fun _ _ => rfl)) (w_str) rfl) (b_and1 (b_cmp hr (w_var (i := 0) rfl (.inl rfl) rfl rfl) (w_str) rfl)))) (w_neg (w_int)) (w_intT rfl G.b_int (w_var (i := 0) rfl (.inl rfl) rfl rfl) rfl)))
      (s_nil))
abbrev s__law_row_in : Stmt := top 64
theorem sc__law_row_in : FnScope ["_law_text", "_law_word"] ["_law_text"] (defScope s__law_row_in) := ⟨rfl, rfl, rfl, by decide +kernel, rfl, by decide +kernel, by decide +kernel⟩
theorem ok__law_row_in (G : Glo K mg) {dvs : List V} {kws : List (Str × V)} {f : Addr} {fd : FuncData} (h__law_figures : CallF (tab P w K) P w K mg base 1 "_law_figures" f__law_figures) (Fd : FunD K "_law_row_in" "_law_row_in" (defArgs s__law_row_in) (defBody s__law_row_in) (defScope s__law_row_in) dvs kws f fd) : FnOk P w K mg base (L2.CX P w) 2 f fd ["_law_text"] (spW (tab P w K) K 1 f__law_row_in) := by
  have nd := (sc__law_row_in).nd
  refine fnW_ok (k := 1) Fd sc__law_row_in fun cdv A outer s H E hr => ?_
  have tk := takes_of (X := cxOf (L2.CX P w) P w K mg base ["_law_text", "_law_word"] "_law_row_in" (defScope s__law_row_in) f cdv A outer s H E) (E := E) rfl rfl rfl rfl
  exact s_cons (s_ret (w_ifx (b_cmp hr (w_var (i := 0) rfl (.inl rfl) rfl rfl) (w_str) rfl) (w_tup (w_nil)) (w_tuple rfl G.b_tuple (w_cons (w_lc (mt := false) rfl nd (i_seq (w_split (w_var (i := 0) rfl (.inl rfl) rfl rfl) (w_str) rfl rfl rfl)) (blkOk_by (own := [("_law_word", 1)]) (by kernel_rfl)) rfl rfl (fun _ _ _ _ _ => g_name (i := 1) nd rfl (.inl rfl) (.inr rfl)) (fun _ _ _ _ _ => bs_nil) (fun _ _ _ _ _ => w_callP h__law_figures hr (by decide) rfl L2.takes0 (w_cons (w_var (i := 1) rfl (.inl rfl) rfl rfl) (w_nil) rfl) rfl rfl rfl) (fun _ => rfl)) (w_nil) rfl) rfl rfl)))
      (s_nil)
abbrev s__law_due : Stmt := top 65
theorem sc__law_due : FnScope ["_law_wheels_here", "_law_many", "_law_text", "_law_parts", "_law_values", "_law_hushes", "_law_part", "_law_one", "_law_most", "_law_hush"] ["_law_wheels_here", "_law_many", "_law_text"] (defScope s__law_due) := ⟨rfl, rfl, rfl, by decide +kernel, rfl, by decide +kernel, by decide +kernel⟩
theorem ok__law_due (G : Glo K mg) {dvs : List V} {kws : List (Str × V)} {f : Addr} {fd : FuncData} (h__law_row_in : CallF (tab P w K) P w K mg base 2 "_law_row_in" f__law_row_in) (Fd : FunD K "_law_due" "_law_due" (defArgs s__law_due) (defBody s__law_due) (defScope s__law_due) dvs kws f fd) : FnOk P w K mg base (L2.CX P w) 3 f fd ["_law_wheels_here", "_law_many", "_law_text"] (spW (tab P w K) K 3 f__law_due) := by
  have nd := (sc__law_due).nd
  refine fnW_ok (k := 2) Fd sc__law_due fun cdv A outer s H E hr => ?_
  have tk := takes_of (X := cxOf (L2.CX P w) P w K mg base ["_law_wheels_here", "_law_many", "_law_text", "_law_parts", "_law_values", "_law_hushes", "_law_part", "_law_one", "_law_most", "_law_hush"] "_law_due" (defScope s__law_due) f cdv A outer s H E) (E := E) rfl rfl rfl rfl
  exact s_cons (s_set (i := 3) nd rfl (.inl rfl) (w_ifx (b_test (w_isStr tab_lv rfl G.b_isinstance rfl G.b_str (w_var (i := 2) rfl (.inl rfl) rfl rfl) rfl rfl rfl) (fun _ => rfl)) (w_split (w_var (i := 2) rfl (.inl rfl) rfl rfl) (w_str) rfl rfl rfl) (w_lst (w_nil))) rfl (.inl rfl))
      (s_cons (s_if (b_cmp hr (w_len rfl G.b_len (w_cons (w_var (i := 3) rfl (.inl rfl) rfl rfl) (w_nil) rfl) rfl rfl) (w_int) rfl) (s_cons (s_ret (w_int))
      (s_nil)) (s_nil))
      (s_cons (s_asg (w_lc (mt := false) rfl nd (i_seq (w_var (i := 3) rfl (.inl rfl) rfl rfl)) (blkOk_by (own := [("_law_part", 6)]) (by kernel_rfl)) rfl rfl (fun _ _ _ _ _ => g_name (i := 6) nd rfl (.inl rfl) (.inr rfl)) (fun _ _ _ _ _ => bs_nil) (fun _ _ _ _ _ => w_callP h__law_row_in hr (by decide) rfl L2.takes0 (w_cons (w_var (i := 6) rfl (.inl rfl) rfl rfl) (w_nil) rfl) rfl rfl rfl) (fun _ => rfl)) (g_tup rfl (gs_name (i := 4) nd rfl (.inl rfl) (.inl rfl) (gs_name (i := 5) nd rfl (.inl rfl) (.inl rfl) (gs_nil) rfl) rfl) rfl rfl) rfl rfl rfl)
      (s_cons (s_if (L2.PW.pt (b_or (b_cmp hr (w_len rfl G.b_len (w_cons (w_var (i := 4) rfl (.inl rfl) rfl rfl) (w_nil) rfl) rfl rfl) (w_len rfl G.b_len (w_cons (w_var (i := 0) rfl (.inl rfl) rfl rfl) (w_nil) rfl) rfl rfl) rfl) (b_or (b_cmp hr (w_len rfl G.b_len (w_cons (w_var (i := 5) rfl (.inl rfl) rfl rfl) (w_nil) rfl) rfl rfl) (w_var (i := 1) rfl (.inl rfl) rfl rfl) rfl) (b_or1 (b_not (b_test (w_all rfl rfl G.b_all (w_cons (w_lc (mt := false) rfl nd (i_seq (w_var (i := 5) rfl (.inl rfl) rfl rfl)) (blkOk_by (own := [("_law_hush", 9)]) (by kernel_rfl)) rfl rfl (fun _ _ _ _ _ => g_name (i := 9) nd rfl (.inl rfl) (.inr rfl)) (fun _ _ _ _ _ => bs_nil) (fun _ _ _ _ _ => w_chain hr (w_int) (w_var (i := 9) rfl (.inl rfl) rfl rfl) (w_int) (by with_unfolding_all rfl)) (fun _ => rfl)) (w_nil) rfl) rfl rfl) (fun _ => rfl))))))) (s_cons (s_ret (w_int))
      (s_nil)) (s_nil))
      (s_cons (s_ret (w_ifx (b_test (w_all rfl rfl G.b_all (w_cons (w_lc (mt := false) rfl nd (i_zip rfl G.b_zip (w_var (i := 4) rfl (.inl rfl) rfl rfl) (w_var (i := 0) rfl (.inl rfl) rfl rfl) rfl rfl rfl) (blkOk_by (own := [("_law_one", 7), ("_law_most", 8)]) (by kernel_rfl)) rfl rfl (fun _ _ _ _ _ => g_tup rfl (gs_name (i := 7) nd rfl (.inl rfl) (.inr rfl) (gs_name (i := 8) nd rfl (.inl rfl) (.inr rfl) (gs_nil) rfl) rfl) rfl rfl) (fun _ _ _ _ _ => bs_nil) (fun _ _ _ _ _ => w_chain hr (w_int) (w_var (i := 7) rfl (.inl rfl) rfl rfl) (w_var (i := 8) rfl (.inl rfl) rfl rfl) (by with_unfolding_all rfl)) (fun _ => rfl)) (w_nil) rfl) rfl rfl) (fun _ => rfl)) (w_tup (w_cons (w_var (i := 4) rfl (.inl rfl) rfl rfl) (w_cons (w_var (i := 5) rfl (.inl rfl) rfl rfl) (w_nil) rfl) rfl)) (w_int)))
      (s_nil)))))
abbrev s_show_state : Stmt := top 46
theorem sc_show_state : FnScope ["state"] ["state"] (defScope s_show_state) := ⟨rfl, rfl, rfl, by decide +kernel, rfl, by decide +kernel, by decide +kernel⟩
theorem ok_show_state (G : Glo K mg) {dvs : List V} {kws : List (Str × V)} {f : Addr} {fd : FuncData} (h_state_text : CallF (tab P w K) P w K mg base 2 "state_text" f_state_text) (Fd : FunD K "show_state" "show_state" (defArgs s_show_state) (defBody s_show_state) (defScope s_show_state) dvs kws f fd) : FnOk P w K mg base (L2.CX P w) 3 f fd ["state"] (spW (tab P w K) K 1 f_show_state) := by
  have nd := (sc_show_state).nd
  refine fnW_ok (k := 2) Fd sc_show_state fun cdv A outer s H E hr => ?_
  have tk := takes_of (X := cxOf (L2.CX P w) P w K mg base ["state"] "show_state" (defScope s_show_state) f cdv A outer s H E) (E := E) rfl rfl rfl rfl
  exact s_cons (s_ret (w_callP h_state_text hr (by decide) rfl tk (w_cons (w_var (i := 0) rfl (.inl rfl) rfl rfl) (w_nil) rfl) rfl rfl rfl))
      (s_nil)
abbrev s_law : Stmt := top 68
theorem sc_law : FnScope ["_law_script", "_law_k", "_law_bag_here", "_law_wheels_here", "_law_rules_here", "_law_book", "_law_many", "_law_turn", "_law_thing", "_law_state_here", "_law_text", "_law_bend"] ["_law_script"] (defScope s_law) := ⟨rfl, rfl, rfl, by decide +kernel, rfl, by decide +kernel, by decide +kernel⟩
theorem ok_law (G : Glo K mg) {dvs : List V} {kws : List (Str × V)} {f : Addr} {fd : FuncData} (h__law_bag : CallF (tab P w K) P w K mg base 1 "_law_bag" f__law_bag) (h__law_drawn : CallF (tab P w K) P w K mg base 5 "_law_drawn" f__law_drawn) (h_new_Book : MakeF (tab P w K) P w K mg base 7 "Book" 0 f_Book___init__) (h__law_state : CallF (tab P w K) P w K mg base 2 "_law_state" f__law_state) (h__law_state_text : CallF (tab P w K) P w K mg base 2 "_law_state_text" f__law_state_text) (h__law_told : CallF (tab P w K) P w K mg base 6 "_law_told" f__law_told) (h_show_state : CallF (tab P w K) P w K mg base 3 "show_state" f_show_state) (h__law_take : CallF (tab P w K) P w K mg base 1 "_law_take" f__law_take) (h__law_bent : CallF (tab P w K) P w K mg base 2 "_law_bent" f__law_bent) (h__law_due : CallF (tab P w K) P w K mg base 3 "_law_due" f__law_due) (h__law_any : CallF (tab P w K) P w K mg base 2 "_law_any" f__law_any) (Fd : FunD K "law" "law" (defArgs s_law) (defBody s_law) (defScope s_law) dvs kws f fd) : FnOk P w K mg base (L2.CX P w) 9 f fd ["_law_script"] (spW (tab P w K) K 1 f_law) := by
  have nd := (sc_law).nd
  refine fnW_ok (k := 8) Fd sc_law fun cdv A outer s H E hr => ?_
  have tk := takes_of (X := cxOf (L2.CX P w) P w K mg base ["_law_script", "_law_k", "_law_bag_here", "_law_wheels_here", "_law_rules_here", "_law_book", "_law_many", "_law_turn", "_law_thing", "_law_state_here", "_law_text", "_law_bend"] "law" (defScope s_law) f cdv A outer s H E) (E := E) rfl rfl rfl rfl
  exact s_cons (m := b_law_0_0) (m2 := b_law_0t1) (s_for (passes_of rfl) rfl (i_range1 rfl G.b_range (w_max rfl rfl G.b_max (w_cons (w_int) (w_cons (w_min rfl rfl G.b_min (w_cons (w_int) (w_cons (w_len rfl G.b_len (w_cons (w_var (i := 0) rfl (.inl rfl) rfl rfl) (w_nil) rfl) rfl rfl) (w_nil) rfl) rfl) rfl rfl) (w_nil) rfl) rfl) rfl rfl) rfl) (g_name (i := 1) nd rfl (.inl rfl) (.inl rfl)) (s_cons (m := b_law_1_0) (m2 := b_law_1t1) (s_set (i := 2) nd rfl (.inl rfl) (w_call h__law_bag hr (by decide) rfl tk (w_cons (w_var (i := 0) rfl (.inl rfl) rfl rfl) (w_cons (w_var (i := 1) rfl (.inl rfl) rfl rfl) (w_nil) rfl) rfl) rfl rfl rfl) rfl (.inl rfl))
      (s_cons (m := b_law_1_1) (m2 := b_law_1t2) (s_asg (w_call h__law_drawn hr (by decide) rfl tk (w_cons (w_var (i := 2) rfl (.inl rfl) rfl rfl) (w_nil) rfl) rfl rfl rfl) (g_tup rfl (gs_name (i := 3) nd rfl (.inl rfl) (.inl rfl) (gs_name (i := 4) nd rfl (.inl rfl) (.inl rfl) (gs_nil) rfl) rfl) rfl rfl) rfl rfl rfl)
      (s_cons (m := b_law_1_2) (m2 := b_law_1t3) (s_par2 rfl nd rfl rfl (by decide) rfl rfl (w_cons (w_make G.t_9 h_new_Book hr (by decide) rfl tk (w_cons (w_var (i := 3) rfl (.inl rfl) rfl rfl) (w_cons (w_var (i := 4) rfl (.inl rfl) rfl rfl) (w_nil) rfl) rfl) rfl rfl rfl) (w_cons (w_len rfl G.b_len (w_cons (w_var (i := 4) rfl (.inl rfl) rfl rfl) (w_nil) rfl) rfl rfl) (w_nil) rfl) rfl) rfl rfl)
      (s_cons (m := b_law_1_3) (m2 := b_law_1t4) (s_for (passes_of rfl) rfl (i_range1 rfl G.b_range (w_int) rfl) (g_name (i := 7) nd rfl (.inl rfl) (.inl rfl)) (s_cons (m := b_law_2_0) (m2 := b_law_2t1) (s_set (i := 9) nd rfl (.inl rfl) (w_call h__law_state hr (by decide) rfl tk (w_cons (w_var (i := 2) rfl (.inl rfl) rfl rfl) (w_cons (w_var (i := 3) rfl (.inl rfl) rfl rfl) (w_cons (w_var (i := 6) rfl (.inl rfl) rfl rfl) (w_nil) rfl) rfl) rfl) rfl rfl rfl) rfl (.inl rfl))
      (s_cons (m := b_law_2_1) (m2 := b_law_2t2) (s_set (i := 10) nd rfl (.inl rfl) (w_callP h__law_state_text hr (by decide) rfl tk (w_cons (w_var (i := 9) rfl (.inl rfl) rfl rfl) (w_nil) rfl) rfl rfl rfl) rfl (.inl rfl))
      (s_cons (m := b_law_2_2) (m2 := b_law_2t3) (s_if (L2.PW.pt (b_or (b_cmp hr (w_callP h_show_state hr (by decide) rfl tk (w_cons (w_var (i := 9) rfl (.inl rfl) rfl rfl) (w_nil) rfl) rfl rfl rfl) (w_var (i := 10) rfl (.inl rfl) rfl rfl) rfl) (b_or1 (b_cmp hr (w_callP h__law_told hr (by decide) rfl tk (w_cons (w_var (i := 5) rfl (.inl rfl) rfl rfl) (w_cons (w_var (i := 10) rfl (.inl rfl) rfl rfl) (w_nil) rfl) rfl) rfl rfl rfl) (w_var (i := 9) rfl (.inl rfl) rfl rfl) rfl)))) (s_cons (s_ret (w_bl))
      (s_nil)) (s_nil))
      (s_cons (m := b_law_2_3) (m2 := b_law_2t4) (s_for (passes_of rfl) rfl (i_range1 rfl G.b_range (w_bin (w_int) (w_call h__law_take hr (by decide) rfl tk (w_cons (w_var (i := 2) rfl (.inl rfl) rfl rfl) (w_cons (w_int) (w_nil) rfl) rfl) rfl rfl rfl)) rfl) (g_name (i := 11) nd rfl (.inl rfl) (.inl rfl)) (s_cons (m := b_law_3_0) (m2 := sNext) (s_set (i := 10) nd rfl (.inl rfl) (w_call h__law_bent hr (by decide) rfl tk (w_cons (w_var (i := 2) rfl (.inl rfl) rfl rfl) (w_cons (w_var (i := 10) rfl (.inl rfl) rfl rfl) (w_nil) rfl) rfl) rfl rfl rfl) rfl (.inl rfl))
      (s_nil)) (fun _ => rfl))
      (s_cons (m := b_law_2_4) (m2 := sNext) (s_if (b_cmp hr (w_callP h__law_told hr (by decide) rfl tk (w_cons (w_var (i := 5) rfl (.inl rfl) rfl rfl) (w_cons (w_var (i := 10) rfl (.inl rfl) rfl rfl) (w_nil) rfl) rfl) rfl rfl rfl) (w_callP h__law_due hr (by decide) rfl tk (w_cons (w_var (i := 3) rfl (.inl rfl) rfl rfl) (w_cons (w_var (i := 6) rfl (.inl rfl) rfl rfl) (w_cons (w_var (i := 10) rfl (.inl rfl) rfl rfl) (w_nil) rfl) rfl) rfl) rfl rfl rfl) rfl) (s_cons (s_ret (w_bl))
      (s_nil)) (s_nil))
      (s_nil)))))) (fun _ => rfl))
      (s_cons (m := b_law_1_4) (m2 := sNext) (s_for (passes_of rfl) rfl (i_seq (w_tup (w_cons (w_call h__law_any hr (by decide) rfl tk (w_cons (w_var (i := 2) rfl (.inl rfl) rfl rfl) (w_nil) rfl) rfl rfl rfl) (w_cons (w_non) (w_cons (w_int) (w_cons (w_bl) (w_cons (w_lst (w_cons (w_var (i := 10) rfl (.inl rfl) rfl rfl) (w_nil) rfl)) (w_cons (w_tup (w_cons (w_var (i := 10) rfl (.inl rfl) rfl rfl) (w_nil) rfl)) (w_cons (w_str) (w_cons (w_str) (w_cons (w_str) (w_cons (w_var (i := 9) rfl (.inl rfl) rfl rfl) (w_nil) rfl) rfl) rfl) rfl) rfl) rfl) rfl) rfl) rfl) rfl))) (g_name (i := 8) nd rfl (.inl rfl) (.inl rfl)) (s_cons (m := b_law_4_0) (m2 := sNext) (s_if (b_cmp hr (w_callP h__law_told hr (by decide) rfl tk (w_cons (w_var (i := 5) rfl (.inl rfl) rfl rfl) (w_cons (w_var (i := 8) rfl (.inl rfl) rfl rfl) (w_nil) rfl) rfl) rfl rfl rfl) (w_callP h__law_due hr (by decide) rfl tk (w_cons (w_var (i := 3) rfl (.inl rfl) rfl rfl) (w_cons (w_var (i := 6) rfl (.inl rfl) rfl rfl) (w_cons (w_var (i := 8) rfl (.inl rfl) rfl rfl) (w_nil) rfl) rfl) rfl) rfl rfl rfl) rfl) (s_cons (s_ret (w_bl))
      (s_nil)) (s_nil))
      (s_nil)) (fun _ => rfl))
      (s_nil)))))) (fun _ => rfl))
      (s_cons (m := b_law_0_1) (m2 := sNext) (s_ret (w_bl))
      (s_nil))
end
/-! ### the head -/
def d__law_bag : He.DefD := ⟨("_law_bag", none), "_law_bag", "_law_bag", defArgs s__law_bag, defBody s__law_bag, defScope s__law_bag, [], []⟩
def d__law_take : He.DefD := ⟨("_law_take", none), "_law_take", "_law_take", defArgs s__law_take, defBody s__law_take, defScope s__law_take, [], []⟩
def d__law_wheels : He.DefD := ⟨("_law_wheels", none), "_law_wheels", "_law_wheels", defArgs s__law_wheels, defBody s__law_wheels, defScope s__law_wheels, [], []⟩
def d__law_condition : He.DefD := ⟨("_law_condition", none), "_law_condition", "_law_condition", defArgs s__law_condition, defBody s__law_condition, defScope s__law_condition, [], []⟩
def d__law_change : He.DefD := ⟨("_law_change", none), "_law_change", "_law_change", defArgs s__law_change, defBody s__law_change, defScope s__law_change, [], []⟩
def d__law_rule : He.DefD := ⟨("_law_rule", none), "_law_rule", "_law_rule", defArgs s__law_rule, defBody s__law_rule, defScope s__law_rule, [], []⟩
def d__law_rules : He.DefD := ⟨("_law_rules", none), "_law_rules", "_law_rules", defArgs s__law_rules, defBody s__law_rules, defScope s__law_rules, [], []⟩
def d__law_drawn : He.DefD := ⟨("_law_drawn", none), "_law_drawn", "_law_drawn", defArgs s__law_drawn, defBody s__law_drawn, defScope s__law_drawn, [], []⟩
def d_NoBook___init__ : He.DefD := ⟨("NoBook", some "__init__"), "__init__", "NoBook.__init__", defArgs s_NoBook___init__, defBody s_NoBook___init__, defScope s_NoBook___init__, [], []⟩
def d_is_row : He.DefD := ⟨("is_row", none), "is_row", "is_row", defArgs s_is_row, defBody s_is_row, defScope s_is_row, [], []⟩
def d_how_many : He.DefD := ⟨("how_many", none), "how_many", "how_many", defArgs s_how_many, defBody s_how_many, defScope s_how_many, [], []⟩
def d_is_whole : He.DefD := ⟨("is_whole", none), "is_whole", "is_whole", defArgs s_is_whole, defBody s_is_whole, defScope s_is_whole, [], []⟩
def d_is_from : He.DefD := ⟨("is_from", none), "is_from", "is_from", defArgs s_is_from, defBody s_is_from, defScope s_is_from, [], []⟩
def d_are_wheels : He.DefD := ⟨("are_wheels", none), "are_wheels", "are_wheels", defArgs s_are_wheels, defBody s_are_wheels, defScope s_are_wheels, [], []⟩
def d_are_rising : He.DefD := ⟨("are_rising", none), "are_rising", "are_rising", defArgs s_are_rising, defBody s_are_rising, defScope s_are_rising, [], []⟩
def d_is_hush : He.DefD := ⟨("is_hush", none), "is_hush", "is_hush", defArgs s_is_hush, defBody s_is_hush, defScope s_is_hush, [], []⟩
def d_are_hushes : He.DefD := ⟨("are_hushes", none), "are_hushes", "are_hushes", defArgs s_are_hushes, defBody s_are_hushes, defScope s_are_hushes, [], []⟩
def d_are_rules_numbers : He.DefD := ⟨("are_rules_numbers", none), "are_rules_numbers", "are_rules_numbers", defArgs s_are_rules_numbers, defBody s_are_rules_numbers, defScope s_are_rules_numbers, [], []⟩
def d_is_worded : He.DefD := ⟨("is_worded", none), "is_worded", "is_worded", defArgs s_is_worded, defBody s_is_worded, defScope s_is_worded, [], []⟩
def d_is_placed : He.DefD := ⟨("is_placed", none), "is_placed", "is_placed", defArgs s_is_placed, defBody s_is_placed, defScope s_is_placed, [], []⟩
def d_is_condition : He.DefD := ⟨("is_condition", none), "is_condition", "is_condition", defArgs s_is_condition, defBody s_is_condition, defScope s_is_condition, [], []⟩
def d_is_rule : He.DefD := ⟨("is_rule", none), "is_rule", "is_rule", defArgs s_is_rule, defBody s_is_rule, defScope s_is_rule, [], []⟩
def d_look_book : He.DefD := ⟨("look_book", none), "look_book", "look_book", defArgs s_look_book, defBody s_look_book, defScope s_look_book, [], []⟩
def d_Book___init__ : He.DefD := ⟨("Book", some "__init__"), "__init__", "Book.__init__", defArgs s_Book___init__, defBody s_Book___init__, defScope s_Book___init__, [.adr (He.dflAt ("Book", some "__init__") 0)], []⟩
def d__law_state : He.DefD := ⟨("_law_state", none), "_law_state", "_law_state", defArgs s__law_state, defBody s__law_state, defScope s__law_state, [], []⟩
def d__law_numbers : He.DefD := ⟨("_law_numbers", none), "_law_numbers", "_law_numbers", defArgs s__law_numbers, defBody s__law_numbers, defScope s__law_numbers, [], []⟩
def d__law_state_text : He.DefD := ⟨("_law_state_text", none), "_law_state_text", "_law_state_text", defArgs s__law_state_text, defBody s__law_state_text, defScope s__law_state_text, [], []⟩
def d__law_any : He.DefD := ⟨("_law_any", none), "_law_any", "_law_any", defArgs s__law_any, defBody s__law_any, defScope s__law_any, [], []⟩
def d__law_bent : He.DefD := ⟨("_law_bent", none), "_law_bent", "_law_bent", defArgs s__law_bent, defBody s__law_bent, defScope s__law_bent, [], []⟩
def d_NoText___init__ : He.DefD := ⟨("NoText", some "__init__"), "__init__", "NoText.__init__", defArgs s_NoText___init__, defBody s_NoText___init__, defScope s_NoText___init__, [], []⟩
def d_figures_in : He.DefD := ⟨("figures_in", none), "figures_in", "figures_in", defArgs s_figures_in, defBody s_figures_in, defScope s_figures_in, [], []⟩
def d_numbers_in : He.DefD := ⟨("numbers_in", none), "numbers_in", "numbers_in", defArgs s_numbers_in, defBody s_numbers_in, defScope s_numbers_in, [], []⟩
def d_are_values : He.DefD := ⟨("are_values", none), "are_values", "are_values", defArgs s_are_values, defBody s_are_values, defScope s_are_values, [], []⟩
def d_is_state : He.DefD := ⟨("is_state", none), "is_state", "is_state", defArgs s_is_state, defBody s_is_state, defScope s_is_state, [], []⟩
def d_numbers_text : He.DefD := ⟨("numbers_text", none), "numbers_text", "numbers_text", defArgs s_numbers_text, defBody s_numbers_text, defScope s_numbers_text, [], []⟩
def d_state_text : He.DefD := ⟨("state_text", none), "state_text", "state_text", defArgs s_state_text, defBody s_state_text, defScope s_state_text, [], []⟩
def d_read_state : He.DefD := ⟨("read_state", none), "read_state", "read_state", defArgs s_read_state, defBody s_read_state, defScope s_read_state, [], []⟩
def d__law_told : He.DefD := ⟨("_law_told", none), "_law_told", "_law_told", defArgs s__law_told, defBody s__law_told, defScope s__law_told, [], []⟩
def d__law_figures : He.DefD := ⟨("_law_figures", none), "_law_figures", "_law_figures", defArgs s__law_figures, defBody s__law_figures, defScope s__law_figures, [], []⟩
def d__law_row_in : He.DefD := ⟨("_law_row_in", none), "_law_row_in", "_law_row_in", defArgs s__law_row_in, defBody s__law_row_in, defScope s__law_row_in, [], []⟩
def d__law_due : He.DefD := ⟨("_law_due", none), "_law_due", "_law_due", defArgs s__law_due, defBody s__law_due, defScope s__law_due, [], []⟩
def d_show_state : He.DefD := ⟨("show_state", none), "show_state", "show_state", defArgs s_show_state, defBody s_show_state, defScope s_show_state, [], []⟩
def d_law : He.DefD := ⟨("law", none), "law", "law", defArgs s_law, defBody s_law, defScope s_law, [], []⟩
def fn : List He.DefD := [d__law_bag, d__law_take, d__law_wheels, d__law_condition, d__law_change, d__law_rule, d__law_rules, d__law_drawn, d_NoBook___init__, d_is_row, d_how_many, d_is_whole, d_is_from, d_are_wheels, d_are_rising, d_is_hush, d_are_hushes, d_are_rules_numbers, d_is_worded, d_is_placed, d_is_condition, d_is_rule, d_look_book, d_Book___init__, d__law_state, d__law_numbers, d__law_state_text, d__law_any, d__law_bent, d_NoText___init__, d_figures_in, d_numbers_in, d_are_values, d_is_state, d_numbers_text, d_state_text, d_read_state, d__law_told, d__law_figures, d__law_row_in, d__law_due, d_show_state, d_law]
def fa : List He.Fa := [.free "len", .free "abs", .free "range", .free "tuple", .free "isinstance", .free "bool", .free "int", .free "all", .free "zip", .free "str", .free "any", .free "enumerate", .free "min", .free "max", .int "MOST_WHEELS" 3, .int "MOST_BEGINNINGS" 24, .int "MOST_PLACES" 4, .int "LEAST_PLACES" 2, .int "MOST_HUSHED" 3, .glo "RULED", .glo "PLACED", .int "PARTS" 4, .int "MOST_CONDITIONS" 4, .glo "CHANGES", .int "MOST_CHANGES" 3, .int "MOST_RULES" 5, .str "FIGURES" "0123456789", .int "MOST_FIGURES" 60, .str "NOTHING" "-", .cls "Book", .noat "Book" "wheels", .noat "Book" "rules", .glo "HushError", .glo "NoState", .glo "NoText", .glo "_law_bag", .glo "_law_take", .glo "_law_wheels", .glo "_law_condition", .glo "_law_change", .glo "_law_rule", .glo "_law_rules", .glo "_law_drawn", .glo "NoBook", .glo "is_row", .glo "how_many", .glo "is_whole", .glo "is_from", .glo "are_wheels", .glo "are_rising", .glo "is_hush", .glo "are_hushes", .glo "are_rules_numbers", .glo "is_worded", .glo "is_placed", .glo "is_condition", .glo "is_rule", .glo "look_book", .glo "Book", .mkr "Book", .glo "_law_state", .glo "_law_numbers", .glo "_law_state_text", .glo "_law_any", .glo "_law_bent", .glo "figures_in", .glo "numbers_in", .glo "are_values", .glo "is_state", .glo "numbers_text", .glo "state_text", .glo "read_state", .glo "_law_told", .glo "_law_figures", .glo "_law_row_in", .glo "_law_due", .glo "show_state", .glo "law"]
def ex (K : PySem.W.Frag) : Bool := He.tupB K "RULED" ((["hushed", "awake"] : List Str).map He.Dv.str) && (He.tupB K "PLACED" ((["is", "not", "below"] : List Str).map He.Dv.str) && (He.tupB K "CHANGES" ((["put", "turn"] : List Str).map He.Dv.str) && (oexGB K (He.ga K "NoBook") [.type "ValueError", .type "Exception", .type "BaseException", .type "object"] "ValueError.__new__" && (errB K (He.ga K "NoBook") "at" (He.fAd K ("NoBook", some "__init__")) && (ownAtB K (He.ga K "HushError") "__init__" "ValueError.__init__" && (oexGB K (He.ga K "NoText") [.type "ValueError", .type "Exception", .type "BaseException", .type "object"] "ValueError.__new__" && (errB K (He.ga K "NoText") "at" (He.fAd K ("NoText", some "__init__")) && (kitB K (clsL K) (.ref (He.ga K "NoState")) [(4, false), (6, false), (12, true)] && (kitB K (clsL K) (.ref (He.ga K "HushError")) [(4, true), (6, true), (12, true)] && (xfsB K (clsL K) "at" [(4, true), (6, true)] && (exmB K (clsL K) [.ref (He.ga K "NoText")] [(4, false), (6, true), (12, false)] && (liveB K (He.ga K "Book")))))))))))))
/-- THE PLAIN LAW -/
def Plain : Prop := ∀ ns : List Int, ns.length ≤ 63 → ∃ S, f_law [.lst (ns.map W.int)] [] = .ok (.bl true) S
theorem facts (hp : Plain) {P : Program} {w : World} {K : PySem.W.Frag} {h : Heap} {mg : Str → Option Value} {f : Addr} (X : K.In h) (G : h.Ns mainGlobals mg) (hfa : mg ("law" : Str) = some (.ref f)) (c : He.SaysD fa fn K) (hex : ex K = true) :
    ∃ fd : FuncData, (∀ (s : Shared) (v : Value), BindsTo s fd ⟨[v], []⟩ [("_law_script", v)]) ∧ ∀ base : Heap, K.In base → base.Ns mainGlobals mg → FnOk P w K mg base (L2.CX P w) 9 f fd ["_law_script"] (spLaw K) := by
  obtain ⟨e0, r0⟩ := He.ba hex
  obtain ⟨e1, r1⟩ := He.ba r0
  obtain ⟨e2, r2⟩ := He.ba r1
  obtain ⟨e3, r3⟩ := He.ba r2
  obtain ⟨e4, r4⟩ := He.ba r3
  obtain ⟨e5, r5⟩ := He.ba r4
  obtain ⟨e6, r6⟩ := He.ba r5
  obtain ⟨e7, r7⟩ := He.ba r6
  obtain ⟨e8, r8⟩ := He.ba r7
  obtain ⟨e9, r9⟩ := He.ba r8
  obtain ⟨e10, r10⟩ := He.ba r9
  obtain ⟨e11, r11⟩ := He.ba r10
  have e12 := r11
  obtain ⟨fd__law_bag, F__law_bag⟩ := c.def_ 0 (d := d__law_bag) rfl
  obtain ⟨fd__law_take, F__law_take⟩ := c.def_ 1 (d := d__law_take) rfl
  obtain ⟨fd__law_wheels, F__law_wheels⟩ := c.def_ 2 (d := d__law_wheels) rfl
  obtain ⟨fd__law_condition, F__law_condition⟩ := c.def_ 3 (d := d__law_condition) rfl
  obtain ⟨fd__law_change, F__law_change⟩ := c.def_ 4 (d := d__law_change) rfl
  obtain ⟨fd__law_rule, F__law_rule⟩ := c.def_ 5 (d := d__law_rule) rfl
  obtain ⟨fd__law_rules, F__law_rules⟩ := c.def_ 6 (d := d__law_rules) rfl
  obtain ⟨fd__law_drawn, F__law_drawn⟩ := c.def_ 7 (d := d__law_drawn) rfl
  obtain ⟨fd_NoBook___init__, F_NoBook___init__⟩ := c.def_ 8 (d := d_NoBook___init__) rfl
  obtain ⟨fd_is_row, F_is_row⟩ := c.def_ 9 (d := d_is_row) rfl
  obtain ⟨fd_how_many, F_how_many⟩ := c.def_ 10 (d := d_how_many) rfl
  obtain ⟨fd_is_whole, F_is_whole⟩ := c.def_ 11 (d := d_is_whole) rfl
  obtain ⟨fd_is_from, F_is_from⟩ := c.def_ 12 (d := d_is_from) rfl
  obtain ⟨fd_are_wheels, F_are_wheels⟩ := c.def_ 13 (d := d_are_wheels) rfl
  obtain ⟨fd_are_rising, F_are_rising⟩ := c.def_ 14 (d := d_are_rising) rfl
  obtain ⟨fd_is_hush, F_is_hush⟩ := c.def_ 15 (d := d_is_hush) rfl
  obtain ⟨fd_are_hushes, F_are_hushes⟩ := c.def_ 16 (d := d_are_hushes) rfl
  obtain ⟨fd_are_rules_numbers, F_are_rules_numbers⟩ := c.def_ 17 (d := d_are_rules_numbers) rfl
  obtain ⟨fd_is_worded, F_is_worded⟩ := c.def_ 18 (d := d_is_worded) rfl
  obtain ⟨fd_is_placed, F_is_placed⟩ := c.def_ 19 (d := d_is_placed) rfl
  obtain ⟨fd_is_condition, F_is_condition⟩ := c.def_ 20 (d := d_is_condition) rfl
  obtain ⟨fd_is_rule, F_is_rule⟩ := c.def_ 21 (d := d_is_rule) rfl
  obtain ⟨fd_look_book, F_look_book⟩ := c.def_ 22 (d := d_look_book) rfl
  obtain ⟨fd_Book___init__, F_Book___init__⟩ := c.def_ 23 (d := d_Book___init__) rfl
  obtain ⟨fd__law_state, F__law_state⟩ := c.def_ 24 (d := d__law_state) rfl
  obtain ⟨fd__law_numbers, F__law_numbers⟩ := c.def_ 25 (d := d__law_numbers) rfl
  obtain ⟨fd__law_state_text, F__law_state_text⟩ := c.def_ 26 (d := d__law_state_text) rfl
  obtain ⟨fd__law_any, F__law_any⟩ := c.def_ 27 (d := d__law_any) rfl
  obtain ⟨fd__law_bent, F__law_bent⟩ := c.def_ 28 (d := d__law_bent) rfl
  obtain ⟨fd_NoText___init__, F_NoText___init__⟩ := c.def_ 29 (d := d_NoText___init__) rfl
  obtain ⟨fd_figures_in, F_figures_in⟩ := c.def_ 30 (d := d_figures_in) rfl
  obtain ⟨fd_numbers_in, F_numbers_in⟩ := c.def_ 31 (d := d_numbers_in) rfl
  obtain ⟨fd_are_values, F_are_values⟩ := c.def_ 32 (d := d_are_values) rfl
  obtain ⟨fd_is_state, F_is_state⟩ := c.def_ 33 (d := d_is_state) rfl
  obtain ⟨fd_numbers_text, F_numbers_text⟩ := c.def_ 34 (d := d_numbers_text) rfl
  obtain ⟨fd_state_text, F_state_text⟩ := c.def_ 35 (d := d_state_text) rfl
  obtain ⟨fd_read_state, F_read_state⟩ := c.def_ 36 (d := d_read_state) rfl
  obtain ⟨fd__law_told, F__law_told⟩ := c.def_ 37 (d := d__law_told) rfl
  obtain ⟨fd__law_figures, F__law_figures⟩ := c.def_ 38 (d := d__law_figures) rfl
  obtain ⟨fd__law_row_in, F__law_row_in⟩ := c.def_ 39 (d := d__law_row_in) rfl
  obtain ⟨fd__law_due, F__law_due⟩ := c.def_ 40 (d := d__law_due) rfl
  obtain ⟨fd_show_state, F_show_state⟩ := c.def_ 41 (d := d_show_state) rfl
  obtain ⟨fd_law, F_law⟩ := c.def_ 42 (d := d_law) rfl
  have GG : Glo K mg := ⟨He.free_ok X G (c.fact 0 (f := .free "len") rfl), He.free_ok X G (c.fact 1 (f := .free "abs") rfl), He.free_ok X G (c.fact 2 (f := .free "range") rfl), He.free_ok X G (c.fact 3 (f := .free "tuple") rfl), He.free_ok X G (c.fact 4 (f := .free "isinstance") rfl), He.free_ok X G (c.fact 5 (f := .free "bool") rfl), He.free_ok X G (c.fact 6 (f := .free "int") rfl), He.free_ok X G (c.fact 7 (f := .free "all") rfl), He.free_ok X G (c.fact 8 (f := .free "zip") rfl), He.free_ok X G (c.fact 9 (f := .free "str") rfl), He.free_ok X G (c.fact 10 (f := .free "any") rfl), He.free_ok X G (c.fact 11 (f := .free "enumerate") rfl), He.free_ok X G (c.fact 12 (f := .free "min") rfl), He.free_ok X G (c.fact 13 (f := .free "max") rfl), fun _ _ => gloW_int (He.int_ok X G (c.fact 14 (f := .int "MOST_WHEELS" 3) rfl)), fun _ _ => gloW_int (He.int_ok X G (c.fact 15 (f := .int "MOST_BEGINNINGS" 24) rfl)), fun _ _ => gloW_int (He.int_ok X G (c.fact 16 (f := .int "MOST_PLACES" 4) rfl)), fun _ _ => gloW_int (He.int_ok X G (c.fact 17 (f := .int "LEAST_PLACES" 2) rfl)), fun _ _ => gloW_int (He.int_ok X G (c.fact 18 (f := .int "MOST_HUSHED" 3) rfl)), fun _ _ => gloW_strs (xs := ["hushed", "awake"]) (He.glo_ok X G (c.fact 19 (f := .glo "RULED") rfl)) e0, fun _ _ => gloW_strs (xs := ["is", "not", "below"]) (He.glo_ok X G (c.fact 20 (f := .glo "PLACED") rfl)) e1, fun _ _ => gloW_int (He.int_ok X G (c.fact 21 (f := .int "PARTS" 4) rfl)), fun _ _ => gloW_int (He.int_ok X G (c.fact 22 (f := .int "MOST_CONDITIONS" 4) rfl)), fun _ _ => gloW_strs (xs := ["put", "turn"]) (He.glo_ok X G (c.fact 23 (f := .glo "CHANGES") rfl)) e2, fun _ _ => gloW_int (He.int_ok X G (c.fact 24 (f := .int "MOST_CHANGES" 3) rfl)), fun _ _ => gloW_int (He.int_ok X G (c.fact 25 (f := .int "MOST_RULES" 5) rfl)), fun _ _ => gloW_str (He.str_ok X G (c.fact 26 (f := .str "FIGURES" "0123456789") rfl)), fun _ _ => gloW_int (He.int_ok X G (c.fact 27 (f := .int "MOST_FIGURES" 60) rfl)), fun _ _ => gloW_str (He.str_ok X G (c.fact 28 (f := .str "NOTHING" "-") rfl)), He.cls_ok (c.fact 29 (f := .cls "Book") rfl), He.noat_ok (c.fact 30 (f := .noat "Book" "wheels") rfl), He.noat_ok (c.fact 31 (f := .noat "Book" "rules") rfl), He.glo_ok X G (c.fact 32 (f := .glo "HushError") rfl), He.glo_ok X G (c.fact 33 (f := .glo "NoState") rfl), He.glo_ok X G (c.fact 34 (f := .glo "NoText") rfl), e3, e4, e5, e6, e7, e8, e9, e10, e11, e12⟩
  have e := hfa.symm.trans (He.glo_ok X G (c.fact 77 (f := .glo "law") rfl))
  cases e
  have b := FunD.bindsA (ps := ["_law_script"]) F_law fun _ _ _ _ _ _ us hl => match us, hl with | [_], _ => rfl
  refine ⟨fd_law, fun s v => b s [v] rfl, fun base _ _ => ?_⟩
  have o__law_bag := ok__law_bag (P := P) (w := w) (base := base) GG  F__law_bag
  have h__law_bag : CallF (tab P w K) P w K mg base 1 "_law_bag" f__law_bag := callF_mk F__law_bag (He.glo_ok X G (c.fact 35 (f := .glo "_law_bag") rfl)) o__law_bag (fnW_takes _ _ _) (F__law_bag.bindsN (ps := ["_law_script", "_law_at"]) (fun _ _ _ _ _ _ us hl => match us, hl with | [_, _], _ => rfl))
  have o__law_take := ok__law_take (P := P) (w := w) (base := base) GG  F__law_take
  have h__law_take : CallF (tab P w K) P w K mg base 1 "_law_take" f__law_take := callF_mk F__law_take (He.glo_ok X G (c.fact 36 (f := .glo "_law_take") rfl)) o__law_take (fnW_takes _ _ _) (F__law_take.bindsN (ps := ["_law_bag_here", "_law_many"]) (fun _ _ _ _ _ _ us hl => match us, hl with | [_, _], _ => rfl))
  have o__law_wheels := ok__law_wheels (P := P) (w := w) (base := base) GG h__law_take F__law_wheels
  have h__law_wheels : CallF (tab P w K) P w K mg base 2 "_law_wheels" f__law_wheels := callF_mk F__law_wheels (He.glo_ok X G (c.fact 37 (f := .glo "_law_wheels") rfl)) o__law_wheels (fnW_takes _ _ _) (F__law_wheels.bindsN (ps := ["_law_bag_here"]) (fun _ _ _ _ _ _ us hl => match us, hl with | [_], _ => rfl))
  have o__law_condition := ok__law_condition (P := P) (w := w) (base := base) GG h__law_take F__law_condition
  have h__law_condition : CallF (tab P w K) P w K mg base 2 "_law_condition" f__law_condition := callF_mk F__law_condition (He.glo_ok X G (c.fact 38 (f := .glo "_law_condition") rfl)) o__law_condition (fnW_takes _ _ _) (F__law_condition.bindsN (ps := ["_law_bag_here", "_law_wheels_here", "_law_many"]) (fun _ _ _ _ _ _ us hl => match us, hl with | [_, _, _], _ => rfl))
  have o__law_change := ok__law_change (P := P) (w := w) (base := base) GG h__law_take F__law_change
  have h__law_change : CallF (tab P w K) P w K mg base 2 "_law_change" f__law_change := callF_mk F__law_change (He.glo_ok X G (c.fact 39 (f := .glo "_law_change") rfl)) o__law_change (fnW_takes _ _ _) (F__law_change.bindsN (ps := ["_law_bag_here", "_law_wheels_here"]) (fun _ _ _ _ _ _ us hl => match us, hl with | [_, _], _ => rfl))
  have o__law_rule := ok__law_rule (P := P) (w := w) (base := base) GG h__law_take h__law_condition h__law_change F__law_rule
  have h__law_rule : CallF (tab P w K) P w K mg base 3 "_law_rule" f__law_rule := callF_mk F__law_rule (He.glo_ok X G (c.fact 40 (f := .glo "_law_rule") rfl)) o__law_rule (fnW_takes _ _ _) (F__law_rule.bindsN (ps := ["_law_bag_here", "_law_wheels_here", "_law_many"]) (fun _ _ _ _ _ _ us hl => match us, hl with | [_, _, _], _ => rfl))
  have o__law_rules := ok__law_rules (P := P) (w := w) (base := base) GG h__law_rule F__law_rules
  have h__law_rules : CallF (tab P w K) P w K mg base 4 "_law_rules" f__law_rules := callF_mk F__law_rules (He.glo_ok X G (c.fact 41 (f := .glo "_law_rules") rfl)) o__law_rules (fnW_takes _ _ _) (F__law_rules.bindsN (ps := ["_law_bag_here", "_law_wheels_here", "_law_many"]) (fun _ _ _ _ _ _ us hl => match us, hl with | [_, _, _], _ => rfl))
  have o__law_drawn := ok__law_drawn (P := P) (w := w) (base := base) GG h__law_wheels h__law_rules h__law_take F__law_drawn
  have h__law_drawn : CallF (tab P w K) P w K mg base 5 "_law_drawn" f__law_drawn := callF_mk F__law_drawn (He.glo_ok X G (c.fact 42 (f := .glo "_law_drawn") rfl)) o__law_drawn (fnW_takes _ _ _) (F__law_drawn.bindsN (ps := ["_law_bag_here"]) (fun _ _ _ _ _ _ us hl => match us, hl with | [_], _ => rfl))
  have h_err_NoBook : ErrF P w K mg base "NoBook" (He.ga K "NoBook") "at" := errF_mk PySem.GX.base_Value GG.t_0 GG.t_1 (He.glo_ok X G (c.fact 43 (f := .glo "NoBook") rfl)) (ok_NoBook___init__ (P := P) (w := w) (base := base) GG F_NoBook___init__) (F_NoBook___init__.bindsN (ps := ["self", "at"]) (fun _ _ _ _ _ _ us hl => match us, hl with | [_, _], _ => rfl))
  have o_is_row := ok_is_row (P := P) (w := w) (base := base) GG  F_is_row
  have h_is_row : CallF (tab P w K) P w K mg base 1 "is_row" f_is_row := callF_mk F_is_row (He.glo_ok X G (c.fact 44 (f := .glo "is_row") rfl)) o_is_row (fnW_takes _ _ _) (F_is_row.bindsN (ps := ["thing", "most"]) (fun _ _ _ _ _ _ us hl => match us, hl with | [_, _], _ => rfl))
  have o_how_many := ok_how_many (P := P) (w := w) (base := base) GG  F_how_many
  have h_how_many : CallF (tab P w K) P w K mg base 1 "how_many" f_how_many := callF_mk F_how_many (He.glo_ok X G (c.fact 45 (f := .glo "how_many") rfl)) o_how_many (fnW_takes _ _ _) (F_how_many.bindsN (ps := ["wheels"]) (fun _ _ _ _ _ _ us hl => match us, hl with | [_], _ => rfl))
  have o_is_whole := ok_is_whole (P := P) (w := w) (base := base) GG  F_is_whole
  have h_is_whole : CallF (tab P w K) P w K mg base 1 "is_whole" f_is_whole := callF_mk F_is_whole (He.glo_ok X G (c.fact 46 (f := .glo "is_whole") rfl)) o_is_whole (fnW_takes _ _ _) (F_is_whole.bindsN (ps := ["thing"]) (fun _ _ _ _ _ _ us hl => match us, hl with | [_], _ => rfl))
  have o_is_from := ok_is_from (P := P) (w := w) (base := base) GG h_is_whole F_is_from
  have h_is_from : CallF (tab P w K) P w K mg base 2 "is_from" f_is_from := callF_mk F_is_from (He.glo_ok X G (c.fact 47 (f := .glo "is_from") rfl)) o_is_from (fnW_takes _ _ _) (F_is_from.bindsN (ps := ["thing", "least", "below"]) (fun _ _ _ _ _ _ us hl => match us, hl with | [_, _, _], _ => rfl))
  have o_are_wheels := ok_are_wheels (P := P) (w := w) (base := base) GG h_is_row h_how_many h_is_from F_are_wheels
  have h_are_wheels : CallF (tab P w K) P w K mg base 3 "are_wheels" f_are_wheels := callF_mk F_are_wheels (He.glo_ok X G (c.fact 48 (f := .glo "are_wheels") rfl)) o_are_wheels (fnW_takes _ _ _) (F_are_wheels.bindsN (ps := ["thing"]) (fun _ _ _ _ _ _ us hl => match us, hl with | [_], _ => rfl))
  have o_are_rising := ok_are_rising (P := P) (w := w) (base := base) GG  F_are_rising
  have h_are_rising : CallF (tab P w K) P w K mg base 1 "are_rising" f_are_rising := callF_mk F_are_rising (He.glo_ok X G (c.fact 49 (f := .glo "are_rising") rfl)) o_are_rising (fnW_takes _ _ _) (F_are_rising.bindsN (ps := ["numbers"]) (fun _ _ _ _ _ _ us hl => match us, hl with | [_], _ => rfl))
  have o_is_hush := ok_is_hush (P := P) (w := w) (base := base) GG h_is_from F_is_hush
  have h_is_hush : CallF (tab P w K) P w K mg base 3 "is_hush" f_is_hush := callF_mk F_is_hush (He.glo_ok X G (c.fact 50 (f := .glo "is_hush") rfl)) o_is_hush (fnW_takes _ _ _) (F_is_hush.bindsN (ps := ["many", "thing"]) (fun _ _ _ _ _ _ us hl => match us, hl with | [_, _], _ => rfl))
  have o_are_hushes := ok_are_hushes (P := P) (w := w) (base := base) GG h_is_hush h_are_rising F_are_hushes
  have h_are_hushes : CallF (tab P w K) P w K mg base 4 "are_hushes" f_are_hushes := callF_mk F_are_hushes (He.glo_ok X G (c.fact 51 (f := .glo "are_hushes") rfl)) o_are_hushes (fnW_takes _ _ _) (F_are_hushes.bindsN (ps := ["many", "thing"]) (fun _ _ _ _ _ _ us hl => match us, hl with | [_, _], _ => rfl))
  have o_are_rules_numbers := ok_are_rules_numbers (P := P) (w := w) (base := base) GG h_are_rising h_is_from F_are_rules_numbers
  have h_are_rules_numbers : CallF (tab P w K) P w K mg base 3 "are_rules_numbers" f_are_rules_numbers := callF_mk F_are_rules_numbers (He.glo_ok X G (c.fact 52 (f := .glo "are_rules_numbers") rfl)) o_are_rules_numbers (fnW_takes _ _ _) (F_are_rules_numbers.bindsN (ps := ["thing", "many"]) (fun _ _ _ _ _ _ us hl => match us, hl with | [_, _], _ => rfl))
  have o_is_worded := ok_is_worded (P := P) (w := w) (base := base) GG  F_is_worded
  have h_is_worded : CallF (tab P w K) P w K mg base 1 "is_worded" f_is_worded := callF_mk F_is_worded (He.glo_ok X G (c.fact 53 (f := .glo "is_worded") rfl)) o_is_worded (fnW_takes _ _ _) (F_is_worded.bindsN (ps := ["thing", "words", "many"]) (fun _ _ _ _ _ _ us hl => match us, hl with | [_, _, _], _ => rfl))
  have o_is_placed := ok_is_placed (P := P) (w := w) (base := base) GG h_is_worded h_is_from F_is_placed
  have h_is_placed : CallF (tab P w K) P w K mg base 3 "is_placed" f_is_placed := callF_mk F_is_placed (He.glo_ok X G (c.fact 54 (f := .glo "is_placed") rfl)) o_is_placed (fnW_takes _ _ _) (F_is_placed.bindsN (ps := ["wheels", "thing", "words"]) (fun _ _ _ _ _ _ us hl => match us, hl with | [_, _, _], _ => rfl))
  have o_is_condition := ok_is_condition (P := P) (w := w) (base := base) GG h_is_worded h_is_from h_is_placed F_is_condition
  have h_is_condition : CallF (tab P w K) P w K mg base 4 "is_condition" f_is_condition := callF_mk F_is_condition (He.glo_ok X G (c.fact 55 (f := .glo "is_condition") rfl)) o_is_condition (fnW_takes _ _ _) (F_is_condition.bindsN (ps := ["wheels", "many", "thing"]) (fun _ _ _ _ _ _ us hl => match us, hl with | [_, _, _], _ => rfl))
  have o_is_rule := ok_is_rule (P := P) (w := w) (base := base) GG h_is_condition h_is_row h_is_placed h_are_rules_numbers h_are_hushes F_is_rule
  have h_is_rule : CallF (tab P w K) P w K mg base 5 "is_rule" f_is_rule := callF_mk F_is_rule (He.glo_ok X G (c.fact 56 (f := .glo "is_rule") rfl)) o_is_rule (fnW_takes _ _ _) (F_is_rule.bindsN (ps := ["wheels", "many", "thing"]) (fun _ _ _ _ _ _ us hl => match us, hl with | [_, _, _], _ => rfl))
  have o_look_book := ok_look_book (P := P) (w := w) (base := base) GG h_is_row h_are_wheels h_err_NoBook h_is_rule F_look_book
  have h_look_book : CallF (tab P w K) P w K mg base 6 "look_book" f_look_book := callF_mk F_look_book (He.glo_ok X G (c.fact 57 (f := .glo "look_book") rfl)) o_look_book (fnW_takes _ _ _) (F_look_book.bindsN (ps := ["wheels", "rules"]) (fun _ _ _ _ _ _ us hl => match us, hl with | [_, _], _ => rfl))
  have o_Book___init__ := ok_Book___init__ (P := P) (w := w) (base := base) GG h_look_book F_Book___init__
  have h_new_Book : MakeF (tab P w K) P w K mg base 7 "Book" 0 f_Book___init__ := makeF_mk (He.glo_ok X G (c.fact 58 (f := .glo "Book") rfl)) (He.mkr_ok (c.fact 59 (f := .mkr "Book") rfl)) o_Book___init__ (fnW_takes _ _ _) (binds_full (pn := ["self", "wheels", "rules"]) F_Book___init__ 3 (by simp [He.DefD.dvs, d_Book___init__]) rfl (fun _ _ _ _ _ _ _ us its hl hi => match us, hl, its, hi with | [_, _, _], _, [_], _ => ⟨_, rfl, rfl⟩))
  have o__law_state := ok__law_state (P := P) (w := w) (base := base) GG h__law_take F__law_state
  have h__law_state : CallF (tab P w K) P w K mg base 2 "_law_state" f__law_state := callF_mk F__law_state (He.glo_ok X G (c.fact 60 (f := .glo "_law_state") rfl)) o__law_state (fnW_takes _ _ _) (F__law_state.bindsN (ps := ["_law_bag_here", "_law_wheels_here", "_law_many"]) (fun _ _ _ _ _ _ us hl => match us, hl with | [_, _, _], _ => rfl))
  have o__law_numbers := ok__law_numbers (P := P) (w := w) (base := base) GG  F__law_numbers
  have h__law_numbers : CallF (tab P w K) P w K mg base 1 "_law_numbers" f__law_numbers := callF_mk F__law_numbers (He.glo_ok X G (c.fact 61 (f := .glo "_law_numbers") rfl)) o__law_numbers (fnW_takes _ _ _) (F__law_numbers.bindsN (ps := ["_law_row"]) (fun _ _ _ _ _ _ us hl => match us, hl with | [_], _ => rfl))
  have o__law_state_text := ok__law_state_text (P := P) (w := w) (base := base) GG h__law_numbers F__law_state_text
  have h__law_state_text : CallF (tab P w K) P w K mg base 2 "_law_state_text" f__law_state_text := callF_mk F__law_state_text (He.glo_ok X G (c.fact 62 (f := .glo "_law_state_text") rfl)) o__law_state_text (fnW_takes _ _ _) (F__law_state_text.bindsN (ps := ["_law_state_here"]) (fun _ _ _ _ _ _ us hl => match us, hl with | [_], _ => rfl))
  have o__law_any := ok__law_any (P := P) (w := w) (base := base) GG h__law_take F__law_any
  have h__law_any : CallF (tab P w K) P w K mg base 2 "_law_any" f__law_any := callF_mk F__law_any (He.glo_ok X G (c.fact 63 (f := .glo "_law_any") rfl)) o__law_any (fnW_takes _ _ _) (F__law_any.bindsN (ps := ["_law_bag_here"]) (fun _ _ _ _ _ _ us hl => match us, hl with | [_], _ => rfl))
  have o__law_bent := ok__law_bent (P := P) (w := w) (base := base) GG h__law_take F__law_bent
  have h__law_bent : CallF (tab P w K) P w K mg base 2 "_law_bent" f__law_bent := callF_mk F__law_bent (He.glo_ok X G (c.fact 64 (f := .glo "_law_bent") rfl)) o__law_bent (fnW_takes _ _ _) (F__law_bent.bindsN (ps := ["_law_bag_here", "_law_text"]) (fun _ _ _ _ _ _ us hl => match us, hl with | [_, _], _ => rfl))
  have h_err_NoText : ErrF P w K mg base "NoText" (He.ga K "NoText") "at" := errF_mk PySem.GX.base_Value GG.t_3 GG.t_4 (He.glo_ok X G (c.fact 34 (f := .glo "NoText") rfl)) (ok_NoText___init__ (P := P) (w := w) (base := base) GG F_NoText___init__) (F_NoText___init__.bindsN (ps := ["self", "at"]) (fun _ _ _ _ _ _ us hl => match us, hl with | [_, _], _ => rfl))
  have o_figures_in := ok_figures_in (P := P) (w := w) (base := base) GG  F_figures_in
  have h_figures_in : CallF (tab P w K) P w K mg base 1 "figures_in" f_figures_in := callF_mk F_figures_in (He.glo_ok X G (c.fact 65 (f := .glo "figures_in") rfl)) o_figures_in (fnW_takes _ _ _) (F_figures_in.bindsN (ps := ["word"]) (fun _ _ _ _ _ _ us hl => match us, hl with | [_], _ => rfl))
  have o_numbers_in := ok_numbers_in (P := P) (w := w) (base := base) GG h_figures_in F_numbers_in
  have h_numbers_in : CallF (tab P w K) P w K mg base 2 "numbers_in" f_numbers_in := callF_mk F_numbers_in (He.glo_ok X G (c.fact 66 (f := .glo "numbers_in") rfl)) o_numbers_in (fnW_takes _ _ _) (F_numbers_in.bindsN (ps := ["words"]) (fun _ _ _ _ _ _ us hl => match us, hl with | [_], _ => rfl))
  have o_are_values := ok_are_values (P := P) (w := w) (base := base) GG h_is_from F_are_values
  have h_are_values : CallF (tab P w K) P w K mg base 3 "are_values" f_are_values := callF_mk F_are_values (He.glo_ok X G (c.fact 67 (f := .glo "are_values") rfl)) o_are_values (fnW_takes _ _ _) (F_are_values.bindsN (ps := ["book", "thing"]) (fun _ _ _ _ _ _ us hl => match us, hl with | [_, _], _ => rfl))
  have o_is_state := ok_is_state (P := P) (w := w) (base := base) GG h_are_values h_is_from F_is_state
  have h_is_state : CallF (tab P w K) P w K mg base 4 "is_state" f_is_state := callF_mk F_is_state (He.glo_ok X G (c.fact 68 (f := .glo "is_state") rfl)) o_is_state (fnW_takes _ _ _) (F_is_state.bindsN (ps := ["book", "thing"]) (fun _ _ _ _ _ _ us hl => match us, hl with | [_, _], _ => rfl))
  have o_numbers_text := ok_numbers_text (P := P) (w := w) (base := base) GG  F_numbers_text
  have h_numbers_text : CallF (tab P w K) P w K mg base 1 "numbers_text" f_numbers_text := callF_mk F_numbers_text (He.glo_ok X G (c.fact 69 (f := .glo "numbers_text") rfl)) o_numbers_text (fnW_takes _ _ _) (F_numbers_text.bindsN (ps := ["numbers"]) (fun _ _ _ _ _ _ us hl => match us, hl with | [_], _ => rfl))
  have o_state_text := ok_state_text (P := P) (w := w) (base := base) GG h_numbers_text F_state_text
  have h_state_text : CallF (tab P w K) P w K mg base 2 "state_text" f_state_text := callF_mk F_state_text (He.glo_ok X G (c.fact 70 (f := .glo "state_text") rfl)) o_state_text (fnW_takes _ _ _) (F_state_text.bindsN (ps := ["state"]) (fun _ _ _ _ _ _ us hl => match us, hl with | [_], _ => rfl))
  have o_read_state := ok_read_state (P := P) (w := w) (base := base) GG h_err_NoText h_numbers_in h_state_text h_is_state F_read_state
  have h_read_state : CallF (tab P w K) P w K mg base 5 "read_state" f_read_state := callF_mk F_read_state (He.glo_ok X G (c.fact 71 (f := .glo "read_state") rfl)) o_read_state (fnW_takes _ _ _) (F_read_state.bindsN (ps := ["book", "text"]) (fun _ _ _ _ _ _ us hl => match us, hl with | [_, _], _ => rfl))
  have o__law_told := ok__law_told (P := P) (w := w) (base := base) GG h_read_state F__law_told
  have h__law_told : CallF (tab P w K) P w K mg base 6 "_law_told" f__law_told := callF_mk F__law_told (He.glo_ok X G (c.fact 72 (f := .glo "_law_told") rfl)) o__law_told (fnW_takes _ _ _) (F__law_told.bindsN (ps := ["_law_book", "_law_text"]) (fun _ _ _ _ _ _ us hl => match us, hl with | [_, _], _ => rfl))
  have o__law_figures := ok__law_figures (P := P) (w := w) (base := base) GG  F__law_figures
  have h__law_figures : CallF (tab P w K) P w K mg base 1 "_law_figures" f__law_figures := callF_mk F__law_figures (He.glo_ok X G (c.fact 73 (f := .glo "_law_figures") rfl)) o__law_figures (fnW_takes _ _ _) (F__law_figures.bindsN (ps := ["_law_word"]) (fun _ _ _ _ _ _ us hl => match us, hl with | [_], _ => rfl))
  have o__law_row_in := ok__law_row_in (P := P) (w := w) (base := base) GG h__law_figures F__law_row_in
  have h__law_row_in : CallF (tab P w K) P w K mg base 2 "_law_row_in" f__law_row_in := callF_mk F__law_row_in (He.glo_ok X G (c.fact 74 (f := .glo "_law_row_in") rfl)) o__law_row_in (fnW_takes _ _ _) (F__law_row_in.bindsN (ps := ["_law_text"]) (fun _ _ _ _ _ _ us hl => match us, hl with | [_], _ => rfl))
  have o__law_due := ok__law_due (P := P) (w := w) (base := base) GG h__law_row_in F__law_due
  have h__law_due : CallF (tab P w K) P w K mg base 3 "_law_due" f__law_due := callF_mk F__law_due (He.glo_ok X G (c.fact 75 (f := .glo "_law_due") rfl)) o__law_due (fnW_takes _ _ _) (F__law_due.bindsN (ps := ["_law_wheels_here", "_law_many", "_law_text"]) (fun _ _ _ _ _ _ us hl => match us, hl with | [_, _, _], _ => rfl))
  have o_show_state := ok_show_state (P := P) (w := w) (base := base) GG h_state_text F_show_state
  have h_show_state : CallF (tab P w K) P w K mg base 3 "show_state" f_show_state := callF_mk F_show_state (He.glo_ok X G (c.fact 76 (f := .glo "show_state") rfl)) o_show_state (fnW_takes _ _ _) (F_show_state.bindsN (ps := ["state"]) (fun _ _ _ _ _ _ us hl => match us, hl with | [_], _ => rfl))
  have o_law := ok_law (P := P) (w := w) (base := base) GG h__law_bag h__law_drawn h_new_Book h__law_state h__law_state_text h__law_told h_show_state h__law_take h__law_bent h__law_due h__law_any F_law
  exact law_end o_law hp
def loose0 : List Str := ["__name__", "HushError", "NoBook", "NoState", "NoText", "NOTHING", "part_text", "words_of", "rule_text", "book_text", "numbers_text", "state_text", "MOST_WHEELS", "LEAST_PLACES", "MOST_PLACES", "MOST_BEGINNINGS", "MOST_RULES", "MOST_CONDITIONS", "MOST_CHANGES", "MOST_HUSHED", "PARTS", "PLACED", "RULED", "CHANGES", "is_whole", "is_from", "is_row", "are_rising", "how_many", "are_wheels"]
def loose1 : List Str := ["is_worded", "is_placed", "is_condition", "are_rules_numbers", "is_hush", "are_hushes", "is_rule", "look_book", "Book", "are_values", "is_state", "MOST_FIGURES", "FIGURES", "show_state", "figures_in", "numbers_in", "read_state", "_law_bag", "_law_take", "_law_wheels", "_law_condition", "_law_change", "_law_rule", "_law_rules", "_law_drawn", "_law_state", "_law_any", "_law_numbers", "_law_state_text", "_law_figures"]
def loose2 : List Str := ["_law_row_in", "_law_due", "_law_told", "_law_bent"]
def loose : List Str := loose0 ++ loose1 ++ loose2
def ads : List Addr := [2, 3, 6, 4, 24, 44, 56, 75, 84, 89, 94, 99, 104, 111, 112, 113, 114, 121, 128, 135, 140, 147, 152, 159, 166, 173, 178, 185, 190, 195, 202, 249, 258, 263, 270, 275, 280, 285, 292, 299, 306, 313, 320, 325, 330, 337, 342, 349, 354, 361, 366, 371, 376, 383, 390, 397, 0, 23, 43, 55, 74, 83, 88, 93, 98, 103, 110, 120, 127, 134, 139, 146, 151, 158, 165, 172, 177, 184, 189, 194, 201, 248, 257, 262, 269, 274, 279, 284, 291, 298, 305, 312, 319, 324, 329, 336, 341, 348, 353, 360, 365, 370, 375, 382, 389, 396, 22, 25, 41, 42, 54, 72, 73, 78, 79, 80, 81, 82, 85, 86, 87, 90, 91, 92, 95, 96, 97, 100, 101, 102, 105, 106, 107, 108, 109, 115, 116, 117, 118, 119, 122, 123, 124, 125, 126, 129, 130, 131, 132, 133, 136, 137, 138, 141, 142, 143, 144, 145, 148, 149, 150, 153, 154, 155, 156, 157, 160, 161, 162, 163, 164, 167, 168, 169, 170, 171, 174, 175, 176, 179, 180, 181, 182, 183, 186, 187, 188, 191, 192, 193, 196, 197, 198, 199, 200, 218, 225, 232, 239, 246, 247, 250, 251, 254, 255, 256, 259, 260, 261, 264, 265, 266, 267, 268, 271, 272, 273, 276, 277, 278, 281, 282, 283, 286, 287, 288, 289, 290, 293, 294, 295, 296, 297, 300, 301, 302, 303, 304, 307, 308, 309, 310, 311, 314, 315, 316, 317, 318, 321, 322, 323, 326, 327, 328, 331, 332, 333, 334, 335, 338, 339, 340, 343, 344, 345, 346, 347, 350, 351, 352, 355, 356, 357, 358, 359, 362, 363, 364, 367, 368, 369, 372, 373, 374, 377, 378, 379, 380, 381, 384, 385, 386, 387, 388, 391, 392, 393, 394, 395, 40, 71, 217, 211, 224, 231, 238, 245, 35, 36, 37, 38, 39, 66, 67, 68, 69, 70, 212, 213, 214, 215, 216, 210, 219, 220, 221, 222, 223, 226, 227, 228, 229, 230, 233, 234, 235, 236, 237, 240, 241, 242, 243, 244]
abbrev Ro : PySem.W.OpenRow := PySem.W.OpenLaw.row PySem.Challenge.rw_hushrules_k77_states_nearly
abbrev hk : PySem.W.Hook := hookL ads fa fn ex
def ob (s : PySem.W.SharedT) : He.AlD × Bool := obsL ads fa fn ex (HandSHeadRun.getT s)
theorem ob_eq (s : PySem.W.SharedT) : ob s = hk.obs s.abs := obsL_eq (HandSHeadRun.getT_eq s)
open PySem.W PySem.Calls PyProof.Rows HandSHeadRun in
theorem run_a (w : World) (os : OsState) : (endF (stepQ (denQ tabQ) Ro.prog w) 9000 Ro.prog w os).map (fun s => looksF Ro.prog (boot_heap w.params) s.abs) = some true := by kernel_rfl
open PySem.W PySem.Calls PyProof.Rows HandSHeadRun in
theorem run_b (w : World) (os : OsState) : (endF (stepQ (denQ tabQ) Ro.prog w) 9000 Ro.prog w os).map (fun s => seenQ (view Ro.prog [68]) loose (importedModules Ro.prog.main.body) (fun s => xlAt (view Ro.prog [68]) [] s && recOk Ro.toRowW.records s) s.abs) = some (openGood (view Ro.prog [68]) loose) := by kernel_rfl
open PySem.W PySem.Calls PyProof.Rows HandSHeadRun in
theorem run_c (w : World) (os : OsState) : (endF (stepQ (denQ tabQ) Ro.prog w) 9000 Ro.prog w os).map ob = some (hk.val w) := by kernel_rfl
theorem map3 {α β γ δ : Type} {R : Option α} {f : α → β} {g : α → γ} {h : α → δ} {a : β} {b : γ} {c : δ} (h1 : R.map f = some a) (h2 : R.map g = some b) (h3 : R.map h = some c) : R.map (fun s => (f s, g s, h s)) = some (a, b, c) := by
  cases R with
  | none => cases h1
  | some s =>
    have e1 : f s = a := Option.some.inj h1
    have e2 : g s = b := Option.some.inj h2
    have e3 : h s = c := Option.some.inj h3
    rw [← e1, ← e2, ← e3]; rfl
theorem run (w : World) : HandSHeadRun.RunEq Ro (PySem.W.view Ro.prog [68]) hk ob 9000 loose w := by
  intro os
  have a := run_a w os
  have b := run_b w os
  have c := run_c w os
  exact map3 a b c
end K77
open PySem PySem.W PySem.Calls PyProof.Rows in
theorem PySem.Challenge.held_hushrules_k77_states_nearly (hp : K77.Plain) : PySem.Challenge.rw_hushrules_k77_states_nearly.Holds := by
  w_on; o_law
  refine HandSHeadRun.head_any (r := OpenLaw.row PySem.Challenge.rw_hushrules_k77_states_nearly) (q := view (OpenLaw.row PySem.Challenge.rw_hushrules_k77_states_nearly).prog [68]) (H := K77.hk) (ob := K77.ob) (M := 9000) (loose := K77.loose) (d := HandSHeadRun.topDef (OpenLaw.row PySem.Challenge.rw_hushrules_k77_states_nearly).prog 68) (kwd := []) K77.ob_eq
    (by kernel_rfl) (fun s => by kernel_rfl) K77.run (by kernel_rfl) (by kernel_rfl) (by kernel_rfl) (by rfl) (by first | assumption | decide +kernel) (by decide +kernel) ⟨rfl, rfl, rfl, rfl, rfl, by decide +kernel⟩ ?hw ?hc
  case hw => w_witness2
  case hc =>
    refine DL.walk_end (l := PySem.Challenge.rw_hushrules_k77_states_nearly) (n := 63) (k := 9) (x := "_law_script") (CX := L2.CX (PySem.Challenge.rw_hushrules_k77_states_nearly).prog) rfl (by decide) (by kernel_rfl) ⟨rfl, by decide, by decide⟩ ?F (fun w => DL.noX)
    intro w mg fa h Y G hmg0
    obtain ⟨K, KX, c, hex⟩ := Y
    have hmg : mg ("law" : PySem.Str) = some (.ref fa) := by
      have e : (HandSHeadRun.topDef (OpenLaw.row PySem.Challenge.rw_hushrules_k77_states_nearly).prog 68).name = ("law" : PySem.Str) := by kernel_rfl
      rw [← e]
      exact hmg0
    obtain ⟨fd, hb, hF⟩ := K77.facts hp (P := (PySem.Challenge.rw_hushrules_k77_states_nearly).prog) (w := w) KX G hmg c hex
    exact ⟨K, fd, DL.spLaw K, KX, hb, fun H a ns hl _ hS => ⟨a, ns, rfl, hS, hl, fun _ => rfl⟩, hF⟩
set_option Elab.async false
set_option linter.all false
set_option maxRecDepth 100000
set_option maxHeartbeats 4000000
/-! S0: the data functions' pieces, opened step by step. -/
namespace DL
open PySem
section
variable (ρ : Env) (S : Sto) (a b c l h : Me) (ms : Ml) (p q r : Mb) (s t u : Ms) (w : W) (x y z : W)
@[simp] theorem o_var (i : Nat) : mVar i ρ S = match ρ[i]? with
  | some (some w) => .ok w S
  | _ => .bad := (rfl)
@[simp] theorem o_con : mCon w ρ S = .ok w S := (rfl)
@[simp] theorem o_nil : mNil ρ S = .ok [] S := (rfl)
@[simp] theorem o_cons : mCons a ms ρ S = (a ρ S).bindL fun w S => (ms ρ S).bindL fun ws S => .ok (w :: ws) S := (rfl)
@[simp] theorem o_tup : mTup ms ρ S = (ms ρ S).bind fun ws S => if ws.length ≤ limit then .ok (.tup ws) S else .bad := (rfl)
@[simp] theorem o_lst : mLst ms ρ S = (ms ρ S).bind fun ws S => if ws.length ≤ limit then .ok (.lst ws) S else .bad := (rfl)
@[simp] theorem o_nlst : mNLst ms ρ S = (ms ρ S).bind fun ws S => if ws.length ≤ limit then .ok (.loc S.length) (S ++ [.lst ws]) else .bad := (rfl)
@[simp] theorem o_bin (o : Operator) : mBin o a b ρ S = (a ρ S).bind fun x S => (b ρ S).bind fun y S => optR S (binop o (deref S x) (deref S y)) := (rfl)
@[simp] theorem o_neg : mNeg a ρ S = (a ρ S).bind fun x S => optR S (negW x) := (rfl)
@[simp] theorem o_not : mNot a ρ S = (a ρ S).bind fun x S => optR S ((truthy (deref S x)).map fun k => .bl (!k)) := (rfl)
@[simp] theorem o_and : mAnd a b ρ S = (a ρ S).bind fun x S => match truthy (deref S x) with
  | some true => b ρ S
  | some false => .ok x S
  | none => .bad := (rfl)
@[simp] theorem o_or : mOr a b ρ S = (a ρ S).bind fun x S => match truthy (deref S x) with
  | some true => .ok x S
  | some false => b ρ S
  | none => .bad := (rfl)
@[simp] theorem o_cmp (o : CmpOp) : mCmp o a b ρ S = (a ρ S).bind fun x S => (b ρ S).bind fun y S => optR S ((cmpop o (deref S x) (deref S y)).map .bl) := (rfl)
@[simp] theorem o_chain (o o' : CmpOp) : mChain o o' a b c ρ S = (a ρ S).bind fun x S => (b ρ S).bind fun y S => match cmpop o (deref S x) (deref S y) with
  | some true => (c ρ S).bind fun z S => optR S ((cmpop o' (deref S y) (deref S z)).map .bl)
  | some false => .ok (.bl false) S
  | none => .bad := (rfl)
@[simp] theorem o_idx : mIdx a b ρ S = (a ρ S).bind fun x S => (b ρ S).bind fun y S => optR S (getIx (deref S x) y) := (rfl)
@[simp] theorem o_part : mPart a ρ S = (a ρ S).bind fun x S => match x with
  | .int i => .ok (.int i) S
  | _ => .bad := (rfl)
@[simp] theorem o_slc : mSlc a l h ρ S = (a ρ S).bind fun x S => (l ρ S).bind fun l S => match partW l with
  | none => .bad
  | some l => (h ρ S).bind fun h S => match partW h with
    | none => .bad
    | some u => optR S (getSl (deref S x) l u) := (rfl)
@[simp] theorem o_fld (k f : Nat) : mFld k f a ρ S = (a ρ S).bind fun x S => optR S (getFld S k f x) := (rfl)
@[simp] theorem o_prim (p : Prim) : mPrim p ms ρ S = (ms ρ S).bind fun ws S => optR S (DL.prim p (ws.map (deref S))) := (rfl)
@[simp] theorem o_nlist : mNlist a ρ S = (a ρ S).bind fun x S => match items (deref S x) with
  | some ws => .ok (.loc S.length) (S ++ [.lst ws])
  | none => .bad := (rfl)
@[simp] theorem o_isi (t : Ty) : mIsi t a ρ S = (a ρ S).bind fun x S => optR S ((isTy t (deref S x)).map .bl) := (rfl)
@[simp] theorem o_frz : mFrz a ρ S = (a ρ S).bind freezeR := (rfl)
@[simp] theorem o_app : mApp a b ρ S = (a ρ S).bind fun x S => if isCell S x then (b ρ S).bind fun y S => appR x y S else .bad := (rfl)
@[simp] theorem o_ifx : mIfx p a b ρ S = (p ρ S).bind fun k S => if k then a ρ S else b ρ S := (rfl)
@[simp] theorem o_yes : bYes ρ S = .ok true S := (rfl)
@[simp] theorem o_btest : bTest a ρ S = (a ρ S).bindB truthyR := (rfl)
@[simp] theorem o_truthyR : truthyR x S = optB S (truthy (deref S x)) := (rfl)
@[simp] theorem o_band : bAnd p q ρ S = (p ρ S).bindB fun k S => if k then q ρ S else .ok false S := (rfl)
@[simp] theorem o_bor : bOr p q ρ S = (p ρ S).bindB fun k S => if k then .ok true S else q ρ S := (rfl)
@[simp] theorem o_bnot : bNot p ρ S = (p ρ S).bindB fun k S => .ok (!k) S := (rfl)
@[simp] theorem o_bifx : bIfx p q r ρ S = (p ρ S).bindB fun k S => if k then q ρ S else r ρ S := (rfl)
@[simp] theorem o_call (ψ : Fn) : mCall ψ ms ρ S = (ms ρ S).bind ψ := (rfl)
@[simp] theorem o_callP (ψ : Fn) : mCallP ψ ms ρ S = (ms ρ S).bind fun ws S => if nlL (ws.map (derefF S)) then pureR (ψ (ws.map (derefF S)) []) S else .bad := (rfl)
@[simp] theorem o_callV (ψ : Fn) : mCallV ψ ms ρ S = (ms ρ S).bind fun ws S => if nlL (ws.map (deref S)) then pureV (ψ (ws.map (deref S)) []) S else .bad := (rfl)
@[simp] theorem o_callKP (ψ : List W → List W → Sto → Res) (n m : Nat) (ks : Ml) : mCallKP ψ n m ms ks ρ S = (ms ρ S).bind fun ws S => (ks ρ S).bind fun us S => if ws.length = n ∧ us.length = m ∧ nlL (ws.map (derefF S)) = true ∧ nlL (us.map (derefF S)) = true then pureR (ψ (ws.map (derefF S)) (us.map (derefF S)) []) S else .bad := (rfl)
@[simp] theorem o_make (k : Nat) (ψ : Fn) : mMake k ψ ms ρ S = (ms ρ S).bind fun ws S => if nlL (ws.map (derefF S)) then makeR k ψ (ws.map (derefF S)) S else .bad := (rfl)
@[simp] theorem o_makeZ (k : Nat) (ψ : Fn) : mMakeZ k ψ ms ρ S = (ms ρ S).bind fun ws S => if nlL (ws.map (derefF S)) then makeZR k ψ (ws.map (derefF S)) S else .bad := (rfl)
@[simp] theorem o_meth (k : Nat) (ψ : Fn) : mMeth k ψ a ms ρ S = (a ρ S).bind fun x S => if isIns k x && x.nl then (ms ρ S).bind fun ws S => if nlL (ws.map (derefF S)) then pureR (ψ (x :: ws.map (derefF S)) []) S else .bad else .bad := (rfl)
@[simp] theorem o_dnew : mDNew ρ S = .ok (.loc S.length) (S ++ [.dic []]) := (rfl)
@[simp] theorem o_mdin (n : Bool) : mDIn n a b ρ S = (a ρ S).bind fun x S => (b ρ S).bind fun y S => optR S ((dinR n x y S).map .bl) := (rfl)
@[simp] theorem o_bdin (n : Bool) : bDIn n a b ρ S = (a ρ S).bindB fun x S => (b ρ S).bindB fun y S => optB S (dinR n x y S) := (rfl)
@[simp] theorem o_dget : mDGet a b ρ S = (a ρ S).bind fun x S => (b ρ S).bind fun y S => optR S (dgetR x y S) := (rfl)
@[simp] theorem o_lc (mt : Bool) (vs : List Nat) (tg : Tg) (it : Ml) : mLc mt vs tg it p a ρ S = (it ρ S).bind fun xs S => if xs.length ≤ limit then
    (compM (lcStep ρ vs tg p a) xs [] S).bind fun ys S => if mt then newCellR (.lst ys) S else .ok (.lst ys) S
  else .bad := (rfl)
@[simp] theorem o_jE : jE a ρ S = (a ρ S).bindL fun x S => optL S (items x) := (rfl)
@[simp] theorem o_range1 : jRange1 a ρ S = (a ρ S).bindL fun x S => match x with
  | .int j => if -(2 ^ 62) ≤ j ∧ j < 2 ^ 62 then .ok (rangeW 0 j.toNat) S else .bad
  | _ => .bad := (rfl)
@[simp] theorem o_range2 : jRange2 a b ρ S = (a ρ S).bindL fun x S => (b ρ S).bindL fun y S => match x, y with
  | .int i, .int j => if (-(2 ^ 62) ≤ i ∧ i < 2 ^ 62) ∧ -(2 ^ 62) ≤ j ∧ j < 2 ^ 62 then .ok (rangeW i (j - i).toNat) S else .bad
  | _, _ => .bad := (rfl)
@[simp] theorem o_enum (k : Int) : jEnum k a ρ S = (a ρ S).bindL fun x S => optL S ((items x).map (jEnum.enumI k)) := (rfl)
@[simp] theorem o_zip : jZip a b ρ S = (a ρ S).bindL fun x S => (b ρ S).bindL fun y S => match x, y with
  | .tup xs, .tup ys => .ok (zipW xs ys) S
  | .lst xs, .lst ys => .ok (zipW xs ys) S
  | _, _ => .bad := (rfl)
@[simp] theorem o_zips : jZips a b ρ S = (a ρ S).bindL fun x S => (b ρ S).bindL fun y S => match items x, items y with
  | some xs, some ys => if xs.length = ys.length then .ok (zipW xs ys) S else .bad
  | _, _ => .bad := (rfl)
@[simp] theorem o_seq : sSeq s t ρ S = (s ρ S).seq t := (rfl)
@[simp] theorem o_next : sNext ρ S = .nx ρ S := (rfl)
@[simp] theorem o_expr : sExpr a ρ S = (a ρ S).toS ρ fun _ S => .nx ρ S := (rfl)
@[simp] theorem o_ret : sRet a ρ S = (a ρ S).toS ρ fun w S => .ret w S := (rfl)
@[simp] theorem o_retN : sRetN ρ S = .ret .non S := (rfl)
@[simp] theorem o_if : sIf p s t ρ S = (p ρ S).toS ρ fun k S => if k then s ρ S else t ρ S := (rfl)
@[simp] theorem o_asg (tg : Tg) : sAsg tg a ρ S = (a ρ S).toS ρ fun w S => Fl.ofO S (bindTg tg w ρ) := (rfl)
@[simp] theorem o_par (is : List Nat) : sPar is ms ρ S = (ms ρ S).toS ρ fun ws S => Fl.ofO S (setAll is ws ρ) := (rfl)
@[simp] theorem o_aug (o : Operator) (i : Nat) : sAug o i a ρ S = match ρ[i]? with
  | some (some x) => (a ρ S).toS ρ fun y S => match augW o x y with
    | some z => .nx (ρ.set i (some z)) S
    | none => .bad
  | _ => .bad := (rfl)
@[simp] theorem o_setIx : sSetIx a b c ρ S = (c ρ S).toS ρ fun v S => (a ρ S).toS ρ fun x S => (b ρ S).toS ρ fun i S => match setIxR x i v S with
  | some S => .nx ρ S
  | none => .bad := (rfl)
@[simp] theorem o_setFld (k f : Nat) : sSetFld k f a b ρ S = (b ρ S).toS ρ fun v S => (a ρ S).toS ρ fun x S => match setFldR k f x v S with
  | some S => .nx ρ S
  | none => .bad := (rfl)
@[simp] theorem o_dput : sDPut a b c ρ S = (c ρ S).toS ρ fun v S => (a ρ S).toS ρ fun x S => (b ρ S).toS ρ fun i S => match dputR x i v S with
  | some S => .nx ρ S
  | none => .bad := (rfl)
@[simp] theorem o_for (it : Ml) (tg : Tg) : sFor it tg s ρ S = (it ρ S).toS ρ fun xs S => forM tg s xs ρ S := (rfl)
@[simp] theorem o_fn (n N : Nat) (ws : List W) : fnW n N s ws S = if ws.length = n then (s (startW N ws) S).toR else .bad := (rfl)
end
section
variable (S : Sto) (w x : W) (ws : List W) (f : W → Sto → Res) (f2 : W → Sto → LRes) (f3 : W → Sto → BRes) (f4 : List W → Sto → Res) (f5 : List W → Sto → LRes) (f6 : Bool → Sto → Res) (f7 : Bool → Sto → BRes) (f8 : W → Sto → Fl) (f9 : List W → Sto → Fl) (f10 : Bool → Sto → Fl) (k : Bool) (ρ : Env) (s : Ms)
@[simp] theorem r_bind : (Res.ok w S).bind f = f w S := (rfl)
@[simp] theorem r_bindL : (Res.ok w S).bindL f2 = f2 w S := (rfl)
@[simp] theorem r_bindB : (Res.ok w S).bindB f3 = f3 w S := (rfl)
@[simp] theorem l_bind : (LRes.ok ws S).bind f4 = f4 ws S := (rfl)
@[simp] theorem l_bindL : (LRes.ok ws S).bindL f5 = f5 ws S := (rfl)
@[simp] theorem b_bind : (BRes.ok k S).bind f6 = f6 k S := (rfl)
@[simp] theorem b_bindB : (BRes.ok k S).bindB f7 = f7 k S := (rfl)
@[simp] theorem r_toS : (Res.ok w S).toS ρ f8 = f8 w S := (rfl)
@[simp] theorem l_toS : (LRes.ok ws S).toS ρ f9 = f9 ws S := (rfl)
@[simp] theorem b_toS : (BRes.ok k S).toS ρ f10 = f10 k S := (rfl)
@[simp] theorem rb_bind : Res.bad.bind f = .bad := (rfl)
@[simp] theorem rb_bindL : Res.bad.bindL f2 = .bad := (rfl)
@[simp] theorem rb_bindB : Res.bad.bindB f3 = .bad := (rfl)
@[simp] theorem optR_s : optR S (some w) = .ok w S := (rfl)
@[simp] theorem optB_s : optB S (some k) = .ok k S := (rfl)
@[simp] theorem optL_s : optL S (some ws) = .ok ws S := (rfl)
@[simp] theorem ofO_s : Fl.ofO S (some ρ) = .nx ρ S := (rfl)
@[simp] theorem seq_nx : (Fl.nx ρ S).seq s = s ρ S := (rfl)
@[simp] theorem seq_ret : (Fl.ret w S).seq s = .ret w S := (rfl)
@[simp] theorem seq_bk : (Fl.bk ρ S).seq s = .bk ρ S := (rfl)
@[simp] theorem seq_ct : (Fl.ct ρ S).seq s = .ct ρ S := (rfl)
@[simp] theorem toR_nx : (Fl.nx ρ S).toR = .ok .non S := (rfl)
@[simp] theorem toR_ret : (Fl.ret w S).toR = .ok w S := (rfl)
@[simp] theorem for_nil (tg : Tg) : forM tg s [] ρ S = .nx ρ S := (rfl)
theorem for_cons (tg : Tg) : forM tg s (x :: ws) ρ S = match bindTg tg x ρ with
    | none => .bad
    | some ρ => match s ρ S with
      | .nx ρ S => forM tg s ws ρ S
      | .ct ρ S => forM tg s ws ρ S
      | .bk ρ S => .nx ρ S
      | r => r := (rfl)
@[simp] theorem comp_nil (st : W → Sto → LRes) (acc : List W) : compM st [] acc S = .ok acc S := (rfl)
@[simp] theorem b_nm (i : Nat) : bindTg (.nm i) w ρ = some (ρ.set i (some w)) := (rfl)
@[simp] theorem b_tup (is : List Nat) : bindTg (.tup is) (.tup ws) ρ = setAll is ws ρ := (rfl)
@[simp] theorem b_tupl (is : List Nat) : bindTg (.tup is) (.lst ws) ρ = setAll is ws ρ := (rfl)
@[simp] theorem b_star (is : List Nat) (j : Nat) : bindTg (.star is j) (.tup ws) ρ = if is.length ≤ ws.length ∧ ws.length ≤ 16384 then (setAll is (ws.take is.length) ρ).map fun ρ' => ρ'.set j (some (.lst (ws.drop is.length))) else none := (rfl)
@[simp] theorem b_starl (is : List Nat) (j : Nat) : bindTg (.star is j) (.lst ws) ρ = if is.length ≤ ws.length ∧ ws.length ≤ 16384 then (setAll is (ws.take is.length) ρ).map fun ρ' => ρ'.set j (some (.lst (ws.drop is.length))) else none := (rfl)
@[simp] theorem sa_nil : setAll [] [] ρ = some ρ := (rfl)
@[simp] theorem sa_cons (i : Nat) (is : List Nat) : setAll (i :: is) (w :: ws) ρ = setAll is ws (ρ.set i (some w)) := (rfl)
@[simp] theorem wipe_nil : wipeW ρ [] = ρ := (rfl)
@[simp] theorem wipe_cons (i : Nat) (is : List Nat) : wipeW ρ (i :: is) = (wipeW ρ is).set i none := (rfl)
end
section
variable (S : Sto) (ws xs : List W) (i j : Int) (k : Bool) (x y : Str) (c : Nat) (fs : List (Nat × W))
@[simp] theorem d_non : deref S .non = .non := (rfl)
@[simp] theorem d_bl : deref S (.bl k) = .bl k := (rfl)
@[simp] theorem d_int : deref S (.int i) = .int i := (rfl)
@[simp] theorem d_str : deref S (.str x) = .str x := (rfl)
@[simp] theorem d_tup : deref S (.tup ws) = .tup ws := (rfl)
@[simp] theorem d_lst : deref S (.lst ws) = .lst ws := (rfl)
@[simp] theorem d_ins : deref S (.ins c fs) = .ins c fs := (rfl)
@[simp] theorem d_loc (n : Nat) : deref S (.loc n) = match S[n]? with
  | some (.lst ws) => .lst ws
  | some (.frz w) => w
  | _ => .loc n := (rfl)
@[simp] theorem df_loc (n : Nat) : derefF S (.loc n) = match S[n]? with
  | some (.frz w) => w
  | _ => .loc n := (rfl)
@[simp] theorem df_non : derefF S .non = .non := (rfl)
@[simp] theorem df_bl : derefF S (.bl k) = .bl k := (rfl)
@[simp] theorem df_int : derefF S (.int i) = .int i := (rfl)
@[simp] theorem df_str : derefF S (.str x) = .str x := (rfl)
@[simp] theorem df_tup : derefF S (.tup ws) = .tup ws := (rfl)
@[simp] theorem df_lst : derefF S (.lst ws) = .lst ws := (rfl)
@[simp] theorem df_ins : derefF S (.ins c fs) = .ins c fs := (rfl)
@[simp] theorem i_tup : items (.tup ws) = some ws := (rfl)
@[simp] theorem i_lst : items (.lst ws) = some ws := (rfl)
@[simp] theorem n_nil : nlL [] = true := (rfl)
@[simp] theorem n_cons (w : W) : nlL (w :: ws) = (w.nl && nlL ws) := (rfl)
@[simp] theorem n_non : W.nl .non = true := (rfl)
@[simp] theorem n_bl : W.nl (.bl k) = true := (rfl)
@[simp] theorem n_int : W.nl (.int i) = true := (rfl)
@[simp] theorem n_str : W.nl (.str x) = true := (rfl)
@[simp] theorem n_tup : W.nl (.tup ws) = nlL ws := (rfl)
@[simp] theorem n_lst : W.nl (.lst ws) = nlL ws := (rfl)
@[simp] theorem n_ins : W.nl (.ins c fs) = nlF fs := (rfl)
@[simp] theorem n_fnil : nlF [] = true := (rfl)
@[simp] theorem n_fcons (p : Nat × W) : nlF (p :: fs) = (p.2.nl && nlF fs) := by cases p; rfl
@[simp] theorem n_ints (ns : List Int) : nlL (ns.map W.int) = true := nl_ints ns
@[simp] theorem t_non : truthy .non = some false := (rfl)
@[simp] theorem t_bl : truthy (.bl k) = some k := (rfl)
@[simp] theorem t_int : truthy (.int i) = some (i != 0) := (rfl)
@[simp] theorem t_tup : truthy (.tup ws) = some (!ws.isEmpty) := (rfl)
@[simp] theorem t_lst : truthy (.lst ws) = some (!ws.isEmpty) := (rfl)
@[simp] theorem ge_tup : getIx (.tup ws) (.int i) = L2.atI ws i := (rfl)
@[simp] theorem ge_lst : getIx (.lst ws) (.int i) = L2.atI ws i := (rfl)
@[simp] theorem gs_tup (lo hi : Option Int) : getSl (.tup ws) lo hi = some (.tup (cutW ws lo hi)) := (rfl)
@[simp] theorem gs_lst (lo hi : Option Int) : getSl (.lst ws) lo hi = some (.lst (cutW ws lo hi)) := (rfl)
@[simp] theorem pw_non : partW .non = some none := (rfl)
@[simp] theorem pw_int : partW (.int i) = some (some i) := (rfl)
@[simp] theorem cl_lt : cmpop .Lt (.int i) (.int j) = some (decide (i < j)) := (rfl)
@[simp] theorem cl_le : cmpop .LtE (.int i) (.int j) = some (decide (i ≤ j)) := (rfl)
@[simp] theorem cl_gt : cmpop .Gt (.int i) (.int j) = some (decide (j < i)) := (rfl)
@[simp] theorem cl_ge : cmpop .GtE (.int i) (.int j) = some (decide (j ≤ i)) := (rfl)
@[simp] theorem cl_eq (a b : W) : cmpop .Eq a b = cmpEq a b := (rfl)
@[simp] theorem cl_ne (a b : W) : cmpop .NotEq a b = (cmpEq a b).map (!·) := (rfl)
@[simp] theorem cl_inT (a : W) : cmpop .In a (.tup ws) = memW a ws := (rfl)
@[simp] theorem cl_inL (a : W) : cmpop .In a (.lst ws) = memW a ws := (rfl)
@[simp] theorem cl_ninT (a : W) : cmpop .NotIn a (.tup ws) = (memW a ws).map (!·) := (rfl)
@[simp] theorem cl_ninL (a : W) : cmpop .NotIn a (.lst ws) = (memW a ws).map (!·) := (rfl)
@[simp] theorem ce_int : cmpEq (.int i) (.int j) = some (i == j) := (rfl)
@[simp] theorem ce_bl (m : Bool) : cmpEq (.bl k) (.bl m) = some (k == m) := (rfl)
@[simp] theorem bo_add : binop .Add (.int i) (.int j) = some (.int (i + j)) := (rfl)
@[simp] theorem bo_sub : binop .Sub (.int i) (.int j) = some (.int (i - j)) := (rfl)
@[simp] theorem bo_mod : binop .Mod (.int i) (.int j) = if 0 < j then some (.int (i % j)) else none := (rfl)
@[simp] theorem bo_mul : binop .Mult (.int i) (.int j) = if mulOk i j then some (.int (i * j)) else none := (rfl)
@[simp] theorem bo_div : binop .FloorDiv (.int i) (.int j) = if 0 < j ∧ j < divLim then some (.int (i / j)) else none := (rfl)
@[simp] theorem bo_pow : binop .Pow (.int i) (.int j) = if 0 ≤ j ∧ j ≤ 1000000 ∧ i.natAbs < 2 ^ 64 then some (.int (i ^ j.toNat)) else none := (rfl)
@[simp] theorem p_lenT : DL.prim .len [.tup ws] = some (.int ws.length) := (rfl)
@[simp] theorem p_lenL : DL.prim .len [.lst ws] = some (.int ws.length) := (rfl)
@[simp] theorem p_tupT : DL.prim .tuple [.tup ws] = some (.tup ws) := (rfl)
@[simp] theorem p_tupL : DL.prim .tuple [.lst ws] = some (.tup ws) := (rfl)
@[simp] theorem p_lstT : DL.prim .list [.tup ws] = some (.lst ws) := (rfl)
@[simp] theorem p_lstL : DL.prim .list [.lst ws] = some (.lst ws) := (rfl)
@[simp] theorem p_max : DL.prim .max [.int i, .int j] = some (.int (max i j)) := by
  show some (W.int (if j > i then j else i)) = _
  congr 2; split <;> omega
@[simp] theorem p_min : DL.prim .min [.int i, .int j] = some (.int (min i j)) := by
  show some (W.int (if j < i then j else i)) = _
  congr 2; split <;> omega
@[simp] theorem p_abs : DL.prim .abs [.int i] = some (.int (if i < 0 then -i else i)) := (rfl)
@[simp] theorem p_all : DL.prim .all [.lst ws] = (allB ws).map fun bs => .bl (bs.all id) := (rfl)
@[simp] theorem p_any : DL.prim .any [.lst ws] = (allB ws).map fun bs => .bl (bs.any id) := (rfl)
@[simp] theorem p_int : DL.prim .int [.int i] = some (.int i) := (rfl)
@[simp] theorem p_intb : DL.prim .int [.bl k] = some (.int (if k then 1 else 0)) := (rfl)
@[simp] theorem p_divmod : DL.prim .divmod [.int i, .int j] = if 0 < j ∧ j < 1073741824 then some (.tup [.int (i / j), .int (i % j)]) else none := (rfl)
@[simp] theorem f_ins (d f : Nat) : getFld S d f (.ins c fs) = if c = d then lookF f fs else none := (rfl)
@[simp] theorem f_nil (f : Nat) : lookF f [] = none := (rfl)
@[simp] theorem f_cons (f : Nat) (p : Nat × W) : lookF f (p :: fs) = if f = p.1 then some p.2 else lookF f fs := by cases p; rfl
@[simp] theorem a_nil : allB [] = some [] := (rfl)
@[simp] theorem a_cons : allB (.bl k :: ws) = (allB ws).map (k :: ·) := (rfl)
@[simp] theorem p_ok (w : W) (T : Sto) : pureR (.ok w T) S = if w.nl then .ok w S else .bad := (rfl)
@[simp] theorem v_ok (w : W) (T : Sto) : pureV (.ok w T) S = if w.nol then .ok w S else .bad := (rfl)
@[simp] theorem no_bl : W.nol (.bl k) = true := (rfl)
@[simp] theorem no_int : W.nol (.int i) = true := (rfl)
@[simp] theorem is_int (w : Int) : isTy .int (.int w) = some true := (rfl)
@[simp] theorem is_intb : isTy .int (.bl k) = some true := (rfl)
@[simp] theorem is_bli : isTy .bool (.int i) = some false := (rfl)
@[simp] theorem is_bl : isTy .bool (.bl k) = some true := (rfl)
@[simp] theorem is_str : isTy .str (.str x) = some true := (rfl)
@[simp] theorem is_tup : isTy .tuple (.tup ws) = some true := (rfl)
@[simp] theorem is_lst : isTy .list (.lst ws) = some true := (rfl)
@[simp] theorem is_tupl : isTy .tuple (.lst ws) = some false := (rfl)
end
@[simp] theorem allB_map {α : Type} (f : α → Bool) (l : List α) : allB (l.map fun a => W.bl (f a)) = some (l.map f) := by
  have := allB_bls (l.map f)
  rw [List.map_map] at this
  exact this
theorem for_step {tg : Tg} {s : Ms} {x : W} {ws : List W} {ρ ρ1 ρ2 : Env} {S S2 : Sto} (h1 : bindTg tg x ρ = some ρ1) (h2 : s ρ1 S = .nx ρ2 S2) : forM tg s (x :: ws) ρ S = forM tg s ws ρ2 S2 := by
  rw [forM, h1]
  dsimp only
  rw [h2]
theorem for_ct {tg : Tg} {s : Ms} {x : W} {ws : List W} {ρ ρ1 ρ2 : Env} {S S2 : Sto} (h1 : bindTg tg x ρ = some ρ1) (h2 : s ρ1 S = .ct ρ2 S2) : forM tg s (x :: ws) ρ S = forM tg s ws ρ2 S2 := by
  rw [forM, h1]
  dsimp only
  rw [h2]
theorem seq_step {a b : Ms} {ρ ρ1 : Env} {S S1 : Sto} (h : a ρ S = .nx ρ1 S1) : sSeq a b ρ S = b ρ1 S1 := by
  unfold sSeq
  rw [h]; rfl
/-- a comprehension over data that is told -/
theorem lc_data {α : Type} {l : List α} {e g : α → W} {ρ : Env} {S : Sto} {vs : List Nat} {tg : Tg} {p : Mb} {el : Me} (h : ∀ a ∈ l, lcStep ρ vs tg p el (e a) S = .ok [g a] S) : compM (lcStep ρ vs tg p el) (l.map e) [] S = .ok (l.map g) S := by
  have := compM_map (step := lcStep ρ vs tg p el) (S := S) (xs := l.map e) (f := fun w => match lcStep ρ vs tg p el w S with | .ok [u] _ => u | _ => .non) (acc := []) fun x hx => by
    obtain ⟨a, ha, rfl⟩ := List.mem_map.mp hx
    rw [h a ha]
  rw [this, List.nil_append, List.map_map]
  congr 1
  refine List.map_congr_left fun a ha => ?_
  simp only [Function.comp]
  rw [h a ha]
theorem limit_big {n : Nat} (h : n ≤ 10000) : n ≤ limit := by unfold limit; omega
end DL
set_option Elab.async false
set_option linter.all false
set_option maxRecDepth 100000
set_option maxHeartbeats 4000000
/-! S1: books, states, beats as plain things; how they look as data. -/
namespace SP
open DL
open PySem
def gi (xs : List Int) (i : Int) : Int := xs.getD i.toNat 0
def seti (xs : List Int) (i v : Int) : List Int := xs.set i.toNat v
abbrev tpI (ns : List Int) : W := .tup (ns.map W.int)
abbrev lsI (ns : List Int) : W := .lst (ns.map W.int)
/-- i is a place of xs -/
def Ix (n : Nat) (i : Int) : Prop := 0 ≤ i ∧ i < n
theorem gi_at {xs : List Int} {i : Int} (h : Ix xs.length i) : L2.atI (xs.map W.int) i = some (.int (gi xs i)) := by
  obtain ⟨h0, h1⟩ := h
  unfold L2.atI L2.ixN gi
  rw [if_pos h0, List.length_map, if_pos h1]
  show (xs.map W.int)[i.toNat]? = _
  rw [List.getElem?_map, List.getD_eq_getElem?_getD, List.getElem?_eq_getElem (by omega)]
  rfl
inductive PK where
  | is | not | below
  deriving DecidableEq
inductive Cnd where
  | pl (k : PK) (w p : Int) | hu (r : Int) | aw (r : Int)
def PK.s : PK → Str
  | .is => "is" | .not => "not" | .below => "below"
def Cnd.w : Cnd → W
  | .pl k w p => .tup [.str k.s, .int w, .int p]
  | .hu r => .tup [.str "hushed", .int r]
  | .aw r => .tup [.str "awake", .int r]
structure Chg where
  put : Bool
  w : Int
  p : Int
def Chg.wd (c : Chg) : Str := if c.put then "put" else "turn"
def Chg.W (c : Chg) : W := .tup [.str c.wd, .int c.w, .int c.p]
def hw (p : Int × Int) : W := .tup [.int p.1, .int p.2]
structure Rul where
  test : List Cnd
  chg : List Chg
  hus : List (Int × Int)
  wak : List Int
  deriving Inhabited
def Rul.W (r : Rul) : W := .tup [.tup (r.test.map Cnd.w), .tup (r.chg.map Chg.W), .tup (r.hus.map hw), tpI r.wak]
structure Bk where
  wh : List Int
  ru : List Rul
def Bk.W (b : Bk) : W := .ins 0 [(0, tpI b.wh), (1, .tup (b.ru.map Rul.W))]
def Bk.rule (b : Bk) (r : Int) : Rul := b.ru.getD r.toNat default
abbrev Sta := List Int × List Int
def stW (s : Sta) : W := .tup [tpI s.1, tpI s.2]
def Cnd.Ok (wh : List Int) (n : Nat) : Cnd → Prop
  | .pl _ w p => Ix wh.length w ∧ 0 ≤ p ∧ p < gi wh w
  | .hu r => Ix n r
  | .aw r => Ix n r
def Chg.Ok (wh : List Int) (c : Chg) : Prop := Ix wh.length c.w ∧ 0 ≤ c.p ∧ c.p < gi wh c.w
structure Rul.Ok (wh : List Int) (n : Nat) (r : Rul) : Prop where
  tl : r.test.length ≤ 4
  t : ∀ c ∈ r.test, c.Ok wh n
  cl : r.chg.length ≤ 3
  c : ∀ c ∈ r.chg, c.Ok wh
  h : ∀ p ∈ r.hus, Ix n p.1 ∧ 1 ≤ p.2 ∧ p.2 ≤ 3
  hr : (r.hus.map (·.1)).Pairwise (· < ·)
  k : ∀ p ∈ r.wak, Ix n p
  kr : r.wak.Pairwise (· < ·)
  x : ∀ p ∈ r.hus, p.1 ∉ r.wak
structure WhOk (wh : List Int) : Prop where
  l0 : 1 ≤ wh.length
  l1 : wh.length ≤ 3
  m : ∀ x ∈ wh, 2 ≤ x ∧ x ≤ 4
  p : wh.prod ≤ 24
structure Bk.Ok (b : Bk) : Prop where
  w : WhOk b.wh
  n : b.ru.length ≤ 5
  r : ∀ r ∈ b.ru, r.Ok b.wh b.ru.length
structure StOk (b : Bk) (s : Sta) : Prop where
  l1 : s.1.length = b.wh.length
  m1 : ∀ i, Ix b.wh.length i → 0 ≤ gi s.1 i ∧ gi s.1 i < gi b.wh i
  l2 : s.2.length = b.ru.length
  m2 : ∀ h ∈ s.2, 0 ≤ h ∧ h ≤ 2
/-! ### what a beat does -/
def Cnd.so (vs hs : List Int) : Cnd → Bool
  | .pl .is w p => gi vs w == p
  | .pl .not w p => gi vs w != p
  | .pl .below w p => decide (gi vs w < p)
  | .hu r => decide (0 < gi hs r)
  | .aw r => gi hs r == 0
def wouldDo (b : Bk) (r : Int) (vs hs : List Int) : Bool := gi hs r == 0 && (b.rule r).test.all (Cnd.so vs hs)
def Chg.do (wh vs : List Int) (c : Chg) : List Int := seti vs c.w (if c.put then c.p else (gi vs c.w + c.p) % gi wh c.w)
def husDo (hs : List Int) (l : List (Int × Int)) : List Int := l.foldl (fun hs p => seti hs p.1 (max (gi hs p.1) p.2)) hs
def wakDo (hs : List Int) (l : List Int) : List Int := l.foldl (fun hs r => seti hs r 0) hs
structure Mid3 where
  vs : List Int
  hs : List Int
  dn : List Int
def ask (b : Bk) (off : List Int) (m : Mid3) (r : Int) : Mid3 :=
  if !off.contains r && wouldDo b r m.vs m.hs then ⟨(b.rule r).chg.foldl (Chg.do b.wh) m.vs, wakDo (husDo m.hs (b.rule r).hus) (b.rule r).wak, m.dn ++ [r]⟩ else m
def less (hs : List Int) : List Int := hs.map fun h => max 0 (h - 1)
def beatOf (b : Bk) (s : Sta) (order off : List Int) : List Int × Sta :=
  let m := order.foldl (ask b off) ⟨s.1, s.2, []⟩
  (m.dn, (m.vs, less m.hs))
def own (b : Bk) : List Int := (List.range b.ru.length).map fun (i : Nat) => (i : Int)
end SP
set_option Elab.async false
set_option linter.all false
set_option maxRecDepth 100000
set_option maxHeartbeats 4000000
/-! S2: what the program's defs about books and beats do. -/
namespace SP
open PySem DL
theorem plainL_ints (n : Nat) : ∀ l : List Int, W.plainL n (l.map W.int) = true
  | [] => rfl
  | a :: l => by show (W.plain n (.int a) && W.plainL n (l.map W.int)) = true; rw [plainL_ints n l]; cases n <;> rfl
theorem eqvL_ints : ∀ a b : List Int, W.eqvL (a.map W.int) (b.map W.int) = (a == b)
  | [], [] => rfl
  | [], _ :: _ => rfl
  | _ :: _, [] => rfl
  | x :: a, y :: b => by
    show (x == y && W.eqvL (a.map W.int) (b.map W.int)) = (x :: a == y :: b)
    rw [eqvL_ints a b]; rfl
theorem ce_ints (a b : List Int) : cmpEq (tpI a) (tpI b) = some (a == b) := by
  unfold cmpEq
  rw [show W.plain 60 (tpI a) = true from plainL_ints 59 a, show W.plain 60 (tpI b) = true from plainL_ints 59 b]
  show some (W.eqvL _ _) = _
  rw [eqvL_ints]
theorem ce_intsE (a : List Int) : cmpEq (tpI a) (.tup []) = some (a == []) := ce_ints a []
theorem mem_ints (x : Int) (l : List Int) : memW (.int x) (l.map W.int) = some (l.contains x) := by
  unfold memW
  rw [plainL_ints 60 l, show W.plain 60 (.int x) = true from rfl]
  show some _ = _
  congr 1
  induction l with
  | nil => rfl
  | cons a l ih =>
    rw [List.map_cons, List.any_cons, ih, List.contains_cons]
    show ((a == x) || _) = _
    congr 1
    exact Bool.beq_comm
theorem e_is_whole (i : Int) (S : Sto) : pureR (f_is_whole [.int i] []) S = .ok (.bl true) S := by
  simp [f_is_whole, startW]
theorem e_is_from (i lo hi : Int) (S : Sto) : pureR (f_is_from [.int i, .int lo, .int hi] []) S = .ok (.bl (decide (lo ≤ i) && decide (i < hi))) S := by
  by_cases h : lo ≤ i <;> simp [f_is_from, startW, e_is_whole, h]
theorem e_is_row (ws : List W) (n : Int) (S : Sto) : pureR (f_is_row [.tup ws, .int n] []) S = .ok (.bl (decide ((ws.length : Int) ≤ n))) S := by
  simp [f_is_row, startW]
theorem e_how_many (ns : List Int) (hn : ∀ x ∈ ns, 0 ≤ x ∧ x ≤ 4) (S : Sto) : pureR (f_how_many [tpI ns] []) S = .ok (.int ns.prod) S := by
  have key : ∀ (l : List Int) (a : Int) (x : Option W), (∀ x ∈ l, 0 ≤ x ∧ x ≤ 4) → ∃ x', forM (.nm 2) b_how_many_1 (l.map W.int) [some (tpI ns), some (.int a), x] [] = .nx [some (tpI ns), some (.int (a * l.prod)), x'] [] := by
    intro l
    induction l with
    | nil => intro a x _; exact ⟨x, by simp⟩
    | cons y l ih =>
      intro a x h
      have hy := h y (List.mem_cons_self ..)
      obtain ⟨x', e⟩ := ih (a * y) (some (.int y)) fun z hz => h z (List.mem_cons_of_mem _ hz)
      refine ⟨x', ?_⟩
      have hm : mulOk a y = true := by
        unfold mulOk
        have h1 : -(2 ^ 64) < y := by omega
        have h2 : y < 2 ^ 64 := by omega
        rw [decide_eq_true h1, decide_eq_true h2]; simp
      rw [List.map_cons, for_cons, List.prod_cons, ← Int.mul_assoc, ← e]
      simp [b_how_many_1, augW, hm]
  obtain ⟨x', e⟩ := key ns 1 none hn
  simp [f_how_many, startW, e]
end SP
set_option Elab.async false
set_option linter.all false
set_option maxRecDepth 100000
set_option maxHeartbeats 4000000
namespace SP
open PySem DL
@[simp] theorem all_tt {α : Type} (l : List α) : (l.all fun _ => true) = true := by simp
theorem l_small {α : Type} {l : List α} {n : Nat} (h : l.length ≤ n) (hn : n ≤ 10000 := by decide) : l.length ≤ limit := limit_big (by omega)
theorem e_are_wheels {wh : List Int} (h : WhOk wh) (S : Sto) : pureR (f_are_wheels [tpI wh] []) S = .ok (.bl true) S := by
  have h1 := e_how_many wh (fun x hx => by have := h.m x hx; omega)
  have hl : wh.length ≤ limit := l_small h.l1
  have hne : (wh == []) = false := by cases wh with
    | nil => have := h.l0; simp at this
    | cons _ _ => rfl
  have h3 : (wh.length : Int) ≤ 3 := by have := h.l1; omega
  simp [f_are_wheels, startW, e_is_row, h3, ce_intsE, hne, hl, h1]
  rw [lc_data (g := fun _ => .bl true) fun a ha => by
    have := h.m a ha
    have h4 : a < 5 := by omega
    simp [lcStep, e_is_from, this, h4]]
  simp [h.p]
theorem memW_strs (x : Str) (l : List Str) (hx : PyData.strOk x = true) (hl : ∀ y ∈ l, PyData.strOk y = true) : memW (.str x) (l.map W.str) = some (l.contains x) := by
  have key : ∀ l : List Str, (∀ y ∈ l, PyData.strOk y = true) → W.plainL 60 (l.map W.str) = true := by
    intro l; induction l with
    | nil => intro _; rfl
    | cons a l ih =>
      intro h
      show (PyData.strOk a && W.plainL 60 (l.map W.str)) = true
      rw [h a (List.mem_cons_self ..), ih fun y hy => h y (List.mem_cons_of_mem _ hy)]; rfl
  unfold memW
  rw [key l hl, show W.plain 60 (.str x) = true from hx]
  show some _ = _
  congr 1
  clear key hl
  induction l with
  | nil => rfl
  | cons a l ih =>
    rw [List.map_cons, List.any_cons, ih, List.contains_cons]
    show ((a == x) || _) = _
    congr 1
    exact Bool.beq_comm
theorem e_worded (x : Str) (ws : List W) (l : List Str) (n : Int) (hx : PyData.strOk x = true) (hl : ∀ y ∈ l, PyData.strOk y = true) (S : Sto) : pureR (f_is_worded [.tup (.str x :: ws), .tup (l.map W.str), .int n] []) S = .ok (.bl ((ws.length + 1 : Int) == n && l.contains x)) S := by
  have ha : L2.atI (W.str x :: ws) 0 = some (.str x) := by simp [L2.atI, L2.ixN]
  have hm := memW_strs x l hx hl
  by_cases h : (ws.length + 1 : Int) = n
  · have h2 : ((ws.length + 1 : Int) == n) = true := by simpa using h
    simp [f_is_worded, startW, ha, hm, h2]
  · have h2 : ((ws.length + 1 : Int) == n) = false := by simpa using h
    simp [f_is_worded, startW, ha, hm, h2]
theorem pk_ok (k : PK) : PyData.strOk k.s = true := by cases k <;> kernel_rfl
theorem cw_ok (c : Chg) : PyData.strOk c.wd = true := by unfold Chg.wd; split <;> kernel_rfl
theorem ok_words : ∀ y ∈ (["is", "not", "below"] : List Str), PyData.strOk y = true := by
  intro y hy
  simp only [List.mem_cons, List.not_mem_nil, or_false] at hy
  rcases hy with rfl | rfl | rfl <;> kernel_rfl
theorem ok_words2 : ∀ y ∈ (["hushed", "awake"] : List Str), PyData.strOk y = true := by
  intro y hy
  simp only [List.mem_cons, List.not_mem_nil, or_false] at hy
  rcases hy with rfl | rfl <;> kernel_rfl
theorem ok_words3 : ∀ y ∈ (["put", "turn"] : List Str), PyData.strOk y = true := by
  intro y hy
  simp only [List.mem_cons, List.not_mem_nil, or_false] at hy
  rcases hy with rfl | rfl <;> kernel_rfl
theorem e_placed {wh : List Int} {x : Str} {w p : Int} {l : List Str} (hw : Ix wh.length w) (hp : 0 ≤ p ∧ p < gi wh w) (hx : PyData.strOk x = true) (hl : ∀ y ∈ l, PyData.strOk y = true) (hc : l.contains x = true) (S : Sto) :
    pureR (f_is_placed [tpI wh, .tup [.str x, .int w, .int p], .tup (l.map W.str)] []) S = .ok (.bl true) S := by
  have h1 := e_worded x [.int w, .int p] l 3 hx hl
  have hs : nlL (l.map W.str) = true := by clear hl hc h1; induction l with
    | nil => rfl
    | cons a l ih => simpa using ih
  have hm : x ∈ l := by simpa using hc
  simp [f_is_placed, startW, h1, hs, e_is_from, hw.1, hw.2, gi_at hw, hp, hm]
theorem e_condition {wh : List Int} {n : Nat} {c : Cnd} (h : c.Ok wh n) (S : Sto) : pureR (f_is_condition [tpI wh, .int n, c.w] []) S = .ok (.bl true) S := by
  have e2 : ∀ (x : Str) (ws : List W) (n : Int), PyData.strOk x = true → ∀ S, pureR (f_is_worded [.tup (.str x :: ws), .tup [.str "hushed", .str "awake"], .int n] []) S = .ok (.bl ((ws.length + 1 : Int) == n && (["hushed", "awake"] : List Str).contains x)) S := fun x ws n hx S => e_worded x ws ["hushed", "awake"] n hx ok_words2 S
  cases c with
  | pl k w p =>
    have e1 : ∀ S, pureR (f_is_placed [tpI wh, .tup [.str k.s, .int w, .int p], .tup [.str "is", .str "not", .str "below"]] []) S = .ok (.bl true) S := fun S => e_placed (l := ["is", "not", "below"]) h.1 h.2 (pk_ok k) ok_words (by cases k <;> kernel_rfl) S
    simp [f_is_condition, startW, Cnd.w, e2 _ _ _ (pk_ok k), e1]
  | hu r =>
    have c1 : (["hushed", "awake"] : List Str).contains "hushed" = true := by kernel_rfl
    simp only [f_is_condition, o_fn, Cnd.w]
    simp [startW, e2 "hushed" _ _ (by kernel_rfl), c1, e_is_from, h.1, h.2, L2.atI, L2.ixN]
  | aw r =>
    have c1 : (["hushed", "awake"] : List Str).contains "awake" = true := by kernel_rfl
    simp only [f_is_condition, o_fn, Cnd.w]
    simp [startW, e2 "awake" _ _ (by kernel_rfl), c1, e_is_from, h.1, h.2, L2.atI, L2.ixN]
theorem zipW_map {α β : Type} (f : α → W) (g : β → W) : ∀ (a : List α) (b : List β), zipW (a.map f) (b.map g) = (a.zip b).map fun p => .tup [f p.1, g p.2]
  | [], _ => by cases ‹List β› <;> rfl
  | _ :: _, [] => rfl
  | x :: a, y :: b => by show _ :: zipW (a.map f) (b.map g) = _; rw [zipW_map f g a b]; rfl
theorem rising_all : ∀ l : List Int, l.Pairwise (· < ·) → ∀ p ∈ l.zip (l.drop 1), p.1 < p.2
  | [], _, p, h => by simp at h
  | [_], _, p, h => by simp at h
  | x :: y :: l, h, p, hp => by
    rw [List.drop_succ_cons, List.drop_zero, List.zip_cons_cons] at hp
    rw [List.pairwise_cons] at h
    rcases List.mem_cons.mp hp with rfl | hp
    · exact h.1 y (List.mem_cons_self ..)
    · exact rising_all (y :: l) h.2 p (by simpa using hp)
theorem cut1 (l : List W) : cutW l (some 1) none = l.drop 1 := by
  unfold cutW HT.sIx
  cases l with
  | nil => simp
  | cons a l => simp
end SP
set_option Elab.async false
set_option linter.all false
set_option maxRecDepth 100000
set_option maxHeartbeats 4000000
namespace SP
open PySem DL
theorem zip_cut (l : List Int) : zipW (l.map W.int) (cutW (l.map W.int) (some 1) none) = (l.zip (l.drop 1)).map fun p => .tup [.int p.1, .int p.2] := by
  rw [cut1, ← List.map_drop]; exact zipW_map _ _ _ _
theorem e_are_risingT {l : List Int} (h : l.Pairwise (· < ·)) (hl : l.length ≤ limit) (S : Sto) : pureR (f_are_rising [tpI l] []) S = .ok (.bl true) S := by
  have hl2 : l.length ≤ limit + 1 := by omega
  simp [f_are_rising, startW, zip_cut, hl2]
  rw [lc_data (g := fun _ => .bl true) fun p hp => by
    have := rising_all l h p (by simpa using hp)
    simp [lcStep, this]]
  simp
theorem e_are_risingL {l : List Int} (h : l.Pairwise (· < ·)) (hl : l.length ≤ limit) (S : Sto) : pureR (f_are_rising [lsI l] []) S = .ok (.bl true) S := by
  have hl2 : l.length ≤ limit + 1 := by omega
  simp [f_are_rising, startW, zip_cut, hl2]
  rw [lc_data (g := fun _ => .bl true) fun p hp => by
    have := rising_all l h p (by simpa using hp)
    simp [lcStep, this]]
  simp
theorem e_rules_numbers {l : List Int} {n : Nat} (h : l.Pairwise (· < ·)) (hn : ∀ r ∈ l, Ix n r) (hl : l.length ≤ limit) (S : Sto) : pureR (f_are_rules_numbers [tpI l, .int n] []) S = .ok (.bl true) S := by
  simp [f_are_rules_numbers, startW, hl, e_are_risingT h hl]
  rw [lc_data (g := fun _ => .bl true) fun p hp => by
    have := hn p hp
    simp [lcStep, e_is_from, this.1, this.2]]
  simp
theorem e_hush {p : Int × Int} {n : Nat} (h : Ix n p.1 ∧ 1 ≤ p.2 ∧ p.2 ≤ 3) (S : Sto) : pureR (f_is_hush [.int n, hw p] []) S = .ok (.bl true) S := by
  have h4 : p.2 < 4 := by omega
  have a0 : L2.atI [W.int p.1, W.int p.2] 0 = some (.int p.1) := by simp [L2.atI, L2.ixN]
  have a1 : L2.atI [W.int p.1, W.int p.2] 1 = some (.int p.2) := by simp [L2.atI, L2.ixN]
  simp [f_is_hush, startW, hw, a0, a1, e_is_from, h.1.1, h.1.2, h.2, h4]
@[simp] theorem nl_map {α : Type} {f : α → W} (hf : ∀ a, (f a).nl = true) : ∀ l : List α, nlL (l.map f) = true
  | [] => rfl
  | a :: l => by rw [List.map_cons, n_cons, hf a, nl_map hf l]; rfl
@[simp] theorem nl_hw (p : Int × Int) : (hw p).nl = true := rfl
@[simp] theorem nl_cnd (c : Cnd) : c.w.nl = true := by cases c <;> rfl
@[simp] theorem nl_chg (c : Chg) : c.W.nl = true := rfl
@[simp] theorem nl_hws (l : List (Int × Int)) : nlL (l.map hw) = true := nl_map nl_hw l
@[simp] theorem nl_cnds (l : List Cnd) : nlL (l.map Cnd.w) = true := nl_map nl_cnd l
@[simp] theorem nl_chgs (l : List Chg) : nlL (l.map Chg.W) = true := nl_map nl_chg l
@[simp] theorem nl_rul (r : Rul) : r.W.nl = true := by simp [Rul.W]
@[simp] theorem nl_ruls (l : List Rul) : nlL (l.map Rul.W) = true := nl_map nl_rul l
@[simp] theorem nl_bk (b : Bk) : b.W.nl = true := by simp [Bk.W]
@[simp] theorem nl_st (s : Sta) : (stW s).nl = true := by simp [stW]
@[simp] theorem nl_sts (l : List Sta) : nlL (l.map stW) = true := nl_map nl_st l
@[simp] theorem dd_hw (S : Sto) (p : Int × Int) : derefF S (hw p) = hw p := rfl
@[simp] theorem dd_cnd (S : Sto) (c : Cnd) : derefF S c.w = c.w := by cases c <;> rfl
@[simp] theorem dd_chg (S : Sto) (c : Chg) : derefF S c.W = c.W := rfl
@[simp] theorem dd_rul (S : Sto) (c : Rul) : derefF S c.W = c.W := rfl
@[simp] theorem dd_bk (S : Sto) (c : Bk) : derefF S c.W = c.W := rfl
@[simp] theorem dd_st (S : Sto) (c : Sta) : derefF S (stW c) = stW c := rfl
@[simp] theorem de_hw (S : Sto) (p : Int × Int) : deref S (hw p) = hw p := rfl
@[simp] theorem de_cnd (S : Sto) (c : Cnd) : deref S c.w = c.w := by cases c <;> rfl
@[simp] theorem de_chg (S : Sto) (c : Chg) : deref S c.W = c.W := rfl
@[simp] theorem de_rul (S : Sto) (c : Rul) : deref S c.W = c.W := rfl
@[simp] theorem de_bk (S : Sto) (c : Bk) : deref S c.W = c.W := rfl
@[simp] theorem de_st (S : Sto) (c : Sta) : deref S (stW c) = stW c := rfl
theorem e_hushes {l : List (Int × Int)} {n : Nat} (h : ∀ p ∈ l, Ix n p.1 ∧ 1 ≤ p.2 ∧ p.2 ≤ 3) (hr : (l.map (·.1)).Pairwise (· < ·)) (hl : l.length ≤ limit) (S : Sto) : pureR (f_are_hushes [.int n, .tup (l.map hw)] []) S = .ok (.bl true) S := by
  have e2 : ∀ S, pureR (f_are_rising [.lst (l.map fun p => W.int p.1)] []) S = .ok (.bl true) S := fun S => by
    have := e_are_risingL hr (by simpa using hl) S
    rw [show (l.map fun p => W.int p.1) = (l.map (·.1)).map W.int by rw [List.map_map]; rfl]
    exact this
  simp [f_are_hushes, startW, hl]
  rw [lc_data (g := fun _ => .bl true) fun p hp => by
    simp [lcStep, e_hush (h p hp)]]
  simp [hl]
  rw [lc_data (g := fun p => .int p.1) fun p hp => by simp [lcStep, hw]]
  have hn : nlL (l.map fun p => W.int p.1) = true := nl_map (fun _ => rfl) l
  simp [e2, hn]
theorem e_rule {wh : List Int} {n : Nat} {r : Rul} (h : r.Ok wh n) (hw1 : r.hus.length ≤ limit) (hw2 : r.wak.length ≤ limit) (S : Sto) : pureR (f_is_rule [tpI wh, .int n, r.W] []) S = .ok (.bl true) S := by
  have t4 : (r.test.length : Int) ≤ 4 := by have := h.tl; omega
  have c3 : (r.chg.length : Int) ≤ 3 := by have := h.cl; omega
  have e1 : ∀ c ∈ r.chg, ∀ S, pureR (f_is_placed [tpI wh, c.W, .tup [.str "put", .str "turn"]] []) S = .ok (.bl true) S := fun c hc S => e_placed (l := ["put", "turn"]) (h.c c hc).1 (h.c c hc).2 (cw_ok c) ok_words3 (by cases c with | mk p _ _ => cases p <;> kernel_rfl) S
  simp [f_is_rule, startW, Rul.W, e_is_row, t4, c3, l_small h.tl, l_small h.cl, hw1]
  rw [lc_data (g := fun _ => .bl true) fun c hc => by simp [lcStep, e_condition (h.t c hc)]]
  simp [e_is_row, c3, l_small h.cl]
  rw [lc_data (g := fun _ => .bl true) fun c hc => by simp [lcStep, e1 c hc]]
  simp [e_hushes h.h h.hr hw1, e_rules_numbers h.kr h.k hw2, hw1]
  rw [lc_data (g := fun _ => .bl false) fun p hp => by
    have := h.x p hp
    simp [lcStep, SP.hw, mem_ints, this]]
  simp
end SP
set_option Elab.async false
set_option linter.all false
set_option maxRecDepth 100000
set_option maxHeartbeats 4000000
namespace SP
open PySem DL
theorem rising_len {n : Nat} : ∀ (l : List Int) (lo : Int), l.Pairwise (· < ·) → (∀ x ∈ l, lo ≤ x ∧ x < n) → l.length ≤ (n - lo).toNat
  | [], _, _, _ => Nat.zero_le _
  | x :: l, lo, h, hx => by
    rw [List.pairwise_cons] at h
    have h1 := hx x (List.mem_cons_self ..)
    have := rising_len l (x + 1) h.2 fun y hy => ⟨by have := h.1 y hy; omega, (hx y (List.mem_cons_of_mem _ hy)).2⟩
    rw [List.length_cons]
    omega
theorem rising_le {n : Nat} {l : List Int} (h : l.Pairwise (· < ·)) (hx : ∀ x ∈ l, Ix n x) : l.length ≤ n := by
  have := rising_len l 0 h hx
  omega
theorem look_book_loop {wh : List Int} {ru : List Rul} (h : ∀ r ∈ ru, ∀ S, pureR (f_is_rule [tpI wh, .int ru.length, r.W] []) S = .ok (.bl true) S) : ∀ (l : List Rul) (k : Int) (x y : Option W), (∀ r ∈ l, r ∈ ru) →
    ∃ x' y', forM (.tup [2, 3]) b_look_book_1 (jEnum.enumI k (l.map Rul.W)) [some (tpI wh), some (.tup (ru.map Rul.W)), x, y] [] = .nx [some (tpI wh), some (.tup (ru.map Rul.W)), x', y'] []
  | [], k, x, y, _ => ⟨x, y, rfl⟩
  | r :: l, k, x, y, hl => by
    obtain ⟨x', y', e⟩ := look_book_loop h l (k + 1) (some (.int k)) (some r.W) fun r hr => hl r (List.mem_cons_of_mem _ hr)
    refine ⟨x', y', ?_⟩
    rw [List.map_cons, jEnum.enumI, for_cons, ← e]
    simp [b_look_book_1, h r (hl r (List.mem_cons_self ..))]
theorem e_look_book {b : Bk} (h : b.Ok) (S : Sto) : pureR (f_look_book [tpI b.wh, .tup (b.ru.map Rul.W)] []) S = .ok .non S := by
  have hn : (b.ru.length : Int) ≤ 5 := by have := h.n; omega
  have hr : ∀ r ∈ b.ru, ∀ S, pureR (f_is_rule [tpI b.wh, .int b.ru.length, r.W] []) S = .ok (.bl true) S := fun r hr S => by
    have hk := h.r r hr
    have := h.n
    refine e_rule hk ?_ ?_ S
    · have h1 := rising_le (l := r.hus.map (·.1)) hk.hr fun x hx => by
        obtain ⟨p, hp, rfl⟩ := List.mem_map.mp hx
        exact (hk.h p hp).1
      rw [List.length_map] at h1
      exact l_small (n := 5) (by omega)
    · exact l_small (n := 5) (by have := rising_le hk.kr hk.k; omega)
  obtain ⟨x', y', e⟩ := look_book_loop hr b.ru 0 none none fun _ h => h
  simp [f_look_book, startW, e_are_wheels h.w, e_is_row, hn, e]
theorem e_Book {b : Bk} (h : b.Ok) (S : Sto) : makeR 0 f_Book___init__ [tpI b.wh, .tup (b.ru.map Rul.W)] S = .ok b.W S := by
  have e : f_Book___init__ (.loc 0 :: [tpI b.wh, .tup (b.ru.map Rul.W)]) [.obj 0 []] = .ok .non [.obj 0 [(0, tpI b.wh), (1, .tup (b.ru.map Rul.W))]] := by
    simp [f_Book___init__, startW, e_look_book h, setFldR, putFN]
  unfold makeR
  rw [e]
  simp [Bk.W]
theorem prod_gi {wh : List Int} (h : WhOk wh) {w : Int} (hw : Ix wh.length w) : 2 ≤ gi wh w ∧ gi wh w ≤ 4 := by
  obtain ⟨h0, h1⟩ := hw
  unfold gi
  rw [List.getD_eq_getElem?_getD, List.getElem?_eq_getElem (by omega)]
  exact h.m _ (List.getElem_mem _)
theorem e_are_values {b : Bk} {vs : List Int} (hl : vs.length = b.wh.length) (hm : ∀ i, Ix b.wh.length i → 0 ≤ gi vs i ∧ gi vs i < gi b.wh i) (hb : WhOk b.wh) (S : Sto) : pureR (f_are_values [b.W, tpI vs] []) S = .ok (.bl true) S := by
  have hz : ∀ p ∈ vs.zip b.wh, 0 ≤ p.1 ∧ p.1 < p.2 := by
    intro p hp
    obtain ⟨i, hi, e⟩ := List.getElem_of_mem hp
    rw [List.length_zip] at hi
    have hi1 : i < vs.length := by omega
    have hi2 : i < b.wh.length := by omega
    rw [List.getElem_zip] at e
    have := hm i ⟨by omega, by omega⟩
    unfold gi at this
    simp only [Int.toNat_natCast] at this
    rw [List.getD_eq_getElem?_getD, List.getD_eq_getElem?_getD, List.getElem?_eq_getElem hi1, List.getElem?_eq_getElem hi2] at this
    subst e
    exact this
  have hz2 : zipW (vs.map W.int) (b.wh.map W.int) = (vs.zip b.wh).map fun p => .tup [.int p.1, .int p.2] := zipW_map _ _ _ _
  have hlim : b.wh.length ≤ limit := l_small hb.l1
  simp [f_are_values, startW, Bk.W, hl, hz2, hlim]
  rw [lc_data (g := fun _ => .bl true) fun p hp => by
    have := hz p hp
    simp [lcStep, e_is_from, this]]
  simp
theorem e_is_state {b : Bk} {s : Sta} (hb : b.Ok) (h : StOk b s) (S : Sto) : pureR (f_is_state [b.W, stW s] []) S = .ok (.bl true) S := by
  have ev := e_are_values h.l1 h.m1 hb.w
  have hlim : b.ru.length ≤ limit := l_small hb.n
  have a0 : L2.atI [tpI s.1, tpI s.2] 0 = some (tpI s.1) := by simp [L2.atI, L2.ixN]
  have a1 : L2.atI [tpI s.1, tpI s.2] 1 = some (tpI s.2) := by simp [L2.atI, L2.ixN]
  have hf : ∀ S, getFld S 0 1 b.W = some (.tup (b.ru.map Rul.W)) := fun S => by simp [Bk.W]
  simp only [f_is_state, o_fn]
  simp [startW, stW, a0, a1, ev, h.l2, hf, hlim]
  rw [lc_data (g := fun _ => .bl true) fun p hp => by
    have := h.m2 p hp
    have h3 : p < 3 := by omega
    simp [lcStep, e_is_from, this, h3]]
  simp
theorem range_ints (n : Nat) : ∀ lo : Int, rangeW lo n = ((List.range n).map fun (i : Nat) => lo + (i : Int)).map W.int := by
  induction n with
  | zero => intro lo; rfl
  | succ n ih =>
    intro lo
    rw [rangeW, ih, List.range_succ_eq_map, List.map_cons, List.map_cons, List.map_map, List.map_map, List.map_map]
    congr 1
    · simp
    · apply List.map_congr_left; intro a _; simp; omega
theorem range0 (n : Nat) : rangeW 0 n = ((List.range n).map fun (i : Nat) => (i : Int)).map W.int := by
  rw [range_ints]
  congr 1
  apply List.map_congr_left; intro a _; simp
end SP
set_option Elab.async false
set_option linter.all false
set_option maxRecDepth 100000
set_option maxHeartbeats 4000000
/-! S4: beats. -/
namespace SP
open PySem DL
theorem ce_str (x y : Str) (hx : PyData.strOk x = true) (hy : PyData.strOk y = true) : cmpEq (.str x) (.str y) = some (x == y) := by
  unfold cmpEq
  rw [show W.plain 60 (.str x) = true from hx, show W.plain 60 (.str y) = true from hy]; rfl
theorem rule_mem {b : Bk} {r : Int} (h : Ix b.ru.length r) : b.rule r ∈ b.ru := by
  obtain ⟨h0, h1⟩ := h
  unfold Bk.rule
  rw [List.getD_eq_getElem?_getD, List.getElem?_eq_getElem (by omega)]
  exact List.getElem_mem _
theorem rule_ok {b : Bk} (hb : b.Ok) {r : Int} (h : Ix b.ru.length r) : (b.rule r).Ok b.wh b.ru.length := hb.r _ (rule_mem h)
/-- the lengths fit -/
structure Fit (b : Bk) (vs hs : List Int) : Prop where
  v : vs.length = b.wh.length
  h : hs.length = b.ru.length
theorem seti_len (vs : List Int) (i v : Int) : (seti vs i v).length = vs.length := by unfold seti; rw [List.length_set]
theorem hus_len (l : List (Int × Int)) : ∀ hs : List Int, (husDo hs l).length = hs.length := by
  induction l with
  | nil => intro hs; rfl
  | cons p l ih => intro hs; show (husDo (seti _ _ _) l).length = _; rw [ih, seti_len]
theorem wak_len (l : List Int) : ∀ hs : List Int, (wakDo hs l).length = hs.length := by
  induction l with
  | nil => intro hs; rfl
  | cons p l ih => intro hs; show (wakDo (seti _ _ _) l).length = _; rw [ih, seti_len]
theorem chg_len (wh : List Int) (l : List Chg) : ∀ vs : List Int, (l.foldl (Chg.do wh) vs).length = vs.length := by
  induction l with
  | nil => intro hs; rfl
  | cons p l ih => intro hs; show (l.foldl (Chg.do wh) _).length = _; rw [ih]; exact seti_len _ _ _
/-! ### one whole beat -/
end SP
set_option Elab.async false
set_option linter.all false
/-! M1: what comes of a step told again and again, on finitely many things. -/
namespace SP
def itr {α : Type} (f : α → α) : Nat → α → α
  | 0, s => s
  | n + 1, s => f (itr f n s)
theorem itr_add {α : Type} (f : α → α) (s : α) (m : Nat) : ∀ n, itr f (m + n) s = itr f n (itr f m s)
  | 0 => rfl
  | n + 1 => by show f (itr f (m + n) s) = f (itr f n (itr f m s)); rw [itr_add f s m n]
theorem itr_comm {α : Type} (f : α → α) (s : α) (n : Nat) : itr f n (f s) = f (itr f n s) := by
  have := itr_add f s 1 n
  rw [Nat.add_comm] at this
  exact this.symm
/-- the states of a run up to where it comes round: the n-th is known to come again at bg -/
structure Trk {α : Type} (f : α → α) (s : α) (sts : List α) (bg : Nat) : Prop where
  lt : bg < sts.length
  at_ : ∀ i, i < sts.length → sts[i]? = some (itr f i s)
  nd : sts.Nodup
  back : itr f sts.length s = itr f bg s
def spot (bg len n : Nat) : Nat := if n < bg then n else bg + (n - bg) % len
section
variable {α : Type} {f : α → α} {s : α} {sts : List α} {bg : Nat}
theorem Trk.len0 (t : Trk f s sts bg) : 0 < sts.length - bg := by have := t.lt; omega
theorem Trk.step (t : Trk f s sts bg) (n : Nat) (h : bg ≤ n) : itr f (n + (sts.length - bg)) s = itr f n s := by
  have e : n + (sts.length - bg) = sts.length + (n - bg) := by have := t.lt; omega
  rw [e, itr_add, t.back, ← itr_add]
  congr 1; omega
theorem Trk.rounds (t : Trk f s sts bg) (n : Nat) (h : bg ≤ n) : ∀ k, itr f (n + k * (sts.length - bg)) s = itr f n s
  | 0 => by rw [Nat.zero_mul]; rfl
  | k + 1 => by
    have e : n + (k + 1) * (sts.length - bg) = (n + k * (sts.length - bg)) + (sts.length - bg) := by rw [Nat.add_mul, Nat.one_mul]; omega
    rw [e, t.step _ (by omega), t.rounds n h k]
theorem Trk.spot_lt (t : Trk f s sts bg) (n : Nat) : spot bg (sts.length - bg) n < sts.length := by
  have h1 := t.lt
  unfold spot
  split
  · omega
  · have := Nat.mod_lt (n - bg) t.len0; omega
theorem Trk.spot_at (t : Trk f s sts bg) (n : Nat) : itr f (spot bg (sts.length - bg) n) s = itr f n s := by
  unfold spot
  split
  · rfl
  · rename_i h
    have e : n = (bg + (n - bg) % (sts.length - bg)) + ((n - bg) / (sts.length - bg)) * (sts.length - bg) := by
      have := Nat.div_add_mod (n - bg) (sts.length - bg)
      rw [Nat.mul_comm] at this
      omega
    have := t.rounds (bg + (n - bg) % (sts.length - bg)) (by omega) ((n - bg) / (sts.length - bg))
    rw [← e] at this
    exact this.symm
theorem Trk.get (t : Trk f s sts bg) (n : Nat) : sts[spot bg (sts.length - bg) n]? = some (itr f n s) := by
  rw [t.at_ _ (t.spot_lt n), t.spot_at n]
theorem Trk.inj (t : Trk f s sts bg) {i j : Nat} (hi : i < sts.length) (hj : j < sts.length) (e : itr f i s = itr f j s) : i = j := by
  have h1 := t.at_ i hi
  have h2 := t.at_ j hj
  exact (List.getElem?_inj hi t.nd).mp (by rw [h1, h2, e])
end
/-- pigeons -/
theorem nd_len : ∀ (l D : List Nat), l.Nodup → (∀ x ∈ l, x ∈ D) → l.length ≤ D.length
  | [], _, _, _ => Nat.zero_le _
  | x :: l, D, hn, hs => by
    obtain ⟨h1, h2⟩ := List.nodup_cons.mp hn
    have hx : x ∈ D := hs x (List.mem_cons_self ..)
    have ih := nd_len l (D.erase x) h2 fun y hy => by
      have hne : y ≠ x := fun e => h1 (e ▸ hy)
      exact (List.mem_erase_of_ne hne).2 (hs y (List.mem_cons_of_mem _ hy))
    have e := List.length_erase_of_mem hx
    have hp : 0 < D.length := List.length_pos_of_mem hx
    rw [List.length_cons]
    omega
theorem nd_code {α : Type} (c : α → Nat) (N : Nat) {l : List α} (hn : l.Nodup) (hc : ∀ x ∈ l, c x < N) (hi : ∀ x ∈ l, ∀ y ∈ l, c x = c y → x = y) : l.length ≤ N := by
  have h1 : (l.map c).Nodup := by
    rw [List.nodup_iff_pairwise_ne] at hn ⊢
    rw [List.pairwise_map]
    exact List.Pairwise.imp_of_mem (fun {a b} ha hb hab e => hab (hi a ha b hb e)) hn
  have := nd_len (l.map c) (List.range N) h1 fun x hx => by
    obtain ⟨a, ha, rfl⟩ := List.mem_map.mp hx
    exact List.mem_range.mpr (hc a ha)
  simpa using this
end SP
set_option Elab.async false
set_option linter.all false
set_option maxRecDepth 100000
set_option maxHeartbeats 4000000
/-! S5: beats lead from states to states; there are few states. -/
namespace SP
open PySem DL
theorem gi_seti {xs : List Int} {i j v : Int} (hi : Ix xs.length i) (hj : 0 ≤ j) : gi (seti xs i v) j = if j = i then v else gi xs j := by
  obtain ⟨h0, h1⟩ := hi
  unfold gi seti
  rw [List.getD_eq_getElem?_getD, List.getD_eq_getElem?_getD, List.getElem?_set]
  by_cases e : j = i
  · subst e
    rw [if_pos rfl, if_pos rfl, if_pos (by omega)]; rfl
  · rw [if_neg e, if_neg (by omega)]
structure MidOk (b : Bk) (m : Mid3) : Prop where
  f : Fit b m.vs m.hs
  v : ∀ i, Ix b.wh.length i → 0 ≤ gi m.vs i ∧ gi m.vs i < gi b.wh i
  h : ∀ h ∈ m.hs, 0 ≤ h ∧ h ≤ 3
theorem chg_vals {wh : List Int} (hw : WhOk wh) : ∀ (l : List Chg) (vs : List Int), (∀ c ∈ l, c.Ok wh) → vs.length = wh.length → (∀ i, Ix wh.length i → 0 ≤ gi vs i ∧ gi vs i < gi wh i) → ∀ i, Ix wh.length i → 0 ≤ gi (l.foldl (Chg.do wh) vs) i ∧ gi (l.foldl (Chg.do wh) vs) i < gi wh i
  | [], vs, _, _, h => h
  | c :: l, vs, hc, hv, h => by
    rw [List.foldl_cons]
    have h0 := hc c (List.mem_cons_self ..)
    have hx : Ix vs.length c.w := by rw [hv]; exact h0.1
    have hp := prod_gi hw h0.1
    refine chg_vals hw l _ (fun c h => hc c (List.mem_cons_of_mem _ h)) (by unfold Chg.do; rw [seti_len]; exact hv) fun i hi => ?_
    unfold Chg.do
    rw [gi_seti hx hi.1]
    split
    · rename_i e
      subst e
      split
      · exact h0.2
      · exact ⟨Int.emod_nonneg _ (by omega), Int.emod_lt_of_pos _ (by omega)⟩
    · exact h i hi
theorem mem_seti {xs : List Int} {i v x : Int} (h : x ∈ seti xs i v) : x ∈ xs ∨ x = v := List.mem_or_eq_of_mem_set h
theorem gi_mem {xs : List Int} {i : Int} (h : Ix xs.length i) : gi xs i ∈ xs := by
  obtain ⟨h0, h1⟩ := h
  unfold gi
  rw [List.getD_eq_getElem?_getD, List.getElem?_eq_getElem (by omega)]
  exact List.getElem_mem _
theorem hus_vals {n : Nat} : ∀ (l : List (Int × Int)) (hs : List Int), (∀ p ∈ l, Ix n p.1 ∧ 1 ≤ p.2 ∧ p.2 ≤ 3) → hs.length = n → (∀ h ∈ hs, 0 ≤ h ∧ h ≤ 3) → ∀ h ∈ husDo hs l, 0 ≤ h ∧ h ≤ 3
  | [], hs, _, _, h => h
  | p :: l, hs, hp, hl, h => by
    have h0 := hp p (List.mem_cons_self ..)
    refine hus_vals l (seti hs p.1 (max (gi hs p.1) p.2)) (fun q hq => hp q (List.mem_cons_of_mem _ hq)) (by rw [seti_len]; exact hl) fun x hx => ?_
    rcases mem_seti hx with hx | hx
    · exact h x hx
    · have := h _ (gi_mem (by rw [hl]; exact h0.1))
      omega
theorem wak_vals : ∀ (l : List Int) (hs : List Int), (∀ h ∈ hs, 0 ≤ h ∧ h ≤ 3) → ∀ h ∈ wakDo hs l, 0 ≤ h ∧ h ≤ 3
  | [], hs, h => h
  | p :: l, hs, h => by
    refine wak_vals l (seti hs p 0) fun x hx => ?_
    rcases mem_seti hx with hx | hx
    · exact h x hx
    · omega
theorem ask_ok {b : Bk} (hb : b.Ok) {off : List Int} : ∀ (l : List Int) (m : Mid3), (∀ r ∈ l, Ix b.ru.length r) → MidOk b m → MidOk b (l.foldl (ask b off) m)
  | [], m, _, f => f
  | r :: l, m, hr, f => by
    rw [List.foldl_cons]
    refine ask_ok hb l _ (fun q h => hr q (List.mem_cons_of_mem _ h)) ?_
    have hk := rule_ok hb (hr r (List.mem_cons_self ..))
    unfold ask
    split
    · exact ⟨⟨by show List.length _ = _; rw [chg_len]; exact f.f.v, by show List.length _ = _; rw [wak_len, hus_len]; exact f.f.h⟩, chg_vals hb.w _ _ hk.c f.f.v f.v, wak_vals _ _ (hus_vals _ _ hk.h f.f.h f.h)⟩
    · exact f
theorem beatOf_ok {b : Bk} (hb : b.Ok) {s : Sta} (hs : StOk b s) {order off : List Int} (ho : ∀ r ∈ order, Ix b.ru.length r) : StOk b (beatOf b s order off).2 := by
  have m := ask_ok hb (off := off) order ⟨s.1, s.2, []⟩ ho ⟨⟨hs.l1, hs.l2⟩, hs.m1, fun h hh => by have := hs.m2 h hh; exact ⟨this.1, by omega⟩⟩
  refine ⟨m.f.v, m.v, ?_, ?_⟩
  · show (less _).length = _
    unfold less
    rw [List.length_map]; exact m.f.h
  · intro h hh
    obtain ⟨x, hx, rfl⟩ := List.mem_map.mp hh
    have := m.h x hx
    omega
theorem own_ix (b : Bk) : ∀ r ∈ own b, Ix b.ru.length r := by
  intro r hr
  obtain ⟨i, hi, rfl⟩ := List.mem_map.mp hr
  have := List.mem_range.mp hi
  exact ⟨by omega, by omega⟩
/-! ### there are few states -/
def cod : List Int → List Int → Nat
  | w :: ws, v :: vs => v.toNat + w.toNat * cod ws vs
  | _, _ => 0
theorem cod_lt : ∀ (ws vs : List Int), vs.length = ws.length → (∀ i, Ix ws.length i → 0 ≤ gi vs i ∧ gi vs i < gi ws i) → cod ws vs < (ws.map Int.toNat).prod ∨ (ws.map Int.toNat).prod = 0
  | [], [], _, _ => .inl (by decide)
  | [], _ :: _, h, _ => by simp at h
  | _ :: _, [], h, _ => by simp at h
  | w :: ws, v :: vs, hl, h => by
    have h0 := h 0 ⟨by omega, by simp <;> omega⟩
    simp [gi] at h0
    have ih := cod_lt ws vs (by simpa using hl) fun i hi => by
      have := h (i + 1) ⟨by have := hi.1; omega, by have := hi.2; simp <;> omega⟩
      unfold gi at this ⊢
      rw [show (i + 1).toNat = i.toNat + 1 by have := hi.1; omega] at this
      simpa using this
    rw [List.map_cons, List.prod_cons]
    rcases ih with ih | ih
    · refine .inl ?_
      show v.toNat + w.toNat * cod ws vs < _
      have : w.toNat * (cod ws vs + 1) ≤ w.toNat * (ws.map Int.toNat).prod := Nat.mul_le_mul_left _ ih
      rw [Nat.mul_add, Nat.mul_one] at this
      omega
    · refine .inr ?_
      rw [ih, Nat.mul_zero]
theorem cod_inj : ∀ (ws vs us : List Int), vs.length = ws.length → us.length = ws.length → (∀ i, Ix ws.length i → 0 ≤ gi vs i ∧ gi vs i < gi ws i) → (∀ i, Ix ws.length i → 0 ≤ gi us i ∧ gi us i < gi ws i) → cod ws vs = cod ws us → vs = us
  | [], [], [], _, _, _, _, _ => rfl
  | [], _ :: _, _, h, _, _, _, _ => by simp at h
  | [], _, _ :: _, _, h, _, _, _ => by simp at h
  | _ :: _, [], _, h, _, _, _, _ => by simp at h
  | _ :: _, _, [], _, h, _, _, _ => by simp at h
  | w :: ws, v :: vs, u :: us, hl, hl', h, h', e => by
    have h0 := h 0 ⟨by omega, by simp <;> omega⟩
    have h1 := h' 0 ⟨by omega, by simp <;> omega⟩
    simp [gi] at h0 h1
    have sub : ∀ (v : Int) (vs : List Int), (∀ i, Ix (w :: ws).length i → 0 ≤ gi (v :: vs) i ∧ gi (v :: vs) i < gi (w :: ws) i) → ∀ i, Ix ws.length i → 0 ≤ gi vs i ∧ gi vs i < gi ws i := fun v vs h i hi => by
      have := h (i + 1) ⟨by have := hi.1; omega, by have := hi.2; simp <;> omega⟩
      unfold gi at this ⊢
      rw [show (i + 1).toNat = i.toNat + 1 by have := hi.1; omega] at this
      simpa using this
    replace e : v.toNat + w.toNat * cod ws vs = u.toNat + w.toNat * cod ws us := e
    have hw : 0 < w.toNat := by omega
    have em : (v.toNat + w.toNat * cod ws vs) % w.toNat = (u.toNat + w.toNat * cod ws us) % w.toNat := by rw [e]
    rw [Nat.add_mul_mod_self_left, Nat.add_mul_mod_self_left, Nat.mod_eq_of_lt (by omega), Nat.mod_eq_of_lt (by omega)] at em
    have ed : w.toNat * cod ws vs = w.toNat * cod ws us := by omega
    have ed := Nat.eq_of_mul_eq_mul_left hw ed
    rw [cod_inj ws vs us (by simpa using hl) (by simpa using hl') (sub v vs h) (sub u us h') ed, show v = u by omega]
def stCod (b : Bk) (s : Sta) : Nat := cod b.wh s.1 + 24 * cod (b.ru.map fun _ => 3) s.2
theorem prod_nat {wh : List Int} (h : WhOk wh) : (wh.map Int.toNat).prod ≤ 24 := by
  have key : ∀ l : List Int, (∀ x ∈ l, 2 ≤ x ∧ x ≤ 4) → ((l.map Int.toNat).prod : Int) = l.prod := by
    intro l
    induction l with
    | nil => intro _; rfl
    | cons a l ih =>
      intro h
      have := h a (List.mem_cons_self ..)
      rw [List.map_cons, List.prod_cons, List.prod_cons, Int.natCast_mul, ih fun x hx => h x (List.mem_cons_of_mem _ hx)]
      congr 1
      omega
  have h1 := key wh h.m
  have h2 := h.p
  omega
theorem prod_pos {wh : List Int} (h : WhOk wh) : 0 < (wh.map Int.toNat).prod := by
  have key : ∀ l : List Int, (∀ x ∈ l, 2 ≤ x ∧ x ≤ 4) → 0 < (l.map Int.toNat).prod := by
    intro l
    induction l with
    | nil => intro _; decide
    | cons a l ih =>
      intro h
      have := h a (List.mem_cons_self ..)
      rw [List.map_cons, List.prod_cons]
      exact Nat.mul_pos (by omega) (ih fun x hx => h x (List.mem_cons_of_mem _ hx))
  exact key wh h.m
theorem gi_three {n : Nat} {l : List Rul} (hn : l.length = n) {i : Int} (hi : Ix n i) : gi (l.map fun _ => (3 : Int)) i = 3 := by
  obtain ⟨h0, h1⟩ := hi
  unfold gi
  rw [List.getD_eq_getElem?_getD, List.getElem?_eq_getElem (by rw [List.length_map]; omega), List.getElem_map]; rfl
theorem three_prod (l : List Rul) : ((l.map fun _ => (3 : Int)).map Int.toNat).prod = 3 ^ l.length := by
  induction l with
  | nil => rfl
  | cons a l ih => rw [List.map_cons, List.map_cons, List.prod_cons, ih, List.length_cons, Nat.pow_succ, Nat.mul_comm]; rfl
theorem hus_fit {b : Bk} {s : Sta} (h : StOk b s) : ∀ i, Ix (b.ru.map fun _ => (3 : Int)).length i → 0 ≤ gi s.2 i ∧ gi s.2 i < gi (b.ru.map fun _ => (3 : Int)) i := fun i hi => by
  rw [List.length_map] at hi
  rw [gi_three rfl hi]
  have := h.m2 _ (gi_mem (by rw [h.l2]; exact hi))
  omega
theorem stCod_lt {b : Bk} (hb : b.Ok) {s : Sta} (h : StOk b s) : stCod b s < 5832 := by
  have h1 : cod b.wh s.1 < 24 := by
    have := prod_nat hb.w
    have hp := prod_pos hb.w
    rcases cod_lt b.wh s.1 h.l1 h.m1 with h | h <;> omega
  have h2 : cod (b.ru.map fun _ => 3) s.2 < 243 := by
    have := cod_lt (b.ru.map fun _ => (3 : Int)) s.2 (by rw [List.length_map]; exact h.l2) (hus_fit h)
    rw [three_prod] at this
    have : 3 ^ b.ru.length ≤ 3 ^ 5 := Nat.pow_le_pow_right (by omega) hb.n
    have : 0 < 3 ^ b.ru.length := Nat.pow_pos (by omega)
    omega
  unfold stCod
  omega
theorem stCod_inj {b : Bk} (hb : b.Ok) {s t : Sta} (h : StOk b s) (h' : StOk b t) (e : stCod b s = stCod b t) : s = t := by
  have lt : ∀ {s : Sta}, StOk b s → cod b.wh s.1 < 24 := fun {s} h => by
    have := prod_nat hb.w
    have hp := prod_pos hb.w
    rcases cod_lt b.wh s.1 h.l1 h.m1 with h | h <;> omega
  have l1 := lt h
  have l2 := lt h'
  unfold stCod at e
  have e1 : cod b.wh s.1 = cod b.wh t.1 := by omega
  have e2 : cod (b.ru.map fun _ => 3) s.2 = cod (b.ru.map fun _ => 3) t.2 := by omega
  have a1 := cod_inj b.wh _ _ h.l1 h'.l1 h.m1 h'.m1 e1
  have a2 := cod_inj (b.ru.map fun _ => (3 : Int)) _ _ (by rw [List.length_map]; exact h.l2) (by rw [List.length_map]; exact h'.l2) (hus_fit h) (hus_fit h') e2
  exact Prod.ext a1 a2
theorem few {b : Bk} (hb : b.Ok) {l : List Sta} (hn : l.Nodup) (h : ∀ s ∈ l, StOk b s) : l.length ≤ 5832 :=
  nd_code (stCod b) 5832 hn (fun s hs => stCod_lt hb (h s hs)) fun s hs t ht e => stCod_inj hb (h s hs) (h t ht) e
end SP
set_option Elab.async false
set_option linter.all false
set_option maxRecDepth 100000
set_option maxHeartbeats 4000000
/-! S6: a run's track. -/
namespace SP
open PySem DL
def tst (b : Bk) (off : List Int) (s : Sta) : Sta := (beatOf b s (own b) off).2
def tdn (b : Bk) (off : List Int) (s : Sta) : List Int := (beatOf b s (own b) off).1
def trW (sts : List Sta) (dds : List (List Int)) (bg : Nat) : W := .ins 1 [(2, .lst (sts.map stW)), (3, .lst (dds.map fun d => tpI d)), (4, .int bg), (5, .int ((sts.length : Int) - bg))]
theorem tst_ok {b : Bk} (hb : b.Ok) {off : List Int} {s : Sta} (h : StOk b s) : StOk b (tst b off s) := beatOf_ok hb h (own_ix b)
theorem itr_ok {b : Bk} (hb : b.Ok) {off : List Int} {s : Sta} (h : StOk b s) : ∀ n, StOk b (itr (tst b off) n s)
  | 0 => h
  | n + 1 => tst_ok hb (itr_ok hb h n)
theorem eqv_st (a b : Sta) : W.eqv (stW a) (stW b) = decide (a = b) := by
  show (W.eqvL _ _ && (W.eqvL _ _ && true)) = _
  rw [eqvL_ints, eqvL_ints, Bool.and_true]
  obtain ⟨a1, a2⟩ := a
  obtain ⟨b1, b2⟩ := b
  by_cases h1 : a1 = b1
  · by_cases h2 : a2 = b2
    · subst h1; subst h2; simp
    · have e : (a2 == b2) = false := by simpa using h2
      simp [h1, h2, e]
  · have e : (a1 == b1) = false := by simpa using h1
    simp [h1, e]
theorem keyL_ints (n : Nat) : ∀ l : List Int, W.keyOkL n (l.map W.int) = true
  | [] => rfl
  | a :: l => by show (W.keyOk n (.int a) && W.keyOkL n (l.map W.int)) = true; rw [keyL_ints n l]; cases n <;> rfl
@[simp] theorem key_st (s : Sta) : isKey (stW s) = true := by
  show (W.keyOkL 6 _ && (W.keyOkL 6 _ && true)) = true
  rw [keyL_ints, keyL_ints]; rfl
/-- the dict of places -/
def kvs (k : Nat) : List Sta → List (W × W)
  | [] => []
  | s :: l => (stW s, .int k) :: kvs (k + 1) l
end SP
set_option Elab.async false
set_option linter.all false
set_option maxRecDepth 100000
set_option maxHeartbeats 4000000
/-! S7: runs. -/
namespace SP
open PySem DL
open Classical in
noncomputable def trk (b : Bk) (off : List Int) (s : Sta) : List Sta × Nat := if h : ∃ p : List Sta × Nat, Trk (tst b off) s p.1 p.2 then Classical.choose h else ([], 0)
noncomputable def trO (b : Bk) (off : List Int) (s : Sta) : W := trW (trk b off s).1 ((trk b off s).1.map (tdn b off)) (trk b off s).2
@[simp] theorem nl_tr (b : Bk) (off : List Int) (s : Sta) : (trO b off s).nl = true := by
  have hn : ∀ l : List Sta, nlL (l.map ((fun d => tpI d) ∘ tdn b off)) = true := fun l => nl_map (fun d => by simp) _
  simp [trO, trW, hn]
@[simp] theorem is_tr (b : Bk) (off : List Int) (s : Sta) : isIns 1 (trO b off s) = true := rfl
@[simp] theorem dd_tr (S : Sto) (b : Bk) (off : List Int) (s : Sta) : derefF S (trO b off s) = trO b off s := rfl
@[simp] theorem de_tr (S : Sto) (b : Bk) (off : List Int) (s : Sta) : deref S (trO b off s) = trO b off s := rfl
def MOST : Int := 1000000000000000000000000000000000000000000000000000000000000
end SP
set_option Elab.async false
set_option linter.all false
set_option maxRecDepth 100000
set_option maxHeartbeats 4000000
/-! S8: what the laws draw. -/
namespace SP
open PySem DL
/-- the bag stands in the cell n, at most c numbers were mixed -/
def Bg (n c : Nat) (S : Sto) : Prop := ∃ g b k : Int, S[n]? = some (.lst [.int g, .int b, .int k]) ∧ 0 ≤ k ∧ k ≤ c
/-- all cells below L but n stay -/
def Keep (n L : Nat) (S S' : Sto) : Prop := S.length ≤ S'.length ∧ ∀ i, i < L → i ≠ n → S'[i]? = S[i]?
theorem Keep.refl (n L : Nat) (S : Sto) : Keep n L S S := ⟨Nat.le_refl _, fun _ _ _ => rfl⟩
theorem Keep.trans {n L : Nat} {S S' S'' : Sto} (h : Keep n L S S') (h' : Keep n L S' S'') : Keep n L S S'' := ⟨Nat.le_trans h.1 h'.1, fun i hi hn => (h'.2 i hi hn).trans (h.2 i hi hn)⟩
theorem Keep.mono {n L L' : Nat} {S S' : Sto} (h : Keep n L S S') (hl : L' ≤ L) : Keep n L' S S' := ⟨h.1, fun i hi hn => h.2 i (by omega) hn⟩
theorem Keep.app (n : Nat) (S : Sto) (T : Sto) : Keep n S.length S (S ++ T) := ⟨by rw [List.length_append]; omega, fun i hi _ => List.getElem?_append_left hi⟩
theorem Keep.set (n : Nat) (L : Nat) (S : Sto) (c : Cell) {m : Nat} (h : L ≤ m ∨ m = n) : Keep n L S (S.set m c) := ⟨by rw [List.length_set]; exact Nat.le_refl _, fun i hi hn => List.getElem?_set_ne (by omega)⟩
theorem Bg.lt {n c : Nat} {S : Sto} (h : Bg n c S) : n < S.length := by obtain ⟨g, b, k, e, _⟩ := h; exact (List.getElem?_eq_some_iff.mp e).1
theorem Bg.mono {n c c' : Nat} {S : Sto} (h : Bg n c S) (hc : c ≤ c') : Bg n c' S := by obtain ⟨g, b, k, e, h0, h1⟩ := h; exact ⟨g, b, k, e, h0, by omega⟩
theorem Bg.app {n c : Nat} {S : Sto} (h : Bg n c S) (T : Sto) : Bg n c (S ++ T) := by obtain ⟨g, b, k, e, h0⟩ := h; exact ⟨g, b, k, by rw [List.getElem?_append_left (List.getElem?_eq_some_iff.mp e).1]; exact e, h0⟩
theorem Bg.set {n c : Nat} {S : Sto} (h : Bg n c S) {m : Nat} (hm : m ≠ n) (x : Cell) : Bg n c (S.set m x) := by obtain ⟨g, b, k, e, h0⟩ := h; exact ⟨g, b, k, by rw [List.getElem?_set_ne hm]; exact e, h0⟩
theorem d_take {S : Sto} {n c : Nat} {m : Int} (hB : Bg n c S) (hm : 0 < m) (hm2 : m < divLim) (hc : c < 1000000000) :
    ∃ d S', 0 ≤ d ∧ d < m ∧ f__law_take [.loc n, .int m] S = .ok (.int d) S' ∧ S'.length = S.length ∧ Keep n S.length S S' ∧ Bg n (c + 1) S' := by
  obtain ⟨g, b, k, hS, hk, hkc⟩ := hB
  have hl : n < S.length := (List.getElem?_eq_some_iff.mp hS).1
  have a0 : L2.atI [W.int g, .int b, .int k] 0 = some (.int g) := by simp [L2.atI, L2.ixN]
  have a1 : L2.atI [W.int g, .int b, .int k] 1 = some (.int b) := by simp [L2.atI, L2.ixN]
  have a2 : L2.atI [W.int g, .int b, .int k] 2 = some (.int k) := by simp [L2.atI, L2.ixN]
  by_cases hg : 0 < g
  · refine ⟨g % m, S.set n (.lst [.int (g / m), .int b, .int k]), Int.emod_nonneg _ (by omega), Int.emod_lt_of_pos _ hm, ?_, List.length_set, Keep.set n _ _ _ (.inr rfl), ⟨g / m, b, k, List.getElem?_set_self hl, hk, by omega⟩⟩
    simp [f__law_take, startW, hS, a0, hg, hm, hm2, setIxR, L2.ixN]
  · have m1 : mulOk b 48271 = true := by simp [mulOk]
    have m2 : mulOk 7919 (k + 1) = true := by simp [mulOk]
    have m3 : mulOk (7919 * (k + 1)) (k + 1) = true := by
      have h1 : -(2 ^ 64) < k + 1 := by omega
      have h2 : k + 1 < 2 ^ 64 := by omega
      unfold mulOk
      rw [decide_eq_true h1, decide_eq_true h2]; simp
    have hb1 : 0 ≤ (b * 48271 + 7919 * (k + 1) * (k + 1) + 11) % 2147483647 := Int.emod_nonneg _ (by omega)
    have hb2 : (b * 48271 + 7919 * (k + 1) * (k + 1) + 11) % 2147483647 < 2147483647 := Int.emod_lt_of_pos _ (by omega)
    generalize hbb : (b * 48271 + 7919 * (k + 1) * (k + 1) + 11) % 2147483647 = B at hb1 hb2
    have p1 : (B / 8).natAbs < 18446744073709551616 := by omega
    have d8 : (8 : Int) < divLim := by decide
    have c0 : L2.atI [W.int g, .int b, .int (k + 1)] 1 = some (.int b) := by simp [L2.atI, L2.ixN]
    have c2 : L2.atI [W.int g, .int b, .int (k + 1)] 2 = some (.int (k + 1)) := by simp [L2.atI, L2.ixN]
    have c1 : L2.atI [W.int g, .int B, .int (k + 1)] 1 = some (.int B) := by simp [L2.atI, L2.ixN]
    refine ⟨(B / 8) ^ 3 % 2147483629 % m, S.set n (.lst [.int g, .int B, .int (k + 1)]), Int.emod_nonneg _ (by omega), Int.emod_lt_of_pos _ hm, ?_, List.length_set, Keep.set n _ _ _ (.inr rfl), ⟨g, B, k + 1, List.getElem?_set_self hl, by omega, by omega⟩⟩
    have hset : ∀ c : Cell, (S.set n c)[n]? = some c := fun c => List.getElem?_set_self hl
    simp [f__law_take, startW, hS, a0, a2, hg, hm, setIxR, L2.ixN, hset, m1, m2, m3, hbb, p1, d8, c0, c1, c2]
/-- a comprehension that draws -/
theorem comp_draw {α : Type} {w : α → W} {P : α → Prop} {step : W → Sto → LRes} {n L k : Nat} : ∀ (xs : List W) (acc : List W) (S : Sto) (c : Nat), Bg n c S → L ≤ S.length →
    (∀ x ∈ xs, ∀ S c', Bg n c' S → L ≤ S.length → c' ≤ c + k * xs.length → ∃ y S', P y ∧ step x S = .ok [w y] S' ∧ Keep n L S S' ∧ Bg n (c' + k) S') →
    ∃ (ys : List α) (S' : Sto), ys.length = xs.length ∧ (∀ y ∈ ys, P y) ∧ compM step xs acc S = .ok (acc ++ ys.map w) S' ∧ Keep n L S S' ∧ Bg n (c + k * xs.length) S'
  | [], acc, S, c, hB, _, _ => ⟨[], S, rfl, (fun _ h => nomatch h), by simp, Keep.refl _ _ _, hB⟩
  | x :: xs, acc, S, c, hB, hL, h => by
    obtain ⟨y, S1, hy, e1, k1, b1⟩ := h x (List.mem_cons_self ..) S c hB hL (by omega)
    obtain ⟨ys, S2, hl, hP, e2, k2, b2⟩ := comp_draw (w := w) (P := P) xs (acc ++ [w y]) S1 (c + k) b1 (Nat.le_trans hL k1.1) fun x' hx S' c' hb hl hc => h x' (List.mem_cons_of_mem _ hx) S' c' hb hl (by rw [List.length_cons, Nat.mul_add]; omega)
    refine ⟨y :: ys, S2, by rw [List.length_cons, List.length_cons, hl], fun z hz => ?_, ?_, k1.trans k2, b2.mono (by rw [List.length_cons, Nat.mul_add]; omega)⟩
    · rcases List.mem_cons.mp hz with rfl | hz
      · exact hy
      · exact hP z hz
    · show (step x S).bindL _ = _
      rw [e1]
      show compM step xs (acc ++ [w y]) S1 = _
      rw [e2, List.map_cons, List.append_assoc]; rfl
end SP
set_option Elab.async false
set_option linter.all false
set_option maxRecDepth 100000
set_option maxHeartbeats 4000000
/-! S9: drawn conditions, changes, rules, wheels, books, states. -/
namespace SP
open PySem DL
theorem n3 : (3 : Int) < divLim := by decide
theorem small_div {m : Int} (h : m ≤ 1000000000000) : m < divLim := Int.lt_of_le_of_lt h (by decide)
theorem d_condition {wh : List Int} {n many c : Nat} {S : Sto} (hw : WhOk wh) (hm : 0 < many) (hm2 : many ≤ 5) (hB : Bg n c S) (hc : c ≤ 900000000) :
    ∃ cn S', Cnd.Ok wh many cn ∧ f__law_condition [.loc n, tpI wh, .int many] S = .ok cn.w S' ∧ Keep n S.length S S' ∧ Bg n (c + 3) S' := by
  obtain ⟨d, S1, p1, p2, e1, l1, k1, b1⟩ := d_take hB (m := 6) (by omega) (by decide) (by omega)
  have hwl := hw.l0
  have hwl2 := hw.l1
  have l6 : 6 ≤ limit := by unfold limit; omega
  have l2 : 2 ≤ limit := by unfold limit; omega
  have l3 : 3 ≤ limit := by unfold limit; omega
  have mem : ∀ x : Str, PyData.strOk x = true → memW (.str x) [W.str "hushed", W.str "awake"] = some ((["hushed", "awake"] : List Str).contains x) := fun x hx => memW_strs x ["hushed", "awake"] hx ok_words2
  have i0 : L2.atI [W.str "is", .str "is", .str "not", .str "below", .str "hushed", .str "awake"] d = some (.str (if d < 2 then "is" else if d = 2 then "not" else if d = 3 then "below" else if d = 4 then "hushed" else "awake")) := by
    rcases (by omega : d = 0 ∨ d = 1 ∨ d = 2 ∨ d = 3 ∨ d = 4 ∨ d = 5) with rfl | rfl | rfl | rfl | rfl | rfl <;> rfl
  by_cases hd : d < 4
  · have hk : ∃ k : PK, (if d < 2 then ("is" : Str) else if d = 2 then "not" else if d = 3 then "below" else if d = 4 then "hushed" else "awake") = k.s := by
      rcases (by omega : d = 0 ∨ d = 1 ∨ d = 2 ∨ d = 3) with rfl | rfl | rfl | rfl
      · exact ⟨.is, rfl⟩
      · exact ⟨.is, rfl⟩
      · exact ⟨.not, rfl⟩
      · exact ⟨.below, rfl⟩
    obtain ⟨k, hk⟩ := hk
    rw [hk] at i0
    have mk : (["hushed", "awake"] : List Str).contains k.s = false := by cases k <;> kernel_rfl
    have mk2 := mem k.s (pk_ok k)
    rw [mk] at mk2
    obtain ⟨w, S2, q1, q2, e2, l2', k2, b2⟩ := d_take b1 (m := wh.length) (by omega) (small_div (by omega)) (by omega)
    have hw' : Ix wh.length w := ⟨q1, q2⟩
    have hg := prod_gi hw hw'
    obtain ⟨p, S3, r1, r2, e3, l3', k3, b3⟩ := d_take b2 (m := gi wh w) (by omega) (small_div (by omega)) (by omega)
    refine ⟨.pl k w p, S3, ⟨hw', r1, r2⟩, ?_, (k1.trans (k2.mono (by omega))).trans (k3.mono (by omega)), b3⟩
    simp [f__law_condition, startW, l6, e1, i0, l2, mk2, e2, e3, gi_at hw', l3, Cnd.w]
  · have hk : ∃ f : Int → Cnd, (∃ s : Str, (∀ r, (f r).w = .tup [.str s, .int r]) ∧ PyData.strOk s = true ∧ (["hushed", "awake"] : List Str).contains s = true ∧ (if d < 2 then ("is" : Str) else if d = 2 then "not" else if d = 3 then "below" else if d = 4 then "hushed" else "awake") = s) ∧ ∀ r, Ix many r → (f r).Ok wh many := by
      rcases (by omega : d = 4 ∨ d = 5) with rfl | rfl
      · exact ⟨.hu, ⟨"hushed", fun _ => rfl, by kernel_rfl, by kernel_rfl, rfl⟩, fun r h => h⟩
      · exact ⟨.aw, ⟨"awake", fun _ => rfl, by kernel_rfl, by kernel_rfl, rfl⟩, fun r h => h⟩
    obtain ⟨f, ⟨s, hf, so, sc, hk⟩, hok⟩ := hk
    rw [hk] at i0
    have mk2 := mem s so
    rw [sc] at mk2
    obtain ⟨w, S2, q1, q2, e2, l2', k2, b2⟩ := d_take b1 (m := many) (by omega) (small_div (by omega)) (by omega)
    refine ⟨f w, S2, hok w ⟨q1, q2⟩, ?_, k1.trans (k2.mono (by omega)), b2.mono (by omega)⟩
    simp [f__law_condition, startW, l6, e1, i0, l2, mk2, e2, hf]
theorem d_change {wh : List Int} {n c : Nat} {S : Sto} (hw : WhOk wh) (hB : Bg n c S) (hc : c ≤ 900000000) :
    ∃ (cn : Chg) (S' : Sto), cn.Ok wh ∧ f__law_change [.loc n, tpI wh] S = .ok cn.W S' ∧ Keep n S.length S S' ∧ Bg n (c + 3) S' := by
  have hwl := hw.l0
  have hwl2 := hw.l1
  have l3 : 3 ≤ limit := by unfold limit; omega
  obtain ⟨w, S2, q1, q2, e2, l2', k2, b2⟩ := d_take hB (m := wh.length) (by omega) (small_div (by omega)) (by omega)
  have hw' : Ix wh.length w := ⟨q1, q2⟩
  have hg := prod_gi hw hw'
  obtain ⟨d, S1, p1, p2, e1, l1, k1, b1⟩ := d_take b2 (m := 3) (by omega) (by decide) (by omega)
  obtain ⟨p, S3, r1, r2, e3, l3', k3, b3⟩ := d_take b1 (m := gi wh w) (by omega) (small_div (by omega)) (by omega)
  have hk : ∃ t : Bool, L2.atI [W.str "turn", .str "turn", .str "put"] d = some (.str (if t then "put" else "turn")) := by
    rcases (by omega : d = 0 ∨ d = 1 ∨ d = 2) with rfl | rfl | rfl
    · exact ⟨false, rfl⟩
    · exact ⟨false, rfl⟩
    · exact ⟨true, rfl⟩
  obtain ⟨t, ht⟩ := hk
  refine ⟨⟨t, w, p⟩, S3, ⟨hw', r1, r2⟩, ?_, (k2.trans (k1.mono (by omega))).trans (k3.mono (by omega)), b3⟩
  simp [f__law_change, startW, l3, e2, e1, ht, e3, gi_at hw', Chg.W, Chg.wd]
theorem small_range {j : Int} (h0 : 0 ≤ j) (h : j ≤ 100000) : -(2 ^ 62 : Int) ≤ j ∧ j < 2 ^ 62 := ⟨Int.le_trans (by decide) h0, Int.lt_of_le_of_lt h (by decide)⟩
theorem rangeW_length (n : Nat) : ∀ lo, (rangeW lo n).length = n := fun lo => rangeW_len n lo
/-- hushes and wakes of a rule: what the loop makes -/
theorem d_parts {n m1 m2 many : Nat} (wh x3 x4 : Option W) (hne : m1 ≠ n) (hne2 : m2 ≠ n) (h12 : m1 ≠ m2) (hm5 : many ≤ 5) : ∀ (t lo : Nat) (hus : List (Int × Int)) (wak : List Int) (S : Sto) (c : Nat) (x7 x8 x9 : Option W), lo + t = many → Bg n c S → c + 2 * t ≤ 900000000 → S[m1]? = some (.lst (hus.map hw)) → S[m2]? = some (.lst (wak.map W.int)) → hus.length ≤ lo → wak.length ≤ lo →
    (∀ p ∈ hus, (0 ≤ p.1 ∧ p.1 < lo) ∧ 1 ≤ p.2 ∧ p.2 ≤ 3) → (hus.map (·.1)).Pairwise (· < ·) → (∀ p ∈ wak, 0 ≤ p ∧ p < lo) → wak.Pairwise (· < ·) → (∀ p ∈ hus, p.1 ∉ wak) →
    ∃ (hus' : List (Int × Int)) (wak' : List Int) (S' : Sto) (x7' x8' : Option W), forM (.nm 7) b__law_rule_1 (rangeW lo t) [some (.loc n), wh, some (.int many), x3, x4, some (.loc m1), some (.loc m2), x7, x8, x9] S = .nx [some (.loc n), wh, some (.int many), x3, x4, some (.loc m1), some (.loc m2), x7', x8', x9] S' ∧
      S'.length = S.length ∧ (∀ i, i ≠ n → i ≠ m1 → i ≠ m2 → S'[i]? = S[i]?) ∧ Bg n (c + 2 * t) S' ∧ S'[m1]? = some (.lst (hus'.map hw)) ∧ S'[m2]? = some (.lst (wak'.map W.int)) ∧
      (∀ p ∈ hus', Ix many p.1 ∧ 1 ≤ p.2 ∧ p.2 ≤ 3) ∧ (hus'.map (·.1)).Pairwise (· < ·) ∧ (∀ p ∈ wak', Ix many p) ∧ wak'.Pairwise (· < ·) ∧ (∀ p ∈ hus', p.1 ∉ wak')
  | 0, lo, hus, wak, S, c, x7, x8, x9, hlo, hB, hc, h1, h2, hl1, hl2, a1, a2, a3, a4, a5 => by
    have : lo = many := by omega
    subst this
    exact ⟨hus, wak, S, x7, x8, rfl, rfl, fun _ _ _ _ => rfl, hB, h1, h2, a1, a2, a3, a4, a5⟩
  | t + 1, lo, hus, wak, S, c, x7, x8, x9, hlo, hB, hc, h1, h2, hl1, hl2, a1, a2, a3, a4, a5 => by
    have l2 : 2 ≤ limit := by unfold limit; omega
    have ll1 : hus.length < limit := by unfold limit; omega
    have ll2 : wak.length < limit := by unfold limit; omega
    obtain ⟨d, S1, p1, p2, e1, l1, k1, b1⟩ := d_take hB (m := 5) (by omega) (by decide) (by omega)
    have m1l : m1 < S.length := (List.getElem?_eq_some_iff.mp h1).1
    have m2l : m2 < S.length := (List.getElem?_eq_some_iff.mp h2).1
    have g1 : S1[m1]? = some (.lst (hus.map hw)) := by rw [k1.2 m1 m1l hne]; exact h1
    have g2 : S1[m2]? = some (.lst (wak.map W.int)) := by rw [k1.2 m2 m2l hne2]; exact h2
    have kk : ∀ i, i ≠ n → S1[i]? = S[i]? := fun i hi => by
      by_cases h : i < S.length
      · exact k1.2 i h hi
      · rw [List.getElem?_eq_none (by omega), List.getElem?_eq_none (by omega)]
    have er : rangeW (lo : Int) (t + 1) = .int lo :: rangeW ((lo + 1 : Nat) : Int) t := by rw [rangeW]; push_cast; rfl
    by_cases hd0 : d = 0
    · obtain ⟨d2, S2, q1, q2, e2, l2', k2, b2⟩ := d_take b1 (m := 3) (by omega) (by decide) (by omega)
      have kk2 : ∀ i, i ≠ n → S2[i]? = S[i]? := fun i hi => by
        by_cases h : i < S1.length
        · rw [k2.2 i h hi]; exact kk i hi
        · rw [List.getElem?_eq_none (by omega), List.getElem?_eq_none (by omega)]
      have f1 : S2[m1]? = some (.lst (hus.map hw)) := by rw [kk2 m1 hne]; exact h1
      have f2 : S2[m2]? = some (.lst (wak.map W.int)) := by rw [kk2 m2 hne2]; exact h2
      have em : (hus ++ [((lo : Int), 1 + d2)]).map hw = hus.map hw ++ [.tup [.int lo, .int (1 + d2)]] := by rw [List.map_append]; rfl
      obtain ⟨hus', wak', S', x7', x8', r1, r2, r3, r4, r5⟩ := d_parts wh x3 x4 hne hne2 h12 hm5 t (lo + 1) (hus ++ [((lo : Int), 1 + d2)]) wak (S2.set m1 (.lst (hus.map hw ++ [.tup [.int lo, .int (1 + d2)]]))) (c + 2) (some (.int lo)) (some (.int d)) x9 (by omega) (b2.set hne _) (by omega) (by rw [em]; exact List.getElem?_set_self (by omega)) (by rw [List.getElem?_set_ne h12]; exact f2) (by rw [List.length_append, List.length_singleton]; omega) (by omega)
        (fun p hp => by
          rcases List.mem_append.mp hp with hp | hp
          · have := a1 p hp; omega
          · have : p = ((lo : Int), 1 + d2) := by simpa using hp
            subst this
            dsimp only; omega)
        (by
          rw [List.map_append, List.pairwise_append]
          refine ⟨a2, by simp, fun x hx y hy => ?_⟩
          obtain ⟨p, hp, rfl⟩ := List.mem_map.mp hx
          have : y = (lo : Int) := by simpa using hy
          have := (a1 p hp).1
          omega)
        (fun p hp => by have := a3 p hp; omega) a4
        (fun p hp => by
          rcases List.mem_append.mp hp with hp | hp
          · exact a5 p hp
          · have : p = ((lo : Int), 1 + d2) := by simpa using hp
            subst this
            intro hm
            have := a3 _ hm
            dsimp only at this; omega)
      refine ⟨hus', wak', S', x7', x8', ?_, by rw [r2, List.length_set]; omega, fun i i1 i2 i3 => by rw [r3 i i1 i2 i3, List.getElem?_set_ne (Ne.symm i2)]; exact kk2 i i1, r4.mono (by omega), r5⟩
      rw [er, for_cons, ← r1]
      simp [b__law_rule_1, e1, hd0, e2, l2, f1, isCell, g1, appR, ll1]
    · by_cases hd1 : d = 1
      · have em : (wak ++ [(lo : Int)]).map W.int = wak.map W.int ++ [.int lo] := by rw [List.map_append]; rfl
        obtain ⟨hus', wak', S', x7', x8', r1, r2, r3, r4, r5⟩ := d_parts wh x3 x4 hne hne2 h12 hm5 t (lo + 1) hus (wak ++ [(lo : Int)]) (S1.set m2 (.lst (wak.map W.int ++ [.int lo]))) (c + 2) (some (.int lo)) (some (.int d)) x9 (by omega) ((b1.mono (by omega)).set hne2 _) (by omega) (by rw [List.getElem?_set_ne (Ne.symm h12)]; exact g1) (by rw [em]; exact List.getElem?_set_self (by omega)) (by omega) (by rw [List.length_append, List.length_singleton]; omega)
          (fun p hp => by have := a1 p hp; omega) a2
          (fun p hp => by
            rcases List.mem_append.mp hp with hp | hp
            · have := a3 p hp; omega
            · have : p = (lo : Int) := by simpa using hp
              omega)
          (by
            rw [List.pairwise_append]
            refine ⟨a4, by simp, fun x hx y hy => ?_⟩
            have : y = (lo : Int) := by simpa using hy
            have := (a3 x hx)
            omega)
          (fun p hp hm => by
            rcases List.mem_append.mp hm with hm | hm
            · exact a5 p hp hm
            · have : p.1 = (lo : Int) := by simpa using hm
              have := (a1 p hp).1
              omega)
        refine ⟨hus', wak', S', x7', x8', ?_, by rw [r2, List.length_set]; omega, fun i i1 i2 i3 => by rw [r3 i i1 i2 i3, List.getElem?_set_ne (Ne.symm i3)]; exact kk i i1, r4.mono (by omega), r5⟩
        rw [er, for_cons, ← r1]
        simp [b__law_rule_1, e1, hd1, isCell, g2, appR, ll2]
      · obtain ⟨hus', wak', S', x7', x8', r1, r2, r3, r4, r5⟩ := d_parts wh x3 x4 hne hne2 h12 hm5 t (lo + 1) hus wak S1 (c + 2) (some (.int lo)) (some (.int d)) x9 (by omega) (b1.mono (by omega)) (by omega) g1 g2 (by omega) (by omega)
          (fun p hp => by have := a1 p hp; omega) a2 (fun p hp => by have := a3 p hp; omega) a4 a5
        refine ⟨hus', wak', S', x7', x8', ?_, by rw [r2]; omega, fun i i1 i2 i3 => by rw [r3 i i1 i2 i3]; exact kk i i1, r4.mono (by omega), r5⟩
        rw [er, for_cons, ← r1]
        have h5 : (d == 0) = false := by simpa using hd0
        have h6 : (d == 1) = false := by simpa using hd1
        simp [b__law_rule_1, e1, h5, h6]
end SP
set_option Elab.async false
set_option linter.all false
set_option maxRecDepth 100000
set_option maxHeartbeats 4000000
/-! S10: drawn rules, wheels, books. -/
namespace SP
open PySem DL
theorem d_rule {wh : List Int} {n many c : Nat} {S : Sto} (hw : WhOk wh) (hm : 0 < many) (hm5 : many ≤ 5) (hB : Bg n c S) (hc : c ≤ 800000000) :
    ∃ (r : Rul) (S' : Sto), r.Ok wh many ∧ f__law_rule [.loc n, tpI wh, .int many] S = .ok r.W S' ∧ Keep n S.length S S' ∧ Bg n (c + 40) S' := by
  obtain ⟨d, S1, p1, p2, e1, l1, k1, b1⟩ := d_take hB (m := 6) (by omega) (by decide) (by omega)
  have l6 : 6 ≤ limit := by unfold limit; omega
  have l5 : 5 ≤ limit := by unfold limit; omega
  have l4 : 4 ≤ limit := by unfold limit; omega
  have l0 : 0 ≤ limit := Nat.zero_le _
  have i0 : ∃ t : Nat, t ≤ 4 ∧ L2.atI [W.int 1, .int 1, .int 0, .int 2, .int 3, .int 4] d = some (.int t) := by
    rcases (by omega : d = 0 ∨ d = 1 ∨ d = 2 ∨ d = 3 ∨ d = 4 ∨ d = 5) with rfl | rfl | rfl | rfl | rfl | rfl
    · exact ⟨1, by omega, rfl⟩
    · exact ⟨1, by omega, rfl⟩
    · exact ⟨0, by omega, rfl⟩
    · exact ⟨2, by omega, rfl⟩
    · exact ⟨3, by omega, rfl⟩
    · exact ⟨4, by omega, rfl⟩
  obtain ⟨t, ht, i0⟩ := i0
  have hcomp1 : ∀ a3 a4 a5 a6 a7 a8 a9 : Option W, ∃ (ys : List Cnd) (S' : Sto), ys.length = t ∧ (∀ y ∈ ys, y.Ok wh many) ∧ compM (lcStep [some (.loc n), some (tpI wh), some (.int many), a3, a4, a5, a6, a7, a8, a9] [9] (.nm 9) bYes (mCall f__law_condition (mCons (mVar 0) (mCons (mVar 1) (mCons (mVar 2) mNil))))) (rangeW 0 t) [] S1 = .ok (ys.map Cnd.w) S' ∧ Keep n S1.length S1 S' ∧ Bg n (c + 1 + 3 * t) S' := by
    intro a3 a4 a5 a6 a7 a8 a9
    have := comp_draw (w := Cnd.w) (P := fun y => y.Ok wh many) (step := lcStep [some (.loc n), some (tpI wh), some (.int many), a3, a4, a5, a6, a7, a8, a9] [9] (.nm 9) bYes (mCall f__law_condition (mCons (mVar 0) (mCons (mVar 1) (mCons (mVar 2) mNil))))) (n := n) (L := S1.length) (k := 3) (rangeW 0 t) [] S1 (c + 1) b1 (Nat.le_refl _) (by
      intro x hx S' c' hb hl hc'
      rw [rangeW_length] at hc'
      obtain ⟨y, S2, q1, q2, q3, q4⟩ := d_condition hw hm hm5 hb (by omega)
      exact ⟨y, S2, q1, by simp [lcStep, q2], q3.mono hl, q4⟩)
    rw [rangeW_length] at this
    simpa using this
  obtain ⟨ys, S2, yl, yP, e2, k2, b2⟩ := hcomp1 none none none none none none none
  obtain ⟨d2, S3, p3, p4, e3, l3, k3, b3⟩ := d_take b2 (m := 5) (by omega) (by decide) (by omega)
  have i1 : ∃ u : Nat, u ≤ 3 ∧ L2.atI [W.int 1, .int 1, .int 2, .int 0, .int 3] d2 = some (.int u) := by
    rcases (by omega : d2 = 0 ∨ d2 = 1 ∨ d2 = 2 ∨ d2 = 3 ∨ d2 = 4) with rfl | rfl | rfl | rfl | rfl
    · exact ⟨1, by omega, rfl⟩
    · exact ⟨1, by omega, rfl⟩
    · exact ⟨2, by omega, rfl⟩
    · exact ⟨0, by omega, rfl⟩
    · exact ⟨3, by omega, rfl⟩
  obtain ⟨u, hu, i1⟩ := i1
  have hcomp2 : ∃ (zs : List Chg) (S' : Sto), zs.length = u ∧ (∀ y ∈ zs, y.Ok wh) ∧ compM (lcStep [some (.loc n), some (tpI wh), some (.int many), some (.lst (ys.map Cnd.w)), none, none, none, none, none, none] [9] (.nm 9) bYes (mCall f__law_change (mCons (mVar 0) (mCons (mVar 1) mNil)))) (rangeW 0 u) [] S3 = .ok (zs.map Chg.W) S' ∧ Keep n S3.length S3 S' ∧ Bg n (c + 1 + 3 * t + 1 + 3 * u) S' := by
    have := comp_draw (w := Chg.W) (P := fun y => y.Ok wh) (step := lcStep [some (.loc n), some (tpI wh), some (.int many), some (.lst (ys.map Cnd.w)), none, none, none, none, none, none] [9] (.nm 9) bYes (mCall f__law_change (mCons (mVar 0) (mCons (mVar 1) mNil)))) (n := n) (L := S3.length) (k := 3) (rangeW 0 u) [] S3 (c + 1 + 3 * t + 1) b3 (Nat.le_refl _) (by
      intro x hx S' c' hb hl hc'
      rw [rangeW_length] at hc'
      obtain ⟨y, S2, q1, q2, q3, q4⟩ := d_change hw hb (by omega)
      exact ⟨y, S2, q1, by simp [lcStep, q2], q3.mono hl, q4⟩)
    rw [rangeW_length] at this
    simpa using this
  obtain ⟨zs, S4, zl, zP, e4, k4, b4⟩ := hcomp2
  have hn4 : n < S4.length := b4.lt
  obtain ⟨hus, wak, S5, x7, x8, r1, r2, r3, r4, r5, r6, r7, r8, r9, r10, r11⟩ := d_parts (n := n) (m1 := S4.length) (m2 := S4.length + 1) (many := many) (some (tpI wh)) (some (.lst (ys.map Cnd.w))) (some (.lst (zs.map Chg.W))) (by omega) (by omega) (by omega) hm5 many 0 [] [] (S4 ++ [.lst []] ++ [.lst []]) (c + 1 + 3 * t + 1 + 3 * u) none none none (by omega) ((b4.app _).app _) (by omega) (by simp) (by simp) (by simp) (by simp) (fun _ h => nomatch h) (by simp) (fun _ h => nomatch h) (by simp) (fun _ h => nomatch h)
  refine ⟨⟨ys, zs, hus, wak⟩, S5, ⟨by show ys.length ≤ 4; omega, yP, by show zs.length ≤ 3; omega, zP, r7, r8, r9, r10, r11⟩, ?_, ?_, r4.mono (by omega)⟩
  · have hr : (t : Int) < 4611686018427387904 := by omega
    have hr2 : (u : Int) < 4611686018427387904 := by omega
    have hr3 : (many : Int) < 4611686018427387904 := by omega
    have t1 : (rangeW 0 t).length ≤ limit := by rw [rangeW_length]; unfold limit; omega
    have t2 : (rangeW 0 u).length ≤ limit := by rw [rangeW_length]; unfold limit; omega
    simp only [List.append_assoc, List.cons_append, List.nil_append] at r1
    have r1' : forM (.nm 7) b__law_rule_1 (rangeW 0 many) [some (.loc n), some (tpI wh), some (.int many), some (.lst (ys.map Cnd.w)), some (.lst (zs.map Chg.W)), some (.loc S4.length), some (.loc (S4.length + 1)), none, none, none] (S4 ++ [.lst [], .lst []]) = _ := r1
    simp only [f__law_rule, o_fn, List.length_cons, List.length_nil]
    simp only [startW, List.map_cons, List.map_nil, o_seq, o_asg, o_lc, o_range1, o_idx, o_tup, o_cons, o_nil, o_con, o_call, o_var]
    simp [l6, l5, e1, i0, hr, t1, e2, e3, i1, hr2, t2, e4, l0, hr3, r1', r5, r6, l4, Rul.W]
  · refine (k1.trans ((k2.mono (by omega)).trans ((k3.mono (by have := k2.1; omega)).trans (k4.mono (by have := k2.1; omega))))).trans ⟨?_, fun i hi hne => ?_⟩
    · have h2 : (S4 ++ [Cell.lst []] ++ [Cell.lst []]).length = S4.length + 2 := by simp
      omega
    · have hi4 : i < S4.length := by have := k2.1; have := k3.1; have := k4.1; omega
      rw [r3 i hne (by omega) (by omega), List.append_assoc, List.getElem?_append_left hi4]
end SP
set_option Elab.async false
set_option linter.all false
set_option maxRecDepth 100000
set_option maxHeartbeats 4000000
/-! S11: drawn books and states. -/
namespace SP
open PySem DL
theorem d_rules {wh : List Int} {n many c : Nat} {S : Sto} (hw : WhOk wh) (hm5 : many ≤ 5) (hB : Bg n c S) (hc : c ≤ 700000000) :
    ∃ (rs : List Rul) (S' : Sto), rs.length = many ∧ (∀ r ∈ rs, r.Ok wh many) ∧ f__law_rules [.loc n, tpI wh, .int many] S = .ok (.tup (rs.map Rul.W)) S' ∧ Keep n S.length S S' ∧ Bg n (c + 40 * many) S' := by
  have := comp_draw (w := Rul.W) (P := fun y => y.Ok wh many) (step := lcStep [some (.loc n), some (tpI wh), some (.int many), none] [3] (.nm 3) bYes (mCall f__law_rule (mCons (mVar 0) (mCons (mVar 1) (mCons (mVar 2) mNil))))) (n := n) (L := S.length) (k := 40) (rangeW 0 many) [] S c hB (Nat.le_refl _) (by
    intro x hx S' c' hb hl hc'
    rw [rangeW_length] at hc'
    have hm : 0 < many := by
      cases many with
      | zero => cases hx
      | succ m => omega
    obtain ⟨y, S2, q1, q2, q3, q4⟩ := d_rule hw hm hm5 hb (by omega)
    exact ⟨y, S2, q1, by simp [lcStep, q2], q3.mono hl, q4⟩)
  rw [rangeW_length] at this
  obtain ⟨ys, S', h1, h2, h3, h4, h5⟩ := this
  rw [List.nil_append] at h3
  have hr : (many : Int) < 4611686018427387904 := by omega
  have t1 : (rangeW 0 many).length ≤ limit := by rw [rangeW_length]; unfold limit; omega
  exact ⟨ys, S', h1, h2, by simp [f__law_rules, startW, hr, t1, h3], h4, h5⟩
theorem prod_app (l : List Int) (x : Int) : (l ++ [x]).prod = l.prod * x := by
  induction l with
  | nil => simp
  | cons a l ih => rw [List.cons_append, List.prod_cons, List.prod_cons, ih, Int.mul_assoc]
theorem d_wheels_loop {n m : Nat} (hne : m ≠ n) : ∀ (t lo : Nat) (found : List Int) (S : Sto) (c : Nat) (x3 x4 : Option W), Bg n c S → c + t ≤ 900000000 → S[m]? = some (.lst (found.map W.int)) → found.length + t ≤ 3 → (∀ x ∈ found, 2 ≤ x ∧ x ≤ 4) → found.prod ≤ 24 → 1 ≤ found.prod →
    ∃ (found' : List Int) (S' : Sto) (x3' x4' : Option W), forM (.nm 3) b__law_wheels_1 (rangeW lo t) [some (.loc n), some (.loc m), some (.int found.prod), x3, x4] S = .nx [some (.loc n), some (.loc m), some (.int found'.prod), x3', x4'] S' ∧
      S'.length = S.length ∧ (∀ i, i ≠ n → i ≠ m → S'[i]? = S[i]?) ∧ Bg n (c + t) S' ∧ S'[m]? = some (.lst (found'.map W.int)) ∧ found'.length ≤ 3 ∧ (∀ x ∈ found', 2 ≤ x ∧ x ≤ 4) ∧ found'.prod ≤ 24 ∧ (0 < t → found = [] → found' ≠ []) ∧ (found ≠ [] → found' ≠ [])
  | 0, lo, found, S, c, x3, x4, hB, hc, hS, hl, hm, hp, hp1 => ⟨found, S, x3, x4, rfl, rfl, fun _ _ _ => rfl, hB, hS, by omega, hm, hp, fun h => by omega, fun h => h⟩
  | t + 1, lo, found, S, c, x3, x4, hB, hc, hS, hl, hm, hp, hp1 => by
    obtain ⟨d, S1, p1, p2, e1, l1, k1, b1⟩ := d_take hB (m := 3) (by omega) (by decide) (by omega)
    have ml : m < S.length := (List.getElem?_eq_some_iff.mp hS).1
    have g1 : S1[m]? = some (.lst (found.map W.int)) := by rw [k1.2 m ml hne]; exact hS
    have kk : ∀ i, i ≠ n → S1[i]? = S[i]? := fun i hi => by
      by_cases h : i < S.length
      · exact k1.2 i h hi
      · rw [List.getElem?_eq_none (by omega), List.getElem?_eq_none (by omega)]
    have er : rangeW (lo : Int) (t + 1) = .int lo :: rangeW ((lo + 1 : Nat) : Int) t := by rw [rangeW]; push_cast; rfl
    have hmu : mulOk found.prod (2 + d) = true := by
      unfold mulOk
      have h1 : -(2 ^ 64) < 2 + d := by omega
      have h2 : 2 + d < 2 ^ 64 := by omega
      rw [decide_eq_true h1, decide_eq_true h2]; simp
    have ll : found.length < limit := by unfold limit; omega
    by_cases h24 : found.prod * (2 + d) ≤ 24
    · have em : (found ++ [2 + d]).map W.int = found.map W.int ++ [.int (2 + d)] := by rw [List.map_append]; rfl
      obtain ⟨f', S', x3', x4', r1, r2, r3, r4, r5, r6, r7, r8, r9, r10⟩ := d_wheels_loop hne t (lo + 1) (found ++ [2 + d]) (S1.set m (.lst (found.map W.int ++ [.int (2 + d)]))) (c + 1) (some (.int lo)) (some (.int (2 + d))) (b1.set hne _) (by omega) (by rw [em]; exact List.getElem?_set_self (by omega)) (by rw [List.length_append, List.length_singleton]; omega)
        (fun x hx => by
          rcases List.mem_append.mp hx with hx | hx
          · exact hm x hx
          · have : x = 2 + d := by simpa using hx
            omega) (by rw [prod_app]; exact h24) (by rw [prod_app]; have := Int.mul_le_mul hp1 (show (1 : Int) ≤ 2 + d by omega) (by omega) (by omega); omega)
      refine ⟨f', S', x3', x4', ?_, by rw [r2, List.length_set]; omega, fun i i1 i2 => by rw [r3 i i1 i2, List.getElem?_set_ne (Ne.symm i2)]; exact kk i i1, r4.mono (by omega), r5, r6, r7, r8, fun _ _ => r10 (by simp), fun _ => r10 (by simp)⟩
      rw [er, for_cons, ← r1, prod_app]
      simp [b__law_wheels_1, e1, hmu, h24, isCell, g1, appR, ll]
    · have hf : found ≠ [] := fun e => by subst e; simp at h24; omega
      obtain ⟨f', S', x3', x4', r1, r2, r3, r4, r5, r6, r7, r8, r9, r10⟩ := d_wheels_loop hne t (lo + 1) found S1 (c + 1) (some (.int lo)) (some (.int (2 + d))) b1 (by omega) g1 (by omega) hm hp hp1
      refine ⟨f', S', x3', x4', ?_, by rw [r2]; omega, fun i i1 i2 => by rw [r3 i i1 i2]; exact kk i i1, r4.mono (by omega), r5, r6, r7, r8, fun _ e => absurd e hf, r10⟩
      rw [er, for_cons, ← r1]
      simp [b__law_wheels_1, e1, hmu, h24]
theorem d_wheels {n c : Nat} {S : Sto} (hB : Bg n c S) (hc : c ≤ 700000000) :
    ∃ (wh : List Int) (S' : Sto), WhOk wh ∧ f__law_wheels [.loc n] S = .ok (tpI wh) S' ∧ Keep n S.length S S' ∧ Bg n (c + 4) S' := by
  have l0 : 0 ≤ limit := Nat.zero_le _
  have hn : n < S.length := hB.lt
  obtain ⟨d, S1, p1, p2, e1, l1, k1, b1⟩ := d_take (hB.app [.lst []]) (m := 3) (by omega) (by decide) (by omega)
  rw [List.length_append, List.length_singleton] at l1 k1
  have hS1 : S1[S.length]? = some (.lst (([] : List Int).map W.int)) := by
    rw [k1.2 S.length (by omega) (by omega)]; simp
  obtain ⟨f, S2, x3, x4, r1, r2, r3, r4, r5, r6, r7, r8, r9, r10⟩ := d_wheels_loop (n := n) (m := S.length) (by omega) (1 + d.toNat) 0 [] S1 (c + 1) none none b1 (by omega) hS1 (by simp; omega) (fun _ h => nomatch h) (by decide) (by decide)
  have hr : (1 + d : Int) < 4611686018427387904 := by omega
  have hr0 : -4611686018427387904 ≤ (1 + d : Int) := by omega
  have hd : (1 + d).toNat = 1 + d.toNat := by omega
  refine ⟨f, S2, ⟨?_, r6, r7, r8⟩, ?_, ?_, r4.mono (by omega)⟩
  · have := r9 (by omega) rfl
    cases f with
    | nil => exact absurd rfl this
    | cons _ _ => simp
  · have r1' : forM (.nm 3) b__law_wheels_1 (rangeW 0 (1 + d.toNat)) [some (.loc n), some (.loc S.length), some (.int 1), none, none] S1 = _ := r1
    simp [f__law_wheels, startW, l0, e1, hr, hr0, hd, r1', r5]
  · refine ⟨by rw [r2, l1]; omega, fun i hi hne => ?_⟩
    rw [r3 i hne (by omega), k1.2 i (by omega) hne, List.getElem?_append_left hi]
theorem d_drawn {n c : Nat} {S : Sto} (hB : Bg n c S) (hc : c ≤ 600000000) :
    ∃ (b : Bk) (S' : Sto), b.Ok ∧ f__law_drawn [.loc n] S = .ok (.tup [tpI b.wh, .tup (b.ru.map Rul.W)]) S' ∧ Keep n S.length S S' ∧ Bg n (c + 205) S' := by
  have l6 : 6 ≤ limit := by unfold limit; omega
  have l2 : 2 ≤ limit := by unfold limit; omega
  obtain ⟨wh, S1, hw, e1, k1, b1⟩ := d_wheels hB (by omega)
  obtain ⟨d, S2, p1, p2, e2, l2', k2, b2⟩ := d_take b1 (m := 6) (by omega) (by decide) (by omega)
  have i0 : ∃ t : Nat, t ≤ 5 ∧ L2.atI [W.int 3, .int 5, .int 2, .int 4, .int 1, .int 0] d = some (.int t) := by
    rcases (by omega : d = 0 ∨ d = 1 ∨ d = 2 ∨ d = 3 ∨ d = 4 ∨ d = 5) with rfl | rfl | rfl | rfl | rfl | rfl
    · exact ⟨3, by omega, rfl⟩
    · exact ⟨5, by omega, rfl⟩
    · exact ⟨2, by omega, rfl⟩
    · exact ⟨4, by omega, rfl⟩
    · exact ⟨1, by omega, rfl⟩
    · exact ⟨0, by omega, rfl⟩
  obtain ⟨t, ht, i0⟩ := i0
  obtain ⟨rs, S3, q1, q2, q3, q4, q5⟩ := d_rules hw ht b2 (by omega)
  refine ⟨⟨wh, rs⟩, S3, ⟨hw, by show rs.length ≤ 5; omega, by show ∀ r ∈ rs, r.Ok wh rs.length; rw [q1]; exact q2⟩, ?_, (k1.trans (k2.mono k1.1)).trans (q4.mono (by have := k1.1; omega)), q5.mono (by omega)⟩
  simp [f__law_drawn, startW, e1, l6, e2, i0, q3, l2]
/-- any places of some wheels -/
theorem d_places {wh : List Int} {n c : Nat} {S : Sto} {el : Me} {ρ : DL.Env} {vs : List Nat} {tg : Tg} (hw : WhOk wh) (hB : Bg n c S) (hc : c ≤ 800000000) (hstep : ∀ x S y S', f__law_take [.loc n, .int x] S = .ok y S' → lcStep ρ vs tg bYes el (.int x) S = .ok [y] S') :
    ∃ (us : List Int) (S' : Sto), us.length = wh.length ∧ (∀ i, Ix wh.length i → 0 ≤ gi us i ∧ gi us i < gi wh i) ∧ compM (lcStep ρ vs tg bYes el) (wh.map W.int) [] S = .ok (us.map W.int) S' ∧ S'.length = S.length ∧ Keep n S.length S S' ∧ Bg n (c + wh.length) S' := by
  have key : ∀ (l : List Int) (acc : List W) (S : Sto) (c : Nat), (∀ x ∈ l, 2 ≤ x ∧ x ≤ 4) → Bg n c S → c + l.length ≤ 900000000 → ∃ (us : List Int) (S' : Sto), us.length = l.length ∧ (∀ i, Ix l.length i → 0 ≤ gi us i ∧ gi us i < gi l i) ∧ compM (lcStep ρ vs tg bYes el) (l.map W.int) acc S = .ok (acc ++ us.map W.int) S' ∧ S'.length = S.length ∧ Keep n S.length S S' ∧ Bg n (c + l.length) S' := by
    intro l
    induction l with
    | nil => intro acc S c _ hB _; exact ⟨[], S, rfl, fun i hi => by have h0 := hi.1; have h1 := hi.2; simp at h1; omega, by simp, rfl, Keep.refl _ _ _, hB⟩
    | cons x l ih =>
      intro acc S c hx hB hc
      have h0 := hx x (List.mem_cons_self ..)
      rw [List.length_cons] at hc
      obtain ⟨d, S1, p1, p2, e1, l1, k1, b1⟩ := d_take hB (m := x) (by omega) (small_div (by omega)) (by omega)
      obtain ⟨us, S2, q1, q2, q3, q4, q5, q6⟩ := ih (acc ++ [.int d]) S1 (c + 1) (fun y hy => hx y (List.mem_cons_of_mem _ hy)) b1 (by omega)
      refine ⟨d :: us, S2, by rw [List.length_cons, List.length_cons, q1], fun i hi => ?_, ?_, by omega, k1.trans (q5.mono (by omega)), q6.mono (by rw [List.length_cons]; omega)⟩
      · obtain ⟨h1, h2⟩ := hi
        rw [List.length_cons] at h2
        by_cases hi0 : i = 0
        · subst hi0; exact ⟨p1, p2⟩
        · have := q2 (i - 1) ⟨by omega, by omega⟩
          unfold gi at this ⊢
          rw [show i.toNat = (i - 1).toNat + 1 by omega]
          simpa using this
      · rw [List.map_cons]
        show (lcStep ρ vs tg bYes el (.int x) S).bindL _ = _
        rw [hstep _ _ _ _ e1]
        show compM _ _ (acc ++ [.int d]) S1 = _
        rw [q3, List.map_cons, List.append_assoc]; rfl
  have := key wh [] S c hw.m hB (by have := hw.l1; omega)
  simpa using this
theorem d_state {b : Bk} {n c : Nat} {S : Sto} (hb : b.Ok) (hB : Bg n c S) (hc : c ≤ 600000000) :
    ∃ (s : Sta) (S' : Sto), StOk b s ∧ f__law_state [.loc n, tpI b.wh, .int b.ru.length] S = .ok (stW s) S' ∧ Keep n S.length S S' ∧ Bg n (c + 8) S' := by
  have l2 : 2 ≤ limit := by unfold limit; omega
  have l4 : 4 ≤ limit := by unfold limit; omega
  have hn := hb.n
  have hl : b.wh.length ≤ limit := l_small hb.w.l1
  obtain ⟨us, S1, q1, q2, q3, q4, q5, q6⟩ := d_places (ρ := [some (.loc n), some (tpI b.wh), some (.int b.ru.length), none, none, none]) (vs := [4]) (tg := .nm 4) (el := mCall f__law_take (mCons (mVar 0) (mCons (mVar 4) mNil))) hb.w hB (by omega) (by
    intro x S y S' e
    simp [lcStep, e])
  have := comp_draw (w := W.int) (P := fun h => 0 ≤ h ∧ h ≤ 2) (step := lcStep [some (.loc n), some (tpI b.wh), some (.int b.ru.length), some (tpI us), none, none] [5] (.nm 5) bYes (mIdx (mTup (mCons (mCon (.int 0)) (mCons (mCon (.int 0)) (mCons (mCon (.int 1)) (mCons (mCon (.int 2)) mNil))))) (mCall f__law_take (mCons (mVar 0) (mCons (mCon (.int 4)) mNil))))) (n := n) (L := S1.length) (k := 1) (rangeW 0 b.ru.length) [] S1 (c + b.wh.length) q6 (Nat.le_refl _) (by
    intro x hx S' c' hb' hl' hc'
    rw [rangeW_length] at hc'
    have := hb.w.l1
    obtain ⟨d, S2, p1, p2, e1, l1, k1, b1⟩ := d_take hb' (m := 4) (by omega) (by decide) (by omega)
    have i0 : ∃ t : Int, (0 ≤ t ∧ t ≤ 2) ∧ L2.atI [W.int 0, .int 0, .int 1, .int 2] d = some (.int t) := by
      rcases (by omega : d = 0 ∨ d = 1 ∨ d = 2 ∨ d = 3) with rfl | rfl | rfl | rfl
      · exact ⟨0, by omega, rfl⟩
      · exact ⟨0, by omega, rfl⟩
      · exact ⟨1, by omega, rfl⟩
      · exact ⟨2, by omega, rfl⟩
    obtain ⟨t, ht, i0⟩ := i0
    exact ⟨t, S2, ht, by simp [lcStep, l4, e1, i0], k1.mono hl', b1⟩)
  rw [rangeW_length] at this
  obtain ⟨hs, S2, h1, h2, h3, h4, h5⟩ := this
  rw [List.nil_append] at h3
  have hr : (b.ru.length : Int) < 4611686018427387904 := by omega
  have t1 : (rangeW 0 b.ru.length).length ≤ limit := by rw [rangeW_length]; unfold limit; omega
  have := hb.w.l1
  refine ⟨(us, hs), S2, ⟨q1, q2, h1, h2⟩, ?_, q5.trans (h4.mono (by omega)), h5.mono (by omega)⟩
  simp [f__law_state, startW, hl, q3, hr, t1, h3, l2, stW]
end SP
set_option Elab.async false
set_option linter.all false
set_option maxRecDepth 100000
set_option maxHeartbeats 4000000
/-! S12: the bag itself; far numbers; the law's own beat. -/
namespace SP
open PySem DL
abbrev scr (ns : List Int) : W := .lst (ns.map W.int)
theorem d_bag {S : Sto} {k : Nat} (ns : List Int) (hk : k < 100) :
    ∃ S', f__law_bag [scr ns, .int k] S = .ok (.loc S.length) S' ∧ S'.length = S.length + 1 ∧ Keep S.length S.length S S' ∧ Bg S.length 0 S' := by
  have cell : ∃ cell : Int, (if k < ns.length then L2.atI (ns.map W.int) k else some (.int 0)) = some (.int cell) := by
    split
    · rename_i h
      exact ⟨ns[k], by simp [L2.atI, L2.ixN, h]⟩
    · exact ⟨0, rfl⟩
  obtain ⟨z, hz⟩ := cell
  have p1 : mulOk 104729 k = true := by simp [mulOk]
  have hm : 0 ≤ z % 2147483647 := Int.emod_nonneg _ (by omega)
  have hm2 : z % 2147483647 < 2147483647 := Int.emod_lt_of_pos _ (by omega)
  have p2 : (z % 2147483647 + 104729 * (k : Int) + 7).natAbs < 18446744073709551616 := by omega
  have hp : ∃ q : Int, 0 < q ∧ L2.atI [W.int 2147483629, .int 2147483587, .int 2147483579, .int 2147483563, .int 2147483549, .int 2147483543, .int 2147483497, .int 2147483489] ((k : Int) % 8) = some (.int q) := by
    have : k % 8 = 0 ∨ k % 8 = 1 ∨ k % 8 = 2 ∨ k % 8 = 3 ∨ k % 8 = 4 ∨ k % 8 = 5 ∨ k % 8 = 6 ∨ k % 8 = 7 := by omega
    have e : ((k : Int) % 8) = ((k % 8 : Nat) : Int) := by omega
    rw [e]
    rcases this with h | h | h | h | h | h | h | h <;> rw [h] <;> exact ⟨_, by decide, rfl⟩
  obtain ⟨q, hq, hq2⟩ := hp
  have l8 : 8 ≤ limit := by unfold limit; omega
  have l3 : 3 ≤ limit := by unfold limit; omega
  have fin : ∀ g b : Int, f__law_bag [scr ns, .int k] S = .ok (.loc S.length) (S ++ [.lst [.int g, .int b, .int 0]]) → ∃ S', f__law_bag [scr ns, .int k] S = .ok (.loc S.length) S' ∧ S'.length = S.length + 1 ∧ Keep S.length S.length S S' ∧ Bg S.length 0 S' := fun g b e =>
    ⟨_, e, by simp, Keep.app _ _ _, ⟨g, b, 0, by simp, by omega, by omega⟩⟩
  by_cases h1 : k < ns.length
  · have hzz : L2.atI (ns.map W.int) k = some (.int z) := by rw [if_pos h1] at hz; exact hz
    by_cases h2 : (1000000000000000000 : Int) ≤ (if z < 0 then -z else z)
    · refine fin (if z < 0 then -z else z) ((z % 2147483647 + 104729 * (k : Int) + 7) ^ 5 % q) ?_
      simp [f__law_bag, startW, p1, hq, hq2, p2, hzz, h1, h2, l8, l3]
    · refine fin 0 ((z % 2147483647 + 104729 * (k : Int) + 7) ^ 5 % q) ?_
      simp [f__law_bag, startW, p1, hq, hq2, p2, hzz, h1, h2, l8, l3]
  · have p3 : (104729 * (k : Int) + 7).natAbs < 18446744073709551616 := by omega
    refine fin 0 ((104729 * (k : Int) + 7) ^ 5 % q) ?_
    simp [f__law_bag, startW, p1, hq, hq2, p3, h1, l8, l3]
end SP
set_option Elab.async false
set_option linter.all false
set_option maxRecDepth 100000
set_option maxHeartbeats 4000000
/-! S13: the law's own beat (as in k07, k13 .. k20). -/
namespace SP
open PySem DL
end SP
set_option Elab.async false
set_option linter.all false
set_option maxRecDepth 100000
set_option maxHeartbeats 4000000
/-! S14: a beat by any order. -/
namespace SP
open PySem DL
@[simp] theorem o_sorted (ρ : DL.Env) (S : Sto) (a : Me) (k : List W → Sto → Res) : mSorted k a ρ S = (a ρ S).bind fun x S => match (items (deref S x)).bind allI with
  | some ns => k ((srtI ns).map W.int) S
  | none => .bad := (rfl)
@[simp] theorem allI_ints : ∀ l : List Int, allI (l.map W.int) = some l
  | [] => rfl
  | a :: l => by rw [List.map_cons, allI, allI_ints l]; rfl
@[simp] theorem kLst_d (ws : List W) (S : Sto) : kLst ws S = .ok (.lst ws) S := (rfl)
@[simp] theorem kTup_d (ws : List W) (S : Sto) : kTup ws S = .ok (.tup ws) S := (rfl)
@[simp] theorem is_nn : cmpop .Is .non .non = some true := (rfl)
@[simp] theorem is_tn (ws : List W) : cmpop .Is (.tup ws) .non = some false := (rfl)
theorem plain_st (s : Sta) : W.plain 60 (stW s) = true := by
  show (W.plainL 58 _ && (W.plainL 58 _ && true)) = true
  rw [plainL_ints, plainL_ints]; rfl
theorem ce_st (a b : Sta) : cmpEq (stW a) (stW b) = some (decide (a = b)) := by
  unfold cmpEq
  rw [plain_st, plain_st, eqv_st]; rfl
end SP
set_option Elab.async false
set_option linter.all false
set_option maxRecDepth 100000
set_option maxHeartbeats 4000000
/-! S63: the program's looks at any plain data. -/
namespace SP
open PySem DL
theorem nlL_of {ws : List W} (h : ∀ w ∈ ws, w.nl = true) : nlL ws = true := by
  induction ws with
  | nil => rfl
  | cons w ws ih =>
    show (w.nl && nlL ws) = true
    rw [h w (List.mem_cons_self ..), ih fun x hx => h x (List.mem_cons_of_mem _ hx)]; rfl
theorem nopL_of {ws : List W} (h : ∀ w ∈ ws, w.nop = true) : nopL ws = true := by
  induction ws with
  | nil => rfl
  | cons w ws ih =>
    show (w.nop && nopL ws) = true
    rw [h w (List.mem_cons_self ..), ih fun x hx => h x (List.mem_cons_of_mem _ hx)]; rfl
theorem plain_nl : ∀ (n : Nat) (w : W), W.plain n w = true → w.nl = true ∧ w.nop = true
  | n, .non, _ => ⟨rfl, rfl⟩
  | n, .bl _, _ => ⟨rfl, rfl⟩
  | n, .int _, _ => ⟨rfl, rfl⟩
  | n, .str _, _ => ⟨rfl, rfl⟩
  | 0, .tup ws, h => by simp [W.plain] at h
  | 0, .lst ws, h => by simp [W.plain] at h
  | n + 1, .tup ws, h => ⟨nlL_of fun w hw => (plain_nl n w (plainL_mem h hw)).1, nopL_of fun w hw => (plain_nl n w (plainL_mem h hw)).2⟩
  | n + 1, .lst ws, h => ⟨nlL_of fun w hw => (plain_nl n w (plainL_mem h hw)).1, nopL_of fun w hw => (plain_nl n w (plainL_mem h hw)).2⟩
  | n, .ins _ _, h => by simp [W.plain] at h
  | n, .loc _, h => by simp [W.plain] at h
  | n, .tpx _, h => by simp [W.plain] at h
  | n, .opq _ _, h => by simp [W.plain] at h
  | n, .lam, h => by simp [W.plain] at h
theorem plainL_of {n : Nat} {ws : List W} (h : ∀ w ∈ ws, W.plain n w = true) : W.plainL n ws = true := by
  induction ws with
  | nil => rfl
  | cons w ws ih => rw [W.plainL, h w (List.mem_cons_self ..), ih fun x hx => h x (List.mem_cons_of_mem _ hx)]; rfl
theorem plain_up : ∀ (n : Nat) (w : W) (m : Nat), n ≤ m → W.plain n w = true → W.plain m w = true
  | n, .non, m, _, _ => by simp [W.plain]
  | n, .bl _, m, _, _ => by simp [W.plain]
  | n, .int _, m, _, _ => by simp [W.plain]
  | n, .str x, m, _, h => by simpa [W.plain] using h
  | 0, .tup ws, m, _, h => by simp [W.plain] at h
  | 0, .lst ws, m, _, h => by simp [W.plain] at h
  | n + 1, .tup ws, m + 1, hm, h => plainL_of fun w hw => plain_up n w m (by omega) (plainL_mem h hw)
  | n + 1, .lst ws, m + 1, hm, h => plainL_of fun w hw => plain_up n w m (by omega) (plainL_mem h hw)
  | n, .ins _ _, m, _, h => by simp [W.plain] at h
  | n, .loc _, m, _, h => by simp [W.plain] at h
  | n, .tpx _, m, _, h => by simp [W.plain] at h
  | n, .opq _ _, m, _, h => by simp [W.plain] at h
  | n, .lam, m, _, h => by simp [W.plain] at h
theorem plain_deref {n : Nat} {w : W} (h : W.plain n w = true) (S : Sto) : deref S w = w := by cases w <;> first | rfl | simp [W.plain] at h
theorem plain_derefF {n : Nat} {w : W} (h : W.plain n w = true) (S : Sto) : derefF S w = w := by cases w <;> first | rfl | simp [W.plain] at h
/-- a whole number from lo below hi, and no bool -/
def isN (lo hi : Int) : W → Bool
  | .int i => decide (lo ≤ i) && decide (i < hi)
  | _ => false
theorem a_whole {n : Nat} {w : W} (h : W.plain n w = true) (S : Sto) : pureR (f_is_whole [w] []) S = .ok (.bl (match w with | .int _ => true | _ => false)) S := by
  cases w with
  | int i => exact e_is_whole i S
  | bl k => simp [f_is_whole, startW]
  | non => simp [f_is_whole, startW, isTy]
  | str x => simp [f_is_whole, startW, isTy]
  | tup ws => simp [f_is_whole, startW, isTy]
  | lst ws => simp [f_is_whole, startW, isTy]
  | _ => simp [W.plain] at h
theorem a_from {n : Nat} {w : W} (h : W.plain n w = true) (lo hi : Int) (S : Sto) : pureR (f_is_from [w, .int lo, .int hi] []) S = .ok (.bl (isN lo hi w)) S := by
  have e := a_whole h
  cases w with
  | int i => exact e_is_from i lo hi S
  | bl k => simp [f_is_from, startW, e, isN]
  | non => simp [f_is_from, startW, e, isN]
  | str x => simp [f_is_from, startW, e, isN]
  | tup ws => have hn : nlL ws = true := (plain_nl _ _ h).1; simp [f_is_from, startW, e, isN, hn]
  | lst ws => have hn : nlL ws = true := (plain_nl _ _ h).1; simp [f_is_from, startW, e, isN, hn]
  | _ => simp [W.plain] at h
theorem all_of {α : Type} (l : List α) (f : α → Bool) : DL.prim .all [.lst (l.map fun a => .bl (f a))] = some (.bl (l.all f)) := by
  have k := allB_map f l
  rw [p_all, k, Option.map_some, List.all_map]; rfl
/-- values of a book's wheels -/
def isVs (wh : List Int) : W → Bool
  | .tup vs => decide (vs.length = wh.length) && (vs.zip wh).all fun p => isN 0 p.2 p.1
  | _ => false
theorem a_values {b : Bk} (hb : b.Ok) {n : Nat} {w : W} (h : W.plain n w = true) (S : Sto) : pureR (f_are_values [b.W, w] []) S = .ok (.bl (isVs b.wh w)) S := by
  cases w with
  | tup vs =>
    by_cases hl : vs.length = b.wh.length
    · have hz2 : zipW vs (b.wh.map W.int) = (vs.zip b.wh).map fun p => .tup [p.1, .int p.2] := by
        have := zipW_map (fun w => w) W.int vs b.wh
        rw [List.map_id'] at this
        exact this
      have hlim : b.wh.length ≤ limit := l_small hb.w.l1
      have hpl : ∀ p ∈ vs.zip b.wh, W.plain n p.1 = true := fun p hp => by
        have hm := (List.of_mem_zip hp).1
        cases n with
        | zero => simp [W.plain] at h
        | succ n => exact plain_up n _ (n + 1) (by omega) (plainL_mem h hm)
      simp [f_are_values, startW, Bk.W, hl, hz2, hlim]
      rw [lc_data (g := fun p => .bl (isN 0 p.2 p.1)) fun p hp => by
        have := a_from (hpl p hp) 0 p.2
        have h1 := plain_derefF (hpl p hp) []
        have h2 := (plain_nl _ _ (hpl p hp)).1
        simp [lcStep, this, h1, h2]]
      simp [isVs, hl, all_of]
    · have hne : ¬ ((vs.length : Int) = (b.wh.length : Int)) := by omega
      simp [f_are_values, startW, Bk.W, isVs, hl, hne]
  | bl k => simp [f_are_values, startW, isTy, isVs]
  | int k => simp [f_are_values, startW, isTy, isVs]
  | non => simp [f_are_values, startW, isTy, isVs]
  | str x => simp [f_are_values, startW, isTy, isVs]
  | lst ws => simp [f_are_values, startW, isTy, isVs]
  | _ => simp [W.plain] at h
/-- a state of a book -/
def isSt (b : Bk) : W → Bool
  | .tup [v, .tup hs] => isVs b.wh v && decide (hs.length = b.ru.length) && hs.all (isN 0 3)
  | _ => false
theorem a_state {b : Bk} (hb : b.Ok) {n : Nat} {w : W} (h : W.plain n w = true) (S : Sto) : pureR (f_is_state [b.W, w] []) S = .ok (.bl (isSt b w)) S := by
  have hW : ∀ S, getFld S 0 1 b.W = some (.tup (b.ru.map Rul.W)) := fun S => by simp [Bk.W]
  have dB : ∀ S, deref S b.W = b.W := fun S => rfl
  have hlim : b.ru.length ≤ limit := l_small hb.n
  cases w with
  | tup ws =>
    have hn : nlL ws = true := (plain_nl _ _ h).1
    match n, h with
    | n + 1, h =>
    match ws, h, hn with
    | [], _, _ => simp [f_is_state, startW, isSt]
    | [v], _, _ => simp [f_is_state, startW, isSt]
    | [v, u], h, hn =>
      have pv : W.plain n v = true := plainL_mem h (by simp)
      have pu : W.plain n u = true := plainL_mem h (by simp)
      have a0 : L2.atI [v, u] 0 = some v := by simp [L2.atI, L2.ixN]
      have a1 : L2.atI [v, u] 1 = some u := by simp [L2.atI, L2.ixN]
      have ev := a_values hb pv
      have d1 := plain_deref pu
      have d2 := plain_derefF pv
      have n1 := (plain_nl _ _ pv).1
      have n2 := (plain_nl _ _ pu).1
      cases hv : isVs b.wh v with
      | false =>
        rw [hv] at ev
        have : isSt b (.tup [v, u]) = false := by cases u <;> simp [isSt, hv]
        rw [this]
        simp [f_is_state, startW, a0, a1, ev, d1, d2, n1, n2]
      | true =>
        rw [hv] at ev
        cases u with
        | tup hs =>
          have ph : ∀ x ∈ hs, W.plain n x = true := fun x hx => by
            cases n with
            | zero => simp [W.plain] at pu
            | succ n => exact plain_up n _ (n + 1) (by omega) (plainL_mem pu hx)
          by_cases hl : hs.length = b.ru.length
          · simp [f_is_state, startW, a0, a1, ev, d2, n1, hW, dB, hl, hlim]
            rw [show hs = hs.map (fun w => w) by rw [List.map_id'], lc_data (g := fun p => .bl (isN 0 3 p)) fun p hp => by
              have := a_from (ph p hp) 0 3
              have h1 := plain_derefF (ph p hp) []
              have h2 := (plain_nl _ _ (ph p hp)).1
              simp [lcStep, this, h1, h2]]
            simp [isSt, hv, hl, all_of]
          · have hne : ¬ ((hs.length : Int) = (b.ru.length : Int)) := by omega
            simp [f_is_state, startW, a0, a1, ev, d2, n1, hW, dB, hl, hne, isSt]
        | bl k => simp [f_is_state, startW, a0, a1, ev, d2, n1, isTy, isSt]
        | int k => simp [f_is_state, startW, a0, a1, ev, d2, n1, isTy, isSt]
        | non => simp [f_is_state, startW, a0, a1, ev, d2, n1, isTy, isSt]
        | str x => simp [f_is_state, startW, a0, a1, ev, d2, n1, isTy, isSt]
        | lst ws => simp [f_is_state, startW, a0, a1, ev, d2, n1, isTy, isSt]
        | _ => simp [W.plain] at pu
    | v :: u :: x :: r, h, hn =>
      have hne : ¬ (((v :: u :: x :: r).length : Int) = 2) := by simp; omega
      have hs : isSt b (.tup (v :: u :: x :: r)) = false := by cases u <;> simp [isSt]
      rw [hs]
      generalize v :: u :: x :: r = L at *
      simp [f_is_state, startW, hne]
  | bl k => simp [f_is_state, startW, isTy, isSt]
  | int k => simp [f_is_state, startW, isTy, isSt]
  | non => simp [f_is_state, startW, isTy, isSt]
  | str x => simp [f_is_state, startW, isTy, isSt]
  | lst ws => simp [f_is_state, startW, isTy, isSt]
  | _ => simp [W.plain] at h
end SP
set_option Elab.async false
set_option linter.all false
set_option maxRecDepth 100000
set_option maxHeartbeats 4000000
/-! S15: how often a rule does. -/
namespace SP
open PySem DL
/-- the first n beats' deeds -/
def dn (b : Bk) (off : List Int) (s : Sta) (n : Nat) : List (List Int) := (List.range n).map fun i => tdn b off (itr (tst b off) i s)
/-- the beats among the first ones at which a rule does -/
def tu (r : Int) : Int → List (List Int) → List Int
  | _, [] => []
  | k, d :: l => if d.contains r then k :: tu r (k + 1) l else tu r (k + 1) l
noncomputable def tus (b : Bk) (off : List Int) (s : Sta) (r : Int) : List Int := tu r 0 ((trk b off s).1.map (tdn b off))
end SP
set_option Elab.async false
set_option linter.all false
set_option maxRecDepth 100000
set_option maxHeartbeats 4000000
/-! S16: quiet; the law's own track. -/
namespace SP
open PySem DL
section
variable {a i b : Me} {pk : Ml} {ρ : DL.Env} {S : Sto}
@[simp] theorem o_maxD : mMaxD a pk ρ S = (a ρ S).bind fun x S => (pk ρ S).bind fun zs S => maxDR x zs S := (rfl)
@[simp] theorem o_ins : mIns a i b ρ S = (a ρ S).bind fun x S => if isCell S x then (i ρ S).bind fun i S => (b ρ S).bind fun y S => insR x i y S else .bad := (rfl)
@[simp] theorem o_isLT : mIsLT a ρ S = (a ρ S).bind fun x S => optR S ((isLT (deref S x)).map .bl) := (rfl)
end
/-- the last of the loud ones, and one more -/
def lq : Nat → Nat → List (List Int) → Nat
  | q, _, [] => q
  | q, k, d :: l => if d = [] then lq q (k + 1) l else lq (k + 1) (k + 1) l
def quD (D : List (List Int)) (bg : Nat) : Option Nat := if (D.drop bg).any (fun d => !(d == [])) then none else some (lq 0 0 D)
/-! ### what the two sides reckon -/
def qW : Option Nat → W
  | none => .non
  | some q => .int q
@[simp] theorem nl_qW (o : Option Nat) : (qW o).nl = true := by cases o <;> rfl
theorem cut_drop (l : List W) (n : Nat) : cutW l (some (n : Int)) none = l.drop n := by
  unfold cutW HT.sIx
  simp only [Int.toNat_natCast]
  rw [if_neg (by omega)]
  by_cases h : n ≤ l.length
  · rw [Nat.min_eq_left h, List.take_of_length_le (by rw [List.length_drop]; omega)]
  · rw [Nat.min_eq_right (by omega), List.drop_eq_nil_of_le (Nat.le_refl _), List.drop_eq_nil_of_le (by omega), List.take_nil]
noncomputable def qt (b : Bk) (off : List Int) (s : Sta) : Option Nat := quD ((trk b off s).1.map (tdn b off)) (trk b off s).2
end SP
set_option Elab.async false
set_option linter.all false
set_option maxRecDepth 100000
set_option maxHeartbeats 4000000
/-! S17: the law's own track. -/
namespace SP
open PySem DL
end SP
set_option Elab.async false
set_option linter.all false
set_option maxRecDepth 100000
set_option maxHeartbeats 4000000
/-! S18: the law's likeness; rounds from within. -/
namespace SP
open PySem DL
end SP
set_option Elab.async false
set_option linter.all false
set_option maxRecDepth 100000
set_option maxHeartbeats 4000000
/-! S19: the n-th time. -/
namespace SP
open PySem DL
end SP
set_option Elab.async false
set_option linter.all false
set_option maxRecDepth 100000
set_option maxHeartbeats 4000000
/-! S20: orders drawn, numbers picked. -/
namespace SP
open PySem DL
def upTo (n : Nat) : List Int := (List.range n).map fun (i : Nat) => (i : Int)
end SP
set_option Elab.async false
set_option linter.all false
set_option maxRecDepth 100000
set_option maxHeartbeats 4000000
/-! S64: orders, rules put off, states of any plain data; a beat asked of anything. -/
namespace SP
open PySem hiding upTo
open DL
@[simp] theorem x_seq (x : Xn) (ρ : DL.Env) (S : Sto) (t : Ms) : (Fl.exc x ρ S).seq t = .exc x ρ S := (rfl)
@[simp] theorem x_toR (x : Xn) (ρ : DL.Env) (S : Sto) : (Fl.exc x ρ S).toR = .exc x S := (rfl)
@[simp] theorem x_pure (x : Xn) (S S' : Sto) : pureR (.exc x S') S = if x.nl then .exc x S else .bad := (rfl)
@[simp] theorem x_bind (x : Xn) (S : Sto) (f : W → Sto → Res) : (Res.exc x S).bind f = .exc x S := (rfl)
@[simp] theorem x_toS (x : Xn) (S : Sto) (ρ : DL.Env) (f : W → Sto → Fl) : (Res.exc x S).toS ρ f = .exc x ρ S := (rfl)
def unI : W → Int
  | .int i => i
  | _ => 0
theorem isN_int {lo hi : Int} {w : W} (h : isN lo hi w = true) : w = .int (unI w) ∧ lo ≤ unI w ∧ unI w < hi := by
  cases w with
  | int i =>
    simp only [isN, Bool.and_eq_true, decide_eq_true_eq] at h
    exact ⟨rfl, h.1, h.2⟩
  | _ => simp [isN] at h
theorem all_ints {lo hi : Int} : ∀ {ws : List W}, ws.all (isN lo hi) = true → ws = (ws.map unI).map W.int ∧ ∀ r ∈ ws.map unI, lo ≤ r ∧ r < hi
  | [], _ => ⟨rfl, fun r h => by cases h⟩
  | w :: ws, h => by
    rw [List.all_cons, Bool.and_eq_true] at h
    obtain ⟨e1, e2, e3⟩ := isN_int h.1
    obtain ⟨e4, e5⟩ := all_ints h.2
    refine ⟨?_, fun r hr => ?_⟩
    · rw [List.map_cons, List.map_cons, ← e1, ← e4]
    · rw [List.map_cons] at hr
      rcases List.mem_cons.mp hr with rfl | hr
      · exact ⟨e2, e3⟩
      · exact e5 r hr
def itemsT : W → List W
  | .tup ws => ws
  | _ => []
def intsT (w : W) : List Int := (itemsT w).map unI
theorem intsT_tp (l : List Int) : intsT (tpI l) = l := by
  show (l.map W.int).map unI = l
  rw [List.map_map]
  exact List.map_id' l
def short : W → Prop
  | .tup ws => ws.length ≤ 50
  | .lst ws => ws.length ≤ 50
  | _ => True
theorem isSt_ok {b : Bk} {w : W} (h : isSt b w = true) : ∃ s, w = stW s ∧ StOk b s := by
  unfold isSt at h
  split at h
  case h_2 => cases h
  rename_i v hs
  simp only [Bool.and_eq_true, decide_eq_true_eq] at h
  obtain ⟨⟨h1, h2⟩, h3⟩ := h
  unfold isVs at h1
  split at h1
  case h_2 => cases h1
  rename_i vs
  simp only [Bool.and_eq_true, decide_eq_true_eq] at h1
  obtain ⟨h4, h5⟩ := h1
  rw [List.all_eq_true] at h5
  obtain ⟨e1, e2⟩ := all_ints h3
  have hz : ∀ i (hi : i < vs.length) (hj : i < b.wh.length), isN 0 b.wh[i] vs[i] = true := fun i hi hj => by
    have := h5 (vs[i], b.wh[i]) (List.mem_iff_getElem.mpr ⟨i, by rw [List.length_zip]; omega, by rw [List.getElem_zip]⟩)
    exact this
  have e3 : vs = (vs.map unI).map W.int := by
    rw [List.map_map]
    refine List.ext_getElem (by rw [List.length_map]) fun i h6 h7 => ?_
    rw [List.getElem_map]
    exact (isN_int (hz i h6 (by omega))).1
  refine ⟨(vs.map unI, hs.map unI), ?_, ⟨by rw [List.length_map]; exact h4, fun i hi => ?_, by rw [List.length_map]; exact h2, fun r hr => by have := e2 r hr; omega⟩⟩
  · show W.tup [.tup vs, .tup hs] = .tup [.tup ((vs.map unI).map W.int), .tup ((hs.map unI).map W.int)]
    rw [← e3, ← e1]
  · obtain ⟨i0, i1⟩ := hi
    have hj : i.toNat < b.wh.length := by omega
    have hk : i.toNat < vs.length := by omega
    have := isN_int (hz i.toNat hk hj)
    unfold gi
    rw [List.getD_eq_getElem?_getD, List.getD_eq_getElem?_getD, List.getElem?_map, List.getElem?_eq_getElem hk, List.getElem?_eq_getElem hj]
    exact ⟨this.2.1, this.2.2⟩
end SP
set_option Elab.async false
set_option linter.all false
set_option maxRecDepth 100000
set_option maxHeartbeats 4000000
/-! S21: rows, beginnings, wishes. -/
namespace SP
open PySem DL
section
variable {it it1 : Ml} {c c1 : Mb} {el : Me} {tg tg1 : Tg} {vs vs1 : List Nat} {mt : Bool} {ρ : DL.Env} {S : Sto}
@[simp] theorem o_lc2 : mLc2 mt vs tg it c vs1 tg1 it1 c1 el ρ S = (it ρ S).bind fun xs S => match compM (lc2Step ρ vs tg c vs1 tg1 it1 c1 el) xs [] S with
  | .ok ys S => if ys.length ≤ limit then (if mt then newCellR (.lst ys) S else .ok (.lst ys) S) else .bad
  | _ => .bad := (rfl)
end
def wider (found : List (List Int)) (z : Nat) : List (List Int) := found.flatMap fun row => (upTo z).map fun i => row ++ [i]
def rowsOf (sz : List Nat) : List (List Int) := sz.foldl wider [[]]
theorem wider_mem {found : List (List Int)} {z : Nat} {r : List Int} : r ∈ wider found z ↔ ∃ row ∈ found, ∃ i : Nat, i < z ∧ r = row ++ [(i : Int)] := by
  unfold wider upTo
  simp only [List.mem_flatMap, List.mem_map, List.mem_range]
  constructor
  · rintro ⟨row, h, i, ⟨j, hj, rfl⟩, rfl⟩; exact ⟨row, h, j, hj, rfl⟩
  · rintro ⟨row, h, j, hj, rfl⟩; exact ⟨row, h, _, ⟨j, hj, rfl⟩, rfl⟩
theorem lc2_step {it1 : Ml} {c c1 : Mb} {el : Me} {tg tg1 : Tg} {vs vs1 : List Nat} {ρ ρ' : DL.Env} {S S1 S2 : Sto} {u : W} {xs : List W} (h1 : bindTg tg u (wipeW ρ vs) = some ρ') (h2 : c ρ' S = .ok true S1) (h3 : it1 ρ' S1 = .ok xs S2) : lc2Step ρ vs tg c vs1 tg1 it1 c1 el u S = compM (lcStep ρ' vs1 tg1 c1 el) xs [] S2 := by
  unfold lc2Step
  simp only [h1, h2, h3]
theorem row_step (v : W) (fw : List W) (z : Nat) (x3 x4 : Option W) (row : List Int) (hz : z ≤ 4) (hrow : row.length ≤ 8) : lc2Step [some v, some (.lst fw), some (.int z), x3, x4] [3, 4] (.nm 3) bYes [4] (.nm 4) (jRange1 (mVar 2)) bYes (mBin .Add (mVar 3) (mTup (mCons (mVar 4) mNil))) (tpI row) [] = .ok (((upTo z).map fun i => row ++ [i]).map fun r => tpI r) [] := by
  have hl1 : (1 : Nat) ≤ limit := by unfold limit; omega
  have hl2 : row.length + 1 ≤ limit := by unfold limit; omega
  have hadd : ∀ i : Int, binop .Add (.tup (row.map W.int)) (.tup [.int i]) = some (.tup ((row ++ [i]).map W.int)) := fun i => by
    simp [binop, hl2]
  have hin : compM (lcStep [some v, some (.lst fw), some (.int z), some (tpI row), none] [4] (.nm 4) bYes (mBin .Add (mVar 3) (mTup (mCons (mVar 4) mNil)))) ((upTo z).map W.int) [] [] = .ok ((upTo z).map fun i => tpI (row ++ [i])) [] := by
    refine lc_data fun i hi => ?_
    simp [lcStep, hl1, hadd]
  have hr0 : rangeW 0 z = (upTo z).map W.int := range0 z
  have hz62 : (z : Int) < 4611686018427387904 := by omega
  have h3 : (jRange1 (mVar 2)) [some v, some (.lst fw), some (.int z), some (tpI row), none] [] = .ok ((upTo z).map W.int) [] := by
    simp [hz62, hr0]
  rw [lc2_step (ρ' := [some v, some (.lst fw), some (.int z), some (tpI row), none]) (by rfl) (by rfl) h3, hin, List.map_map]
  rfl
theorem mem_rows : ∀ (sz : List Nat) (found : List (List Int)) (r : List Int), r ∈ sz.foldl wider found → ∃ row ∈ found, ∃ l : List Int, r = row ++ l ∧ l.length = sz.length ∧ ∀ i, Ix sz.length i → 0 ≤ gi l i ∧ gi l i < (sz.getD i.toNat 0 : Nat)
  | [], found, r, h => ⟨r, h, [], by simp, rfl, fun i hi => by have h0 := hi.1; have h1 := hi.2; simp at h1; omega⟩
  | z :: sz, found, r, h => by
    obtain ⟨row, h1, l, h2, h3, h4⟩ := mem_rows sz (wider found z) r h
    obtain ⟨row0, k1, i0, k2, rfl⟩ := wider_mem.mp h1
    refine ⟨row0, k1, (i0 : Int) :: l, by rw [h2, List.append_assoc]; rfl, by rw [List.length_cons, List.length_cons, h3], fun i hi => ?_⟩
    obtain ⟨q0, q1⟩ := hi
    rw [List.length_cons] at q1
    by_cases e : i = 0
    · subst e
      show 0 ≤ (i0 : Int) ∧ (i0 : Int) < (z : Nat)
      omega
    · have := h4 (i - 1) ⟨by omega, by omega⟩
      unfold gi at this ⊢
      rw [show i.toNat = (i - 1).toNat + 1 by omega]
      simpa using this
def zeros (n : Nat) : List Int := List.replicate n 0
theorem begun_ok {b : Bk} {vs : List Int} (hl : vs.length = b.wh.length) (hv : ∀ i, Ix b.wh.length i → 0 ≤ gi vs i ∧ gi vs i < gi b.wh i) : StOk b (vs, zeros b.ru.length) :=
  ⟨hl, hv, by simp [zeros], fun h hh => by
    have : h = 0 := (List.mem_replicate.mp hh).2
    omega⟩
end SP
set_option Elab.async false
set_option linter.all false
set_option maxRecDepth 100000
set_option maxHeartbeats 4000000
/-! S22: wishes. -/
namespace SP
open PySem DL
inductive Wish where
  | quiet | never (r : Int) | does (r : Int) | at_ (w p : Int)
def Wish.W : Wish → W
  | .quiet => .tup [.str "quiet"]
  | .never r => .tup [.str "never", .int r]
  | .does r => .tup [.str "does", .int r]
  | .at_ w p => .tup [.str "at", .int w, .int p]
def Wish.Ok (b : Bk) : Wish → Prop
  | .quiet => True
  | .never r => Ix b.ru.length r
  | .does r => Ix b.ru.length r
  | .at_ w p => Ix b.wh.length w ∧ 0 ≤ p ∧ p < gi b.wh w
/-- a run from s breaks the wish -/
noncomputable def broken (b : Bk) (off : List Int) (s : Sta) : Wish → Bool
  | .quiet => (qt b off s).isNone
  | .never r => !(tus b off s r == [])
  | .does r => tus b off s r == []
  | .at_ w p => ((trk b off s).1.drop (trk b off s).2).any fun t => gi t.1 w != p
@[simp] theorem nl_wish (u : Wish) : u.W.nl = true := by cases u <;> rfl
@[simp] theorem dd_wish (S : Sto) (u : Wish) : derefF S u.W = u.W := by cases u <;> rfl
end SP
set_option Elab.async false
set_option linter.all false
set_option maxRecDepth 100000
set_option maxHeartbeats 4000000
/-! S23: all values of a book, wishes looked at and drawn, the least beginning that breaks one. -/
namespace SP
open PySem DL
def szs (b : Bk) : List Nat := b.wh.map Int.toNat
def begs (b : Bk) : List (List Int) := rowsOf (szs b)
theorem begs_ok {b : Bk} (hb : b.Ok) {vs : List Int} (h : vs ∈ begs b) : vs.length = b.wh.length ∧ ∀ i, Ix b.wh.length i → 0 ≤ gi vs i ∧ gi vs i < gi b.wh i := by
  obtain ⟨row, h1, l, h2, h3, h4⟩ := mem_rows (szs b) [[]] vs h
  have hr : row = [] := by simpa using h1
  rw [hr, List.nil_append] at h2
  rw [← h2] at h3 h4
  have hz : (szs b).length = b.wh.length := List.length_map ..
  refine ⟨by rw [h3, hz], fun i hi => ?_⟩
  have := h4 i (by rw [hz]; exact hi)
  have hl : i.toNat < b.wh.length := by have := hi.1; have := hi.2; omega
  have e : (((szs b).getD i.toNat 0 : Nat) : Int) = gi b.wh i := by
    unfold szs gi
    rw [List.getD_eq_getElem?_getD, List.getD_eq_getElem?_getD, List.getElem?_map, List.getElem?_eq_getElem hl]
    have := (hb.w.m _ (List.getElem_mem hl)).1
    show ((b.wh[i.toNat].toNat : Nat) : Int) = b.wh[i.toNat]
    omega
  rw [e] at this
  exact this
theorem beg_st {b : Bk} (hb : b.Ok) {vs : List Int} (h : vs ∈ begs b) : StOk b (vs, zeros b.ru.length) := begun_ok (begs_ok hb h).1 (begs_ok hb h).2
def vW : Option (List Int) → W
  | none => .non
  | some l => tpI l
end SP
set_option Elab.async false
set_option linter.all false
set_option maxRecDepth 100000
set_option maxHeartbeats 4000000
/-! S24: lots of rules. -/
namespace SP
open PySem DL
section
variable {ρ : DL.Env} {S : Sto} {a : Me} {k : List W → Sto → Res}
@[simp] theorem o_sortedD : mSortedD k a ρ S = (a ρ S).bind fun x S => match dataOf S x with
  | some ws => k (srtW ws) S
  | none => .bad := (rfl)
end
def subs : Nat → List Int → List (List Int)
  | 0, _ => [[]]
  | _ + 1, [] => []
  | k + 1, x :: xs => (subs k xs).map (fun l => x :: l) ++ subs (k + 1) xs
end SP
set_option Elab.async false
set_option linter.all false
set_option maxRecDepth 100000
set_option maxHeartbeats 4000000
/-! S25: the fewest rules put off, told and looked at. -/
namespace SP
open PySem DL
section
variable {ρ : DL.Env} {S : Sto} {a b : Me}
@[simp] theorem o_indexD : mIndexD a b ρ S = (a ρ S).bind fun x S => if isLstW x then (b ρ S).bind fun y S => idxRD x (deref S y) S else .bad := (rfl)
end
theorem upTo_ix {n : Nat} {r : Int} (h : r ∈ upTo n) : Ix n r := by
  unfold upTo at h
  obtain ⟨i, hi, rfl⟩ := List.mem_map.mp h
  have := List.mem_range.mp hi
  exact ⟨by omega, by omega⟩
noncomputable def brk (b : Bk) (u : Wish) (ls vs : List (List Int)) : Bool := vs.length == ls.length && (ls.zip vs).all fun p => broken b p.1 (p.2, zeros b.ru.length) u
theorem cut_front (l : List W) (n : Nat) : cutW l none (some (n : Int)) = l.take n := by
  unfold cutW HT.sIx
  simp only []
  rw [if_neg (by omega), Nat.sub_zero, List.drop_zero]
  show l.take (min n l.length) = _
  by_cases h : n ≤ l.length
  · rw [Nat.min_eq_left h]
  · rw [Nat.min_eq_right (by omega), List.take_of_length_le (Nat.le_refl _), List.take_of_length_le (by omega)]
end SP
set_option Elab.async false
set_option linter.all false
set_option maxRecDepth 100000
set_option maxHeartbeats 4000000
/-! S65: the law's drawing of any data; what is said of a deed. -/
namespace SP
open PySem hiding upTo
open DL
@[simp] theorem o_addB (a b : Me) (ρ : DL.Env) (S : Sto) : mAddB a b ρ S = (a ρ S).bind fun x S => (b ρ S).bind fun y S => optR S (addB (deref S x) (deref S y)) := (rfl)
@[simp] theorem ab_int (i j : Int) : addB (.int i) (.int j) = some (.int (i + j)) := (rfl)
@[simp] theorem o_revT2 (a : Me) (ρ : DL.Env) (S : Sto) : mRevT a ρ S = (a ρ S).bind fun x S => match deref S x with
  | .tup ws => .ok (.tup ws.reverse) S
  | _ => .bad := (rfl)
theorem bo_addL (a b : List W) : binop .Add (.lst a) (.lst b) = if a.length + b.length ≤ limit then some (.lst (a ++ b)) else none := (rfl)
def anyL : List W := [.non, .bl true, .bl false, .int 0, .int 1, .int (-1), .int 2, .int 5, .int 1000000000000000000000000000000000000000000000000000000000000, .str "", .str "is", .str "0", .str "free", .lst [], .tup [], .lst [.int 0], .tup [.int 0], .tup [.int 0, .int 0], .tup [.int 1, .int 0],
  .tup [.int 0, .int 1, .int 2], .tup [.tup [], .tup []], .tup [.tup [.int 0], .tup [.int 0]], .lst [.tup [.int 0], .tup [.int 0]], .tup [.int 0, .bl true], .tup [.str "is", .int 0, .int 0], .tup [.str "hushed", .int 0], .tup [.non, .lst [.int 1, .tup []]]]
theorem anyL_plain : ∀ w ∈ anyL, W.plain 10 w = true := by
  have : anyL.all (W.plain 10) = true := by kernel_rfl
  rw [List.all_eq_true] at this
  exact this
def shortB : W → Bool
  | .tup ws => decide (ws.length ≤ 50)
  | .lst ws => decide (ws.length ≤ 50)
  | _ => true
theorem short_of {w : W} (h : shortB w = true) : short w := by cases w <;> first | trivial | exact (decide_eq_true_eq.mp h : _ ≤ 50)
theorem anyL_short : ∀ w ∈ anyL, short w := by
  have : anyL.all shortB = true := by kernel_rfl
  rw [List.all_eq_true] at this
  exact fun w hw => short_of (this w hw)
theorem anyL_at {d : Int} (h0 : 0 ≤ d) (h1 : d < 27) : ∃ w, w ∈ anyL ∧ L2.atI anyL d = some w := by
  have hl : anyL.length = 27 := rfl
  refine ⟨anyL[d.toNat]'(by rw [hl]; omega), List.getElem_mem _, ?_⟩
  have hd : d.toNat < anyL.length := by rw [hl]; omega
  unfold L2.atI L2.ixN
  simp [h0, hl, h1, hd]
theorem cutT (ws : List W) (u : Nat) : cutW ws none (some (u : Int)) = ws.take u := cut_front ws u
theorem cutD (ws : List W) (u : Nat) : cutW ws (some (u : Int)) none = ws.drop u := cut_drop ws u
theorem cutD1 (ws : List W) (u : Nat) : cutW ws (some ((u : Int) + 1)) none = ws.drop (u + 1) := cut_drop ws (u + 1)
end SP
set_option Elab.async false
set_option linter.all false
set_option maxRecDepth 100000
set_option maxHeartbeats 4000000
/-! S66: spoilt rows and states; what is said of a deed. -/
namespace SP
open PySem hiding upTo
open DL
end SP
set_option Elab.async false
set_option linter.all false
set_option maxRecDepth 100000
set_option maxHeartbeats 4000000
/-! S26: all starts by the law; rules that never do, rules that always do. -/
namespace SP
open PySem DL
/-! ### never, always -/
theorem mid0 {b : Bk} {s : Sta} (hs : StOk b s) : MidOk b ⟨s.1, s.2, []⟩ := ⟨⟨hs.l1, hs.l2⟩, hs.m1, fun h hh => by have := hs.m2 h hh; exact ⟨this.1, by omega⟩⟩
end SP
set_option Elab.async false
set_option linter.all false
set_option maxRecDepth 100000
set_option maxHeartbeats 4000000
/-! S27: the fewest, its meaning; breaks as the law sees them. -/
namespace SP
open PySem DL
end SP
set_option Elab.async false
set_option linter.all false
set_option maxRecDepth 100000
set_option maxHeartbeats 4000000
/-! S28: likeness of any plain tuples; papers as data; lesser books drawn. -/
namespace SP
open PySem DL
theorem nl_rows (l : List (List Int)) : nlL (l.map fun r => tpI r) = true := nl_map (f := fun l : List Int => tpI l) (fun a => nl_ints a) l
end SP
set_option Elab.async false
set_option linter.all false
set_option maxRecDepth 100000
set_option maxHeartbeats 4000000
/-! S29: a run that was walked, and a wish. -/
namespace SP
open PySem DL
noncomputable def trkW (b : Bk) (off : List Int) (s : Sta) : W := .tup [.lst ((trk b off s).1.map stW), .lst (((trk b off s).1.map (tdn b off)).map fun d => tpI d), .int (trk b off s).2]
theorem nl_trkW (b : Bk) (off : List Int) (s : Sta) : (trkW b off s).nl = true := by
  have h2 := nl_rows ((trk b off s).1.map (tdn b off))
  show (nlL ((trk b off s).1.map stW) && (nlL (((trk b off s).1.map (tdn b off)).map fun d => tpI d) && true)) = true
  rw [nl_sts, h2]; rfl
end SP
set_option Elab.async false
set_option linter.all false
set_option maxRecDepth 100000
set_option maxHeartbeats 4000000
/-! S30: all beginnings, truths in lists, all rules put off. -/
namespace SP
open PySem DL
end SP
set_option Elab.async false
set_option linter.all false
set_option maxRecDepth 100000
set_option maxHeartbeats 4000000
/-! S47: all states of a book, the states ahead of one, all rules put off. -/
namespace SP
open PySem DL
/-! ### all rules put off -/
end SP
set_option Elab.async false
set_option linter.all false
set_option maxRecDepth 100000
set_option maxHeartbeats 4000000
/-! S31: walks that keep what stands first in the environment. -/
namespace SP
open PySem DL
/-- it goes on, the environment begins with fx, m more behind it, the store is so -/
def NxE (fx : DL.Env) (m : Nat) (P : Sto → Prop) : Fl → Prop
  | .nx ρ S => ∃ r, ρ = fx ++ r ∧ r.length = m ∧ P S
  | .ct ρ S => ∃ r, ρ = fx ++ r ∧ r.length = m ∧ P S
  | _ => False
section
variable {fx : DL.Env} {m : Nat} {P Q : Sto → Prop} {ρ r : DL.Env} {S : Sto} {X : Fl}
theorem nxe (e : ρ = fx ++ r) (hr : r.length = m) (h : P S) : NxE fx m P (.nx ρ S) := ⟨r, e, hr, h⟩
theorem NxE.imp (h : NxE fx m P X) (i : ∀ S, P S → Q S) : NxE fx m Q X := by
  cases X with
  | nx ρ S => obtain ⟨r, a, b, c⟩ := h; exact ⟨r, a, b, i _ c⟩
  | ct ρ S => obtain ⟨r, a, b, c⟩ := h; exact ⟨r, a, b, i _ c⟩
  | _ => exact h
end
/-- a walk -/
theorem for_nxe {tg : Tg} {body : Ms} {fx : DL.Env} {m : Nat} : ∀ (xs : List W) (P : Nat → Sto → Prop),
    (∀ i x, xs[i]? = some x → ∀ r S, r.length = m → P i S → ∃ ρ, bindTg tg x (fx ++ r) = some ρ ∧ NxE fx m (P (i + 1)) (body ρ S)) →
    ∀ r S, r.length = m → P 0 S → ∃ r' S', forM tg body xs (fx ++ r) S = .nx (fx ++ r') S' ∧ r'.length = m ∧ P xs.length S'
  | [], P, _, r, S, hr, h => ⟨r, S, rfl, hr, h⟩
  | x :: xs, P, hs, r, S, hr, h => by
    obtain ⟨ρ, e, hb⟩ := hs 0 x rfl r S hr h
    have ih := for_nxe xs (fun i => P (i + 1)) fun i y hy r S hr h => hs (i + 1) y hy r S hr h
    cases q : body ρ S with
    | nx ρ1 S1 =>
      rw [q] at hb
      obtain ⟨r1, e1, hr1, h1⟩ := hb
      obtain ⟨r', S', e2, hr2, h2⟩ := ih r1 S1 hr1 h1
      refine ⟨r', S', ?_, hr2, h2⟩
      rw [for_step e q, e1, e2]
    | ct ρ1 S1 =>
      rw [q] at hb
      obtain ⟨r1, e1, hr1, h1⟩ := hb
      obtain ⟨r', S', e2, hr2, h2⟩ := ih r1 S1 hr1 h1
      refine ⟨r', S', ?_, hr2, h2⟩
      rw [for_ct e q, e1, e2]
    | _ => rw [q] at hb; exact hb.elim
end SP
set_option Elab.async false
set_option linter.all false
set_option maxRecDepth 100000
set_option maxHeartbeats 4000000
/-! S32: a book in which some rules cannot do. -/
namespace SP
open PySem DL
def lessR (c : Rul) : Rul := ⟨c.test.take 3 ++ [.pl .below 0 0], c.chg, c.hus, c.wak⟩
end SP
set_option Elab.async false
set_option linter.all false
set_option maxRecDepth 100000
set_option maxHeartbeats 4000000
/-! S33: words held against words; what is told of the fewest. -/
namespace SP
open PySem DL
@[simp] theorem cw_quiet_quiet : cmpEq (.str "quiet") (.str "quiet") = some true := by rw [ce_str _ _ (by kernel_rfl) (by kernel_rfl)]; rfl
@[simp] theorem cw_quiet_never : cmpEq (.str "quiet") (.str "never") = some false := by rw [ce_str _ _ (by kernel_rfl) (by kernel_rfl)]; congr 1
@[simp] theorem cw_quiet_does : cmpEq (.str "quiet") (.str "does") = some false := by rw [ce_str _ _ (by kernel_rfl) (by kernel_rfl)]; congr 1
@[simp] theorem cw_quiet_at : cmpEq (.str "quiet") (.str "at") = some false := by rw [ce_str _ _ (by kernel_rfl) (by kernel_rfl)]; congr 1
@[simp] theorem cw_never_quiet : cmpEq (.str "never") (.str "quiet") = some false := by rw [ce_str _ _ (by kernel_rfl) (by kernel_rfl)]; congr 1
@[simp] theorem cw_never_never : cmpEq (.str "never") (.str "never") = some true := by rw [ce_str _ _ (by kernel_rfl) (by kernel_rfl)]; rfl
@[simp] theorem cw_never_does : cmpEq (.str "never") (.str "does") = some false := by rw [ce_str _ _ (by kernel_rfl) (by kernel_rfl)]; congr 1
@[simp] theorem cw_never_at : cmpEq (.str "never") (.str "at") = some false := by rw [ce_str _ _ (by kernel_rfl) (by kernel_rfl)]; congr 1
@[simp] theorem cw_does_quiet : cmpEq (.str "does") (.str "quiet") = some false := by rw [ce_str _ _ (by kernel_rfl) (by kernel_rfl)]; congr 1
@[simp] theorem cw_does_never : cmpEq (.str "does") (.str "never") = some false := by rw [ce_str _ _ (by kernel_rfl) (by kernel_rfl)]; congr 1
@[simp] theorem cw_does_does : cmpEq (.str "does") (.str "does") = some true := by rw [ce_str _ _ (by kernel_rfl) (by kernel_rfl)]; rfl
@[simp] theorem cw_does_at : cmpEq (.str "does") (.str "at") = some false := by rw [ce_str _ _ (by kernel_rfl) (by kernel_rfl)]; congr 1
@[simp] theorem cw_at_quiet : cmpEq (.str "at") (.str "quiet") = some false := by rw [ce_str _ _ (by kernel_rfl) (by kernel_rfl)]; congr 1
@[simp] theorem cw_at_never : cmpEq (.str "at") (.str "never") = some false := by rw [ce_str _ _ (by kernel_rfl) (by kernel_rfl)]; congr 1
@[simp] theorem cw_at_does : cmpEq (.str "at") (.str "does") = some false := by rw [ce_str _ _ (by kernel_rfl) (by kernel_rfl)]; congr 1
@[simp] theorem cw_at_at : cmpEq (.str "at") (.str "at") = some true := by rw [ce_str _ _ (by kernel_rfl) (by kernel_rfl)]; rfl
@[simp] theorem cw_off_off : cmpEq (.str "off") (.str "off") = some true := by rw [ce_str _ _ (by kernel_rfl) (by kernel_rfl)]; rfl
@[simp] theorem cw_off_none : cmpEq (.str "off") (.str "none") = some false := by rw [ce_str _ _ (by kernel_rfl) (by kernel_rfl)]; congr 1
@[simp] theorem cw_none_off : cmpEq (.str "none") (.str "off") = some false := by rw [ce_str _ _ (by kernel_rfl) (by kernel_rfl)]; congr 1
@[simp] theorem cw_none_none : cmpEq (.str "none") (.str "none") = some true := by rw [ce_str _ _ (by kernel_rfl) (by kernel_rfl)]; rfl
@[simp] theorem cw_stood_stood : cmpEq (.str "stood") (.str "stood") = some true := by rw [ce_str _ _ (by kernel_rfl) (by kernel_rfl)]; rfl
@[simp] theorem cw_stood_did : cmpEq (.str "stood") (.str "did") = some false := by rw [ce_str _ _ (by kernel_rfl) (by kernel_rfl)]; congr 1
@[simp] theorem cw_stood_rested : cmpEq (.str "stood") (.str "rested") = some false := by rw [ce_str _ _ (by kernel_rfl) (by kernel_rfl)]; congr 1
@[simp] theorem cw_did_stood : cmpEq (.str "did") (.str "stood") = some false := by rw [ce_str _ _ (by kernel_rfl) (by kernel_rfl)]; congr 1
@[simp] theorem cw_did_did : cmpEq (.str "did") (.str "did") = some true := by rw [ce_str _ _ (by kernel_rfl) (by kernel_rfl)]; rfl
@[simp] theorem cw_did_rested : cmpEq (.str "did") (.str "rested") = some false := by rw [ce_str _ _ (by kernel_rfl) (by kernel_rfl)]; congr 1
@[simp] theorem cw_rested_stood : cmpEq (.str "rested") (.str "stood") = some false := by rw [ce_str _ _ (by kernel_rfl) (by kernel_rfl)]; congr 1
@[simp] theorem cw_rested_did : cmpEq (.str "rested") (.str "did") = some false := by rw [ce_str _ _ (by kernel_rfl) (by kernel_rfl)]; congr 1
@[simp] theorem cw_rested_rested : cmpEq (.str "rested") (.str "rested") = some true := by rw [ce_str _ _ (by kernel_rfl) (by kernel_rfl)]; rfl
@[simp] theorem cw_clash_clash : cmpEq (.str "clash") (.str "clash") = some true := by rw [ce_str _ _ (by kernel_rfl) (by kernel_rfl)]; rfl
@[simp] theorem cw_alike_alike : cmpEq (.str "alike") (.str "alike") = some true := by rw [ce_str _ _ (by kernel_rfl) (by kernel_rfl)]; rfl
@[simp] theorem cw_alike_parted : cmpEq (.str "alike") (.str "parted") = some false := by rw [ce_str _ _ (by kernel_rfl) (by kernel_rfl)]; congr 1
@[simp] theorem cw_parted_alike : cmpEq (.str "parted") (.str "alike") = some false := by rw [ce_str _ _ (by kernel_rfl) (by kernel_rfl)]; congr 1
@[simp] theorem cw_parted_parted : cmpEq (.str "parted") (.str "parted") = some true := by rw [ce_str _ _ (by kernel_rfl) (by kernel_rfl)]; rfl
@[simp] theorem cw_free_free : cmpEq (.str "free") (.str "free") = some true := by rw [ce_str _ _ (by kernel_rfl) (by kernel_rfl)]; rfl
@[simp] theorem cw_free_matters : cmpEq (.str "free") (.str "matters") = some false := by rw [ce_str _ _ (by kernel_rfl) (by kernel_rfl)]; congr 1
@[simp] theorem cw_matters_free : cmpEq (.str "matters") (.str "free") = some false := by rw [ce_str _ _ (by kernel_rfl) (by kernel_rfl)]; congr 1
@[simp] theorem cw_matters_matters : cmpEq (.str "matters") (.str "matters") = some true := by rw [ce_str _ _ (by kernel_rfl) (by kernel_rfl)]; rfl
@[simp] theorem cw_is_is : cmpEq (.str "is") (.str "is") = some true := by rw [ce_str _ _ (by kernel_rfl) (by kernel_rfl)]; rfl
@[simp] theorem cw_is_not : cmpEq (.str "is") (.str "not") = some false := by rw [ce_str _ _ (by kernel_rfl) (by kernel_rfl)]; congr 1
@[simp] theorem cw_is_below : cmpEq (.str "is") (.str "below") = some false := by rw [ce_str _ _ (by kernel_rfl) (by kernel_rfl)]; congr 1
@[simp] theorem cw_is_hushed : cmpEq (.str "is") (.str "hushed") = some false := by rw [ce_str _ _ (by kernel_rfl) (by kernel_rfl)]; congr 1
@[simp] theorem cw_is_awake : cmpEq (.str "is") (.str "awake") = some false := by rw [ce_str _ _ (by kernel_rfl) (by kernel_rfl)]; congr 1
@[simp] theorem cw_not_is : cmpEq (.str "not") (.str "is") = some false := by rw [ce_str _ _ (by kernel_rfl) (by kernel_rfl)]; congr 1
@[simp] theorem cw_not_not : cmpEq (.str "not") (.str "not") = some true := by rw [ce_str _ _ (by kernel_rfl) (by kernel_rfl)]; rfl
@[simp] theorem cw_not_below : cmpEq (.str "not") (.str "below") = some false := by rw [ce_str _ _ (by kernel_rfl) (by kernel_rfl)]; congr 1
@[simp] theorem cw_not_hushed : cmpEq (.str "not") (.str "hushed") = some false := by rw [ce_str _ _ (by kernel_rfl) (by kernel_rfl)]; congr 1
@[simp] theorem cw_not_awake : cmpEq (.str "not") (.str "awake") = some false := by rw [ce_str _ _ (by kernel_rfl) (by kernel_rfl)]; congr 1
@[simp] theorem cw_below_is : cmpEq (.str "below") (.str "is") = some false := by rw [ce_str _ _ (by kernel_rfl) (by kernel_rfl)]; congr 1
@[simp] theorem cw_below_not : cmpEq (.str "below") (.str "not") = some false := by rw [ce_str _ _ (by kernel_rfl) (by kernel_rfl)]; congr 1
@[simp] theorem cw_below_below : cmpEq (.str "below") (.str "below") = some true := by rw [ce_str _ _ (by kernel_rfl) (by kernel_rfl)]; rfl
@[simp] theorem cw_below_hushed : cmpEq (.str "below") (.str "hushed") = some false := by rw [ce_str _ _ (by kernel_rfl) (by kernel_rfl)]; congr 1
@[simp] theorem cw_below_awake : cmpEq (.str "below") (.str "awake") = some false := by rw [ce_str _ _ (by kernel_rfl) (by kernel_rfl)]; congr 1
@[simp] theorem cw_hushed_is : cmpEq (.str "hushed") (.str "is") = some false := by rw [ce_str _ _ (by kernel_rfl) (by kernel_rfl)]; congr 1
@[simp] theorem cw_hushed_not : cmpEq (.str "hushed") (.str "not") = some false := by rw [ce_str _ _ (by kernel_rfl) (by kernel_rfl)]; congr 1
@[simp] theorem cw_hushed_below : cmpEq (.str "hushed") (.str "below") = some false := by rw [ce_str _ _ (by kernel_rfl) (by kernel_rfl)]; congr 1
@[simp] theorem cw_hushed_hushed : cmpEq (.str "hushed") (.str "hushed") = some true := by rw [ce_str _ _ (by kernel_rfl) (by kernel_rfl)]; rfl
@[simp] theorem cw_hushed_awake : cmpEq (.str "hushed") (.str "awake") = some false := by rw [ce_str _ _ (by kernel_rfl) (by kernel_rfl)]; congr 1
@[simp] theorem cw_awake_is : cmpEq (.str "awake") (.str "is") = some false := by rw [ce_str _ _ (by kernel_rfl) (by kernel_rfl)]; congr 1
@[simp] theorem cw_awake_not : cmpEq (.str "awake") (.str "not") = some false := by rw [ce_str _ _ (by kernel_rfl) (by kernel_rfl)]; congr 1
@[simp] theorem cw_awake_below : cmpEq (.str "awake") (.str "below") = some false := by rw [ce_str _ _ (by kernel_rfl) (by kernel_rfl)]; congr 1
@[simp] theorem cw_awake_hushed : cmpEq (.str "awake") (.str "hushed") = some false := by rw [ce_str _ _ (by kernel_rfl) (by kernel_rfl)]; congr 1
@[simp] theorem cw_awake_awake : cmpEq (.str "awake") (.str "awake") = some true := by rw [ce_str _ _ (by kernel_rfl) (by kernel_rfl)]; rfl
@[simp] theorem cw_put_put : cmpEq (.str "put") (.str "put") = some true := by rw [ce_str _ _ (by kernel_rfl) (by kernel_rfl)]; rfl
@[simp] theorem cw_put_turn : cmpEq (.str "put") (.str "turn") = some false := by rw [ce_str _ _ (by kernel_rfl) (by kernel_rfl)]; congr 1
@[simp] theorem cw_turn_put : cmpEq (.str "turn") (.str "put") = some false := by rw [ce_str _ _ (by kernel_rfl) (by kernel_rfl)]; congr 1
@[simp] theorem cw_turn_turn : cmpEq (.str "turn") (.str "turn") = some true := by rw [ce_str _ _ (by kernel_rfl) (by kernel_rfl)]; rfl
@[simp] theorem o_zipN (a b : Me) (ρ : DL.Env) (S : Sto) : jZipN a b ρ S = (a ρ S).bindL fun x S => (b ρ S).bindL fun y S => match items x, items y with
  | some xs, some ys => .ok (zipW xs ys) S
  | _, _ => .bad := (rfl)
end SP
set_option Elab.async false
set_option linter.all false
set_option maxRecDepth 100000
set_option maxHeartbeats 4000000
/-! S34: cells of any things; a book made still; a wish broken, by the functions of runs. -/
namespace SP
open PySem DL
end SP
set_option Elab.async false
set_option linter.all false
set_option maxRecDepth 100000
set_option maxHeartbeats 4000000
/-! S35: walks by what holds of environment and store. -/
namespace SP
open PySem DL
/-- it goes on, and then this holds of environment and store -/
def NxP (P : DL.Env → Sto → Prop) : Fl → Prop
  | .nx ρ S => P ρ S
  | .ct ρ S => P ρ S
  | _ => False
theorem NxP.imp {P Q : DL.Env → Sto → Prop} {X : Fl} (h : NxP P X) (i : ∀ ρ S, P ρ S → Q ρ S) : NxP Q X := by
  cases X with
  | nx ρ S => exact i _ _ h
  | ct ρ S => exact i _ _ h
  | _ => exact h
theorem rangeW_at (n : Nat) : ∀ (lo : Int) (i : Nat) (x : W), (rangeW lo n)[i]? = some x → i < n ∧ x = .int (lo + i) := by
  induction n with
  | zero => intro lo i x h; simp [rangeW] at h
  | succ n ih =>
    intro lo i x h
    rw [rangeW] at h
    cases i with
    | zero =>
      have := Option.some.inj h
      exact ⟨by omega, by rw [← this]; simp⟩
    | succ i =>
      obtain ⟨h1, h2⟩ := ih (lo + 1) i x (by simpa using h)
      refine ⟨by omega, ?_⟩
      rw [h2]
      congr 1
      push_cast
      omega
@[simp] theorem o_rev (a : Me) (ρ : DL.Env) (S : Sto) : mRev a ρ S = (a ρ S).bind fun x S => match deref S x with
  | .lst ws => .ok (.lst ws.reverse) S
  | _ => .bad := (rfl)
@[simp] theorem plain_bl60 (k : Bool) : W.plain 60 (.bl k) = true := rfl
@[simp] theorem plain_int60 (k : Int) : W.plain 60 (.int k) = true := rfl
@[simp] theorem plain_non60 : W.plain 60 .non = true := rfl
end SP
set_option Elab.async false
set_option linter.all false
set_option maxRecDepth 100000
set_option maxHeartbeats 4000000
/-! S45: repr, range with a step of -1: simp lemmas and what is shown. -/
namespace SP
open PySem DL
@[simp] theorem o_rangeD (a b c : Me) (ρ : DL.Env) (S : Sto) : jRangeD a b c ρ S = (a ρ S).bindL fun x S => (b ρ S).bindL fun y S => (c ρ S).bindL fun z S => match x, y, z with
  | .int i, .int j, .int k => if ((-(2 ^ 62) ≤ i ∧ i < 2 ^ 62) ∧ -(2 ^ 62) ≤ j ∧ j < 2 ^ 62) ∧ k = -1 then .ok (downW i (i - j).toNat) S else .bad
  | _, _, _ => .bad := (rfl)
@[simp] theorem o_repr (a : Me) (ρ : DL.Env) (S : Sto) : mRepr a ρ S = (a ρ S).bind fun x S => reprR (deref S x) S := (rfl)
end SP
set_option Elab.async false
set_option linter.all false
set_option maxRecDepth 100000
set_option maxHeartbeats 4000000
/-! S67: all states by the law (three rules at most). -/
namespace SP
open PySem hiding upTo
open DL
@[simp] theorem o_ext2 (a b : Me) (ρ : DL.Env) (S : Sto) : mExt a b ρ S = (a ρ S).bind fun x S => if isCell S x then (b ρ S).bind fun y S => extR x y S else .bad := (rfl)
/-! ### all states, by the law -/
end SP
set_option Elab.async false
set_option linter.all false
set_option maxRecDepth 100000
set_option maxHeartbeats 4000000
/-! S68: errors with one field; repr of any plain thing. -/
namespace SP
open PySem hiding upTo
open DL
@[simp] theorem o_raiseF (c i : Nat) (a : Me) (ρ : DL.Env) (S : Sto) : sRaiseF c i a ρ S = (a ρ S).toS ρ fun w S => if (derefF S w).nl then .exc (.own c [(i, derefF S w)]) ρ S else .bad := (rfl)
@[simp] theorem o_reprS (a : Me) (ρ : DL.Env) (S : Sto) : mReprS a ρ S = (a ρ S).bind fun x S => reprS (deref S x) S := (rfl)
theorem o_tryC {hit : Nat → Option Bool} {i : Nat} {b u : Ms} {ρ ρ1 : DL.Env} {S S1 : Sto} {c : Nat} {fs : List (Nat × W)} (hb : b ρ S = .exc (.own c fs) ρ1 S1) (hh : hit c = some true) (hn : nlF fs = true) : sTryC hit i b u ρ S = tryR (u (hideD S1 (ρ1.set i (some (.opq c fs)))) []) S1 := by
  unfold sTryC; rw [hb]; simp [hh, hn]
@[simp] theorem o_xf (hit : Nat → Option Bool) (i : Nat) (p : Me) (ρ : DL.Env) (S : Sto) : mXf hit i p ρ S = (p ρ S).bind fun x S => match x with
  | .opq k fs => match hit k with
    | some true => optR S (lookF i fs)
    | _ => .bad
  | _ => .bad := (rfl)
@[simp] theorem o_isX (hit : Nat → Option Bool) (p : Me) (ρ : DL.Env) (S : Sto) : mIsX hit p ρ S = (p ρ S).bind fun x S => match x with
  | .opq k _ => optR S ((hit k).map .bl)
  | _ => .bad := (rfl)
@[simp] theorem x_bindL (x : Xn) (S : Sto) (f : W → Sto → LRes) : (Res.exc x S).bindL f = .exc x S := (rfl)
@[simp] theorem x_lbindL (x : Xn) (S : Sto) (f : List W → Sto → LRes) : (LRes.exc x S).bindL f = .exc x S := (rfl)
@[simp] theorem x_lbind (x : Xn) (S : Sto) (f : List W → Sto → Res) : (LRes.exc x S).bind f = .exc x S := (rfl)
@[simp] theorem df_opq (S : Sto) (k : Nat) (fs : List (Nat × W)) : derefF S (.opq k fs) = .opq k fs := (rfl)
@[simp] theorem n_opq (k : Nat) (fs : List (Nat × W)) : W.nl (.opq k fs) = nlF fs := (rfl)
@[simp] theorem d_opq (S : Sto) (k : Nat) (fs : List (Nat × W)) : deref S (.opq k fs) = .opq k fs := (rfl)
@[simp] theorem d_lam (S : Sto) : deref S .lam = .lam := (rfl)
theorem main_lawT {ns : List Int} {body : Ms} {lo hi N : Nat} (hlo : lo ≤ 1000) (hhi : hi ≤ 1000) (P : Sto → Prop) (S0 : Sto) (h0 : P S0) (hb : ∀ (k : Nat), k < max lo hi → ∀ (r : DL.Env) (S : Sto), r.length = N → P S → NxE [some (scr ns)] N P (body (some (scr ns) :: (r.set 0 (some (.int k)))) S)) :
    ∃ S, fnW 1 (N + 1) (sSeq (sFor (jRange1 (mPrim .max (mCons (mCon (.int lo)) (mCons (mPrim .min (mCons (mCon (.int hi)) (mCons (mPrim .len (mCons (mVar 0) mNil)) mNil))) mNil)))) (.nm 1) body) (sSeq (sRet (mCon (.bl true))) sNext)) [scr ns] S0 = .ok (.bl true) S := by
  have hm : max (lo : Int) (min (hi : Int) (ns.length : Int)) = ((max lo (min hi ns.length) : Nat) : Int) := by omega
  obtain ⟨r, S, e, hr, _⟩ := for_nxe (tg := .nm 1) (body := body) (fx := [some (scr ns)]) (m := N) (rangeW 0 (max lo (min hi ns.length))) (fun _ => P) (fun i x hx r S hr hP => by
    obtain ⟨h1, h2⟩ := rangeW_at _ _ _ _ hx
    rw [h2, Int.zero_add]
    exact ⟨_, rfl, hb i (by omega) r S hr hP⟩) (List.replicate N none) S0 (by simp) h0
  refine ⟨S, ?_⟩
  have hs : startW (N + 1) [scr ns] = some (scr ns) :: List.replicate N none := by simp [startW]
  have hit : jRange1 (mPrim .max (mCons (mCon (.int lo)) (mCons (mPrim .min (mCons (mCon (.int hi)) (mCons (mPrim .len (mCons (mVar 0) mNil)) mNil))) mNil))) (some (scr ns) :: List.replicate N none) S0 = .ok (rangeW 0 (max lo (min hi ns.length))) S0 := by
    simp only [o_range1, o_prim, o_cons, o_con, o_nil, o_var]
    simp only [List.getElem?_cons_zero, r_bindL, l_bindL, l_bind, List.map_cons, List.map_nil, d_int, d_lst, p_lenL, optR_s, p_min, p_max, List.length_map, hm]
    rw [if_pos (small_range (by omega) (by omega)), Int.toNat_natCast]
  have hf : sFor (jRange1 (mPrim .max (mCons (mCon (.int lo)) (mCons (mPrim .min (mCons (mCon (.int hi)) (mCons (mPrim .len (mCons (mVar 0) mNil)) mNil))) mNil)))) (.nm 1) body (some (scr ns) :: List.replicate N none) S0 = .nx (some (scr ns) :: r) S := by
    rw [o_for, hit, l_toS]
    exact e
  rw [o_fn, if_pos (by rfl), hs, seq_step hf]
  simp
end SP
set_option Elab.async false
set_option linter.all false
set_option maxRecDepth 100000
set_option maxHeartbeats 4000000
/-! S48: states in order; sets of states; all states a book comes to. -/
namespace SP
open PySem DL
@[simp] theorem o_snew (ρ : DL.Env) (S : Sto) : mSNew ρ S = newCellR (.set []) S := (rfl)
@[simp] theorem o_bsin (neg : Bool) (a b : Me) (ρ : DL.Env) (S : Sto) : bSIn neg a b ρ S = (a ρ S).bindB fun x S => (b ρ S).bindB fun y S => optB S (sinR neg x y S) := (rfl)
@[simp] theorem o_msin (neg : Bool) (a b : Me) (ρ : DL.Env) (S : Sto) : mSIn neg a b ρ S = (a ρ S).bind fun x S => (b ρ S).bind fun y S => optR S ((sinR neg x y S).map .bl) := (rfl)
@[simp] theorem o_sadd (a b : Me) (ρ : DL.Env) (S : Sto) : mSAdd a b ρ S = (a ρ S).bind fun x S => if (setOf S x).isSome then (b ρ S).bind fun y S => saddR x y S else .bad := (rfl)
@[simp] theorem o_sortS (k : List W → Sto → Res) (a : Me) (ρ : DL.Env) (S : Sto) : mSortS k a ρ S = (a ρ S).bind fun x S => match sortsOf S x with
  | some ws => k ws S
  | none => .bad := (rfl)
/-! ### the order of states -/
theorem toP_ints (l : List Int) : toPL (l.map W.int) = l.map PyData.int := by
  induction l with
  | nil => rfl
  | cons a l ih => rw [List.map_cons, List.map_cons, ← ih]; rfl
theorem toP_st (s : Sta) : toP (stW s) = .tuple [.tuple (s.1.map .int), .tuple (s.2.map .int)] := by
  show PyData.tuple [.tuple (toPL (s.1.map W.int)), .tuple (toPL (s.2.map W.int))] = _
  rw [toP_ints, toP_ints]
def stLt (a b : Sta) : Bool := if a.1 = b.1 then decide (a.2 < b.2) else decide (a.1 < b.1)
theorem dLt_rows (x y : List Int) : PySem.W.dataLt (.tuple (x.map .int)) (.tuple (y.map .int)) = decide (x < y) := PySem.W.dataLt_ints x y
theorem eqvP_ints : ∀ (x y : List Int), PyData.eqvAll (x.map PyData.int) (y.map PyData.int) = decide (x = y)
  | [], [] => rfl
  | [], _ :: _ => rfl
  | _ :: _, [] => rfl
  | a :: x, b :: y => by
    show (PyData.eqv (.int a) (.int b) && PyData.eqvAll (x.map PyData.int) (y.map PyData.int)) = _
    rw [eqvP_ints x y]
    have e : PyData.eqv (.int a) (.int b) = decide (a = b) := by first | rfl | simp [PyData.eqv]
    rw [e]
    by_cases h1 : a = b <;> by_cases h2 : x = y <;> simp [h1, h2]
theorem alike_rows (x y : List Int) : PySem.W.alike (.tuple (x.map .int)) (.tuple (y.map .int)) = true := PySem.W.alike_ints x y
theorem dLt_st (a b : Sta) : PySem.W.dataLt (toP (stW a)) (toP (stW b)) = stLt a b := by
  rw [toP_st, toP_st, PySem.W.dataLt_pair (alike_rows _ _) (alike_rows _ _)]
  have e1 : PyData.eqv (.tuple (a.1.map .int)) (.tuple (b.1.map .int)) = decide (a.1 = b.1) := eqvP_ints _ _
  have e2 : PyData.eqv (.tuple (a.2.map .int)) (.tuple (b.2.map .int)) = decide (a.2 = b.2) := eqvP_ints _ _
  rw [e1, e2, dLt_rows, dLt_rows]
  unfold stLt
  by_cases h : a.1 = b.1
  · rw [decide_eq_true h, if_pos rfl, if_pos h]
    by_cases h2 : a.2 = b.2
    · rw [decide_eq_true h2, if_pos rfl, h2]
      simp
    · rw [decide_eq_false h2]; rfl
  · rw [decide_eq_false h, if_neg h]; rfl
/-! ### sets of states -/
end SP
set_option Elab.async false
set_option linter.all false
set_option maxRecDepth 100000
set_option maxHeartbeats 4000000
/-! S49: pairs of states of two books; alike. -/
namespace SP
open PySem DL
abbrev Pr := Sta × Sta
def prW (p : Pr) : W := .tup [stW p.1, stW p.2]
/-! ### how many pairs there are -/
structure PrOk (b1 b2 : Bk) (p : Pr) : Prop where
  a : StOk b1 p.1
  b : StOk b2 p.2
def hsCod (b : Bk) (s : Sta) : Nat := cod (b.ru.map fun _ => 3) s.2
theorem hsCod_lt {b : Bk} (hb : b.Ok) {s : Sta} (h : StOk b s) : hsCod b s < 243 := by
  have := cod_lt (b.ru.map fun _ => (3 : Int)) s.2 (by rw [List.length_map]; exact h.l2) (hus_fit h)
  rw [three_prod] at this
  have : 3 ^ b.ru.length ≤ 3 ^ 5 := Nat.pow_le_pow_right (by omega) hb.n
  have : 0 < 3 ^ b.ru.length := Nat.pow_pos (by omega)
  unfold hsCod
  omega
theorem few_pr {b1 b2 : Bk} (h1 : b1.Ok) (h2 : b2.Ok) {l : List Pr} (hn : l.Nodup) (h : ∀ p ∈ l, PrOk b1 b2 p ∧ p.1.1 = p.2.1) : l.length ≤ 1417176 := by
  refine nd_code (fun p : Pr => stCod b1 p.1 * 243 + hsCod b2 p.2) 1417176 hn (fun p hp => ?_) fun p hp q hq e => ?_
  · obtain ⟨k, _⟩ := h p hp
    have := stCod_lt h1 k.a
    have := hsCod_lt h2 k.b
    show stCod b1 p.1 * 243 + hsCod b2 p.2 < 1417176
    omega
  · obtain ⟨k, kv⟩ := h p hp
    obtain ⟨m, mv⟩ := h q hq
    have a1 := hsCod_lt h2 k.b
    have a2 := hsCod_lt h2 m.b
    have e : stCod b1 p.1 * 243 + hsCod b2 p.2 = stCod b1 q.1 * 243 + hsCod b2 q.2 := e
    have e1 : p.1 = q.1 := stCod_inj h1 k.a m.a (by omega)
    have e2 : hsCod b2 p.2 = hsCod b2 q.2 := by omega
    have e3 := cod_inj (b2.ru.map fun _ => (3 : Int)) _ _ (by rw [List.length_map]; exact k.b.l2) (by rw [List.length_map]; exact m.b.l2) (hus_fit k.b) (hus_fit m.b) e2
    exact Prod.ext e1 (Prod.ext (by rw [← kv, ← mv, e1]) e3)
/-! ### the walk over pairs -/
def nxP (b1 b2 : Bk) (p : Pr) : Pr := (tst b1 [] p.1, tst b2 [] p.2)
def begP (b1 b2 : Bk) (v : List Int) : Pr := ((v, zeros b1.ru.length), (v, zeros b2.ru.length))
theorem nxP_ok {b1 b2 : Bk} (h1 : b1.Ok) (h2 : b2.Ok) {p : Pr} (h : PrOk b1 b2 p) : PrOk b1 b2 (nxP b1 b2 p) := ⟨tst_ok h1 h.a, tst_ok h2 h.b⟩
/-- the pairs met; or after how many beats they part -/
def walkP (b1 b2 : Bk) : Nat → List Pr → Pr → Nat → List Pr ⊕ Nat
  | 0, vis, _, _ => .inl vis
  | n + 1, vis, p, k => if p ∈ vis then .inl vis else if p.1.1 = p.2.1 then walkP b1 b2 n (vis ++ [p]) (nxP b1 b2 p) (k + 1) else .inr k
def allP (b1 b2 : Bk) : List (List Int) → List Pr → List Pr ⊕ (List Int × Nat)
  | [], vis => .inl vis
  | v :: vs, vis => match walkP b1 b2 2000000 vis (begP b1 b2 v) 0 with
    | .inl vis' => allP b1 b2 vs vis'
    | .inr k => .inr (v, k)
structure VisOk (b1 b2 : Bk) (vis : List Pr) : Prop where
  nd : vis.Nodup
  ok : ∀ p ∈ vis, PrOk b1 b2 p ∧ p.1.1 = p.2.1
theorem VisOk.add {b1 b2 : Bk} {vis : List Pr} (h : VisOk b1 b2 vis) {p : Pr} (hm : p ∉ vis) (hp : PrOk b1 b2 p) (he : p.1.1 = p.2.1) : VisOk b1 b2 (vis ++ [p]) :=
  ⟨by
    rw [List.nodup_append]
    exact ⟨h.nd, by simp, fun a ha c hc e => by
      have : c = p := by simpa using hc
      exact hm (by rw [← this, ← e]; exact ha)⟩, fun q hq => by
    rcases List.mem_append.mp hq with h' | h'
    · exact h.ok q h'
    · have : q = p := by simpa using h'
      rw [this]; exact ⟨hp, he⟩⟩
theorem walkP_ok {b1 b2 : Bk} (h1 : b1.Ok) (h2 : b2.Ok) : ∀ (n : Nat) (vis vis' : List Pr) (p : Pr) (k : Nat), VisOk b1 b2 vis → PrOk b1 b2 p → 1417176 < n + vis.length → walkP b1 b2 n vis p k = .inl vis' → VisOk b1 b2 vis' ∧ (∀ q ∈ vis, q ∈ vis') ∧ p ∈ vis'
  | 0, vis, vis', p, k, hv, hp, hl, e => by
    have := few_pr h1 h2 hv.nd hv.ok
    omega
  | n + 1, vis, vis', p, k, hv, hp, hl, e => by
    unfold walkP at e
    by_cases hm : p ∈ vis
    · rw [if_pos hm] at e
      cases e
      exact ⟨hv, fun q h => h, hm⟩
    · rw [if_neg hm] at e
      by_cases he : p.1.1 = p.2.1
      · rw [if_pos he] at e
        obtain ⟨a1, a2, a3⟩ := walkP_ok h1 h2 n (vis ++ [p]) vis' (nxP b1 b2 p) (k + 1) (hv.add hm hp he) (nxP_ok h1 h2 hp) (by rw [List.length_append, List.length_singleton]; omega) e
        exact ⟨a1, fun q h => a2 q (List.mem_append_left _ h), a2 p (List.mem_append_right _ (by simp))⟩
      · rw [if_neg he] at e
        cases e
theorem begP_ok {b1 b2 : Bk} (h1 : b1.Ok) (h2 : b2.Ok) (hw : b1.wh = b2.wh) {v : List Int} (hv : v ∈ begs b1) : PrOk b1 b2 (begP b1 b2 v) := by
  refine ⟨beg_st h1 hv, ?_⟩
  have : v ∈ begs b2 := by
    unfold begs szs at hv ⊢
    rw [← hw]; exact hv
  exact beg_st h2 this
/-- what alike tells -/
def alkW (b1 b2 : Bk) : W := match allP b1 b2 (begs b1) [] with
  | .inl vis => .tup [.str "alike", .tup (srtW (vis.map prW))]
  | .inr (v, k) => .tup [.str "parted", tpI v, .int k]
@[simp] theorem o_sortK (k : List W → Sto → Res) (a : Me) (ρ : DL.Env) (S : Sto) : mSortK k a ρ S = (a ρ S).bind fun x S => match keysOf S x with
  | some ws => k ws S
  | none => .bad := (rfl)
/-! ### the program's alike -/
end SP
set_option Elab.async false
set_option linter.all false
set_option maxRecDepth 100000
set_option maxHeartbeats 4000000
/-! S36: sightings. -/
namespace SP
open PySem hiding upTo
open DL
inductive See where
  | stood (n : Nat) (w p : Int) | did (n : Nat) (r : Int) | rested (n : Nat) (r : Int)
  deriving Inhabited, DecidableEq
def See.W : See → W
  | .stood n w p => .tup [.str "stood", .int n, .int w, .int p]
  | .did n r => .tup [.str "did", .int n, .int r]
  | .rested n r => .tup [.str "rested", .int n, .int r]
def See.Ok (b : Bk) : See → Prop
  | .stood n w p => (n : Int) < MOST ∧ Ix b.wh.length w ∧ 0 ≤ p ∧ p < gi b.wh w
  | .did n r => (n : Int) < MOST ∧ Ix b.ru.length r
  | .rested n r => (n : Int) < MOST ∧ Ix b.ru.length r
def seenSo (b : Bk) (off : List Int) (s : Sta) : See → Bool
  | .stood n w p => gi (itr (tst b off) n s).1 w == p
  | .did n r => (tdn b off (itr (tst b off) n s)).contains r
  | .rested n r => !(tdn b off (itr (tst b off) n s)).contains r
@[simp] theorem nl_see (u : See) : u.W.nl = true := by cases u <;> rfl
@[simp] theorem dd_see (S : Sto) (u : See) : derefF S u.W = u.W := by cases u <;> rfl
@[simp] theorem de_see (S : Sto) (u : See) : deref S u.W = u.W := by cases u <;> rfl
end SP
set_option Elab.async false
set_option linter.all false
set_option maxRecDepth 100000
set_option maxHeartbeats 4000000
/-! S37: a sighting drawn. -/
namespace SP
open PySem hiding upTo
open DL
end SP
set_option Elab.async false
set_option linter.all false
set_option maxRecDepth 100000
set_option maxHeartbeats 4000000
/-! S38: all tuples of so many; a walk up to a find; clashes. -/
namespace SP
open PySem hiding upTo
open DL
theorem subs_mem : ∀ (l : List Int) (k : Nat) (s : List Int), s ∈ subs k l ↔ s.Sublist l ∧ s.length = k
  | [], 0, s => by
    constructor
    · intro h; have : s = [] := by simpa [subs] using h
      subst this; exact ⟨List.Sublist.refl _, rfl⟩
    · rintro ⟨h, _⟩; have : s = [] := by simpa using h
      subst this; simp [subs]
  | [], k + 1, s => by
    constructor
    · intro h; simp [subs] at h
    · rintro ⟨h, h2⟩; have : s = [] := by simpa using h
      subst this; cases h2
  | x :: xs, 0, s => by
    constructor
    · intro h; have : s = [] := by simpa [subs] using h
      subst this; exact ⟨List.nil_sublist _, rfl⟩
    · rintro ⟨_, h2⟩; have : s = [] := List.eq_nil_of_length_eq_zero h2
      subst this; simp [subs]
  | x :: xs, k + 1, s => by
    have i1 := subs_mem xs k
    have i2 := subs_mem xs (k + 1)
    rw [subs, List.mem_append, List.mem_map]
    constructor
    · rintro (⟨t, ht, rfl⟩ | h)
      · obtain ⟨h1, h2⟩ := (i1 t).mp ht
        exact ⟨h1.cons_cons x, by rw [List.length_cons, h2]⟩
      · obtain ⟨h1, h2⟩ := (i2 s).mp h
        exact ⟨h1.cons x, h2⟩
    · rintro ⟨h1, h2⟩
      cases h1 with
      | cons _ h => exact .inr ((i2 s).mpr ⟨h, h2⟩)
      | cons_cons _ h => exact .inl ⟨_, (i1 _).mpr ⟨h, by simpa using h2⟩, rfl⟩
def clashW : Option (List Int × List (List Int)) → W
  | none => .non
  | some (s, fs) => .tup [.str "clash", tpI s, .tup (fs.map fun r => tpI r)]
@[simp] theorem nl_clash (o : Option (List Int × List (List Int))) : (clashW o).nl = true := by
  cases o with
  | none => rfl
  | some p =>
    obtain ⟨s, fs⟩ := p
    have h := nl_rows fs
    show (true && (nlL (s.map W.int) && (nlL (fs.map fun r => tpI r) && true))) = true
    rw [h, nl_ints]; rfl
@[simp] theorem dd_clash (S : Sto) (o : Option (List Int × List (List Int))) : derefF S (clashW o) = clashW o := by cases o <;> rfl
@[simp] theorem de_clash (S : Sto) (o : Option (List Int × List (List Int))) : deref S (clashW o) = clashW o := by cases o <;> rfl
end SP
set_option Elab.async false
set_option linter.all false
set_option maxRecDepth 100000
set_option maxHeartbeats 4000000
/-! S39: the law's own clash. -/
namespace SP
open PySem hiding upTo
open DL
noncomputable def runW (b : Bk) (vs : List Int) : W := .tup [tpI vs, trkW b [] (vs, zeros b.ru.length)]
@[simp] theorem nl_runW (b : Bk) (vs : List Int) : (runW b vs).nl = true := by
  have := nl_trkW b [] (vs, zeros b.ru.length)
  simp [runW, this]
/-- the beginnings by which some sightings are so -/
noncomputable def letsP (b : Bk) (us : List See) (nums : List Int) : List (List Int) := (begs b).filter fun vs => nums.all fun i => seenSo b [] (vs, zeros b.ru.length) (us.getD i.toNat default)
theorem upTo_len (n : Nat) : (upTo n).length = n := by unfold upTo; rw [List.length_map, List.length_range]
end SP
set_option Elab.async false
set_option linter.all false
set_option maxRecDepth 100000
set_option maxHeartbeats 4000000
/-! S40: what a clash is. -/
namespace SP
open PySem hiding upTo
open DL
@[simp] theorem o_revT (a : Me) (ρ : DL.Env) (S : Sto) : mRevT a ρ S = (a ρ S).bind fun x S => match deref S x with
  | .tup ws => .ok (.tup ws.reverse) S
  | _ => .bad := (rfl)
structure ClashS (b : Bk) (us : List See) (s : List Int) (fs : List (List Int)) : Prop where
  sub : s ∈ subs s.length (upTo us.length)
  emp : letsP b us s = []
  pos : 0 < s.length
  few : ∀ k, k < s.length → ∀ t ∈ subs k (upTo us.length), letsP b us t ≠ []
  fse : fs = (subs (s.length - 1) (upTo us.length)).map fun f => (letsP b us f).headD []
theorem ClashS.len {b : Bk} {us : List See} {s : List Int} {fs : List (List Int)} (h : ClashS b us s fs) : s.length ≤ us.length := by
  have h1 := ((subs_mem _ _ _).mp h.sub).1.length_le
  rwa [upTo_len] at h1
theorem ClashS.drop {b : Bk} {us : List See} {s : List Int} {fs : List (List Int)} (h : ClashS b us s fs) {i : Nat} (hi : i < s.length) : s.take i ++ s.drop (i + 1) ∈ subs (s.length - 1) (upTo us.length) := by
  refine (subs_mem _ _ _).mpr ⟨?_, by rw [List.length_append, List.length_take, List.length_drop]; omega⟩
  have h1 : (s.take i ++ s.drop (i + 1)).Sublist s := by
    conv => rhs; rw [← List.take_append_drop i s]
    exact (List.Sublist.refl _).append (List.drop_sublist_drop_left s (by omega))
  exact h1.trans ((subs_mem _ _ _).mp h.sub).1
end SP
set_option Elab.async false
set_option linter.all false
set_option maxRecDepth 100000
set_option maxHeartbeats 4000000
/-! S51: dict and set comprehensions, pop, reverse, dict(pairs): simp lemmas; papers of alike looked at. -/
namespace SP
open PySem hiding upTo
open DL
@[simp] theorem o_dc (vs : List Nat) (tg : Tg) (it : Ml) (c : Mb) (ek ev : Me) (ρ : DL.Env) (S : Sto) : mDc vs tg it c ek ev ρ S = (it ρ S).bind fun xs S => mDc.dcM ρ vs tg c ek ev xs [] S := (rfl)
@[simp] theorem o_sc (vs : List Nat) (tg : Tg) (it : Ml) (c : Mb) (el : Me) (ρ : DL.Env) (S : Sto) : mSc vs tg it c el ρ S = (it ρ S).bind fun xs S => mSc.scM ρ vs tg c el xs [] S := (rfl)
@[simp] theorem o_pop (a i : Me) (ρ : DL.Env) (S : Sto) : mPop a i ρ S = (a ρ S).bind fun x S => if isCell S x then (i ρ S).bind fun i S => popR x i S else .bad := (rfl)
@[simp] theorem o_rvs (a : Me) (ρ : DL.Env) (S : Sto) : mRvs a ρ S = (a ρ S).bind fun x S => if isCell S x then rvsR x S else .bad := (rfl)
@[simp] theorem o_dicP (a : Me) (ρ : DL.Env) (S : Sto) : mDicP a ρ S = (a ρ S).bind dicPR := (rfl)
@[simp] theorem o_lenD (a : Me) (ρ : DL.Env) (S : Sto) : mLenD a ρ S = (a ρ S).bind fun x S => optR S (lenDR S x) := (rfl)
@[simp] theorem o_thru (m : Ms) (ρ : DL.Env) (S : Sto) : sThru m ρ S = thruF (m ρ S) := (rfl)
@[simp] theorem thru_nx (ρ : DL.Env) (S : Sto) : thruF (.nx ρ S) = .nx ρ S := (rfl)
@[simp] theorem thru_ret (w : W) (S : Sto) : thruF (.ret w S) = .ret w S := (rfl)
/-! ### a dict of pairs, all told true -/
def samP (p : Pr) : Bool := decide (p.1.1 = p.2.1)
/-- a lot of pairs is closed -/
def clsB (b1 b2 : Bk) (l : List Pr) : Bool := l.all samP && ((begs b1).all fun v => decide (begP b1 b2 v ∈ l)) && l.all fun p => decide (nxP b1 b2 p ∈ l)
end SP
set_option Elab.async false
set_option linter.all false
set_option maxRecDepth 100000
set_option maxHeartbeats 4000000
/-! S52: what alike tells, its meaning. -/
namespace SP
open PySem hiding upTo
open DL
theorem itP_fst (b1 b2 : Bk) (p : Pr) : ∀ n, (itr (nxP b1 b2) n p).1 = itr (tst b1 []) n p.1
  | 0 => rfl
  | n + 1 => by show (nxP b1 b2 (itr (nxP b1 b2) n p)).1 = tst b1 [] (itr (tst b1 []) n p.1); rw [← itP_fst b1 b2 p n]; rfl
theorem itP_snd (b1 b2 : Bk) (p : Pr) : ∀ n, (itr (nxP b1 b2) n p).2 = itr (tst b2 []) n p.2
  | 0 => rfl
  | n + 1 => by show (nxP b1 b2 (itr (nxP b1 b2) n p)).2 = tst b2 [] (itr (tst b2 []) n p.2); rw [← itP_snd b1 b2 p n]; rfl
/-- the values are the same ahead of the n-th beat of the runs from v -/
def samAt (b1 b2 : Bk) (v : List Int) (n : Nat) : Bool := samP (itr (nxP b1 b2) n (begP b1 b2 v))
theorem samAt_eq (b1 b2 : Bk) (v : List Int) (n : Nat) : samAt b1 b2 v n = decide ((itr (tst b1 []) n (v, zeros b1.ru.length)).1 = (itr (tst b2 []) n (v, zeros b2.ru.length)).1) := by
  unfold samAt samP
  rw [itP_fst, itP_snd]; rfl
def Part (f : Nat → Bool) : Option Nat → Prop
  | none => ∀ n, f n = true
  | some k => f k = false ∧ ∀ j, j < k → f j = true
structure ClsP (b1 b2 : Bk) (vis : List Pr) : Prop where
  sam : ∀ p ∈ vis, samP p = true
  nx : ∀ p ∈ vis, nxP b1 b2 p ∈ vis
theorem ClsP.itr {b1 b2 : Bk} {vis : List Pr} (h : ClsP b1 b2 vis) {p : Pr} (hp : p ∈ vis) : ∀ n, itr (nxP b1 b2) n p ∈ vis
  | 0 => hp
  | n + 1 => h.nx _ (ClsP.itr h hp n)
theorem ClsP.at_ {b1 b2 : Bk} {vis : List Pr} (h : ClsP b1 b2 vis) {v : List Int} (hp : begP b1 b2 v ∈ vis) (n : Nat) : samAt b1 b2 v n = true := h.sam _ (h.itr hp n)
theorem walkP_spec {b1 b2 : Bk} (h1 : b1.Ok) (h2 : b2.Ok) : ∀ (n : Nat) (vis : List Pr) (p : Pr) (k : Nat), VisOk b1 b2 vis → PrOk b1 b2 p → 1417176 < n + vis.length → (∀ q ∈ vis, nxP b1 b2 q ∈ vis ∨ nxP b1 b2 q = p) →
    match walkP b1 b2 n vis p k with
    | .inl vis' => ClsP b1 b2 vis' ∧ (∀ q ∈ vis, q ∈ vis') ∧ p ∈ vis' ∧ ∀ q ∈ vis', q ∈ vis ∨ ∃ j, q = itr (nxP b1 b2) j p
    | .inr m => ∃ j, m = k + j ∧ samP (itr (nxP b1 b2) j p) = false ∧ ∀ i, i < j → samP (itr (nxP b1 b2) i p) = true
  | 0, vis, p, k, hv, hp, hl, hc => by
    have := few_pr h1 h2 hv.nd hv.ok
    omega
  | n + 1, vis, p, k, hv, hp, hl, hc => by
    unfold walkP
    by_cases hm : p ∈ vis
    · rw [if_pos hm]
      refine ⟨⟨fun q hq => decide_eq_true (hv.ok q hq).2, fun q hq => ?_⟩, fun q h => h, hm, fun q h => .inl h⟩
      rcases hc q hq with h | h
      · exact h
      · rw [h]; exact hm
    · rw [if_neg hm]
      by_cases he : p.1.1 = p.2.1
      · rw [if_pos he]
        have ih := walkP_spec h1 h2 n (vis ++ [p]) (nxP b1 b2 p) (k + 1) (hv.add hm hp he) (nxP_ok h1 h2 hp) (by rw [List.length_append, List.length_singleton]; omega) (fun q hq => by
          rcases List.mem_append.mp hq with h | h
          · rcases hc q h with h' | h'
            · exact .inl (List.mem_append_left _ h')
            · rw [h']; exact .inl (List.mem_append_right _ (by simp))
          · have : q = p := by simpa using h
            rw [this]; exact .inr rfl)
        cases hq : walkP b1 b2 n (vis ++ [p]) (nxP b1 b2 p) (k + 1) with
        | inl vis' =>
          rw [hq] at ih
          obtain ⟨a1, a2, a3, a4⟩ := ih
          refine ⟨a1, fun q h => a2 q (List.mem_append_left _ h), a2 p (List.mem_append_right _ (by simp)), fun q h => ?_⟩
          rcases a4 q h with h' | ⟨j, h'⟩
          · rcases List.mem_append.mp h' with h'' | h''
            · exact .inl h''
            · exact .inr ⟨0, show q = p by simpa using h''⟩
          · exact .inr ⟨j + 1, by rw [h']; exact itr_comm (nxP b1 b2) p j⟩
        | inr m =>
          rw [hq] at ih
          obtain ⟨j, e, hj, hb⟩ := ih
          refine ⟨j + 1, by omega, ?_, fun i hi => ?_⟩
          · have e : itr (nxP b1 b2) (j + 1) p = itr (nxP b1 b2) j (nxP b1 b2 p) := (itr_comm (nxP b1 b2) p j).symm
            rw [e]; exact hj
          · cases i with
            | zero => exact decide_eq_true he
            | succ i =>
              have e : itr (nxP b1 b2) (i + 1) p = itr (nxP b1 b2) i (nxP b1 b2 p) := (itr_comm (nxP b1 b2) p i).symm
              rw [e]; exact hb i (by omega)
      · rw [if_neg he]
        exact ⟨0, rfl, decide_eq_false he, fun i hi => by omega⟩
theorem allP_spec {b1 b2 : Bk} (h1 : b1.Ok) (h2 : b2.Ok) (hw : b1.wh = b2.wh) : ∀ (vs : List (List Int)) (vis : List Pr), (∀ v ∈ vs, v ∈ begs b1) → VisOk b1 b2 vis → ClsP b1 b2 vis →
    match SP.allP b1 b2 vs vis with
    | .inl vis' => ClsP b1 b2 vis' ∧ VisOk b1 b2 vis' ∧ (∀ q ∈ vis, q ∈ vis') ∧ (∀ v ∈ vs, begP b1 b2 v ∈ vis') ∧ ∀ q ∈ vis', q ∈ vis ∨ ∃ v ∈ vs, ∃ j, q = itr (nxP b1 b2) j (begP b1 b2 v)
    | .inr (v, k) => ∃ l1 l2, vs = l1 ++ v :: l2 ∧ (∀ u ∈ l1, ∀ n, samAt b1 b2 u n = true) ∧ Part (samAt b1 b2 v) (some k)
  | [], vis, _, hv, hc => ⟨hc, hv, fun q h => h, (fun _ h => nomatch h), fun q h => .inl h⟩
  | v :: vs, vis, hm, hv, hc => by
    have hv0 := hm v (List.mem_cons_self ..)
    have hp := begP_ok h1 h2 hw hv0
    have hwl := walkP_spec h1 h2 2000000 vis (begP b1 b2 v) 0 hv hp (by omega) (fun q hq => .inl (hc.nx q hq))
    unfold SP.allP
    cases hq : walkP b1 b2 2000000 vis (begP b1 b2 v) 0 with
    | inr k =>
      rw [hq] at hwl
      obtain ⟨j, e, hj, hb⟩ := hwl
      refine ⟨[], vs, rfl, (fun _ h => nomatch h), ?_⟩
      have : k = j := by omega
      subst this
      exact ⟨hj, hb⟩
    | inl vis1 =>
      rw [hq] at hwl
      obtain ⟨a1, a2, a3, a4⟩ := hwl
      have hv1 := (walkP_ok h1 h2 2000000 vis vis1 _ 0 hv hp (by omega) hq).1
      have ih := allP_spec h1 h2 hw vs vis1 (fun w h => hm w (List.mem_cons_of_mem _ h)) hv1 a1
      show (match SP.allP b1 b2 vs vis1 with | .inl vis' => _ | .inr (w, k) => _)
      cases hr : SP.allP b1 b2 vs vis1 with
      | inl vis' =>
        rw [hr] at ih
        obtain ⟨c1, c2, c3, c4, c5⟩ := ih
        refine ⟨c1, c2, fun q h => c3 q (a2 q h), fun w hw' => ?_, fun q h => ?_⟩
        · rcases List.mem_cons.mp hw' with rfl | h
          · exact c3 _ a3
          · exact c4 w h
        · rcases c5 q h with h' | ⟨w, hw', j, e⟩
          · rcases a4 q h' with h'' | ⟨j, e⟩
            · exact .inl h''
            · exact .inr ⟨v, List.mem_cons_self .., j, e⟩
          · exact .inr ⟨w, List.mem_cons_of_mem _ hw', j, e⟩
      | inr wk =>
        obtain ⟨w, k⟩ := wk
        rw [hr] at ih
        obtain ⟨l1, l2, e, hu, hpt⟩ := ih
        refine ⟨v :: l1, l2, by rw [e]; rfl, fun u hu' => ?_, hpt⟩
        rcases List.mem_cons.mp hu' with rfl | h
        · exact fun n => a1.at_ a3 n
        · exact hu u h
/-- what alike tells -/
inductive Alk (b1 b2 : Bk) : Prop where
  | alike (vis : List Pr) (e : SP.allP b1 b2 (begs b1) [] = .inl vis) (c : ClsP b1 b2 vis) (v : VisOk b1 b2 vis) (b : ∀ v ∈ begs b1, begP b1 b2 v ∈ vis) (r : ∀ q ∈ vis, ∃ v ∈ begs b1, ∃ j, q = itr (nxP b1 b2) j (begP b1 b2 v)) : Alk b1 b2
  | parted (v : List Int) (k : Nat) (e : SP.allP b1 b2 (begs b1) [] = .inr (v, k)) (l1 l2 : List (List Int)) (s : begs b1 = l1 ++ v :: l2) (u : ∀ u ∈ l1, ∀ n, samAt b1 b2 u n = true) (p : Part (samAt b1 b2 v) (some k)) : Alk b1 b2
theorem alk_told {b1 b2 : Bk} (h1 : b1.Ok) (h2 : b2.Ok) (hw : b1.wh = b2.wh) : Alk b1 b2 := by
  have h := allP_spec h1 h2 hw (begs b1) [] (fun v h => h) ⟨List.nodup_nil, (fun _ h => nomatch h)⟩ ⟨(fun _ h => nomatch h), (fun _ h => nomatch h)⟩
  cases hr : SP.allP b1 b2 (begs b1) [] with
  | inl vis =>
    rw [hr] at h
    obtain ⟨c1, c2, c3, c4, c5⟩ := h
    refine .alike vis hr c1 c2 c4 fun q hq => ?_
    rcases c5 q hq with h' | h'
    · cases h'
    · exact h'
  | inr wk =>
    obtain ⟨w, k⟩ := wk
    rw [hr] at h
    obtain ⟨l1, l2, e, hu, hp⟩ := h
    exact .parted w k hr l1 l2 e hu hp
end SP
set_option Elab.async false
set_option linter.all false
set_option maxRecDepth 100000
set_option maxHeartbeats 4000000
/-! S53: pairs in order; what alike tells, by its members. -/
namespace SP
open PySem hiding upTo
open DL
theorem toP_pr (p : Pr) : toP (prW p) = .tuple [toP (stW p.1), toP (stW p.2)] := rfl
theorem stLt_irr (a : Sta) : stLt a a = false := by
  unfold stLt
  rw [if_pos rfl]
  exact decide_eq_false (List.lt_irrefl _)
theorem eqvP_st (a b : Sta) : PyData.eqv (toP (stW a)) (toP (stW b)) = decide (a = b) := by
  rw [toP_st, toP_st]
  show (PyData.eqvAll (a.1.map PyData.int) (b.1.map PyData.int) && (PyData.eqvAll (a.2.map PyData.int) (b.2.map PyData.int) && true)) = _
  rw [eqvP_ints, eqvP_ints, Bool.and_true]
  by_cases h1 : a.1 = b.1
  · by_cases h2 : a.2 = b.2
    · rw [decide_eq_true h1, decide_eq_true h2, decide_eq_true (Prod.ext h1 h2)]; rfl
    · rw [decide_eq_true h1, decide_eq_false h2, decide_eq_false (fun e => h2 (congrArg Prod.snd e))]; rfl
  · rw [decide_eq_false h1, decide_eq_false (fun e => h1 (congrArg Prod.fst e))]; rfl
theorem alike_st (a b : Sta) : PySem.W.alike (toP (stW a)) (toP (stW b)) = true := by
  rw [toP_st, toP_st]
  show (PySem.W.alike (.tuple (a.1.map .int)) (.tuple (b.1.map .int)) && (PySem.W.alike (.tuple (a.2.map .int)) (.tuple (b.2.map .int)) && true)) = true
  rw [alike_rows, alike_rows]; rfl
def prLt (p q : Pr) : Bool := if p.1 = q.1 then stLt p.2 q.2 else stLt p.1 q.1
theorem dLt_pr (p q : Pr) : PySem.W.dataLt (toP (prW p)) (toP (prW q)) = prLt p q := by
  rw [toP_pr, toP_pr, PySem.W.dataLt_pair (alike_st _ _) (alike_st _ _), eqvP_st, eqvP_st, dLt_st, dLt_st]
  unfold prLt
  by_cases h : p.1 = q.1
  · rw [decide_eq_true h, if_pos rfl, if_pos h]
    by_cases h2 : p.2 = q.2
    · rw [decide_eq_true h2, if_pos rfl, h2, stLt_irr]
    · rw [decide_eq_false h2]; rfl
  · rw [decide_eq_false h, if_neg h]; rfl
theorem leW_pr (p q : Pr) : leW (prW p) (prW q) = !prLt q p := by
  show (!PySem.W.dataLt (toP (prW q)) (toP (prW p))) = _
  rw [dLt_pr]
def prLe (p q : Pr) : Bool := !prLt q p
def srtPr (l : List Pr) : List Pr := l.mergeSort prLe
theorem srtW_prs (l : List Pr) : srtW (l.map prW) = (srtPr l).map prW := (PySem.W.sort_maps prW fun a _ b _ => (leW_pr a b).symm).symm
theorem mem_srtPr {p : Pr} {l : List Pr} : p ∈ srtPr l ↔ p ∈ l := List.mem_mergeSort
/-- pairs come to -/
def RchP (b1 b2 : Bk) (q : Pr) : Prop := ∃ v ∈ begs b1, ∃ n, q = itr (nxP b1 b2) n (begP b1 b2 v)
def AL (b1 b2 : Bk) : Prop := ∀ v ∈ begs b1, ∀ n, samAt b1 b2 v n = true
theorem walkP_few {b1 b2 : Bk} : ∀ (n : Nat) (vis : List Pr) (p : Pr) (k m : Nat), walkP b1 b2 n vis p k = .inr m → m < k + n
  | 0, vis, p, k, m, e => by cases e
  | n + 1, vis, p, k, m, e => by
    unfold walkP at e
    split at e
    · cases e
    · split at e
      · have := walkP_few n _ _ _ _ e
        omega
      · cases e; omega
theorem allP_few {b1 b2 : Bk} : ∀ (vs : List (List Int)) (vis : List Pr) (v : List Int) (k : Nat), SP.allP b1 b2 vs vis = .inr (v, k) → k < 2000000
  | [], vis, v, k, e => by cases e
  | u :: vs, vis, v, k, e => by
    unfold SP.allP at e
    cases hq : walkP b1 b2 2000000 vis (begP b1 b2 u) 0 with
    | inr m =>
      rw [hq] at e
      cases e
      have := walkP_few 2000000 vis _ 0 _ hq
      omega
    | inl vis1 => rw [hq] at e; exact allP_few vs vis1 v k e
inductive Told (b1 b2 : Bk) : Prop where
  | alike (l : List Pr) (a : AL b1 b2) (e : alkW b1 b2 = .tup [.str "alike", .tup ((srtPr l).map prW)]) (n : l.Nodup) (k : ∀ p ∈ l, PrOk b1 b2 p) (f : l.length ≤ 1417176) (m : ∀ q, q ∈ l ↔ RchP b1 b2 q) (c : clsB b1 b2 (srtPr l) = true) : Told b1 b2
  | parted (v : List Int) (k : Nat) (e : alkW b1 b2 = .tup [.str "parted", tpI v, .int k]) (v0 : v ∈ begs b1) (k0 : k < 2000000) (l1 l2 : List (List Int)) (s : begs b1 = l1 ++ v :: l2) (u : ∀ u ∈ l1, ∀ n, samAt b1 b2 u n = true) (p : Part (samAt b1 b2 v) (some k)) : Told b1 b2
theorem told {b1 b2 : Bk} (h1 : b1.Ok) (h2 : b2.Ok) (hw : b1.wh = b2.wh) : Told b1 b2 := by
  cases alk_told h1 h2 hw with
  | alike vis e c v b r =>
    refine .alike vis (fun u hu n => c.at_ (b u hu) n) ?_ v.nd (fun p hp => (v.ok p hp).1) (few_pr h1 h2 v.nd v.ok) (fun q => ⟨r q, fun ⟨u, hu, n, e⟩ => by rw [e]; exact c.itr (b u hu) n⟩) ?_
    · unfold alkW
      rw [e]
      show W.tup [.str "alike", .tup (srtW (vis.map prW))] = _
      rw [srtW_prs]
    · unfold clsB
      rw [Bool.and_eq_true, Bool.and_eq_true, List.all_eq_true, List.all_eq_true, List.all_eq_true]
      refine ⟨⟨fun p hp => c.sam p (mem_srtPr.mp hp), fun u hu => decide_eq_true (mem_srtPr.mpr (b u hu))⟩, fun p hp => decide_eq_true (mem_srtPr.mpr (c.nx p (mem_srtPr.mp hp)))⟩
  | parted v k e l1 l2 s u p =>
    refine .parted v k ?_ (by rw [s]; simp) (allP_few _ _ _ _ e) l1 l2 s u p
    unfold alkW
    rw [e]
/-- the other way about -/
theorem begs_eq {b1 b2 : Bk} (hw : b1.wh = b2.wh) : begs b1 = begs b2 := by unfold begs szs; rw [hw]
theorem AL.trans {b1 b2 b3 : Bk} (hw : b1.wh = b2.wh) (h : AL b1 b2) (h' : AL b2 b3) : AL b1 b3 := fun v hv n => by
  have e1 := h v hv n
  have e2 := h' v (by rw [← begs_eq hw]; exact hv) n
  rw [samAt_eq] at e1 e2 ⊢
  exact decide_eq_true ((of_decide_eq_true e1).trans (of_decide_eq_true e2))
end SP
set_option Elab.async false
set_option linter.all false
set_option maxRecDepth 100000
set_option maxHeartbeats 4000000
/-! S41: orders that are tracked tuples. -/
namespace SP
open PySem hiding upTo
open DL
@[simp] theorem it_tpx (ws : List W) : items (.tpx ws) = some ws := (rfl)
@[simp] theorem de_tpx (S : Sto) (ws : List W) : deref S (.tpx ws) = .tup ws := (rfl)
@[simp] theorem df_tpx (S : Sto) (ws : List W) : derefF S (.tpx ws) = .tpx ws := (rfl)
@[simp] theorem nl_tpx (ws : List W) : (W.tpx ws).nl = nlL ws := (rfl)
end SP
set_option Elab.async false
set_option linter.all false
set_option maxRecDepth 100000
set_option maxHeartbeats 4000000
/-! S44: rules by other numbers. -/
namespace SP
open PySem hiding upTo
open DL
def nw (rk : List Int) (r : Int) : Int := (rk.idxOf r : Nat)
def mv (rk : List Int) (hs : List Int) : List Int := rk.map (gi hs)
section
variable {rk : List Int} {n : Nat}
theorem rk_mem (h : rk.Perm (upTo n)) {r : Int} : r ∈ rk ↔ Ix n r := by
  rw [h.mem_iff]
  constructor
  · intro hr; exact upTo_ix hr
  · rintro ⟨h0, h1⟩
    unfold upTo
    exact List.mem_map.mpr ⟨r.toNat, List.mem_range.mpr (by omega), by omega⟩
theorem gi_ext {a c : List Int} (h1 : a.length = n) (h2 : c.length = n) (h : ∀ i, Ix n i → gi a i = gi c i) : a = c := by
  apply List.ext_getElem (by rw [h1, h2])
  intro i h3 h4
  have := h i ⟨by omega, by omega⟩
  unfold gi at this
  rw [Int.toNat_natCast, List.getD_eq_getElem?_getD, List.getD_eq_getElem?_getD, List.getElem?_eq_getElem h3, List.getElem?_eq_getElem h4] at this
  exact this
/-- what hushing makes of hushes, place by place -/
structure HP (n : Nat) (hs : List Int) (l : List (Int × Int)) (hs' : List Int) : Prop where
  len : hs'.length = n
  i : ∀ p ∈ l, gi hs' p.1 = max (gi hs p.1) p.2
  o : ∀ j, Ix n j → (∀ p ∈ l, p.1 ≠ j) → gi hs' j = gi hs j
theorem HP.of : ∀ (l : List (Int × Int)) (hs : List Int), hs.length = n → (∀ p ∈ l, Ix n p.1) → (l.map (·.1)).Nodup → HP n hs l (husDo hs l)
  | [], hs, hl, _, _ => ⟨hl, (fun _ h => nomatch h), fun _ _ _ => rfl⟩
  | q :: l, hs, hl, hi, hn => by
    rw [List.map_cons, List.nodup_cons] at hn
    have hq := hi q (List.mem_cons_self ..)
    have ih := HP.of l (seti hs q.1 (max (gi hs q.1) q.2)) (by rw [seti_len, hl]) (fun p hp => hi p (List.mem_cons_of_mem _ hp)) hn.2
    have hne : ∀ p ∈ l, p.1 ≠ q.1 := fun p hp e => hn.1 (by rw [← e]; exact List.mem_map.mpr ⟨p, hp, rfl⟩)
    refine ⟨ih.len, fun p hp => ?_, fun j hj ho => ?_⟩
    · show gi (husDo (seti hs q.1 (max (gi hs q.1) q.2)) l) p.1 = _
      rcases List.mem_cons.mp hp with rfl | hp
      · rw [ih.o p.1 hq hne, gi_seti (by rw [hl]; exact hq) hq.1, if_pos rfl]
      · rw [ih.i p hp, gi_seti (by rw [hl]; exact hq) (hi p (List.mem_cons_of_mem _ hp)).1, if_neg (hne p hp)]
    · show gi (husDo (seti hs q.1 (max (gi hs q.1) q.2)) l) j = _
      rw [ih.o j hj fun p hp => ho p (List.mem_cons_of_mem _ hp), gi_seti (by rw [hl]; exact hq) hj.1, if_neg fun e => ho q (List.mem_cons_self ..) e.symm]
structure WP (n : Nat) (hs : List Int) (l : List Int) (hs' : List Int) : Prop where
  len : hs'.length = n
  i : ∀ p ∈ l, gi hs' p = 0
  o : ∀ j, Ix n j → j ∉ l → gi hs' j = gi hs j
theorem WP.of : ∀ (l : List Int) (hs : List Int), hs.length = n → (∀ p ∈ l, Ix n p) → WP n hs l (wakDo hs l)
  | [], hs, hl, _ => ⟨hl, (fun _ h => nomatch h), fun _ _ _ => rfl⟩
  | q :: l, hs, hl, hi => by
    have hq := hi q (List.mem_cons_self ..)
    have ih := WP.of l (seti hs q 0) (by rw [seti_len, hl]) (fun p hp => hi p (List.mem_cons_of_mem _ hp))
    refine ⟨ih.len, fun p hp => ?_, fun j hj ho => ?_⟩
    · show gi (wakDo (seti hs q 0) l) p = 0
      by_cases hpl : p ∈ l
      · exact ih.i p hpl
      · have e : p = q := by
          rcases List.mem_cons.mp hp with h | h
          · exact h
          · exact absurd h hpl
        subst e
        rw [ih.o p hq hpl, gi_seti (by rw [hl]; exact hq) hq.1, if_pos rfl]
    · show gi (wakDo (seti hs q 0) l) j = _
      rw [ih.o j hj fun h => ho (List.mem_cons_of_mem _ h), gi_seti (by rw [hl]; exact hq) hj.1, if_neg fun e => ho (by rw [e]; exact List.mem_cons_self ..)]
end
section
variable {b : Bk} {rk : List Int}
theorem all_cg {α : Type} {f g : α → Bool} : ∀ {l : List α}, (∀ a ∈ l, f a = g a) → l.all f = l.all g
  | [], _ => rfl
  | a :: l, h => by rw [List.all_cons, List.all_cons, h a (List.mem_cons_self ..), all_cg fun c hc => h c (List.mem_cons_of_mem _ hc)]
theorem ask_in {b : Bk} {off : List Int} : ∀ (l : List Int) (m : Mid3) (P : Int → Prop), (∀ r ∈ l, P r) → (∀ r ∈ m.dn, P r) → ∀ r ∈ (l.foldl (ask b off) m).dn, P r
  | [], m, P, _, h => h
  | i :: l, m, P, hl, h => by
    rw [List.foldl_cons]
    refine ask_in l _ P (fun r hr => hl r (List.mem_cons_of_mem _ hr)) fun r hr => ?_
    unfold ask at hr
    split at hr
    · rcases List.mem_append.mp hr with hr | hr
      · exact h r hr
      · have : r = i := by simpa using hr
        rw [this]; exact hl i (List.mem_cons_self ..)
    · exact h r hr
theorem beat_in {b : Bk} {off : List Int} {s : Sta} {order : List Int} {P : Int → Prop} (h : ∀ r ∈ order, P r) : ∀ r ∈ (beatOf b s order off).1, P r := ask_in order _ P h (fun _ h => nomatch h)
end
end SP
set_option Elab.async false
set_option linter.all false
set_option maxRecDepth 100000
set_option maxHeartbeats 4000000
/-! S57: rules written otherwise: the same runs. -/
namespace SP
open PySem hiding upTo
open DL
/-- hushes seen through f -/
def HR (f : Int → Int) (n n' : Nat) (hs hs' : List Int) : Prop := hs.length = n ∧ hs'.length = n' ∧ ∀ i, Ix n i → gi hs' (f i) = gi hs i
structure Emb (f : Int → Int) (n n' : Nat) : Prop where
  ix : ∀ i, Ix n i → Ix n' (f i)
  inj : ∀ i j, Ix n i → Ix n j → f i = f j → i = j
structure RulR (f : Int → Int) (wh : List Int) (n n' : Nat) (r r' : Rul) : Prop where
  t : ∀ vs hs hs', HR f n n' hs hs' → r'.test.all (Cnd.so vs hs') = r.test.all (Cnd.so vs hs)
  c : ∀ vs, vs.length = wh.length → r'.chg.foldl (Chg.do wh) vs = r.chg.foldl (Chg.do wh) vs
  h : r'.hus = r.hus.map fun p => (f p.1, p.2)
  w : r'.wak = r.wak.map f
inductive Ords (f : Int → Int) (P : Int → Prop) : List Int → List Int → Prop where
  | nil : Ords f P [] []
  | go (i : Int) {l l' : List Int} : Ords f P l l' → Ords f P (i :: l) (f i :: l')
  | by_ (j : Int) {l l' : List Int} : P j → Ords f P l l' → Ords f P l (j :: l')
theorem Ords.map {f : Int → Int} {P : Int → Prop} : ∀ l : List Int, Ords f P l (l.map f)
  | [] => .nil
  | i :: l => .go i (Ords.map l)
theorem Ords.app {f : Int → Int} {P : Int → Prop} {a a' c c' : List Int} (h : Ords f P a a') (k : Ords f P c c') : Ords f P (a ++ c) (a' ++ c') := by
  induction h with
  | nil => exact k
  | go i _ ih => exact .go i ih
  | by_ j p _ ih => exact .by_ j p ih
def Mute (b : Bk) (j : Int) : Prop := Ix b.ru.length j ∧ ∀ m, MidOk b m → wouldDo b j m.vs m.hs = false
structure Stp (b b' : Bk) (f : Int → Int) : Prop where
  wh : b'.wh = b.wh
  e : Emb f b.ru.length b'.ru.length
  r : ∀ i, Ix b.ru.length i → RulR f b.wh b.ru.length b'.ru.length (b.rule i) (b'.rule (f i))
  o : Ords f (Mute b') (own b) (own b')
section
variable {f : Int → Int} {n n' : Nat}
theorem HR.set (e : Emb f n n') {hs hs' : List Int} (h : HR f n n' hs hs') {k : Int} (hk : Ix n k) (v : Int) : HR f n n' (seti hs k v) (seti hs' (f k) v) := by
  obtain ⟨h1, h2, h3⟩ := h
  refine ⟨by rw [seti_len]; exact h1, by rw [seti_len]; exact h2, fun i hi => ?_⟩
  rw [gi_seti (by rw [h2]; exact e.ix k hk) (e.ix i hi).1, gi_seti (by rw [h1]; exact hk) hi.1]
  by_cases c : i = k
  · rw [if_pos c, if_pos (by rw [c])]
  · rw [if_neg c, if_neg fun q => c (e.inj i k hi hk q)]
    exact h3 i hi
theorem HR.hus (e : Emb f n n') : ∀ (l : List (Int × Int)) {hs hs' : List Int}, (∀ p ∈ l, Ix n p.1) → HR f n n' hs hs' → HR f n n' (husDo hs l) (husDo hs' (l.map fun p => (f p.1, p.2)))
  | [], _, _, _, h => h
  | p :: l, hs, hs', hp, h => by
    have h0 := hp p (List.mem_cons_self ..)
    show HR f n n' (husDo (seti hs p.1 (max (gi hs p.1) p.2)) l) (husDo (seti hs' (f p.1) (max (gi hs' (f p.1)) p.2)) (l.map fun p => (f p.1, p.2)))
    rw [h.2.2 p.1 h0]
    exact HR.hus e l (fun q hq => hp q (List.mem_cons_of_mem _ hq)) (h.set e h0 _)
theorem HR.wak (e : Emb f n n') : ∀ (l : List Int) {hs hs' : List Int}, (∀ p ∈ l, Ix n p) → HR f n n' hs hs' → HR f n n' (wakDo hs l) (wakDo hs' (l.map f))
  | [], _, _, _, h => h
  | p :: l, hs, hs', hp, h => by
    have h0 := hp p (List.mem_cons_self ..)
    show HR f n n' (wakDo (seti hs p 0) l) (wakDo (seti hs' (f p) 0) (l.map f))
    exact HR.wak e l (fun q hq => hp q (List.mem_cons_of_mem _ hq)) (h.set e h0 _)
theorem gi_less' {hs : List Int} {i : Int} (h : Ix hs.length i) : gi (less hs) i = max 0 (gi hs i - 1) := by
  obtain ⟨h0, h1⟩ := h
  unfold gi less
  rw [List.getD_eq_getElem?_getD, List.getD_eq_getElem?_getD, List.getElem?_map, List.getElem?_eq_getElem (by omega)]
  rfl
theorem HR.less (e : Emb f n n') {hs hs' : List Int} (h : HR f n n' hs hs') : HR f n n' (less hs) (less hs') := by
  obtain ⟨h1, h2, h3⟩ := h
  refine ⟨by unfold SP.less; rw [List.length_map]; exact h1, by unfold SP.less; rw [List.length_map]; exact h2, fun i hi => ?_⟩
  rw [gi_less' (by rw [h2]; exact e.ix i hi), gi_less' (by rw [h1]; exact hi), h3 i hi]
end
structure MR (f : Int → Int) (n n' : Nat) (m m' : Mid3) : Prop where
  v : m'.vs = m.vs
  h : HR f n n' m.hs m'.hs
  d : m'.dn = m.dn.map f
theorem ask_sim {b b' : Bk} {f : Int → Int} (hb : b.Ok) (s : Stp b b' f) {m m' : Mid3} (hm : MidOk b m) (h : MR f b.ru.length b'.ru.length m m') {i : Int} (hi : Ix b.ru.length i) : MR f b.ru.length b'.ru.length (ask b [] m i) (ask b' [] m' (f i)) := by
  have hr := s.r i hi
  have hw : wouldDo b' (f i) m'.vs m'.hs = wouldDo b i m.vs m.hs := by
    unfold wouldDo
    rw [h.h.2.2 i hi, h.v, hr.t m.vs m.hs m'.hs h.h]
  have hok : (b.rule i).Ok b.wh b.ru.length := rule_ok hb hi
  unfold ask
  rw [hw]
  show MR f _ _ (if (!([] : List Int).contains i && _) = true then _ else _) (if (!([] : List Int).contains (f i) && _) = true then _ else _)
  rw [show ([] : List Int).contains i = false from rfl, show ([] : List Int).contains (f i) = false from rfl]
  cases wouldDo b i m.vs m.hs with
  | false => exact h
  | true =>
    refine ⟨?_, ?_, ?_⟩
    · show (b'.rule (f i)).chg.foldl (Chg.do b'.wh) m'.vs = (b.rule i).chg.foldl (Chg.do b.wh) m.vs
      rw [s.wh, h.v]
      exact hr.c _ hm.f.1
    · show HR f _ _ (wakDo (husDo m.hs (b.rule i).hus) (b.rule i).wak) (wakDo (husDo m'.hs (b'.rule (f i)).hus) (b'.rule (f i)).wak)
      rw [hr.h, hr.w]
      exact HR.wak s.e _ hok.k (HR.hus s.e _ (fun p hp => (hok.h p hp).1) h.h)
    · show m'.dn ++ [f i] = (m.dn ++ [i]).map f
      rw [h.d, List.map_append]; rfl
theorem ask1_ok {b : Bk} (hb : b.Ok) {m : Mid3} (hm : MidOk b m) {i : Int} (hi : Ix b.ru.length i) : MidOk b (ask b [] m i) :=
  ask_ok hb (off := []) [i] m (fun q hq => by
    have : q = i := by simpa using hq
    rw [this]
    exact hi) hm
theorem fold_sim {b b' : Bk} {f : Int → Int} (hb : b.Ok) (hb' : b'.Ok) (s : Stp b b' f) {l l' : List Int} (o : Ords f (Mute b') l l') : ∀ {m m' : Mid3}, (∀ r ∈ l, Ix b.ru.length r) → MidOk b m → MidOk b' m' → MR f b.ru.length b'.ru.length m m' → MR f b.ru.length b'.ru.length (l.foldl (ask b []) m) (l'.foldl (ask b' []) m') := by
  induction o with
  | nil => intro m m' _ _ _ h; exact h
  | go i _ ih =>
    intro m m' hl hm hm' h
    have hi := hl i (List.mem_cons_self ..)
    rw [List.foldl_cons, List.foldl_cons]
    exact ih (fun r hr => hl r (List.mem_cons_of_mem _ hr)) (ask1_ok hb hm hi) (ask1_ok hb' hm' (s.e.ix i hi)) (ask_sim hb s hm h hi)
  | by_ j p _ ih =>
    intro m m' hl hm hm' h
    have e : ask b' [] m' j = m' := by
      unfold ask
      rw [p.2 m' hm', Bool.and_false]
      rfl
    rw [List.foldl_cons, e]
    exact ih hl hm hm' h
structure SR (f : Int → Int) (n n' : Nat) (s s' : Sta) : Prop where
  v : s'.1 = s.1
  h : HR f n n' s.2 s'.2
theorem beat_sim {b b' : Bk} {f : Int → Int} (hb : b.Ok) (hb' : b'.Ok) (p : Stp b b' f) {s s' : Sta} (hs : StOk b s) (hs' : StOk b' s') (h : SR f b.ru.length b'.ru.length s s') :
    SR f b.ru.length b'.ru.length (tst b [] s) (tst b' [] s') ∧ tdn b' [] s' = (tdn b [] s).map f := by
  have k := fold_sim hb hb' p p.o (m := ⟨s.1, s.2, []⟩) (m' := ⟨s'.1, s'.2, []⟩) (own_ix b) (mid0 hs) (mid0 hs') ⟨h.v, h.h, rfl⟩
  exact ⟨⟨k.v, k.h.less p.e⟩, k.d⟩
theorem zeros_gi (n : Nat) (i : Int) : gi (zeros n) i = 0 := by
  unfold gi zeros
  rw [List.getD_eq_getElem?_getD, List.getElem?_replicate]
  split <;> rfl
theorem itr_sim {b b' : Bk} {f : Int → Int} (hb : b.Ok) (hb' : b'.Ok) (p : Stp b b' f) {v : List Int} (hv : v ∈ begs b) : ∀ n, SR f b.ru.length b'.ru.length (itr (tst b []) n (v, zeros b.ru.length)) (itr (tst b' []) n (v, zeros b'.ru.length))
  | 0 => ⟨rfl, by unfold itr zeros; rw [List.length_replicate], by unfold itr zeros; rw [List.length_replicate], fun i _ => by
      show gi (zeros _) _ = gi (zeros _) _
      rw [zeros_gi, zeros_gi]⟩
  | n + 1 => by
    have hv' : v ∈ begs b' := by rw [begs_eq p.wh]; exact hv
    exact (beat_sim hb hb' p (itr_ok hb (beg_st hb hv) n) (itr_ok hb' (beg_st hb' hv') n) (itr_sim hb hb' p hv n)).1
/-- alike, rule by rule -/
structure Lk (b1 b2 : Bk) (nm : List Int) : Prop where
  wh : b2.wh = b1.wh
  len : nm.length = b1.ru.length
  ix : ∀ r ∈ nm, Ix b2.ru.length r
  v : ∀ v ∈ begs b1, ∀ n, (itr (tst b2 []) n (v, zeros b2.ru.length)).1 = (itr (tst b1 []) n (v, zeros b1.ru.length)).1
  d : ∀ v ∈ begs b1, ∀ n i, Ix b1.ru.length i → (gi nm i ∈ tdn b2 [] (itr (tst b2 []) n (v, zeros b2.ru.length)) ↔ i ∈ tdn b1 [] (itr (tst b1 []) n (v, zeros b1.ru.length)))
theorem gi_upTo {n : Nat} {i : Int} (h : Ix n i) : gi (upTo n) i = i := by
  obtain ⟨h0, h1⟩ := h
  unfold gi upTo
  rw [List.getD_eq_getElem?_getD, List.getElem?_map, List.getElem?_range (by omega)]
  show ((i.toNat : Nat) : Int) = i
  omega
theorem Lk.refl (b : Bk) : Lk b b (upTo b.ru.length) := ⟨rfl, upTo_len _, fun r hr => upTo_ix hr, fun _ _ _ => rfl, fun v _ n i hi => by rw [gi_upTo hi]⟩
theorem tdn_ix {b : Bk} {s : Sta} : ∀ r ∈ tdn b [] s, Ix b.ru.length r := beat_in (own_ix b)
theorem gi_map {f : Int → Int} {l : List Int} {i : Int} (h : Ix l.length i) : gi (l.map f) i = f (gi l i) := by
  obtain ⟨h0, h1⟩ := h
  unfold gi
  rw [List.getD_eq_getElem?_getD, List.getD_eq_getElem?_getD, List.getElem?_map, List.getElem?_eq_getElem (by omega)]
  rfl
theorem Lk.step {b1 b2 b3 : Bk} {nm : List Int} {f : Int → Int} (h : Lk b1 b2 nm) (h2 : b2.Ok) (h3 : b3.Ok) (p : Stp b2 b3 f) : Lk b1 b3 (nm.map f) := by
  have hb : ∀ v ∈ begs b1, v ∈ begs b2 := fun v hv => by rw [begs_eq h.wh]; exact hv
  refine ⟨p.wh.trans h.wh, by rw [List.length_map]; exact h.len, fun r hr => ?_, fun v hv n => ?_, fun v hv n i hi => ?_⟩
  · obtain ⟨q, hq, rfl⟩ := List.mem_map.mp hr
    exact p.e.ix q (h.ix q hq)
  · rw [← h.v v hv n]
    exact (itr_sim h2 h3 p (hb v hv) n).v
  · have hi' : Ix nm.length i := by rw [h.len]; exact hi
    have hv3 : v ∈ begs b3 := by rw [begs_eq p.wh]; exact hb v hv
    rw [gi_map hi', ← h.d v hv n i hi, (beat_sim h2 h3 p (itr_ok h2 (beg_st h2 (hb v hv)) n) (itr_ok h3 (beg_st h3 hv3) n) (itr_sim h2 h3 p (hb v hv) n)).2, List.mem_map]
    constructor
    · rintro ⟨j, hj, e⟩
      rw [p.e.inj _ _ (h.ix _ (gi_mem hi')) (tdn_ix j hj) e.symm]; exact hj
    · intro hj
      exact ⟨_, hj, rfl⟩
/-! ### one rule put otherwise -/
theorem own_n {b b' : Bk} (h : b'.ru.length = b.ru.length) : own b' = own b := by unfold own; rw [h]
theorem HR.eq {n : Nat} {hs hs' : List Int} (h : HR (fun i => i) n n hs hs') : hs' = hs := gi_ext h.2.1 h.1 h.2.2
theorem Stp.one {b : Bk} {u : Nat} (hu : u < b.ru.length) {r' : Rul} (ht : ∀ vs hs, r'.test.all (Cnd.so vs hs) = (b.ru[u]).test.all (Cnd.so vs hs)) (hc : ∀ vs, vs.length = b.wh.length → r'.chg.foldl (Chg.do b.wh) vs = (b.ru[u]).chg.foldl (Chg.do b.wh) vs)
    (hh : r'.hus = (b.ru[u]).hus) (hk : r'.wak = (b.ru[u]).wak) : Stp b ⟨b.wh, b.ru.take u ++ r' :: b.ru.drop (u + 1)⟩ (fun i => i) := by
  have hl : (b.ru.take u ++ r' :: b.ru.drop (u + 1)).length = b.ru.length := by
    rw [List.length_append, List.length_cons, List.length_take, List.length_drop]; omega
  have ho : own (⟨b.wh, b.ru.take u ++ r' :: b.ru.drop (u + 1)⟩ : Bk) = own b := own_n hl
  refine ⟨rfl, ⟨fun i hi => by show Ix (b.ru.take u ++ r' :: b.ru.drop (u + 1)).length i; rw [hl]; exact hi, fun i j _ _ e => e⟩, fun i hi => ?_, ?_⟩
  · show RulR _ b.wh b.ru.length (b.ru.take u ++ r' :: b.ru.drop (u + 1)).length (b.rule i) _
    rw [hl]
    have key : (⟨b.wh, b.ru.take u ++ r' :: b.ru.drop (u + 1)⟩ : Bk).rule i = if i.toNat = u then r' else b.rule i := by
      unfold Bk.rule
      rw [List.getD_eq_getElem?_getD, List.getD_eq_getElem?_getD]
      show (b.ru.take u ++ r' :: b.ru.drop (u + 1))[i.toNat]?.getD default = _
      rcases Nat.lt_trichotomy i.toNat u with c | c | c
      · rw [List.getElem?_append_left (by rw [List.length_take]; omega), List.getElem?_take_of_lt c, if_neg (by omega)]
      · rw [if_pos c, List.getElem?_append_right (by rw [List.length_take]; omega), List.length_take, show i.toNat - min u b.ru.length = 0 by omega]; rfl
      · rw [List.getElem?_append_right (by rw [List.length_take]; omega), List.length_take, if_neg (by omega)]
        obtain ⟨k, hk⟩ : ∃ k, i.toNat = u + 1 + k := ⟨i.toNat - (u + 1), by omega⟩
        rw [show i.toNat - min u b.ru.length = k + 1 by omega, List.getElem?_cons_succ, List.getElem?_drop, hk]
    rw [key]
    split
    · rename_i e
      have hr : b.rule i = b.ru[u] := by
        unfold Bk.rule
        rw [List.getD_eq_getElem?_getD, e, List.getElem?_eq_getElem hu]; rfl
      rw [hr]
      exact ⟨fun vs hs hs' h => by rw [h.eq]; exact ht vs hs, hc, by rw [hh, List.map_id'], by rw [hk, List.map_id']⟩
    · exact ⟨fun vs hs hs' h => by rw [h.eq], fun _ _ => rfl, by rw [List.map_id'], by rw [List.map_id']⟩
  · rw [ho]
    have := Ords.map (f := fun i => i) (P := Mute ⟨b.wh, b.ru.take u ++ r' :: b.ru.drop (u + 1)⟩) (own b)
    rw [List.map_id'] at this
    exact this
theorem Stp.same (b : Bk) : Stp b b (fun i => i) := by
  refine ⟨rfl, ⟨fun i hi => hi, fun i j _ _ e => e⟩, fun i hi => ⟨fun vs hs hs' h => by rw [h.eq], fun _ _ => rfl, by rw [List.map_id'], by rw [List.map_id']⟩, ?_⟩
  have := Ords.map (f := fun i => i) (P := Mute b) (own b)
  rw [List.map_id'] at this
  exact this
/-! ### a vain rule put in -/
def mvN (s : Int) (i : Int) : Int := if s ≤ i then i + 1 else i
def mvC (s : Int) : Cnd → Cnd
  | .pl k w p => .pl k w p
  | .hu r => .hu (mvN s r)
  | .aw r => .aw (mvN s r)
def mvR (s : Int) (c : Rul) : Rul := ⟨c.test.map (mvC s), c.chg, c.hus.map fun p => (mvN s p.1, p.2), c.wak.map (mvN s)⟩
def insB (b : Bk) (s : Nat) (r : Rul) : Bk := ⟨b.wh, (b.ru.map (mvR s)).take s ++ r :: (b.ru.map (mvR s)).drop s⟩
theorem insB_len (b : Bk) {s : Nat} (hs : s ≤ b.ru.length) (r : Rul) : (insB b s r).ru.length = b.ru.length + 1 := by
  show ((b.ru.map (mvR s)).take s ++ r :: (b.ru.map (mvR s)).drop s).length = _
  rw [List.length_append, List.length_cons, List.length_take, List.length_drop, List.length_map]; omega
theorem insB_at (b : Bk) {s : Nat} (hs : s ≤ b.ru.length) (r : Rul) {i : Int} (hi : Ix b.ru.length i) : (insB b s r).rule (mvN s i) = mvR s (b.rule i) := by
  obtain ⟨h0, h1⟩ := hi
  have hr : (b.ru.map (mvR s))[i.toNat]? = some (mvR s (b.rule i)) := by
    unfold Bk.rule
    rw [List.getElem?_map, List.getD_eq_getElem?_getD, List.getElem?_eq_getElem (by omega)]; rfl
  have hl : (b.ru.map (mvR s)).length = b.ru.length := List.length_map ..
  show ((b.ru.map (mvR s)).take s ++ r :: (b.ru.map (mvR s)).drop s).getD (mvN s i).toNat default = _
  rw [List.getD_eq_getElem?_getD]
  unfold mvN
  split
  · rw [List.getElem?_append_right (by rw [List.length_take]; omega), List.length_take, show (i + 1).toNat - min s (b.ru.map (mvR s)).length = (i.toNat - s) + 1 by omega, List.getElem?_cons_succ, List.getElem?_drop, show s + (i.toNat - s) = i.toNat by omega, hr]; rfl
  · rw [List.getElem?_append_left (by rw [List.length_take]; omega), List.getElem?_take_of_lt (by omega), hr]; rfl
theorem insB_spot (b : Bk) {s : Nat} (hs : s ≤ b.ru.length) (r : Rul) : (insB b s r).rule s = r := by
  have hl : (b.ru.map (mvR s)).length = b.ru.length := List.length_map ..
  show ((b.ru.map (mvR s)).take s ++ r :: (b.ru.map (mvR s)).drop s).getD (s : Int).toNat default = _
  rw [List.getD_eq_getElem?_getD, List.getElem?_append_right (by rw [List.length_take]; omega), List.length_take, show (s : Int).toNat - min s (b.ru.map (mvR s)).length = 0 by omega]; rfl
theorem mvN_emb (s n : Nat) : Emb (mvN s) n (n + 1) := ⟨fun i hi => by unfold mvN; obtain ⟨h0, h1⟩ := hi; split <;> exact ⟨by omega, by omega⟩, fun i j _ _ e => by
  unfold mvN at e
  split at e <;> split at e <;> omega⟩
theorem mvC_so {n n' : Nat} {s : Int} {hs hs' : List Int} (h : HR (mvN s) n n' hs hs') {wh : List Int} {c : Cnd} (hc : c.Ok wh n) (vs : List Int) : Cnd.so vs hs' (mvC s c) = Cnd.so vs hs c := by
  cases c with
  | pl k w p => cases k <;> rfl
  | hu r => show decide (0 < gi hs' (mvN s r)) = decide (0 < gi hs r); rw [h.2.2 r hc]
  | aw r => show (gi hs' (mvN s r) == 0) = (gi hs r == 0); rw [h.2.2 r hc]
theorem Stp.ins {b : Bk} (hb : b.Ok) {s : Nat} (hs : s ≤ b.ru.length) (c : Rul) : Stp b (insB b s (lessR c)) (mvN s) := by
  have hl := insB_len b hs (lessR c)
  refine ⟨rfl, by rw [hl]; exact mvN_emb s _, fun i hi => ?_, ?_⟩
  · rw [hl, insB_at b hs _ hi]
    have hok : (b.rule i).Ok b.wh b.ru.length := rule_ok hb hi
    refine ⟨fun vs hs hs' h => ?_, fun _ _ => rfl, rfl, rfl⟩
    show ((b.rule i).test.map (mvC s)).all _ = _
    rw [List.all_map]
    exact all_cg fun d hd => mvC_so h (hok.t d hd) vs
  · have hmute : Mute (insB b s (lessR c)) s := by
      refine ⟨by rw [hl]; exact ⟨by omega, by omega⟩, fun m hm => ?_⟩
      unfold wouldDo
      rw [insB_spot b hs]
      have hg : ¬ gi m.vs 0 < 0 := by
        have := hm.v 0 ⟨by omega, by have := hb.w.l0; show ((0 : Int) < (b.wh.length : Int)); omega⟩
        omega
      have e : (lessR c).test.all (Cnd.so m.vs m.hs) = false := by
        show (c.test.take 3 ++ [Cnd.pl .below 0 0]).all _ = false
        rw [List.all_append]
        have : ([Cnd.pl .below 0 0] : List Cnd).all (Cnd.so m.vs m.hs) = false := by
          simp [Cnd.so, hg]
        rw [this, Bool.and_false]
      rw [e, Bool.and_false]
    obtain ⟨t, ht⟩ : ∃ t, b.ru.length = s + t := ⟨b.ru.length - s, by omega⟩
    have o1 : own b = (List.range s).map (fun i : Nat => (i : Int)) ++ (List.range t).map fun i : Nat => ((s + i : Nat) : Int) := by
      unfold own
      rw [ht, List.range_add, List.map_append, List.map_map]; rfl
    have o2 : own (insB b s (lessR c)) = ((List.range s).map fun i : Nat => (i : Int)).map (mvN s) ++ (s : Int) :: ((List.range t).map fun i : Nat => ((s + i : Nat) : Int)).map (mvN s) := by
      unfold own
      rw [hl, ht, show s + t + 1 = s + (t + 1) by omega, List.range_add, List.map_append, List.map_map, List.range_succ_eq_map, List.map_cons, List.map_map, List.map_map, List.map_map]
      congr 1
      · refine List.map_congr_left fun i hi => ?_
        have := List.mem_range.mp hi
        show (i : Int) = mvN s i
        unfold mvN
        rw [if_neg (by omega)]
      · congr 1
        refine List.map_congr_left fun i _ => ?_
        show ((s + (i + 1) : Nat) : Int) = mvN s ((s + i : Nat) : Int)
        unfold mvN
        rw [if_pos (by omega)]; omega
    rw [o1, o2]
    exact (Ords.map _).app (.by_ _ hmute (Ords.map _))
end SP
set_option Elab.async false
set_option linter.all false
set_option maxRecDepth 100000
set_option maxHeartbeats 4000000
/-! S54: all orders; the least order that leads elsewhere; papers of orders. -/
namespace SP
open PySem hiding upTo
open DL
@[simp] theorem o_dc' (vs : List Nat) (tg : Tg) (it : Ml) (c : Mb) (ek ev : Me) (ρ : DL.Env) (S : Sto) : mDc vs tg it c ek ev ρ S = (it ρ S).bind fun xs S => mDc.dcM ρ vs tg c ek ev xs [] S := (rfl)
@[simp] theorem o_dicP' (a : Me) (ρ : DL.Env) (S : Sto) : mDicP a ρ S = (a ρ S).bind dicPR := (rfl)
@[simp] theorem o_tupD (a : Me) (ρ : DL.Env) (S : Sto) : mTupD a ρ S = (a ρ S).bind fun x S => optR S (keyLR S x) := (rfl)
/-! ### all orders, by the program -/
/-! ### all orders, by the law -/
end SP
set_option Elab.async false
set_option linter.all false
set_option maxRecDepth 100000
set_option maxHeartbeats 4000000
/-! S55: the least order that leads elsewhere; papers of orders told. -/
namespace SP
open PySem hiding upTo
open DL
@[simp] theorem nl_vW (o : Option (List Int)) : (vW o).nl = true := by
  cases o with
  | none => rfl
  | some l => exact nl_ints l
end SP
set_option Elab.async false
set_option linter.all false
set_option maxRecDepth 100000
set_option maxHeartbeats 4000000
/-! S58: which rows are orders; outcomes. -/
namespace SP
open PySem hiding upTo
open DL
theorem mem_upTo {n : Nat} {i : Int} : i ∈ upTo n ↔ Ix n i := rk_mem (List.Perm.refl (upTo n))
structure OrdP (n : Nat) (o : List Int) : Prop where
  len : o.length = n
  ix : ∀ i ∈ o, Ix n i
  nd : o.Nodup
theorem OrdP.all {n : Nat} {o : List Int} (h : OrdP n o) {i : Int} (hi : Ix n i) : i ∈ o := by
  apply Classical.byContradiction
  intro hn
  have h2 : (i :: o).Nodup := by rw [List.nodup_cons]; exact ⟨hn, h.nd⟩
  have := List.Nodup.length_le_of_subset h2 (l₂ := upTo n) (fun x hx => by
    rcases List.mem_cons.mp hx with rfl | hx
    · exact mem_upTo.mpr hi
    · exact mem_upTo.mpr (h.ix x hx))
  rw [upTo_len, List.length_cons, h.len] at this
  omega
theorem OrdP.map {n : Nat} {o : List Int} (h : OrdP n o) {f : Int → Int} (hf : ∀ i, Ix n i → Ix n (f i)) (hi : ∀ i j, Ix n i → Ix n j → f i = f j → i = j) : OrdP n (o.map f) := by
  refine ⟨by rw [List.length_map]; exact h.len, fun i hx => ?_, ?_⟩
  · obtain ⟨j, hj, rfl⟩ := List.mem_map.mp hx
    exact hf j (h.ix j hj)
  · have := h.nd
    rw [List.nodup_iff_pairwise_ne] at this ⊢
    rw [List.pairwise_map]
    refine List.pairwise_iff_forall_sublist.mpr fun {a c} hs e => ?_
    exact List.pairwise_iff_forall_sublist.mp this hs (hi a c (h.ix a (hs.subset (by simp))) (h.ix c (hs.subset (by simp))) e)
/-! ### outcomes -/
end SP
set_option Elab.async false
set_option linter.all false
set_option maxRecDepth 100000
set_option maxHeartbeats 4000000
/-! S69: the shown text of papers is short. -/
namespace SP
open PySem hiding upTo
open DL
open PyProof.Rows hiding St
theorem d_anyM {n c : Nat} {S : Sto} (hB : Bg n c S) (hc : c ≤ 900000000) : ∃ (w : W) (S' : Sto), f__law_any [.loc n] S = .ok w S' ∧ w ∈ anyL ∧ W.plain 10 w = true ∧ short w ∧ S'.length = S.length ∧ Keep n S.length S S' ∧ Bg n (c + 1) S' := by
  obtain ⟨d, S1, h0, h1, e, l, kp, b1⟩ := d_take hB (m := 27) (by omega) (by decide) (by omega)
  obtain ⟨w, hw, ha⟩ := anyL_at h0 h1
  have hlim : ∀ k : Nat, k ≤ 1000 → k ≤ limit := fun k hk => by unfold limit; omega
  refine ⟨w, S1, ?_, hw, anyL_plain w hw, anyL_short w hw, l, kp, b1⟩
  unfold anyL at ha
  have l19 : 19 ≤ limit := hlim _ (by omega)
  have l26 : 26 ≤ limit := hlim _ (by omega)
  have l27 : 27 ≤ limit := hlim _ (by omega)
  have l1 : 1 ≤ limit := hlim _ (by omega)
  have l2 : 2 ≤ limit := hlim _ (by omega)
  have l3 : 3 ≤ limit := hlim _ (by omega)
  have l7 : 7 ≤ limit := hlim _ (by omega)
  have l0 : 0 ≤ limit := hlim _ (by omega)
  have ng : negW (.int 1) = some (.int (-1)) := rfl
  simp [f__law_any, startW, bo_addL, e, ha, ng, l19, l26, l27, l1, l2, l3, l7, l0]
@[simp] theorem o_setL (a : Me) (ρ : DL.Env) (S : Sto) : mSetL a ρ S = (a ρ S).bind setLR := (rfl)
end SP
set_option Elab.async false
set_option linter.all false
set_option maxRecDepth 100000
set_option maxHeartbeats 4000000
/-! P01a: spoiling any plain data, again and again (k05: a bool may be added to). -/
namespace SP
open PySem hiding upTo
open DL
/-- tuples at most so deep, and at most so long -/
def Tb (L : Nat) : Nat → W → Bool
  | 0, .tup ws => ws.isEmpty
  | d + 1, .tup ws => decide (ws.length ≤ L) && ws.all (Tb L d)
  | _, .lst ws => decide (ws.length ≤ L)
  | _, _ => true
/-- plain data whose tuples are at most d deep, at most L long -/
def PD (L d : Nat) (w : W) : Prop := W.plain (10 + d) w = true ∧ Tb L d w = true
/-- what a drawing gives -/
def Got (n c : Nat) (Q : W → Prop) (S : Sto) (r : Res) : Prop := ∃ (w : W) (S' : Sto), r = .ok w S' ∧ Q w ∧ Keep n S.length S S' ∧ Bg n c S'
theorem Got.imp {n c c' : Nat} {Q Q' : W → Prop} {S : Sto} {r : Res} (h : Got n c Q S r) (hc : c ≤ c') (hq : ∀ w, Q w → Q' w) : Got n c' Q' S r := by
  obtain ⟨w, S', e, p, k, b⟩ := h
  exact ⟨w, S', e, hq w p, k, b.mono hc⟩
end SP
set_option Elab.async false
set_option linter.all false
set_option maxRecDepth 100000
set_option maxHeartbeats 4000000
/-! S71: things: plain data, instances among them. -/
namespace SP
open PySem hiding upTo
open DL
def isI : W → Bool
  | .int _ => true
  | _ => false
end SP
set_option Elab.async false
set_option linter.all false
set_option maxRecDepth 100000
set_option maxHeartbeats 4000000
/-! S72: rules put off, asked of any thing; comparing with what is empty; a whole number by the law. -/
namespace SP
open PySem hiding upTo
open DL
theorem ce_tnil (xs : List W) : cmpEq (.tup xs) (.tup []) = some xs.isEmpty := by
  unfold cmpEq
  rw [show W.plain 60 (.tup []) = true from rfl, Bool.and_true]
  cases xs with
  | nil => rfl
  | cons a l =>
    split
    · rfl
    · rfl
end SP
set_option Elab.async false
set_option linter.all false
set_option maxRecDepth 100000
set_option maxHeartbeats 4000000
/-! S73: a rule is looked at, asked of anything (turned from P01b..P01h). -/
namespace SR
open PySem hiding upTo
open DL SP
/-! P01b -/
/-- plain data, no tuple too long -/
def G (w : W) : Prop := ∃ d, d ≤ 15 ∧ PD 15 d w
theorem G.pl {w : W} (h : G w) : W.plain 30 w = true := by
  obtain ⟨d, hd, h⟩ := h
  exact plain_up _ w 30 (by omega) h.1
theorem G.mem {ws : List W} (h : G (.tup ws)) : ws.length ≤ 15 ∧ ∀ x ∈ ws, G x := by
  obtain ⟨d, hd, h⟩ := h
  cases d with
  | zero =>
    have : ws = [] := List.isEmpty_iff.mp h.2
    subst this
    exact ⟨by simp, fun _ h => nomatch h⟩
  | succ d =>
    have e : (decide (ws.length ≤ 15) && ws.all (Tb 15 d)) = true := h.2
    rw [Bool.and_eq_true, List.all_eq_true] at e
    exact ⟨of_decide_eq_true e.1, fun x hx => ⟨d, by omega, plainL_mem (n := 10 + d) h.1 hx, e.2 x hx⟩⟩
theorem G.nl {w : W} (h : G w) : w.nl = true := (plain_nl _ _ h.pl).1
theorem G.d {w : W} (h : G w) (S : Sto) : deref S w = w := plain_deref h.pl S
/-! P01c -/
/-! the law's own -/
end SR
set_option Elab.async false
set_option linter.all false
set_option maxRecDepth 100000
set_option maxHeartbeats 4000000
/-! S74: a rule is looked at, asked of anything (turned from P01b..P01h). -/
namespace SR
open PySem hiding upTo
open DL SP
/-! P01d -/
/-! P01e -/
def l0 : Ms := sIf (bOr (bNot (bTest (mIsi .tuple (mVar 2)))) (bOr (bTest (mCmp .NotEq (mPrim .len (mCons (mVar 2) (mNil))) (mCon (.int 4)))) (bNot (bTest (mPrim .all (mCons (mLc false [9] (.nm 9) (jE (mVar 2)) (bYes) (mIsi .tuple (mVar 9))) (mNil))))))) (sSeq (sRet (mCon (.bl false))) (sNext)) (sNext)
def l1 : Ms := sAsg (.tup [3, 4, 5, 6]) (mVar 2)
def l2 : Ms := sIf (bOr (bTest (mCmp .Gt (mPrim .len (mCons (mVar 3) (mNil))) (mCon (.int 4)))) (bNot (bTest (mPrim .all (mCons (mLc false [8] (.nm 8) (jE (mVar 3)) (bYes) (mCallP f__law_is_condition (mCons (mVar 0) (mCons (mVar 1) (mCons (mVar 8) (mNil)))))) (mNil)))))) (sSeq (sRet (mCon (.bl false))) (sNext)) (sNext)
/-- plain, or a book, or a watch -/
def El (w : W) : Prop := G w ∨ ∃ c fs, w = .ins c fs ∧ (c = 0 ∨ c = 2) ∧ W.nl (.ins c fs) = true
theorem El.nl {w : W} (h : El w) : w.nl = true := by
  rcases h with h | ⟨c, fs, rfl, _, h⟩
  · exact h.nl
  · exact h
end SR
set_option Elab.async false
set_option linter.all false
set_option maxRecDepth 100000
set_option maxHeartbeats 4000000
/-! S75: a rule is looked at, asked of anything (turned from P01b..P01h). -/
namespace SR
open PySem hiding upTo
open DL SP
/-! P01f -/
section
variable {wh : List Int} {n : Nat}
@[simp] theorem o_srtT (a : Me) (ρ : DL.Env) (S : Sto) : mSrtSetT a ρ S = (a ρ S).bind srtTR := (rfl)
end
/-! P01g -/
/-! P01h -/
end SR
set_option Elab.async false
set_option linter.all false
set_option maxRecDepth 100000
set_option maxHeartbeats 4000000
/-! S50: alike is like itself; other rules drawn. -/
namespace SP
open PySem hiding upTo
open DL
/-! ### rules that refer to others -/
def isPl : Cnd → Bool
  | .pl .. => true
  | _ => false
def refsB (r : Rul) : Bool := !(r.test.all isPl) || (!(r.hus == []) || !(r.wak == []))
/-! ### other rules drawn -/
end SP
set_option Elab.async false
set_option linter.all false
set_option maxRecDepth 100000
set_option maxHeartbeats 4000000
/-! S76: simp lemmas of own ==, len, str, of texts. -/
namespace SP
open PySem hiding upTo
open DL
variable {ρ : DL.Env} {S : Sto} {a b : Me}
@[simp] theorem o_isC (l : List (Nat × Bool)) : mIsC l a ρ S = (a ρ S).bind fun x S => optR S ((isOwnW l S x).map .bl) := (rfl)
@[simp] theorem o_eqO (neg : Bool) (c : Nat) (ψ : Fn) : mEqO neg c ψ a b ρ S = (a ρ S).bind fun x S => (b ρ S).bind fun y S => if isIns c x && x.nl && (isIns c y && y.nl) then boolR neg (pureR (ψ [x, y] []) S) else .bad := (rfl)
@[simp] theorem o_eqC (c : Nat) (l : List (Nat × Bool)) (ψ : Fn) : mEqC c l ψ a b ρ S = (a ρ S).bind fun x S => (b ρ S).bind fun y S => if isObj c S x && (isOwnW l S y).isSome then boolR false (ψ [x, y] S) else .bad := (rfl)
@[simp] theorem o_neC (c : Nat) (ψ : Fn) : mNeC c ψ a b ρ S = (a ρ S).bind fun x S => (b ρ S).bind fun y S => if isObj c S x && isObj c S y then boolR true (ψ [x, y] S) else .bad := (rfl)
@[simp] theorem o_inO (c : Nat) (ψ : Fn) : mInO c ψ a b ρ S = (a ρ S).bind fun x S => (b ρ S).bind fun y S => inOR c ψ x y S := (rfl)
@[simp] theorem o_strC (c : Nat) (ψ : Fn) : mStrC c ψ a ρ S = (a ρ S).bind fun x S => if isObj c S x then (ψ [x] S).bind strC else .bad := (rfl)
@[simp] theorem o_strO (c : Nat) (ψ : Fn) : mStrO c ψ a ρ S = (a ρ S).bind fun x S => if isIns c x && x.nl then (pureR (ψ [x] []) S).bind strC else .bad := (rfl)
@[simp] theorem o_lenC (c : Nat) (ψ : Fn) : mLenC c ψ a ρ S = (a ρ S).bind fun x S => if isObj c S x then (ψ [x] S).bind lenC else .bad := (rfl)
@[simp] theorem o_fmt : mFmt a ρ S = (a ρ S).bind fmtR := (rfl)
@[simp] theorem o_strI : mStrI a ρ S = (a ρ S).bind strR := (rfl)
@[simp] theorem o_join : mJoin a b ρ S = (a ρ S).bind fun x S => txtR x fun s => (b ρ S).bind fun y S => joinV s (deref S y) S := (rfl)
@[simp] theorem o_js0 (acc : Str) : mJs [] acc ρ S = .ok (.str acc) S := (rfl)
@[simp] theorem o_js (m : Me) (ms : List Me) (acc : Str) : mJs (m :: ms) acc ρ S = (m ρ S).bind fun x S => match x with
    | .str y => if (acc ++ y).length ≤ 16777216 then mJs ms (acc ++ y) ρ S else .bad
    | _ => .bad := (rfl)
@[simp] theorem r_boolR (neg : Bool) (k : Bool) : boolR neg (.ok (.bl k) S) = .ok (.bl (if neg then !k else k)) S := (rfl)
@[simp] theorem r_strC (y : Str) : strC (.str y) S = .ok (.str y) S := (rfl)
end SP
set_option Elab.async false
set_option linter.all false
set_option maxRecDepth 100000
set_option maxHeartbeats 4000000
/-! S80: texts told exactly: numbers, words, parts of a rule. -/
namespace SP
open PySem hiding upTo
open DL
namespace Tx
theorem app_len (x y : Str) : (x ++ y).length = x.length + y.length := by
  rw [TL.len_tl, TL.tl_append, List.length_append, ← TL.len_tl, ← TL.len_tl]
theorem emp_app (x : Str) : Str.empty ++ x = x := TL.ext_tl (by rw [TL.tl_append]; rfl)
theorem sl : ∀ n : Nat, n < 1000 → ((Str.ofString (toString (n : Int))).length ≤ 4 ∧ (n : Int).natAbs.log2 < 1920) := by decide +kernel
def nT (i : Int) : Str := Str.ofString (toString i)
theorem strsOf_strs : ∀ l : List Str, strsOf (l.map W.str) = some l
  | [] => rfl
  | i :: l => by rw [List.map_cons, strsOf, strsOf_strs l]; rfl
theorem sum_le {m : Nat} {l : List Str} (h : ∀ x ∈ l, x.length ≤ m) : (l.map (·.length)).sum ≤ m * l.length := by
  induction l with
  | nil => exact Nat.zero_le _
  | cons x l ih =>
    have := h x (List.mem_cons_self ..)
    have := ih fun y hy => h y (List.mem_cons_of_mem _ hy)
    rw [List.map_cons, List.sum_cons, List.length_cons, Nat.mul_add]; omega
theorem join_ok (sep : Str) (l : List Str) {m : Nat} (hs : sep.length ≤ 10) (hl : ∀ x ∈ l, x.length ≤ m) (hn : l.length ≤ 100) (hm : m ≤ 100000) : (Txt.join sep l).length ≤ (m + 10) * l.length ∧ ∀ S, joinV sep (.lst (l.map W.str)) S = .ok (.str (Txt.join sep l)) S := by
  have sm := sum_le hl
  have sj := StrLaws.join_length_le sep l
  have h1 : l.length * sep.length ≤ l.length * 10 := Nat.mul_le_mul_left _ hs
  have h2 : m * l.length ≤ 100000 * l.length := Nat.mul_le_mul_right _ hm
  refine ⟨by rw [TL.join_eq, Nat.add_mul]; omega, fun S => ?_⟩
  show joinR _ _ S = _
  unfold joinR
  rw [strsOf_strs]
  exact if_pos (by omega)
theorem lc_strs {α : Type} {l : List α} {e : α → W} {g : α → Str} {ρ : DL.Env} {vs : List Nat} {tg : Tg} {el : Me} {S : Sto} (h : ∀ a ∈ l, lcStep ρ vs tg bYes el (e a) S = .ok [.str (g a)] S) :
    compM (lcStep ρ vs tg bYes el) (l.map e) [] S = .ok ((l.map g).map W.str) S := by
  rw [lc_data (g := fun a => W.str (g a)) h, List.map_map]; rfl
theorem strI_ok {i : Int} (h0 : 0 ≤ i) (h1 : i < 1000) : (nT i).length ≤ 4 ∧ (∀ S, strR (.int i) S = .ok (.str (nT i)) S) ∧ ∀ S, fmtR (.int i) S = .ok (.str (nT i)) S := by
  obtain ⟨n, rfl⟩ := Int.eq_ofNat_of_zero_le h0
  obtain ⟨a, b⟩ := sl n (by omega)
  exact ⟨a, fun S => if_pos b, fun S => if_pos b⟩
theorem nl_strs (l : List Str) : nlL (l.map W.str) = true := by
  induction l with
  | nil => rfl
  | cons y L ih => exact ih
theorem ints_lt {l : List Int} (h : ∀ i ∈ l, 0 ≤ i ∧ i < 1000) {S : Sto} {ρ : DL.Env} {k : Nat} (hk : k < ρ.length) : compM (lcStep ρ [k] (.nm k) bYes (mStrI (mVar k))) (l.map W.int) [] S = .ok ((l.map nT).map W.str) S :=
  lc_strs fun i hi => by
    obtain ⟨_, h2, _⟩ := strI_ok (h i hi).1 (h i hi).2
    have hg : (ρ.set k (some (.int i)))[k]? = some (some (.int i)) := List.getElem?_set_self hk
    simp [lcStep, h2, hk]
/-! ### words -/
/-! ### parts -/
def orT (y : Str) : Str := if y.length = 0 then Str.ofString "-" else y
theorem or_ok {y : Str} (hy : y.length ≤ 1000000) : DL.truthy (.str y) = some (decide (y.length ≠ 0)) := by
  have l9 : y.length ≤ limit := by unfold limit; omega
  have e9 : DL.truthy (.str y) = if y.length ≤ limit then some ((y.length : Int) != 0) else none := rfl
  rw [if_pos l9] at e9
  rw [e9]
  by_cases h : y.length = 0
  · rw [h]; rfl
  · rw [decide_eq_true h]
    congr 1
    simp; omega
end Tx
end SP
set_option Elab.async false
set_option linter.all false
set_option maxRecDepth 100000
set_option maxHeartbeats 4000000
/-! S81: the text of a rule, of a book, of a state, exactly. -/
namespace SP
open PySem hiding upTo
open DL
namespace Tx
def husT (p : Int × Int) : Str := (nT p.1 ++ Str.ofString " for ") ++ nT p.2
theorem hus_len {n : Nat} (hn : n ≤ 5) {p : Int × Int} (h : Ix n p.1 ∧ 1 ≤ p.2 ∧ p.2 ≤ 3) : (husT p).length ≤ 100 := by
  obtain ⟨⟨h1, h2⟩, h3, h4⟩ := h
  obtain ⟨f1, _, f2⟩ := strI_ok h1 (show p.1 < 1000 by omega)
  obtain ⟨g1, _, g2⟩ := strI_ok (show 0 ≤ p.2 by omega) (show p.2 < 1000 by omega)
  have lb : (Str.ofString " for ").length = 5 := by decide +kernel
  unfold husT
  rw [app_len, app_len, lb]; omega
end Tx
end SP
set_option Elab.async false
set_option linter.all false
set_option maxRecDepth 100000
set_option maxHeartbeats 4000000
/-! S82: which signs stand in texts; texts cut at separators of two signs and more. -/
namespace SP
open PySem hiding upTo
open DL
namespace Tx
abbrev tl := TL.tl
def Ch (P : Nat → Prop) (x : Str) : Prop := ∀ c ∈ tl x, P c
theorem Ch.mono {P Q : Nat → Prop} {x : Str} (h : Ch P x) (i : ∀ c, P c → Q c) : Ch Q x := fun c hc => i c (h c hc)
theorem Ch.app {P : Nat → Prop} {x y : Str} (h : Ch P x) (h' : Ch P y) : Ch P (x ++ y) := fun c hc => by
  unfold tl at hc
  rw [TL.tl_append, List.mem_append] at hc
  exact hc.elim (h c) (h' c)
theorem joinL_mem {S : List Nat} : ∀ {l : List (List Nat)} {c : Nat}, c ∈ TL.joinL S l → c ∈ S ∨ ∃ p ∈ l, c ∈ p
  | [], _, h => by cases h
  | [p], c, h => .inr ⟨p, List.mem_singleton.mpr rfl, h⟩
  | p :: q :: r, c, h => by
    rw [TL.joinL, List.mem_append, List.mem_append] at h
    rcases h with h | h | h
    · exact .inr ⟨p, List.mem_cons_self .., h⟩
    · exact .inl h
    · rcases joinL_mem h with h | ⟨z, hz, h⟩
      · exact .inl h
      · exact .inr ⟨z, List.mem_cons_of_mem _ hz, h⟩
theorem Ch.join {P : Nat → Prop} {y : Str} {l : List Str} (hy : Ch P y) (h : ∀ x ∈ l, Ch P x) : Ch P (Txt.join y l) := fun c hc => by
  unfold tl at hc
  rw [TL.join_eq, TL.tl_join] at hc
  rcases joinL_mem hc with hc | ⟨p, hp, hc⟩
  · exact hy c hc
  · obtain ⟨x, hx, rfl⟩ := List.mem_map.mp hp
    exact h x hx c hc
theorem nT_tl {i : Int} (h : 0 ≤ i) : tl (nT i) = TL.numL i.toNat := by
  obtain ⟨n, rfl⟩ := Int.eq_ofNat_of_zero_le h
  exact TL.tl_num n
def P2 (c : Nat) : Prop := c = 32 ∨ (48 ≤ c ∧ c ≤ 57) ∨ (97 ≤ c ∧ c ≤ 122)
def P1 (c : Nat) : Prop := c = 32 ∨ c = 44 ∨ c = 45 ∨ (48 ≤ c ∧ c ≤ 57) ∨ (97 ≤ c ∧ c ≤ 122)
instance (c : Nat) : Decidable (P2 c) := by unfold P2; infer_instance
instance (c : Nat) : Decidable (P1 c) := by unfold P1; infer_instance
theorem P2.p1 {c : Nat} (h : P2 c) : P1 c := by unfold P2 at h; unfold P1; omega
instance (P : Nat → Prop) [DecidablePred P] (x : Str) : Decidable (Ch P x) := by unfold Ch; infer_instance
theorem nT_dig {i : Int} (h : 0 ≤ i) : ∀ c ∈ tl (nT i), 48 ≤ c ∧ c ≤ 57 := fun c hc => by
  rw [nT_tl h] at hc
  by_cases q : c < 48 ∨ 57 < c
  · exact absurd hc (TL.numL_free q)
  · omega
theorem nT_p2 {i : Int} (h : 0 ≤ i) : Ch P2 (nT i) := fun c hc => .inr (.inl (nT_dig h c hc))
theorem nT_ne {i : Int} (h : 0 ≤ i) : (nT i).length ≠ 0 := fun e => by
  have := (TL.len0_tl _).mp e
  have h2 := nT_tl h
  unfold tl at h2
  rw [this] at h2
  exact TL.numL_ne _ h2.symm
theorem join_ne {y w : Str} {l : List Str} (hw : w.length ≠ 0) : (Txt.join y (w :: l)).length ≠ 0 := fun e => hw <| by
  have e1 := (TL.len0_tl _).mp e
  rw [TL.join_eq, TL.tl_join] at e1
  rw [TL.len0_tl]
  cases l with
  | nil => exact e1
  | cons z r =>
    rw [List.map_cons, List.map_cons, TL.joinL] at e1
    exact (List.append_eq_nil_iff.mp e1).1
theorem free_of {P : Nat → Prop} {x : Str} {c : Nat} (h : Ch P x) (hc : ¬ P c) : c ∉ TL.tl x := fun hm => hc (h c hm)
theorem ne_of {P : Nat → Prop} {x y : Str} {c : Nat} (h : Ch P x) (hc : ¬ P c) (hy : c ∈ TL.tl y) : x ≠ y := fun e => hc (h c (by rw [e]; exact hy))
/-! ### separators whose second sign is in no part -/
theorem pre2 {s1 s2 : Nat} {S p q : List Nat} (hne : s1 ≠ s2) (h : s2 ∉ p) (hq : ∀ c r, q = c :: r → c = s1) : ∀ i, i < p.length → TL.pre (s1 :: s2 :: S) ((p ++ q).drop i) = false := fun i hi => by
  have hlt : i < (p ++ q).length := by rw [List.length_append]; omega
  rw [show (p ++ q).drop i = (p ++ q)[i] :: (p ++ q).drop (i + 1) from List.drop_eq_getElem_cons hlt]
  unfold TL.pre
  rw [beq_eq_false_iff_ne]
  intro e
  have e2 : ((p ++ q).drop (i + 1)).take (S.length + 1) = s2 :: S := by
    rw [List.length_cons, List.take_succ_cons] at e
    exact (List.cons.inj e).2
  by_cases h2 : i + 1 < p.length
  · have hlt2 : i + 1 < (p ++ q).length := by rw [List.length_append]; omega
    rw [show (p ++ q).drop (i + 1) = (p ++ q)[i + 1] :: (p ++ q).drop (i + 2) from List.drop_eq_getElem_cons hlt2, List.take_succ_cons] at e2
    have e3 := (List.cons.inj e2).1
    rw [List.getElem_append_left h2] at e3
    exact h (e3 ▸ List.getElem_mem h2)
  · have h3 : i + 1 = p.length := by omega
    rw [h3, List.drop_left] at e2
    cases q with
    | nil => simp at e2
    | cons c r =>
      rw [List.take_succ_cons] at e2
      exact hne ((hq c r rfl).symm.trans (List.cons.inj e2).1)
theorem spl_join2 {s1 s2 : Nat} {S : List Nat} (hne : s1 ≠ s2) : ∀ {parts : List (List Nat)}, parts ≠ [] → (∀ p ∈ parts, s2 ∉ p) → TL.spl (s1 :: s2 :: S) 0 [] (TL.joinL (s1 :: s2 :: S) parts) = parts
  | [], h, _ => absurd rfl h
  | [p], _, hp => by
    show TL.spl (s1 :: s2 :: S) 0 [] p = [p]
    rw [TL.spl_last fun i hi => by
      have := pre2 (S := S) (q := []) hne (hp p (List.mem_singleton.mpr rfl)) (fun c r e => by cases e) i hi
      rw [List.append_nil] at this
      exact this, List.nil_append]
  | p :: q :: r, _, hp => by
    show TL.spl (s1 :: s2 :: S) 0 [] (p ++ (s1 :: s2 :: S ++ TL.joinL (s1 :: s2 :: S) (q :: r))) = p :: q :: r
    rw [TL.spl_part (by simp) (pre2 hne (hp p (List.mem_cons_self ..)) fun c r e => by rw [List.cons_append] at e; exact (List.cons.inj e).1.symm), List.nil_append, spl_join2 hne (by simp) fun z hz => hp z (List.mem_cons_of_mem _ hz)]
theorem split_join2 {y : Str} {s1 s2 : Nat} {S : List Nat} (ey : TL.tl y = s1 :: s2 :: S) (hne2 : s1 ≠ s2) (hk : y.cps.all (· < 256) = true) {parts : List Str} (hne : parts ≠ []) (hp : ∀ p ∈ parts, s2 ∉ TL.tl p) :
    Txt.split (Txt.join y parts) y = parts := by
  refine TL.map_tl_inj ?_
  rw [TL.split_spl _ y (by rw [ey]; simp) (TL.kind_ok hk), TL.join_eq, TL.tl_join, ey]
  refine spl_join2 hne2 (fun e => hne (List.map_eq_nil_iff.mp e)) fun p h => ?_
  obtain ⟨z, hz, rfl⟩ := List.mem_map.mp h
  exact hp z hz
theorem partition_app2 {y : Str} {s1 s2 : Nat} {S : List Nat} (ey : TL.tl y = s1 :: s2 :: S) (hne : s1 ≠ s2) {a b : Str} (h : s2 ∉ TL.tl a) : Txt.partition (a ++ y ++ b) y = (a, y, b) := by
  rw [TL.partition_par _ y (by rw [ey]; simp), TL.tl_append, TL.tl_append, List.append_assoc, ey, TL.par_part (by simp) (pre2 hne h fun c r e => by rw [List.cons_append] at e; exact (List.cons.inj e).1.symm)]
  show ((⟨([] ++ TL.tl a).toArray⟩ : Str), y, (⟨(TL.tl b).toArray⟩ : Str)) = _
  rw [List.nil_append, TL.mk_tl, TL.mk_tl]
/-! ### which signs stand where -/
end Tx
end SP
set_option Elab.async false
set_option linter.all false
set_option maxRecDepth 100000
set_option maxHeartbeats 4000000
/-! S83: texts read back: figures, words, hushes. -/
namespace SP
open PySem hiding upTo
open DL
section
variable {ρ : DL.Env} {S : Sto} {a b : Me}
@[simp] theorem o_jStr : jStr a ρ S = (a ρ S).bindL fun x S => match x with
  | .str z => .ok (signs z) S
  | _ => .bad := (rfl)
@[simp] theorem o_inS : mInS a b ρ S = (a ρ S).bind fun x S => (b ρ S).bind fun y S => inSR x y S := (rfl)
@[simp] theorem o_idxS : mIdxS a b ρ S = (a ρ S).bind fun x S => (b ρ S).bind fun y S => ixSR x y S := (rfl)
@[simp] theorem o_intT : mIntT a ρ S = (a ρ S).bind intTR := (rfl)
@[simp] theorem o_split : mSplit a b ρ S = (a ρ S).bind fun x S => txtR x fun s => (b ρ S).bind fun y S => txtR y fun t => splitR s t S := (rfl)
@[simp] theorem o_ptn : mPtn a b ρ S = (a ρ S).bind fun x S => txtR x fun s => (b ρ S).bind fun y S => txtR y fun t => partR s t S := (rfl)
@[simp] theorem o_enZip (c : Int) : jEnZip c a b ρ S = (a ρ S).bindL fun x S => (b ρ S).bindL fun y S => match items x, items y with
  | some us, some ws => if us.length = ws.length then .ok (jEnum.enumI c (zipW us ws)) S else .bad
  | _, _ => .bad := (rfl)
end
namespace Tx
theorem numL_head : ∀ (n : Nat), 0 < n → ∀ c r, TL.numL n = c :: r → c ≠ 48 := by
  intro n
  induction n using Nat.strongRecOn with
  | _ n ih =>
    intro hn c r e
    by_cases h : n < 10
    · rw [TL.numL_lt h] at e
      cases e
      omega
    · rw [TL.numL_step (by omega)] at e
      cases q : TL.numL (n / 10) with
      | nil => exact absurd q (TL.numL_ne _)
      | cons d t =>
        rw [q, List.cons_append] at e
        cases e
        exact ih (n / 10) (by omega) (by omega) c t q
/-- a number's text is read -/
theorem e_fig {i : Int} (h0 : 0 ≤ i) (h1 : i < 10 ^ 60) (S : Sto) : pureR (f_figures_in [.str (nT i)] []) S = .ok (.int i) S := by
  obtain ⟨n, rfl⟩ := Int.eq_ofNat_of_zero_le h0
  have ht : (nT n).cps.toList = TL.numL n := TL.tl_num n
  have hl60 : (TL.numL n).length ≤ 60 := TL.numL_len (by omega) (by omega)
  have hlen : (nT n).length = (TL.numL n).length := by rw [TL.len_tl, show TL.tl (nT n) = TL.numL n from ht]
  have hne := TL.numL_ne n
  have hpos : 1 ≤ (TL.numL n).length := by
    cases q : TL.numL n with
    | nil => exact absurd q hne
    | cons c r => rw [List.length_cons]; omega
  have hint : PySem.intText? (nT n) = some (n : Int) := TL.int_num (by omega)
  have hok : PyData.strOk (nT n) = true := by
    rw [strOk_iff, ht]
    intro k hk
    have := nT_dig (i := (n : Int)) (by omega) k (by rw [show tl (nT n) = TL.numL n from ht]; exact hk)
    omega
  have hfd : ∀ c ∈ TL.numL n, decide (c ∈ (Str.ofString "0123456789").cps.toList) = true := fun c hc => by
    have h9 := nT_dig (i := (n : Int)) (by omega) c (by rw [show tl (nT n) = TL.numL n from ht]; exact hc)
    have key : ∀ c : Nat, 48 ≤ c → c ≤ 57 → decide (c ∈ (Str.ofString "0123456789").cps.toList) = true := by
      intro c a b
      have : ∀ c : Nat, c < 10 → decide (c + 48 ∈ (Str.ofString "0123456789").cps.toList) = true := by decide +kernel
      have := this (c - 48) (by omega)
      rw [show c - 48 + 48 = c by omega] at this
      exact this
    exact key c h9.1 h9.2
  have hcomp : compM (lcStep [some (.str (nT n)), none] [1] (.nm 1) bYes (mInS (mVar 1) (mCon (.str "0123456789")))) (signs (nT n)) [] [] = .ok ((TL.numL n).map fun _ => .bl true) [] := by
    unfold signs
    rw [ht]
    refine lc_data (g := fun _ => W.bl true) fun c hc => ?_
    have := hfd c hc
    have hs : ∀ z, inSR (.str ⟨#[c]⟩) (.str z) [] = .ok (.bl (decide (c ∈ z.cps.toList))) [] := fun z => rfl
    have hd : inSR (.str ⟨#[c]⟩) (.str (Str.ofString "0123456789")) [] = .ok (.bl true) [] := by rw [hs, this]
    generalize (⟨#[c]⟩ : Str) = C at *
    simp [lcStep, hd]
  have hall : allB ((TL.numL n).map fun _ => W.bl true) = some ((TL.numL n).map fun _ => true) := allB_map (fun _ => true) _
  have hall2 : ((TL.numL n).map fun _ => true).all id = true := by
    rw [List.all_eq_true]
    intro x hx
    obtain ⟨_, _, rfl⟩ := List.mem_map.mp hx
    rfl
  obtain ⟨c0, r0, hc0⟩ : ∃ c r, TL.numL n = c :: r := by
    cases q : TL.numL n with
    | nil => exact absurd q hne
    | cons c r => exact ⟨c, r, rfl⟩
  have hix : ixSR (.str (nT n)) (.int 0) [] = .ok (.str ⟨#[c0]⟩) [] := by
    show (if (nT n).length ≤ 16777216 then optR [] ((L2.atI (nT n).cps.toList 0).map fun c => .str ⟨#[c]⟩) else .bad) = _
    rw [if_pos (by omega), ht, hc0]
    simp [L2.atI, L2.ixN]
  have ok0 : PyData.strOk (⟨#[c0]⟩ : Str) = true := by
    rw [strOk_iff]
    intro k hk
    have : k = c0 := by simpa using hk
    subst this
    have := nT_dig (i := (n : Int)) (by omega) k (by rw [show tl (nT n) = TL.numL n from ht, hc0]; exact List.mem_cons_self ..)
    omega
  have okz : PyData.strOk ("0" : Str) = true := by decide +kernel
  have ce1 := ce_str (⟨#[c0]⟩ : Str) "0" ok0 okz
  have ce2 := ce_str (nT n) "0" hok okz
  have hlm : (TL.numL n).length ≤ limit := by unfold limit; omega
  have hsl : (signs (nT n)).length ≤ limit := by unfold signs; rw [List.length_map, ht]; exact hlm
  have hi : intTR (.str (nT n)) [] = .ok (.int n) [] := by
    unfold intTR
    simp only [hint]
    exact if_pos (by omega)
  have hch : (1 : Int) ≤ ((nT n).length : Int) := by omega
  have hch2 : ((nT n).length : Int) ≤ 60 := by omega
  have key : (((⟨#[c0]⟩ : Str) == "0") && !(nT n == ("0" : Str))) = false := by
    by_cases h0n : n = 0
    · subst h0n
      have : (nT ((0 : Nat) : Int) == ("0" : Str)) = true := by decide +kernel
      rw [this]; simp
    · have h48 := numL_head n (by omega) c0 r0 hc0
      have : ((⟨#[c0]⟩ : Str) == "0") = false := by
        rw [beq_eq_false_iff_ne]
        intro e
        have e2 : (⟨#[c0]⟩ : Str).cps = ("0" : Str).cps := by rw [e]
        have e3 : ("0" : Str).cps = #[48] := by decide +kernel
        rw [e3] at e2
        simp at e2
        exact h48 e2
      rw [this]; rfl
  have hlL : DL.prim .len [W.str (nT n)] = some (.int (nT n).length) := by
    show (if (nT n).length ≤ limit then some (W.int (nT n).length) else none) = _
    rw [if_pos (by unfold limit; omega)]
  have hpa : DL.prim .all [W.lst ((TL.numL n).map fun _ => W.bl true)] = some (.bl true) := by
    show (allB _).map _ = _
    rw [hall]
    simp
  generalize hz : nT (n : Int) = z at *
  cases k1 : ((⟨#[c0]⟩ : Str) == "0") with
  | false =>
    rw [k1] at ce1
    simp [f_figures_in, startW, hcomp, hlL, hpa, hix, ce1, hi, hch, hch2, hsl]
  | true =>
    rw [k1] at ce1 key
    have k2 : (z == ("0" : Str)) = true := by simpa using key
    rw [k2] at ce2
    simp [f_figures_in, startW, hcomp, hlL, hpa, hix, ce1, ce2, hi, hch, hch2, hsl]
end Tx
end SP
set_option Elab.async false
set_option linter.all false
set_option maxRecDepth 100000
set_option maxHeartbeats 4000000
/-! S84: words, hushes, parts, rules read back. -/
namespace SP
open PySem hiding upTo
open DL
namespace Tx
theorem e_nums {l : List Int} (h : ∀ i ∈ l, 0 ≤ i ∧ i < 10 ^ 60) (hl : l.length ≤ 1000) (S : Sto) : pureR (f_numbers_in [.lst ((l.map nT).map W.str)] []) S = .ok (tpI l) S := by
  have hc : compM (lcStep [some (.lst ((l.map nT).map W.str)), none] [1] (.nm 1) bYes (mCallP f_figures_in (mCons (mVar 1) (mNil)))) ((l.map nT).map W.str) [] [] = .ok (l.map W.int) [] := by
    rw [List.map_map]
    refine lc_data (g := fun i => W.int i) fun i hi => ?_
    have hf := fun S => e_fig (h i hi).1 (h i hi).2 S
    show lcStep _ _ _ _ _ (.str (nT i)) [] = _
    generalize nT i = N at *
    simp [lcStep, hf]
  have hl2 : (l.map W.int).length ≤ limit := by rw [List.length_map]; unfold limit; omega
  have hl3 : ((l.map nT).map W.str).length ≤ limit := by rw [List.length_map, List.length_map]; unfold limit; omega
  generalize (l.map nT).map W.str = XS at *
  simp [f_numbers_in, startW, hc, hl2, hl3]
theorem splitR_ok {x y : Str} {ps : List Str} (hs : Txt.split x y = ps) (hx : x.length ≤ 1000000) (hy : (y.length == 0) = false) (S : Sto) : splitR x y S = .ok (.lst (ps.map W.str)) S := by
  unfold splitR
  rw [if_pos ⟨hy, by omega⟩, hs]
end Tx
end SP
set_option Elab.async false
set_option linter.all false
set_option maxRecDepth 100000
set_option maxHeartbeats 4000000
/-! S85: a book read from its text, a state from its. -/
namespace SP
open PySem hiding upTo
open DL
namespace Tx
theorem ce_same {x : Str} (h : PyData.strOk x = true) : cmpEq (.str x) (.str x) = some true := by
  rw [ce_str x x h h, beq_self_eq_true]
end Tx
end SP
set_option Elab.async false
set_option linter.all false
set_option maxRecDepth 100000
set_option maxHeartbeats 4000000
/-! S86: the text of numbers, of a state; a state read from its text. -/
namespace SP
open PySem hiding upTo
open DL
namespace Tx
theorem log_le (n : Nat) (h : n < 10 ^ 64) : n.log2 < 1920 := by
  by_cases h0 : n = 0
  · subst h0; decide
  · rw [Nat.log2_lt h0]
    exact Nat.lt_trans h (by decide)
/-- numbers of any size that there are -/
theorem nT_big {i : Int} (h0 : 0 ≤ i) (h1 : i < 10 ^ 64) : (nT i).length ≤ 64 ∧ (∀ S, strR (.int i) S = .ok (.str (nT i)) S) ∧ ∀ S, fmtR (.int i) S = .ok (.str (nT i)) S := by
  obtain ⟨n, rfl⟩ := Int.eq_ofNat_of_zero_le h0
  have hn : n < 10 ^ 64 := by
    have : ((n : Nat) : Int) < ((10 ^ 64 : Nat) : Int) := by simpa using h1
    omega
  have a : (nT (n : Int)).length ≤ 64 := by
    rw [TL.len_tl, show TL.tl (nT (n : Int)) = TL.numL n from TL.tl_num n]
    exact TL.numL_len (by omega) hn
  have b := log_le n hn
  exact ⟨a, fun S => if_pos b, fun S => if_pos b⟩
def numT (l : List Int) : Str := orT (Txt.join (Str.ofString " ") (l.map nT))
def staT (s : Sta) : Str := (numT s.1 ++ Str.ofString " | ") ++ numT s.2
theorem numT_len {l : List Int} (hl : l.length ≤ 50) (h : ∀ i ∈ l, 0 ≤ i ∧ i < 10 ^ 64) : (numT l).length ≤ 4000 ∧ (Txt.join (Str.ofString " ") (l.map nT)).length ≤ 4000 ∧ ∀ S, joinV (Str.ofString " ") (.lst ((l.map nT).map W.str)) S = .ok (.str (Txt.join (Str.ofString " ") (l.map nT))) S := by
  obtain ⟨j1, j2⟩ := join_ok (Str.ofString " ") (l.map nT) (m := 64) (by decide +kernel) (fun x hx => by
    obtain ⟨i, hi, rfl⟩ := List.mem_map.mp hx
    exact (nT_big (h i hi).1 (h i hi).2).1) (by rw [List.length_map]; omega) (by omega)
  rw [List.length_map] at j1
  have ld : (Str.ofString "-").length ≤ 4000 := by decide +kernel
  refine ⟨?_, by omega, j2⟩
  unfold numT orT
  split
  · exact ld
  · omega
theorem e_numT {l : List Int} (hl : l.length ≤ 50) (h : ∀ i ∈ l, 0 ≤ i ∧ i < 10 ^ 64) {x : W} (hx : items x = some (l.map W.int)) (S : Sto) : pureR (f_numbers_text [x] []) S = .ok (.str (numT l)) S := by
  obtain ⟨n1, n2, n3⟩ := numT_len hl h
  have hc : compM (lcStep [some x, none] [1] (.nm 1) bYes (mStrI (mVar 1))) (l.map W.int) [] [] = .ok ((l.map nT).map W.str) [] :=
    lc_strs fun i hi => by
      obtain ⟨_, h2, _⟩ := nT_big (h i hi).1 (h i hi).2
      simp [lcStep, h2]
  have l1 : ((l.map nT).map W.str).length ≤ limit := by rw [List.length_map, List.length_map]; unfold limit; omega
  have l1' : (l.map W.int).length ≤ limit := by rw [List.length_map]; unfold limit; omega
  have ht := or_ok (y := Txt.join (Str.ofString " ") (l.map nT)) (by omega)
  unfold numT orT
  generalize Txt.join (Str.ofString " ") (l.map nT) = y at *
  generalize (l.map nT).map W.str = ws at *
  generalize l.map W.int = LI at *
  by_cases h0 : y.length = 0
  · rw [if_pos h0]
    rw [decide_eq_false (by simpa using h0)] at ht
    simp [f_numbers_text, startW, hx, hc, l1, l1', n3, txtR, ht, deref]
  · rw [if_neg h0]
    rw [decide_eq_true h0] at ht
    simp [f_numbers_text, startW, hx, hc, l1, l1', n3, txtR, ht, deref]
theorem e_staT {s : Sta} (h1 : s.1.length ≤ 50) (h2 : s.2.length ≤ 50) (m1 : ∀ i ∈ s.1, 0 ≤ i ∧ i < 10 ^ 64) (m2 : ∀ i ∈ s.2, 0 ≤ i ∧ i < 10 ^ 64) : (staT s).length ≤ 9000 ∧ ∀ S, pureR (f_state_text [stW s] []) S = .ok (.str (staT s)) S := by
  have e1 := fun S => e_numT h1 m1 (x := tpI s.1) rfl S
  have e2 := fun S => e_numT h2 m2 (x := tpI s.2) rfl S
  have l1 := (numT_len h1 m1).1
  have l2 := (numT_len h2 m2).1
  have lb : (Str.ofString " | ").length = 3 := by decide +kernel
  refine ⟨by unfold staT; rw [app_len, app_len, lb]; omega, fun S => ?_⟩
  have f1 : ∀ S, fmtR (.str (numT s.1)) S = .ok (.str (numT s.1)) S := fun S => if_pos (by omega)
  have f2 : ∀ S, fmtR (.str (numT s.2)) S = .ok (.str (numT s.2)) S := fun S => if_pos (by omega)
  have g1 : (numT s.1).length ≤ 16777216 := by omega
  have g2 : (numT s.1 ++ Str.ofString " | ").length ≤ 16777216 := by rw [app_len, lb]; omega
  have g3 : ((numT s.1 ++ Str.ofString " | ") ++ numT s.2).length ≤ 16777216 := by rw [app_len, app_len, lb]; omega
  have nA : (tpI s.1).nl = true := nl_ints _
  have nB : (tpI s.2).nl = true := nl_ints _
  have dA : ∀ S, derefF S (tpI s.1) = tpI s.1 := fun _ => rfl
  have dB : ∀ S, derefF S (tpI s.2) = tpI s.2 := fun _ => rfl
  have ea := emp_app
  unfold stW staT
  generalize tpI s.1 = T1 at *
  generalize tpI s.2 = T2 at *
  generalize numT s.1 = x1 at *
  generalize numT s.2 = x2 at *
  simp [f_state_text, startW, e1, e2, f1, f2, g1, g2, g3, nA, nB, dA, dB, setAll, ea]
theorem num_p1 {l : List Int} (h : ∀ i ∈ l, 0 ≤ i) : Ch P1 (numT l) := by
  unfold numT orT
  split
  · decide +kernel
  · exact Ch.join (by decide +kernel) fun x hx => by
      obtain ⟨i, hi, rfl⟩ := List.mem_map.mp hx
      exact (nT_p2 (h i hi)).mono fun c => P2.p1
theorem staT_ok {s : Sta} (m1 : ∀ i ∈ s.1, 0 ≤ i) (m2 : ∀ i ∈ s.2, 0 ≤ i) : PyData.strOk (staT s) = true := by
  have : Ch (fun c => P1 c ∨ c = 124) (staT s) := Ch.app (Ch.app ((num_p1 m1).mono fun c h => .inl h) (by
    intro c hc
    have e : TL.tl (Str.ofString " | ") = [32, 124, 32] := by decide +kernel
    unfold tl at hc
    rw [e] at hc
    unfold P1
    simp at hc
    omega)) ((num_p1 m2).mono fun c h => .inl h)
  rw [strOk_iff]
  intro k hk
  have := this k hk
  unfold P1 at this; omega
/-- numbers, or that there are none, read -/
theorem read_nums {l : List Int} (hl : l.length ≤ 50) (h : ∀ i ∈ l, 0 ≤ i ∧ i < 10 ^ 60) : (l = [] ∧ numT l = Str.ofString "-") ∨ (l ≠ [] ∧ cmpEq (.str (numT l)) (.str (Str.ofString "-")) = some false ∧ ∀ S, splitR (numT l) (Str.ofString " ") S = .ok (.lst ((l.map nT).map W.str)) S) := by
  have h64 : ∀ i ∈ l, 0 ≤ i ∧ i < 10 ^ 64 := fun i hi => ⟨(h i hi).1, Int.lt_trans (h i hi).2 (by decide)⟩
  by_cases h0 : l = []
  · subst h0; exact .inl ⟨rfl, rfl⟩
  · refine .inr ⟨h0, ?_⟩
    have hsp : Txt.split (Txt.join (Str.ofString " ") (l.map nT)) (Str.ofString " ") = l.map nT := TL.split_join (s := 32) (S := []) (by decide +kernel) (by decide +kernel) (by simpa using h0) fun p hp => by
      obtain ⟨i, hi, rfl⟩ := List.mem_map.mp hp
      intro hc
      have := nT_dig (h i hi).1 32 hc
      omega
    have hnz : (Txt.join (Str.ofString " ") (l.map nT)).length ≠ 0 := by
      cases l with
      | nil => exact absurd rfl h0
      | cons a l => exact join_ne (nT_ne (h a (List.mem_cons_self ..)).1)
    have hT : numT l = Txt.join (Str.ofString " ") (l.map nT) := by unfold numT orT; rw [if_neg hnz]
    have hP : Ch P2 (numT l) := by
      rw [hT]
      exact Ch.join (by decide +kernel) fun x hx => by obtain ⟨i, hi, rfl⟩ := List.mem_map.mp hx; exact nT_p2 (h i hi).1
    have hok : PyData.strOk (numT l) = true := by
      rw [strOk_iff]
      intro k hk
      have := hP k hk
      unfold P2 at this; omega
    refine ⟨?_, fun S => splitR_ok (by rw [hT]; exact hsp) (by have := (numT_len hl h64).1; omega) (by decide +kernel) S⟩
    rw [ce_str _ _ hok (by decide +kernel), beq_eq_false_iff_ne.mpr (ne_of hP (c := 45) (by decide) (by decide +kernel))]
theorem st_sm {b : Bk} (hb : b.Ok) {s : Sta} (hs : StOk b s) : s.1.length ≤ 3 ∧ s.2.length ≤ 5 ∧ (∀ i ∈ s.1, 0 ≤ i ∧ i < 10) ∧ ∀ i ∈ s.2, 0 ≤ i ∧ i < 10 := by
  refine ⟨by rw [hs.l1]; exact hb.w.l1, by rw [hs.l2]; exact hb.n, fun i hi => ?_, fun i hi => by have := hs.m2 i hi; omega⟩
  obtain ⟨j, hj, rfl⟩ := List.getElem_of_mem hi
  have hj2 : j < b.wh.length := by rw [← hs.l1]; exact hj
  have h := hs.m1 (j : Int) ⟨by omega, by omega⟩
  have e1 : gi s.1 (j : Int) = s.1[j] := by unfold gi; rw [List.getD_eq_getElem?_getD, Int.toNat_natCast, List.getElem?_eq_getElem hj]; rfl
  have e2 : gi b.wh (j : Int) ∈ b.wh := by
    unfold gi; rw [List.getD_eq_getElem?_getD, Int.toNat_natCast, List.getElem?_eq_getElem hj2]; exact List.getElem_mem _
  have := hb.w.m _ e2
  rw [e1] at h
  omega
theorem up64 {l : List Int} (h : ∀ i ∈ l, 0 ≤ i ∧ i < 10) : ∀ i ∈ l, 0 ≤ i ∧ i < 10 ^ 64 := fun i hi => ⟨(h i hi).1, Int.lt_trans (h i hi).2 (by decide)⟩
theorem up60 {l : List Int} (h : ∀ i ∈ l, 0 ≤ i ∧ i < 10) : ∀ i ∈ l, 0 ≤ i ∧ i < 10 ^ 60 := fun i hi => ⟨(h i hi).1, Int.lt_trans (h i hi).2 (by decide)⟩
theorem e_read_state {b : Bk} (hb : b.Ok) {s : Sta} (hs : StOk b s) (S : Sto) : pureR (f_read_state [b.W, .str (staT s)] []) S = .ok (stW s) S := by
  obtain ⟨l1, l2, m1, m2⟩ := st_sm hb hs
  obtain ⟨t1, t2⟩ := e_staT (s := s) (by omega) (by omega) (up64 m1) (up64 m2)
  have hp : Txt.partition (staT s) (Str.ofString " | ") = (numT s.1, Str.ofString " | ", numT s.2) := partition_app2 (s1 := 32) (s2 := 124) (S := [32]) (by decide +kernel) (by decide) (free_of (num_p1 fun i hi => (m1 i hi).1) (by decide))
  have hr : ∀ S, partR (staT s) (Str.ofString " | ") S = .ok (.tup [.str (numT s.1), .str (Str.ofString " | "), .str (numT s.2)]) S := fun S => by
    unfold partR
    rw [if_pos ⟨by decide +kernel, by omega⟩, hp]
  have ceT := ce_same (staT_ok (s := s) (fun i hi => (m1 i hi).1) (fun i hi => (m2 i hi).1))
  have ceB : cmpEq (.str (Str.ofString " | ")) (.str (Str.ofString "")) = some false := by
    rw [ce_str _ _ (by decide +kernel) (by decide +kernel)]
    decide +kernel
  have his := fun S => e_is_state hb hs S
  have r1 := read_nums (l := s.1) (by omega) (up60 m1)
  have r2 := read_nums (l := s.2) (by omega) (up60 m2)
  have n1 := fun S => e_nums (up60 m1) (by omega) S
  have n2 := fun S => e_nums (up60 m2) (by omega) S
  have okd : cmpEq (.str (Str.ofString "-")) (.str (Str.ofString "-")) = some true := ce_same (by decide +kernel)
  have row : ∀ (l : List Int) (x2 x3 x4 : Option W), ((l = [] ∧ numT l = Str.ofString "-") ∨ (l ≠ [] ∧ cmpEq (.str (numT l)) (.str (Str.ofString "-")) = some false ∧ ∀ S, splitR (numT l) (Str.ofString " ") S = .ok (.lst ((l.map nT).map W.str)) S)) → (∀ S, pureR (f_numbers_in [.lst ((l.map nT).map W.str)] []) S = .ok (tpI l) S) →
      lcStep [some b.W, some (.str (staT s)), x2, x3, x4, none, none, none, none] [8] (.nm 8) bYes (mIfx (bTest (mCmp .Eq (mVar 8) (mCon (.str "-")))) (mTup (mNil)) (mCallP f_numbers_in (mCons (mSplit (mVar 8) (mCon (.str " "))) (mNil)))) (.str (numT l)) [] = .ok [tpI l] [] := fun l x2 x3 x4 h hn => by
    rcases h with ⟨rfl, h2⟩ | ⟨_, h2, h3⟩
    · rw [h2]
      simp [lcStep, okd]
    · have hnl := nl_strs (l.map nT)
      generalize numT l = N at *
      generalize (l.map nT).map W.str = XS at *
      generalize tpI l = TI at *
      generalize b.W = B at *
      simp [lcStep, h2, txtR, h3, hn, hnl]
  have q1 := row s.1 (some (.str (numT s.1))) (some (.str (Str.ofString " | "))) (some (.str (numT s.2))) r1 n1
  have q2 := row s.2 (some (.str (numT s.1))) (some (.str (Str.ofString " | "))) (some (.str (numT s.2))) r2 n2
  have hcm : compM (lcStep [some b.W, some (.str (staT s)), some (.str (numT s.1)), some (.str (Str.ofString " | ")), some (.str (numT s.2)), none, none, none, none] [8] (.nm 8) bYes (mIfx (bTest (mCmp .Eq (mVar 8) (mCon (.str "-")))) (mTup (mNil)) (mCallP f_numbers_in (mCons (mSplit (mVar 8) (mCon (.str " "))) (mNil))))) [.str (numT s.1), .str (numT s.2)] [] [] = .ok [tpI s.1, tpI s.2] [] := by
    rw [compM, q1]
    show (compM _ [.str (numT s.2)] [tpI s.1] []) = _
    rw [compM, q2]
    rfl
  have nS : (stW s).nl = true := by simp
  have hst : stW s = .tup [tpI s.1, tpI s.2] := rfl
  have nB : b.W.nl = true := by simp [Bk.W]
  have dB : ∀ S, derefF S b.W = b.W := fun _ => rfl
  have l2' : 2 ≤ limit := by unfold limit; omega
  have nA : (tpI s.1).nl = true := nl_ints _
  have nC : (tpI s.2).nl = true := nl_ints _
  have dA : ∀ S, derefF S (.tup [tpI s.1, tpI s.2]) = .tup [tpI s.1, tpI s.2] := fun _ => rfl
  rw [hst] at t2 his ⊢
  clear q1 q2 r1 r2 row
  generalize staT s = X at *
  generalize b.W = B at *
  generalize tpI s.1 = T1 at *
  generalize tpI s.2 = T2 at *
  generalize numT s.1 = N1 at *
  generalize numT s.2 = N2 at *
  simp [f_read_state, startW, setAll, txtR, hr, hcm, ceB, his, t2, ceT, nB, dB, l2', nA, nC]
end Tx
end SP
set_option Elab.async false
set_option linter.all false
set_option maxRecDepth 100000
set_option maxHeartbeats 4000000
/-! S94: figures of any word; texts cut and joined again. -/
namespace SP
open PySem hiding upTo
open DL
namespace Tx
/-! ### words of figures -/
theorem numL_of : ∀ (k : Nat) (l : List Nat), l.length = k → l ≠ [] → (∀ c ∈ l, 48 ≤ c ∧ c ≤ 57) → (∀ r, l = 48 :: r → r = []) → ∃ n, TL.numL n = l := by
  intro k
  induction k with
  | zero => intro l hl h0; exact absurd (List.eq_nil_of_length_eq_zero hl) h0
  | succ k ih =>
    intro l hl h0 hd hz
    rcases List.eq_nil_or_concat l with h | ⟨l', d, h⟩
    · exact absurd h h0
    · rw [List.concat_eq_append] at h
      subst h
      have hd9 := hd d (by simp)
      by_cases hn : l' = []
      · subst hn
        refine ⟨d - 48, ?_⟩
        rw [TL.numL_lt (by omega), show 48 + (d - 48) = d by omega]; rfl
      · have hlen : l'.length = k := by simpa using hl
        obtain ⟨m, hm⟩ := ih l' hlen hn (fun c hc => hd c (by simp [hc])) fun r e => by
          have := hz (r ++ [d]) (by rw [e]; rfl)
          simp at this
        have hm0 : 0 < m := by
          rcases Nat.eq_zero_or_pos m with h | h
          · subst h
            rw [TL.numL_lt (by decide)] at hm
            have := hz [d] (by rw [← hm]; rfl)
            simp at this
          · exact h
        refine ⟨10 * m + (d - 48), ?_⟩
        rw [TL.numL_step (by omega), show (10 * m + (d - 48)) / 10 = m by omega, show (10 * m + (d - 48)) % 10 = d - 48 by omega, hm, show 48 + (d - 48) = d by omega]
theorem numL_bound : ∀ n : Nat, n < 10 ^ (TL.numL n).length := by
  intro n
  induction n using Nat.strongRecOn with
  | _ n ih =>
    by_cases h : n < 10
    · rw [TL.numL_lt h]; exact h
    · rw [TL.numL_step (by omega), List.length_append]
      have := ih (n / 10) (by omega)
      show n < 10 ^ ((TL.numL (n / 10)).length + 1)
      rw [Nat.pow_succ]; omega
theorem canon_nT {x : Str} (h0 : tl x ≠ []) (hd : ∀ c ∈ tl x, 48 ≤ c ∧ c ≤ 57) (hz : ∀ r, tl x = 48 :: r → r = []) (hl : x.length ≤ 60) : ∃ i : Int, 0 ≤ i ∧ i < 10 ^ 60 ∧ x = nT i := by
  obtain ⟨n, hn⟩ := numL_of _ (tl x) rfl h0 hd hz
  have hb := numL_bound n
  have hlen : (TL.numL n).length ≤ 60 := by rw [hn, ← TL.len_tl]; exact hl
  have h10 : 10 ^ (TL.numL n).length ≤ 10 ^ 60 := Nat.pow_le_pow_right (by omega) hlen
  refine ⟨(n : Int), by omega, ?_, TL.ext_tl ?_⟩
  · have : n < 10 ^ 60 := Nat.lt_of_lt_of_le hb h10
    exact_mod_cast this
  · show tl x = tl (nT n)
    rw [nT_tl (by omega), Int.toNat_natCast, hn]
/-- what figures read, what there is where there are none told by no -/
def FG (no : Me) : Fn := fnW 1 2 (sSeq (sIf (bOr (bNot (bTest (mChain .LtE .LtE (mCon (.int 1)) (mPrim .len (mCons (mVar 0) (mNil))) (mCon (.int 60))))) (bNot (bTest (mPrim .all (mCons (mLc false [1] (.nm 1) (jStr (mVar 0)) (bYes) (mInS (mVar 1) (mCon (.str "0123456789")))) (mNil)))))) (sSeq (sRet no) (sNext)) (sNext)) (sSeq (sRet (mIfx (bAnd (bTest (mCmp .Eq (mIdxS (mVar 0) (mCon (.int 0))) (mCon (.str "0")))) (bTest (mCmp .NotEq (mVar 0) (mCon (.str "0"))))) no (mIntT (mVar 0)))) (sNext)))
theorem fig_eq : f_figures_in = FG (mCon .non) := rfl
theorem dig_iff {c : Nat} : c ∈ (Str.ofString "0123456789").cps.toList ↔ 48 ≤ c ∧ c ≤ 57 := by
  have h : (Str.ofString "0123456789").cps.toList = [48, 49, 50, 51, 52, 53, 54, 55, 56, 57] := by decide +kernel
  rw [h]
  simp only [List.mem_cons, List.not_mem_nil, or_false]
  omega
def digB (c : Nat) : Bool := decide (c ∈ (Str.ofString "0123456789").cps.toList)
theorem sign_loop (x : Str) (x0 : Option W) : compM (lcStep [x0, none] [1] (.nm 1) bYes (mInS (mVar 1) (mCon (.str "0123456789")))) (signs x) [] [] = .ok ((tl x).map fun c => .bl (digB c)) [] := by
  unfold signs
  refine lc_data (g := fun c => W.bl (digB c)) fun c hc => ?_
  have hd : inSR (.str ⟨#[c]⟩) (.str (Str.ofString "0123456789")) [] = .ok (.bl (digB c)) [] := rfl
  generalize (⟨#[c]⟩ : Str) = C at *
  simp [lcStep, hd]
theorem sok1 {x : Str} (h : PyData.strOk x = true) {c : Nat} (hc : c ∈ tl x) : PyData.strOk (⟨#[c]⟩ : Str) = true := by
  rw [strOk_iff] at h ⊢
  intro k hk
  have : k = c := by simpa using hk
  subst this
  exact h k hc
theorem one_z {c : Nat} : ((⟨#[c]⟩ : Str) == ("0" : Str)) = decide (c = 48) := by
  have e3 : ("0" : Str).cps = #[48] := by decide +kernel
  by_cases h : c = 48
  · subst h; rw [decide_eq_true rfl]; decide +kernel
  · rw [decide_eq_false h, beq_eq_false_iff_ne]
    intro e
    have e2 : (⟨#[c]⟩ : Str).cps = ("0" : Str).cps := by rw [e]
    rw [e3] at e2
    simp at e2
    exact h e2
section
variable {no : Me} {w : W} (hno : ∀ ρ S, no ρ S = .ok w S) (hw : w.nl = true)
include hno hw
theorem fg_any {x : Str} (hl : x.length ≤ 100000) (hok : PyData.strOk x = true) : (∃ i : Int, 0 ≤ i ∧ i < 10 ^ 60 ∧ x = nT i ∧ ∀ S, pureR (FG no [.str x] []) S = .ok (.int i) S) ∨ ((∀ i : Int, 0 ≤ i → i < 10 ^ 60 → x ≠ nT i) ∧ ∀ S, pureR (FG no [.str x] []) S = .ok w S) := by
  have okz : PyData.strOk ("0" : Str) = true := by decide +kernel
  have ce2 := ce_str x "0" hok okz
  have hlL : DL.prim .len [W.str x] = some (.int x.length) := by
    show (if x.length ≤ limit then some (W.int x.length) else none) = _
    rw [if_pos (by unfold limit; omega)]
  have hsl : (signs x).length ≤ limit := by unfold signs; rw [List.length_map, Array.length_toList]; show x.length ≤ limit; unfold limit; omega
  have hcomp := sign_loop x (some (.str x))
  have hpa : DL.prim .all [W.lst ((tl x).map fun c => W.bl (digB c))] = some (.bl ((tl x).all digB)) := by
    show (allB _).map _ = _
    rw [allB_map digB, Option.map_some, List.all_map]; rfl
  have hltl : x.length = (tl x).length := TL.len_tl x
  have hnum : ∀ i : Int, 0 ≤ i → i < 10 ^ 60 → x = nT i → 1 ≤ x.length ∧ x.length ≤ 60 ∧ (tl x).all digB = true ∧ ∀ r, tl x = 48 :: r → r = [] := fun i h0 h1 e => by
    obtain ⟨n, rfl⟩ := Int.eq_ofNat_of_zero_le h0
    have hn : n < 10 ^ 60 := by exact_mod_cast h1
    have ht : tl x = TL.numL n := by rw [e, nT_tl (by omega)]; rfl
    refine ⟨?_, ?_, ?_, fun r hr => ?_⟩
    · rw [hltl, ht]
      cases q : TL.numL n with
      | nil => exact absurd q (TL.numL_ne n)
      | cons c r => rw [List.length_cons]; omega
    · rw [hltl, ht]; exact TL.numL_len (by omega) hn
    · rw [List.all_eq_true]
      intro c hc
      have := nT_dig (i := (n : Int)) (by omega) c (by rw [← e]; exact hc)
      exact decide_eq_true (dig_iff.mpr this)
    · rw [ht] at hr
      rcases Nat.eq_zero_or_pos n with h | h
      · subst h
        rw [TL.numL_lt (by decide)] at hr
        cases hr; rfl
      · exact absurd rfl (numL_head n h 48 r hr)
  by_cases hr1 : 1 ≤ x.length
  · have hr1i : (1 : Int) ≤ (x.length : Int) := by omega
    by_cases hr2 : x.length ≤ 60
    · have hr2i : (x.length : Int) ≤ 60 := by omega
      cases hd : (tl x).all digB with
      | false =>
        refine .inr ⟨fun i h0 h1 e => ?_, fun S => ?_⟩
        · have := (hnum i h0 h1 e).2.2.1
          rw [hd] at this; cases this
        · rw [hd] at hpa
          generalize ((tl x).map fun c => W.bl (digB c)) = L1 at *
          simp [FG, startW, hcomp, hlL, hpa, hr1i, hr2i, hsl, hno, hw, -p_all]
      | true =>
        rw [hd] at hpa
        obtain ⟨c0, r0, hc0⟩ : ∃ c r, tl x = c :: r := by
          cases q : tl x with
          | nil => rw [hltl, q] at hr1; simp at hr1
          | cons c r => exact ⟨c, r, rfl⟩
        have hix : ixSR (.str x) (.int 0) [] = .ok (.str ⟨#[c0]⟩) [] := by
          show (if x.length ≤ 16777216 then optR [] ((L2.atI x.cps.toList 0).map fun c => .str ⟨#[c]⟩) else .bad) = _
          have : x.cps.toList = c0 :: r0 := hc0
          rw [if_pos (by omega), this]
          simp [L2.atI, L2.ixN]
        have ok0 := sok1 hok (c := c0) (by rw [hc0]; exact List.mem_cons_self ..)
        have ce1 := ce_str (⟨#[c0]⟩ : Str) "0" ok0 okz
        rw [one_z] at ce1
        have hdg : ∀ c ∈ tl x, 48 ≤ c ∧ c ≤ 57 := fun c hc => dig_iff.mp (of_decide_eq_true (List.all_eq_true.mp hd c hc))
        have h0 : tl x ≠ [] := by rw [hc0]; simp
        have x0 : (x == ("0" : Str)) = true → tl x = [48] := fun h => by
          rw [beq_iff_eq] at h; rw [h]; decide +kernel
        have x48 : tl x = [48] → (x == ("0" : Str)) = true := fun h => by
          rw [beq_iff_eq]
          exact TL.ext_tl (by show tl x = _; rw [h]; decide +kernel)
        by_cases hz : c0 = 48 ∧ r0 ≠ []
        · refine .inr ⟨fun i h0 h1 e => ?_, fun S => ?_⟩
          · exact hz.2 ((hnum i h0 h1 e).2.2.2 r0 (by rw [hc0, hz.1]))
          · have hx : (x == ("0" : Str)) = false := by
              cases q : (x == ("0" : Str)) with
              | false => rfl
              | true =>
                have := x0 q
                rw [hc0] at this
                injection this with _ h
                exact absurd h hz.2
            rw [hx] at ce2
            rw [decide_eq_true hz.1] at ce1
            generalize ((tl x).map fun c => W.bl (digB c)) = L1 at *
            simp [FG, startW, hcomp, hlL, hpa, hix, ce1, ce2, hr1i, hr2i, hsl, hno, hw, -p_all]
        · obtain ⟨i, i0, i1, ie⟩ := canon_nT h0 hdg (fun r e => by
            rw [hc0] at e
            injection e with e1 e2
            by_cases hr : r0 = []
            · rw [← e2, hr]
            · exact absurd ⟨e1, hr⟩ hz) hr2
          refine .inl ⟨i, i0, i1, ie, fun S => ?_⟩
          have hint : intTR (.str x) [] = .ok (.int i) [] := by
            obtain ⟨n, rfl⟩ := Int.eq_ofNat_of_zero_le i0
            have hlen60 : (TL.numL n).length ≤ 60 := by
              have : tl x = TL.numL n := by rw [ie, nT_tl (by omega)]; rfl
              rw [← this, ← hltl]; exact hr2
            have : PySem.intText? x = some (n : Int) := by rw [ie]; exact TL.int_num (by omega)
            unfold intTR
            simp only [this]
            exact if_pos (by omega)
          by_cases h48 : c0 = 48
          · have hr0 : r0 = [] := Classical.byContradiction fun h => hz ⟨h48, h⟩
            have hx := x48 (by rw [hc0, h48, hr0])
            rw [hx] at ce2
            rw [decide_eq_true h48] at ce1
            generalize ((tl x).map fun c => W.bl (digB c)) = L1 at *
            simp [FG, startW, hcomp, hlL, hpa, hix, ce1, ce2, hr1i, hr2i, hsl, hint, -p_all]
          · rw [decide_eq_false h48] at ce1
            generalize ((tl x).map fun c => W.bl (digB c)) = L1 at *
            simp [FG, startW, hcomp, hlL, hpa, hix, ce1, hr1i, hr2i, hsl, hint, -p_all]
    · have hr2i : ¬ (x.length : Int) ≤ 60 := by omega
      refine .inr ⟨fun i h0 h1 e => hr2 (hnum i h0 h1 e).2.1, fun S => ?_⟩
      generalize ((tl x).map fun c => W.bl (digB c)) = L1 at *
      simp [FG, startW, hlL, hr1i, hr2i, hno, hw, -p_all]
  · have hr1i : ¬ (1 : Int) ≤ (x.length : Int) := by omega
    refine .inr ⟨fun i h0 h1 e => hr1 (hnum i h0 h1 e).1, fun S => ?_⟩
    generalize ((tl x).map fun c => W.bl (digB c)) = L1 at *
    simp [FG, startW, hlL, hr1i, hno, hw, -p_all]
end
/-! ### pieces -/
theorem split_back (x y : Str) : Txt.join y (Txt.split x y) = x := by
  rw [TL.join_eq]; exact StrLaws.join_split x y
theorem mem_joinL {S : List Nat} {c : Nat} : ∀ {l : List (List Nat)} {p : List Nat}, p ∈ l → c ∈ p → c ∈ TL.joinL S l
  | [q], p, hp, hc => by rw [List.mem_singleton.mp hp] at hc; exact hc
  | q :: q2 :: r, p, hp, hc => by
    rw [TL.joinL, List.mem_append, List.mem_append]
    rcases List.mem_cons.mp hp with rfl | hp
    · exact .inl hc
    · exact .inr (.inr (mem_joinL hp hc))
theorem piece_tl {x y p : Str} (hp : p ∈ Txt.split x y) {c : Nat} (hc : c ∈ tl p) : c ∈ tl x := by
  have h := congrArg tl (split_back x y)
  unfold tl at h
  rw [TL.join_eq, TL.tl_join] at h
  show c ∈ TL.tl x
  rw [← h]
  exact mem_joinL (List.mem_map_of_mem (f := TL.tl) hp) hc
theorem piece_ok {x y p : Str} (hx : PyData.strOk x = true) (hp : p ∈ Txt.split x y) : PyData.strOk p = true := by
  rw [strOk_iff] at hx ⊢
  exact fun c hc => hx c (piece_tl hp hc)
theorem join_len {y a : Str} {l : List Str} : (Txt.join y (a :: l)).length = ((a :: l).map (·.length)).sum + l.length * y.length := by
  rw [TL.join_eq]; exact PyProof.Rows.len_join_cons y a l
theorem join_len_le (y : Str) (l : List Str) : (Txt.join y l).length ≤ (l.map (·.length)).sum + l.length * y.length := by
  cases l with
  | nil => show (Txt.join y []).length ≤ _; rw [TL.join_eq]; exact Nat.zero_le _
  | cons a l =>
    rw [join_len, List.length_cons, Nat.add_mul]; omega
theorem split_wt {x y : Str} (hy : 1 ≤ y.length) : ((Txt.split x y).map (·.length)).sum + (Txt.split x y).length ≤ x.length + 1 := PyProof.Rows.split_weight x y hy
theorem sum_mem {l : List Str} {p : Str} (h : p ∈ l) : p.length ≤ (l.map (·.length)).sum := by
  induction l with
  | nil => cases h
  | cons a l ih =>
    rw [List.map_cons, List.sum_cons]
    rcases List.mem_cons.mp h with rfl | h
    · omega
    · have := ih h; omega
theorem piece_len {x y p : Str} (hy : 1 ≤ y.length) (hp : p ∈ Txt.split x y) : p.length ≤ x.length := by
  have h1 := split_wt (x := x) hy
  have h2 := sum_mem hp
  have h3 : 0 < (Txt.split x y).length := List.length_pos_iff.mpr fun e => by rw [e] at hp; cases hp
  omega
end Tx
end SP
set_option Elab.async false
set_option linter.all false
set_option maxRecDepth 100000
set_option maxHeartbeats 4000000
/-! S95: read_state of any text. -/
namespace SP
open PySem hiding upTo
open DL
namespace Tx
open Classical in
noncomputable def figO (x : Str) : Option Int := if h : ∃ i : Int, 0 ≤ i ∧ i < 10 ^ 60 ∧ x = nT i then some h.choose else none
theorem figO_some {x : Str} {i : Int} (h : figO x = some i) : 0 ≤ i ∧ i < 10 ^ 60 ∧ x = nT i := by
  unfold figO at h
  split at h
  · rename_i hx
    cases h
    exact hx.choose_spec
  · cases h
theorem figO_none {x : Str} (h : figO x = none) : ∀ i : Int, 0 ≤ i → i < 10 ^ 60 → x ≠ nT i := fun i h0 h1 e => by
  unfold figO at h
  rw [dif_pos ⟨i, h0, h1, e⟩] at h
  cases h
theorem nT_inj {i j : Int} (hi : 0 ≤ i) (hj : 0 ≤ j) (h : nT i = nT j) : i = j := by
  have e := congrArg tl h
  rw [nT_tl hi, nT_tl hj] at e
  have := TL.numL_inj e
  omega
theorem figO_nT {i : Int} (h0 : 0 ≤ i) (h1 : i < 10 ^ 60) : figO (nT i) = some i := by
  cases h : figO (nT i) with
  | none => exact absurd rfl (figO_none h i h0 h1)
  | some j =>
    obtain ⟨a, _, c⟩ := figO_some h
    rw [nT_inj h0 a c]
noncomputable def figW (w : W) (x : Str) : W := (figO x).elim w W.int
theorem fg_val {no : Me} {w : W} (hno : ∀ ρ S, no ρ S = .ok w S) (hw : w.nl = true) {x : Str} (hl : x.length ≤ 100000) (hok : PyData.strOk x = true) (S : Sto) : pureR (FG no [.str x] []) S = .ok (figW w x) S := by
  unfold figW
  rcases fg_any hno hw hl hok with ⟨i, i0, i1, e, h⟩ | ⟨hn, h⟩
  · rw [e, figO_nT i0 i1, ← e]; exact h S
  · cases q : figO x with
    | none => exact h S
    | some i =>
      obtain ⟨a, b, c⟩ := figO_some q
      exact absurd c (hn i a b)
/-- a text that is short and may be shown -/
def Tg (N : Nat) (x : Str) : Prop := x.length ≤ N ∧ PyData.strOk x = true
theorem Tg.mono {N M : Nat} {x : Str} (h : Tg N x) (hm : N ≤ M) : Tg M x := ⟨by have := h.1; omega, h.2⟩
theorem Tg.piece {N : Nat} {x y p : Str} (h : Tg N x) (hy : 1 ≤ y.length) (hp : p ∈ Txt.split x y) : Tg N p := ⟨Nat.le_trans (piece_len hy hp) h.1, piece_ok h.2 hp⟩
theorem strOk_app {a b : Str} (h1 : PyData.strOk a = true) (h2 : PyData.strOk b = true) : PyData.strOk (a ++ b) = true := by
  rw [strOk_iff] at *
  intro c hc
  have hc : c ∈ TL.tl (a ++ b) := hc
  rw [TL.tl_append, List.mem_append] at hc
  exact hc.elim (h1 c) (h2 c)
theorem strOk_of_app {a b : Str} (h : PyData.strOk (a ++ b) = true) : PyData.strOk a = true ∧ PyData.strOk b = true := by
  rw [strOk_iff] at *
  refine ⟨fun c hc => h c ?_, ?_⟩
  · show c ∈ TL.tl (a ++ b)
    rw [TL.tl_append, List.mem_append]; exact .inl hc
  · rw [strOk_iff]
    intro c hc
    refine h c ?_
    show c ∈ TL.tl (a ++ b)
    rw [TL.tl_append, List.mem_append]; exact .inr hc
theorem Tg.part {N : Nat} {x y : Str} (h : Tg N x) : Tg N (Txt.partition x y).1 ∧ Tg N (Txt.partition x y).2.1 ∧ Tg N (Txt.partition x y).2.2 := by
  have e := PySem.StrLaws.partition_sum x y
  generalize (Txt.partition x y).1 = p at *
  generalize (Txt.partition x y).2.1 = m at *
  generalize (Txt.partition x y).2.2 = q at *
  subst e
  obtain ⟨h1, h2⟩ := h
  rw [app_len, app_len] at h1
  obtain ⟨a, b⟩ := strOk_of_app h2
  obtain ⟨c, d⟩ := strOk_of_app a
  exact ⟨⟨by omega, c⟩, ⟨by omega, d⟩, ⟨by omega, b⟩⟩
noncomputable def rowV (w : W) (p : Str) : W := if p = Str.ofString "-" then .tup [] else .tup ((Txt.split p (Str.ofString " ")).map (figW w))
theorem figW_nl {w : W} (hw : w.nl = true) (x : Str) : (figW w x).nl = true := by
  unfold figW
  cases figO x with
  | none => exact hw
  | some i => rfl
theorem figW_plain {w : W} {n : Nat} (hw : W.plain n w = true) (x : Str) : W.plain n (figW w x) = true := by
  unfold figW
  cases figO x with
  | none => exact hw
  | some i => cases n <;> rfl
theorem rowV_plain {w : W} (hw : W.plain 3 w = true) (p : Str) : W.plain 4 (rowV w p) = true := by
  unfold rowV
  split
  · rfl
  · exact plainL_of fun z hz => by obtain ⟨x, _, rfl⟩ := List.mem_map.mp hz; exact figW_plain hw x
theorem a_numbers {l : List Str} (h : ∀ x ∈ l, Tg 100000 x) (hl : l.length ≤ limit) (S : Sto) : pureR (f_numbers_in [.lst (l.map W.str)] []) S = .ok (.tup (l.map (figW .non))) S := by
  have hc : compM (lcStep [some (.lst (l.map W.str)), none] [1] (.nm 1) bYes (mCallP f_figures_in (mCons (mVar 1) mNil))) (l.map W.str) [] [] = .ok (l.map (figW .non)) [] := by
    refine lc_data (e := W.str) (g := figW .non) fun x hx => ?_
    obtain ⟨h1, h2⟩ := h x hx
    have e := fun S => fg_val (no := mCon .non) (w := .non) (fun _ _ => rfl) rfl h1 h2 S
    rw [← fig_eq] at e
    generalize figW .non x = FX at *
    simp [lcStep, e]
  have hm : (l.map (figW .non)).length ≤ limit := by rw [List.length_map]; exact hl
  have hm2 : (l.map W.str).length ≤ limit := by rw [List.length_map]; exact hl
  have hn : nlL (l.map (figW .non)) = true := nlL_of fun z hz => by obtain ⟨x, _, rfl⟩ := List.mem_map.mp hz; exact figW_nl rfl x
  generalize l.map (figW .non) = LF at *
  generalize l.map W.str = LS at *
  simp [f_numbers_in, startW, hc, hm, hm2, hn]
theorem sp_len : (Str.ofString " ").length = 1 := by decide +kernel
theorem splR {x y : Str} (hx : x.length ≤ 100000) (hy : 1 ≤ y.length) (S : Sto) : splitR x y S = .ok (.lst ((Txt.split x y).map W.str)) S := by
  unfold splitR
  rw [if_pos ⟨by rw [beq_eq_false_iff_ne]; omega, by omega⟩]
theorem row_step {N : Nat} (hN : N ≤ 10000) {p : Str} (hp : Tg N p) {ρ : DL.Env} (h8 : ρ.length = 9) : lcStep ρ [8] (.nm 8) bYes (mIfx (bTest (mCmp .Eq (mVar 8) (mCon (.str "-")))) (mTup (mNil)) (mCallP f_numbers_in (mCons (mSplit (mVar 8) (mCon (.str " "))) (mNil)))) (.str p) [] = .ok [rowV .non p] [] := by
  have hd : PyData.strOk ("-" : Str) = true := by decide +kernel
  have ce := ce_str p "-" hp.2 hd
  have hv : (ρ.set 8 (some (.str p)))[8]? = some (some (.str p)) := by rw [List.getElem?_set_self (by omega)]
  have l0 : 0 ≤ limit := Nat.zero_le _
  unfold rowV
  by_cases h : p = Str.ofString "-"
  · rw [show (p == ("-" : Str)) = true from beq_iff_eq.mpr h] at ce
    rw [if_pos h]
    clear h
    simp [lcStep, hv, ce, l0]
  · rw [show (p == ("-" : Str)) = false from beq_eq_false_iff_ne.mpr h] at ce
    rw [if_neg h]
    have hs := fun S => splR (x := p) (y := Str.ofString " ") (by have := hp.1; omega) (by rw [sp_len]; omega) S
    have hw := split_wt (x := p) (y := Str.ofString " ") (by rw [sp_len]; omega)
    have hn := a_numbers (l := Txt.split p (Str.ofString " ")) (fun z hz => (hp.piece (by rw [sp_len]; omega) hz).mono (by omega)) (by have := hp.1; unfold limit; omega)
    have hnl := nl_strs (Txt.split p (Str.ofString " "))
    clear h hw
    generalize (Txt.split p (Str.ofString " ")).map W.str = XS at *
    generalize (Txt.split p (Str.ofString " ")).map (figW .non) = FS at *
    simp [lcStep, hv, ce, txtR, hs, hn, hnl]
theorem a_read_state {b : Bk} (hb : b.Ok) {x : Str} (hx : Tg 10000 x) (hn : ∀ s, StOk b s → x ≠ staT s) (S : Sto) : pureR (f_read_state [b.W, .str x] []) S = .exc (.own 6 [(6, .int 0)]) S := by
  obtain ⟨hp, hm, hq⟩ := hx.part (y := Str.ofString " | ")
  have hr : ∀ S, partR x (Str.ofString " | ") S = .ok (.tup [.str (Txt.partition x (Str.ofString " | ")).1, .str (Txt.partition x (Str.ofString " | ")).2.1, .str (Txt.partition x (Str.ofString " | ")).2.2]) S := fun S => by
    unfold partR
    rw [if_pos ⟨by decide +kernel, by have := hx.1; omega⟩]
  generalize (Txt.partition x (Str.ofString " | ")).1 = p at *
  generalize (Txt.partition x (Str.ofString " | ")).2.1 = m at *
  generalize (Txt.partition x (Str.ofString " | ")).2.2 = q at *
  have hcm : compM (lcStep [some b.W, some (.str x), some (.str p), some (.str m), some (.str q), none, none, none, none] [8] (.nm 8) bYes (mIfx (bTest (mCmp .Eq (mVar 8) (mCon (.str "-")))) (mTup (mNil)) (mCallP f_numbers_in (mCons (mSplit (mVar 8) (mCon (.str " "))) (mNil))))) [.str p, .str q] [] [] = .ok [rowV .non p, rowV .non q] [] := by
    rw [compM, row_step (by omega) hp rfl]
    show (compM _ [.str q] [rowV .non p] []) = _
    rw [compM, row_step (by omega) hq rfl]
    rfl
  have ceM := ce_str m "" hm.2 (by decide +kernel)
  have pV := rowV_plain (w := .non) rfl p
  have pH := rowV_plain (w := .non) rfl q
  generalize rowV .non p = V at *
  generalize rowV .non q = H at *
  have pS : W.plain 5 (.tup [V, H]) = true := by
    show (W.plain 4 V && (W.plain 4 H && true)) = true
    rw [pV, pH]; rfl
  have his := fun S => a_state hb pS S
  have nV := (plain_nl _ _ pV).1
  have nH := (plain_nl _ _ pH).1
  have dV := fun S => plain_derefF pV S
  have dH := fun S => plain_derefF pH S
  have nB : b.W.nl = true := by simp [Bk.W]
  have dB : ∀ S, derefF S b.W = b.W := fun _ => rfl
  have l2' : 2 ≤ limit := by unfold limit; omega
  have dA : ∀ S, derefF S (.tup [V, H]) = .tup [V, H] := fun _ => rfl
  have xn : Xn.nl (.own 6 [(6, .int 0)]) = true := rfl
  cases hq1 : (m == ("" : Str)) with
  | true =>
    rw [hq1] at ceM
    generalize b.W = B at *
    simp [f_read_state, startW, setAll, txtR, hr, hcm, ceM, nB, dB, l2', sRaiseF, xn, nV, nH]
  | false =>
    rw [hq1] at ceM
    cases hs : isSt b (.tup [V, H]) with
    | false =>
      rw [hs] at his
      generalize b.W = B at *
      simp [f_read_state, startW, setAll, txtR, hr, hcm, ceM, his, nB, dB, l2', sRaiseF, xn, nV, nH]
    | true =>
      rw [hs] at his
      obtain ⟨s, e, sok⟩ := isSt_ok hs
      obtain ⟨l1, l2, m1, m2⟩ := st_sm hb sok
      obtain ⟨t1, t2⟩ := e_staT (s := s) (by omega) (by omega) (up64 m1) (up64 m2)
      have ceT := ce_str (staT s) x (staT_ok (s := s) (fun i hi => (m1 i hi).1) (fun i hi => (m2 i hi).1)) hx.2
      rw [show (staT s == x) = false from beq_eq_false_iff_ne.mpr fun e => hn s sok e.symm] at ceT
      rw [← e] at t2
      generalize b.W = B at *
      generalize staT s = T at *
      simp [f_read_state, startW, setAll, txtR, hr, hcm, ceM, his, t2, ceT, nB, dB, l2', sRaiseF, xn, nV, nH]
end Tx
end SP
set_option Elab.async false
set_option linter.all false
set_option maxRecDepth 100000
set_option maxHeartbeats 4000000
/-! P77a: the law's reading of a state's text, and what is told. -/
namespace K77
open PySem hiding upTo
open DL SP SP.Tx
theorem lfig_eq : f__law_figures = FG (mNeg (mCon (.int 1))) := rfl
/-- numbers that a part of a text writes -/
noncomputable def rowI (p : Str) : List Int := if p = Str.ofString "-" then [] else (Txt.split p (Str.ofString " ")).map fun x => (figO x).getD (-1)
theorem neg1 (ρ : DL.Env) (S : Sto) : mNeg (mCon (.int 1)) ρ S = .ok (.int (-1)) S := rfl
theorem figW_neg (x : Str) : figW (.int (-1)) x = .int ((figO x).getD (-1)) := by
  unfold figW
  cases figO x <;> rfl
theorem e_row {p : Str} (hp : Tg 10000 p) (S : Sto) : pureR (f__law_row_in [.str p] []) S = .ok (tpI (rowI p)) S := by
  have hd : PyData.strOk ("-" : Str) = true := by decide +kernel
  have ce := ce_str p "-" hp.2 hd
  have l0 : 0 ≤ limit := Nat.zero_le _
  unfold rowI
  by_cases h : p = Str.ofString "-"
  · rw [show (p == ("-" : Str)) = true from beq_iff_eq.mpr h] at ce
    rw [if_pos h]
    clear h
    simp [f__law_row_in, startW, ce, l0]
  · rw [show (p == ("-" : Str)) = false from beq_eq_false_iff_ne.mpr h] at ce
    rw [if_neg h]
    have hs := fun S => splR (x := p) (y := Str.ofString " ") (by have := hp.1; omega) (by rw [sp_len]; omega) S
    have hw := split_wt (x := p) (y := Str.ofString " ") (by rw [sp_len]; omega)
    have hm : ∀ z ∈ Txt.split p (Str.ofString " "), Tg 10000 z := fun z hz => hp.piece (by rw [sp_len]; omega) hz
    have hl := hp.1
    clear h
    generalize Txt.split p (Str.ofString " ") = ps at *
    have hc : compM (lcStep [some (.str p), none] [1] (.nm 1) bYes (mCallP f__law_figures (mCons (mVar 1) mNil))) (ps.map W.str) [] [] = .ok (ps.map fun x => .int ((figO x).getD (-1))) [] := by
      refine lc_data (e := W.str) (g := fun x => W.int ((figO x).getD (-1))) fun x hx => ?_
      obtain ⟨h1, h2⟩ := (hm x hx).mono (M := 100000) (by omega)
      have e := fun S => fg_val (no := mNeg (mCon (.int 1))) (w := .int (-1)) neg1 rfl h1 h2 S
      rw [← lfig_eq] at e
      rw [figW_neg] at e
      generalize (figO x).getD (-1) = FX at *
      simp [lcStep, e]
    have hsum : ps.length ≤ p.length + 1 := by omega
    have hm2 : (ps.map W.str).length ≤ limit := by rw [List.length_map]; unfold limit; omega
    have hm3 : (ps.map fun x => W.int ((figO x).getD (-1))).length ≤ limit := by rw [List.length_map]; unfold limit; omega
    show _ = Res.ok (.tup ((ps.map fun x => (figO x).getD (-1)).map W.int)) S
    rw [show (ps.map fun x => (figO x).getD (-1)).map W.int = ps.map fun x => W.int ((figO x).getD (-1)) by rw [List.map_map]; rfl]
    have hnl : nlL (ps.map fun x => W.int ((figO x).getD (-1))) = true := nlL_of fun z hz => by obtain ⟨x, _, rfl⟩ := List.mem_map.mp hz; rfl
    clear hm hw hsum
    generalize (ps.map fun x => W.int ((figO x).getD (-1))) = LF at *
    generalize ps.map W.str = LS at *
    simp [f__law_row_in, startW, ce, txtR, hs, hc, hm2, hm3, hnl]
theorem str_inj : ∀ {a b : List Str}, a.map W.str = b.map W.str → a = b
  | [], [], _ => rfl
  | [], _ :: _, h => by cases h
  | _ :: _, [], h => by cases h
  | x :: a, y :: b, h => by
    rw [List.map_cons, List.map_cons] at h
    injection h with h1 h2
    injection h1 with h1
    rw [h1, str_inj h2]
theorem split_ne0 (p : Str) : Txt.split p (Str.ofString " ") ≠ [] := fun e => by
  have hb := split_back p (Str.ofString " ")
  rw [e] at hb
  have : p = Str.ofString "" := hb.symm.trans (by decide +kernel)
  rw [this] at e
  exact absurd e (by decide +kernel)
theorem row_back {p : Str} (h : ∀ i ∈ rowI p, 0 ≤ i) : numT (rowI p) = p := by
  unfold rowI at h ⊢
  by_cases hd : p = Str.ofString "-"
  · rw [if_pos hd, hd]; rfl
  · rw [if_neg hd] at h ⊢
    have hb := split_back p (Str.ofString " ")
    have hn0 := split_ne0 p
    generalize Txt.split p (Str.ofString " ") = ps at *
    have hm : (ps.map fun x => (figO x).getD (-1)).map nT = ps := by
      rw [List.map_map]
      have : ∀ x ∈ ps, (nT ∘ fun x => (figO x).getD (-1)) x = x := fun x hx => by
        have := h ((figO x).getD (-1)) (List.mem_map_of_mem (f := fun x => (figO x).getD (-1)) hx)
        show nT ((figO x).getD (-1)) = x
        cases q : figO x with
        | none => rw [q] at this; exact absurd this (by decide)
        | some i => exact (figO_some q).2.2.symm
      exact (List.map_congr_left this).trans (List.map_id' ps)
    unfold numT orT
    rw [hm, hb]
    have hne : p.length ≠ 0 := fun e => by
      cases ps with
      | nil => exact hn0 rfl
      | cons a l =>
        have h1 := h ((figO a).getD (-1)) (by simp)
        cases q : figO a with
        | none => rw [q] at h1; exact absurd h1 (by decide)
        | some i =>
          obtain ⟨a1, _, a3⟩ := figO_some q
          have := join_ne (y := Str.ofString " ") (l := l) (nT_ne a1)
          rw [← a3, hb] at this
          exact this e
    rw [if_neg hne]
theorem row_nums {l : List Int} (hl : l.length ≤ 50) (h : ∀ i ∈ l, 0 ≤ i ∧ i < 10 ^ 60) : rowI (numT l) = l := by
  unfold rowI
  rcases read_nums hl h with ⟨rfl, e⟩ | ⟨h0, e1, e2⟩
  · rw [e, if_pos rfl]
  · have hne : numT l ≠ Str.ofString "-" := fun e => by
      rw [e] at e1
      rw [ce_same (by decide +kernel)] at e1
      cases e1
    rw [if_neg hne]
    have e3 := e2 []
    unfold splitR at e3
    split at e3
    case isFalse => cases e3
    have e4 : (Txt.split (numT l) (Str.ofString " ")).map W.str = (l.map nT).map W.str := by
      injection e3 with e3 _
      injection e3
    have e5 : Txt.split (numT l) (Str.ofString " ") = l.map nT := str_inj e4
    rw [e5, List.map_map]
    have : ∀ i ∈ l, ((fun x => (figO x).getD (-1)) ∘ nT) i = i := fun i hi => by
      show (figO (nT i)).getD (-1) = i
      rw [figO_nT (h i hi).1 (h i hi).2]; rfl
    exact (List.map_congr_left this).trans (List.map_id' l)
end K77
set_option Elab.async false
set_option linter.all false
set_option maxRecDepth 100000
set_option maxHeartbeats 4000000
/-! P77b: what is due, what is told. -/
namespace K77
open PySem hiding upTo
open DL SP SP.Tx
def k3B (H : List Int) : Bool := H.all fun h => decide (0 ≤ h) && decide (h ≤ 2)
def k4B (V wh : List Int) : Bool := (V.zip wh).all fun p => decide (0 ≤ p.1) && decide (p.1 < p.2)
theorem isSt_row (b : Bk) (V H : List Int) : isSt b (.tup [tpI V, tpI H]) = ((decide (V.length = b.wh.length) && k4B V b.wh) && decide (H.length = b.ru.length) && k3B H) := by
  show ((decide ((V.map W.int).length = b.wh.length) && ((V.map W.int).zip b.wh).all fun p => isN 0 p.2 p.1) && decide ((H.map W.int).length = b.ru.length) && (H.map W.int).all (isN 0 3)) = _
  rw [List.length_map, List.length_map]
  have e1 : (H.map W.int).all (isN 0 3) = k3B H := by
    unfold k3B
    rw [List.all_map]
    congr 1
    funext h
    show (decide (0 ≤ h) && decide (h < 3)) = _
    congr 1
    rw [decide_eq_decide]; omega
  have e2 : ∀ (V wh : List Int), (((V.map W.int).zip wh).all fun p => isN 0 p.2 p.1) = k4B V wh := by
    intro V
    induction V with
    | nil => intro wh; rfl
    | cons v V ih =>
      intro wh
      cases wh with
      | nil => rfl
      | cons w wh =>
        rw [List.map_cons, List.zip_cons_cons, List.all_cons, ih]
        unfold k4B
        rw [List.zip_cons_cons, List.all_cons]
        rfl
  rw [e1, e2]
theorem bar_len : (Str.ofString " | ").length = 3 := by decide +kernel
theorem l_due_core {b : Bk} (hb : b.Ok) {x p q : Str} (hx : Tg 10000 x) (hs : Txt.split x (Str.ofString " | ") = [p, q]) (S : Sto) : pureR (f__law_due [tpI b.wh, .int b.ru.length, .str x] []) S = .ok (if isSt b (.tup [tpI (rowI p), tpI (rowI q)]) then .tup [tpI (rowI p), tpI (rowI q)] else .int 0) S := by
  have hp : Tg 10000 p := hx.piece (by rw [bar_len]; omega) (by rw [hs]; simp)
  have hq : Tg 10000 q := hx.piece (by rw [bar_len]; omega) (by rw [hs]; simp)
  have hsp : ∀ S, splitR x (Str.ofString " | ") S = .ok (.lst [.str p, .str q]) S := fun S => by
    rw [splR (by have := hx.1; omega) (by rw [bar_len]; omega), hs]; rfl
  have r1 := fun S => e_row hp S
  have r2 := fun S => e_row hq S
  have hrl : ∀ {z : Str}, Tg 10000 z → (rowI z).length ≤ 20000 := fun {z} hz => by
    unfold rowI
    split
    · exact Nat.zero_le _
    · rw [List.length_map]
      have := split_wt (x := z) (y := Str.ofString " ") (by rw [sp_len]; omega)
      have := hz.1
      omega
  have lV := hrl hp
  have lH := hrl hq
  rw [isSt_row]
  generalize rowI p = V at *
  generalize rowI q = H at *
  have c1 : compM (lcStep [some ((.tup (b.wh.map W.int))), some (.int b.ru.length), some (.str x), some (.lst [.str p, .str q]), none, none, none, none, none, none] [6] (.nm 6) bYes (mCallP f__law_row_in (mCons (mVar 6) mNil))) [.str p, .str q] [] [] = .ok [(.tup (V.map W.int)), (.tup (H.map W.int))] [] := by
    have r1 : ∀ S, pureR (f__law_row_in [.str p] []) S = .ok (.tup (V.map W.int)) S := r1
    have r2 : ∀ S, pureR (f__law_row_in [.str q] []) S = .ok (.tup (H.map W.int)) S := r2
    have nV : nlL (V.map W.int) = true := nl_ints _
    have nH : nlL (H.map W.int) = true := nl_ints _
    simp [compM, lcStep, r1, r2]
  have c3 : ∀ (x4 : Option W), compM (lcStep [some ((.tup (b.wh.map W.int))), some (.int b.ru.length), some (.str x), some (.lst [.str p, .str q]), x4, some ((.tup (H.map W.int))), none, none, none, none] [9] (.nm 9) bYes (mChain .LtE .LtE (mCon (.int 0)) (mVar 9) (mCon (.int 2)))) (H.map W.int) [] [] = .ok (H.map fun h => .bl (decide (0 ≤ h) && decide (h ≤ 2))) [] := fun x4 =>
    lc_data fun h hh => by
      by_cases h0 : 0 ≤ h
      · simp [lcStep, h0]
      · simp [lcStep, h0]
  have p3 : DL.prim .all [.lst (H.map fun h => .bl (decide (0 ≤ h) && decide (h ≤ 2)))] = some (.bl (k3B H)) := all_of H _
  have hzz : zipW (V.map W.int) (b.wh.map W.int) = (V.zip b.wh).map fun p => .tup [.int p.1, .int p.2] := zipW_map W.int W.int V b.wh
  have c4 : compM (lcStep [some ((.tup (b.wh.map W.int))), some (.int b.ru.length), some (.str x), some (.lst [.str p, .str q]), some ((.tup (V.map W.int))), some ((.tup (H.map W.int))), none, none, none, none] [7, 8] (.tup [7, 8]) bYes (mChain .LtE .Lt (mCon (.int 0)) (mVar 7) (mVar 8))) ((V.zip b.wh).map fun p => .tup [.int p.1, .int p.2]) [] [] = .ok ((V.zip b.wh).map fun p => .bl (decide (0 ≤ p.1) && decide (p.1 < p.2))) [] :=
    lc_data fun p hp => by
      by_cases h0 : 0 ≤ p.1
      · simp [lcStep, h0]
      · simp [lcStep, h0]
  have p4 : DL.prim .all [.lst ((V.zip b.wh).map fun p => .bl (decide (0 ≤ p.1) && decide (p.1 < p.2)))] = some (.bl (k4B V b.wh)) := all_of (V.zip b.wh) _
  have hw3 := hb.w.l1
  have hn5 := hb.n
  have hlz : ((V.zip b.wh).map fun p => W.tup [.int p.1, .int p.2]).length ≤ limit := by rw [List.length_map, List.length_zip]; unfold limit; omega
  have hlV : V.length ≤ limit := by unfold limit; omega
  have hlH : H.length ≤ limit := by unfold limit; omega
  have l2 : 2 ≤ limit := by unfold limit; omega
  have m1 : (V.map W.int).length = V.length := List.length_map ..
  have m2 : (H.map W.int).length = H.length := List.length_map ..
  have m3 : (b.wh.map W.int).length = b.wh.length := List.length_map ..
  have dV : ∀ S, deref S (.tup (V.map W.int)) = .tup (V.map W.int) := fun _ => rfl
  have nV : nlL (V.map W.int) = true := nl_ints _
  have nH : nlL (H.map W.int) = true := nl_ints _
  have hnl : b.ru.length ≤ limit := by unfold limit; omega
  have hwl : b.wh.length ≤ limit := by unfold limit; omega
  show pureR (f__law_due [.tup (b.wh.map W.int), .int b.ru.length, .str x] []) S = .ok (if ((decide (V.length = b.wh.length) && k4B V b.wh) && decide (H.length = b.ru.length) && k3B H) = true then .tup [.tup (V.map W.int), .tup (H.map W.int)] else .int 0) S
  generalize k3B H = K3 at *
  generalize k4B V b.wh = K4 at *
  generalize (H.map fun h => W.bl (decide (0 ≤ h) && decide (h ≤ 2))) = L3 at *
  generalize ((V.zip b.wh).map fun p => W.bl (decide (0 ≤ p.1) && decide (p.1 < p.2))) = L4 at *
  generalize ((V.zip b.wh).map fun p => W.tup [W.int p.1, W.int p.2]) = ZZ at *
  generalize V.map W.int = VI at *
  generalize H.map W.int = HI at *
  generalize b.wh.map W.int = WI at *
  by_cases e1 : V.length = b.wh.length
  · have i1 : (V.length : Int) = (b.wh.length : Int) := by omega
    by_cases e2 : H.length = b.ru.length
    · have i2 : (H.length : Int) = (b.ru.length : Int) := by omega
      cases K3 with
      | false => simp [f__law_due, startW, txtR, hsp, c1, c3, p3, m1, m2, m3, i1, i2, e1, e2, hlV, hlH, hnl, hwl, l2, setAll, -p_all]
      | true =>
        cases K4 with
        | false => simp [f__law_due, startW, txtR, hsp, c1, c3, c4, p3, p4, hzz, hlz, m1, m2, m3, i1, i2, e1, e2, hlV, hlH, hnl, hwl, l2, setAll, -p_all]
        | true => simp [f__law_due, startW, txtR, hsp, c1, c3, c4, p3, p4, hzz, hlz, m1, m2, m3, i1, i2, e1, e2, hlV, hlH, hnl, hwl, l2, nV, nH, setAll, -p_all]
    · have i2 : ¬ ((H.length : Int) = (b.ru.length : Int)) := by omega
      simp [f__law_due, startW, txtR, hsp, c1, m1, m2, m3, i1, i2, e1, e2, hlV, hlH, hnl, hwl, l2, setAll, -p_all]
  · have i1 : ¬ ((V.length : Int) = (b.wh.length : Int)) := by omega
    simp [f__law_due, startW, txtR, hsp, c1, m1, m2, m3, i1, e1, hlV, hlH, hnl, hwl, l2, setAll, -p_all]
end K77
set_option Elab.async false
set_option linter.all false
set_option maxRecDepth 100000
set_option maxHeartbeats 4000000
/-! P77c: told and due are the same, of any thing. -/
namespace K77
open PySem hiding upTo
open DL SP SP.Tx
theorem staT_join (s : Sta) : staT s = Txt.join (Str.ofString " | ") [numT s.1, numT s.2] := by
  rw [TL.join_eq]; rfl
theorem sta_split {s : Sta} (m1 : ∀ i ∈ s.1, 0 ≤ i) (m2 : ∀ i ∈ s.2, 0 ≤ i) : Txt.split (staT s) (Str.ofString " | ") = [numT s.1, numT s.2] := by
  rw [staT_join]
  refine split_join2 (s1 := 32) (s2 := 124) (S := [32]) (by decide +kernel) (by decide) (by decide +kernel) (by simp) fun p hp => ?_
  simp only [List.mem_cons, List.not_mem_nil, or_false] at hp
  rcases hp with rfl | rfl
  · exact free_of (num_p1 m1) (by decide)
  · exact free_of (num_p1 m2) (by decide)
theorem staT_tg {b : Bk} (hb : b.Ok) {s : Sta} (hs : StOk b s) : Tg 40 (staT s) := by
  obtain ⟨l1, l2, m1, m2⟩ := st_sm hb hs
  refine ⟨?_, staT_ok (s := s) (fun i hi => (m1 i hi).1) (fun i hi => (m2 i hi).1)⟩
  have num : ∀ l : List Int, l.length ≤ 5 → (∀ i ∈ l, 0 ≤ i ∧ i < 10) → (numT l).length ≤ 11 := fun l hl h => by
    have hj := join_len_le (Str.ofString " ") (l.map nT)
    have hs : ∀ l : List Int, (∀ i ∈ l, 0 ≤ i ∧ i < 10) → ((l.map nT).map (·.length)).sum = l.length := fun l => by
      induction l with
      | nil => intro _; rfl
      | cons a l ih =>
        intro h
        rw [List.map_cons, List.map_cons, List.sum_cons, ih fun i hi => h i (List.mem_cons_of_mem _ hi), List.length_cons]
        have ha := h a (List.mem_cons_self ..)
        have : (nT a).length = 1 := by
          rw [TL.len_tl]
          show (tl (nT a)).length = 1
          rw [nT_tl ha.1, TL.numL_lt (by omega)]; rfl
        show (nT a).length + _ = _
        omega
    rw [hs l h, List.length_map, sp_len] at hj
    unfold numT orT
    split
    · have : (Str.ofString "-").length = 1 := by decide +kernel
      omega
    · omega
  have a1 := num s.1 (by omega) m1
  have a2 := num s.2 (by omega) m2
  unfold staT
  rw [app_len, app_len, bar_len]; omega
theorem due_good {b : Bk} (hb : b.Ok) {s : Sta} (hs : StOk b s) (S : Sto) : pureR (f__law_due [tpI b.wh, .int b.ru.length, .str (staT s)] []) S = .ok (stW s) S := by
  obtain ⟨l1, l2, m1, m2⟩ := st_sm hb hs
  have e := l_due_core hb ((staT_tg hb hs).mono (by omega)) (sta_split (fun i hi => (m1 i hi).1) fun i hi => (m2 i hi).1) S
  rw [row_nums (by omega) (up60 m1), row_nums (by omega) (up60 m2)] at e
  have his : isSt b (.tup [tpI s.1, tpI s.2]) = true := by
    rw [isSt_row]
    rw [decide_eq_true hs.l1, decide_eq_true hs.l2, Bool.true_and, Bool.and_true]
    rw [Bool.and_eq_true]
    constructor
    · unfold k4B
      rw [List.all_eq_true]
      intro p hp
      obtain ⟨i, hi, e⟩ := List.mem_iff_getElem.mp hp
      rw [List.length_zip] at hi
      rw [List.getElem_zip] at e
      subst e
      have h := hs.m1 (i : Int) ⟨by omega, by omega⟩
      unfold gi at h
      rw [List.getD_eq_getElem?_getD, List.getD_eq_getElem?_getD, Int.toNat_natCast, List.getElem?_eq_getElem (by omega), List.getElem?_eq_getElem (by omega)] at h
      simp only [Option.getD_some] at h
      simp [h.1, h.2]
    · unfold k3B
      rw [List.all_eq_true]
      intro h hh
      have := hs.m2 h hh
      simp [this.1]
      omega
  rw [his] at e
  exact e
theorem due_bad {b : Bk} (hb : b.Ok) {x : Str} (hx : Tg 10000 x) (hn : ∀ s, StOk b s → x ≠ staT s) (S : Sto) : pureR (f__law_due [tpI b.wh, .int b.ru.length, .str x] []) S = .ok (.int 0) S := by
  by_cases h2 : (Txt.split x (Str.ofString " | ")).length = 2
  · obtain ⟨p, q, hs⟩ : ∃ p q, Txt.split x (Str.ofString " | ") = [p, q] := by
      match hm : Txt.split x (Str.ofString " | "), h2 with
      | [p, q], _ => exact ⟨p, q, rfl⟩
    rw [l_due_core hb hx hs]
    cases his : isSt b (.tup [tpI (rowI p), tpI (rowI q)]) with
    | false => rfl
    | true =>
      exfalso
      obtain ⟨s, e, sok⟩ := isSt_ok his
      have e1 : rowI p = s.1 ∧ rowI q = s.2 := by
        have e : W.tup [tpI (rowI p), tpI (rowI q)] = .tup [tpI s.1, tpI s.2] := e
        injection e with e
        injection e with e1 e2
        injection e2 with e2
        refine ⟨?_, ?_⟩
        · rw [← intsT_tp (rowI p), e1, intsT_tp]
        · rw [← intsT_tp (rowI q), e2, intsT_tp]
      obtain ⟨l1, l2, m1, m2⟩ := st_sm hb sok
      have b1 := row_back (p := p) (by rw [e1.1]; exact fun i hi => (m1 i hi).1)
      have b2 := row_back (p := q) (by rw [e1.2]; exact fun i hi => (m2 i hi).1)
      rw [e1.1] at b1
      rw [e1.2] at b2
      refine hn s sok ?_
      rw [staT_join, b1, b2, ← hs, split_back]
  · have hw := split_wt (x := x) (y := Str.ofString " | ") (by rw [bar_len]; omega)
    have hsp : ∀ S, splitR x (Str.ofString " | ") S = .ok (.lst ((Txt.split x (Str.ofString " | ")).map W.str)) S := fun S => splR (by have := hx.1; omega) (by rw [bar_len]; omega) S
    have hml : ((Txt.split x (Str.ofString " | ")).map W.str).length = (Txt.split x (Str.ofString " | ")).length := List.length_map ..
    have hl : (Txt.split x (Str.ofString " | ")).length ≤ limit := by have := hx.1; unfold limit; omega
    have h2i : ¬ (((Txt.split x (Str.ofString " | ")).length : Int) = 2) := by omega
    generalize (Txt.split x (Str.ofString " | ")).map W.str = LS at *
    generalize (Txt.split x (Str.ofString " | ")).length = N at *
    simp [f__law_due, startW, txtR, hsp, hml, h2, h2i, hl]
theorem due_non {b : Bk} {n : Nat} {w : W} (h : W.plain n w = true) (hs : isTy .str w = some false) (S : Sto) : pureR (f__law_due [tpI b.wh, .int b.ru.length, w] []) S = .ok (.int 0) S := by
  have d := fun S => plain_deref h S
  have l0 : 0 ≤ limit := Nat.zero_le _
  simp [f__law_due, startW, hs, d, l0]
/-! ### what is told -/
theorem told_ok {b : Bk} {w v : W} (hw : w.nl = true) (dw : ∀ S, derefF S w = w) (hv : v.nl = true) (h : ∀ S, pureR (f_read_state [b.W, w] []) S = .ok v S) (S : Sto) : pureR (f__law_told [b.W, w] []) S = .ok v S := by
  have n1 := nl_bk b
  have d1 := fun S => dd_bk S b
  generalize b.W = B1 at *
  simp [f__law_told, startW, sTryC, h, n1, d1, hw, dw, hv]
theorem told_no {b : Bk} {w : W} (hw : w.nl = true) (dw : ∀ S, derefF S w = w) (h : ∀ S, pureR (f_read_state [b.W, w] []) S = .exc (.own 6 [(6, .int 0)]) S) (S : Sto) : pureR (f__law_told [b.W, w] []) S = .ok (.int 0) S := by
  have n1 := nl_bk b
  have d1 := fun S => dd_bk S b
  have hh : hitL [(4, false), (6, true), (12, false)] 6 = some true := rfl
  have h1 : hitL [(4, true), (6, true), (12, true)] 6 = some true := rfl
  have h2 : hitL [(4, false), (6, false), (12, true)] 6 = some false := rfl
  have h3 : hitL [(4, true), (6, true)] 6 = some true := rfl
  have hv : (hideD [] [some b.W, some w, some (.opq 6 [(6, .int 0)])])[2]? = some (some (.opq 6 [(6, .int 0)])) := rfl
  have hnf : nlF [(6, W.int 0)] = true := rfl
  generalize b.W = B1 at *
  have hb : (sSeq (sRet (mCallP f_read_state (mCons (mVar 0) (mCons (mVar 1) (mNil))))) (sNext)) [some B1, some w, none] [] = .exc (.own 6 [(6, .int 0)]) [some B1, some w, none] [] := by
    simp [h, n1, d1, hw, dw]
  have ht := o_tryC (hit := hitL [(4, false), (6, true), (12, false)]) (i := 2) (u := (sSeq (sRet (mIfx (bAnd (bTest (mIsX (hitL [(4, true), (6, true), (12, true)]) (mVar 2))) (bNot (bTest (mIsX (hitL [(4, false), (6, false), (12, true)]) (mVar 2))))) (mXf (hitL [(4, true), (6, true)]) 6 (mVar 2)) (mCon (.str "other")))) (sNext))) hb hh hnf
  have ht2 : tryR ((sSeq (sRet (mIfx (bAnd (bTest (mIsX (hitL [(4, true), (6, true), (12, true)]) (mVar 2))) (bNot (bTest (mIsX (hitL [(4, false), (6, false), (12, true)]) (mVar 2))))) (mXf (hitL [(4, true), (6, true)]) 6 (mVar 2)) (mCon (.str "other")))) (sNext)) (hideD [] ([some B1, some w, none].set 2 (some (.opq 6 [(6, .int 0)])))) []) [] = .ret (.int 0) [] := by
    show tryR ((sSeq _ sNext) (hideD [] [some B1, some w, some (.opq 6 [(6, .int 0)])]) []) [] = _
    generalize hideD [] [some B1, some w, some (.opq 6 [(6, .int 0)])] = ρ at *
    have hr : (sSeq (sRet (mIfx (bAnd (bTest (mIsX (hitL [(4, true), (6, true), (12, true)]) (mVar 2))) (bNot (bTest (mIsX (hitL [(4, false), (6, false), (12, true)]) (mVar 2))))) (mXf (hitL [(4, true), (6, true)]) 6 (mVar 2)) (mCon (.str "other")))) (sNext)) ρ [] = .ret (.int 0) [] := by
      simp [hv, h1, h2, h3, lookF]
    rw [hr]; rfl
  rw [ht2] at ht
  simp [f__law_told, startW, ht]
end K77
set_option Elab.async false
set_option linter.all false
set_option maxRecDepth 100000
set_option maxHeartbeats 4000000
/-! S96: texts spoilt: pieces cut out, put in, joined. -/
namespace SP
open PySem hiding upTo
open DL
@[simp] theorem o_slcS (a l h : Me) (ρ : DL.Env) (S : Sto) : mSlcS a l h ρ S = (a ρ S).bind fun x S => (l ρ S).bind fun l S => match partW l with
  | none => .bad
  | some l => (h ρ S).bind fun h S => match partW h with
    | none => .bad
    | some u => match x with
      | .str z => if z.length ≤ limit then .ok (.str (L2.cutS z l u)) S else .bad
      | _ => .bad := (rfl)
@[simp] theorem o_mulS (a b : Me) (ρ : DL.Env) (S : Sto) : mMulS a b ρ S = (a ρ S).bind fun x S => (b ρ S).bind fun y S => match x, y with
  | .str z, .int k => if k = 0 then .ok (.str Str.empty) S else if k = 1 then .ok (.str z) S else .bad
  | _, _ => .bad := (rfl)
namespace Tx
theorem tg_cut {N : Nat} {x : Str} (h : Tg N x) (a b : Option Int) : Tg N (L2.cutS x a b) := by
  refine ⟨Nat.le_trans (L2.cutS_length x a b) h.1, ?_⟩
  have h2 := h.2
  rw [strOk_iff] at h2 ⊢
  intro c hc
  unfold L2.cutS at hc
  refine h2 c ?_
  have hc : c ∈ (x.cps.toList.drop (HT.sIx x.length 0 a)).take (HT.sIx x.length x.length b - HT.sIx x.length 0 a) := by simpa using hc
  exact List.mem_of_mem_drop (List.mem_of_mem_take hc)
theorem tg_app {N M : Nat} {a b : Str} (h1 : Tg N a) (h2 : Tg M b) : Tg (N + M) (a ++ b) := ⟨by have := h1.1; have := h2.1; rw [app_len]; omega, strOk_app h1.2 h2.2⟩
theorem tg_sign {z : Str} (hz : PyData.strOk z = true) {c : Nat} (hc : c ∈ tl z) : Tg 1 (⟨#[c]⟩ : Str) := ⟨Nat.le_refl _, sok1 hz hc⟩
theorem tg_emp : Tg 0 Str.empty := ⟨Nat.le_refl _, by decide +kernel⟩
theorem tg_join {y : Str} {l : List Str} {N : Nat} (hy : PyData.strOk y = true) (h : ∀ p ∈ l, PyData.strOk p = true) (hN : (l.map (·.length)).sum + l.length * y.length ≤ N) : Tg N (Txt.join y l) := by
  refine ⟨Nat.le_trans (join_len_le y l) hN, ?_⟩
  rw [strOk_iff]
  have hc : Ch (fun c => c < 1114112) (Txt.join y l) := Ch.join (fun c hc => strOk_iff.mp hy c hc) fun p hp c hc => strOk_iff.mp (h p hp) c hc
  exact fun c hcc => hc c hcc
theorem joinV_ok {y : Str} {l : List Str} (hN : (l.map (·.length)).sum + l.length * y.length ≤ 16777216) (S : Sto) : joinV y (.lst (l.map W.str)) S = .ok (.str (Txt.join y l)) S := by
  show joinR _ _ S = _
  unfold joinR
  rw [strsOf_strs]
  exact if_pos hN
theorem sum_app (a b : List Str) : ((a ++ b).map (·.length)).sum = (a.map (·.length)).sum + (b.map (·.length)).sum := by
  rw [List.map_append, List.sum_append]
theorem sum_take_drop (l : List Str) (u : Nat) : ((l.take u).map (·.length)).sum + ((l.drop u).map (·.length)).sum = (l.map (·.length)).sum := by
  rw [← sum_app, List.take_append_drop]
theorem sum_drop1 (l : List Str) (u : Nat) : ((l.drop (u + 1)).map (·.length)).sum ≤ ((l.drop u).map (·.length)).sum := by
  rw [← List.drop_drop]
  cases l.drop u with
  | nil => simp
  | cons a r => simp
/-- what taking a piece out may give -/
theorem tg_out {N : Nat} {x y : Str} (hx : Tg N x) (hy : PyData.strOk y = true) (h1 : 1 ≤ y.length) (h3 : y.length ≤ 3) (u : Nat) : Tg (4 * N + 20) (Txt.join y ((Txt.split x y).take u ++ (Txt.split x y).drop (u + 1))) ∧ (((Txt.split x y).take u ++ (Txt.split x y).drop (u + 1)).map (·.length)).sum + ((Txt.split x y).take u ++ (Txt.split x y).drop (u + 1)).length * y.length ≤ 4 * N + 20 := by
  have hw := split_wt (x := x) h1
  have hl := hx.1
  have hp : ∀ p ∈ Txt.split x y, PyData.strOk p = true := fun p hp => piece_ok hx.2 hp
  generalize Txt.split x y = ps at *
  have a1 := sum_take_drop ps u
  have a2 := sum_drop1 ps u
  have a3 : (ps.take u ++ ps.drop (u + 1)).length ≤ ps.length := by simp; omega
  have a4 : (ps.take u ++ ps.drop (u + 1)).length * y.length ≤ ps.length * 3 := Nat.mul_le_mul a3 h3
  have hN : ((ps.take u ++ ps.drop (u + 1)).map (·.length)).sum + (ps.take u ++ ps.drop (u + 1)).length * y.length ≤ 4 * N + 20 := by
    rw [sum_app]; omega
  refine ⟨tg_join hy (fun p hp' => ?_) hN, hN⟩
  rcases List.mem_append.mp hp' with h | h
  · exact hp p (List.mem_of_mem_take h)
  · exact hp p (List.mem_of_mem_drop h)
/-- what putting a piece in may give -/
theorem tg_in {N : Nat} {x y z : Str} (hx : Tg N x) (hz : PyData.strOk z = true) (hzl : z.length ≤ N + 10) (hy : PyData.strOk y = true) (h1 : 1 ≤ y.length) (h3 : y.length ≤ 3) (u v : Nat) (huv : u ≤ v) : Tg (6 * N + 40) (Txt.join y ((Txt.split x y).take u ++ [z] ++ (Txt.split x y).drop v)) ∧ (((Txt.split x y).take u ++ [z] ++ (Txt.split x y).drop v).map (·.length)).sum + ((Txt.split x y).take u ++ [z] ++ (Txt.split x y).drop v).length * y.length ≤ 6 * N + 40 := by
  have hw := split_wt (x := x) h1
  have hl := hx.1
  have hp : ∀ p ∈ Txt.split x y, PyData.strOk p = true := fun p hp => piece_ok hx.2 hp
  generalize Txt.split x y = ps at *
  have a1 := sum_take_drop ps u
  have a2 : ((ps.drop v).map (·.length)).sum ≤ ((ps.drop u).map (·.length)).sum := by
    obtain ⟨d, rfl⟩ : ∃ d, v = u + d := ⟨v - u, by omega⟩
    clear huv
    induction d with
    | zero => exact Nat.le_refl _
    | succ d ih =>
      have := sum_drop1 ps (u + d)
      rw [show u + (d + 1) = u + d + 1 by omega]
      omega
  have a3 : (ps.take u ++ [z] ++ ps.drop v).length ≤ ps.length + 1 := by simp; omega
  have a4 : (ps.take u ++ [z] ++ ps.drop v).length * y.length ≤ (ps.length + 1) * 3 := Nat.mul_le_mul a3 h3
  have hN : ((ps.take u ++ [z] ++ ps.drop v).map (·.length)).sum + (ps.take u ++ [z] ++ ps.drop v).length * y.length ≤ 6 * N + 40 := by
    rw [sum_app, sum_app]
    have : (([z] : List Str).map (·.length)).sum = z.length := by simp
    omega
  refine ⟨tg_join hy (fun p hp' => ?_) hN, hN⟩
  rcases List.mem_append.mp hp' with h | h
  · rcases List.mem_append.mp h with h | h
    · exact hp p (List.mem_of_mem_take h)
    · rw [List.mem_singleton.mp h]; exact hz
  · exact hp p (List.mem_of_mem_drop h)
theorem len_str {N : Nat} {x : Str} (h : Tg N x) (hN : N ≤ 100000) : DL.prim .len [W.str x] = some (.int x.length) := by
  show (if x.length ≤ limit then some (W.int x.length) else none) = _
  rw [if_pos (by have := h.1; unfold limit; omega)]
theorem add_str {a b : Str} (h : a.length + b.length ≤ 1000000) : binop .Add (.str a) (.str b) = some (.str (a ++ b)) := by
  show (if a.length + b.length ≤ limit then some (W.str (a ++ b)) else none) = _
  rw [if_pos (by unfold limit; omega)]
end Tx
end SP
set_option Elab.async false
set_option linter.all false
set_option maxRecDepth 100000
set_option maxHeartbeats 4000000
/-! S91: what spoiling a thing may give, and its shown text. -/
namespace SP
open PySem hiding upTo
open DL
end SP
set_option Elab.async false
set_option linter.all false
set_option maxRecDepth 100000
set_option maxHeartbeats 4000000
/-! S56: all states come to, by the law. -/
namespace SP
open PySem hiding upTo
open DL
end SP
set_option Elab.async false
set_option linter.all false
set_option maxRecDepth 100000
set_option maxHeartbeats 4000000
/-! S62: papers of orders, let by where they are told. -/
namespace SP
open PySem hiding upTo
open DL
@[simp] theorem o_keysL (p : Me) (ρ : DL.Env) (S : Sto) : jKeysL p ρ S = (p ρ S).bindL fun x S => match x with
  | .loc n => match S[n]? with
    | some (.dlk kvs) => .ok (kvs.map (·.1)) S
    | _ => .bad
  | _ => .bad := (rfl)
@[simp] theorem o_dinL (a b : Me) (ρ : DL.Env) (S : Sto) : mDInL a b ρ S = (a ρ S).bind fun x S => (b ρ S).bind fun y S => optR S ((dinLR x y S).map .bl) := (rfl)
end SP
set_option Elab.async false
set_option linter.all false
set_option maxRecDepth 100000
set_option maxHeartbeats 4000000
/-! S77: never(b, r) told exactly, and shows_never of what never tells is True. -/
namespace SP
open PySem DL
/-! ### the program's paper -/
end SP
set_option Elab.async false
set_option linter.all false
set_option maxRecDepth 100000
set_option maxHeartbeats 4000000
/-! S88: lots of states, asked of any plain thing: is_lot, keeps_to. -/
namespace SP
open PySem hiding upTo
open DL
/-! ### a dict of states, all told true -/
/-! ### what a lot is -/
end SP
set_option Elab.async false
set_option linter.all false
set_option maxRecDepth 100000
set_option maxHeartbeats 4000000
/-! S89: shows_never of any plain thing. -/
namespace SP
open PySem hiding upTo
open DL
theorem str_cases {n : Nat} {x : W} (h : W.plain n x = true) : (∃ s, x = .str s) ∨ isTy .str x = some false := by
  cases x with
  | str s => exact .inl ⟨s, rfl⟩
  | bl k => exact .inr rfl
  | int k => exact .inr rfl
  | non => exact .inr rfl
  | tup k => exact .inr rfl
  | lst k => exact .inr rfl
  | _ => simp [W.plain] at h
end SP
set_option Elab.async false
set_option linter.all false
set_option maxRecDepth 100000
set_option maxHeartbeats 4000000
/-! P77d: texts written by the law; texts bent. -/
namespace K77
open PySem hiding upTo
open DL SP SP.Tx
def bn0 : Ms := sAsg (.nm 2) (mCon (.str " |-0123456789,x\n/"))
def bn1 : Ms := sPar [3, 4] (mCons (mCall f__law_take (mCons (mVar 0) (mCons (mCon (.int 5)) (mNil)))) (mCons (mCall f__law_take (mCons (mVar 0) (mCons (mBin .Add (mPrim .len (mCons (mVar 1) (mNil))) (mCon (.int 1))) (mNil)))) (mNil)))
def bn2 : Ms := sIf (bTest (mCmp .Lt (mVar 3) (mCon (.int 3)))) (sSeq (sRet (mBin .Add (mBin .Add (mSlcS (mVar 1) (mCon .non) (mPart (mVar 4))) (mMulS (mIdxS (mVar 2) (mCall f__law_take (mCons (mVar 0) (mCons (mPrim .len (mCons (mVar 2) (mNil))) (mNil))))) (mPrim .int (mCons (mCmp .Lt (mVar 3) (mCon (.int 2))) (mNil))))) (mSlcS (mVar 1) (mPart (mBin .Add (mVar 4) (mPrim .int (mCons (mCmp .Gt (mVar 3) (mCon (.int 0))) (mNil))))) (mCon .non)))) (sNext)) (sNext)
def bn3 : Ms := sAsg (.nm 5) (mIdx (mTup (mCons (mCon (.str " ")) (mCons (mCon (.str " | ")) (mNil)))) (mCall f__law_take (mCons (mVar 0) (mCons (mCon (.int 2)) (mNil)))))
def bn4 : Ms := sAsg (.nm 6) (mSplit (mVar 1) (mVar 5))
def bn5 : Ms := sAsg (.nm 7) (mCall f__law_take (mCons (mVar 0) (mCons (mPrim .len (mCons (mVar 6) (mNil))) (mNil))))
def bn6 : Ms := sIf (bTest (mCmp .Eq (mVar 3) (mCon (.int 3)))) (sSeq (sRet (mJoin (mVar 5) (mBin .Add (mSlc (mVar 6) (mCon .non) (mPart (mVar 7))) (mSlc (mVar 6) (mPart (mBin .Add (mVar 7) (mCon (.int 1)))) (mCon .non))))) (sNext)) (sNext)
def bn7 : Ms := sRet (mJoin (mVar 5) (mBin .Add (mBin .Add (mSlc (mVar 6) (mCon .non) (mPart (mVar 7))) (mLst (mCons (mIdx (mTup (mCons (mCon (.str "-")) (mCons (mCon (.str "0")) (mCons (mCon (.str "4")) (mCons (mCon (.str "00")) (mCons (mCon (.str "2")) (mCons (mCon (.str "3")) (mNil)))))))) (mCall f__law_take (mCons (mVar 0) (mCons (mCon (.int 6)) (mNil))))) (mNil)))) (mSlc (mVar 6) (mPart (mVar 7)) (mCon .non))))
theorem bent_eq : f__law_bent = fnW 2 8 (sSeq bn0 (sSeq bn1 (sSeq bn2 (sSeq bn3 (sSeq bn4 (sSeq bn5 (sSeq bn6 (sSeq bn7 sNext)))))))) := rfl
theorem a_read_non {b : Bk} {n : Nat} {w : W} (h : W.plain n w = true) (hs : isTy .str w = some false) (S : Sto) : pureR (f_read_state [b.W, w] []) S = .exc (.own 6 [(6, .int 0)]) S := by
  have d := fun S => plain_deref h S
  have dF := fun S => plain_derefF h S
  have nw := (plain_nl _ _ h).1
  have xn : Xn.nl (.own 6 [(6, .int 0)]) = true := rfl
  generalize b.W = B at *
  simp [f_read_state, startW, hs, d, sRaiseF, xn]
/-- what is told of a thing is what is due to it -/
theorem agree {b : Bk} (hb : b.Ok) {n : Nat} {w : W} (h : W.plain n w = true) (ht : ∀ x, w = .str x → Tg 10000 x) : ∃ v, (∀ S, pureR (f__law_told [b.W, w] []) S = .ok v S) ∧ (∀ S, pureR (f__law_due [tpI b.wh, .int b.ru.length, w] []) S = .ok v S) ∧ cmpEq v v = some true ∧ ∀ S, deref S v = v := by
  have nw := (plain_nl _ _ h).1
  have dw := fun S => plain_derefF h S
  rcases str_cases h with ⟨x, rfl⟩ | hs
  · have hx := ht x rfl
    by_cases he : ∃ s, StOk b s ∧ x = staT s
    · obtain ⟨s, hs, rfl⟩ := he
      refine ⟨stW s, told_ok nw dw (nl_st s) (fun S => e_read_state hb hs S), fun S => due_good hb hs S, ?_, fun S => de_st S s⟩
      rw [ce_st, decide_eq_true rfl]
    · have hn : ∀ s, StOk b s → x ≠ staT s := fun s hs e => he ⟨s, hs, e⟩
      exact ⟨.int 0, told_no nw dw (fun S => a_read_state hb hx hn S), fun S => due_bad hb hx hn S, rfl, fun _ => rfl⟩
  · exact ⟨.int 0, told_no nw dw (fun S => a_read_non h hs S), fun S => due_non h hs S, rfl, fun _ => rfl⟩
theorem e_lnums {l : List Int} (hl : l.length ≤ 50) (h : ∀ i ∈ l, 0 ≤ i ∧ i < 10) (S : Sto) : pureR (f__law_numbers [tpI l] []) S = .ok (.str (numT l)) S := by
  have ct := ce_tnil (l.map W.int)
  by_cases h0 : l = []
  · subst h0
    have ct : cmpEq (.tup []) (.tup []) = some true := rfl
    have l0 : 0 ≤ limit := Nat.zero_le _
    show _ = Res.ok (.str (Str.ofString "-")) S
    show pureR (f__law_numbers [.tup []] []) S = _
    simp [f__law_numbers, startW, ct, l0]
  · have ct : cmpEq (.tup (l.map W.int)) (.tup []) = some false := by
      rw [ct]
      cases l with
      | nil => exact absurd rfl h0
      | cons _ _ => rfl
    have hi := ints_lt (l := l) (fun i hi => ⟨(h i hi).1, by have := (h i hi).2; omega⟩) (S := []) (ρ := [some (.tup (l.map W.int)), none]) (k := 1) (by simp)
    have hj := (numT_len hl (up64 h)).2.2
    have hnz : (Txt.join (Str.ofString " ") (l.map nT)).length ≠ 0 := by
      cases l with
      | nil => exact absurd rfl h0
      | cons a l => exact join_ne (nT_ne (h a (List.mem_cons_self ..)).1)
    have hT : numT l = Txt.join (Str.ofString " ") (l.map nT) := by unfold numT orT; rw [if_neg hnz]
    have l0 : 0 ≤ limit := Nat.zero_le _
    have hl1 : (l.map W.int).length ≤ limit := by rw [List.length_map]; unfold limit; omega
    have hl2 : ((l.map nT).map W.str).length ≤ limit := by rw [List.length_map, List.length_map]; unfold limit; omega
    show pureR (f__law_numbers [.tup (l.map W.int)] []) S = _
    rw [hT]
    clear hT hnz
    generalize Txt.join (Str.ofString " ") (l.map nT) = J at *
    generalize (l.map nT).map W.str = LS at *
    generalize l.map W.int = LI at *
    simp [f__law_numbers, startW, ct, l0, hi, txtR, hj, hl1, hl2]
theorem e_ltext {b : Bk} (hb : b.Ok) {s : Sta} (hs : StOk b s) (S : Sto) : pureR (f__law_state_text [stW s] []) S = .ok (.str (staT s)) S := by
  obtain ⟨l1, l2, m1, m2⟩ := st_sm hb hs
  have e1 := fun S => e_lnums (l := s.1) (by omega) m1 S
  have e2 := fun S => e_lnums (l := s.2) (by omega) m2 S
  have ht := (staT_tg hb hs).1
  unfold staT at ht ⊢
  rw [app_len, app_len] at ht
  have a1 : binop .Add (.str (numT s.1)) (.str (Str.ofString " | ")) = some (.str (numT s.1 ++ Str.ofString " | ")) := add_str (by omega)
  have a2 : binop .Add (.str (numT s.1 ++ Str.ofString " | ")) (.str (numT s.2)) = some (.str ((numT s.1 ++ Str.ofString " | ") ++ numT s.2)) := add_str (by rw [app_len]; omega)
  have g0 : L2.atI [tpI s.1, tpI s.2] 0 = some (tpI s.1) := by simp [L2.atI, L2.ixN]
  have g1 : L2.atI [tpI s.1, tpI s.2] 1 = some (tpI s.2) := by simp [L2.atI, L2.ixN]
  have n1 : (tpI s.1).nl = true := nl_ints _
  have n2 : (tpI s.2).nl = true := nl_ints _
  have d1 : ∀ S, derefF S (tpI s.1) = tpI s.1 := fun _ => rfl
  have d2 : ∀ S, derefF S (tpI s.2) = tpI s.2 := fun _ => rfl
  show pureR (f__law_state_text [.tup [tpI s.1, tpI s.2]] []) S = _
  generalize tpI s.1 = T1 at *
  generalize tpI s.2 = T2 at *
  generalize numT s.1 = N1 at *
  generalize numT s.2 = N2 at *
  simp [f__law_state_text, startW, e1, e2, a1, a2, g0, g1, n1, n2, d1, d2]
theorem e_show {b : Bk} (hb : b.Ok) {s : Sta} (hs : StOk b s) (S : Sto) : pureR (f_show_state [stW s] []) S = .ok (.str (staT s)) S := by
  obtain ⟨l1, l2, m1, m2⟩ := st_sm hb hs
  obtain ⟨t1, t2⟩ := e_staT (s := s) (by omega) (by omega) (up64 m1) (up64 m2)
  have n1 := nl_st s
  have d1 := fun S => dd_st S s
  generalize stW s = X at *
  simp [f_show_state, startW, t2, n1, d1]
/-! ### texts bent -/
def BT (N : Nat) (w : W) : Prop := ∃ y, w = .str y ∧ Tg N y
theorem d_bent {N : Nat} (hN : N ≤ 10000) {n c : Nat} {S : Sto} {x : Str} (hx : Tg N x) (hB : Bg n c S) (hc : c ≤ 300000000) : Got n (c + 5) (BT (6 * N + 40)) S (f__law_bent [.loc n, .str x] S) := by
  obtain ⟨d, S1, d0, d1, e1, l1, k1, b1⟩ := d_take hB (m := 5) (by omega) (by decide) (by omega)
  obtain ⟨j, S2, j0, j1, e2, l2, k2, b2⟩ := d_take b1 (m := (x.length : Int) + 1) (by omega) (by show _ < (divLim : Int); have := hx.1; unfold divLim; omega) (by omega)
  have hlL := len_str hx (by omega)
  have hxl := hx.1
  have hll : x.length ≤ limit := by unfold limit; omega
  rw [bent_eq]
  obtain ⟨SG, hSG⟩ : ∃ SG : Str, (" |-0123456789,x\n/" : Str) = SG := ⟨_, rfl⟩
  have sgl : SG.length = 17 := by rw [← hSG]; decide +kernel
  have sgo : PyData.strOk SG = true := by rw [← hSG]; decide +kernel
  have q0 : bn0 [some (.loc n), some (.str x), none, none, none, none, none, none] S = .nx [some (.loc n), some (.str x), some (.str SG), none, none, none, none, none] S := by
    rw [← hSG]; simp [bn0]
  have q1 : bn1 [some (.loc n), some (.str x), some (.str SG), none, none, none, none, none] S = .nx [some (.loc n), some (.str x), some (.str SG), some (.int d), some (.int j), none, none, none] S2 := by
    simp [bn1, e1, e2, hlL, hll, setAll]
  have start : startW 8 [W.loc n, .str x] = [some (.loc n), some (.str x), none, none, none, none, none, none] := rfl
  have kk : Keep n S.length S S2 := k1.trans (k2.mono (by omega))
  by_cases hd3 : d < 3
  · obtain ⟨i, S3, i0, i1, e3, l3, k3, b3⟩ := d_take b2 (m := 17) (by omega) (by decide) (by omega)
    obtain ⟨u, rfl⟩ : ∃ u : Nat, i = (u : Int) := ⟨i.toNat, by omega⟩
    have hu : u < (tl SG).length := by rw [show (tl SG).length = SG.length from (TL.len_tl SG).symm, sgl]; omega
    obtain ⟨cc, hcc⟩ : ∃ cc, (tl SG)[u] = cc := ⟨_, rfl⟩
    have hcm : cc ∈ tl SG := by rw [← hcc]; exact List.getElem_mem hu
    have hix : ∀ S, ixSR (.str SG) (.int (u : Int)) S = .ok (.str ⟨#[cc]⟩) S := fun S => by
      show (if SG.length ≤ 16777216 then optR S ((L2.atI SG.cps.toList (u : Int)).map fun c => .str ⟨#[c]⟩) else .bad) = _
      have : L2.atI SG.cps.toList (u : Int) = some cc := by
        have hu' : u < SG.cps.toList.length := hu
        unfold L2.atI L2.ixN
        rw [if_pos (by omega), if_pos (by omega)]
        show SG.cps.toList[u]? = some cc
        rw [← hcc]; exact List.getElem?_eq_getElem hu
      rw [if_pos (by omega), this]; rfl
    have tS := tg_sign sgo hcm
    have hsl := len_str (N := 17) (x := SG) ⟨by omega, sgo⟩ (by omega)
    rw [sgl] at hsl
    obtain ⟨SN, hSN⟩ : ∃ SN : Str, (⟨#[cc]⟩ : Str) = SN := ⟨_, rfl⟩
    rw [hSN] at hix tS
    have fin : ∀ (a m z : Str), Tg N a → Tg 1 m → Tg N z → binop .Add (.str a) (.str m) = some (.str (a ++ m)) ∧ binop .Add (.str (a ++ m)) (.str z) = some (.str (a ++ m ++ z)) ∧ Tg (6 * N + 40) (a ++ m ++ z) := fun a m z h1 h2 h3 => by
      have l1 := h1.1
      have l2 := h2.1
      have l3 := h3.1
      refine ⟨add_str (by omega), add_str (by rw [app_len]; omega), ((tg_app (tg_app h1 h2) h3).mono (by omega))⟩
    have go : ∀ (k1' : Bool) (k2' : Int) (m : Str), DL.prim .int [.bl (decide (d < 2))] = some (.int (if k1' then 1 else 0)) → DL.prim .int [.bl (decide (0 < d))] = some (.int k2') → m = (if k1' then SN else Str.empty) → Got n (c + 5) (BT (6 * N + 40)) S (fnW 2 8 (sSeq bn0 (sSeq bn1 (sSeq bn2 (sSeq bn3 (sSeq bn4 (sSeq bn5 (sSeq bn6 (sSeq bn7 sNext)))))))) [.loc n, .str x] S) := fun k1' k2' m h1 h2 hm => by
      obtain ⟨A, hA⟩ : ∃ A, L2.cutS x none (some j) = A := ⟨_, rfl⟩
      obtain ⟨Z, hZ⟩ : ∃ Z, L2.cutS x (some (j + k2')) none = Z := ⟨_, rfl⟩
      have tA : Tg N A := by rw [← hA]; exact tg_cut hx _ _
      have tZ : Tg N Z := by rw [← hZ]; exact tg_cut hx _ _
      have tm : Tg 1 m := by
        rw [hm]
        split
        · exact tS
        · exact tg_emp.mono (by omega)
      obtain ⟨f1, f2, f3⟩ := fin A m Z tA tm tZ
      have q2 : bn2 [some (.loc n), some (.str x), some (.str SG), some (.int d), some (.int j), none, none, none] S2 = .ret (.str (A ++ m ++ Z)) S3 := by
        clear q0 q1 hSG
        cases k1' with
        | true =>
          have hm : m = SN := hm
          subst hm
          have h1 : DL.prim .int [.bl (decide (d < 2))] = some (.int 1) := h1
          simp [bn2, hd3, hll, hA, hZ, hsl, e3, hix, h1, h2, f1, f2, partW]
        | false =>
          have hm : m = Str.empty := hm
          subst hm
          have h1 : DL.prim .int [.bl (decide (d < 2))] = some (.int 0) := h1
          simp [bn2, hd3, hll, hA, hZ, hsl, e3, hix, h1, h2, f1, f2, partW]
      refine ⟨.str (A ++ m ++ Z), S3, ?_, ⟨_, rfl, f3⟩, kk.trans (k3.mono (by omega)), b3.mono (by omega)⟩
      show (Fl.toR (sSeq bn0 _ (startW 8 _) S)) = _
      rw [start, seq_step q0, seq_step q1]
      show (Fl.toR ((bn2 _ S2).seq _)) = _
      rw [q2]; rfl
    rcases (by omega : d = 0 ∨ d = 1 ∨ d = 2) with rfl | rfl | rfl
    · exact go true 0 SN rfl rfl rfl
    · exact go true 1 SN rfl rfl rfl
    · exact go false 1 Str.empty rfl rfl rfl
  · have q2 : bn2 [some (.loc n), some (.str x), some (.str SG), some (.int d), some (.int j), none, none, none] S2 = .nx [some (.loc n), some (.str x), some (.str SG), some (.int d), some (.int j), none, none, none] S2 := by
      clear q0 q1 hSG
      simp [bn2, hd3]
    obtain ⟨i, S3, i0, i1, e3, l3, k3, b3⟩ := d_take b2 (m := 2) (by omega) (by decide) (by omega)
    obtain ⟨y, hyi, hyo, hy1, hy3⟩ : ∃ y : Str, L2.atI [W.str " ", .str " | "] i = some (.str y) ∧ PyData.strOk y = true ∧ 1 ≤ y.length ∧ y.length ≤ 3 := by
      rcases (by omega : i = 0 ∨ i = 1) with rfl | rfl
      · exact ⟨_, rfl, by decide +kernel, by decide +kernel, by decide +kernel⟩
      · exact ⟨_, rfl, by decide +kernel, by decide +kernel, by decide +kernel⟩
    have L2' : 2 ≤ limit := by unfold limit; omega
    have L1 : 1 ≤ limit := by unfold limit; omega
    have L6 : 6 ≤ limit := by unfold limit; omega
    have q3 : bn3 [some (.loc n), some (.str x), some (.str SG), some (.int d), some (.int j), none, none, none] S2 = .nx [some (.loc n), some (.str x), some (.str SG), some (.int d), some (.int j), some (.str y), none, none] S3 := by
      clear q0 q1 hSG
      simp [bn3, e3, hyi, L2']
    have hsp := fun S => splR (x := x) (y := y) (by omega) hy1 S
    have hw := split_wt (x := x) hy1
    have hne : Txt.split x y ≠ [] := fun e => by
      have hb := split_back x y
      rw [e] at hb
      have : x = Str.ofString "" := hb.symm.trans (by rw [TL.join_eq]; show Str.empty = _; decide +kernel)
      subst this
      have : y = Str.ofString " " ∨ y = Str.ofString " | " := by
        rcases (by omega : i = 0 ∨ i = 1) with rfl | rfl
        · left
          have h2 : L2.atI [W.str " ", .str " | "] 0 = some (.str (Str.ofString " ")) := rfl
          rw [h2] at hyi
          injection hyi with h
          injection h with h
          exact h.symm
        · right
          have h2 : L2.atI [W.str " ", .str " | "] 1 = some (.str (Str.ofString " | ")) := rfl
          rw [h2] at hyi
          injection hyi with h
          injection h with h
          exact h.symm
      rcases this with rfl | rfl <;> exact absurd e (by decide +kernel)
    have tout := tg_out hx hyo hy1 hy3
    have tin := fun (z : Str) hz hzl u v huv => tg_in (z := z) hx hz hzl hyo hy1 hy3 u v huv
    obtain ⟨ps, hps⟩ : ∃ ps, Txt.split x y = ps := ⟨_, rfl⟩
    rw [hps] at hsp hw hne tout tin
    have hpl : 0 < ps.length := List.length_pos_iff.mpr hne
    have hml : (ps.map W.str).length = ps.length := List.length_map ..
    have hlm : ps.length ≤ limit := by unfold limit; omega
    have q4 : bn4 [some (.loc n), some (.str x), some (.str SG), some (.int d), some (.int j), some (.str y), none, none] S3 = .nx [some (.loc n), some (.str x), some (.str SG), some (.int d), some (.int j), some (.str y), some (.lst (ps.map W.str)), none] S3 := by
      clear q0 q1 hSG
      simp [bn4, txtR, hsp]
    obtain ⟨a, S4, a0, a1, e4, l4, k4, b4⟩ := d_take b3 (m := (ps.length : Int)) (by omega) (by show _ < (divLim : Int); unfold divLim; omega) (by omega)
    obtain ⟨u, rfl⟩ : ∃ u : Nat, a = (u : Int) := ⟨a.toNat, by omega⟩
    have hu : u < ps.length := by omega
    have q5 : bn5 [some (.loc n), some (.str x), some (.str SG), some (.int d), some (.int j), some (.str y), some (.lst (ps.map W.str)), none] S3 = .nx [some (.loc n), some (.str x), some (.str SG), some (.int d), some (.int j), some (.str y), some (.lst (ps.map W.str)), some (.int (u : Int))] S4 := by
      clear q0 q1 hSG
      generalize ps.map W.str = PW at *
      simp [bn5, hml, hlm, e4]
    have kk4 : Keep n S.length S S4 := kk.trans ((k3.trans (k4.mono (by omega))).mono (by omega))
    have adL : ∀ a b : List W, a.length ≤ 200000 → b.length ≤ 200000 → binop .Add (.lst a) (.lst b) = some (.lst (a ++ b)) := fun a b h1 h2 => by
      rw [bo_addL, if_pos (by unfold limit; omega)]
    have ct : cutW (ps.map W.str) none (some (u : Int)) = (ps.take u).map W.str := by rw [cutT, List.map_take]
    have cd1 : cutW (ps.map W.str) (some ((u : Int) + 1)) none = (ps.drop (u + 1)).map W.str := by rw [cutD1, List.map_drop]
    have cd : cutW (ps.map W.str) (some (u : Int)) none = (ps.drop u).map W.str := by rw [cutD, List.map_drop]
    by_cases h3 : d = 3
    · subst h3
      obtain ⟨t1, t2⟩ := tout u
      have hj := fun S => joinV_ok (y := y) (l := ps.take u ++ ps.drop (u + 1)) (by omega) S
      have ad : binop .Add (.lst ((ps.take u).map W.str)) (.lst ((ps.drop (u + 1)).map W.str)) = some (.lst ((ps.take u ++ ps.drop (u + 1)).map W.str)) := by
        rw [adL _ _ (by simp; omega) (by simp; omega), List.map_append]
      have q6 : bn6 [some (.loc n), some (.str x), some (.str SG), some (.int 3), some (.int j), some (.str y), some (.lst (ps.map W.str)), some (.int (u : Int))] S4 = .ret (.str (Txt.join y (ps.take u ++ ps.drop (u + 1)))) S4 := by
        clear q0 q1 q5 hSG
        generalize Txt.join y (ps.take u ++ ps.drop (u + 1)) = J at *
        generalize (ps.take u ++ ps.drop (u + 1)).map W.str = P3 at *
        generalize (ps.take u).map W.str = P1 at *
        generalize (ps.drop (u + 1)).map W.str = P2 at *
        generalize ps.map W.str = PW at *
        simp [bn6, txtR, ct, cd1, ad, hj, hml, hlm, partW]
      refine ⟨_, S4, ?_, ⟨_, rfl, t1.mono (by omega)⟩, kk4, b4.mono (by omega)⟩
      show (Fl.toR (sSeq bn0 _ (startW 8 _) S)) = _
      rw [start, seq_step q0, seq_step q1, seq_step q2, seq_step q3, seq_step q4, seq_step q5]
      show (Fl.toR ((bn6 _ S4).seq _)) = _
      rw [q6]; rfl
    · obtain ⟨g, S5, g0, g1, e5, l5, k5, b5⟩ := d_take b4 (m := 6) (by omega) (by decide) (by omega)
      obtain ⟨z, hzi, hzo, hzl⟩ : ∃ z : Str, L2.atI [W.str "-", .str "0", .str "4", .str "00", .str "2", .str "3"] g = some (.str z) ∧ PyData.strOk z = true ∧ z.length ≤ 10 := by
        rcases (by omega : g = 0 ∨ g = 1 ∨ g = 2 ∨ g = 3 ∨ g = 4 ∨ g = 5) with rfl | rfl | rfl | rfl | rfl | rfl <;> exact ⟨_, rfl, by decide +kernel, by decide +kernel⟩
      obtain ⟨t1, t2⟩ := tin z hzo (by omega) u u (Nat.le_refl _)
      have hj := fun S => joinV_ok (y := y) (l := ps.take u ++ [z] ++ ps.drop u) (by omega) S
      have ad1 : binop .Add (.lst ((ps.take u).map W.str)) (.lst [.str z]) = some (.lst ((ps.take u ++ [z]).map W.str)) := by
        rw [adL _ _ (by simp; omega) (by simp), List.map_append]; rfl
      have ad2 : binop .Add (.lst ((ps.take u ++ [z]).map W.str)) (.lst ((ps.drop u).map W.str)) = some (.lst ((ps.take u ++ [z] ++ ps.drop u).map W.str)) := by
        rw [adL _ _ (by simp; omega) (by simp; omega), ← List.map_append]
      have h3' : ¬ (d = 3) := h3
      have q6 : bn6 [some (.loc n), some (.str x), some (.str SG), some (.int d), some (.int j), some (.str y), some (.lst (ps.map W.str)), some (.int (u : Int))] S4 = .nx [some (.loc n), some (.str x), some (.str SG), some (.int d), some (.int j), some (.str y), some (.lst (ps.map W.str)), some (.int (u : Int))] S4 := by
        clear q0 q1 q5 hSG
        generalize ps.map W.str = PW at *
        simp [bn6, h3']
      have q7 : bn7 [some (.loc n), some (.str x), some (.str SG), some (.int d), some (.int j), some (.str y), some (.lst (ps.map W.str)), some (.int (u : Int))] S4 = .ret (.str (Txt.join y (ps.take u ++ [z] ++ ps.drop u))) S5 := by
        clear q0 q1 q5 q6 hSG
        generalize Txt.join y (ps.take u ++ [z] ++ ps.drop u) = J at *
        generalize (ps.take u ++ [z] ++ ps.drop u).map W.str = P3 at *
        generalize (ps.take u ++ [z]).map W.str = P4 at *
        generalize (ps.take u).map W.str = P1 at *
        generalize (ps.drop u).map W.str = P2 at *
        generalize ps.map W.str = PW at *
        simp [bn7, txtR, ct, cd, ad1, ad2, hj, hml, hlm, hzi, e5, L1, L6, partW]
      refine ⟨_, S5, ?_, ⟨_, rfl, t1.mono (by omega)⟩, kk4.trans (k5.mono (by omega)), b5.mono (by omega)⟩
      show (Fl.toR (sSeq bn0 _ (startW 8 _) S)) = _
      rw [start, seq_step q0, seq_step q1, seq_step q2, seq_step q3, seq_step q4, seq_step q5, seq_step q6]
      show (Fl.toR ((bn7 _ S4).seq _)) = _
      rw [q7]; rfl
end K77
set_option Elab.async false
set_option linter.all false
set_option maxRecDepth 100000
set_option maxHeartbeats 4000000
/-! P77: the law. -/
namespace K77
open PySem hiding upTo
open DL SP SP.Tx
noncomputable def LV (b : Bk) (e0 e1 : Option W) (n : Nat) (x7 x8 x9 x10 x11 : Option W) : DL.Env := [e0, e1, some (.loc n), some (tpI b.wh), some (.tup (b.ru.map Rul.W)), some b.W, some (.int b.ru.length), x7, x8, x9, x10, x11]
section
variable {b : Bk} (hb : b.Ok) (e0 e1 : Option W) {n : Nat}
include hb
theorem bend {N : Nat} (hN : N ≤ 10000) {x : Str} (hx : Tg N x) {S : Sto} {c : Nat} (hB : Bg n c S) (hc : c ≤ 300000000) (x7 x8 x9 x11 : Option W) : ∃ y S', Tg (6 * N + 40) y ∧ b_law_3 (LV b e0 e1 n x7 x8 x9 (some (.str x)) x11) S = .nx (LV b e0 e1 n x7 x8 x9 (some (.str y)) x11) S' ∧ Bg n (c + 5) S' := by
  obtain ⟨w, S1, e, ⟨y, rfl, hy⟩, k, b1⟩ := d_bent hN hx hB hc
  refine ⟨y, S1, hy, ?_, b1⟩
  unfold LV
  generalize b.W = BB at *
  simp [b_law_3, b_law_3t0, b_law_3_0, e]
theorem turn {S : Sto} {c : Nat} (hB : Bg n c S) (hc : c ≤ 200000000) (x7 x8 x9 x10 x11 : Option W) : ∃ s y y11 S', StOk b s ∧ Tg 10000 y ∧ b_law_2 (LV b e0 e1 n x7 x8 x9 x10 x11) S = .nx (LV b e0 e1 n x7 x8 (some (stW s)) (some (.str y)) y11) S' ∧ Bg n (c + 30) S' := by
  obtain ⟨s, S1, hs, es, k1, b1⟩ := d_state hb hB (by omega)
  have et := fun S => e_ltext hb hs S
  have eh := fun S => e_show hb hs S
  have tg := staT_tg hb hs
  have nB := nl_bk b
  have dB := fun S => dd_bk S b
  have nS := nl_st s
  have dS := fun S => dd_st S s
  have deS := fun S => de_st S s
  have told := told_ok (b := b) (w := .str (staT s)) rfl (fun _ => rfl) (nl_st s) (fun S => e_read_state hb hs S)
  have ceS : cmpEq (stW s) (stW s) = some true := by rw [ce_st, decide_eq_true rfl]
  have ceT := ce_same tg.2
  have q0 : b_law_2_0 (LV b e0 e1 n x7 x8 x9 x10 x11) S = .nx (LV b e0 e1 n x7 x8 (some (stW s)) x10 x11) S1 := by
    unfold LV
    generalize b.W = BB at *
    generalize stW s = X at *
    simp [b_law_2_0, es]
  have q1 : b_law_2_1 (LV b e0 e1 n x7 x8 (some (stW s)) x10 x11) S1 = .nx (LV b e0 e1 n x7 x8 (some (stW s)) (some (.str (staT s))) x11) S1 := by
    unfold LV
    generalize staT s = T at *
    generalize b.W = BB at *
    generalize stW s = X at *
    simp [b_law_2_1, et, nS, dS]
  have q2 : b_law_2_2 (LV b e0 e1 n x7 x8 (some (stW s)) (some (.str (staT s))) x11) S1 = .nx (LV b e0 e1 n x7 x8 (some (stW s)) (some (.str (staT s))) x11) S1 := by
    unfold LV
    generalize staT s = T at *
    generalize b.W = BB at *
    generalize stW s = X at *
    simp [b_law_2_2, eh, told, ceS, ceT, nS, dS, deS, nB, dB]
  obtain ⟨d, S2, d0, d1, ed, _, k2, b2⟩ := d_take b1 (m := 2) (by omega) (by decide) (by omega)
  have hit : jRange1 (mBin .Add (mCon (.int 1)) (mCall f__law_take (mCons (mVar 2) (mCons (mCon (.int 2)) (mNil))))) (LV b e0 e1 n x7 x8 (some (stW s)) (some (.str (staT s))) x11) S1 = .ok (rangeW 0 (1 + d).toNat) S2 := by
    unfold LV
    generalize b.W = BB at *
    generalize stW s = X at *
    have h62 : 1 + d < 2 ^ 62 := by omega
    simp [ed]
    omega
  have loop : ∃ y y11 S3, Tg 10000 y ∧ forM (.nm 11) b_law_3 (rangeW 0 (1 + d).toNat) (LV b e0 e1 n x7 x8 (some (stW s)) (some (.str (staT s))) x11) S2 = .nx (LV b e0 e1 n x7 x8 (some (stW s)) (some (.str y)) y11) S3 ∧ Bg n (c + 30) S3 := by
    obtain ⟨y1, S3, t1, e3, b3⟩ := bend hb e0 e1 (by omega) tg b2 (by omega) x7 x8 (some (stW s)) (some (.int 0))
    rcases (by omega : d = 0 ∨ d = 1) with rfl | rfl
    · refine ⟨y1, some (.int 0), S3, t1.mono (by omega), ?_, b3.mono (by omega)⟩
      have hrg : rangeW 0 ((1 : Int) + 0).toNat = [.int 0] := by kernel_rfl
      rw [hrg, for_step (ρ1 := LV b e0 e1 n x7 x8 (some (stW s)) (some (.str (staT s))) (some (.int 0))) rfl e3]
      rfl
    · obtain ⟨y2, S4, t2, e4, b4⟩ := bend hb e0 e1 (by omega) t1 b3 (by omega) x7 x8 (some (stW s)) (some (.int 1))
      refine ⟨y2, some (.int 1), S4, t2.mono (by omega), ?_, b4.mono (by omega)⟩
      have hrg : rangeW 0 ((1 : Int) + 1).toNat = [.int 0, .int 1] := by kernel_rfl
      rw [hrg, for_step (ρ1 := LV b e0 e1 n x7 x8 (some (stW s)) (some (.str (staT s))) (some (.int 0))) rfl e3, for_step (ρ1 := LV b e0 e1 n x7 x8 (some (stW s)) (some (.str y1)) (some (.int 1))) rfl e4]
      rfl
  obtain ⟨y, y11, S3, ty, e3, b3⟩ := loop
  have q3 : b_law_2_3 (LV b e0 e1 n x7 x8 (some (stW s)) (some (.str (staT s))) x11) S1 = .nx (LV b e0 e1 n x7 x8 (some (stW s)) (some (.str y)) y11) S3 := by
    unfold b_law_2_3
    rw [o_for, hit, l_toS]
    exact e3
  obtain ⟨v, v1, v2, v3, v4⟩ := agree hb (n := 1) (w := .str y) ty.2 (fun x e => by injection e with e; rw [← e]; exact ty)
  have q4 : b_law_2_4 (LV b e0 e1 n x7 x8 (some (stW s)) (some (.str y)) y11) S3 = .nx (LV b e0 e1 n x7 x8 (some (stW s)) (some (.str y)) y11) S3 := by
    have nW : (tpI b.wh).nl = true := nl_ints _
    have dW : ∀ S, derefF S (tpI b.wh) = tpI b.wh := fun _ => rfl
    unfold LV
    clear q0 q1 q2 q3 hit e3
    generalize tpI b.wh = WH at *
    generalize b.W = BB at *
    generalize stW s = X at *
    simp [b_law_2_4, v1, v2, v3, v4, nB, dB, nW, dW]
  refine ⟨s, y, y11, S3, hs, ty, ?_, b3⟩
  unfold b_law_2 b_law_2t0 b_law_2t1 b_law_2t2 b_law_2t3 b_law_2t4
  rw [seq_step q0, seq_step q1, seq_step q2, seq_step q3, seq_step q4]
  rfl
theorem turns (x8 : Option W) : ∀ (t lo : Nat) (S : Sto) (c : Nat) (x7 x9 x10 x11 : Option W), Bg n c S → c + 30 * t ≤ 200000000 →
    ∃ y7 y9 y10 y11 S', forM (.nm 7) b_law_2 (rangeW lo t) (LV b e0 e1 n x7 x8 x9 x10 x11) S = .nx (LV b e0 e1 n y7 x8 y9 y10 y11) S' ∧ Bg n (c + 30 * t) S' ∧ ((1 ≤ t ∨ ∃ s y, StOk b s ∧ Tg 10000 y ∧ x9 = some (stW s) ∧ x10 = some (.str y)) → ∃ s y, StOk b s ∧ Tg 10000 y ∧ y9 = some (stW s) ∧ y10 = some (.str y))
  | 0, lo, S, c, x7, x9, x10, x11, hB, _ => ⟨x7, x9, x10, x11, S, rfl, hB, fun h => h.elim (fun h => by omega) id⟩
  | t + 1, lo, S, c, x7, x9, x10, x11, hB, hc => by
    obtain ⟨s, y, y11, S1, h1, h2, e, b1⟩ := turn hb e0 e1 hB (by omega) (some (.int (lo : Int))) x8 x9 x10 x11
    obtain ⟨z7, z9, z10, z11, S2, e2, b2, h3⟩ := turns x8 t (lo + 1) S1 (c + 30) (some (.int (lo : Int))) (some (stW s)) (some (.str y)) y11 b1 (by omega)
    refine ⟨z7, z9, z10, z11, S2, ?_, b2.mono (by omega), fun _ => h3 (.inr ⟨s, y, h1, h2, rfl, rfl⟩)⟩
    rw [rangeW, for_step (ρ1 := LV b e0 e1 n (some (.int (lo : Int))) x8 x9 x10 x11) rfl e]
    exact e2
theorem look_turn {m : Nat} {w : W} (h : W.plain m w = true) (ht : ∀ x, w = .str x → Tg 10000 x) (S : Sto) (x7 x9 x10 x11 : Option W) : b_law_4 (LV b e0 e1 n x7 (some w) x9 x10 x11) S = .nx (LV b e0 e1 n x7 (some w) x9 x10 x11) S := by
  obtain ⟨v, v1, v2, v3, v4⟩ := agree hb h ht
  have nB := nl_bk b
  have dB := fun S => dd_bk S b
  have nW : (tpI b.wh).nl = true := nl_ints _
  have dW : ∀ S, derefF S (tpI b.wh) = tpI b.wh := fun _ => rfl
  have nw := (plain_nl _ _ h).1
  have dw := fun S => plain_derefF h S
  unfold LV
  generalize tpI b.wh = WH at *
  generalize b.W = BB at *
  simp [b_law_4, b_law_4t0, b_law_4_0, v1, v2, v3, v4, nB, dB, nW, dW, nw, dw]
theorem look_loop (x7 x9 x10 x11 : Option W) (S : Sto) : ∀ (ws : List W) (x8 : Option W), (∀ w ∈ ws, W.plain 10 w = true ∧ ∀ x, w = .str x → Tg 10000 x) → ∃ y8, forM (.nm 8) b_law_4 ws (LV b e0 e1 n x7 x8 x9 x10 x11) S = .nx (LV b e0 e1 n x7 y8 x9 x10 x11) S
  | [], x8, _ => ⟨x8, rfl⟩
  | w :: ws, x8, h => by
    obtain ⟨h1, h2⟩ := h w (List.mem_cons_self ..)
    have e := look_turn hb e0 e1 (n := n) h1 h2 S x7 x9 x10 x11
    obtain ⟨y8, e2⟩ := look_loop x7 x9 x10 x11 S ws (some w) fun u hu => h u (List.mem_cons_of_mem _ hu)
    exact ⟨y8, by rw [for_step (ρ1 := LV b e0 e1 n x7 (some w) x9 x10 x11) rfl e]; exact e2⟩
end
theorem body_ok (ns : List Int) (k : Nat) (hk : k < 6) (a2 a3 a4 a5 a6 a7 a8 a9 a10 a11 : Option W) (S : Sto) :
    ∃ (r' : DL.Env) (S' : Sto), r'.length = 11 ∧ b_law_1 [some (scr ns), some (.int k), a2, a3, a4, a5, a6, a7, a8, a9, a10, a11] S = .nx (some (scr ns) :: r') S' := by
  obtain ⟨S1, e1, l1, k1, g1⟩ := d_bag (S := S) ns (show k < 100 by omega)
  obtain ⟨b, S2, hb, e2, k2, g2⟩ := d_drawn g1 (by omega)
  obtain ⟨n, hN⟩ : ∃ n, S.length = n := ⟨_, rfl⟩
  rw [hN] at e1 e2 g1 g2
  have eb := e_Book hb
  have hlen : DL.prim .len [W.tup (b.ru.map Rul.W)] = some (.int (b.ru.length : Int)) := by
    show some (W.int ((b.ru.map Rul.W).length : Int)) = _
    rw [List.length_map]
  have f0 : b_law_1_0 [some (scr ns), some (.int k), a2, a3, a4, a5, a6, a7, a8, a9, a10, a11] S = .nx [some (scr ns), some (.int k), some (.loc n), a3, a4, a5, a6, a7, a8, a9, a10, a11] S1 := by simp [b_law_1_0, e1]
  have f1 : b_law_1_1 [some (scr ns), some (.int k), some (.loc n), a3, a4, a5, a6, a7, a8, a9, a10, a11] S1 = .nx [some (scr ns), some (.int k), some (.loc n), some (tpI b.wh), some (.tup (b.ru.map Rul.W)), a5, a6, a7, a8, a9, a10, a11] S2 := by simp [b_law_1_1, e2]
  have f2 : b_law_1_2 [some (scr ns), some (.int k), some (.loc n), some (tpI b.wh), some (.tup (b.ru.map Rul.W)), a5, a6, a7, a8, a9, a10, a11] S2 = .nx (LV b (some (scr ns)) (some (.int k)) n a7 a8 a9 a10 a11) S2 := by
    unfold LV
    have hml : (b.ru.map Rul.W).length = b.ru.length := List.length_map ..
    have hnR : nlL (b.ru.map Rul.W) = true := nl_map nl_rul _
    generalize b.ru.map Rul.W = RW at *
    generalize b.W = BB at *
    simp [b_law_1_2, eb, hml, hnR, setAll]
  obtain ⟨y7, y9, y10, y11, S3, e3, b3, h3⟩ := turns hb (some (scr ns)) (some (.int k)) (n := n) a8 8 0 S2 _ a7 a9 a10 a11 g2 (by omega)
  obtain ⟨s, y, hs, ty, rfl, rfl⟩ := h3 (.inl (by omega))
  have f3 : b_law_1_3 (LV b (some (scr ns)) (some (.int k)) n a7 a8 a9 a10 a11) S2 = .nx (LV b (some (scr ns)) (some (.int k)) n y7 a8 (some (stW s)) (some (.str y)) y11) S3 := by
    have hit : ∀ ρ S, jRange1 (mCon (.int 8)) ρ S = .ok (rangeW 0 8) S := fun ρ S => by
      simp only [o_range1, o_con, r_bindL]
      rw [if_pos (small_range (by omega) (by omega))]; rfl
    unfold b_law_1_3
    rw [o_for, hit, l_toS]
    exact e3
  obtain ⟨x, S4, e4, xm, _, _, l4, k4, b4⟩ := d_anyM b3 (by omega)
  have hxt : ∀ z, x = .str z → Tg 10000 z := fun z e => by
    have h : anyL.all (fun x => match x with | .str z => decide (z.length ≤ 100) && PyData.strOk z | _ => true) = true := by kernel_rfl
    have := List.all_eq_true.mp h x xm
    subst e
    simp only [Bool.and_eq_true, decide_eq_true_eq] at this
    exact ⟨by omega, this.2⟩
  obtain ⟨y8, e5⟩ := look_loop hb (some (scr ns)) (some (.int k)) (n := n) y7 (some (stW s)) (some (.str y)) y11 S4 [x, .non, .int 0, .bl true, .lst [.str y], .tup [.str y], .str "", .str " | ", .str "- | -", stW s] a8 (fun w hw => by
    simp only [List.mem_cons, List.not_mem_nil, or_false] at hw
    rcases hw with rfl | rfl | rfl | rfl | rfl | rfl | rfl | rfl | rfl | rfl
    · exact ⟨anyL_plain _ xm, hxt⟩
    · exact ⟨rfl, fun _ h => by cases h⟩
    · exact ⟨rfl, fun _ h => by cases h⟩
    · exact ⟨rfl, fun _ h => by cases h⟩
    · refine ⟨?_, fun _ h => by cases h⟩
      show (PyData.strOk y && true) = true
      rw [ty.2]; rfl
    · refine ⟨?_, fun _ h => by cases h⟩
      show (PyData.strOk y && true) = true
      rw [ty.2]; rfl
    · exact ⟨by kernel_rfl, fun x h => by injection h with h; rw [← h]; exact ⟨by decide +kernel, by decide +kernel⟩⟩
    · exact ⟨by kernel_rfl, fun x h => by injection h with h; rw [← h]; exact ⟨by decide +kernel, by decide +kernel⟩⟩
    · exact ⟨by kernel_rfl, fun x h => by injection h with h; rw [← h]; exact ⟨by decide +kernel, by decide +kernel⟩⟩
    · exact ⟨plain_up _ _ _ (by omega) (show W.plain 3 (stW s) = true by show (W.plain 2 (tpI s.1) && (W.plain 2 (tpI s.2) && true)) = true; rw [show W.plain 2 (tpI s.1) = true from plainL_ints 1 s.1, show W.plain 2 (tpI s.2) = true from plainL_ints 1 s.2]; rfl), fun _ h => by cases h⟩)
  have f4 : b_law_1_4 (LV b (some (scr ns)) (some (.int k)) n y7 a8 (some (stW s)) (some (.str y)) y11) S3 = .nx (LV b (some (scr ns)) (some (.int k)) n y7 y8 (some (stW s)) (some (.str y)) y11) S4 := by
    have l1 : 1 ≤ limit := by unfold limit; omega
    have l10 : 10 ≤ limit := by unfold limit; omega
    have xd : ∀ S, deref S x = x := fun S => plain_deref (anyL_plain _ xm) S
    have nX := nl_st s
    have dX := fun S => de_st S s
    have hit : jE (mTup (mCons (mCall f__law_any (mCons (mVar 2) (mNil))) (mCons (mCon .non) (mCons (mCon (.int 0)) (mCons (mCon (.bl true)) (mCons (mLst (mCons (mVar 10) (mNil))) (mCons (mTup (mCons (mVar 10) (mNil))) (mCons (mCon (.str "")) (mCons (mCon (.str " | ")) (mCons (mCon (.str "- | -")) (mCons (mVar 9) (mNil)))))))))))) (LV b (some (scr ns)) (some (.int k)) n y7 a8 (some (stW s)) (some (.str y)) y11) S3 = .ok [x, .non, .int 0, .bl true, .lst [.str y], .tup [.str y], .str "", .str " | ", .str "- | -", stW s] S4 := by
      unfold LV
      clear f0 f1 f2 f3 e5
      generalize b.W = BB at *
      generalize stW s = X at *
      simp [e4, l1, l10, items]
    unfold b_law_1_4
    rw [o_for, hit, l_toS]
    exact e5
  refine ⟨[some (.int k), some (.loc n), some (tpI b.wh), some (.tup (b.ru.map Rul.W)), some b.W, some (.int b.ru.length), y7, y8, some (stW s), some (.str y), y11], S4, rfl, ?_⟩
  unfold b_law_1 b_law_1t0 b_law_1t1 b_law_1t2 b_law_1t3 b_law_1t4
  rw [seq_step f0, seq_step f1, seq_step f2, seq_step f3, seq_step f4]
  rfl
theorem plain : Plain := by
  intro ns hl
  exact main_lawT (lo := 3) (hi := 6) (N := 11) (by omega) (by omega) (fun _ => True) [] trivial fun k hk r S hr hS => by
    match r, hr with
    | [a1, a2, a3, a4, a5, a6, a7, a8, a9, a10, a11], _ =>
      obtain ⟨r', S', h1, h2⟩ := body_ok ns k (by omega) a2 a3 a4 a5 a6 a7 a8 a9 a10 a11 S
      show NxE _ _ _ (b_law_1 _ S)
      have h2' : b_law_1 (some (scr ns) :: ([a1, a2, a3, a4, a5, a6, a7, a8, a9, a10, a11].set 0 (some (.int k)))) S = .nx (some (scr ns) :: r') S' := h2
      rw [h2']
      exact nxe (r := r') rfl h1 trivial
end K77
theorem PySem.Challenge.cw_hushrules_k77_states_nearly_holds : PySem.Challenge.rw_hushrules_k77_states_nearly.Holds :=
  PySem.Challenge.held_hushrules_k77_states_nearly K77.plain
