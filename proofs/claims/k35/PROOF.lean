import PyProof.Rows.All
import Wide.All
import OpenK.AllK
import Wide.FinOn
import HandS.Base
import HandS.Call
import HandS.List
import HandS.Comp
import HandS.Words
import HandS.Dict
import KE.KeyNested
import KE.KDictKeyed
import HandS.Walk
import HandS.TupAny
import HandS.TupMul
import HandS.IsInst
import HandS.ExcOwn
import HandS.CallSlots
import HandS.Deep
import HandS.Wide
import HandS.Style
import HandS.Zip
import KE.GoesZip
import KE.GoesEnumKw
import KE.GoesMore
import KE.GoesEnum
import HandS.Flow
import HandS.TryOnly
import HandS.Defaults
import HandS.MakeKw
import HandS.WordsExc
import PyProof.Rows.Nodes
import HandS.Iter
import HandS.Ends
import HandS.Head0
import HandS.Head1
import HandS.Head2
import HandS.HeadEnd
import HandS.HeadHook1
import HandS.HeadHook2
import PyProof.FactsLen
import HandS.Conv
import HandS.SortInts
import HandS.Strs
import HandS.SortOrd
import PyProof.Rows.SortShell
import HandS.More
import KE.DatumOrd
import HandS.SortKw
import HandS.SortRule
import KE.SortData
import PySem.Challenge.RW_hushrules_k35_whole_wishes_by_far_beats
set_option Elab.async false
set_option linter.all false
set_option maxRecDepth 100000
set_option maxHeartbeats 4000000
/-! Wa: values as data (W), mutable cells, how they stand in the abstract heap. -/
namespace DL
open PySem PySem.Spec L2

/-- a value as data: tuples, lists that nobody changes any more, instances that nobody changes any more; loc: a thing that may be changed, by its number -/
inductive W where
  | non | bl (b : Bool) | int (i : Int) | str (s : Str)
  | tup (ws : List W) | lst (ws : List W) | ins (c : Nat) (fs : List (Nat × W)) | loc (n : Nat)
  | tpx (ws : List W)
  deriving Inhabited
inductive Cell where
  | lst (ws : List W) | obj (c : Nat) (fs : List (Nat × W)) | dic (kvs : List (W × W)) | set (ws : List W) | frz (w : W) | dead
  deriving Inhabited
abbrev Env := List (Option W)
abbrev Sto := List Cell

/-- names of fields, addresses of classes -/
structure Tab where
  fld : List Str
  cls : List Addr
  prg : Program
  wld : World
def Tab.f (T : Tab) (i : Nat) : Str := T.fld.getD i Str.empty
def Tab.c (T : Tab) (i : Nat) : Addr := T.cls.getD i 0
theorem Tab.f_inj {T : Tab} (hn : T.fld.Nodup) {i j : Nat} (hi : i < T.fld.length) (hj : j < T.fld.length) (e : T.f i = T.f j) : i = j := by
  unfold Tab.f at e
  rw [List.getD_eq_getElem?_getD, List.getD_eq_getElem?_getD, List.getElem?_eq_getElem hi, List.getElem?_eq_getElem hj] at e
  exact (List.getElem_inj hn).mp e

mutual
inductive Rw (T : Tab) (K : PySem.W.Frag) (F : Hp) (al : List Addr) : V → W → Prop
  | non : Rw T K F al .non .non
  | bl (b : Bool) : Rw T K F al (.bl b) (.bl b)
  | int (i : Int) : Rw T K F al (.int i) (.int i)
  | str (x : Str) : Rw T K F al (.str x) (.str x)
  | tup {a : Addr} {xs : List V} {ws : List W} : SqT K F a xs → RwL T K F al xs ws → Rw T K F al (.ref a) (.tup ws)
  | lst {a : Addr} {xs : List V} {ws : List W} : SqL K F a xs → RwL T K F al xs ws → Rw T K F al (.ref a) (.lst ws)
  | ins {a dx : Addr} {c : Nat} {gs : List (Str × V)} {fs : List (Nat × W)} : F a = some (.ins (T.c c) dx gs) → RwF T K F al gs fs → Rw T K F al (.ref a) (.ins c fs)
  | loc {a : Addr} {n : Nat} : al[n]? = some a → Rw T K F al (.ref a) (.loc n)
  | tpx {a : Addr} {o : Obj} {xs : List V} {ws : List W} : F a = some (.frz o (.tup xs)) → o.dict = none → RwL T K F al xs ws → Rw T K F al (.ref a) (.tpx ws)
inductive RwL (T : Tab) (K : PySem.W.Frag) (F : Hp) (al : List Addr) : List V → List W → Prop
  | nil : RwL T K F al [] []
  | cons {v : V} {vs : List V} {w : W} {ws : List W} : Rw T K F al v w → RwL T K F al vs ws → RwL T K F al (v :: vs) (w :: ws)
inductive RwF (T : Tab) (K : PySem.W.Frag) (F : Hp) (al : List Addr) : List (Str × V) → List (Nat × W) → Prop
  | nil : RwF T K F al [] []
  | cons {i : Nat} {v : V} {gs : List (Str × V)} {w : W} {fs : List (Nat × W)} : i < T.fld.length → Rw T K F al v w → RwF T K F al gs fs → RwF T K F al ((T.f i, v) :: gs) ((i, w) :: fs)
end

theorem sqT_mono {K : PySem.W.Frag} {F F' : Hp} (h : Same F F') {a : Addr} {xs : List V} (q : SqT K F a xs) : SqT K F' a xs := by
  rcases q with (q | ⟨o, q⟩) | q
  · exact .inl (.inl (h _ _ q))
  · exact .inl (.inr ⟨o, h _ _ q⟩)
  · exact .inr q
theorem rd_mono {F F' : Hp} (h : Same F F') {a : Addr} {u : HO} (q : Rd F a u) : Rd F' a u := by
  rcases q with q | ⟨o, q⟩
  · exact .inl (h _ _ q)
  · exact .inr ⟨o, h _ _ q⟩
theorem sqL_mono {K : PySem.W.Frag} {F F' : Hp} (h : Same F F') {a : Addr} {xs : List V} (q : SqL K F a xs) : SqL K F' a xs := by
  rcases q with q | q
  · exact .inl (rd_mono h q)
  · exact .inr q
/-- al' begins with al -/
def Pre (al al' : List Addr) : Prop := ∀ (n : Nat) (a : Addr), al[n]? = some a → al'[n]? = some a
theorem Pre.refl (al : List Addr) : Pre al al := fun _ _ h => h
theorem Pre.trans {a b c : List Addr} (h : Pre a b) (h' : Pre b c) : Pre a c := fun n x q => h' n x (h n x q)
theorem Pre.app (al be : List Addr) : Pre al (al ++ be) := fun n a q => by
  have := (List.getElem?_eq_some_iff.mp q).1
  rw [List.getElem?_append_left this]; exact q
section
variable {T : Tab} {K : PySem.W.Frag} {F F' : Hp} {al al' : List Addr}
mutual
theorem Rw.mono (h : Same F F') (p : Pre al al') : ∀ {v : V} {w : W}, Rw T K F al v w → Rw T K F' al' v w
  | _, _, .non => .non
  | _, _, .bl b => .bl b
  | _, _, .int i => .int i
  | _, _, .str x => .str x
  | _, _, .tup q r => .tup (sqT_mono h q) (RwL.mono h p r)
  | _, _, .lst q r => .lst (sqL_mono h q) (RwL.mono h p r)
  | _, _, .ins q r => .ins (h _ _ q) (RwF.mono h p r)
  | _, _, .loc q => .loc (p _ _ q)
  | _, _, .tpx q d r => .tpx (h _ _ q) d (RwL.mono h p r)
theorem RwL.mono (h : Same F F') (p : Pre al al') : ∀ {vs : List V} {ws : List W}, RwL T K F al vs ws → RwL T K F' al' vs ws
  | _, _, .nil => .nil
  | _, _, .cons a b => .cons (Rw.mono h p a) (RwL.mono h p b)
theorem RwF.mono (h : Same F F') (p : Pre al al') : ∀ {gs : List (Str × V)} {fs : List (Nat × W)}, RwF T K F al gs fs → RwF T K F' al' gs fs
  | _, _, .nil => .nil
  | _, _, .cons l a b => .cons l (Rw.mono h p a) (RwF.mono h p b)
end
theorem RwL.length : ∀ {vs : List V} {ws : List W}, RwL T K F al vs ws → vs.length = ws.length
  | _, _, .nil => rfl
  | _, _, .cons _ b => by rw [List.length_cons, List.length_cons, b.length]
theorem RwL.get : ∀ {vs : List V} {ws : List W} {i : Nat} {w : W}, RwL T K F al vs ws → ws[i]? = some w → ∃ v, vs[i]? = some v ∧ Rw T K F al v w
  | _, _, _, _, .nil, e => by simp at e
  | _, _, 0, _, .cons r _, e => by simp at e; subst e; exact ⟨_, rfl, r⟩
  | _, _, i + 1, _, .cons _ t, e => by
    obtain ⟨v, h1, h2⟩ := RwL.get (i := i) t (by simpa using e)
    exact ⟨v, by simpa using h1, h2⟩
theorem RwL.getV : ∀ {vs : List V} {ws : List W} {i : Nat} {v : V}, RwL T K F al vs ws → vs[i]? = some v → ∃ w, ws[i]? = some w ∧ Rw T K F al v w
  | _, _, _, _, .nil, e => by simp at e
  | _, _, 0, _, .cons r _, e => by simp at e; subst e; exact ⟨_, rfl, r⟩
  | _, _, i + 1, _, .cons _ t, e => by
    obtain ⟨v, h1, h2⟩ := RwL.getV (i := i) t (by simpa using e)
    exact ⟨v, by simpa using h1, h2⟩
theorem RwL.append : ∀ {vs us : List V} {ws xs : List W}, RwL T K F al vs ws → RwL T K F al us xs → RwL T K F al (vs ++ us) (ws ++ xs)
  | _, _, _, _, .nil, s => s
  | _, _, _, _, .cons r t, s => .cons r (RwL.append t s)
theorem RwL.take : ∀ {vs : List V} {ws : List W} (n : Nat), RwL T K F al vs ws → RwL T K F al (vs.take n) (ws.take n)
  | _, _, 0, _ => .nil
  | _, _, _ + 1, .nil => .nil
  | _, _, n + 1, .cons r t => .cons r (RwL.take n t)
theorem RwL.drop : ∀ {vs : List V} {ws : List W} (n : Nat), RwL T K F al vs ws → RwL T K F al (vs.drop n) (ws.drop n)
  | _, _, 0, r => r
  | _, _, _ + 1, .nil => .nil
  | _, _, n + 1, .cons _ t => RwL.drop n t
theorem RwL.set {v : V} {w : W} (r : Rw T K F al v w) : ∀ {vs : List V} {ws : List W} (i : Nat), RwL T K F al vs ws → RwL T K F al (vs.set i v) (ws.set i w)
  | _, _, _, .nil => .nil
  | _, _, 0, .cons _ t => .cons r t
  | _, _, i + 1, .cons q t => .cons q (RwL.set r i t)
theorem RwL.reverse {vs : List V} {ws : List W} (r : RwL T K F al vs ws) : RwL T K F al vs.reverse ws.reverse := by
  induction r using RwL.rec (motive_1 := fun _ _ _ => True) (motive_3 := fun _ _ _ => True) with
  | nil => exact .nil
  | cons a b _ ih => rw [List.reverse_cons, List.reverse_cons]; exact ih.append (.cons a .nil)
  | _ => trivial
theorem RwL.eraseIdx : ∀ {vs : List V} {ws : List W} (i : Nat), RwL T K F al vs ws → RwL T K F al (vs.eraseIdx i) (ws.eraseIdx i)
  | _, _, _, .nil => .nil
  | _, _, 0, .cons _ t => t
  | _, _, i + 1, .cons q t => .cons q (RwL.eraseIdx i t)
theorem RwL.dropLast {vs : List V} {ws : List W} (r : RwL T K F al vs ws) : RwL T K F al vs.dropLast ws.dropLast := by
  rw [List.dropLast_eq_take, List.dropLast_eq_take, r.length]; exact r.take _
theorem RwL.rep {vs : List V} {ws : List W} (r : RwL T K F al vs ws) : ∀ k, RwL T K F al (List.replicate k vs).flatten (List.replicate k ws).flatten
  | 0 => .nil
  | k + 1 => by rw [List.replicate_succ, List.replicate_succ, List.flatten_cons, List.flatten_cons]; exact r.append (r.rep k)
theorem RwL.ints : ∀ {vs : List V} {ns : List Int}, RwL T K F al vs (ns.map W.int) → vs = ns.map V.int
  | _, [], .nil => rfl
  | _, n :: ns, .cons r t => by cases r; rw [List.map_cons, RwL.ints t]
theorem RwL.of_ints : ∀ (ns : List Int), RwL T K F al (ns.map V.int) (ns.map W.int)
  | [] => .nil
  | n :: ns => .cons (.int n) (RwL.of_ints ns)
theorem RwL.bls : ∀ {vs : List V} {ns : List Bool}, RwL T K F al vs (ns.map W.bl) → vs = ns.map V.bl
  | _, [], .nil => rfl
  | _, n :: ns, .cons r t => by cases r; rw [List.map_cons, RwL.bls t]
theorem RwL.strs : ∀ {vs : List V} {ns : List Str}, RwL T K F al vs (ns.map W.str) → vs = ns.map V.str
  | _, [], .nil => rfl
  | _, n :: ns, .cons r t => by cases r; rw [List.map_cons, RwL.strs t]
end

/-! ### keys of dicts: tuples of plain things -/
mutual
def W.keyOk : Nat → W → Bool
  | _, .non => true
  | _, .bl _ => true
  | _, .int _ => true
  | _, .str _ => true
  | n + 1, .tup ws => W.keyOkL n ws
  | _, _ => false
def W.keyOkL : Nat → List W → Bool
  | _, [] => true
  | n, w :: ws => W.keyOk n w && W.keyOkL n ws
end
mutual
def W.toN : W → NestedKey
  | .non => .none
  | .bl b => .num (if b then 1 else 0)
  | .int i => .num i
  | .str x => .text x
  | .tup ws => .tup (W.toNL ws)
  | _ => .none
def W.toNL : List W → List NestedKey
  | [] => []
  | w :: ws => W.toN w :: W.toNL ws
end
def isKey : W → Bool
  | .tup ws => W.keyOkL 7 ws
  | _ => false
/-- a dict whose keys are tuples: its keys, where they stand, its values -/
def DicO (P : Program) (w : World) (a : Addr) (us : List (NestedKey × Addr × V)) : HO := .ext fun h => us.length ≤ sizeLine ∧ (a == sysModules) = false ∧ ∃ (o : Obj) (es : Array DictEntry) (ep : Nat) (xs : List (NestedKey × Addr × Value)),
  Paired (fun (p : NestedKey × Addr × V) (q : NestedKey × Addr × Value) => p.1 = q.1 ∧ p.2.1 = q.2.1 ∧ RelV p.2.2 q.2.2) us xs ∧ h.get? a = some o ∧ o.ExactDict ∧ o.data = .dict es ep ∧ es.toList = xs.map (entryOfKey (nestedKind P w)) ∧ (xs.map (·.1)).Nodup
def RwD (T : Tab) (K : PySem.W.Frag) (F : Hp) (al : List Addr) : List (NestedKey × Addr × V) → List (W × W) → Prop :=
  Paired fun (p : NestedKey × Addr × V) (q : W × W) => isKey q.1 = true ∧ p.1 = W.toN q.1 ∧ Rw T K F al (.ref p.2.1) q.1 ∧ Rw T K F al p.2.2 q.2
/-- what stands at the address of a cell -/
def CellOk (T : Tab) (K : PySem.W.Frag) (F : Hp) (al : List Addr) (H : Hp) (a : Addr) : Cell → Prop
  | .lst ws => ∃ xs, H a = some (.lst xs) ∧ F a = none ∧ RwL T K F al xs ws
  | .obj c fs => ∃ dx gs, H a = some (.ins (T.c c) dx gs) ∧ F a = none ∧ RwF T K F al gs fs
  | .dic kvs => ∃ us, H a = some (DicO T.prg T.wld a us) ∧ F a = none ∧ RwD T K F al us kvs
  | .set _ => False
  | .frz w => Rw T K F al (.ref a) w
  | .dead => True
/-- the data's part F of the heap, the cells' addresses al -/
structure Good (T : Tab) (K : PySem.W.Frag) (F : Hp) (al : List Addr) (S : Sto) (H : Hp) : Prop where
  sub : Same F H
  nd : al.Nodup
  len : al.length = S.length
  tr : ∀ a ∈ al, H a ≠ none
  cell : ∀ (n : Nat) (a : Addr) (c : Cell), al[n]? = some a → S[n]? = some c → CellOk T K F al H a c
structure Post (F : Hp) (al : List Addr) (H : Hp) (F' : Hp) (al' : List Addr) (H' : Hp) : Prop where
  ext : Same F F'
  pre : Pre al al'
  fresh : ∀ b, b ∈ al' → b ∈ al ∨ H b = none
  keep : ∀ b o, H b = some o → b ∉ al → H' b = some o
  dom : ∀ b, F' b ≠ none → F b ≠ none ∨ b ∈ al ∨ H b = none
def EnvOk (T : Tab) (K : PySem.W.Frag) (F : Hp) (al : List Addr) (σ : St) (ρ : Env) : Prop :=
  ρ.length = σ.length ∧ ∀ (i : Nat) (w : W), ρ[i]? = some (some w) → ∃ v, σ[i]? = some (some v) ∧ Rw T K F al v w
section
variable {T : Tab} {K : PySem.W.Frag} {F F' F2 : Hp} {al al' al2 : List Addr} {H H' H2 : Hp} {S S' : Sto} {σ : St} {ρ : Env}
theorem Post.refl : Post F al H F al H := ⟨Same.refl _, Pre.refl _, fun _ h => .inl h, fun _ _ h _ => h, fun _ h => .inl h⟩
theorem Post.trans (p : Post F al H F' al' H') (q : Post F' al' H' F2 al2 H2) : Post F al H F2 al2 H2 := by
  have kn : ∀ b, H' b = none → b ∈ al ∨ H b = none := fun b h => by
    by_cases hb : b ∈ al
    · exact .inl hb
    · refine .inr ?_
      cases e : H b with
      | none => rfl
      | some o => rw [p.keep b o e hb] at h; cases h
  refine ⟨p.ext.trans q.ext, p.pre.trans q.pre, fun b h => ?_, fun b o h hb => ?_, fun b h => ?_⟩
  · rcases q.fresh b h with h | h
    · exact p.fresh b h
    · exact kn b h
  · refine q.keep b o (p.keep b o h hb) fun hm => ?_
    rcases p.fresh b hm with z | z
    · exact hb z
    · rw [h] at z; cases z
  · rcases q.dom b h with h | h | h
    · exact p.dom b h
    · rcases p.fresh b h with z | z
      · exact .inr (.inl z)
      · exact .inr (.inr z)
    · exact .inr (kn b h)
theorem EnvOk.mono (e : EnvOk T K F al σ ρ) (h : Same F F') (p : Pre al al') : EnvOk T K F' al' σ ρ :=
  ⟨e.1, fun i w q => let ⟨v, a, b⟩ := e.2 i w q; ⟨v, a, b.mono h p⟩⟩
theorem EnvOk.post (e : EnvOk T K F al σ ρ) (p : Post F al H F' al' H') : EnvOk T K F' al' σ ρ := e.mono p.ext p.pre
theorem Rw.post {v : V} {w : W} (e : Rw T K F al v w) (p : Post F al H F' al' H') : Rw T K F' al' v w := e.mono p.ext p.pre
theorem RwL.post {v : List V} {w : List W} (e : RwL T K F al v w) (p : Post F al H F' al' H') : RwL T K F' al' v w := e.mono p.ext p.pre
theorem EnvOk.set (e : EnvOk T K F al σ ρ) {v : V} {w : W} (r : Rw T K F al v w) (i : Nat) : EnvOk T K F al (σ.set i (some v)) (ρ.set i (some w)) := by
  refine ⟨by rw [List.length_set, List.length_set]; exact e.1, fun j x q => ?_⟩
  by_cases hj : i = j
  · subst hj
    by_cases hl : i < ρ.length
    · rw [List.getElem?_set_self hl] at q
      cases q
      exact ⟨v, List.getElem?_set_self (by rw [← e.1]; exact hl), r⟩
    · rw [List.getElem?_eq_none (by rw [List.length_set]; omega)] at q; cases q
  · rw [List.getElem?_set_ne hj] at q
    obtain ⟨u, a, b⟩ := e.2 j x q
    exact ⟨u, by rw [List.getElem?_set_ne hj]; exact a, b⟩
theorem EnvOk.wipe (e : EnvOk T K F al σ ρ) (i : Nat) : EnvOk T K F al (σ.set i none) (ρ.set i none) := by
  refine ⟨by rw [List.length_set, List.length_set]; exact e.1, fun j x q => ?_⟩
  by_cases hj : i = j
  · subst hj
    by_cases hl : i < ρ.length
    · rw [List.getElem?_set_self hl] at q; cases q
    · rw [List.getElem?_eq_none (by rw [List.length_set]; omega)] at q; cases q
  · rw [List.getElem?_set_ne hj] at q
    obtain ⟨u, a, b⟩ := e.2 j x q
    exact ⟨u, by rw [List.getElem?_set_ne hj]; exact a, b⟩
theorem Good.anew (g : Good T K F al S H) {n : Nat} {a : Addr} {c : Cell} (ha : al[n]? = some a) (hc : S[n]? = some c) : CellOk T K F al H a c := g.cell n a c ha hc
theorem Good.notF (g : Good T K F al S H) {p : Addr} (h : H p = none) : F p = none := g.sub.free h
theorem Good.notA (g : Good T K F al S H) {p : Addr} (h : H p = none) : p ∉ al := fun m => g.tr p m h

theorem CellOk.mono {a : Addr} : ∀ {c : Cell}, CellOk T K F al H a c → Same F F' → Pre al al' → (∀ o, H a = some o → H' a = some o) → (F a = none → F' a = none) → CellOk T K F' al' H' a c
  | .lst _, ⟨xs, h1, h2, h3⟩, s, p, k, f => ⟨xs, k _ h1, f h2, h3.mono s p⟩
  | .obj _ _, ⟨dx, gs, h1, h2, h3⟩, s, p, k, f => ⟨dx, gs, k _ h1, f h2, h3.mono s p⟩
  | .dic _, ⟨us, h1, h2, h3⟩, s, p, k, f => ⟨us, k _ h1, f h2, Paired.mapP h3 fun _ _ z => ⟨z.1, z.2.1, z.2.2.1.mono s p, z.2.2.2.mono s p⟩⟩
  | .set _, h, _, _, _, _ => h.elim
  | .frz _, h, s, p, _, _ => Rw.mono s p h
  | .dead, _, _, _, _, _ => trivial
/-- a new thing that is data from its begin on -/
theorem Good.newF (g : Good T K F al S H) {p : Addr} (hp : H p = none) (o : HO) : Good T K (upd F p o) al S (upd H p o) ∧ Post F al H (upd F p o) al (upd H p o) := by
  have hF := g.notF hp
  have hA := g.notA hp
  have s1 : Same F (upd F p o) := fun b u e => by rw [upd_ne (ne_of_none e hF)]; exact e
  refine ⟨⟨fun b u e => ?_, g.nd, g.len, fun a ha => ?_, fun n a c ha hc => ?_⟩, ⟨s1, Pre.refl _, fun _ h => .inl h, fun b u e _ => by rw [upd_ne (ne_of_none e hp)]; exact e, fun b h => ?_⟩⟩
  · by_cases hb : b = p
    · subst hb; rw [upd_same] at e ⊢; exact e
    · rw [upd_ne hb] at e ⊢; exact g.sub b u e
  · rw [upd_ne (show a ≠ p from fun e => hA (e ▸ ha))]; exact g.tr a ha
  · have ne : a ≠ p := fun e => hA (e ▸ List.mem_of_getElem? ha)
    exact (g.cell n a c ha hc).mono s1 (Pre.refl _) (fun o h => by rw [upd_ne ne]; exact h) (fun h => by rw [upd_ne ne]; exact h)
  · by_cases hb : b = p
    · subst hb; exact .inr (.inr hp)
    · rw [upd_ne hb] at h; exact .inl h
theorem Good.newTup (g : Good T K F al S H) {p : Addr} (hp : H p = none) {xs : List V} {ws : List W} (r : RwL T K F al xs ws) :
    Good T K (upd F p (.tup xs)) al S (upd H p (.tup xs)) ∧ Post F al H (upd F p (.tup xs)) al (upd H p (.tup xs)) ∧ Rw T K (upd F p (.tup xs)) al (.ref p) (.tup ws) := by
  obtain ⟨a, b⟩ := g.newF hp (.tup xs)
  exact ⟨a, b, .tup (.of upd_same) (r.post b)⟩
theorem Good.newLst (g : Good T K F al S H) {p : Addr} (hp : H p = none) {xs : List V} {ws : List W} (r : RwL T K F al xs ws) :
    Good T K (upd F p (.lst xs)) al S (upd H p (.lst xs)) ∧ Post F al H (upd F p (.lst xs)) al (upd H p (.lst xs)) ∧ Rw T K (upd F p (.lst xs)) al (.ref p) (.lst ws) := by
  obtain ⟨a, b⟩ := g.newF hp (.lst xs)
  exact ⟨a, b, .lst (SqL.of upd_same) (r.post b)⟩
/-- a new cell -/
theorem Good.newCell (g : Good T K F al S H) {p : Addr} (hp : H p = none) {o : HO} {c : Cell} (hc : CellOk T K F (al ++ [p]) (upd H p o) p c) :
    Good T K F (al ++ [p]) (S ++ [c]) (upd H p o) ∧ Post F al H F (al ++ [p]) (upd H p o) ∧ Rw T K F (al ++ [p]) (.ref p) (.loc S.length) := by
  have hF := g.notF hp
  have hA := g.notA hp
  refine ⟨⟨fun b u e => ?_, ?_, by rw [List.length_append, List.length_append, g.len]; rfl, fun a ha => ?_, fun n a d ha hd => ?_⟩, ⟨Same.refl _, Pre.app _ _, fun b h => ?_, fun b u e _ => by rw [upd_ne (ne_of_none e hp)]; exact e, fun _ h => .inl h⟩, .loc ?_⟩
  · rw [upd_ne (ne_of_none e hF)]; exact g.sub b u e
  · rw [List.nodup_append]
    refine ⟨g.nd, by simp, fun a ha b hb e => ?_⟩
    have : b = p := by simpa using hb
    subst this; subst e; exact hA ha
  · rcases List.mem_append.mp ha with h | h
    · by_cases e : a = p
      · subst e; rw [upd_same]; simp
      · rw [upd_ne e]; exact g.tr a h
    · have : a = p := by simpa using h
      subst this; rw [upd_same]; simp
  · by_cases hn : n < al.length
    · rw [List.getElem?_append_left hn] at ha
      rw [List.getElem?_append_left (by rw [← g.len]; exact hn)] at hd
      have ne : a ≠ p := fun e => hA (e ▸ List.mem_of_getElem? ha)
      exact (g.cell n a d ha hd).mono (Same.refl _) (Pre.app _ _) (fun o h => by rw [upd_ne ne]; exact h) (fun h => h)
    · have h2 : n = al.length := by
        have := (List.getElem?_eq_some_iff.mp ha).1
        rw [List.length_append] at this
        simp at this; omega
      subst h2
      rw [List.getElem?_append_right (Nat.le_refl _), Nat.sub_self] at ha
      rw [g.len, List.getElem?_append_right (Nat.le_refl _), Nat.sub_self] at hd
      simp at ha hd
      subst ha; subst hd
      exact hc
  · rcases List.mem_append.mp h with h | h
    · exact .inl h
    · have : b = p := by simpa using h
      subst this; exact .inr hp
  · rw [← g.len, List.getElem?_append_right (Nat.le_refl _), Nat.sub_self]; rfl
/-- a cell is changed -/
theorem Good.setCell (g : Good T K F al S H) {n : Nat} {a : Addr} {o : HO} {c : Cell} (ha : al[n]? = some a) (hF : F a = none) (hc : CellOk T K F al (upd H a o) a c) :
    Good T K F al (S.set n c) (upd H a o) ∧ Post F al H F al (upd H a o) := by
  have hm : a ∈ al := List.mem_of_getElem? ha
  refine ⟨⟨fun b u e => ?_, g.nd, by rw [List.length_set]; exact g.len, fun b hb => ?_, fun m b d hb hd => ?_⟩, ⟨Same.refl _, Pre.refl _, fun _ h => .inl h, fun b u e hb => ?_, fun _ h => .inl h⟩⟩
  · rw [upd_ne (ne_of_none e hF)]; exact g.sub b u e
  · by_cases e : b = a
    · subst e; rw [upd_same]; simp
    · rw [upd_ne e]; exact g.tr b hb
  · by_cases e : m = n
    · subst e
      rw [ha] at hb; cases hb
      have hl : m < S.length := by rw [← g.len]; exact (List.getElem?_eq_some_iff.mp ha).1
      rw [List.getElem?_set_self hl] at hd
      cases hd
      exact hc
    · rw [List.getElem?_set_ne (Ne.symm e)] at hd
      have ne : b ≠ a := fun q => e (by subst q; exact nd_ix' g.nd hb ha)
      exact (g.cell m b d hb hd).mono (Same.refl _) (Pre.refl _) (fun o h => by rw [upd_ne ne]; exact h) (fun h => h)
  · rw [upd_ne (show b ≠ a from fun q => hb (q ▸ hm))]; exact e
where nd_ix' {l : List Addr} (hN : l.Nodup) {i j : Nat} {x : Addr} (a : l[i]? = some x) (b : l[j]? = some x) : i = j := by
        obtain ⟨h1, e1⟩ := List.getElem?_eq_some_iff.mp a
        obtain ⟨h2, e2⟩ := List.getElem?_eq_some_iff.mp b
        exact (List.getElem_inj hN).mp (e1.trans e2.symm)
/-- a cell is frozen: what it holds becomes data -/
theorem Good.freeze (g : Good T K F al S H) {n : Nat} {a : Addr} {o : HO} {w : W} (ha : al[n]? = some a) (hF : F a = none) (ho : H a = some o) (hw : Rw T K (upd F a o) al (.ref a) w) :
    Good T K (upd F a o) al (S.set n (.frz w)) H ∧ Post F al H (upd F a o) al H := by
  have hm : a ∈ al := List.mem_of_getElem? ha
  have s1 : Same F (upd F a o) := fun b u e => by rw [upd_ne (ne_of_none e hF)]; exact e
  refine ⟨⟨fun b u e => ?_, g.nd, by rw [List.length_set]; exact g.len, g.tr, fun m b d hb hd => ?_⟩, ⟨s1, Pre.refl _, fun _ h => .inl h, fun b u e _ => e, fun b h => ?_⟩⟩
  · by_cases q : b = a
    · subst q; rw [upd_same] at e; rw [← e]; exact ho
    · rw [upd_ne q] at e; exact g.sub b u e
  · by_cases e : m = n
    · subst e
      rw [ha] at hb; cases hb
      have hl : m < S.length := by rw [← g.len]; exact (List.getElem?_eq_some_iff.mp ha).1
      rw [List.getElem?_set_self hl] at hd
      cases hd
      exact hw
    · rw [List.getElem?_set_ne (Ne.symm e)] at hd
      have ne : b ≠ a := fun q => e (by subst q; exact setCell.nd_ix' g.nd hb ha)
      exact (g.cell m b d hb hd).mono s1 (Pre.refl _) (fun o h => h) (fun h => by rw [upd_ne ne]; exact h)
  · by_cases q : b = a
    · subst q; exact .inr (.inl hm)
    · rw [upd_ne q] at h; exact .inl h
end
end DL

set_option Elab.async false
set_option linter.all false
set_option maxRecDepth 100000
set_option maxHeartbeats 4000000
/-! Wb: a small language of expressions and statements over data, and what it does. -/
namespace DL
open PySem PySem.Spec L2

def limit : Nat := 16777216

/-! ### plain data, == -/
mutual
def W.plain : Nat → W → Bool
  | _, .non => true
  | _, .bl _ => true
  | _, .int _ => true
  | _, .str s => PyData.strOk s
  | 0, .tup _ => false
  | 0, .lst _ => false
  | n + 1, .tup ws => W.plainL n ws
  | n + 1, .lst ws => W.plainL n ws
  | _, .ins _ _ => false
  | _, .loc _ => false
  | _, .tpx _ => false
def W.plainL : Nat → List W → Bool
  | _, [] => true
  | n, w :: ws => W.plain n w && W.plainL n ws
end
mutual
def W.eqv : W → W → Bool
  | .non, .non => true
  | .bl a, .bl b => a == b
  | .bl a, .int j => (if a then 1 else 0) == j
  | .int i, .bl b => i == (if b then 1 else 0)
  | .int i, .int j => i == j
  | .str x, .str y => x == y
  | .lst xs, .lst ys => W.eqvL xs ys
  | .tup xs, .tup ys => W.eqvL xs ys
  | _, _ => false
def W.eqvL : List W → List W → Bool
  | [], [] => true
  | x :: xs, y :: ys => W.eqv x y && W.eqvL xs ys
  | _, _ => false
end
/-- a thing that may be changed, as it stands now -/
def deref (S : Sto) : W → W
  | .loc n => match S[n]? with
    | some (.lst ws) => .lst ws
    | some (.frz w) => w
    | _ => .loc n
  | .tpx ws => .tup ws
  | w => w
def cmpEq (a b : W) : Option Bool := if W.plain 60 a && W.plain 60 b then some (W.eqv a b) else none

inductive Xn where
  | own (c : Nat) (fs : List (Nat × W))
  deriving Inhabited
inductive Res where
  | ok (w : W) (S : Sto) | exc (x : Xn) (S : Sto) | bad
  deriving Inhabited
inductive LRes where
  | ok (ws : List W) (S : Sto) | exc (x : Xn) (S : Sto) | bad
  deriving Inhabited
inductive BRes where
  | ok (b : Bool) (S : Sto) | exc (x : Xn) (S : Sto) | bad
  deriving Inhabited
def Res.bind : Res → (W → Sto → Res) → Res
  | .ok w S, f => f w S
  | .exc x S, _ => .exc x S
  | .bad, _ => .bad
def Res.bindL : Res → (W → Sto → LRes) → LRes
  | .ok w S, f => f w S
  | .exc x S, _ => .exc x S
  | .bad, _ => .bad
def Res.bindB : Res → (W → Sto → BRes) → BRes
  | .ok w S, f => f w S
  | .exc x S, _ => .exc x S
  | .bad, _ => .bad
def LRes.bind : LRes → (List W → Sto → Res) → Res
  | .ok w S, f => f w S
  | .exc x S, _ => .exc x S
  | .bad, _ => .bad
def LRes.bindL : LRes → (List W → Sto → LRes) → LRes
  | .ok w S, f => f w S
  | .exc x S, _ => .exc x S
  | .bad, _ => .bad
def BRes.bind : BRes → (Bool → Sto → Res) → Res
  | .ok w S, f => f w S
  | .exc x S, _ => .exc x S
  | .bad, _ => .bad
def BRes.bindB : BRes → (Bool → Sto → BRes) → BRes
  | .ok w S, f => f w S
  | .exc x S, _ => .exc x S
  | .bad, _ => .bad
def BRes.bindLL : BRes → (Bool → Sto → LRes) → LRes
  | .ok w S, f => f w S
  | .exc x S, _ => .exc x S
  | .bad, _ => .bad
def optR (S : Sto) : Option W → Res
  | some w => .ok w S
  | none => .bad
abbrev Fn := List W → Sto → Res

/-! ### operators -/
def mulOk (i j : Int) : Bool := (decide (-(2 ^ 64) < i) && decide (i < 2 ^ 64)) || (decide (-(2 ^ 64) < j) && decide (j < 2 ^ 64))
def divLim : Int := 1000000000000000000000000000000000000000000000000000000000000000000000
def binop : Operator → W → W → Option W
  | .Add, .int i, .int j => some (.int (i + j))
  | .Add, .str x, .str y => if x.length + y.length ≤ limit then some (.str (x ++ y)) else none
  | .Add, .tup xs, .tup ys => if xs.length + ys.length ≤ limit then some (.tup (xs ++ ys)) else none
  | .Add, .lst xs, .lst ys => if xs.length + ys.length ≤ limit then some (.lst (xs ++ ys)) else none
  | .Sub, .int i, .int j => some (.int (i - j))
  | .Mult, .int i, .int j => if mulOk i j then some (.int (i * j)) else none
  | .Mult, .tup xs, .int k => if decide (0 ≤ k) && decide (k ≤ 1000) && decide (xs.length ≤ 1000) then some (.tup (List.replicate k.toNat xs).flatten) else none
  | .FloorDiv, .int i, .int j => if 0 < j ∧ j < divLim then some (.int (i / j)) else none
  | .Mod, .int i, .int j => if 0 < j then some (.int (i % j)) else none
  | .Pow, .int i, .int j => if 0 ≤ j ∧ j ≤ 1000000 ∧ i.natAbs < 2 ^ 64 then some (.int (i ^ j.toNat)) else none
  | _, _, _ => none
def memW (x : W) (ys : List W) : Option Bool := if W.plain 60 x && W.plainL 60 ys then some (ys.any fun y => W.eqv y x) else none
def cmpop : CmpOp → W → W → Option Bool
  | .Eq, a, b => cmpEq a b
  | .NotEq, a, b => (cmpEq a b).map (!·)
  | .Lt, .int i, .int j => some (decide (i < j))
  | .LtE, .int i, .int j => some (decide (i ≤ j))
  | .Gt, .int i, .int j => some (decide (j < i))
  | .GtE, .int i, .int j => some (decide (j ≤ i))
  | .Is, .non, .non => some true
  | .Is, .bl _, .non => some false
  | .Is, .int _, .non => some false
  | .Is, .str _, .non => some false
  | .Is, .tup _, .non => some false
  | .Is, .lst _, .non => some false
  | .IsNot, .non, .non => some false
  | .IsNot, .bl _, .non => some true
  | .IsNot, .int _, .non => some true
  | .IsNot, .str _, .non => some true
  | .IsNot, .tup _, .non => some true
  | .IsNot, .lst _, .non => some true
  | .Is, .bl a, .bl b => some (a == b)
  | .IsNot, .bl a, .bl b => some (!(a == b))
  | .In, x, .tup ys => memW x ys
  | .In, x, .lst ys => memW x ys
  | .NotIn, x, .tup ys => (memW x ys).map (!·)
  | .NotIn, x, .lst ys => (memW x ys).map (!·)
  | _, _, _ => none
def truthy : W → Option Bool
  | .non => some false
  | .bl b => some b
  | .int i => some (i != 0)
  | .str y => if y.length ≤ limit then some ((y.length : Int) != 0) else none
  | .tup ws => some (!ws.isEmpty)
  | .lst ws => some (!ws.isEmpty)
  | _ => none
def getIx : W → W → Option W
  | .tup ws, .int i => atI ws i
  | .lst ws, .int i => atI ws i
  | _, _ => none
def cutW (ws : List W) (lo hi : Option Int) : List W := (ws.drop (HT.sIx ws.length 0 lo)).take (HT.sIx ws.length ws.length hi - HT.sIx ws.length 0 lo)
def getSl : W → Option Int → Option Int → Option W
  | .tup ws, lo, hi => some (.tup (cutW ws lo hi))
  | .lst ws, lo, hi => some (.lst (cutW ws lo hi))
  | _, _, _ => none
def lookF (i : Nat) : List (Nat × W) → Option W
  | [] => none
  | (j, w) :: fs => if i = j then some w else lookF i fs
def putFN (i : Nat) (w : W) : List (Nat × W) → List (Nat × W)
  | [] => [(i, w)]
  | (j, x) :: fs => if j = i then (j, w) :: fs else (j, x) :: putFN i w fs
def getFld (S : Sto) (c f : Nat) : W → Option W
  | .ins d fs => if d = c then lookF f fs else none
  | .loc n => match S[n]? with
    | some (.obj d fs) => if d = c then lookF f fs else none
    | some (.frz (.ins d fs)) => if d = c then lookF f fs else none
    | _ => none
  | _ => none
inductive Ty where
  | int | bool | str | tuple | list
  deriving DecidableEq
def isTy : Ty → W → Option Bool
  | .int, .int _ => some true
  | .int, .bl _ => some true
  | .bool, .bl _ => some true
  | .str, .str _ => some true
  | .tuple, .tup _ => some true
  | .list, .lst _ => some true
  | _, .non => some false
  | _, .bl _ => some false
  | _, .int _ => some false
  | _, .str _ => some false
  | _, .tup _ => some false
  | _, .lst _ => some false
  | _, _ => none

inductive Prim where
  | len | abs | max | min | all | any | tuple | list | divmod | sum | int | bool
  deriving DecidableEq
def allB : List W → Option (List Bool)
  | [] => some []
  | .bl b :: ws => (allB ws).map (b :: ·)
  | _ => none
def allI : List W → Option (List Int)
  | [] => some []
  | .int b :: ws => (allI ws).map (b :: ·)
  | _ => none
def prim : Prim → List W → Option W
  | .len, [.tup ws] => some (.int ws.length)
  | .len, [.lst ws] => some (.int ws.length)
  | .len, [.str x] => if x.length ≤ limit then some (.int x.length) else none
  | .abs, [.int i] => some (.int (if i < 0 then -i else i))
  | .max, [.int i, .int j] => some (.int (if j > i then j else i))
  | .min, [.int i, .int j] => some (.int (if j < i then j else i))
  | .all, [.lst ws] => (allB ws).map fun bs => .bl (bs.all id)
  | .any, [.lst ws] => (allB ws).map fun bs => .bl (bs.any id)
  | .tuple, [.tup ws] => some (.tup ws)
  | .tuple, [.lst ws] => some (.tup ws)
  | .list, [.tup ws] => some (.lst ws)
  | .list, [.lst ws] => some (.lst ws)
  | .divmod, [.int i, .int j] => if 0 < j ∧ j < 1073741824 then some (.tup [.int (i / j), .int (i % j)]) else none
  | .sum, [.lst ws] => (allI ws).map fun ns => .int ns.sum
  | .int, [.int i] => some (.int i)
  | .int, [.bl k] => some (.int (if k then 1 else 0))
  | .bool, [.int i] => some (.bl (i != 0))
  | .bool, [.bl k] => some (.bl k)
  | _, _ => none

/-! ### the language -/
inductive Tg where
  | nm (i : Nat) | tup (is : List Nat) | star (is : List Nat) (j : Nat)
  deriving DecidableEq
def setAll : List Nat → List W → Env → Option Env
  | [], [], ρ => some ρ
  | i :: is, w :: ws, ρ => setAll is ws (ρ.set i (some w))
  | _, _, _ => none
def bindTg : Tg → W → Env → Option Env
  | .nm i, w, ρ => some (ρ.set i (some w))
  | .tup is, .tup ws, ρ => setAll is ws ρ
  | .tup is, .lst ws, ρ => setAll is ws ρ
  | .tup is, .tpx ws, ρ => setAll is ws ρ
  | .star is j, .tup ws, ρ => if is.length ≤ ws.length ∧ ws.length ≤ 16384 then (setAll is (ws.take is.length) ρ).map fun ρ' => ρ'.set j (some (.lst (ws.drop is.length))) else none
  | _, _, _ => none
def wipeW (ρ : Env) : List Nat → Env
  | [] => ρ
  | v :: vs => (wipeW ρ vs).set v none
def zipW : List W → List W → List W
  | x :: xs, y :: ys => .tup [x, y] :: zipW xs ys
  | _, _ => []
def enumW (n : Nat) : List W → List W
  | [] => []
  | x :: xs => .tup [.int (n : Int), x] :: enumW (n + 1) xs
def rangeW (lo : Int) : Nat → List W
  | 0 => []
  | n + 1 => .int lo :: rangeW (lo + 1) n
def items : W → Option (List W)
  | .tup ws => some ws
  | .tpx ws => some ws
  | .lst ws => some ws
  | _ => none
def compM (step : W → Sto → LRes) : List W → List W → Sto → LRes
  | [], acc, S => .ok acc S
  | x :: xs, acc, S => (step x S).bindL fun ys S' => compM step xs (acc ++ ys) S'
def newCellR (c : Cell) (S : Sto) : Res := .ok (.loc S.length) (S ++ [c])
def freezeR : W → Sto → Res
  | .loc n, S => match S[n]? with
    | some (.lst ws) => .ok (.lst ws) (S.set n (.frz (.lst ws)))
    | some (.frz w) => .ok w S
    | _ => .bad
  | w, S => .ok w S
def optL (S : Sto) : Option (List W) → LRes
  | some ws => .ok ws S
  | none => .bad

def optB (S : Sto) : Option Bool → BRes
  | some b => .ok b S
  | none => .bad
def truthyR (w : W) (S : Sto) : BRes := optB S (truthy (deref S w))
def test (r : Res) : BRes := r.bindB truthyR
/-- a turn of a comprehension: nothing may be raised in it -/
def lcStep (ρ : Env) (vs : List Nat) (tg : Tg) (cond : Env → Sto → BRes) (elt : Env → Sto → Res) (x : W) (S : Sto) : LRes :=
  match bindTg tg x (wipeW ρ vs) with
  | none => .bad
  | some ρ' => match cond ρ' S with
    | .ok false S1 => .ok [] S1
    | .ok true S1 => match elt ρ' S1 with
      | .ok y S2 => .ok [y] S2
      | _ => .bad
    | _ => .bad
def partW : W → Option (Option Int)
  | .non => some none
  | .int i => some (some i)
  | _ => none
end DL

set_option Elab.async false
set_option linter.all false
set_option maxRecDepth 100000
set_option maxHeartbeats 4000000
/-! Wc: what the small language's expressions do is what the program's expressions do: the parts. -/
namespace DL
open PySem PySem.Spec L2

section
variable (T : Tab) (K : PySem.W.Frag)
def RwX (F : Hp) (al : List Addr) : Xn → Value → Option Addr → Prop
  | .own c fs, cls, d => cls = .ref (T.c c) ∧ (fs = [] ∨ ∃ a gs, d = some a ∧ F a = some (.xd gs) ∧ RwF T K F al gs fs)
def RQ (E : WX) (σ : L2.St) (F : Hp) (al : List Addr) (H : Hp) (r : Res) (Q : VK) : Prop :=
  match r with
  | .ok w S' => ∀ v F' al' H', Post F al H F' al' H' → Good T K F' al' S' H' → Rw T K F' al' v w → Q v H'
  | .exc x S' => ∀ cls d F' al' H', Post F al H F' al' H' → Good T K F' al' S' H' → RwX T K F' al' x cls d → E cls d σ H'
  | .bad => False
def LQ (E : WX) (σ : L2.St) (F : Hp) (al : List Addr) (H : Hp) (r : LRes) (Q : List V → Hp → Prop) : Prop :=
  match r with
  | .ok ws S' => ∀ vs F' al' H', Post F al H F' al' H' → Good T K F' al' S' H' → RwL T K F' al' vs ws → Q vs H'
  | .exc x S' => ∀ cls d F' al' H', Post F al H F' al' H' → Good T K F' al' S' H' → RwX T K F' al' x cls d → E cls d σ H'
  | .bad => False
def BQ (E : WX) (σ : L2.St) (F : Hp) (al : List Addr) (H : Hp) (r : BRes) (Q : Bool → Hp → Prop) : Prop :=
  match r with
  | .ok b S' => ∀ F' al' H', Post F al H F' al' H' → Good T K F' al' S' H' → Q b H'
  | .exc x S' => ∀ cls d F' al' H', Post F al H F' al' H' → Good T K F' al' S' H' → RwX T K F' al' x cls d → E cls d σ H'
  | .bad => False
def tW (E : WX) (m : Env → Sto → Res) : TE := fun σ H Q => ∃ F al S ρ, Good T K F al S H ∧ EnvOk T K F al σ ρ ∧ RQ T K E σ F al H (m ρ S) Q
def tL (E : WX) (m : Env → Sto → LRes) : TA := fun σ H Q => ∃ F al S ρ, Good T K F al S H ∧ EnvOk T K F al σ ρ ∧ LQ T K E σ F al H (m ρ S) Q
def tB (E : WX) (m : Env → Sto → BRes) : TT := fun σ H Q => ∃ F al S ρ, Good T K F al S H ∧ EnvOk T K F al σ ρ ∧ BQ T K E σ F al H (m ρ S) Q
end

section
variable {T : Tab} {K : PySem.W.Frag} {E : WX} {σ : L2.St} {ρ : Env} {F F' : Hp} {al al' : List Addr} {H H' : Hp} {S S' : Sto}
theorem RQ.post {r : Res} {Q : VK} (p : Post F al H F' al' H') (h : RQ T K E σ F al H r Q) : RQ T K E σ F' al' H' r Q := by
  cases r with
  | ok w S' => exact fun v F2 al2 H2 q g r => h v F2 al2 H2 (p.trans q) g r
  | exc x S' => exact fun c d F2 al2 H2 q g r => h c d F2 al2 H2 (p.trans q) g r
  | bad => exact h
theorem LQ.post {r : LRes} {Q : List V → Hp → Prop} (p : Post F al H F' al' H') (h : LQ T K E σ F al H r Q) : LQ T K E σ F' al' H' r Q := by
  cases r with
  | ok w S' => exact fun v F2 al2 H2 q g r => h v F2 al2 H2 (p.trans q) g r
  | exc x S' => exact fun c d F2 al2 H2 q g r => h c d F2 al2 H2 (p.trans q) g r
  | bad => exact h
theorem BQ.post {r : BRes} {Q : Bool → Hp → Prop} (p : Post F al H F' al' H') (h : BQ T K E σ F al H r Q) : BQ T K E σ F' al' H' r Q := by
  cases r with
  | ok w S' => exact fun F2 al2 H2 q g => h F2 al2 H2 (p.trans q) g
  | exc x S' => exact fun c d F2 al2 H2 q g r => h c d F2 al2 H2 (p.trans q) g r
  | bad => exact h
theorem RQ.imp {r : Res} {Q Q' : VK} (h : RQ T K E σ F al H r Q) (i : ∀ v H, Q v H → Q' v H) : RQ T K E σ F al H r Q' := by
  cases r with
  | ok w S' => exact fun v F2 al2 H2 q g r => i _ _ (h v F2 al2 H2 q g r)
  | exc x S' => exact h
  | bad => exact h
theorem LQ.imp {r : LRes} {Q Q' : List V → Hp → Prop} (h : LQ T K E σ F al H r Q) (i : ∀ v H, Q v H → Q' v H) : LQ T K E σ F al H r Q' := by
  cases r with
  | ok w S' => exact fun v F2 al2 H2 q g r => i _ _ (h v F2 al2 H2 q g r)
  | exc x S' => exact h
  | bad => exact h
theorem BQ.imp {r : BRes} {Q Q' : Bool → Hp → Prop} (h : BQ T K E σ F al H r Q) (i : ∀ v H, Q v H → Q' v H) : BQ T K E σ F al H r Q' := by
  cases r with
  | ok w S' => exact fun F2 al2 H2 q g => i _ _ (h F2 al2 H2 q g)
  | exc x S' => exact h
  | bad => exact h
theorem tW.imp {m : Env → Sto → Res} {Q Q' : VK} (h : tW T K E m σ H Q) (i : ∀ v H, Q v H → Q' v H) : tW T K E m σ H Q' :=
  let ⟨F, al, S, ρ, g, e, q⟩ := h
  ⟨F, al, S, ρ, g, e, q.imp i⟩
theorem tL.imp {m : Env → Sto → LRes} {Q Q' : List V → Hp → Prop} (h : tL T K E m σ H Q) (i : ∀ v H, Q v H → Q' v H) : tL T K E m σ H Q' :=
  let ⟨F, al, S, ρ, g, e, q⟩ := h
  ⟨F, al, S, ρ, g, e, q.imp i⟩
theorem tB.imp {m : Env → Sto → BRes} {Q Q' : Bool → Hp → Prop} (h : tB T K E m σ H Q) (i : ∀ v H, Q v H → Q' v H) : tB T K E m σ H Q' :=
  let ⟨F, al, S, ρ, g, e, q⟩ := h
  ⟨F, al, S, ρ, g, e, q.imp i⟩
/-- behind the first part of a computation -/
structure Mid (T : Tab) (K : PySem.W.Frag) (F : Hp) (al : List Addr) (H : Hp) (σ : L2.St) (ρ : Env) (F1 : Hp) (al1 : List Addr) (S1 : Sto) (H1 : Hp) : Prop where
  g : Good T K F1 al1 S1 H1
  e : EnvOk T K F1 al1 σ ρ
  p : Post F al H F1 al1 H1
theorem tW.bind {m : Env → Sto → Res} {f : W → Sto → Res} {Q : VK} (g : Good T K F al S H) (e : EnvOk T K F al σ ρ) (h : RQ T K E σ F al H ((m ρ S).bind f) Q) :
    tW T K E m σ H fun v H1 => ∃ F1 al1 S1 w, Mid T K F al H σ ρ F1 al1 S1 H1 ∧ Rw T K F1 al1 v w ∧ RQ T K E σ F1 al1 H1 (f w S1) Q := by
  refine ⟨F, al, S, ρ, g, e, ?_⟩
  cases q : m ρ S with
  | ok w S1 =>
    rw [q] at h
    exact fun v F1 al1 H1 p g1 r => ⟨F1, al1, S1, w, ⟨g1, e.post p, p⟩, r, RQ.post p h⟩
  | exc x S1 => rw [q] at h; exact h
  | bad => rw [q] at h; exact h
theorem tW.bindL {m : Env → Sto → Res} {f : W → Sto → LRes} {Q : List V → Hp → Prop} (g : Good T K F al S H) (e : EnvOk T K F al σ ρ) (h : LQ T K E σ F al H ((m ρ S).bindL f) Q) :
    tW T K E m σ H fun v H1 => ∃ F1 al1 S1 w, Mid T K F al H σ ρ F1 al1 S1 H1 ∧ Rw T K F1 al1 v w ∧ LQ T K E σ F1 al1 H1 (f w S1) Q := by
  refine ⟨F, al, S, ρ, g, e, ?_⟩
  cases q : m ρ S with
  | ok w S1 =>
    rw [q] at h
    exact fun v F1 al1 H1 p g1 r => ⟨F1, al1, S1, w, ⟨g1, e.post p, p⟩, r, LQ.post p h⟩
  | exc x S1 => rw [q] at h; exact h
  | bad => rw [q] at h; exact h
theorem tW.bindB {m : Env → Sto → Res} {f : W → Sto → BRes} {Q : Bool → Hp → Prop} (g : Good T K F al S H) (e : EnvOk T K F al σ ρ) (h : BQ T K E σ F al H ((m ρ S).bindB f) Q) :
    tW T K E m σ H fun v H1 => ∃ F1 al1 S1 w, Mid T K F al H σ ρ F1 al1 S1 H1 ∧ Rw T K F1 al1 v w ∧ BQ T K E σ F1 al1 H1 (f w S1) Q := by
  refine ⟨F, al, S, ρ, g, e, ?_⟩
  cases q : m ρ S with
  | ok w S1 =>
    rw [q] at h
    exact fun v F1 al1 H1 p g1 r => ⟨F1, al1, S1, w, ⟨g1, e.post p, p⟩, r, BQ.post p h⟩
  | exc x S1 => rw [q] at h; exact h
  | bad => rw [q] at h; exact h
theorem tL.bind {m : Env → Sto → LRes} {f : List W → Sto → Res} {Q : VK} (g : Good T K F al S H) (e : EnvOk T K F al σ ρ) (h : RQ T K E σ F al H ((m ρ S).bind f) Q) :
    tL T K E m σ H fun v H1 => ∃ F1 al1 S1 w, Mid T K F al H σ ρ F1 al1 S1 H1 ∧ RwL T K F1 al1 v w ∧ RQ T K E σ F1 al1 H1 (f w S1) Q := by
  refine ⟨F, al, S, ρ, g, e, ?_⟩
  cases q : m ρ S with
  | ok w S1 =>
    rw [q] at h
    exact fun v F1 al1 H1 p g1 r => ⟨F1, al1, S1, w, ⟨g1, e.post p, p⟩, r, RQ.post p h⟩
  | exc x S1 => rw [q] at h; exact h
  | bad => rw [q] at h; exact h
theorem tL.bindL {m : Env → Sto → LRes} {f : List W → Sto → LRes} {Q : List V → Hp → Prop} (g : Good T K F al S H) (e : EnvOk T K F al σ ρ) (h : LQ T K E σ F al H ((m ρ S).bindL f) Q) :
    tL T K E m σ H fun v H1 => ∃ F1 al1 S1 w, Mid T K F al H σ ρ F1 al1 S1 H1 ∧ RwL T K F1 al1 v w ∧ LQ T K E σ F1 al1 H1 (f w S1) Q := by
  refine ⟨F, al, S, ρ, g, e, ?_⟩
  cases q : m ρ S with
  | ok w S1 =>
    rw [q] at h
    exact fun v F1 al1 H1 p g1 r => ⟨F1, al1, S1, w, ⟨g1, e.post p, p⟩, r, LQ.post p h⟩
  | exc x S1 => rw [q] at h; exact h
  | bad => rw [q] at h; exact h
theorem tB.bind {m : Env → Sto → BRes} {f : Bool → Sto → Res} {Q : VK} (g : Good T K F al S H) (e : EnvOk T K F al σ ρ) (h : RQ T K E σ F al H ((m ρ S).bind f) Q) :
    tB T K E m σ H fun b H1 => ∃ F1 al1 S1, Mid T K F al H σ ρ F1 al1 S1 H1 ∧ RQ T K E σ F1 al1 H1 (f b S1) Q := by
  refine ⟨F, al, S, ρ, g, e, ?_⟩
  cases q : m ρ S with
  | ok w S1 =>
    rw [q] at h
    exact fun F1 al1 H1 p g1 => ⟨F1, al1, S1, ⟨g1, e.post p, p⟩, RQ.post p h⟩
  | exc x S1 => rw [q] at h; exact h
  | bad => rw [q] at h; exact h
theorem tB.bindB {m : Env → Sto → BRes} {f : Bool → Sto → BRes} {Q : Bool → Hp → Prop} (g : Good T K F al S H) (e : EnvOk T K F al σ ρ) (h : BQ T K E σ F al H ((m ρ S).bindB f) Q) :
    tB T K E m σ H fun b H1 => ∃ F1 al1 S1, Mid T K F al H σ ρ F1 al1 S1 H1 ∧ BQ T K E σ F1 al1 H1 (f b S1) Q := by
  refine ⟨F, al, S, ρ, g, e, ?_⟩
  cases q : m ρ S with
  | ok w S1 =>
    rw [q] at h
    exact fun F1 al1 H1 p g1 => ⟨F1, al1, S1, ⟨g1, e.post p, p⟩, BQ.post p h⟩
  | exc x S1 => rw [q] at h; exact h
  | bad => rw [q] at h; exact h
/-- a value at once -/
theorem RQ.val {w : W} {v : V} {Q : VK} (h : RQ T K E σ F al H (.ok w S) Q) (g : Good T K F al S H) (r : Rw T K F al v w) : Q v H := h v F al H Post.refl g r
theorem RQ.valL {w : List W} {v : List V} {Q : List V → Hp → Prop} (h : LQ T K E σ F al H (.ok w S) Q) (g : Good T K F al S H) (r : RwL T K F al v w) : Q v H := h v F al H Post.refl g r
theorem RQ.new {xs : List V} {ws : List W} {Q : VK} (h : RQ T K E σ F al H (.ok (.tup ws) S) Q) (g : Good T K F al S H) (r : RwL T K F al xs ws) {p : Addr} (hp : H p = none) : Q (.ref p) (upd H p (.tup xs)) := by
  obtain ⟨a, b, c⟩ := g.newTup hp r
  exact h _ _ _ _ b a c
theorem RQ.newL {xs : List V} {ws : List W} {Q : VK} (h : RQ T K E σ F al H (.ok (.lst ws) S) Q) (g : Good T K F al S H) (r : RwL T K F al xs ws) {p : Addr} (hp : H p = none) : Q (.ref p) (upd H p (.lst xs)) := by
  obtain ⟨a, b, c⟩ := g.newLst hp r
  exact h _ _ _ _ b a c
theorem RQ.newC {xs : List V} {ws : List W} {Q : VK} (h : RQ T K E σ F al H (newCellR (.lst ws) S) Q) (g : Good T K F al S H) (r : RwL T K F al xs ws) {p : Addr} (hp : H p = none) : Q (.ref p) (upd H p (.lst xs)) := by
  obtain ⟨a, b, c⟩ := g.newCell hp (o := .lst xs) (c := .lst ws) ⟨xs, upd_same, g.notF hp, r.mono (Same.refl _) (Pre.app _ _)⟩
  exact h _ _ _ _ b a c

/-! ### how a value that may be changed looks now -/
inductive Vw (T : Tab) (K : PySem.W.Frag) (F : Hp) (al : List Addr) (H : Hp) : V → W → Prop
  | same {v : V} {w : W} : Rw T K F al v w → Vw T K F al H v w
  | cell {a : Addr} {xs : List V} {ws : List W} : H a = some (.lst xs) → RwL T K F al xs ws → Vw T K F al H (.ref a) (.lst ws)
theorem vw_of (g : Good T K F al S H) {v : V} {w : W} (r : Rw T K F al v w) : Vw T K F al H v (deref S w) := by
  cases r with
  | @loc a n ha =>
    cases q : S[n]? with
    | none => rw [show deref S (.loc n) = .loc n by simp only [deref, q]]; exact .same (.loc ha)
    | some c =>
      have hc := g.cell n a c ha q
      cases c with
      | lst ws => rw [show deref S (.loc n) = .lst ws by simp only [deref, q]]; obtain ⟨xs, h1, _, h3⟩ := hc; exact .cell h1 h3
      | frz w => rw [show deref S (.loc n) = w by simp only [deref, q]]; exact .same hc
      | _ => rw [show deref S (.loc n) = .loc n by simp only [deref, q]]; exact .same (.loc ha)
  | non => exact .same .non
  | bl b => exact .same (.bl b)
  | int b => exact .same (.int b)
  | str b => exact .same (.str b)
  | tup a b => exact .same (.tup a b)
  | lst a b => exact .same (.lst a b)
  | ins a b => exact .same (.ins a b)
  | tpx a d b => exact .same (.tup (.inl (.inr ⟨_, a⟩)) b)
theorem Vw.lst (s : Same F H) {v : V} {ws : List W} (r : Vw T K F al H v (.lst ws)) : ∃ a xs, v = .ref a ∧ SqL K H a xs ∧ RwL T K F al xs ws := by
  cases r with
  | same r => cases r with
    | lst q r => exact ⟨_, _, rfl, sqL_mono s q, r⟩
  | cell h r => exact ⟨_, _, rfl, SqL.of h, r⟩
theorem Vw.tup (s : Same F H) {v : V} {ws : List W} (r : Vw T K F al H v (.tup ws)) : ∃ a xs, v = .ref a ∧ SqT K H a xs ∧ RwL T K F al xs ws := by
  cases r with
  | same r => cases r with
    | tup q r => exact ⟨_, _, rfl, sqT_mono s q, r⟩
theorem Vw.int {v : V} {i : Int} (r : Vw T K F al H v (.int i)) : v = .int i := by
  cases r with
  | same r => cases r; rfl
theorem Vw.str {v : V} {i : Str} (r : Vw T K F al H v (.str i)) : v = .str i := by
  cases r with
  | same r => cases r; rfl
theorem Vw.bl {v : V} {i : Bool} (r : Vw T K F al H v (.bl i)) : v = .bl i := by
  cases r with
  | same r => cases r; rfl
theorem Vw.non {v : V} (r : Vw T K F al H v .non) : v = .non := by
  cases r with
  | same r => cases r; rfl
/-- of several values -/
def VwL (T : Tab) (K : PySem.W.Frag) (F : Hp) (al : List Addr) (H : Hp) : List V → List W → Prop := Paired (Vw T K F al H)
theorem vwL_of (g : Good T K F al S H) : ∀ {vs : List V} {ws : List W}, RwL T K F al vs ws → VwL T K F al H vs (ws.map (deref S))
  | _, _, .nil => .nil
  | _, _, .cons a b => .cons (vw_of g a) (vwL_of g b)

/-! ### plain data -/
mutual
def toP : W → PyData
  | .non => .none
  | .bl b => .bool b
  | .int i => .int i
  | .str s => .str s
  | .tup ws => .tuple (toPL ws)
  | .lst ws => .list (toPL ws)
  | .ins _ _ => .none
  | .loc _ => .none
  | .tpx _ => .none
def toPL : List W → List PyData
  | [] => []
  | w :: ws => toP w :: toPL ws
end
mutual
theorem plain_eqv : ∀ (n m : Nat) (a b : W), W.plain n a = true → W.plain m b = true → PyData.eqv (toP a) (toP b) = W.eqv a b
  | _, _, .non, .non, _, _ => rfl
  | _, _, .non, .bl _, _, _ => rfl
  | _, _, .non, .int _, _, _ => rfl
  | _, _, .non, .str _, _, _ => rfl
  | _, _, .non, .tup _, _, _ => rfl
  | _, _, .non, .lst _, _, _ => rfl
  | _, _, .bl _, .non, _, _ => rfl
  | _, _, .bl _, .bl _, _, _ => rfl
  | _, _, .bl _, .int _, _, _ => rfl
  | _, _, .bl _, .str _, _, _ => rfl
  | _, _, .bl _, .tup _, _, _ => rfl
  | _, _, .bl _, .lst _, _, _ => rfl
  | _, _, .int _, .non, _, _ => rfl
  | _, _, .int _, .bl _, _, _ => rfl
  | _, _, .int _, .int _, _, _ => rfl
  | _, _, .int _, .str _, _, _ => rfl
  | _, _, .int _, .tup _, _, _ => rfl
  | _, _, .int _, .lst _, _, _ => rfl
  | _, _, .str _, .non, _, _ => rfl
  | _, _, .str _, .bl _, _, _ => rfl
  | _, _, .str _, .int _, _, _ => rfl
  | _, _, .str _, .str _, _, _ => rfl
  | _, _, .str _, .tup _, _, _ => rfl
  | _, _, .str _, .lst _, _, _ => rfl
  | _, _, .tup _, .non, _, _ => rfl
  | _, _, .tup _, .bl _, _, _ => rfl
  | _, _, .tup _, .int _, _, _ => rfl
  | _, _, .tup _, .str _, _, _ => rfl
  | n + 1, m + 1, .tup a, .tup b, h, k => plain_eqvL n m a b h k
  | _, _, .tup _, .lst _, _, _ => rfl
  | _, _, .lst _, .non, _, _ => rfl
  | _, _, .lst _, .bl _, _, _ => rfl
  | _, _, .lst _, .int _, _, _ => rfl
  | _, _, .lst _, .str _, _, _ => rfl
  | _, _, .lst _, .tup _, _, _ => rfl
  | n + 1, m + 1, .lst a, .lst b, h, k => plain_eqvL n m a b h k
theorem plain_eqvL : ∀ (n m : Nat) (a b : List W), W.plainL n a = true → W.plainL m b = true → PyData.eqvAll (toPL a) (toPL b) = W.eqvL a b
  | _, _, [], [], _, _ => rfl
  | _, _, [], _ :: _, _, _ => rfl
  | _, _, _ :: _, [], _, _ => rfl
  | n, m, a :: as, b :: bs, h, k => by
    rw [W.plainL, Bool.and_eq_true] at h k
    show (PyData.eqv (toP a) (toP b) && PyData.eqvAll (toPL as) (toPL bs)) = (W.eqv a b && W.eqvL as bs)
    rw [plain_eqv n m a b h.1 k.1, plain_eqvL n m as bs h.2 k.2]
end
mutual
theorem plain_lay : ∀ (n : Nat) (a : W), W.plain n a = true → (toP a).canLay0 = true ∧ (toP a).depth ≤ n
  | _, .non, _ => ⟨rfl, by simp [toP, PyData.depth]⟩
  | _, .bl _, _ => ⟨rfl, by simp [toP, PyData.depth]⟩
  | _, .int _, _ => ⟨rfl, by simp [toP, PyData.depth]⟩
  | n, .str s, h => ⟨by cases n <;> simpa [toP, PyData.canLay0, W.plain] using h, by simp [toP, PyData.depth]⟩
  | n + 1, .tup ws, h => by
    obtain ⟨a, b⟩ := plain_layL n ws h
    exact ⟨by simpa [toP, PyData.canLay0] using a, by simp only [toP, PyData.depth]; omega⟩
  | n + 1, .lst ws, h => by
    obtain ⟨a, b⟩ := plain_layL n ws h
    exact ⟨by simpa [toP, PyData.canLay0] using a, by simp only [toP, PyData.depth]; omega⟩
theorem plain_layL : ∀ (n : Nat) (a : List W), W.plainL n a = true → PyData.canLayAll0 (toPL a) = true ∧ PyData.depthAll (toPL a) ≤ n
  | _, [], _ => ⟨rfl, by simp [toPL, PyData.depthAll]⟩
  | n, a :: as, h => by
    rw [W.plainL, Bool.and_eq_true] at h
    obtain ⟨h1, h2⟩ := plain_lay n a h.1
    obtain ⟨h3, h4⟩ := plain_layL n as h.2
    refine ⟨?_, ?_⟩
    · simp only [toPL, PyData.canLayAll0, h1, h3, Bool.and_self]
    · simp only [toPL, PyData.depthAll]; omega
end
theorem plain_shaped {a : W} (h : W.plain 60 a = true) : SeqAt.shaped (toP a) = true := by
  obtain ⟨h1, h2⟩ := plain_lay 60 a h
  show ((toP a).canLay0 && decide ((toP a).depth ≤ 64)) = true
  rw [h1, decide_eq_true (by omega)]; rfl
mutual
theorem Rw.dp (s : Same F H) : ∀ (n : Nat) {v : V} {w : W}, Rw T K F al v w → W.plain n w = true → Dp K H v (toP w)
  | _, _, _, .non, _ => .non
  | _, _, _, .bl b, _ => .bl b
  | _, _, _, .int b, _ => .int b
  | _, _, _, .str b, _ => .str b
  | n + 1, _, _, .tup q r, h => .tup (sqT_mono s q) (RwL.dp s n r h)
  | n + 1, _, _, .lst q r, h => .lst (sqL_mono s q) (RwL.dp s n r h)
  | 0, _, _, .ins _ _, h => by simp [W.plain] at h
  | n + 1, _, _, .ins _ _, h => by simp [W.plain] at h
  | 0, _, _, .loc _, h => by simp [W.plain] at h
  | n + 1, _, _, .loc _, h => by simp [W.plain] at h
  | 0, _, _, .tpx _ _ _, h => by simp [W.plain] at h
  | n + 1, _, _, .tpx _ _ _, h => by simp [W.plain] at h
theorem RwL.dp (s : Same F H) : ∀ (n : Nat) {v : List V} {w : List W}, RwL T K F al v w → W.plainL n w = true → DpAll K H v (toPL w)
  | _, _, _, .nil, _ => .nil
  | n, _, _, .cons a b, h => by
    rw [W.plainL, Bool.and_eq_true] at h
    exact .cons (Rw.dp s n a h.1) (RwL.dp s n b h.2)
end
theorem Vw.dp (s : Same F H) {n : Nat} {v : V} {w : W} (r : Vw T K F al H v w) (h : W.plain n w = true) : Dp K H v (toP w) := by
  cases r with
  | same r => exact r.dp s n h
  | cell a r =>
    cases n with
    | zero => simp [W.plain] at h
    | succ n => exact .lst (.of a) (r.dp s n h)
end
end DL

set_option Elab.async false
set_option linter.all false
set_option maxRecDepth 100000
set_option maxHeartbeats 4000000
/-! Wd: operators and built-in functions over data. -/
namespace DL
open PySem PySem.Spec L2
theorem limit_eq : limit = sizeLine := by rw [sizeLine_eq]; rfl

/-! ### rules that lack -/
section
variable {X : Cx}
def rCatL (K : PySem.W.Frag) : R2 := fun x y H Q => ∃ l b xs zs, x = .ref l ∧ y = .ref b ∧ SqL K H l xs ∧ SqL K H b zs ∧ xs.length + zs.length ≤ sizeLine ∧ ∀ p, H p = none → Q (.ref p) (upd H p (.lst (xs ++ zs)))
theorem op_catL : OpR X (binaryOp .Add) (rCatL X.K) := by
  intro pins s σ H x y v u Q I rx ry h
  obtain ⟨l, b, xs, zs, rfl, rfl, hH, hB, hz, q⟩ := h
  cases rx
  cases ry
  obtain ⟨its, r, pl, _⟩ := I.list hH
  obtain ⟨its2, r2, pl2, _⟩ := I.list hB
  have hl := r.length
  have hl2 := r2.length
  obtain ⟨⟨cls, dd, data, sl⟩, ho, hc, n, hd⟩ := pl.isList
  obtain ⟨⟨cls2, dd2, data2, sl2⟩, ho2, hc2, n2, hd2⟩ := pl2.isList
  simp only at hc hd hc2 hd2
  subst hc hd hc2 hd2
  refine concat_meets ⟨_, ho, rfl⟩ ⟨_, ho2, rfl⟩ noFill_list_add seq_list_add PySem.F.slot_list_add PySem.F.entry_list_add (PySem.F.args_list_add_2 _ _) (PyProof.Rows.list_addW l b its.toArray its2.toArray n n2 dd dd2 sl sl2 (by rw [List.size_toArray, List.size_toArray]; omega)) ⟨ho, ho2, ?_⟩
  have ea : its.toArray ++ its2.toArray = (its ++ its2).toArray := by simp
  rw [ea]
  exact ⟨.ref _, _, I.lnew (t' := s.toks) (r.append r2) (by rw [List.length_append]; omega), rfl, q _ I.fresh⟩
theorem tuple_mul1 (l : Addr) (items : Array Value) (n : Nat) (dd : Option Addr) (sl : Array (Option Value)) (x : Int) (u : Tok) (c0 : (decide (x < -(2 ^ 63)) || decide (x ≥ 2 ^ 63)) = false) (c1 : (items.isEmpty || x == 1) = true) :
    Meets (Builtin.«tuple.__mul__» ⟨[.ref l, .int x u], []⟩) (fun _ R s => s.heap.get? l = some { cls := .type "tuple", dict := dd, data := .seq items n, slots := sl } ∧
      R (.ok (.ret (Value.ref l))) s) :=
  .of_wp fun prog w A R s h => by
    obtain ⟨hp, g, d, tk, os⟩ := s
    obtain ⟨hl, h⟩ := h
    have f1 := AutoSeq1.idx_int
    wp_walk using wpAny_loadPart' hl
    repeat (first
      | (refine wpAny_ite_false (decide_eq_false (by rw [c0]; exact Bool.false_ne_true)) ?_; wp_walk using wpAny_loadPart' hl)
      | (refine wpAny_ite_true (decide_eq_true (by rw [c1])) ?_; wp_walk using wpAny_loadPart' hl))
    exact ⟨_, rfl, h⟩
theorem tuple_mul0 (l : Addr) (items : Array Value) (n : Nat) (dd : Option Addr) (sl : Array (Option Value)) (x : Int) (u : Tok) (c0 : (decide (x < -(2 ^ 63)) || decide (x ≥ 2 ^ 63)) = false) (c1 : (items.isEmpty || x == 1) = false) (c2 : (decide (x ≤ 0) || items.isEmpty) = true) :
    Meets (Builtin.«tuple.__mul__» ⟨[.ref l, .int x u], []⟩) (fun _ R s => s.heap.get? l = some { cls := .type "tuple", dict := dd, data := .seq items n, slots := sl } ∧
      R (.ok (.ret (Value.ref s.heap.objs.size))) { s with heap := s.heap.push { cls := Value.type "tuple", data := Data.seq #[] }, toks := s.toks }) :=
  .of_wp fun prog w A R s h => by
    obtain ⟨hp, g, d, tk, os⟩ := s
    obtain ⟨hl, h⟩ := h
    have f1 := AutoSeq1.idx_int
    wp_walk using wpAny_loadPart' hl
    repeat (first
      | (refine wpAny_ite_false (decide_eq_false (by rw [c0]; exact Bool.false_ne_true)) ?_; wp_walk using wpAny_loadPart' hl)
      | (refine wpAny_ite_false (decide_eq_false (by rw [c1]; exact Bool.false_ne_true)) ?_; wp_walk using wpAny_loadPart' hl)
      | (refine wpAny_ite_true (decide_eq_true (by rw [c2])) ?_; wp_walk using wpAny_loadPart' hl))
    exact ⟨_, rfl, h⟩

def rRepA (K : PySem.W.Frag) : R2 := fun x y H Q => ∃ l k xs, x = .ref l ∧ y = .int k ∧ SqT K H l xs ∧ 0 ≤ k ∧ k ≤ 1000 ∧ xs.length ≤ 1000 ∧ ((xs = [] ∨ k = 1) → Q (.ref l) H) ∧
  (xs ≠ [] → k ≠ 1 → ∀ p, H p = none → Q (.ref p) (upd H p (.tup (List.replicate k.toNat xs).flatten)))
theorem op_repA : OpR X (binaryOp .Mult) (rRepA X.K) := by
  intro pins s σ H x y v u Q I rx ry h
  obtain ⟨l, k, xs, rfl, rfl, hT, h0, h2, hz, q1, q2⟩ := h
  by_cases h1 : 2 ≤ k ∧ xs ≠ []
  · exact op_repT pins s σ H _ _ v u Q I rx ry ⟨l, k, xs, rfl, rfl, hT, h1.2, h1.1, h2, hz, q2 h1.2 (by omega)⟩
  cases rx
  obtain ⟨t, rfl⟩ := ry
  obtain ⟨its, r, ⟨⟨cls, dd, data, sl⟩, ho, hc, n, hd⟩, hs⟩ := I.tuple hT
  simp only at hc hd
  subst hc hd
  have hle : its.length = xs.length := r.length.symm
  have c0 : (decide (k < -(2 ^ 63)) || decide (k ≥ 2 ^ 63)) = false := by
    rw [decide_eq_false (by omega), decide_eq_false (by omega)] <;> rfl
  by_cases hx : xs = [] ∨ k = 1
  · have c1 : (its.toArray.isEmpty || k == 1) = true := by
      rcases hx with e | e
      · subst e
        cases its with
        | nil => rfl
        | cons a b => simp at hle
      · subst e; simp
    refine wpAny_binaryOp_repeat_ref (T := "tuple") (U := "int") (by decide) ⟨_, ho, rfl⟩ (fun s' => typeIs_int s' k t) noFill_tuple_mul F.fills_int_mul F.slot_int_rmul repeat_tuple F.slot_int_index.lookup
      (call_meets F.slot_int_rmul (typeIs_int s k t) F.entry_int_rmul (F.args_int_rmul_2 _ _) (int_rmul_tuple k t l its.toArray n dd sl)
        ⟨ho, rfl, ⟨_, ho, rfl⟩, call_meets F.slot_tuple_mul ⟨_, ho, rfl⟩ F.entry_tuple_mul (F.args_tuple_mul_2 _ _) (tuple_mul1 l its.toArray n dd sl k t c0 c1) ⟨ho, ?_⟩⟩)
    exact ⟨.ref l, H, I, rfl, q1 hx⟩
  · have hx1 : xs ≠ [] := fun e => hx (.inl e)
    have hx2 : k ≠ 1 := fun e => hx (.inr e)
    have hk : k = 0 := by
      by_cases h3 : 2 ≤ k
      · exact absurd ⟨h3, hx1⟩ h1
      · omega
    subst hk
    have c1 : (its.toArray.isEmpty || (0 : Int) == 1) = false := by
      cases its with
      | nil => exact absurd (List.eq_nil_of_length_eq_zero hle.symm) hx1
      | cons a b => rfl
    refine wpAny_binaryOp_repeat_ref (T := "tuple") (U := "int") (by decide) ⟨_, ho, rfl⟩ (fun s' => typeIs_int s' 0 t) noFill_tuple_mul F.fills_int_mul F.slot_int_rmul repeat_tuple F.slot_int_index.lookup
      (call_meets F.slot_int_rmul (typeIs_int s 0 t) F.entry_int_rmul (F.args_int_rmul_2 _ _) (int_rmul_tuple 0 t l its.toArray n dd sl)
        ⟨ho, rfl, ⟨_, ho, rfl⟩, call_meets F.slot_tuple_mul ⟨_, ho, rfl⟩ F.entry_tuple_mul (F.args_tuple_mul_2 _ _) (tuple_mul0 l its.toArray n dd sl 0 t c0 c1 rfl) ⟨ho, ?_⟩⟩)
    refine ⟨.ref _, _, I.laid (t' := s.toks) (o := .tup []) (fun b o e => Heap.get?_push_of_some _ e) (Nat.le_refl _) ⟨Nat.zero_le _, [], .nil, ⟨_, Heap.get?_push_size _ rfl, rfl, 0, rfl⟩⟩, rfl, ?_⟩
    have := q2 hx1 hx2 _ I.fresh
    simpa using this
def rInT (K : PySem.W.Frag) : R2 := fun x y H Q => ∃ d ds, Dp K H x d ∧ Dp K H y (.tuple ds) ∧ SeqAt.shaped d = true ∧ SeqAt.shaped (.tuple ds) = true ∧ Q (.bl (ds.any fun z => PyData.eqv z d)) H
def rNotInT (K : PySem.W.Frag) : R2 := fun x y H Q => ∃ d ds, Dp K H x d ∧ Dp K H y (.tuple ds) ∧ SeqAt.shaped d = true ∧ SeqAt.shaped (.tuple ds) = true ∧ Q (.bl (!ds.any fun z => PyData.eqv z d)) H
theorem op_inT (hu : X.A.units + 65 < cLine) : OpR X (compareOp .In) (rInT X.K) := by
  intro pins s σ H x y v u Q I rx ry h
  obtain ⟨d, ds, hd, he, sd, se, q⟩ := h
  obtain ⟨as, r1⟩ := Dp.reads I d x v hd rx
  obtain ⟨bs, r2⟩ := Dp.reads I (.tuple ds) y u he ry
  exact SeqAt.in_tuple_reads r2 r1 (SeqAt.canLay_of_shaped se) (SeqAt.canLay_of_shaped sd) (PyProof.Rows.room_in_shaped sd hu) ⟨.bl _, H, I, rfl, q⟩
theorem op_notInT (hu : X.A.units + 65 < cLine) : OpR X (compareOp .NotIn) (rNotInT X.K) := by
  intro pins s σ H x y v u Q I rx ry h
  obtain ⟨d, ds, hd, he, sd, se, q⟩ := h
  obtain ⟨as, r1⟩ := Dp.reads I d x v hd rx
  obtain ⟨bs, r2⟩ := Dp.reads I (.tuple ds) y u he ry
  exact SeqAt.notIn_tuple_reads r2 r1 (SeqAt.canLay_of_shaped se) (SeqAt.canLay_of_shaped sd) (PyProof.Rows.room_in_shaped sd hu) ⟨.bl _, H, I, rfl, q⟩
end

/-! ### the operators, each with all its ways -/
def rNo : R2 := fun _ _ _ _ => False
theorem op_no {X : Cx} {f : Value → Value → Sem Value} : OpR X f rNo := fun _ _ _ _ _ _ _ _ _ _ _ _ h => h.elim
def rOr (a b : R2) : R2 := fun x y H Q => a x y H Q ∨ b x y H Q
def rBin (K : PySem.W.Frag) : Operator → R2
  | .Add => rOr (rI0 fun i j => .int (i + j)) (rOr (fun x y H Q => ∃ i j, x = .str i ∧ y = .str j ∧ i.length + j.length ≤ sizeLine ∧ Q (.str (i ++ j)) H) (rOr (rCatA K) (rCatL K)))
  | .Sub => rI0 fun i j => .int (i - j)
  | .Mult => rOr (rI CMul fun i j => .int (i * j)) (rRepA K)
  | .FloorDiv => rI CDivW fun i j => .int (i / j)
  | .Mod => rI (fun _ j => 0 < j) fun i j => .int (i % j)
  | .Pow => rI CPow fun i j => .int (i ^ j.toNat)
  | _ => rNo
theorem op_bin {X : Cx} (o : Operator) : OpR X (binaryOp o) (rBin X.K o) := by
  cases o with
  | Add => exact op_add.or (op_add_str.or (op_catA.or op_catL))
  | Sub => exact op_sub
  | Mult => exact op_mul.or op_repA
  | FloorDiv => exact op_fdivW
  | Mod => exact op_mod
  | Pow => exact op_pow
  | _ => exact op_no
section
variable {T : Tab} {K : PySem.W.Frag} {E : WX} {σ : L2.St} {ρ : Env} {F F' : Hp} {al al' : List Addr} {H H' : Hp} {S S' : Sto}
theorem flat_one {α : Type} (xs : List α) : (List.replicate (1 : Int).toNat xs).flatten = xs := by
  show (List.replicate 1 xs).flatten = xs
  simp
theorem flat_nil {α : Type} (k : Nat) : (List.replicate k ([] : List α)).flatten = [] := by
  induction k with
  | zero => rfl
  | succ k ih => rw [List.replicate_succ, List.flatten_cons, ih]; rfl
theorem divLim_ok {i j : Int} (h : 0 < j) (h2 : j < divLim) : CDivW i j := by
  refine wide_div (b := 300) h ?_ (by decide) (by decide)
  have h3 : divLim.toNat < 2 ^ 300 := by decide
  omega
theorem bin_sound {o : Operator} {x y : V} {a b : W} {Q : VK} (g : Good T K F al S H) (rx : Vw T K F al H x a) (ry : Vw T K F al H y b) (h : RQ T K E σ F al H (optR S (binop o a b)) Q) : rBin K o x y H Q := by
  cases e : binop o a b with
  | none => rw [e] at h; exact h.elim
  | some w =>
    rw [e] at h
    replace h : RQ T K E σ F al H (.ok w S) Q := h
    unfold binop at e
    split at e
    · cases e; cases rx.int; cases ry.int
      exact .inl ⟨_, _, rfl, rfl, h.val g (.int _)⟩
    · split at e
      · cases e; cases rx.str; cases ry.str
        rename_i hl
        exact .inr (.inl ⟨_, _, rfl, rfl, by rw [← limit_eq]; exact hl, h.val g (.str _)⟩)
      · cases e
    · split at e
      · cases e
        rename_i xs ys hl
        obtain ⟨p, us, rfl, hp, r1⟩ := rx.tup g.sub
        obtain ⟨q, vs, rfl, hq, r2⟩ := ry.tup g.sub
        refine .inr (.inr (.inl ⟨p, q, us, vs, rfl, rfl, hp, hq, by rw [← limit_eq, r1.length, r2.length]; exact hl, fun e => ?_, fun _ e => ?_, fun _ _ t ht => ?_⟩))
        · subst e
          have : xs = [] := by cases r1; rfl
          subst this
          refine h.val g ?_
          rw [List.nil_append]
          cases ry with
          | same r => exact r
        · subst e
          have : ys = [] := by cases r2; rfl
          subst this
          refine h.val g ?_
          rw [List.append_nil]
          cases rx with
          | same r => exact r
        · exact h.new g (r1.append r2) ht
      · cases e
    · split at e
      · cases e
        rename_i xs ys hl
        obtain ⟨p, us, rfl, hp, r1⟩ := rx.lst g.sub
        obtain ⟨q, vs, rfl, hq, r2⟩ := ry.lst g.sub
        exact .inr (.inr (.inr ⟨p, q, us, vs, rfl, rfl, hp, hq, by rw [← limit_eq, r1.length, r2.length]; exact hl, fun t ht => h.newL g (r1.append r2) ht⟩))
      · cases e
    · cases e; cases rx.int; cases ry.int
      exact ⟨_, _, rfl, rfl, h.val g (.int _)⟩
    · split at e
      · cases e; cases rx.int; cases ry.int
        rename_i hl
        refine .inl ⟨_, _, rfl, rfl, ?_, h.val g (.int _)⟩
        unfold mulOk at hl
        simpa [CMul] using hl
      · cases e
    · split at e
      · cases e; cases ry.int
        rename_i xs k hl
        obtain ⟨p, us, rfl, hp, r1⟩ := rx.tup g.sub
        simp only [Bool.and_eq_true, decide_eq_true_eq] at hl
        refine .inr ⟨p, _, us, rfl, rfl, hp, hl.1.1, hl.1.2, by rw [r1.length]; exact hl.2, fun e => ?_, fun _ _ t ht => h.new g (r1.rep _) ht⟩
        refine h.val g ?_
        rcases e with e | e
        · subst e
          have : xs = [] := by cases r1; rfl
          subst this
          rw [flat_nil]
          cases rx with
          | same r => exact r
        · subst e
          rw [flat_one]
          cases rx with
          | same r => exact r
      · cases e
    · split at e
      · cases e; cases rx.int; cases ry.int
        rename_i hl
        exact ⟨_, _, rfl, rfl, divLim_ok hl.1 hl.2, h.val g (.int _)⟩
      · cases e
    · split at e
      · cases e; cases rx.int; cases ry.int
        rename_i hl
        exact ⟨_, _, rfl, rfl, hl, h.val g (.int _)⟩
      · cases e
    · split at e
      · cases e; cases rx.int; cases ry.int
        rename_i hl
        exact ⟨_, _, rfl, rfl, hl, h.val g (.int _)⟩
      · cases e
    · cases e
def rIsN : R2 := fun x y H Q => y = .non ∧ Q (.bl (decide (x = .non))) H
def rNotN : R2 := fun x y H Q => y = .non ∧ Q (.bl (!decide (x = .non))) H
def rCmp (K : PySem.W.Frag) : CmpOp → R2
  | .Eq => rEqD K
  | .NotEq => rNeD K
  | .Lt => rI0 fun i j => .bl (decide (i < j))
  | .LtE => rI0 fun i j => .bl (decide (i ≤ j))
  | .Gt => rI0 fun i j => .bl (decide (j < i))
  | .GtE => rI0 fun i j => .bl (decide (j ≤ i))
  | .Is => rOr DL.rIsN rIsB
  | .IsNot => rOr DL.rNotN rNotB
  | .In => rOr (rInT K) (rInD K)
  | .NotIn => rOr (rNotInT K) (rNotInD K)
theorem op_cmp {X : Cx} {k : Nat} (hr : Room k X.A) (o : CmpOp) : OpR X (compareOp o) (rCmp X.K o) := by
  have hu : X.A.units + 65 < cLine := by have := hr.un; omega
  cases o with
  | Eq => exact op_eqD (by omega)
  | NotEq => exact op_neD (by omega)
  | Lt => exact op_lt
  | LtE => exact op_le
  | Gt => exact op_gt
  | GtE => exact op_ge
  | Is => exact op_isN.or op_isBl
  | IsNot => exact op_notN.or op_notBl
  | In => exact (op_inT hu).or (op_inD hu)
  | NotIn => exact (op_notInT hu).or (op_notInD hu)
theorem plainL_lift {n : Nat} {ws : List W} : W.plainL n ws = true → W.plain (n + 1) (.tup ws) = true := fun h => h
theorem anyL : ∀ (n m : Nat) (ys : List W) (x : W), W.plainL n ys = true → W.plain m x = true → ((toPL ys).any fun z => PyData.eqv z (toP x)) = ys.any fun y => W.eqv y x
  | _, _, [], _, _, _ => rfl
  | n, m, y :: ys, x, h, k => by
    rw [W.plainL, Bool.and_eq_true] at h
    show (PyData.eqv (toP y) (toP x) || (toPL ys).any fun z => PyData.eqv z (toP x)) = (W.eqv y x || ys.any fun y => W.eqv y x)
    rw [plain_eqv n m y x h.1 k, anyL n m ys x h.2 k]
theorem shapedL {ws : List W} (h : W.plainL 60 ws = true) : SeqAt.shaped (.tuple (toPL ws)) = true ∧ SeqAt.shaped (.list (toPL ws)) = true := by
  obtain ⟨h1, h2⟩ := plain_layL 60 ws h
  have d1 : (PyData.tuple (toPL ws)).depth ≤ 64 := by simp only [PyData.depth]; omega
  have d2 : (PyData.list (toPL ws)).depth ≤ 64 := by simp only [PyData.depth]; omega
  have c1 : (PyData.tuple (toPL ws)).canLay0 = true := by simpa only [PyData.canLay0] using h1
  have c2 : (PyData.list (toPL ws)).canLay0 = true := by simpa only [PyData.canLay0] using h1
  refine ⟨?_, ?_⟩
  · show ((PyData.tuple (toPL ws)).canLay0 && decide ((PyData.tuple (toPL ws)).depth ≤ 64)) = true
    rw [c1, decide_eq_true d1]; rfl
  · show ((PyData.list (toPL ws)).canLay0 && decide ((PyData.list (toPL ws)).depth ≤ 64)) = true
    rw [c2, decide_eq_true d2]; rfl
theorem cmpEq_some {a b : W} {k : Bool} (h : cmpEq a b = some k) : W.plain 60 a = true ∧ W.plain 60 b = true ∧ k = W.eqv a b := by
  unfold cmpEq at h
  split at h
  · rename_i hp
    rw [Bool.and_eq_true] at hp
    cases h
    exact ⟨hp.1, hp.2, rfl⟩
  · cases h
theorem memW_some {a : W} {ys : List W} {k : Bool} (h : memW a ys = some k) : W.plain 60 a = true ∧ W.plainL 60 ys = true ∧ k = ys.any fun y => W.eqv y a := by
  unfold memW at h
  split at h
  · rename_i hp
    rw [Bool.and_eq_true] at hp
    cases h
    exact ⟨hp.1, hp.2, rfl⟩
  · cases h
theorem RQ.blv {k k' : Bool} {Q : VK} (h : RQ T K E σ F al H (.ok (.bl k) S) Q) (g : Good T K F al S H) (e : k = k') : Q (.bl k') H := by
  subst e; exact h.val g (.bl _)
theorem cmp_sound {o : CmpOp} {x y : V} {a b : W} {k : Bool} {Q : VK} (g : Good T K F al S H) (rx : Vw T K F al H x a) (ry : Vw T K F al H y b) (e : cmpop o a b = some k) (h : Q (.bl k) H) : rCmp K o x y H Q := by
  have nref : ∀ p : Addr, decide (V.ref p = V.non) = false := fun p => decide_eq_false (fun z => nomatch z)
  unfold cmpop at e
  split at e
  · obtain ⟨h1, h2, rfl⟩ := cmpEq_some e
    exact ⟨_, _, rx.dp g.sub h1, ry.dp g.sub h2, plain_shaped h1, plain_shaped h2, by rw [plain_eqv 60 60 a b h1 h2]; exact h⟩
  · rw [Option.map_eq_some_iff] at e
    obtain ⟨k2, e, rfl⟩ := e
    obtain ⟨h1, h2, rfl⟩ := cmpEq_some e
    exact ⟨_, _, rx.dp g.sub h1, ry.dp g.sub h2, plain_shaped h1, plain_shaped h2, by rw [plain_eqv 60 60 a b h1 h2]; exact h⟩
  · cases e; cases rx.int; cases ry.int; exact ⟨_, _, rfl, rfl, h⟩
  · cases e; cases rx.int; cases ry.int; exact ⟨_, _, rfl, rfl, h⟩
  · cases e; cases rx.int; cases ry.int; exact ⟨_, _, rfl, rfl, h⟩
  · cases e; cases rx.int; cases ry.int; exact ⟨_, _, rfl, rfl, h⟩
  · cases e; cases rx.non; cases ry.non; exact .inl ⟨rfl, h⟩
  · cases e; cases rx.bl; cases ry.non; exact .inl ⟨rfl, h⟩
  · cases e; cases rx.int; cases ry.non; exact .inl ⟨rfl, h⟩
  · cases e; cases rx.str; cases ry.non; exact .inl ⟨rfl, h⟩
  · cases e; obtain ⟨p, us, rfl, _⟩ := rx.tup g.sub; cases ry.non; exact .inl ⟨rfl, by rw [nref]; exact h⟩
  · cases e; obtain ⟨p, us, rfl, _⟩ := rx.lst g.sub; cases ry.non; exact .inl ⟨rfl, by rw [nref]; exact h⟩
  · cases e; cases rx.non; cases ry.non; exact .inl ⟨rfl, h⟩
  · cases e; cases rx.bl; cases ry.non; exact .inl ⟨rfl, h⟩
  · cases e; cases rx.int; cases ry.non; exact .inl ⟨rfl, h⟩
  · cases e; cases rx.str; cases ry.non; exact .inl ⟨rfl, h⟩
  · cases e; obtain ⟨p, us, rfl, _⟩ := rx.tup g.sub; cases ry.non; exact .inl ⟨rfl, by rw [nref]; exact h⟩
  · cases e; obtain ⟨p, us, rfl, _⟩ := rx.lst g.sub; cases ry.non; exact .inl ⟨rfl, by rw [nref]; exact h⟩
  · cases e; cases rx.bl; cases ry.bl
    rename_i a b
    exact .inr ⟨_, _, rfl, rfl, by rw [show decide (a = b) = (a == b) by cases a <;> cases b <;> rfl]; exact h⟩
  · cases e; cases rx.bl; cases ry.bl
    rename_i a b
    exact .inr ⟨_, _, rfl, rfl, by rw [show decide (a = b) = (a == b) by cases a <;> cases b <;> rfl]; exact h⟩
  · obtain ⟨h1, h2, rfl⟩ := memW_some e
    exact .inl ⟨_, _, rx.dp g.sub h1, ry.dp g.sub (n := 61) h2, plain_shaped h1, (shapedL h2).1, by rw [anyL 60 60 _ _ h2 h1]; exact h⟩
  · obtain ⟨h1, h2, rfl⟩ := memW_some e
    exact .inr ⟨_, _, rx.dp g.sub h1, ry.dp g.sub (n := 61) h2, plain_shaped h1, (shapedL h2).2, by rw [anyL 60 60 _ _ h2 h1]; exact h⟩
  · rw [Option.map_eq_some_iff] at e
    obtain ⟨k2, e, rfl⟩ := e
    obtain ⟨h1, h2, rfl⟩ := memW_some e
    exact .inl ⟨_, _, rx.dp g.sub h1, ry.dp g.sub (n := 61) h2, plain_shaped h1, (shapedL h2).1, by rw [anyL 60 60 _ _ h2 h1]; exact h⟩
  · rw [Option.map_eq_some_iff] at e
    obtain ⟨k2, e, rfl⟩ := e
    obtain ⟨h1, h2, rfl⟩ := memW_some e
    exact .inr ⟨_, _, rx.dp g.sub h1, ry.dp g.sub (n := 61) h2, plain_shaped h1, (shapedL h2).2, by rw [anyL 60 60 _ _ h2 h1]; exact h⟩
  · cases e
end
end DL

set_option Elab.async false
set_option linter.all false
set_option maxRecDepth 100000
set_option maxHeartbeats 4000000
/-! Wz: for .. in zip(a, b, strict=True), a and b lists or tuples, both of one length; the same without strict where one is a list and one a tuple. -/
namespace DL
open PySem PySem.Spec L2

/-- a list (false) or a tuple (true) at a -/
def SeqIs : Bool → Heap → Addr → Array Value → Prop
  | false, h, a, its => h.IsList a its
  | true, h, a, its => h.IsTuple a its
def IterIs : Bool → Heap → Addr → Addr → Nat → Prop
  | false, h, i, a, k => h.IsListIter i a k
  | true, h, i, a, k => h.IsTupleIter i a k
def iterObj : Bool → Addr → Obj
  | false, a => { cls := .type "list_iterator", data := .fields #[.ref a, .int 0 0] }
  | true, a => { cls := .type "tuple_iterator", data := .fields #[.ref a, .int 0 0] }
abbrev IsZipB (b : Bool) (h : Heap) (z TI TO : Addr) (f0 : Value) : Prop :=
  h.get? z = some { cls := .type "zip", dict := none, data := .fields #[f0, .bool false, .bool b, .ref TI, .ref TO], slots := #[] }
theorem SeqIs.at {t : Bool} {h h' : Heap} {a : Addr} {its : Array Value} (x : SeqIs t h a its) (k : ∀ o, h.get? a = some o → h'.get? a = some o) : SeqIs t h' a its := by
  cases t with
  | false => exact Heap.IsList.at x k
  | true => obtain ⟨o, e, r⟩ := x; exact ⟨o, k o e, r⟩
theorem SeqIs.ext {t : Bool} {h h' : Heap} {a b : Addr} {its : Array Value} (x : SeqIs t h a its) (k : Heap.ExtBut b h h') (n : a ≠ b) : SeqIs t h' a its := x.at fun o e => k a o n e
theorem IterIs.at {t : Bool} {h h' : Heap} {i a : Addr} {n : Nat} (x : IterIs t h i a n) (k : ∀ o, h.get? i = some o → h'.get? i = some o) : IterIs t h' i a n := by
  cases t with
  | false => exact Heap.IsListIter.at x k
  | true => exact Heap.IsTupleIter.at x k
theorem IterIs.ext {t : Bool} {h h' : Heap} {i a b : Addr} {n : Nat} (x : IterIs t h i a n) (k : Heap.ExtBut b h h') (q : i ≠ b) : IterIs t h' i a n := x.at fun o e => k i o q e
theorem IterIs.obj {t : Bool} {h : Heap} {i a : Addr} {n : Nat} (x : IterIs t h i a n) : ∃ o, h.get? i = some o ∧ ∀ v, o.data ≠ .cell v := by
  cases t with
  | false => obtain ⟨o, e, _, d⟩ := x; exact ⟨o, e, fun v q => by rw [d] at q; cases q⟩
  | true => obtain ⟨o, e, _, d⟩ := x; exact ⟨o, e, fun v q => by rw [d] at q; cases q⟩
theorem IterIs.new {t : Bool} {h : Heap} {i a : Addr} (e : h.get? i = some (iterObj t a)) : IterIs t h i a 0 := by
  cases t with
  | false => exact ⟨_, e, rfl, rfl⟩
  | true => exact ⟨_, e, rfl, rfl⟩
section
variable {prog : Program} {w : World} {A : Around} {E : Value → Shared → Prop} {s : Shared}
theorem nextOf_item {t : Bool} {it l : Addr} {i : Nat} {items : Array Value} {x : Value} {Q : Value → Shared → Prop} (hit : IterIs t s.heap it l i) (hl : SeqIs t s.heap l items) (hx : items[i]? = some x)
    (hQ : ∀ h', IterIs t h' it l (i + 1) → Heap.SameBut it s.heap h' → Q x { s with heap := h' }) : wpAny (model prog w) A (Builtin.SmallTypes.nextOf (.ref it)) Q E s := by
  cases t with
  | false => exact wpAny_nextOf_list_item hit hl hx hQ
  | true => exact wpAny_nextOf_tuple_item hit hl hx hQ
theorem nextOf_end {t : Bool} {it l : Addr} {i : Nat} {items : Array Value} {Q : Value → Shared → Prop} (hh : A.handled = none) (hit : IterIs t s.heap it l i) (hl : SeqIs t s.heap l items) (hx : items[i]? = none)
    (hE : ∀ h' e, Heap.ExtBut it s.heap h' → (∃ o, h'.get? e = some o ∧ o.cls = .type "StopIteration") → E (.ref e) { s with heap := h' }) : wpAny (model prog w) A (Builtin.SmallTypes.nextOf (.ref it)) Q E s := by
  cases t with
  | false => exact wpAny_nextOf_list_end hh hit hl hx hE
  | true => exact wpAny_nextOf_tuple_end hh hit hl hx hE
theorem nextOrEnd_item {t : Bool} {it l : Addr} {i : Nat} {items : Array Value} {x : Value} {Q : Option Value → Shared → Prop} (hit : IterIs t s.heap it l i) (hl : SeqIs t s.heap l items) (hx : items[i]? = some x)
    (hQ : ∀ h', IterIs t h' it l (i + 1) → Heap.SameBut it s.heap h' → Q (some x) { s with heap := h' }) : wpAny (model prog w) A (Builtin.SmallTypes.nextOrEnd (.ref it)) Q E s := by
  unfold Builtin.SmallTypes.nextOrEnd
  exact wpAny_bind (wpAny_attempt (nextOf_item hit hl hx fun h' a b => wpAny_pure (hQ h' a b)))
theorem nextOrEnd_end {t : Bool} {it l : Addr} {i : Nat} {items : Array Value} {Q : Option Value → Shared → Prop} (hh : A.handled = none) (hit : IterIs t s.heap it l i) (hl : SeqIs t s.heap l items) (hx : items[i]? = none)
    (hQ : ∀ h', Heap.ExtBut it s.heap h' → Q none { s with heap := h' }) : wpAny (model prog w) A (Builtin.SmallTypes.nextOrEnd (.ref it)) Q E s := by
  unfold Builtin.SmallTypes.nextOrEnd
  refine wpAny_bind (wpAny_attempt (nextOf_end hh hit hl hx fun h' e a b => ?_))
  obtain ⟨o, ho, hc⟩ := b
  exact wpAny_bind (wpAny_isInstance (T := "StopIteration") (b := true) ⟨o, ho, hc⟩ isSubtype_stop (wpAny_pure (hQ _ a)))
theorem zipS_item {z TI TO i1 i2 l1 l2 : Addr} {t1 t2 : Bool} {k1 k2 : Nat} {xs ys : Array Value} {x y a b : Value} {Q : Value → Shared → Prop} (D : ZipApart z TI TO i1 i2 l1 l2)
    (hz : IsZipB true s.heap z TI TO .none) (hTI : IsPair s.heap TI (.ref i1) (.ref i2)) (hTO : IsPair s.heap TO a b)
    (h1 : IterIs t1 s.heap i1 l1 k1) (h2 : IterIs t2 s.heap i2 l2 k2) (hl1 : SeqIs t1 s.heap l1 xs) (hl2 : SeqIs t2 s.heap l2 ys) (hx : xs[k1]? = some x) (hy : ys[k2]? = some y)
    (hQ : ∀ h', IsZipB true h' z TI TO (rawInt s.heap.objs.size) → IsPair h' TO x y → IterIs t1 h' i1 l1 (k1 + 1) → IterIs t2 h' i2 l2 (k2 + 1) → IsPair h' s.heap.objs.size x y → h'.objs.size = s.heap.objs.size + 1 →
      (∀ c o, c ≠ z → c ≠ TO → c ≠ i1 → c ≠ i2 → s.heap.get? c = some o → h'.get? c = some o) → Q (.ref s.heap.objs.size) { s with heap := h' }) :
    wpAny (model prog w) A (Builtin.«zip.__next__» ⟨[.ref z], []⟩) (fun fin s' => ∃ v, fin = .done (.ret v) ∧ Q v s') E s := by
  show wpAny _ _ (field (.ref z) 2 >>= _) _ _ _
  refine wpAny_bind (wpAny_field hz rfl (x := .bool true) rfl ?_)
  show wpAny _ _ (field (.ref z) 3 >>= _) _ _ _
  refine wpAny_bind (wpAny_field hz rfl (x := .ref TI) rfl ?_)
  refine wpAny_bind (wpAny_seqItems hTI rfl ?_)
  show wpAny _ _ (Builtin.SmallTypes.ownedTupleIsFree (.ref z) >>= _) _ _ _
  refine wpAny_bind ?_
  unfold Builtin.SmallTypes.ownedTupleIsFree
  refine wpAny_bind (wpAny_field hz rfl (x := .none) rfl (wpAny_pure ?_))
  simp only [if_true]
  refine wpAny_bind (wpAny_rule ?_)
  refine wpAny_bind (wpAny_field hz rfl (x := .ref TO) rfl ?_)
  refine wpAny_bind (wpAny_setField_rec hz (by simp) fun h₁ hz₁ hs₁ => ?_)
  replace hz₁ : IsZipB true h₁ z TI TO .ellipsis := hz₁
  refine wpAny_bind ?_
  simp only [List.zipIdx_cons, List.zipIdx_nil, List.forIn_cons, List.forIn_nil]
  refine wpAny_bind (wpAny_bind (wpAny_onRaise ?_))
  show wpAny _ _ (Builtin.SmallTypes.nextOrEnd (.ref i1)) _ _ _
  refine nextOrEnd_item (h1.ext hs₁.extBut D.i1z) (hl1.ext hs₁.extBut D.l1z) hx fun h₂ h1₂ hs₂ => ?_
  have hTO₂ : IsPair h₂ TO a b := hs₂.extBut _ _ D.TOi1 (hs₁.extBut _ _ D.TOz hTO)
  refine wpAny_bind (wpAny_seqItems hTO₂ rfl ?_)
  refine wpAny_bind (wpAny_updateSeq_pair hTO₂ fun h₃ hTO₃ hs₃ => ?_)
  replace hTO₃ : IsPair h₃ TO x b := hTO₃
  refine wpAny_bind (wpAny_letGo (wpAny_pure ?_))
  refine wpAny_bind (wpAny_bind (wpAny_onRaise ?_))
  show wpAny _ _ (Builtin.SmallTypes.nextOrEnd (.ref i2)) _ _ _
  refine nextOrEnd_item (((h2.ext hs₁.extBut D.i2z).ext hs₂.extBut D.i12.symm).ext hs₃.extBut D.TOi2.symm)
    (((hl2.ext hs₁.extBut D.l2z).ext hs₂.extBut D.l2i1).ext hs₃.extBut D.l2TO) hy fun h₄ h2₄ hs₄ => ?_
  have hTO₄ : IsPair h₄ TO x b := hs₄.extBut _ _ D.TOi2 hTO₃
  refine wpAny_bind (wpAny_seqItems hTO₄ rfl ?_)
  refine wpAny_bind (wpAny_updateSeq_pair hTO₄ fun h₅ hTO₅ hs₅ => ?_)
  replace hTO₅ : IsPair h₅ TO x y := hTO₅
  refine wpAny_bind (wpAny_letGo (wpAny_pure (wpAny_pure ?_)))
  refine wpAny_bind (wpAny_seqItems hTO₅ rfl ?_)
  refine wpAny_bind (wpAny_newTuple ?_)
  have hsz : h₅.objs.size = s.heap.objs.size := by rw [hs₅.1, hs₄.1, hs₃.1, hs₂.1, hs₁.1]
  have hz₅ : IsZipB true h₅ z TI TO .ellipsis := hs₅.extBut _ _ D.TOz.symm (hs₄.extBut _ _ D.i2z.symm (hs₃.extBut _ _ D.TOz.symm (hs₂.extBut _ _ D.i1z.symm hz₁)))
  have hk₅ : ∀ c o, c ≠ z → c ≠ TO → c ≠ i1 → c ≠ i2 → s.heap.get? c = some o → h₅.get? c = some o := fun c o c1 c2 c3 c4 e =>
    hs₅.extBut _ _ c2 (hs₄.extBut _ _ c4 (hs₃.extBut _ _ c2 (hs₂.extBut _ _ c3 (hs₁.extBut _ _ c1 e))))
  have h1₅ : IterIs t1 h₅ i1 l1 (k1 + 1) := ((h1₂.ext hs₃.extBut D.TOi1.symm).ext hs₄.extBut D.i12).ext hs₅.extBut D.TOi1.symm
  have h2₅ : IterIs t2 h₅ i2 l2 (k2 + 1) := h2₄.ext hs₅.extBut D.TOi2.symm
  have hzlt : z < h₅.objs.size := Heap.lt_size hz₅
  show wpAny _ _ (Builtin.SmallTypes.ownedTupleHandOut (.ref z) (.ref h₅.objs.size) >>= _) _ _ _
  refine wpAny_bind ?_
  unfold Builtin.SmallTypes.ownedTupleHandOut
  have hz₆ : IsZipB true (h₅.push { cls := .type "tuple", data := .seq #[x, y] }) z TI TO .ellipsis := Heap.get?_push_of_some _ hz₅
  refine wpAny_bind (wpAny_setField_rec hz₆ (by simp) fun h₇ hz₇ hs₇ => ?_)
  replace hz₇ : IsZipB true h₇ z TI TO (rawInt h₅.objs.size) := hz₇
  refine wpAny_setField_rec hz₇ (by simp) fun h₈ hz₈ hs₈ => ?_
  replace hz₈ : IsZipB true h₈ z TI TO (rawInt h₅.objs.size) := hz₈
  have up : ∀ c o, c ≠ z → h₅.get? c = some o → h₈.get? c = some o := fun c o c1 e => hs₈.extBut _ _ c1 (hs₇.extBut _ _ c1 (Heap.get?_push_of_some _ e))
  have hT₈ : IsPair h₈ h₅.objs.size x y := hs₈.extBut _ _ (Nat.ne_of_gt hzlt) (hs₇.extBut _ _ (Nat.ne_of_gt hzlt) (Heap.get?_push_size _ rfl))
  have hz8 : h₈.objs.size = h₅.objs.size + 1 := by rw [hs₈.1, hs₇.1, Heap.size_push]
  rw [hsz] at hz₈ hT₈ hz8
  refine wpAny_pure ⟨_, rfl, ?_⟩
  show Q (.ref h₅.objs.size) _
  rw [hsz]
  exact hQ h₈ hz₈ (up _ _ D.TOz hTO₅) (h1₅.at fun o e => up _ o D.i1z e) (h2₅.at fun o e => up _ o D.i2z e) hT₈ hz8 fun c o c1 c2 c3 c4 e => up c o c1 (hk₅ c o c1 c2 c3 c4 e)
theorem zipS_end {z TI TO i1 i2 l1 l2 : Addr} {t1 t2 : Bool} {k1 k2 : Nat} {xs ys : Array Value} {a b : Value} {Q : PySem.Fin → Shared → Prop} (hh : A.handled = none) (D : ZipApart z TI TO i1 i2 l1 l2)
    (hz : IsZipB true s.heap z TI TO .none) (hTI : IsPair s.heap TI (.ref i1) (.ref i2)) (hTO : IsPair s.heap TO a b)
    (h1 : IterIs t1 s.heap i1 l1 k1) (h2 : IterIs t2 s.heap i2 l2 k2) (hl1 : SeqIs t1 s.heap l1 xs) (hl2 : SeqIs t2 s.heap l2 ys) (hx : xs[k1]? = none) (hy : ys[k2]? = none)
    (hE : ∀ h' e, (∀ c o, c ≠ z → c ≠ TO → c ≠ i1 → c ≠ i2 → s.heap.get? c = some o → h'.get? c = some o) → (∃ o, h'.get? e = some o ∧ o.cls = .type "StopIteration") → E (.ref e) { s with heap := h' }) :
    wpAny (model prog w) A (Builtin.«zip.__next__» ⟨[.ref z], []⟩) Q E s := by
  show wpAny _ _ (field (.ref z) 2 >>= _) _ _ _
  refine wpAny_bind (wpAny_field hz rfl (x := .bool true) rfl ?_)
  show wpAny _ _ (field (.ref z) 3 >>= _) _ _ _
  refine wpAny_bind (wpAny_field hz rfl (x := .ref TI) rfl ?_)
  refine wpAny_bind (wpAny_seqItems hTI rfl ?_)
  show wpAny _ _ (Builtin.SmallTypes.ownedTupleIsFree (.ref z) >>= _) _ _ _
  refine wpAny_bind ?_
  unfold Builtin.SmallTypes.ownedTupleIsFree
  refine wpAny_bind (wpAny_field hz rfl (x := .none) rfl (wpAny_pure ?_))
  simp only [if_true]
  refine wpAny_bind (wpAny_rule ?_)
  refine wpAny_bind (wpAny_field hz rfl (x := .ref TO) rfl ?_)
  refine wpAny_bind (wpAny_setField_rec hz (by simp) fun h₁ hz₁ hs₁ => ?_)
  replace hz₁ : IsZipB true h₁ z TI TO .ellipsis := hz₁
  refine wpAny_bind ?_
  simp only [List.zipIdx_cons, List.zipIdx_nil, List.forIn_cons, List.forIn_nil]
  refine wpAny_bind (wpAny_bind (wpAny_onRaise ?_))
  show wpAny _ _ (Builtin.SmallTypes.nextOrEnd (.ref i1)) _ _ _
  refine nextOrEnd_end hh (h1.ext hs₁.extBut D.i1z) (hl1.ext hs₁.extBut D.l1z) hx fun h₂ hs₂ => ?_
  have hz₂ : IsZipB true h₂ z TI TO .ellipsis := hs₂ _ _ D.i1z.symm hz₁
  refine wpAny_bind (wpAny_setField_rec hz₂ (by simp) fun h₃ hz₃ hs₃ => ?_)
  have e2 : IterIs t2 h₃ i2 l2 k2 := ((h2.ext hs₁.extBut D.i2z).at fun o e => hs₂ i2 o D.i12.symm e).ext hs₃.extBut D.i2z
  have e3 : SeqIs t2 h₃ l2 ys := ((hl2.ext hs₁.extBut D.l2z).at fun o e => hs₂ l2 o D.l2i1 e).ext hs₃.extBut D.l2z
  refine wpAny_bind ?_
  refine wpAny_ite_false (a := Builtin.SmallTypes.stopIteration) (c := 0 > 0) (decide_eq_false (by decide)) ?_
  rw [if_neg (Nat.lt_irrefl 0)]
  simp only [List.drop_succ_cons, List.drop_zero, List.zipIdx_cons, List.zipIdx_nil, List.forIn_cons, List.forIn_nil]
  refine wpAny_bind (wpAny_bind (wpAny_bind (nextOrEnd_end hh e2 e3 hy fun h₄ hs₄ => ?_)))
  simp only [Option.isSome_none, Bool.false_eq_true, if_false]
  refine wpAny_pure (wpAny_pure (wpAny_bind (wpAny_rule ?_)))
  show wpAny _ _ (newExc (.type "StopIteration") [] >>= _) _ _ _
  refine wpAny_bind ?_
  simp only [newExc, newTuple]
  refine wpAny_bind (wpAny_newObj_type ?_ (by size_fits))
  refine wpAny_bind (m := firstArgMember _ _) (wpAny_of_eq (a := Value.none) (by first | rfl | (simp only [firstArgMember]; rfl)) ?_)
  refine wpAny_newObj_type ?_ (by size_fits)
  simp only [raiseNew]
  refine wpAny_bind (wpAny_handled ?_)
  first | rw [show A.in1.handled = none from hh] | rw [hh]
  refine wpAny_bind (wpAny_pure (wpAny_throw ?_))
  exact hE _ _ (fun c o c1 c2 c3 c4 x => Heap.get?_push_of_some _ (Heap.get?_push_of_some _ (hs₄ _ _ c4 (hs₃.extBut _ _ c1 (hs₂ _ _ c3 (hs₁.extBut _ _ c1 x)))))) ⟨_, Heap.get?_push_size _ rfl, rfl⟩
theorem pyNextS_item {z TI TO i1 i2 l1 l2 : Addr} {t1 t2 : Bool} {k1 k2 : Nat} {xs ys : Array Value} {x y a b : Value} {Q : Option Value → Shared → Prop} (D : ZipApart z TI TO i1 i2 l1 l2)
    (hz : IsZipB true s.heap z TI TO .none) (hTI : IsPair s.heap TI (.ref i1) (.ref i2)) (hTO : IsPair s.heap TO a b)
    (h1 : IterIs t1 s.heap i1 l1 k1) (h2 : IterIs t2 s.heap i2 l2 k2) (hl1 : SeqIs t1 s.heap l1 xs) (hl2 : SeqIs t2 s.heap l2 ys) (hx : xs[k1]? = some x) (hy : ys[k2]? = some y)
    (hQ : ∀ h', IsZipB true h' z TI TO (rawInt s.heap.objs.size) → IsPair h' TO x y → IterIs t1 h' i1 l1 (k1 + 1) → IterIs t2 h' i2 l2 (k2 + 1) → IsPair h' s.heap.objs.size x y → h'.objs.size = s.heap.objs.size + 1 →
      (∀ c o, c ≠ z → c ≠ TO → c ≠ i1 → c ≠ i2 → s.heap.get? c = some o → h'.get? c = some o) → Q (some (.ref s.heap.objs.size)) { s with heap := h' }) :
    wpAny (model prog w) A (pyNext (.ref z)) Q E s := by
  have hT : s.TypeIs (.ref z) "zip" := ⟨_, hz, rfl⟩
  unfold pyNext
  exact wpAny_bind (wpAny_attempt (wpAny_callSpecial?_slot (name := Str.ofString "__next__") hT F.slot_zip_next
    (wpAny_call_entry F.slot_zip_next hT F.entry_zip_next
      (zipS_item D hz hTI hTO h1 h2 hl1 hl2 hx hy fun h' a1 a2 a3 a4 a5 a6 a7 => wpAny_pure (hQ h' a1 a2 a3 a4 a5 a6 a7)) (F.args_zip_next_1 _))))
theorem pyNextS_end {z TI TO i1 i2 l1 l2 : Addr} {t1 t2 : Bool} {k1 k2 : Nat} {xs ys : Array Value} {a b : Value} {Q : Option Value → Shared → Prop} (hh : A.handled = none) (D : ZipApart z TI TO i1 i2 l1 l2)
    (hz : IsZipB true s.heap z TI TO .none) (hTI : IsPair s.heap TI (.ref i1) (.ref i2)) (hTO : IsPair s.heap TO a b)
    (h1 : IterIs t1 s.heap i1 l1 k1) (h2 : IterIs t2 s.heap i2 l2 k2) (hl1 : SeqIs t1 s.heap l1 xs) (hl2 : SeqIs t2 s.heap l2 ys) (hx : xs[k1]? = none) (hy : ys[k2]? = none)
    (hQ : ∀ h', (∀ c o, c ≠ z → c ≠ TO → c ≠ i1 → c ≠ i2 → s.heap.get? c = some o → h'.get? c = some o) → Q none { s with heap := h' }) : wpAny (model prog w) A (pyNext (.ref z)) Q E s := by
  have hT : s.TypeIs (.ref z) "zip" := ⟨_, hz, rfl⟩
  unfold pyNext
  refine wpAny_bind (wpAny_attempt (wpAny_callSpecial?_slot (name := Str.ofString "__next__") hT F.slot_zip_next
    (wpAny_call_entry F.slot_zip_next hT F.entry_zip_next (zipS_end hh D hz hTI hTO h1 h2 hl1 hl2 hx hy fun h' e hk he => ?_) (F.args_zip_next_1 _))))
  obtain ⟨o, ho, hc⟩ := he
  refine wpAny_bind (wpAny_isInstance (T := "StopIteration") (b := true) ⟨o, ho, hc⟩ isSubtype_stop ?_)
  exact wpAny_pure (hQ _ hk)
theorem letGoS {elts : List Expr} {x1} {pos : Pos} {z TI TO T : Addr} {Q : Unit → Shared → Prop} (hz : IsZipB true s.heap z TI TO (rawInt T))
    (hQ : ∀ h', IsZipB true h' z TI TO .none → Heap.SameBut z s.heap h' → Q () { s with heap := h' }) :
    wpAny (model prog w) A (letOwnedTupleGo (.Tuple elts x1 pos) (.ref z) (.ref T)) Q E s := by
  unfold letOwnedTupleGo
  refine wpAny_bind (wpAny_load hz ?_)
  show wpAny _ _ (if (["enumerate", "zip", "dict_itemiterator", "dict_reverseitemiterator", "odict_iterator", "itertools.zip_longest", "itertools.pairwise"].contains "zip" &&
      (#[rawInt T, .bool false, .bool true, .ref TI, .ref TO] : Array Value)[0]? == some (rawInt T)) = true then _ else _) Q E s
  rw [if_pos (by simp)]
  refine wpAny_bind (wpAny_rule ?_)
  show wpAny _ _ (setField (.ref z) 0 .none) Q E s
  exact wpAny_setField_rec hz (by simp) fun h' hz' hs' => hQ h' hz' hs'
theorem pyIterS {z TI TO : Addr} {f0 : Value} {Q : Value → Shared → Prop} (hz : IsZipB true s.heap z TI TO f0) (h : Q (.ref z) s) : wpAny (model prog w) A (pyIter (.ref z)) Q E s := by
  have hT : s.TypeIs (.ref z) "zip" := ⟨_, hz, rfl⟩
  refine wpAny_pyIter_slot hT F.slot_zip_iter (wpAny_call_entry F.slot_zip_iter hT F.entry_zip_iter ?_ (F.args_zip_iter_1 _))
  show wpAny _ _ (ret (.ref z)) _ _ s
  exact wpAny_pure ⟨_, rfl, "zip", _, hT, F.slot_zip_next.lookup, h⟩
/-- iter(a) -/
theorem iter_new {t : Bool} {a : Addr} {items : Array Value} {Q : Value → Shared → Prop} (hl : SeqIs t s.heap a items) (h : Q (.ref s.heap.objs.size) { s with heap := s.heap.push (iterObj t a) }) : wpAny (model prog w) A (pyIter (.ref a)) Q E s := by
  cases t with
  | false => exact wpAny_pyIter_list hl h
  | true => exact wpAny_pyIter_tuple hl h
end
abbrev zH1 (h : Heap) (t1 : Bool) (l1 : Addr) : Heap := h.push (iterObj t1 l1)
abbrev zH2 (h : Heap) (t1 t2 : Bool) (l1 l2 : Addr) : Heap := (zH1 h t1 l1).push (iterObj t2 l2)
abbrev zH3 (h : Heap) (t1 t2 : Bool) (l1 l2 : Addr) : Heap := (zH2 h t1 t2 l1 l2).push { cls := .type "tuple", data := .seq #[.ref h.objs.size, .ref (zH1 h t1 l1).objs.size] }
abbrev zH4 (h : Heap) (t1 t2 : Bool) (l1 l2 : Addr) : Heap := (zH3 h t1 t2 l1 l2).push { cls := .type "tuple", data := .seq #[.none, .none] }
abbrev zH5 (b : Bool) (h : Heap) (t1 t2 : Bool) (l1 l2 : Addr) : Heap := (zH4 h t1 t2 l1 l2).push { cls := .type "zip", data := .fields #[.none, .bool false, .bool b, .ref (zH2 h t1 t2 l1 l2).objs.size, .ref (zH3 h t1 t2 l1 l2).objs.size] }
set_option maxHeartbeats 8000000 in
theorem meets_zipS_new (t1 t2 : Bool) (l1 l2 : Addr) (xs ys : Array Value) :
    Meets (Builtin.«zip.__new__» ⟨[.type "zip", .ref l1, .ref l2], [(Str.ofString "strict", .bool true)]⟩) (fun _ R s => SeqIs t1 s.heap l1 xs ∧ SeqIs t2 s.heap l2 ys ∧
      R (.ok (.ret (.ref (zH4 s.heap t1 t2 l1 l2).objs.size))) { s with heap := zH5 true s.heap t1 t2 l1 l2 }) :=
  .of_wp fun prog w A R s h => by
    obtain ⟨hp, g, d, tk, os⟩ := s; obtain ⟨hl1, hl2, h⟩ := h
    have hsub := sub_zip
    have e1 : (Str.ofString "strict" == ("strict" : Str)) = true := by decide +kernel
    have e2 : (Str.ofString "strict" != ("strict" : Str)) = false := by decide +kernel
    have q1 : ∀ {A' : Around} {E : Value → Shared → Prop} {Q : Value → Shared → Prop}, Q (.ref hp.objs.size) ⟨zH1 hp t1 l1, g, d, tk, os⟩ → wpAny (model prog w) A' (pyIter (.ref l1)) Q E ⟨hp, g, d, tk, os⟩ :=
      fun q => iter_new (s := ⟨hp, g, d, tk, os⟩) hl1 q
    have q2 : ∀ {A' : Around} {E : Value → Shared → Prop} {Q : Value → Shared → Prop}, Q (.ref (zH1 hp t1 l1).objs.size) ⟨zH2 hp t1 t2 l1 l2, g, d, tk, os⟩ → wpAny (model prog w) A' (pyIter (.ref l2)) Q E ⟨zH1 hp t1 l1, g, d, tk, os⟩ :=
      fun q => iter_new (s := ⟨zH1 hp t1 l1, g, d, tk, os⟩) (hl2.at fun o e => Heap.get?_push_of_some _ e) q
    wp_walk using q1, q2
    exact ⟨_, rfl, h⟩
namespace Fz
theorem typeCall (a b c : Value) : checkTypeCall "zip" ⟨[a, b], [(Str.ofString "strict", c)]⟩ = pure () := by kernel_rfl
theorem newCall (a b c : Value) : checkBuiltinCall "zip.__new__" ⟨[.type "zip", a, b], [(Str.ofString "strict", c)]⟩ = pure () := by kernel_rfl
theorem args_init (obj a b c : Value) : argsOk "object.__init__" ⟨[obj, a, b], [(Str.ofString "strict", c)]⟩ := by unfold argsOk; kernel_rfl
end Fz
section
variable {prog : Program} {w : World} {A : Around} {E : Value → Shared → Prop} {s : Shared}
theorem call_zipS {t1 t2 : Bool} {l1 l2 : Addr} {xs ys : Array Value} {Q : Value → Shared → Prop} (hl1 : SeqIs t1 s.heap l1 xs) (hl2 : SeqIs t2 s.heap l2 ys)
    (h : ∀ h', IsZipB true h' (s.heap.objs.size + 4) (s.heap.objs.size + 2) (s.heap.objs.size + 3) .none → IsPair h' (s.heap.objs.size + 2) (.ref s.heap.objs.size) (.ref (s.heap.objs.size + 1)) →
      IsPair h' (s.heap.objs.size + 3) .none .none → IterIs t1 h' s.heap.objs.size l1 0 → IterIs t2 h' (s.heap.objs.size + 1) l2 0 → h'.objs.size = s.heap.objs.size + 5 →
      (∀ c o, s.heap.get? c = some o → h'.get? c = some o) → Q (.ref (s.heap.objs.size + 4)) { s with heap := h' }) :
    wpAny (model prog w) A (call (.type "zip") [.ref l1, .ref l2] [(Str.ofString "strict", .bool true)]) Q E s := by
  refine callType_newKw F.called_zip (by decide) (Fz.typeCall _ _ _) (Fz.newCall _ _ _) (fun obj => Fz.args_init obj _ _ _) F.entry_zip_new
    (meets_zipS_new t1 t2 l1 l2 xs ys) ⟨hl1, hl2, ?_⟩
  have z1 : (zH1 s.heap t1 l1).objs.size = s.heap.objs.size + 1 := Heap.size_push ..
  have z2 : (zH2 s.heap t1 t2 l1 l2).objs.size = s.heap.objs.size + 2 := by rw [Heap.size_push, z1]
  have z3 : (zH3 s.heap t1 t2 l1 l2).objs.size = s.heap.objs.size + 3 := by rw [Heap.size_push, z2]
  have z4 : (zH4 s.heap t1 t2 l1 l2).objs.size = s.heap.objs.size + 4 := by rw [Heap.size_push, z3]
  have z5 : (zH5 true s.heap t1 t2 l1 l2).objs.size = s.heap.objs.size + 5 := by rw [Heap.size_push, z4]
  have g5 : (zH5 true s.heap t1 t2 l1 l2).get? (zH4 s.heap t1 t2 l1 l2).objs.size = some _ := Heap.get?_push_size _ rfl
  have g4 : (zH5 true s.heap t1 t2 l1 l2).get? (zH3 s.heap t1 t2 l1 l2).objs.size = some _ := Heap.get?_push_of_some _ (Heap.get?_push_size _ rfl)
  have g3 : (zH5 true s.heap t1 t2 l1 l2).get? (zH2 s.heap t1 t2 l1 l2).objs.size = some _ := Heap.get?_push_of_some _ (Heap.get?_push_of_some _ (Heap.get?_push_size _ rfl))
  have i1 : ∀ t a, (iterObj t a).isFreed = false := fun t a => by cases t <;> rfl
  have g2 : (zH5 true s.heap t1 t2 l1 l2).get? (zH1 s.heap t1 l1).objs.size = some _ := Heap.get?_push_of_some _ (Heap.get?_push_of_some _ (Heap.get?_push_of_some _ (Heap.get?_push_size _ (i1 _ _))))
  have g1 : (zH5 true s.heap t1 t2 l1 l2).get? s.heap.objs.size = some _ := Heap.get?_push_of_some _ (Heap.get?_push_of_some _ (Heap.get?_push_of_some _ (Heap.get?_push_of_some _ (Heap.get?_push_size _ (i1 _ _)))))
  show _ ∧ _
  rw [z2, z3, z4] at g5
  rw [z1, z2] at g3
  rw [z3] at g4
  rw [z1] at g2
  rw [z4]
  exact ⟨⟨_, g5, rfl⟩, h _ g5 g3 g4 (.new g1) (.new g2) z5 fun c o x =>
    Heap.get?_push_of_some _ (Heap.get?_push_of_some _ (Heap.get?_push_of_some _ (Heap.get?_push_of_some _ (Heap.get?_push_of_some _ x))))⟩
end

/-! ### the walk -/
def SqB (K : PySem.W.Frag) (H : Hp) : Bool → Addr → List V → Prop
  | false, a, xs => SqL K H a xs
  | true, a, xs => SqT K H a xs
section
variable {X : Cx} {pins : List (Addr × Obj)} {σ : L2.St} {H : Hp} {s : Shared}
theorem seqB (I : Inv X pins σ H s) {t : Bool} {a : Addr} {xs : List V} (h : SqB X.K H t a xs) : ∃ its : List Value, Vals xs its ∧ SeqIs t s.heap a its.toArray ∧ a < s.heap.objs.size := by
  cases t with
  | false =>
    obtain ⟨its, r, p, _⟩ := I.list h
    exact ⟨its, r, p.isList, p.lt⟩
  | true =>
    obtain ⟨its, r, p, _⟩ := I.tuple h
    exact ⟨its, r, p, p.lt⟩
theorem seqB_inj (I : Inv X pins σ H s) {t : Bool} {a : Addr} {xs ys : List V} (h : SqB X.K H t a xs) (h' : SqB X.K H t a ys) : xs = ys := by
  cases t with
  | false => exact I.list_inj h h'
  | true => exact I.tuple_inj h h'
end
/-- both sequences as they stand at each turn, of one length -/
def ItzS (K : PySem.W.Frag) (t1 t2 : Bool) (a b : Addr) : It :=
  ⟨fun i H => ∃ (xs ys : List V) (x y : V), SqB K H t1 a xs ∧ SqB K H t2 b ys ∧ xs[i]? = some x ∧ ys[i]? = some y,
    fun i H v H' => ∃ T x y, v = .ref T ∧ H T = none ∧ H' = upd H T (.tup [x, y]) ∧ (∀ xs, SqB K H t1 a xs → xs[i]? = some x) ∧ ∀ ys, SqB K H t2 b ys → ys[i]? = some y,
    fun i H => ∃ xs ys : List V, SqB K H t1 a xs ∧ SqB K H t2 b ys ∧ xs.length ≤ i ∧ ys.length ≤ i⟩
theorem turn_zipS {P : Program} {w : World} {K : PySem.W.Frag} {elts : List Expr} {kk : Nat} {tpos : Pos} {t1 t2 : Bool} {a b z TI TO i1 i2 : Addr} (D : ZipApart z TI TO i1 i2 a b) :
    Turn P w K (.Tuple elts kk tpos) (ItzS K t1 t2 a b) [z, TI, TO, i1, i2] z (fun i h => IsZipB true h z TI TO .none ∧ IsPair h TI (.ref i1) (.ref i2) ∧ (∃ x y, IsPair h TO x y) ∧ IterIs t1 h i1 a i ∧ IterIs t2 h i2 b i) where
  mem := by simp
  obj := fun i h st c hc => by
    obtain ⟨hz, hTI, ⟨x, y, hTO⟩, h1, h2⟩ := st
    have e' : c = z ∨ c = TI ∨ c = TO ∨ c = i1 ∨ c = i2 := by simpa using hc
    rcases e' with q | q | q | q | q
    · rw [q]; exact ⟨_, hz, fun v q => nomatch q⟩
    · rw [q]; exact ⟨_, hTI, fun v q => nomatch q⟩
    · rw [q]; exact ⟨_, hTO, fun v q => nomatch q⟩
    · rw [q]; exact h1.obj
    · rw [q]; exact h2.obj
  keep := fun i h h' st k => by
    obtain ⟨hz, hTI, ⟨x, y, hTO⟩, h1, h2⟩ := st
    exact ⟨k z (by simp) _ hz, k TI (by simp) _ hTI, ⟨x, y, k TO (by simp) _ hTO⟩, h1.at fun o q => k i1 (by simp) o q, h2.at fun o q => k i2 (by simp) o q⟩
  item := by
    intro X hP hw hK hc i pins s σ H E I hf st hg
    subst hP hw hK
    obtain ⟨hz, hTI, ⟨x0, y0, hTO⟩, h1, h2⟩ := st
    obtain ⟨xs, ys, x, y, hqx, hqy, hx, hy⟩ := hg
    obtain ⟨its, rv, p, _⟩ := seqB I hqx
    obtain ⟨its2, rv2, p2, _⟩ := seqB I hqy
    obtain ⟨u, hu, ru⟩ := rv.get hx
    obtain ⟨u2, hu2, ru2⟩ := rv2.get hy
    have hzl : z < s.heap.objs.size := Heap.lt_size hz
    have l1 : i1 < s.heap.objs.size := by obtain ⟨_, e, _⟩ := h1.obj; exact Heap.lt_size e
    have l2 : i2 < s.heap.objs.size := by obtain ⟨_, e, _⟩ := h2.obj; exact Heap.lt_size e
    refine pyNextS_item D hz hTI hTO h1 h2 p p2 (x := u) (y := u2) (by simpa using hu) (by simpa using hu2) fun h' z' TO' h1' h2' hT hsz hk => ?_
    refine ⟨_, rfl, letGoS (s := { s with heap := h' }) z' fun h'' z'' sb => ?_⟩
    have hT2 : h''.get? s.heap.objs.size = some { cls := .type "tuple", data := .seq #[u, u2] } := (sb.2 _ (Nat.ne_of_gt hzl)).trans hT
    have new : ObjOk X.prog X.w (upd H s.heap.objs.size (.tup [x, y])) h'' s.heap.objs.size (.tup [x, y]) :=
      ⟨by show 2 ≤ sizeLine; decide, [u, u2], .cons ru (.cons ru2 .nil), ⟨_, hT2, rfl, _, rfl⟩⟩
    have I1 : Inv X pins σ (upd H s.heap.objs.size (.tup [x, y])) { s with heap := h'' } :=
      I.turnedNew (t' := s.toks) (ch := [z, TI, TO, i1, i2]) (fun c o hb q => (sb.2 c (fun q' => hb (by simp [q']))).trans (hk c o (fun q' => hb (by simp [q'])) (fun q' => hb (by simp [q'])) (fun q' => hb (by simp [q'])) (fun q' => hb (by simp [q'])) q)) hf (Nat.le_refl _) new
    refine ⟨.ref s.heap.objs.size, _, I1, rfl, ⟨_, x, y, rfl, I.hok.fresh (Nat.le_refl _), rfl, fun l hl => by rw [seqB_inj I hl hqx]; exact hx, fun l hl => by rw [seqB_inj I hl hqy]; exact hy⟩, ⟨z'', ?_, ⟨u, u2, ?_⟩, ?_, ?_⟩, fun c hcm => ?_⟩
    · exact (sb.2 _ D.TIz).trans (hk _ _ D.TIz D.TITO D.TIi1 D.TIi2 hTI)
    · exact (sb.2 _ D.TOz).trans TO'
    · exact h1'.at fun o q => (sb.2 _ D.i1z).trans q
    · exact h2'.at fun o q => (sb.2 _ D.i2z).trans q
    · have hlt : c < s.heap.objs.size := by
        have e' : c = z ∨ c = TI ∨ c = TO ∨ c = i1 ∨ c = i2 := by simpa using hcm
        rcases e' with q | q | q | q | q
        · rw [q]; exact hzl
        · rw [q]; exact Heap.lt_size hTI
        · rw [q]; exact Heap.lt_size hTO
        · rw [q]; exact l1
        · rw [q]; exact l2
      rw [upd_ne (Nat.ne_of_lt hlt)]
      exact (hf c hcm).1
  done := by
    intro X hP hw hK hc i pins s σ H E I hf st hg
    subst hP hw hK
    obtain ⟨hz, hTI, ⟨x0, y0, hTO⟩, h1, h2⟩ := st
    obtain ⟨xs, ys, hqx, hqy, e1, e2⟩ := hg
    obtain ⟨its, rv, p, _⟩ := seqB I hqx
    obtain ⟨its2, rv2, p2, _⟩ := seqB I hqy
    have l1 := rv.length
    have l2 := rv2.length
    exact pyNextS_end (I.ok.hd hc) D hz hTI hTO h1 h2 p p2 (by simp; omega) (by simp; omega) fun h' hk => ⟨rfl, I.turnedL (t' := s.toks) (ch := [z, TI, TO, i1, i2]) (fun c o hb q =>
      hk c o (fun q' => hb (by simp [q'])) (fun q' => hb (by simp [q'])) (fun q' => hb (by simp [q'])) (fun q' => hb (by simp [q'])) q) hf⟩
  self := fun A i s Q E st h => pyIterS st.1 h
theorem callWith_type_kwB {M : Model} {A : Around} {E : Value → Shared → Prop} {s : Shared} {pos : Pos} {T : String} {first : List Value} {args : List (Bool × Sem Value)} {keywords : List (Option Str × Sem Value)} {Q : Value → Shared → Prop}
    (hplain : args.any (·.1) = false) (hkw : keywords.any (·.1.isNone) = false)
    (h : wpAny M A (evalArgs (.type T) true args keywords) (fun a s₁ => wpAny M A (call (.type T) (first ++ a.pos) a.kw) Q E s₁) E s) :
    wpAny M A (callWith pos (.type T) first args keywords) Q E s := by
  unfold callWith
  refine wpAny_bind (wpAny_holding (wpAny_mono h (fun a s₁ h₁ => wpAny_bind (wpAny_standAt ?_)) fun _ _ x => x))
  simp only [hplain, hkw, Bool.or_false]
  refine wpAny_bind (wpAny_pure ?_)
  exact wpAny_bind (wpAny_mono h₁ (fun r s₂ hr => wpAny_bind (wpAny_holding (wpAny_point (wpAny_pure hr)))) fun _ _ x => x)
theorem callWith_type_kw {M : Model} {A : Around} {E : Value → Shared → Prop} {s : Shared} {env : PySem.Env} {pos : Pos} {T : String} {e : Expr} {rest : List Expr} {kws : List Keyword} {Q : Value → Shared → Prop}
    (h : wpAny M A (spliced (backTo pos (starEach (e :: rest) env))) (fun vs s₁ => wpAny M A (evalAll ((backToKw pos (keywordEach kws env)).map (·.2)))
      (fun kvs s₂ => wpAny M A (call (.type T) vs (((backToKw pos (keywordEach kws env)).filterMap (·.1)).zip kvs)) Q E s₂) E s₁) E s)
    (he : backTo pos (starEach (e :: rest) env) = (false, eval e env) :: backTo pos (starEach rest env) := by rfl)
    (hplain : (backTo pos (starEach (e :: rest) env)).any (·.1) = false := by rfl)
    (hall : (backToKw pos (keywordEach kws env)).all (·.1.isSome) = true := by rfl)
    (hkw : (backToKw pos (keywordEach kws env)).any (·.1.isNone) = false := by rfl) :
    wpAny M A (callWith pos (.type T) [] (backTo pos (starEach (e :: rest) env)) (backToKw pos (keywordEach kws env))) Q E s := by
  refine callWith_type_kwB hplain hkw ?_
  rw [he] at h ⊢
  exact PyProof.Rows.evalArgs_kwB hall h
def iZipS (K : PySem.W.Frag) (ta : TA) : TI := fun σ H R => ta σ H fun vs H1 => ∃ (t1 t2 : Bool) (a b : Addr) (xs ys : List V), vs = [.ref a, .ref b] ∧ SqB K H1 t1 a xs ∧ SqB K H1 t2 b ys ∧ R (ItzS K t1 t2 a b) H1
theorem pi_zipS {X : Cx} {e e2 : Expr} {ta : TA} {p pos tpos cpos kpos : Pos} {ck : Nat} {elts : List Expr} {kk : Nat} (hg : Gl X "zip") (hm : X.mg "zip" = none) (ha : PA X [e, e2] ta)
    (hs : starEach [e, e2] X.env = [(false, eval e X.env), (false, eval e2 X.env)]) (hs2 : starEach [e2] X.env = [(false, eval e2 X.env)]) :
    PI X (.Tuple elts kk tpos) (.Call (.Name "zip" p) [e, e2] [⟨some (Str.ofString "strict"), .Constant (.bool true) ck cpos, kpos⟩] pos) (iZipS X.K ta) := by
  refine ⟨fun pins s σ H R I h => ?_⟩
  refine wpAny_Call_Name_kw (ld_blt I hg hm PyProof.Rows.boot_zip ?_)
  refine (callWith_type_kw (kws := [⟨some (Str.ofString "strict"), .Constant (.bool true) ck cpos, kpos⟩]) (thn (ha.run pos pins s σ H _ I h) fun us s1 ⟨vs, H1, I1, r1, q1⟩ => ?_) (by rw [hs, hs2]; rfl) (by rw [hs]; rfl))
  refine PyProof.Rows.kws_cons (PyProof.Rows.Constant_bool (PyProof.Rows.kws_nil ?_))
  obtain ⟨t1, t2, a, b, xs, ys, ex, hqx, hqy, q⟩ := q1
  subst ex
  cases r1 with
  | cons r rr =>
    cases rr with
    | cons r' rr =>
      cases rr
      cases r
      cases r'
      obtain ⟨its, rv, p1, la⟩ := seqB I1 hqx
      obtain ⟨its2, rv2, p2, lb⟩ := seqB I1 hqy
      refine call_zipS p1 p2 fun h' hz hTI hTO h1 h2 hsz hk => pyIterS hz ?_
      have I2 : Inv X pins σ H1 { s1 with heap := h' } := I1.kept (t' := s1.toks) hk
      refine ⟨s1.heap.objs.size + 4, [s1.heap.objs.size + 4, s1.heap.objs.size + 2, s1.heap.objs.size + 3, s1.heap.objs.size, s1.heap.objs.size + 1], _, _, H1, rfl, I2, turn_zipS (PySem.W.ktu_apart s1.heap.objs.size a b la lb), ⟨hz, hTI, ⟨_, _, hTO⟩, h1, h2⟩, fun c hcm => ?_, q⟩
      have e' : c = s1.heap.objs.size + 4 ∨ c = s1.heap.objs.size + 2 ∨ c = s1.heap.objs.size + 3 ∨ c = s1.heap.objs.size ∨ c = s1.heap.objs.size + 1 := by simpa using hcm
      have hle : s1.heap.objs.size ≤ c := by
        rcases e' with z | z | z | z | z
        · rw [z]; exact Nat.le_add_right _ _
        · rw [z]; exact Nat.le_add_right _ _
        · rw [z]; exact Nat.le_add_right _ _
        · rw [z]; exact Nat.le_refl _
        · rw [z]; exact Nat.le_add_right _ _
      exact I1.fpOk hle (I1.hok.fresh hle)
theorem walk_zipS {K : PySem.W.Frag} {t1 t2 : Bool} {a b : Addr} {xs ys : List V} (hn : xs.length = ys.length) : Walk (ItzS K t1 t2 a b) xs.length (fun H => SqB K H t1 a xs ∧ SqB K H t2 b ys) (YPair (fun i => xs[i]?) (fun i => ys[i]?)) := by
  refine ⟨fun i _ hi q => ?_, fun _ q => ⟨xs, ys, q.1, q.2, Nat.le_refl _, by omega⟩, fun i H v H' _ q y => ?_⟩
  · have h2 : i < ys.length := by omega
    exact ⟨xs, ys, xs[i], ys[i], q.1, q.2, by simp [hi], by simp [h2]⟩
  · obtain ⟨T, x, z, h1, h2, h3, h4, h5⟩ := y
    exact ⟨T, x, z, h1, h2, h3, h4 xs q.1, h5 ys q.2⟩
end DL

set_option Elab.async false
set_option linter.all false
set_option maxRecDepth 100000
set_option maxHeartbeats 4000000
/-! Wy: for i, x in enumerate(a) and enumerate(a, start=k), a a list or a tuple. -/
namespace DL
open PySem PySem.Spec L2
theorem begins (t : Bool) (a : Addr) (items : Array Value) : Begins (.ref a) (iterObj t a) fun h => SeqIs t h a items := by
  cases t with
  | false => exact begins_list a items
  | true => exact begins_tuple a items
set_option maxHeartbeats 1000000 in
theorem meets_enum1 {v : Value} {o : Obj} {H : Heap → Prop} (B : Begins v o H) :
    Meets (Builtin.«enumerate.__new__» ⟨[.type "enumerate", v], []⟩) (fun _ R s => H s.heap ∧
      R (.ok (.ret (.ref (s.heap.push o).objs.size))) { s with heap := (s.heap.push o).push { cls := .type "enumerate", data := .fields #[.none, .bool false, .ref s.heap.objs.size, rawInt 0, .none, .none] } }) :=
  .of_wp fun prog w A R s h => by
    obtain ⟨hp, g, d, tk, os⟩ := s; obtain ⟨h1, h⟩ := h
    have hsub := sub_enumerate
    have q1 : ∀ {A' : Around} {E : Value → Shared → Prop} {Q : Value → Shared → Prop}, Q (.ref hp.objs.size) ⟨hp.push o, g, d, tk, os⟩ → wpAny (model prog w) A' (pyIter v) Q E ⟨hp, g, d, tk, os⟩ :=
      fun q => B.iter prog w _ _ ⟨hp, g, d, tk, os⟩ _ h1 q
    wp_walk using q1
    refine wpAny_stack_any fun st => wpAny_pure ?_
    split
    · rename_i c _ _ _ _ _
      cases (c == Value.type "enumerate")
      · wp_walk using q1
        exact ⟨_, rfl, h⟩
      · wp_walk using q1
        exact ⟨_, rfl, h⟩
    · wp_walk using q1
      exact ⟨_, rfl, h⟩
section
variable {prog : Program} {w : World} {A : Around} {E : Value → Shared → Prop} {s : Shared}
theorem enum_begins1 {v : Value} {o : Obj} {H : Heap → Prop} {Q : Value → Shared → Prop} (B : Begins v o H) (h1 : H s.heap)
    (h : ∀ h', IsEnum h' (s.heap.objs.size + 1) s.heap.objs.size 0 .none → h'.get? s.heap.objs.size = some o → h'.objs.size = s.heap.objs.size + 2 →
      (∀ b o, s.heap.get? b = some o → h'.get? b = some o) → Q (.ref (s.heap.objs.size + 1)) { s with heap := h' }) :
    wpAny (model prog w) A (call (.type "enumerate") [v]) Q E s := by
  refine callType_new F.called_enumerate (by decide) (F.typeCall_enumerate_1 _) (F.newCall_enumerate_1 _) (fun obj => F.args_object_init_2 obj _) F.entry_enumerate_new
    (meets_enum1 B) ⟨h1, ?_⟩
  have hz : (s.heap.push o).objs.size = s.heap.objs.size + 1 := Heap.size_push ..
  show _ ∧ _
  rw [hz]
  have he : IsEnum ((s.heap.push o).push { cls := .type "enumerate", data := .fields #[.none, .bool false, .ref s.heap.objs.size, rawInt 0, .none, .none] }) (s.heap.objs.size + 1) s.heap.objs.size 0 .none := by
    have := Heap.get?_push_size (s.heap.push o) (o := { cls := .type "enumerate", data := .fields #[.none, .bool false, .ref s.heap.objs.size, rawInt 0, .none, .none] }) rfl
    rw [hz] at this; exact this
  exact ⟨⟨_, he, rfl⟩, h _ he (Heap.get?_push_of_some _ (Heap.get?_push_size _ B.free)) (by rw [Heap.size_push, hz]) fun b o x => Heap.get?_push_of_some _ (Heap.get?_push_of_some _ x)⟩
theorem enumB_item {t : Bool} {e it l : Addr} {i : Nat} {c : Int} {items : Array Value} {x old : Value} {Q : Value → Shared → Prop}
    (he : IsEnum s.heap e it c old) (hit : IterIs t s.heap it l i) (hl : SeqIs t s.heap l items) (hx : items[i]? = some x) (hne : e ≠ it)
    (hQ : ∀ h', IsEnumOut h' e it (c + 1) x s.heap.objs.size → IterIs t h' it l (i + 1) →
      h'.get? s.heap.objs.size = some { cls := .type "tuple", data := .seq #[.int c s.toks, x] } → h'.objs.size = s.heap.objs.size + 1 →
      (∀ b o, b ≠ e → b ≠ it → s.heap.get? b = some o → h'.get? b = some o) → Q (.ref s.heap.objs.size) { s with heap := h', toks := s.toks + 1 }) :
    wpAny (model prog w) A (Builtin.«enumerate.__next__» ⟨[.ref e], []⟩) (fun fin s' => ∃ v, fin = .done (.ret v) ∧ Q v s') E s := by
  obtain ⟨hp, g, d, tk, os⟩ := s
  show wpAny _ _ (field (.ref e) 2 >>= _) _ _ _
  refine wpAny_bind (wpAny_field he rfl (x := .ref it) rfl ?_)
  refine wpAny_bind (nextOf_item hit hl hx fun h₁ hit₁ hs₁ => ?_)
  replace hs₁ : Heap.SameBut it hp h₁ := hs₁
  have he₁ : IsEnum h₁ e it c old := (hs₁.2 e hne).trans he
  show wpAny _ _ (field (.ref e) 3 >>= _) _ _ ⟨h₁, g, d, tk, os⟩
  refine wpAny_bind (wpAny_field he₁ rfl (x := rawInt c) rfl ?_)
  show wpAny _ _ (field (.ref e) 4 >>= _) _ _ ⟨h₁, g, d, tk, os⟩
  refine wpAny_bind (wpAny_field he₁ rfl (x := .none) rfl ?_)
  show wpAny _ _ (mkInt c >>= _) _ _ ⟨h₁, g, d, tk, os⟩
  refine wpAny_bind (wpAny_mkInt ?_)
  show wpAny _ _ (setField (.ref e) 3 (rawInt (c + 1)) >>= _) _ _ ⟨h₁, g, d, tk + 1, os⟩
  refine wpAny_bind (wpAny_setField_rec he₁ (by simp) fun h₂ he₂ hs₂ => ?_)
  replace hs₂ : Heap.SameBut e h₁ h₂ := hs₂
  replace he₂ : IsEnum h₂ e it (c + 1) old := he₂
  show wpAny _ _ (setField (.ref e) 4 .none >>= _) _ _ ⟨h₂, g, d, tk + 1, os⟩
  refine wpAny_bind (wpAny_setField_rec he₂ (by simp) fun h₃ he₃ hs₃ => ?_)
  replace hs₃ : Heap.SameBut e h₂ h₃ := hs₃
  replace he₃ : IsEnum h₃ e it (c + 1) old := he₃
  show wpAny _ _ (newTuple [.int c tk, x] >>= _) _ _ ⟨h₃, g, d, tk + 1, os⟩
  refine wpAny_bind (wpAny_newTuple ?_)
  have he₄ : IsEnum (h₃.push { cls := .type "tuple", data := .seq #[.int c tk, x] }) e it (c + 1) old := Heap.get?_push_of_some _ he₃
  generalize hh₄ : h₃.push { cls := .type "tuple", data := .seq #[.int c tk, x] } = h₄ at he₄
  have hsz : h₃.objs.size = hp.objs.size := by rw [hs₃.1, hs₂.1, hs₁.1]
  have hel : e < hp.objs.size := Heap.lt_size he
  have ht₄ : h₄.get? hp.objs.size = some { cls := .type "tuple", data := .seq #[.int c tk, x] } := by rw [← hh₄, ← hsz]; exact Heap.get?_push_size _ rfl
  have hz₄ : h₄.objs.size = hp.objs.size + 1 := by rw [← hh₄, Heap.size_push, hsz]
  have hk₄ : ∀ b o, b ≠ e → b ≠ it → hp.get? b = some o → h₄.get? b = some o := fun b o hbe hbi hb => by
    rw [← hh₄]; exact Heap.get?_push_of_some _ (hs₃.extBut b o hbe (hs₂.extBut b o hbe (hs₁.extBut b o hbi hb)))
  have hit₄ : IterIs t h₄ it l (i + 1) := by
    rw [← hh₄]; exact ((hit₁.ext hs₂.extBut (Ne.symm hne)).ext hs₃.extBut (Ne.symm hne)).at fun o e => Heap.get?_push_of_some _ e
  show wpAny _ _ (Builtin.SmallTypes.ownedTupleIsFree (.ref e) >>= _) _ _ ⟨h₄, g, d, tk + 1, os⟩
  rw [hsz]
  clear hh₄ he₃ hs₃ he₂ hs₂ he₁ hs₁ hit₁ hsz h₃ h₂ h₁
  refine wpAny_bind ?_
  unfold Builtin.SmallTypes.ownedTupleIsFree
  refine wpAny_bind (wpAny_field he₄ rfl (x := .none) rfl (wpAny_pure ?_))
  simp only [if_true]
  refine wpAny_bind (wpAny_rule ?_)
  refine wpAny_bind (wpAny_field he₄ rfl (x := old) rfl ?_)
  refine wpAny_bind (wpAny_setField_rec he₄ (by simp) fun h₅ he₅ hs₅ => ?_)
  replace hs₅ : Heap.SameBut e h₄ h₅ := hs₅
  replace he₅ : IsEnum h₅ e it (c + 1) x := he₅
  show wpAny _ _ (Builtin.SmallTypes.ownedTupleHandOut (.ref e) (.ref hp.objs.size) >>= _) _ _ ⟨h₅, g, d, tk + 1, os⟩
  refine wpAny_bind ?_
  unfold Builtin.SmallTypes.ownedTupleHandOut
  refine wpAny_bind (wpAny_setField_rec he₅ (by simp) fun h₆ he₆ hs₆ => ?_)
  replace hs₆ : Heap.SameBut e h₅ h₆ := hs₆
  replace he₆ : IsEnumOut h₆ e it (c + 1) x hp.objs.size := he₆
  refine wpAny_setField_rec he₆ (by simp) fun h₇ he₇ hs₇ => ?_
  replace hs₇ : Heap.SameBut e h₆ h₇ := hs₇
  replace he₇ : IsEnumOut h₇ e it (c + 1) x hp.objs.size := he₇
  refine wpAny_bind (wpAny_letGo (wpAny_pure ⟨_, rfl, hQ h₇ he₇ ?_ ?_ ?_ ?_⟩))
  · exact ((hit₄.ext hs₅.extBut (Ne.symm hne)).ext hs₆.extBut (Ne.symm hne)).ext hs₇.extBut (Ne.symm hne)
  · exact hs₇.extBut _ _ (Nat.ne_of_gt hel) (hs₆.extBut _ _ (Nat.ne_of_gt hel) (hs₅.extBut _ _ (Nat.ne_of_gt hel) ht₄))
  · rw [hs₇.1, hs₆.1, hs₅.1, hz₄]
  · exact fun b o hbe hbi hb => hs₇.extBut b o hbe (hs₆.extBut b o hbe (hs₅.extBut b o hbe (hk₄ b o hbe hbi hb)))
theorem pyNextE_item {t : Bool} {e it l : Addr} {i : Nat} {c : Int} {items : Array Value} {x old : Value} {Q : Option Value → Shared → Prop}
    (he : IsEnum s.heap e it c old) (hit : IterIs t s.heap it l i) (hl : SeqIs t s.heap l items) (hx : items[i]? = some x) (hne : e ≠ it)
    (hQ : ∀ h', IsEnumOut h' e it (c + 1) x s.heap.objs.size → IterIs t h' it l (i + 1) →
      h'.get? s.heap.objs.size = some { cls := .type "tuple", data := .seq #[.int c s.toks, x] } → h'.objs.size = s.heap.objs.size + 1 →
      (∀ b o, b ≠ e → b ≠ it → s.heap.get? b = some o → h'.get? b = some o) → Q (some (.ref s.heap.objs.size)) { s with heap := h', toks := s.toks + 1 }) :
    wpAny (model prog w) A (pyNext (.ref e)) Q E s := by
  have hT : s.TypeIs (.ref e) "enumerate" := ⟨_, he, rfl⟩
  unfold pyNext
  exact wpAny_bind (wpAny_attempt (wpAny_callSpecial?_slot (name := Str.ofString "__next__") hT F.slot_enumerate_next
    (wpAny_call_entry F.slot_enumerate_next hT F.entry_enumerate_next
      (enumB_item he hit hl hx hne fun h' a b c d k => wpAny_pure (hQ h' a b c d k)) (F.args_enumerate_next_1 _))))
theorem pyNextE_end {t : Bool} {e it l : Addr} {i : Nat} {c : Int} {items : Array Value} {old : Value} {Q : Option Value → Shared → Prop} (hh : A.handled = none)
    (he : IsEnum s.heap e it c old) (hit : IterIs t s.heap it l i) (hl : SeqIs t s.heap l items) (hx : items[i]? = none)
    (hQ : ∀ h', Heap.ExtBut it s.heap h' → Q none { s with heap := h' }) : wpAny (model prog w) A (pyNext (.ref e)) Q E s := by
  have hT : s.TypeIs (.ref e) "enumerate" := ⟨_, he, rfl⟩
  unfold pyNext
  refine wpAny_bind (wpAny_attempt (wpAny_callSpecial?_slot (name := Str.ofString "__next__") hT F.slot_enumerate_next
    (wpAny_call_entry F.slot_enumerate_next hT F.entry_enumerate_next ?_ (F.args_enumerate_next_1 _))))
  show wpAny _ _ (field (.ref e) 2 >>= _) _ _ _
  refine wpAny_bind (wpAny_field he rfl (x := .ref it) rfl ?_)
  refine wpAny_bind (nextOf_end hh hit hl hx fun h' x he' hx' => ?_)
  obtain ⟨o, ho, hc⟩ := hx'
  refine wpAny_bind (wpAny_isInstance (T := "StopIteration") (b := true) ⟨o, ho, hc⟩ isSubtype_stop ?_)
  exact wpAny_pure (hQ _ he')
end
def ItE (K : PySem.W.Frag) (t : Bool) (c : Int) (a : Addr) : It :=
  ⟨fun i H => ∃ (xs : List V) (x : V), SqB K H t a xs ∧ xs[i]? = some x, fun i H v H' => ∃ T x, v = .ref T ∧ H T = none ∧ H' = upd H T (.tup [.int (c + (i : Nat)), x]) ∧ ∀ xs, SqB K H t a xs → xs[i]? = some x, fun i H => ∃ xs : List V, SqB K H t a xs ∧ xs.length ≤ i⟩
theorem turn_enumB {P : Program} {w : World} {K : PySem.W.Frag} {elts : List Expr} {kk : Nat} {tpos : Pos} {t : Bool} {c : Int} (a e it : Addr) :
    Turn P w K (.Tuple elts kk tpos) (ItE K t c a) [e, it] e (fun i h => (∃ old, IsEnum h e it (c + ((i : Nat) : Int)) old) ∧ IterIs t h it a i ∧ e ≠ it) where
  mem := by simp
  obj := fun i h st b hb => by
    obtain ⟨⟨old, he⟩, hi, _⟩ := st
    have e' : b = e ∨ b = it := by simpa using hb
    rcases e' with z | z
    · rw [z]; exact ⟨_, he, fun v q => nomatch q⟩
    · rw [z]; exact hi.obj
  keep := fun i h h' st k => let ⟨⟨old, he⟩, hi, hne⟩ := st; ⟨⟨old, k e (by simp) _ he⟩, hi.at fun o q => k it (by simp) o q, hne⟩
  item := by
    intro X hP hw hK hc i pins s σ H E I hf st hg
    subst hP hw hK
    obtain ⟨⟨old, he⟩, hit, hne⟩ := st
    obtain ⟨xs, x, hq, hx⟩ := hg
    obtain ⟨its, rv, p, _⟩ := seqB I hq
    obtain ⟨u, hu, ru⟩ := rv.get hx
    have hel : e < s.heap.objs.size := Heap.lt_size he
    have hil : it < s.heap.objs.size := by obtain ⟨_, q, _⟩ := hit.obj; exact Heap.lt_size q
    refine pyNextE_item he hit p (x := u) (by simpa using hu) hne fun h' ho hit' hT hsz hk => ?_
    refine ⟨_, rfl, wpAny_letOwnedTupleGo_enum (s := { s with heap := h', toks := s.toks + 1 }) ho fun h'' he' sb => ?_⟩
    have hT2 : h''.get? s.heap.objs.size = some { cls := .type "tuple", data := .seq #[.int (c + (i : Nat)) s.toks, u] } := (sb.2 _ (Nat.ne_of_gt hel)).trans hT
    have new : ObjOk X.prog X.w (upd H s.heap.objs.size (.tup [.int (c + (i : Nat)), x])) h'' s.heap.objs.size (.tup [.int (c + (i : Nat)), x]) :=
      ⟨by show 2 ≤ sizeLine; decide, [.int (c + (i : Nat)) s.toks, u], .cons ⟨_, rfl⟩ (.cons ru .nil), ⟨_, hT2, rfl, _, rfl⟩⟩
    have I1 : Inv X pins σ (upd H s.heap.objs.size (.tup [.int (c + (i : Nat)), x])) { s with heap := h'', toks := s.toks + 1 } :=
      I.turnedNew (ch := [e, it]) (fun b ob hb q => (sb.2 b (fun z => hb (by simp [z]))).trans (hk b ob (fun z => hb (by simp [z])) (fun z => hb (by simp [z])) q)) hf (Nat.le_refl _) new
    refine ⟨.ref s.heap.objs.size, _, I1, rfl, ⟨_, x, rfl, I.hok.fresh (Nat.le_refl _), rfl, fun ys hy => by rw [seqB_inj I hy hq]; exact hx⟩, ⟨⟨u, ?_⟩, hit'.at fun o q => (sb.2 it (Ne.symm hne)).trans q, hne⟩, fun b hb => ?_⟩
    · have e1 : c + ((i + 1 : Nat) : Int) = c + (i : Int) + 1 := by omega
      rw [e1]; exact he'
    · have hb' : b < s.heap.objs.size := by
        have e' : b = e ∨ b = it := by simpa using hb
        rcases e' with z | z
        · rw [z]; exact hel
        · rw [z]; exact hil
      rw [upd_ne (Nat.ne_of_lt hb')]
      exact (hf b hb).1
  done := by
    intro X hP hw hK hc i pins s σ H E I hf st hg
    subst hP hw hK
    obtain ⟨⟨old, he⟩, hit, hne⟩ := st
    obtain ⟨xs, hq, hx⟩ := hg
    obtain ⟨its, rv, p, _⟩ := seqB I hq
    obtain ⟨f0, f1, f2, f3, f4, f5⟩ := hf it (by simp)
    have hl := rv.length
    exact pyNextE_end (I.ok.hd hc) he hit p (by simp; omega) fun h' eb => ⟨rfl, I.turned (t' := s.toks) (fun b o hb q => eb b o hb q) f0 f1 f3 f4 f5⟩
  self := fun A i s Q E st h => let ⟨⟨_, he⟩, _⟩ := st; wpAny_pyIter_enum he h
def iEnumB (K : PySem.W.Frag) (c : Int) (ta : TA) : TI := fun σ H R => ta σ H fun vs H1 => ∃ (t : Bool) (a : Addr) (xs : List V), vs = [.ref a] ∧ SqB K H1 t a xs ∧ R (ItE K t c a) H1
section
variable {X : Cx} {pins : List (Addr × Obj)} {σ : L2.St} {H : Hp} {s : Shared}
theorem enumB_begun {elts : List Expr} {kk : Nat} {tpos : Pos} {t : Bool} {c : Int} {a : Addr} {h' : Heap} {R : It → Hp → Prop} (I2 : Inv X pins σ H { s with heap := h' }) (I1 : Inv X pins σ H s)
    (he : IsEnum h' (s.heap.objs.size + 1) s.heap.objs.size c .none) (hit : h'.get? s.heap.objs.size = some (iterObj t a)) (q : R (ItE X.K t c a) H) :
    PIE X pins σ (.Tuple elts kk tpos) R (.ref (s.heap.objs.size + 1)) { s with heap := h' } := by
  refine ⟨s.heap.objs.size + 1, [s.heap.objs.size + 1, s.heap.objs.size], _, _, H, rfl, I2, turn_enumB a (s.heap.objs.size + 1) s.heap.objs.size, ⟨⟨.none, ?_⟩, .new hit, Nat.succ_ne_self _⟩, fun b hb => ?_, q⟩
  · show IsEnum h' _ _ (c + ((0 : Nat) : Int)) _
    rw [show c + ((0 : Nat) : Int) = c by simp]; exact he
  · have e' : b = s.heap.objs.size + 1 ∨ b = s.heap.objs.size := by simpa using hb
    have hle : s.heap.objs.size ≤ b := by
      rcases e' with z | z
      · rw [z]; exact Nat.le_add_right _ _
      · rw [z]; exact Nat.le_refl _
    exact I1.fpOk hle (I1.hok.fresh hle)
end
theorem pi_enumB {X : Cx} {e : Expr} {ta : TA} {p pos tpos : Pos} {elts : List Expr} {kk : Nat} (hg : Gl X "enumerate") (hm : X.mg "enumerate" = none) (ha : PA X [e] ta) (hs : starEach [e] X.env = [(false, eval e X.env)]) :
    PI X (.Tuple elts kk tpos) (.Call (.Name "enumerate" p) [e] [] pos) (iEnumB X.K 0 ta) := by
  refine ⟨fun pins s σ H R I h => ?_⟩
  refine PyProof.Rows.Call_ (ld_blt I hg hm PyProof.Rows.boot_enumerate (PyProof.Rows.callWith_type1 (thn (ha.run pos pins s σ H _ I h) fun us s1 ⟨vs, H1, I1, r1, q1⟩ => ?_) hs rfl))
  obtain ⟨t, a, xs, ex, hq, q⟩ := q1
  subst ex
  cases r1 with
  | cons r rr =>
    cases rr
    cases r
    obtain ⟨its, rv, p', _⟩ := seqB I1 hq
    refine enum_begins1 (begins t a its.toArray) p' fun h' he hit hsz hk => wpAny_pyIter_enum he ?_
    exact enumB_begun (I1.kept (t' := s1.toks) hk) I1 he hit q
theorem pi_enumS {X : Cx} {e : Expr} {ta : TA} {p pos tpos cpos kpos : Pos} {ck : Nat} {elts : List Expr} {kk : Nat} {c : Int} (h0 : -(2 ^ 63) ≤ c) (h1 : c < 2 ^ 63) (hg : Gl X "enumerate") (hm : X.mg "enumerate" = none) (ha : PA X [e] ta) (hs : starEach [e] X.env = [(false, eval e X.env)]) :
    PI X (.Tuple elts kk tpos) (.Call (.Name "enumerate" p) [e] [⟨some (Str.ofString "start"), .Constant (.int c) ck cpos, kpos⟩] pos) (iEnumB X.K c ta) := by
  refine ⟨fun pins s σ H R I h => ?_⟩
  refine wpAny_Call_Name_kw (ld_blt I hg hm PyProof.Rows.boot_enumerate ?_)
  refine (callWith_type_kw (kws := [⟨some (Str.ofString "start"), .Constant (.int c) ck cpos, kpos⟩]) (thn (ha.run pos pins s σ H _ I h) fun us s1 ⟨vs, H1, I1, r1, q1⟩ => ?_) (by rw [hs]; rfl) (by rw [hs]; rfl))
  refine PyProof.Rows.kws_cons (wpAny_Constant_int (PyProof.Rows.kws_nil ?_))
  obtain ⟨t, a, xs, ex, hq, q⟩ := q1
  subst ex
  cases r1 with
  | cons r rr =>
    cases rr
    cases r
    have I1 := I1.tok (s1.toks + 1)
    obtain ⟨its, rv, p', _⟩ := seqB I1 hq
    refine enum_begins_start (s := { s1 with toks := s1.toks + 1 }) (begins t a its.toArray) p' h0 h1 fun h' he hit hsz hk => wpAny_pyIter_enum he ?_
    exact enumB_begun (s := { s1 with toks := s1.toks + 1 }) (I1.kept (t' := s1.toks + 1) hk) I1 he hit q
theorem walk_enumB {K : PySem.W.Frag} {t : Bool} {c : Int} {a : Addr} {xs : List V} : Walk (ItE K t c a) xs.length (fun H => SqB K H t a xs) (YPair (fun i => some (.int (c + (i : Nat)))) (fun i => xs[i]?)) := by
  refine ⟨fun i _ hi q => ⟨xs, xs[i], q, by simp [hi]⟩, fun _ q => ⟨xs, q, Nat.le_refl _⟩, fun i H v H' _ q y => ?_⟩
  obtain ⟨T, x, h1, h2, h3, h4⟩ := y
  exact ⟨T, .int (c + (i : Nat)), x, h1, h2, h3, rfl, h4 xs q⟩
end DL

set_option Elab.async false
set_option linter.all false
set_option maxRecDepth 100000
set_option maxHeartbeats 4000000
/-! We: truth, items, slices, fields, built-ins, targets, what is walked. -/
namespace DL
open PySem PySem.Spec L2

section
variable {T : Tab} {K : PySem.W.Frag} {E : WX} {σ : L2.St} {ρ : Env} {F F' : Hp} {al al' : List Addr} {H H' : Hp} {S S' : Sto}
theorem isEmptyL {vs : List V} {ws : List W} (r : RwL T K F al vs ws) : vs.isEmpty = ws.isEmpty := by cases r <;> rfl
theorem truthy_sound {v : V} {w : W} {k : Bool} (g : Good T K F al S H) (r : Vw T K F al H v w) (e : truthy w = some k) : TruV K v H k := by
  unfold truthy at e
  split at e
  · cases e; cases r.non; rfl
  · cases e; cases r.bl; rfl
  · cases e; cases r.int; rfl
  · split at e
    · cases e; cases r.str
      rename_i hl
      exact ⟨by rw [← limit_eq]; exact hl, rfl⟩
    · cases e
  · cases e
    obtain ⟨a, xs, rfl, h1, h2⟩ := r.tup g.sub
    exact .inr (.inl ⟨xs, h1, by rw [isEmptyL h2]⟩)
  · cases e
    obtain ⟨a, xs, rfl, h1, h2⟩ := r.lst g.sub
    exact .inl ⟨xs, h1, by rw [isEmptyL h2]⟩
  · cases e
theorem atI_sound {vs : List V} {ws : List W} {i : Int} {w : W} (r : RwL T K F al vs ws) (h : atI ws i = some w) : ∃ v, atI vs i = some v ∧ Rw T K F al v w := by
  unfold atI at h ⊢
  rw [r.length]
  cases e : ixN ws.length i with
  | none => rw [e] at h; simp at h
  | some j =>
    rw [e] at h
    exact r.get h
theorem ix_sound {x y : V} {a b w : W} {Q : VK} (g : Good T K F al S H) (rx : Vw T K F al H x a) (ry : Rw T K F al y b) (e : getIx a b = some w) (h : RQ T K E σ F al H (.ok w S) Q) : rIx K x y H Q := by
  unfold getIx at e
  split at e
  · cases ry
    obtain ⟨p, xs, rfl, h1, h2⟩ := rx.tup g.sub
    obtain ⟨v, h3, h4⟩ := atI_sound h2 e
    exact .inr (.inl ⟨p, xs, _, v, rfl, rfl, h1, h3, h.val g h4⟩)
  · cases ry
    obtain ⟨p, xs, rfl, h1, h2⟩ := rx.lst g.sub
    obtain ⟨v, h3, h4⟩ := atI_sound h2 e
    exact .inl ⟨p, xs, _, v, rfl, rfl, h1, h3, h.val g h4⟩
  · cases e
def rSl (K : PySem.W.Frag) : V → Option Int → Option Int → Hp → VK → Prop := fun x lo hi H Q => rSlA K x lo hi H Q ∨ rSlL K x lo hi H Q
theorem sl_any {X : Cx} : SlR X (rSl X.K) := sl_tupA.or sl_list
theorem cut_sound {vs : List V} {ws : List W} (r : RwL T K F al vs ws) (lo hi : Option Int) : RwL T K F al (cutV vs lo hi) (cutW ws lo hi) := by
  unfold cutV cutW
  rw [r.length]
  exact (r.drop _).take _
theorem cut_whole {ws : List W} {lo hi : Option Int} (h : HT.sIx ws.length 0 lo = 0 ∧ HT.sIx ws.length ws.length hi = ws.length) : cutW ws lo hi = ws := by
  unfold cutW
  rw [h.1, h.2]
  simp
theorem sl_sound {x : V} {a w : W} {lo hi : Option Int} {Q : VK} (g : Good T K F al S H) (rx : Vw T K F al H x a) (e : getSl a lo hi = some w) (h : RQ T K E σ F al H (.ok w S) Q) : rSl K x lo hi H Q := by
  unfold getSl at e
  split at e
  · cases e
    obtain ⟨p, xs, rfl, h1, h2⟩ := rx.tup g.sub
    refine .inl ⟨p, xs, rfl, h1, fun hw => ?_, fun _ t ht => h.new g (cut_sound h2 _ _) ht⟩
    rw [h2.length] at hw
    refine h.val g ?_
    rw [cut_whole hw]
    cases rx with
    | same r => exact r
  · cases e
    obtain ⟨p, xs, rfl, h1, h2⟩ := rx.lst g.sub
    exact .inr ⟨p, xs, rfl, h1, fun t ht => h.newL g (cut_sound h2 _ _) ht⟩
  · cases e
theorem lookF_sound (hn : T.fld.Nodup) {f : Nat} {w : W} (hf : f < T.fld.length) : ∀ {gs : List (Str × V)} {fs : List (Nat × W)}, RwF T K F al gs fs → lookF f fs = some w → ∃ v, gs.lookup (T.f f) = some v ∧ Rw T K F al v w
  | _, _, .nil, e => by cases e
  | _, _, .cons (i := i) (fs := fs) l r t, e => by
    unfold lookF at e
    by_cases h : f = i
    · subst h
      rw [if_pos rfl] at e; cases e
      exact ⟨_, by rw [List.lookup_cons_self], r⟩
    · rw [if_neg h] at e
      obtain ⟨v, h1, h2⟩ := lookF_sound hn hf t e
      refine ⟨v, ?_, h2⟩
      rw [List.lookup_cons, show (T.f f == T.f i) = false from beq_eq_false_iff_ne.mpr fun q => h (Tab.f_inj hn hf l q)]
      exact h1
theorem noField {m : Str} (hm : m ∉ T.fld) : ∀ {gs : List (Str × V)} {fs : List (Nat × W)}, RwF T K F al gs fs → gs.lookup m = none
  | _, _, .nil => rfl
  | _, _, .cons (i := i) l r t => by
    rw [List.lookup_cons, show (m == T.f i) = false from beq_eq_false_iff_ne.mpr fun q => hm ?_]
    · exact noField hm t
    · rw [q]; unfold Tab.f; rw [List.getD_eq_getElem?_getD, List.getElem?_eq_getElem l]; exact List.getElem_mem l
/-- an instance's fields, however it stands -/
theorem getFld_sound {x : V} {a w : W} {c f : Nat} (hn : T.fld.Nodup) (hf : f < T.fld.length) (g : Good T K F al S H) (rx : Rw T K F al x a) (e : getFld S c f a = some w) :
    ∃ p dx gs v, x = .ref p ∧ H p = some (.ins (T.c c) dx gs) ∧ gs.lookup (T.f f) = some v ∧ Rw T K F al v w := by
  cases rx with
  | @ins a dx d gs fs h1 h2 =>
    replace e : (if d = c then lookF f fs else none) = some w := e
    split at e
    · rename_i q; subst q
      obtain ⟨v, h3, h4⟩ := lookF_sound hn hf h2 e
      exact ⟨_, _, _, v, rfl, g.sub _ _ h1, h3, h4⟩
    · cases e
  | @loc a n ha =>
    cases q : S[n]? with
    | none => simp only [getFld, q] at e; cases e
    | some cl =>
      have hc := g.cell n a cl ha q
      cases cl with
      | obj d fs =>
        simp only [getFld, q] at e
        split at e
        · rename_i q2; subst q2
          obtain ⟨dx, gs, h1, _, h2⟩ := hc
          obtain ⟨v, h3, h4⟩ := lookF_sound hn hf h2 e
          exact ⟨_, _, _, v, rfl, h1, h3, h4⟩
        · cases e
      | frz w2 =>
        cases w2 with
        | ins d fs =>
          simp only [getFld, q] at e
          split at e
          · rename_i q2; subst q2
            have hc : Rw T K F al (.ref a) (.ins d fs) := hc
            cases hc with
            | ins h1 h2 =>
              obtain ⟨v, h3, h4⟩ := lookF_sound hn hf h2 e
              exact ⟨_, _, _, v, rfl, g.sub _ _ h1, h3, h4⟩
          · cases e
        | _ => simp only [getFld, q] at e; cases e
      | _ => simp only [getFld, q] at e; cases e
  | _ => cases e

/-! ### isinstance -/
def Ty.s : Ty → String
  | .int => "int" | .bool => "bool" | .str => "str" | .tuple => "tuple" | .list => "list"
theorem tyX_lst {p : Addr} {xs : List V} (h : SqL K H p xs) : TyX K H (.ref p) (.type "list") := by
  rcases h with (h | ⟨o, h⟩) | ⟨o, its, n, h1, h2, _⟩
  · exact .base (.lst h)
  · exact .base (.frz h)
  · exact .kList h1 h2
theorem tyX_tup {p : Addr} {xs : List V} (h : SqT K H p xs) : TyX K H (.ref p) (.type "tuple") := by
  rcases h with (h | ⟨o, h⟩) | ⟨o, its, n, h1, h2, _⟩
  · exact .base (.tup h)
  · exact .fTuple h
  · exact .kTuple h1 h2
theorem isi_sound {x : V} {a : W} {t : Ty} {k : Bool} {Q : VK} (g : Good T K F al S H) (rx : Vw T K F al H x a) (e : isTy t a = some k) (h : Q (.bl k) H) : rIsi K [x, .ty t.s] H Q := by
  have kk : ∀ {s : String} {b : Bool}, kitB s t.s = some b → TyX K H x (.type s) → b = k → rIsi K [x, .ty t.s] H Q := fun {s b} h1 h2 h3 => ⟨x, .ty t.s, .type s, .type t.s, b, rfl, .ty _, h2, kit_ty h1, by rw [h3]; exact h⟩
  cases a with
  | non => cases rx.non; cases t <;> (cases e; exact kk (s := "NoneType") (by decide +kernel) (.base .non) rfl)
  | bl b => cases rx.bl; cases t <;> (cases e; exact kk (s := "bool") (by decide +kernel) (.base (.bl _)) rfl)
  | int i => cases rx.int; cases t <;> (cases e; exact kk (s := "int") (by decide +kernel) (.base (.int _)) rfl)
  | str i => cases rx.str; cases t <;> (cases e; exact kk (s := "str") (by decide +kernel) (.base (.str _)) rfl)
  | tup ws => obtain ⟨p, xs, rfl, h1, _⟩ := rx.tup g.sub; cases t <;> (cases e; exact kk (s := "tuple") (by decide +kernel) (tyX_tup h1) rfl)
  | lst ws => obtain ⟨p, xs, rfl, h1, _⟩ := rx.lst g.sub; cases t <;> (cases e; exact kk (s := "list") (by decide +kernel) (tyX_lst h1) rfl)
  | ins c fs => cases t <;> cases e
  | loc n => cases t <;> cases e
  | tpx n => cases t <;> cases e

/-! ### built-in functions -/
theorem allB_sound : ∀ {ws : List W} {bs : List Bool}, allB ws = some bs → ws = bs.map W.bl
  | [], bs, e => by cases e; rfl
  | .bl b :: ws, bs, e => by
    unfold allB at e
    rw [Option.map_eq_some_iff] at e
    obtain ⟨cs, h1, rfl⟩ := e
    rw [List.map_cons, ← allB_sound h1]
  | .non :: _, _, e => by cases e
  | .int _ :: _, _, e => by cases e
  | .str _ :: _, _, e => by cases e
  | .tup _ :: _, _, e => by cases e
  | .lst _ :: _, _, e => by cases e
  | .ins _ _ :: _, _, e => by cases e
  | .loc _ :: _, _, e => by cases e
  | .tpx _ :: _, _, e => by cases e
theorem allI_sound : ∀ {ws : List W} {bs : List Int}, allI ws = some bs → ws = bs.map W.int
  | [], bs, e => by cases e; rfl
  | .int b :: ws, bs, e => by
    unfold allI at e
    rw [Option.map_eq_some_iff] at e
    obtain ⟨cs, h1, rfl⟩ := e
    rw [List.map_cons, ← allI_sound h1]
  | .non :: _, _, e => by cases e
  | .bl _ :: _, _, e => by cases e
  | .str _ :: _, _, e => by cases e
  | .tup _ :: _, _, e => by cases e
  | .lst _ :: _, _, e => by cases e
  | .ins _ _ :: _, _, e => by cases e
  | .loc _ :: _, _, e => by cases e
  | .tpx _ :: _, _, e => by cases e
def Prim.nm : Prim → Str
  | .len => "len" | .abs => "abs" | .max => "max" | .min => "min" | .all => "all" | .any => "any" | .tuple => "tuple" | .list => "list" | .divmod => "divmod" | .sum => "sum" | .int => "int" | .bool => "bool"
abbrev rCall := List V → Hp → VK → Prop
def rPrim (K : PySem.W.Frag) : Prim → rCall
  | .len => fun xs H Q => (∃ p ys, xs = [.ref p] ∧ (SqL K H p ys ∨ SqT K H p ys) ∧ Q (.int ys.length) H) ∨ ∃ z, xs = [.str z] ∧ z.length ≤ sizeLine ∧ Q (.int z.length) H
  | .abs => fun xs H Q => ∃ i, xs = [.int i] ∧ Q (.int (if i < 0 then -i else i)) H
  | .max => fun xs H Q => ∃ i j, xs = [.int i, .int j] ∧ Q (.int (if j > i then j else i)) H
  | .min => fun xs H Q => ∃ i j, xs = [.int i, .int j] ∧ Q (.int (if j < i then j else i)) H
  | .all => rAll K
  | .any => rAny K
  | .tuple => fun xs H Q => ∃ p ys, xs = [.ref p] ∧ ((SqL K H p ys ∧ ∀ l, H l = none → Q (.ref l) (upd H l (.tup ys))) ∨ (SqT K H p ys ∧ Q (.ref p) H))
  | .list => fun xs H Q => ∃ p ys, xs = [.ref p] ∧ (SqL K H p ys ∨ SqT K H p ys) ∧ ∀ l, H l = none → Q (.ref l) (upd H l (.lst ys))
  | .divmod => fun xs H Q => ∃ i j, xs = [.int i, .int j] ∧ CDiv i j ∧ ∀ p, H p = none → Q (.ref p) (upd H p (.tup [.int (i / j), .int (i % j)]))
  | .sum => rSum K
  | .int => fun xs H Q => (∃ i, xs = [.int i] ∧ Q (.int i) H) ∨ ∃ k, xs = [.bl k] ∧ Q (.int (if k then 1 else 0)) H
  | .bool => fun xs H Q => (∃ i, xs = [.int i] ∧ Q (.bl (i != 0)) H) ∨ ∃ k, xs = [.bl k] ∧ Q (.bl k) H
theorem vwL1 {xs : List V} {w : W} (h : VwL T K F al H xs [w]) : ∃ x, xs = [x] ∧ Vw T K F al H x w := by
  cases h with
  | cons a b => cases b; exact ⟨_, rfl, a⟩
theorem vwL2 {xs : List V} {w u : W} (h : VwL T K F al H xs [w, u]) : ∃ x y, xs = [x, y] ∧ Vw T K F al H x w ∧ Vw T K F al H y u := by
  cases h with
  | cons a b => cases b with
    | cons b c => cases c; exact ⟨_, _, rfl, a, b⟩
theorem prim_sound {p : Prim} {xs : List V} {ws : List W} {w : W} {Q : VK} (g : Good T K F al S H) (rx : VwL T K F al H xs ws) (e : prim p ws = some w) (h : RQ T K E σ F al H (.ok w S) Q) : rPrim K p xs H Q := by
  unfold prim at e
  split at e
  · cases e; obtain ⟨x, rfl, r⟩ := vwL1 rx
    obtain ⟨q, ys, rfl, h1, h2⟩ := r.tup g.sub
    exact .inl ⟨q, ys, rfl, .inr h1, by rw [h2.length]; exact h.val g (.int _)⟩
  · cases e; obtain ⟨x, rfl, r⟩ := vwL1 rx
    obtain ⟨q, ys, rfl, h1, h2⟩ := r.lst g.sub
    exact .inl ⟨q, ys, rfl, .inl h1, by rw [h2.length]; exact h.val g (.int _)⟩
  · split at e
    · cases e; obtain ⟨x, rfl, r⟩ := vwL1 rx; cases r.str
      rename_i hl
      exact .inr ⟨_, rfl, by rw [← limit_eq]; exact hl, h.val g (.int _)⟩
    · cases e
  · cases e; obtain ⟨x, rfl, r⟩ := vwL1 rx; cases r.int
    exact ⟨_, rfl, h.val g (.int _)⟩
  · cases e; obtain ⟨x, y, rfl, r1, r2⟩ := vwL2 rx; cases r1.int; cases r2.int
    exact ⟨_, _, rfl, h.val g (.int _)⟩
  · cases e; obtain ⟨x, y, rfl, r1, r2⟩ := vwL2 rx; cases r1.int; cases r2.int
    exact ⟨_, _, rfl, h.val g (.int _)⟩
  · rw [Option.map_eq_some_iff] at e
    obtain ⟨bs, h1, rfl⟩ := e
    obtain ⟨x, rfl, r⟩ := vwL1 rx
    obtain ⟨q, ys, rfl, h3, h4⟩ := r.lst g.sub
    rw [allB_sound h1] at h4
    have := h4.bls
    subst this
    exact ⟨q, bs, rfl, h3, h.val g (.bl _)⟩
  · rw [Option.map_eq_some_iff] at e
    obtain ⟨bs, h1, rfl⟩ := e
    obtain ⟨x, rfl, r⟩ := vwL1 rx
    obtain ⟨q, ys, rfl, h3, h4⟩ := r.lst g.sub
    rw [allB_sound h1] at h4
    have := h4.bls
    subst this
    exact ⟨q, bs, rfl, h3, h.val g (.bl _)⟩
  · cases e; obtain ⟨x, rfl, r⟩ := vwL1 rx
    obtain ⟨q, ys, rfl, h1, h2⟩ := r.tup g.sub
    refine ⟨q, ys, rfl, .inr ⟨h1, h.val g ?_⟩⟩
    cases r with
    | same r => exact r
  · cases e; obtain ⟨x, rfl, r⟩ := vwL1 rx
    obtain ⟨q, ys, rfl, h1, h2⟩ := r.lst g.sub
    exact ⟨q, ys, rfl, .inl ⟨h1, fun t ht => h.new g h2 ht⟩⟩
  · cases e; obtain ⟨x, rfl, r⟩ := vwL1 rx
    obtain ⟨q, ys, rfl, h1, h2⟩ := r.tup g.sub
    exact ⟨q, ys, rfl, .inr h1, fun t ht => h.newL g h2 ht⟩
  · cases e; obtain ⟨x, rfl, r⟩ := vwL1 rx
    obtain ⟨q, ys, rfl, h1, h2⟩ := r.lst g.sub
    exact ⟨q, ys, rfl, .inl h1, fun t ht => h.newL g h2 ht⟩
  · split at e
    · cases e; obtain ⟨x, y, rfl, r1, r2⟩ := vwL2 rx; cases r1.int; cases r2.int
      rename_i hl
      exact ⟨_, _, rfl, hl, fun t ht => h.new g (.cons (.int _) (.cons (.int _) .nil)) ht⟩
    · cases e
  · rw [Option.map_eq_some_iff] at e
    obtain ⟨bs, h1, rfl⟩ := e
    obtain ⟨x, rfl, r⟩ := vwL1 rx
    obtain ⟨q, ys, rfl, h3, h4⟩ := r.lst g.sub
    rw [allI_sound h1] at h4
    have := h4.ints
    subst this
    exact ⟨q, bs, rfl, h3, h.val g (.int _)⟩
  · cases e; obtain ⟨x, rfl, r⟩ := vwL1 rx; cases r.int
    exact .inl ⟨_, rfl, h.val g (.int _)⟩
  · cases e; obtain ⟨x, rfl, r⟩ := vwL1 rx; cases r.bl
    exact .inr ⟨_, rfl, h.val g (.int _)⟩
  · cases e; obtain ⟨x, rfl, r⟩ := vwL1 rx; cases r.int
    exact .inl ⟨_, rfl, h.val g (.bl _)⟩
  · cases e; obtain ⟨x, rfl, r⟩ := vwL1 rx; cases r.bl
    exact .inr ⟨_, rfl, h.val g (.bl _)⟩
  · cases e
theorem items_sound {v : V} {w : W} {ws : List W} (g : Good T K F al S H) (r : Vw T K F al H v w) (e : items w = some ws) : ∃ a xs, v = .ref a ∧ (SqL K H a xs ∨ SqT K H a xs) ∧ RwL T K F al xs ws := by
  unfold items at e
  split at e
  · cases e; obtain ⟨a, xs, h1, h2, h3⟩ := r.tup g.sub; exact ⟨a, xs, h1, .inr h2, h3⟩
  · cases e
    cases r with
    | same r => cases r with
      | tpx q d r => exact ⟨_, _, rfl, .inr (.inl (.inr ⟨_, g.sub _ _ q⟩)), r⟩
  · cases e; obtain ⟨a, xs, h1, h2, h3⟩ := r.lst g.sub; exact ⟨a, xs, h1, .inl h2, h3⟩
  · cases e

/-! ### targets -/
theorem setAll_mono : ∀ {is : List Nat} {ws : List W} {ρ ρ' : Env}, setAll is ws ρ = some ρ' → ρ'.length = ρ.length
  | [], [], _, _, e => by cases e; rfl
  | [], _ :: _, _, _, e => by cases e
  | _ :: _, [], _, _, e => by cases e
  | i :: is, w :: ws, ρ, ρ', e => by
    have := setAll_mono (is := is) (ws := ws) e
    rw [this, List.length_set]
def gAll : List Nat → TGs
  | [] => gNil
  | i :: is => gCons (gName i) (gAll is)
def wiped (vs : List Nat) (σ : L2.St) : L2.St := L2.wipe σ vs
theorem wipe_set {σ : L2.St} {i : Nat} {v : Option V} : ∀ {vs : List Nat}, i ∈ vs → L2.wipe (σ.set i v) vs = L2.wipe σ vs
  | [], h => by cases h
  | u :: vs, h => by
    unfold L2.wipe
    by_cases e : i ∈ vs
    · rw [wipe_set e]
    · have : i = u := by rcases List.mem_cons.mp h with h | h; exact h; exact absurd h e
      subst this
      have : ∀ (ws : List Nat) (σ : L2.St), (L2.wipe (σ.set i v) ws).set i none = (L2.wipe σ ws).set i none := by
        intro ws
        induction ws with
        | nil => intro σ; show (σ.set i v).set i none = σ.set i none; rw [List.set_set]
        | cons x ws ih =>
          intro σ
          show ((L2.wipe (σ.set i v) ws).set x none).set i none = ((L2.wipe σ ws).set x none).set i none
          by_cases q : x = i
          · subst q; rw [List.set_set, List.set_set]; exact ih σ
          · rw [List.set_comm _ _ q, ih σ, List.set_comm _ _ q]
      exact this vs σ
theorem wipe_idem (σ : L2.St) (vs : List Nat) : True := trivial
theorem wipe_envOk (e : EnvOk T K F al σ ρ) : ∀ vs : List Nat, EnvOk T K F al (L2.wipe σ vs) (wipeW ρ vs)
  | [] => e
  | v :: vs => (wipe_envOk e vs).wipe v
/-- Q is wanted of all slots that fit, the slots out of vs as they were -/
theorem gAll_sound (vs : List Nat) : ∀ {is : List Nat} {xs : List V} {ws : List W} {σ σ0 : L2.St} {ρ ρ' : Env} {Q : L2.St → Hp → Prop}, RwL T K F al xs ws → EnvOk T K F al σ ρ → setAll is ws ρ = some ρ' → (∀ i ∈ is, i ∈ vs) → L2.wipe σ vs = L2.wipe σ0 vs →
    (∀ σ', EnvOk T K F al σ' ρ' → L2.wipe σ' vs = L2.wipe σ0 vs → Q σ' H) → gAll is xs σ H Q
  | [], _, _, σ, σ0, ρ, ρ', Q, .nil, e, h, _, hw, k => by cases h; exact ⟨rfl, k σ e hw⟩
  | [], _, _, _, _, _, _, _, .cons _ _, _, h, _, _, _ => by cases h
  | _ :: _, _, _, _, _, _, _, _, .nil, _, h, _, _, _ => by cases h
  | i :: is, _, _, σ, σ0, ρ, ρ', Q, .cons r t, e, h, hv, hw, k => by
    refine ⟨_, _, rfl, ?_⟩
    exact gAll_sound vs t (e.set r i) h (fun j hj => hv j (List.mem_cons_of_mem _ hj)) (by rw [wipe_set (hv i (List.mem_cons_self ..))]; exact hw) k
end

/-! ### a star in a target -/
section
variable {prog : Program} {w : World} {A : Around} {E : Value → Shared → Prop} {s : Shared} {env : PySem.Env}
theorem starT {l : Addr} {items : Array Value} {n i : Nat} {Q : List Value → Shared → Prop} (hl : PyProof.Rows.IsTup s.heap l items) (hh : A.handled = none) (hi : i < n) (hn : n ≤ items.size + 1) (hz : items.size ≤ 16384)
    (h : ∀ (h' : Heap) (tk : Nat), (∀ b o, s.heap.get? b = some o → h'.get? b = some o) → Q (items.toList.take i ++ [.ref h'.objs.size] ++ (items.toList.drop i).drop (items.size + 1 - n)) { s with heap := h'.push { cls := .type "list", data := .seq ((items.toList.drop i).take (items.size + 1 - n)).toArray }, toks := tk }) :
    wpAny (model prog w) A (unpackItems (.ref l) n (some i)) Q E s := by
  have hlt : l ≠ s.heap.objs.size := by obtain ⟨o, ho, _⟩ := hl; exact Nat.ne_of_lt (Heap.lt_size ho)
  unfold unpackItems
  refine wpAny_bind ?_
  unfold notIterableAtAll
  refine wpAny_bind (wpAny_specialOf hl.typeIs PyProof.Rows.slot_tuple_iter.lookup ?_)
  refine wpAny_pure ?_
  simp only [Bool.false_eq_true, if_false]
  refine wpAny_bind (wpAny_holding (PyProof.Rows.iter_tuple hl ?_))
  refine wpAny_bind (wpAny_holding (PyProof.Rows.draw_tuple hlt i 0 _ _ ⟨_, Heap.get?_push_size _ rfl, rfl, rfl⟩ (hl.push _) (by omega) fun h₁ hit₁ hs₁ => ?_))
  have hl₁ : PyProof.Rows.IsTup h₁ l items := (hl.push _).extBut hs₁.extBut hlt
  rw [Nat.zero_add] at hit₁
  have hit₁' := hit₁
  obtain ⟨oi, hoi, _⟩ := hit₁'
  have hl₁' := hl₁
  obtain ⟨ol, hol, _⟩ := hl₁'
  rw [List.drop_zero]
  have hfl : (items.toList.take i).length = i := by rw [List.length_take, Array.length_toList]; omega
  rw [if_neg (show ¬ ((items.toList.take i).length < i) by rw [hfl]; omega)]
  refine wpAny_bind (wpAny_holding (PySem.W.kun_collect (s := { s with heap := h₁ }) (T := "tuple_iterator") (.inr (.inr (.inr rfl))) (Walks.tuple (A := A.in1) hh s.heap.objs.size l hlt items) (fun j u st => st.1.typeIs) (k := i) (by omega) ⟨hit₁, hl₁⟩ (Heap.lt_size hoi) (Heap.lt_size hol) (fun h₂ tk hk => ?_) (by rw [sizeLine_eq]; omega)))
  have hrl : (items.toList.drop i).length = items.size - i := by rw [List.length_drop, Array.length_toList]
  have hmid : (items.toList.drop i).length - (n - 1 - i) = items.size + 1 - n := by rw [hrl]; omega
  show wpAny _ _ (if (items.toList.drop i).length < n - 1 - i then _ else _) _ _ _
  rw [if_neg (by rw [hrl]; omega)]
  show wpAny _ _ (newList ((items.toList.drop i).take ((items.toList.drop i).length - (n - 1 - i))) >>= fun d => pure (items.toList.take i ++ [d] ++ (items.toList.drop i).drop ((items.toList.drop i).length - (n - 1 - i)))) _ _ _
  rw [hmid]
  have he : Heap.ExtBut s.heap.objs.size s.heap h₂ := fun b o hb e => hk b o hb (hs₁.extBut b o hb (Heap.get?_push_of_some _ e))
  exact wpAny_bind (wpAny_newList (s := { s with heap := h₂, toks := tk }) (wpAny_pure (h h₂ tk fun b o e => he b o (Nat.ne_of_lt (Heap.lt_size e)) e)))
end
/-- a, b, *c = a tuple, the starred one last -/
def gStar (K : PySem.W.Frag) (n : Nat) (t : TGs) : TG := fun v σ H Q => ∃ a xs, v = .ref a ∧ SqT K H a xs ∧ n ≤ xs.length ∧ xs.length ≤ 16384 ∧ ∀ p, H p = none → t (xs.take n ++ [.ref p]) σ (upd H p (.lst (xs.drop n))) Q
theorem pg_star {X : Cx} {pos : Pos} {es : List Expr} {k : Nat} {t : TGs} {n : Nat} (hc : X.calm = true) (h : PGs X es t)
    (hn : (assignEach es X.env).length = n + 1) (hst : (assignEach es X.env).findIdx? (·.1) = some n) : PG X (.Tuple es k pos) (gStar X.K n t) := by
  refine ⟨fun pins s σ H v u Q I r hw => ?_⟩
  obtain ⟨a, xs, e1, hq, h1, h2, hw⟩ := hw
  subst e1
  cases r
  obtain ⟨its, rv, ht, hz⟩ := I.tuple hq
  have hl := rv.length
  rw [PyProof.Rows.assign_Tuple]
  refine wpAny_bind (wpAny_standAt ?_)
  unfold unpack
  rw [hn, hst]
  refine wpAny_bind (wpAny_holding (starT ht (I.ok.hd hc) (Nat.lt_succ_self n) (by simp; omega) (by simp; omega) fun h' tk hk => ?_))
  have I1 : Inv X pins σ H { s with heap := h', toks := tk } := I.kept hk
  have e2 : its.toArray.size + 1 - (n + 1) = its.length - n := by rw [List.size_toArray]; omega
  have e3 : (its.toArray.toList.drop n).take (its.toArray.size + 1 - (n + 1)) = its.drop n := by rw [e2]; exact List.take_of_length_le (by simp)
  have e4 : (its.toArray.toList.drop n).drop (its.toArray.size + 1 - (n + 1)) = [] := by rw [e2]; exact List.drop_of_length_le (by simp)
  rw [e3, e4]
  have I2 := I1.lnew (t' := tk) (rv.drop n) (by rw [List.length_drop]; omega)
  refine h.run pins _ σ _ (xs.take n ++ [.ref h'.objs.size]) _ Q I2 ?_ (hw _ I1.fresh)
  rw [List.append_nil]
  exact (rv.take n).append (.cons rfl .nil)
end DL

set_option Elab.async false
set_option linter.all false
set_option maxRecDepth 100000
set_option maxHeartbeats 4000000
/-! Wf: parts of expressions as functions on data, each with its rule. -/
namespace DL
open PySem PySem.Spec L2

abbrev Me := Env → Sto → Res
abbrev Ml := Env → Sto → LRes
abbrev Mb := Env → Sto → BRes
abbrev EF : WX := fun _ _ _ _ => False
def mVar (i : Nat) : Me := fun ρ S => match ρ[i]? with
  | some (some w) => .ok w S
  | _ => .bad
def mCon (w : W) : Me := fun _ S => .ok w S
def mNil : Ml := fun _ S => .ok [] S
def mCons (m : Me) (ms : Ml) : Ml := fun ρ S => (m ρ S).bindL fun w S => (ms ρ S).bindL fun ws S => .ok (w :: ws) S
def mTup (ms : Ml) : Me := fun ρ S => (ms ρ S).bind fun ws S => if ws.length ≤ limit then .ok (.tup ws) S else .bad
def mLst (ms : Ml) : Me := fun ρ S => (ms ρ S).bind fun ws S => if ws.length ≤ limit then .ok (.lst ws) S else .bad
def mNLst (ms : Ml) : Me := fun ρ S => (ms ρ S).bind fun ws S => if ws.length ≤ limit then newCellR (.lst ws) S else .bad
def mBin (o : Operator) (a b : Me) : Me := fun ρ S => (a ρ S).bind fun x S => (b ρ S).bind fun y S => optR S (binop o (deref S x) (deref S y))
def negW : W → Option W
  | .int i => some (.int (-i))
  | _ => none
def mNeg (a : Me) : Me := fun ρ S => (a ρ S).bind fun x S => optR S (negW x)
def mNot (a : Me) : Me := fun ρ S => (a ρ S).bind fun x S => optR S ((truthy (deref S x)).map fun k => .bl (!k))
def mAnd (a b : Me) : Me := fun ρ S => (a ρ S).bind fun x S => match truthy (deref S x) with
  | some true => b ρ S
  | some false => .ok x S
  | none => .bad
def mOr (a b : Me) : Me := fun ρ S => (a ρ S).bind fun x S => match truthy (deref S x) with
  | some true => .ok x S
  | some false => b ρ S
  | none => .bad
def mCmp (o : CmpOp) (a b : Me) : Me := fun ρ S => (a ρ S).bind fun x S => (b ρ S).bind fun y S => optR S ((cmpop o (deref S x) (deref S y)).map .bl)
def mChain (o p : CmpOp) (a b c : Me) : Me := fun ρ S => (a ρ S).bind fun x S => (b ρ S).bind fun y S => match cmpop o (deref S x) (deref S y) with
  | some true => (c ρ S).bind fun z S => optR S ((cmpop p (deref S y) (deref S z)).map .bl)
  | some false => .ok (.bl false) S
  | none => .bad
def mIdx (a b : Me) : Me := fun ρ S => (a ρ S).bind fun x S => (b ρ S).bind fun y S => optR S (getIx (deref S x) y)
def mPart (a : Me) : Me := fun ρ S => (a ρ S).bind fun x S => match x with
  | .int i => .ok (.int i) S
  | _ => .bad
def mSlc (a l h : Me) : Me := fun ρ S => (a ρ S).bind fun x S => (l ρ S).bind fun l S => match partW l with
  | none => .bad
  | some l => (h ρ S).bind fun h S => match partW h with
    | none => .bad
    | some u => optR S (getSl (deref S x) l u)
def mFld (c f : Nat) (a : Me) : Me := fun ρ S => (a ρ S).bind fun x S => optR S (getFld S c f x)
def mPrim (p : Prim) (ms : Ml) : Me := fun ρ S => (ms ρ S).bind fun ws S => optR S (DL.prim p (ws.map (deref S)))
def mNlist (a : Me) : Me := fun ρ S => (a ρ S).bind fun x S => match items (deref S x) with
  | some ws => newCellR (.lst ws) S
  | none => .bad
def mIsi (t : Ty) (a : Me) : Me := fun ρ S => (a ρ S).bind fun x S => optR S ((isTy t (deref S x)).map .bl)
def mFrz (a : Me) : Me := fun ρ S => (a ρ S).bind freezeR
def appR (x y : W) (S : Sto) : Res := match x with
  | .loc n => match S[n]? with
    | some (.lst ws) => if ws.length < limit then .ok .non (S.set n (.lst (ws ++ [y]))) else .bad
    | _ => .bad
  | _ => .bad
def isCell (S : Sto) : W → Bool
  | .loc n => match S[n]? with
    | some (.lst _) => true
    | _ => false
  | _ => false
def mApp (a b : Me) : Me := fun ρ S => (a ρ S).bind fun x S => if isCell S x then (b ρ S).bind fun y S => appR x y S else .bad
def mLc (mt : Bool) (vs : List Nat) (tg : Tg) (it : Ml) (c : Mb) (elt : Me) : Me := fun ρ S => (it ρ S).bind fun xs S => if xs.length ≤ limit then
    (compM (lcStep ρ vs tg c elt) xs [] S).bind fun ys S => if mt then newCellR (.lst ys) S else .ok (.lst ys) S
  else .bad
def bYes : Mb := fun _ S => .ok true S
def bTest (a : Me) : Mb := fun ρ S => test (a ρ S)
def bAnd (a b : Mb) : Mb := fun ρ S => (a ρ S).bindB fun k S => if k then b ρ S else .ok false S
def bOr (a b : Mb) : Mb := fun ρ S => (a ρ S).bindB fun k S => if k then .ok true S else b ρ S
def bNot (a : Mb) : Mb := fun ρ S => (a ρ S).bindB fun k S => .ok (!k) S
def bIfx (c a b : Mb) : Mb := fun ρ S => (c ρ S).bindB fun k S => if k then a ρ S else b ρ S
def mIfx (c : Mb) (a b : Me) : Me := fun ρ S => (c ρ S).bind fun k S => if k then a ρ S else b ρ S
/-! what is walked -/
def jE (a : Me) : Ml := fun ρ S => (a ρ S).bindL fun x S => optL S (items x)
def jRange1 (a : Me) : Ml := fun ρ S => (a ρ S).bindL fun x S => match x with
  | .int j => if -(2 ^ 62) ≤ j ∧ j < 2 ^ 62 then .ok (rangeW 0 j.toNat) S else .bad
  | _ => .bad
def jRange2 (a b : Me) : Ml := fun ρ S => (a ρ S).bindL fun x S => (b ρ S).bindL fun y S => match x, y with
  | .int i, .int j => if (-(2 ^ 62) ≤ i ∧ i < 2 ^ 62) ∧ -(2 ^ 62) ≤ j ∧ j < 2 ^ 62 then .ok (rangeW i (j - i).toNat) S else .bad
  | _, _ => .bad
def jEnum (c : Int) (a : Me) : Ml := fun ρ S => (a ρ S).bindL fun x S => optL S ((items x).map (enumI c))
where enumI (n : Int) : List W → List W
  | [] => []
  | x :: xs => .tup [.int n, x] :: enumI (n + 1) xs
def jZip (a b : Me) : Ml := fun ρ S => (a ρ S).bindL fun x S => (b ρ S).bindL fun y S => match x, y with
  | .tup xs, .tup ys => .ok (zipW xs ys) S
  | .lst xs, .lst ys => .ok (zipW xs ys) S
  | _, _ => .bad
def jZips (a b : Me) : Ml := fun ρ S => (a ρ S).bindL fun x S => (b ρ S).bindL fun y S => match items x, items y with
  | some xs, some ys => if xs.length = ys.length then .ok (zipW xs ys) S else .bad
  | _, _ => .bad

theorem peM {X : Cx} {e : Expr} {t t' : TE} (h : PE X e t) (i : ∀ σ H Q, t' σ H Q → t σ H Q) : PE X e t' := ⟨fun pins s σ H Q I w => h.run pins s σ H Q I (i σ H Q w)⟩
theorem paM {X : Cx} {e : List Expr} {t t' : TA} (h : PA X e t) (i : ∀ σ H Q, t' σ H Q → t σ H Q) : PA X e t' := ⟨fun pos pins s σ H Q I w => h.run pos pins s σ H Q I (i σ H Q w)⟩
theorem ptM {X : Cx} {e : Expr} {t t' : TT} (h : PT X e t) (i : ∀ σ H Q, t' σ H Q → t σ H Q) : PT X e t' := ⟨fun pins s σ H Q I w => h.run pins s σ H Q I (i σ H Q w)⟩
theorem pwM {X : Cx} {e : Expr} {t t' : TT} (h : PW X e t) (i : ∀ σ H Q, t' σ H Q → t σ H Q) : PW X e t' := ⟨fun wh pins s σ H Q I w => h.run wh pins s σ H Q I (i σ H Q w)⟩
theorem poM {X : Cx} {e : Option Expr} {t t' : TO} (h : PO X e t) (i : ∀ σ H Q, t' σ H Q → t σ H Q) : PO X e t' := ⟨fun pins s σ H Q I w => h.run pins s σ H Q I (i σ H Q w)⟩
theorem piM {X : Cx} {tg e : Expr} {t t' : TI} (h : PI X tg e t) (i : ∀ σ H R, t' σ H R → t σ H R) : PI X tg e t' := ⟨fun pins s σ H Q I w => h.run pins s σ H Q I (i σ H Q w)⟩
theorem psM {X : Cx} {e : Stmt} {t t' : TS} (h : PS X e t) (i : ∀ D σ H, t' D σ H → t D σ H) : PS X e t' := ⟨fun pins s σ H D I w => h.run pins s σ H D I (i D σ H w)⟩
theorem pssM {X : Cx} {e : List Stmt} {t t' : TS} (h : PSs X e t) (i : ∀ D σ H, t' D σ H → t D σ H) : PSs X e t' := ⟨fun pins s σ H D I w => h.run pins s σ H D I (i D σ H w)⟩

section
variable {X : Cx} {T : Tab} {E : WX} {pos : Pos} {a b c : Expr} {p q r : Me} {es : List Expr} {ps : Ml} {bp bq : Mb}
theorem w_var {i : Nat} {x : Str} (hN : X.N[i]? = some x) (hv : Vis X.env.scope x) (hd : (x == ("__debug__" : Str)) = false) (hcd : (x == ("__classdict__" : Str)) = false) : PE X (.Name x pos) (tW T X.K E (mVar i)) := by
  refine peM (pe_var hN hv hd hcd) ?_
  rintro σ H Q ⟨F, al, S, ρ, g, e, h⟩
  unfold mVar at h
  split at h
  · rename_i w hw
    obtain ⟨v, h1, h2⟩ := e.2 i w hw
    exact ⟨v, h1, h.val g h2⟩
  · exact h.elim
theorem w_con {v : V} {w : W} (r : ∀ F al, Rw T X.K F al v w) (h : PE X a (tC v)) : PE X a (tW T X.K E (mCon w)) := by
  refine peM h ?_
  rintro σ H Q ⟨F, al, S, ρ, g, e, h⟩
  exact h.val g (r F al)
theorem w_int {i : Int} {j} : PE X (.Constant (.int i) j pos) (tW T X.K E (mCon (.int i))) := w_con (fun _ _ => .int i) pe_int
theorem w_bl {i : Bool} {j} : PE X (.Constant (.bool i) j pos) (tW T X.K E (mCon (.bl i))) := w_con (fun _ _ => .bl i) pe_bl
theorem w_non {j} : PE X (.Constant .none j pos) (tW T X.K E (mCon .non)) := w_con (fun _ _ => .non) pe_non
theorem w_str {i : Str} {j} : PE X (.Constant (.str i) j pos) (tW T X.K E (mCon (.str i))) := w_con (fun _ _ => .str i) pe_str
theorem w_glob {x : Str} {v : V} {u : Value} {w : W} (hg : Gl X x) (hm : X.mg x = some u) (r : RelV v u) (rw : ∀ F al, Rw T X.K F al v w) (hd : (x == ("__debug__" : Str)) = false) : PE X (.Name x pos) (tW T X.K E (mCon w)) := w_con rw (pe_glob hg hm r hd)
theorem w_nil : PA X [] (tL T X.K E mNil) := by
  refine paM pa_nil ?_
  rintro σ H Q ⟨F, al, S, ρ, g, e, h⟩
  exact RQ.valL h g .nil
theorem w_cons (ha : PE X a (tW T X.K E p)) (hr : PA X es (tL T X.K E ps)) (hs : starEach (a :: es) X.env = (false, eval a X.env) :: starEach es X.env) : PA X (a :: es) (tL T X.K E (mCons p ps)) := by
  refine paM (pa_cons ha hr hs) ?_
  rintro σ H Q ⟨F, al, S, ρ, g, e, h⟩
  refine (tW.bindL g e h).imp fun x H1 ⟨F1, al1, S1, w, m, r, h1⟩ => ?_
  refine (tL.bindL m.g m.e h1).imp fun y H2 ⟨F2, al2, S2, u, m2, r2, h2⟩ => ?_
  exact RQ.valL h2 m2.g (.cons (r.post m2.p) r2)
theorem w_tup {k : Nat} (h : PA X es (tL T X.K E ps)) : PE X (.Tuple es k pos) (tW T X.K E (mTup ps)) := by
  refine peM (pe_tup h) ?_
  rintro σ H Q ⟨F, al, S, ρ, g, e, h⟩
  refine (tL.bind g e h).imp fun x H1 ⟨F1, al1, S1, w, m, r, h1⟩ => ?_
  split at h1
  · rename_i hl
    exact ⟨by rw [r.length, ← limit_eq]; exact hl, fun p hp => h1.new m.g r hp⟩
  · exact h1.elim
theorem w_lst (h : PA X es (tL T X.K E ps)) : PE X (.List es pos) (tW T X.K E (mLst ps)) := by
  refine peM (pe_lst h) ?_
  rintro σ H Q ⟨F, al, S, ρ, g, e, h⟩
  refine (tL.bind g e h).imp fun x H1 ⟨F1, al1, S1, w, m, r, h1⟩ => ?_
  split at h1
  · rename_i hl
    exact ⟨by rw [r.length, ← limit_eq]; exact hl, fun p hp => h1.newL m.g r hp⟩
  · exact h1.elim
theorem w_nlst (h : PA X es (tL T X.K E ps)) : PE X (.List es pos) (tW T X.K E (mNLst ps)) := by
  refine peM (pe_lst h) ?_
  rintro σ H Q ⟨F, al, S, ρ, g, e, h⟩
  refine (tL.bind g e h).imp fun x H1 ⟨F1, al1, S1, w, m, r, h1⟩ => ?_
  split at h1
  · rename_i hl
    exact ⟨by rw [r.length, ← limit_eq]; exact hl, fun p hp => h1.newC m.g r hp⟩
  · exact h1.elim
theorem w_bin {o : Operator} (ha : PE X a (tW T X.K E p)) (hb : PE X b (tW T X.K E q)) : PE X (.BinOp a o b pos) (tW T X.K E (mBin o p q)) := by
  refine peM (pe_op (op_bin o) ha hb) ?_
  rintro σ H Q ⟨F, al, S, ρ, g, e, h⟩
  refine (tW.bind g e h).imp fun x H1 ⟨F1, al1, S1, w, m, r, h1⟩ => ?_
  refine (tW.bind m.g m.e h1).imp fun y H2 ⟨F2, al2, S2, u, m2, r2, h2⟩ => ?_
  exact bin_sound m2.g (vw_of m2.g (r.post m2.p)) (vw_of m2.g r2) h2
theorem optR_some {T : Tab} {K : PySem.W.Frag} {E : WX} {σ : L2.St} {F : Hp} {al : List Addr} {H : Hp} {S : Sto} {Q : VK} {o : Option W} (h : RQ T K E σ F al H (optR S o) Q) : ∃ w, o = some w ∧ RQ T K E σ F al H (.ok w S) Q := by
  cases o with
  | none => exact h.elim
  | some w => exact ⟨w, rfl, h⟩
theorem w_neg (ha : PE X a (tW T X.K E p)) : PE X (.UnaryOp .USub a pos) (tW T X.K E (mNeg p)) := by
  refine peM (pe_un un_neg ha) ?_
  rintro σ H Q ⟨F, al, S, ρ, g, e, h⟩
  refine (tW.bind g e h).imp fun x H1 ⟨F1, al1, S1, w, m, r, h1⟩ => ?_
  obtain ⟨u, e1, h2⟩ := optR_some h1
  unfold negW at e1
  split at e1
  · cases e1; cases r
    exact ⟨_, rfl, h2.val m.g (.int _)⟩
  · cases e1
theorem w_not (ha : PE X a (tW T X.K E p)) : PE X (.UnaryOp .Not a pos) (tW T X.K E (mNot p)) := by
  refine peM (pe_notT ha) ?_
  rintro σ H Q ⟨F, al, S, ρ, g, e, h⟩
  refine (tW.bind g e h).imp fun x H1 ⟨F1, al1, S1, w, m, r, h1⟩ => ?_
  obtain ⟨u, e1, h2⟩ := optR_some h1
  rw [Option.map_eq_some_iff] at e1
  obtain ⟨k, e1, rfl⟩ := e1
  exact ⟨k, truthy_sound m.g (vw_of m.g r) e1, h2.val m.g (.bl _)⟩
theorem w_and {rest : List Expr} (ha : PE X a (tW T X.K E p)) (hb : PE X (.BoolOp .And (b :: rest) pos) (tW T X.K E q)) : PE X (.BoolOp .And (a :: b :: rest) pos) (tW T X.K E (mAnd p q)) := by
  refine peM (pe_andT ha hb) ?_
  rintro σ H Q ⟨F, al, S, ρ, g, e, h⟩
  refine (tW.bind g e h).imp fun x H1 ⟨F1, al1, S1, w, m, r, h1⟩ => ?_
  split at h1
  · rename_i e1
    exact ⟨true, truthy_sound m.g (vw_of m.g r) e1, by rw [if_pos rfl]; exact ⟨F1, al1, S1, ρ, m.g, m.e, h1⟩⟩
  · rename_i e1
    exact ⟨false, truthy_sound m.g (vw_of m.g r) e1, by rw [if_neg Bool.false_ne_true]; exact h1.val m.g r⟩
  · exact h1.elim
theorem w_or {rest : List Expr} (ha : PE X a (tW T X.K E p)) (hb : PE X (.BoolOp .Or (b :: rest) pos) (tW T X.K E q)) : PE X (.BoolOp .Or (a :: b :: rest) pos) (tW T X.K E (mOr p q)) := by
  refine peM (pe_orT ha hb) ?_
  rintro σ H Q ⟨F, al, S, ρ, g, e, h⟩
  refine (tW.bind g e h).imp fun x H1 ⟨F1, al1, S1, w, m, r, h1⟩ => ?_
  split at h1
  · rename_i e1
    exact ⟨true, truthy_sound m.g (vw_of m.g r) e1, by rw [if_pos rfl]; exact h1.val m.g r⟩
  · rename_i e1
    exact ⟨false, truthy_sound m.g (vw_of m.g r) e1, by rw [if_neg Bool.false_ne_true]; exact ⟨F1, al1, S1, ρ, m.g, m.e, h1⟩⟩
  · exact h1.elim
theorem w_cmp {k : Nat} {o : CmpOp} (hr : Room k X.A) (ha : PE X a (tW T X.K E p)) (hb : PE X b (tW T X.K E q)) (hm : behindInMarks o b = false) : PE X (.Compare a [o] [b] pos) (tW T X.K E (mCmp o p q)) := by
  refine peM (pe_cmpR (op_cmp hr o) ha hb hm) ?_
  rintro σ H Q ⟨F, al, S, ρ, g, e, h⟩
  refine (tW.bind g e h).imp fun x H1 ⟨F1, al1, S1, w, m, r, h1⟩ => ?_
  refine (tW.bind m.g m.e h1).imp fun y H2 ⟨F2, al2, S2, u, m2, r2, h2⟩ => ?_
  obtain ⟨z, e1, h3⟩ := optR_some h2
  rw [Option.map_eq_some_iff] at e1
  obtain ⟨k, e1, rfl⟩ := e1
  exact cmp_sound m2.g (vw_of m2.g (r.post m2.p)) (vw_of m2.g r2) e1 (h3.val m2.g (.bl _))
theorem w_chain {k : Nat} {o o' : CmpOp} (hr : Room k X.A) (ha : PE X a (tW T X.K E p)) (hb : PE X b (tW T X.K E q)) (hc : PE X c (tW T X.K E r)) (hm : lastMarks [o, o'] [b, c] = false) : PE X (.Compare a [o, o'] [b, c] pos) (tW T X.K E (mChain o o' p q r)) := by
  refine peM (pe_chain (op_cmp hr o) (op_cmp hr o') ha hb hc hm) ?_
  rintro σ H Q ⟨F, al, S, ρ, g, e, h⟩
  refine (tW.bind g e h).imp fun x H1 ⟨F1, al1, S1, w, m, r, h1⟩ => ?_
  refine (tW.bind m.g m.e h1).imp fun y H2 ⟨F2, al2, S2, u, m2, r2, h2⟩ => ?_
  split at h2
  · rename_i e1
    refine cmp_sound m2.g (vw_of m2.g (r.post m2.p)) (vw_of m2.g r2) e1 ⟨true, rfl, ?_⟩
    rw [if_pos rfl]
    refine (tW.bind m2.g m2.e h2).imp fun z H3 ⟨F3, al3, S3, u3, m3, r3, h3⟩ => ?_
    obtain ⟨z, e1, h3⟩ := optR_some h3
    rw [Option.map_eq_some_iff] at e1
    obtain ⟨k, e1, rfl⟩ := e1
    exact cmp_sound m3.g (vw_of m3.g (r2.post m3.p)) (vw_of m3.g r3) e1 (h3.val m3.g (.bl _))
  · rename_i e1
    refine cmp_sound m2.g (vw_of m2.g (r.post m2.p)) (vw_of m2.g r2) e1 ⟨false, rfl, ?_⟩
    rw [if_neg Bool.false_ne_true]
    exact h2.val m2.g (.bl _)
  · exact h2.elim
theorem w_idx (ha : PE X a (tW T X.K E p)) (hb : PE X b (tW T X.K E q)) (hs : PlainIx b) : PE X (.Subscript a b pos) (tW T X.K E (mIdx p q)) := by
  refine peM (pe_ix ix_seq ha hb hs) ?_
  rintro σ H Q ⟨F, al, S, ρ, g, e, h⟩
  refine (tW.bind g e h).imp fun x H1 ⟨F1, al1, S1, w, m, r, h1⟩ => ?_
  refine (tW.bind m.g m.e h1).imp fun y H2 ⟨F2, al2, S2, u, m2, r2, h2⟩ => ?_
  obtain ⟨z, e1, h3⟩ := optR_some h2
  exact ix_sound m2.g (vw_of m2.g (r.post m2.p)) r2 e1 h3
/-! slices -/
def partV : V → Option (Option Int)
  | .non => some none
  | .int i => some (some i)
  | _ => none
def tOW (T : Tab) (K : PySem.W.Frag) (E : WX) (m : Me) : TO := fun σ H Q => tW T K E m σ H fun x H1 => ∃ o, partV x = some o ∧ Q o H1
theorem w_part (h : PE X a (tW T X.K E p)) : PO X (some a) (tOW T X.K E (mPart p)) := by
  refine poM (po_some h) ?_
  rintro σ H Q ⟨F, al, S, ρ, g, e, h⟩
  refine (tW.bind g e h).imp fun x H1 ⟨F1, al1, S1, w, m, r, h1⟩ => ?_
  split at h1
  · cases r
    obtain ⟨o, e1, e2⟩ := h1.val m.g (.int _)
    cases e1
    exact ⟨_, rfl, e2⟩
  · exact h1.elim
theorem w_noPart : PO X none (tOW T X.K E (mCon .non)) := by
  refine poM po_none ?_
  rintro σ H Q ⟨F, al, S, ρ, g, e, h⟩
  obtain ⟨o, e1, e2⟩ := h.val g .non
  cases e1; exact e2
theorem partW_sound {K : PySem.W.Frag} {F : Hp} {al : List Addr} {v : V} {w : W} {o : Option Int} (r : Rw T K F al v w) (e : partW w = some o) : partV v = some o := by
  unfold partW at e
  split at e
  · cases r; exact e
  · cases r; exact e
  · cases e
theorem w_slc {lo hi : Option Expr} {p2 : Pos} (ha : PE X a (tW T X.K E p)) (hl : PO X lo (tOW T X.K E q)) (hh : PO X hi (tOW T X.K E r)) : PE X (.Subscript a (.Slice lo hi none p2) pos) (tW T X.K E (mSlc p q r)) := by
  refine peM (pe_slice sl_any ha hl hh) ?_
  rintro σ H Q ⟨F, al, S, ρ, g, e, h⟩
  refine (tW.bind g e h).imp fun x H1 ⟨F1, al1, S1, w, m, r, h1⟩ => ?_
  refine (tW.bind m.g m.e h1).imp fun y H2 ⟨F2, al2, S2, u, m2, r2, h2⟩ => ?_
  cases e1 : partW u with
  | none =>
    rw [e1] at h2
    exact h2.elim
  | some o =>
    rw [e1] at h2
    refine ⟨o, partW_sound r2 e1, ?_⟩
    refine (tW.bind m2.g m2.e h2).imp fun y3 H3 ⟨F3, al3, S3, u3, m3, r3, h3⟩ => ?_
    cases e2 : partW u3 with
    | none => rw [e2] at h3; exact h3.elim
    | some o2 =>
      rw [e2] at h3
      refine ⟨o2, partW_sound r3 e2, ?_⟩
      obtain ⟨z, e3, h4⟩ := optR_some h3
      exact sl_sound m3.g (vw_of m3.g ((r.post m2.p).post m3.p)) e3 h4
end
end DL

set_option Elab.async false
set_option linter.all false
set_option maxRecDepth 100000
set_option maxHeartbeats 4000000
/-! Wg: tests, built-ins, fields, calls. -/
namespace DL
open PySem PySem.Spec L2

/-! ### nothing in it that may be changed -/
mutual
def W.nl : W → Bool
  | .non => true
  | .bl _ => true
  | .int _ => true
  | .str _ => true
  | .tup ws => nlL ws
  | .lst ws => nlL ws
  | .ins _ fs => nlF fs
  | .loc _ => false
  | .tpx ws => nlL ws
def nlL : List W → Bool
  | [] => true
  | w :: ws => W.nl w && nlL ws
def nlF : List (Nat × W) → Bool
  | [] => true
  | (_, w) :: ws => W.nl w && nlF ws
end
section
variable {T : Tab} {K : PySem.W.Frag} {F F' : Hp} {al al' be : List Addr} {H H' H1 : Hp} {S S' : Sto} {E : WX} {σ : L2.St}
mutual
theorem Rw.nl : ∀ {v : V} {w : W}, Rw T K F al v w → W.nl w = true → Rw T K F al' v w
  | _, _, .non, _ => .non
  | _, _, .bl b, _ => .bl b
  | _, _, .int i, _ => .int i
  | _, _, .str i, _ => .str i
  | _, _, .tup q r, h => .tup q (RwL.nl r h)
  | _, _, .lst q r, h => .lst q (RwL.nl r h)
  | _, _, .ins q r, h => .ins q (RwF.nl r h)
  | _, _, .loc _, h => by cases h
  | _, _, .tpx q d r, h => .tpx q d (RwL.nl r h)
theorem RwL.nl : ∀ {v : List V} {w : List W}, RwL T K F al v w → nlL w = true → RwL T K F al' v w
  | _, _, .nil, _ => .nil
  | _, _, .cons a b, h => by
    rw [nlL, Bool.and_eq_true] at h
    exact .cons (Rw.nl a h.1) (RwL.nl b h.2)
theorem RwF.nl : ∀ {v : List (Str × V)} {w : List (Nat × W)}, RwF T K F al v w → nlF w = true → RwF T K F al' v w
  | _, _, .nil, _ => .nil
  | _, _, .cons l a b, h => by
    rw [nlF, Bool.and_eq_true] at h
    exact .cons l (Rw.nl a h.1) (RwF.nl b h.2)
end
def Xn.nl : Xn → Bool
  | .own _ fs => nlF fs
theorem RwX.nl {x : Xn} {cls : Value} {d : Option Addr} (r : RwX T K F al x cls d) (h : x.nl = true) : RwX T K F al' x cls d := by
  cases x with
  | own c fs =>
    refine ⟨r.1, ?_⟩
    rcases r.2 with e | ⟨a, gs, h1, h2, h3⟩
    · exact .inl e
    · exact .inr ⟨a, gs, h1, h2, h3.nl h⟩
theorem Good.frame (g : Good T K F al S H) (hs : Same H H1) (hb : ∀ b ∈ be, H b = none) (p : Post F be H1 F' al' H') (g' : Good T K F' al' S' H') : Good T K F' al S H' ∧ Post F al H F' al H' := by
  have kp : ∀ b o, H b = some o → H' b = some o := fun b o h => p.keep b o (hs b o h) fun hm => by rw [hb b hm] at h; cases h
  have dm : ∀ b, F' b ≠ none → F b ≠ none ∨ H b = none := fun b h => by
    rcases p.dom b h with h | h | h
    · exact .inl h
    · exact .inr (hb b h)
    · refine .inr ?_
      cases e : H b with
      | none => rfl
      | some o => rw [hs b o e] at h; cases h
  refine ⟨⟨g'.sub, g.nd, g.len, fun a ha => ?_, fun n a c ha hc => ?_⟩, ⟨p.ext, Pre.refl _, fun _ h => .inl h, fun b o h _ => kp b o h, fun b h => ?_⟩⟩
  · cases e : H a with
    | none => exact absurd e (g.tr a ha)
    | some o => rw [kp a o e]; simp
  · refine (g.cell n a c ha hc).mono p.ext (Pre.refl _) (fun o h => kp a o h) fun h => ?_
    cases e : F' a with
    | none => rfl
    | some o =>
      rcases dm a (by rw [e]; simp) with z | z
      · exact absurd h z
      · exact absurd z (g.tr a (List.mem_of_getElem? ha))
  · rcases dm b h with z | z
    · exact .inl z
    · exact .inr (.inr z)
theorem Good.bare (g : Good T K F al S H) : Good T K F [] [] H := ⟨g.sub, List.nodup_nil, rfl, (fun _ h => nomatch h), (fun n a c h => by simp at h)⟩
/-- a call on data alone: the store is out of it -/
def pureR (r : Res) (S : Sto) : Res := match r with
  | .ok w _ => if w.nl then .ok w S else .bad
  | .exc x _ => if x.nl then .exc x S else .bad
  | .bad => .bad
theorem RQ.wish {E' : WX} {σ' : L2.St} {r : Res} {Q : VK} (h : RQ T K E σ F al H r Q) (i : ∀ c d H, E c d σ H → E' c d σ' H) : RQ T K E' σ' F al H r Q := by
  cases r with
  | ok w S => exact h
  | exc x S => exact fun c d F' al' H' p g r => i _ _ _ (h c d F' al' H' p g r)
  | bad => exact h
theorem pure_sound {r : Res} {Q : VK} (g : Good T K F al S H) (hs : Same H H1) (hb : ∀ b ∈ be, H b = none) (h : RQ T K E σ F al H (pureR r S) Q) : RQ T K E σ F be H1 r Q := by
  cases r with
  | ok w S' =>
    replace h : RQ T K E σ F al H (if w.nl then .ok w S else .bad) Q := h
    split at h
    · rename_i hw
      intro v F' al' H' p g' r
      obtain ⟨a, b⟩ := g.frame hs hb p g'
      exact h v F' al H' b a (r.nl hw)
    · exact h.elim
  | exc x S' =>
    replace h : RQ T K E σ F al H (if x.nl then .exc x S else .bad) Q := h
    split at h
    · rename_i hw
      intro c d F' al' H' p g' r
      obtain ⟨a, b⟩ := g.frame hs hb p g'
      exact h c d F' al H' b a (r.nl hw)
    · exact h.elim
  | bad => exact h.elim
/-- a thing that is frozen, as data -/
def derefF (S : Sto) : W → W
  | .loc n => match S[n]? with
    | some (.frz w) => w
    | _ => .loc n
  | w => w
theorem Rw.derefF (g : Good T K F al S H) {v : V} {w : W} (r : Rw T K F al v w) : Rw T K F al v (derefF S w) := by
  cases r with
  | @loc a n ha =>
    cases q : S[n]? with
    | none => rw [show DL.derefF S (.loc n) = .loc n by simp only [DL.derefF, q]]; exact .loc ha
    | some c =>
      have hc := g.cell n a c ha q
      cases c with
      | frz w => rw [show DL.derefF S (.loc n) = w by simp only [DL.derefF, q]]; exact hc
      | _ => rw [show DL.derefF S (.loc n) = .loc n by simp only [DL.derefF, q]]; exact .loc ha
  | non => exact .non
  | bl b => exact .bl b
  | int b => exact .int b
  | str b => exact .str b
  | tup a b => exact .tup a b
  | lst a b => exact .lst a b
  | ins a b => exact .ins a b
  | tpx a d b => exact .tpx a d b
theorem RwL.derefF (g : Good T K F al S H) : ∀ {v : List V} {w : List W}, RwL T K F al v w → RwL T K F al v (w.map (DL.derefF S))
  | _, _, .nil => .nil
  | _, _, .cons a b => .cons (Rw.derefF g a) (RwL.derefF g b)
end

/-! ### tests -/
section
variable {X : Cx} {T : Tab} {E : WX} {pos : Pos} {a b c : Expr} {p q r : Me} {es : List Expr} {ps : Ml} {bp bq br : Mb}
theorem b_test (h : PE X a (tW T X.K E p)) (he : ∀ whole, isTrue a X.env whole = (do let v ← whole; standAt a.pos; holding [v] (PySem.truthy v))) : PT X a (DL.tB T X.K E (bTest p)) := by
  refine ptM (pt_truth h he) ?_
  rintro σ H Q ⟨F, al, S, ρ, g, e, h⟩
  refine (tW.bindB g e h).imp fun x H1 ⟨F1, al1, S1, w, m, r, h1⟩ => ?_
  unfold truthyR at h1
  cases e1 : DL.truthy (deref S1 w) with
  | none => rw [e1] at h1; exact h1.elim
  | some k =>
    rw [e1] at h1
    exact ⟨k, truthy_sound m.g (vw_of m.g r) e1, h1 _ _ _ Post.refl m.g⟩
theorem b_cmp {k : Nat} {o : CmpOp} (hr : Room k X.A) (ha : PE X a (tW T X.K E p)) (hb : PE X b (tW T X.K E q)) (hm : behindInMarks o b = false) : PT X (.Compare a [o] [b] pos) (DL.tB T X.K E (bTest (mCmp o p q))) := by
  refine ptM (pt_cmpR (op_cmp hr o) ha hb hm) ?_
  rintro σ H Q ⟨F, al, S, ρ, g, e, h⟩
  have h0 : BQ T X.K E σ F al H ((p ρ S).bindB fun x S => (q ρ S).bindB fun y S => optB S (cmpop o (deref S x) (deref S y))) Q := by
    unfold bTest mCmp test at h
    revert h
    cases p ρ S with
    | ok x S1 =>
      show BQ T X.K E σ F al H (((q ρ S1).bind _).bindB truthyR) Q → BQ T X.K E σ F al H ((q ρ S1).bindB _) Q
      cases q ρ S1 with
      | ok y S2 =>
        show BQ T X.K E σ F al H ((optR S2 _).bindB truthyR) Q → BQ T X.K E σ F al H (optB S2 _) Q
        cases cmpop o (deref S2 x) (deref S2 y) with
        | none => exact id
        | some k => exact id
      | exc x S => exact id
      | bad => exact id
    | exc x S => exact id
    | bad => exact id
  refine (tW.bindB g e h0).imp fun x H1 ⟨F1, al1, S1, w, m, r, h1⟩ => ?_
  refine (tW.bindB m.g m.e h1).imp fun y H2 ⟨F2, al2, S2, u, m2, r2, h2⟩ => ?_
  cases e1 : cmpop o (deref S2 w) (deref S2 u) with
  | none => rw [e1] at h2; exact h2.elim
  | some k =>
    rw [e1] at h2
    exact cmp_sound m2.g (vw_of m2.g (r.post m2.p)) (vw_of m2.g r2) e1 ⟨k, rfl, h2 _ _ _ Post.refl m2.g⟩
theorem b_chain {k : Nat} {o o' : CmpOp} (hr : Room k X.A) (ha : PE X a (tW T X.K E p)) (hb : PE X b (tW T X.K E q)) (hc : PE X c (tW T X.K E r)) (hm : lastMarks [o, o'] [b, c] = false) : PT X (.Compare a [o, o'] [b, c] pos) (DL.tB T X.K E (bTest (mChain o o' p q r))) := by
  refine ptM (pt_chain (op_cmp hr o) (op_cmp hr o') ha hb hc hm) ?_
  rintro σ H Q ⟨F, al, S, ρ, g, e, h⟩
  have h0 : BQ T X.K E σ F al H ((p ρ S).bindB fun x S => (q ρ S).bindB fun y S => match cmpop o (deref S x) (deref S y) with
      | some true => (r ρ S).bindB fun z S => optB S (cmpop o' (deref S y) (deref S z))
      | some false => .ok false S
      | none => .bad) Q := by
    unfold bTest mChain test at h
    revert h
    cases p ρ S with
    | ok x S1 =>
      show BQ T X.K E σ F al H (((q ρ S1).bind _).bindB truthyR) Q → BQ T X.K E σ F al H ((q ρ S1).bindB _) Q
      cases q ρ S1 with
      | ok y S2 =>
        show BQ T X.K E σ F al H (Res.bindB (match cmpop o (deref S2 x) (deref S2 y) with
          | some true => (r ρ S2).bind fun z S => optR S ((cmpop o' (deref S y) (deref S z)).map .bl)
          | some false => Res.ok (.bl false) S2
          | none => .bad) truthyR) Q → BQ T X.K E σ F al H (match cmpop o (deref S2 x) (deref S2 y) with
          | some true => (r ρ S2).bindB fun z S => optB S (cmpop o' (deref S y) (deref S z))
          | some false => .ok false S2
          | none => .bad) Q
        cases cmpop o (deref S2 x) (deref S2 y) with
        | none => exact id
        | some k =>
          cases k with
          | false => exact id
          | true =>
            show BQ T X.K E σ F al H (((r ρ S2).bind _).bindB truthyR) Q → BQ T X.K E σ F al H ((r ρ S2).bindB _) Q
            cases r ρ S2 with
            | ok z S3 =>
              show BQ T X.K E σ F al H ((optR S3 _).bindB truthyR) Q → BQ T X.K E σ F al H (optB S3 _) Q
              cases cmpop o' (deref S3 y) (deref S3 z) with
              | none => exact id
              | some k => exact id
            | exc x S => exact id
            | bad => exact id
      | exc x S => exact id
      | bad => exact id
    | exc x S => exact id
    | bad => exact id
  refine (tW.bindB g e h0).imp fun x H1 ⟨F1, al1, S1, w, m, r, h1⟩ => ?_
  refine (tW.bindB m.g m.e h1).imp fun y H2 ⟨F2, al2, S2, u, m2, r2, h2⟩ => ?_
  split at h2
  · rename_i e1
    refine cmp_sound m2.g (vw_of m2.g (r.post m2.p)) (vw_of m2.g r2) e1 ⟨true, rfl, ?_⟩
    rw [if_pos rfl]
    refine (tW.bindB m2.g m2.e h2).imp fun z H3 ⟨F3, al3, S3, u3, m3, r3, h3⟩ => ?_
    cases e2 : cmpop o' (deref S3 u) (deref S3 u3) with
    | none => rw [e2] at h3; exact h3.elim
    | some k =>
      rw [e2] at h3
      exact cmp_sound m3.g (vw_of m3.g (r2.post m3.p)) (vw_of m3.g r3) e2 ⟨k, rfl, h3 _ _ _ Post.refl m3.g⟩
  · rename_i e1
    refine cmp_sound m2.g (vw_of m2.g (r.post m2.p)) (vw_of m2.g r2) e1 ⟨false, rfl, ?_⟩
    rw [if_neg Bool.false_ne_true]
    exact ⟨false, rfl, h2 _ _ _ Post.refl m2.g⟩
  · exact h2.elim
theorem b_and1 (ha : PT X a (DL.tB T X.K E bp)) : PW X (.BoolOp .And [a] pos) (DL.tB T X.K E bp) := pw_and1 ha
theorem b_or1 (ha : PT X a (DL.tB T X.K E bp)) : PW X (.BoolOp .Or [a] pos) (DL.tB T X.K E bp) := pw_or1 ha
theorem b_and {rest : List Expr} (ha : PT X a (DL.tB T X.K E bp)) (hb : PW X (.BoolOp .And (b :: rest) pos) (DL.tB T X.K E bq)) : PW X (.BoolOp .And (a :: b :: rest) pos) (DL.tB T X.K E (bAnd bp bq)) := by
  refine pwM (pw_and ha hb) ?_
  rintro σ H Q ⟨F, al, S, ρ, g, e, h⟩
  refine (tB.bindB g e h).imp fun k H1 ⟨F1, al1, S1, m, h1⟩ => ?_
  cases k with
  | true => rw [if_pos rfl]; exact ⟨F1, al1, S1, ρ, m.g, m.e, h1⟩
  | false => rw [if_neg Bool.false_ne_true]; exact h1 _ _ _ Post.refl m.g
theorem b_or {rest : List Expr} (ha : PT X a (DL.tB T X.K E bp)) (hb : PW X (.BoolOp .Or (b :: rest) pos) (DL.tB T X.K E bq)) : PW X (.BoolOp .Or (a :: b :: rest) pos) (DL.tB T X.K E (bOr bp bq)) := by
  refine pwM (pw_or ha hb) ?_
  rintro σ H Q ⟨F, al, S, ρ, g, e, h⟩
  refine (tB.bindB g e h).imp fun k H1 ⟨F1, al1, S1, m, h1⟩ => ?_
  cases k with
  | true => rw [if_pos rfl]; exact h1 _ _ _ Post.refl m.g
  | false => rw [if_neg Bool.false_ne_true]; exact ⟨F1, al1, S1, ρ, m.g, m.e, h1⟩
theorem b_not (ha : PT X a (DL.tB T X.K E bp)) : PT X (.UnaryOp .Not a pos) (DL.tB T X.K E (bNot bp)) := by
  refine ptM (pt_not ha) ?_
  rintro σ H Q ⟨F, al, S, ρ, g, e, h⟩
  refine (tB.bindB g e h).imp fun k H1 ⟨F1, al1, S1, m, h1⟩ => ?_
  exact h1 _ _ _ Post.refl m.g
theorem b_ifx (hc : PT X c (DL.tB T X.K E bp)) (ha : PT X a (DL.tB T X.K E bq)) (hb : PT X b (DL.tB T X.K E br)) : PT X (.IfExp c a b pos) (DL.tB T X.K E (bIfx bp bq br)) := by
  refine ⟨fun pins s σ H Q I h => ?_⟩
  obtain ⟨F, al, S, ρ, g, e, h⟩ := h
  refine PyProof.Rows.isTrue_IfExp (thn (hc.run pins s σ H _ I (tB.bindB g e h)) fun k s1 ⟨H1, I1, F1, al1, S1, m, h1⟩ => ?_)
  cases k with
  | true => exact ha.run pins s1 σ H1 Q I1 ⟨F1, al1, S1, ρ, m.g, m.e, h1⟩
  | false => exact hb.run pins s1 σ H1 Q I1 ⟨F1, al1, S1, ρ, m.g, m.e, h1⟩
theorem w_ifx (hc : PT X c (DL.tB T X.K E bp)) (ha : PE X a (tW T X.K E p)) (hb : PE X b (tW T X.K E q)) : PE X (.IfExp c a b pos) (tW T X.K E (mIfx bp p q)) := by
  refine peM (pe_ifExp hc ha hb) ?_
  rintro σ H Q ⟨F, al, S, ρ, g, e, h⟩
  refine (tB.bind g e h).imp fun k H1 ⟨F1, al1, S1, m, h1⟩ => ?_
  cases k with
  | true => rw [if_pos rfl]; exact ⟨F1, al1, S1, ρ, m.g, m.e, h1⟩
  | false => rw [if_neg Bool.false_ne_true]; exact ⟨F1, al1, S1, ρ, m.g, m.e, h1⟩

/-! ### built-ins, fields -/
theorem w_primB {P : Prim} {id : String} {x : Str} {pp : Pos} (hc : CallR X (.builtin id) (rPrim X.K P)) (hg : Gl X x) (hm : X.mg x = none) (hv : bootBuiltins x = some (.builtin id)) (ha : PA X (a :: es) (tL T X.K E ps)) (hn : x ≠ "__name__") (hdb : (x == ("__debug__" : Str)) = false)
    (he : starEach (a :: es) X.env = (false, eval a X.env) :: starEach es X.env) (hpl : (backTo pos (starEach es X.env)).any (·.1) = false) : PE X (.Call (.Name x pp) (a :: es) [] pos) (tW T X.K E (mPrim P ps)) := by
  refine peM (pe_callB hc hg hm hv ha hn hdb he hpl) ?_
  rintro σ H Q ⟨F, al, S, ρ, g, e, h⟩
  refine (tL.bind g e h).imp fun x H1 ⟨F1, al1, S1, w, m, r, h1⟩ => ?_
  obtain ⟨z, e1, h3⟩ := optR_some h1
  exact prim_sound m.g (vwL_of m.g r) e1 h3
theorem w_primT {P : Prim} {id : String} {x : Str} {pp : Pos} (hc : CallR X (.type id) (rPrim X.K P)) (hg : Gl X x) (hm : X.mg x = none) (hv : bootBuiltins x = some (.type id)) (ha : PA X (a :: es) (tL T X.K E ps)) (hn : x ≠ "__name__") (hdb : (x == ("__debug__" : Str)) = false)
    (he : starEach (a :: es) X.env = (false, eval a X.env) :: starEach es X.env) (hpl : (backTo pos (starEach es X.env)).any (·.1) = false) : PE X (.Call (.Name x pp) (a :: es) [] pos) (tW T X.K E (mPrim P ps)) := by
  refine peM (pe_callTy hc hg hm hv ha hn hdb he hpl) ?_
  rintro σ H Q ⟨F, al, S, ρ, g, e, h⟩
  refine (tL.bind g e h).imp fun x H1 ⟨F1, al1, S1, w, m, r, h1⟩ => ?_
  obtain ⟨z, e1, h3⟩ := optR_some h1
  exact prim_sound m.g (vwL_of m.g r) e1 h3
theorem w_nlist {x : Str} {pp : Pos} (hg : Gl X x) (hm : X.mg x = none) (hv : bootBuiltins x = some (.type "list")) (ha : PE X a (tW T X.K E p)) (hn : x ≠ "__name__") (hdb : (x == ("__debug__" : Str)) = false)
    (he : starEach [a] X.env = (false, eval a X.env) :: starEach [] X.env) : PE X (.Call (.Name x pp) [a] [] pos) (tW T X.K E (mNlist p)) := by
  refine peM (pe_callTy call_list_of hg hm hv (pa_cons ha pa_nil he) hn hdb he rfl) ?_
  rintro σ H Q ⟨F, al, S, ρ, g, e, h⟩
  refine (tW.bind g e h).imp fun x H1 ⟨F1, al1, S1, w, m, r, h1⟩ => ?_
  split at h1
  · rename_i ws e1
    obtain ⟨a, xs, rfl, h2, h3⟩ := items_sound m.g (vw_of m.g r) e1
    exact ⟨_, _, rfl, h2, fun l hl => h1.newC m.g h3 hl⟩
  · exact h1.elim
theorem call_len {X : Cx} : CallR X (.builtin "len") (rPrim X.K .len) := call_len_seq.or call_len_str
theorem w_isi {x : Str} {pp tp : Pos} {tx : Str} {t : Ty} (hg : Gl X x) (hm : X.mg x = none) (hv : bootBuiltins x = some (.builtin "isinstance")) (ht : PE X (.Name tx tp) (tC (.ty t.s))) (ha : PE X a (tW T X.K E p)) (hn : x ≠ "__name__") (hdb : (x == ("__debug__" : Str)) = false)
    (he : starEach [a, .Name tx tp] X.env = (false, eval a X.env) :: starEach [.Name tx tp] X.env) (he2 : starEach [.Name tx tp] X.env = (false, eval (.Name tx tp) X.env) :: starEach [] X.env) (hpl : (backTo pos (starEach [.Name tx tp] X.env)).any (·.1) = false) : PE X (.Call (.Name x pp) [a, .Name tx tp] [] pos) (tW T X.K E (mIsi t p)) := by
  refine peM (pe_callB call_isi hg hm hv (pa_cons ha (pa_cons ht pa_nil he2) he) hn hdb he hpl) ?_
  rintro σ H Q ⟨F, al, S, ρ, g, e, h⟩
  refine (tW.bind g e h).imp fun x H1 ⟨F1, al1, S1, w, m, r, h1⟩ => ?_
  obtain ⟨z, e1, h3⟩ := optR_some h1
  rw [Option.map_eq_some_iff] at e1
  obtain ⟨k, e1, rfl⟩ := e1
  exact isi_sound m.g (vw_of m.g r) e1 (h3.val m.g (.bl _))
theorem w_fld {cc f : Nat} {fn : Str} (hn : T.fld.Nodup) (hf : f < T.fld.length) (hfn : T.f f = fn) (hc : Cls X.K (T.c cc)) (hna : NoAttr X.K (T.c cc) fn) (ha : PE X a (tW T X.K E p)) (hb : attributeBase a fn X.env (eval a X.env) = eval a X.env) : PE X (.Attribute a fn pos) (tW T X.K E (mFld cc f p)) := by
  subst hfn
  refine peM (pe_fld ha hb) ?_
  rintro σ H Q ⟨F, al, S, ρ, g, e, h⟩
  refine (tW.bind g e h).imp fun x H1 ⟨F1, al1, S1, w, m, r, h1⟩ => ?_
  obtain ⟨z, e1, h3⟩ := optR_some h1
  obtain ⟨pp, dx, gs, v, h4, h5, h6, h7⟩ := getFld_sound hn hf m.g r e1
  exact ⟨pp, _, dx, gs, v, h4, h5, hc, hna, h6, h3.val m.g h7⟩
theorem w_frz (h : PE X a (tW T X.K E p)) : PE X a (tW T X.K E (mFrz p)) := by
  refine peM h ?_
  rintro σ H Q ⟨F, al, S, ρ, g, e, h⟩
  refine (tW.bind g e h).imp fun x H1 ⟨F1, al1, S1, w, m, r, h1⟩ => ?_
  cases r with
  | @loc a n ha =>
    unfold freezeR at h1
    cases q : S1[n]? with
    | none => simp only [q] at h1; exact h1.elim
    | some c =>
      have hc := m.g.cell n a c ha q
      cases c with
      | lst ws =>
        simp only [q] at h1
        obtain ⟨xs, h2, h3, h4⟩ := hc
        have s1 : Same F1 (upd F1 a (.lst xs)) := fun b u e => by rw [upd_ne (ne_of_none e h3)]; exact e
        have hw : Rw T X.K (upd F1 a (.lst xs)) al1 (.ref a) (.lst ws) := .lst (SqL.of upd_same) (h4.mono s1 (Pre.refl _))
        obtain ⟨a1, a2⟩ := m.g.freeze ha h3 h2 hw
        exact h1 _ _ _ _ a2 a1 hw
      | frz w => simp only [q] at h1; exact h1.val m.g hc
      | _ => simp only [q] at h1; exact h1.elim
  | non => exact h1.val m.g .non
  | bl b => exact h1.val m.g (.bl b)
  | int b => exact h1.val m.g (.int b)
  | str b => exact h1.val m.g (.str b)
  | tup a b => exact h1.val m.g (.tup a b)
  | lst a b => exact h1.val m.g (.lst a b)
  | ins a b => exact h1.val m.g (.ins a b)
  | tpx a d b => exact h1.val m.g (.tpx a d b)
/-- a list that may be changed gets one more -/
theorem app_sound {K : PySem.W.Frag} {F : Hp} {al : List Addr} {H : Hp} {S : Sto} {σ : L2.St} {x y : V} {w u : W} {Q : VK} (g : Good T K F al S H) (rx : Rw T K F al x w) (ry : Rw T K F al y u) (h : RQ T K E σ F al H (appR w u S) Q) : rAppend x [y] H Q := by
  unfold appR at h
  split at h
  · rename_i n
    split at h
    · rename_i ws e
      split at h
      · rename_i hl
        cases rx with
        | @loc a _ ha =>
          obtain ⟨xs, h1, h2, h3⟩ := g.cell n a _ ha e
          refine ⟨a, xs, y, rfl, rfl, h1, by rw [h3.length, ← limit_eq]; exact hl, ?_⟩
          obtain ⟨g1, p1⟩ := g.setCell (o := .lst (xs ++ [y])) (c := .lst (ws ++ [u])) ha h2 ⟨_, upd_same, h2, h3.append (.cons ry .nil)⟩
          exact h _ _ _ _ p1 g1 .non
      · exact h.elim
    · exact h.elim
  · exact h.elim
theorem isCell_ty {K : PySem.W.Frag} {F : Hp} {al : List Addr} {H : Hp} {S : Sto} {x : V} {w : W} (g : Good T K F al S H) (r : Rw T K F al x w) (e : isCell S w = true) : tyV K "list" x H := by
  cases r with
  | @loc a n ha =>
    cases q : S[n]? with
    | none => simp [isCell, q] at e
    | some c =>
      cases c with
      | lst ws =>
        obtain ⟨xs, h1, _⟩ := g.cell n a _ ha q
        exact .inl ⟨rfl, _, .inl (.inl h1)⟩
      | _ => simp [isCell, q] at e
  | _ => cases e
theorem w_app {apos : Pos} (ha : PE X a (tW T X.K E p)) (hb : PE X b (tW T X.K E q)) (hbase : attributeBase a "append" X.env (eval a X.env) = eval a X.env)
    (hfew : ((backTo pos (starEach [b] X.env)).all (fun x => !x.1) && (backToKw pos (keywordEach [] X.env)).all (fun x => x.1.isSome) && decide ([b].length + ([] : List Keyword).length + (if ([] : List Keyword).isEmpty then 0 else 1) < 30)) = true)
    (hline : (apos.endLine == pos.line) = true) (hs : starEach [b] X.env = (false, eval b X.env) :: starEach [] X.env) (hplain : (backTo pos (starEach [] X.env)).any (·.1) = false) :
    PE X (.Call (.Attribute a "append" apos) [b] [] pos) (tW T X.K E (mApp p q)) := by
  refine peM (pe_bm PySem.F.plainAttrs_list PySem.F.slot_list_append PySem.F.type_list_append mt_append ha (pa_cons hb pa_nil hs) hbase hfew hline hs hplain) ?_
  rintro σ H Q ⟨F, al, S, ρ, g, e, h⟩
  refine (tW.bind g e h).imp fun x H1 ⟨F1, al1, S1, w, m, r, h1⟩ => ?_
  split at h1
  · rename_i hc
    refine ⟨isCell_ty m.g r hc, ?_⟩
    refine (tW.bind m.g m.e h1).imp fun y H2 ⟨F2, al2, S2, u, m2, r2, h2⟩ => ?_
    exact app_sound m2.g (r.post m2.p) r2 h2
  · exact h1.elim

/-! ### calls -/
/-- what a def promises: it does what φ does -/
def spW (T : Tab) (K : PySem.W.Frag) (n : Nat) (φ : Fn) : Sp := fun vs H Q E => ∃ F al S ws, ws.length = n ∧ Good T K F al S H ∧ RwL T K F al vs ws ∧ RQ T K (fun c d _ H => E c d H) [] F al H (φ ws S) Q
def TakesN (n : Nat) (φ : Fn) : Prop := ∀ ws S, ws.length ≠ n → φ ws S = .bad
theorem spW_of {T : Tab} {K : PySem.W.Frag} {n : Nat} {φ : Fn} (hn : TakesN n φ) {vs : List V} {ws : List W} {H : Hp} {Q : VK} {E : WX} {σ : L2.St} {F : Hp} {al : List Addr} {S : Sto} (g : Good T K F al S H) (r : RwL T K F al vs ws) (h : RQ T K E σ F al H (φ ws S) Q) : spW T K n φ vs H Q (WE E σ) := by
  refine ⟨F, al, S, ws, ?_, g, r, h.wish fun c d H e => e⟩
  by_cases hl : ws.length = n
  · exact hl
  · rw [hn ws S hl] at h; exact h.elim
/-- a def by its name: ψ is what a call with written arguments does -/
def CallF (T : Tab) (P : Program) (w : World) (K : PySem.W.Frag) (mg : Str → Option Value) (base : Heap) (k : Nat) (x : Str) (ψ : Fn) : Prop :=
  ∃ (f : Addr) (fd : FuncData) (pn : List Str) (ds : List Value) (dvs : List V) (dws : List W) (n : Nat) (φ : Fn), FnOk P w K mg base (L2.CX P w) k f fd pn (spW T K n φ) ∧ TakesN n φ ∧ mg x = some (.ref f) ∧ PySem.W.keepIn K (.ref f) = true ∧ Binds K fd pn ds ∧ Vals dvs ds ∧
    (∀ F al, RwL T K F al dvs dws) ∧ ψ = fun ws S => φ (ws ++ dws) S
def mCall (ψ : Fn) (ms : Ml) : Me := fun ρ S => (ms ρ S).bind ψ
/-- data alone goes in and comes out -/
def mCallP (ψ : Fn) (ms : Ml) : Me := fun ρ S => (ms ρ S).bind fun ws S => if nlL (ws.map (derefF S)) then pureR (ψ (ws.map (derefF S)) []) S else .bad
theorem w_call {k j : Nat} {x : Str} {pp : Pos} {ψ : Fn} (C : CallF T X.prog X.w X.K X.mg X.base k x ψ) (hr : Room j X.A) (hj : k ≤ j) (hg : Gl X x) (tk : Takes X E) (ha : PA X (a :: es) (tL T X.K E ps)) (hdb : (x == ("__debug__" : Str)) = false)
    (he : starEach (a :: es) X.env = (false, eval a X.env) :: starEach es X.env) (hpl : (backTo pos (starEach es X.env)).any (·.1) = false) : PE X (.Call (.Name x pp) (a :: es) [] pos) (tW T X.K E (mCall ψ ps)) := by
  obtain ⟨f, fd, pn, ds, dvs, dws, n, φ, FO, hn, hm, hk, hb, hd, hw, rfl⟩ := C
  refine peM (pe_callSD FO (hr.mono hj) hg hm hk hb hd (E := WE E) (fun σ => passAt tk σ) ha hdb he hpl) ?_
  rintro σ H Q ⟨F, al, S, ρ, g, e, h⟩
  refine (tL.bind g e h).imp fun x H1 ⟨F1, al1, S1, w, m, r, h1⟩ => ?_
  exact spW_of hn m.g (r.append (hw _ _)) h1
theorem w_callP {k j : Nat} {x : Str} {pp : Pos} {ψ : Fn} (C : CallF T X.prog X.w X.K X.mg X.base k x ψ) (hr : Room j X.A) (hj : k ≤ j) (hg : Gl X x) (tk : Takes X E) (ha : PA X (a :: es) (tL T X.K E ps)) (hdb : (x == ("__debug__" : Str)) = false)
    (he : starEach (a :: es) X.env = (false, eval a X.env) :: starEach es X.env) (hpl : (backTo pos (starEach es X.env)).any (·.1) = false) : PE X (.Call (.Name x pp) (a :: es) [] pos) (tW T X.K E (mCallP ψ ps)) := by
  obtain ⟨f, fd, pn, ds, dvs, dws, n, φ, FO, hn, hm, hk, hb, hd, hw, rfl⟩ := C
  refine peM (pe_callSD FO (hr.mono hj) hg hm hk hb hd (E := WE E) (fun σ => passAt tk σ) ha hdb he hpl) ?_
  rintro σ H Q ⟨F, al, S, ρ, g, e, h⟩
  refine (tL.bind g e h).imp fun x H1 ⟨F1, al1, S1, w, m, r, h1⟩ => ?_
  split at h1
  · rename_i hnl
    exact spW_of hn m.g.bare (((r.derefF m.g).nl hnl).append (hw _ _)) (pure_sound m.g (Same.refl _) (fun _ h => nomatch h) h1)
  · exact h1.elim

/-! ### a class's call -/
/-- C(..): __init__ at a new instance; all it holds is data behind it -/
def makeR (c : Nat) (ψ : Fn) (ws : List W) (S : Sto) : Res := match ψ (.loc 0 :: ws) [.obj c []] with
  | .ok .non S' => match (S' : List Cell)[0]? with
    | some (Cell.obj d fs) => if d = c ∧ nlF fs = true then .ok (.ins c fs) S else .bad
    | _ => .bad
  | .ok _ _ => .bad
  | .exc x _ => if x.nl then .exc x S else .bad
  | .bad => .bad
def mMake (c : Nat) (ψ : Fn) (ms : Ml) : Me := fun ρ S => (ms ρ S).bind fun ws S => if nlL (ws.map (derefF S)) then makeR c ψ (ws.map (derefF S)) S else .bad
theorem Good.side {K : PySem.W.Frag} {F : Hp} {al : List Addr} {H : Hp} {S : Sto} (g : Good T K F al S H) {p : Addr} (hp : H p = none) (o : HO) : Good T K F al S (upd H p o) ∧ Post F al H F al (upd H p o) := by
  have sm : Same H (upd H p o) := fun b u e => by rw [upd_ne (ne_of_none e hp)]; exact e
  refine ⟨⟨fun b u e => sm b u (g.sub b u e), g.nd, g.len, fun a ha => ?_, fun n a c ha hc => ?_⟩, ⟨Same.refl _, Pre.refl _, fun _ h => .inl h, fun b u e _ => sm b u e, fun _ h => .inl h⟩⟩
  · cases e : H a with
    | none => exact absurd e (g.tr a ha)
    | some u => rw [sm a u e]; simp
  · exact (g.cell n a c ha hc).mono (Same.refl _) (Pre.refl _) (fun u e => sm a u e) (fun h => h)
/-- a class by its name -/
def MakeF (T : Tab) (P : Program) (w : World) (K : PySem.W.Frag) (mg : Str → Option Value) (base : Heap) (k : Nat) (x : Str) (c : Nat) (ψ : Fn) : Prop :=
  ∃ (f : Addr) (fd : FuncData) (pn : List Str) (ds : List Value) (dvs : List V) (dws : List W) (n : Nat) (φ : Fn), FnOk P w K mg base (L2.CX P w) k f fd pn (spW T K n φ) ∧ TakesN n φ ∧ mg x = some (.ref (T.c c)) ∧ Mk K (T.c c) f ∧ Binds K fd pn ds ∧ Vals dvs ds ∧
    (∀ F al, RwL T K F al dvs dws) ∧ ψ = fun ws S => φ (ws ++ dws) S
theorem w_make {k j cc : Nat} {x : Str} {pp : Pos} {ψ : Fn} {Ec : XK} (C : MakeF T X.prog X.w X.K X.mg X.base k x cc ψ) (hr : Room j X.A) (hj : k + 1 ≤ j) (hg : Gl X x) (tk : Takes X fun c d _ H => Ec c d H) (ha : PA X (a :: es) (tL T X.K (fun c d _ H => Ec c d H) ps)) (hdb : (x == ("__debug__" : Str)) = false)
    (he : starEach (a :: es) X.env = (false, eval a X.env) :: starEach es X.env) (hpl : (backTo pos (starEach es X.env)).any (·.1) = false) : PE X (.Call (.Name x pp) (a :: es) [] pos) (tW T X.K (fun c d _ H => Ec c d H) (mMake cc ψ ps)) := by
  obtain ⟨f, fd, pn, ds, dvs, dws, n, φ, FO, hn, hm, hM, hb, hd, hw, rfl⟩ := C
  refine peM (pe_make hM FO (hr.mono hj) hg hm hb hd (passes_call tk fun _ _ _ _ h => h) ha hdb he hpl) ?_
  rintro σ H Q ⟨F, al, S, ρ, g, e, h⟩
  refine (tL.bind g e h).imp fun vs H1 ⟨F1, al1, S1, ws, m, r, h1⟩ => ?_
  intro x dx hx hdx hne
  split at h1
  · rename_i hnl
    obtain ⟨gs, _⟩ := m.g.bare.side hdx (.own x)
    have hx2 : upd H1 dx (.own x) x = none := by rw [upd_ne (Ne.symm hne)]; exact hx
    obtain ⟨g2, p2, r2⟩ := gs.newCell hx2 (o := .ins (T.c cc) dx []) (c := .obj cc []) ⟨dx, [], upd_same, m.g.notF hx, .nil⟩
    have sm : Same H1 (upd (upd H1 dx (.own x)) x (.ins (T.c cc) dx [])) := fun b u eb => by
      rw [upd_ne (ne_of_none eb hx), upd_ne (ne_of_none eb hdx)]; exact eb
    have hbe : ∀ b ∈ ([] ++ [x] : List Addr), H1 b = none := fun b hb => by
      have : b = x := by simpa using hb
      rw [this]; exact hx
    refine spW_of (E := fun c d _ H => Ec c d H) (σ := σ) hn g2 (.cons r2 (((r.derefF m.g).nl hnl).append (hw _ _))) ?_
    unfold makeR at h1
    show RQ T X.K (fun c d _ H => Ec c d H) σ F1 ([] ++ [x]) _ (φ (.loc 0 :: (ws.map (derefF S1) ++ dws)) [.obj cc []]) _
    replace h1 : RQ T X.K (fun c d _ H => Ec c d H) σ F1 al1 H1 (match φ (.loc 0 :: (ws.map (derefF S1) ++ dws)) [.obj cc []] with
      | .ok .non S' => match (S' : List Cell)[0]? with
        | some (Cell.obj d fs) => if d = cc ∧ nlF fs = true then .ok (.ins cc fs) S1 else .bad
        | _ => .bad
      | .ok _ _ => .bad
      | .exc x _ => if x.nl then .exc x S1 else .bad
      | .bad => .bad) Q := h1
    cases e1 : φ (.loc 0 :: (ws.map (derefF S1) ++ dws)) [.obj cc []] with
    | bad => rw [e1] at h1; exact h1.elim
    | exc z S' =>
      rw [e1] at h1
      replace h1 : RQ T X.K (fun c d _ H => Ec c d H) σ F1 al1 H1 (if z.nl then .exc z S1 else .bad) Q := h1
      split at h1
      · rename_i hz
        intro c d F' al' H' p g' rz
        obtain ⟨a1, b1⟩ := m.g.frame sm hbe p g'
        exact h1 c d F' al1 H' b1 a1 (rz.nl hz)
      · exact h1.elim
    | ok v S' =>
      rw [e1] at h1
      cases v with
      | non =>
        replace h1 : RQ T X.K (fun c d _ H => Ec c d H) σ F1 al1 H1 (match (S' : List Cell)[0]? with
          | some (Cell.obj d fs) => if d = cc ∧ nlF fs = true then .ok (.ins cc fs) S1 else .bad
          | _ => .bad) Q := h1
        split at h1
        · rename_i d fs e2
          split at h1
          · rename_i hdf
            obtain ⟨rfl, hfs⟩ := hdf
            intro u F' al' H' p g' ru
            cases ru
            refine ⟨rfl, ?_⟩
            have hx0 : al'[0]? = some x := p.pre 0 x rfl
            obtain ⟨dx2, gs2, h5, h6, h7⟩ := g'.cell 0 x _ hx0 e2
            have s1 : Same F' (upd F' x (.ins (T.c d) dx2 gs2)) := fun b u e => by rw [upd_ne (ne_of_none e h6)]; exact e
            have hw2 : ∀ al, Rw T X.K (upd F' x (.ins (T.c d) dx2 gs2)) al (.ref x) (.ins d fs) := fun al => .ins upd_same ((h7.nl hfs).mono s1 (Pre.refl _))
            obtain ⟨a1, a2⟩ := g'.freeze hx0 h6 h5 (hw2 _)
            obtain ⟨a3, b3⟩ := m.g.frame sm hbe (p.trans a2) a1
            exact h1 _ _ _ _ b3 a3 (hw2 _)
          · exact h1.elim
        · exact h1.elim
      | _ => exact h1.elim
  · exact h1.elim
end
end DL

set_option Elab.async false
set_option linter.all false
set_option maxRecDepth 100000
set_option maxHeartbeats 4000000
/-! Wh: what is walked, targets, comprehensions. -/
namespace DL
open PySem PySem.Spec L2

/-- a walk that gives the data xs -/
def WkW (T : Tab) (K : PySem.W.Frag) (F : Hp) (al : List Addr) (J : L2.It) (xs : List W) : Prop :=
  ∃ (G : Hp → Prop) (Y : Nat → Hp → V → Hp → Prop), Walk J xs.length G Y ∧ (∀ H, Same F H → G H) ∧ ∀ i H v H', i < xs.length → Y i H v H' → ∀ F1 al1 S1, Same F F1 → Pre al al1 → Good T K F1 al1 S1 H →
    ∃ F2 x, xs[i]? = some x ∧ Good T K F2 al1 S1 H' ∧ Post F1 al1 H F2 al1 H' ∧ Rw T K F2 al1 v x
section
variable (T : Tab) (K : PySem.W.Frag)
def IQ (E : WX) (σ : L2.St) (F : Hp) (al : List Addr) (H : Hp) (r : LRes) (R : L2.It → Hp → Prop) : Prop :=
  match r with
  | .ok ws S' => ∀ J F' al' H', Post F al H F' al' H' → Good T K F' al' S' H' → WkW T K F' al' J ws → R J H'
  | .exc x S' => ∀ cls d F' al' H', Post F al H F' al' H' → Good T K F' al' S' H' → RwX T K F' al' x cls d → E cls d σ H'
  | .bad => False
def tI (E : WX) (m : Ml) : TI := fun σ H R => ∃ F al S ρ, Good T K F al S H ∧ EnvOk T K F al σ ρ ∧ IQ T K E σ F al H (m ρ S) R
end
section
variable {T : Tab} {K : PySem.W.Frag} {E : WX} {σ : L2.St} {ρ : Env} {F F' : Hp} {al al' : List Addr} {H H' : Hp} {S S' : Sto}
theorem IQ.post {r : LRes} {Q : L2.It → Hp → Prop} (p : Post F al H F' al' H') (h : IQ T K E σ F al H r Q) : IQ T K E σ F' al' H' r Q := by
  cases r with
  | ok w S' => exact fun v F2 al2 H2 q g r => h v F2 al2 H2 (p.trans q) g r
  | exc x S' => exact fun c d F2 al2 H2 q g r => h c d F2 al2 H2 (p.trans q) g r
  | bad => exact h
theorem tW.bindI {m : Me} {f : W → Sto → LRes} {R : L2.It → Hp → Prop} (g : Good T K F al S H) (e : EnvOk T K F al σ ρ) (h : IQ T K E σ F al H ((m ρ S).bindL f) R) :
    tW T K E m σ H fun v H1 => ∃ F1 al1 S1 w, Mid T K F al H σ ρ F1 al1 S1 H1 ∧ Rw T K F1 al1 v w ∧ IQ T K E σ F1 al1 H1 (f w S1) R := by
  refine ⟨F, al, S, ρ, g, e, ?_⟩
  cases q : m ρ S with
  | ok w S1 =>
    rw [q] at h
    exact fun v F1 al1 H1 p g1 r => ⟨F1, al1, S1, w, ⟨g1, e.post p, p⟩, r, IQ.post p h⟩
  | exc x S1 => rw [q] at h; exact h
  | bad => rw [q] at h; exact h
theorem tL.bindI {m : Ml} {f : List W → Sto → LRes} {R : L2.It → Hp → Prop} (g : Good T K F al S H) (e : EnvOk T K F al σ ρ) (h : IQ T K E σ F al H ((m ρ S).bindL f) R) :
    tL T K E m σ H fun v H1 => ∃ F1 al1 S1 w, Mid T K F al H σ ρ F1 al1 S1 H1 ∧ RwL T K F1 al1 v w ∧ IQ T K E σ F1 al1 H1 (f w S1) R := by
  refine ⟨F, al, S, ρ, g, e, ?_⟩
  cases q : m ρ S with
  | ok w S1 =>
    rw [q] at h
    exact fun v F1 al1 H1 p g1 r => ⟨F1, al1, S1, w, ⟨g1, e.post p, p⟩, r, IQ.post p h⟩
  | exc x S1 => rw [q] at h; exact h
  | bad => rw [q] at h; exact h
theorem IQ.val {ws : List W} {J : L2.It} {R : L2.It → Hp → Prop} (h : IQ T K E σ F al H (.ok ws S) R) (g : Good T K F al S H) (r : WkW T K F al J ws) : R J H := h J F al H Post.refl g r
theorem wk_seq {a : Addr} {xs : List V} {ws : List W} (b : Bool) (q : SqB K F b a xs) (r : RwL T K F al xs ws) : WkW T K F al (match b with | false => Itl K a | true => Itt K a) ws := by
  have yld : ∀ i (H : Hp) v (H' : Hp), i < ws.length → YAt xs i H v H' → ∀ F1 al1 S1, Same F F1 → Pre al al1 → Good T K F1 al1 S1 H → ∃ F2 x, ws[i]? = some x ∧ Good T K F2 al1 S1 H' ∧ Post F1 al1 H F2 al1 H' ∧ Rw T K F2 al1 v x := by
    rintro i H v H' hi ⟨rfl, hx⟩ F1 al1 S1 s p g
    obtain ⟨w, h1, h2⟩ := r.getV hx
    exact ⟨F1, w, h1, g, Post.refl, h2.mono s p⟩
  cases b with
  | false => exact ⟨_, _, by rw [← r.length]; exact walk_list, fun H s => (by
      rcases (q : SqL K F a xs) with q | q
      · exact .inl (rd_mono s q)
      · exact .inr q : SqL K H a xs), yld⟩
  | true => exact ⟨_, _, by rw [← r.length]; exact walk_tup, fun H s => sqT_mono s q, yld⟩
theorem sqB_mono {b : Bool} {a : Addr} {xs : List V} (s : Same F F') (q : SqB K F b a xs) : SqB K F' b a xs := by
  cases b with
  | false =>
    rcases (q : SqL K F a xs) with q | q
    · exact .inl (rd_mono s q)
    · exact .inr q
  | true => exact sqT_mono s q
theorem items_seq {v : V} {w : W} {ws : List W} (r : Rw T K F al v w) (e : items w = some ws) : ∃ (b : Bool) (a : Addr) (xs : List V), v = .ref a ∧ SqB K F b a xs ∧ RwL T K F al xs ws := by
  unfold items at e
  split at e
  · cases e
    cases r with
    | tup q r => exact ⟨true, _, _, rfl, q, r⟩
  · cases e
    cases r with
    | tpx q d r => exact ⟨true, _, _, rfl, .inl (.inr ⟨_, q⟩), r⟩
  · cases e
    cases r with
    | lst q r => exact ⟨false, _, _, rfl, q, r⟩
  · cases e
theorem wk_pair {J : L2.It} {n : Nat} {G : Hp → Prop} {f g : Nat → Option V} {ws : List W} (hn : ws.length = n) (wk : Walk J n G (YPair f g)) (hG : ∀ H, Same F H → G H)
    (h : ∀ i x y, i < n → f i = some x → g i = some y → ∃ u w, ws[i]? = some (.tup [u, w]) ∧ Rw T K F al x u ∧ Rw T K F al y w) : WkW T K F al J ws := by
  subst hn
  refine ⟨_, _, wk, hG, ?_⟩
  rintro i H v H' hi ⟨a, x, y, rfl, h1, rfl, h2, h3⟩ F1 al1 S1 s p gg
  obtain ⟨u, w, h4, h5, h6⟩ := h i x y hi h2 h3
  obtain ⟨a1, b1, c1⟩ := gg.newTup h1 (.cons (h5.mono s p) (.cons (h6.mono s p) .nil))
  exact ⟨_, _, h4, a1, b1, c1⟩
theorem rangeW_len : ∀ (n : Nat) (lo : Int), (rangeW lo n).length = n
  | 0, _ => rfl
  | n + 1, lo => by rw [rangeW, List.length_cons, rangeW_len n]
theorem rangeW_get : ∀ (n : Nat) (lo : Int) (i : Nat), i < n → (rangeW lo n)[i]? = some (.int (lo + i))
  | 0, _, _, h => by omega
  | n + 1, lo, 0, _ => by simp [rangeW]
  | n + 1, lo, i + 1, h => by
    rw [rangeW, List.getElem?_cons_succ, rangeW_get n (lo + 1) i (by omega)]
    congr 2; push_cast; omega
theorem wk_range (lo : Int) (n : Nat) : WkW T K F al (Itr lo n) (rangeW lo n) := by
  refine ⟨_, _, by rw [rangeW_len]; exact walk_range, fun _ _ => trivial, ?_⟩
  rintro i H v H' hi ⟨rfl, rfl⟩ F1 al1 S1 s p g
  rw [rangeW_len] at hi
  exact ⟨F1, _, rangeW_get n lo i hi, g, Post.refl, .int _⟩
theorem enumI_len : ∀ (ws : List W) (c : Int), (jEnum.enumI c ws).length = ws.length
  | [], _ => rfl
  | w :: ws, c => by rw [jEnum.enumI, List.length_cons, List.length_cons, enumI_len ws]
theorem enumI_get : ∀ (ws : List W) (c : Int) (i : Nat) (w : W), ws[i]? = some w → (jEnum.enumI c ws)[i]? = some (.tup [.int (c + (i : Nat)), w])
  | [], _, _, _, h => by simp at h
  | x :: ws, c, 0, w, h => by simp at h; subst h; simp [jEnum.enumI]
  | x :: ws, c, i + 1, w, h => by
    rw [jEnum.enumI, List.getElem?_cons_succ, enumI_get ws (c + 1) i w (by simpa using h)]
    congr 4; push_cast; omega
theorem zipW_len : ∀ (xs ys : List W), (zipW xs ys).length = min xs.length ys.length
  | [], _ => by simp [zipW]
  | _ :: _, [] => by simp [zipW]
  | x :: xs, y :: ys => by rw [zipW, List.length_cons, List.length_cons, List.length_cons, zipW_len xs ys]; omega
theorem zipW_get : ∀ (xs ys : List W) (i : Nat) (x y : W), xs[i]? = some x → ys[i]? = some y → (zipW xs ys)[i]? = some (.tup [x, y])
  | [], _, _, _, _, h, _ => by simp at h
  | _ :: _, [], _, _, _, _, h => by simp at h
  | a :: xs, b :: ys, 0, x, y, h, k => by simp at h k; subst h; subst k; simp [zipW]
  | a :: xs, b :: ys, i + 1, x, y, h, k => by
    rw [zipW, List.getElem?_cons_succ]
    exact zipW_get xs ys i x y (by simpa using h) (by simpa using k)
theorem walk_zipT {a b : Addr} {xs ys : List V} {n : Nat} (hn : n = min xs.length ys.length) : Walk (RZ.ItzT K a b) n (fun H => SqT K H a xs ∧ SqT K H b ys) (YPair (fun i => xs[i]?) (fun i => ys[i]?)) := by
  subst hn
  refine ⟨fun i _ hi q => ?_, fun _ q => ⟨xs, ys, q.1, q.2, by omega⟩, fun i H v H' _ q y => ?_⟩
  · have h1 : i < xs.length := by omega
    have h2 : i < ys.length := by omega
    exact ⟨xs, ys, xs[i], ys[i], q.1, q.2, by simp [h1], by simp [h2]⟩
  · obtain ⟨T, x, z, h1, h2, h3, h4, h5⟩ := y
    exact ⟨T, x, z, h1, h2, h3, h4 xs q.1, h5 ys q.2⟩
theorem zip_pairs {xs ys : List V} {us ws : List W} (r : RwL T K F al xs us) (r2 : RwL T K F al ys ws) : ∀ i x y, i < min xs.length ys.length → xs[i]? = some x → ys[i]? = some y → ∃ u w, (zipW us ws)[i]? = some (.tup [u, w]) ∧ Rw T K F al x u ∧ Rw T K F al y w := by
  intro i x y _ hx hy
  obtain ⟨u, h1, h2⟩ := r.getV hx
  obtain ⟨w, h3, h4⟩ := r2.getV hy
  exact ⟨u, w, zipW_get us ws i u w h1 h3, h2, h4⟩
end

section
variable {X : Cx} {T : Tab} {E : WX} {pos : Pos} {a b c tg : Expr} {p q r : Me} {es : List Expr} {ps : Ml} {bp bq br : Mb}
theorem i_seq (h : PE X a (tW T X.K E p)) : PI X tg a (tI T X.K E (jE p)) := by
  refine ⟨fun pins s σ H R I h0 => ?_⟩
  obtain ⟨F, al, S, ρ, g, e, h0⟩ := h0
  have h1 := (tW.bindI g e h0)
  cases q0 : p ρ S with
  | bad =>
    obtain ⟨_, _, _, _, _, _, h2⟩ := h1
    unfold jE at h0; rw [q0] at h0; exact h0.elim
  | exc x S' =>
    unfold jE at h0; rw [q0] at h0
    exact (pi_list (tg := tg) h).run pins s σ H R I ⟨F, al, S, ρ, g, e, by rw [q0]; exact h0⟩
  | ok w S' =>
    unfold jE at h0; rw [q0] at h0
    replace h0 : IQ T X.K E σ F al H (optL S' (items w)) R := h0
    cases e1 : items w with
    | none => rw [e1] at h0; exact h0.elim
    | some ws =>
      rw [e1] at h0
      replace h0 : IQ T X.K E σ F al H (.ok ws S') R := h0
      cases w with
      | tup us =>
        cases e1
        refine (pi_tup (tg := tg) h).run pins s σ H R I ⟨F, al, S, ρ, g, e, ?_⟩
        rw [q0]
        intro v F' al' H' po g' r
        cases r with
        | tup hq hr => exact ⟨_, rfl, ⟨_, sqT_mono g'.sub hq⟩, h0 _ _ _ _ po g' (wk_seq true hq hr)⟩
      | tpx us =>
        cases e1
        refine (pi_tup (tg := tg) h).run pins s σ H R I ⟨F, al, S, ρ, g, e, ?_⟩
        rw [q0]
        intro v F' al' H' po g' r
        cases r with
        | tpx hq hd hr => exact ⟨_, rfl, ⟨_, .inl (.inr ⟨_, g'.sub _ _ hq⟩)⟩, h0 _ _ _ _ po g' (wk_seq true (.inl (.inr ⟨_, hq⟩)) hr)⟩
      | lst us =>
        cases e1
        refine (pi_list (tg := tg) h).run pins s σ H R I ⟨F, al, S, ρ, g, e, ?_⟩
        rw [q0]
        intro v F' al' H' po g' r
        cases r with
        | lst hq hr => exact ⟨_, rfl, ⟨_, sqL_mono g'.sub hq⟩, h0 _ _ _ _ po g' (wk_seq false hq hr)⟩
      | _ => cases e1
theorem i_range1 {pp : Pos} (hg : Gl X "range") (hm : X.mg "range" = none) (ha : PE X a (tW T X.K E p)) (hs : starEach [a] X.env = (false, eval a X.env) :: starEach [] X.env) : PI X tg (.Call (.Name "range" pp) [a] [] pos) (tI T X.K E (jRange1 p)) := by
  refine piM (pi_range1 hg hm (pa_cons ha pa_nil hs) hs) ?_
  rintro σ H R ⟨F, al, S, ρ, g, e, h⟩
  refine (tW.bindI g e h).imp fun x H1 ⟨F1, al1, S1, w, m, r, h1⟩ => ?_
  split at h1
  · split at h1
    · rename_i j hj
      cases r
      exact ⟨j, rfl, hj.1, hj.2, h1.val m.g (wk_range 0 j.toNat)⟩
    · exact h1.elim
  · exact h1.elim
theorem i_range2 {pp : Pos} (hg : Gl X "range") (hm : X.mg "range" = none) (ha : PE X a (tW T X.K E p)) (hb : PE X b (tW T X.K E q)) (hs : starEach [a, b] X.env = (false, eval a X.env) :: starEach [b] X.env) (hs2 : starEach [b] X.env = (false, eval b X.env) :: starEach [] X.env) :
    PI X tg (.Call (.Name "range" pp) [a, b] [] pos) (tI T X.K E (jRange2 p q)) := by
  refine piM (pi_range2 hg hm (pa_cons ha (pa_cons hb pa_nil hs2) hs) (by rw [hs, hs2]; rfl) (by rw [hs2]; rfl)) ?_
  rintro σ H R ⟨F, al, S, ρ, g, e, h⟩
  refine (tW.bindI g e h).imp fun x H1 ⟨F1, al1, S1, w, m, r, h1⟩ => ?_
  refine (tW.bindI m.g m.e h1).imp fun y H2 ⟨F2, al2, S2, u, m2, r2, h2⟩ => ?_
  split at h2
  · split at h2
    · rename_i hj
      cases r; cases r2
      exact ⟨_, _, rfl, ⟨hj.1.1, hj.1.2, hj.2.1, hj.2.2⟩, h2.val m2.g (wk_range _ _)⟩
    · exact h2.elim
  · exact h2.elim
theorem enum_sound {K : PySem.W.Frag} {F : Hp} {al : List Addr} {H : Hp} {S : Sto} {σ : L2.St} {c : Int} {v : V} {w : W} {R : L2.It → Hp → Prop} (g : Good T K F al S H) (r : Rw T K F al v w) (h : IQ T K E σ F al H (optL S ((items w).map (jEnum.enumI c))) R) :
    ∃ (t : Bool) (a : Addr) (xs : List V), [v] = [.ref a] ∧ SqB K H t a xs ∧ R (ItE K t c a) H := by
  cases e1 : items w with
  | none => rw [e1] at h; exact h.elim
  | some ws =>
    rw [e1] at h
    obtain ⟨t, a, xs, rfl, h1, h2⟩ := items_seq r e1
    refine ⟨t, a, xs, rfl, sqB_mono g.sub h1, h.val g ?_⟩
    refine wk_pair (n := xs.length) (by rw [enumI_len, h2.length]) walk_enumB (fun H s => sqB_mono s h1) fun i x y hi e2 e3 => ?_
    cases e2
    obtain ⟨w, h4, h5⟩ := h2.getV e3
    exact ⟨_, _, enumI_get ws c i w h4, .int _, h5⟩
theorem i_enum {elts : List Expr} {kk : Nat} {tpos pp : Pos} (hg : Gl X "enumerate") (hm : X.mg "enumerate" = none) (ha : PE X a (tW T X.K E p)) (hs : starEach [a] X.env = (false, eval a X.env) :: starEach [] X.env) : PI X (.Tuple elts kk tpos) (.Call (.Name "enumerate" pp) [a] [] pos) (tI T X.K E (jEnum 0 p)) := by
  refine piM (pi_enumB hg hm (pa_cons ha pa_nil hs) hs) ?_
  rintro σ H R ⟨F, al, S, ρ, g, e, h⟩
  exact (tW.bindI g e h).imp fun x H1 ⟨F1, al1, S1, w, m, r, h1⟩ => enum_sound m.g r h1
theorem i_enumS {elts : List Expr} {kk ck : Nat} {tpos pp cpos kpos : Pos} {c : Int} (h0 : -(2 ^ 63) ≤ c) (h1 : c < 2 ^ 63) (hg : Gl X "enumerate") (hm : X.mg "enumerate" = none) (ha : PE X a (tW T X.K E p)) (hs : starEach [a] X.env = (false, eval a X.env) :: starEach [] X.env) :
    PI X (.Tuple elts kk tpos) (.Call (.Name "enumerate" pp) [a] [⟨some (Str.ofString "start"), .Constant (.int c) ck cpos, kpos⟩] pos) (tI T X.K E (jEnum c p)) := by
  refine piM (pi_enumS h0 h1 hg hm (pa_cons ha pa_nil hs) hs) ?_
  rintro σ H R ⟨F, al, S, ρ, g, e, h⟩
  exact (tW.bindI g e h).imp fun x H1 ⟨F1, al1, S1, w, m, r, h1⟩ => enum_sound m.g r h1
theorem i_zip {elts : List Expr} {kk : Nat} {tpos pp : Pos} (hg : Gl X "zip") (hm : X.mg "zip" = none) (ha : PE X a (tW T X.K E p)) (hb : PE X b (tW T X.K E q)) (hs : starEach [a, b] X.env = (false, eval a X.env) :: starEach [b] X.env) (hs2 : starEach [b] X.env = (false, eval b X.env) :: starEach [] X.env) (hpl : (backTo pos (starEach [b] X.env)).any (·.1) = false) :
    PI X (.Tuple elts kk tpos) (.Call (.Name "zip" pp) [a, b] [] pos) (tI T X.K E (jZip p q)) := by
  refine piM (RZ.pi_zipA hg hm (pa_cons ha (pa_cons hb pa_nil hs2) hs) hs hpl) ?_
  rintro σ H R ⟨F, al, S, ρ, g, e, h⟩
  refine (tW.bindI g e h).imp fun x H1 ⟨F1, al1, S1, w, m, r, h1⟩ => ?_
  refine (tW.bindI m.g m.e h1).imp fun y H2 ⟨F2, al2, S2, u, m2, r2, h2⟩ => ?_
  replace r := r.post m2.p
  split at h2
  · cases r with
    | tup q1 r1 => cases r2 with
      | tup q3 r3 =>
        refine ⟨_, _, _, _, rfl, .inr ⟨sqT_mono m2.g.sub q1, sqT_mono m2.g.sub q3, h2.val m2.g ?_⟩⟩
        exact wk_pair (by rw [zipW_len, r1.length, r3.length]) (walk_zipT rfl) (fun H s => ⟨sqT_mono s q1, sqT_mono s q3⟩) (zip_pairs r1 r3)
  · cases r with
    | lst q1 r1 => cases r2 with
      | lst q3 r3 =>
        refine ⟨_, _, _, _, rfl, .inl ⟨sqL_mono m2.g.sub q1, sqL_mono m2.g.sub q3, h2.val m2.g ?_⟩⟩
        exact wk_pair (by rw [zipW_len, r1.length, r3.length]) (walk_zip rfl) (fun H s => ⟨sqL_mono s q1, sqL_mono s q3⟩) (zip_pairs r1 r3)
  · exact h2.elim
theorem i_zips {elts : List Expr} {kk ck : Nat} {tpos pp cpos kpos : Pos} (hg : Gl X "zip") (hm : X.mg "zip" = none) (ha : PE X a (tW T X.K E p)) (hb : PE X b (tW T X.K E q)) (hs : starEach [a, b] X.env = (false, eval a X.env) :: starEach [b] X.env) (hs2 : starEach [b] X.env = (false, eval b X.env) :: starEach [] X.env) (hpl : (backTo pos (starEach [b] X.env)).any (·.1) = false)
    (hi : ∀ {ta : TA}, PA X [a, b] ta → PI X (.Tuple elts kk tpos) (.Call (.Name "zip" pp) [a, b] [⟨some (Str.ofString "strict"), .Constant (.bool true) ck cpos, kpos⟩] pos) (iZipS X.K ta)) :
    PI X (.Tuple elts kk tpos) (.Call (.Name "zip" pp) [a, b] [⟨some (Str.ofString "strict"), .Constant (.bool true) ck cpos, kpos⟩] pos) (tI T X.K E (jZips p q)) := by
  refine piM (hi (pa_cons ha (pa_cons hb pa_nil hs2) hs)) ?_
  rintro σ H R ⟨F, al, S, ρ, g, e, h⟩
  refine (tW.bindI g e h).imp fun x H1 ⟨F1, al1, S1, w, m, r, h1⟩ => ?_
  refine (tW.bindI m.g m.e h1).imp fun y H2 ⟨F2, al2, S2, u, m2, r2, h2⟩ => ?_
  replace r := r.post m2.p
  split at h2
  · rename_i us ws e1 e2
    split at h2
    · rename_i hl
      obtain ⟨t1, a1, xs, rfl, q1, r1⟩ := items_seq r e1
      obtain ⟨t2, a2, ys, rfl, q3, r3⟩ := items_seq r2 e2
      have hl2 : xs.length = ys.length := by rw [r1.length, r3.length, hl]
      refine ⟨t1, t2, _, _, _, _, rfl, sqB_mono m2.g.sub q1, sqB_mono m2.g.sub q3, h2.val m2.g ?_⟩
      refine wk_pair (by rw [zipW_len, ← r1.length, ← r3.length, ← hl2, Nat.min_self]) (walk_zipS hl2) (fun H s => ⟨sqB_mono s q1, sqB_mono s q3⟩) ?_
      intro i x y hi hx hy
      exact zip_pairs r1 r3 i x y (by omega) hx hy
    · exact h2.elim
  · exact h2.elim

/-! ### targets -/
def gTg (K : PySem.W.Frag) : Tg → TG
  | .nm i => gName i
  | .tup is => fun v σ H Q => gTup K is.length (gAll is) v σ H Q ∨ gLst K is.length (gAll is) v σ H Q
  | .star is j => gStar K is.length (gAll (is ++ [j]))
theorem pgs_len : ∀ {is : List Nat} {ws : List W} {ρ ρ' : Env}, setAll is ws ρ = some ρ' → ws.length = is.length
  | [], [], _, _, _ => rfl
  | [], _ :: _, _, _, e => by cases e
  | _ :: _, [], _, _, e => by cases e
  | i :: is, w :: ws, ρ, ρ', e => by rw [List.length_cons, List.length_cons, pgs_len (is := is) (ws := ws) e]
def Tg.slots : Tg → List Nat
  | .nm i => [i]
  | .tup is => is
  | .star is j => is ++ [j]
theorem setAll_app : ∀ {is : List Nat} {ws : List W} {j : Nat} {w : W} {ρ ρ' : Env}, setAll is ws ρ = some ρ' → setAll (is ++ [j]) (ws ++ [w]) ρ = some (ρ'.set j (some w))
  | [], [], _, _, _, _, e => by cases e; rfl
  | [], _ :: _, _, _, _, _, e => by cases e
  | _ :: _, [], _, _, _, _, e => by cases e
  | i :: is, x :: ws, j, w, ρ, ρ', e => setAll_app (is := is) (ws := ws) e
theorem tg_sound {K : PySem.W.Frag} {F : Hp} {al : List Addr} {H : Hp} {S : Sto} {σ σ0 : L2.St} {ρ ρ' : Env} (vs : List Nat) {tg : Tg} {v : V} {w : W} {Q : L2.St → Hp → Prop} (g : Good T K F al S H) (r : Rw T K F al v w) (e : EnvOk T K F al σ ρ) (hb : bindTg tg w ρ = some ρ') (hv : ∀ i ∈ tg.slots, i ∈ vs) (hw : L2.wipe σ vs = L2.wipe σ0 vs)
    (k : ∀ σ' F' al' H', Post F al H F' al' H' → Good T K F' al' S H' → EnvOk T K F' al' σ' ρ' → L2.wipe σ' vs = L2.wipe σ0 vs → Q σ' H') : gTg K tg v σ H Q := by
  cases tg with
  | nm i =>
    cases hb
    exact k _ _ _ _ Post.refl g (e.set r i) (by rw [wipe_set (hv i (List.mem_singleton.mpr rfl))]; exact hw)
  | tup is =>
    cases r with
    | tup q r =>
      exact .inl ⟨_, _, rfl, sqT_mono g.sub q, by rw [r.length, pgs_len hb], gAll_sound vs r e hb hv hw fun σ' e' h' => k _ _ _ _ Post.refl g e' h'⟩
    | tpx q d r =>
      exact .inl ⟨_, _, rfl, .inl (.inr ⟨_, g.sub _ _ q⟩), by rw [r.length, pgs_len hb], gAll_sound vs r e hb hv hw fun σ' e' h' => k _ _ _ _ Post.refl g e' h'⟩
    | lst q r =>
      exact .inr ⟨_, _, rfl, sqL_mono g.sub q, by rw [r.length, pgs_len hb], gAll_sound vs r e hb hv hw fun σ' e' h' => k _ _ _ _ Post.refl g e' h'⟩
    | _ => cases hb
  | star is j =>
    cases r with
    | @tup a xs ws q r =>
      replace hb : (if is.length ≤ ws.length ∧ ws.length ≤ 16384 then (setAll is (ws.take is.length) ρ).map fun ρ' => ρ'.set j (some (.lst (ws.drop is.length))) else none) = some ρ' := hb
      split at hb
      · rename_i hl
        rw [Option.map_eq_some_iff] at hb
        obtain ⟨ρ1, h1, rfl⟩ := hb
        refine ⟨_, _, rfl, sqT_mono g.sub q, by rw [r.length]; exact hl.1, by rw [r.length]; exact hl.2, fun p hp => ?_⟩
        obtain ⟨a1, b1, c1⟩ := g.newLst hp (r.drop is.length)
        refine gAll_sound vs ((r.take is.length).mono b1.ext b1.pre |>.append (.cons c1 .nil)) (e.post b1) (setAll_app h1) hv hw fun σ' e' h' => k _ _ _ _ b1 a1 e' h'
      · cases hb
    | _ => cases hb
theorem g_name {i : Nat} {x : Str} (hN : X.N.Nodup) (hi : X.N[i]? = some x) (hx : Loc X.env.scope x) (hf : X.fn x = true ∨ X.env.scope.names.lookup x = some .local) : PG X (.Name x pos) (gTg X.K (.nm i)) := pg_name hN hi hx hf
theorem gs_nil : PGs X [] (gAll []) := pgs_nil
theorem gs_name {i : Nat} {x : Str} {is : List Nat} (hN : X.N.Nodup) (hi : X.N[i]? = some x) (hx : Loc X.env.scope x) (hf : X.fn x = true ∨ X.env.scope.names.lookup x = some .local) (h2 : PGs X es (gAll is)) (hs : (assignEach (.Name x pos :: es) X.env).map (·.2) = assign (.Name x pos) X.env :: (assignEach es X.env).map (·.2)) : PGs X (.Name x pos :: es) (gAll (i :: is)) := pgs_cons (pg_name hN hi hx hf) h2 hs
theorem gs_star {i : Nat} {x : Str} {pp : Pos} (hN : X.N.Nodup) (hi : X.N[i]? = some x) (hx : Loc X.env.scope x) (hf : X.fn x = true ∨ X.env.scope.names.lookup x = some .local) (hs : (assignEach [.Starred (.Name x pos) pp] X.env).map (·.2) = [assign (.Name x pos) X.env]) : PGs X [.Starred (.Name x pos) pp] (gAll [i]) := by
  refine ⟨fun pins s σ H vs us Q I r h => ?_⟩
  have := (pgs_cons (pg_name (pos := pos) hN hi hx hf) pgs_nil rfl).run pins s σ H vs us Q I r h
  rw [hs]
  exact this
theorem g_tup {is : List Nat} {k : Nat} (hc : X.calm = true) (h : PGs X es (gAll is)) (hn : (assignEach es X.env).length = is.length) (hst : (assignEach es X.env).findIdx? (·.1) = none) : PG X (.Tuple es k pos) (gTg X.K (.tup is)) := by
  refine ⟨fun pins s σ H v u Q I r hw => ?_⟩
  rcases hw with hw | hw
  · exact (pg_tup hc h hn hst).run pins s σ H v u Q I r hw
  · exact (pg_lst hc h hn hst).run pins s σ H v u Q I r hw
theorem g_star {is : List Nat} {j k : Nat} (hc : X.calm = true) (h : PGs X es (gAll (is ++ [j]))) (hn : (assignEach es X.env).length = is.length + 1) (hst : (assignEach es X.env).findIdx? (·.1) = some is.length) : PG X (.Tuple es k pos) (gTg X.K (.star is j)) := pg_star hc h hn hst
end
end DL

set_option Elab.async false
set_option linter.all false
set_option maxRecDepth 100000
set_option maxHeartbeats 4000000
/-! Wi: comprehensions. -/
namespace DL
open PySem PySem.Spec L2

section
variable {T : Tab} {K : PySem.W.Frag} {E : WX} {σ : L2.St} {ρ : Env} {F F' F2 : Hp} {al al' al2 : List Addr} {H H' H2 : Hp} {S S' : Sto} {D : Addr} {o : HO}
theorem wipe_wipe {vs : List Nat} : ∀ {ws : List Nat} {σ : L2.St}, (∀ i ∈ ws, i ∈ vs) → L2.wipe (L2.wipe σ ws) vs = L2.wipe σ vs
  | [], _, _ => rfl
  | w :: ws, σ, h => by
    show L2.wipe ((L2.wipe σ ws).set w none) vs = _
    rw [wipe_set (h w (List.mem_cons_self ..))]
    exact wipe_wipe fun i hi => h i (List.mem_cons_of_mem _ hi)
theorem Good.other (g : Good T K F al S H) (hA : D ∉ al) (hF : F D = none) (o : HO) : Good T K F al S (upd H D o) := by
  refine ⟨fun b u e => ?_, g.nd, g.len, fun a ha => ?_, fun n a c ha hc => ?_⟩
  · rw [upd_ne (ne_of_none e hF)]; exact g.sub b u e
  · rw [upd_ne (show a ≠ D from fun e => hA (e ▸ ha))]; exact g.tr a ha
  · have ne : a ≠ D := fun e => hA (e ▸ List.mem_of_getElem? ha)
    exact (g.cell n a c ha hc).mono (Same.refl _) (Pre.refl _) (fun o h => by rw [upd_ne ne]; exact h) (fun h => h)
theorem Post.other (p : Post F al H F' al' H') (hD : H D = none) (o : HO) : Post F al H F' al' (upd H' D o) :=
  ⟨p.ext, p.pre, p.fresh, fun b u e hb => by rw [upd_ne (ne_of_none e hD)]; exact p.keep b u e hb, p.dom⟩
theorem Good.adoptF (g : Good T K F al S H) (hA : D ∉ al) (hF : F D = none) (ho : H D = some o) : Good T K (upd F D o) al S H := by
  have s1 : Same F (upd F D o) := fun b u e => by rw [upd_ne (ne_of_none e hF)]; exact e
  refine ⟨fun b u e => ?_, g.nd, g.len, g.tr, fun n a c ha hc => ?_⟩
  · by_cases q : b = D
    · subst q; rw [upd_same] at e; rw [← e]; exact ho
    · rw [upd_ne q] at e; exact g.sub b u e
  · have ne : a ≠ D := fun e => hA (e ▸ List.mem_of_getElem? ha)
    exact (g.cell n a c ha hc).mono s1 (Pre.refl _) (fun o h => h) (fun h => by rw [upd_ne ne]; exact h)
theorem Post.adoptF (p : Post F al H F' al' H') (hF : F' D = none) (hD : H D = none) (o : HO) : Post F al H (upd F' D o) al' H' := by
  refine ⟨fun b u e => ?_, p.pre, p.fresh, p.keep, fun b h => ?_⟩
  · have := p.ext b u e
    rw [upd_ne (ne_of_none this hF)]; exact this
  · by_cases q : b = D
    · subst q; exact .inr (.inr hD)
    · rw [upd_ne q] at h; exact p.dom b h
theorem Good.adoptC (g : Good T K F al S H) (hA : D ∉ al) (ho : H D ≠ none) {c : Cell} (hc : CellOk T K F (al ++ [D]) H D c) : Good T K F (al ++ [D]) (S ++ [c]) H := by
  refine ⟨g.sub, ?_, by rw [List.length_append, List.length_append, g.len]; rfl, fun a ha => ?_, fun n a d ha hd => ?_⟩
  · rw [List.nodup_append]
    refine ⟨g.nd, by simp, fun a ha b hb e => ?_⟩
    have : b = D := by simpa using hb
    subst this; subst e; exact hA ha
  · rcases List.mem_append.mp ha with h | h
    · exact g.tr a h
    · have : a = D := by simpa using h
      subst this; exact ho
  · by_cases hn : n < al.length
    · rw [List.getElem?_append_left hn] at ha
      rw [List.getElem?_append_left (by rw [← g.len]; exact hn)] at hd
      exact (g.cell n a d ha hd).mono (Same.refl _) (Pre.app _ _) (fun o h => h) (fun h => h)
    · have h2 : n = al.length := by
        have := (List.getElem?_eq_some_iff.mp ha).1
        rw [List.length_append] at this
        simp at this; omega
      subst h2
      rw [List.getElem?_append_right (Nat.le_refl _), Nat.sub_self] at ha
      rw [g.len, List.getElem?_append_right (Nat.le_refl _), Nat.sub_self] at hd
      simp at ha hd
      subst ha; subst hd
      exact hc
theorem Post.adoptC (p : Post F al H F' al' H') (hD : H D = none) : Post F al H F' (al' ++ [D]) H' := by
  refine ⟨p.ext, p.pre.trans (Pre.app _ _), fun b h => ?_, p.keep, p.dom⟩
  rcases List.mem_append.mp h with h | h
  · exact p.fresh b h
  · have : b = D := by simpa using h
    subst this; exact .inr hD
theorem Post.offA (p : Post F al H F' al' H') (hA : D ∉ al) (ho : H D = some o) : D ∉ al' := fun h => by
  rcases p.fresh D h with z | z
  · exact hA z
  · rw [ho] at z; cases z
theorem Post.offF (p : Post F al H F' al' H') (hA : D ∉ al) (hF : F D = none) (ho : H D = some o) : F' D = none := by
  cases e : F' D with
  | none => rfl
  | some u =>
    rcases p.dom D (by rw [e]; simp) with z | z | z
    · exact absurd hF z
    · exact absurd z hA
    · rw [ho] at z; cases z
theorem lc_sound {it : Ml} {c : Mb} {el : Me} {tgt : Tg} {vs : List Nat} {mt : Bool} {Q : VK} (hsl : ∀ i ∈ tgt.slots, i ∈ vs) (h : tW T K E (mLc mt vs tgt it c el) σ H Q) : tLc (tI T K E it) (gTg K tgt) (DL.tB T K EF c) (tW T K EF el) vs σ H Q := by
  obtain ⟨F, al, S, ρ, g, e, h⟩ := h
  refine ⟨F, al, S, ρ, g, e, ?_⟩
  unfold mLc at h
  cases q : it ρ S with
  | bad => rw [q] at h; exact h.elim
  | exc x S' => rw [q] at h; exact h
  | ok xs S' =>
    rw [q] at h
    replace h : RQ T K E σ F al H (if xs.length ≤ limit then (compM (lcStep ρ vs tgt c el) xs [] S').bind fun ys S => if mt then newCellR (.lst ys) S else .ok (.lst ys) S else .bad) Q := h
    intro J F1 al1 H1 p1 g1 wk D hD
    split at h
    case isFalse => exact h.elim
    rename_i hlim
    obtain ⟨G, Y, w, hG, hY⟩ := wk
    have nb : compM (lcStep ρ vs tgt c el) xs [] S' ≠ .bad := fun z => by rw [z] at h; exact h.elim
    refine lc_it w (fun i H2 => ∃ F2 al2 S2 acc vacc, Post F1 al1 H1 F2 al2 H2 ∧ Good T K F2 al2 S2 H2 ∧ H2 D = some (.lst vacc) ∧ F2 D = none ∧ D ∉ al2 ∧ RwL T K F2 al2 vacc acc ∧ vacc.length ≤ i ∧
      compM (lcStep ρ vs tgt c el) (xs.drop i) acc S2 = compM (lcStep ρ vs tgt c el) xs [] S') ?_ ?_ ?_ ?_
    · obtain ⟨a, b⟩ := g1.side hD (.lst [])
      exact ⟨F1, al1, S', [], [], b, a, upd_same, g1.notF hD, g1.notA hD, .nil, Nat.le_refl _, rfl⟩
    · rintro i H2 hi ⟨F2, al2, S2, acc, vacc, p2, g2, _⟩
      exact hG H2 fun b u e => g2.sub b u (p2.ext b u e)
    · rintro i x H2 H2' hi ⟨F2, al2, S2, acc, vacc, p2, g2, hHD, hFD, hAD, racc, hl, hcm⟩ y
      obtain ⟨F3, u, hu, g3, p3, r3⟩ := hY i H2 x H2' hi y F2 al2 S2 p2.ext p2.pre g2
      have hHD3 : H2' D = some (.lst vacc) := p3.keep D _ hHD hAD
      have hFD3 : F3 D = none := p3.offF hAD hFD hHD
      have hdrop : xs.drop i = u :: xs.drop (i + 1) := by
        obtain ⟨hi', hu'⟩ := List.getElem?_eq_some_iff.mp hu
        rw [List.drop_eq_getElem_cons hi', hu']
      rw [hdrop] at hcm
      replace hcm : (lcStep ρ vs tgt c el u S2).bindL (fun ys S' => compM (lcStep ρ vs tgt c el) (xs.drop (i + 1)) (acc ++ ys) S') = compM (lcStep ρ vs tgt c el) xs [] S' := hcm
      unfold lcStep at hcm
      cases hb : bindTg tgt u (wipeW ρ vs) with
      | none => rw [hb] at hcm; exact absurd hcm.symm nb
      | some ρ' =>
        simp only [hb] at hcm
        refine tg_sound vs (σ0 := σ) g3 r3 ((wipe_envOk e vs).mono (p1.ext.trans (p2.ext.trans p3.ext)) (p1.pre.trans (p2.pre.trans p3.pre))) hb hsl (wipe_wipe fun i h => h) fun σ' F4 al4 H4 p4 g4 e4 hw4 => ⟨hw4, ?_⟩
        have hHD4 : H4 D = some (.lst vacc) := p4.keep D _ hHD3 hAD
        have hFD4 : F4 D = none := p4.offF hAD hFD3 hHD3
        have hAD4 : D ∉ al4 := p4.offA hAD hHD3
        refine ⟨F4, al4, S2, ρ', g4, e4, ?_⟩
        cases hc : c ρ' S2 with
        | bad => rw [hc] at hcm; exact absurd hcm.symm nb
        | exc z S3 => rw [hc] at hcm; exact absurd hcm.symm nb
        | ok b S3 =>
          rw [hc] at hcm
          intro F5 al5 H5 p5 g5
          have hHD5 : H5 D = some (.lst vacc) := p5.keep D _ hHD4 hAD4
          have hFD5 : F5 D = none := p5.offF hAD4 hFD4 hHD4
          have hAD5 : D ∉ al5 := p5.offA hAD4 hHD4
          have p15 := ((p2.trans p3).trans p4).trans p5
          cases b with
          | false =>
            rw [if_neg Bool.false_ne_true]
            replace hcm : compM (lcStep ρ vs tgt c el) (xs.drop (i + 1)) (acc ++ []) S3 = compM (lcStep ρ vs tgt c el) xs [] S' := hcm
            rw [List.append_nil] at hcm
            exact ⟨F5, al5, S3, acc, vacc, p15, g5, hHD5, hFD5, hAD5, ((racc.post p3).post p4).post p5, by omega, hcm⟩
          | true =>
            rw [if_pos rfl]
            refine ⟨F5, al5, S3, ρ', g5, e4.post p5, ?_⟩
            cases hv : el ρ' S3 with
            | bad => simp only [hv] at hcm; exact absurd hcm.symm nb
            | exc z S4 => simp only [hv] at hcm; exact absurd hcm.symm nb
            | ok yw S4 =>
              simp only [hv] at hcm
              replace hcm : compM (lcStep ρ vs tgt c el) (xs.drop (i + 1)) (acc ++ [yw]) S4 = compM (lcStep ρ vs tgt c el) xs [] S' := hcm
              intro v F6 al6 H6 p6 g6 r6
              have hHD6 : H6 D = some (.lst vacc) := p6.keep D _ hHD5 hAD5
              have hFD6 : F6 D = none := p6.offF hAD5 hFD5 hHD5
              have hAD6 : D ∉ al6 := p6.offA hAD5 hHD5
              refine ⟨vacc, hHD6, by rw [← limit_eq]; omega, F6, al6, S4, acc ++ [yw], vacc ++ [v], (p15.trans p6).other hD _, g6.other hAD6 hFD6 _, upd_same, hFD6, hAD6, ((((racc.post p3).post p4).post p5).post p6).append (.cons r6 .nil), by rw [List.length_append, List.length_singleton]; omega, hcm⟩
    · rintro H2 ⟨F2, al2, S2, acc, vacc, p2, g2, hHD, hFD, hAD, racc, hl, hcm⟩
      rw [List.drop_length] at hcm
      replace hcm : LRes.ok acc S2 = compM (lcStep ρ vs tgt c el) xs [] S' := hcm
      rw [← hcm] at h
      replace h : RQ T K E σ F al H (if mt then newCellR (.lst acc) S2 else .ok (.lst acc) S2) Q := h
      cases mt with
      | false =>
        rw [if_neg Bool.false_ne_true] at h
        refine h _ _ _ _ (p1.trans (p2.adoptF hFD hD _)) (g2.adoptF hAD hFD hHD) (.lst (SqL.of upd_same) (racc.mono (fun b u e => by rw [upd_ne (ne_of_none e hFD)]; exact e) (Pre.refl _)))
      | true =>
        rw [if_pos rfl] at h
        refine h _ _ _ _ (p1.trans (p2.adoptC hD)) (g2.adoptC hAD (by rw [hHD]; simp) ⟨vacc, hHD, hFD, racc.mono (Same.refl _) (Pre.app _ _)⟩) (.loc ?_)
        rw [← g2.len, List.getElem?_append_right (Nat.le_refl _), Nat.sub_self]; rfl
end
section
variable {X : Cx} {T : Tab} {E : WX} {pos : Pos} {p q r : Me} {es : List Expr} {ps : Ml} {bp bq br : Mb}
theorem bs_nil : PTs X [] (DL.tB T X.K E bYes) := by
  refine ⟨fun pins s σ H Q I h => ?_⟩
  obtain ⟨F, al, S, ρ, g, e, h⟩ := h
  exact pts_nil.run pins s σ H Q I (h _ _ _ Post.refl g)
theorem bs_one {c : Expr} (h : PT X c (DL.tB T X.K E bp)) : PTs X [c] (DL.tB T X.K E bp) := pts_one h
theorem w_lc {elt tg iter : Expr} {ifs : List Expr} {scope : Scope} {own : List (Str × Nat)} {it : Ml} {c : Mb} {el : Me} {tgt : Tg} {mt : Bool} {vs : List Nat} (hc : X.calm = true) (hN : X.N.Nodup) (hi : PI X tg iter (tI T X.K E it)) (ok : BlkOk X.N X.env.scope scope own) (hvs : own.map (·.2) = vs) (hsl : (tgt.slots.all fun i => vs.contains i) = true)
    (hg : ∀ (s : Shared) (H : Hp) (C : Addr) (cl : List (Str × Addr)) (fp : List Addr), PG (X.blk s H scope (compEnvC scope cl C X.env) fp) tg (gTg X.K tgt)) (ht : ∀ (s : Shared) (H : Hp) (C : Addr) (cl : List (Str × Addr)) (fp : List Addr), PTs (X.blk s H scope (compEnvC scope cl C X.env) fp) ifs (DL.tB T X.K EF c))
    (he : ∀ (s : Shared) (H : Hp) (C : Addr) (cl : List (Str × Addr)) (fp : List Addr), PE (X.blk s H scope (compEnvC scope cl C X.env) fp) elt (tW T X.K EF el)) (hs : ∀ x, foldedSetIterable iter X.env x = pure x) :
    PE X (.ListComp elt [⟨tg, iter, ifs, 0⟩] scope pos) (tW T X.K E (mLc mt vs tgt it c el)) := by
  subst hvs
  refine peM (pe_lc hc hN hi ok hg ht he hs) fun σ H Q h => lc_sound (fun i hi => ?_) h
  have := List.all_eq_true.mp hsl i hi
  simpa using this
end
end DL

set_option Elab.async false
set_option linter.all false
set_option maxRecDepth 100000
set_option maxHeartbeats 4000000
/-! Wj: statements. -/
namespace DL
open PySem PySem.Spec L2

inductive Fl where
  | nx (ρ : Env) (S : Sto) | bk (ρ : Env) (S : Sto) | ct (ρ : Env) (S : Sto) | ret (w : W) (S : Sto) | exc (x : Xn) (ρ : Env) (S : Sto) | bad
  deriving Inhabited
abbrev Ms := Env → Sto → Fl
def Res.toS (ρ : Env) : Res → (W → Sto → Fl) → Fl
  | .ok w S, f => f w S
  | .exc x S, _ => .exc x ρ S
  | .bad, _ => .bad
def LRes.toS (ρ : Env) : LRes → (List W → Sto → Fl) → Fl
  | .ok w S, f => f w S
  | .exc x S, _ => .exc x ρ S
  | .bad, _ => .bad
def BRes.toS (ρ : Env) : BRes → (Bool → Sto → Fl) → Fl
  | .ok w S, f => f w S
  | .exc x S, _ => .exc x ρ S
  | .bad, _ => .bad
def Fl.seq : Fl → Ms → Fl
  | .nx ρ S, f => f ρ S
  | r, _ => r
def Fl.ofO (S : Sto) : Option Env → Fl
  | some ρ => .nx ρ S
  | none => .bad
def sNext : Ms := fun ρ S => .nx ρ S
def sBreak : Ms := fun ρ S => .bk ρ S
def sCont : Ms := fun ρ S => .ct ρ S
def sNever : Ms := fun _ _ => .bad
def sSeq (a b : Ms) : Ms := fun ρ S => (a ρ S).seq b
def sExpr (m : Me) : Ms := fun ρ S => (m ρ S).toS ρ fun _ S => .nx ρ S
def sRet (m : Me) : Ms := fun ρ S => (m ρ S).toS ρ fun w S => .ret w S
def sRetN : Ms := fun _ S => .ret .non S
def sIf (c : Mb) (a b : Ms) : Ms := fun ρ S => (c ρ S).toS ρ fun k S => if k then a ρ S else b ρ S
def sAsg (tg : Tg) (m : Me) : Ms := fun ρ S => (m ρ S).toS ρ fun w S => Fl.ofO S (bindTg tg w ρ)
def sPar (is : List Nat) (m : Ml) : Ms := fun ρ S => (m ρ S).toS ρ fun ws S => Fl.ofO S (setAll is ws ρ)
def augW : Operator → W → W → Option W
  | .Add, .int i, .int j => some (.int (i + j))
  | .Sub, .int i, .int j => some (.int (i - j))
  | .Mult, .int i, .int j => if mulOk i j then some (.int (i * j)) else none
  | .FloorDiv, .int i, .int j => if 0 < j ∧ j < 1073741824 then some (.int (i / j)) else none
  | .Mod, .int i, .int j => if 0 < j then some (.int (i % j)) else none
  | _, _, _ => none
def sAug (o : Operator) (i : Nat) (m : Me) : Ms := fun ρ S => match ρ[i]? with
  | some (some x) => (m ρ S).toS ρ fun y S => match augW o x y with
    | some z => .nx (ρ.set i (some z)) S
    | none => .bad
  | _ => .bad
def setIxR (x i v : W) (S : Sto) : Option Sto := match x, i with
  | .loc n, .int i => match S[n]? with
    | some (.lst ws) => match ixN ws.length i with
      | some j => some (S.set n (.lst (ws.set j v)))
      | none => none
    | _ => none
  | _, _ => none
def sSetIx (a b m : Me) : Ms := fun ρ S => (m ρ S).toS ρ fun v S => (a ρ S).toS ρ fun x S => (b ρ S).toS ρ fun i S => match setIxR x i v S with
  | some S => .nx ρ S
  | none => .bad
def setFldR (c f : Nat) (x v : W) (S : Sto) : Option Sto := match x with
  | .loc n => match S[n]? with
    | some (.obj d fs) => if d = c ∧ fs.length < 100 then some (S.set n (.obj d (putFN f v fs))) else none
    | _ => none
  | _ => none
def sSetFld (c f : Nat) (a m : Me) : Ms := fun ρ S => (m ρ S).toS ρ fun v S => (a ρ S).toS ρ fun x S => match setFldR c f x v S with
  | some S => .nx ρ S
  | none => .bad
def forM (tg : Tg) (b : Ms) : List W → Env → Sto → Fl
  | [], ρ, S => .nx ρ S
  | x :: xs, ρ, S => match bindTg tg x ρ with
    | none => .bad
    | some ρ => match b ρ S with
      | .nx ρ S => forM tg b xs ρ S
      | .ct ρ S => forM tg b xs ρ S
      | .bk ρ S => .nx ρ S
      | r => r
def sFor (it : Ml) (tg : Tg) (b : Ms) : Ms := fun ρ S => (it ρ S).toS ρ fun xs S => forM tg b xs ρ S
def whileM (c : Mb) (b : Ms) : Nat → Env → Sto → Fl
  | 0, _, _ => .bad
  | n + 1, ρ, S => (c ρ S).toS ρ fun k S => if k then match b ρ S with
      | .nx ρ S => whileM c b n ρ S
      | .ct ρ S => whileM c b n ρ S
      | .bk ρ S => .nx ρ S
      | r => r
    else .nx ρ S
def sWhile (n : Nat) (c : Mb) (b : Ms) : Ms := whileM c b n

section
variable (T : Tab) (K : PySem.W.Frag)
def FQ (E : WX) (D : Ends) (F : Hp) (al : List Addr) (H : Hp) (r : Fl) : Prop :=
  match r with
  | .nx ρ S' => ∀ σ' F' al' H', Post F al H F' al' H' → Good T K F' al' S' H' → EnvOk T K F' al' σ' ρ → D.nx σ' H'
  | .bk ρ S' => ∀ σ' F' al' H', Post F al H F' al' H' → Good T K F' al' S' H' → EnvOk T K F' al' σ' ρ → D.bk σ' H'
  | .ct ρ S' => ∀ σ' F' al' H', Post F al H F' al' H' → Good T K F' al' S' H' → EnvOk T K F' al' σ' ρ → D.ct σ' H'
  | .ret w S' => ∀ v F' al' H', Post F al H F' al' H' → Good T K F' al' S' H' → Rw T K F' al' v w → D.rt v H'
  | .exc x ρ S' => ∀ cls d σ' F' al' H', Post F al H F' al' H' → Good T K F' al' S' H' → EnvOk T K F' al' σ' ρ → RwX T K F' al' x cls d → E cls d σ' H'
  | .bad => False
def tS (E : WX) (m : Ms) : TS := fun D σ H => ∃ F al S ρ, Good T K F al S H ∧ EnvOk T K F al σ ρ ∧ FQ T K E D F al H (m ρ S)
end
section
variable {T : Tab} {K : PySem.W.Frag} {E : WX} {σ : L2.St} {ρ : Env} {F F' : Hp} {al al' : List Addr} {H H' : Hp} {S S' : Sto} {D : Ends}
theorem FQ.post {r : Fl} (p : Post F al H F' al' H') (h : FQ T K E D F al H r) : FQ T K E D F' al' H' r := by
  cases r with
  | nx ρ S => exact fun v F2 al2 H2 q g r => h v F2 al2 H2 (p.trans q) g r
  | bk ρ S => exact fun v F2 al2 H2 q g r => h v F2 al2 H2 (p.trans q) g r
  | ct ρ S => exact fun v F2 al2 H2 q g r => h v F2 al2 H2 (p.trans q) g r
  | ret w S' => exact fun v F2 al2 H2 q g r => h v F2 al2 H2 (p.trans q) g r
  | exc x ρ S' => exact fun c d v F2 al2 H2 q g e r => h c d v F2 al2 H2 (p.trans q) g e r
  | bad => exact h
theorem tW.toS {m : Me} {f : W → Sto → Fl} (g : Good T K F al S H) (e : EnvOk T K F al σ ρ) (h : FQ T K E D F al H ((m ρ S).toS ρ f)) :
    tW T K E m σ H fun v H1 => ∃ F1 al1 S1 w, Mid T K F al H σ ρ F1 al1 S1 H1 ∧ Rw T K F1 al1 v w ∧ FQ T K E D F1 al1 H1 (f w S1) := by
  refine ⟨F, al, S, ρ, g, e, ?_⟩
  cases q : m ρ S with
  | ok w S1 =>
    rw [q] at h
    exact fun v F1 al1 H1 p g1 r => ⟨F1, al1, S1, w, ⟨g1, e.post p, p⟩, r, FQ.post p h⟩
  | exc x S1 => rw [q] at h; exact fun c d F1 al1 H1 p g1 r => h c d σ F1 al1 H1 p g1 (e.post p) r
  | bad => rw [q] at h; exact h
theorem tL.toS {m : Ml} {f : List W → Sto → Fl} (g : Good T K F al S H) (e : EnvOk T K F al σ ρ) (h : FQ T K E D F al H ((m ρ S).toS ρ f)) :
    tL T K E m σ H fun v H1 => ∃ F1 al1 S1 w, Mid T K F al H σ ρ F1 al1 S1 H1 ∧ RwL T K F1 al1 v w ∧ FQ T K E D F1 al1 H1 (f w S1) := by
  refine ⟨F, al, S, ρ, g, e, ?_⟩
  cases q : m ρ S with
  | ok w S1 =>
    rw [q] at h
    exact fun v F1 al1 H1 p g1 r => ⟨F1, al1, S1, w, ⟨g1, e.post p, p⟩, r, FQ.post p h⟩
  | exc x S1 => rw [q] at h; exact fun c d F1 al1 H1 p g1 r => h c d σ F1 al1 H1 p g1 (e.post p) r
  | bad => rw [q] at h; exact h
theorem tB.toS {m : Mb} {f : Bool → Sto → Fl} (g : Good T K F al S H) (e : EnvOk T K F al σ ρ) (h : FQ T K E D F al H ((m ρ S).toS ρ f)) :
    DL.tB T K E m σ H fun b H1 => ∃ F1 al1 S1, Mid T K F al H σ ρ F1 al1 S1 H1 ∧ FQ T K E D F1 al1 H1 (f b S1) := by
  refine ⟨F, al, S, ρ, g, e, ?_⟩
  cases q : m ρ S with
  | ok w S1 =>
    rw [q] at h
    exact fun F1 al1 H1 p g1 => ⟨F1, al1, S1, ⟨g1, e.post p, p⟩, FQ.post p h⟩
  | exc x S1 => rw [q] at h; exact fun c d F1 al1 H1 p g1 r => h c d σ F1 al1 H1 p g1 (e.post p) r
  | bad => rw [q] at h; exact h
theorem tI.toS {m : Ml} {f : List W → Sto → Fl} (g : Good T K F al S H) (e : EnvOk T K F al σ ρ) (h : FQ T K E D F al H ((m ρ S).toS ρ f)) :
    tI T K E m σ H fun J H1 => ∃ F1 al1 S1 ws, Mid T K F al H σ ρ F1 al1 S1 H1 ∧ WkW T K F1 al1 J ws ∧ FQ T K E D F1 al1 H1 (f ws S1) := by
  refine ⟨F, al, S, ρ, g, e, ?_⟩
  cases q : m ρ S with
  | ok w S1 =>
    rw [q] at h
    exact fun v F1 al1 H1 p g1 r => ⟨F1, al1, S1, w, ⟨g1, e.post p, p⟩, r, FQ.post p h⟩
  | exc x S1 => rw [q] at h; exact fun c d F1 al1 H1 p g1 r => h c d σ F1 al1 H1 p g1 (e.post p) r
  | bad => rw [q] at h; exact h
theorem tI.imp {m : Ml} {Q Q' : L2.It → Hp → Prop} (h : tI T K E m σ H Q) (i : ∀ v H, Q v H → Q' v H) : tI T K E m σ H Q' := by
  obtain ⟨F, al, S, ρ, g, e, q⟩ := h
  refine ⟨F, al, S, ρ, g, e, ?_⟩
  cases r : m ρ S with
  | ok w S' => rw [r] at q; exact fun v F2 al2 H2 p g r => i _ _ (q v F2 al2 H2 p g r)
  | exc x S' => rw [r] at q; exact q
  | bad => rw [r] at q; exact q
theorem FQ.now {ρ : Env} (h : FQ T K E D F al H (.nx ρ S)) (g : Good T K F al S H) (e : EnvOk T K F al σ ρ) : D.nx σ H := h σ F al H Post.refl g e
theorem FQ.ends {D' : Ends} {r : Fl} (h : FQ T K E D F al H r) (h1 : ∀ σ H, D.nx σ H → D'.nx σ H) (h2 : ∀ σ H, D.bk σ H → D'.bk σ H) (h3 : ∀ σ H, D.ct σ H → D'.ct σ H) (h4 : ∀ v H, D.rt v H → D'.rt v H) : FQ T K E D' F al H r := by
  cases r with
  | nx ρ S => exact fun v F2 al2 H2 q g r => h1 _ _ (h v F2 al2 H2 q g r)
  | bk ρ S => exact fun v F2 al2 H2 q g r => h2 _ _ (h v F2 al2 H2 q g r)
  | ct ρ S => exact fun v F2 al2 H2 q g r => h3 _ _ (h v F2 al2 H2 q g r)
  | ret w S' => exact fun v F2 al2 H2 q g r => h4 _ _ (h v F2 al2 H2 q g r)
  | exc x ρ S' => exact h
  | bad => exact h
/-- a target's binding, then what follows -/
theorem FQ.tg {tg : Tg} {v : V} {w : W} (g : Good T K F al S H) (r : Rw T K F al v w) (e : EnvOk T K F al σ ρ) (h : FQ T K E D F al H (Fl.ofO S (bindTg tg w ρ))) : gTg K tg v σ H D.nx := by
  cases q : bindTg tg w ρ with
  | none => rw [q] at h; exact h.elim
  | some ρ' =>
    rw [q] at h
    exact tg_sound tg.slots (σ0 := σ) g r e q (fun i hi => hi) rfl fun σ' F' al' H' p g' e' _ => h σ' F' al' H' p g' e'
end

section
variable {X : Cx} {T : Tab} {E : WX} {pos : Pos} {a b c tg : Expr} {p q r : Me} {es : List Expr} {ps : Ml} {bp bq br : Mb} {st : Stmt} {rest bd od : List Stmt} {m m2 : Ms}
theorem s_nil : PSs X [] (tS T X.K E sNext) := by
  refine pssM pss_nil ?_
  rintro D σ H ⟨F, al, S, ρ, g, e, h⟩
  exact h.now g e
theorem s_cons (h1 : PS X st (tS T X.K E m)) (h2 : PSs X rest (tS T X.K E m2)) : PSs X (st :: rest) (tS T X.K E (sSeq m m2)) := by
  refine pssM (pss_cons h1 h2) ?_
  rintro D σ H ⟨F, al, S, ρ, g, e, h⟩
  refine ⟨F, al, S, ρ, g, e, ?_⟩
  unfold sSeq at h
  cases q : m ρ S with
  | nx ρ1 S1 =>
    rw [q] at h
    exact fun σ' F' al' H' p g' e' => ⟨F', al', S1, ρ1, g', e', FQ.post p h⟩
  | bk ρ1 S1 => rw [q] at h; exact h
  | ct ρ1 S1 => rw [q] at h; exact h
  | ret w S1 => rw [q] at h; exact h
  | exc x ρ1 S1 => rw [q] at h; exact h
  | bad => rw [q] at h; exact h.elim
theorem s_never : PS X st (tS T X.K E sNever) := by
  refine psM ps_never ?_
  rintro D σ H ⟨F, al, S, ρ, g, e, h⟩
  exact h
theorem ss_never : PSs X rest (tS T X.K E sNever) := by
  refine pssM pss_never ?_
  rintro D σ H ⟨F, al, S, ρ, g, e, h⟩
  exact h
theorem s_pass : PS X (.Pass pos) (tS T X.K E sNext) := by
  refine psM ps_pass ?_
  rintro D σ H ⟨F, al, S, ρ, g, e, h⟩
  exact h.now g e
theorem s_break : PS X (.Break pos) (tS T X.K E sBreak) := by
  refine psM ps_break ?_
  rintro D σ H ⟨F, al, S, ρ, g, e, h⟩
  exact h σ F al H Post.refl g e
theorem s_continue : PS X (.Continue pos) (tS T X.K E sCont) := by
  refine psM ps_continue ?_
  rintro D σ H ⟨F, al, S, ρ, g, e, h⟩
  exact h σ F al H Post.refl g e
theorem s_expr (ha : PE X a (tW T X.K E p)) (hs : swapsWith a none pos.line X.env = pure false) : PS X (.Expr a pos) (tS T X.K E (sExpr p)) := by
  refine psM (ps_expr ha hs) ?_
  rintro D σ H ⟨F, al, S, ρ, g, e, h⟩
  exact (tW.toS g e h).imp fun x H1 ⟨F1, al1, S1, w, m, r, h1⟩ => h1.now m.g m.e
theorem s_ret (ha : PE X a (tW T X.K E p)) : PS X (.Return (some a) pos) (tS T X.K E (sRet p)) := by
  refine psM (ps_ret ha) ?_
  rintro D σ H ⟨F, al, S, ρ, g, e, h⟩
  exact (tW.toS g e h).imp fun x H1 ⟨F1, al1, S1, w, m, r, h1⟩ => h1 _ _ _ _ Post.refl m.g r
theorem s_retN : PS X (.Return none pos) (tS T X.K E sRetN) := by
  refine psM ps_retN ?_
  rintro D σ H ⟨F, al, S, ρ, g, e, h⟩
  exact h _ _ _ _ Post.refl g .non
theorem s_if (hc : PT X c (DL.tB T X.K E bp)) (ha : PSs X bd (tS T X.K E m)) (hb : PSs X od (tS T X.K E m2)) : PS X (.If c bd od pos) (tS T X.K E (sIf bp m m2)) := by
  refine psM (ps_if hc ha hb) ?_
  rintro D σ H ⟨F, al, S, ρ, g, e, h⟩
  refine (tB.toS g e h).imp fun k H1 ⟨F1, al1, S1, m, h1⟩ => ?_
  cases k with
  | true => rw [if_pos rfl]; exact ⟨F1, al1, S1, ρ, m.g, m.e, h1⟩
  | false => rw [if_neg Bool.false_ne_true]; exact ⟨F1, al1, S1, ρ, m.g, m.e, h1⟩
theorem s_asg {t : Tg} (ha : PE X a (tW T X.K E p)) (hg : PG X tg (gTg X.K t)) (hs : swapsWithSole [tg] a pos.line X.env = pure false) (hw : swappedStores [tg] a X.env = pure none) (h1 : (assignEach [tg] X.env).map (·.2) = [assign tg X.env]) : PS X (.Assign [tg] a pos) (tS T X.K E (sAsg t p)) := by
  refine psM (ps_asg ha hg hs hw h1) ?_
  rintro D σ H ⟨F, al, S, ρ, g, e, h⟩
  exact (tW.toS g e h).imp fun x H1 ⟨F1, al1, S1, w, m, r, h1⟩ => h1.tg m.g r m.e
theorem s_set {i : Nat} {x : Str} {pos' : Pos} (hN : X.N.Nodup) (hi : X.N[i]? = some x) (hx : Loc X.env.scope x) (ha : PE X a (tW T X.K E p)) (hs : swapsWith a (some (.Name x pos')) pos.line X.env = pure false) (hf : X.fn x = true ∨ X.env.scope.names.lookup x = some .local) :
    PS X (.Assign [.Name x pos'] a pos) (tS T X.K E (sAsg (.nm i) p)) := by
  refine psM (ps_set hN hi hx ha hs hf) ?_
  rintro D σ H ⟨F, al, S, ρ, g, e, h⟩
  exact (tW.toS g e h).imp fun x H1 ⟨F1, al1, S1, w, m, r, h1⟩ => h1.tg m.g r m.e
theorem s_setLc {i : Nat} {y : Str} {py : Pos} {elt iter : Expr} {ifs : List Expr} {scope : Scope} {own : List (Str × Nat)} {spos : Pos} {it : Ml} {cb : Mb} {el : Me} {tgt : Tg} {mt : Bool} {vs : List Nat} (hc : X.calm = true) (hN : X.N.Nodup) (hy : X.N[i]? = some y) (hyl : X.env.scope.names.lookup y = some .local)
    (hsw : swapsWith (.ListComp elt [⟨tg, iter, ifs, 0⟩] scope pos) (some (.Name y py)) spos.line X.env = pure true) (hi : PI X tg iter (tI T X.K E it)) (ok : BlkOk X.N X.env.scope scope own) (hvs : own.map (·.2) = vs) (hsl : (tgt.slots.all fun i => vs.contains i) = true)
    (hg : ∀ (s : Shared) (H : Hp) (C : Addr) (cl : List (Str × Addr)) (fp : List Addr), PG (X.blk s H scope (compEnvC scope cl C X.env) fp) tg (gTg X.K tgt)) (ht : ∀ (s : Shared) (H : Hp) (C : Addr) (cl : List (Str × Addr)) (fp : List Addr), PTs (X.blk s H scope (compEnvC scope cl C X.env) fp) ifs (DL.tB T X.K EF cb))
    (he : ∀ (s : Shared) (H : Hp) (C : Addr) (cl : List (Str × Addr)) (fp : List Addr), PE (X.blk s H scope (compEnvC scope cl C X.env) fp) elt (tW T X.K EF el)) (hs : ∀ x, foldedSetIterable iter X.env x = pure x) :
    PS X (.Assign [.Name y py] (.ListComp elt [⟨tg, iter, ifs, 0⟩] scope pos) spos) (tS T X.K E (sAsg (.nm i) (mLc mt vs tgt it cb el))) := by
  subst hvs
  refine psM (ps_setLc hc hN hy hyl hsw hi ok hg ht he hs) ?_
  rintro D σ H ⟨F, al, S, ρ, g, e, h⟩
  refine lc_sound (mt := mt) (fun i hi => ?_) ((tW.toS g e h).imp fun x H1 ⟨F1, al1, S1, w, m, r, h1⟩ => h1.tg m.g r m.e)
  have := List.all_eq_true.mp hsl i hi
  simpa using this
theorem s_par2 {i j : Nat} {x y : Str} {px py pt : Pos} {kt k2 pt2} (hc : X.calm = true) (hN : X.N.Nodup) (hi : X.N[i]? = some x) (hj : X.N[j]? = some y) (hij : i ≠ j)
    (hx : X.env.scope.names.lookup x = some .local) (hy : X.env.scope.names.lookup y = some .local) (ha : PA X [a, b] (tL T X.K E ps))
    (hw : swappedStores [.Tuple [.Name x px, .Name y py] kt pt] (.Tuple [a, b] k2 pt2) X.env = pure (some [x, y])) (hs : swapsWithSole [.Tuple [.Name x px, .Name y py] kt pt] (.Tuple [a, b] k2 pt2) pos.line X.env = pure false) :
    PS X (.Assign [.Tuple [.Name x px, .Name y py] kt pt] (.Tuple [a, b] k2 pt2) pos) (tS T X.K E (sPar [i, j] ps)) := by
  refine psM (ps_par hc hN hi hj hij hx hy ha hw hs) ?_
  rintro D σ H ⟨F, al, S, ρ, g, e, h⟩
  refine (tL.toS g e h).imp fun vs H1 ⟨F1, al1, S1, w, m, r, h1⟩ => ?_
  cases r with
  | nil => exact h1.elim
  | cons r1 r =>
    cases r with
    | nil => exact h1.elim
    | cons r2 r =>
      cases r with
      | nil => exact ⟨_, _, rfl, h1.now m.g ((m.e.set r1 i).set r2 j)⟩
      | cons r3 r => exact h1.elim
theorem s_par3 {i j l : Nat} {x y z : Str} {px py pz pt : Pos} {kt k2 pt2} (hc : X.calm = true) (hN : X.N.Nodup) (hi : X.N[i]? = some x) (hj : X.N[j]? = some y) (hl : X.N[l]? = some z) (hij : i ≠ j) (hil : i ≠ l) (hjl : j ≠ l)
    (hx : X.env.scope.names.lookup x = some .local) (hy : X.env.scope.names.lookup y = some .local) (hz : X.env.scope.names.lookup z = some .local) (ha : PA X [a, b, c] (tL T X.K E ps))
    (hw : swappedStores [.Tuple [.Name x px, .Name y py, .Name z pz] kt pt] (.Tuple [a, b, c] k2 pt2) X.env = pure (some [x, y, z])) (hs : swapsWithSole [.Tuple [.Name x px, .Name y py, .Name z pz] kt pt] (.Tuple [a, b, c] k2 pt2) pos.line X.env = pure false) :
    PS X (.Assign [.Tuple [.Name x px, .Name y py, .Name z pz] kt pt] (.Tuple [a, b, c] k2 pt2) pos) (tS T X.K E (sPar [i, j, l] ps)) := by
  refine psM (ps_par3 hc hN hi hj hl hij hil hjl hx hy hz ha hw hs) ?_
  rintro D σ H ⟨F, al, S, ρ, g, e, h⟩
  refine (tL.toS g e h).imp fun vs H1 ⟨F1, al1, S1, w, m, r, h1⟩ => ?_
  cases r with
  | nil => exact h1.elim
  | cons r1 r =>
    cases r with
    | nil => exact h1.elim
    | cons r2 r =>
      cases r with
      | nil => exact h1.elim
      | cons r3 r =>
        cases r with
        | nil => exact ⟨_, _, _, rfl, h1.now m.g (((m.e.set r1 i).set r2 j).set r3 l)⟩
        | cons r4 r => exact h1.elim
/-- op= -/
def rAug : Operator → R2
  | .Add => rI0 fun i j => .int (i + j)
  | .Sub => rI0 fun i j => .int (i - j)
  | .Mult => rI CMul fun i j => .int (i * j)
  | .FloorDiv => rI CDiv fun i j => .int (i / j)
  | .Mod => rI (fun _ j => 0 < j) fun i j => .int (i % j)
  | _ => rNo
theorem op_aug (o : Operator) : OpR X (inplaceOp o) (rAug o) := by
  cases o <;> first | exact iop_add | exact iop_sub | exact iop_mul | exact iop_fdiv | exact iop_mod | exact op_no
theorem aug_sound {K : PySem.W.Frag} {F : Hp} {al : List Addr} {H : Hp} {o : Operator} {x y : V} {u w z : W} {Q : VK} (rx : Rw T K F al x u) (ry : Rw T K F al y w) (e : augW o u w = some z) (k : ∀ v, Rw T K F al v z → Q v H) : rAug o x y H Q := by
  unfold augW at e
  split at e
  · cases e; cases rx; cases ry; exact ⟨_, _, rfl, rfl, k _ (.int _)⟩
  · cases e; cases rx; cases ry; exact ⟨_, _, rfl, rfl, k _ (.int _)⟩
  · split at e
    · rename_i hm
      cases e; cases rx; cases ry
      refine ⟨_, _, rfl, rfl, ?_, k _ (.int _)⟩
      unfold mulOk at hm
      simp only [Bool.or_eq_true, Bool.and_eq_true, decide_eq_true_eq] at hm
      exact hm
    · cases e
  · split at e
    · rename_i hm
      cases e; cases rx; cases ry
      exact ⟨_, _, rfl, rfl, hm, k _ (.int _)⟩
    · cases e
  · split at e
    · rename_i hm
      cases e; cases rx; cases ry
      exact ⟨_, _, rfl, rfl, hm, k _ (.int _)⟩
    · cases e
  · cases e
theorem s_aug {i : Nat} {x : Str} {o : Operator} {pos' : Pos} (hN : X.N.Nodup) (hi : X.N[i]? = some x) (hx : Loc X.env.scope x) (ha : PE X a (tW T X.K E p)) (hf : X.fn x = true ∨ X.env.scope.names.lookup x = some .local) : PS X (.AugAssign (.Name x pos') o a pos) (tS T X.K E (sAug o i p)) := by
  refine psM (ps_aug hN hi hx ha (ti := rAug o) (fun pins s σ H x y v u Q I rx ry q => augR (op_aug o) I rx ry q) hf) ?_
  rintro D σ H ⟨F, al, S, ρ, g, e, h⟩
  unfold sAug at h
  split at h
  · rename_i w hw
    obtain ⟨v, h1, h2⟩ := e.2 i w hw
    refine ⟨v, h1, (tW.toS g e h).imp fun y H1 ⟨F1, al1, S1, u, m, r, h3⟩ => ?_⟩
    cases q : augW o w u with
    | none => rw [q] at h3; exact h3.elim
    | some z =>
      rw [q] at h3
      exact aug_sound (h2.post m.p) r q fun v rv => h3.now m.g (m.e.set rv i)
  · exact h.elim
theorem s_setIx {iv : Expr} {tpos : Pos} (ha : PE X a (tW T X.K E p)) (hb : PE X b (tW T X.K E q)) (hv : PE X iv (tW T X.K E r)) (hs : swapsWithSole [.Subscript a b tpos] iv pos.line X.env = pure false) (hw : swappedStores [.Subscript a b tpos] iv X.env = pure none) (h1 : (assignEach [.Subscript a b tpos] X.env).map (·.2) = [assign (.Subscript a b tpos) X.env])
    (h2 : ∀ v, assign (.Subscript a b tpos) X.env v = (do
      let ov ← holding [v] (eval a X.env)
      let iv ← holding [v, ov] (eval b X.env)
      standAt tpos
      holding [v, ov, iv] (setItem ov iv v)
      release [v, ov, iv] [])) : PS X (.Assign [.Subscript a b tpos] iv pos) (tS T X.K E (sSetIx p q r)) := by
  refine psM (ps_asg hv (pg_sub ha hb set_list h2) hs hw h1) ?_
  rintro D σ H ⟨F, al, S, ρ, g, e, h⟩
  refine (tW.toS g e h).imp fun v H1 ⟨F1, al1, S1, vw, m, rv, h1⟩ => ?_
  refine (tW.toS m.g m.e h1).imp fun x H2 ⟨F2, al2, S2, xw, m2, rx, h2⟩ => ?_
  refine (tW.toS m2.g m2.e h2).imp fun i H3 ⟨F3, al3, S3, iw, m3, ri, h3⟩ => ?_
  cases q : setIxR xw iw vw S3 with
  | none => simp only [q] at h3; exact h3.elim
  | some S4 =>
    simp only [q] at h3
    unfold setIxR at q
    split at q
    · split at q
      · rename_i ws hn
        split at q
        · rename_i j hj
          cases q
          cases ri
          cases rx.post m3.p with
          | @loc pa _ hl =>
            obtain ⟨xs, h4, h5, h6⟩ := m3.g.cell _ pa _ hl hn
            refine ⟨pa, xs, _, j, rfl, rfl, h4, by rw [h6.length]; exact hj, ?_⟩
            obtain ⟨g1, p1⟩ := m3.g.setCell (o := .lst (xs.set j v)) (c := .lst (ws.set j vw)) hl h5 ⟨_, upd_same, h5, h6.set ((rv.post m2.p).post m3.p) j⟩
            exact h3 _ _ _ _ p1 g1 (m3.e.post p1)
        · cases q
      · cases q
    · cases q
theorem putF_sound {K : PySem.W.Frag} {F : Hp} {al : List Addr} (hn : T.fld.Nodup) {f : Nat} (hf : f < T.fld.length) {v : V} {w : W} (rv : Rw T K F al v w) : ∀ {gs : List (Str × V)} {fs : List (Nat × W)}, RwF T K F al gs fs → RwF T K F al (putF (T.f f) v gs) (putFN f w fs)
  | _, _, .nil => .cons hf rv .nil
  | _, _, .cons (i := i) l r t => by
    unfold putF putFN
    by_cases h : i = f
    · subst h
      rw [if_pos rfl, if_pos rfl]
      exact .cons l rv t
    · rw [if_neg h, if_neg (fun q => h (Tab.f_inj hn l hf q))]
      exact .cons l r (putF_sound hn hf rv t)
theorem rwF_len {K : PySem.W.Frag} {F : Hp} {al : List Addr} : ∀ {gs : List (Str × V)} {fs : List (Nat × W)}, RwF T K F al gs fs → gs.length = fs.length
  | _, _, .nil => rfl
  | _, _, .cons _ _ t => by rw [List.length_cons, List.length_cons, rwF_len t]
theorem s_setFld {cc f : Nat} {fn : Str} {pos' : Pos} (hn : T.fld.Nodup) (hf : f < T.fld.length) (hfn : T.f f = fn) (hc : Cls X.K (T.c cc)) (hna : NoAttr X.K (T.c cc) fn) (ha : PE X a (tW T X.K E p)) (hv : PE X b (tW T X.K E q)) (hs : swapsWith b (some (.Attribute a fn pos')) pos.line X.env = pure false) : PS X (.Assign [.Attribute a fn pos'] b pos) (tS T X.K E (sSetFld cc f p q)) := by
  subst hfn
  refine psM (ps_fld ha hv hs) ?_
  rintro D σ H ⟨F, al, S, ρ, g, e, h⟩
  refine (tW.toS g e h).imp fun v H1 ⟨F1, al1, S1, vw, m, rv, h1⟩ => ?_
  refine (tW.toS m.g m.e h1).imp fun x H2 ⟨F2, al2, S2, xw, m2, rx, h2⟩ => ?_
  cases q : setFldR cc f xw vw S2 with
  | none => rw [q] at h2; exact h2.elim
  | some S3 =>
    rw [q] at h2
    unfold setFldR at q
    split at q
    · split at q
      · rename_i d fs hn2
        split at q
        · rename_i hd
          cases q
          obtain ⟨rfl, hl⟩ := hd
          cases rx with
          | @loc pa _ hl2 =>
            obtain ⟨dx, gs, h4, h5, h6⟩ := m2.g.cell _ pa _ hl2 hn2
            refine ⟨pa, _, dx, gs, rfl, h4, hc, hna, by rw [rwF_len h6]; omega, ?_⟩
            obtain ⟨g1, p1⟩ := m2.g.setCell (o := .ins (T.c d) dx (putF (T.f f) v gs)) (c := .obj d (putFN f vw fs)) hl2 h5 ⟨dx, _, upd_same, h5, putF_sound hn hf (rv.post m2.p) h6⟩
            exact h2 _ _ _ _ p1 g1 (m2.e.post p1)
        · cases q
      · cases q
    · cases q
theorem s_for {iter : Expr} {it : Ml} {t : Tg} (hp : PassesOwn (model X.prog X.w) X.A X.env X.xe) (hc : X.calm = true) (hi : PI X tg iter (tI T X.K E it)) (hg : PG X tg (gTg X.K t)) (hb : PSs X bd (tS T X.K E m)) (hs : ∀ x, foldedSetIterable iter X.env x = pure x) : PS X (.For tg iter bd [] pos) (tS T X.K E (sFor it t m)) := by
  refine psM (ps_for hp hc hi hg hb hs) ?_
  rintro D σ H ⟨F, al, S, ρ, g, e, h⟩
  refine (tI.toS g e h).imp fun J H1 ⟨F1, al1, S1, xs, mid, wk, h1⟩ => ?_
  obtain ⟨G, Y, w, hG, hY⟩ := wk
  refine for_it w (fun i σ2 H2 => ∃ F2 al2 S2 ρ2, Post F1 al1 H1 F2 al2 H2 ∧ Good T X.K F2 al2 S2 H2 ∧ EnvOk T X.K F2 al2 σ2 ρ2 ∧ FQ T X.K E D F2 al2 H2 (forM t m (xs.drop i) ρ2 S2)) ?_ ?_ ?_ ?_
  · exact ⟨F1, al1, S1, ρ, Post.refl, mid.g, mid.e, h1⟩
  · rintro i σ2 H2 hi ⟨F2, al2, S2, ρ2, p2, g2, _⟩
    exact hG H2 fun b u e => g2.sub b u (p2.ext b u e)
  · rintro i x σ2 H2 H2' hi ⟨F2, al2, S2, ρ2, p2, g2, e2, h2⟩ y
    obtain ⟨F3, u, hu, g3, p3, r3⟩ := hY i H2 x H2' hi y F2 al2 S2 p2.ext p2.pre g2
    have hdrop : xs.drop i = u :: xs.drop (i + 1) := by
      obtain ⟨hi', hu'⟩ := List.getElem?_eq_some_iff.mp hu
      rw [List.drop_eq_getElem_cons hi', hu']
    rw [hdrop] at h2
    unfold forM at h2
    cases hb : bindTg t u ρ2 with
    | none => rw [hb] at h2; exact h2.elim
    | some ρ3 =>
      simp only [hb] at h2
      refine tg_sound t.slots (σ0 := σ2) g3 r3 (e2.post p3) hb (fun i hi => hi) rfl fun σ3 F4 al4 H4 p4 g4 e4 _ => ?_
      refine ⟨F4, al4, S2, ρ3, g4, e4, ?_⟩
      have p14 := (p2.trans p3).trans p4
      replace h2 := FQ.post (p3.trans p4) h2
      cases hm : m ρ3 S2 with
      | nx ρ5 S5 =>
        simp only [hm] at h2
        exact fun σ5 F5 al5 H5 p5 g5 e5 => ⟨F5, al5, S5, ρ5, p14.trans p5, g5, e5, FQ.post p5 h2⟩
      | ct ρ5 S5 =>
        simp only [hm] at h2
        exact fun σ5 F5 al5 H5 p5 g5 e5 => ⟨F5, al5, S5, ρ5, p14.trans p5, g5, e5, FQ.post p5 h2⟩
      | bk ρ5 S5 =>
        simp only [hm] at h2
        exact fun σ5 F5 al5 H5 p5 g5 e5 => h2 σ5 F5 al5 H5 p5 g5 e5
      | ret w S5 =>
        simp only [hm] at h2
        exact h2
      | exc x ρ5 S5 =>
        simp only [hm] at h2
        exact h2
      | bad => simp only [hm] at h2; exact h2.elim
  · rintro σ2 H2 ⟨F2, al2, S2, ρ2, p2, g2, e2, h2⟩
    rw [List.drop_length] at h2
    exact h2.now g2 e2
end

/-! ### a statement on data alone: the store stays out of it -/
def hide (ρ : Env) : Env := ρ.map fun o => o.bind fun w => if w.nl then some w else none
def frameR (S : Sto) : Fl → Fl
  | .nx ρ _ => .nx (hide ρ) S
  | .bk ρ _ => .bk (hide ρ) S
  | .ct ρ _ => .ct (hide ρ) S
  | .ret w _ => if w.nl then .ret w S else .bad
  | .exc x ρ _ => if x.nl then .exc x (hide ρ) S else .bad
  | .bad => .bad
def sFrame (b : Ms) : Ms := fun ρ S => frameR S (b (hide ρ) [])
section
variable {X : Cx} {T : Tab} {E : WX} {st : Stmt} {m : Ms}
theorem hide_envOk {K : PySem.W.Frag} {F : Hp} {al al' : List Addr} {σ : L2.St} {ρ : Env} (e : EnvOk T K F al σ ρ) : EnvOk T K F al' σ (hide ρ) := by
  refine ⟨by unfold hide; rw [List.length_map]; exact e.1, fun i w h => ?_⟩
  unfold hide at h
  rw [List.getElem?_map] at h
  cases q : ρ[i]? with
  | none => rw [q] at h; cases h
  | some o =>
    rw [q] at h
    cases o with
    | none => cases h
    | some u =>
      replace h : some (if u.nl then some u else none) = some (some w) := h
      split at h
      · rename_i hu
        cases h
        obtain ⟨v, h1, h2⟩ := e.2 i _ q
        exact ⟨v, h1, h2.nl hu⟩
      · cases h
theorem s_frame (h : PS X st (tS T X.K E m)) : PS X st (tS T X.K E (sFrame m)) := by
  refine psM h ?_
  rintro D σ H ⟨F, al, S, ρ, g, e, hq⟩
  refine ⟨F, [], [], hide ρ, g.bare, hide_envOk e, ?_⟩
  unfold sFrame at hq
  have fr : ∀ {F' al' S' H'}, Post F [] H F' al' H' → Good T X.K F' al' S' H' → Good T X.K F' al S H' ∧ Post F al H F' al H' := fun p g' => g.frame (be := []) (Same.refl _) (fun _ h => nomatch h) p g'
  cases q : m (hide ρ) [] with
  | nx ρ1 S1 =>
    rw [q] at hq
    intro σ' F' al' H' p g' e'
    obtain ⟨a, b⟩ := fr p g'
    exact hq σ' F' al H' b a (hide_envOk e')
  | bk ρ1 S1 =>
    rw [q] at hq
    intro σ' F' al' H' p g' e'
    obtain ⟨a, b⟩ := fr p g'
    exact hq σ' F' al H' b a (hide_envOk e')
  | ct ρ1 S1 =>
    rw [q] at hq
    intro σ' F' al' H' p g' e'
    obtain ⟨a, b⟩ := fr p g'
    exact hq σ' F' al H' b a (hide_envOk e')
  | ret w S1 =>
    rw [q] at hq
    replace hq : FQ T X.K E D F al H (if w.nl then .ret w S else .bad) := hq
    split at hq
    · rename_i hw
      intro v F' al' H' p g' r
      obtain ⟨a, b⟩ := fr p g'
      exact hq v F' al H' b a (r.nl hw)
    · exact hq.elim
  | exc x ρ1 S1 =>
    rw [q] at hq
    replace hq : FQ T X.K E D F al H (if x.nl then .exc x (hide ρ1) S else .bad) := hq
    split at hq
    · rename_i hw
      intro c d σ' F' al' H' p g' e' r
      obtain ⟨a, b⟩ := fr p g'
      exact hq c d σ' F' al H' b a (hide_envOk e') (r.nl hw)
    · exact hq.elim
  | bad => rw [q] at hq; exact hq.elim
end
end DL

set_option Elab.async false
set_option linter.all false
set_option maxRecDepth 100000
set_option maxHeartbeats 4000000
/-! Wk: defs, the head's facts, the law's end. -/
namespace DL
open PySem PySem.Spec L2

def startW (N : Nat) (ws : List W) : Env := ws.map some ++ List.replicate (N - ws.length) none
def Fl.toR : Fl → Res
  | .nx _ S => .ok .non S
  | .ret w S => .ok w S
  | .exc x _ S => .exc x S
  | _ => .bad
def fnW (n N : Nat) (b : Ms) : Fn := fun ws S => if ws.length = n then (b (startW N ws) S).toR else .bad
theorem fnW_takes (n N : Nat) (b : Ms) : TakesN n (fnW n N b) := fun ws S h => if_neg h
section
variable {T : Tab} {P : Program} {w : World} {K : PySem.W.Frag} {mg : Str → Option Value} {base : Heap}
theorem start_get {vs : List V} : ∀ {N : List Str} {i : Nat} {v : V}, vs[i]? = some v → (start N vs)[i]? = some (some v) := fun {N i v} h => by
  unfold L2.start
  have hi := (List.getElem?_eq_some_iff.mp h).1
  rw [List.getElem?_append_left (by rw [List.length_map]; exact hi), List.getElem?_map, h]; rfl
theorem start_envOk {F : Hp} {al : List Addr} {N : List Str} {vs : List V} {ws : List W} (r : RwL T K F al vs ws) : EnvOk T K F al (start N vs) (startW N.length ws) := by
  refine ⟨?_, fun i u h => ?_⟩
  · unfold L2.start startW
    rw [List.length_append, List.length_append, List.length_map, List.length_map, List.length_replicate, List.length_replicate, r.length]
  · unfold startW at h
    by_cases hi : i < ws.length
    · rw [List.getElem?_append_left (by rw [List.length_map]; exact hi), List.getElem?_map] at h
      cases q : ws[i]? with
      | none => rw [q] at h; cases h
      | some x =>
        rw [q] at h
        have : x = u := by simpa using h
        subst this
        obtain ⟨v, h1, h2⟩ := r.get q
        exact ⟨v, start_get h1, h2⟩
    · rw [List.getElem?_append_right (by rw [List.length_map]; omega), List.getElem?_replicate] at h
      split at h <;> cases h
theorem fnW_ok {x qual : Str} {params : Arguments} {body : List Stmt} {scope : Scope} {dvs : List V} {kws : List (Str × V)} {f : Addr} {fd : FuncData} {N pn : List Str} {k : Nat} {b : Ms} (Fd : FunD K x qual params body scope dvs kws f fd) (Sc : FnScope N pn scope)
    (hb : ∀ (cdv : Value) (A : Around) (outer : List PySem.Env) (s : Shared) (H : Hp) (E : XK), Room k (A.deeper (PyProof.Rows.envOfC qual scope s.heap.objs.size f cdv)) →
      PSs (cxOf (L2.CX P w) P w K mg base N qual scope f cdv A outer s H E) body (tS T K (fun c d _ H' => E c d H') b)) :
    FnOk P w K mg base (L2.CX P w) (k + 1) f fd pn (spW T K pn.length (fnW pn.length N.length b)) := by
  refine Fd.ok Sc (fun vs H Q E h => ?_) (fun cdv A outer s H vs Q E hr h => ⟨_, hb cdv A outer s H E hr, ?_⟩)
  · obtain ⟨F, al, S, ws, hl, g, r, _⟩ := h
    exact r.length.trans hl
  · obtain ⟨F, al, S, ws, hl, g, r, h⟩ := h
    refine ⟨F, al, S, startW N.length ws, g, start_envOk r, ?_⟩
    unfold fnW at h
    rw [if_pos hl] at h
    cases q : b (startW N.length ws) S with
    | nx ρ S' => rw [q] at h; exact fun σ' F' al' H' p g' _ => h .non F' al' H' p g' .non
    | bk ρ S' => rw [q] at h; exact h.elim
    | ct ρ S' => rw [q] at h; exact h.elim
    | ret u S' => rw [q] at h; exact h
    | exc z ρ S' => rw [q] at h; exact fun c d σ' F' al' H' p g' _ rx => h c d F' al' H' p g' rx
    | bad => rw [q] at h; exact h.elim
theorem callF_mk {x qual : Str} {params : Arguments} {body : List Stmt} {scope : Scope} {dv0 : List V} {kws : List (Str × V)} {f : Addr} {fd : FuncData} {pn : List Str} {k n : Nat} {φ : Fn} (Fd : FunD K x qual params body scope dv0 kws f fd) (hm : mg x = some (.ref f))
    (FO : FnOk P w K mg base (L2.CX P w) k f fd pn (spW T K n φ)) (hn : TakesN n φ) (hb : Binds K fd pn []) : CallF T P w K mg base k x φ :=
  ⟨f, fd, pn, [], [], [], n, φ, FO, hn, hm, Fd.kp, hb, .nil, fun _ _ => .nil, funext fun ws => funext fun S => by rw [List.append_nil]⟩
theorem makeF_mk {x : Str} {f : Addr} {fd : FuncData} {pn : List Str} {k n c : Nat} {φ : Fn} (hm : mg x = some (.ref (T.c c))) (hM : Mk K (T.c c) f)
    (FO : FnOk P w K mg base (L2.CX P w) k f fd pn (spW T K n φ)) (hn : TakesN n φ) (hb : Binds K fd pn []) : MakeF T P w K mg base k x c φ :=
  ⟨f, fd, pn, [], [], [], n, φ, FO, hn, hm, hM, hb, .nil, fun _ _ => .nil, funext fun ws => funext fun S => by rw [List.append_nil]⟩
/-- a def with defaults, all of them written at the call -/
theorem binds_full {x qual : Str} {params : Arguments} {body : List Stmt} {scope : Scope} {dvs : List V} {kws : List (Str × V)} {f : Addr} {fd : FuncData} {pn : List Str} (Fd : FunD K x qual params body scope dvs kws f fd) (n : Nat) (hd : dvs ≠ []) (hn : n = pn.length)
    (h : ∀ (Ta : Addr) (kV doc pm : Value) (an : Option Addr) (cdv ct : Value) (us its : List Value), us.length = n → its.length = dvs.length →
      ∃ k, bindArgs (PySem.W.fnOf x qual params body scope (.ref Ta) kV doc pm an cdv ct) ⟨us, []⟩ = seqItems? (.ref Ta) >>= k ∧ k (some its.toArray) = pure (pn.zip us)) : Binds K fd pn [] := by
  have := Fd.binds1 (ps := pn) n dvs.length hd (by omega) fun Ta kV doc pm an cdv ct us its h1 h2 => by
    obtain ⟨k, e1, e2⟩ := h Ta kV doc pm an cdv ct us its h1 h2
    refine ⟨k, e1, ?_⟩
    rw [e2, ← h2, List.drop_length, List.append_nil]
  obtain ⟨ds, h1, h2⟩ := this
  rw [List.drop_length] at h1
  cases h1
  exact h2
end
/-- what the law promises -/
def spLaw (K : PySem.W.Frag) : Sp := fun vs H Q _ => ∃ (a : Addr) (ns : List Int), vs = [.ref a] ∧ SqL K H a (ns.map V.int) ∧ ns.length ≤ 63 ∧ ∀ H', Q (.bl true) H'
theorem law_end {T : Tab} {P : Program} {w : World} {K : PySem.W.Frag} {mg : Str → Option Value} {base : Heap} {k : Nat} {f : Addr} {fd : FuncData} {pn : List Str} {φ : Fn} (FO : FnOk P w K mg base (L2.CX P w) k f fd pn (spW T K 1 φ))
    (hφ : ∀ ns : List Int, ns.length ≤ 63 → ∃ S, φ [.lst (ns.map W.int)] [] = .ok (.bl true) S) : FnOk P w K mg base (L2.CX P w) k f fd pn (spLaw K) := by
  refine FO.imp fun vs H Q E h => ?_
  obtain ⟨a, ns, rfl, hS, hl, hq⟩ := h
  obtain ⟨S, e⟩ := hφ ns hl
  refine ⟨H, [], [], [.lst (ns.map W.int)], rfl, ⟨Same.refl _, List.nodup_nil, rfl, (fun _ h => nomatch h), (fun n a c h => by simp at h)⟩, .cons (.lst hS (RwL.of_ints ns)) .nil, ?_⟩
  rw [e]
  intro v F' al' H' p g r
  cases r
  exact hq H'
theorem noX {P : Program} {w : World} (H : Hp) (s : Shared) (e : Value) (s' : Shared) (h : L2.CX P w [] H s (fun _ _ _ => False) e s') : False := by
  obtain ⟨_, _, _, _, _, _, _, _, _, _, _, _, z⟩ := h
  exact z
/-! ### the head with more facts -/
def obsM (n : Nat) (fa : List He.Fa) (fn : List He.DefD) (ex : PySem.W.Frag → Bool) (g : Addr → Option Obj) : He.AlD × Bool := (He.obsDG n fa fn g, ex (He.frG g (He.asD g n)))
def hookM (n : Nat) (fa : List He.Fa) (fn : List He.DefD) (ex : PySem.W.Frag → Bool) : PySem.W.Hook where
  α := He.AlD × Bool
  obs := fun s => obsM n fa fn ex s.heap.get?
  val := fun _ => (He.valD fn, true)
  says := fun _ h => ∃ K : PySem.W.Frag, K.In h ∧ He.SaysD fa fn K ∧ ex K = true
  of := fun _ _ e => ⟨_, He.frG_in, congrArg (fun z : He.AlD × Bool => z.1) e, congrArg (fun z : He.AlD × Bool => z.2) e⟩
  keeps := fun _ _ _ ⟨K, hK, c⟩ k => ⟨K, PySem.W.Frag.In.keeps hK k, c⟩
theorem obsM_eq {n : Nat} {fa : List He.Fa} {fn : List He.DefD} {ex : PySem.W.Frag → Bool} {g : Addr → Option Obj} {s : Shared} (h : ∀ a, g a = s.heap.get? a) : obsM n fa fn ex g = (hookM n fa fn ex).obs s := by
  have e : g = s.heap.get? := funext h
  rw [e] <;> rfl
/-- the end of a walk, the wish about exceptions by the world -/
theorem walk_end {l : PySem.W.OpenLaw} {n k : Nat} {q : Program} {loose : List Str} {XP : (Str → Option Value) → Heap → Prop} {YP : World → Heap → Prop} {d : DefRec} {CX : World → CXT} {x : Str}
    (hn : l.most = some n) (hn2 : n ≤ sizeLine) (hdf : d.params.defaults = []) (hr : Room k callerA)
    (hF : ∀ (w : World) (mg : Str → Option Value) (fa : Addr) (h : Heap), YP w h → h.Ns mainGlobals mg → mg d.name = some (.ref fa) →
      ∃ (K : PySem.W.Frag) (fd : FuncData) (sp : Sp), K.In h ∧ (∀ (s : Shared) (u : Value), BindsTo s fd ⟨[u], []⟩ [(x, u)]) ∧
        (∀ (H : Hp) (a : Addr) (ns : List Int), ns.length ≤ n → Only H → SqL K H a (ns.map V.int) → sp [.ref a] H (fun v _ => v = .bl true) fun _ _ _ => False) ∧
        ∀ base : Heap, K.In base → base.Ns mainGlobals mg → FnOk l.prog w K mg base (CX w) k fa fd [x] sp)
    (hCX : ∀ (w : World) (H : Hp) (s : Shared) (e : Value) (s' : Shared), CX w [] H s (fun _ _ _ => False) e s' → False) :
    PySem.W.WalkO q loose XP YP l.row.toRowW d [] (fun f vs => PySem.call f vs) := by
  refine Att.attach_call hn hdf fun w s₀ s₁ mg mb fa o pm cd doc a vs ns Gd hY ho hd hcd hmg hobj hints hlen hg => ?_
  obtain ⟨K, fd, sp, KX, hb, hsp, hf⟩ := hF w mg fa _ hY Gd.T.g hmg
  exact law_call KX Gd.T.g Gd.T.b Gd.T.builtins Gd.T.nolimit hg hobj hints (Nat.le_trans hlen hn2) hr hf hb (fun H hO hS => hsp H a ns hlen hO hS) fun H e s' => hCX w H s₁ e s'
end DL

set_option Elab.async false
set_option linter.all false
set_option maxRecDepth 100000
set_option maxHeartbeats 4000000
/-! Wl: rules by names. -/
namespace DL
open PySem PySem.Spec L2
section
variable {X : Cx} {T : Tab} {E : WX} {pos pp : Pos} {a b c : Expr} {p q r : Me} {es : List Expr} {ps : Ml} {bp bq br : Mb} {x : Str}
theorem w_globI {i : Int} (hg : Gl X x) (h : ∃ t, X.mg x = some (.int i t)) (hd : (x == ("__debug__" : Str)) = false) : PE X (.Name x pos) (tW T X.K E (mCon (.int i))) := by
  obtain ⟨t, h⟩ := h
  exact w_glob hg h (v := .int i) ⟨t, rfl⟩ (fun _ _ => .int i) hd
theorem w_globS {i : Str} (hg : Gl X x) (h : ∃ t, X.mg x = some (.str i t)) (hd : (x == ("__debug__" : Str)) = false) : PE X (.Name x pos) (tW T X.K E (mCon (.str i))) := by
  obtain ⟨t, h⟩ := h
  exact w_glob hg h (v := .str i) ⟨t, rfl⟩ (fun _ _ => .str i) hd
/-- a name of the module that stands for data -/
def GloW (T : Tab) (K : PySem.W.Frag) (mg : Str → Option Value) (x : Str) (w : W) : Prop := ∃ (v : V) (u : Value), mg x = some u ∧ RelV v u ∧ ∀ F al, Rw T K F al v w
theorem w_globW {w : W} (hg : Gl X x) (h : GloW T X.K X.mg x w) (hd : (x == ("__debug__" : Str)) = false) : PE X (.Name x pos) (tW T X.K E (mCon w)) := by
  obtain ⟨v, u, h1, h2, h3⟩ := h
  exact w_glob hg h1 h2 h3 hd
theorem gloW_int {K : PySem.W.Frag} {mg : Str → Option Value} {i : Int} (h : ∃ t, mg x = some (.int i t)) : GloW T K mg x (.int i) := by
  obtain ⟨t, h⟩ := h
  exact ⟨.int i, _, h, ⟨t, rfl⟩, fun _ _ => .int i⟩
theorem gloW_str {K : PySem.W.Frag} {mg : Str → Option Value} {i : Str} (h : ∃ t, mg x = some (.str i t)) : GloW T K mg x (.str i) := by
  obtain ⟨t, h⟩ := h
  exact ⟨.str i, _, h, ⟨t, rfl⟩, fun _ _ => .str i⟩
theorem gloW_strs {K : PySem.W.Frag} {mg : Str → Option Value} {xs : List Str} (hm : mg x = some (.ref (He.ga K x))) (h : He.tupB K x (xs.map He.Dv.str) = true) : GloW T K mg x (.tup (xs.map W.str)) := by
  refine ⟨.ref (He.ga K x), _, hm, rfl, fun F al => .tup (He.tupB_ok h F) ?_⟩
  clear h
  induction xs with
  | nil => exact .nil
  | cons y ys ih => exact .cons (.str y) ih
theorem one {o : BoolOp} (h : PE X a (tW T X.K E p)) : PE X (.BoolOp o [a] pos) (tW T X.K E p) := pe_one h
theorem w_len (hg : Gl X "len") (hm : X.mg "len" = none) (ha : PA X (a :: es) (tL T X.K E ps)) (he : starEach (a :: es) X.env = (false, eval a X.env) :: starEach es X.env) (hpl : (backTo pos (starEach es X.env)).any (·.1) = false) : PE X (.Call (.Name "len" pp) (a :: es) [] pos) (tW T X.K E (mPrim .len ps)) :=
  w_primB call_len hg hm PySem.boot_len ha (by decide) rfl he hpl
theorem w_abs (hg : Gl X "abs") (hm : X.mg "abs" = none) (ha : PA X (a :: es) (tL T X.K E ps)) (he : starEach (a :: es) X.env = (false, eval a X.env) :: starEach es X.env) (hpl : (backTo pos (starEach es X.env)).any (·.1) = false) : PE X (.Call (.Name "abs" pp) (a :: es) [] pos) (tW T X.K E (mPrim .abs ps)) :=
  w_primB call_abs hg hm PyProof.Rows.boot_abs ha (by decide) rfl he hpl
theorem w_max (hc : X.calm = true) (hg : Gl X "max") (hm : X.mg "max" = none) (ha : PA X (a :: es) (tL T X.K E ps)) (he : starEach (a :: es) X.env = (false, eval a X.env) :: starEach es X.env) (hpl : (backTo pos (starEach es X.env)).any (·.1) = false) : PE X (.Call (.Name "max" pp) (a :: es) [] pos) (tW T X.K E (mPrim .max ps)) :=
  w_primB (P := .max) (call_max2 hc) hg hm PyProof.Rows.boot_max ha (by decide) rfl he hpl
theorem w_min (hc : X.calm = true) (hg : Gl X "min") (hm : X.mg "min" = none) (ha : PA X (a :: es) (tL T X.K E ps)) (he : starEach (a :: es) X.env = (false, eval a X.env) :: starEach es X.env) (hpl : (backTo pos (starEach es X.env)).any (·.1) = false) : PE X (.Call (.Name "min" pp) (a :: es) [] pos) (tW T X.K E (mPrim .min ps)) :=
  w_primB (P := .min) (call_min2 hc) hg hm PyProof.Rows.boot_min ha (by decide) rfl he hpl
theorem w_all (hc : X.calm = true) (hg : Gl X "all") (hm : X.mg "all" = none) (ha : PA X (a :: es) (tL T X.K E ps)) (he : starEach (a :: es) X.env = (false, eval a X.env) :: starEach es X.env) (hpl : (backTo pos (starEach es X.env)).any (·.1) = false) : PE X (.Call (.Name "all" pp) (a :: es) [] pos) (tW T X.K E (mPrim .all ps)) :=
  w_primB (P := .all) (cr_all hc) hg hm PyProof.Rows.boot_all ha (by decide) rfl he hpl
theorem w_any (hc : X.calm = true) (hg : Gl X "any") (hm : X.mg "any" = none) (ha : PA X (a :: es) (tL T X.K E ps)) (he : starEach (a :: es) X.env = (false, eval a X.env) :: starEach es X.env) (hpl : (backTo pos (starEach es X.env)).any (·.1) = false) : PE X (.Call (.Name "any" pp) (a :: es) [] pos) (tW T X.K E (mPrim .any ps)) :=
  w_primB (P := .any) (cr_any hc) hg hm PyProof.Rows.boot_any ha (by decide) rfl he hpl
theorem w_sum (hc : X.calm = true) (hg : Gl X "sum") (hm : X.mg "sum" = none) (ha : PA X (a :: es) (tL T X.K E ps)) (he : starEach (a :: es) X.env = (false, eval a X.env) :: starEach es X.env) (hpl : (backTo pos (starEach es X.env)).any (·.1) = false) : PE X (.Call (.Name "sum" pp) (a :: es) [] pos) (tW T X.K E (mPrim .sum ps)) :=
  w_primB (P := .sum) (cr_sum hc) hg hm PyProof.Rows.boot_sum ha (by decide) rfl he hpl
theorem w_divmod (hg : Gl X "divmod") (hm : X.mg "divmod" = none) (ha : PA X (a :: es) (tL T X.K E ps)) (he : starEach (a :: es) X.env = (false, eval a X.env) :: starEach es X.env) (hpl : (backTo pos (starEach es X.env)).any (·.1) = false) : PE X (.Call (.Name "divmod" pp) (a :: es) [] pos) (tW T X.K E (mPrim .divmod ps)) :=
  w_primB (P := .divmod) call_divmod hg hm PyProof.Rows.boot_divmod ha (by decide) rfl he hpl
theorem w_tuple (hg : Gl X "tuple") (hm : X.mg "tuple" = none) (ha : PA X (a :: es) (tL T X.K E ps)) (he : starEach (a :: es) X.env = (false, eval a X.env) :: starEach es X.env) (hpl : (backTo pos (starEach es X.env)).any (·.1) = false) : PE X (.Call (.Name "tuple" pp) (a :: es) [] pos) (tW T X.K E (mPrim .tuple ps)) :=
  w_primT (P := .tuple) call_tuple_of hg hm PyProof.Rows.boot_tuple ha (by decide) rfl he hpl
theorem w_list (hg : Gl X "list") (hm : X.mg "list" = none) (ha : PA X (a :: es) (tL T X.K E ps)) (he : starEach (a :: es) X.env = (false, eval a X.env) :: starEach es X.env) (hpl : (backTo pos (starEach es X.env)).any (·.1) = false) : PE X (.Call (.Name "list" pp) (a :: es) [] pos) (tW T X.K E (mPrim .list ps)) :=
  w_primT (P := .list) call_list_of hg hm PyProof.Rows.boot_list ha (by decide) rfl he hpl
theorem w_int1 (hg : Gl X "int") (hm : X.mg "int" = none) (ha : PA X (a :: es) (tL T X.K E ps)) (he : starEach (a :: es) X.env = (false, eval a X.env) :: starEach es X.env) (hpl : (backTo pos (starEach es X.env)).any (·.1) = false) : PE X (.Call (.Name "int" pp) (a :: es) [] pos) (tW T X.K E (mPrim .int ps)) :=
  w_primT (P := .int) call_int1 hg hm PyProof.Rows.boot_int ha (by decide) rfl he hpl
theorem w_bool1 (hg : Gl X "bool") (hm : X.mg "bool" = none) (ha : PA X (a :: es) (tL T X.K E ps)) (he : starEach (a :: es) X.env = (false, eval a X.env) :: starEach es X.env) (hpl : (backTo pos (starEach es X.env)).any (·.1) = false) : PE X (.Call (.Name "bool" pp) (a :: es) [] pos) (tW T X.K E (mPrim .bool ps)) :=
  w_primT (P := .bool) call_bool1 hg hm PyProof.Rows.boot_bool ha (by decide) rfl he hpl
theorem w_isT {tp : Pos} {tx : Str} {t : Ty} (hg : Gl X "isinstance") (hm : X.mg "isinstance" = none) (htg : Gl X tx) (htm : X.mg tx = none) (hv : bootBuiltins tx = some (.type t.s)) (hn : tx ≠ "__name__") (hdb : (tx == ("__debug__" : Str)) = false) (ha : PE X a (tW T X.K E p))
    (he : starEach [a, .Name tx tp] X.env = (false, eval a X.env) :: starEach [.Name tx tp] X.env) (he2 : starEach [.Name tx tp] X.env = (false, eval (.Name tx tp) X.env) :: starEach [] X.env) (hpl : (backTo pos (starEach [.Name tx tp] X.env)).any (·.1) = false) : PE X (.Call (.Name "isinstance" pp) [a, .Name tx tp] [] pos) (tW T X.K E (mIsi t p)) :=
  w_isi hg hm PyProof.Rows.boot_isinstance (pe_bltn htg htm hv rfl hn hdb) ha (by decide) rfl he he2 hpl
theorem w_isInt {tp : Pos} (hg : Gl X "isinstance") (hm : X.mg "isinstance" = none) (htg : Gl X "int") (htm : X.mg "int" = none) (ha : PE X a (tW T X.K E p))
    (he : starEach [a, .Name "int" tp] X.env = (false, eval a X.env) :: starEach [.Name "int" tp] X.env) (he2 : starEach [.Name "int" tp] X.env = (false, eval (.Name "int" tp) X.env) :: starEach [] X.env) (hpl : (backTo pos (starEach [.Name "int" tp] X.env)).any (·.1) = false) : PE X (.Call (.Name "isinstance" pp) [a, .Name "int" tp] [] pos) (tW T X.K E (mIsi .int p)) :=
  w_isT (t := .int) hg hm htg htm PyProof.Rows.boot_int (by decide) rfl ha he he2 hpl
theorem w_isBool {tp : Pos} (hg : Gl X "isinstance") (hm : X.mg "isinstance" = none) (htg : Gl X "bool") (htm : X.mg "bool" = none) (ha : PE X a (tW T X.K E p))
    (he : starEach [a, .Name "bool" tp] X.env = (false, eval a X.env) :: starEach [.Name "bool" tp] X.env) (he2 : starEach [.Name "bool" tp] X.env = (false, eval (.Name "bool" tp) X.env) :: starEach [] X.env) (hpl : (backTo pos (starEach [.Name "bool" tp] X.env)).any (·.1) = false) : PE X (.Call (.Name "isinstance" pp) [a, .Name "bool" tp] [] pos) (tW T X.K E (mIsi .bool p)) :=
  w_isT (t := .bool) hg hm htg htm PyProof.Rows.boot_bool (by decide) rfl ha he he2 hpl
theorem w_isStr {tp : Pos} (hg : Gl X "isinstance") (hm : X.mg "isinstance" = none) (htg : Gl X "str") (htm : X.mg "str" = none) (ha : PE X a (tW T X.K E p))
    (he : starEach [a, .Name "str" tp] X.env = (false, eval a X.env) :: starEach [.Name "str" tp] X.env) (he2 : starEach [.Name "str" tp] X.env = (false, eval (.Name "str" tp) X.env) :: starEach [] X.env) (hpl : (backTo pos (starEach [.Name "str" tp] X.env)).any (·.1) = false) : PE X (.Call (.Name "isinstance" pp) [a, .Name "str" tp] [] pos) (tW T X.K E (mIsi .str p)) :=
  w_isT (t := .str) hg hm htg htm PyProof.Rows.boot_str (by decide) rfl ha he he2 hpl
theorem w_isTuple {tp : Pos} (hg : Gl X "isinstance") (hm : X.mg "isinstance" = none) (htg : Gl X "tuple") (htm : X.mg "tuple" = none) (ha : PE X a (tW T X.K E p))
    (he : starEach [a, .Name "tuple" tp] X.env = (false, eval a X.env) :: starEach [.Name "tuple" tp] X.env) (he2 : starEach [.Name "tuple" tp] X.env = (false, eval (.Name "tuple" tp) X.env) :: starEach [] X.env) (hpl : (backTo pos (starEach [.Name "tuple" tp] X.env)).any (·.1) = false) : PE X (.Call (.Name "isinstance" pp) [a, .Name "tuple" tp] [] pos) (tW T X.K E (mIsi .tuple p)) :=
  w_isT (t := .tuple) hg hm htg htm PyProof.Rows.boot_tuple (by decide) rfl ha he he2 hpl
theorem w_isList {tp : Pos} (hg : Gl X "isinstance") (hm : X.mg "isinstance" = none) (htg : Gl X "list") (htm : X.mg "list" = none) (ha : PE X a (tW T X.K E p))
    (he : starEach [a, .Name "list" tp] X.env = (false, eval a X.env) :: starEach [.Name "list" tp] X.env) (he2 : starEach [.Name "list" tp] X.env = (false, eval (.Name "list" tp) X.env) :: starEach [] X.env) (hpl : (backTo pos (starEach [.Name "list" tp] X.env)).any (·.1) = false) : PE X (.Call (.Name "isinstance" pp) [a, .Name "list" tp] [] pos) (tW T X.K E (mIsi .list p)) :=
  w_isT (t := .list) hg hm htg htm PyProof.Rows.boot_list (by decide) rfl ha he he2 hpl
end
end DL

set_option Elab.async false
set_option linter.all false
set_option maxRecDepth 100000
set_option maxHeartbeats 4000000
/-! Wm: ranges as values, keywords, tuple.index, sorted. -/
namespace DL
open PySem PySem.Spec L2

def rgOk (a b : Int) : Bool := decide (-(2 ^ 62) ≤ a) && decide (a < 2 ^ 62) && decide (-(2 ^ 62) ≤ b) && decide (b < 2 ^ 62) && decide ((b - a).toNat ≤ 2 ^ 24)
def rgR (a b : Int) : List W := rangeW a (b - a).toNat
def mRg1 (k : List W → Sto → Res) (p : Me) : Me := fun ρ S => (p ρ S).bind fun x S => match x with
  | .int n => if rgOk 0 n then k (rgR 0 n) S else .bad
  | _ => .bad
def mRg2 (k : List W → Sto → Res) (p q : Me) : Me := fun ρ S => (p ρ S).bind fun x S => (q ρ S).bind fun y S => match x, y with
  | .int a, .int b => if rgOk a b then k (rgR a b) S else .bad
  | _, _ => .bad
def kTup (ws : List W) (S : Sto) : Res := .ok (.tup ws) S
def kLst (ws : List W) (S : Sto) : Res := .ok (.lst ws) S
def kNLst (ws : List W) (S : Sto) : Res := newCellR (.lst ws) S
section
variable {X : Cx} {T : Tab} {E : WX} {pos pp pp2 pos2 : Pos} {a b c : Expr} {p q r : Me} {es : List Expr} {ps : Ml} {bp bq br : Mb} {x : Str}
theorem rgOk_ok {i j : Int} (h : rgOk i j = true) : RgOk i j := by
  unfold rgOk at h
  simp only [Bool.and_eq_true, decide_eq_true_eq] at h
  exact ⟨h.1.1.1.1, h.1.1.1.2, h.1.1.2, h.1.2, h.2⟩
theorem rgV_rw {K : PySem.W.Frag} {F : Hp} {al : List Addr} : ∀ (n : Nat) (lo : Int), RwL T K F al ((List.range n).map fun i => V.int (lo + (i : Nat))) (rangeW lo n)
  | 0, _ => .nil
  | n + 1, lo => by
    rw [List.range_succ_eq_map, List.map_cons, List.map_map, rangeW]
    refine .cons (by simpa using Rw.int lo) ?_
    have e : ((fun i : Nat => V.int (lo + (i : Nat))) ∘ Nat.succ) = fun i : Nat => V.int ((lo + 1) + (i : Nat)) := funext fun i => by
      show V.int (lo + ((i + 1 : Nat) : Int)) = V.int (lo + 1 + (i : Int))
      congr 1; push_cast; omega
    rw [e]
    exact rgV_rw n (lo + 1)
theorem w_tupRg1 (hc : X.calm = true) (hg : Gl X "tuple") (hm : X.mg "tuple" = none) (hg2 : Gl X "range") (hm2 : X.mg "range" = none) (ha : PE X a (tW T X.K E p)) (na : starEach [a] X.env = (false, eval a X.env) :: starEach [] X.env)
    (na2 : starEach [.Call (.Name "range" pp2) [a] [] pos2] X.env = (false, eval (.Call (.Name "range" pp2) [a] [] pos2) X.env) :: starEach [] X.env) : PE X (.Call (.Name "tuple" pp) [.Call (.Name "range" pp2) [a] [] pos2] [] pos) (tW T X.K E (mRg1 kTup p)) := by
  refine peM (pe_tupRg hc hg hm (prg_1 hg2 hm2 ha na) na2) ?_
  rintro σ H Q ⟨F, al, S, ρ, g, e, h⟩
  refine (tW.bind g e h).imp fun x H1 ⟨F1, al1, S1, w, m, r, h1⟩ => ?_
  split at h1
  · split at h1
    · rename_i n hn
      cases r
      exact ⟨n, rfl, rgOk_ok hn, fun l hl => RQ.new h1 m.g (rgV_rw _ _) hl⟩
    · exact h1.elim
  · exact h1.elim
theorem w_lstRg1 (hc : X.calm = true) (hg : Gl X "list") (hm : X.mg "list" = none) (hg2 : Gl X "range") (hm2 : X.mg "range" = none) (ha : PE X a (tW T X.K E p)) (na : starEach [a] X.env = (false, eval a X.env) :: starEach [] X.env)
    (na2 : starEach [.Call (.Name "range" pp2) [a] [] pos2] X.env = (false, eval (.Call (.Name "range" pp2) [a] [] pos2) X.env) :: starEach [] X.env) : PE X (.Call (.Name "list" pp) [.Call (.Name "range" pp2) [a] [] pos2] [] pos) (tW T X.K E (mRg1 kLst p)) := by
  refine peM (pe_listRg hc hg hm (prg_1 hg2 hm2 ha na) na2) ?_
  rintro σ H Q ⟨F, al, S, ρ, g, e, h⟩
  refine (tW.bind g e h).imp fun x H1 ⟨F1, al1, S1, w, m, r, h1⟩ => ?_
  split at h1
  · split at h1
    · rename_i n hn
      cases r
      exact ⟨n, rfl, rgOk_ok hn, fun l hl => RQ.newL h1 m.g (rgV_rw _ _) hl⟩
    · exact h1.elim
  · exact h1.elim
theorem w_nlstRg1 (hc : X.calm = true) (hg : Gl X "list") (hm : X.mg "list" = none) (hg2 : Gl X "range") (hm2 : X.mg "range" = none) (ha : PE X a (tW T X.K E p)) (na : starEach [a] X.env = (false, eval a X.env) :: starEach [] X.env)
    (na2 : starEach [.Call (.Name "range" pp2) [a] [] pos2] X.env = (false, eval (.Call (.Name "range" pp2) [a] [] pos2) X.env) :: starEach [] X.env) : PE X (.Call (.Name "list" pp) [.Call (.Name "range" pp2) [a] [] pos2] [] pos) (tW T X.K E (mRg1 kNLst p)) := by
  refine peM (pe_listRg hc hg hm (prg_1 hg2 hm2 ha na) na2) ?_
  rintro σ H Q ⟨F, al, S, ρ, g, e, h⟩
  refine (tW.bind g e h).imp fun x H1 ⟨F1, al1, S1, w, m, r, h1⟩ => ?_
  split at h1
  · split at h1
    · rename_i n hn
      cases r
      exact ⟨n, rfl, rgOk_ok hn, fun l hl => RQ.newC h1 m.g (rgV_rw _ _) hl⟩
    · exact h1.elim
  · exact h1.elim

/-! ### keywords -/
def tK (T : Tab) (K : PySem.W.Frag) (E : WX) (m : Ml) : TA := tL T K E m
theorem k_nil : PK X [] (tL T X.K E mNil) := by
  refine ⟨fun pos pins s σ H Q I h => ?_⟩
  obtain ⟨F, al, S, ρ, g, e, h⟩ := h
  exact pk_nil.run pos pins s σ H Q I (RQ.valL h g .nil)
theorem k_cons {nm : Option Str} {kpos : Pos} {kws : List Keyword} (ha : PE X a (tW T X.K E p)) (hr : PK X kws (tL T X.K E ps)) : PK X (⟨nm, a, kpos⟩ :: kws) (tL T X.K E (mCons p ps)) := by
  refine ⟨fun pos pins s σ H Q I h => ?_⟩
  refine (pk_cons (nm := nm) (kpos := kpos) ha hr).run pos pins s σ H Q I ?_
  obtain ⟨F, al, S, ρ, g, e, h⟩ := h
  refine (tW.bindL g e h).imp fun x H1 ⟨F1, al1, S1, w, m, r, h1⟩ => ?_
  refine (tL.bindL m.g m.e h1).imp fun y H2 ⟨F2, al2, S2, u, m2, r2, h2⟩ => ?_
  exact RQ.valL h2 m2.g (.cons (r.post m2.p) r2)
/-- a def called with n values and the keywords ks: ψ is what such a call does -/
def CallK (T : Tab) (P : Program) (w : World) (K : PySem.W.Frag) (mg : Str → Option Value) (base : Heap) (k : Nat) (x : Str) (n : Nat) (ks : List Str) (ψ : List W → List W → Sto → Res) : Prop :=
  ∃ (f : Addr) (fd : FuncData) (pn : List Str) (g : List Value → List Value → List Value) (gV : List V → List V → List V) (gW : List W → List W → List W) (m : Nat) (φ : Fn), FnOk P w K mg base (L2.CX P w) k f fd pn (spW T K m φ) ∧ TakesN m φ ∧ mg x = some (.ref f) ∧
    PySem.W.keepIn K (.ref f) = true ∧ KBn K fd pn n ks g gV ∧ (∀ F al vs ws zs us, RwL T K F al vs ws → RwL T K F al zs us → RwL T K F al (gV vs zs) (gW ws us)) ∧ ψ = fun ws us S => φ (gW ws us) S
def mCallKP (ψ : List W → List W → Sto → Res) (n m : Nat) (ps pk : Ml) : Me := fun ρ S => (ps ρ S).bind fun ws S => (pk ρ S).bind fun us S => if ws.length = n ∧ us.length = m ∧ nlL (ws.map (derefF S)) = true ∧ nlL (us.map (derefF S)) = true then pureR (ψ (ws.map (derefF S)) (us.map (derefF S)) []) S else .bad
theorem w_callKP {k j n : Nat} {ks : List Str} {kws : List Keyword} {pk : Ml} {Ec : XK} {ψ : List W → List W → Sto → Res} (C : CallK T X.prog X.w X.K X.mg X.base k x n ks ψ) (hr : Room j X.A) (hj : k ≤ j) (hg : Gl X x) (tk : Takes X fun c d _ H => Ec c d H) (ha : PA X (a :: es) (tL T X.K (fun c d _ H => Ec c d H) ps)) (hkw : PK X kws (tL T X.K (fun c d _ H => Ec c d H) pk))
    (hall : (backToKw pos (keywordEach kws X.env)).all (·.1.isSome) = true) (hks : (backToKw pos (keywordEach kws X.env)).filterMap (·.1) = ks) (hdb : (x == ("__debug__" : Str)) = false)
    (he : starEach (a :: es) X.env = (false, eval a X.env) :: starEach es X.env) (hpl : ((backTo pos (starEach (a :: es) X.env)).any (·.1) || (backToKw pos (keywordEach kws X.env)).any (·.1.isNone)) = false) :
    PE X (.Call (.Name x pp) (a :: es) kws pos) (tW T X.K (fun c d _ H => Ec c d H) (mCallKP ψ n ks.length ps pk)) := by
  obtain ⟨f, fd, pn, g, gV, gW, m, φ, FO, hn, hm, hk, hb, hw, rfl⟩ := C
  refine peM (pe_callN FO (hr.mono hj) hg hm hk hb (passes_call tk fun _ _ _ _ h => h) ha hkw hall hks hdb he hpl) ?_
  rintro σ H Q ⟨F, al, S, ρ, g, e, h⟩
  refine (tL.bind g e h).imp fun vs H1 ⟨F1, al1, S1, ws, m, r, h1⟩ => ?_
  refine (tL.bind m.g m.e h1).imp fun zs H2 ⟨F2, al2, S2, us, m2, r2, h2⟩ => ?_
  split at h2
  · rename_i hc
    obtain ⟨c1, c2, c3, c4⟩ := hc
    refine ⟨r.length.trans c1, r2.length.trans c2, ?_⟩
    exact spW_of (E := fun c d _ H => Ec c d H) (σ := σ) hn m2.g.bare (hw _ _ _ _ _ _ (((r.post m2.p).derefF m2.g).nl c3) ((r2.derefF m2.g).nl c4)) (pure_sound m2.g (Same.refl _) (fun _ h => nomatch h) h2)
  · exact h2.elim

/-! ### tuple.index, flat values -/
def flatW : W → Bool
  | .non => true
  | .bl _ => true
  | .int _ => true
  | .str _ => true
  | _ => false
theorem flat_v {K : PySem.W.Frag} {F : Hp} {al : List Addr} {v : V} {w : W} (r : Rw T K F al v w) (h : flatW w = true) : flatV v = true := by
  cases r <;> first | rfl | cases h
theorem flat_eq {K : PySem.W.Frag} {F : Hp} {al : List Addr} {v u : V} {w y : W} (r : Rw T K F al v w) (r2 : Rw T K F al u y) (h : flatW w = true) (h2 : flatW y = true) : eqV v u = W.eqv w y := by
  cases r <;> first | (cases h; done) | (cases r2 <;> first | (cases h2; done) | rfl)
theorem flat_all {K : PySem.W.Frag} {F : Hp} {al : List Addr} : ∀ {vs : List V} {ws : List W}, RwL T K F al vs ws → ws.all flatW = true → vs.all flatV = true
  | _, _, .nil, _ => rfl
  | _, _, .cons a b, h => by
    rw [List.all_cons, Bool.and_eq_true] at h
    rw [List.all_cons, flat_v a h.1, flat_all b h.2]; rfl
def idxW (x : W) : List W → Option Nat
  | [] => none
  | y :: ys => if W.eqv y x then some 0 else (idxW x ys).map (· + 1)
theorem idxW_some {x : W} : ∀ {ys : List W} {j : Nat}, idxW x ys = some j → ∃ y, ys[j]? = some y ∧ W.eqv y x = true ∧ ∀ m z, m < j → ys[m]? = some z → W.eqv z x = false
  | [], _, h => by cases h
  | y :: ys, j, h => by
    unfold idxW at h
    split at h
    · rename_i e
      cases h
      exact ⟨y, rfl, e, fun m z hm => by omega⟩
    · rename_i e
      rw [Option.map_eq_some_iff] at h
      obtain ⟨i, h1, rfl⟩ := h
      obtain ⟨z, h2, h3, h4⟩ := idxW_some h1
      refine ⟨z, by simpa using h2, h3, fun m u hm hu => ?_⟩
      cases m with
      | zero =>
        have : y = u := by simpa using hu
        subst this
        simpa using e
      | succ m => exact h4 m u (by omega) (by simpa using hu)
end
end DL

set_option Elab.async false
set_option linter.all false
set_option maxRecDepth 100000
set_option maxHeartbeats 4000000
/-! Wn: sorted of ints. -/
namespace DL
open PySem PySem.Spec L2

/-! ### sorted(a tuple of ints) -/
section
open PyProof.Rows (seqObj listItems_at listUpdate_at get?_update_seq)
variable {prog : Program} {w : World} {A : Around} {E : Value → Shared → Prop} {s : Shared}
theorem collectT {l : Addr} {vs : List Value} {Q : List Value → Shared → Prop} (tp : PyProof.Rows.IsTup s.heap l vs.toArray) (hsz : vs.length ≤ sizeLine)
    (h : Q vs { s with heap := (s.heap.push (seqObj "list" #[] 0)).update s.heap.objs.size (Obj.mapSeq (· ++ vs.toArray)) }) : wpAny (model prog w) A (collect (.ref l)) Q E s := by
  obtain ⟨o, ho, hcl, n, hda⟩ := id tp
  unfold collect
  refine wpAny_bind (wpAny_runValue (codeAny_builtin PyProof.Rows.entry_proto_collect' ?_))
  show wpAny _ _ (do again (.builtin "list.__iadd__" ⟨[← newList [], .ref l], []⟩)) _ _ s
  refine wpAny_bind (wpAny_newList (wpAny_pure ⟨Code.quiet_builtin _ (by decide +kernel), codeAny_builtin PyProof.Rows.entry_list_iadd' ?_⟩))
  show wpAny _ _ (Builtin.List.listExtendWith (.ref s.heap.objs.size) (.ref l) (.ref s.heap.objs.size)) _ _ { s with heap := s.heap.push (seqObj "list" #[] 0) }
  unfold Builtin.List.listExtendWith
  have h2 : (s.heap.push (seqObj "list" #[] 0)).get? l = some o := Heap.get?_push_of_some _ ho
  have h3 := Heap.get?_push_size s.heap (o := seqObj "list" #[] 0) rfl
  refine wpAny_bind (wpAny_typeOf (T := "tuple") ⟨o, h2, hcl⟩ ?_)
  have ht : (Value.type "tuple" == Value.type "tuple") = true := by rfl
  rw [if_pos (by rw [ht]; simp)]
  refine wpAny_bind (listItems_at h2 hda (wpAny_bind (listItems_at (xs := #[]) (n := 0) h3 rfl ?_)))
  rw [if_neg (by simp)]
  refine wpAny_bind (listUpdate_at (xs := #[]) (n := 0) h3 rfl ?_ (Nat.zero_le _) (by show (#[] ++ vs.toArray).size ≤ sizeLine + 1; simp only [Array.size_append, List.size_toArray, List.length_nil]; omega))
  refine wpAny_pure ?_
  show wpAny (model prog w) A (do
      let o ← load s.heap.objs.size
      match o.data with
      | .seq xs _ => pure xs.toList
      | _ => unsupported "internal:collect") Q E { s with heap := (s.heap.push (seqObj "list" #[] 0)).update s.heap.objs.size (Obj.mapSeq (· ++ vs.toArray)) }
  refine wpAny_bind (wpAny_load (get?_update_seq h3 _) ?_)
  show wpAny _ _ (pure ((#[] : Array Value) ++ vs.toArray).toList) Q E _
  rw [show ((#[] : Array Value) ++ vs.toArray).toList = vs by simp]
  exact wpAny_pure h
theorem sortedT {l : Addr} {vs : List Value} {ltv : Value → Value → Bool} {Q : Value → Shared → Prop} (O : SrtO.Swo ltv) (tp : PyProof.Rows.IsTup s.heap l vs.toArray) (hz : vs.length ≤ sizeLine)
    (hS : 2 ≤ vs.length → ∀ (h₁ : Heap) (a : Addr), SrtO.SortableO prog w A.in1.in1 { s with heap := h₁ } a vs ltv)
    (h : ∀ out : List Value, SrtO.Srtd ltv out → SrtO.Stb ltv out vs → Q (.ref (s.heap.objs.size + 1)) { s with heap := PyProof.Rows.sortedAll s.heap vs out.toArray }) :
    wpAny (model prog w) A (call (.builtin "sorted") [.ref l]) Q E s := by
  refine Calls.call_function_entry PyProof.Rows.kind_sorted PyProof.Rows.plain_sorted PyProof.Rows.entry_sorted (PyProof.Rows.args_sorted1 _) ?_
  unfold Builtin.«sorted»
  refine wpAny_bind (m := checkCount "sorted" 1 1 _) (wpAny_pure (wpAny_bind (collectT tp hz (wpAny_bind (wpAny_newList ?_ hz)))))
  have e1 : ((s.heap.push (seqObj "list" #[] 0)).update s.heap.objs.size (Obj.mapSeq (· ++ vs.toArray))).objs.size = s.heap.objs.size + 1 := by
    rw [Heap.size_update]; exact Heap.size_push ..
  have e2 := Heap.get?_push_size ((s.heap.push (seqObj "list" #[] 0)).update s.heap.objs.size (Obj.mapSeq (· ++ vs.toArray))) (o := seqObj "list" vs.toArray 0) rfl
  rw [e1] at e2
  show wpAny _ _ _ _ _ { s with heap := ((s.heap.push (seqObj "list" #[] 0)).update s.heap.objs.size (Obj.mapSeq (· ++ vs.toArray))).push (seqObj "list" vs.toArray 0) }
  rw [e1]
  refine wpAny_bind (wpAny_holding (wpAny_call_entry PyProof.Rows.slot_list_sort ⟨_, e2, rfl⟩ PyProof.Rows.entry_list_sort (SrtO.list_sort_ord O e2 hz (fun h2 => hS h2 _ _) fun out hs hb => ⟨_, rfl, ?_⟩) (PyProof.Rows.args_list_sort _)))
  exact wpAny_pure ⟨_, rfl, h out hs hb⟩
end

/-! ### sorted, ints in a list or tuple -/
def insI (x : Int) : List Int → List Int
  | [] => [x]
  | y :: ys => if x ≤ y then x :: y :: ys else y :: insI x ys
def srtI : List Int → List Int
  | [] => []
  | x :: xs => insI x (srtI xs)
theorem insI_perm (x : Int) : ∀ ys : List Int, (insI x ys).Perm (x :: ys)
  | [] => .refl _
  | y :: ys => by
    unfold insI
    split
    · exact .refl _
    · exact ((insI_perm x ys).cons y).trans (.swap x y ys)
theorem srtI_perm : ∀ xs : List Int, (srtI xs).Perm xs
  | [] => .refl _
  | x :: xs => (insI_perm x _).trans ((srtI_perm xs).cons x)
theorem insI_sorted (x : Int) : ∀ {ys : List Int}, ys.Pairwise (· ≤ ·) → (insI x ys).Pairwise (· ≤ ·)
  | [], _ => List.pairwise_singleton _ _
  | y :: ys, h => by
    obtain ⟨h1, h2⟩ := List.pairwise_cons.mp h
    unfold insI
    split
    · rename_i hx
      refine List.pairwise_cons.mpr ⟨fun z hz => ?_, h⟩
      rcases List.mem_cons.mp hz with rfl | hz
      · exact hx
      · exact Int.le_trans hx (h1 z hz)
    · rename_i hx
      refine List.pairwise_cons.mpr ⟨fun z hz => ?_, insI_sorted x h2⟩
      rcases List.mem_cons.mp ((insI_perm x ys).subset hz) with rfl | hz
      · omega
      · exact h1 z hz
theorem srtI_sorted : ∀ xs : List Int, (srtI xs).Pairwise (· ≤ ·)
  | [] => .nil
  | x :: xs => insI_sorted x (srtI_sorted xs)
theorem sorted_uniq : ∀ {xs ys : List Int}, xs.Perm ys → xs.Pairwise (· ≤ ·) → ys.Pairwise (· ≤ ·) → xs = ys
  | [], ys, p, _, _ => by rw [List.nil_perm.mp p]
  | x :: xs, [], p, _, _ => by have := p.length_eq; simp at this
  | x :: xs, y :: ys, p, h, k => by
    obtain ⟨h1, h2⟩ := List.pairwise_cons.mp h
    obtain ⟨k1, k2⟩ := List.pairwise_cons.mp k
    have e : x = y := by
      have a : y ≤ x := by
        rcases List.mem_cons.mp (p.subset (List.mem_cons_self ..)) with e | e
        · omega
        · exact k1 _ e
      have b : x ≤ y := by
        rcases List.mem_cons.mp (p.symm.subset (List.mem_cons_self ..)) with e | e
        · omega
        · exact h1 _ e
      omega
    subst e
    rw [sorted_uniq (List.perm_cons x |>.mp p) h2 k2]
def rSrt (K : PySem.W.Frag) : List V → Hp → VK → Prop := fun vs H Q => ∃ (a : Addr) (ns : List Int), vs = [V.ref a] ∧ (SqL K H a (ns.map V.int) ∨ SqT K H a (ns.map V.int)) ∧ ∀ p : Addr, H p = none → Q (.ref p) (upd H p (.lst ((srtI ns).map V.int)))
theorem cr_srt {X : Cx} : CallR X (.builtin "sorted") (rSrt X.K) := by
  intro pins s σ H vs us Q I r h
  obtain ⟨a, ns, rfl, hs | hs, q⟩ := h
  · exact cr_sortedI pins s σ H _ us Q I r ⟨a, ns, rfl, hs, fun ns' p h1 h2 hp => by rw [sorted_uniq (h1.trans (srtI_perm ns).symm) h2 (srtI_sorted ns)]; exact q p hp⟩
  · obtain ⟨its, rv, tp, hz⟩ := I.tuple hs
    rw [Vals.ref1 r]
    have hi := rv.ints
    refine sortedT SrtO.swo_int tp (by rw [← rv.length]; exact hz) (fun h2 h₁ a' => SrtO.ints_sortable hi h2) fun out h1 h2 => ?_
    obtain ⟨k1, k2, k3⟩ := SrtO.ints_out hi h1 h2
    obtain ⟨ep, he'⟩ := PyProof.Rows.sortedAll_at s.heap its out.toArray
    have e := sorted_uniq (k2.trans (srtI_perm ns).symm) k3 (srtI_sorted ns)
    have hlen : ((srtI ns).map V.int).length ≤ sizeLine := by
      rw [List.length_map, (srtI_perm ns).length_eq]
      rw [List.length_map] at hz
      exact hz
    rw [e] at k1
    exact ⟨.ref _, upd H (s.heap.objs.size + 1) (.lst ((srtI ns).map V.int)), I.laid (t' := s.toks) (fun _ _ => PyProof.Rows.sortedAll_old) (Nat.le_succ _) ⟨hlen, out, ep, vals_of_ints k1, he'⟩, rfl, q _ (I.hok.fresh (Nat.le_succ _))⟩
def mSorted (k : List W → Sto → Res) (a : Me) : Me := fun ρ S => (a ρ S).bind fun x S => match (items (deref S x)).bind allI with
  | some ns => k ((srtI ns).map W.int) S
  | none => .bad
section
variable {X : Cx} {T : Tab} {E : WX} {pos pp : Pos} {a : Expr} {p : Me} {x : Str}
theorem srt_core {K : PySem.W.Frag} {F : Hp} {al : List Addr} {H : Hp} {S : Sto} {σ : L2.St} {v : V} {w : W} {Q : VK} {k : List W → Sto → Res} (hk : k = kLst ∨ k = kNLst) (g : Good T K F al S H) (r : Rw T K F al v w)
    (h : RQ T K E σ F al H (match (items (deref S w)).bind allI with | some ns => k ((srtI ns).map W.int) S | none => .bad) Q) : rSrt K [v] H Q := by
  cases e : (items (deref S w)).bind allI with
  | none => rw [e] at h; exact h.elim
  | some ns =>
    rw [e] at h
    rw [Option.bind_eq_some_iff] at e
    obtain ⟨ws, e1, e2⟩ := e
    obtain ⟨a, xs, rfl, h1, h2⟩ := items_sound g (vw_of g r) e1
    have e3 := allI_sound e2
    subst e3
    have e4 := h2.ints
    subst e4
    refine ⟨a, ns, rfl, h1, fun p hp => ?_⟩
    rcases hk with rfl | rfl
    · exact RQ.newL h g (RwL.of_ints _) hp
    · exact RQ.newC h g (RwL.of_ints _) hp
theorem w_sorted {k : List W → Sto → Res} (hk : k = kLst ∨ k = kNLst) (hg : Gl X "sorted") (hm : X.mg "sorted" = none) (ha : PE X a (tW T X.K E p)) (he : starEach [a] X.env = (false, eval a X.env) :: starEach [] X.env) : PE X (.Call (.Name "sorted" pp) [a] [] pos) (tW T X.K E (mSorted k p)) := by
  refine peM (pe_callB cr_srt hg hm PyProof.Rows.boot_sorted (pa_cons ha pa_nil he) (by decide) rfl he rfl) ?_
  rintro σ H Q ⟨F, al, S, ρ, g, e, h⟩
  exact (tW.bind g e h).imp fun x H1 ⟨F1, al1, S1, w, m, r, h1⟩ => srt_core hk m.g r h1
end
end DL

set_option Elab.async false
set_option linter.all false
set_option maxRecDepth 100000
set_option maxHeartbeats 4000000
/-! Wo: defaults and keyword-only parameters. -/
namespace DL
open PySem PySem.Spec L2

/-- the keyword default y of the def at f, if it is an object -/
def kwdAt (f : Str × Option Str) (y : Str) (K : PySem.W.Frag) : Addr := match K.lookup (He.fAd K f) with
  | some ⟨_, _, .func fd, _⟩ => (match fd.kwdefaults with
    | .ref D => (match PySem.W.nsIn K D y with
      | some (some (.ref a)) => a
      | _ => 0)
    | _ => 0)
  | _ => 0
/-- an empty tuple stands there -/
def tupE (K : PySem.W.Frag) (a : Addr) : Bool := match K.lookup a with
  | some ⟨.type c, _, .seq its _, _⟩ => decide (c = "tuple") && decide (its.size = 0)
  | _ => false
theorem tupE_ok {K : PySem.W.Frag} {a : Addr} (h : tupE K a = true) (H : Hp) : SqT K H a [] := by
  unfold tupE at h
  cases q : K.lookup a with
  | none => rw [q] at h; cases h
  | some o =>
    obtain ⟨oc, od, dt, osl⟩ := o
    rw [q] at h
    cases oc with
    | type c =>
      cases dt with
      | seq its n =>
        replace h : (decide (c = "tuple") && decide (its.size = 0)) = true := h
        rw [Bool.and_eq_true, decide_eq_true_eq, decide_eq_true_eq] at h
        obtain ⟨rfl, h2⟩ := h
        have e : its = #[] := Array.eq_empty_of_size_eq_zero h2
        subst e
        exact .inr ⟨_, #[], n, q, rfl, rfl, Nat.zero_le _, .nil⟩
      | _ => cases h
    | _ => cases dt <;> cases h
theorem tupE_rw {T : Tab} {K : PySem.W.Frag} {a : Addr} (h : tupE K a = true) (F : Hp) (al : List Addr) : Rw T K F al (.ref a) (.tup []) := .tup (tupE_ok h F) .nil
section
variable {T : Tab} {P : Program} {w : World} {K : PySem.W.Frag} {mg : Str → Option Value} {base : Heap} {x qual : Str} {params : Arguments} {body : List Stmt} {scope : Scope} {dvs : List V} {kws : List (Str × V)} {f : Addr} {fd : FuncData} {pn : List Str}
/-- keyword-only parameters, no other defaults: n written values, the keywords ks; ms lack -/
theorem kb_only (Fd : FunD K x qual params body scope [] kws f fd) (n : Nat) (ks : List Str) (ms : List (Str × V)) (g : {α : Type} → List α → List α → List α → List α) (hk : kws ≠ []) (hms : ∀ q ∈ ms, q ∈ kws)
    (hrel : ∀ {vs mz zs : List V} {us mv ws : List Value}, Vals vs us → Vals mz mv → Vals zs ws → Vals (g vs mz zs) (g us mv ws))
    (h : ∀ (D : Addr) (doc pm : Value) (an : Option Addr) (cdv ct : Value) (us mv ws : List Value), us.length = n → mv.length = ms.length → ws.length = ks.length →
      KwChain D ((ms.map (·.1)).zip mv) (bindArgs (PySem.W.fnOf x qual params body scope .none (.ref D) doc pm an cdv ct) ⟨us, ks.zip ws⟩) (pn.zip (g us mv ws))) :
    ∃ mv : List Value, KBn K fd pn n ks (fun us ws => g us mv ws) (fun vs zs => g vs (ms.map (·.2)) zs) := by
  obtain ⟨oc, od, dV, kV, doc, pm, an, cdv, ct, osl, rfl, lk, hcd, hD, hK⟩ := Fd.ex
  rcases hD with ⟨_, rfl⟩ | ⟨e, _⟩
  · rcases hK with e | ⟨D, rfl, hq⟩
    · exact absurd e hk
    · obtain ⟨mv, hl, rk, hks⟩ := kwd_vals (ms := ms) fun q hm => hq q (hms q hm)
      exact ⟨mv, ⟨fun s us ws hX l1 l2 => BindsTo.of_looks fun M => KwChain.looks hX hks (h D doc pm an cdv ct us mv ws l1 hl l2), fun r1 r2 => hrel r1 rk r2⟩⟩
  · exact absurd rfl e
theorem callK_mk {k n m : Nat} {ks : List Str} {φ : Fn} {dv0 : List V} {g : List Value → List Value → List Value} {gV : List V → List V → List V} {gW : List W → List W → List W} (Fd : FunD K x qual params body scope dv0 kws f fd) (hm : mg x = some (.ref f))
    (FO : FnOk P w K mg base (L2.CX P w) k f fd pn (spW T K m φ)) (hn : TakesN m φ) (hb : KBn K fd pn n ks g gV) (hw : ∀ F al vs ws zs us, RwL T K F al vs ws → RwL T K F al zs us → RwL T K F al (gV vs zs) (gW ws us)) : CallK T P w K mg base k x n ks fun ws us S => φ (gW ws us) S :=
  ⟨f, fd, pn, g, gV, gW, m, φ, FO, hn, hm, Fd.kp, hb, hw, rfl⟩
/-- written values, defaults fill up -/
theorem callF_dfl {k n : Nat} {φ : Fn} {ds : List Value} {dv : List V} {dws : List W} {dv0 : List V} (Fd : FunD K x qual params body scope dv0 kws f fd) (hm : mg x = some (.ref f))
    (FO : FnOk P w K mg base (L2.CX P w) k f fd pn (spW T K n φ)) (hn : TakesN n φ) (hd : Vals dv ds) (hb : Binds K fd pn ds) (hw : ∀ F al, RwL T K F al dv dws) : CallF T P w K mg base k x fun ws S => φ (ws ++ dws) S :=
  ⟨f, fd, pn, ds, dv, dws, n, φ, FO, hn, hm, Fd.kp, hb, hd, hw, rfl⟩
end
end DL

set_option Elab.async false
set_option linter.all false
set_option maxRecDepth 100000
set_option maxHeartbeats 4000000
/-! Wp: a call that only looks at lists that may be changed later. -/
namespace DL
open PySem PySem.Spec L2

/-! ### no list, no instance in it -/
mutual
def W.nol : W → Bool
  | .non => true
  | .bl _ => true
  | .int _ => true
  | .str _ => true
  | .tup ws => nolL ws
  | _ => false
def nolL : List W → Bool
  | [] => true
  | w :: ws => W.nol w && nolL ws
end
def nolF : List (Nat × W) → Bool
  | [] => true
  | (_, w) :: ws => W.nol w && nolF ws
def Xn.nol : Xn → Bool
  | .own _ fs => nolF fs
def pureV (r : Res) (S : Sto) : Res := match r with
  | .ok w _ => if w.nol then .ok w S else .bad
  | .exc x _ => if x.nol then .exc x S else .bad
  | .bad => .bad
section
variable {T : Tab} {K : PySem.W.Frag} {F F' : Hp} {al al' : List Addr} {H H' : Hp} {S S' : Sto} {E : WX} {σ : L2.St}
/-- F and all lists that may be changed, as they stand -/
def seen (F H : Hp) (al : List Addr) : Hp := fun b => match F b with
  | some o => some o
  | none => if b ∈ al then (match H b with
    | some (.lst xs) => some (.lst xs)
    | _ => none) else none
theorem seen_sub (s : Same F H) : Same (seen F H al) H := fun b o h => by
  unfold seen at h
  cases q : F b with
  | some u => rw [q] at h; cases h; exact s b o q
  | none =>
    rw [q] at h
    simp only at h
    split at h
    · split at h
      · rename_i xs e; cases h; exact e
      · cases h
    · cases h
theorem seen_ext : Same F (seen F H al) := fun b o h => by unfold seen; rw [h]
theorem seen_lst {a : Addr} {xs : List V} (hF : F a = none) (ha : a ∈ al) (hH : H a = some (.lst xs)) : seen F H al a = some (.lst xs) := by
  unfold seen; rw [hF]; simp only; rw [if_pos ha, hH]
theorem seen_is {a : Addr} {o : HO} (hF : F a = none) (h : seen F H al a = some o) : a ∈ al ∧ ∃ xs, o = .lst xs := by
  unfold seen at h
  rw [hF] at h
  simp only at h
  split at h
  · rename_i ha
    split at h
    · cases h; exact ⟨ha, _, rfl⟩
    · cases h
  · cases h
theorem Rw.seen (g : Good T K F al S H) {v : V} {w : W} (r : Rw T K F al v w) (h : W.nl (deref S w) = true) : Rw T K (DL.seen F H al) [] v (deref S w) := by
  cases r with
  | @loc a n ha =>
    cases q : S[n]? with
    | none => rw [show deref S (.loc n) = .loc n by simp only [deref, q]] at h; cases h
    | some c =>
      have hc := g.cell n a c ha q
      cases c with
      | lst ws =>
        rw [show deref S (.loc n) = .lst ws by simp only [deref, q]] at h ⊢
        obtain ⟨xs, h1, h2, h3⟩ := hc
        exact .lst (SqL.of (seen_lst h2 (List.mem_of_getElem? ha) h1)) ((h3.nl h).mono seen_ext (Pre.refl _))
      | frz w =>
        rw [show deref S (.loc n) = w by simp only [deref, q]] at h ⊢
        exact ((show Rw T K F al (.ref a) w from hc).nl h).mono seen_ext (Pre.refl _)
      | _ => rw [show deref S (.loc n) = .loc n by simp only [deref, q]] at h; cases h
  | non => exact .non
  | bl b => exact .bl b
  | int b => exact .int b
  | str b => exact .str b
  | tup a b => exact ((Rw.tup a b).nl h).mono seen_ext (Pre.refl _)
  | lst a b => exact ((Rw.lst a b).nl h).mono seen_ext (Pre.refl _)
  | ins a b => exact ((Rw.ins a b).nl h).mono seen_ext (Pre.refl _)
  | tpx a d b => exact ((Rw.tup (.inl (.inr ⟨_, a⟩)) b).nl h).mono seen_ext (Pre.refl _)
theorem RwL.seen (g : Good T K F al S H) : ∀ {v : List V} {w : List W}, RwL T K F al v w → nlL (w.map (deref S)) = true → RwL T K (DL.seen F H al) [] v (w.map (deref S))
  | _, _, .nil, _ => .nil
  | _, _, .cons a b, h => by
    rw [List.map_cons, nlL, Bool.and_eq_true] at h
    exact .cons (Rw.seen g a h.1) (RwL.seen g b h.2)
/-- the lists are let go again -/
def back (F F' : Hp) (al : List Addr) : Hp := fun b => if b ∈ al ∧ F b = none then none else F' b
theorem back_ext (h : Same F F') : Same F (back F F' al) := fun b o e => by
  unfold back
  rw [if_neg (fun z => by rw [e] at z; cases z.2)]
  exact h b o e
structure Seen (T : Tab) (K : PySem.W.Frag) (F : Hp) (al : List Addr) (S : Sto) (H : Hp) (F' : Hp) (H' : Hp) : Prop where
  g : Good T K (back F F' al) al S H'
  p : Post F al H (back F F' al) al H'
  tup : ∀ a xs, F' a = some (.tup xs) → back F F' al a = some (.tup xs)
  frz : ∀ a o u, F' a = some (.frz o u) → back F F' al a = some (.frz o u)
  xd : ∀ a u, F' a = some (.xd u) → back F F' al a = some (.xd u)
theorem seen_back (g : Good T K F al S H) (p : Post (seen F H al) [] H F' al' H') (g' : Good T K F' al' S' H') : Seen T K F al S H F' H' := by
  have kp : ∀ b o, H b = some o → H' b = some o := fun b o h => p.keep b o h (fun z => nomatch z)
  have e1 : Same F F' := seen_ext.trans p.ext
  have off : ∀ a o, a ∈ al → F a = none → F' a = some o → ∃ xs, o = .lst xs := fun a o ha hF h => by
    cases q : seen F H al a with
    | some u =>
      have := p.ext a u q
      rw [h] at this; cases this
      exact (seen_is hF q).2
    | none =>
      rcases p.dom a (by rw [h]; simp) with z | z | z
      · exact absurd q z
      · cases z
      · exact absurd z (g.tr a ha)
  have stay : ∀ a o, F' a = some o → (∀ xs, o ≠ .lst xs) → back F F' al a = some o := fun a o h n => by
    unfold back
    rw [if_neg fun z => ?_]
    · exact h
    · obtain ⟨xs, e⟩ := off a o z.1 z.2 h
      exact n xs e
  refine ⟨⟨fun b o h => ?_, g.nd, g.len, fun a ha => ?_, fun n a c ha hc => ?_⟩, ⟨back_ext e1, Pre.refl _, fun _ h => .inl h, fun b o h _ => kp b o h, fun b h => ?_⟩, fun a xs h => stay a _ h (fun _ e => nomatch e), fun a o u h => stay a _ h (fun _ e => nomatch e), fun a u h => stay a _ h (fun _ e => nomatch e)⟩
  · unfold back at h
    split at h
    · cases h
    · exact g'.sub b o h
  · cases e : H a with
    | none => exact absurd e (g.tr a ha)
    | some o => rw [kp a o e]; simp
  · refine (g.cell n a c ha hc).mono (back_ext e1) (Pre.refl _) (fun o h => kp a o h) fun h => ?_
    unfold back; rw [if_pos ⟨List.mem_of_getElem? ha, h⟩]
  · unfold back at h
    split at h
    · exact absurd rfl h
    · rcases p.dom b h with z | z | z
      · cases q : F b with
        | some o => exact .inl (by simp)
        | none =>
          cases q2 : seen F H al b with
          | none => exact absurd q2 z
          | some o => exact .inr (.inl (seen_is q q2).1)
      · cases z
      · exact .inr (.inr z)
theorem sqT_back (B : Seen T K F al S H F' H') {a : Addr} {xs : List V} (q : SqT K F' a xs) : SqT K (back F F' al) a xs := by
  rcases q with (q | ⟨o, q⟩) | q
  · exact .inl (.inl (B.tup _ _ q))
  · exact .inl (.inr ⟨o, B.frz _ _ _ q⟩)
  · exact .inr q
mutual
theorem Rw.back (B : Seen T K F al S H F' H') : ∀ {v : V} {w : W}, Rw T K F' al' v w → W.nol w = true → Rw T K (DL.back F F' al) al v w
  | _, _, .non, _ => .non
  | _, _, .bl b, _ => .bl b
  | _, _, .int i, _ => .int i
  | _, _, .str i, _ => .str i
  | _, _, .tup q r, h => .tup (sqT_back B q) (RwL.back B r h)
  | _, _, .lst _ _, h => by cases h
  | _, _, .ins _ _, h => by cases h
  | _, _, .loc _, h => by cases h
  | _, _, .tpx _ _ _, h => by cases h
theorem RwL.back (B : Seen T K F al S H F' H') : ∀ {v : List V} {w : List W}, RwL T K F' al' v w → nolL w = true → RwL T K (DL.back F F' al) al v w
  | _, _, .nil, _ => .nil
  | _, _, .cons a b, h => by
    rw [nolL, Bool.and_eq_true] at h
    exact .cons (Rw.back B a h.1) (RwL.back B b h.2)
end
theorem RwF.back (B : Seen T K F al S H F' H') : ∀ {v : List (Str × V)} {w : List (Nat × W)}, RwF T K F' al' v w → nolF w = true → RwF T K (DL.back F F' al) al v w
  | _, _, .nil, _ => .nil
  | _, _, .cons l a b, h => by
    rw [nolF, Bool.and_eq_true] at h
    exact .cons l (Rw.back B a h.1) (RwF.back B b h.2)
theorem view_sound {r : Res} {Q : VK} (g : Good T K F al S H) (h : RQ T K E σ F al H (pureV r S) Q) : RQ T K E σ (seen F H al) [] H r Q := by
  cases r with
  | ok w S' =>
    replace h : RQ T K E σ F al H (if w.nol then .ok w S else .bad) Q := h
    split at h
    · rename_i hw
      intro v F' al' H' p g' r
      have B := seen_back g p g'
      exact h v _ al H' B.p B.g (r.back B hw)
    · exact h.elim
  | exc x S' =>
    replace h : RQ T K E σ F al H (if x.nol then .exc x S else .bad) Q := h
    split at h
    · rename_i hw
      intro c d F' al' H' p g' r
      have B := seen_back g p g'
      refine h c d _ al H' B.p B.g ?_
      cases x with
      | own cc fs =>
        refine ⟨r.1, ?_⟩
        rcases r.2 with e | ⟨a, gs, h1, h2, h3⟩
        · exact .inl e
        · exact .inr ⟨a, gs, h1, B.xd _ _ h2, h3.back B hw⟩
    · exact h.elim
  | bad => exact h.elim
theorem seen_good (g : Good T K F al S H) : Good T K (seen F H al) [] [] H := ⟨seen_sub g.sub, List.nodup_nil, rfl, (fun _ h => nomatch h), (fun n a c h => by simp at h)⟩
end
/-- lists are handed in as they stand, none comes out -/
def mCallV (ψ : Fn) (ms : Ml) : Me := fun ρ S => (ms ρ S).bind fun ws S => if nlL (ws.map (deref S)) then pureV (ψ (ws.map (deref S)) []) S else .bad
section
variable {X : Cx} {T : Tab} {E : WX} {pos pp : Pos} {a : Expr} {es : List Expr} {ps : Ml} {x : Str}
theorem w_callV {k j : Nat} {ψ : Fn} (C : CallF T X.prog X.w X.K X.mg X.base k x ψ) (hr : Room j X.A) (hj : k ≤ j) (hg : Gl X x) (tk : Takes X E) (ha : PA X (a :: es) (tL T X.K E ps)) (hdb : (x == ("__debug__" : Str)) = false)
    (he : starEach (a :: es) X.env = (false, eval a X.env) :: starEach es X.env) (hpl : (backTo pos (starEach es X.env)).any (·.1) = false) : PE X (.Call (.Name x pp) (a :: es) [] pos) (tW T X.K E (mCallV ψ ps)) := by
  obtain ⟨f, fd, pn, ds, dvs, dws, n, φ, FO, hn, hm, hk, hb, hd, hw, rfl⟩ := C
  refine peM (pe_callSD FO (hr.mono hj) hg hm hk hb hd (E := WE E) (fun σ => passAt tk σ) ha hdb he hpl) ?_
  rintro σ H Q ⟨F, al, S, ρ, g, e, h⟩
  refine (tL.bind g e h).imp fun x H1 ⟨F1, al1, S1, w, m, r, h1⟩ => ?_
  split at h1
  · rename_i hnl
    exact spW_of hn (seen_good m.g) ((r.seen m.g hnl).append (hw _ _)) (view_sound m.g h1)
  · exact h1.elim
end
end DL

set_option Elab.async false
set_option linter.all false
set_option maxRecDepth 100000
set_option maxHeartbeats 4000000
/-! Wq: tuples whose object is known: index. -/
namespace DL
open PySem PySem.Spec L2

def mTpx (ms : Ml) : Me := fun ρ S => (ms ρ S).bind fun ws S => if ws.length ≤ limit then .ok (.tpx ws) S else .bad
def rTIx : V → List V → Hp → VK → Prop := fun x xs H Q => ∃ p o ys y j z, x = .ref p ∧ xs = [y] ∧ H p = some (.frz o (.tup ys)) ∧ flatV y = true ∧ ys.all flatV = true ∧ ys[j]? = some z ∧ eqV z y = true ∧ (∀ (m : Nat) (z' : V), m < j → ys[m]? = some z' → eqV z' y = false) ∧ Q (.int (j : Nat)) H
theorem mt_tix {X : Cx} : MtR X "tuple.index" rTIx := by
  intro pins s σ H x xs v us Q I rx rs h
  obtain ⟨p, o, ys, y, j, z, rfl, rfl, hq, fy, fa, hz, hzy, hno, q⟩ := h
  cases rx
  obtain ⟨u, rfl, ru⟩ := Vals.one rs
  obtain ⟨its, rv, tp, _⟩ := I.tuple (show SqT X.K H p ys from .inl (.inr ⟨o, hq⟩))
  obtain ⟨⟨cls, dd, dt, slo⟩, ho, hcl, n, hda⟩ := tp
  simp only at hcl hda
  subst hcl hda
  have hl := rv.length
  have hjl := (List.getElem?_eq_some_iff.mp hz).1
  have look : ∀ (m : Nat) (hm : m < its.toArray.size), ∃ t, ys[m]? = some t ∧ eqU y its.toArray[m] = eqV t y := fun m hm => by
    have hm2 : m < ys.length := by rw [hl]; simpa using hm
    obtain ⟨w, hw, rw⟩ := rv.get (i := m) (x := ys[m]) (by simp [hm2])
    refine ⟨ys[m], List.getElem?_eq_getElem hm2, ?_⟩
    have e1 : its.toArray[m] = w := by
      have := (List.getElem?_eq_some_iff.mp hw).2
      simpa using this
    rw [e1]
    exact eqU_of rw (List.all_eq_true.mp fa _ (List.getElem_mem hm2))
  refine call_meets PySem.F.slot_tuple_index ⟨_, ho, rfl⟩ PySem.F.entry_tuple_index (PySem.F.args_tuple_index_2 _ _) (TI.tuple_indexAt p its.toArray n dd slo u (eqU y) j (by simpa [hl] using hjl) ?_ ?_)
    ⟨ho, fun w hw => mem_eqAt ru fy rv fa w (by simpa using hw), ⟨.int (j : Nat), H, I.tok _, ⟨_, rfl⟩, q⟩⟩
  · obtain ⟨t, h1, h2⟩ := look j (by simpa [hl] using hjl)
    rw [h2]
    rw [hz] at h1; cases h1; exact hzy
  · intro m hm hmj
    obtain ⟨t, h1, h2⟩ := look m hm
    rw [h2]
    exact hno m t hmj h1
def idxR (x y : W) (S : Sto) : Res := match x with
  | .tpx ws => if flatW y && ws.all flatW then (match idxW y ws with | some j => .ok (.int (j : Nat)) S | none => .bad) else .bad
  | _ => .bad
def isTpx : W → Bool
  | .tpx _ => true
  | _ => false
def mIndex (a b : Me) : Me := fun ρ S => (a ρ S).bind fun x S => if isTpx x then (b ρ S).bind fun y S => idxR x y S else .bad
section
variable {X : Cx} {T : Tab} {E : WX} {pos pp : Pos} {a b c : Expr} {p q r : Me} {es : List Expr} {ps : Ml}
theorem w_tpx {k : Nat} (h : PA X es (tL T X.K E ps)) : PE X (.Tuple es k pos) (tW T X.K E (mTpx ps)) := by
  refine ⟨fun pins s σ H Q I h0 => ?_⟩
  obtain ⟨F, al, S, ρ, g, e, h0⟩ := h0
  refine wpAny_Tuple_spliced (thn (h.run pos pins s σ H _ I (tL.bind g e h0)) fun us s1 ⟨xs, H1, I1, rv, F1, al1, S1, ws, m, r, h1⟩ => ?_)
  split at h1
  · rename_i hl
    have hz : xs.length ≤ sizeLine := by rw [r.length, ← limit_eq]; exact hl
    refine ⟨by rw [← rv.length]; exact hz, ?_⟩
    have hf : H1 s1.heap.objs.size = none := I1.hok.fresh (Nat.le_refl _)
    have ho := Heap.get?_push_size s1.heap (o := { cls := .type "tuple", data := .seq us.toArray }) rfl
    obtain ⟨g2, p2⟩ := m.g.newF hf (.frz { cls := .type "tuple", data := .seq us.toArray } (.tup xs))
    refine ⟨.ref s1.heap.objs.size, _, I1.laid (t' := s1.toks) (fun b u e => Heap.get?_push_of_some _ e) (Nat.le_refl _) ?_, rfl, h1 _ _ _ _ p2 g2 (.tpx upd_same rfl (r.mono p2.ext p2.pre))⟩
    exact ⟨ho, hz, us, rv, ⟨_, ho, rfl, _, rfl⟩⟩
  · exact h1.elim
theorem w_index {apos : Pos} (ha : PE X a (tW T X.K E p)) (hb : PE X b (tW T X.K E q)) (hbase : attributeBase a "index" X.env (eval a X.env) = eval a X.env)
    (hfew : ((backTo pos (starEach [b] X.env)).all (fun x => !x.1) && (backToKw pos (keywordEach [] X.env)).all (fun x => x.1.isSome) && decide ([b].length + ([] : List Keyword).length + (if ([] : List Keyword).isEmpty then 0 else 1) < 30)) = true)
    (hline : (apos.endLine == pos.line) = true) (hs : starEach [b] X.env = (false, eval b X.env) :: starEach [] X.env) (hplain : (backTo pos (starEach [] X.env)).any (·.1) = false) :
    PE X (.Call (.Attribute a "index" apos) [b] [] pos) (tW T X.K E (mIndex p q)) := by
  refine ⟨fun pins s σ H Q I h0 => ?_⟩
  obtain ⟨F, al, S, ρ, g, e, h0⟩ := h0
  refine wpAny_Call_method_late hbase hfew hline rfl (thn (ha.run pins s σ H _ I (tW.bind g e h0)) fun v s1 ⟨x, H1, I1, r1, F1, al1, S1, w, m, r, h1⟩ => ?_)
  split at h1
  case isFalse => exact h1.elim
  cases r with
  | @tpx pa o xs ws hq hd hr =>
    cases r1
    have hq1 := m.g.sub _ _ hq
    obtain ⟨ho, hz, its, rv, o2, ho2, hc2, _⟩ := I1.hok pa _ hq1
    rw [ho] at ho2; cases ho2
    refine ⟨"tuple", "tuple.index", PySem.F.plainAttrs_tuple, PySem.F.slot_tuple_index, PySem.F.type_tuple_index, ⟨o, ho, hc2⟩, fun a e => ?_, ?_⟩
    · cases e; exact ⟨o, ho, hd⟩
    · have hA := (pa_cons hb pa_nil hs).run pos pins s1 σ H1 (fun vs H2 => rTIx (.ref pa) vs H2 Q) I1 ((tW.bind m.g m.e h1).imp fun y H2 ⟨F2, al2, S2, u, m2, r2, h2⟩ => (show rTIx (.ref pa) [y] H2 Q from by
        replace h2 : RQ T X.K E σ F2 al2 H2 (if flatW u && ws.all flatW then (match idxW u ws with | some j => .ok (.int (j : Nat)) S2 | none => .bad) else .bad) Q := h2
        split at h2
        · rename_i hf
          rw [Bool.and_eq_true] at hf
          split at h2
          · rename_i j hj
            obtain ⟨z, h3, h4, h5⟩ := idxW_some hj
            have hr2 := hr.post m2.p
            obtain ⟨v, h6, h7⟩ := hr2.get h3
            refine ⟨pa, o, xs, y, j, v, rfl, rfl, m2.g.sub _ _ (m2.p.ext _ _ hq), flat_v r2 hf.1, flat_all hr2 hf.2, h6, ?_, ?_, h2.val m2.g (.int _)⟩
            · rw [flat_eq h7 r2 (List.all_eq_true.mp hf.2 _ (List.mem_of_getElem? h3)) hf.1]; exact h4
            · intro mm z' hm hz'
              obtain ⟨zw, h8, h9⟩ := hr2.getV hz'
              rw [flat_eq h9 r2 (List.all_eq_true.mp hf.2 _ (List.mem_of_getElem? h8)) hf.1]
              exact h5 mm zw hm h8
          · exact h2.elim
        · exact h2.elim))
      rw [hs] at hA ⊢
      refine Calls.callWith_builtin (by show (false || (backTo pos (starEach [] X.env)).any (·.1)) = false; rw [hplain] <;> rfl) (Calls.evalArgs_plain ?_)
      exact thn hA fun us s2 ⟨vs, H2, I2, r2, q2⟩ => by
        obtain ⟨p0, o0, ys0, y0, j0, z0, e0, e1, rest⟩ := id q2
        exact mt_tix pins s2 σ H2 (.ref pa) vs (.ref pa) us Q I2 rfl r2 q2
  | _ => rename_i hw; cases hw
end
end DL

set_option Elab.async false
set_option linter.all false
set_option maxRecDepth 100000
set_option maxHeartbeats 4000000
/-! Wr: tools for the plain laws. -/
namespace DL
open PySem PySem.Spec L2

mutual
theorem W.eqv_refl : ∀ (n : Nat) (w : W), W.plain n w = true → W.eqv w w = true
  | _, .non, _ => rfl
  | _, .bl b, _ => by simp [W.eqv]
  | _, .int i, _ => by simp [W.eqv]
  | _, .str s, _ => by simp [W.eqv]
  | n + 1, .tup ws, h => W.eqvL_refl n ws h
  | n + 1, .lst ws, h => W.eqvL_refl n ws h
theorem W.eqvL_refl : ∀ (n : Nat) (ws : List W), W.plainL n ws = true → W.eqvL ws ws = true
  | _, [], _ => rfl
  | n, w :: ws, h => by
    rw [W.plainL, Bool.and_eq_true] at h
    show (W.eqv w w && W.eqvL ws ws) = true
    rw [W.eqv_refl n w h.1, W.eqvL_refl n ws h.2]; rfl
end
theorem cmpEq_refl {w : W} (h : W.plain 60 w = true) : cmpEq w w = some true := by
  unfold cmpEq
  rw [h, W.eqv_refl 60 w h]; rfl
theorem Fl.seq_seq (r : Fl) (a b : Ms) : r.seq (fun ρ S => (a ρ S).seq b) = (r.seq a).seq b := by cases r <;> rfl
theorem sSeq_seq (a b c : Ms) : sSeq (sSeq a b) c = sSeq a (sSeq b c) := funext fun ρ => funext fun S => (Fl.seq_seq (a ρ S) b c).symm
def Fl.envD : Fl → Env
  | .nx ρ _ => ρ
  | _ => []
/-- a for whose every turn ends on its feet, the same of the slots and the store holding -/
theorem forM_inv {tg : Tg} {b : Ms} (P : Env → Sto → Prop) : ∀ {xs : List W} {ρ : Env} {S : Sto}, P ρ S → (∀ x ∈ xs, ∀ ρ S, P ρ S → ∃ ρ1 ρ2 S2, bindTg tg x ρ = some ρ1 ∧ b ρ1 S = .nx ρ2 S2 ∧ P ρ2 S2) → ∃ ρ2 S2, forM tg b xs ρ S = .nx ρ2 S2 ∧ P ρ2 S2
  | [], ρ, S, h, _ => ⟨ρ, S, rfl, h⟩
  | x :: xs, ρ, S, h, k => by
    obtain ⟨ρ1, ρ2, S2, h1, h2, h3⟩ := k x (List.mem_cons_self ..) ρ S h
    obtain ⟨ρ3, S3, h4, h5⟩ := forM_inv P (xs := xs) h3 fun y hy => k y (List.mem_cons_of_mem _ hy)
    refine ⟨ρ3, S3, ?_, h5⟩
    unfold forM
    simp only [h1, h2]
    exact h4
/-- a comprehension whose turns all keep their value and leave the store alone -/
theorem compM_map {step : W → Sto → LRes} {f : W → W} {S : Sto} : ∀ {xs acc : List W}, (∀ x ∈ xs, step x S = .ok [f x] S) → compM step xs acc S = .ok (acc ++ xs.map f) S
  | [], acc, _ => by rw [List.map_nil, List.append_nil]; rfl
  | x :: xs, acc, h => by
    show (step x S).bindL _ = _
    rw [h x (List.mem_cons_self ..)]
    show compM step xs (acc ++ [f x]) S = _
    rw [compM_map fun y hy => h y (List.mem_cons_of_mem _ hy), List.map_cons, List.append_assoc]; rfl
theorem compM_filter {step : W → Sto → LRes} {f : W → List W} {S : Sto} : ∀ {xs acc : List W}, (∀ x ∈ xs, step x S = .ok (f x) S) → compM step xs acc S = .ok (acc ++ xs.flatMap f) S
  | [], acc, _ => by rw [List.flatMap_nil, List.append_nil]; rfl
  | x :: xs, acc, h => by
    show (step x S).bindL _ = _
    rw [h x (List.mem_cons_self ..)]
    show compM step xs (acc ++ f x) S = _
    rw [compM_filter fun y hy => h y (List.mem_cons_of_mem _ hy), List.flatMap_cons, List.append_assoc]
theorem allB_bls : ∀ bs : List Bool, allB (bs.map W.bl) = some bs
  | [] => rfl
  | b :: bs => by rw [List.map_cons, allB, allB_bls bs]; rfl
theorem nl_ints : ∀ ns : List Int, nlL (ns.map W.int) = true
  | [] => rfl
  | n :: ns => by rw [List.map_cons, nlL, nl_ints ns]; rfl
end DL

set_option Elab.async false
set_option linter.all false
set_option maxRecDepth 100000
set_option maxHeartbeats 4000000
/-! Ws: dicts whose keys are tuples of plain data, nested as they may be. -/
namespace DL
open PySem PySem.Spec L2 PyProof.Rows

def lookD (k : W) : List (W × W) → Option W
  | [] => none
  | p :: r => if W.eqv p.1 k then some p.2 else lookD k r
def putD (k v : W) (kvs : List (W × W)) : List (W × W) := if (lookD k kvs).isSome then kvs.map (fun p => if W.eqv p.1 k then (p.1, v) else p) else kvs ++ [(k, v)]
theorem keyOk_bad {n : Nat} {w : W} (h : W.keyOk n w = true) : (∃ ws m, w = .tup ws ∧ n = m + 1 ∧ W.keyOkL m ws = true) ∨ w = .non ∨ (∃ b, w = .bl b) ∨ (∃ i, w = .int i) ∨ ∃ x, w = .str x := by
  cases w with
  | tup ws => cases n with
    | zero => simp [W.keyOk] at h
    | succ m => exact .inl ⟨ws, m, rfl, rfl, h⟩
  | non => exact .inr (.inl rfl)
  | bl b => exact .inr (.inr (.inl ⟨b, rfl⟩))
  | int b => exact .inr (.inr (.inr (.inl ⟨b, rfl⟩)))
  | str b => exact .inr (.inr (.inr (.inr ⟨b, rfl⟩)))
  | lst _ => simp [W.keyOk] at h
  | ins _ _ => simp [W.keyOk] at h
  | loc _ => simp [W.keyOk] at h
  | tpx _ => simp [W.keyOk] at h
theorem eqv_toNL {n m : Nat} (f : ∀ a b : W, W.keyOk n a = true → W.keyOk m b = true → W.eqv a b = NestedKey.beq (W.toN a) (W.toN b)) : ∀ (a b : List W), W.keyOkL n a = true → W.keyOkL m b = true → W.eqvL a b = NestedKey.beqAll (W.toNL a) (W.toNL b)
  | [], [], _, _ => rfl
  | [], _ :: _, _, _ => rfl
  | _ :: _, [], _, _ => rfl
  | a :: as, b :: bs, h1, h2 => by
    simp only [W.keyOkL, Bool.and_eq_true] at h1 h2
    show (W.eqv a b && W.eqvL as bs) = (NestedKey.beq (W.toN a) (W.toN b) && NestedKey.beqAll (W.toNL as) (W.toNL bs))
    rw [f a b h1.1 h2.1, eqv_toNL f as bs h1.2 h2.2]
theorem eqv_toN : ∀ (n m : Nat) (a b : W), W.keyOk n a = true → W.keyOk m b = true → W.eqv a b = NestedKey.beq (W.toN a) (W.toN b) := by
  intro n
  induction n with
  | zero =>
    intro m a b h1 h2
    rcases keyOk_bad h1 with ⟨_, _, _, e, _⟩ | rfl | ⟨x, rfl⟩ | ⟨x, rfl⟩ | ⟨x, rfl⟩
    · cases e
    all_goals rcases keyOk_bad h2 with ⟨_, _, rfl, _, _⟩ | rfl | ⟨y, rfl⟩ | ⟨y, rfl⟩ | ⟨y, rfl⟩ <;> first | rfl | (cases x <;> cases y <;> rfl) | exact beq_eq_decide x y
  | succ n ih =>
    intro m a b h1 h2
    rcases keyOk_bad h1 with ⟨ws, n', rfl, e, hw⟩ | rfl | ⟨x, rfl⟩ | ⟨x, rfl⟩ | ⟨x, rfl⟩
    · cases e
      rcases keyOk_bad h2 with ⟨us, m', rfl, rfl, hu⟩ | rfl | ⟨y, rfl⟩ | ⟨y, rfl⟩ | ⟨y, rfl⟩
      · exact eqv_toNL (ih m') ws us hw hu
      all_goals rfl
    all_goals rcases keyOk_bad h2 with ⟨_, _, rfl, _, _⟩ | rfl | ⟨y, rfl⟩ | ⟨y, rfl⟩ | ⟨y, rfl⟩ <;> first | rfl | (cases x <;> cases y <;> rfl) | exact beq_eq_decide x y
theorem isKey_tup {w : W} (h : isKey w = true) : ∃ ws, w = .tup ws ∧ W.keyOkL 7 ws = true := by
  cases w with
  | tup ws => exact ⟨ws, rfl, h⟩
  | _ => simp [isKey] at h
theorem isKey_ok {w : W} (h : isKey w = true) : W.keyOk 8 w = true := by
  obtain ⟨ws, rfl, h⟩ := isKey_tup h
  exact h
theorem eqv_key {a b : W} (ha : isKey a = true) (hb : isKey b = true) : W.eqv a b = decide (W.toN a = W.toN b) := by
  rw [NestedKey.decide_eq]; exact eqv_toN 8 8 a b (isKey_ok ha) (isKey_ok hb)

section
variable {X : Cx} {pins : List (Addr × Obj)} {σ : L2.St} {H F : Hp} {s : Shared} {T : Tab} {al : List Addr}
theorem key_all {n : Nat} (f : ∀ (w : W) (v : V) (u : Value), Rw T X.K F al v w → W.keyOk n w = true → RelV v u → NestedIs s.heap (W.toN w) u ∧ (W.toN w).depth ≤ n) : ∀ (ws : List W) (vs : List V) (us : List Value), RwL T X.K F al vs ws → W.keyOkL n ws = true → Vals vs us → NestedAll s.heap (W.toNL ws) us ∧ NestedKey.depthAll (W.toNL ws) ≤ n
  | [], vs, us, r, h, rv => by cases r; cases rv; exact ⟨.nil, Nat.zero_le _⟩
  | w :: ws, vs, us, r, h, rv => by
    simp only [W.keyOkL, Bool.and_eq_true] at h
    cases r with
    | cons r t =>
      cases rv with
      | cons r1 t1 =>
        obtain ⟨a1, a2⟩ := f w _ _ r h.1 r1
        obtain ⟨b1, b2⟩ := key_all f ws _ _ t h.2 t1
        refine ⟨.cons a1 b1, ?_⟩
        show max (NestedKey.depth (W.toN w)) (NestedKey.depthAll (W.toNL ws)) ≤ n
        omega
theorem key_is (I : Inv X pins σ H s) (sf : Same F H) : ∀ (n : Nat) (w : W) (v : V) (u : Value), Rw T X.K F al v w → W.keyOk n w = true → RelV v u → NestedIs s.heap (W.toN w) u ∧ (W.toN w).depth ≤ n := by
  intro n
  induction n with
  | zero =>
    intro w v u r h rv
    rcases keyOk_bad h with ⟨_, _, _, e, _⟩ | rfl | ⟨x, rfl⟩ | ⟨x, rfl⟩ | ⟨x, rfl⟩
    · cases e
    · cases r; cases rv; exact ⟨.none, Nat.zero_le _⟩
    · cases r; cases rv; exact ⟨.bool rfl, Nat.zero_le _⟩
    · cases r; obtain ⟨t, rfl⟩ := rv; exact ⟨.int _ t, Nat.zero_le _⟩
    · cases r; obtain ⟨t, rfl⟩ := rv; exact ⟨.text _ t, Nat.zero_le _⟩
  | succ n ih =>
    intro w v u r h rv
    rcases keyOk_bad h with ⟨ws, n', rfl, e, hw⟩ | rfl | ⟨x, rfl⟩ | ⟨x, rfl⟩ | ⟨x, rfl⟩
    · cases e
      cases r with
      | @tup a _ _ q r =>
        obtain rfl : u = Value.ref a := rv
        obtain ⟨its, vs, is, _⟩ := seqB I (t := true) (sqT_mono sf q)
        obtain ⟨o, h1, h2, m, h3⟩ := is
        obtain ⟨k1, k2⟩ := key_all ih ws _ its r hw vs
        refine ⟨.tup h1 h2 h3 (by simpa using k1), ?_⟩
        show NestedKey.depthAll (W.toNL ws) + 1 ≤ n + 1
        omega
    · cases r; cases rv; exact ⟨.none, Nat.zero_le _⟩
    · cases r; cases rv; exact ⟨.bool rfl, Nat.zero_le _⟩
    · cases r; obtain ⟨t, rfl⟩ := rv; exact ⟨.int _ t, Nat.zero_le _⟩
    · cases r; obtain ⟨t, rfl⟩ := rv; exact ⟨.text _ t, Nat.zero_le _⟩
theorem key_at (I : Inv X pins σ H s) (sf : Same F H) {w : W} {a : Addr} (r : Rw T X.K F al (.ref a) w) (h : isKey w = true) : (nestedKind X.prog X.w).is s.heap (W.toN w) a := key_is I sf 8 w _ _ r (isKey_ok h) rfl

/-- us: what is known of the dict, xs: how it stands, kvs: the data -/
abbrev PX : List (NestedKey × Addr × V) → List (NestedKey × Addr × Value) → Prop := Paired (fun (p : NestedKey × Addr × V) (q : NestedKey × Addr × Value) => p.1 = q.1 ∧ p.2.1 = q.2.1 ∧ RelV p.2.2 q.2.2)
theorem dic_val {K : PySem.W.Frag} {k : W} (hk : isKey k = true) : ∀ {us : List (NestedKey × Addr × V)} {xs : List (NestedKey × Addr × Value)} {kvs : List (W × W)}, PX us xs → RwD T K F al us kvs →
    (lookD k kvs = none ∧ atKey xs (W.toN k) = none) ∨ ∃ w v p, lookD k kvs = some w ∧ atKey xs (W.toN k) = some p ∧ RelV v p.2 ∧ Rw T K F al v w
  | _, _, _, .nil, .nil => .inl ⟨rfl, rfl⟩
  | _, _, _, .cons (a := u) (b := x) p ps, .cons (b := q) c cs => by
    obtain ⟨h1, h2, h3, h4⟩ := c
    obtain ⟨p1, p2, p3⟩ := p
    have e : W.eqv q.1 k = decide (x.1 = W.toN k) := by rw [eqv_key h1 hk, ← h2, p1]
    unfold lookD atKey
    rw [List.find?_cons, e]
    by_cases hx : x.1 = W.toN k
    · rw [decide_eq_true hx]
      exact .inr ⟨q.2, u.2.2, x.2, by simp, by simp, p3, h4⟩
    · rw [decide_eq_false hx]
      exact dic_val hk ps cs
theorem dic_of (I : Inv X pins σ H s) (sf : Same F H) (hP : T.prg = X.prog) (hW : T.wld = X.w) {a : Addr} {us : List (NestedKey × Addr × V)} {kvs : List (W × W)} (ha : H a = some (DicO T.prg T.wld a us)) (r : RwD T X.K F al us kvs) :
    us.length ≤ sizeLine ∧ (a == sysModules) = false ∧ ∃ xs, PX us xs ∧ s.heap.DictOfH (nestedKind X.prog X.w) a xs := by
  obtain ⟨⟨z, y, o, es, ep, xs, q, h1, h2, h3, h4, h5⟩, h6, h7⟩ := I.hok a _ ha
  clear h6 h7
  rw [hP, hW] at h4
  refine ⟨z, y, xs, q, o, es, ep, h1, h2, h3, h4, ?_, h5⟩
  clear h4 h5 z ha h3
  intro x hx
  induction q generalizing kvs with
  | nil => cases hx
  | @cons u x' us' xs' c cs ih =>
    cases r with
    | cons d ds =>
      rcases List.mem_cons.mp hx with e | hx
      · subst e
        rw [← c.1, ← c.2.1, d.2.1]
        exact key_at I sf d.2.2.1 d.1
      · exact ih ds hx
theorem px_len : ∀ {us : List (NestedKey × Addr × V)} {xs : List (NestedKey × Addr × Value)}, PX us xs → us.length = xs.length := fun h => Paired.length h
def putU (k : NestedKey) (a : Addr) (v : V) (us : List (NestedKey × Addr × V)) : List (NestedKey × Addr × V) := if (us.find? fun u => decide (u.1 = k)).isSome then us.map (fun u => if u.1 = k then (u.1, u.2.1, v) else u) else us ++ [(k, a, v)]
theorem px_find {k : NestedKey} : ∀ {us : List (NestedKey × Addr × V)} {xs : List (NestedKey × Addr × Value)}, PX us xs → (us.find? fun u => decide (u.1 = k)).isSome = (atKey xs k).isSome
  | _, _, .nil => rfl
  | _, _, .cons (a := u) (b := x) p ps => by
    unfold atKey
    rw [List.find?_cons, List.find?_cons, p.1]
    by_cases hx : x.1 = k
    · rw [decide_eq_true hx]; simp
    · rw [decide_eq_false hx]
      have := px_find (k := k) ps
      simpa [atKey] using this
theorem px_map {k : NestedKey} {v : V} {u : Value} (rv : RelV v u) : ∀ {us : List (NestedKey × Addr × V)} {xs : List (NestedKey × Addr × Value)}, PX us xs → PX (us.map (fun u => if u.1 = k then (u.1, u.2.1, v) else u)) (xs.map (putAt k u))
  | _, _, .nil => .nil
  | _, _, .cons (a := z) (b := x) p ps => by
    refine .cons ?_ (px_map rv ps)
    unfold putAt
    dsimp only
    by_cases hx : x.1 = k
    · rw [if_pos (p.1.trans hx), if_pos hx]; exact ⟨p.1, p.2.1, rv⟩
    · rw [if_neg (fun e => hx (p.1.symm.trans e)), if_neg hx]; exact p
theorem px_app : ∀ {us us' : List (NestedKey × Addr × V)} {xs xs' : List (NestedKey × Addr × Value)}, PX us xs → PX us' xs' → PX (us ++ us') (xs ++ xs')
  | _, _, _, _, .nil, h => h
  | _, _, _, _, .cons p ps, h => .cons p (px_app ps h)
theorem px_put {k : NestedKey} {a : Addr} {v : V} {u : Value} (rv : RelV v u) {us : List (NestedKey × Addr × V)} {xs : List (NestedKey × Addr × Value)} (h : PX us xs) : PX (putU k a v us) (storedH xs k a u) := by
  unfold putU storedH
  rw [px_find h]
  by_cases q : (atKey xs k).isSome = true
  · rw [if_pos q, if_pos q]; exact px_map rv h
  · rw [if_neg q, if_neg q]; exact px_app h (.cons ⟨rfl, rfl, rv⟩ .nil)
theorem rd_find {K : PySem.W.Frag} {k : W} (hk : isKey k = true) : ∀ {us : List (NestedKey × Addr × V)} {kvs : List (W × W)}, RwD T K F al us kvs → (us.find? fun u => decide (u.1 = W.toN k)).isSome = (lookD k kvs).isSome
  | _, _, .nil => rfl
  | _, _, .cons (a := u) (b := q) c cs => by
    unfold lookD
    rw [List.find?_cons, eqv_key c.1 hk, ← c.2.1]
    by_cases hx : u.1 = W.toN k
    · rw [decide_eq_true hx]; simp
    · rw [decide_eq_false hx]
      simpa using rd_find hk cs
theorem rd_map {K : PySem.W.Frag} {k v : W} {x : V} (hk : isKey k = true) (rv : Rw T K F al x v) : ∀ {us : List (NestedKey × Addr × V)} {kvs : List (W × W)}, RwD T K F al us kvs → RwD T K F al (us.map (fun u => if u.1 = W.toN k then (u.1, u.2.1, x) else u)) (kvs.map (fun p => if W.eqv p.1 k then (p.1, v) else p))
  | _, _, .nil => .nil
  | _, _, .cons (a := u) (b := q) c cs => by
    refine .cons ?_ (rd_map hk rv cs)
    dsimp only
    rw [eqv_key c.1 hk, ← c.2.1]
    by_cases hx : u.1 = W.toN k
    · rw [if_pos hx, if_pos (decide_eq_true hx)]; exact ⟨c.1, c.2.1, c.2.2.1, rv⟩
    · rw [if_neg hx, if_neg (by simpa using hx)]; exact c
theorem rd_app {K : PySem.W.Frag} : ∀ {us us' : List (NestedKey × Addr × V)} {xs xs' : List (W × W)}, RwD T K F al us xs → RwD T K F al us' xs' → RwD T K F al (us ++ us') (xs ++ xs')
  | _, _, _, _, .nil, h => h
  | _, _, _, _, .cons p ps, h => .cons p (rd_app ps h)
theorem rd_put {K : PySem.W.Frag} {k v : W} {a : Addr} {x : V} (hk : isKey k = true) (rk : Rw T K F al (.ref a) k) (rv : Rw T K F al x v) {us : List (NestedKey × Addr × V)} {kvs : List (W × W)} (h : RwD T K F al us kvs) : RwD T K F al (putU (W.toN k) a x us) (putD k v kvs) := by
  unfold putU putD
  rw [rd_find hk h]
  by_cases q : (lookD k kvs).isSome = true
  · rw [if_pos q, if_pos q]; exact rd_map hk rv h
  · rw [if_neg q, if_neg q]; exact rd_app h (.cons ⟨hk, rfl, rk, rv⟩ .nil)
theorem putU_len (k : NestedKey) (a : Addr) (v : V) (us : List (NestedKey × Addr × V)) : (putU k a v us).length ≤ us.length + 1 := by
  unfold putU
  split
  · rw [List.length_map]; omega
  · rw [List.length_append]; exact Nat.le_refl _
theorem rd_len {K : PySem.W.Frag} {us : List (NestedKey × Addr × V)} {kvs : List (W × W)} (h : RwD T K F al us kvs) : us.length = kvs.length := Paired.length h
theorem dic_mk {P : Program} {w : World} {H : Hp} {h : Heap} {a : Addr} {us : List (NestedKey × Addr × V)} {xs : List (NestedKey × Addr × Value)} (z : us.length ≤ sizeLine) (y : (a == sysModules) = false) (q : PX us xs) (d : h.DictOfH (nestedKind P w) a xs) : ObjOk P w H h a (DicO P w a us) := by
  obtain ⟨o, es, ep, h1, h2, h3, h4, h5, h6⟩ := d
  exact ⟨⟨z, y, o, es, ep, xs, q, h1, h2, h3, h4, h6⟩, ⟨o, h1⟩, fun g1 g2 ⟨z, y, o, es, ep, xs, q, h1, h2, h3, h4, h6⟩ k => ⟨z, y, o, es, ep, xs, q, k o h1, h2, h3, h4, h6⟩⟩
end

/-! ### the rules -/
def rDIn (T : Tab) (K : PySem.W.Frag) (neg : Bool) : R2 := fun x y H Q => ∃ (F : Hp) (al : List Addr) (k : W) (b a : Addr) (us : List (NestedKey × Addr × V)) (kvs : List (W × W)), Same F H ∧ x = .ref b ∧ Rw T K F al (.ref b) k ∧ isKey k = true ∧ y = .ref a ∧ H a = some (DicO T.prg T.wld a us) ∧ RwD T K F al us kvs ∧
  Q (.bl (if neg then !(lookD k kvs).isSome else (lookD k kvs).isSome)) H
def rDGet (T : Tab) (K : PySem.W.Frag) : R2 := fun x y H Q => ∃ (F : Hp) (al : List Addr) (k w : W) (b a : Addr) (us : List (NestedKey × Addr × V)) (kvs : List (W × W)), Same F H ∧ y = .ref b ∧ Rw T K F al (.ref b) k ∧ isKey k = true ∧ x = .ref a ∧ H a = some (DicO T.prg T.wld a us) ∧ RwD T K F al us kvs ∧
  lookD k kvs = some w ∧ ∀ v, Rw T K F al v w → Q v H
section
variable {X : Cx} {T : Tab} {E : WX} {pos : Pos} {a b c : Expr} {p q r : Me}
theorem room_nk {k : Nat} (hr : Room k X.A) : (nestedKind X.prog X.w).room X.A.in1 := by
  have := hr.units
  show X.A.units + 1 + 8 < cLine
  omega
theorem op_din {k : Nat} (hr : Room k X.A) (hP : T.prg = X.prog) (hW : T.wld = X.w) : OpR X (compareOp .In) (rDIn T X.K false) := by
  intro pins s σ H x y v u Q I rx ry h
  obtain ⟨F, al, k, b, a, us, kvs, sf, rfl, rk, hk, rfl, ha, rd, hq⟩ := h
  cases rx; cases ry
  obtain ⟨z, y, xs, q, d⟩ := dic_of I sf hP hW ha rd
  refine wpAny_in_heap (room_nk hr) (key_at I sf rk hk) y d ?_
  have e : (atKey xs (W.toN k)).isSome = (lookD k kvs).isSome := by rw [← px_find q, rd_find hk rd]
  rw [e]
  exact ⟨.bl _, H, I.tok _, rfl, hq⟩
theorem op_dnotin {k : Nat} (hr : Room k X.A) (hP : T.prg = X.prog) (hW : T.wld = X.w) : OpR X (compareOp .NotIn) (rDIn T X.K true) := by
  intro pins s σ H x y v u Q I rx ry h
  obtain ⟨F, al, k, b, a, us, kvs, sf, rfl, rk, hk, rfl, ha, rd, hq⟩ := h
  cases rx; cases ry
  obtain ⟨z, y, xs, q, d⟩ := dic_of I sf hP hW ha rd
  refine wpAny_notIn_heap (room_nk hr) (key_at I sf rk hk) y d ?_
  have e : (atKey xs (W.toN k)).isSome = (lookD k kvs).isSome := by rw [← px_find q, rd_find hk rd]
  rw [e]
  exact ⟨.bl _, H, I.tok _, rfl, hq⟩
theorem ix_dget {k : Nat} (hr : Room k X.A) (hP : T.prg = X.prog) (hW : T.wld = X.w) : IxR X (rDGet T X.K) := by
  intro value slice pins s σ H x y v u Q I rx ry h hs
  obtain ⟨F, al, k, w, b, a, us, kvs, sf, rfl, rk, hk, rfl, ha, rd, hl, hq⟩ := h
  cases rx; cases ry
  obtain ⟨z, y, xs, q, d⟩ := dic_of I sf hP hW ha rd
  rcases dic_val hk q rd with ⟨e, _⟩ | ⟨w', v', p, e1, e2, e3, e4⟩
  · rw [e] at hl; cases hl
  · rw [e1] at hl
    cases hl
    exact tail_any d.typeIs slot_dict_getitem.lookup (wpAny_getItem_heap (room_nk hr) (key_at I sf rk hk) d e2 ⟨v', H, I.tok _, e3, hq _ e4⟩) hs
end
end DL

set_option Elab.async false
set_option linter.all false
set_option maxRecDepth 100000
set_option maxHeartbeats 4000000
/-! Wt: dicts in expressions and statements; while. -/
namespace DL
open PySem PySem.Spec L2 PyProof.Rows

def dicOf (S : Sto) : W → Option (List (W × W))
  | .loc n => match S[n]? with
    | some (.dic kvs) => some kvs
    | _ => none
  | _ => none
def mDNew : Me := fun _ S => newCellR (.dic []) S
def dinR (neg : Bool) (x y : W) (S : Sto) : Option Bool := match dicOf S y with
  | some kvs => if isKey x then some (if neg then !(lookD x kvs).isSome else (lookD x kvs).isSome) else none
  | none => none
def mDIn (neg : Bool) (a b : Me) : Me := fun ρ S => (a ρ S).bind fun x S => (b ρ S).bind fun y S => optR S ((dinR neg x y S).map .bl)
def bDIn (neg : Bool) (a b : Me) : Mb := fun ρ S => (a ρ S).bindB fun x S => (b ρ S).bindB fun y S => optB S (dinR neg x y S)
def dgetR (x k : W) (S : Sto) : Option W := match dicOf S x with
  | some kvs => if isKey k then lookD k kvs else none
  | none => none
def mDGet (a b : Me) : Me := fun ρ S => (a ρ S).bind fun x S => (b ρ S).bind fun y S => optR S (dgetR x y S)
def dputR (x k v : W) (S : Sto) : Option Sto := match x with
  | .loc n => match S[n]? with
    | some (.dic kvs) => if isKey k ∧ kvs.length < limit then some (S.set n (.dic (putD k v kvs))) else none
    | _ => none
  | _ => none
def sDPut (a b m : Me) : Ms := fun ρ S => (m ρ S).toS ρ fun v S => (a ρ S).toS ρ fun x S => (b ρ S).toS ρ fun i S => match dputR x i v S with
  | some S => .nx ρ S
  | none => .bad

section
variable {X : Cx} {T : Tab} {E : WX} {pos : Pos} {a b c : Expr} {p q r : Me}
theorem dicO_new {P : Program} {w : World} {H : Hp} (h : Heap) (hb : sysModules < h.objs.size) : ObjOk P w H (h.push { cls := .type "dict", data := .dict #[] }) h.objs.size (DicO P w h.objs.size []) :=
  dic_mk (xs := []) (Nat.zero_le _) (beq_eq_false_iff_ne.mpr (Ne.symm (Nat.ne_of_lt hb))) .nil (Heap.DictOfH.new h)
theorem w_dnew (hP : T.prg = X.prog) (hW : T.wld = X.w) : PE X (.Dict [] [] pos) (tW T X.K E mDNew) := by
  refine ⟨fun pins s σ H Q I h => ?_⟩
  obtain ⟨F, al, S, ρ, g, e, h⟩ := h
  have hn : H s.heap.objs.size = none := I.hok.fresh (Nat.le_refl _)
  refine wpAny_Dict_empty ⟨.ref s.heap.objs.size, _, I.laid (a := s.heap.objs.size) (o := DicO X.prog X.w s.heap.objs.size []) (t' := s.toks) (fun _ _ q => Heap.get?_push_of_some _ q) (Nat.le_refl _) (dicO_new s.heap I.big), rfl, ?_⟩
  obtain ⟨g1, p1, r1⟩ := g.newCell hn (o := DicO X.prog X.w s.heap.objs.size []) (c := .dic []) ⟨[], by rw [hP, hW]; exact upd_same, g.notF hn, .nil⟩
  exact h _ _ _ _ p1 g1 r1
theorem din_sound {K : PySem.W.Frag} {F : Hp} {al : List Addr} {H : Hp} {S : Sto} {neg : Bool} {x y : V} {u w : W} {k : Bool} {Q : VK} (g : Good T K F al S H) (rx : Rw T K F al x u) (ry : Rw T K F al y w) (e : dinR neg u w S = some k) (h : Q (.bl k) H) : rDIn T K neg x y H Q := by
  unfold dinR dicOf at e
  split at e
  · rename_i kvs hd
    split at hd
    · rename_i n
      split at hd
      · rename_i kvs' hn
        cases hd
        split at e
        · rename_i hk
          cases e
          cases ry with
          | @loc pa _ hl =>
            obtain ⟨us, h1, h2, h3⟩ := g.cell n pa _ hl hn
            obtain ⟨ws, rfl, _⟩ := isKey_tup hk
            cases rx with
            | tup q r => exact ⟨F, al, .tup ws, _, pa, us, kvs, g.sub, rfl, .tup q r, hk, rfl, h1, h3, h⟩
        · cases e
      · cases hd
    · cases hd
  · cases e
theorem w_din {k : Nat} (hr : Room k X.A) (hP : T.prg = X.prog) (hW : T.wld = X.w) (ha : PE X a (tW T X.K E p)) (hb : PE X b (tW T X.K E q)) (hm : behindInMarks .In b = false) : PE X (.Compare a [.In] [b] pos) (tW T X.K E (mDIn false p q)) := by
  refine peM (pe_cmpR (op_din (T := T) hr hP hW) ha hb hm) ?_
  rintro σ H Q ⟨F, al, S, ρ, g, e, h⟩
  refine (tW.bind g e h).imp fun x H1 ⟨F1, al1, S1, w, m, r, h1⟩ => ?_
  refine (tW.bind m.g m.e h1).imp fun y H2 ⟨F2, al2, S2, u, m2, r2, h2⟩ => ?_
  obtain ⟨z, e1, h3⟩ := optR_some h2
  rw [Option.map_eq_some_iff] at e1
  obtain ⟨k, e1, rfl⟩ := e1
  exact din_sound m2.g (r.post m2.p) r2 e1 (h3.val m2.g (.bl _))
theorem w_dnotin {k : Nat} (hr : Room k X.A) (hP : T.prg = X.prog) (hW : T.wld = X.w) (ha : PE X a (tW T X.K E p)) (hb : PE X b (tW T X.K E q)) (hm : behindInMarks .NotIn b = false) : PE X (.Compare a [.NotIn] [b] pos) (tW T X.K E (mDIn true p q)) := by
  refine peM (pe_cmpR (op_dnotin (T := T) hr hP hW) ha hb hm) ?_
  rintro σ H Q ⟨F, al, S, ρ, g, e, h⟩
  refine (tW.bind g e h).imp fun x H1 ⟨F1, al1, S1, w, m, r, h1⟩ => ?_
  refine (tW.bind m.g m.e h1).imp fun y H2 ⟨F2, al2, S2, u, m2, r2, h2⟩ => ?_
  obtain ⟨z, e1, h3⟩ := optR_some h2
  rw [Option.map_eq_some_iff] at e1
  obtain ⟨k, e1, rfl⟩ := e1
  exact din_sound m2.g (r.post m2.p) r2 e1 (h3.val m2.g (.bl _))
theorem b_din {k : Nat} (hr : Room k X.A) (hP : T.prg = X.prog) (hW : T.wld = X.w) (ha : PE X a (tW T X.K E p)) (hb : PE X b (tW T X.K E q)) (hm : behindInMarks .In b = false) : PT X (.Compare a [.In] [b] pos) (DL.tB T X.K E (bDIn false p q)) := by
  refine ptM (pt_cmpR (op_din (T := T) hr hP hW) ha hb hm) ?_
  rintro σ H Q ⟨F, al, S, ρ, g, e, h⟩
  refine (tW.bindB g e h).imp fun x H1 ⟨F1, al1, S1, w, m, r, h1⟩ => ?_
  refine (tW.bindB m.g m.e h1).imp fun y H2 ⟨F2, al2, S2, u, m2, r2, h2⟩ => ?_
  cases e1 : dinR false w u S2 with
  | none => rw [e1] at h2; exact h2.elim
  | some k => rw [e1] at h2; exact din_sound m2.g (r.post m2.p) r2 e1 ⟨k, rfl, h2 _ _ _ Post.refl m2.g⟩
theorem b_dnotin {k : Nat} (hr : Room k X.A) (hP : T.prg = X.prog) (hW : T.wld = X.w) (ha : PE X a (tW T X.K E p)) (hb : PE X b (tW T X.K E q)) (hm : behindInMarks .NotIn b = false) : PT X (.Compare a [.NotIn] [b] pos) (DL.tB T X.K E (bDIn true p q)) := by
  refine ptM (pt_cmpR (op_dnotin (T := T) hr hP hW) ha hb hm) ?_
  rintro σ H Q ⟨F, al, S, ρ, g, e, h⟩
  refine (tW.bindB g e h).imp fun x H1 ⟨F1, al1, S1, w, m, r, h1⟩ => ?_
  refine (tW.bindB m.g m.e h1).imp fun y H2 ⟨F2, al2, S2, u, m2, r2, h2⟩ => ?_
  cases e1 : dinR true w u S2 with
  | none => rw [e1] at h2; exact h2.elim
  | some k => rw [e1] at h2; exact din_sound m2.g (r.post m2.p) r2 e1 ⟨k, rfl, h2 _ _ _ Post.refl m2.g⟩
theorem w_dget {k : Nat} (hr : Room k X.A) (hP : T.prg = X.prog) (hW : T.wld = X.w) (ha : PE X a (tW T X.K E p)) (hb : PE X b (tW T X.K E q)) (hs : PlainIx b) : PE X (.Subscript a b pos) (tW T X.K E (mDGet p q)) := by
  refine peM (pe_ix (ix_dget (T := T) hr hP hW) ha hb hs) ?_
  rintro σ H Q ⟨F, al, S, ρ, g, e, h⟩
  refine (tW.bind g e h).imp fun x H1 ⟨F1, al1, S1, w, m, r, h1⟩ => ?_
  refine (tW.bind m.g m.e h1).imp fun y H2 ⟨F2, al2, S2, u, m2, r2, h2⟩ => ?_
  obtain ⟨z, e1, h3⟩ := optR_some h2
  replace r := r.post m2.p
  unfold dgetR dicOf at e1
  split at e1
  · rename_i kvs hd
    split at hd
    · rename_i n
      split at hd
      · rename_i kvs' hn
        cases hd
        split at e1
        · rename_i hk
          cases r with
          | @loc pa _ hl =>
            obtain ⟨us, h1, h2, h4⟩ := m2.g.cell _ pa _ hl hn
            obtain ⟨ws, rfl, _⟩ := isKey_tup hk
            cases r2 with
            | tup q r => exact ⟨F2, al2, .tup ws, z, _, pa, us, kvs, m2.g.sub, rfl, .tup q r, hk, rfl, h1, h4, e1, fun v rv => h3.val m2.g rv⟩
        · cases e1
      · cases hd
    · cases hd
  · cases e1
def rDSet (T : Tab) (K : PySem.W.Frag) : TSet := fun o i v H Q => ∃ (F : Hp) (al : List Addr) (k : W) (b a : Addr) (us : List (NestedKey × Addr × V)) (kvs : List (W × W)), Same F H ∧ i = .ref b ∧ Rw T K F al (.ref b) k ∧ isKey k = true ∧ o = .ref a ∧ H a = some (DicO T.prg T.wld a us) ∧ RwD T K F al us kvs ∧
  us.length < sizeLine ∧ Q (upd H a (DicO T.prg T.wld a (putU (W.toN k) b v us)))
theorem set_dic {k : Nat} (hr : Room k X.A) (hP : T.prg = X.prog) (hW : T.wld = X.w) : PSet X (rDSet T X.K) := by
  intro pins s σ H o i v ov iv u Q I ro ri rv h
  obtain ⟨F, al, k, b, a, us, kvs, sf, rfl, rk, hk, rfl, ha, rd, hl, hq⟩ := h
  cases ro; cases ri
  obtain ⟨z, y, xs, q, d⟩ := dic_of I sf hP hW ha rd
  have hz : xs.length ≤ sizeLine := by rw [← px_len q]; exact z
  refine wpAny_setItem_heap (hsz := hz) (room_nk hr) (key_at I sf rk hk) d fun h' dd' hs => ?_
  obtain ⟨ob, es, ep, e1, e2⟩ := id dd'
  have hl2 := putU_len (W.toN k) b v us
  refine ⟨upd H a (DicO T.prg T.wld a (putU (W.toN k) b v us)), d_write I (by rw [ha]; exact True.intro) hs ⟨ob, e1⟩ ?_, hq⟩
  rw [hP, hW]
  exact dic_mk (by omega) y (px_put rv q) dd'
end
section
variable {X : Cx} {T : Tab} {E : WX} {pos : Pos} {a b c tg : Expr} {p q r : Me} {bp : Mb} {bd : List Stmt} {m : Ms}
theorem s_dput {k : Nat} {iv : Expr} {tpos : Pos} (hr : Room k X.A) (hP : T.prg = X.prog) (hW : T.wld = X.w) (ha : PE X a (tW T X.K E p)) (hb : PE X b (tW T X.K E q)) (hv : PE X iv (tW T X.K E r)) (hs : swapsWithSole [.Subscript a b tpos] iv pos.line X.env = pure false) (hw : swappedStores [.Subscript a b tpos] iv X.env = pure none) (h1 : (assignEach [.Subscript a b tpos] X.env).map (·.2) = [assign (.Subscript a b tpos) X.env])
    (h2 : ∀ v, assign (.Subscript a b tpos) X.env v = (do
      let ov ← holding [v] (eval a X.env)
      let iv ← holding [v, ov] (eval b X.env)
      standAt tpos
      holding [v, ov, iv] (setItem ov iv v)
      release [v, ov, iv] [])) : PS X (.Assign [.Subscript a b tpos] iv pos) (tS T X.K E (sDPut p q r)) := by
  refine psM (ps_asg hv (pg_sub ha hb (set_dic (T := T) hr hP hW) h2) hs hw h1) ?_
  rintro D σ H ⟨F, al, S, ρ, g, e, h⟩
  refine (tW.toS g e h).imp fun v H1 ⟨F1, al1, S1, vw, m, rv, h1⟩ => ?_
  refine (tW.toS m.g m.e h1).imp fun x H2 ⟨F2, al2, S2, xw, m2, rx, h2⟩ => ?_
  refine (tW.toS m2.g m2.e h2).imp fun i H3 ⟨F3, al3, S3, iw, m3, ri, h3⟩ => ?_
  cases q : dputR xw iw vw S3 with
  | none => simp only [q] at h3; exact h3.elim
  | some S4 =>
    simp only [q] at h3
    unfold dputR at q
    split at q
    · rename_i n
      split at q
      · rename_i kvs hn
        split at q
        · rename_i hk
          cases q
          replace rx := rx.post m3.p
          cases rx with
          | @loc pa _ hl =>
            obtain ⟨us, h4, h5, h6⟩ := m3.g.cell _ pa _ hl hn
            obtain ⟨hk, hlen⟩ := hk
            obtain ⟨ws, rfl, _⟩ := isKey_tup hk
            cases ri with
            | tup q r =>
              rename_i ka xs
              refine ⟨F3, al3, .tup ws, ka, pa, us, kvs, m3.g.sub, rfl, .tup q r, hk, rfl, h4, h6, by rw [rd_len h6, ← limit_eq]; exact hlen, ?_⟩
              obtain ⟨g1, p1⟩ := m3.g.setCell (o := DicO T.prg T.wld pa (putU (W.toN (.tup ws)) ka v us)) (c := .dic (putD (.tup ws) vw kvs)) hl h5 ⟨_, upd_same, h5, rd_put hk (.tup q r) ((rv.post m2.p).post m3.p) h6⟩
              exact h3 _ _ _ _ p1 g1 (m3.e.post p1)
        · cases q
      · cases q
    · cases q
theorem s_while {n : Nat} (hp : PassesOwn (model X.prog X.w) X.A X.env X.xe) (hc : PT X c (DL.tB T X.K E bp)) (hb : PSs X bd (tS T X.K E m)) : PS X (.While c bd [] pos) (tS T X.K E (sWhile n bp m)) := by
  refine psM (ps_while hp hc hb) ?_
  rintro D σ H ⟨F, al, S, ρ, g, e, h⟩
  refine ⟨fun k σ2 H2 => ∃ F2 al2 S2 ρ2, Post F al H F2 al2 H2 ∧ Good T X.K F2 al2 S2 H2 ∧ EnvOk T X.K F2 al2 σ2 ρ2 ∧ FQ T X.K E D F2 al2 H2 (whileM bp m k ρ2 S2), ⟨n, F, al, S, ρ, Post.refl, g, e, h⟩, ?_⟩
  rintro k σ2 H2 ⟨F2, al2, S2, ρ2, p2, g2, e2, h2⟩
  cases k with
  | zero => exact h2.elim
  | succ k =>
    refine (tB.toS g2 e2 h2).imp fun b H3 ⟨F3, al3, S3, m3, h3⟩ => ?_
    cases b with
    | false => exact h3.now m3.g m3.e
    | true =>
      simp only [if_true] at h3
      refine ⟨fun σ4 H4 => ∃ F4 al4 S4 ρ4, Post F al H F4 al4 H4 ∧ Good T X.K F4 al4 S4 H4 ∧ EnvOk T X.K F4 al4 σ4 ρ4 ∧ FQ T X.K E D F4 al4 H4 (whileM bp m k ρ4 S4), fun σ4 H4 hh => ⟨k, Nat.lt_succ_self k, hh⟩, ?_⟩
      refine ⟨F3, al3, S3, ρ2, m3.g, m3.e, ?_⟩
      have p3 := p2.trans m3.p
      cases hm : m ρ2 S3 with
      | nx ρ5 S5 =>
        simp only [hm] at h3
        exact fun σ5 F5 al5 H5 p5 g5 e5 => ⟨F5, al5, S5, ρ5, p3.trans p5, g5, e5, FQ.post p5 h3⟩
      | ct ρ5 S5 =>
        simp only [hm] at h3
        exact fun σ5 F5 al5 H5 p5 g5 e5 => ⟨F5, al5, S5, ρ5, p3.trans p5, g5, e5, FQ.post p5 h3⟩
      | bk ρ5 S5 =>
        simp only [hm] at h3
        exact fun σ5 F5 al5 H5 p5 g5 e5 => h3 σ5 F5 al5 H5 p5 g5 e5
      | ret w S5 =>
        simp only [hm] at h3
        exact h3
      | exc x ρ5 S5 =>
        simp only [hm] at h3
        exact h3
      | bad => simp only [hm] at h3; exact h3.elim
end
end DL

set_option Elab.async false
set_option linter.all false
set_option maxRecDepth 100000
set_option maxHeartbeats 4000000
/-! Wu: instances whose lists are frozen behind __init__; methods of instances that are data. -/
namespace DL
open PySem PySem.Spec L2 PyProof.Rows

/-- a thing as data for ever -/
def frzW (S : Sto) : W → Option W
  | .loc n => match S[n]? with
    | some (.lst ws) => if nlL ws then some (.lst ws) else none
    | some (.frz w) => if w.nl then some w else none
    | _ => none
  | w => if w.nl then some w else none
def frzFs (S : Sto) : List (Nat × W) → Option (List (Nat × W))
  | [] => some []
  | (i, w) :: fs => match frzW S w with
    | some u => (frzFs S fs).map fun us => (i, u) :: us
    | none => none
theorem frzW_nl {S : Sto} {w u : W} (h : frzW S w = some u) : u.nl = true := by
  unfold frzW at h
  split at h
  · split at h
    · split at h
      · rename_i hn; cases h; exact hn
      · cases h
    · split at h
      · rename_i hn; cases h; exact hn
      · cases h
    · cases h
  · split at h
    · rename_i hn; cases h; exact hn
    · cases h
section
variable {T : Tab} {K : PySem.W.Frag} {F F' : Hp} {al al' : List Addr} {H H' : Hp} {S S' : Sto}
/-- S', where some lists of S are frozen, the same for what is data for ever -/
def Frz (S S' : Sto) : Prop := (∀ w u, frzW S w = some u → frzW S' w = some u) ∧ ∀ (n : Nat) d fs, S[n]? = some (.obj d fs) → S'[n]? = some (.obj d fs)
theorem freeze_one (g : Good T K F al S H) {v : V} {w u : W} (r : Rw T K F al v w) (h : frzW S w = some u) : ∃ F' S', Good T K F' al S' H ∧ Post F al H F' al H ∧ Rw T K F' al v u ∧ Frz S S' := by
  have same : ∀ w u, frzW S w = some u → (∀ n, w ≠ .loc n) → u = w := fun w u h hn => by
    unfold frzW at h
    split at h
    · exact absurd rfl (hn _)
    · split at h
      · cases h; rfl
      · cases h
  cases r with
  | @loc a n ha =>
    unfold frzW at h
    cases hc : S[n]? with
    | none => simp [hc] at h
    | some c =>
      have cl := g.cell n a c ha hc
      cases c with
      | lst ws =>
        simp only [hc] at h
        split at h
        · rename_i hn
          cases h
          obtain ⟨xs, h1, h2, h3⟩ := cl
          have s1 : Same F (upd F a (.lst xs)) := fun b u e => by rw [upd_ne (ne_of_none e h2)]; exact e
          have hw : Rw T K (upd F a (.lst xs)) al (.ref a) (.lst ws) := .lst (SqL.of upd_same) (h3.mono s1 (Pre.refl _))
          obtain ⟨g1, p1⟩ := g.freeze ha h2 h1 hw
          refine ⟨_, _, g1, p1, hw, fun w u e => ?_, fun m d fs e => ?_⟩
          · unfold frzW at e ⊢
            split at e
            · rename_i m
              by_cases hm : n = m
              · subst hm
                rw [List.getElem?_set_self (List.getElem?_eq_some_iff.mp hc).1]
                simp only [hc] at e
                rw [if_pos hn] at e
                cases e
                show (if W.nl (W.lst ws) = true then some (W.lst ws) else none) = _
                rw [if_pos (show W.nl (W.lst ws) = true from hn)]
              · rw [List.getElem?_set_ne hm]
                exact e
            · exact e
          · by_cases hm : n = m
            · subst hm; rw [hc] at e; cases e
            · rw [List.getElem?_set_ne hm]; exact e
        · cases h
      | frz w =>
        simp only [hc] at h
        split at h
        · cases h
          exact ⟨F, S, g, Post.refl, cl, fun _ _ e => e, fun _ _ _ e => e⟩
        · cases h
      | _ => simp [hc] at h
  | non => rw [same _ _ h (fun _ e => nomatch e)]; exact ⟨F, S, g, Post.refl, .non, fun _ _ e => e, fun _ _ _ e => e⟩
  | bl b => rw [same _ _ h (fun _ e => nomatch e)]; exact ⟨F, S, g, Post.refl, .bl b, fun _ _ e => e, fun _ _ _ e => e⟩
  | int b => rw [same _ _ h (fun _ e => nomatch e)]; exact ⟨F, S, g, Post.refl, .int b, fun _ _ e => e, fun _ _ _ e => e⟩
  | str b => rw [same _ _ h (fun _ e => nomatch e)]; exact ⟨F, S, g, Post.refl, .str b, fun _ _ e => e, fun _ _ _ e => e⟩
  | tup a b => rw [same _ _ h (fun _ e => nomatch e)]; exact ⟨F, S, g, Post.refl, .tup a b, fun _ _ e => e, fun _ _ _ e => e⟩
  | lst a b => rw [same _ _ h (fun _ e => nomatch e)]; exact ⟨F, S, g, Post.refl, .lst a b, fun _ _ e => e, fun _ _ _ e => e⟩
  | ins a b => rw [same _ _ h (fun _ e => nomatch e)]; exact ⟨F, S, g, Post.refl, .ins a b, fun _ _ e => e, fun _ _ _ e => e⟩
  | tpx a d b => rw [same _ _ h (fun _ e => nomatch e)]; exact ⟨F, S, g, Post.refl, .tpx a d b, fun _ _ e => e, fun _ _ _ e => e⟩
theorem frzFs_mono (z : Frz S S') : ∀ {fs us : List (Nat × W)}, frzFs S fs = some us → frzFs S' fs = some us
  | [], us, h => h
  | (i, w) :: fs, us, h => by
    unfold frzFs at h ⊢
    cases e : frzW S w with
    | none => simp [e] at h
    | some u =>
      simp only [e] at h
      rw [Option.map_eq_some_iff] at h
      obtain ⟨vs, h1, rfl⟩ := h
      rw [z.1 _ _ e, frzFs_mono z h1]
      rfl
theorem freeze_all : ∀ {fs us : List (Nat × W)} {gs : List (Str × V)} {F : Hp} {S : Sto}, Good T K F al S H → RwF T K F al gs fs → frzFs S fs = some us → ∃ F' S', Good T K F' al S' H ∧ Post F al H F' al H ∧ RwF T K F' al gs us ∧ nlF us = true ∧ ∀ (n : Nat) d fs, S[n]? = some (.obj d fs) → S'[n]? = some (.obj d fs)
  | [], us, gs, F, S, g, r, h => by
    cases r; cases h
    exact ⟨F, S, g, Post.refl, .nil, rfl, fun _ _ _ e => e⟩
  | (i, w) :: fs, us, gs, F, S, g, r, h => by
    unfold frzFs at h
    cases e : frzW S w with
    | none => simp [e] at h
    | some u =>
      simp only [e] at h
      rw [Option.map_eq_some_iff] at h
      obtain ⟨vs, h1, rfl⟩ := h
      cases r with
      | cons l r1 r2 =>
        obtain ⟨F1, S1, g1, p1, q1, z1⟩ := freeze_one g r1 e
        obtain ⟨F2, S2, g2, p2, q2, n2, z2⟩ := freeze_all g1 (r2.mono p1.ext p1.pre) (frzFs_mono z1 h1)
        refine ⟨F2, S2, g2, p1.trans p2, .cons l (q1.post p2) q2, ?_, fun n d fs e => z2 n d fs (z1.2 n d fs e)⟩
        show (u.nl && nlF vs) = true
        rw [frzW_nl e, n2]; rfl
end
/-- C(..): __init__ at a new instance; all it holds is frozen behind it -/
def makeZR (c : Nat) (ψ : Fn) (ws : List W) (S : Sto) : Res := match ψ (.loc 0 :: ws) [.obj c []] with
  | .ok .non S' => match (S' : List Cell)[0]? with
    | some (Cell.obj d fs) => match frzFs S' fs with
      | some us => if d = c then .ok (.ins c us) S else .bad
      | none => .bad
    | _ => .bad
  | .ok _ _ => .bad
  | .exc x _ => if x.nl then .exc x S else .bad
  | .bad => .bad
def mMakeZ (c : Nat) (ψ : Fn) (ms : Ml) : Me := fun ρ S => (ms ρ S).bind fun ws S => if nlL (ws.map (derefF S)) then makeZR c ψ (ws.map (derefF S)) S else .bad
section
variable {X : Cx} {T : Tab} {E : WX} {pos : Pos} {a b c : Expr} {p q r : Me} {es : List Expr} {ps : Ml} {bp bq br : Mb}
theorem w_makeZ {k j cc : Nat} {x : Str} {pp : Pos} {ψ : Fn} {Ec : XK} (C : MakeF T X.prog X.w X.K X.mg X.base k x cc ψ) (hr : Room j X.A) (hj : k + 1 ≤ j) (hg : Gl X x) (tk : Takes X fun c d _ H => Ec c d H) (ha : PA X (a :: es) (tL T X.K (fun c d _ H => Ec c d H) ps)) (hdb : (x == ("__debug__" : Str)) = false)
    (he : starEach (a :: es) X.env = (false, eval a X.env) :: starEach es X.env) (hpl : (backTo pos (starEach es X.env)).any (·.1) = false) : PE X (.Call (.Name x pp) (a :: es) [] pos) (tW T X.K (fun c d _ H => Ec c d H) (mMakeZ cc ψ ps)) := by
  obtain ⟨f, fd, pn, ds, dvs, dws, n, φ, FO, hn, hm, hM, hb, hd, hw, rfl⟩ := C
  refine peM (pe_make hM FO (hr.mono hj) hg hm hb hd (passes_call tk fun _ _ _ _ h => h) ha hdb he hpl) ?_
  rintro σ H Q ⟨F, al, S, ρ, g, e, h⟩
  refine (tL.bind g e h).imp fun vs H1 ⟨F1, al1, S1, ws, m, r, h1⟩ => ?_
  intro x dx hx hdx hne
  split at h1
  · rename_i hnl
    obtain ⟨gs, _⟩ := m.g.bare.side hdx (.own x)
    have hx2 : upd H1 dx (.own x) x = none := by rw [upd_ne (Ne.symm hne)]; exact hx
    obtain ⟨g2, p2, r2⟩ := gs.newCell hx2 (o := .ins (T.c cc) dx []) (c := .obj cc []) ⟨dx, [], upd_same, m.g.notF hx, .nil⟩
    have sm : Same H1 (upd (upd H1 dx (.own x)) x (.ins (T.c cc) dx [])) := fun b u eb => by
      rw [upd_ne (ne_of_none eb hx), upd_ne (ne_of_none eb hdx)]; exact eb
    have hbe : ∀ b ∈ ([] ++ [x] : List Addr), H1 b = none := fun b hb => by
      have : b = x := by simpa using hb
      rw [this]; exact hx
    refine spW_of (E := fun c d _ H => Ec c d H) (σ := σ) hn g2 (.cons r2 (((r.derefF m.g).nl hnl).append (hw _ _))) ?_
    unfold makeZR at h1
    show RQ T X.K (fun c d _ H => Ec c d H) σ F1 ([] ++ [x]) _ (φ (.loc 0 :: (ws.map (derefF S1) ++ dws)) [.obj cc []]) _
    replace h1 : RQ T X.K (fun c d _ H => Ec c d H) σ F1 al1 H1 (match φ (.loc 0 :: (ws.map (derefF S1) ++ dws)) [.obj cc []] with
      | .ok .non S' => match (S' : List Cell)[0]? with
        | some (Cell.obj d fs) => match frzFs S' fs with
          | some us => if d = cc then .ok (.ins cc us) S1 else .bad
          | none => .bad
        | _ => .bad
      | .ok _ _ => .bad
      | .exc x _ => if x.nl then .exc x S1 else .bad
      | .bad => .bad) Q := h1
    cases e1 : φ (.loc 0 :: (ws.map (derefF S1) ++ dws)) [.obj cc []] with
    | bad => rw [e1] at h1; exact h1.elim
    | exc z S' =>
      rw [e1] at h1
      replace h1 : RQ T X.K (fun c d _ H => Ec c d H) σ F1 al1 H1 (if z.nl then .exc z S1 else .bad) Q := h1
      split at h1
      · rename_i hz
        intro c d F' al' H' p g' rz
        obtain ⟨a1, b1⟩ := m.g.frame sm hbe p g'
        exact h1 c d F' al1 H' b1 a1 (rz.nl hz)
      · exact h1.elim
    | ok v S' =>
      rw [e1] at h1
      cases v with
      | non =>
        replace h1 : RQ T X.K (fun c d _ H => Ec c d H) σ F1 al1 H1 (match (S' : List Cell)[0]? with
          | some (Cell.obj d fs) => match frzFs S' fs with
            | some us => if d = cc then .ok (.ins cc us) S1 else .bad
            | none => .bad
          | _ => .bad) Q := h1
        split at h1
        · rename_i d fs e2
          split at h1
          · rename_i us e3
            split at h1
            · rename_i hdf
              subst hdf
              intro u F' al' H' p g' ru
              cases ru
              refine ⟨rfl, ?_⟩
              have hx0 : al'[0]? = some x := p.pre 0 x rfl
              obtain ⟨dx2, gs2, h5, h6, h7⟩ := g'.cell 0 x _ hx0 e2
              obtain ⟨F3, S3, g3, p3, q3, n3, z3⟩ := freeze_all g' h7 e3
              obtain ⟨dx4, gs4, i5, i6, i7⟩ := g3.cell 0 x _ hx0 (z3 0 _ _ e2)
              rw [h5] at i5
              cases i5
              have s1 : Same F3 (upd F3 x (.ins (T.c d) dx2 gs2)) := fun b u e => by rw [upd_ne (ne_of_none e i6)]; exact e
              have hw2 : ∀ al, Rw T X.K (upd F3 x (.ins (T.c d) dx2 gs2)) al (.ref x) (.ins d us) := fun al => .ins upd_same ((q3.nl n3).mono s1 (Pre.refl _))
              obtain ⟨a1, a2⟩ := g3.freeze hx0 i6 h5 (hw2 _)
              obtain ⟨a3, b3⟩ := m.g.frame sm hbe ((p.trans p3).trans a2) a1
              exact h1 _ _ _ _ b3 a3 (hw2 _)
            · exact h1.elim
          · exact h1.elim
        · exact h1.elim
      | _ => exact h1.elim
  · exact h1.elim
/-- a method by its class and name -/
def MethF (T : Tab) (P : Program) (w : World) (K : PySem.W.Frag) (mg : Str → Option Value) (base : Heap) (k : Nat) (c : Nat) (mn : Str) (ψ : Fn) : Prop :=
  ∃ (f : Addr) (fd : FuncData) (pn : List Str) (ds : List Value) (dvs : List V) (dws : List W) (n : Nat) (φ : Fn), FnOk P w K mg base (L2.CX P w) k f fd pn (spW T K n φ) ∧ TakesN n φ ∧ Cls K (T.c c) ∧ Meth K (T.c c) mn f ∧ mn ∉ T.fld ∧ Binds K fd pn ds ∧ Vals dvs ds ∧
    (∀ F al, RwL T K F al dvs dws) ∧ ψ = fun ws S => φ (ws ++ dws) S
theorem methF_mk {P : Program} {w : World} {K : PySem.W.Frag} {mg : Str → Option Value} {base : Heap} {mn : Str} {f : Addr} {fd : FuncData} {pn : List Str} {k n c : Nat} {φ : Fn} (hc : Cls K (T.c c)) (hM : Meth K (T.c c) mn f) (hf : mn ∉ T.fld)
    (FO : FnOk P w K mg base (L2.CX P w) k f fd pn (spW T K n φ)) (hn : TakesN n φ) (hb : Binds K fd pn []) : MethF T P w K mg base k c mn φ :=
  ⟨f, fd, pn, [], [], [], n, φ, FO, hn, hc, hM, hf, hb, .nil, fun _ _ => .nil, funext fun ws => funext fun S => by rw [List.append_nil]⟩
def isIns (c : Nat) : W → Bool
  | .ins d _ => d == c
  | _ => false
/-- o.m(..), o data, the method looks alone -/
def mMeth (c : Nat) (ψ : Fn) (a : Me) (ms : Ml) : Me := fun ρ S => (a ρ S).bind fun x S => if isIns c x && x.nl then (ms ρ S).bind fun ws S => if nlL (ws.map (derefF S)) then pureR (ψ (x :: ws.map (derefF S)) []) S else .bad else .bad
theorem w_methZ {t : TA} {k j cc : Nat} {mn : Str} {apos : Pos} {ψ : Fn} {E0 : XK} (M : MethF T X.prog X.w X.K X.mg X.base k cc mn ψ)
    (hP : ∀ (f : Addr) (fd : FuncData) (pn : List Str) (ds : List Value) (dvs : List V) (n : Nat) (φ : Fn), Cls X.K (T.c cc) → Meth X.K (T.c cc) mn f → FnOk X.prog X.w X.K X.mg X.base (L2.CX X.prog X.w) k f fd pn (spW T X.K n φ) → Binds X.K fd pn ds → Vals dvs ds → PE X c (tMeth (T.c cc) mn (spW T X.K n φ) dvs E0 (tW T X.K (fun c d _ H => E0 c d H) p) t))
    (ht : ∀ σ H Q, tL T X.K (fun c d _ H => E0 c d H) ps σ H Q → t σ H Q) :
    PE X c (tW T X.K (fun c d _ H => E0 c d H) (mMeth cc ψ p ps)) := by
  obtain ⟨f, fd, pn, ds, dvs, dws, n, φ, FO, hn, hc, hM, hf, hb, hd, hw, rfl⟩ := M
  refine peM (hP f fd pn ds dvs n φ hc hM FO hb hd) ?_
  rintro σ H Q ⟨F, al, S, ρ, g, e, h⟩
  refine (tW.bind g e h).imp fun x H1 ⟨F1, al1, S1, w, m, r, h1⟩ => ?_
  split at h1
  · rename_i hi
    rw [Bool.and_eq_true] at hi
    obtain ⟨hi, hx⟩ := hi
    cases r with
    | @ins a dx d gs fs q rf =>
      have : d = cc := by simpa [isIns] using hi
      subst this
      refine ⟨a, dx, gs, rfl, m.g.sub _ _ q, noField hf rf, ht _ _ _ ?_⟩
      refine (tL.bind m.g m.e h1).imp fun vs H2 ⟨F2, al2, S2, us, m2, r2, h2⟩ => ?_
      split at h2
      · rename_i hnl
        refine spW_of (E := fun c d _ H => E0 c d H) (σ := σ) hn m2.g.bare (.cons ((Rw.ins (T := T) (al := al2) (m2.p.ext _ _ q) (rf.mono m2.p.ext m2.p.pre)).nl hx) (((r2.derefF m2.g).nl hnl).append (hw _ _))) (pure_sound m2.g (Same.refl _) (fun _ h => nomatch h) h2)
      · exact h2.elim
    | _ => simp [isIns] at hi
  · exact h1.elim
theorem w_meth {pl : Sem Bool} {k j cc : Nat} {mn : Str} {apos : Pos} {ψ : Fn} {Ec : XK} (M : MethF T X.prog X.w X.K X.mg X.base k cc mn ψ) (hr : Room j X.A) (hj : k ≤ j) (tk : Takes X fun c d _ H => Ec c d H) (ho : PE X b (tW T X.K (fun c d _ H => Ec c d H) p)) (ha : PA X (a :: es) (tL T X.K (fun c d _ H => Ec c d H) ps))
    (he : starEach (a :: es) X.env = (false, eval a X.env) :: starEach es X.env) (hpl : (backTo pos (starEach es X.env)).any (·.1) = false)
    (ht : eval (.Call (.Attribute b mn apos) (a :: es) [] pos) X.env = (do
      let ov ← eval b X.env
      standAt apos.atName
      let (f, first) ← holding [ov] (getMethod ov mn pl)
      callWith pos f first (backTo pos (starEach (a :: es) X.env)) (backToKw pos (keywordEach [] X.env)))) :
    PE X (.Call (.Attribute b mn apos) (a :: es) [] pos) (tW T X.K (fun c d _ H => Ec c d H) (mMeth cc ψ p ps)) :=
  w_methZ (t := tL T X.K (fun c d _ H => Ec c d H) ps) (j := j) (apos := apos) M (fun f fd pn ds dvs n φ hc hM FO hb hd => pe_meth ho hc hM FO (hr.mono hj) hb hd (passes_call tk fun _ _ _ _ h => h) ha he hpl ht) fun _ _ _ h => h
theorem w_meth0 {pl : Sem Bool} {k j cc : Nat} {mn : Str} {apos : Pos} {ψ : Fn} {Ec : XK} (M : MethF T X.prog X.w X.K X.mg X.base k cc mn ψ) (hr : Room j X.A) (hj : k ≤ j) (tk : Takes X fun c d _ H => Ec c d H) (ho : PE X b (tW T X.K (fun c d _ H => Ec c d H) p))
    (ht : eval (.Call (.Attribute b mn apos) [] [] pos) X.env = (do
      let ov ← eval b X.env
      standAt apos.atName
      let (f, first) ← holding [ov] (getMethod ov mn pl)
      callWith pos f first (backTo pos (starEach [] X.env)) (backToKw pos (keywordEach [] X.env)))) :
    PE X (.Call (.Attribute b mn apos) [] [] pos) (tW T X.K (fun c d _ H => Ec c d H) (mMeth cc ψ p mNil)) :=
  w_methZ (t := tNil) (j := j) (apos := apos) M (fun f fd pn ds dvs n φ hc hM FO hb hd => pe_meth0 ho hc hM FO (hr.mono hj) hb hd (passes_call tk fun _ _ _ _ h => h) ht) fun σ H Q h => by
    obtain ⟨F, al, S, ρ, g, e, h⟩ := h
    exact RQ.valL h g .nil
end
end DL

set_option Elab.async false
set_option linter.all false
set_option maxRecDepth 100000
set_option maxHeartbeats 4000000
/-! Wv: max with a default, insert, isinstance of list or tuple, defs that call themselves. -/
namespace DL
open PySem PySem.Spec L2
/-! ### max(xs, default=d) of a list of ints -/
def maxI : Int → List Int → Int
  | a, [] => a
  | a, y :: ys => maxI (if a < y then y else a) ys
theorem maxOf_eq : ∀ (ys : List Int) (a : Int), PySem.W.maxOf a ys = maxI a ys
  | [], a => rfl
  | y :: ys, a => by
    unfold maxI
    rw [← maxOf_eq ys]
    show List.foldl _ (if decide (a < y) = true then y else a) ys = List.foldl _ _ ys
    congr 1
    by_cases h : a < y <;> simp [h]
def rMaxDf (K : PySem.W.Frag) : List V → List V → Hp → VK → Prop := fun vs zs H Q => ∃ (a : Addr) (ns : List Int) (d : V), vs = [V.ref a] ∧ zs = [d] ∧ SqL K H a (ns.map V.int) ∧ (ns = [] → Q d H) ∧ ∀ n ns', ns = n :: ns' → Q (.int (maxI n ns')) H
theorem cr_maxDf {X : Cx} {j : Nat} (hr : Room j X.A) : CallRK X (.builtin "max") [Str.ofString "default"] (rMaxDf X.K) := by
  intro pins s σ H xs zs us ws Q I r1 r2 h
  obtain ⟨a, ns, d, rfl, rfl, hs, h0, h1⟩ := h
  obtain ⟨its, rv, hl, _⟩ := I.list hs
  rw [Vals.ref1 r1]
  cases r2 with
  | cons rd rt =>
    cases rt
    have hu : X.A.units + 1 + PySem.W.Datum.depth Int < cLine := by
      have := hr.un
      show X.A.units + 1 + 0 < cLine
      omega
    refine PySem.W.max_list_datum_default (α := Int) hr.hd hl.isList (PySem.W.HoldAll.of_ints rv.ints) hu ?_ ?_
    · intro e h' tk k
      exact ⟨d, H, I.kept k, rd, h0 e⟩
    · intro y ys i v h' tk e hv hh k
      have ia := PySem.W.HoldAll.toInts (PySem.W.HoldAll.cons hh PySem.W.HoldAll.nil)
      cases ia with
      | cons n t _ => exact ⟨.int _, H, I.kept k, ⟨t, rfl⟩, by rw [maxOf_eq]; exact h1 y ys e⟩
def maxDR (x : W) (zs : List W) (S : Sto) : Res := match zs with
  | [y] => match (match deref S x with | .lst ws => allI ws | _ => none) with
    | some [] => .ok y S
    | some (n :: ns) => .ok (.int (maxI n ns)) S
    | none => .bad
  | _ => .bad
def mMaxD (a : Me) (pk : Ml) : Me := fun ρ S => (a ρ S).bind fun x S => (pk ρ S).bind fun zs S => maxDR x zs S
section
variable {T : Tab} {K : PySem.W.Frag} {E : WX} {F : Hp} {al : List Addr} {S : Sto} {H : Hp} {σ : L2.St}
theorem maxD_sound {v : V} {w : W} {zs : List V} {us : List W} {Q : VK} (g : Good T K F al S H) (rx : Rw T K F al v w) (rz : RwL T K F al zs us) (h : RQ T K E σ F al H (maxDR w us S) Q) : rMaxDf K [v] zs H Q := by
  unfold maxDR at h
  split at h
  · rename_i y
    cases rz with
    | @cons z _ _ _ rz rt =>
      cases rt
      split at h
      · rename_i e
        split at e
        · rename_i ws e2
          have rx2 := vw_of g rx
          rw [e2] at rx2
          obtain ⟨q, ys, rfl, h3, h4⟩ := rx2.lst g.sub
          rw [allI_sound e] at h4
          have := h4.ints
          subst this
          exact ⟨q, [], z, rfl, rfl, h3, fun _ => h.val g rz, (fun n ns' e => nomatch e)⟩
        · cases e
      · rename_i n ns e
        split at e
        · rename_i ws e2
          have rx2 := vw_of g rx
          rw [e2] at rx2
          obtain ⟨q, ys, rfl, h3, h4⟩ := rx2.lst g.sub
          rw [allI_sound e] at h4
          have := h4.ints
          subst this
          exact ⟨q, n :: ns, z, rfl, rfl, h3, (fun e => nomatch e), fun n' ns' e => by cases e; exact h.val g (.int _)⟩
        · cases e
      · exact h.elim
  · exact h.elim
end
section
variable {X : Cx} {T : Tab} {E : WX} {pos pp kpos apos tpos : Pos} {a b d c : Expr} {p q r : Me} {x : Str} {kws : List Keyword} {pk : Ml}
theorem w_maxD {j : Nat} (hr : Room j X.A) (hg : Gl X "max") (hm : X.mg "max" = none) (ha : PE X a (tW T X.K E p)) (hd : PK X kws (tL T X.K E pk)) (he : starEach [a] X.env = (false, eval a X.env) :: starEach [] X.env)
    (hall : (backToKw pos (keywordEach kws X.env)).all (·.1.isSome) = true) (hnone : (backToKw pos (keywordEach kws X.env)).any (·.1.isNone) = false)
    (hks : (backToKw pos (keywordEach kws X.env)).filterMap (·.1) = [Str.ofString "default"]) :
    PE X (.Call (.Name "max" pp) [a] kws pos) (tW T X.K E (mMaxD p pk)) := by
  refine peM (pe_callBK (cr_maxDf hr) hg hm PyProof.Rows.boot_max (pa_cons ha pa_nil he) hd (by decide) (by decide) (by rw [he]; rfl) (by rw [he]; rfl) hall hnone hks) ?_
  rintro σ H Q ⟨F, al, S, ρ, g, e, h⟩
  refine (tW.bind g e h).imp fun v H1 ⟨F1, al1, S1, w, m, r, h1⟩ => ?_
  refine (tL.bind m.g m.e h1).imp fun zs H2 ⟨F2, al2, S2, us, m2, r2, h2⟩ => ?_
  exact maxD_sound m2.g (r.post m2.p) r2 h2
/-! ### xs.insert(i, y) -/
def insR (x i y : W) (S : Sto) : Res := match x, i with
  | .loc n, .int i => match S[n]? with
    | some (.lst ws) => if ws.length < limit ∧ 0 ≤ i ∧ i < 4611686018427387904 then .ok .non (S.set n (.lst (ws.take i.toNat ++ [y] ++ ws.drop i.toNat))) else .bad
    | _ => .bad
  | _, _ => .bad
def mIns (a i b : Me) : Me := fun ρ S => (a ρ S).bind fun x S => if isCell S x then (i ρ S).bind fun i S => (b ρ S).bind fun y S => insR x i y S else .bad
def rIns : V → List V → Hp → VK → Prop := fun x vs H Q => ∃ (l : Addr) (xs : List V) (i : Int) (y : V), x = .ref l ∧ vs = [.int i, y] ∧ H l = some (.lst xs) ∧ xs.length < sizeLine ∧ 0 ≤ i ∧ i < 2 ^ 63 ∧
    Q .non (upd H l (.lst (xs.take i.toNat ++ [y] ++ xs.drop i.toNat)))
theorem ins_sound {K : PySem.W.Frag} {F : Hp} {al : List Addr} {H : Hp} {S : Sto} {σ : L2.St} {x y : V} {i : V} {w u iw : W} {Q : VK} (g : Good T K F al S H) (rx : Rw T K F al x w) (ri : Rw T K F al i iw) (ry : Rw T K F al y u) (h : RQ T K E σ F al H (insR w iw u S) Q) : rIns x [i, y] H Q := by
  unfold insR at h
  split at h
  · rename_i n i'
    cases ri
    split at h
    · rename_i ws e
      split at h
      · rename_i hl
        obtain ⟨hl, h0, h63⟩ := hl
        cases rx with
        | @loc a _ ha =>
          obtain ⟨xs, h1, h2, h3⟩ := g.cell n a _ ha e
          refine ⟨a, xs, i', y, rfl, rfl, h1, by rw [h3.length, ← limit_eq]; exact hl, h0, by omega, ?_⟩
          obtain ⟨g1, p1⟩ := g.setCell (o := .lst (xs.take i'.toNat ++ [y] ++ xs.drop i'.toNat)) (c := .lst (ws.take i'.toNat ++ [u] ++ ws.drop i'.toNat)) ha h2 ⟨_, upd_same, h2, ((h3.take _).append (.cons ry .nil)).append (h3.drop _)⟩
          exact h _ _ _ _ p1 g1 .non
      · exact h.elim
    · exact h.elim
  · exact h.elim
theorem w_ins (ha : PE X a (tW T X.K E p)) (hb : PE X b (tW T X.K E q)) (hc : PE X c (tW T X.K E r)) (hbase : attributeBase a "insert" X.env (eval a X.env) = eval a X.env)
    (hfew : ((backTo pos (starEach [b, c] X.env)).all (fun x => !x.1) && (backToKw pos (keywordEach [] X.env)).all (fun x => x.1.isSome) && decide ([b, c].length + ([] : List Keyword).length + (if ([] : List Keyword).isEmpty then 0 else 1) < 30)) = true)
    (hline : (apos.endLine == pos.line) = true) (hs : starEach [b, c] X.env = (false, eval b X.env) :: starEach [c] X.env) (hs2 : starEach [c] X.env = (false, eval c X.env) :: starEach [] X.env) (hplain : (backTo pos (starEach [c] X.env)).any (·.1) = false) :
    PE X (.Call (.Attribute a "insert" apos) [b, c] [] pos) (tW T X.K E (mIns p q r)) := by
  refine peM (pe_bm PySem.F.plainAttrs_list PySem.F.slot_list_insert PySem.F.type_list_insert mt_insert ha (pa_cons hb (pa_cons hc pa_nil hs2) hs) hbase hfew hline hs hplain) ?_
  rintro σ H Q ⟨F, al, S, ρ, g, e, h⟩
  refine (tW.bind g e h).imp fun x H1 ⟨F1, al1, S1, w, m, r, h1⟩ => ?_
  split at h1
  · rename_i hc
    refine ⟨isCell_ty m.g r hc, ?_⟩
    refine (tW.bind m.g m.e h1).imp fun i H2 ⟨F2, al2, S2, iw, m2, r2, h2⟩ => ?_
    refine (tW.bind m2.g m2.e h2).imp fun y H3 ⟨F3, al3, S3, u, m3, r3, h3⟩ => ?_
    exact ins_sound m3.g ((r.post m2.p).post m3.p) (r2.post m3.p) r3 h3
  · exact h1.elim
/-! ### isinstance(x, (list, tuple)) -/
def isLT : W → Option Bool
  | .non => some false
  | .bl _ => some false
  | .int _ => some false
  | .str _ => some false
  | .tup _ => some true
  | .lst _ => some true
  | _ => none
def mIsLT (a : Me) : Me := fun ρ S => (a ρ S).bind fun x S => optR S ((isLT (deref S x)).map .bl)
theorem kit_LT {K : PySem.W.Frag} {s : String} {b c : Bool} (h : kitB s "list" = some b) (h2 : kitB s "tuple" = some c) : PySem.W.kitAny K (.type s) [.type "list", .type "tuple"] = some (b || c) := by
  unfold PySem.W.kitAny
  rw [kit_ty h]
  cases b with
  | true => rfl
  | false =>
    unfold PySem.W.kitAny
    rw [kit_ty h2]
    cases c <;> rfl
theorem isLT_sound {K : PySem.W.Frag} {F : Hp} {al : List Addr} {S : Sto} {H : Hp} {x : V} {a : W} {k : Bool} (g : Good T K F al S H) (rx : Vw T K F al H x a) (e : isLT a = some k) : ∃ t, TyX K H x t ∧ PySem.W.kitAny K t [.type "list", .type "tuple"] = some k := by
  cases a with
  | non => cases rx.non; cases e; exact ⟨.type "NoneType", .base .non, kit_LT (b := false) (c := false) (by decide +kernel) (by decide +kernel)⟩
  | bl b => cases rx.bl; cases e; exact ⟨.type "bool", .base (.bl _), kit_LT (b := false) (c := false) (by decide +kernel) (by decide +kernel)⟩
  | int i => cases rx.int; cases e; exact ⟨.type "int", .base (.int _), kit_LT (b := false) (c := false) (by decide +kernel) (by decide +kernel)⟩
  | str i => cases rx.str; cases e; exact ⟨.type "str", .base (.str _), kit_LT (b := false) (c := false) (by decide +kernel) (by decide +kernel)⟩
  | tup ws => obtain ⟨p, xs, rfl, h1, _⟩ := rx.tup g.sub; cases e; exact ⟨.type "tuple", tyX_tup h1, kit_LT (b := false) (c := true) (by decide +kernel) (by decide +kernel)⟩
  | lst ws => obtain ⟨p, xs, rfl, h1, _⟩ := rx.lst g.sub; cases e; exact ⟨.type "list", tyX_lst h1, kit_LT (b := true) (c := false) (by decide +kernel) (by decide +kernel)⟩
  | ins c fs => cases e
  | loc n => cases e
  | tpx n => cases e
theorem w_isLT {lp tp : Pos} {kk : Nat} (hg : Gl X "isinstance") (hm : X.mg "isinstance" = none) (hgl : Gl X "list") (hml : X.mg "list" = none) (hgt : Gl X "tuple") (hmt : X.mg "tuple" = none) (ha : PE X a (tW T X.K E p))
    (he : starEach [a, .Tuple [.Name "list" lp, .Name "tuple" tp] kk tpos] X.env = (false, eval a X.env) :: starEach [.Tuple [.Name "list" lp, .Name "tuple" tp] kk tpos] X.env) (he2 : starEach [.Tuple [.Name "list" lp, .Name "tuple" tp] kk tpos] X.env = (false, eval (.Tuple [.Name "list" lp, .Name "tuple" tp] kk tpos) X.env) :: starEach [] X.env)
    (he3 : starEach [.Name "list" lp, .Name "tuple" tp] X.env = (false, eval (.Name "list" lp) X.env) :: starEach [.Name "tuple" tp] X.env) (he4 : starEach [.Name "tuple" tp] X.env = (false, eval (.Name "tuple" tp) X.env) :: starEach [] X.env)
    (hpl : (backTo pos (starEach [.Tuple [.Name "list" lp, .Name "tuple" tp] kk tpos] X.env)).any (·.1) = false) : PE X (.Call (.Name "isinstance" pp) [a, .Tuple [.Name "list" lp, .Name "tuple" tp] kk tpos] [] pos) (tW T X.K E (mIsLT p)) := by
  have hl : PE X (.Name "list" lp) (tC (.ty "list")) := pe_bltn hgl hml PyProof.Rows.boot_list rfl (by decide) (by decide)
  have ht : PE X (.Name "tuple" tp) (tC (.ty "tuple")) := pe_bltn hgt hmt PyProof.Rows.boot_tuple rfl (by decide) (by decide)
  refine peM (pe_callB call_isiT hg hm PyProof.Rows.boot_isinstance (pa_cons ha (pa_cons (pe_tup (pa_cons hl (pa_cons ht pa_nil he4) he3)) pa_nil he2) he) (by decide) (by decide) he hpl) ?_
  rintro σ H Q ⟨F, al, S, ρ, g, e, h⟩
  refine (tW.bind g e h).imp fun x H1 ⟨F1, al1, S1, w, m, r, h1⟩ => ?_
  refine ⟨by decide, fun tp hp => ?_⟩
  obtain ⟨z, e1, h3⟩ := optR_some h1
  rw [Option.map_eq_some_iff] at e1
  obtain ⟨k, e1, rfl⟩ := e1
  have hF : F1 tp = none := m.g.notF hp
  have hA : tp ∉ al1 := m.g.notA hp
  have g2 := m.g.other hA hF (.tup [.ty "list", .ty "tuple"])
  obtain ⟨t, q1, q2⟩ := isLT_sound g2 (vw_of g2 r) e1
  refine ⟨x, tp, [.ty "list", .ty "tuple"], t, [.type "list", .type "tuple"], k, rfl, upd_same, .cons (.ty _) (.cons (.ty _) .nil), q1, q2, ?_⟩
  exact h3 _ _ _ _ (Post.refl.other hp _) g2 (.bl _)
end
/-! ### a def that calls itself -/
theorem bad_ok {P : Program} {w : World} {K : PySem.W.Frag} {mg : Str → Option Value} {base : Heap} {CX : CXT} {k : Nat} {f : Addr} {fd : FuncData} {T : Tab} {pn : List Str} {n : Nat} : FnOk P w K mg base CX k f fd pn (spW T K n fun _ _ => .bad) :=
  ⟨fun vs H Q E h => by obtain ⟨_, _, _, _, _, _, _, h⟩ := h; exact h.elim, fun A outer s H args us vs Q E hr he hb hv h => by obtain ⟨_, _, _, _, _, _, _, h⟩ := h; exact h.elim⟩
section
variable {K : PySem.W.Frag} {x qual : Str} {params : Arguments} {body : List Stmt} {scope : Scope} {dvs : List V} {kws : List (Str × V)} {f : Addr} {fd : FuncData} {pn : List Str}
/-- defaults of both kinds: n written values, the keywords ks; the defaults from the j-th on and ms fill up -/
theorem kb_both (Fd : FunD K x qual params body scope dvs kws f fd) (n j : Nat) (ks : List Str) (ms : List (Str × V)) (g : {α : Type} → List α → List α → List α → List α → List α) (hd : dvs ≠ []) (hk : kws ≠ []) (hms : ∀ q ∈ ms, q ∈ kws)
    (hrel : ∀ {vs dz mz zs : List V} {us dv mv ws : List Value}, Vals vs us → Vals dz dv → Vals mz mv → Vals zs ws → Vals (g vs dz mz zs) (g us dv mv ws))
    (h : ∀ (Ta D : Addr) (doc pm : Value) (an : Option Addr) (cdv ct : Value) (us its mv ws : List Value), us.length = n → its.length = dvs.length → mv.length = ms.length → ws.length = ks.length →
      ∃ k, bindArgs (PySem.W.fnOf x qual params body scope (.ref Ta) (.ref D) doc pm an cdv ct) ⟨us, ks.zip ws⟩ = seqItems? (.ref Ta) >>= k ∧ KwChain D ((ms.map (·.1)).zip mv) (k (some its.toArray)) (pn.zip (g us (its.drop j) mv ws))) :
    ∃ dv mv : List Value, KBn K fd pn n ks (fun us ws => g us dv mv ws) (fun vs zs => g vs (dvs.drop j) (ms.map (·.2)) zs) := by
  obtain ⟨oc, od, dV, kV, doc, pm, an, cdv, ct, osl, rfl, lk, hcd, hD, hK⟩ := Fd.ex
  rcases hD with ⟨e, _⟩ | ⟨_, Ta, o, its, m, rfl, lT, oT, rT⟩
  · exact absurd e hd
  · rcases hK with e | ⟨D, rfl, hq⟩
    · exact absurd e hk
    · obtain ⟨mv, hl, rk, hks⟩ := kwd_vals (ms := ms) fun q hm => hq q (hms q hm)
      refine ⟨its.drop j, mv, ⟨fun s us ws hX l1 l2 => BindsTo.of_looks fun M => ?_, fun r1 r2 => hrel r1 (rT.drop j) rk r2⟩⟩
      obtain ⟨k, e1, e2⟩ := h Ta D doc pm an cdv ct us its mv ws l1 rT.length.symm hl l2
      rw [e1]
      exact looks_items hX lT oT (KwChain.looks hX hks e2)
end
end DL

set_option Elab.async false
set_option linter.all false
set_option maxRecDepth 100000
set_option maxHeartbeats 4000000
/-! Ww: comprehensions with two fors. -/
namespace DL
open PySem PySem.Spec L2
def lc2Step (ρ : Env) (vs : List Nat) (tg : Tg) (c : Mb) (vs1 : List Nat) (tg1 : Tg) (it1 : Ml) (c1 : Mb) (el : Me) (u : W) (S : Sto) : LRes :=
  match bindTg tg u (wipeW ρ vs) with
  | none => .bad
  | some ρ' => match c ρ' S with
    | .ok false S1 => .ok [] S1
    | .ok true S1 => match it1 ρ' S1 with
      | .ok xs S2 => compM (lcStep ρ' vs1 tg1 c1 el) xs [] S2
      | _ => .bad
    | _ => .bad
def mLc2 (mt : Bool) (vs : List Nat) (tg : Tg) (it : Ml) (c : Mb) (vs1 : List Nat) (tg1 : Tg) (it1 : Ml) (c1 : Mb) (el : Me) : Me := fun ρ S => (it ρ S).bind fun xs S =>
  match compM (lc2Step ρ vs tg c vs1 tg1 it1 c1 el) xs [] S with
  | .ok ys S => if ys.length ≤ limit then (if mt then newCellR (.lst ys) S else .ok (.lst ys) S) else .bad
  | _ => .bad
theorem compM_len {step : W → Sto → LRes} : ∀ (xs acc : List W) (S : Sto) {ys : List W} {S' : Sto}, compM step xs acc S = .ok ys S' → acc.length ≤ ys.length
  | [], acc, S, ys, S', e => by cases e; exact Nat.le_refl _
  | x :: xs, acc, S, ys, S', e => by
    replace e : (step x S).bindL (fun zs S' => compM step xs (acc ++ zs) S') = .ok ys S' := e
    cases h : step x S with
    | ok zs S1 =>
      rw [h] at e
      have := compM_len xs (acc ++ zs) S1 e
      rw [List.length_append] at this
      omega
    | exc a b => rw [h] at e; cases e
    | bad => rw [h] at e; cases e
/-- a walk, with any body B and what stands ahead of each turn -/
theorem walk_b {J : L2.It} {n : Nat} {G : Hp → Prop} {Y : Nat → Hp → V → Hp → Prop} (w : Walk J n G Y) {H0 : Hp} {Qd : Hp → Prop} (B : (Hp → Prop) → V → Hp → Prop) (P : Nat → Hp → Prop) (h0 : P 0 H0) (hG : ∀ i H, P i H → G H)
    (hs : ∀ i x H H', i < n → P i H → Y i H x H' → B (P (i + 1)) x H') (hd : ∀ H, P n H → Qd H) :
    ∃ W1 : Nat → Nat → Hp → Prop, (∃ m, W1 0 m H0) ∧ ∀ j k H, W1 j k H →
      (J.stop j H ∧ Qd H) ∨ (J.go j H ∧ ∃ Nx1 : Hp → Prop, (∀ H', Nx1 H' → ∃ k', k' < k ∧ W1 (j + 1) k' H') ∧ ∀ x H', J.yld j H x H' → B Nx1 x H') := by
  refine ⟨fun j k H => k + j = n ∧ P j H, ⟨n, Nat.add_zero n, h0⟩, fun j k H ⟨e, p⟩ => ?_⟩
  cases k with
  | zero =>
    have e' : j = n := by omega
    subst e'
    exact Or.inl ⟨w.stops H (hG _ H p), hd H p⟩
  | succ k =>
    have hj : j < n := by omega
    exact Or.inr ⟨w.goes j H hj (hG j H p), P (j + 1), fun H' p' => ⟨k, Nat.lt_succ_self k, by omega, p'⟩, fun x H' y => hs j x H H' hj p (w.yields j H x H' hj (hG j H p) y)⟩
section
variable {T : Tab} {K : PySem.W.Frag} {E : WX} {σ : L2.St} {ρ : Env} {F : Hp} {al : List Addr} {H : Hp} {S : Sto}
theorem lc2_sound {it it1 : Ml} {c c1 : Mb} {el : Me} {tg tg1 : Tg} {vs vs1 : List Nat} {mt : Bool} {Q : VK} (hsl : ∀ i ∈ tg.slots, i ∈ vs) (hsl1 : ∀ i ∈ tg1.slots, i ∈ vs1) (h : tW T K E (mLc2 mt vs tg it c vs1 tg1 it1 c1 el) σ H Q) :
    tLc2 (tI T K E it) (gTg K tg) (DL.tB T K EF c) (tI T K EF it1) (gTg K tg1) (DL.tB T K EF c1) (tW T K EF el) vs vs1 σ H Q := by
  obtain ⟨F, al, S, ρ, g, e, h⟩ := h
  refine ⟨F, al, S, ρ, g, e, ?_⟩
  unfold mLc2 at h
  cases q : it ρ S with
  | bad => rw [q] at h; exact h.elim
  | exc x S' => rw [q] at h; exact h
  | ok xs S' =>
    rw [q] at h
    replace h : RQ T K E σ F al H (match compM (lc2Step ρ vs tg c vs1 tg1 it1 c1 el) xs [] S' with
      | .ok ys S => if ys.length ≤ limit then (if mt then newCellR (.lst ys) S else .ok (.lst ys) S) else .bad
      | _ => .bad) Q := h
    cases hT : compM (lc2Step ρ vs tg c vs1 tg1 it1 c1 el) xs [] S' with
    | bad => rw [hT] at h; exact h.elim
    | exc a b => rw [hT] at h; exact h.elim
    | ok ys Sf =>
      rw [hT] at h
      simp only at h
      split at h
      case isFalse => exact h.elim
      rename_i hlim
      intro J F1 al1 H1 p1 g1 wk D hD
      obtain ⟨G, Y, w, hG, hY⟩ := wk
      generalize hst : lc2Step ρ vs tg c vs1 tg1 it1 c1 el = step at hT
      refine walk_b w _ (fun i H2 => ∃ F2 al2 S2 acc vacc, Post F1 al1 H1 F2 al2 H2 ∧ Good T K F2 al2 S2 H2 ∧ H2 D = some (.lst vacc) ∧ F2 D = none ∧ D ∉ al2 ∧ RwL T K F2 al2 vacc acc ∧ compM step (xs.drop i) acc S2 = .ok ys Sf) ?_ ?_ ?_ ?_
      · obtain ⟨a, b⟩ := g1.side hD (.lst [])
        exact ⟨F1, al1, S', [], [], b, a, upd_same, g1.notF hD, g1.notA hD, .nil, hT⟩
      · rintro i H2 ⟨F2, al2, S2, acc, vacc, p2, g2, _⟩
        exact hG H2 fun b u e => g2.sub b u (p2.ext b u e)
      · rintro i x H2 H2' hi ⟨F2, al2, S2, acc, vacc, p2, g2, hHD, hFD, hAD, racc, hcm⟩ y
        obtain ⟨F3, u, hu, g3, p3, r3⟩ := hY i H2 x H2' hi y F2 al2 S2 p2.ext p2.pre g2
        have hHD3 : H2' D = some (.lst vacc) := p3.keep D _ hHD hAD
        have hFD3 : F3 D = none := p3.offF hAD hFD hHD
        have hdrop : xs.drop i = u :: xs.drop (i + 1) := by
          obtain ⟨hi', hu'⟩ := List.getElem?_eq_some_iff.mp hu
          rw [List.drop_eq_getElem_cons hi', hu']
        rw [hdrop] at hcm
        replace hcm : (step u S2).bindL (fun ys S' => compM step (xs.drop (i + 1)) (acc ++ ys) S') = .ok ys Sf := hcm
        rw [← hst] at hcm
        unfold lc2Step at hcm
        cases hb : bindTg tg u (wipeW ρ vs) with
        | none => rw [hb] at hcm; cases hcm
        | some ρ' =>
          simp only [hb] at hcm
          refine tg_sound vs (σ0 := σ) g3 r3 ((wipe_envOk e vs).mono (p1.ext.trans (p2.ext.trans p3.ext)) (p1.pre.trans (p2.pre.trans p3.pre))) hb hsl (wipe_wipe fun i h => h) fun σ' F4 al4 H4 p4 g4 e4 hw4 => ⟨hw4, ?_⟩
          have hHD4 : H4 D = some (.lst vacc) := p4.keep D _ hHD3 hAD
          have hFD4 : F4 D = none := p4.offF hAD hFD3 hHD3
          have hAD4 : D ∉ al4 := p4.offA hAD hHD3
          refine ⟨F4, al4, S2, ρ', g4, e4, ?_⟩
          cases hc : c ρ' S2 with
          | bad => rw [hc] at hcm; cases hcm
          | exc z S3 => rw [hc] at hcm; cases hcm
          | ok b S3 =>
            rw [hc] at hcm
            intro F5 al5 H5 p5 g5
            have hHD5 : H5 D = some (.lst vacc) := p5.keep D _ hHD4 hAD4
            have hFD5 : F5 D = none := p5.offF hAD4 hFD4 hHD4
            have hAD5 : D ∉ al5 := p5.offA hAD4 hHD4
            have p15 := ((p2.trans p3).trans p4).trans p5
            have racc5 := ((racc.post p3).post p4).post p5
            cases b with
            | false =>
              rw [if_neg Bool.false_ne_true]
              replace hcm : compM (lc2Step ρ vs tg c vs1 tg1 it1 c1 el) (xs.drop (i + 1)) (acc ++ []) S3 = .ok ys Sf := hcm
              rw [List.append_nil, hst] at hcm
              exact ⟨F5, al5, S3, acc, vacc, p15, g5, hHD5, hFD5, hAD5, racc5, hcm⟩
            | true =>
              rw [if_pos rfl]
              refine ⟨F5, al5, S3, ρ', g5, e4.post p5, ?_⟩
              cases hv : it1 ρ' S3 with
              | bad => simp only [hv] at hcm; cases hcm
              | exc z S4 => simp only [hv] at hcm; cases hcm
              | ok xs1 S4 =>
                simp only [hv] at hcm
                replace hcm : (compM (lcStep ρ' vs1 tg1 c1 el) xs1 [] S4).bindL (fun zs S' => compM (lc2Step ρ vs tg c vs1 tg1 it1 c1 el) (xs.drop (i + 1)) (acc ++ zs) S') = .ok ys Sf := hcm
                rw [hst] at hcm
                intro J1 F6 al6 H6 p6 g6 wk1
                obtain ⟨G1, Y1, w1, hG1, hY1⟩ := wk1
                have hHD6 : H6 D = some (.lst vacc) := p6.keep D _ hHD5 hAD5
                have hFD6 : F6 D = none := p6.offF hAD5 hFD5 hHD5
                have hAD6 : D ∉ al6 := p6.offA hAD5 hHD5
                have e6 : EnvOk T K F6 al6 σ' ρ' := (e4.post p5).post p6
                refine walk_b w1 _ (fun j H7 => ∃ F7 al7 S7 zs vacc7, Same F6 F7 ∧ Pre al6 al7 ∧ Post F1 al1 H1 F7 al7 H7 ∧ Good T K F7 al7 S7 H7 ∧ H7 D = some (.lst vacc7) ∧ F7 D = none ∧ D ∉ al7 ∧ RwL T K F7 al7 vacc7 (acc ++ zs) ∧ (compM (lcStep ρ' vs1 tg1 c1 el) (xs1.drop j) zs S7).bindL (fun zs S' => compM step (xs.drop (i + 1)) (acc ++ zs) S') = .ok ys Sf) ?_ ?_ ?_ ?_
                · exact ⟨F6, al6, S4, [], vacc, Same.refl _, Pre.refl _, p15.trans p6, g6, hHD6, hFD6, hAD6, by rw [List.append_nil]; exact racc5.post p6, hcm⟩
                · rintro j H7 ⟨F7, al7, S7, zs, vacc7, x7, y7, q7, g7, _⟩
                  exact hG1 H7 fun b u e => g7.sub b u (x7 b u e)
                · rintro j x1 H7 H7' hj ⟨F7, al7, S7, zs, vacc7, x7, y7, q7, g7, hHD7, hFD7, hAD7, racc7, hcm7⟩ y1
                  obtain ⟨F8, u1, hu1, g8, p8, r8⟩ := hY1 j H7 x1 H7' hj y1 F7 al7 S7 x7 y7 g7
                  have hHD8 : H7' D = some (.lst vacc7) := p8.keep D _ hHD7 hAD7
                  have hFD8 : F8 D = none := p8.offF hAD7 hFD7 hHD7
                  have hdrop1 : xs1.drop j = u1 :: xs1.drop (j + 1) := by
                    obtain ⟨hi', hu'⟩ := List.getElem?_eq_some_iff.mp hu1
                    rw [List.drop_eq_getElem_cons hi', hu']
                  rw [hdrop1] at hcm7
                  replace hcm7 : ((lcStep ρ' vs1 tg1 c1 el u1 S7).bindL (fun ws S' => compM (lcStep ρ' vs1 tg1 c1 el) (xs1.drop (j + 1)) (zs ++ ws) S')).bindL (fun zs S' => compM step (xs.drop (i + 1)) (acc ++ zs) S') = .ok ys Sf := hcm7
                  unfold lcStep at hcm7
                  cases hb1 : bindTg tg1 u1 (wipeW ρ' vs1) with
                  | none => rw [hb1] at hcm7; cases hcm7
                  | some ρ1 =>
                    simp only [hb1] at hcm7
                    refine tg_sound vs1 (σ0 := σ') g8 r8 ((wipe_envOk e6 vs1).mono (x7.trans p8.ext) (y7.trans p8.pre)) hb1 hsl1 (wipe_wipe fun i h => h) fun σ1 F9 al9 H9 p9 g9 e9 hw9 => ⟨hw9, ?_⟩
                    have hHD9 : H9 D = some (.lst vacc7) := p9.keep D _ hHD8 hAD7
                    have hFD9 : F9 D = none := p9.offF hAD7 hFD8 hHD8
                    have hAD9 : D ∉ al9 := p9.offA hAD7 hHD8
                    refine ⟨F9, al9, S7, ρ1, g9, e9, ?_⟩
                    cases hc1 : c1 ρ1 S7 with
                    | bad => rw [hc1] at hcm7; cases hcm7
                    | exc z S3 => rw [hc1] at hcm7; cases hcm7
                    | ok b1 S10 =>
                      rw [hc1] at hcm7
                      intro F10 al10 H10 p10 g10
                      have hHD10 : H10 D = some (.lst vacc7) := p10.keep D _ hHD9 hAD9
                      have hFD10 : F10 D = none := p10.offF hAD9 hFD9 hHD9
                      have hAD10 : D ∉ al10 := p10.offA hAD9 hHD9
                      have p810 := (p8.trans p9).trans p10
                      have racc10 := ((racc7.post p8).post p9).post p10
                      cases b1 with
                      | false =>
                        rw [if_neg Bool.false_ne_true]
                        replace hcm7 : (compM (lcStep ρ' vs1 tg1 c1 el) (xs1.drop (j + 1)) (zs ++ []) S10).bindL (fun zs S' => compM step (xs.drop (i + 1)) (acc ++ zs) S') = .ok ys Sf := hcm7
                        rw [List.append_nil] at hcm7
                        exact ⟨F10, al10, S10, zs, vacc7, x7.trans p810.ext, y7.trans p810.pre, q7.trans p810, g10, hHD10, hFD10, hAD10, racc10, hcm7⟩
                      | true =>
                        rw [if_pos rfl]
                        refine ⟨F10, al10, S10, ρ1, g10, e9.post p10, ?_⟩
                        cases hv1 : el ρ1 S10 with
                        | bad => simp only [hv1] at hcm7; cases hcm7
                        | exc z S11 => simp only [hv1] at hcm7; cases hcm7
                        | ok yw S11 =>
                          simp only [hv1] at hcm7
                          replace hcm7 : (compM (lcStep ρ' vs1 tg1 c1 el) (xs1.drop (j + 1)) (zs ++ [yw]) S11).bindL (fun zs S' => compM step (xs.drop (i + 1)) (acc ++ zs) S') = .ok ys Sf := hcm7
                          intro v F12 al12 H12 p12 g12 r12
                          have hHD12 : H12 D = some (.lst vacc7) := p12.keep D _ hHD10 hAD10
                          have hFD12 : F12 D = none := p12.offF hAD10 hFD10 hHD10
                          have hAD12 : D ∉ al12 := p12.offA hAD10 hHD10
                          have hlen : (acc ++ (zs ++ [yw])).length ≤ ys.length := by
                            cases hz : compM (lcStep ρ' vs1 tg1 c1 el) (xs1.drop (j + 1)) (zs ++ [yw]) S11 with
                            | bad => rw [hz] at hcm7; cases hcm7
                            | exc a b => rw [hz] at hcm7; cases hcm7
                            | ok zz Sz =>
                              rw [hz] at hcm7
                              have h1 := compM_len _ _ _ hz
                              have h2 := compM_len (step := step) (xs.drop (i + 1)) (acc ++ zz) Sz hcm7
                              rw [List.length_append] at h2 ⊢
                              omega
                          have hvl : vacc7.length < limit := by
                            rw [racc7.length]
                            rw [List.length_append, List.length_append, List.length_singleton] at hlen
                            rw [List.length_append]
                            omega
                          refine ⟨vacc7, hHD12, by rw [← limit_eq]; exact hvl, F12, al12, S11, zs ++ [yw], vacc7 ++ [v], x7.trans (p810.trans p12).ext, y7.trans (p810.trans p12).pre, (q7.trans (p810.trans p12)).other hD _, g12.other hAD12 hFD12 _, upd_same, hFD12, hAD12, ?_, hcm7⟩
                          · rw [← List.append_assoc]
                            exact (racc10.post p12).append (.cons r12 .nil)
                · rintro H7 ⟨F7, al7, S7, zs, vacc7, x7, y7, q7, g7, hHD7, hFD7, hAD7, racc7, hcm7⟩
                  rw [List.drop_length] at hcm7
                  replace hcm7 : compM step (xs.drop (i + 1)) (acc ++ zs) S7 = .ok ys Sf := hcm7
                  exact ⟨F7, al7, S7, acc ++ zs, vacc7, q7, g7, hHD7, hFD7, hAD7, racc7, hcm7⟩
      · rintro H2 ⟨F2, al2, S2, acc, vacc, p2, g2, hHD, hFD, hAD, racc, hcm⟩
        rw [List.drop_length] at hcm
        cases hcm
        cases mt with
        | false =>
          rw [if_neg Bool.false_ne_true] at h
          refine h _ _ _ _ (p1.trans (p2.adoptF hFD hD _)) (g2.adoptF hAD hFD hHD) (.lst (SqL.of upd_same) (racc.mono (fun b u e => by rw [upd_ne (ne_of_none e hFD)]; exact e) (Pre.refl _)))
        | true =>
          rw [if_pos rfl] at h
          refine h _ _ _ _ (p1.trans (p2.adoptC hD)) (g2.adoptC hAD (by rw [hHD]; simp) ⟨vacc, hHD, hFD, racc.mono (Same.refl _) (Pre.app _ _)⟩) (.loc ?_)
          rw [← g2.len, List.getElem?_append_right (Nat.le_refl _), Nat.sub_self]; rfl
end
section
variable {X : Cx} {T : Tab} {E : WX} {pos : Pos}
theorem w_lc2 {elt tg iter tg1 iter1 : Expr} {ifs ifs1 : List Expr} {scope : Scope} {own : List (Str × Nat)} {it it1 : Ml} {c c1 : Mb} {el : Me} {tgt tgt1 : Tg} {mt : Bool} {vs vs1 : List Nat} (hc : X.calm = true) (hN : X.N.Nodup) (hi : PI X tg iter (tI T X.K E it)) (ok : BlkOk X.N X.env.scope scope own) (hvs : own.map (·.2) = vs) (hsl : (tgt.slots.all fun i => vs.contains i) = true) (hsl1 : (tgt1.slots.all fun i => vs1.contains i) = true) (hv1 : (vs1.all fun i => vs.contains i) = true)
    (hg : ∀ (s : Shared) (H : Hp) (C : Addr) (cl : List (Str × Addr)) (fp : List Addr), PG (X.blk s H scope (compEnvC scope cl C X.env) fp) tg (gTg X.K tgt)) (ht : ∀ (s : Shared) (H : Hp) (C : Addr) (cl : List (Str × Addr)) (fp : List Addr), PTs (X.blk s H scope (compEnvC scope cl C X.env) fp) ifs (DL.tB T X.K EF c))
    (hi1 : ∀ (s : Shared) (H : Hp) (C : Addr) (cl : List (Str × Addr)) (fp : List Addr), PI (X.blk s H scope (compEnvC scope cl C X.env) fp) tg1 iter1 (tI T X.K EF it1))
    (hg1 : ∀ (s : Shared) (H : Hp) (C : Addr) (cl : List (Str × Addr)) (fp : List Addr), PG (X.blk s H scope (compEnvC scope cl C X.env) fp) tg1 (gTg X.K tgt1)) (ht1 : ∀ (s : Shared) (H : Hp) (C : Addr) (cl : List (Str × Addr)) (fp : List Addr), PTs (X.blk s H scope (compEnvC scope cl C X.env) fp) ifs1 (DL.tB T X.K EF c1))
    (he : ∀ (s : Shared) (H : Hp) (C : Addr) (cl : List (Str × Addr)) (fp : List Addr), PE (X.blk s H scope (compEnvC scope cl C X.env) fp) elt (tW T X.K EF el)) (hs : ∀ x, foldedSetIterable iter X.env x = pure x) (hs1 : ∀ env x, foldedSetIterable iter1 env x = pure x) :
    PE X (.ListComp elt [⟨tg, iter, ifs, 0⟩, ⟨tg1, iter1, ifs1, 0⟩] scope pos) (tW T X.K E (mLc2 mt vs tgt it c vs1 tgt1 it1 c1 el)) := by
  subst hvs
  refine peM (pe_lc2 (vs1 := vs1) hc hN hi ok (fun i hi => ?_) hg ht hi1 hg1 ht1 he hs hs1) fun σ H Q h => lc2_sound (fun i hi => ?_) (fun i hi => ?_) h
  · have := List.all_eq_true.mp hv1 i hi
    simpa using this
  · have := List.all_eq_true.mp hsl i hi
    simpa using this
  · have := List.all_eq_true.mp hsl1 i hi
    simpa using this
theorem s_setLc2 {i : Nat} {y : Str} {py : Pos} {spos : Pos} {elt tg iter tg1 iter1 : Expr} {ifs ifs1 : List Expr} {scope : Scope} {own : List (Str × Nat)} {it it1 : Ml} {c c1 : Mb} {el : Me} {tgt tgt1 : Tg} {mt : Bool} {vs vs1 : List Nat} (hc : X.calm = true) (hN : X.N.Nodup) (hy : X.N[i]? = some y) (hyl : X.env.scope.names.lookup y = some .local)
    (hsw : swapsWith (.ListComp elt [⟨tg, iter, ifs, 0⟩, ⟨tg1, iter1, ifs1, 0⟩] scope pos) (some (.Name y py)) spos.line X.env = pure true) (hi : PI X tg iter (tI T X.K E it)) (ok : BlkOk X.N X.env.scope scope own) (hvs : own.map (·.2) = vs) (hsl : (tgt.slots.all fun i => vs.contains i) = true) (hsl1 : (tgt1.slots.all fun i => vs1.contains i) = true) (hv1 : (vs1.all fun i => vs.contains i) = true)
    (hg : ∀ (s : Shared) (H : Hp) (C : Addr) (cl : List (Str × Addr)) (fp : List Addr), PG (X.blk s H scope (compEnvC scope cl C X.env) fp) tg (gTg X.K tgt)) (ht : ∀ (s : Shared) (H : Hp) (C : Addr) (cl : List (Str × Addr)) (fp : List Addr), PTs (X.blk s H scope (compEnvC scope cl C X.env) fp) ifs (DL.tB T X.K EF c))
    (hi1 : ∀ (s : Shared) (H : Hp) (C : Addr) (cl : List (Str × Addr)) (fp : List Addr), PI (X.blk s H scope (compEnvC scope cl C X.env) fp) tg1 iter1 (tI T X.K EF it1))
    (hg1 : ∀ (s : Shared) (H : Hp) (C : Addr) (cl : List (Str × Addr)) (fp : List Addr), PG (X.blk s H scope (compEnvC scope cl C X.env) fp) tg1 (gTg X.K tgt1)) (ht1 : ∀ (s : Shared) (H : Hp) (C : Addr) (cl : List (Str × Addr)) (fp : List Addr), PTs (X.blk s H scope (compEnvC scope cl C X.env) fp) ifs1 (DL.tB T X.K EF c1))
    (he : ∀ (s : Shared) (H : Hp) (C : Addr) (cl : List (Str × Addr)) (fp : List Addr), PE (X.blk s H scope (compEnvC scope cl C X.env) fp) elt (tW T X.K EF el)) (hs : ∀ x, foldedSetIterable iter X.env x = pure x) (hs1 : ∀ env x, foldedSetIterable iter1 env x = pure x) :
    PS X (.Assign [.Name y py] (.ListComp elt [⟨tg, iter, ifs, 0⟩, ⟨tg1, iter1, ifs1, 0⟩] scope pos) spos) (tS T X.K E (sAsg (.nm i) (mLc2 mt vs tgt it c vs1 tgt1 it1 c1 el))) := by
  subst hvs
  refine psM (ps_setLc2 (vs1 := vs1) hc hN hy hyl hsw hi ok (fun i hi => ?_) hg ht hi1 hg1 ht1 he hs hs1) ?_
  · have := List.all_eq_true.mp hv1 i hi
    simpa using this
  rintro D σ H ⟨F, al, S, ρ, g, e, h⟩
  refine lc2_sound (mt := mt) (fun i hi => ?_) (fun i hi => ?_) ((tW.toS g e h).imp fun x H1 ⟨F1, al1, S1, w, m, r, h1⟩ => h1.tg m.g r m.e)
  · have := List.all_eq_true.mp hsl i hi
    simpa using this
  · have := List.all_eq_true.mp hsl1 i hi
    simpa using this
end
end DL

set_option Elab.async false
set_option linter.all false
set_option maxRecDepth 100000
set_option maxHeartbeats 4000000
/-! Wx: sorted, pairs of ints in a list. -/
namespace DL
open PySem PySem.Spec L2
abbrev P2 := Int × Int
def pw (p : P2) : W := .tup [.int p.1, .int p.2]
def insP (x : P2) : List P2 → List P2
  | [] => [x]
  | y :: ys => if SrtO.lexB y x then y :: insP x ys else x :: y :: ys
def srtP : List P2 → List P2
  | [] => []
  | x :: xs => insP x (srtP xs)
def leP (a b : P2) : Prop := SrtO.lexB b a = false
theorem leP_iff {a b : P2} : leP a b ↔ a.1 < b.1 ∨ (a.1 = b.1 ∧ a.2 ≤ b.2) := by
  unfold leP
  rw [SrtO.lexB_no]
  omega
theorem insP_perm (x : P2) : ∀ ys : List P2, (insP x ys).Perm (x :: ys)
  | [] => .refl _
  | y :: ys => by
    unfold insP
    split
    · exact ((insP_perm x ys).cons y).trans (.swap x y ys)
    · exact .refl _
theorem srtP_perm : ∀ xs : List P2, (srtP xs).Perm xs
  | [] => .refl _
  | x :: xs => (insP_perm x _).trans ((srtP_perm xs).cons x)
theorem insP_sorted (x : P2) : ∀ {ys : List P2}, ys.Pairwise leP → (insP x ys).Pairwise leP
  | [], _ => List.pairwise_singleton _ _
  | y :: ys, h => by
    obtain ⟨h1, h2⟩ := List.pairwise_cons.mp h
    unfold insP
    split
    · rename_i hx
      refine List.pairwise_cons.mpr ⟨fun z hz => ?_, insP_sorted x h2⟩
      rcases List.mem_cons.mp ((insP_perm x ys).subset hz) with rfl | hz
      · rw [leP_iff]; have := SrtO.lexB_iff.mp hx; omega
      · exact h1 z hz
    · rename_i hx
      have hx' : SrtO.lexB y x = false := by simpa using hx
      refine List.pairwise_cons.mpr ⟨fun z hz => ?_, h⟩
      rcases List.mem_cons.mp hz with rfl | hz
      · exact hx'
      · have a := leP_iff.mp hx'
        have b := leP_iff.mp (h1 z hz)
        rw [leP_iff]; omega
theorem srtP_sorted : ∀ xs : List P2, (srtP xs).Pairwise leP
  | [] => .nil
  | x :: xs => insP_sorted x (srtP_sorted xs)
theorem leP_anti {a b : P2} (h : leP a b) (k : leP b a) : a = b := by
  have h := leP_iff.mp h
  have k := leP_iff.mp k
  exact Prod.ext (by omega) (by omega)
theorem sortedP_uniq : ∀ {xs ys : List P2}, xs.Perm ys → xs.Pairwise leP → ys.Pairwise leP → xs = ys
  | [], ys, p, _, _ => by rw [List.nil_perm.mp p]
  | x :: xs, [], p, _, _ => by have := p.length_eq; simp at this
  | x :: xs, y :: ys, p, h, k => by
    obtain ⟨h1, h2⟩ := List.pairwise_cons.mp h
    obtain ⟨k1, k2⟩ := List.pairwise_cons.mp k
    have rfl' : ∀ z : P2, leP z z := fun z => by rw [leP_iff]; omega
    have e : x = y := by
      refine leP_anti ?_ ?_
      · rcases List.mem_cons.mp (p.symm.subset (List.mem_cons_self ..)) with e | e
        · rw [e]; exact rfl' _
        · exact h1 _ e
      · rcases List.mem_cons.mp (p.subset (List.mem_cons_self ..)) with e | e
        · rw [e]; exact rfl' _
        · exact k1 _ e
    subst e
    rw [sortedP_uniq (List.perm_cons x |>.mp p) h2 k2]
/-- the V xs hold the pairs ps -/
inductive Prs (K : PySem.W.Frag) (H : Hp) : List V → List P2 → Prop where
  | nil : Prs K H [] []
  | cons {t : Addr} {p : P2} {xs : List V} {ps : List P2} : SqT K H t [.int p.1, .int p.2] → Prs K H xs ps → Prs K H (.ref t :: xs) (p :: ps)
theorem Prs.at {K : PySem.W.Frag} {H : Hp} {xs : List V} {ps : List P2} (h : Prs K H xs ps) : ∀ x ∈ xs, ∃ (t : Addr) (p : P2), x = .ref t ∧ SqT K H t [.int p.1, .int p.2] := by
  induction h with
  | nil => intro x hx; cases hx
  | cons q _ ih =>
    intro x hx
    rcases List.mem_cons.mp hx with rfl | hx
    · exact ⟨_, _, rfl, q⟩
    · exact ih x hx
def rSrtP (K : PySem.W.Frag) : List V → Hp → VK → Prop := fun vs H Q => ∃ (a : Addr) (xs : List V) (ps : List P2), vs = [V.ref a] ∧ SqL K H a xs ∧ Prs K H xs ps ∧
  ∀ (k : V → P2) (ys : List V) (p : Addr), xs.map k = ps → ys.Perm xs → ys.map k = srtP ps → H p = none → Q (.ref p) (upd H p (.lst ys))
open Classical in
theorem cr_srtP {X : Cx} : CallR X (.builtin "sorted") (rSrtP X.K) := by
  intro pins s σ H vs us Q I r h
  obtain ⟨a, xs, ps, rfl, hs, hp, q⟩ := h
  obtain ⟨its, rv, hl, hz⟩ := I.list hs
  rw [Vals.ref1 r]
  -- what each of them holds
  obtain ⟨k, hk⟩ : ∃ k : V → P2, ∀ (t : Addr) (p : P2), SqT X.K H t [.int p.1, .int p.2] → k (.ref t) = p := by
    refine ⟨fun v => if h : ∃ (t : Addr) (p : P2), v = .ref t ∧ SqT X.K H t [.int p.1, .int p.2] then h.choose_spec.choose else (0, 0), fun t p ht => ?_⟩
    have h : ∃ (t' : Addr) (p' : P2), V.ref t = .ref t' ∧ SqT X.K H t' [.int p'.1, .int p'.2] := ⟨t, p, rfl, ht⟩
    show (if h : ∃ (t' : Addr) (p' : P2), V.ref t = .ref t' ∧ SqT X.K H t' [.int p'.1, .int p'.2] then h.choose_spec.choose else (0, 0)) = p
    rw [dif_pos h]
    obtain ⟨e, hq⟩ := h.choose_spec.choose_spec
    have e2 : t = h.choose := by injection e
    generalize h.choose_spec.choose = p0 at hq ⊢
    rw [← e2] at hq
    have := I.tuple_inj hq ht
    injection this with i1 i2
    injection i2 with i2 _
    exact Prod.ext (V.int.inj i1) (V.int.inj i2)
  have hmap : xs.map k = ps := by
    clear rv hz hs q
    induction hp with
    | nil => rfl
    | cons ht _ ih => rw [List.map_cons, hk _ _ ht, ih]
  obtain ⟨e1, e2⟩ := refs_back rv fun x m => by
    obtain ⟨t, p, e, _⟩ := hp.at x m
    exact ⟨t, e⟩
  refine SrtO.sorted_pairsO (k := fun u => k (backV u)) hl.isList (by rw [← rv.length]; exact hz) (fun v hv => ?_) fun h' d out h1 h2 kp hd hn => ?_
  · obtain ⟨t, rfl⟩ := e2 v hv
    have hm : V.ref t ∈ xs := by rw [e1]; exact List.mem_map.mpr ⟨_, hv, rfl⟩
    obtain ⟨t', p, e, ht⟩ := hp.at _ hm
    cases e
    obtain ⟨its2, r2, ⟨o, ho, hc, n, hd⟩, _⟩ := I.tuple ht
    have hkt : k (backV (.ref t)) = p := hk t p ht
    rw [hkt]
    cases r2 with
    | cons ra rb =>
      cases rb with
      | cons rb rc =>
        cases rc
        obtain ⟨t1, rfl⟩ := ra
        obtain ⟨t2, rfl⟩ := rb
        exact ⟨t, o, t1, t2, n, rfl, ho, hc, hd⟩
  · have h3 : ∀ u ∈ out, ∃ a, u = Value.ref a := fun u hu => e2 u (h2.perm.mem_iff.mp hu)
    obtain ⟨n, hn⟩ := hn
    have hperm : (out.map backV).Perm xs := by rw [e1]; exact h2.perm.map backV
    have hsrt : ((out.map backV).map k).Pairwise leP := by
      rw [List.map_map, List.pairwise_map]
      exact h1
    have hfin : (out.map backV).map k = srtP ps := by
      refine sortedP_uniq ?_ hsrt (srtP_sorted ps)
      have h5 := hperm.map k
      rw [hmap] at h5
      exact h5.trans (srtP_perm ps).symm
    refine ⟨.ref d, upd H d (.lst (out.map backV)), I.laid (t' := s.toks) kp hd ⟨?_, out, n, vals_back h3, hn⟩, rfl, q k _ d hmap hperm hfin (I.hok.fresh hd)⟩
    rw [hperm.length_eq]
    exact hz
def allP : List W → Option (List P2)
  | [] => some []
  | .tup [.int a, .int b] :: ws => (allP ws).map ((a, b) :: ·)
  | _ => none
theorem allP_sound : ∀ {ws : List W} {ps : List P2}, allP ws = some ps → ws = ps.map pw
  | [], ps, e => by cases e; rfl
  | w :: ws, ps, e => by
    unfold allP at e
    split at e
    · rename_i h; cases h
    · rename_i a b ws' h
      cases h
      rw [Option.map_eq_some_iff] at e
      obtain ⟨qs, h1, rfl⟩ := e
      rw [List.map_cons, ← allP_sound h1]; rfl
    · cases e
def pairsOf (S : Sto) (x : W) : Option (List P2) := match deref S x with
  | .lst ws => allP ws
  | _ => none
def mSortedP (k : List W → Sto → Res) (a : Me) : Me := fun ρ S => (a ρ S).bind fun x S => match pairsOf S x with
  | some ps => k ((srtP ps).map pw) S
  | none => .bad
section
variable {T : Tab} {K : PySem.W.Frag} {F : Hp} {al : List Addr} {H : Hp} {S : Sto}
theorem prs_of (g : Good T K F al S H) : ∀ {xs : List V} {ps : List P2}, RwL T K F al xs (ps.map pw) → Prs K H xs ps
  | _, [], .nil => .nil
  | _, p :: ps, .cons a b => by
    obtain ⟨t, vs, rfl, h1, h2⟩ := (Vw.same (H := H) a).tup g.sub
    cases h2 with
    | cons a1 b1 =>
      cases b1 with
      | cons a2 b2 =>
        cases b2
        cases a1
        cases a2
        exact .cons h1 (prs_of g b)
theorem rw_at {k : V → P2} : ∀ {xs : List V} {ps : List P2}, RwL T K F al xs (ps.map pw) → xs.map k = ps → ∀ x ∈ xs, Rw T K F al x (pw (k x))
  | _, [], .nil, _ => fun x hx => by cases hx
  | _, p :: ps, .cons a b, e => fun x hx => by
    rw [List.map_cons] at e
    injection e with e1 e2
    rcases List.mem_cons.mp hx with rfl | hx
    · rw [e1]; exact a
    · exact rw_at b e2 x hx
theorem rwl_of {k : V → P2} : ∀ {ys : List V}, (∀ y ∈ ys, Rw T K F al y (pw (k y))) → RwL T K F al ys ((ys.map k).map pw)
  | [], _ => .nil
  | y :: ys, h => .cons (h y (List.mem_cons_self ..)) (rwl_of fun z hz => h z (List.mem_cons_of_mem _ hz))
end
section
variable {X : Cx} {T : Tab} {E : WX} {pos pp : Pos} {a : Expr} {p : Me}
theorem w_sortedP {k : List W → Sto → Res} (hk : k = kLst ∨ k = kNLst) (hg : Gl X "sorted") (hm : X.mg "sorted" = none) (ha : PE X a (tW T X.K E p)) (he : starEach [a] X.env = (false, eval a X.env) :: starEach [] X.env) : PE X (.Call (.Name "sorted" pp) [a] [] pos) (tW T X.K E (mSortedP k p)) := by
  refine peM (pe_callB cr_srtP hg hm PyProof.Rows.boot_sorted (pa_cons ha pa_nil he) (by decide) rfl he rfl) ?_
  rintro σ H Q ⟨F, al, S, ρ, g, e, h⟩
  refine (tW.bind g e h).imp fun x H1 ⟨F1, al1, S1, w, m, r, h1⟩ => ?_
  cases e : pairsOf S1 w with
  | none => rw [e] at h1; exact h1.elim
  | some ps =>
    rw [e] at h1
    unfold pairsOf at e
    split at e
    · rename_i ws e2
      have rx := vw_of m.g r
      rw [e2] at rx
      obtain ⟨q, ys, rfl, h3, h4⟩ := rx.lst m.g.sub
      rw [allP_sound e] at h4
      refine ⟨q, ys, ps, rfl, h3, prs_of m.g h4, fun kk zs pp hmap hperm hys hp => ?_⟩
      have h5 : RwL T X.K F1 al1 zs ((srtP ps).map pw) := by
        rw [← hys]
        exact rwl_of fun y hy => rw_at h4 hmap y (hperm.subset hy)
      rcases hk with rfl | rfl
      · exact RQ.newL h1 m.g h5 hp
      · exact RQ.newC h1 m.g h5 hp
    · cases e
end
end DL

set_option Elab.async false
set_option linter.all false
set_option maxRecDepth 100000
set_option maxHeartbeats 4000000
/-! Xa: sorted, items of any plain data. -/
namespace DL
open PySem PySem.Spec L2
def nonE : W → Bool
  | .tup (_ :: _) => true
  | _ => false
def noT : W → Bool
  | .int _ => true
  | .bl _ => true
  | .str _ => true
  | .lst _ => true
  | _ => false
def srtOk (ws : List W) : Bool := W.plainL 60 ws && (ws.all fun a => ws.all fun b => PySem.W.alike (toP a) (toP b)) && (ws.all nonE || ws.all noT)
def leW (a b : W) : Bool := PySem.W.dataLe false toP a b
def srtW (ws : List W) : List W := ws.mergeSort leW
theorem plainL_mem : ∀ {n : Nat} {ws : List W} {w : W}, W.plainL n ws = true → w ∈ ws → W.plain n w = true
  | n, a :: as, w, h, hm => by
    rw [W.plainL, Bool.and_eq_true] at h
    rcases List.mem_cons.mp hm with rfl | hm
    · exact h.1
    · exact plainL_mem h.2 hm
theorem srtOk_alike {ws : List W} (h : srtOk ws = true) : PySem.W.AllAlike (ws.map toP) := by
  unfold srtOk at h
  rw [Bool.and_eq_true, Bool.and_eq_true] at h
  have h2 := h.1.2
  intro d hd d' hd'
  obtain ⟨a, ha, rfl⟩ := List.mem_map.mp hd
  obtain ⟨b, hb, rfl⟩ := List.mem_map.mp hd'
  exact List.all_eq_true.mp (List.all_eq_true.mp h2 a ha) b hb
theorem srtOk_sortable {ws : List W} (h : srtOk ws = true) : PySem.W.Sortable (ws.map toP) := by
  unfold srtOk at h
  rw [Bool.and_eq_true, Bool.and_eq_true, Bool.or_eq_true] at h
  rcases h.2 with h | h
  · refine .inl fun d hd => ?_
    obtain ⟨a, ha, rfl⟩ := List.mem_map.mp hd
    have := List.all_eq_true.mp h a ha
    unfold nonE at this
    split at this
    · exact ⟨_, _, rfl⟩
    · cases this
  · refine .inr fun d hd => ?_
    obtain ⟨a, ha, rfl⟩ := List.mem_map.mp hd
    have := List.all_eq_true.mp h a ha
    unfold noT at this
    split at this
    · exact ⟨fun e => (by cases e), fun xs e => (by cases e)⟩
    · exact ⟨fun e => (by cases e), fun xs e => (by cases e)⟩
    · exact ⟨fun e => (by cases e), fun xs e => (by cases e)⟩
    · exact ⟨fun e => (by cases e), fun xs e => (by cases e)⟩
    · cases this
abbrev leB (a b : V × W) : Bool := PySem.W.dataLe false (fun p : V × W => toP p.2) a b
def rSrtD (K : PySem.W.Frag) : List V → Hp → VK → Prop := fun vs H Q => ∃ (a : Addr) (bs : List (V × W)), vs = [V.ref a] ∧ SqL K H a (bs.map (·.1)) ∧ (∀ b ∈ bs, Dp K H b.1 (toP b.2)) ∧ srtOk (bs.map (·.2)) = true ∧
  ∀ p, H p = none → Q (.ref p) (upd H p (.lst ((bs.mergeSort leB).map (·.1))))
section
variable {X : Cx} {pins : List (Addr × Obj)} {σ : St} {H : Hp} {s : Shared}
theorem each_of (I : Inv X pins σ H s) : ∀ {bs : List (V × W)} {its : List Value}, (∀ b ∈ bs, Dp X.K H b.1 (toP b.2)) → Vals (bs.map (·.1)) its → PySem.W.EachIs (fun v (b : V × W) => RelV b.1 v) its bs ∧ PySem.W.EachIs (fun v (b : V × W) => ∃ as, Reads s.heap v (toP b.2) as) its bs
  | [], its, _, r => by
    cases r
    exact ⟨.nil, .nil⟩
  | b :: bs, its, h, r => by
    rw [List.map_cons] at r
    cases r with
    | cons r1 r2 =>
      obtain ⟨h1, h2⟩ := each_of I (fun c hc => h c (List.mem_cons_of_mem _ hc)) r2
      exact ⟨.cons r1 h1, .cons (Dp.reads I _ _ _ (h b (List.mem_cons_self ..)) r1) h2⟩
theorem vals_of : ∀ {bs : List (V × W)} {its : List Value}, PySem.W.EachIs (fun v (b : V × W) => RelV b.1 v) its bs → Vals (bs.map (·.1)) its
  | [], its, r => by
    cases r
    exact .nil
  | b :: bs, its, r => by
    cases r with
    | cons r1 r2 => exact .cons r1 (vals_of r2)
end
theorem cr_srtD {X : Cx} (hu : X.A.units + 64 < cLine) : CallR X (.builtin "sorted") (rSrtD X.K) := by
  intro pins s σ H vs us Q I r h
  obtain ⟨a, bs, rfl, hs, hd, hok, q⟩ := h
  obtain ⟨its, rv, hl, hz⟩ := I.list hs
  rw [Vals.ref1 r]
  obtain ⟨e1, e2⟩ := each_of I hd rv
  have hmm : (bs.map fun b => toP b.2) = (bs.map (·.2)).map toP := by rw [List.map_map]; rfl
  have hal := srtOk_alike hok
  have hso := srtOk_sortable hok
  rw [← hmm] at hal hso
  have hpl : ∀ b, b ∈ bs → X.A.units + 2 + (toP b.2).depth < cLine := fun b hb => by
    unfold srtOk at hok
    rw [Bool.and_eq_true, Bool.and_eq_true] at hok
    have := (plain_lay 60 b.2 (plainL_mem hok.1.1 (List.mem_map.mpr ⟨b, hb, rfl⟩))).2
    omega
  rw [List.length_map] at hz
  refine PySem.W.sorted_data (R := fun v (b : V × W) => RelV b.1 v) (enc := fun b => toP b.2) hl.isList e1 e2 hal hso hz hpl fun out ho eo => ?_
  obtain ⟨n, hn⟩ := PyProof.Rows.sortedAll_at s.heap its out.toArray
  have hv := vals_of eo
  refine ⟨.ref _, upd H _ (.lst ((bs.mergeSort leB).map (·.1))), I.laid (t' := s.toks) (fun _ _ => PyProof.Rows.sortedAll_old) (Nat.le_succ _) ⟨?_, out, n, hv, hn⟩, rfl, q _ (I.hok.fresh (Nat.le_succ _))⟩
  rw [List.length_map, List.length_mergeSort]
  exact hz
def dataOf (S : Sto) (x : W) : Option (List W) := match deref S x with
  | .lst ws => if srtOk ws then some ws else none
  | _ => none
def mSortedD (k : List W → Sto → Res) (a : Me) : Me := fun ρ S => (a ρ S).bind fun x S => match dataOf S x with
  | some ws => k (srtW ws) S
  | none => .bad
section
variable {T : Tab} {K : PySem.W.Frag} {F : Hp} {al : List Addr} {H : Hp} {S : Sto}
theorem pair_up : ∀ {xs : List V} {ws : List W}, RwL T K F al xs ws → ∃ bs : List (V × W), xs = bs.map (·.1) ∧ ws = bs.map (·.2) ∧ ∀ b ∈ bs, Rw T K F al b.1 b.2
  | _, _, .nil => ⟨[], rfl, rfl, fun b h => by cases h⟩
  | _, _, .cons (v := v) (w := w) a b => by
    obtain ⟨bs, h1, h2, h3⟩ := pair_up b
    refine ⟨(v, w) :: bs, by rw [h1]; rfl, by rw [h2]; rfl, fun c hc => ?_⟩
    rcases List.mem_cons.mp hc with rfl | hc
    · exact a
    · exact h3 c hc
theorem rwl_bs : ∀ {bs : List (V × W)}, (∀ b ∈ bs, Rw T K F al b.1 b.2) → RwL T K F al (bs.map (·.1)) (bs.map (·.2))
  | [], _ => .nil
  | b :: bs, h => .cons (h b (List.mem_cons_self ..)) (rwl_bs fun c hc => h c (List.mem_cons_of_mem _ hc))
end
section
variable {X : Cx} {T : Tab} {E : WX} {pos pp : Pos} {a : Expr} {p : Me}
theorem w_sortedD {n : Nat} (hr : Room n X.A) {k : List W → Sto → Res} (hk : k = kLst ∨ k = kNLst) (hg : Gl X "sorted") (hm : X.mg "sorted" = none) (ha : PE X a (tW T X.K E p)) (he : starEach [a] X.env = (false, eval a X.env) :: starEach [] X.env) : PE X (.Call (.Name "sorted" pp) [a] [] pos) (tW T X.K E (mSortedD k p)) := by
  refine peM (pe_callB (cr_srtD hr.units) hg hm PyProof.Rows.boot_sorted (pa_cons ha pa_nil he) (by decide) rfl he rfl) ?_
  rintro σ H Q ⟨F, al, S, ρ, g, e, h⟩
  refine (tW.bind g e h).imp fun x H1 ⟨F1, al1, S1, w, m, r, h1⟩ => ?_
  cases e : dataOf S1 w with
  | none => rw [e] at h1; exact h1.elim
  | some ws =>
    rw [e] at h1
    unfold dataOf at e
    split at e
    · rename_i ws' e2
      split at e
      · rename_i hok
        cases e
        have rx := vw_of m.g r
        rw [e2] at rx
        obtain ⟨q, ys, rfl, h3, h4⟩ := rx.lst m.g.sub
        obtain ⟨bs, rfl, rfl, h5⟩ := pair_up h4
        have hpl : W.plainL 60 (bs.map (·.2)) = true := by
          unfold srtOk at hok
          rw [Bool.and_eq_true, Bool.and_eq_true] at hok
          exact hok.1.1
        refine ⟨q, bs, rfl, h3, fun b hb => (h5 b hb).dp m.g.sub 60 (plainL_mem hpl (List.mem_map.mpr ⟨b, hb, rfl⟩)), hok, fun pp hp => ?_⟩
        have h6 : RwL T X.K F1 al1 ((bs.mergeSort leB).map (·.1)) (srtW (bs.map (·.2))) := by
          have e3 : srtW (bs.map (·.2)) = (bs.mergeSort leB).map (·.2) := (PySem.W.sort_maps (fun b : V × W => b.2) fun a _ b _ => rfl).symm
          rw [e3]
          exact rwl_bs fun b hb => h5 b (List.mem_mergeSort.mp hb)
        rcases hk with rfl | rfl
        · exact RQ.newL h1 m.g h6 hp
        · exact RQ.newC h1 m.g h6 hp
      · cases e
    · cases e
end
end DL

set_option Elab.async false
set_option linter.all false
set_option maxRecDepth 100000
set_option maxHeartbeats 4000000
/-! Xb: index, in a list of any plain data. -/
namespace DL
open PySem PySem.Spec L2
def isLstW : W → Bool
  | .lst _ => true
  | _ => false
def idxRD (x y : W) (S : Sto) : Res := match x with
  | .lst ws => if W.plainL 60 ws && W.plain 60 y then (match idxW y ws with | some j => .ok (.int (j : Nat)) S | none => .bad) else .bad
  | _ => .bad
def mIndexD (a b : Me) : Me := fun ρ S => (a ρ S).bind fun x S => if isLstW x then (b ρ S).bind fun y S => idxRD x (deref S y) S else .bad
theorem toPL_get : ∀ {ws : List W} {j : Nat} {w : W}, ws[j]? = some w → (toPL ws)[j]? = some (toP w)
  | a :: ws, 0, w, h => by cases h; rfl
  | a :: ws, j + 1, w, h => toPL_get (ws := ws) (j := j) h
theorem toPL_getV : ∀ {ws : List W} {j : Nat} {d : PyData}, (toPL ws)[j]? = some d → ∃ w, ws[j]? = some w ∧ d = toP w
  | a :: ws, 0, d, h => by cases h; exact ⟨a, rfl, rfl⟩
  | a :: ws, j + 1, d, h => toPL_getV (ws := ws) (j := j) h
theorem shaped_lst {ws : List W} (h : W.plainL 60 ws = true) : SeqAt.shaped (.list (toPL ws)) = true := by
  obtain ⟨h1, h2⟩ := plain_layL 60 ws h
  have c2 : (PyData.list (toPL ws)).canLay0 = true := by simpa only [PyData.canLay0] using h1
  have d2 : (PyData.list (toPL ws)).depth ≤ 64 := by simp only [PyData.depth]; omega
  show ((PyData.list (toPL ws)).canLay0 && decide ((PyData.list (toPL ws)).depth ≤ 64)) = true
  rw [c2, decide_eq_true d2]; rfl
section
variable {X : Cx} {T : Tab} {E : WX} {pos pp : Pos} {a b c : Expr} {p q r : Me} {es : List Expr} {ps : Ml}
theorem w_indexD {n : Nat} (hr : Room n X.A) {apos : Pos} (ha : PE X a (tW T X.K E p)) (hb : PE X b (tW T X.K E q)) (hbase : attributeBase a "index" X.env (eval a X.env) = eval a X.env)
    (hfew : ((backTo pos (starEach [b] X.env)).all (fun x => !x.1) && (backToKw pos (keywordEach [] X.env)).all (fun x => x.1.isSome) && decide ([b].length + ([] : List Keyword).length + (if ([] : List Keyword).isEmpty then 0 else 1) < 30)) = true)
    (hline : (apos.endLine == pos.line) = true) (hs : starEach [b] X.env = (false, eval b X.env) :: starEach [] X.env) (hplain : (backTo pos (starEach [] X.env)).any (·.1) = false) :
    PE X (.Call (.Attribute a "index" apos) [b] [] pos) (tW T X.K E (mIndexD p q)) := by
  refine ⟨fun pins s σ H Q I h0 => ?_⟩
  obtain ⟨F, al, S, ρ, g, e, h0⟩ := h0
  refine wpAny_Call_method_late hbase hfew hline rfl (thn (ha.run pins s σ H _ I (tW.bind g e h0)) fun v s1 ⟨x, H1, I1, r1, F1, al1, S1, w, m, r, h1⟩ => ?_)
  split at h1
  case isFalse => exact h1.elim
  cases r with
  | @lst pa xs ws hq hr0 =>
    cases r1
    have hq1 := sqL_mono m.g.sub hq
    obtain ⟨its, rv, ⟨o, n0, ho, hc, hdn, hdt⟩, hlen⟩ := I1.list hq1
    refine ⟨"list", "list.index", PySem.F.plainAttrs_list, PySem.F.slot_list_index, PySem.F.type_list_index, ⟨o, ho, hc⟩, fun a e => ?_, ?_⟩
    · cases e; exact ⟨o, ho, hdn⟩
    · have hA := (pa_cons hb pa_nil hs).run pos pins s1 σ H1 (fun vs H2 => rIndexD X.K (.ref pa) vs H2 Q) I1 ((tW.bind m.g m.e h1).imp fun y H2 ⟨F2, al2, S2, u, m2, r2, h2⟩ => (show rIndexD X.K (.ref pa) [y] H2 Q from by
        replace h2 : RQ T X.K E σ F2 al2 H2 (if W.plainL 60 ws && W.plain 60 (deref S2 u) then (match idxW (deref S2 u) ws with | some j => .ok (.int (j : Nat)) S2 | none => .bad) else .bad) Q := h2
        split at h2
        · rename_i hf
          rw [Bool.and_eq_true] at hf
          split at h2
          · rename_i j hj
            obtain ⟨z, h3, h4, h5⟩ := idxW_some hj
            have hr2 := hr0.post m2.p
            have hsq : SqL X.K F2 pa xs := sqL_mono m2.p.ext hq
            refine ⟨pa, y, toP (deref S2 u), toPL ws, j, toP z, rfl, rfl, .lst (sqL_mono m2.g.sub hsq) (RwL.dp m2.g.sub 60 hr2 hf.1), (vw_of m2.g r2).dp m2.g.sub hf.2, shaped_lst hf.1, plain_shaped hf.2, toPL_get h3, ?_, ?_, h2.val m2.g (.int _)⟩
            · rw [plain_eqv 60 60 _ _ (plainL_mem hf.1 (List.mem_of_getElem? h3)) hf.2]; exact h4
            · intro mm z' hm hz'
              obtain ⟨zw, h8, rfl⟩ := toPL_getV hz'
              rw [plain_eqv 60 60 _ _ (plainL_mem hf.1 (List.mem_of_getElem? h8)) hf.2]
              exact h5 mm zw hm h8
          · exact h2.elim
        · exact h2.elim))
      rw [hs] at hA ⊢
      refine Calls.callWith_builtin (by show (false || (backTo pos (starEach [] X.env)).any (·.1)) = false; rw [hplain] <;> rfl) (Calls.evalArgs_plain ?_)
      exact thn hA fun us s2 ⟨vs, H2, I2, r2, q2⟩ => mt_indexD (by have := hr.un; omega) pins s2 σ H2 (.ref pa) vs (.ref pa) us Q I2 rfl r2 q2
  | _ => rename_i hw; cases hw
end
end DL

set_option Elab.async false
set_option linter.all false
set_option maxRecDepth 100000
set_option maxHeartbeats 4000000
/-! PLib: the program's defs and the laws' common defs as functions on data, printed by mklib.py. -/
namespace DL
open PySem PySem.Spec L2
def flds : List Str := ["wheels", "rules", "states", "deeds", "begin", "length", "at", "rule", "wheel", "place", "beats"]
theorem fldN0 : flds.Nodup := by decide +kernel
def tab (P : Program) (w : World) (K : PySem.W.Frag) : Tab := ⟨flds, [He.ga K "Book", He.ga K "Track", He.ga K "Watch", He.ga K "Desk", He.ga K "NoBook", He.ga K "NoSeen", He.ga K "NoText", He.ga K "NoRule", He.ga K "NoWheel", He.ga K "NoPlace", He.ga K "NoBeat", He.ga K "HushError", He.ga K "NoState", He.ga K "NoOrder", He.ga K "NoOff", He.ga K "NoWish", He.ga K "NoSaying", He.ga K "Unlike", He.ga K "Nothing"], P, w⟩
theorem fldN {P : Program} {w : World} {K : PySem.W.Frag} : (tab P w K).fld.Nodup := fldN0
def f__law_bag : Fn := fnW 2 5 (sSeq (sAsg (.nm 2) (mCon (.int 0))) (sSeq (sIf (bTest (mCmp .Lt (mVar 1) (mPrim .len (mCons (mVar 0) (mNil))))) (sSeq (sAsg (.nm 2) (mIdx (mVar 0) (mVar 1))) (sNext)) (sNext)) (sSeq (sAsg (.nm 3) (mCon (.int 0))) (sSeq (sIf (bTest (mCmp .GtE (mPrim .abs (mCons (mVar 2) (mNil))) (mBin .Pow (mCon (.int 10)) (mCon (.int 18))))) (sSeq (sAsg (.nm 3) (mPrim .abs (mCons (mVar 2) (mNil)))) (sNext)) (sNext)) (sSeq (sAsg (.nm 4) (mLst (mCons (mCon (.int 2147483629)) (mCons (mCon (.int 2147483587)) (mCons (mCon (.int 2147483579)) (mCons (mCon (.int 2147483563)) (mCons (mCon (.int 2147483549)) (mCons (mCon (.int 2147483543)) (mCons (mCon (.int 2147483497)) (mCons (mCon (.int 2147483489)) (mNil))))))))))) (sSeq (sRet (mNLst (mCons (mVar 3) (mCons (mBin .Mod (mBin .Pow (mBin .Add (mBin .Add (mBin .Mod (mVar 2) (mCon (.int 2147483647))) (mBin .Mult (mCon (.int 104729)) (mVar 1))) (mCon (.int 7))) (mCon (.int 5))) (mIdx (mVar 4) (mBin .Mod (mVar 1) (mCon (.int 8))))) (mCons (mCon (.int 0)) (mNil)))))) (sNext)))))))
def f__law_take : Fn := fnW 2 3 (sSeq (sIf (bTest (mCmp .Gt (mIdx (mVar 0) (mCon (.int 0))) (mCon (.int 0)))) (sSeq (sAsg (.nm 2) (mBin .Mod (mIdx (mVar 0) (mCon (.int 0))) (mVar 1))) (sSeq (sSetIx (mVar 0) (mCon (.int 0)) (mBin .FloorDiv (mIdx (mVar 0) (mCon (.int 0))) (mVar 1))) (sSeq (sRet (mVar 2)) (sNext)))) (sNext)) (sSeq (sSetIx (mVar 0) (mCon (.int 2)) (mBin .Add (mIdx (mVar 0) (mCon (.int 2))) (mCon (.int 1)))) (sSeq (sSetIx (mVar 0) (mCon (.int 1)) (mBin .Mod (mBin .Add (mBin .Add (mBin .Mult (mIdx (mVar 0) (mCon (.int 1))) (mCon (.int 48271))) (mBin .Mult (mBin .Mult (mCon (.int 7919)) (mIdx (mVar 0) (mCon (.int 2)))) (mIdx (mVar 0) (mCon (.int 2))))) (mCon (.int 11))) (mCon (.int 2147483647)))) (sSeq (sRet (mBin .Mod (mBin .Mod (mBin .Pow (mBin .FloorDiv (mIdx (mVar 0) (mCon (.int 1))) (mCon (.int 8))) (mCon (.int 3))) (mCon (.int 2147483629))) (mVar 1))) (sNext)))))
def f__law_condition : Fn := fnW 3 5 (sSeq (sAsg (.nm 3) (mIdx (mTup (mCons (mCon (.str "is")) (mCons (mCon (.str "is")) (mCons (mCon (.str "not")) (mCons (mCon (.str "below")) (mCons (mCon (.str "hushed")) (mCons (mCon (.str "awake")) (mNil)))))))) (mCall f__law_take (mCons (mVar 0) (mCons (mCon (.int 6)) (mNil)))))) (sSeq (sIf (bTest (mCmp .In (mVar 3) (mTup (mCons (mCon (.str "hushed")) (mCons (mCon (.str "awake")) (mNil)))))) (sSeq (sRet (mTup (mCons (mVar 3) (mCons (mCall f__law_take (mCons (mVar 0) (mCons (mVar 2) (mNil)))) (mNil))))) (sNext)) (sNext)) (sSeq (sAsg (.nm 4) (mCall f__law_take (mCons (mVar 0) (mCons (mPrim .len (mCons (mVar 1) (mNil))) (mNil))))) (sSeq (sRet (mTup (mCons (mVar 3) (mCons (mVar 4) (mCons (mCall f__law_take (mCons (mVar 0) (mCons (mIdx (mVar 1) (mVar 4)) (mNil)))) (mNil)))))) (sNext)))))
def f__law_change : Fn := fnW 2 3 (sSeq (sAsg (.nm 2) (mCall f__law_take (mCons (mVar 0) (mCons (mPrim .len (mCons (mVar 1) (mNil))) (mNil))))) (sSeq (sRet (mTup (mCons (mIdx (mTup (mCons (mCon (.str "turn")) (mCons (mCon (.str "turn")) (mCons (mCon (.str "put")) (mNil))))) (mCall f__law_take (mCons (mVar 0) (mCons (mCon (.int 3)) (mNil))))) (mCons (mVar 2) (mCons (mCall f__law_take (mCons (mVar 0) (mCons (mIdx (mVar 1) (mVar 2)) (mNil)))) (mNil)))))) (sNext)))
def b__law_rule_1 : Ms := sSeq (sAsg (.nm 8) (mCall f__law_take (mCons (mVar 0) (mCons (mCon (.int 5)) (mNil))))) (sSeq (sIf (bTest (mCmp .Eq (mVar 8) (mCon (.int 0)))) (sSeq (sExpr (mApp (mVar 5) (mTup (mCons (mVar 7) (mCons (mBin .Add (mCon (.int 1)) (mCall f__law_take (mCons (mVar 0) (mCons (mCon (.int 3)) (mNil))))) (mNil)))))) (sNext)) (sNext)) (sSeq (sIf (bTest (mCmp .Eq (mVar 8) (mCon (.int 1)))) (sSeq (sExpr (mApp (mVar 6) (mVar 7))) (sNext)) (sNext)) (sNext)))
def f__law_rule : Fn := fnW 3 10 (sSeq (sAsg (.nm 3) (mLc false [9] (.nm 9) (jRange1 (mIdx (mTup (mCons (mCon (.int 1)) (mCons (mCon (.int 1)) (mCons (mCon (.int 0)) (mCons (mCon (.int 2)) (mCons (mCon (.int 3)) (mCons (mCon (.int 4)) (mNil)))))))) (mCall f__law_take (mCons (mVar 0) (mCons (mCon (.int 6)) (mNil)))))) (bYes) (mCall f__law_condition (mCons (mVar 0) (mCons (mVar 1) (mCons (mVar 2) (mNil))))))) (sSeq (sAsg (.nm 4) (mLc false [9] (.nm 9) (jRange1 (mIdx (mTup (mCons (mCon (.int 1)) (mCons (mCon (.int 1)) (mCons (mCon (.int 2)) (mCons (mCon (.int 0)) (mCons (mCon (.int 3)) (mNil))))))) (mCall f__law_take (mCons (mVar 0) (mCons (mCon (.int 5)) (mNil)))))) (bYes) (mCall f__law_change (mCons (mVar 0) (mCons (mVar 1) (mNil)))))) (sSeq (sPar [5, 6] (mCons (mNLst (mNil)) (mCons (mNLst (mNil)) (mNil)))) (sSeq (sFor (jRange1 (mVar 2)) (.nm 7) (b__law_rule_1)) (sSeq (sRet (mTup (mCons (mPrim .tuple (mCons (mVar 3) (mNil))) (mCons (mPrim .tuple (mCons (mVar 4) (mNil))) (mCons (mPrim .tuple (mCons (mVar 5) (mNil))) (mCons (mPrim .tuple (mCons (mVar 6) (mNil))) (mNil))))))) (sNext))))))
def f_is_row : Fn := fnW 2 2 (sSeq (sRet (mAnd (mIsi .tuple (mVar 0)) (mCmp .LtE (mPrim .len (mCons (mVar 0) (mNil))) (mVar 1)))) (sNext))
def b_how_many_1 : Ms := sSeq (sAug .Mult 1 (mVar 2)) (sNext)
def f_how_many : Fn := fnW 1 3 (sSeq (sAsg (.nm 1) (mCon (.int 1))) (sSeq (sFor (jE (mVar 0)) (.nm 2) (b_how_many_1)) (sSeq (sRet (mVar 1)) (sNext))))
def f_is_whole : Fn := fnW 1 1 (sSeq (sRet (mAnd (mIsi .int (mVar 0)) (mNot (mIsi .bool (mVar 0))))) (sNext))
def f_is_from : Fn := fnW 3 3 (sSeq (sRet (mAnd (mCallP f_is_whole (mCons (mVar 0) (mNil))) (mChain .LtE .Lt (mVar 1) (mVar 0) (mVar 2)))) (sNext))
def f_are_wheels : Fn := fnW 1 2 (sSeq (sIf (bOr (bNot (bTest (mCallP f_is_row (mCons (mVar 0) (mCons (mCon (.int 3)) (mNil)))))) (bTest (mCmp .Eq (mVar 0) (mTup (mNil))))) (sSeq (sRet (mCon (.bl false))) (sNext)) (sNext)) (sSeq (sRet (mAnd (mPrim .all (mCons (mLc false [1] (.nm 1) (jE (mVar 0)) (bYes) (mCallP f_is_from (mCons (mVar 1) (mCons (mCon (.int 2)) (mCons (mBin .Add (mCon (.int 4)) (mCon (.int 1))) (mNil)))))) (mNil))) (mCmp .LtE (mCallP f_how_many (mCons (mVar 0) (mNil))) (mCon (.int 24))))) (sNext)))
def f_are_rising : Fn := fnW 1 3 (sSeq (sRet (mPrim .all (mCons (mLc false [1, 2] (.tup [1, 2]) (jZip (mVar 0) (mSlc (mVar 0) (mPart (mCon (.int 1))) (mCon .non))) (bYes) (mCmp .Lt (mVar 1) (mVar 2))) (mNil)))) (sNext))
def f_is_hush : Fn := fnW 2 2 (sSeq (sIf (bOr (bNot (bTest (mIsi .tuple (mVar 1)))) (bTest (mCmp .NotEq (mPrim .len (mCons (mVar 1) (mNil))) (mCon (.int 2))))) (sSeq (sRet (mCon (.bl false))) (sNext)) (sNext)) (sSeq (sRet (mAnd (mCallP f_is_from (mCons (mIdx (mVar 1) (mCon (.int 0))) (mCons (mCon (.int 0)) (mCons (mVar 0) (mNil))))) (mCallP f_is_from (mCons (mIdx (mVar 1) (mCon (.int 1))) (mCons (mCon (.int 1)) (mCons (mBin .Add (mCon (.int 3)) (mCon (.int 1))) (mNil))))))) (sNext)))
def f_are_hushes : Fn := fnW 2 5 (sSeq (sIf (bOr (bNot (bTest (mIsi .tuple (mVar 1)))) (bNot (bTest (mPrim .all (mCons (mLc false [4] (.nm 4) (jE (mVar 1)) (bYes) (mCallP f_is_hush (mCons (mVar 0) (mCons (mVar 4) (mNil))))) (mNil)))))) (sSeq (sRet (mCon (.bl false))) (sNext)) (sNext)) (sSeq (sRet (mCallP f_are_rising (mCons (mLc false [2, 3] (.tup [2, 3]) (jE (mVar 1)) (bYes) (mVar 2)) (mNil)))) (sNext)))
def f_are_rules_numbers : Fn := fnW 2 3 (sSeq (sRet (mAnd (mIsi .tuple (mVar 0)) (mAnd (mPrim .all (mCons (mLc false [2] (.nm 2) (jE (mVar 0)) (bYes) (mCallP f_is_from (mCons (mVar 2) (mCons (mCon (.int 0)) (mCons (mVar 1) (mNil)))))) (mNil))) (mCallP f_are_rising (mCons (mVar 0) (mNil)))))) (sNext))
def f_is_worded : Fn := fnW 3 3 (sSeq (sRet (mAnd (mIsi .tuple (mVar 0)) (mAnd (mCmp .Eq (mPrim .len (mCons (mVar 0) (mNil))) (mVar 2)) (mAnd (mIsi .str (mIdx (mVar 0) (mCon (.int 0)))) (mCmp .In (mIdx (mVar 0) (mCon (.int 0))) (mVar 1)))))) (sNext))
def f_is_placed : Fn := fnW 3 6 (sSeq (sIf (bNot (bTest (mCallP f_is_worded (mCons (mVar 1) (mCons (mVar 2) (mCons (mCon (.int 3)) (mNil))))))) (sSeq (sRet (mCon (.bl false))) (sNext)) (sNext)) (sSeq (sAsg (.tup [3, 4, 5]) (mVar 1)) (sSeq (sRet (mAnd (mCallP f_is_from (mCons (mVar 4) (mCons (mCon (.int 0)) (mCons (mPrim .len (mCons (mVar 0) (mNil))) (mNil))))) (mCallP f_is_from (mCons (mVar 5) (mCons (mCon (.int 0)) (mCons (mIdx (mVar 0) (mVar 4)) (mNil))))))) (sNext))))
def f_is_condition : Fn := fnW 3 3 (sSeq (sIf (bTest (mCallP f_is_worded (mCons (mVar 2) (mCons (mCon (.tup [.str "hushed", .str "awake"])) (mCons (mCon (.int 2)) (mNil)))))) (sSeq (sRet (mCallP f_is_from (mCons (mIdx (mVar 2) (mCon (.int 1))) (mCons (mCon (.int 0)) (mCons (mVar 1) (mNil)))))) (sNext)) (sNext)) (sSeq (sRet (mCallP f_is_placed (mCons (mVar 0) (mCons (mVar 2) (mCons (mCon (.tup [.str "is", .str "not", .str "below"])) (mNil)))))) (sNext)))
def f_is_rule : Fn := fnW 3 10 (sSeq (sIf (bOr (bNot (bTest (mIsi .tuple (mVar 2)))) (bTest (mCmp .NotEq (mPrim .len (mCons (mVar 2) (mNil))) (mCon (.int 4))))) (sSeq (sRet (mCon (.bl false))) (sNext)) (sNext)) (sSeq (sAsg (.tup [3, 4, 5, 6]) (mVar 2)) (sSeq (sIf (bOr (bNot (bTest (mCallP f_is_row (mCons (mVar 3) (mCons (mCon (.int 4)) (mNil)))))) (bNot (bTest (mPrim .all (mCons (mLc false [9] (.nm 9) (jE (mVar 3)) (bYes) (mCallP f_is_condition (mCons (mVar 0) (mCons (mVar 1) (mCons (mVar 9) (mNil)))))) (mNil)))))) (sSeq (sRet (mCon (.bl false))) (sNext)) (sNext)) (sSeq (sIf (bOr (bNot (bTest (mCallP f_is_row (mCons (mVar 4) (mCons (mCon (.int 3)) (mNil)))))) (bNot (bTest (mPrim .all (mCons (mLc false [9] (.nm 9) (jE (mVar 4)) (bYes) (mCallP f_is_placed (mCons (mVar 0) (mCons (mVar 9) (mCons (mCon (.tup [.str "put", .str "turn"])) (mNil)))))) (mNil)))))) (sSeq (sRet (mCon (.bl false))) (sNext)) (sNext)) (sSeq (sIf (bOr (bNot (bTest (mCallP f_are_hushes (mCons (mVar 1) (mCons (mVar 5) (mNil)))))) (bNot (bTest (mCallP f_are_rules_numbers (mCons (mVar 6) (mCons (mVar 1) (mNil))))))) (sSeq (sRet (mCon (.bl false))) (sNext)) (sNext)) (sSeq (sRet (mNot (mPrim .any (mCons (mLc false [7, 8] (.tup [7, 8]) (jE (mVar 5)) (bYes) (mCmp .In (mVar 7) (mVar 6))) (mNil))))) (sNext)))))))
def b_look_book_1 : Ms := sSeq (sIf (bNot (bTest (mCallP f_is_rule (mCons (mVar 0) (mCons (mPrim .len (mCons (mVar 1) (mNil))) (mCons (mVar 3) (mNil))))))) (sSeq (sNever) (sNext)) (sNext)) (sNext)
def f_look_book : Fn := fnW 2 4 (sSeq (sIf (bOr (bNot (bTest (mCallP f_are_wheels (mCons (mVar 0) (mNil))))) (bNot (bTest (mCallP f_is_row (mCons (mVar 1) (mCons (mCon (.int 5)) (mNil))))))) (sSeq (sNever) (sNext)) (sNext)) (sSeq (sFor (jEnum 0 (mVar 1)) (.tup [2, 3]) (b_look_book_1)) (sNext)))
def f_Book___init__ : Fn := fnW 3 3 (sSeq (sExpr (mCallP f_look_book (mCons (mVar 1) (mCons (mVar 2) (mNil))))) (sSeq (sSetFld 0 0 (mVar 0) (mVar 1)) (sSeq (sSetFld 0 1 (mVar 0) (mVar 2)) (sNext))))
def f_are_values : Fn := fnW 2 4 (sSeq (sIf (bOr (bNot (bTest (mIsi .tuple (mVar 1)))) (bTest (mCmp .NotEq (mPrim .len (mCons (mVar 1) (mNil))) (mPrim .len (mCons (mFld 0 0 (mVar 0)) (mNil)))))) (sSeq (sRet (mCon (.bl false))) (sNext)) (sNext)) (sSeq (sRet (mPrim .all (mCons (mLc false [2, 3] (.tup [2, 3]) (jZips (mVar 1) (mFld 0 0 (mVar 0))) (bYes) (mCallP f_is_from (mCons (mVar 2) (mCons (mCon (.int 0)) (mCons (mVar 3) (mNil)))))) (mNil)))) (sNext)))
def f_begun : Fn := fnW 2 2 (sSeq (sIf (bNot (bTest (mCallP f_are_values (mCons (mVar 0) (mCons (mVar 1) (mNil)))))) (sSeq (sNever) (sNext)) (sNext)) (sSeq (sRet (mTup (mCons (mVar 1) (mCons (mBin .Mult (mTup (mCons (mCon (.int 0)) (mNil))) (mPrim .len (mCons (mFld 0 1 (mVar 0)) (mNil)))) (mNil))))) (sNext)))
def f_look_off : Fn := fnW 2 2 (sSeq (sIf (bNot (bTest (mCallP f_are_rules_numbers (mCons (mVar 1) (mCons (mPrim .len (mCons (mFld 0 1 (mVar 0)) (mNil))) (mNil)))))) (sSeq (sNever) (sNext)) (sNext)) (sNext))
def b__law_wheels_1 : Ms := sSeq (sAsg (.nm 4) (mBin .Add (mCon (.int 2)) (mCall f__law_take (mCons (mVar 0) (mCons (mCon (.int 3)) (mNil)))))) (sSeq (sIf (bTest (mCmp .LtE (mBin .Mult (mVar 2) (mVar 4)) (mCon (.int 24)))) (sSeq (sExpr (mApp (mVar 1) (mVar 4))) (sSeq (sAsg (.nm 2) (mBin .Mult (mVar 2) (mVar 4))) (sNext))) (sNext)) (sNext))
def f__law_wheels : Fn := fnW 1 5 (sSeq (sPar [1, 2] (mCons (mNLst (mNil)) (mCons (mCon (.int 1)) (mNil)))) (sSeq (sFor (jRange1 (mBin .Add (mCon (.int 1)) (mCall f__law_take (mCons (mVar 0) (mCons (mCon (.int 3)) (mNil)))))) (.nm 3) (b__law_wheels_1)) (sSeq (sRet (mPrim .tuple (mCons (mVar 1) (mNil)))) (sNext))))
def f_look_beats : Fn := fnW 1 1 (sSeq (sIf (bOr (bNot (bTest (mCallP f_is_whole (mCons (mVar 0) (mNil))))) (bNot (bTest (mChain .LtE .Lt (mCon (.int 0)) (mVar 0) (mCon (.int 1000000000000000000000000000000000000000000000000000000000000)))))) (sSeq (sNever) (sNext)) (sNext)) (sNext))
def f_own_order : Fn := fnW 1 1 (sSeq (sRet (mRg1 kTup (mPrim .len (mCons (mFld 0 1 (mVar 0)) (mNil))))) (sNext))
def f_ended : Fn := fnW 1 4 (sSeq (sAsg (.tup [1, 2]) (mVar 0)) (sSeq (sRet (mTup (mCons (mVar 1) (mCons (mPrim .tuple (mCons (mLc false [3] (.nm 3) (jE (mVar 2)) (bYes) (mPrim .max (mCons (mCon (.int 0)) (mCons (mBin .Sub (mVar 3) (mCon (.int 1))) (mNil))))) (mNil))) (mNil))))) (sNext)))
def f_is_so : Fn := fnW 3 6 (sSeq (sAsg (.star [3, 4] 5) (mVar 0)) (sSeq (sIf (bTest (mCmp .Eq (mVar 3) (mCon (.str "hushed")))) (sSeq (sRet (mCmp .Gt (mIdx (mVar 2) (mVar 4)) (mCon (.int 0)))) (sNext)) (sNext)) (sSeq (sIf (bTest (mCmp .Eq (mVar 3) (mCon (.str "awake")))) (sSeq (sRet (mCmp .Eq (mIdx (mVar 2) (mVar 4)) (mCon (.int 0)))) (sNext)) (sNext)) (sSeq (sIf (bTest (mCmp .Eq (mVar 3) (mCon (.str "below")))) (sSeq (sRet (mCmp .Lt (mIdx (mVar 1) (mVar 4)) (mIdx (mVar 5) (mCon (.int 0))))) (sNext)) (sNext)) (sSeq (sRet (mCmp .Eq (mCmp .Eq (mIdx (mVar 1) (mVar 4)) (mIdx (mVar 5) (mCon (.int 0)))) (mCmp .Eq (mVar 3) (mCon (.str "is"))))) (sNext))))))
def f_would_do : Fn := fnW 4 5 (sSeq (sRet (mAnd (mCmp .Eq (mIdx (mVar 3) (mVar 1)) (mCon (.int 0))) (mPrim .all (mCons (mLc false [4] (.nm 4) (jE (mIdx (mIdx (mFld 0 1 (mVar 0)) (mVar 1)) (mCon (.int 0)))) (bYes) (mCallP f_is_so (mCons (mVar 4) (mCons (mVar 2) (mCons (mVar 3) (mNil)))))) (mNil))))) (sNext))
def b_change_1 : Ms := sSeq (sSetIx (mVar 2) (mVar 4) (mIfx (bTest (mCmp .Eq (mVar 3) (mCon (.str "put")))) (mVar 5) (mBin .Mod (mBin .Add (mIdx (mVar 2) (mVar 4)) (mVar 5)) (mIdx (mFld 0 0 (mVar 0)) (mVar 4))))) (sNext)
def f_change : Fn := fnW 3 6 (sSeq (sFor (jE (mIdx (mIdx (mFld 0 1 (mVar 0)) (mVar 1)) (mCon (.int 1)))) (.tup [3, 4, 5]) (b_change_1)) (sNext))
def b_hush_and_wake_1 : Ms := sSeq (sSetIx (mVar 2) (mVar 7) (mPrim .max (mCons (mIdx (mVar 2) (mVar 7)) (mCons (mVar 8) (mNil))))) (sNext)
def b_hush_and_wake_2 : Ms := sSeq (sSetIx (mVar 2) (mVar 7) (mCon (.int 0))) (sNext)
def f_hush_and_wake : Fn := fnW 3 9 (sSeq (sAsg (.tup [3, 4, 5, 6]) (mIdx (mFld 0 1 (mVar 0)) (mVar 1))) (sSeq (sFor (jE (mVar 5)) (.tup [7, 8]) (b_hush_and_wake_1)) (sSeq (sFor (jE (mVar 6)) (.nm 7) (b_hush_and_wake_2)) (sNext))))
def b_beat_of_1 : Ms := sSeq (sIf (bAnd (bTest (mCmp .NotIn (mVar 7) (mVar 3))) (bTest (mCallV f_would_do (mCons (mVar 0) (mCons (mVar 7) (mCons (mVar 4) (mCons (mVar 5) (mNil)))))))) (sSeq (sExpr (mCall f_change (mCons (mVar 0) (mCons (mVar 7) (mCons (mVar 4) (mNil)))))) (sSeq (sExpr (mCall f_hush_and_wake (mCons (mVar 0) (mCons (mVar 7) (mCons (mVar 5) (mNil)))))) (sSeq (sExpr (mApp (mVar 6) (mVar 7))) (sNext)))) (sNext)) (sNext)
def f_beat_of : Fn := fnW 4 8 (sSeq (sPar [4, 5] (mCons (mNlist (mIdx (mVar 1) (mCon (.int 0)))) (mCons (mNlist (mIdx (mVar 1) (mCon (.int 1)))) (mNil)))) (sSeq (sAsg (.nm 6) (mNLst (mNil))) (sSeq (sFor (jE (mVar 2)) (.nm 7) (b_beat_of_1)) (sSeq (sRet (mTup (mCons (mPrim .tuple (mCons (mVar 6) (mNil))) (mCons (mCallP f_ended (mCons (mTup (mCons (mPrim .tuple (mCons (mVar 4) (mNil))) (mCons (mPrim .tuple (mCons (mVar 5) (mNil))) (mNil)))) (mNil))) (mNil))))) (sNext)))))
def b_Track___init___1 : Ms := sSeq (sDPut (mVar 5) (mVar 2) (mPrim .len (mCons (mFld 1 2 (mVar 0)) (mNil)))) (sSeq (sExpr (mApp (mFld 1 2 (mVar 0)) (mVar 2))) (sSeq (sAsg (.tup [6, 2]) (mCallP f_beat_of (mCons (mVar 1) (mCons (mVar 2) (mCons (mVar 4) (mCons (mVar 3) (mNil))))))) (sSeq (sExpr (mApp (mFld 1 3 (mVar 0)) (mVar 6))) (sNext))))
def f_Track___init__ : Fn := fnW 4 7 (sSeq (sSetFld 1 2 (mVar 0) (mNLst (mNil))) (sSeq (sSetFld 1 3 (mVar 0) (mNLst (mNil))) (sSeq (sPar [4, 5] (mCons (mCallP f_own_order (mCons (mVar 1) (mNil))) (mCons (mDNew) (mNil)))) (sSeq (sWhile 10000 (bDIn true (mVar 2) (mVar 5)) (b_Track___init___1)) (sSeq (sSetFld 1 4 (mVar 0) (mDGet (mVar 5) (mVar 2))) (sSeq (sSetFld 1 5 (mVar 0) (mBin .Sub (mPrim .len (mCons (mFld 1 2 (mVar 0)) (mNil))) (mFld 1 4 (mVar 0)))) (sNext)))))))
def f_Track_turns : Fn := fnW 2 4 (sSeq (sRet (mLc false [2, 3] (.tup [2, 3]) (jEnum 0 (mFld 1 3 (mVar 0))) (bTest (mCmp .In (mVar 1) (mVar 3))) (mVar 2))) (sNext))
def f_Track_often : Fn := fnW 3 8 (sSeq (sAsg (.nm 3) (mMeth 1 f_Track_turns (mVar 0) (mCons (mVar 1) (mNil)))) (sSeq (sIf (bTest (mCmp .LtE (mVar 2) (mPrim .len (mCons (mFld 1 3 (mVar 0)) (mNil))))) (sSeq (sRet (mPrim .len (mCons (mLc false [7] (.nm 7) (jE (mVar 3)) (bTest (mCmp .Lt (mVar 7) (mVar 2))) (mVar 7)) (mNil)))) (sNext)) (sNext)) (sSeq (sAsg (.tup [4, 5]) (mPrim .divmod (mCons (mBin .Sub (mVar 2) (mFld 1 4 (mVar 0))) (mCons (mFld 1 5 (mVar 0)) (mNil))))) (sSeq (sAsg (.nm 6) (mLc false [7] (.nm 7) (jE (mVar 3)) (bTest (mCmp .GtE (mVar 7) (mFld 1 4 (mVar 0)))) (mBin .Sub (mVar 7) (mFld 1 4 (mVar 0))))) (sSeq (sRet (mBin .Add (mBin .Add (mBin .Sub (mPrim .len (mCons (mVar 3) (mNil))) (mPrim .len (mCons (mVar 6) (mNil)))) (mBin .Mult (mVar 4) (mPrim .len (mCons (mVar 6) (mNil))))) (mPrim .len (mCons (mLc false [7] (.nm 7) (jE (mVar 6)) (bTest (mCmp .Lt (mVar 7) (mVar 5))) (mVar 7)) (mNil))))) (sNext))))))
def f_Track_spot : Fn := fnW 2 2 (sSeq (sRet (mIfx (bTest (mCmp .Lt (mVar 1) (mFld 1 4 (mVar 0)))) (mVar 1) (mBin .Add (mFld 1 4 (mVar 0)) (mBin .Mod (mBin .Sub (mVar 1) (mFld 1 4 (mVar 0))) (mFld 1 5 (mVar 0)))))) (sNext))
def f__law_whole : Fn := fnW 3 3 (sSeq (sRet (mAnd (mIsi .int (mVar 0)) (mAnd (mNot (mIsi .bool (mVar 0))) (mChain .LtE .Lt (mVar 1) (mVar 0) (mVar 2))))) (sNext))
def f__law_is_placed : Fn := fnW 3 3 (sSeq (sIf (bOr (bNot (bTest (mIsi .tuple (mVar 1)))) (bOr (bTest (mCmp .NotEq (mPrim .len (mCons (mVar 1) (mNil))) (mCon (.int 3)))) (bOr (bNot (bTest (mIsi .str (mIdx (mVar 1) (mCon (.int 0)))))) (bTest (mCmp .NotIn (mIdx (mVar 1) (mCon (.int 0))) (mVar 2)))))) (sSeq (sRet (mCon (.bl false))) (sNext)) (sNext)) (sSeq (sRet (mAnd (mCallP f__law_whole (mCons (mIdx (mVar 1) (mCon (.int 1))) (mCons (mCon (.int 0)) (mCons (mPrim .len (mCons (mVar 0) (mNil))) (mNil))))) (mCallP f__law_whole (mCons (mIdx (mVar 1) (mCon (.int 2))) (mCons (mCon (.int 0)) (mCons (mIdx (mVar 0) (mIdx (mVar 1) (mCon (.int 1)))) (mNil))))))) (sNext)))
def f__law_is_condition : Fn := fnW 3 3 (sSeq (sIf (bAnd (bTest (mIsi .tuple (mVar 2))) (bTest (mCmp .Eq (mPrim .len (mCons (mVar 2) (mNil))) (mCon (.int 2))))) (sSeq (sRet (mAnd (mIsi .str (mIdx (mVar 2) (mCon (.int 0)))) (mAnd (mCmp .In (mIdx (mVar 2) (mCon (.int 0))) (mLst (mCons (mCon (.str "hushed")) (mCons (mCon (.str "awake")) (mNil))))) (mCallP f__law_whole (mCons (mIdx (mVar 2) (mCon (.int 1))) (mCons (mCon (.int 0)) (mCons (mVar 1) (mNil)))))))) (sNext)) (sNext)) (sSeq (sRet (mCallP f__law_is_placed (mCons (mVar 0) (mCons (mVar 2) (mCons (mLst (mCons (mCon (.str "is")) (mCons (mCon (.str "not")) (mCons (mCon (.str "below")) (mNil))))) (mNil)))))) (sNext)))
def f__law_rules : Fn := fnW 3 4 (sSeq (sRet (mPrim .tuple (mCons (mLc false [3] (.nm 3) (jRange1 (mVar 2)) (bYes) (mCall f__law_rule (mCons (mVar 0) (mCons (mVar 1) (mCons (mVar 2) (mNil)))))) (mNil)))) (sNext))
def f__law_drawn : Fn := fnW 1 2 (sSeq (sAsg (.nm 1) (mCall f__law_wheels (mCons (mVar 0) (mNil)))) (sSeq (sRet (mTup (mCons (mVar 1) (mCons (mCall f__law_rules (mCons (mVar 0) (mCons (mVar 1) (mCons (mIdx (mTup (mCons (mCon (.int 3)) (mCons (mCon (.int 5)) (mCons (mCon (.int 2)) (mCons (mCon (.int 4)) (mCons (mCon (.int 1)) (mCons (mCon (.int 0)) (mNil)))))))) (mCall f__law_take (mCons (mVar 0) (mCons (mCon (.int 6)) (mNil))))) (mNil))))) (mNil))))) (sNext)))
def f__law_any : Fn := fnW 1 2 (sSeq (sAsg (.nm 1) (mLst (mCons (mCon .non) (mCons (mCon (.bl true)) (mCons (mCon (.bl false)) (mCons (mCon (.int 0)) (mCons (mCon (.int 1)) (mCons (mNeg (mCon (.int 1))) (mCons (mCon (.int 2)) (mCons (mCon (.int 5)) (mCons (mBin .Pow (mCon (.int 10)) (mCon (.int 60))) (mCons (mCon (.str "")) (mCons (mCon (.str "is")) (mCons (mCon (.str "0")) (mCons (mCon (.str "free")) (mCons (mLst (mNil)) (mCons (mTup (mNil)) (mCons (mLst (mCons (mCon (.int 0)) (mNil))) (mCons (mTpx (mCons (mCon (.int 0)) (mNil))) (mCons (mTpx (mCons (mCon (.int 0)) (mCons (mCon (.int 0)) (mNil)))) (mCons (mTpx (mCons (mCon (.int 1)) (mCons (mCon (.int 0)) (mNil)))) (mNil)))))))))))))))))))))) (sSeq (sAsg (.nm 1) (mBin .Add (mVar 1) (mLst (mCons (mTup (mCons (mCon (.int 0)) (mCons (mCon (.int 1)) (mCons (mCon (.int 2)) (mNil))))) (mCons (mTup (mCons (mTup (mNil)) (mCons (mTup (mNil)) (mNil)))) (mCons (mTup (mCons (mTup (mCons (mCon (.int 0)) (mNil))) (mCons (mTup (mCons (mCon (.int 0)) (mNil))) (mNil)))) (mCons (mLst (mCons (mTup (mCons (mCon (.int 0)) (mNil))) (mCons (mTup (mCons (mCon (.int 0)) (mNil))) (mNil)))) (mCons (mTup (mCons (mCon (.int 0)) (mCons (mCon (.bl true)) (mNil)))) (mCons (mTup (mCons (mCon (.str "is")) (mCons (mCon (.int 0)) (mCons (mCon (.int 0)) (mNil))))) (mCons (mTup (mCons (mCon (.str "hushed")) (mCons (mCon (.int 0)) (mNil)))) (mNil))))))))))) (sSeq (sRet (mIdx (mBin .Add (mVar 1) (mLst (mCons (mTup (mCons (mCon .non) (mCons (mLst (mCons (mCon (.int 1)) (mCons (mTup (mNil)) (mNil)))) (mNil)))) (mNil)))) (mCall f__law_take (mCons (mVar 0) (mCons (mCon (.int 27)) (mNil)))))) (sNext))))
def b_all_rows_1 : Ms := sSeq (sAsg (.nm 1) (mLc2 false [3, 4] (.nm 3) (jE (mVar 1)) (bYes) [4] (.nm 4) (jRange1 (mVar 2)) (bYes) (mBin .Add (mVar 3) (mTup (mCons (mVar 4) (mNil)))))) (sNext)
def f_all_rows : Fn := fnW 1 5 (sSeq (sAsg (.nm 1) (mLst (mCons (mTup (mNil)) (mNil)))) (sSeq (sFor (jE (mVar 0)) (.nm 2) (b_all_rows_1)) (sSeq (sRet (mVar 1)) (sNext))))
def f_beginnings : Fn := fnW 1 1 (sSeq (sRet (mCallP f_all_rows (mCons (mFld 0 0 (mVar 0)) (mNil)))) (sNext))
def b__law_starts_2 : Ms := sSeq (sAsg (.nm 3) (mBin .Add (mVar 3) (mLc false [5] (.nm 5) (jRange1 (mVar 2)) (bYes) (mBin .Add (mVar 4) (mTup (mCons (mVar 5) (mNil))))))) (sNext)
def b__law_starts_1 : Ms := sSeq (sAsg (.nm 3) (mLst (mNil))) (sSeq (sFor (jE (mVar 1)) (.nm 4) (b__law_starts_2)) (sSeq (sAsg (.nm 1) (mVar 3)) (sNext)))
def f__law_starts : Fn := fnW 1 6 (sSeq (sAsg (.nm 1) (mLst (mCons (mTup (mNil)) (mNil)))) (sSeq (sFor (jE (mVar 0)) (.nm 2) (b__law_starts_1)) (sSeq (sRet (mVar 1)) (sNext))))
def f__law_state : Fn := fnW 3 6 (sSeq (sAsg (.nm 3) (mPrim .tuple (mCons (mLc false [4] (.nm 4) (jE (mVar 1)) (bYes) (mCall f__law_take (mCons (mVar 0) (mCons (mVar 4) (mNil))))) (mNil)))) (sSeq (sRet (mTup (mCons (mVar 3) (mCons (mPrim .tuple (mCons (mLc false [5] (.nm 5) (jRange1 (mVar 2)) (bYes) (mIdx (mTup (mCons (mCon (.int 0)) (mCons (mCon (.int 0)) (mCons (mCon (.int 1)) (mCons (mCon (.int 2)) (mNil)))))) (mCall f__law_take (mCons (mVar 0) (mCons (mCon (.int 4)) (mNil)))))) (mNil))) (mNil))))) (sNext)))
def f_is_state : Fn := fnW 2 4 (sSeq (sIf (bOr (bNot (bTest (mIsi .tuple (mVar 1)))) (bOr (bTest (mCmp .NotEq (mPrim .len (mCons (mVar 1) (mNil))) (mCon (.int 2)))) (bNot (bTest (mCallP f_are_values (mCons (mVar 0) (mCons (mIdx (mVar 1) (mCon (.int 0))) (mNil)))))))) (sSeq (sRet (mCon (.bl false))) (sNext)) (sNext)) (sSeq (sAsg (.nm 2) (mIdx (mVar 1) (mCon (.int 1)))) (sSeq (sIf (bOr (bNot (bTest (mIsi .tuple (mVar 2)))) (bTest (mCmp .NotEq (mPrim .len (mCons (mVar 2) (mNil))) (mPrim .len (mCons (mFld 0 1 (mVar 0)) (mNil)))))) (sSeq (sRet (mCon (.bl false))) (sNext)) (sNext)) (sSeq (sRet (mPrim .all (mCons (mLc false [3] (.nm 3) (jE (mVar 2)) (bYes) (mCallP f_is_from (mCons (mVar 3) (mCons (mCon (.int 0)) (mCons (mCon (.int 3)) (mNil)))))) (mNil)))) (sNext)))))
def f__law_are : Fn := fnW 2 4 (sSeq (sIf (bOr (bNot (bTest (mIsi .tuple (mVar 0)))) (bTest (mCmp .NotEq (mPrim .len (mCons (mVar 0) (mNil))) (mPrim .len (mCons (mVar 1) (mNil)))))) (sSeq (sRet (mCon (.bl false))) (sNext)) (sNext)) (sSeq (sRet (mPrim .all (mCons (mLc false [2, 3] (.tup [2, 3]) (jZip (mVar 0) (mVar 1)) (bYes) (mCallP f__law_whole (mCons (mVar 2) (mCons (mCon (.int 0)) (mCons (mVar 3) (mNil)))))) (mNil)))) (sNext)))
def f__law_so : Fn := fnW 3 3 (sSeq (sIf (bOr (bTest (mCmp .Eq (mIdx (mVar 0) (mCon (.int 0))) (mCon (.str "hushed")))) (bTest (mCmp .Eq (mIdx (mVar 0) (mCon (.int 0))) (mCon (.str "awake"))))) (sSeq (sRet (mCmp .Eq (mCmp .Gt (mIdx (mVar 2) (mIdx (mVar 0) (mCon (.int 1)))) (mCon (.int 0))) (mCmp .Eq (mIdx (mVar 0) (mCon (.int 0))) (mCon (.str "hushed"))))) (sNext)) (sNext)) (sSeq (sIf (bTest (mCmp .Eq (mIdx (mVar 0) (mCon (.int 0))) (mCon (.str "below")))) (sSeq (sRet (mCmp .Lt (mIdx (mVar 1) (mIdx (mVar 0) (mCon (.int 1)))) (mIdx (mVar 0) (mCon (.int 2))))) (sNext)) (sNext)) (sSeq (sRet (mCmp .Eq (mCmp .Eq (mIdx (mVar 1) (mIdx (mVar 0) (mCon (.int 1)))) (mIdx (mVar 0) (mCon (.int 2)))) (mCmp .Eq (mIdx (mVar 0) (mCon (.int 0))) (mCon (.str "is"))))) (sNext))))
def f_look_state : Fn := fnW 2 2 (sSeq (sIf (bNot (bTest (mCallP f_is_state (mCons (mVar 0) (mCons (mVar 1) (mNil)))))) (sSeq (sNever) (sNext)) (sNext)) (sNext))
def f_look_rule : Fn := fnW 2 2 (sSeq (sIf (bNot (bTest (mCallP f_is_from (mCons (mVar 1) (mCons (mCon (.int 0)) (mCons (mPrim .len (mCons (mFld 0 1 (mVar 0)) (mNil))) (mNil))))))) (sSeq (sNever) (sNext)) (sNext)) (sNext))
def f_may_do : Fn := fnW 3 3 (sSeq (sExpr (mCallP f_look_state (mCons (mVar 0) (mCons (mVar 1) (mNil))))) (sSeq (sExpr (mCallP f_look_rule (mCons (mVar 0) (mCons (mVar 2) (mNil))))) (sSeq (sRet (mCallP f_would_do (mCons (mVar 0) (mCons (mVar 2) (mCons (mPrim .list (mCons (mIdx (mVar 1) (mCon (.int 0))) (mNil))) (mCons (mPrim .list (mCons (mIdx (mVar 1) (mCon (.int 1))) (mNil))) (mNil))))))) (sNext))))
def f__law_own : Fn := fnW 1 1 (sSeq (sRet (mRg1 kTup (mPrim .len (mCons (mVar 0) (mNil))))) (sNext))
def b__law_beat_2 : Ms := sSeq (sAsg (.nm 20) (mBin .Add (mIdx (mVar 5) (mVar 16)) (mVar 17))) (sSeq (sSetIx (mVar 5) (mVar 16) (mIfx (bTest (mCmp .Eq (mVar 15) (mCon (.str "put")))) (mVar 17) (mBin .Mod (mVar 20) (mIdx (mVar 0) (mVar 16))))) (sNext))
def b__law_beat_3 : Ms := sSeq (sSetIx (mVar 6) (mVar 18) (mPrim .max (mCons (mVar 19) (mCons (mIdx (mVar 6) (mVar 18)) (mNil))))) (sNext)
def b__law_beat_4 : Ms := sSeq (sSetIx (mVar 6) (mVar 18) (mCon (.int 0))) (sNext)
def b__law_beat_1 : Ms := sSeq (sAsg (.tup [10, 11, 12, 13]) (mIdx (mVar 1) (mVar 8))) (sSeq (sAsg (.nm 14) (mLc false [22] (.nm 22) (jE (mVar 10)) (bTest (mCallV f__law_so (mCons (mVar 22) (mCons (mVar 5) (mCons (mVar 6) (mNil)))))) (mVar 22))) (sSeq (sIf (bOr (bTest (mCmp .In (mVar 8) (mVar 4))) (bOr (bTest (mCmp .Gt (mIdx (mVar 6) (mVar 8)) (mCon (.int 0)))) (bTest (mCmp .Lt (mPrim .len (mCons (mVar 14) (mNil))) (mPrim .len (mCons (mVar 10) (mNil))))))) (sSeq (sCont) (sNext)) (sNext)) (sSeq (sExpr (mApp (mVar 7) (mVar 8))) (sSeq (sFor (jE (mVar 11)) (.tup [15, 16, 17]) (b__law_beat_2)) (sSeq (sFor (jE (mVar 12)) (.tup [18, 19]) (b__law_beat_3)) (sSeq (sFor (jE (mVar 13)) (.nm 18) (b__law_beat_4)) (sNext)))))))
def f__law_beat : Fn := fnW 5 23 (sSeq (sAsg (.tup [5, 6, 7]) (mTup (mCons (mNlist (mIdx (mVar 2) (mCon (.int 0)))) (mCons (mNlist (mIdx (mVar 2) (mCon (.int 1)))) (mCons (mNLst (mNil)) (mNil)))))) (sSeq (sFor (jE (mVar 3)) (.nm 8) (b__law_beat_1)) (sSeq (sAsg (.nm 9) (mLc false [21] (.nm 21) (jE (mFrz (mVar 6))) (bYes) (mBin .Sub (mVar 21) (mPrim .int (mCons (mCmp .Gt (mVar 21) (mCon (.int 0))) (mNil)))))) (sSeq (sRet (mTup (mCons (mPrim .tuple (mCons (mVar 7) (mNil))) (mCons (mTup (mCons (mPrim .tuple (mCons (mVar 5) (mNil))) (mCons (mPrim .tuple (mCons (mVar 9) (mNil))) (mNil)))) (mNil))))) (sNext)))))
def b__law_order_1 : Ms := sSeq (sExpr (mIns (mVar 2) (mCall f__law_take (mCons (mVar 0) (mCons (mBin .Add (mPrim .len (mCons (mVar 2) (mNil))) (mCon (.int 1))) (mNil)))) (mVar 3))) (sNext)
def f__law_order : Fn := fnW 2 4 (sSeq (sAsg (.nm 2) (mNLst (mNil))) (sSeq (sFor (jRange1 (mVar 1)) (.nm 3) (b__law_order_1)) (sSeq (sRet (mPrim .tuple (mCons (mVar 2) (mNil)))) (sNext))))
def f__law_off : Fn := fnW 2 3 (sSeq (sIf (bTest (mCmp .Eq (mCall f__law_take (mCons (mVar 0) (mCons (mCon (.int 2)) (mNil)))) (mCon (.int 0)))) (sSeq (sRet (mTup (mNil))) (sNext)) (sNext)) (sSeq (sRet (mPrim .tuple (mCons (mLc false [2] (.nm 2) (jRange1 (mVar 1)) (bTest (mCmp .Eq (mCall f__law_take (mCons (mVar 0) (mCons (mCon (.int 3)) (mNil)))) (mCon (.int 0)))) (mVar 2)) (mNil)))) (sNext)))
def f_look_order : Fn := fnW 2 3 (sSeq (sIf (bOr (bNot (bTest (mIsi .tuple (mVar 1)))) (bNot (bTest (mPrim .all (mCons (mLc false [2] (.nm 2) (jE (mVar 1)) (bYes) (mCallP f_is_from (mCons (mVar 2) (mCons (mCon (.int 0)) (mCons (mPrim .len (mCons (mFld 0 1 (mVar 0)) (mNil))) (mNil)))))) (mNil)))))) (sSeq (sNever) (sNext)) (sNext)) (sSeq (sIf (bTest (mCmp .NotEq (mSorted kLst (mVar 1)) (mPrim .list (mCons (mCallP f_own_order (mCons (mVar 0) (mNil))) (mNil))))) (sSeq (sNever) (sNext)) (sNext)) (sNext)))
def f_beat : Fn := fnW 4 4 (sSeq (sExpr (mCallP f_look_state (mCons (mVar 0) (mCons (mVar 1) (mNil))))) (sSeq (sIf (bTest (mCmp .Is (mVar 2) (mCon .non))) (sSeq (sAsg (.nm 2) (mCallP f_own_order (mCons (mVar 0) (mNil)))) (sNext)) (sNext)) (sSeq (sExpr (mCallP f_look_order (mCons (mVar 0) (mCons (mVar 2) (mNil))))) (sSeq (sExpr (mCallP f_look_off (mCons (mVar 0) (mCons (mVar 3) (mNil))))) (sSeq (sRet (mCallP f_beat_of (mCons (mVar 0) (mCons (mVar 1) (mCons (mVar 2) (mCons (mVar 3) (mNil))))))) (sNext))))))
def r__law_like (psi : Fn) : Fn := fnW 2 4 (sSeq (sIf (bOr (bTest (mCmp .NotEq (mIsi .bool (mVar 0)) (mIsi .bool (mVar 1)))) (bTest (mCmp .NotEq (mVar 0) (mVar 1)))) (sSeq (sRet (mCon (.bl false))) (sNext)) (sNext)) (sSeq (sIf (bTest (mIsLT (mVar 0))) (sSeq (sRet (mAnd (mIsLT (mVar 1)) (mPrim .all (mCons (mLc false [2, 3] (.tup [2, 3]) (jZip (mVar 0) (mVar 1)) (bYes) (mCallP psi (mCons (mVar 2) (mCons (mVar 3) (mNil))))) (mNil))))) (sNext)) (sNext)) (sSeq (sRet (mCon (.bl true))) (sNext))))
def y__law_like : Nat → Fn := fun m => m.rec (fun _ _ => .bad) fun _ psi => r__law_like psi
def f__law_like : Fn := y__law_like 6
def gw_beat_2_order {α : Type} (us mv ws : List α) : List α := us ++ (ws.drop 0).take 1 ++ (mv.drop 0).take 1
def c_beat_2_order : List W → List W → Sto → Res := fun us ws S => f_beat (gw_beat_2_order us [.tup []] ws) S
def gw_beat_2_order_off {α : Type} (us mv ws : List α) : List α := us ++ (ws.drop 0).take 1 ++ (ws.drop 1).take 1
def c_beat_2_order_off : List W → List W → Sto → Res := fun us ws S => f_beat (gw_beat_2_order_off us [] ws) S
def f_all_states : Fn := fnW 1 4 (sSeq (sAsg (.nm 1) (mCallP f_all_rows (mCons (mBin .Mult (mTup (mCons (mCon (.int 3)) (mNil))) (mPrim .len (mCons (mFld 0 1 (mVar 0)) (mNil)))) (mNil)))) (sSeq (sRet (mLc2 false [2, 3] (.nm 2) (jE (mCallP f_all_rows (mCons (mFld 0 0 (mVar 0)) (mNil)))) (bYes) [3] (.nm 3) (jE (mVar 1)) (bYes) (mTup (mCons (mVar 2) (mCons (mVar 3) (mNil)))))) (sNext)))
def f_ahead : Fn := fnW 2 4 (sSeq (sExpr (mCallP f_look_state (mCons (mVar 0) (mCons (mVar 1) (mNil))))) (sSeq (sAsg (.nm 2) (mCallP f_own_order (mCons (mVar 0) (mNil)))) (sSeq (sRet (mLc false [3] (.nm 3) (jE (mCallP f_all_states (mCons (mVar 0) (mNil)))) (bTest (mCmp .Eq (mIdx (mCallP f_beat_of (mCons (mVar 0) (mCons (mVar 3) (mCons (mVar 2) (mCons (mTup (mNil)) (mNil)))))) (mCon (.int 1))) (mVar 1))) (mVar 3))) (sNext))))
def f_track_of : Fn := fnW 3 3 (sSeq (sExpr (mCallP f_look_state (mCons (mVar 0) (mCons (mVar 1) (mNil))))) (sSeq (sExpr (mCallP f_look_off (mCons (mVar 0) (mCons (mVar 2) (mNil))))) (sSeq (sRet (mMakeZ 1 f_Track___init__ (mCons (mVar 0) (mCons (mVar 1) (mCons (mVar 2) (mNil)))))) (sNext))))
def f_state_at : Fn := fnW 4 5 (sSeq (sExpr (mCallP f_look_state (mCons (mVar 0) (mCons (mVar 1) (mNil))))) (sSeq (sExpr (mCallP f_look_beats (mCons (mVar 2) (mNil)))) (sSeq (sAsg (.nm 4) (mCallP f_track_of (mCons (mVar 0) (mCons (mVar 1) (mCons (mVar 3) (mNil)))))) (sSeq (sRet (mIdx (mFld 1 2 (mVar 4)) (mMeth 1 f_Track_spot (mVar 4) (mCons (mVar 2) (mNil))))) (sNext)))))
def f_round_of : Fn := fnW 3 4 (sSeq (sAsg (.nm 3) (mCallP f_track_of (mCons (mVar 0) (mCons (mVar 1) (mCons (mVar 2) (mNil)))))) (sSeq (sRet (mTup (mCons (mFld 1 4 (mVar 3)) (mCons (mFld 1 5 (mVar 3)) (mNil))))) (sNext)))
def b__law_ten_1 : Ms := sSeq (sAsg (.nm 1) (mBin .Mult (mVar 1) (mCon (.int 10)))) (sNext)
def f__law_ten : Fn := fnW 1 3 (sSeq (sAsg (.nm 1) (mCon (.int 1))) (sSeq (sFor (jRange1 (mVar 0)) (.nm 2) (b__law_ten_1)) (sSeq (sRet (mVar 1)) (sNext))))
def f__law_far : Fn := fnW 1 2 (sSeq (sAsg (.nm 1) (mBin .Add (mCallP f__law_ten (mCons (mCall f__law_take (mCons (mVar 0) (mCons (mCon (.int 60)) (mNil)))) (mNil))) (mCall f__law_take (mCons (mVar 0) (mCons (mCon (.int 99)) (mNil)))))) (sSeq (sRet (mBin .FloorDiv (mIdx (mTup (mCons (mCall f__law_take (mCons (mVar 0) (mCons (mCon (.int 40)) (mNil)))) (mCons (mCall f__law_take (mCons (mVar 0) (mCons (mBin .Pow (mCon (.int 10)) (mCon (.int 6))) (mNil)))) (mCons (mVar 1) (mNil))))) (mCall f__law_take (mCons (mVar 0) (mCons (mCon (.int 3)) (mNil))))) (mCon (.int 2)))) (sNext)))
def gw_round_of_2_off {α : Type} (us mv ws : List α) : List α := us ++ (ws.drop 0).take 1
def c_round_of_2_off : List W → List W → Sto → Res := fun us ws S => f_round_of (gw_round_of_2_off us [] ws) S
def gw_state_at_3_off {α : Type} (us mv ws : List α) : List α := us ++ (ws.drop 0).take 1
def c_state_at_3_off : List W → List W → Sto → Res := fun us ws S => f_state_at (gw_state_at_3_off us [] ws) S
def gw_beat_2_off {α : Type} (us mv ws : List α) : List α := us ++ (mv.drop 0).take 1 ++ (ws.drop 0).take 1
def c_beat_2_off : List W → List W → Sto → Res := fun us ws S => f_beat (gw_beat_2_off us [.non] ws) S
def b__law_track_1 : Ms := sSeq (sDPut (mVar 6) (mVar 2) (mPrim .len (mCons (mVar 4) (mNil)))) (sSeq (sExpr (mApp (mVar 4) (mVar 2))) (sSeq (sAsg (.tup [7, 2]) (mCallP f__law_beat (mCons (mVar 0) (mCons (mVar 1) (mCons (mVar 2) (mCons (mCallP f__law_own (mCons (mVar 1) (mNil))) (mCons (mVar 3) (mNil)))))))) (sSeq (sExpr (mApp (mVar 5) (mVar 7))) (sNext))))
def f__law_track : Fn := fnW 4 8 (sSeq (sPar [4, 5, 6] (mCons (mNLst (mNil)) (mCons (mNLst (mNil)) (mCons (mDNew) (mNil))))) (sSeq (sWhile 10000 (bDIn true (mVar 2) (mVar 6)) (b__law_track_1)) (sSeq (sRet (mTup (mCons (mFrz (mVar 4)) (mCons (mFrz (mVar 5)) (mCons (mDGet (mVar 6) (mVar 2)) (mNil)))))) (sNext))))
def c_round_of_2 : Fn := fun ws S => f_round_of (ws ++ [.tup []]) S
def f_times : Fn := fnW 5 5 (sSeq (sExpr (mCallP f_look_state (mCons (mVar 0) (mCons (mVar 1) (mNil))))) (sSeq (sExpr (mCallP f_look_rule (mCons (mVar 0) (mCons (mVar 2) (mNil))))) (sSeq (sExpr (mCallP f_look_beats (mCons (mVar 3) (mNil)))) (sSeq (sRet (mMeth 1 f_Track_often (mCallP f_track_of (mCons (mVar 0) (mCons (mVar 1) (mCons (mVar 4) (mNil))))) (mCons (mVar 2) (mCons (mVar 3) (mNil))))) (sNext)))))
def f_Track_in_round : Fn := fnW 1 1 (sSeq (sRet (mSlc (mFld 1 3 (mVar 0)) (mPart (mFld 1 4 (mVar 0))) (mCon .non))) (sNext))
def f_Track_quiet : Fn := fnW 1 3 (sSeq (sIf (bTest (mPrim .any (mCons (mLc false [1] (.nm 1) (jE (mMeth 1 f_Track_in_round (mVar 0) mNil)) (bYes) (mCmp .NotEq (mVar 1) (mTup (mNil)))) (mNil)))) (sSeq (sRet (mCon .non)) (sNext)) (sNext)) (sSeq (sRet (mMaxD (mLc false [2, 1] (.tup [2, 1]) (jEnum 0 (mFld 1 3 (mVar 0))) (bTest (mCmp .NotEq (mVar 1) (mTup (mNil)))) (mBin .Add (mVar 2) (mCon (.int 1)))) (mCons (mCon (.int 0)) mNil))) (sNext)))
def f_quiet_from : Fn := fnW 3 3 (sSeq (sRet (mMeth 1 f_Track_quiet (mCallP f_track_of (mCons (mVar 0) (mCons (mVar 1) (mCons (mVar 2) (mNil))))) mNil)) (sNext))
def c_state_at_3 : Fn := fun ws S => f_state_at (ws ++ [.tup []]) S
def c_quiet_from_2 : Fn := fun ws S => f_quiet_from (ws ++ [.tup []]) S
def c_times_4 : Fn := fun ws S => f_times (ws ++ [.tup []]) S
def gw_quiet_from_2_off {α : Type} (us mv ws : List α) : List α := us ++ (ws.drop 0).take 1
def c_quiet_from_2_off : List W → List W → Sto → Res := fun us ws S => f_quiet_from (gw_quiet_from_2_off us [] ws) S
def f_nth : Fn := fnW 5 11 (sSeq (sExpr (mCallP f_look_state (mCons (mVar 0) (mCons (mVar 1) (mNil))))) (sSeq (sExpr (mCallP f_look_rule (mCons (mVar 0) (mCons (mVar 2) (mNil))))) (sSeq (sExpr (mCallP f_look_beats (mCons (mVar 3) (mNil)))) (sSeq (sIf (bTest (mCmp .Eq (mVar 3) (mCon (.int 0)))) (sSeq (sNever) (sNext)) (sNext)) (sSeq (sAsg (.nm 5) (mCallP f_track_of (mCons (mVar 0) (mCons (mVar 1) (mCons (mVar 4) (mNil)))))) (sSeq (sAsg (.nm 6) (mMeth 1 f_Track_turns (mVar 5) (mCons (mVar 2) (mNil)))) (sSeq (sIf (bTest (mCmp .LtE (mVar 3) (mPrim .len (mCons (mVar 6) (mNil))))) (sSeq (sRet (mIdx (mVar 6) (mBin .Sub (mVar 3) (mCon (.int 1))))) (sNext)) (sNext)) (sSeq (sAsg (.nm 7) (mLc false [10] (.nm 10) (jE (mVar 6)) (bTest (mCmp .GtE (mVar 10) (mFld 1 4 (mVar 5)))) (mVar 10))) (sSeq (sIf (bTest (mCmp .Eq (mVar 7) (mLst (mNil)))) (sSeq (sRet (mCon .non)) (sNext)) (sNext)) (sSeq (sAsg (.tup [8, 9]) (mPrim .divmod (mCons (mBin .Sub (mBin .Sub (mVar 3) (mPrim .len (mCons (mVar 6) (mNil)))) (mCon (.int 1))) (mCons (mPrim .len (mCons (mVar 7) (mNil))) (mNil))))) (sSeq (sRet (mBin .Add (mIdx (mVar 7) (mVar 9)) (mBin .Mult (mBin .Add (mVar 8) (mCon (.int 1))) (mFld 1 5 (mVar 5))))) (sNext))))))))))))
def gw_times_4_off {α : Type} (us mv ws : List α) : List α := us ++ (ws.drop 0).take 1
def c_times_4_off : List W → List W → Sto → Res := fun us ws S => f_times (gw_times_4_off us [] ws) S
def gw_nth_4_off {α : Type} (us dv mv ws : List α) : List α := us ++ dv ++ (ws.drop 0).take 1
def c_nth_4_off : List W → List W → Sto → Res := fun us ws S => f_nth (gw_nth_4_off us [] [] ws) S
def gw_nth_3_off {α : Type} (us dv mv ws : List α) : List α := us ++ dv ++ (ws.drop 0).take 1
def c_nth_3_off : List W → List W → Sto → Res := fun us ws S => f_nth (gw_nth_3_off us [.int 1] [] ws) S
def b__law_led_1 : Ms := sSeq (sIf (bOr (bTest (mCmp .Eq (mIdx (mVar 9) (mCon (.int 0))) (mCon (.str "hushed")))) (bTest (mCmp .Eq (mIdx (mVar 9) (mCon (.int 0))) (mCon (.str "awake"))))) (sSeq (sExpr (mApp (mVar 8) (mTup (mCons (mIdx (mVar 9) (mCon (.int 0))) (mCons (mIdx (mVar 1) (mIdx (mVar 9) (mCon (.int 1)))) (mNil)))))) (sNext)) (sSeq (sExpr (mApp (mVar 8) (mTup (mCons (mIdx (mVar 9) (mCon (.int 0))) (mCons (mIdx (mVar 9) (mCon (.int 1))) (mCons (mBin .Mod (mBin .Add (mIdx (mVar 9) (mCon (.int 2))) (mIdx (mVar 2) (mIdx (mVar 9) (mCon (.int 1))))) (mIdx (mVar 3) (mIdx (mVar 9) (mCon (.int 1))))) (mNil))))))) (sNext))) (sNext)
def b__law_led_2 : Ms := sSeq (sExpr (mApp (mVar 10) (mTup (mCons (mVar 11) (mCons (mVar 12) (mCons (mIfx (bTest (mCmp .Eq (mVar 11) (mCon (.str "turn")))) (mVar 13) (mBin .Mod (mBin .Add (mVar 13) (mIdx (mVar 2) (mVar 12))) (mIdx (mVar 3) (mVar 12)))) (mNil))))))) (sNext)
def f__law_led : Fn := fnW 4 16 (sSeq (sAsg (.tup [4, 5, 6, 7]) (mVar 0)) (sSeq (sAsg (.nm 8) (mNLst (mNil))) (sSeq (sFor (jE (mVar 4)) (.nm 9) (b__law_led_1)) (sSeq (sAsg (.nm 10) (mNLst (mNil))) (sSeq (sFor (jE (mVar 5)) (.tup [11, 12, 13]) (b__law_led_2)) (sSeq (sAsg (.nm 14) (mSortedP kLst (mLc false [9, 15] (.tup [9, 15]) (jE (mVar 6)) (bYes) (mTup (mCons (mIdx (mVar 1) (mVar 9)) (mCons (mVar 15) (mNil))))))) (sSeq (sRet (mTup (mCons (mPrim .tuple (mCons (mVar 8) (mNil))) (mCons (mPrim .tuple (mCons (mVar 10) (mNil))) (mCons (mPrim .tuple (mCons (mVar 14) (mNil))) (mCons (mPrim .tuple (mCons (mSorted kLst (mLc false [9] (.nm 9) (jE (mVar 7)) (bYes) (mIdx (mVar 1) (mVar 9)))) (mNil))) (mNil))))))) (sNext))))))))
def c_beat_2 : Fn := fun ws S => f_beat (ws ++ [.non, .tup []]) S
def f_next_state : Fn := fnW 3 3 (sSeq (sRet (mIdx (mCallP f_beat_of (mCons (mVar 0) (mCons (mVar 1) (mCons (mCallP f_own_order (mCons (mVar 0) (mNil))) (mCons (mVar 2) (mNil)))))) (mCon (.int 1)))) (sNext))
def f_Track_does : Fn := fnW 3 3 (sSeq (sRet (mCmp .In (mVar 1) (mIdx (mFld 1 3 (mVar 0)) (mMeth 1 f_Track_spot (mVar 0) (mCons (mVar 2) (mNil)))))) (sNext))
def f_is_lot : Fn := fnW 2 4 (sSeq (sIf (bOr (bNot (bTest (mIsi .tuple (mVar 1)))) (bNot (bTest (mPrim .all (mCons (mLc false [3] (.nm 3) (jE (mVar 1)) (bYes) (mCallP f_is_state (mCons (mVar 0) (mCons (mVar 3) (mNil))))) (mNil)))))) (sSeq (sRet (mCon (.bl false))) (sNext)) (sNext)) (sSeq (sRet (mPrim .all (mCons (mLc false [2] (.nm 2) (jE (mCallP f_beginnings (mCons (mVar 0) (mNil)))) (bYes) (mCmp .In (mCallP f_begun (mCons (mVar 0) (mCons (mVar 2) (mNil)))) (mVar 1))) (mNil)))) (sNext)))
def f_is_beat : Fn := fnW 1 1 (sSeq (sRet (mCallP f_is_from (mCons (mVar 0) (mCons (mCon (.int 0)) (mCons (mCon (.int 1000000000000000000000000000000000000000000000000000000000000)) (mNil)))))) (sNext))
def f_figures_in : Fn := fnW 1 2 (sSeq (sIf (bOr (bNot (bTest (mChain .LtE .LtE (mCon (.int 1)) (mPrim .len (mCons (mVar 0) (mNil))) (mCon (.int 60))))) (bNot (bTest (mPrim .all (mCons (mLc false [1] (.nm 1) (jE (mVar 0)) (bYes) (mCmp .In (mVar 1) (mCon (.str "0123456789")))) (mNil)))))) (sSeq (sRet (mCon .non)) (sNext)) (sNext)) (sSeq (sRet (mIfx (bAnd (bTest (mCmp .Eq (mIdx (mVar 0) (mCon (.int 0))) (mCon (.str "0")))) (bTest (mCmp .NotEq (mVar 0) (mCon (.str "0"))))) (mCon .non) (mPrim .int (mCons (mVar 0) (mNil))))) (sNext)))
def f_numbers_in : Fn := fnW 1 2 (sSeq (sRet (mPrim .tuple (mCons (mLc false [1] (.nm 1) (jE (mVar 0)) (bYes) (mCallP f_figures_in (mCons (mVar 1) (mNil)))) (mNil)))) (sNext))
def f__law_stand : Fn := fnW 3 6 (sSeq (sAsg (.nm 3) (mPrim .tuple (mCons (mLc false [4] (.nm 4) (jE (mVar 1)) (bYes) (mCall f__law_take (mCons (mVar 0) (mCons (mVar 4) (mNil))))) (mNil)))) (sSeq (sRet (mTup (mCons (mVar 3) (mCons (mPrim .tuple (mCons (mLc false [5] (.nm 5) (jRange1 (mVar 2)) (bYes) (mIdx (mTup (mCons (mCon (.int 0)) (mCons (mCon (.int 0)) (mCons (mCon (.int 1)) (mCons (mCon (.int 2)) (mNil)))))) (mCall f__law_take (mCons (mVar 0) (mCons (mCon (.int 4)) (mNil)))))) (mNil))) (mNil))))) (sNext)))
def b__law_lesser_1 : Ms := sSeq (sAsg (.nm 2) (mBin .Mult (mVar 2) (mVar 3))) (sNext)
def f__law_lesser : Fn := fnW 1 5 (sSeq (sPar [1, 2] (mCons (mCall f__law_wheels (mCons (mVar 0) (mNil))) (mCons (mCon (.int 1)) (mNil)))) (sSeq (sFor (jE (mVar 1)) (.nm 3) (b__law_lesser_1)) (sSeq (sAsg (.nm 4) (mBin .Sub (mBin .Sub (mCon (.int 5)) (mPrim .int (mCons (mCmp .Gt (mVar 2) (mCon (.int 6))) (mNil)))) (mPrim .int (mCons (mCmp .Gt (mVar 2) (mCon (.int 12))) (mNil))))) (sSeq (sRet (mTup (mCons (mVar 1) (mCons (mCall f__law_rules (mCons (mVar 0) (mCons (mVar 1) (mCons (mCall f__law_take (mCons (mVar 0) (mCons (mBin .Add (mVar 4) (mCon (.int 1))) (mNil)))) (mNil))))) (mNil))))) (sNext)))))
def f_look_wheel : Fn := fnW 2 2 (sSeq (sIf (bNot (bTest (mCallP f_is_from (mCons (mVar 1) (mCons (mCon (.int 0)) (mCons (mPrim .len (mCons (mFld 0 0 (mVar 0)) (mNil))) (mNil))))))) (sSeq (sNever) (sNext)) (sNext)) (sNext))
def f_with_part : Fn := fnW 3 3 (sSeq (sRet (mBin .Add (mBin .Add (mSlc (mVar 0) (mCon .non) (mPart (mVar 1))) (mTup (mCons (mVar 2) (mNil)))) (mSlc (mVar 0) (mPart (mBin .Add (mVar 1) (mCon (.int 1)))) (mCon .non)))) (sNext))
def f_is_wish : Fn := fnW 2 4 (sSeq (sIf (bOr (bNot (bTest (mIsi .tuple (mVar 1)))) (bOr (bTest (mCmp .Eq (mVar 1) (mTup (mNil)))) (bNot (bTest (mIsi .str (mIdx (mVar 1) (mCon (.int 0)))))))) (sSeq (sRet (mCon (.bl false))) (sNext)) (sNext)) (sSeq (sAsg (.star [2] 3) (mVar 1)) (sSeq (sIf (bTest (mCmp .In (mVar 2) (mTup (mCons (mCon (.str "never")) (mCons (mCon (.str "does")) (mNil)))))) (sSeq (sRet (mAnd (mCmp .Eq (mPrim .len (mCons (mVar 3) (mNil))) (mCon (.int 1))) (mCallP f_is_from (mCons (mIdx (mVar 3) (mCon (.int 0))) (mCons (mCon (.int 0)) (mCons (mPrim .len (mCons (mFld 0 1 (mVar 0)) (mNil))) (mNil))))))) (sNext)) (sNext)) (sSeq (sIf (bTest (mCmp .NotEq (mVar 2) (mCon (.str "at")))) (sSeq (sRet (mAnd (mCmp .Eq (mVar 2) (mCon (.str "quiet"))) (mCmp .Eq (mVar 3) (mLst (mNil))))) (sNext)) (sNext)) (sSeq (sIf (bOr (bTest (mCmp .NotEq (mPrim .len (mCons (mVar 3) (mNil))) (mCon (.int 2)))) (bNot (bTest (mCallP f_is_from (mCons (mIdx (mVar 3) (mCon (.int 0))) (mCons (mCon (.int 0)) (mCons (mPrim .len (mCons (mFld 0 0 (mVar 0)) (mNil))) (mNil)))))))) (sSeq (sRet (mCon (.bl false))) (sNext)) (sNext)) (sSeq (sRet (mCallP f_is_from (mCons (mIdx (mVar 3) (mCon (.int 1))) (mCons (mCon (.int 0)) (mCons (mIdx (mFld 0 0 (mVar 0)) (mIdx (mVar 3) (mCon (.int 0)))) (mNil)))))) (sNext)))))))
def f_look_wish : Fn := fnW 2 2 (sSeq (sIf (bNot (bTest (mCallP f_is_wish (mCons (mVar 0) (mCons (mVar 1) (mNil)))))) (sSeq (sNever) (sNext)) (sNext)) (sNext))
def f_is_broken : Fn := fnW 2 8 (sSeq (sAsg (.star [2] 3) (mVar 1)) (sSeq (sIf (bTest (mCmp .Eq (mVar 2) (mCon (.str "quiet")))) (sSeq (sRet (mCmp .Is (mMeth 1 f_Track_quiet (mVar 0) mNil) (mCon .non))) (sNext)) (sNext)) (sSeq (sIf (bTest (mCmp .In (mVar 2) (mTup (mCons (mCon (.str "never")) (mCons (mCon (.str "does")) (mNil)))))) (sSeq (sRet (mCmp .Eq (mCmp .NotEq (mMeth 1 f_Track_turns (mVar 0) (mCons (mIdx (mVar 3) (mCon (.int 0))) (mNil))) (mLst (mNil))) (mCmp .Eq (mVar 2) (mCon (.str "never"))))) (sNext)) (sNext)) (sSeq (sAsg (.tup [4, 5]) (mVar 3)) (sSeq (sRet (mPrim .any (mCons (mLc false [6, 7] (.tup [6, 7]) (jE (mSlc (mFld 1 2 (mVar 0)) (mPart (mFld 1 4 (mVar 0))) (mCon .non))) (bYes) (mCmp .NotEq (mIdx (mVar 6) (mVar 4)) (mVar 5))) (mNil)))) (sNext))))))
def f_breaks_by : Fn := fnW 4 4 (sSeq (sRet (mCallP f_is_broken (mCons (mMakeZ 1 f_Track___init__ (mCons (mVar 0) (mCons (mCallP f_begun (mCons (mVar 0) (mCons (mVar 3) (mNil)))) (mCons (mVar 2) (mNil))))) (mCons (mVar 1) (mNil))))) (sNext))
def b_least_break_1 : Ms := sSeq (sIf (bTest (mCallP f_breaks_by (mCons (mVar 0) (mCons (mVar 1) (mCons (mVar 2) (mCons (mVar 3) (mNil))))))) (sSeq (sRet (mVar 3)) (sNext)) (sNext)) (sNext)
def f_least_break : Fn := fnW 3 4 (sSeq (sFor (jE (mCallP f_beginnings (mCons (mVar 0) (mNil)))) (.nm 3) (b_least_break_1)) (sSeq (sRet (mCon .non)) (sNext)))
def f_holds : Fn := fnW 3 3 (sSeq (sExpr (mCallP f_look_wish (mCons (mVar 0) (mCons (mVar 1) (mNil))))) (sSeq (sExpr (mCallP f_look_off (mCons (mVar 0) (mCons (mVar 2) (mNil))))) (sSeq (sRet (mCmp .Is (mCallP f_least_break (mCons (mVar 0) (mCons (mVar 1) (mCons (mVar 2) (mNil))))) (mCon .non))) (sNext))))
def r_subsets (psi : Fn) : Fn := fnW 2 5 (sSeq (sIf (bTest (mCmp .Eq (mVar 1) (mCon (.int 0)))) (sSeq (sRet (mLst (mCons (mTup (mNil)) (mNil)))) (sNext)) (sNext)) (sSeq (sRet (mLc2 false [2, 3, 4] (.tup [2, 3]) (jEnum 0 (mVar 0)) (bYes) [4] (.nm 4) (jE (mCallP psi (mCons (mSlc (mVar 0) (mPart (mBin .Add (mVar 2) (mCon (.int 1)))) (mCon .non)) (mCons (mBin .Sub (mVar 1) (mCon (.int 1))) (mNil))))) (bYes) (mBin .Add (mTup (mCons (mVar 3) (mNil))) (mVar 4)))) (sNext)))
def y_subsets : Nat → Fn := fun m => m.rec (fun _ _ => .bad) fun _ psi => r_subsets psi
def f_subsets : Fn := y_subsets 6
def f_lots_for : Fn := fnW 2 6 (sSeq (sAsg (.nm 2) (mPrim .tuple (mCons (mLc false [5] (.nm 5) (jRange1 (mPrim .len (mCons (mFld 0 1 (mVar 0)) (mNil)))) (bOr (bTest (mCmp .NotIn (mIdx (mVar 1) (mCon (.int 0))) (mTup (mCons (mCon (.str "never")) (mCons (mCon (.str "does")) (mNil)))))) (bTest (mCmp .NotEq (mVar 5) (mIdx (mVar 1) (mCon (.int 1)))))) (mVar 5)) (mNil)))) (sSeq (sRet (mLc2 false [3, 4] (.nm 3) (jRange1 (mBin .Add (mPrim .len (mCons (mVar 2) (mNil))) (mCon (.int 1)))) (bYes) [4] (.nm 4) (jE (mCallP f_subsets (mCons (mVar 2) (mCons (mVar 3) (mNil))))) (bYes) (mVar 4))) (sNext)))
def b_fewest_1 : Ms := sSeq (sAsg (.nm 4) (mCallP f_least_break (mCons (mVar 0) (mCons (mVar 1) (mCons (mVar 3) (mNil)))))) (sSeq (sIf (bTest (mCmp .Is (mVar 4) (mCon .non))) (sSeq (sRet (mTup (mCons (mCon (.str "off")) (mCons (mVar 3) (mCons (mPrim .tuple (mCons (mVar 2) (mNil))) (mNil)))))) (sNext)) (sNext)) (sSeq (sExpr (mApp (mVar 2) (mVar 4))) (sNext)))
def f_fewest : Fn := fnW 2 5 (sSeq (sExpr (mCallP f_look_wish (mCons (mVar 0) (mCons (mVar 1) (mNil))))) (sSeq (sAsg (.nm 2) (mNLst (mNil))) (sSeq (sFor (jE (mCallP f_lots_for (mCons (mVar 0) (mCons (mVar 1) (mNil))))) (.nm 3) (b_fewest_1)) (sSeq (sRet (mTup (mCons (mCon (.str "none")) (mCons (mPrim .tuple (mCons (mVar 2) (mNil))) (mNil))))) (sNext)))))
def f_are_breaks : Fn := fnW 4 7 (sSeq (sIf (bOr (bNot (bTest (mIsi .tuple (mVar 3)))) (bOr (bTest (mCmp .NotEq (mPrim .len (mCons (mVar 3) (mNil))) (mPrim .len (mCons (mVar 2) (mNil))))) (bNot (bTest (mPrim .all (mCons (mLc false [6] (.nm 6) (jE (mVar 3)) (bYes) (mCallP f_are_values (mCons (mVar 0) (mCons (mVar 6) (mNil))))) (mNil))))))) (sSeq (sRet (mCon (.bl false))) (sNext)) (sNext)) (sSeq (sRet (mPrim .all (mCons (mLc false [4, 5] (.tup [4, 5]) (jZips (mVar 2) (mVar 3)) (bYes) (mCallP f_breaks_by (mCons (mVar 0) (mCons (mVar 1) (mCons (mVar 4) (mCons (mVar 5) (mNil))))))) (mNil)))) (sNext)))
def f_shows_fewest : Fn := fnW 3 7 (sSeq (sExpr (mCallP f_look_wish (mCons (mVar 0) (mCons (mVar 1) (mNil))))) (sSeq (sAsg (.nm 3) (mCallP f_lots_for (mCons (mVar 0) (mCons (mVar 1) (mNil))))) (sSeq (sIf (bOr (bNot (bTest (mIsi .tuple (mVar 2)))) (bOr (bTest (mCmp .NotIn (mPrim .len (mCons (mVar 2) (mNil))) (mTup (mCons (mCon (.int 2)) (mCons (mCon (.int 3)) (mNil)))))) (bNot (bTest (mIsi .str (mIdx (mVar 2) (mCon (.int 0)))))))) (sSeq (sRet (mCon (.bl false))) (sNext)) (sNext)) (sSeq (sIf (bTest (mCmp .Eq (mPrim .len (mCons (mVar 2) (mNil))) (mCon (.int 2)))) (sSeq (sRet (mAnd (mCmp .Eq (mIdx (mVar 2) (mCon (.int 0))) (mCon (.str "none"))) (mCallP f_are_breaks (mCons (mVar 0) (mCons (mVar 1) (mCons (mVar 3) (mCons (mIdx (mVar 2) (mCon (.int 1))) (mNil)))))))) (sNext)) (sNext)) (sSeq (sAsg (.tup [4, 5, 6]) (mVar 2)) (sSeq (sIf (bOr (bTest (mCmp .NotEq (mVar 4) (mCon (.str "off")))) (bOr (bNot (bTest (mCallP f_are_rules_numbers (mCons (mVar 5) (mCons (mPrim .len (mCons (mFld 0 1 (mVar 0)) (mNil))) (mNil)))))) (bTest (mCmp .NotIn (mVar 5) (mVar 3))))) (sSeq (sRet (mCon (.bl false))) (sNext)) (sNext)) (sSeq (sRet (mAnd (mCmp .Is (mCallP f_least_break (mCons (mVar 0) (mCons (mVar 1) (mCons (mVar 5) (mNil))))) (mCon .non)) (mCallP f_are_breaks (mCons (mVar 0) (mCons (mVar 1) (mCons (mSlc (mVar 3) (mCon .non) (mPart (mIndexD (mVar 3) (mVar 5)))) (mCons (mVar 6) (mNil)))))))) (sNext))))))))
def f__law_wish : Fn := fnW 3 5 (sSeq (sAsg (.nm 3) (mCall f__law_take (mCons (mVar 0) (mCons (mCon (.int 5)) (mNil))))) (sSeq (sIf (bOr (bTest (mCmp .Eq (mVar 3) (mCon (.int 0)))) (bAnd (bTest (mCmp .Lt (mVar 3) (mCon (.int 3)))) (bTest (mCmp .Eq (mVar 2) (mCon (.int 0)))))) (sSeq (sRet (mTup (mCons (mCon (.str "quiet")) (mNil)))) (sNext)) (sNext)) (sSeq (sIf (bTest (mCmp .Lt (mVar 3) (mCon (.int 3)))) (sSeq (sRet (mTup (mCons (mIdx (mTup (mCons (mCon (.str "never")) (mCons (mCon (.str "does")) (mNil)))) (mBin .Sub (mVar 3) (mCon (.int 1)))) (mCons (mCall f__law_take (mCons (mVar 0) (mCons (mVar 2) (mNil)))) (mNil))))) (sNext)) (sNext)) (sSeq (sAsg (.nm 4) (mCall f__law_take (mCons (mVar 0) (mCons (mPrim .len (mCons (mVar 1) (mNil))) (mNil))))) (sSeq (sRet (mTup (mCons (mCon (.str "at")) (mCons (mVar 4) (mCons (mCall f__law_take (mCons (mVar 0) (mCons (mIdx (mVar 1) (mVar 4)) (mNil)))) (mNil)))))) (sNext))))))
def f__law_broken_by : Fn := fnW 2 7 (sSeq (sAsg (.tup [2, 3, 4]) (mVar 0)) (sSeq (sIf (bTest (mCmp .Eq (mIdx (mVar 1) (mCon (.int 0))) (mCon (.str "quiet")))) (sSeq (sRet (mCmp .NotEq (mLc false [5] (.nm 5) (jE (mSlc (mVar 3) (mPart (mVar 4)) (mCon .non))) (bTest (mCmp .NotEq (mVar 5) (mTup (mNil)))) (mVar 5)) (mLst (mNil)))) (sNext)) (sNext)) (sSeq (sIf (bTest (mCmp .Eq (mIdx (mVar 1) (mCon (.int 0))) (mCon (.str "at")))) (sSeq (sRet (mCmp .NotEq (mLc false [6] (.nm 6) (jE (mSlc (mVar 2) (mPart (mVar 4)) (mCon .non))) (bTest (mCmp .NotEq (mIdx (mIdx (mVar 6) (mCon (.int 0))) (mIdx (mVar 1) (mCon (.int 1)))) (mIdx (mVar 1) (mCon (.int 2))))) (mVar 6)) (mLst (mNil)))) (sNext)) (sNext)) (sSeq (sRet (mCmp .Eq (mCmp .NotEq (mLc false [5] (.nm 5) (jE (mVar 3)) (bTest (mCmp .In (mIdx (mVar 1) (mCon (.int 1))) (mVar 5))) (mVar 5)) (mLst (mNil))) (mCmp .Eq (mIdx (mVar 1) (mCon (.int 0))) (mCon (.str "never"))))) (sNext)))))
def f__law_runs_off : Fn := fnW 3 4 (sSeq (sRet (mLc false [3] (.nm 3) (jE (mCallP f__law_starts (mCons (mVar 0) (mNil)))) (bYes) (mCallP f__law_track (mCons (mVar 0) (mCons (mVar 1) (mCons (mTup (mCons (mVar 3) (mCons (mBin .Mult (mTup (mCons (mCon (.int 0)) (mNil))) (mPrim .len (mCons (mVar 1) (mNil)))) (mNil)))) (mCons (mVar 2) (mNil)))))))) (sNext))
def gw_holds_2_off {α : Type} (us mv ws : List α) : List α := us ++ (ws.drop 0).take 1
def c_holds_2_off : List W → List W → Sto → Res := fun us ws S => f_holds (gw_holds_2_off us [] ws) S
def b__law_lots_1 : Ms := sSeq (sAsg (.nm 3) (mBin .Add (mVar 3) (mLc false [6] (.nm 6) (jE (mVar 3)) (bYes) (mBin .Add (mVar 6) (mTup (mCons (mVar 4) (mNil))))))) (sNext)
def f__law_lots : Fn := fnW 2 7 (sSeq (sAsg (.nm 2) (mLc false [4] (.nm 4) (jRange1 (mVar 0)) (bOr (bTest (mCmp .NotIn (mIdx (mVar 1) (mCon (.int 0))) (mTup (mCons (mCon (.str "never")) (mCons (mCon (.str "does")) (mNil)))))) (bTest (mCmp .NotEq (mVar 4) (mIdx (mVar 1) (mCon (.int 1)))))) (mVar 4))) (sSeq (sAsg (.nm 3) (mLst (mCons (mTup (mNil)) (mNil)))) (sSeq (sFor (jE (mVar 2)) (.nm 4) (b__law_lots_1)) (sSeq (sRet (mLc false [5, 6] (.tup [5, 6]) (jE (mSortedD kLst (mLc false [6] (.nm 6) (jE (mVar 3)) (bYes) (mTup (mCons (mPrim .len (mCons (mVar 6) (mNil))) (mCons (mVar 6) (mNil))))))) (bYes) (mVar 6))) (sNext)))))
def f__law_breaks : Fn := fnW 5 10 (sSeq (sAsg (.tup [5, 6, 7]) (mCallP f__law_track (mCons (mVar 0) (mCons (mVar 1) (mCons (mTup (mCons (mVar 2) (mCons (mBin .Mult (mTup (mCons (mCon (.int 0)) (mNil))) (mPrim .len (mCons (mVar 1) (mNil)))) (mNil)))) (mCons (mVar 3) (mNil))))))) (sSeq (sIf (bTest (mCmp .Eq (mIdx (mVar 4) (mCon (.int 0))) (mCon (.str "quiet")))) (sSeq (sRet (mCmp .NotEq (mLc false [8] (.nm 8) (jE (mSlc (mVar 6) (mPart (mVar 7)) (mCon .non))) (bTest (mCmp .NotEq (mVar 8) (mTup (mNil)))) (mVar 8)) (mLst (mNil)))) (sNext)) (sNext)) (sSeq (sIf (bTest (mCmp .Eq (mIdx (mVar 4) (mCon (.int 0))) (mCon (.str "at")))) (sSeq (sRet (mCmp .NotEq (mLc false [9] (.nm 9) (jE (mSlc (mVar 5) (mPart (mVar 7)) (mCon .non))) (bTest (mCmp .NotEq (mIdx (mIdx (mVar 9) (mCon (.int 0))) (mIdx (mVar 4) (mCon (.int 1)))) (mIdx (mVar 4) (mCon (.int 2))))) (mVar 9)) (mLst (mNil)))) (sNext)) (sNext)) (sSeq (sRet (mCmp .Eq (mCmp .NotEq (mLc false [8] (.nm 8) (jE (mVar 6)) (bTest (mCmp .In (mIdx (mVar 4) (mCon (.int 1))) (mVar 8))) (mVar 8)) (mLst (mNil))) (mCmp .Eq (mIdx (mVar 4) (mCon (.int 0))) (mCon (.str "never"))))) (sNext)))))
def b__law_least_1 : Ms := sSeq (sIf (bTest (mCallP f__law_breaks (mCons (mVar 0) (mCons (mVar 1) (mCons (mVar 4) (mCons (mVar 2) (mCons (mVar 3) (mNil)))))))) (sSeq (sRet (mVar 4)) (sNext)) (sNext)) (sNext)
def f__law_least : Fn := fnW 4 5 (sSeq (sFor (jE (mCallP f__law_starts (mCons (mVar 0) (mNil)))) (.nm 4) (b__law_least_1)) (sSeq (sRet (mCon .non)) (sNext)))
def c_holds_2 : Fn := fun ws S => f_holds (ws ++ [.tup []]) S
def f_is_sighting : Fn := fnW 2 6 (sSeq (sIf (bOr (bNot (bTest (mIsi .tuple (mVar 1)))) (bOr (bTest (mCmp .NotIn (mPrim .len (mCons (mVar 1) (mNil))) (mTup (mCons (mCon (.int 3)) (mCons (mCon (.int 4)) (mNil)))))) (bNot (bTest (mIsi .str (mIdx (mVar 1) (mCon (.int 0)))))))) (sSeq (sRet (mCon (.bl false))) (sNext)) (sNext)) (sSeq (sAsg (.star [2, 3, 4] 5) (mVar 1)) (sSeq (sIf (bNot (bTest (mCallP f_is_beat (mCons (mVar 3) (mNil))))) (sSeq (sRet (mCon (.bl false))) (sNext)) (sNext)) (sSeq (sIf (bTest (mCmp .Eq (mVar 5) (mLst (mNil)))) (sSeq (sRet (mAnd (mCmp .In (mVar 2) (mTup (mCons (mCon (.str "did")) (mCons (mCon (.str "rested")) (mNil))))) (mCallP f_is_from (mCons (mVar 4) (mCons (mCon (.int 0)) (mCons (mPrim .len (mCons (mFld 0 1 (mVar 0)) (mNil))) (mNil))))))) (sNext)) (sNext)) (sSeq (sIf (bOr (bTest (mCmp .NotEq (mVar 2) (mCon (.str "stood")))) (bNot (bTest (mCallP f_is_from (mCons (mVar 4) (mCons (mCon (.int 0)) (mCons (mPrim .len (mCons (mFld 0 0 (mVar 0)) (mNil))) (mNil)))))))) (sSeq (sRet (mCon (.bl false))) (sNext)) (sNext)) (sSeq (sRet (mCallP f_is_from (mCons (mIdx (mVar 5) (mCon (.int 0))) (mCons (mCon (.int 0)) (mCons (mIdx (mFld 0 0 (mVar 0)) (mVar 4)) (mNil)))))) (sNext)))))))
def b_look_seen_1 : Ms := sSeq (sIf (bNot (bTest (mCallP f_is_sighting (mCons (mVar 0) (mCons (mVar 3) (mNil)))))) (sSeq (sNever) (sNext)) (sNext)) (sNext)
def f_look_seen : Fn := fnW 2 4 (sSeq (sIf (bOr (bNot (bTest (mIsi .tuple (mVar 1)))) (bTest (mCmp .Gt (mPrim .len (mCons (mVar 1) (mNil))) (mCon (.int 8))))) (sSeq (sNever) (sNext)) (sNext)) (sSeq (sFor (jEnum 0 (mVar 1)) (.tup [2, 3]) (b_look_seen_1)) (sNext)))
def f__law_sighting : Fn := fnW 3 7 (sSeq (sAsg (.nm 3) (mTup (mCons (mCall f__law_take (mCons (mVar 0) (mCons (mCon (.int 6)) (mNil)))) (mCons (mCall f__law_take (mCons (mVar 0) (mCons (mCon (.int 30)) (mNil)))) (mCons (mCall f__law_take (mCons (mVar 0) (mCons (mBin .Pow (mCon (.int 10)) (mCon (.int 60))) (mNil)))) (mCons (mBin .Sub (mBin .Sub (mBin .Pow (mCon (.int 10)) (mCon (.int 60))) (mCon (.int 1))) (mCall f__law_take (mCons (mVar 0) (mCons (mCon (.int 9)) (mNil))))) (mNil))))))) (sSeq (sAsg (.nm 4) (mIdx (mVar 3) (mIdx (mTup (mCons (mCon (.int 0)) (mCons (mCon (.int 0)) (mCons (mCon (.int 1)) (mCons (mCon (.int 1)) (mCons (mCon (.int 2)) (mCons (mCon (.int 3)) (mNil)))))))) (mCall f__law_take (mCons (mVar 0) (mCons (mCon (.int 6)) (mNil))))))) (sSeq (sAsg (.nm 5) (mCall f__law_take (mCons (mVar 0) (mCons (mCon (.int 4)) (mNil))))) (sSeq (sIf (bAnd (bTest (mCmp .Lt (mVar 5) (mCon (.int 2)))) (bTest (mCmp .Gt (mVar 2) (mCon (.int 0))))) (sSeq (sRet (mTup (mCons (mIdx (mTup (mCons (mCon (.str "did")) (mCons (mCon (.str "rested")) (mNil)))) (mVar 5)) (mCons (mVar 4) (mCons (mCall f__law_take (mCons (mVar 0) (mCons (mVar 2) (mNil)))) (mNil)))))) (sNext)) (sNext)) (sSeq (sAsg (.nm 6) (mCall f__law_take (mCons (mVar 0) (mCons (mPrim .len (mCons (mVar 1) (mNil))) (mNil))))) (sSeq (sRet (mTup (mCons (mCon (.str "stood")) (mCons (mVar 4) (mCons (mVar 6) (mCons (mCall f__law_take (mCons (mVar 0) (mCons (mIdx (mVar 1) (mVar 6)) (mNil)))) (mNil))))))) (sNext)))))))
def f__law_runs : Fn := fnW 2 4 (sSeq (sAsg (.nm 2) (mBin .Mult (mTup (mCons (mCon (.int 0)) (mNil))) (mPrim .len (mCons (mVar 1) (mNil))))) (sSeq (sRet (mLc false [3] (.nm 3) (jE (mCallP f__law_starts (mCons (mVar 0) (mNil)))) (bYes) (mTup (mCons (mVar 3) (mCons (mCallP f__law_track (mCons (mVar 0) (mCons (mVar 1) (mCons (mTup (mCons (mVar 3) (mCons (mVar 2) (mNil)))) (mCons (mTup (mNil)) (mNil)))))) (mNil)))))) (sNext)))
def f__law_seen_so : Fn := fnW 2 6 (sSeq (sAsg (.tup [2, 3, 4]) (mVar 0)) (sSeq (sAsg (.nm 5) (mIfx (bTest (mCmp .Lt (mIdx (mVar 1) (mCon (.int 1))) (mPrim .len (mCons (mVar 2) (mNil))))) (mIdx (mVar 1) (mCon (.int 1))) (mBin .Add (mVar 4) (mBin .Mod (mBin .Sub (mIdx (mVar 1) (mCon (.int 1))) (mVar 4)) (mBin .Sub (mPrim .len (mCons (mVar 2) (mNil))) (mVar 4)))))) (sSeq (sIf (bTest (mCmp .Eq (mIdx (mVar 1) (mCon (.int 0))) (mCon (.str "stood")))) (sSeq (sRet (mCmp .Eq (mIdx (mIdx (mIdx (mVar 2) (mVar 5)) (mCon (.int 0))) (mIdx (mVar 1) (mCon (.int 2)))) (mIdx (mVar 1) (mCon (.int 3))))) (sNext)) (sNext)) (sSeq (sRet (mCmp .Eq (mCmp .In (mIdx (mVar 1) (mCon (.int 2))) (mIdx (mVar 3) (mVar 5))) (mCmp .Eq (mIdx (mVar 1) (mCon (.int 0))) (mCon (.str "did"))))) (sNext)))))
def b__law_longer_1 : Ms := sSeq (sAsg (.nm 2) (mBin .Add (mVar 2) (mLc false [4] (.nm 4) (jRange2 (mIfx (bTest (mCmp .NotEq (mVar 3) (mTup (mNil)))) (mBin .Add (mIdx (mVar 3) (mNeg (mCon (.int 1)))) (mCon (.int 1))) (mCon (.int 0))) (mVar 1)) (bYes) (mBin .Add (mVar 3) (mTup (mCons (mVar 4) (mNil))))))) (sNext)
def f__law_longer : Fn := fnW 2 5 (sSeq (sAsg (.nm 2) (mLst (mNil))) (sSeq (sFor (jE (mVar 0)) (.nm 3) (b__law_longer_1)) (sSeq (sRet (mVar 2)) (sNext))))
def b__law_subsets_1 : Ms := sSeq (sAsg (.nm 2) (mCallP f__law_longer (mCons (mVar 2) (mCons (mVar 0) (mNil))))) (sNext)
def f__law_subsets : Fn := fnW 2 4 (sSeq (sAsg (.nm 2) (mLst (mCons (mTup (mNil)) (mNil)))) (sSeq (sFor (jRange1 (mVar 1)) (.nm 3) (b__law_subsets_1)) (sSeq (sRet (mVar 2)) (sNext))))
def f__law_let : Fn := fnW 3 6 (sSeq (sRet (mLc false [3, 4] (.tup [3, 4]) (jE (mVar 0)) (bTest (mPrim .all (mCons (mLc false [5] (.nm 5) (jE (mVar 2)) (bYes) (mCallP f__law_seen_so (mCons (mVar 4) (mCons (mIdx (mVar 1) (mVar 5)) (mNil))))) (mNil)))) (mVar 3))) (sNext))
def b__law_clash_due_2 : Ms := sSeq (sIf (bTest (mCmp .Eq (mCallP f__law_let (mCons (mVar 0) (mCons (mVar 1) (mCons (mVar 4) (mNil))))) (mLst (mNil)))) (sSeq (sAsg (.nm 5) (mLc false [6] (.nm 6) (jE (mCallP f__law_subsets (mCons (mVar 2) (mCons (mBin .Sub (mVar 3) (mCon (.int 1))) (mNil))))) (bYes) (mIdx (mCallP f__law_let (mCons (mVar 0) (mCons (mVar 1) (mCons (mVar 6) (mNil))))) (mCon (.int 0))))) (sSeq (sRet (mTup (mCons (mCon (.str "clash")) (mCons (mVar 4) (mCons (mPrim .tuple (mCons (mVar 5) (mNil))) (mNil)))))) (sNext))) (sNext)) (sNext)
def b__law_clash_due_1 : Ms := sSeq (sFor (jE (mCallP f__law_subsets (mCons (mVar 2) (mCons (mVar 3) (mNil))))) (.nm 4) (b__law_clash_due_2)) (sNext)
def f__law_clash_due : Fn := fnW 2 7 (sSeq (sAsg (.nm 2) (mPrim .len (mCons (mVar 1) (mNil)))) (sSeq (sFor (jRange2 (mCon (.int 1)) (mBin .Add (mVar 2) (mCon (.int 1)))) (.nm 3) (b__law_clash_due_1)) (sSeq (sRet (mCon .non)) (sNext))))
def f_look_wheels : Fn := fnW 2 2 (sSeq (sIf (bTest (mCmp .NotEq (mFld 0 0 (mVar 0)) (mFld 0 0 (mVar 1)))) (sSeq (sNever) (sNext)) (sNext)) (sNext))
def f_pair_begun : Fn := fnW 3 3 (sSeq (sRet (mTup (mCons (mCallP f_begun (mCons (mVar 0) (mCons (mVar 2) (mNil)))) (mCons (mCallP f_begun (mCons (mVar 1) (mCons (mVar 2) (mNil)))) (mNil))))) (sNext))
def f_is_same : Fn := fnW 1 3 (sSeq (sAsg (.tup [1, 2]) (mVar 0)) (sSeq (sRet (mCmp .Eq (mIdx (mVar 1) (mCon (.int 0))) (mIdx (mVar 2) (mCon (.int 0))))) (sNext)))
def f_next_pair : Fn := fnW 3 5 (sSeq (sAsg (.tup [3, 4]) (mVar 2)) (sSeq (sRet (mTup (mCons (mCallP f_next_state (mCons (mVar 0) (mCons (mVar 3) (mCons (mTup (mNil)) (mNil))))) (mCons (mCallP f_next_state (mCons (mVar 1) (mCons (mVar 4) (mCons (mTup (mNil)) (mNil))))) (mNil))))) (sNext)))
def b_alike_2 : Ms := sSeq (sIf (bNot (bTest (mCallP f_is_same (mCons (mVar 4) (mNil))))) (sSeq (sRet (mTup (mCons (mCon (.str "parted")) (mCons (mVar 3) (mCons (mVar 5) (mNil)))))) (sNext)) (sNext)) (sSeq (sDPut (mVar 2) (mVar 4) (mCon (.bl true))) (sSeq (sPar [4, 5] (mCons (mCallP f_next_pair (mCons (mVar 0) (mCons (mVar 1) (mCons (mVar 4) (mNil))))) (mCons (mBin .Add (mVar 5) (mCon (.int 1))) (mNil)))) (sNext)))
def b_alike_1 : Ms := sSeq (sPar [4, 5] (mCons (mCallP f_pair_begun (mCons (mVar 0) (mCons (mVar 1) (mCons (mVar 3) (mNil))))) (mCons (mCon (.int 0)) (mNil)))) (sSeq (sWhile 10000 (bDIn true (mVar 4) (mVar 2)) (b_alike_2)) (sNext))
def f_alike : Fn := fnW 2 6 (sSeq (sExpr (mCallP f_look_wheels (mCons (mVar 0) (mCons (mVar 1) (mNil))))) (sSeq (sAsg (.nm 2) (mDNew)) (sSeq (sFor (jE (mCallP f_beginnings (mCons (mVar 0) (mNil)))) (.nm 3) (b_alike_1)) (sSeq (sRet (mTup (mCons (mCon (.str "alike")) (mCons (mPrim .tuple (mCons (mSortedD kLst (mVar 2)) (mNil))) (mNil))))) (sNext)))))
def f_is_pair : Fn := fnW 3 3 (sSeq (sIf (bOr (bNot (bTest (mIsi .tuple (mVar 2)))) (bTest (mCmp .NotEq (mPrim .len (mCons (mVar 2) (mNil))) (mCon (.int 2))))) (sSeq (sRet (mCon (.bl false))) (sNext)) (sNext)) (sSeq (sRet (mAnd (mCallP f_is_state (mCons (mVar 0) (mCons (mIdx (mVar 2) (mCon (.int 0))) (mNil)))) (mAnd (mCallP f_is_state (mCons (mVar 1) (mCons (mIdx (mVar 2) (mCon (.int 1))) (mNil)))) (mCallP f_is_same (mCons (mVar 2) (mNil)))))) (sNext)))
def b__law_refers_1 : Ms := sSeq (sAsg (.nm 3) (mLc false [4] (.nm 4) (jE (mIdx (mVar 2) (mCon (.int 0)))) (bYes) (mIdx (mVar 4) (mCon (.int 0))))) (sSeq (sIf (bOr (bTest (mCmp .In (mCon (.str "hushed")) (mVar 3))) (bOr (bTest (mCmp .In (mCon (.str "awake")) (mVar 3))) (bOr (bTest (mCmp .NotEq (mIdx (mVar 2) (mCon (.int 2))) (mTup (mNil)))) (bTest (mCmp .NotEq (mIdx (mVar 2) (mCon (.int 3))) (mTup (mNil))))))) (sSeq (sExpr (mApp (mVar 1) (mVar 2))) (sNext)) (sNext)) (sNext))
def f__law_refers : Fn := fnW 1 5 (sSeq (sAsg (.nm 1) (mNLst (mNil))) (sSeq (sFor (jE (mVar 0)) (.nm 2) (b__law_refers_1)) (sSeq (sRet (mFrz (mVar 1))) (sNext))))
def f__law_next : Fn := fnW 4 5 (sSeq (sAsg (.nm 4) (mIdx (mCallP f__law_beat (mCons (mVar 0) (mCons (mVar 1) (mCons (mIdx (mVar 3) (mCon (.int 0))) (mCons (mCallP f__law_own (mCons (mVar 1) (mNil))) (mCons (mTup (mNil)) (mNil))))))) (mCon (.int 1)))) (sSeq (sRet (mTup (mCons (mVar 4) (mCons (mIdx (mCallP f__law_beat (mCons (mVar 0) (mCons (mVar 2) (mCons (mIdx (mVar 3) (mCon (.int 1))) (mCons (mCallP f__law_own (mCons (mVar 2) (mNil))) (mCons (mTup (mNil)) (mNil))))))) (mCon (.int 1))) (mNil))))) (sNext)))
def b__law_orders_2 : Ms := sSeq (sAsg (.nm 3) (mBin .Add (mVar 3) (mLc false [5] (.nm 5) (jRange1 (mVar 0)) (bTest (mCmp .NotIn (mVar 5) (mVar 4))) (mBin .Add (mVar 4) (mTup (mCons (mVar 5) (mNil))))))) (sNext)
def b__law_orders_1 : Ms := sSeq (sAsg (.nm 3) (mLst (mNil))) (sSeq (sFor (jE (mVar 1)) (.nm 4) (b__law_orders_2)) (sSeq (sAsg (.nm 1) (mVar 3)) (sNext)))
def f__law_orders : Fn := fnW 1 6 (sSeq (sAsg (.nm 1) (mLst (mCons (mTup (mNil)) (mNil)))) (sSeq (sFor (jRange1 (mVar 0)) (.nm 2) (b__law_orders_1)) (sSeq (sRet (mVar 1)) (sNext))))
def b_all_orders_1 : Ms := sSeq (sAsg (.nm 1) (mLc2 false [3, 4] (.nm 3) (jE (mVar 1)) (bYes) [4] (.nm 4) (jE (mCallP f_own_order (mCons (mVar 0) (mNil)))) (bTest (mCmp .NotIn (mVar 4) (mVar 3))) (mBin .Add (mVar 3) (mTup (mCons (mVar 4) (mNil)))))) (sNext)
def f_all_orders : Fn := fnW 1 5 (sSeq (sAsg (.nm 1) (mLst (mCons (mTup (mNil)) (mNil)))) (sSeq (sFor (jE (mCallP f_own_order (mCons (mVar 0) (mNil)))) (.nm 2) (b_all_orders_1)) (sSeq (sRet (mVar 1)) (sNext))))
def b__law_come_2 : Ms := sSeq (sDPut (mVar 2) (mVar 4) (mCon (.bl true))) (sSeq (sAsg (.nm 4) (mIdx (mCallP f__law_beat (mCons (mVar 0) (mCons (mVar 1) (mCons (mVar 4) (mCons (mCallP f__law_own (mCons (mVar 1) (mNil))) (mCons (mTup (mNil)) (mNil))))))) (mCon (.int 1)))) (sNext))
def b__law_come_1 : Ms := sSeq (sAsg (.nm 4) (mTup (mCons (mVar 3) (mCons (mBin .Mult (mTup (mCons (mCon (.int 0)) (mNil))) (mPrim .len (mCons (mVar 1) (mNil)))) (mNil))))) (sSeq (sWhile 10000 (bDIn true (mVar 4) (mVar 2)) (b__law_come_2)) (sNext))
def f__law_come : Fn := fnW 2 5 (sSeq (sAsg (.nm 2) (mDNew)) (sSeq (sFor (jE (mCallP f__law_starts (mCons (mVar 0) (mNil)))) (.nm 3) (b__law_come_1)) (sSeq (sRet (mSortedD kLst (mVar 2))) (sNext))))
def b_other_order_1 : Ms := sSeq (sIf (bTest (mCmp .NotEq (mIdx (mCallP f_beat_of (mCons (mVar 0) (mCons (mVar 1) (mCons (mVar 3) (mCons (mTup (mNil)) (mNil)))))) (mCon (.int 1))) (mVar 2))) (sSeq (sRet (mVar 3)) (sNext)) (sNext)) (sNext)
def f_other_order : Fn := fnW 2 4 (sSeq (sAsg (.nm 2) (mCallP f_next_state (mCons (mVar 0) (mCons (mVar 1) (mCons (mTup (mNil)) (mNil)))))) (sSeq (sFor (jE (mCallP f_all_orders (mCons (mVar 0) (mNil)))) (.nm 3) (b_other_order_1)) (sSeq (sRet (mCon .non)) (sNext))))
def f__law_hand : Fn := fnW 3 6 (sSeq (sAsg (.nm 3) (mCall f__law_take (mCons (mVar 0) (mCons (mPrim .len (mCons (mVar 1) (mNil))) (mNil))))) (sSeq (sAsg (.nm 4) (mNLst (mCons (mTup (mCons (mCon (.str "turn")) (mCons (mVar 3) (mCons (mIdx (mTup (mCons (mCall f__law_take (mCons (mVar 0) (mCons (mCon (.int 9)) (mNil)))) (mCons (mBin .Sub (mBin .Sub (mBin .Pow (mCon (.int 10)) (mCon (.int 60))) (mCon (.int 1))) (mCall f__law_take (mCons (mVar 0) (mCons (mCon (.int 9)) (mNil))))) (mNil)))) (mPrim .int (mCons (mCmp .Eq (mCall f__law_take (mCons (mVar 0) (mCons (mCon (.int 4)) (mNil)))) (mCon (.int 0))) (mNil)))) (mNil))))) (mNil)))) (sSeq (sExpr (mApp (mVar 4) (mTup (mCons (mCon (.str "put")) (mCons (mVar 3) (mCons (mCall f__law_take (mCons (mVar 0) (mCons (mIdx (mVar 1) (mVar 3)) (mNil)))) (mNil))))))) (sSeq (sIf (bTest (mCmp .Gt (mVar 2) (mCon (.int 0)))) (sSeq (sAsg (.nm 5) (mCall f__law_take (mCons (mVar 0) (mCons (mVar 2) (mNil))))) (sSeq (sAsg (.nm 4) (mBin .Add (mVar 4) (mLst (mCons (mTup (mCons (mCon (.str "hush")) (mCons (mVar 5) (mCons (mBin .Add (mCon (.int 1)) (mCall f__law_take (mCons (mVar 0) (mCons (mCon (.int 2)) (mNil))))) (mNil))))) (mCons (mTup (mCons (mCon (.str "wake")) (mCons (mVar 5) (mCons (mCon (.int 0)) (mNil))))) (mCons (mTup (mCons (mCon (.str "off")) (mCons (mVar 5) (mCons (mCon (.int 0)) (mNil))))) (mCons (mTup (mCons (mCon (.str "on")) (mCons (mVar 5) (mCons (mCon (.int 0)) (mNil))))) (mNil)))))))) (sNext))) (sNext)) (sSeq (sRet (mIdx (mVar 4) (mCall f__law_take (mCons (mVar 0) (mCons (mPrim .len (mCons (mVar 4) (mNil))) (mNil)))))) (sNext))))))
def f__law_figures : Fn := fnW 1 2 (sSeq (sIf (bOr (bNot (bTest (mChain .LtE .LtE (mCon (.int 1)) (mPrim .len (mCons (mVar 0) (mNil))) (mCon (.int 60))))) (bNot (bTest (mPrim .all (mCons (mLc false [1] (.nm 1) (jE (mVar 0)) (bYes) (mCmp .In (mVar 1) (mCon (.str "0123456789")))) (mNil)))))) (sSeq (sRet (mNeg (mCon (.int 1)))) (sNext)) (sNext)) (sSeq (sRet (mIfx (bAnd (bTest (mCmp .Eq (mIdx (mVar 0) (mCon (.int 0))) (mCon (.str "0")))) (bTest (mCmp .NotEq (mVar 0) (mCon (.str "0"))))) (mNeg (mCon (.int 1))) (mPrim .int (mCons (mVar 0) (mNil))))) (sNext)))
def f_need : Fn := fnW 1 1 (sSeq (sIf (bNot (bTest (mVar 0))) (sSeq (sNever) (sNext)) (sNext)) (sNext))
def f_numbers_of : Fn := fnW 2 4 (sSeq (sAsg (.nm 2) (mPrim .tuple (mCons (mLc false [3] (.nm 3) (jE (mVar 0)) (bYes) (mCallP f_figures_in (mCons (mVar 3) (mNil)))) (mNil)))) (sSeq (sExpr (mCallP f_need (mCons (mAnd (mCmp .Eq (mPrim .len (mCons (mVar 2) (mNil))) (mVar 1)) (mCmp .NotIn (mCon .non) (mVar 2))) (mNil)))) (sSeq (sRet (mVar 2)) (sNext))))
def f_worded : Fn := fnW 2 4 (sSeq (sExpr (mCallP f_need (mCons (mAnd (mCmp .Gt (mPrim .len (mCons (mVar 0) (mNil))) (mCon (.int 0))) (mCmp .In (mIdx (mVar 0) (mCon (.int 0))) (mVar 1))) (mNil)))) (sSeq (sAsg (.star [2] 3) (mVar 0)) (sSeq (sRet (mBin .Add (mTup (mCons (mVar 2) (mNil))) (mCallP f_numbers_of (mCons (mVar 3) (mCons (mIdx (mVar 1) (mVar 2)) (mNil)))))) (sNext))))
end DL

set_option Elab.async false
set_option linter.all false
set_option maxRecDepth 100000
set_option maxHeartbeats 4000000
namespace K35
open PySem PySem.Spec L2 DL
def top (i : Nat) : Stmt := PySem.Challenge.pw_hushrules_k35_whole_wishes_by_far_beats.main.body.getD i (.Pass ⟨0, 0, 0, 0⟩)
/-! ### what each def does -/
def b__law_stands_1 : Ms := sSeq (sIf (bTest (mCmp .NotEq (mIdx (mIdx (mVar 1) (mCon (.int 0))) (mIdx (mVar 4) (mCon (.int 1)))) (mIdx (mVar 4) (mCon (.int 2))))) (sSeq (sRet (mCon (.bl false))) (sNext)) (sNext)) (sSeq (sAsg (.nm 1) (mIdx (mCallKP c_beat_2_off 2 1 (mCons (mVar 0) (mCons (mVar 1) (mNil))) (mCons (mVar 2) (mNil))) (mCon (.int 1)))) (sNext))
def f__law_stands : Fn := fnW 5 6 (sSeq (sFor (jRange1 (mVar 3)) (.nm 5) (b__law_stands_1)) (sSeq (sRet (mCon (.bl true))) (sNext)))
def b__law_shown_1 : Ms := sSeq (sAsg (.nm 5) (mCallP f_begun (mCons (mVar 0) (mCons (mVar 4) (mNil))))) (sSeq (sAsg (.tup [6, 7]) (mCallKP c_round_of_2_off 2 1 (mCons (mVar 0) (mCons (mVar 5) (mNil))) (mCons (mVar 2) (mNil)))) (sSeq (sAsg (.nm 8) (mBin .Add (mVar 6) (mBin .Mult (mVar 7) (mVar 3)))) (sSeq (sIf (bAnd (bTest (mCmp .Eq (mIdx (mVar 1) (mCon (.int 0))) (mCon (.str "quiet")))) (bTest (mCmp .Is (mCallKP c_quiet_from_2_off 2 1 (mCons (mVar 0) (mCons (mVar 5) (mNil))) (mCons (mVar 2) (mNil))) (mCon .non)))) (sSeq (sRet (mCon (.bl false))) (sNext)) (sNext)) (sSeq (sIf (bAnd (bTest (mCmp .Eq (mIdx (mVar 1) (mCon (.int 0))) (mCon (.str "never")))) (bTest (mCmp .Gt (mCallKP c_times_4_off 4 1 (mCons (mVar 0) (mCons (mVar 5) (mCons (mIdx (mVar 1) (mCon (.int 1))) (mCons (mBin .Add (mVar 8) (mVar 7)) (mNil))))) (mCons (mVar 2) (mNil))) (mCon (.int 0))))) (sSeq (sRet (mCon (.bl false))) (sNext)) (sNext)) (sSeq (sIf (bAnd (bTest (mCmp .Eq (mIdx (mVar 1) (mCon (.int 0))) (mCon (.str "does")))) (bTest (mCmp .Is (mCallKP c_nth_3_off 3 1 (mCons (mVar 0) (mCons (mVar 5) (mCons (mIdx (mVar 1) (mCon (.int 1))) (mNil)))) (mCons (mVar 2) (mNil))) (mCon .non)))) (sSeq (sRet (mCon (.bl false))) (sNext)) (sNext)) (sSeq (sAsg (.nm 9) (mCallKP c_state_at_3_off 3 1 (mCons (mVar 0) (mCons (mVar 5) (mCons (mVar 8) (mNil)))) (mCons (mVar 2) (mNil)))) (sSeq (sIf (bAnd (bTest (mCmp .Eq (mIdx (mVar 1) (mCon (.int 0))) (mCon (.str "at")))) (bNot (bTest (mCallP f__law_stands (mCons (mVar 0) (mCons (mVar 9) (mCons (mVar 2) (mCons (mVar 7) (mCons (mVar 1) (mNil)))))))))) (sSeq (sRet (mCon (.bl false))) (sNext)) (sNext)) (sNext))))))))
def f__law_shown : Fn := fnW 4 10 (sSeq (sFor (jE (mCallP f_beginnings (mCons (mVar 0) (mNil)))) (.nm 4) (b__law_shown_1)) (sSeq (sRet (mCon (.bl true))) (sNext)))
def b_law_2_2 : Ms := sIf (bTest (mCmp .NotEq (mCallKP c_holds_2_off 2 1 (mCons (mVar 5) (mCons (mVar 7) (mNil))) (mCons (mVar 8) (mNil))) (mCallP f__law_shown (mCons (mVar 5) (mCons (mVar 7) (mCons (mVar 8) (mCons (mVar 9) (mNil)))))))) (sSeq (sRet (mCon (.bl false))) (sNext)) (sNext)
def b_law_2t2 : Ms := sSeq b_law_2_2 sNext
def b_law_2_1 : Ms := sAsg (.nm 9) (mIdx (mTup (mCons (mCall f__law_take (mCons (mVar 2) (mCons (mCon (.int 9)) (mNil)))) (mCons (mCall f__law_take (mCons (mVar 2) (mCons (mBin .Pow (mCon (.int 10)) (mCon (.int 40))) (mNil)))) (mNil)))) (mCall f__law_take (mCons (mVar 2) (mCons (mCon (.int 2)) (mNil)))))
def b_law_2t1 : Ms := sSeq b_law_2_1 b_law_2t2
def b_law_2_0 : Ms := sPar [7, 8] (mCons (mCall f__law_wish (mCons (mVar 2) (mCons (mVar 3) (mCons (mPrim .len (mCons (mVar 4) (mNil))) (mNil))))) (mCons (mCall f__law_off (mCons (mVar 2) (mCons (mPrim .len (mCons (mVar 4) (mNil))) (mNil)))) (mNil)))
def b_law_2t0 : Ms := sSeq b_law_2_0 b_law_2t1
def b_law_2 : Ms := b_law_2t0
def b_law_1_3 : Ms := sFor (jRange1 (mCon (.int 5))) (.nm 6) (b_law_2)
def b_law_1t3 : Ms := sSeq b_law_1_3 sNext
def b_law_1_2 : Ms := sAsg (.nm 5) (mMake 0 f_Book___init__ (mCons (mVar 3) (mCons (mVar 4) (mNil))))
def b_law_1t2 : Ms := sSeq b_law_1_2 b_law_1t3
def b_law_1_1 : Ms := sAsg (.tup [3, 4]) (mCall f__law_drawn (mCons (mVar 2) (mNil)))
def b_law_1t1 : Ms := sSeq b_law_1_1 b_law_1t2
def b_law_1_0 : Ms := sAsg (.nm 2) (mCall f__law_bag (mCons (mVar 0) (mCons (mVar 1) (mNil))))
def b_law_1t0 : Ms := sSeq b_law_1_0 b_law_1t1
def b_law_1 : Ms := b_law_1t0
def b_law_0_1 : Ms := sRet (mCon (.bl true))
def b_law_0t1 : Ms := sSeq b_law_0_1 sNext
def b_law_0_0 : Ms := sFor (jRange1 (mPrim .max (mCons (mCon (.int 2)) (mCons (mPrim .min (mCons (mCon (.int 4)) (mCons (mPrim .len (mCons (mVar 0) (mNil))) (mNil)))) (mNil))))) (.nm 1) (b_law_1)
def b_law_0t0 : Ms := sSeq b_law_0_0 b_law_0t1
def f_law : Fn := fnW 1 10 (b_law_0t0)
/-! ### the module's names -/
structure Glo (K : PySem.W.Frag) (mg : Str → Option Value) : Prop where
  b_len : mg "len" = none
  b_abs : mg "abs" = none
  b_range : mg "range" = none
  b_tuple : mg "tuple" = none
  b_isinstance : mg "isinstance" = none
  b_bool : mg "bool" = none
  b_int : mg "int" = none
  b_all : mg "all" = none
  b_zip : mg "zip" = none
  b_str : mg "str" = none
  b_any : mg "any" = none
  b_enumerate : mg "enumerate" = none
  b_max : mg "max" = none
  b_list : mg "list" = none
  b_divmod : mg "divmod" = none
  b_sorted : mg "sorted" = none
  b_min : mg "min" = none
  c_MOST_WHEELS : ∀ P w, GloW (tab P w K) K mg "MOST_WHEELS" (.int 3)
  c_MOST_BEGINNINGS : ∀ P w, GloW (tab P w K) K mg "MOST_BEGINNINGS" (.int 24)
  c_MOST_PLACES : ∀ P w, GloW (tab P w K) K mg "MOST_PLACES" (.int 4)
  c_LEAST_PLACES : ∀ P w, GloW (tab P w K) K mg "LEAST_PLACES" (.int 2)
  c_MOST_HUSHED : ∀ P w, GloW (tab P w K) K mg "MOST_HUSHED" (.int 3)
  c_RULED : ∀ P w, GloW (tab P w K) K mg "RULED" (.tup [.str "hushed", .str "awake"])
  c_PLACED : ∀ P w, GloW (tab P w K) K mg "PLACED" (.tup [.str "is", .str "not", .str "below"])
  c_PARTS : ∀ P w, GloW (tab P w K) K mg "PARTS" (.int 4)
  c_MOST_CONDITIONS : ∀ P w, GloW (tab P w K) K mg "MOST_CONDITIONS" (.int 4)
  c_CHANGES : ∀ P w, GloW (tab P w K) K mg "CHANGES" (.tup [.str "put", .str "turn"])
  c_MOST_CHANGES : ∀ P w, GloW (tab P w K) K mg "MOST_CHANGES" (.int 3)
  c_MOST_RULES : ∀ P w, GloW (tab P w K) K mg "MOST_RULES" (.int 5)
  c_DOES : ∀ P w, GloW (tab P w K) K mg "DOES" (.str "does")
  c_NEVER : ∀ P w, GloW (tab P w K) K mg "NEVER" (.str "never")
  c_AT : ∀ P w, GloW (tab P w K) K mg "AT" (.str "at")
  c_QUIET : ∀ P w, GloW (tab P w K) K mg "QUIET" (.str "quiet")
  c_MOST_BEATS : ∀ P w, GloW (tab P w K) K mg "MOST_BEATS" (.int 1000000000000000000000000000000000000000000000000000000000000)
  k_Book : Cls K (He.ga K "Book")
  k_Track : Cls K (He.ga K "Track")
  n_Book_wheels : NoAttr K (He.ga K "Book") "wheels"
  n_Book_rules : NoAttr K (He.ga K "Book") "rules"
  n_Track_deeds : NoAttr K (He.ga K "Track") "deeds"
  n_Track_begin : NoAttr K (He.ga K "Track") "begin"
  n_Track_states : NoAttr K (He.ga K "Track") "states"
  n_Track_length : NoAttr K (He.ga K "Track") "length"
section
variable {P : Program} {w : World} {K : PySem.W.Frag} {mg : Str → Option Value} {base : Heap}
abbrev s__law_bag : Stmt := top 83
theorem sc__law_bag : FnScope ["_law_script", "_law_at", "_law_cell", "_law_great", "_law_primes"] ["_law_script", "_law_at"] (defScope s__law_bag) := ⟨rfl, rfl, rfl, by decide +kernel, rfl, by decide +kernel, by decide +kernel⟩
theorem ok__law_bag (G : Glo K mg) {dvs : List V} {kws : List (Str × V)} {f : Addr} {fd : FuncData} (Fd : FunD K "_law_bag" "_law_bag" (defArgs s__law_bag) (defBody s__law_bag) (defScope s__law_bag) dvs kws f fd) : FnOk P w K mg base (L2.CX P w) 1 f fd ["_law_script", "_law_at"] (spW (tab P w K) K 2 f__law_bag) := by
  have nd := (sc__law_bag).nd
  refine fnW_ok (k := 0) Fd sc__law_bag fun cdv A outer s H E hr => ?_
  have tk := takes_of (X := cxOf (L2.CX P w) P w K mg base ["_law_script", "_law_at", "_law_cell", "_law_great", "_law_primes"] "_law_bag" (defScope s__law_bag) f cdv A outer s H E) (E := E) rfl rfl rfl rfl
  exact s_cons (s_set (i := 2) nd rfl (.inl rfl) (w_int) rfl (.inl rfl))
      (s_cons (s_if (b_cmp hr (w_var (i := 1) rfl (.inl rfl) rfl rfl) (w_len rfl G.b_len (w_cons (w_var (i := 0) rfl (.inl rfl) rfl rfl) (w_nil) rfl) rfl rfl) rfl) (s_cons (s_set (i := 2) nd rfl (.inl rfl) (w_idx (w_var (i := 0) rfl (.inl rfl) rfl rfl) (w_var (i := 1) rfl (.inl rfl) rfl rfl) (fun _ _ => rfl)) rfl (.inl rfl))
      (s_nil)) (s_nil))
      (s_cons (s_set (i := 3) nd rfl (.inl rfl) (w_int) rfl (.inl rfl))
      (s_cons (s_if (b_cmp hr (w_abs rfl G.b_abs (w_cons (w_var (i := 2) rfl (.inl rfl) rfl rfl) (w_nil) rfl) rfl rfl) (w_bin (w_int) (w_int)) rfl) (s_cons (s_set (i := 3) nd rfl (.inl rfl) (w_abs rfl G.b_abs (w_cons (w_var (i := 2) rfl (.inl rfl) rfl rfl) (w_nil) rfl) rfl rfl) rfl (.inl rfl))
      (s_nil)) (s_nil))
      (s_cons (s_set (i := 4) nd rfl (.inl rfl) (w_lst (w_cons (w_int) (w_cons (w_int) (w_cons (w_int) (w_cons (w_int) (w_cons (w_int) (w_cons (w_int) (w_cons (w_int) (w_cons (w_int) (w_nil) rfl) rfl) rfl) rfl) rfl) rfl) rfl) rfl)) rfl (.inl rfl))
      (s_cons (s_ret (w_nlst (w_cons (w_var (i := 3) rfl (.inl rfl) rfl rfl) (w_cons (w_bin (w_bin (w_bin (w_bin (w_bin (w_var (i := 2) rfl (.inl rfl) rfl rfl) (w_int)) (w_bin (w_int) (w_var (i := 1) rfl (.inl rfl) rfl rfl))) (w_int)) (w_int)) (w_idx (w_var (i := 4) rfl (.inl rfl) rfl rfl) (w_bin (w_var (i := 1) rfl (.inl rfl) rfl rfl) (w_int)) (fun _ _ => rfl))) (w_cons (w_int) (w_nil) rfl) rfl) rfl)))
      (s_nil))))))
abbrev s__law_take : Stmt := top 84
theorem sc__law_take : FnScope ["_law_bag_here", "_law_many", "_law_digit"] ["_law_bag_here", "_law_many"] (defScope s__law_take) := ⟨rfl, rfl, rfl, by decide +kernel, rfl, by decide +kernel, by decide +kernel⟩
theorem ok__law_take (G : Glo K mg) {dvs : List V} {kws : List (Str × V)} {f : Addr} {fd : FuncData} (Fd : FunD K "_law_take" "_law_take" (defArgs s__law_take) (defBody s__law_take) (defScope s__law_take) dvs kws f fd) : FnOk P w K mg base (L2.CX P w) 1 f fd ["_law_bag_here", "_law_many"] (spW (tab P w K) K 2 f__law_take) := by
  have nd := (sc__law_take).nd
  refine fnW_ok (k := 0) Fd sc__law_take fun cdv A outer s H E hr => ?_
  have tk := takes_of (X := cxOf (L2.CX P w) P w K mg base ["_law_bag_here", "_law_many", "_law_digit"] "_law_take" (defScope s__law_take) f cdv A outer s H E) (E := E) rfl rfl rfl rfl
  exact s_cons (s_if (b_cmp hr (w_idx (w_var (i := 0) rfl (.inl rfl) rfl rfl) (w_int) (fun _ _ => rfl)) (w_int) rfl) (s_cons (s_set (i := 2) nd rfl (.inl rfl) (w_bin (w_idx (w_var (i := 0) rfl (.inl rfl) rfl rfl) (w_int) (fun _ _ => rfl)) (w_var (i := 1) rfl (.inl rfl) rfl rfl)) rfl (.inl rfl))
      (s_cons (s_setIx (w_var (i := 0) rfl (.inl rfl) rfl rfl) (w_int) (w_bin (w_idx (w_var (i := 0) rfl (.inl rfl) rfl rfl) (w_int) (fun _ _ => rfl)) (w_var (i := 1) rfl (.inl rfl) rfl rfl)) rfl rfl rfl (fun _ => rfl))
      (s_cons (s_ret (w_var (i := 2) rfl (.inl rfl) rfl rfl))
      (s_nil)))) (s_nil))
      (s_cons (s_setIx (w_var (i := 0) rfl (.inl rfl) rfl rfl) (w_int) (w_bin (w_idx (w_var (i := 0) rfl (.inl rfl) rfl rfl) (w_int) (fun _ _ => rfl)) (w_int)) rfl rfl rfl (fun _ => rfl))
      (s_cons (s_setIx (w_var (i := 0) rfl (.inl rfl) rfl rfl) (w_int) (w_bin (w_bin (w_bin (w_bin (w_idx (w_var (i := 0) rfl (.inl rfl) rfl rfl) (w_int) (fun _ _ => rfl)) (w_int)) (w_bin (w_bin (w_int) (w_idx (w_var (i := 0) rfl (.inl rfl) rfl rfl) (w_int) (fun _ _ => rfl))) (w_idx (w_var (i := 0) rfl (.inl rfl) rfl rfl) (w_int) (fun _ _ => rfl)))) (w_int)) (w_int)) rfl rfl rfl (fun _ => rfl))
      (s_cons (s_ret (w_bin (w_bin (w_bin (w_bin (w_idx (w_var (i := 0) rfl (.inl rfl) rfl rfl) (w_int) (fun _ _ => rfl)) (w_int)) (w_int)) (w_int)) (w_var (i := 1) rfl (.inl rfl) rfl rfl)))
      (s_nil))))
abbrev s__law_wheels : Stmt := top 85
theorem sc__law_wheels : FnScope ["_law_bag_here", "_law_found", "_law_many", "_law_turn", "_law_places"] ["_law_bag_here"] (defScope s__law_wheels) := ⟨rfl, rfl, rfl, by decide +kernel, rfl, by decide +kernel, by decide +kernel⟩
theorem ok__law_wheels (G : Glo K mg) {dvs : List V} {kws : List (Str × V)} {f : Addr} {fd : FuncData} (h__law_take : CallF (tab P w K) P w K mg base 1 "_law_take" f__law_take) (Fd : FunD K "_law_wheels" "_law_wheels" (defArgs s__law_wheels) (defBody s__law_wheels) (defScope s__law_wheels) dvs kws f fd) : FnOk P w K mg base (L2.CX P w) 2 f fd ["_law_bag_here"] (spW (tab P w K) K 1 f__law_wheels) := by
  have nd := (sc__law_wheels).nd
  refine fnW_ok (k := 1) Fd sc__law_wheels fun cdv A outer s H E hr => ?_
  have tk := takes_of (X := cxOf (L2.CX P w) P w K mg base ["_law_bag_here", "_law_found", "_law_many", "_law_turn", "_law_places"] "_law_wheels" (defScope s__law_wheels) f cdv A outer s H E) (E := E) rfl rfl rfl rfl
  exact s_cons (s_par2 rfl nd rfl rfl (by decide) rfl rfl (w_cons (w_nlst (w_nil)) (w_cons (w_int) (w_nil) rfl) rfl) rfl rfl)
      (s_cons (s_for (passes_of rfl) rfl (i_range1 rfl G.b_range (w_bin (w_int) (w_call h__law_take hr (by decide) rfl tk (w_cons (w_var (i := 0) rfl (.inl rfl) rfl rfl) (w_cons (w_int) (w_nil) rfl) rfl) rfl rfl rfl)) rfl) (g_name (i := 3) nd rfl (.inl rfl) (.inl rfl)) (s_cons (s_set (i := 4) nd rfl (.inl rfl) (w_bin (w_int) (w_call h__law_take hr (by decide) rfl tk (w_cons (w_var (i := 0) rfl (.inl rfl) rfl rfl) (w_cons (w_int) (w_nil) rfl) rfl) rfl rfl rfl)) rfl (.inl rfl))
      (s_cons (s_if (b_cmp hr (w_bin (w_var (i := 2) rfl (.inl rfl) rfl rfl) (w_var (i := 4) rfl (.inl rfl) rfl rfl)) (w_int) rfl) (s_cons (s_expr (w_app (w_var (i := 1) rfl (.inl rfl) rfl rfl) (w_var (i := 4) rfl (.inl rfl) rfl rfl) rfl rfl rfl rfl rfl) rfl)
      (s_cons (s_set (i := 2) nd rfl (.inl rfl) (w_bin (w_var (i := 2) rfl (.inl rfl) rfl rfl) (w_var (i := 4) rfl (.inl rfl) rfl rfl)) rfl (.inl rfl))
      (s_nil))) (s_nil))
      (s_nil))) (fun _ => rfl))
      (s_cons (s_ret (w_tuple rfl G.b_tuple (w_cons (w_var (i := 1) rfl (.inl rfl) rfl rfl) (w_nil) rfl) rfl rfl))
      (s_nil)))
abbrev s__law_condition : Stmt := top 86
theorem sc__law_condition : FnScope ["_law_bag_here", "_law_wheels_here", "_law_many", "_law_word", "_law_wheel"] ["_law_bag_here", "_law_wheels_here", "_law_many"] (defScope s__law_condition) := ⟨rfl, rfl, rfl, by decide +kernel, rfl, by decide +kernel, by decide +kernel⟩
theorem ok__law_condition (G : Glo K mg) {dvs : List V} {kws : List (Str × V)} {f : Addr} {fd : FuncData} (h__law_take : CallF (tab P w K) P w K mg base 1 "_law_take" f__law_take) (Fd : FunD K "_law_condition" "_law_condition" (defArgs s__law_condition) (defBody s__law_condition) (defScope s__law_condition) dvs kws f fd) : FnOk P w K mg base (L2.CX P w) 2 f fd ["_law_bag_here", "_law_wheels_here", "_law_many"] (spW (tab P w K) K 3 f__law_condition) := by
  have nd := (sc__law_condition).nd
  refine fnW_ok (k := 1) Fd sc__law_condition fun cdv A outer s H E hr => ?_
  have tk := takes_of (X := cxOf (L2.CX P w) P w K mg base ["_law_bag_here", "_law_wheels_here", "_law_many", "_law_word", "_law_wheel"] "_law_condition" (defScope s__law_condition) f cdv A outer s H E) (E := E) rfl rfl rfl rfl
  exact s_cons (s_set (i := 3) nd rfl (.inl rfl) (w_idx (w_tup (w_cons (w_str) (w_cons (w_str) (w_cons (w_str) (w_cons (w_str) (w_cons (w_str) (w_cons (w_str) (w_nil) rfl) rfl) rfl) rfl) rfl) rfl)) (w_call h__law_take hr (by decide) rfl tk (w_cons (w_var (i := 0) rfl (.inl rfl) rfl rfl) (w_cons (w_int) (w_nil) rfl) rfl) rfl rfl rfl) (fun _ _ => rfl)) rfl (.inl rfl))
      (s_cons (s_if (b_cmp hr (w_var (i := 3) rfl (.inl rfl) rfl rfl) (w_tup (w_cons (w_str) (w_cons (w_str) (w_nil) rfl) rfl)) rfl) (s_cons (s_ret (w_tup (w_cons (w_var (i := 3) rfl (.inl rfl) rfl rfl) (w_cons (w_call h__law_take hr (by decide) rfl tk (w_cons (w_var (i := 0) rfl (.inl rfl) rfl rfl) (w_cons (w_var (i := 2) rfl (.inl rfl) rfl rfl) (w_nil) rfl) rfl) rfl rfl rfl) (w_nil) rfl) rfl)))
      (s_nil)) (s_nil))
      (s_cons (s_set (i := 4) nd rfl (.inl rfl) (w_call h__law_take hr (by decide) rfl tk (w_cons (w_var (i := 0) rfl (.inl rfl) rfl rfl) (w_cons (w_len rfl G.b_len (w_cons (w_var (i := 1) rfl (.inl rfl) rfl rfl) (w_nil) rfl) rfl rfl) (w_nil) rfl) rfl) rfl rfl rfl) rfl (.inl rfl))
      (s_cons (s_ret (w_tup (w_cons (w_var (i := 3) rfl (.inl rfl) rfl rfl) (w_cons (w_var (i := 4) rfl (.inl rfl) rfl rfl) (w_cons (w_call h__law_take hr (by decide) rfl tk (w_cons (w_var (i := 0) rfl (.inl rfl) rfl rfl) (w_cons (w_idx (w_var (i := 1) rfl (.inl rfl) rfl rfl) (w_var (i := 4) rfl (.inl rfl) rfl rfl) (fun _ _ => rfl)) (w_nil) rfl) rfl) rfl rfl rfl) (w_nil) rfl) rfl) rfl)))
      (s_nil))))
abbrev s__law_change : Stmt := top 87
theorem sc__law_change : FnScope ["_law_bag_here", "_law_wheels_here", "_law_wheel"] ["_law_bag_here", "_law_wheels_here"] (defScope s__law_change) := ⟨rfl, rfl, rfl, by decide +kernel, rfl, by decide +kernel, by decide +kernel⟩
theorem ok__law_change (G : Glo K mg) {dvs : List V} {kws : List (Str × V)} {f : Addr} {fd : FuncData} (h__law_take : CallF (tab P w K) P w K mg base 1 "_law_take" f__law_take) (Fd : FunD K "_law_change" "_law_change" (defArgs s__law_change) (defBody s__law_change) (defScope s__law_change) dvs kws f fd) : FnOk P w K mg base (L2.CX P w) 2 f fd ["_law_bag_here", "_law_wheels_here"] (spW (tab P w K) K 2 f__law_change) := by
  have nd := (sc__law_change).nd
  refine fnW_ok (k := 1) Fd sc__law_change fun cdv A outer s H E hr => ?_
  have tk := takes_of (X := cxOf (L2.CX P w) P w K mg base ["_law_bag_here", "_law_wheels_here", "_law_wheel"] "_law_change" (defScope s__law_change) f cdv A outer s H E) (E := E) rfl rfl rfl rfl
  exact s_cons (s_set (i := 2) nd rfl (.inl rfl) (w_call h__law_take hr (by decide) rfl tk (w_cons (w_var (i := 0) rfl (.inl rfl) rfl rfl) (w_cons (w_len rfl G.b_len (w_cons (w_var (i := 1) rfl (.inl rfl) rfl rfl) (w_nil) rfl) rfl rfl) (w_nil) rfl) rfl) rfl rfl rfl) rfl (.inl rfl))
      (s_cons (s_ret (w_tup (w_cons (w_idx (w_tup (w_cons (w_str) (w_cons (w_str) (w_cons (w_str) (w_nil) rfl) rfl) rfl)) (w_call h__law_take hr (by decide) rfl tk (w_cons (w_var (i := 0) rfl (.inl rfl) rfl rfl) (w_cons (w_int) (w_nil) rfl) rfl) rfl rfl rfl) (fun _ _ => rfl)) (w_cons (w_var (i := 2) rfl (.inl rfl) rfl rfl) (w_cons (w_call h__law_take hr (by decide) rfl tk (w_cons (w_var (i := 0) rfl (.inl rfl) rfl rfl) (w_cons (w_idx (w_var (i := 1) rfl (.inl rfl) rfl rfl) (w_var (i := 2) rfl (.inl rfl) rfl rfl) (fun _ _ => rfl)) (w_nil) rfl) rfl) rfl rfl rfl) (w_nil) rfl) rfl) rfl)))
      (s_nil))
abbrev s__law_rule : Stmt := top 88
theorem sc__law_rule : FnScope ["_law_bag_here", "_law_wheels_here", "_law_many", "_law_test", "_law_changes", "_law_hushes", "_law_wakes", "_law_other", "_law_way", "_law_turn"] ["_law_bag_here", "_law_wheels_here", "_law_many"] (defScope s__law_rule) := ⟨rfl, rfl, rfl, by decide +kernel, rfl, by decide +kernel, by decide +kernel⟩
theorem ok__law_rule (G : Glo K mg) {dvs : List V} {kws : List (Str × V)} {f : Addr} {fd : FuncData} (h__law_take : CallF (tab P w K) P w K mg base 1 "_law_take" f__law_take) (h__law_condition : CallF (tab P w K) P w K mg base 2 "_law_condition" f__law_condition) (h__law_change : CallF (tab P w K) P w K mg base 2 "_law_change" f__law_change) (Fd : FunD K "_law_rule" "_law_rule" (defArgs s__law_rule) (defBody s__law_rule) (defScope s__law_rule) dvs kws f fd) : FnOk P w K mg base (L2.CX P w) 3 f fd ["_law_bag_here", "_law_wheels_here", "_law_many"] (spW (tab P w K) K 3 f__law_rule) := by
  have nd := (sc__law_rule).nd
  refine fnW_ok (k := 2) Fd sc__law_rule fun cdv A outer s H E hr => ?_
  have tk := takes_of (X := cxOf (L2.CX P w) P w K mg base ["_law_bag_here", "_law_wheels_here", "_law_many", "_law_test", "_law_changes", "_law_hushes", "_law_wakes", "_law_other", "_law_way", "_law_turn"] "_law_rule" (defScope s__law_rule) f cdv A outer s H E) (E := E) rfl rfl rfl rfl
  exact s_cons (s_setLc (i := 3) (mt := false) rfl nd rfl rfl (sw_true rfl rfl rfl rfl) (i_range1 rfl G.b_range (w_idx (w_tup (w_cons (w_int) (w_cons (w_int) (w_cons (w_int) (w_cons (w_int) (w_cons (w_int) (w_cons (w_int) (w_nil) rfl) rfl) rfl) rfl) rfl) rfl)) (w_call h__law_take hr (by decide) rfl tk (w_cons (w_var (i := 0) rfl (.inr (.inl rfl)) rfl rfl) (w_cons (w_int) (w_nil) rfl) rfl) rfl rfl rfl) (fun _ _ => rfl)) rfl) (blkOk_by (own := [("_law_turn", 9)]) (by kernel_rfl)) rfl rfl (fun _ _ _ _ _ => g_name (i := 9) nd rfl (.inl rfl) (.inr rfl)) (fun _ _ _ _ _ => bs_nil) (fun _ _ _ _ _ => w_call h__law_condition hr (by decide) rfl L2.takes0 (w_cons (w_var (i := 0) rfl (.inr (.inl rfl)) rfl rfl) (w_cons (w_var (i := 1) rfl (.inr (.inl rfl)) rfl rfl) (w_cons (w_var (i := 2) rfl (.inr (.inl rfl)) rfl rfl) (w_nil) rfl) rfl) rfl) rfl rfl rfl) (fun _ => rfl))
      (s_cons (s_setLc (i := 4) (mt := false) rfl nd rfl rfl (sw_true rfl rfl rfl rfl) (i_range1 rfl G.b_range (w_idx (w_tup (w_cons (w_int) (w_cons (w_int) (w_cons (w_int) (w_cons (w_int) (w_cons (w_int) (w_nil) rfl) rfl) rfl) rfl) rfl)) (w_call h__law_take hr (by decide) rfl tk (w_cons (w_var (i := 0) rfl (.inr (.inl rfl)) rfl rfl) (w_cons (w_int) (w_nil) rfl) rfl) rfl rfl rfl) (fun _ _ => rfl)) rfl) (blkOk_by (own := [("_law_turn", 9)]) (by kernel_rfl)) rfl rfl (fun _ _ _ _ _ => g_name (i := 9) nd rfl (.inl rfl) (.inr rfl)) (fun _ _ _ _ _ => bs_nil) (fun _ _ _ _ _ => w_call h__law_change hr (by decide) rfl L2.takes0 (w_cons (w_var (i := 0) rfl (.inr (.inl rfl)) rfl rfl) (w_cons (w_var (i := 1) rfl (.inr (.inl rfl)) rfl rfl) (w_nil) rfl) rfl) rfl rfl rfl) (fun _ => rfl))
      (s_cons (s_par2 rfl nd rfl rfl (by decide) rfl rfl (w_cons (w_nlst (w_nil)) (w_cons (w_nlst (w_nil)) (w_nil) rfl) rfl) rfl rfl)
      (s_cons (s_for (passes_of rfl) rfl (i_range1 rfl G.b_range (w_var (i := 2) rfl (.inr (.inl rfl)) rfl rfl) rfl) (g_name (i := 7) nd rfl (.inl rfl) (.inl rfl)) (s_cons (s_set (i := 8) nd rfl (.inl rfl) (w_call h__law_take hr (by decide) rfl tk (w_cons (w_var (i := 0) rfl (.inr (.inl rfl)) rfl rfl) (w_cons (w_int) (w_nil) rfl) rfl) rfl rfl rfl) rfl (.inl rfl))
      (s_cons (s_if (b_cmp hr (w_var (i := 8) rfl (.inl rfl) rfl rfl) (w_int) rfl) (s_cons (s_expr (w_app (w_var (i := 5) rfl (.inl rfl) rfl rfl) (w_tup (w_cons (w_var (i := 7) rfl (.inl rfl) rfl rfl) (w_cons (w_bin (w_int) (w_call h__law_take hr (by decide) rfl tk (w_cons (w_var (i := 0) rfl (.inr (.inl rfl)) rfl rfl) (w_cons (w_int) (w_nil) rfl) rfl) rfl rfl rfl)) (w_nil) rfl) rfl)) rfl rfl rfl rfl rfl) rfl)
      (s_nil)) (s_nil))
      (s_cons (s_if (b_cmp hr (w_var (i := 8) rfl (.inl rfl) rfl rfl) (w_int) rfl) (s_cons (s_expr (w_app (w_var (i := 6) rfl (.inl rfl) rfl rfl) (w_var (i := 7) rfl (.inl rfl) rfl rfl) rfl rfl rfl rfl rfl) rfl)
      (s_nil)) (s_nil))
      (s_nil)))) (fun _ => rfl))
      (s_cons (s_ret (w_tup (w_cons (w_tuple rfl G.b_tuple (w_cons (w_var (i := 3) rfl (.inl rfl) rfl rfl) (w_nil) rfl) rfl rfl) (w_cons (w_tuple rfl G.b_tuple (w_cons (w_var (i := 4) rfl (.inl rfl) rfl rfl) (w_nil) rfl) rfl rfl) (w_cons (w_tuple rfl G.b_tuple (w_cons (w_var (i := 5) rfl (.inl rfl) rfl rfl) (w_nil) rfl) rfl rfl) (w_cons (w_tuple rfl G.b_tuple (w_cons (w_var (i := 6) rfl (.inl rfl) rfl rfl) (w_nil) rfl) rfl rfl) (w_nil) rfl) rfl) rfl) rfl)))
      (s_nil)))))
abbrev s__law_rules : Stmt := top 89
theorem sc__law_rules : FnScope ["_law_bag_here", "_law_wheels_here", "_law_many", "_law_turn"] ["_law_bag_here", "_law_wheels_here", "_law_many"] (defScope s__law_rules) := ⟨rfl, rfl, rfl, by decide +kernel, rfl, by decide +kernel, by decide +kernel⟩
theorem ok__law_rules (G : Glo K mg) {dvs : List V} {kws : List (Str × V)} {f : Addr} {fd : FuncData} (h__law_rule : CallF (tab P w K) P w K mg base 3 "_law_rule" f__law_rule) (Fd : FunD K "_law_rules" "_law_rules" (defArgs s__law_rules) (defBody s__law_rules) (defScope s__law_rules) dvs kws f fd) : FnOk P w K mg base (L2.CX P w) 4 f fd ["_law_bag_here", "_law_wheels_here", "_law_many"] (spW (tab P w K) K 3 f__law_rules) := by
  have nd := (sc__law_rules).nd
  refine fnW_ok (k := 3) Fd sc__law_rules fun cdv A outer s H E hr => ?_
  have tk := takes_of (X := cxOf (L2.CX P w) P w K mg base ["_law_bag_here", "_law_wheels_here", "_law_many", "_law_turn"] "_law_rules" (defScope s__law_rules) f cdv A outer s H E) (E := E) rfl rfl rfl rfl
  exact s_cons (s_ret (w_tuple rfl G.b_tuple (w_cons (w_lc (mt := false) rfl nd (i_range1 rfl G.b_range (w_var (i := 2) rfl (.inr (.inl rfl)) rfl rfl) rfl) (blkOk_by (own := [("_law_turn", 3)]) (by kernel_rfl)) rfl rfl (fun _ _ _ _ _ => g_name (i := 3) nd rfl (.inl rfl) (.inr rfl)) (fun _ _ _ _ _ => bs_nil) (fun _ _ _ _ _ => w_call h__law_rule hr (by decide) rfl L2.takes0 (w_cons (w_var (i := 0) rfl (.inr (.inl rfl)) rfl rfl) (w_cons (w_var (i := 1) rfl (.inr (.inl rfl)) rfl rfl) (w_cons (w_var (i := 2) rfl (.inr (.inl rfl)) rfl rfl) (w_nil) rfl) rfl) rfl) rfl rfl rfl) (fun _ => rfl)) (w_nil) rfl) rfl rfl))
      (s_nil)
abbrev s__law_drawn : Stmt := top 90
theorem sc__law_drawn : FnScope ["_law_bag_here", "_law_wheels_here"] ["_law_bag_here"] (defScope s__law_drawn) := ⟨rfl, rfl, rfl, by decide +kernel, rfl, by decide +kernel, by decide +kernel⟩
theorem ok__law_drawn (G : Glo K mg) {dvs : List V} {kws : List (Str × V)} {f : Addr} {fd : FuncData} (h__law_wheels : CallF (tab P w K) P w K mg base 2 "_law_wheels" f__law_wheels) (h__law_rules : CallF (tab P w K) P w K mg base 4 "_law_rules" f__law_rules) (h__law_take : CallF (tab P w K) P w K mg base 1 "_law_take" f__law_take) (Fd : FunD K "_law_drawn" "_law_drawn" (defArgs s__law_drawn) (defBody s__law_drawn) (defScope s__law_drawn) dvs kws f fd) : FnOk P w K mg base (L2.CX P w) 5 f fd ["_law_bag_here"] (spW (tab P w K) K 1 f__law_drawn) := by
  have nd := (sc__law_drawn).nd
  refine fnW_ok (k := 4) Fd sc__law_drawn fun cdv A outer s H E hr => ?_
  have tk := takes_of (X := cxOf (L2.CX P w) P w K mg base ["_law_bag_here", "_law_wheels_here"] "_law_drawn" (defScope s__law_drawn) f cdv A outer s H E) (E := E) rfl rfl rfl rfl
  exact s_cons (s_set (i := 1) nd rfl (.inl rfl) (w_call h__law_wheels hr (by decide) rfl tk (w_cons (w_var (i := 0) rfl (.inl rfl) rfl rfl) (w_nil) rfl) rfl rfl rfl) rfl (.inl rfl))
      (s_cons (s_ret (w_tup (w_cons (w_var (i := 1) rfl (.inl rfl) rfl rfl) (w_cons (w_call h__law_rules hr (by decide) rfl tk (w_cons (w_var (i := 0) rfl (.inl rfl) rfl rfl) (w_cons (w_var (i := 1) rfl (.inl rfl) rfl rfl) (w_cons (w_idx (w_tup (w_cons (w_int) (w_cons (w_int) (w_cons (w_int) (w_cons (w_int) (w_cons (w_int) (w_cons (w_int) (w_nil) rfl) rfl) rfl) rfl) rfl) rfl)) (w_call h__law_take hr (by decide) rfl tk (w_cons (w_var (i := 0) rfl (.inl rfl) rfl rfl) (w_cons (w_int) (w_nil) rfl) rfl) rfl rfl rfl) (fun _ _ => rfl)) (w_nil) rfl) rfl) rfl) rfl rfl rfl) (w_nil) rfl) rfl)))
      (s_nil))
abbrev s_is_row : Stmt := top 30
theorem sc_is_row : FnScope ["thing", "most"] ["thing", "most"] (defScope s_is_row) := ⟨rfl, rfl, rfl, by decide +kernel, rfl, by decide +kernel, by decide +kernel⟩
theorem ok_is_row (G : Glo K mg) {dvs : List V} {kws : List (Str × V)} {f : Addr} {fd : FuncData} (Fd : FunD K "is_row" "is_row" (defArgs s_is_row) (defBody s_is_row) (defScope s_is_row) dvs kws f fd) : FnOk P w K mg base (L2.CX P w) 1 f fd ["thing", "most"] (spW (tab P w K) K 2 f_is_row) := by
  have nd := (sc_is_row).nd
  refine fnW_ok (k := 0) Fd sc_is_row fun cdv A outer s H E hr => ?_
  have tk := takes_of (X := cxOf (L2.CX P w) P w K mg base ["thing", "most"] "is_row" (defScope s_is_row) f cdv A outer s H E) (E := E) rfl rfl rfl rfl
  exact s_cons (s_ret (w_and (w_isTuple rfl G.b_isinstance rfl G.b_tuple (w_var (i := 0) rfl (.inl rfl) rfl rfl) rfl rfl rfl) (one (w_cmp hr (w_len rfl G.b_len (w_cons (w_var (i := 0) rfl (.inl rfl) rfl rfl) (w_nil) rfl) rfl rfl) (w_var (i := 1) rfl (.inl rfl) rfl rfl) rfl))))
      (s_nil)
abbrev s_how_many : Stmt := top 32
theorem sc_how_many : FnScope ["wheels", "found", "places"] ["wheels"] (defScope s_how_many) := ⟨rfl, rfl, rfl, by decide +kernel, rfl, by decide +kernel, by decide +kernel⟩
theorem ok_how_many (G : Glo K mg) {dvs : List V} {kws : List (Str × V)} {f : Addr} {fd : FuncData} (Fd : FunD K "how_many" "how_many" (defArgs s_how_many) (defBody s_how_many) (defScope s_how_many) dvs kws f fd) : FnOk P w K mg base (L2.CX P w) 1 f fd ["wheels"] (spW (tab P w K) K 1 f_how_many) := by
  have nd := (sc_how_many).nd
  refine fnW_ok (k := 0) Fd sc_how_many fun cdv A outer s H E hr => ?_
  have tk := takes_of (X := cxOf (L2.CX P w) P w K mg base ["wheels", "found", "places"] "how_many" (defScope s_how_many) f cdv A outer s H E) (E := E) rfl rfl rfl rfl
  exact s_cons (s_set (i := 1) nd rfl (.inl rfl) (w_int) rfl (.inl rfl))
      (s_cons (s_for (passes_of rfl) rfl (i_seq (w_var (i := 0) rfl (.inl rfl) rfl rfl)) (g_name (i := 2) nd rfl (.inl rfl) (.inl rfl)) (s_cons (s_aug (i := 1) nd rfl (.inl rfl) (w_var (i := 2) rfl (.inl rfl) rfl rfl) (.inl rfl))
      (s_nil)) (fun _ => rfl))
      (s_cons (s_ret (w_var (i := 1) rfl (.inl rfl) rfl rfl))
      (s_nil)))
abbrev s_is_whole : Stmt := top 28
theorem sc_is_whole : FnScope ["thing"] ["thing"] (defScope s_is_whole) := ⟨rfl, rfl, rfl, by decide +kernel, rfl, by decide +kernel, by decide +kernel⟩
theorem ok_is_whole (G : Glo K mg) {dvs : List V} {kws : List (Str × V)} {f : Addr} {fd : FuncData} (Fd : FunD K "is_whole" "is_whole" (defArgs s_is_whole) (defBody s_is_whole) (defScope s_is_whole) dvs kws f fd) : FnOk P w K mg base (L2.CX P w) 1 f fd ["thing"] (spW (tab P w K) K 1 f_is_whole) := by
  have nd := (sc_is_whole).nd
  refine fnW_ok (k := 0) Fd sc_is_whole fun cdv A outer s H E hr => ?_
  have tk := takes_of (X := cxOf (L2.CX P w) P w K mg base ["thing"] "is_whole" (defScope s_is_whole) f cdv A outer s H E) (E := E) rfl rfl rfl rfl
  exact s_cons (s_ret (w_and (w_isInt rfl G.b_isinstance rfl G.b_int (w_var (i := 0) rfl (.inl rfl) rfl rfl) rfl rfl rfl) (one (w_not (w_isBool rfl G.b_isinstance rfl G.b_bool (w_var (i := 0) rfl (.inl rfl) rfl rfl) rfl rfl rfl)))))
      (s_nil)
abbrev s_is_from : Stmt := top 29
theorem sc_is_from : FnScope ["thing", "least", "below"] ["thing", "least", "below"] (defScope s_is_from) := ⟨rfl, rfl, rfl, by decide +kernel, rfl, by decide +kernel, by decide +kernel⟩
theorem ok_is_from (G : Glo K mg) {dvs : List V} {kws : List (Str × V)} {f : Addr} {fd : FuncData} (h_is_whole : CallF (tab P w K) P w K mg base 1 "is_whole" f_is_whole) (Fd : FunD K "is_from" "is_from" (defArgs s_is_from) (defBody s_is_from) (defScope s_is_from) dvs kws f fd) : FnOk P w K mg base (L2.CX P w) 2 f fd ["thing", "least", "below"] (spW (tab P w K) K 3 f_is_from) := by
  have nd := (sc_is_from).nd
  refine fnW_ok (k := 1) Fd sc_is_from fun cdv A outer s H E hr => ?_
  have tk := takes_of (X := cxOf (L2.CX P w) P w K mg base ["thing", "least", "below"] "is_from" (defScope s_is_from) f cdv A outer s H E) (E := E) rfl rfl rfl rfl
  exact s_cons (s_ret (w_and (w_callP h_is_whole hr (by decide) rfl tk (w_cons (w_var (i := 0) rfl (.inl rfl) rfl rfl) (w_nil) rfl) rfl rfl rfl) (one (w_chain hr (w_var (i := 1) rfl (.inl rfl) rfl rfl) (w_var (i := 0) rfl (.inl rfl) rfl rfl) (w_var (i := 2) rfl (.inl rfl) rfl rfl) (by with_unfolding_all rfl)))))
      (s_nil)
abbrev s_are_wheels : Stmt := top 33
theorem sc_are_wheels : FnScope ["thing", "one"] ["thing"] (defScope s_are_wheels) := ⟨rfl, rfl, rfl, by decide +kernel, rfl, by decide +kernel, by decide +kernel⟩
theorem ok_are_wheels (G : Glo K mg) {dvs : List V} {kws : List (Str × V)} {f : Addr} {fd : FuncData} (h_is_row : CallF (tab P w K) P w K mg base 1 "is_row" f_is_row) (h_how_many : CallF (tab P w K) P w K mg base 1 "how_many" f_how_many) (h_is_from : CallF (tab P w K) P w K mg base 2 "is_from" f_is_from) (Fd : FunD K "are_wheels" "are_wheels" (defArgs s_are_wheels) (defBody s_are_wheels) (defScope s_are_wheels) dvs kws f fd) : FnOk P w K mg base (L2.CX P w) 3 f fd ["thing"] (spW (tab P w K) K 1 f_are_wheels) := by
  have nd := (sc_are_wheels).nd
  refine fnW_ok (k := 2) Fd sc_are_wheels fun cdv A outer s H E hr => ?_
  have tk := takes_of (X := cxOf (L2.CX P w) P w K mg base ["thing", "one"] "are_wheels" (defScope s_are_wheels) f cdv A outer s H E) (E := E) rfl rfl rfl rfl
  exact s_cons (s_if (L2.PW.pt (b_or (b_not (b_test (w_callP h_is_row hr (by decide) rfl tk (w_cons (w_var (i := 0) rfl (.inl rfl) rfl rfl) (w_cons (w_globW rfl (G.c_MOST_WHEELS _ _) rfl) (w_nil) rfl) rfl) rfl rfl rfl) (fun _ => rfl))) (b_or1 (b_cmp hr (w_var (i := 0) rfl (.inl rfl) rfl rfl) (w_tup (w_nil)) rfl)))) (s_cons (s_ret (w_bl))
      (s_nil)) (s_nil))
      (s_cons (s_ret (w_and (w_all rfl rfl G.b_all (w_cons (w_lc (mt := false) rfl nd (i_seq (w_var (i := 0) rfl (.inl rfl) rfl rfl)) (blkOk_by (own := [("one", 1)]) (by kernel_rfl)) rfl rfl (fun _ _ _ _ _ => g_name (i := 1) nd rfl (.inl rfl) (.inr rfl)) (fun _ _ _ _ _ => bs_nil) (fun _ _ _ _ _ => w_callP h_is_from hr (by decide) rfl L2.takes0 (w_cons (w_var (i := 1) rfl (.inl rfl) rfl rfl) (w_cons (w_globW rfl (G.c_LEAST_PLACES _ _) rfl) (w_cons (w_bin (w_globW rfl (G.c_MOST_PLACES _ _) rfl) (w_int)) (w_nil) rfl) rfl) rfl) rfl rfl rfl) (fun _ => rfl)) (w_nil) rfl) rfl rfl) (one (w_cmp hr (w_callP h_how_many hr (by decide) rfl tk (w_cons (w_var (i := 0) rfl (.inl rfl) rfl rfl) (w_nil) rfl) rfl rfl rfl) (w_globW rfl (G.c_MOST_BEGINNINGS _ _) rfl) rfl))))
      (s_nil))
abbrev s_are_rising : Stmt := top 31
theorem sc_are_rising : FnScope ["numbers", "one", "other"] ["numbers"] (defScope s_are_rising) := ⟨rfl, rfl, rfl, by decide +kernel, rfl, by decide +kernel, by decide +kernel⟩
theorem ok_are_rising (G : Glo K mg) {dvs : List V} {kws : List (Str × V)} {f : Addr} {fd : FuncData} (Fd : FunD K "are_rising" "are_rising" (defArgs s_are_rising) (defBody s_are_rising) (defScope s_are_rising) dvs kws f fd) : FnOk P w K mg base (L2.CX P w) 1 f fd ["numbers"] (spW (tab P w K) K 1 f_are_rising) := by
  have nd := (sc_are_rising).nd
  refine fnW_ok (k := 0) Fd sc_are_rising fun cdv A outer s H E hr => ?_
  have tk := takes_of (X := cxOf (L2.CX P w) P w K mg base ["numbers", "one", "other"] "are_rising" (defScope s_are_rising) f cdv A outer s H E) (E := E) rfl rfl rfl rfl
  exact s_cons (s_ret (w_all rfl rfl G.b_all (w_cons (w_lc (mt := false) rfl nd (i_zip rfl G.b_zip (w_var (i := 0) rfl (.inl rfl) rfl rfl) (w_slc (w_var (i := 0) rfl (.inl rfl) rfl rfl) (w_part (w_int)) (w_noPart)) rfl rfl rfl) (blkOk_by (own := [("one", 1), ("other", 2)]) (by kernel_rfl)) rfl rfl (fun _ _ _ _ _ => g_tup rfl (gs_name (i := 1) nd rfl (.inl rfl) (.inr rfl) (gs_name (i := 2) nd rfl (.inl rfl) (.inr rfl) (gs_nil) rfl) rfl) rfl rfl) (fun _ _ _ _ _ => bs_nil) (fun _ _ _ _ _ => w_cmp hr (w_var (i := 1) rfl (.inl rfl) rfl rfl) (w_var (i := 2) rfl (.inl rfl) rfl rfl) rfl) (fun _ => rfl)) (w_nil) rfl) rfl rfl))
      (s_nil)
abbrev s_is_hush : Stmt := top 38
theorem sc_is_hush : FnScope ["many", "thing"] ["many", "thing"] (defScope s_is_hush) := ⟨rfl, rfl, rfl, by decide +kernel, rfl, by decide +kernel, by decide +kernel⟩
theorem ok_is_hush (G : Glo K mg) {dvs : List V} {kws : List (Str × V)} {f : Addr} {fd : FuncData} (h_is_from : CallF (tab P w K) P w K mg base 2 "is_from" f_is_from) (Fd : FunD K "is_hush" "is_hush" (defArgs s_is_hush) (defBody s_is_hush) (defScope s_is_hush) dvs kws f fd) : FnOk P w K mg base (L2.CX P w) 3 f fd ["many", "thing"] (spW (tab P w K) K 2 f_is_hush) := by
  have nd := (sc_is_hush).nd
  refine fnW_ok (k := 2) Fd sc_is_hush fun cdv A outer s H E hr => ?_
  have tk := takes_of (X := cxOf (L2.CX P w) P w K mg base ["many", "thing"] "is_hush" (defScope s_is_hush) f cdv A outer s H E) (E := E) rfl rfl rfl rfl
  exact s_cons (s_if (L2.PW.pt (b_or (b_not (b_test (w_isTuple rfl G.b_isinstance rfl G.b_tuple (w_var (i := 1) rfl (.inl rfl) rfl rfl) rfl rfl rfl) (fun _ => rfl))) (b_or1 (b_cmp hr (w_len rfl G.b_len (w_cons (w_var (i := 1) rfl (.inl rfl) rfl rfl) (w_nil) rfl) rfl rfl) (w_int) rfl)))) (s_cons (s_ret (w_bl))
      (s_nil)) (s_nil))
      (s_cons (s_ret (w_and (w_callP h_is_from hr (by decide) rfl tk (w_cons (w_idx (w_var (i := 1) rfl (.inl rfl) rfl rfl) (w_int) (fun _ _ => rfl)) (w_cons (w_int) (w_cons (w_var (i := 0) rfl (.inl rfl) rfl rfl) (w_nil) rfl) rfl) rfl) rfl rfl rfl) (one (w_callP h_is_from hr (by decide) rfl tk (w_cons (w_idx (w_var (i := 1) rfl (.inl rfl) rfl rfl) (w_int) (fun _ _ => rfl)) (w_cons (w_int) (w_cons (w_bin (w_globW rfl (G.c_MOST_HUSHED _ _) rfl) (w_int)) (w_nil) rfl) rfl) rfl) rfl rfl rfl))))
      (s_nil))
abbrev s_are_hushes : Stmt := top 39
theorem sc_are_hushes : FnScope ["many", "thing", "rule", "beats", "one"] ["many", "thing"] (defScope s_are_hushes) := ⟨rfl, rfl, rfl, by decide +kernel, rfl, by decide +kernel, by decide +kernel⟩
theorem ok_are_hushes (G : Glo K mg) {dvs : List V} {kws : List (Str × V)} {f : Addr} {fd : FuncData} (h_is_hush : CallF (tab P w K) P w K mg base 3 "is_hush" f_is_hush) (h_are_rising : CallF (tab P w K) P w K mg base 1 "are_rising" f_are_rising) (Fd : FunD K "are_hushes" "are_hushes" (defArgs s_are_hushes) (defBody s_are_hushes) (defScope s_are_hushes) dvs kws f fd) : FnOk P w K mg base (L2.CX P w) 4 f fd ["many", "thing"] (spW (tab P w K) K 2 f_are_hushes) := by
  have nd := (sc_are_hushes).nd
  refine fnW_ok (k := 3) Fd sc_are_hushes fun cdv A outer s H E hr => ?_
  have tk := takes_of (X := cxOf (L2.CX P w) P w K mg base ["many", "thing", "rule", "beats", "one"] "are_hushes" (defScope s_are_hushes) f cdv A outer s H E) (E := E) rfl rfl rfl rfl
  exact s_cons (s_if (L2.PW.pt (b_or (b_not (b_test (w_isTuple rfl G.b_isinstance rfl G.b_tuple (w_var (i := 1) rfl (.inl rfl) rfl rfl) rfl rfl rfl) (fun _ => rfl))) (b_or1 (b_not (b_test (w_all rfl rfl G.b_all (w_cons (w_lc (mt := false) rfl nd (i_seq (w_var (i := 1) rfl (.inl rfl) rfl rfl)) (blkOk_by (own := [("one", 4)]) (by kernel_rfl)) rfl rfl (fun _ _ _ _ _ => g_name (i := 4) nd rfl (.inl rfl) (.inr rfl)) (fun _ _ _ _ _ => bs_nil) (fun _ _ _ _ _ => w_callP h_is_hush hr (by decide) rfl L2.takes0 (w_cons (w_var (i := 0) rfl (.inr (.inl rfl)) rfl rfl) (w_cons (w_var (i := 4) rfl (.inl rfl) rfl rfl) (w_nil) rfl) rfl) rfl rfl rfl) (fun _ => rfl)) (w_nil) rfl) rfl rfl) (fun _ => rfl)))))) (s_cons (s_ret (w_bl))
      (s_nil)) (s_nil))
      (s_cons (s_ret (w_callP h_are_rising hr (by decide) rfl tk (w_cons (w_lc (mt := false) rfl nd (i_seq (w_var (i := 1) rfl (.inl rfl) rfl rfl)) (blkOk_by (own := [("rule", 2), ("beats", 3)]) (by kernel_rfl)) rfl rfl (fun _ _ _ _ _ => g_tup rfl (gs_name (i := 2) nd rfl (.inl rfl) (.inr rfl) (gs_name (i := 3) nd rfl (.inl rfl) (.inr rfl) (gs_nil) rfl) rfl) rfl rfl) (fun _ _ _ _ _ => bs_nil) (fun _ _ _ _ _ => w_var (i := 2) rfl (.inl rfl) rfl rfl) (fun _ => rfl)) (w_nil) rfl) rfl rfl rfl))
      (s_nil))
abbrev s_are_rules_numbers : Stmt := top 37
theorem sc_are_rules_numbers : FnScope ["thing", "many", "one"] ["thing", "many"] (defScope s_are_rules_numbers) := ⟨rfl, rfl, rfl, by decide +kernel, rfl, by decide +kernel, by decide +kernel⟩
theorem ok_are_rules_numbers (G : Glo K mg) {dvs : List V} {kws : List (Str × V)} {f : Addr} {fd : FuncData} (h_are_rising : CallF (tab P w K) P w K mg base 1 "are_rising" f_are_rising) (h_is_from : CallF (tab P w K) P w K mg base 2 "is_from" f_is_from) (Fd : FunD K "are_rules_numbers" "are_rules_numbers" (defArgs s_are_rules_numbers) (defBody s_are_rules_numbers) (defScope s_are_rules_numbers) dvs kws f fd) : FnOk P w K mg base (L2.CX P w) 3 f fd ["thing", "many"] (spW (tab P w K) K 2 f_are_rules_numbers) := by
  have nd := (sc_are_rules_numbers).nd
  refine fnW_ok (k := 2) Fd sc_are_rules_numbers fun cdv A outer s H E hr => ?_
  have tk := takes_of (X := cxOf (L2.CX P w) P w K mg base ["thing", "many", "one"] "are_rules_numbers" (defScope s_are_rules_numbers) f cdv A outer s H E) (E := E) rfl rfl rfl rfl
  exact s_cons (s_ret (w_and (w_isTuple rfl G.b_isinstance rfl G.b_tuple (w_var (i := 0) rfl (.inl rfl) rfl rfl) rfl rfl rfl) (w_and (w_all rfl rfl G.b_all (w_cons (w_lc (mt := false) rfl nd (i_seq (w_var (i := 0) rfl (.inl rfl) rfl rfl)) (blkOk_by (own := [("one", 2)]) (by kernel_rfl)) rfl rfl (fun _ _ _ _ _ => g_name (i := 2) nd rfl (.inl rfl) (.inr rfl)) (fun _ _ _ _ _ => bs_nil) (fun _ _ _ _ _ => w_callP h_is_from hr (by decide) rfl L2.takes0 (w_cons (w_var (i := 2) rfl (.inl rfl) rfl rfl) (w_cons (w_int) (w_cons (w_var (i := 1) rfl (.inr (.inl rfl)) rfl rfl) (w_nil) rfl) rfl) rfl) rfl rfl rfl) (fun _ => rfl)) (w_nil) rfl) rfl rfl) (one (w_callP h_are_rising hr (by decide) rfl tk (w_cons (w_var (i := 0) rfl (.inl rfl) rfl rfl) (w_nil) rfl) rfl rfl rfl)))))
      (s_nil)
abbrev s_is_worded : Stmt := top 34
theorem sc_is_worded : FnScope ["thing", "words", "many"] ["thing", "words", "many"] (defScope s_is_worded) := ⟨rfl, rfl, rfl, by decide +kernel, rfl, by decide +kernel, by decide +kernel⟩
theorem ok_is_worded (G : Glo K mg) {dvs : List V} {kws : List (Str × V)} {f : Addr} {fd : FuncData} (Fd : FunD K "is_worded" "is_worded" (defArgs s_is_worded) (defBody s_is_worded) (defScope s_is_worded) dvs kws f fd) : FnOk P w K mg base (L2.CX P w) 1 f fd ["thing", "words", "many"] (spW (tab P w K) K 3 f_is_worded) := by
  have nd := (sc_is_worded).nd
  refine fnW_ok (k := 0) Fd sc_is_worded fun cdv A outer s H E hr => ?_
  have tk := takes_of (X := cxOf (L2.CX P w) P w K mg base ["thing", "words", "many"] "is_worded" (defScope s_is_worded) f cdv A outer s H E) (E := E) rfl rfl rfl rfl
  exact s_cons (s_ret (w_and (w_isTuple rfl G.b_isinstance rfl G.b_tuple (w_var (i := 0) rfl (.inl rfl) rfl rfl) rfl rfl rfl) (w_and (w_cmp hr (w_len rfl G.b_len (w_cons (w_var (i := 0) rfl (.inl rfl) rfl rfl) (w_nil) rfl) rfl rfl) (w_var (i := 2) rfl (.inl rfl) rfl rfl) rfl) (w_and (w_isStr rfl G.b_isinstance rfl G.b_str (w_idx (w_var (i := 0) rfl (.inl rfl) rfl rfl) (w_int) (fun _ _ => rfl)) rfl rfl rfl) (one (w_cmp hr (w_idx (w_var (i := 0) rfl (.inl rfl) rfl rfl) (w_int) (fun _ _ => rfl)) (w_var (i := 1) rfl (.inl rfl) rfl rfl) rfl))))))
      (s_nil)
abbrev s_is_placed : Stmt := top 35
theorem sc_is_placed : FnScope ["wheels", "thing", "words", "word", "wheel", "place"] ["wheels", "thing", "words"] (defScope s_is_placed) := ⟨rfl, rfl, rfl, by decide +kernel, rfl, by decide +kernel, by decide +kernel⟩
theorem ok_is_placed (G : Glo K mg) {dvs : List V} {kws : List (Str × V)} {f : Addr} {fd : FuncData} (h_is_worded : CallF (tab P w K) P w K mg base 1 "is_worded" f_is_worded) (h_is_from : CallF (tab P w K) P w K mg base 2 "is_from" f_is_from) (Fd : FunD K "is_placed" "is_placed" (defArgs s_is_placed) (defBody s_is_placed) (defScope s_is_placed) dvs kws f fd) : FnOk P w K mg base (L2.CX P w) 3 f fd ["wheels", "thing", "words"] (spW (tab P w K) K 3 f_is_placed) := by
  have nd := (sc_is_placed).nd
  refine fnW_ok (k := 2) Fd sc_is_placed fun cdv A outer s H E hr => ?_
  have tk := takes_of (X := cxOf (L2.CX P w) P w K mg base ["wheels", "thing", "words", "word", "wheel", "place"] "is_placed" (defScope s_is_placed) f cdv A outer s H E) (E := E) rfl rfl rfl rfl
  exact s_cons (s_if (b_not (b_test (w_callP h_is_worded hr (by decide) rfl tk (w_cons (w_var (i := 1) rfl (.inl rfl) rfl rfl) (w_cons (w_var (i := 2) rfl (.inl rfl) rfl rfl) (w_cons (w_int) (w_nil) rfl) rfl) rfl) rfl rfl rfl) (fun _ => rfl))) (s_cons (s_ret (w_bl))
      (s_nil)) (s_nil))
      (s_cons (s_asg (w_var (i := 1) rfl (.inl rfl) rfl rfl) (g_tup rfl (gs_name (i := 3) nd rfl (.inl rfl) (.inl rfl) (gs_name (i := 4) nd rfl (.inl rfl) (.inl rfl) (gs_name (i := 5) nd rfl (.inl rfl) (.inl rfl) (gs_nil) rfl) rfl) rfl) rfl rfl) rfl rfl rfl)
      (s_cons (s_ret (w_and (w_callP h_is_from hr (by decide) rfl tk (w_cons (w_var (i := 4) rfl (.inl rfl) rfl rfl) (w_cons (w_int) (w_cons (w_len rfl G.b_len (w_cons (w_var (i := 0) rfl (.inl rfl) rfl rfl) (w_nil) rfl) rfl rfl) (w_nil) rfl) rfl) rfl) rfl rfl rfl) (one (w_callP h_is_from hr (by decide) rfl tk (w_cons (w_var (i := 5) rfl (.inl rfl) rfl rfl) (w_cons (w_int) (w_cons (w_idx (w_var (i := 0) rfl (.inl rfl) rfl rfl) (w_var (i := 4) rfl (.inl rfl) rfl rfl) (fun _ _ => rfl)) (w_nil) rfl) rfl) rfl) rfl rfl rfl))))
      (s_nil)))
abbrev s_is_condition : Stmt := top 36
theorem sc_is_condition : FnScope ["wheels", "many", "thing"] ["wheels", "many", "thing"] (defScope s_is_condition) := ⟨rfl, rfl, rfl, by decide +kernel, rfl, by decide +kernel, by decide +kernel⟩
theorem ok_is_condition (G : Glo K mg) {dvs : List V} {kws : List (Str × V)} {f : Addr} {fd : FuncData} (h_is_worded : CallF (tab P w K) P w K mg base 1 "is_worded" f_is_worded) (h_is_from : CallF (tab P w K) P w K mg base 2 "is_from" f_is_from) (h_is_placed : CallF (tab P w K) P w K mg base 3 "is_placed" f_is_placed) (Fd : FunD K "is_condition" "is_condition" (defArgs s_is_condition) (defBody s_is_condition) (defScope s_is_condition) dvs kws f fd) : FnOk P w K mg base (L2.CX P w) 4 f fd ["wheels", "many", "thing"] (spW (tab P w K) K 3 f_is_condition) := by
  have nd := (sc_is_condition).nd
  refine fnW_ok (k := 3) Fd sc_is_condition fun cdv A outer s H E hr => ?_
  have tk := takes_of (X := cxOf (L2.CX P w) P w K mg base ["wheels", "many", "thing"] "is_condition" (defScope s_is_condition) f cdv A outer s H E) (E := E) rfl rfl rfl rfl
  exact s_cons (s_if (b_test (w_callP h_is_worded hr (by decide) rfl tk (w_cons (w_var (i := 2) rfl (.inl rfl) rfl rfl) (w_cons (w_globW rfl (G.c_RULED _ _) rfl) (w_cons (w_int) (w_nil) rfl) rfl) rfl) rfl rfl rfl) (fun _ => rfl)) (s_cons (s_ret (w_callP h_is_from hr (by decide) rfl tk (w_cons (w_idx (w_var (i := 2) rfl (.inl rfl) rfl rfl) (w_int) (fun _ _ => rfl)) (w_cons (w_int) (w_cons (w_var (i := 1) rfl (.inl rfl) rfl rfl) (w_nil) rfl) rfl) rfl) rfl rfl rfl))
      (s_nil)) (s_nil))
      (s_cons (s_ret (w_callP h_is_placed hr (by decide) rfl tk (w_cons (w_var (i := 0) rfl (.inl rfl) rfl rfl) (w_cons (w_var (i := 2) rfl (.inl rfl) rfl rfl) (w_cons (w_globW rfl (G.c_PLACED _ _) rfl) (w_nil) rfl) rfl) rfl) rfl rfl rfl))
      (s_nil))
abbrev s_is_rule : Stmt := top 40
theorem sc_is_rule : FnScope ["wheels", "many", "thing", "test", "changes", "hushes", "wakes", "rule", "beats", "one"] ["wheels", "many", "thing"] (defScope s_is_rule) := ⟨rfl, rfl, rfl, by decide +kernel, rfl, by decide +kernel, by decide +kernel⟩
theorem ok_is_rule (G : Glo K mg) {dvs : List V} {kws : List (Str × V)} {f : Addr} {fd : FuncData} (h_is_condition : CallF (tab P w K) P w K mg base 4 "is_condition" f_is_condition) (h_is_row : CallF (tab P w K) P w K mg base 1 "is_row" f_is_row) (h_is_placed : CallF (tab P w K) P w K mg base 3 "is_placed" f_is_placed) (h_are_rules_numbers : CallF (tab P w K) P w K mg base 3 "are_rules_numbers" f_are_rules_numbers) (h_are_hushes : CallF (tab P w K) P w K mg base 4 "are_hushes" f_are_hushes) (Fd : FunD K "is_rule" "is_rule" (defArgs s_is_rule) (defBody s_is_rule) (defScope s_is_rule) dvs kws f fd) : FnOk P w K mg base (L2.CX P w) 5 f fd ["wheels", "many", "thing"] (spW (tab P w K) K 3 f_is_rule) := by
  have nd := (sc_is_rule).nd
  refine fnW_ok (k := 4) Fd sc_is_rule fun cdv A outer s H E hr => ?_
  have tk := takes_of (X := cxOf (L2.CX P w) P w K mg base ["wheels", "many", "thing", "test", "changes", "hushes", "wakes", "rule", "beats", "one"] "is_rule" (defScope s_is_rule) f cdv A outer s H E) (E := E) rfl rfl rfl rfl
  exact s_cons (s_if (L2.PW.pt (b_or (b_not (b_test (w_isTuple rfl G.b_isinstance rfl G.b_tuple (w_var (i := 2) rfl (.inl rfl) rfl rfl) rfl rfl rfl) (fun _ => rfl))) (b_or1 (b_cmp hr (w_len rfl G.b_len (w_cons (w_var (i := 2) rfl (.inl rfl) rfl rfl) (w_nil) rfl) rfl rfl) (w_globW rfl (G.c_PARTS _ _) rfl) rfl)))) (s_cons (s_ret (w_bl))
      (s_nil)) (s_nil))
      (s_cons (s_asg (w_var (i := 2) rfl (.inl rfl) rfl rfl) (g_tup rfl (gs_name (i := 3) nd rfl (.inl rfl) (.inl rfl) (gs_name (i := 4) nd rfl (.inl rfl) (.inl rfl) (gs_name (i := 5) nd rfl (.inl rfl) (.inl rfl) (gs_name (i := 6) nd rfl (.inr rfl) (.inl rfl) (gs_nil) rfl) rfl) rfl) rfl) rfl rfl) rfl rfl rfl)
      (s_cons (s_if (L2.PW.pt (b_or (b_not (b_test (w_callP h_is_row hr (by decide) rfl tk (w_cons (w_var (i := 3) rfl (.inl rfl) rfl rfl) (w_cons (w_globW rfl (G.c_MOST_CONDITIONS _ _) rfl) (w_nil) rfl) rfl) rfl rfl rfl) (fun _ => rfl))) (b_or1 (b_not (b_test (w_all rfl rfl G.b_all (w_cons (w_lc (mt := false) rfl nd (i_seq (w_var (i := 3) rfl (.inl rfl) rfl rfl)) (blkOk_by (own := [("one", 9)]) (by kernel_rfl)) rfl rfl (fun _ _ _ _ _ => g_name (i := 9) nd rfl (.inl rfl) (.inr rfl)) (fun _ _ _ _ _ => bs_nil) (fun _ _ _ _ _ => w_callP h_is_condition hr (by decide) rfl L2.takes0 (w_cons (w_var (i := 0) rfl (.inr (.inl rfl)) rfl rfl) (w_cons (w_var (i := 1) rfl (.inr (.inl rfl)) rfl rfl) (w_cons (w_var (i := 9) rfl (.inl rfl) rfl rfl) (w_nil) rfl) rfl) rfl) rfl rfl rfl) (fun _ => rfl)) (w_nil) rfl) rfl rfl) (fun _ => rfl)))))) (s_cons (s_ret (w_bl))
      (s_nil)) (s_nil))
      (s_cons (s_if (L2.PW.pt (b_or (b_not (b_test (w_callP h_is_row hr (by decide) rfl tk (w_cons (w_var (i := 4) rfl (.inl rfl) rfl rfl) (w_cons (w_globW rfl (G.c_MOST_CHANGES _ _) rfl) (w_nil) rfl) rfl) rfl rfl rfl) (fun _ => rfl))) (b_or1 (b_not (b_test (w_all rfl rfl G.b_all (w_cons (w_lc (mt := false) rfl nd (i_seq (w_var (i := 4) rfl (.inl rfl) rfl rfl)) (blkOk_by (own := [("one", 9)]) (by kernel_rfl)) rfl rfl (fun _ _ _ _ _ => g_name (i := 9) nd rfl (.inl rfl) (.inr rfl)) (fun _ _ _ _ _ => bs_nil) (fun _ _ _ _ _ => w_callP h_is_placed hr (by decide) rfl L2.takes0 (w_cons (w_var (i := 0) rfl (.inr (.inl rfl)) rfl rfl) (w_cons (w_var (i := 9) rfl (.inl rfl) rfl rfl) (w_cons (w_globW rfl (G.c_CHANGES _ _) rfl) (w_nil) rfl) rfl) rfl) rfl rfl rfl) (fun _ => rfl)) (w_nil) rfl) rfl rfl) (fun _ => rfl)))))) (s_cons (s_ret (w_bl))
      (s_nil)) (s_nil))
      (s_cons (s_if (L2.PW.pt (b_or (b_not (b_test (w_callP h_are_hushes hr (by decide) rfl tk (w_cons (w_var (i := 1) rfl (.inr (.inl rfl)) rfl rfl) (w_cons (w_var (i := 5) rfl (.inl rfl) rfl rfl) (w_nil) rfl) rfl) rfl rfl rfl) (fun _ => rfl))) (b_or1 (b_not (b_test (w_callP h_are_rules_numbers hr (by decide) rfl tk (w_cons (w_var (i := 6) rfl (.inr (.inl rfl)) rfl rfl) (w_cons (w_var (i := 1) rfl (.inr (.inl rfl)) rfl rfl) (w_nil) rfl) rfl) rfl rfl rfl) (fun _ => rfl)))))) (s_cons (s_ret (w_bl))
      (s_nil)) (s_nil))
      (s_cons (s_ret (w_not (w_any rfl rfl G.b_any (w_cons (w_lc (mt := false) rfl nd (i_seq (w_var (i := 5) rfl (.inl rfl) rfl rfl)) (blkOk_by (own := [("rule", 7), ("beats", 8)]) (by kernel_rfl)) rfl rfl (fun _ _ _ _ _ => g_tup rfl (gs_name (i := 7) nd rfl (.inl rfl) (.inr rfl) (gs_name (i := 8) nd rfl (.inl rfl) (.inr rfl) (gs_nil) rfl) rfl) rfl rfl) (fun _ _ _ _ _ => bs_nil) (fun _ _ _ _ _ => w_cmp hr (w_var (i := 7) rfl (.inl rfl) rfl rfl) (w_var (i := 6) rfl (.inr (.inl rfl)) rfl rfl) rfl) (fun _ => rfl)) (w_nil) rfl) rfl rfl)))
      (s_nil))))))
abbrev s_look_book : Stmt := top 41
theorem sc_look_book : FnScope ["wheels", "rules", "at", "rule"] ["wheels", "rules"] (defScope s_look_book) := ⟨rfl, rfl, rfl, by decide +kernel, rfl, by decide +kernel, by decide +kernel⟩
theorem ok_look_book (G : Glo K mg) {dvs : List V} {kws : List (Str × V)} {f : Addr} {fd : FuncData} (h_is_row : CallF (tab P w K) P w K mg base 1 "is_row" f_is_row) (h_are_wheels : CallF (tab P w K) P w K mg base 3 "are_wheels" f_are_wheels) (h_is_rule : CallF (tab P w K) P w K mg base 5 "is_rule" f_is_rule) (Fd : FunD K "look_book" "look_book" (defArgs s_look_book) (defBody s_look_book) (defScope s_look_book) dvs kws f fd) : FnOk P w K mg base (L2.CX P w) 6 f fd ["wheels", "rules"] (spW (tab P w K) K 2 f_look_book) := by
  have nd := (sc_look_book).nd
  refine fnW_ok (k := 5) Fd sc_look_book fun cdv A outer s H E hr => ?_
  have tk := takes_of (X := cxOf (L2.CX P w) P w K mg base ["wheels", "rules", "at", "rule"] "look_book" (defScope s_look_book) f cdv A outer s H E) (E := E) rfl rfl rfl rfl
  exact s_cons (s_if (L2.PW.pt (b_or (b_not (b_test (w_callP h_are_wheels hr (by decide) rfl tk (w_cons (w_var (i := 0) rfl (.inl rfl) rfl rfl) (w_nil) rfl) rfl rfl rfl) (fun _ => rfl))) (b_or1 (b_not (b_test (w_callP h_is_row hr (by decide) rfl tk (w_cons (w_var (i := 1) rfl (.inl rfl) rfl rfl) (w_cons (w_globW rfl (G.c_MOST_RULES _ _) rfl) (w_nil) rfl) rfl) rfl rfl rfl) (fun _ => rfl)))))) (s_cons (s_never)
      (s_nil)) (s_nil))
      (s_cons (s_for (passes_of rfl) rfl (i_enum rfl G.b_enumerate (w_var (i := 1) rfl (.inl rfl) rfl rfl) rfl) (g_tup rfl (gs_name (i := 2) nd rfl (.inl rfl) (.inl rfl) (gs_name (i := 3) nd rfl (.inl rfl) (.inl rfl) (gs_nil) rfl) rfl) rfl rfl) (s_cons (s_if (b_not (b_test (w_callP h_is_rule hr (by decide) rfl tk (w_cons (w_var (i := 0) rfl (.inl rfl) rfl rfl) (w_cons (w_len rfl G.b_len (w_cons (w_var (i := 1) rfl (.inl rfl) rfl rfl) (w_nil) rfl) rfl rfl) (w_cons (w_var (i := 3) rfl (.inl rfl) rfl rfl) (w_nil) rfl) rfl) rfl) rfl rfl rfl) (fun _ => rfl))) (s_cons (s_never)
      (s_nil)) (s_nil))
      (s_nil)) (fun _ => rfl))
      (s_nil))
abbrev s_Book___init__ : Stmt := inClass (top 42) 0
theorem sc_Book___init__ : FnScope ["self", "wheels", "rules"] ["self", "wheels", "rules"] (defScope s_Book___init__) := ⟨rfl, rfl, rfl, by decide +kernel, rfl, by decide +kernel, by decide +kernel⟩
theorem ok_Book___init__ (G : Glo K mg) {dvs : List V} {kws : List (Str × V)} {f : Addr} {fd : FuncData} (h_look_book : CallF (tab P w K) P w K mg base 6 "look_book" f_look_book) (Fd : FunD K "__init__" "Book.__init__" (defArgs s_Book___init__) (defBody s_Book___init__) (defScope s_Book___init__) dvs kws f fd) : FnOk P w K mg base (L2.CX P w) 7 f fd ["self", "wheels", "rules"] (spW (tab P w K) K 3 f_Book___init__) := by
  have nd := (sc_Book___init__).nd
  refine fnW_ok (k := 6) Fd sc_Book___init__ fun cdv A outer s H E hr => ?_
  have tk := takes_of (X := cxOf (L2.CX P w) P w K mg base ["self", "wheels", "rules"] "Book.__init__" (defScope s_Book___init__) f cdv A outer s H E) (E := E) rfl rfl rfl rfl
  exact s_cons (s_expr (w_callP h_look_book hr (by decide) rfl tk (w_cons (w_var (i := 1) rfl (.inl rfl) rfl rfl) (w_cons (w_var (i := 2) rfl (.inl rfl) rfl rfl) (w_nil) rfl) rfl) rfl rfl rfl) rfl)
      (s_cons (s_setFld fldN (Nat.le_of_ble_eq_true rfl) rfl G.k_Book G.n_Book_wheels (w_var (i := 0) rfl (.inl rfl) rfl rfl) (w_var (i := 1) rfl (.inl rfl) rfl rfl) rfl)
      (s_cons (s_setFld fldN (Nat.le_of_ble_eq_true rfl) rfl G.k_Book G.n_Book_rules (w_var (i := 0) rfl (.inl rfl) rfl rfl) (w_var (i := 2) rfl (.inl rfl) rfl rfl) rfl)
      (s_nil)))
abbrev s__law_wish : Stmt := top 92
theorem sc__law_wish : FnScope ["_law_bag_here", "_law_wheels_here", "_law_many", "_law_way", "_law_wheel"] ["_law_bag_here", "_law_wheels_here", "_law_many"] (defScope s__law_wish) := ⟨rfl, rfl, rfl, by decide +kernel, rfl, by decide +kernel, by decide +kernel⟩
theorem ok__law_wish (G : Glo K mg) {dvs : List V} {kws : List (Str × V)} {f : Addr} {fd : FuncData} (h__law_take : CallF (tab P w K) P w K mg base 1 "_law_take" f__law_take) (Fd : FunD K "_law_wish" "_law_wish" (defArgs s__law_wish) (defBody s__law_wish) (defScope s__law_wish) dvs kws f fd) : FnOk P w K mg base (L2.CX P w) 2 f fd ["_law_bag_here", "_law_wheels_here", "_law_many"] (spW (tab P w K) K 3 f__law_wish) := by
  have nd := (sc__law_wish).nd
  refine fnW_ok (k := 1) Fd sc__law_wish fun cdv A outer s H E hr => ?_
  have tk := takes_of (X := cxOf (L2.CX P w) P w K mg base ["_law_bag_here", "_law_wheels_here", "_law_many", "_law_way", "_law_wheel"] "_law_wish" (defScope s__law_wish) f cdv A outer s H E) (E := E) rfl rfl rfl rfl
  exact s_cons (s_set (i := 3) nd rfl (.inl rfl) (w_call h__law_take hr (by decide) rfl tk (w_cons (w_var (i := 0) rfl (.inl rfl) rfl rfl) (w_cons (w_int) (w_nil) rfl) rfl) rfl rfl rfl) rfl (.inl rfl))
      (s_cons (s_if (L2.PW.pt (b_or (b_cmp hr (w_var (i := 3) rfl (.inl rfl) rfl rfl) (w_int) rfl) (b_or1 (L2.PW.pt (b_and (b_cmp hr (w_var (i := 3) rfl (.inl rfl) rfl rfl) (w_int) rfl) (b_and1 (b_cmp hr (w_var (i := 2) rfl (.inl rfl) rfl rfl) (w_int) rfl))))))) (s_cons (s_ret (w_tup (w_cons (w_str) (w_nil) rfl)))
      (s_nil)) (s_nil))
      (s_cons (s_if (b_cmp hr (w_var (i := 3) rfl (.inl rfl) rfl rfl) (w_int) rfl) (s_cons (s_ret (w_tup (w_cons (w_idx (w_tup (w_cons (w_str) (w_cons (w_str) (w_nil) rfl) rfl)) (w_bin (w_var (i := 3) rfl (.inl rfl) rfl rfl) (w_int)) (fun _ _ => rfl)) (w_cons (w_call h__law_take hr (by decide) rfl tk (w_cons (w_var (i := 0) rfl (.inl rfl) rfl rfl) (w_cons (w_var (i := 2) rfl (.inl rfl) rfl rfl) (w_nil) rfl) rfl) rfl rfl rfl) (w_nil) rfl) rfl)))
      (s_nil)) (s_nil))
      (s_cons (s_set (i := 4) nd rfl (.inl rfl) (w_call h__law_take hr (by decide) rfl tk (w_cons (w_var (i := 0) rfl (.inl rfl) rfl rfl) (w_cons (w_len rfl G.b_len (w_cons (w_var (i := 1) rfl (.inl rfl) rfl rfl) (w_nil) rfl) rfl rfl) (w_nil) rfl) rfl) rfl rfl rfl) rfl (.inl rfl))
      (s_cons (s_ret (w_tup (w_cons (w_str) (w_cons (w_var (i := 4) rfl (.inl rfl) rfl rfl) (w_cons (w_call h__law_take hr (by decide) rfl tk (w_cons (w_var (i := 0) rfl (.inl rfl) rfl rfl) (w_cons (w_idx (w_var (i := 1) rfl (.inl rfl) rfl rfl) (w_var (i := 4) rfl (.inl rfl) rfl rfl) (fun _ _ => rfl)) (w_nil) rfl) rfl) rfl rfl rfl) (w_nil) rfl) rfl) rfl)))
      (s_nil)))))
abbrev s__law_off : Stmt := top 91
theorem sc__law_off : FnScope ["_law_bag_here", "_law_many", "_law_number"] ["_law_bag_here", "_law_many"] (defScope s__law_off) := ⟨rfl, rfl, rfl, by decide +kernel, rfl, by decide +kernel, by decide +kernel⟩
theorem ok__law_off (G : Glo K mg) {dvs : List V} {kws : List (Str × V)} {f : Addr} {fd : FuncData} (h__law_take : CallF (tab P w K) P w K mg base 1 "_law_take" f__law_take) (Fd : FunD K "_law_off" "_law_off" (defArgs s__law_off) (defBody s__law_off) (defScope s__law_off) dvs kws f fd) : FnOk P w K mg base (L2.CX P w) 2 f fd ["_law_bag_here", "_law_many"] (spW (tab P w K) K 2 f__law_off) := by
  have nd := (sc__law_off).nd
  refine fnW_ok (k := 1) Fd sc__law_off fun cdv A outer s H E hr => ?_
  have tk := takes_of (X := cxOf (L2.CX P w) P w K mg base ["_law_bag_here", "_law_many", "_law_number"] "_law_off" (defScope s__law_off) f cdv A outer s H E) (E := E) rfl rfl rfl rfl
  exact s_cons (s_if (b_cmp hr (w_call h__law_take hr (by decide) rfl tk (w_cons (w_var (i := 0) rfl (.inr (.inl rfl)) rfl rfl) (w_cons (w_int) (w_nil) rfl) rfl) rfl rfl rfl) (w_int) rfl) (s_cons (s_ret (w_tup (w_nil)))
      (s_nil)) (s_nil))
      (s_cons (s_ret (w_tuple rfl G.b_tuple (w_cons (w_lc (mt := false) rfl nd (i_range1 rfl G.b_range (w_var (i := 1) rfl (.inl rfl) rfl rfl) rfl) (blkOk_by (own := [("_law_number", 2)]) (by kernel_rfl)) rfl rfl (fun _ _ _ _ _ => g_name (i := 2) nd rfl (.inl rfl) (.inr rfl)) (fun _ _ _ _ _ => bs_one (b_cmp hr (w_call h__law_take hr (by decide) rfl L2.takes0 (w_cons (w_var (i := 0) rfl (.inr (.inl rfl)) rfl rfl) (w_cons (w_int) (w_nil) rfl) rfl) rfl rfl rfl) (w_int) rfl)) (fun _ _ _ _ _ => w_var (i := 2) rfl (.inl rfl) rfl rfl) (fun _ => rfl)) (w_nil) rfl) rfl rfl))
      (s_nil))
abbrev s_is_wish : Stmt := top 76
theorem sc_is_wish : FnScope ["book", "thing", "word", "numbers"] ["book", "thing"] (defScope s_is_wish) := ⟨rfl, rfl, rfl, by decide +kernel, rfl, by decide +kernel, by decide +kernel⟩
theorem ok_is_wish (G : Glo K mg) {dvs : List V} {kws : List (Str × V)} {f : Addr} {fd : FuncData} (h_is_from : CallF (tab P w K) P w K mg base 2 "is_from" f_is_from) (Fd : FunD K "is_wish" "is_wish" (defArgs s_is_wish) (defBody s_is_wish) (defScope s_is_wish) dvs kws f fd) : FnOk P w K mg base (L2.CX P w) 3 f fd ["book", "thing"] (spW (tab P w K) K 2 f_is_wish) := by
  have nd := (sc_is_wish).nd
  refine fnW_ok (k := 2) Fd sc_is_wish fun cdv A outer s H E hr => ?_
  have tk := takes_of (X := cxOf (L2.CX P w) P w K mg base ["book", "thing", "word", "numbers"] "is_wish" (defScope s_is_wish) f cdv A outer s H E) (E := E) rfl rfl rfl rfl
  exact s_cons (s_if (L2.PW.pt (b_or (b_not (b_test (w_isTuple rfl G.b_isinstance rfl G.b_tuple (w_var (i := 1) rfl (.inl rfl) rfl rfl) rfl rfl rfl) (fun _ => rfl))) (b_or (b_cmp hr (w_var (i := 1) rfl (.inl rfl) rfl rfl) (w_tup (w_nil)) rfl) (b_or1 (b_not (b_test (w_isStr rfl G.b_isinstance rfl G.b_str (w_idx (w_var (i := 1) rfl (.inl rfl) rfl rfl) (w_int) (fun _ _ => rfl)) rfl rfl rfl) (fun _ => rfl))))))) (s_cons (s_ret (w_bl))
      (s_nil)) (s_nil))
      (s_cons (s_asg (w_var (i := 1) rfl (.inl rfl) rfl rfl) (g_star rfl (gs_name (i := 2) nd rfl (.inl rfl) (.inl rfl) (gs_star (i := 3) nd rfl (.inl rfl) (.inl rfl) rfl) rfl) rfl rfl) rfl rfl rfl)
      (s_cons (s_if (b_cmp hr (w_var (i := 2) rfl (.inl rfl) rfl rfl) (w_tup (w_cons (w_globW rfl (G.c_NEVER _ _) rfl) (w_cons (w_globW rfl (G.c_DOES _ _) rfl) (w_nil) rfl) rfl)) rfl) (s_cons (s_ret (w_and (w_cmp hr (w_len rfl G.b_len (w_cons (w_var (i := 3) rfl (.inl rfl) rfl rfl) (w_nil) rfl) rfl rfl) (w_int) rfl) (one (w_callP h_is_from hr (by decide) rfl tk (w_cons (w_idx (w_var (i := 3) rfl (.inl rfl) rfl rfl) (w_int) (fun _ _ => rfl)) (w_cons (w_int) (w_cons (w_len rfl G.b_len (w_cons (w_fld fldN (Nat.le_of_ble_eq_true rfl) rfl G.k_Book G.n_Book_rules (w_var (i := 0) rfl (.inl rfl) rfl rfl) rfl) (w_nil) rfl) rfl rfl) (w_nil) rfl) rfl) rfl) rfl rfl rfl))))
      (s_nil)) (s_nil))
      (s_cons (s_if (b_cmp hr (w_var (i := 2) rfl (.inl rfl) rfl rfl) (w_globW rfl (G.c_AT _ _) rfl) rfl) (s_cons (s_ret (w_and (w_cmp hr (w_var (i := 2) rfl (.inl rfl) rfl rfl) (w_globW rfl (G.c_QUIET _ _) rfl) rfl) (one (w_cmp hr (w_var (i := 3) rfl (.inl rfl) rfl rfl) (w_lst (w_nil)) rfl))))
      (s_nil)) (s_nil))
      (s_cons (s_if (L2.PW.pt (b_or (b_cmp hr (w_len rfl G.b_len (w_cons (w_var (i := 3) rfl (.inl rfl) rfl rfl) (w_nil) rfl) rfl rfl) (w_int) rfl) (b_or1 (b_not (b_test (w_callP h_is_from hr (by decide) rfl tk (w_cons (w_idx (w_var (i := 3) rfl (.inl rfl) rfl rfl) (w_int) (fun _ _ => rfl)) (w_cons (w_int) (w_cons (w_len rfl G.b_len (w_cons (w_fld fldN (Nat.le_of_ble_eq_true rfl) rfl G.k_Book G.n_Book_wheels (w_var (i := 0) rfl (.inl rfl) rfl rfl) rfl) (w_nil) rfl) rfl rfl) (w_nil) rfl) rfl) rfl) rfl rfl rfl) (fun _ => rfl)))))) (s_cons (s_ret (w_bl))
      (s_nil)) (s_nil))
      (s_cons (s_ret (w_callP h_is_from hr (by decide) rfl tk (w_cons (w_idx (w_var (i := 3) rfl (.inl rfl) rfl rfl) (w_int) (fun _ _ => rfl)) (w_cons (w_int) (w_cons (w_idx (w_fld fldN (Nat.le_of_ble_eq_true rfl) rfl G.k_Book G.n_Book_wheels (w_var (i := 0) rfl (.inl rfl) rfl rfl) rfl) (w_idx (w_var (i := 3) rfl (.inl rfl) rfl rfl) (w_int) (fun _ _ => rfl)) (fun _ _ => rfl)) (w_nil) rfl) rfl) rfl) rfl rfl rfl))
      (s_nil))))))
abbrev s_look_wish : Stmt := top 77
theorem sc_look_wish : FnScope ["book", "thing"] ["book", "thing"] (defScope s_look_wish) := ⟨rfl, rfl, rfl, by decide +kernel, rfl, by decide +kernel, by decide +kernel⟩
theorem ok_look_wish (G : Glo K mg) {dvs : List V} {kws : List (Str × V)} {f : Addr} {fd : FuncData} (h_is_wish : CallF (tab P w K) P w K mg base 3 "is_wish" f_is_wish) (Fd : FunD K "look_wish" "look_wish" (defArgs s_look_wish) (defBody s_look_wish) (defScope s_look_wish) dvs kws f fd) : FnOk P w K mg base (L2.CX P w) 4 f fd ["book", "thing"] (spW (tab P w K) K 2 f_look_wish) := by
  have nd := (sc_look_wish).nd
  refine fnW_ok (k := 3) Fd sc_look_wish fun cdv A outer s H E hr => ?_
  have tk := takes_of (X := cxOf (L2.CX P w) P w K mg base ["book", "thing"] "look_wish" (defScope s_look_wish) f cdv A outer s H E) (E := E) rfl rfl rfl rfl
  exact s_cons (s_if (b_not (b_test (w_callP h_is_wish hr (by decide) rfl tk (w_cons (w_var (i := 0) rfl (.inl rfl) rfl rfl) (w_cons (w_var (i := 1) rfl (.inl rfl) rfl rfl) (w_nil) rfl) rfl) rfl rfl rfl) (fun _ => rfl))) (s_cons (s_never)
      (s_nil)) (s_nil))
      (s_nil)
abbrev s_look_off : Stmt := top 51
theorem sc_look_off : FnScope ["book", "off"] ["book", "off"] (defScope s_look_off) := ⟨rfl, rfl, rfl, by decide +kernel, rfl, by decide +kernel, by decide +kernel⟩
theorem ok_look_off (G : Glo K mg) {dvs : List V} {kws : List (Str × V)} {f : Addr} {fd : FuncData} (h_are_rules_numbers : CallF (tab P w K) P w K mg base 3 "are_rules_numbers" f_are_rules_numbers) (Fd : FunD K "look_off" "look_off" (defArgs s_look_off) (defBody s_look_off) (defScope s_look_off) dvs kws f fd) : FnOk P w K mg base (L2.CX P w) 4 f fd ["book", "off"] (spW (tab P w K) K 2 f_look_off) := by
  have nd := (sc_look_off).nd
  refine fnW_ok (k := 3) Fd sc_look_off fun cdv A outer s H E hr => ?_
  have tk := takes_of (X := cxOf (L2.CX P w) P w K mg base ["book", "off"] "look_off" (defScope s_look_off) f cdv A outer s H E) (E := E) rfl rfl rfl rfl
  exact s_cons (s_if (b_not (b_test (w_callP h_are_rules_numbers hr (by decide) rfl tk (w_cons (w_var (i := 1) rfl (.inl rfl) rfl rfl) (w_cons (w_len rfl G.b_len (w_cons (w_fld fldN (Nat.le_of_ble_eq_true rfl) rfl G.k_Book G.n_Book_rules (w_var (i := 0) rfl (.inl rfl) rfl rfl) rfl) (w_nil) rfl) rfl rfl) (w_nil) rfl) rfl) rfl rfl rfl) (fun _ => rfl))) (s_cons (s_never)
      (s_nil)) (s_nil))
      (s_nil)
abbrev s_all_rows : Stmt := top 43
theorem sc_all_rows : FnScope ["sizes", "found", "size", "row", "number"] ["sizes"] (defScope s_all_rows) := ⟨rfl, rfl, rfl, by decide +kernel, rfl, by decide +kernel, by decide +kernel⟩
theorem ok_all_rows (G : Glo K mg) {dvs : List V} {kws : List (Str × V)} {f : Addr} {fd : FuncData} (Fd : FunD K "all_rows" "all_rows" (defArgs s_all_rows) (defBody s_all_rows) (defScope s_all_rows) dvs kws f fd) : FnOk P w K mg base (L2.CX P w) 1 f fd ["sizes"] (spW (tab P w K) K 1 f_all_rows) := by
  have nd := (sc_all_rows).nd
  refine fnW_ok (k := 0) Fd sc_all_rows fun cdv A outer s H E hr => ?_
  have tk := takes_of (X := cxOf (L2.CX P w) P w K mg base ["sizes", "found", "size", "row", "number"] "all_rows" (defScope s_all_rows) f cdv A outer s H E) (E := E) rfl rfl rfl rfl
  exact s_cons (s_set (i := 1) nd rfl (.inl rfl) (w_lst (w_cons (w_tup (w_nil)) (w_nil) rfl)) rfl (.inl rfl))
      (s_cons (s_for (passes_of rfl) rfl (i_seq (w_var (i := 0) rfl (.inl rfl) rfl rfl)) (g_name (i := 2) nd rfl (.inr rfl) (.inl rfl)) (s_cons (s_setLc2 (i := 1) (mt := false) rfl nd rfl rfl (sw_true rfl rfl rfl rfl) (i_seq (w_var (i := 1) rfl (.inl rfl) rfl rfl)) (blkOk_by (own := [("row", 3), ("number", 4)]) (by kernel_rfl)) rfl rfl rfl rfl (fun _ _ _ _ _ => g_name (i := 3) nd rfl (.inl rfl) (.inr rfl)) (fun _ _ _ _ _ => bs_nil) (fun _ _ _ _ _ => i_range1 rfl G.b_range (w_var (i := 2) rfl (.inr (.inl rfl)) rfl rfl) rfl) (fun _ _ _ _ _ => g_name (i := 4) nd rfl (.inl rfl) (.inr rfl)) (fun _ _ _ _ _ => bs_nil) (fun _ _ _ _ _ => w_bin (w_var (i := 3) rfl (.inl rfl) rfl rfl) (w_tup (w_cons (w_var (i := 4) rfl (.inl rfl) rfl rfl) (w_nil) rfl))) (fun _ => rfl) (fun _ _ => rfl))
      (s_nil)) (fun _ => rfl))
      (s_cons (s_ret (w_var (i := 1) rfl (.inl rfl) rfl rfl))
      (s_nil)))
abbrev s_beginnings : Stmt := top 44
theorem sc_beginnings : FnScope ["book"] ["book"] (defScope s_beginnings) := ⟨rfl, rfl, rfl, by decide +kernel, rfl, by decide +kernel, by decide +kernel⟩
theorem ok_beginnings (G : Glo K mg) {dvs : List V} {kws : List (Str × V)} {f : Addr} {fd : FuncData} (h_all_rows : CallF (tab P w K) P w K mg base 1 "all_rows" f_all_rows) (Fd : FunD K "beginnings" "beginnings" (defArgs s_beginnings) (defBody s_beginnings) (defScope s_beginnings) dvs kws f fd) : FnOk P w K mg base (L2.CX P w) 2 f fd ["book"] (spW (tab P w K) K 1 f_beginnings) := by
  have nd := (sc_beginnings).nd
  refine fnW_ok (k := 1) Fd sc_beginnings fun cdv A outer s H E hr => ?_
  have tk := takes_of (X := cxOf (L2.CX P w) P w K mg base ["book"] "beginnings" (defScope s_beginnings) f cdv A outer s H E) (E := E) rfl rfl rfl rfl
  exact s_cons (s_ret (w_callP h_all_rows hr (by decide) rfl tk (w_cons (w_fld fldN (Nat.le_of_ble_eq_true rfl) rfl G.k_Book G.n_Book_wheels (w_var (i := 0) rfl (.inl rfl) rfl rfl) rfl) (w_nil) rfl) rfl rfl rfl))
      (s_nil)
abbrev s_Track_in_round : Stmt := inClass (top 63) 4
theorem sc_Track_in_round : FnScope ["self"] ["self"] (defScope s_Track_in_round) := ⟨rfl, rfl, rfl, by decide +kernel, rfl, by decide +kernel, by decide +kernel⟩
theorem ok_Track_in_round (G : Glo K mg) {dvs : List V} {kws : List (Str × V)} {f : Addr} {fd : FuncData} (Fd : FunD K "in_round" "Track.in_round" (defArgs s_Track_in_round) (defBody s_Track_in_round) (defScope s_Track_in_round) dvs kws f fd) : FnOk P w K mg base (L2.CX P w) 1 f fd ["self"] (spW (tab P w K) K 1 f_Track_in_round) := by
  have nd := (sc_Track_in_round).nd
  refine fnW_ok (k := 0) Fd sc_Track_in_round fun cdv A outer s H E hr => ?_
  have tk := takes_of (X := cxOf (L2.CX P w) P w K mg base ["self"] "Track.in_round" (defScope s_Track_in_round) f cdv A outer s H E) (E := E) rfl rfl rfl rfl
  exact s_cons (s_ret (w_slc (w_fld fldN (Nat.le_of_ble_eq_true rfl) rfl G.k_Track G.n_Track_deeds (w_var (i := 0) rfl (.inl rfl) rfl rfl) rfl) (w_part (w_fld fldN (Nat.le_of_ble_eq_true rfl) rfl G.k_Track G.n_Track_begin (w_var (i := 0) rfl (.inl rfl) rfl rfl) rfl)) (w_noPart)))
      (s_nil)
abbrev s_Track_quiet : Stmt := inClass (top 63) 5
theorem sc_Track_quiet : FnScope ["self", "done", "at"] ["self"] (defScope s_Track_quiet) := ⟨rfl, rfl, rfl, by decide +kernel, rfl, by decide +kernel, by decide +kernel⟩
theorem ok_Track_quiet (G : Glo K mg) {dvs : List V} {kws : List (Str × V)} {f : Addr} {fd : FuncData} (h_m_Track_in_round : MethF (tab P w K) P w K mg base 1 1 "in_round" f_Track_in_round) (Fd : FunD K "quiet" "Track.quiet" (defArgs s_Track_quiet) (defBody s_Track_quiet) (defScope s_Track_quiet) dvs kws f fd) : FnOk P w K mg base (L2.CX P w) 2 f fd ["self"] (spW (tab P w K) K 1 f_Track_quiet) := by
  have nd := (sc_Track_quiet).nd
  refine fnW_ok (k := 1) Fd sc_Track_quiet fun cdv A outer s H E hr => ?_
  have tk := takes_of (X := cxOf (L2.CX P w) P w K mg base ["self", "done", "at"] "Track.quiet" (defScope s_Track_quiet) f cdv A outer s H E) (E := E) rfl rfl rfl rfl
  exact s_cons (s_if (b_test (w_any rfl rfl G.b_any (w_cons (w_lc (mt := false) rfl nd (i_seq (w_meth0 h_m_Track_in_round hr (by decide) tk (w_var (i := 0) rfl (.inl rfl) rfl rfl) rfl)) (blkOk_by (own := [("done", 1)]) (by kernel_rfl)) rfl rfl (fun _ _ _ _ _ => g_name (i := 1) nd rfl (.inl rfl) (.inr rfl)) (fun _ _ _ _ _ => bs_nil) (fun _ _ _ _ _ => w_cmp hr (w_var (i := 1) rfl (.inl rfl) rfl rfl) (w_tup (w_nil)) rfl) (fun _ => rfl)) (w_nil) rfl) rfl rfl) (fun _ => rfl)) (s_cons (s_ret (w_non))
      (s_nil)) (s_nil))
      (s_cons (s_ret (w_maxD hr rfl G.b_max (w_lc (mt := false) rfl nd (i_enum rfl G.b_enumerate (w_fld fldN (Nat.le_of_ble_eq_true rfl) rfl G.k_Track G.n_Track_deeds (w_var (i := 0) rfl (.inl rfl) rfl rfl) rfl) rfl) (blkOk_by (own := [("at", 2), ("done", 1)]) (by kernel_rfl)) rfl rfl (fun _ _ _ _ _ => g_tup rfl (gs_name (i := 2) nd rfl (.inl rfl) (.inr rfl) (gs_name (i := 1) nd rfl (.inl rfl) (.inr rfl) (gs_nil) rfl) rfl) rfl rfl) (fun _ _ _ _ _ => bs_one (b_cmp hr (w_var (i := 1) rfl (.inl rfl) rfl rfl) (w_tup (w_nil)) rfl)) (fun _ _ _ _ _ => w_bin (w_var (i := 2) rfl (.inl rfl) rfl rfl) (w_int)) (fun _ => rfl)) (k_cons (w_int) k_nil) rfl rfl rfl rfl))
      (s_nil))
abbrev s_Track_turns : Stmt := inClass (top 63) 3
theorem sc_Track_turns : FnScope ["self", "rule", "at", "done"] ["self", "rule"] (defScope s_Track_turns) := ⟨rfl, rfl, rfl, by decide +kernel, rfl, by decide +kernel, by decide +kernel⟩
theorem ok_Track_turns (G : Glo K mg) {dvs : List V} {kws : List (Str × V)} {f : Addr} {fd : FuncData} (Fd : FunD K "turns" "Track.turns" (defArgs s_Track_turns) (defBody s_Track_turns) (defScope s_Track_turns) dvs kws f fd) : FnOk P w K mg base (L2.CX P w) 1 f fd ["self", "rule"] (spW (tab P w K) K 2 f_Track_turns) := by
  have nd := (sc_Track_turns).nd
  refine fnW_ok (k := 0) Fd sc_Track_turns fun cdv A outer s H E hr => ?_
  have tk := takes_of (X := cxOf (L2.CX P w) P w K mg base ["self", "rule", "at", "done"] "Track.turns" (defScope s_Track_turns) f cdv A outer s H E) (E := E) rfl rfl rfl rfl
  exact s_cons (s_ret (w_lc (mt := false) rfl nd (i_enum rfl G.b_enumerate (w_fld fldN (Nat.le_of_ble_eq_true rfl) rfl G.k_Track G.n_Track_deeds (w_var (i := 0) rfl (.inl rfl) rfl rfl) rfl) rfl) (blkOk_by (own := [("at", 2), ("done", 3)]) (by kernel_rfl)) rfl rfl (fun _ _ _ _ _ => g_tup rfl (gs_name (i := 2) nd rfl (.inl rfl) (.inr rfl) (gs_name (i := 3) nd rfl (.inl rfl) (.inr rfl) (gs_nil) rfl) rfl) rfl rfl) (fun _ _ _ _ _ => bs_one (b_cmp hr (w_var (i := 1) rfl (.inr (.inl rfl)) rfl rfl) (w_var (i := 3) rfl (.inl rfl) rfl rfl) rfl)) (fun _ _ _ _ _ => w_var (i := 2) rfl (.inl rfl) rfl rfl) (fun _ => rfl)))
      (s_nil)
abbrev s_is_broken : Stmt := top 78
theorem sc_is_broken : FnScope ["track", "wish", "word", "numbers", "wheel", "place", "values", "hushes"] ["track", "wish"] (defScope s_is_broken) := ⟨rfl, rfl, rfl, by decide +kernel, rfl, by decide +kernel, by decide +kernel⟩
theorem ok_is_broken (G : Glo K mg) {dvs : List V} {kws : List (Str × V)} {f : Addr} {fd : FuncData} (h_m_Track_quiet : MethF (tab P w K) P w K mg base 2 1 "quiet" f_Track_quiet) (h_m_Track_turns : MethF (tab P w K) P w K mg base 1 1 "turns" f_Track_turns) (Fd : FunD K "is_broken" "is_broken" (defArgs s_is_broken) (defBody s_is_broken) (defScope s_is_broken) dvs kws f fd) : FnOk P w K mg base (L2.CX P w) 3 f fd ["track", "wish"] (spW (tab P w K) K 2 f_is_broken) := by
  have nd := (sc_is_broken).nd
  refine fnW_ok (k := 2) Fd sc_is_broken fun cdv A outer s H E hr => ?_
  have tk := takes_of (X := cxOf (L2.CX P w) P w K mg base ["track", "wish", "word", "numbers", "wheel", "place", "values", "hushes"] "is_broken" (defScope s_is_broken) f cdv A outer s H E) (E := E) rfl rfl rfl rfl
  exact s_cons (s_asg (w_var (i := 1) rfl (.inl rfl) rfl rfl) (g_star rfl (gs_name (i := 2) nd rfl (.inl rfl) (.inl rfl) (gs_star (i := 3) nd rfl (.inl rfl) (.inl rfl) rfl) rfl) rfl rfl) rfl rfl rfl)
      (s_cons (s_if (b_cmp hr (w_var (i := 2) rfl (.inl rfl) rfl rfl) (w_globW rfl (G.c_QUIET _ _) rfl) rfl) (s_cons (s_ret (w_cmp hr (w_meth0 h_m_Track_quiet hr (by decide) tk (w_var (i := 0) rfl (.inl rfl) rfl rfl) rfl) (w_non) rfl))
      (s_nil)) (s_nil))
      (s_cons (s_if (b_cmp hr (w_var (i := 2) rfl (.inl rfl) rfl rfl) (w_tup (w_cons (w_globW rfl (G.c_NEVER _ _) rfl) (w_cons (w_globW rfl (G.c_DOES _ _) rfl) (w_nil) rfl) rfl)) rfl) (s_cons (s_ret (w_cmp hr (w_cmp hr (w_meth h_m_Track_turns hr (by decide) tk (w_var (i := 0) rfl (.inl rfl) rfl rfl) (w_cons (w_idx (w_var (i := 3) rfl (.inl rfl) rfl rfl) (w_int) (fun _ _ => rfl)) (w_nil) rfl) rfl rfl rfl) (w_lst (w_nil)) rfl) (w_cmp hr (w_var (i := 2) rfl (.inl rfl) rfl rfl) (w_globW rfl (G.c_NEVER _ _) rfl) rfl) rfl))
      (s_nil)) (s_nil))
      (s_cons (s_asg (w_var (i := 3) rfl (.inl rfl) rfl rfl) (g_tup rfl (gs_name (i := 4) nd rfl (.inr rfl) (.inl rfl) (gs_name (i := 5) nd rfl (.inr rfl) (.inl rfl) (gs_nil) rfl) rfl) rfl rfl) rfl rfl rfl)
      (s_cons (s_ret (w_any rfl rfl G.b_any (w_cons (w_lc (mt := false) rfl nd (i_seq (w_slc (w_fld fldN (Nat.le_of_ble_eq_true rfl) rfl G.k_Track G.n_Track_states (w_var (i := 0) rfl (.inl rfl) rfl rfl) rfl) (w_part (w_fld fldN (Nat.le_of_ble_eq_true rfl) rfl G.k_Track G.n_Track_begin (w_var (i := 0) rfl (.inl rfl) rfl rfl) rfl)) (w_noPart))) (blkOk_by (own := [("values", 6), ("hushes", 7)]) (by kernel_rfl)) rfl rfl (fun _ _ _ _ _ => g_tup rfl (gs_name (i := 6) nd rfl (.inl rfl) (.inr rfl) (gs_name (i := 7) nd rfl (.inl rfl) (.inr rfl) (gs_nil) rfl) rfl) rfl rfl) (fun _ _ _ _ _ => bs_nil) (fun _ _ _ _ _ => w_cmp hr (w_idx (w_var (i := 6) rfl (.inl rfl) rfl rfl) (w_var (i := 4) rfl (.inr (.inl rfl)) rfl rfl) (fun _ _ => rfl)) (w_var (i := 5) rfl (.inr (.inl rfl)) rfl rfl) rfl) (fun _ => rfl)) (w_nil) rfl) rfl rfl))
      (s_nil)))))
abbrev s_own_order : Stmt := top 52
theorem sc_own_order : FnScope ["book"] ["book"] (defScope s_own_order) := ⟨rfl, rfl, rfl, by decide +kernel, rfl, by decide +kernel, by decide +kernel⟩
theorem ok_own_order (G : Glo K mg) {dvs : List V} {kws : List (Str × V)} {f : Addr} {fd : FuncData} (Fd : FunD K "own_order" "own_order" (defArgs s_own_order) (defBody s_own_order) (defScope s_own_order) dvs kws f fd) : FnOk P w K mg base (L2.CX P w) 1 f fd ["book"] (spW (tab P w K) K 1 f_own_order) := by
  have nd := (sc_own_order).nd
  refine fnW_ok (k := 0) Fd sc_own_order fun cdv A outer s H E hr => ?_
  have tk := takes_of (X := cxOf (L2.CX P w) P w K mg base ["book"] "own_order" (defScope s_own_order) f cdv A outer s H E) (E := E) rfl rfl rfl rfl
  exact s_cons (s_ret (w_tupRg1 rfl rfl G.b_tuple rfl G.b_range (w_len rfl G.b_len (w_cons (w_fld fldN (Nat.le_of_ble_eq_true rfl) rfl G.k_Book G.n_Book_rules (w_var (i := 0) rfl (.inl rfl) rfl rfl) rfl) (w_nil) rfl) rfl rfl) rfl rfl))
      (s_nil)
abbrev s_ended : Stmt := top 58
theorem sc_ended : FnScope ["state", "values", "hushes", "hush"] ["state"] (defScope s_ended) := ⟨rfl, rfl, rfl, by decide +kernel, rfl, by decide +kernel, by decide +kernel⟩
theorem ok_ended (G : Glo K mg) {dvs : List V} {kws : List (Str × V)} {f : Addr} {fd : FuncData} (Fd : FunD K "ended" "ended" (defArgs s_ended) (defBody s_ended) (defScope s_ended) dvs kws f fd) : FnOk P w K mg base (L2.CX P w) 1 f fd ["state"] (spW (tab P w K) K 1 f_ended) := by
  have nd := (sc_ended).nd
  refine fnW_ok (k := 0) Fd sc_ended fun cdv A outer s H E hr => ?_
  have tk := takes_of (X := cxOf (L2.CX P w) P w K mg base ["state", "values", "hushes", "hush"] "ended" (defScope s_ended) f cdv A outer s H E) (E := E) rfl rfl rfl rfl
  exact s_cons (s_asg (w_var (i := 0) rfl (.inl rfl) rfl rfl) (g_tup rfl (gs_name (i := 1) nd rfl (.inl rfl) (.inl rfl) (gs_name (i := 2) nd rfl (.inl rfl) (.inl rfl) (gs_nil) rfl) rfl) rfl rfl) rfl rfl rfl)
      (s_cons (s_ret (w_tup (w_cons (w_var (i := 1) rfl (.inl rfl) rfl rfl) (w_cons (w_tuple rfl G.b_tuple (w_cons (w_lc (mt := false) rfl nd (i_seq (w_var (i := 2) rfl (.inl rfl) rfl rfl)) (blkOk_by (own := [("hush", 3)]) (by kernel_rfl)) rfl rfl (fun _ _ _ _ _ => g_name (i := 3) nd rfl (.inl rfl) (.inr rfl)) (fun _ _ _ _ _ => bs_nil) (fun _ _ _ _ _ => w_max rfl rfl G.b_max (w_cons (w_int) (w_cons (w_bin (w_var (i := 3) rfl (.inl rfl) rfl rfl) (w_int)) (w_nil) rfl) rfl) rfl rfl) (fun _ => rfl)) (w_nil) rfl) rfl rfl) (w_nil) rfl) rfl)))
      (s_nil))
abbrev s_is_so : Stmt := top 54
theorem sc_is_so : FnScope ["condition", "values", "hushes", "word", "number", "place"] ["condition", "values", "hushes"] (defScope s_is_so) := ⟨rfl, rfl, rfl, by decide +kernel, rfl, by decide +kernel, by decide +kernel⟩
theorem ok_is_so (G : Glo K mg) {dvs : List V} {kws : List (Str × V)} {f : Addr} {fd : FuncData} (Fd : FunD K "is_so" "is_so" (defArgs s_is_so) (defBody s_is_so) (defScope s_is_so) dvs kws f fd) : FnOk P w K mg base (L2.CX P w) 1 f fd ["condition", "values", "hushes"] (spW (tab P w K) K 3 f_is_so) := by
  have nd := (sc_is_so).nd
  refine fnW_ok (k := 0) Fd sc_is_so fun cdv A outer s H E hr => ?_
  have tk := takes_of (X := cxOf (L2.CX P w) P w K mg base ["condition", "values", "hushes", "word", "number", "place"] "is_so" (defScope s_is_so) f cdv A outer s H E) (E := E) rfl rfl rfl rfl
  exact s_cons (s_asg (w_var (i := 0) rfl (.inl rfl) rfl rfl) (g_star rfl (gs_name (i := 3) nd rfl (.inl rfl) (.inl rfl) (gs_name (i := 4) nd rfl (.inl rfl) (.inl rfl) (gs_star (i := 5) nd rfl (.inl rfl) (.inl rfl) rfl) rfl) rfl) rfl rfl) rfl rfl rfl)
      (s_cons (s_if (b_cmp hr (w_var (i := 3) rfl (.inl rfl) rfl rfl) (w_str) rfl) (s_cons (s_ret (w_cmp hr (w_idx (w_var (i := 2) rfl (.inl rfl) rfl rfl) (w_var (i := 4) rfl (.inl rfl) rfl rfl) (fun _ _ => rfl)) (w_int) rfl))
      (s_nil)) (s_nil))
      (s_cons (s_if (b_cmp hr (w_var (i := 3) rfl (.inl rfl) rfl rfl) (w_str) rfl) (s_cons (s_ret (w_cmp hr (w_idx (w_var (i := 2) rfl (.inl rfl) rfl rfl) (w_var (i := 4) rfl (.inl rfl) rfl rfl) (fun _ _ => rfl)) (w_int) rfl))
      (s_nil)) (s_nil))
      (s_cons (s_if (b_cmp hr (w_var (i := 3) rfl (.inl rfl) rfl rfl) (w_str) rfl) (s_cons (s_ret (w_cmp hr (w_idx (w_var (i := 1) rfl (.inl rfl) rfl rfl) (w_var (i := 4) rfl (.inl rfl) rfl rfl) (fun _ _ => rfl)) (w_idx (w_var (i := 5) rfl (.inl rfl) rfl rfl) (w_int) (fun _ _ => rfl)) rfl))
      (s_nil)) (s_nil))
      (s_cons (s_ret (w_cmp hr (w_cmp hr (w_idx (w_var (i := 1) rfl (.inl rfl) rfl rfl) (w_var (i := 4) rfl (.inl rfl) rfl rfl) (fun _ _ => rfl)) (w_idx (w_var (i := 5) rfl (.inl rfl) rfl rfl) (w_int) (fun _ _ => rfl)) rfl) (w_cmp hr (w_var (i := 3) rfl (.inl rfl) rfl rfl) (w_str) rfl) rfl))
      (s_nil)))))
abbrev s_would_do : Stmt := top 55
theorem sc_would_do : FnScope ["book", "rule", "values", "hushes", "condition"] ["book", "rule", "values", "hushes"] (defScope s_would_do) := ⟨rfl, rfl, rfl, by decide +kernel, rfl, by decide +kernel, by decide +kernel⟩
theorem ok_would_do (G : Glo K mg) {dvs : List V} {kws : List (Str × V)} {f : Addr} {fd : FuncData} (h_is_so : CallF (tab P w K) P w K mg base 1 "is_so" f_is_so) (Fd : FunD K "would_do" "would_do" (defArgs s_would_do) (defBody s_would_do) (defScope s_would_do) dvs kws f fd) : FnOk P w K mg base (L2.CX P w) 2 f fd ["book", "rule", "values", "hushes"] (spW (tab P w K) K 4 f_would_do) := by
  have nd := (sc_would_do).nd
  refine fnW_ok (k := 1) Fd sc_would_do fun cdv A outer s H E hr => ?_
  have tk := takes_of (X := cxOf (L2.CX P w) P w K mg base ["book", "rule", "values", "hushes", "condition"] "would_do" (defScope s_would_do) f cdv A outer s H E) (E := E) rfl rfl rfl rfl
  exact s_cons (s_ret (w_and (w_cmp hr (w_idx (w_var (i := 3) rfl (.inr (.inl rfl)) rfl rfl) (w_var (i := 1) rfl (.inl rfl) rfl rfl) (fun _ _ => rfl)) (w_int) rfl) (one (w_all rfl rfl G.b_all (w_cons (w_lc (mt := false) rfl nd (i_seq (w_idx (w_idx (w_fld fldN (Nat.le_of_ble_eq_true rfl) rfl G.k_Book G.n_Book_rules (w_var (i := 0) rfl (.inl rfl) rfl rfl) rfl) (w_var (i := 1) rfl (.inl rfl) rfl rfl) (fun _ _ => rfl)) (w_int) (fun _ _ => rfl))) (blkOk_by (own := [("condition", 4)]) (by kernel_rfl)) rfl rfl (fun _ _ _ _ _ => g_name (i := 4) nd rfl (.inl rfl) (.inr rfl)) (fun _ _ _ _ _ => bs_nil) (fun _ _ _ _ _ => w_callP h_is_so hr (by decide) rfl L2.takes0 (w_cons (w_var (i := 4) rfl (.inl rfl) rfl rfl) (w_cons (w_var (i := 2) rfl (.inr (.inl rfl)) rfl rfl) (w_cons (w_var (i := 3) rfl (.inr (.inl rfl)) rfl rfl) (w_nil) rfl) rfl) rfl) rfl rfl rfl) (fun _ => rfl)) (w_nil) rfl) rfl rfl))))
      (s_nil)
abbrev s_change : Stmt := top 56
theorem sc_change : FnScope ["book", "rule", "values", "word", "wheel", "place"] ["book", "rule", "values"] (defScope s_change) := ⟨rfl, rfl, rfl, by decide +kernel, rfl, by decide +kernel, by decide +kernel⟩
theorem ok_change (G : Glo K mg) {dvs : List V} {kws : List (Str × V)} {f : Addr} {fd : FuncData} (Fd : FunD K "change" "change" (defArgs s_change) (defBody s_change) (defScope s_change) dvs kws f fd) : FnOk P w K mg base (L2.CX P w) 1 f fd ["book", "rule", "values"] (spW (tab P w K) K 3 f_change) := by
  have nd := (sc_change).nd
  refine fnW_ok (k := 0) Fd sc_change fun cdv A outer s H E hr => ?_
  have tk := takes_of (X := cxOf (L2.CX P w) P w K mg base ["book", "rule", "values", "word", "wheel", "place"] "change" (defScope s_change) f cdv A outer s H E) (E := E) rfl rfl rfl rfl
  exact s_cons (s_for (passes_of rfl) rfl (i_seq (w_idx (w_idx (w_fld fldN (Nat.le_of_ble_eq_true rfl) rfl G.k_Book G.n_Book_rules (w_var (i := 0) rfl (.inl rfl) rfl rfl) rfl) (w_var (i := 1) rfl (.inl rfl) rfl rfl) (fun _ _ => rfl)) (w_int) (fun _ _ => rfl))) (g_tup rfl (gs_name (i := 3) nd rfl (.inl rfl) (.inl rfl) (gs_name (i := 4) nd rfl (.inl rfl) (.inl rfl) (gs_name (i := 5) nd rfl (.inl rfl) (.inl rfl) (gs_nil) rfl) rfl) rfl) rfl rfl) (s_cons (s_setIx (w_var (i := 2) rfl (.inl rfl) rfl rfl) (w_var (i := 4) rfl (.inl rfl) rfl rfl) (w_ifx (b_cmp hr (w_var (i := 3) rfl (.inl rfl) rfl rfl) (w_str) rfl) (w_var (i := 5) rfl (.inl rfl) rfl rfl) (w_bin (w_bin (w_idx (w_var (i := 2) rfl (.inl rfl) rfl rfl) (w_var (i := 4) rfl (.inl rfl) rfl rfl) (fun _ _ => rfl)) (w_var (i := 5) rfl (.inl rfl) rfl rfl)) (w_idx (w_fld fldN (Nat.le_of_ble_eq_true rfl) rfl G.k_Book G.n_Book_wheels (w_var (i := 0) rfl (.inl rfl) rfl rfl) rfl) (w_var (i := 4) rfl (.inl rfl) rfl rfl) (fun _ _ => rfl)))) rfl rfl rfl (fun _ => rfl))
      (s_nil)) (fun _ => rfl))
      (s_nil)
abbrev s_hush_and_wake : Stmt := top 57
theorem sc_hush_and_wake : FnScope ["book", "rule", "hushes", "test", "changes", "hushed", "wakes", "other", "beats"] ["book", "rule", "hushes"] (defScope s_hush_and_wake) := ⟨rfl, rfl, rfl, by decide +kernel, rfl, by decide +kernel, by decide +kernel⟩
theorem ok_hush_and_wake (G : Glo K mg) {dvs : List V} {kws : List (Str × V)} {f : Addr} {fd : FuncData} (Fd : FunD K "hush_and_wake" "hush_and_wake" (defArgs s_hush_and_wake) (defBody s_hush_and_wake) (defScope s_hush_and_wake) dvs kws f fd) : FnOk P w K mg base (L2.CX P w) 1 f fd ["book", "rule", "hushes"] (spW (tab P w K) K 3 f_hush_and_wake) := by
  have nd := (sc_hush_and_wake).nd
  refine fnW_ok (k := 0) Fd sc_hush_and_wake fun cdv A outer s H E hr => ?_
  have tk := takes_of (X := cxOf (L2.CX P w) P w K mg base ["book", "rule", "hushes", "test", "changes", "hushed", "wakes", "other", "beats"] "hush_and_wake" (defScope s_hush_and_wake) f cdv A outer s H E) (E := E) rfl rfl rfl rfl
  exact s_cons (s_asg (w_idx (w_fld fldN (Nat.le_of_ble_eq_true rfl) rfl G.k_Book G.n_Book_rules (w_var (i := 0) rfl (.inl rfl) rfl rfl) rfl) (w_var (i := 1) rfl (.inl rfl) rfl rfl) (fun _ _ => rfl)) (g_tup rfl (gs_name (i := 3) nd rfl (.inl rfl) (.inl rfl) (gs_name (i := 4) nd rfl (.inl rfl) (.inl rfl) (gs_name (i := 5) nd rfl (.inl rfl) (.inl rfl) (gs_name (i := 6) nd rfl (.inl rfl) (.inl rfl) (gs_nil) rfl) rfl) rfl) rfl) rfl rfl) rfl rfl rfl)
      (s_cons (s_for (passes_of rfl) rfl (i_seq (w_var (i := 5) rfl (.inl rfl) rfl rfl)) (g_tup rfl (gs_name (i := 7) nd rfl (.inl rfl) (.inl rfl) (gs_name (i := 8) nd rfl (.inl rfl) (.inl rfl) (gs_nil) rfl) rfl) rfl rfl) (s_cons (s_setIx (w_var (i := 2) rfl (.inl rfl) rfl rfl) (w_var (i := 7) rfl (.inl rfl) rfl rfl) (w_max rfl rfl G.b_max (w_cons (w_idx (w_var (i := 2) rfl (.inl rfl) rfl rfl) (w_var (i := 7) rfl (.inl rfl) rfl rfl) (fun _ _ => rfl)) (w_cons (w_var (i := 8) rfl (.inl rfl) rfl rfl) (w_nil) rfl) rfl) rfl rfl) rfl rfl rfl (fun _ => rfl))
      (s_nil)) (fun _ => rfl))
      (s_cons (s_for (passes_of rfl) rfl (i_seq (w_var (i := 6) rfl (.inl rfl) rfl rfl)) (g_name (i := 7) nd rfl (.inl rfl) (.inl rfl)) (s_cons (s_setIx (w_var (i := 2) rfl (.inl rfl) rfl rfl) (w_var (i := 7) rfl (.inl rfl) rfl rfl) (w_int) rfl rfl rfl (fun _ => rfl))
      (s_nil)) (fun _ => rfl))
      (s_nil)))
abbrev s_beat_of : Stmt := top 59
theorem sc_beat_of : FnScope ["book", "state", "order", "off", "values", "hushes", "done", "rule"] ["book", "state", "order", "off"] (defScope s_beat_of) := ⟨rfl, rfl, rfl, by decide +kernel, rfl, by decide +kernel, by decide +kernel⟩
theorem ok_beat_of (G : Glo K mg) {dvs : List V} {kws : List (Str × V)} {f : Addr} {fd : FuncData} (h_would_do : CallF (tab P w K) P w K mg base 2 "would_do" f_would_do) (h_change : CallF (tab P w K) P w K mg base 1 "change" f_change) (h_hush_and_wake : CallF (tab P w K) P w K mg base 1 "hush_and_wake" f_hush_and_wake) (h_ended : CallF (tab P w K) P w K mg base 1 "ended" f_ended) (Fd : FunD K "beat_of" "beat_of" (defArgs s_beat_of) (defBody s_beat_of) (defScope s_beat_of) dvs kws f fd) : FnOk P w K mg base (L2.CX P w) 3 f fd ["book", "state", "order", "off"] (spW (tab P w K) K 4 f_beat_of) := by
  have nd := (sc_beat_of).nd
  refine fnW_ok (k := 2) Fd sc_beat_of fun cdv A outer s H E hr => ?_
  have tk := takes_of (X := cxOf (L2.CX P w) P w K mg base ["book", "state", "order", "off", "values", "hushes", "done", "rule"] "beat_of" (defScope s_beat_of) f cdv A outer s H E) (E := E) rfl rfl rfl rfl
  exact s_cons (s_par2 rfl nd rfl rfl (by decide) rfl rfl (w_cons (w_nlist rfl G.b_list PyProof.Rows.boot_list (w_idx (w_var (i := 1) rfl (.inl rfl) rfl rfl) (w_int) (fun _ _ => rfl)) (by decide) rfl rfl) (w_cons (w_nlist rfl G.b_list PyProof.Rows.boot_list (w_idx (w_var (i := 1) rfl (.inl rfl) rfl rfl) (w_int) (fun _ _ => rfl)) (by decide) rfl rfl) (w_nil) rfl) rfl) rfl rfl)
      (s_cons (s_set (i := 6) nd rfl (.inl rfl) (w_nlst (w_nil)) rfl (.inl rfl))
      (s_cons (s_for (passes_of rfl) rfl (i_seq (w_var (i := 2) rfl (.inl rfl) rfl rfl)) (g_name (i := 7) nd rfl (.inl rfl) (.inl rfl)) (s_cons (s_if (L2.PW.pt (b_and (b_cmp hr (w_var (i := 7) rfl (.inl rfl) rfl rfl) (w_var (i := 3) rfl (.inl rfl) rfl rfl) rfl) (b_and1 (b_test (w_callV h_would_do hr (by decide) rfl tk (w_cons (w_var (i := 0) rfl (.inl rfl) rfl rfl) (w_cons (w_var (i := 7) rfl (.inl rfl) rfl rfl) (w_cons (w_var (i := 4) rfl (.inl rfl) rfl rfl) (w_cons (w_var (i := 5) rfl (.inl rfl) rfl rfl) (w_nil) rfl) rfl) rfl) rfl) rfl rfl rfl) (fun _ => rfl))))) (s_cons (s_expr (w_call h_change hr (by decide) rfl tk (w_cons (w_var (i := 0) rfl (.inl rfl) rfl rfl) (w_cons (w_var (i := 7) rfl (.inl rfl) rfl rfl) (w_cons (w_var (i := 4) rfl (.inl rfl) rfl rfl) (w_nil) rfl) rfl) rfl) rfl rfl rfl) rfl)
      (s_cons (s_expr (w_call h_hush_and_wake hr (by decide) rfl tk (w_cons (w_var (i := 0) rfl (.inl rfl) rfl rfl) (w_cons (w_var (i := 7) rfl (.inl rfl) rfl rfl) (w_cons (w_var (i := 5) rfl (.inl rfl) rfl rfl) (w_nil) rfl) rfl) rfl) rfl rfl rfl) rfl)
      (s_cons (s_expr (w_app (w_var (i := 6) rfl (.inl rfl) rfl rfl) (w_var (i := 7) rfl (.inl rfl) rfl rfl) rfl rfl rfl rfl rfl) rfl)
      (s_nil)))) (s_nil))
      (s_nil)) (fun _ => rfl))
      (s_cons (s_ret (w_tup (w_cons (w_tuple rfl G.b_tuple (w_cons (w_var (i := 6) rfl (.inl rfl) rfl rfl) (w_nil) rfl) rfl rfl) (w_cons (w_callP h_ended hr (by decide) rfl tk (w_cons (w_tup (w_cons (w_tuple rfl G.b_tuple (w_cons (w_var (i := 4) rfl (.inl rfl) rfl rfl) (w_nil) rfl) rfl rfl) (w_cons (w_tuple rfl G.b_tuple (w_cons (w_var (i := 5) rfl (.inl rfl) rfl rfl) (w_nil) rfl) rfl rfl) (w_nil) rfl) rfl)) (w_nil) rfl) rfl rfl rfl) (w_nil) rfl) rfl)))
      (s_nil))))
abbrev s_Track___init__ : Stmt := inClass (top 63) 0
theorem sc_Track___init__ : FnScope ["self", "book", "state", "off", "own", "places", "done"] ["self", "book", "state", "off"] (defScope s_Track___init__) := ⟨rfl, rfl, rfl, by decide +kernel, rfl, by decide +kernel, by decide +kernel⟩
theorem ok_Track___init__ (G : Glo K mg) {dvs : List V} {kws : List (Str × V)} {f : Addr} {fd : FuncData} (h_own_order : CallF (tab P w K) P w K mg base 1 "own_order" f_own_order) (h_beat_of : CallF (tab P w K) P w K mg base 3 "beat_of" f_beat_of) (Fd : FunD K "__init__" "Track.__init__" (defArgs s_Track___init__) (defBody s_Track___init__) (defScope s_Track___init__) dvs kws f fd) : FnOk P w K mg base (L2.CX P w) 4 f fd ["self", "book", "state", "off"] (spW (tab P w K) K 4 f_Track___init__) := by
  have nd := (sc_Track___init__).nd
  refine fnW_ok (k := 3) Fd sc_Track___init__ fun cdv A outer s H E hr => ?_
  have tk := takes_of (X := cxOf (L2.CX P w) P w K mg base ["self", "book", "state", "off", "own", "places", "done"] "Track.__init__" (defScope s_Track___init__) f cdv A outer s H E) (E := E) rfl rfl rfl rfl
  exact s_cons (s_setFld fldN (Nat.le_of_ble_eq_true rfl) rfl G.k_Track G.n_Track_states (w_var (i := 0) rfl (.inl rfl) rfl rfl) (w_nlst (w_nil)) rfl)
      (s_cons (s_setFld fldN (Nat.le_of_ble_eq_true rfl) rfl G.k_Track G.n_Track_deeds (w_var (i := 0) rfl (.inl rfl) rfl rfl) (w_nlst (w_nil)) rfl)
      (s_cons (s_par2 rfl nd rfl rfl (by decide) rfl rfl (w_cons (w_callP h_own_order hr (by decide) rfl tk (w_cons (w_var (i := 1) rfl (.inl rfl) rfl rfl) (w_nil) rfl) rfl rfl rfl) (w_cons (w_dnew rfl rfl) (w_nil) rfl) rfl) rfl rfl)
      (s_cons (s_while (n := 10000) (passes_of rfl) (b_dnotin hr rfl rfl (w_var (i := 2) rfl (.inl rfl) rfl rfl) (w_var (i := 5) rfl (.inl rfl) rfl rfl) rfl) (s_cons (s_dput hr rfl rfl (w_var (i := 5) rfl (.inl rfl) rfl rfl) (w_var (i := 2) rfl (.inl rfl) rfl rfl) (w_len rfl G.b_len (w_cons (w_fld fldN (Nat.le_of_ble_eq_true rfl) rfl G.k_Track G.n_Track_states (w_var (i := 0) rfl (.inl rfl) rfl rfl) rfl) (w_nil) rfl) rfl rfl) rfl rfl rfl (fun _ => rfl))
      (s_cons (s_expr (w_app (w_fld fldN (Nat.le_of_ble_eq_true rfl) rfl G.k_Track G.n_Track_states (w_var (i := 0) rfl (.inl rfl) rfl rfl) rfl) (w_var (i := 2) rfl (.inl rfl) rfl rfl) rfl rfl rfl rfl rfl) rfl)
      (s_cons (s_asg (w_callP h_beat_of hr (by decide) rfl tk (w_cons (w_var (i := 1) rfl (.inl rfl) rfl rfl) (w_cons (w_var (i := 2) rfl (.inl rfl) rfl rfl) (w_cons (w_var (i := 4) rfl (.inl rfl) rfl rfl) (w_cons (w_var (i := 3) rfl (.inl rfl) rfl rfl) (w_nil) rfl) rfl) rfl) rfl) rfl rfl rfl) (g_tup rfl (gs_name (i := 6) nd rfl (.inl rfl) (.inl rfl) (gs_name (i := 2) nd rfl (.inl rfl) (.inl rfl) (gs_nil) rfl) rfl) rfl rfl) rfl rfl rfl)
      (s_cons (s_expr (w_app (w_fld fldN (Nat.le_of_ble_eq_true rfl) rfl G.k_Track G.n_Track_deeds (w_var (i := 0) rfl (.inl rfl) rfl rfl) rfl) (w_var (i := 6) rfl (.inl rfl) rfl rfl) rfl rfl rfl rfl rfl) rfl)
      (s_nil))))))
      (s_cons (s_setFld fldN (Nat.le_of_ble_eq_true rfl) rfl G.k_Track G.n_Track_begin (w_var (i := 0) rfl (.inl rfl) rfl rfl) (w_dget hr rfl rfl (w_var (i := 5) rfl (.inl rfl) rfl rfl) (w_var (i := 2) rfl (.inl rfl) rfl rfl) (fun _ _ => rfl)) rfl)
      (s_cons (s_setFld fldN (Nat.le_of_ble_eq_true rfl) rfl G.k_Track G.n_Track_length (w_var (i := 0) rfl (.inl rfl) rfl rfl) (w_bin (w_len rfl G.b_len (w_cons (w_fld fldN (Nat.le_of_ble_eq_true rfl) rfl G.k_Track G.n_Track_states (w_var (i := 0) rfl (.inl rfl) rfl rfl) rfl) (w_nil) rfl) rfl rfl) (w_fld fldN (Nat.le_of_ble_eq_true rfl) rfl G.k_Track G.n_Track_begin (w_var (i := 0) rfl (.inl rfl) rfl rfl) rfl)) rfl)
      (s_nil))))))
abbrev s_are_values : Stmt := top 45
theorem sc_are_values : FnScope ["book", "thing", "place", "places"] ["book", "thing"] (defScope s_are_values) := ⟨rfl, rfl, rfl, by decide +kernel, rfl, by decide +kernel, by decide +kernel⟩
theorem ok_are_values (G : Glo K mg) {dvs : List V} {kws : List (Str × V)} {f : Addr} {fd : FuncData} (h_is_from : CallF (tab P w K) P w K mg base 2 "is_from" f_is_from) (Fd : FunD K "are_values" "are_values" (defArgs s_are_values) (defBody s_are_values) (defScope s_are_values) dvs kws f fd) : FnOk P w K mg base (L2.CX P w) 3 f fd ["book", "thing"] (spW (tab P w K) K 2 f_are_values) := by
  have nd := (sc_are_values).nd
  refine fnW_ok (k := 2) Fd sc_are_values fun cdv A outer s H E hr => ?_
  have tk := takes_of (X := cxOf (L2.CX P w) P w K mg base ["book", "thing", "place", "places"] "are_values" (defScope s_are_values) f cdv A outer s H E) (E := E) rfl rfl rfl rfl
  exact s_cons (s_if (L2.PW.pt (b_or (b_not (b_test (w_isTuple rfl G.b_isinstance rfl G.b_tuple (w_var (i := 1) rfl (.inl rfl) rfl rfl) rfl rfl rfl) (fun _ => rfl))) (b_or1 (b_cmp hr (w_len rfl G.b_len (w_cons (w_var (i := 1) rfl (.inl rfl) rfl rfl) (w_nil) rfl) rfl rfl) (w_len rfl G.b_len (w_cons (w_fld fldN (Nat.le_of_ble_eq_true rfl) rfl G.k_Book G.n_Book_wheels (w_var (i := 0) rfl (.inl rfl) rfl rfl) rfl) (w_nil) rfl) rfl rfl) rfl)))) (s_cons (s_ret (w_bl))
      (s_nil)) (s_nil))
      (s_cons (s_ret (w_all rfl rfl G.b_all (w_cons (w_lc (mt := false) rfl nd (i_zips rfl G.b_zip (w_var (i := 1) rfl (.inl rfl) rfl rfl) (w_fld fldN (Nat.le_of_ble_eq_true rfl) rfl G.k_Book G.n_Book_wheels (w_var (i := 0) rfl (.inl rfl) rfl rfl) rfl) rfl rfl rfl (fun ha => pi_zipS rfl G.b_zip ha rfl rfl)) (blkOk_by (own := [("place", 2), ("places", 3)]) (by kernel_rfl)) rfl rfl (fun _ _ _ _ _ => g_tup rfl (gs_name (i := 2) nd rfl (.inl rfl) (.inr rfl) (gs_name (i := 3) nd rfl (.inl rfl) (.inr rfl) (gs_nil) rfl) rfl) rfl rfl) (fun _ _ _ _ _ => bs_nil) (fun _ _ _ _ _ => w_callP h_is_from hr (by decide) rfl L2.takes0 (w_cons (w_var (i := 2) rfl (.inl rfl) rfl rfl) (w_cons (w_int) (w_cons (w_var (i := 3) rfl (.inl rfl) rfl rfl) (w_nil) rfl) rfl) rfl) rfl rfl rfl) (fun _ => rfl)) (w_nil) rfl) rfl rfl))
      (s_nil))
abbrev s_begun : Stmt := top 48
theorem sc_begun : FnScope ["book", "values"] ["book", "values"] (defScope s_begun) := ⟨rfl, rfl, rfl, by decide +kernel, rfl, by decide +kernel, by decide +kernel⟩
theorem ok_begun (G : Glo K mg) {dvs : List V} {kws : List (Str × V)} {f : Addr} {fd : FuncData} (h_are_values : CallF (tab P w K) P w K mg base 3 "are_values" f_are_values) (Fd : FunD K "begun" "begun" (defArgs s_begun) (defBody s_begun) (defScope s_begun) dvs kws f fd) : FnOk P w K mg base (L2.CX P w) 4 f fd ["book", "values"] (spW (tab P w K) K 2 f_begun) := by
  have nd := (sc_begun).nd
  refine fnW_ok (k := 3) Fd sc_begun fun cdv A outer s H E hr => ?_
  have tk := takes_of (X := cxOf (L2.CX P w) P w K mg base ["book", "values"] "begun" (defScope s_begun) f cdv A outer s H E) (E := E) rfl rfl rfl rfl
  exact s_cons (s_if (b_not (b_test (w_callP h_are_values hr (by decide) rfl tk (w_cons (w_var (i := 0) rfl (.inl rfl) rfl rfl) (w_cons (w_var (i := 1) rfl (.inl rfl) rfl rfl) (w_nil) rfl) rfl) rfl rfl rfl) (fun _ => rfl))) (s_cons (s_never)
      (s_nil)) (s_nil))
      (s_cons (s_ret (w_tup (w_cons (w_var (i := 1) rfl (.inl rfl) rfl rfl) (w_cons (w_bin (w_tup (w_cons (w_int) (w_nil) rfl)) (w_len rfl G.b_len (w_cons (w_fld fldN (Nat.le_of_ble_eq_true rfl) rfl G.k_Book G.n_Book_rules (w_var (i := 0) rfl (.inl rfl) rfl rfl) rfl) (w_nil) rfl) rfl rfl)) (w_nil) rfl) rfl)))
      (s_nil))
abbrev s_breaks_by : Stmt := top 79
theorem sc_breaks_by : FnScope ["book", "wish", "off", "values"] ["book", "wish", "off", "values"] (defScope s_breaks_by) := ⟨rfl, rfl, rfl, by decide +kernel, rfl, by decide +kernel, by decide +kernel⟩
theorem ok_breaks_by (G : Glo K mg) {dvs : List V} {kws : List (Str × V)} {f : Addr} {fd : FuncData} (h_is_broken : CallF (tab P w K) P w K mg base 3 "is_broken" f_is_broken) (h_new_Track : MakeF (tab P w K) P w K mg base 4 "Track" 1 f_Track___init__) (h_begun : CallF (tab P w K) P w K mg base 4 "begun" f_begun) (Fd : FunD K "breaks_by" "breaks_by" (defArgs s_breaks_by) (defBody s_breaks_by) (defScope s_breaks_by) dvs kws f fd) : FnOk P w K mg base (L2.CX P w) 6 f fd ["book", "wish", "off", "values"] (spW (tab P w K) K 4 f_breaks_by) := by
  have nd := (sc_breaks_by).nd
  refine fnW_ok (k := 5) Fd sc_breaks_by fun cdv A outer s H E hr => ?_
  have tk := takes_of (X := cxOf (L2.CX P w) P w K mg base ["book", "wish", "off", "values"] "breaks_by" (defScope s_breaks_by) f cdv A outer s H E) (E := E) rfl rfl rfl rfl
  exact s_cons (s_ret (w_callP h_is_broken hr (by decide) rfl tk (w_cons (w_makeZ h_new_Track hr (by decide) rfl tk (w_cons (w_var (i := 0) rfl (.inl rfl) rfl rfl) (w_cons (w_callP h_begun hr (by decide) rfl tk (w_cons (w_var (i := 0) rfl (.inl rfl) rfl rfl) (w_cons (w_var (i := 3) rfl (.inl rfl) rfl rfl) (w_nil) rfl) rfl) rfl rfl rfl) (w_cons (w_var (i := 2) rfl (.inl rfl) rfl rfl) (w_nil) rfl) rfl) rfl) rfl rfl rfl) (w_cons (w_var (i := 1) rfl (.inl rfl) rfl rfl) (w_nil) rfl) rfl) rfl rfl rfl))
      (s_nil)
abbrev s_least_break : Stmt := top 80
theorem sc_least_break : FnScope ["book", "wish", "off", "values"] ["book", "wish", "off"] (defScope s_least_break) := ⟨rfl, rfl, rfl, by decide +kernel, rfl, by decide +kernel, by decide +kernel⟩
theorem ok_least_break (G : Glo K mg) {dvs : List V} {kws : List (Str × V)} {f : Addr} {fd : FuncData} (h_beginnings : CallF (tab P w K) P w K mg base 2 "beginnings" f_beginnings) (h_breaks_by : CallF (tab P w K) P w K mg base 6 "breaks_by" f_breaks_by) (Fd : FunD K "least_break" "least_break" (defArgs s_least_break) (defBody s_least_break) (defScope s_least_break) dvs kws f fd) : FnOk P w K mg base (L2.CX P w) 7 f fd ["book", "wish", "off"] (spW (tab P w K) K 3 f_least_break) := by
  have nd := (sc_least_break).nd
  refine fnW_ok (k := 6) Fd sc_least_break fun cdv A outer s H E hr => ?_
  have tk := takes_of (X := cxOf (L2.CX P w) P w K mg base ["book", "wish", "off", "values"] "least_break" (defScope s_least_break) f cdv A outer s H E) (E := E) rfl rfl rfl rfl
  exact s_cons (s_for (passes_of rfl) rfl (i_seq (w_callP h_beginnings hr (by decide) rfl tk (w_cons (w_var (i := 0) rfl (.inl rfl) rfl rfl) (w_nil) rfl) rfl rfl rfl)) (g_name (i := 3) nd rfl (.inl rfl) (.inl rfl)) (s_cons (s_if (b_test (w_callP h_breaks_by hr (by decide) rfl tk (w_cons (w_var (i := 0) rfl (.inl rfl) rfl rfl) (w_cons (w_var (i := 1) rfl (.inl rfl) rfl rfl) (w_cons (w_var (i := 2) rfl (.inl rfl) rfl rfl) (w_cons (w_var (i := 3) rfl (.inl rfl) rfl rfl) (w_nil) rfl) rfl) rfl) rfl) rfl rfl rfl) (fun _ => rfl)) (s_cons (s_ret (w_var (i := 3) rfl (.inl rfl) rfl rfl))
      (s_nil)) (s_nil))
      (s_nil)) (fun _ => rfl))
      (s_cons (s_ret (w_non))
      (s_nil))
abbrev s_holds : Stmt := top 81
theorem sc_holds : FnScope ["book", "wish", "off"] ["book", "wish", "off"] (defScope s_holds) := ⟨rfl, rfl, rfl, by decide +kernel, rfl, by decide +kernel, by decide +kernel⟩
theorem ok_holds (G : Glo K mg) {dvs : List V} {kws : List (Str × V)} {f : Addr} {fd : FuncData} (h_look_wish : CallF (tab P w K) P w K mg base 4 "look_wish" f_look_wish) (h_look_off : CallF (tab P w K) P w K mg base 4 "look_off" f_look_off) (h_least_break : CallF (tab P w K) P w K mg base 7 "least_break" f_least_break) (Fd : FunD K "holds" "holds" (defArgs s_holds) (defBody s_holds) (defScope s_holds) dvs kws f fd) : FnOk P w K mg base (L2.CX P w) 8 f fd ["book", "wish", "off"] (spW (tab P w K) K 3 f_holds) := by
  have nd := (sc_holds).nd
  refine fnW_ok (k := 7) Fd sc_holds fun cdv A outer s H E hr => ?_
  have tk := takes_of (X := cxOf (L2.CX P w) P w K mg base ["book", "wish", "off"] "holds" (defScope s_holds) f cdv A outer s H E) (E := E) rfl rfl rfl rfl
  exact s_cons (s_expr (w_callP h_look_wish hr (by decide) rfl tk (w_cons (w_var (i := 0) rfl (.inl rfl) rfl rfl) (w_cons (w_var (i := 1) rfl (.inl rfl) rfl rfl) (w_nil) rfl) rfl) rfl rfl rfl) rfl)
      (s_cons (s_expr (w_callP h_look_off hr (by decide) rfl tk (w_cons (w_var (i := 0) rfl (.inl rfl) rfl rfl) (w_cons (w_var (i := 2) rfl (.inl rfl) rfl rfl) (w_nil) rfl) rfl) rfl rfl rfl) rfl)
      (s_cons (s_ret (w_cmp hr (w_callP h_least_break hr (by decide) rfl tk (w_cons (w_var (i := 0) rfl (.inl rfl) rfl rfl) (w_cons (w_var (i := 1) rfl (.inl rfl) rfl rfl) (w_cons (w_var (i := 2) rfl (.inl rfl) rfl rfl) (w_nil) rfl) rfl) rfl) rfl rfl rfl) (w_non) rfl))
      (s_nil)))
abbrev s_is_state : Stmt := top 46
theorem sc_is_state : FnScope ["book", "thing", "hushes", "hush"] ["book", "thing"] (defScope s_is_state) := ⟨rfl, rfl, rfl, by decide +kernel, rfl, by decide +kernel, by decide +kernel⟩
theorem ok_is_state (G : Glo K mg) {dvs : List V} {kws : List (Str × V)} {f : Addr} {fd : FuncData} (h_are_values : CallF (tab P w K) P w K mg base 3 "are_values" f_are_values) (h_is_from : CallF (tab P w K) P w K mg base 2 "is_from" f_is_from) (Fd : FunD K "is_state" "is_state" (defArgs s_is_state) (defBody s_is_state) (defScope s_is_state) dvs kws f fd) : FnOk P w K mg base (L2.CX P w) 4 f fd ["book", "thing"] (spW (tab P w K) K 2 f_is_state) := by
  have nd := (sc_is_state).nd
  refine fnW_ok (k := 3) Fd sc_is_state fun cdv A outer s H E hr => ?_
  have tk := takes_of (X := cxOf (L2.CX P w) P w K mg base ["book", "thing", "hushes", "hush"] "is_state" (defScope s_is_state) f cdv A outer s H E) (E := E) rfl rfl rfl rfl
  exact s_cons (s_if (L2.PW.pt (b_or (b_not (b_test (w_isTuple rfl G.b_isinstance rfl G.b_tuple (w_var (i := 1) rfl (.inl rfl) rfl rfl) rfl rfl rfl) (fun _ => rfl))) (b_or (b_cmp hr (w_len rfl G.b_len (w_cons (w_var (i := 1) rfl (.inl rfl) rfl rfl) (w_nil) rfl) rfl rfl) (w_int) rfl) (b_or1 (b_not (b_test (w_callP h_are_values hr (by decide) rfl tk (w_cons (w_var (i := 0) rfl (.inl rfl) rfl rfl) (w_cons (w_idx (w_var (i := 1) rfl (.inl rfl) rfl rfl) (w_int) (fun _ _ => rfl)) (w_nil) rfl) rfl) rfl rfl rfl) (fun _ => rfl))))))) (s_cons (s_ret (w_bl))
      (s_nil)) (s_nil))
      (s_cons (s_set (i := 2) nd rfl (.inl rfl) (w_idx (w_var (i := 1) rfl (.inl rfl) rfl rfl) (w_int) (fun _ _ => rfl)) rfl (.inl rfl))
      (s_cons (s_if (L2.PW.pt (b_or (b_not (b_test (w_isTuple rfl G.b_isinstance rfl G.b_tuple (w_var (i := 2) rfl (.inl rfl) rfl rfl) rfl rfl rfl) (fun _ => rfl))) (b_or1 (b_cmp hr (w_len rfl G.b_len (w_cons (w_var (i := 2) rfl (.inl rfl) rfl rfl) (w_nil) rfl) rfl rfl) (w_len rfl G.b_len (w_cons (w_fld fldN (Nat.le_of_ble_eq_true rfl) rfl G.k_Book G.n_Book_rules (w_var (i := 0) rfl (.inl rfl) rfl rfl) rfl) (w_nil) rfl) rfl rfl) rfl)))) (s_cons (s_ret (w_bl))
      (s_nil)) (s_nil))
      (s_cons (s_ret (w_all rfl rfl G.b_all (w_cons (w_lc (mt := false) rfl nd (i_seq (w_var (i := 2) rfl (.inl rfl) rfl rfl)) (blkOk_by (own := [("hush", 3)]) (by kernel_rfl)) rfl rfl (fun _ _ _ _ _ => g_name (i := 3) nd rfl (.inl rfl) (.inr rfl)) (fun _ _ _ _ _ => bs_nil) (fun _ _ _ _ _ => w_callP h_is_from hr (by decide) rfl L2.takes0 (w_cons (w_var (i := 3) rfl (.inl rfl) rfl rfl) (w_cons (w_int) (w_cons (w_globW rfl (G.c_MOST_HUSHED _ _) rfl) (w_nil) rfl) rfl) rfl) rfl rfl rfl) (fun _ => rfl)) (w_nil) rfl) rfl rfl))
      (s_nil))))
abbrev s_look_state : Stmt := top 47
theorem sc_look_state : FnScope ["book", "thing"] ["book", "thing"] (defScope s_look_state) := ⟨rfl, rfl, rfl, by decide +kernel, rfl, by decide +kernel, by decide +kernel⟩
theorem ok_look_state (G : Glo K mg) {dvs : List V} {kws : List (Str × V)} {f : Addr} {fd : FuncData} (h_is_state : CallF (tab P w K) P w K mg base 4 "is_state" f_is_state) (Fd : FunD K "look_state" "look_state" (defArgs s_look_state) (defBody s_look_state) (defScope s_look_state) dvs kws f fd) : FnOk P w K mg base (L2.CX P w) 5 f fd ["book", "thing"] (spW (tab P w K) K 2 f_look_state) := by
  have nd := (sc_look_state).nd
  refine fnW_ok (k := 4) Fd sc_look_state fun cdv A outer s H E hr => ?_
  have tk := takes_of (X := cxOf (L2.CX P w) P w K mg base ["book", "thing"] "look_state" (defScope s_look_state) f cdv A outer s H E) (E := E) rfl rfl rfl rfl
  exact s_cons (s_if (b_not (b_test (w_callP h_is_state hr (by decide) rfl tk (w_cons (w_var (i := 0) rfl (.inl rfl) rfl rfl) (w_cons (w_var (i := 1) rfl (.inl rfl) rfl rfl) (w_nil) rfl) rfl) rfl rfl rfl) (fun _ => rfl))) (s_cons (s_never)
      (s_nil)) (s_nil))
      (s_nil)
abbrev s_track_of : Stmt := top 65
theorem sc_track_of : FnScope ["book", "state", "off"] ["book", "state", "off"] (defScope s_track_of) := ⟨rfl, rfl, rfl, by decide +kernel, rfl, by decide +kernel, by decide +kernel⟩
theorem ok_track_of (G : Glo K mg) {dvs : List V} {kws : List (Str × V)} {f : Addr} {fd : FuncData} (h_look_state : CallF (tab P w K) P w K mg base 5 "look_state" f_look_state) (h_look_off : CallF (tab P w K) P w K mg base 4 "look_off" f_look_off) (h_new_Track : MakeF (tab P w K) P w K mg base 4 "Track" 1 f_Track___init__) (Fd : FunD K "track_of" "track_of" (defArgs s_track_of) (defBody s_track_of) (defScope s_track_of) dvs kws f fd) : FnOk P w K mg base (L2.CX P w) 6 f fd ["book", "state", "off"] (spW (tab P w K) K 3 f_track_of) := by
  have nd := (sc_track_of).nd
  refine fnW_ok (k := 5) Fd sc_track_of fun cdv A outer s H E hr => ?_
  have tk := takes_of (X := cxOf (L2.CX P w) P w K mg base ["book", "state", "off"] "track_of" (defScope s_track_of) f cdv A outer s H E) (E := E) rfl rfl rfl rfl
  exact s_cons (s_expr (w_callP h_look_state hr (by decide) rfl tk (w_cons (w_var (i := 0) rfl (.inl rfl) rfl rfl) (w_cons (w_var (i := 1) rfl (.inl rfl) rfl rfl) (w_nil) rfl) rfl) rfl rfl rfl) rfl)
      (s_cons (s_expr (w_callP h_look_off hr (by decide) rfl tk (w_cons (w_var (i := 0) rfl (.inl rfl) rfl rfl) (w_cons (w_var (i := 2) rfl (.inl rfl) rfl rfl) (w_nil) rfl) rfl) rfl rfl rfl) rfl)
      (s_cons (s_ret (w_makeZ h_new_Track hr (by decide) rfl tk (w_cons (w_var (i := 0) rfl (.inl rfl) rfl rfl) (w_cons (w_var (i := 1) rfl (.inl rfl) rfl rfl) (w_cons (w_var (i := 2) rfl (.inl rfl) rfl rfl) (w_nil) rfl) rfl) rfl) rfl rfl rfl))
      (s_nil)))
abbrev s_round_of : Stmt := top 67
theorem sc_round_of : FnScope ["book", "state", "off", "track"] ["book", "state", "off"] (defScope s_round_of) := ⟨rfl, rfl, rfl, by decide +kernel, rfl, by decide +kernel, by decide +kernel⟩
theorem ok_round_of (G : Glo K mg) {dvs : List V} {kws : List (Str × V)} {f : Addr} {fd : FuncData} (h_track_of : CallF (tab P w K) P w K mg base 6 "track_of" f_track_of) (Fd : FunD K "round_of" "round_of" (defArgs s_round_of) (defBody s_round_of) (defScope s_round_of) dvs kws f fd) : FnOk P w K mg base (L2.CX P w) 7 f fd ["book", "state", "off"] (spW (tab P w K) K 3 f_round_of) := by
  have nd := (sc_round_of).nd
  refine fnW_ok (k := 6) Fd sc_round_of fun cdv A outer s H E hr => ?_
  have tk := takes_of (X := cxOf (L2.CX P w) P w K mg base ["book", "state", "off", "track"] "round_of" (defScope s_round_of) f cdv A outer s H E) (E := E) rfl rfl rfl rfl
  exact s_cons (s_set (i := 3) nd rfl (.inl rfl) (w_callP h_track_of hr (by decide) rfl tk (w_cons (w_var (i := 0) rfl (.inl rfl) rfl rfl) (w_cons (w_var (i := 1) rfl (.inl rfl) rfl rfl) (w_cons (w_var (i := 2) rfl (.inl rfl) rfl rfl) (w_nil) rfl) rfl) rfl) rfl rfl rfl) rfl (.inl rfl))
      (s_cons (s_ret (w_tup (w_cons (w_fld fldN (Nat.le_of_ble_eq_true rfl) rfl G.k_Track G.n_Track_begin (w_var (i := 3) rfl (.inl rfl) rfl rfl) rfl) (w_cons (w_fld fldN (Nat.le_of_ble_eq_true rfl) rfl G.k_Track G.n_Track_length (w_var (i := 3) rfl (.inl rfl) rfl rfl) rfl) (w_nil) rfl) rfl)))
      (s_nil))
abbrev s_look_beats : Stmt := top 64
theorem sc_look_beats : FnScope ["beats"] ["beats"] (defScope s_look_beats) := ⟨rfl, rfl, rfl, by decide +kernel, rfl, by decide +kernel, by decide +kernel⟩
theorem ok_look_beats (G : Glo K mg) {dvs : List V} {kws : List (Str × V)} {f : Addr} {fd : FuncData} (h_is_whole : CallF (tab P w K) P w K mg base 1 "is_whole" f_is_whole) (Fd : FunD K "look_beats" "look_beats" (defArgs s_look_beats) (defBody s_look_beats) (defScope s_look_beats) dvs kws f fd) : FnOk P w K mg base (L2.CX P w) 2 f fd ["beats"] (spW (tab P w K) K 1 f_look_beats) := by
  have nd := (sc_look_beats).nd
  refine fnW_ok (k := 1) Fd sc_look_beats fun cdv A outer s H E hr => ?_
  have tk := takes_of (X := cxOf (L2.CX P w) P w K mg base ["beats"] "look_beats" (defScope s_look_beats) f cdv A outer s H E) (E := E) rfl rfl rfl rfl
  exact s_cons (s_if (L2.PW.pt (b_or (b_not (b_test (w_callP h_is_whole hr (by decide) rfl tk (w_cons (w_var (i := 0) rfl (.inl rfl) rfl rfl) (w_nil) rfl) rfl rfl rfl) (fun _ => rfl))) (b_or1 (b_not (b_chain hr (w_int) (w_var (i := 0) rfl (.inl rfl) rfl rfl) (w_globW rfl (G.c_MOST_BEATS _ _) rfl) (by with_unfolding_all rfl)))))) (s_cons (s_never)
      (s_nil)) (s_nil))
      (s_nil)
abbrev s_Track_spot : Stmt := inClass (top 63) 1
theorem sc_Track_spot : FnScope ["self", "beats"] ["self", "beats"] (defScope s_Track_spot) := ⟨rfl, rfl, rfl, by decide +kernel, rfl, by decide +kernel, by decide +kernel⟩
theorem ok_Track_spot (G : Glo K mg) {dvs : List V} {kws : List (Str × V)} {f : Addr} {fd : FuncData} (Fd : FunD K "spot" "Track.spot" (defArgs s_Track_spot) (defBody s_Track_spot) (defScope s_Track_spot) dvs kws f fd) : FnOk P w K mg base (L2.CX P w) 1 f fd ["self", "beats"] (spW (tab P w K) K 2 f_Track_spot) := by
  have nd := (sc_Track_spot).nd
  refine fnW_ok (k := 0) Fd sc_Track_spot fun cdv A outer s H E hr => ?_
  have tk := takes_of (X := cxOf (L2.CX P w) P w K mg base ["self", "beats"] "Track.spot" (defScope s_Track_spot) f cdv A outer s H E) (E := E) rfl rfl rfl rfl
  exact s_cons (s_ret (w_ifx (b_cmp hr (w_var (i := 1) rfl (.inl rfl) rfl rfl) (w_fld fldN (Nat.le_of_ble_eq_true rfl) rfl G.k_Track G.n_Track_begin (w_var (i := 0) rfl (.inl rfl) rfl rfl) rfl) rfl) (w_var (i := 1) rfl (.inl rfl) rfl rfl) (w_bin (w_fld fldN (Nat.le_of_ble_eq_true rfl) rfl G.k_Track G.n_Track_begin (w_var (i := 0) rfl (.inl rfl) rfl rfl) rfl) (w_bin (w_bin (w_var (i := 1) rfl (.inl rfl) rfl rfl) (w_fld fldN (Nat.le_of_ble_eq_true rfl) rfl G.k_Track G.n_Track_begin (w_var (i := 0) rfl (.inl rfl) rfl rfl) rfl)) (w_fld fldN (Nat.le_of_ble_eq_true rfl) rfl G.k_Track G.n_Track_length (w_var (i := 0) rfl (.inl rfl) rfl rfl) rfl)))))
      (s_nil)
abbrev s_state_at : Stmt := top 66
theorem sc_state_at : FnScope ["book", "state", "beats", "off", "track"] ["book", "state", "beats", "off"] (defScope s_state_at) := ⟨rfl, rfl, rfl, by decide +kernel, rfl, by decide +kernel, by decide +kernel⟩
theorem ok_state_at (G : Glo K mg) {dvs : List V} {kws : List (Str × V)} {f : Addr} {fd : FuncData} (h_look_state : CallF (tab P w K) P w K mg base 5 "look_state" f_look_state) (h_look_beats : CallF (tab P w K) P w K mg base 2 "look_beats" f_look_beats) (h_track_of : CallF (tab P w K) P w K mg base 6 "track_of" f_track_of) (h_m_Track_spot : MethF (tab P w K) P w K mg base 1 1 "spot" f_Track_spot) (Fd : FunD K "state_at" "state_at" (defArgs s_state_at) (defBody s_state_at) (defScope s_state_at) dvs kws f fd) : FnOk P w K mg base (L2.CX P w) 7 f fd ["book", "state", "beats", "off"] (spW (tab P w K) K 4 f_state_at) := by
  have nd := (sc_state_at).nd
  refine fnW_ok (k := 6) Fd sc_state_at fun cdv A outer s H E hr => ?_
  have tk := takes_of (X := cxOf (L2.CX P w) P w K mg base ["book", "state", "beats", "off", "track"] "state_at" (defScope s_state_at) f cdv A outer s H E) (E := E) rfl rfl rfl rfl
  exact s_cons (s_expr (w_callP h_look_state hr (by decide) rfl tk (w_cons (w_var (i := 0) rfl (.inl rfl) rfl rfl) (w_cons (w_var (i := 1) rfl (.inl rfl) rfl rfl) (w_nil) rfl) rfl) rfl rfl rfl) rfl)
      (s_cons (s_expr (w_callP h_look_beats hr (by decide) rfl tk (w_cons (w_var (i := 2) rfl (.inl rfl) rfl rfl) (w_nil) rfl) rfl rfl rfl) rfl)
      (s_cons (s_set (i := 4) nd rfl (.inl rfl) (w_callP h_track_of hr (by decide) rfl tk (w_cons (w_var (i := 0) rfl (.inl rfl) rfl rfl) (w_cons (w_var (i := 1) rfl (.inl rfl) rfl rfl) (w_cons (w_var (i := 3) rfl (.inl rfl) rfl rfl) (w_nil) rfl) rfl) rfl) rfl rfl rfl) rfl (.inl rfl))
      (s_cons (s_ret (w_idx (w_fld fldN (Nat.le_of_ble_eq_true rfl) rfl G.k_Track G.n_Track_states (w_var (i := 4) rfl (.inl rfl) rfl rfl) rfl) (w_meth h_m_Track_spot hr (by decide) tk (w_var (i := 4) rfl (.inl rfl) rfl rfl) (w_cons (w_var (i := 2) rfl (.inl rfl) rfl rfl) (w_nil) rfl) rfl rfl rfl) (fun _ _ => rfl)))
      (s_nil))))
abbrev s_quiet_from : Stmt := top 68
theorem sc_quiet_from : FnScope ["book", "state", "off"] ["book", "state", "off"] (defScope s_quiet_from) := ⟨rfl, rfl, rfl, by decide +kernel, rfl, by decide +kernel, by decide +kernel⟩
theorem ok_quiet_from (G : Glo K mg) {dvs : List V} {kws : List (Str × V)} {f : Addr} {fd : FuncData} (h_m_Track_quiet : MethF (tab P w K) P w K mg base 2 1 "quiet" f_Track_quiet) (h_track_of : CallF (tab P w K) P w K mg base 6 "track_of" f_track_of) (Fd : FunD K "quiet_from" "quiet_from" (defArgs s_quiet_from) (defBody s_quiet_from) (defScope s_quiet_from) dvs kws f fd) : FnOk P w K mg base (L2.CX P w) 7 f fd ["book", "state", "off"] (spW (tab P w K) K 3 f_quiet_from) := by
  have nd := (sc_quiet_from).nd
  refine fnW_ok (k := 6) Fd sc_quiet_from fun cdv A outer s H E hr => ?_
  have tk := takes_of (X := cxOf (L2.CX P w) P w K mg base ["book", "state", "off"] "quiet_from" (defScope s_quiet_from) f cdv A outer s H E) (E := E) rfl rfl rfl rfl
  exact s_cons (s_ret (w_meth0 h_m_Track_quiet hr (by decide) tk (w_callP h_track_of hr (by decide) rfl tk (w_cons (w_var (i := 0) rfl (.inl rfl) rfl rfl) (w_cons (w_var (i := 1) rfl (.inl rfl) rfl rfl) (w_cons (w_var (i := 2) rfl (.inl rfl) rfl rfl) (w_nil) rfl) rfl) rfl) rfl rfl rfl) rfl))
      (s_nil)
abbrev s_look_rule : Stmt := top 50
theorem sc_look_rule : FnScope ["book", "rule"] ["book", "rule"] (defScope s_look_rule) := ⟨rfl, rfl, rfl, by decide +kernel, rfl, by decide +kernel, by decide +kernel⟩
theorem ok_look_rule (G : Glo K mg) {dvs : List V} {kws : List (Str × V)} {f : Addr} {fd : FuncData} (h_is_from : CallF (tab P w K) P w K mg base 2 "is_from" f_is_from) (Fd : FunD K "look_rule" "look_rule" (defArgs s_look_rule) (defBody s_look_rule) (defScope s_look_rule) dvs kws f fd) : FnOk P w K mg base (L2.CX P w) 3 f fd ["book", "rule"] (spW (tab P w K) K 2 f_look_rule) := by
  have nd := (sc_look_rule).nd
  refine fnW_ok (k := 2) Fd sc_look_rule fun cdv A outer s H E hr => ?_
  have tk := takes_of (X := cxOf (L2.CX P w) P w K mg base ["book", "rule"] "look_rule" (defScope s_look_rule) f cdv A outer s H E) (E := E) rfl rfl rfl rfl
  exact s_cons (s_if (b_not (b_test (w_callP h_is_from hr (by decide) rfl tk (w_cons (w_var (i := 1) rfl (.inl rfl) rfl rfl) (w_cons (w_int) (w_cons (w_len rfl G.b_len (w_cons (w_fld fldN (Nat.le_of_ble_eq_true rfl) rfl G.k_Book G.n_Book_rules (w_var (i := 0) rfl (.inl rfl) rfl rfl) rfl) (w_nil) rfl) rfl rfl) (w_nil) rfl) rfl) rfl) rfl rfl rfl) (fun _ => rfl))) (s_cons (s_never)
      (s_nil)) (s_nil))
      (s_nil)
abbrev s_Track_often : Stmt := inClass (top 63) 6
theorem sc_Track_often : FnScope ["self", "rule", "beats", "turns", "rounds", "rest", "inner", "at"] ["self", "rule", "beats"] (defScope s_Track_often) := ⟨rfl, rfl, rfl, by decide +kernel, rfl, by decide +kernel, by decide +kernel⟩
theorem ok_Track_often (G : Glo K mg) {dvs : List V} {kws : List (Str × V)} {f : Addr} {fd : FuncData} (h_m_Track_turns : MethF (tab P w K) P w K mg base 1 1 "turns" f_Track_turns) (Fd : FunD K "often" "Track.often" (defArgs s_Track_often) (defBody s_Track_often) (defScope s_Track_often) dvs kws f fd) : FnOk P w K mg base (L2.CX P w) 2 f fd ["self", "rule", "beats"] (spW (tab P w K) K 3 f_Track_often) := by
  have nd := (sc_Track_often).nd
  refine fnW_ok (k := 1) Fd sc_Track_often fun cdv A outer s H E hr => ?_
  have tk := takes_of (X := cxOf (L2.CX P w) P w K mg base ["self", "rule", "beats", "turns", "rounds", "rest", "inner", "at"] "Track.often" (defScope s_Track_often) f cdv A outer s H E) (E := E) rfl rfl rfl rfl
  exact s_cons (s_set (i := 3) nd rfl (.inl rfl) (w_meth h_m_Track_turns hr (by decide) tk (w_var (i := 0) rfl (.inr (.inl rfl)) rfl rfl) (w_cons (w_var (i := 1) rfl (.inl rfl) rfl rfl) (w_nil) rfl) rfl rfl rfl) rfl (.inl rfl))
      (s_cons (s_if (b_cmp hr (w_var (i := 2) rfl (.inr (.inl rfl)) rfl rfl) (w_len rfl G.b_len (w_cons (w_fld fldN (Nat.le_of_ble_eq_true rfl) rfl G.k_Track G.n_Track_deeds (w_var (i := 0) rfl (.inr (.inl rfl)) rfl rfl) rfl) (w_nil) rfl) rfl rfl) rfl) (s_cons (s_ret (w_len rfl G.b_len (w_cons (w_lc (mt := false) rfl nd (i_seq (w_var (i := 3) rfl (.inl rfl) rfl rfl)) (blkOk_by (own := [("at", 7)]) (by kernel_rfl)) rfl rfl (fun _ _ _ _ _ => g_name (i := 7) nd rfl (.inl rfl) (.inr rfl)) (fun _ _ _ _ _ => bs_one (b_cmp hr (w_var (i := 7) rfl (.inl rfl) rfl rfl) (w_var (i := 2) rfl (.inr (.inl rfl)) rfl rfl) rfl)) (fun _ _ _ _ _ => w_var (i := 7) rfl (.inl rfl) rfl rfl) (fun _ => rfl)) (w_nil) rfl) rfl rfl))
      (s_nil)) (s_nil))
      (s_cons (s_asg (w_divmod rfl G.b_divmod (w_cons (w_bin (w_var (i := 2) rfl (.inr (.inl rfl)) rfl rfl) (w_fld fldN (Nat.le_of_ble_eq_true rfl) rfl G.k_Track G.n_Track_begin (w_var (i := 0) rfl (.inr (.inl rfl)) rfl rfl) rfl)) (w_cons (w_fld fldN (Nat.le_of_ble_eq_true rfl) rfl G.k_Track G.n_Track_length (w_var (i := 0) rfl (.inr (.inl rfl)) rfl rfl) rfl) (w_nil) rfl) rfl) rfl rfl) (g_tup rfl (gs_name (i := 4) nd rfl (.inl rfl) (.inl rfl) (gs_name (i := 5) nd rfl (.inr rfl) (.inl rfl) (gs_nil) rfl) rfl) rfl rfl) rfl rfl rfl)
      (s_cons (s_setLc (i := 6) (mt := false) rfl nd rfl rfl (sw_true rfl rfl rfl rfl) (i_seq (w_var (i := 3) rfl (.inl rfl) rfl rfl)) (blkOk_by (own := [("at", 7)]) (by kernel_rfl)) rfl rfl (fun _ _ _ _ _ => g_name (i := 7) nd rfl (.inl rfl) (.inr rfl)) (fun _ _ _ _ _ => bs_one (b_cmp hr (w_var (i := 7) rfl (.inl rfl) rfl rfl) (w_fld fldN (Nat.le_of_ble_eq_true rfl) rfl G.k_Track G.n_Track_begin (w_var (i := 0) rfl (.inr (.inl rfl)) rfl rfl) rfl) rfl)) (fun _ _ _ _ _ => w_bin (w_var (i := 7) rfl (.inl rfl) rfl rfl) (w_fld fldN (Nat.le_of_ble_eq_true rfl) rfl G.k_Track G.n_Track_begin (w_var (i := 0) rfl (.inr (.inl rfl)) rfl rfl) rfl)) (fun _ => rfl))
      (s_cons (s_ret (w_bin (w_bin (w_bin (w_len rfl G.b_len (w_cons (w_var (i := 3) rfl (.inl rfl) rfl rfl) (w_nil) rfl) rfl rfl) (w_len rfl G.b_len (w_cons (w_var (i := 6) rfl (.inl rfl) rfl rfl) (w_nil) rfl) rfl rfl)) (w_bin (w_var (i := 4) rfl (.inl rfl) rfl rfl) (w_len rfl G.b_len (w_cons (w_var (i := 6) rfl (.inl rfl) rfl rfl) (w_nil) rfl) rfl rfl))) (w_len rfl G.b_len (w_cons (w_lc (mt := false) rfl nd (i_seq (w_var (i := 6) rfl (.inl rfl) rfl rfl)) (blkOk_by (own := [("at", 7)]) (by kernel_rfl)) rfl rfl (fun _ _ _ _ _ => g_name (i := 7) nd rfl (.inl rfl) (.inr rfl)) (fun _ _ _ _ _ => bs_one (b_cmp hr (w_var (i := 7) rfl (.inl rfl) rfl rfl) (w_var (i := 5) rfl (.inr (.inl rfl)) rfl rfl) rfl)) (fun _ _ _ _ _ => w_var (i := 7) rfl (.inl rfl) rfl rfl) (fun _ => rfl)) (w_nil) rfl) rfl rfl)))
      (s_nil)))))
abbrev s_times : Stmt := top 69
theorem sc_times : FnScope ["book", "state", "rule", "beats", "off"] ["book", "state", "rule", "beats", "off"] (defScope s_times) := ⟨rfl, rfl, rfl, by decide +kernel, rfl, by decide +kernel, by decide +kernel⟩
theorem ok_times (G : Glo K mg) {dvs : List V} {kws : List (Str × V)} {f : Addr} {fd : FuncData} (h_look_state : CallF (tab P w K) P w K mg base 5 "look_state" f_look_state) (h_look_rule : CallF (tab P w K) P w K mg base 3 "look_rule" f_look_rule) (h_look_beats : CallF (tab P w K) P w K mg base 2 "look_beats" f_look_beats) (h_m_Track_often : MethF (tab P w K) P w K mg base 2 1 "often" f_Track_often) (h_track_of : CallF (tab P w K) P w K mg base 6 "track_of" f_track_of) (Fd : FunD K "times" "times" (defArgs s_times) (defBody s_times) (defScope s_times) dvs kws f fd) : FnOk P w K mg base (L2.CX P w) 7 f fd ["book", "state", "rule", "beats", "off"] (spW (tab P w K) K 5 f_times) := by
  have nd := (sc_times).nd
  refine fnW_ok (k := 6) Fd sc_times fun cdv A outer s H E hr => ?_
  have tk := takes_of (X := cxOf (L2.CX P w) P w K mg base ["book", "state", "rule", "beats", "off"] "times" (defScope s_times) f cdv A outer s H E) (E := E) rfl rfl rfl rfl
  exact s_cons (s_expr (w_callP h_look_state hr (by decide) rfl tk (w_cons (w_var (i := 0) rfl (.inl rfl) rfl rfl) (w_cons (w_var (i := 1) rfl (.inl rfl) rfl rfl) (w_nil) rfl) rfl) rfl rfl rfl) rfl)
      (s_cons (s_expr (w_callP h_look_rule hr (by decide) rfl tk (w_cons (w_var (i := 0) rfl (.inl rfl) rfl rfl) (w_cons (w_var (i := 2) rfl (.inl rfl) rfl rfl) (w_nil) rfl) rfl) rfl rfl rfl) rfl)
      (s_cons (s_expr (w_callP h_look_beats hr (by decide) rfl tk (w_cons (w_var (i := 3) rfl (.inl rfl) rfl rfl) (w_nil) rfl) rfl rfl rfl) rfl)
      (s_cons (s_ret (w_meth h_m_Track_often hr (by decide) tk (w_callP h_track_of hr (by decide) rfl tk (w_cons (w_var (i := 0) rfl (.inl rfl) rfl rfl) (w_cons (w_var (i := 1) rfl (.inl rfl) rfl rfl) (w_cons (w_var (i := 4) rfl (.inl rfl) rfl rfl) (w_nil) rfl) rfl) rfl) rfl rfl rfl) (w_cons (w_var (i := 2) rfl (.inl rfl) rfl rfl) (w_cons (w_var (i := 3) rfl (.inl rfl) rfl rfl) (w_nil) rfl) rfl) rfl rfl rfl))
      (s_nil))))
abbrev s_nth : Stmt := top 70
theorem sc_nth : FnScope ["book", "state", "rule", "many", "off", "track", "turns", "inner", "rounds", "rest", "at"] ["book", "state", "rule", "many", "off"] (defScope s_nth) := ⟨rfl, rfl, rfl, by decide +kernel, rfl, by decide +kernel, by decide +kernel⟩
theorem ok_nth (G : Glo K mg) {dvs : List V} {kws : List (Str × V)} {f : Addr} {fd : FuncData} (h_look_state : CallF (tab P w K) P w K mg base 5 "look_state" f_look_state) (h_look_rule : CallF (tab P w K) P w K mg base 3 "look_rule" f_look_rule) (h_look_beats : CallF (tab P w K) P w K mg base 2 "look_beats" f_look_beats) (h_track_of : CallF (tab P w K) P w K mg base 6 "track_of" f_track_of) (h_m_Track_turns : MethF (tab P w K) P w K mg base 1 1 "turns" f_Track_turns) (Fd : FunD K "nth" "nth" (defArgs s_nth) (defBody s_nth) (defScope s_nth) dvs kws f fd) : FnOk P w K mg base (L2.CX P w) 7 f fd ["book", "state", "rule", "many", "off"] (spW (tab P w K) K 5 f_nth) := by
  have nd := (sc_nth).nd
  refine fnW_ok (k := 6) Fd sc_nth fun cdv A outer s H E hr => ?_
  have tk := takes_of (X := cxOf (L2.CX P w) P w K mg base ["book", "state", "rule", "many", "off", "track", "turns", "inner", "rounds", "rest", "at"] "nth" (defScope s_nth) f cdv A outer s H E) (E := E) rfl rfl rfl rfl
  exact s_cons (s_expr (w_callP h_look_state hr (by decide) rfl tk (w_cons (w_var (i := 0) rfl (.inl rfl) rfl rfl) (w_cons (w_var (i := 1) rfl (.inl rfl) rfl rfl) (w_nil) rfl) rfl) rfl rfl rfl) rfl)
      (s_cons (s_expr (w_callP h_look_rule hr (by decide) rfl tk (w_cons (w_var (i := 0) rfl (.inl rfl) rfl rfl) (w_cons (w_var (i := 2) rfl (.inl rfl) rfl rfl) (w_nil) rfl) rfl) rfl rfl rfl) rfl)
      (s_cons (s_expr (w_callP h_look_beats hr (by decide) rfl tk (w_cons (w_var (i := 3) rfl (.inl rfl) rfl rfl) (w_nil) rfl) rfl rfl rfl) rfl)
      (s_cons (s_if (b_cmp hr (w_var (i := 3) rfl (.inl rfl) rfl rfl) (w_int) rfl) (s_cons (s_never)
      (s_nil)) (s_nil))
      (s_cons (s_set (i := 5) nd rfl (.inr rfl) (w_callP h_track_of hr (by decide) rfl tk (w_cons (w_var (i := 0) rfl (.inl rfl) rfl rfl) (w_cons (w_var (i := 1) rfl (.inl rfl) rfl rfl) (w_cons (w_var (i := 4) rfl (.inl rfl) rfl rfl) (w_nil) rfl) rfl) rfl) rfl rfl rfl) rfl (.inl rfl))
      (s_cons (s_set (i := 6) nd rfl (.inl rfl) (w_meth h_m_Track_turns hr (by decide) tk (w_var (i := 5) rfl (.inr (.inl rfl)) rfl rfl) (w_cons (w_var (i := 2) rfl (.inl rfl) rfl rfl) (w_nil) rfl) rfl rfl rfl) rfl (.inl rfl))
      (s_cons (s_if (b_cmp hr (w_var (i := 3) rfl (.inl rfl) rfl rfl) (w_len rfl G.b_len (w_cons (w_var (i := 6) rfl (.inl rfl) rfl rfl) (w_nil) rfl) rfl rfl) rfl) (s_cons (s_ret (w_idx (w_var (i := 6) rfl (.inl rfl) rfl rfl) (w_bin (w_var (i := 3) rfl (.inl rfl) rfl rfl) (w_int)) (fun _ _ => rfl)))
      (s_nil)) (s_nil))
      (s_cons (s_setLc (i := 7) (mt := false) rfl nd rfl rfl (sw_true rfl rfl rfl rfl) (i_seq (w_var (i := 6) rfl (.inl rfl) rfl rfl)) (blkOk_by (own := [("at", 10)]) (by kernel_rfl)) rfl rfl (fun _ _ _ _ _ => g_name (i := 10) nd rfl (.inl rfl) (.inr rfl)) (fun _ _ _ _ _ => bs_one (b_cmp hr (w_var (i := 10) rfl (.inl rfl) rfl rfl) (w_fld fldN (Nat.le_of_ble_eq_true rfl) rfl G.k_Track G.n_Track_begin (w_var (i := 5) rfl (.inr (.inl rfl)) rfl rfl) rfl) rfl)) (fun _ _ _ _ _ => w_var (i := 10) rfl (.inl rfl) rfl rfl) (fun _ => rfl))
      (s_cons (s_if (b_cmp hr (w_var (i := 7) rfl (.inl rfl) rfl rfl) (w_lst (w_nil)) rfl) (s_cons (s_ret (w_non))
      (s_nil)) (s_nil))
      (s_cons (s_asg (w_divmod rfl G.b_divmod (w_cons (w_bin (w_bin (w_var (i := 3) rfl (.inl rfl) rfl rfl) (w_len rfl G.b_len (w_cons (w_var (i := 6) rfl (.inl rfl) rfl rfl) (w_nil) rfl) rfl rfl)) (w_int)) (w_cons (w_len rfl G.b_len (w_cons (w_var (i := 7) rfl (.inl rfl) rfl rfl) (w_nil) rfl) rfl rfl) (w_nil) rfl) rfl) rfl rfl) (g_tup rfl (gs_name (i := 8) nd rfl (.inl rfl) (.inl rfl) (gs_name (i := 9) nd rfl (.inl rfl) (.inl rfl) (gs_nil) rfl) rfl) rfl rfl) rfl rfl rfl)
      (s_cons (s_ret (w_bin (w_idx (w_var (i := 7) rfl (.inl rfl) rfl rfl) (w_var (i := 9) rfl (.inl rfl) rfl rfl) (fun _ _ => rfl)) (w_bin (w_bin (w_var (i := 8) rfl (.inl rfl) rfl rfl) (w_int)) (w_fld fldN (Nat.le_of_ble_eq_true rfl) rfl G.k_Track G.n_Track_length (w_var (i := 5) rfl (.inr (.inl rfl)) rfl rfl) rfl))))
      (s_nil)))))))))))
abbrev s_look_order : Stmt := top 53
theorem sc_look_order : FnScope ["book", "order", "rule"] ["book", "order"] (defScope s_look_order) := ⟨rfl, rfl, rfl, by decide +kernel, rfl, by decide +kernel, by decide +kernel⟩
theorem ok_look_order (G : Glo K mg) {dvs : List V} {kws : List (Str × V)} {f : Addr} {fd : FuncData} (h_is_from : CallF (tab P w K) P w K mg base 2 "is_from" f_is_from) (h_own_order : CallF (tab P w K) P w K mg base 1 "own_order" f_own_order) (Fd : FunD K "look_order" "look_order" (defArgs s_look_order) (defBody s_look_order) (defScope s_look_order) dvs kws f fd) : FnOk P w K mg base (L2.CX P w) 3 f fd ["book", "order"] (spW (tab P w K) K 2 f_look_order) := by
  have nd := (sc_look_order).nd
  refine fnW_ok (k := 2) Fd sc_look_order fun cdv A outer s H E hr => ?_
  have tk := takes_of (X := cxOf (L2.CX P w) P w K mg base ["book", "order", "rule"] "look_order" (defScope s_look_order) f cdv A outer s H E) (E := E) rfl rfl rfl rfl
  exact s_cons (s_if (L2.PW.pt (b_or (b_not (b_test (w_isTuple rfl G.b_isinstance rfl G.b_tuple (w_var (i := 1) rfl (.inl rfl) rfl rfl) rfl rfl rfl) (fun _ => rfl))) (b_or1 (b_not (b_test (w_all rfl rfl G.b_all (w_cons (w_lc (mt := false) rfl nd (i_seq (w_var (i := 1) rfl (.inl rfl) rfl rfl)) (blkOk_by (own := [("rule", 2)]) (by kernel_rfl)) rfl rfl (fun _ _ _ _ _ => g_name (i := 2) nd rfl (.inl rfl) (.inr rfl)) (fun _ _ _ _ _ => bs_nil) (fun _ _ _ _ _ => w_callP h_is_from hr (by decide) rfl L2.takes0 (w_cons (w_var (i := 2) rfl (.inl rfl) rfl rfl) (w_cons (w_int) (w_cons (w_len rfl G.b_len (w_cons (w_fld fldN (Nat.le_of_ble_eq_true rfl) rfl G.k_Book G.n_Book_rules (w_var (i := 0) rfl (.inr (.inl rfl)) rfl rfl) rfl) (w_nil) rfl) rfl rfl) (w_nil) rfl) rfl) rfl) rfl rfl rfl) (fun _ => rfl)) (w_nil) rfl) rfl rfl) (fun _ => rfl)))))) (s_cons (s_never)
      (s_nil)) (s_nil))
      (s_cons (s_if (b_cmp hr (w_sorted (.inl rfl) rfl G.b_sorted (w_var (i := 1) rfl (.inl rfl) rfl rfl) rfl) (w_list rfl G.b_list (w_cons (w_callP h_own_order hr (by decide) rfl tk (w_cons (w_var (i := 0) rfl (.inr (.inl rfl)) rfl rfl) (w_nil) rfl) rfl rfl rfl) (w_nil) rfl) rfl rfl) rfl) (s_cons (s_never)
      (s_nil)) (s_nil))
      (s_nil))
abbrev s_beat : Stmt := top 60
theorem sc_beat : FnScope ["book", "state", "order", "off"] ["book", "state", "order", "off"] (defScope s_beat) := ⟨rfl, rfl, rfl, by decide +kernel, rfl, by decide +kernel, by decide +kernel⟩
theorem ok_beat (G : Glo K mg) {dvs : List V} {kws : List (Str × V)} {f : Addr} {fd : FuncData} (h_look_state : CallF (tab P w K) P w K mg base 5 "look_state" f_look_state) (h_own_order : CallF (tab P w K) P w K mg base 1 "own_order" f_own_order) (h_look_order : CallF (tab P w K) P w K mg base 3 "look_order" f_look_order) (h_look_off : CallF (tab P w K) P w K mg base 4 "look_off" f_look_off) (h_beat_of : CallF (tab P w K) P w K mg base 3 "beat_of" f_beat_of) (Fd : FunD K "beat" "beat" (defArgs s_beat) (defBody s_beat) (defScope s_beat) dvs kws f fd) : FnOk P w K mg base (L2.CX P w) 6 f fd ["book", "state", "order", "off"] (spW (tab P w K) K 4 f_beat) := by
  have nd := (sc_beat).nd
  refine fnW_ok (k := 5) Fd sc_beat fun cdv A outer s H E hr => ?_
  have tk := takes_of (X := cxOf (L2.CX P w) P w K mg base ["book", "state", "order", "off"] "beat" (defScope s_beat) f cdv A outer s H E) (E := E) rfl rfl rfl rfl
  exact s_cons (s_expr (w_callP h_look_state hr (by decide) rfl tk (w_cons (w_var (i := 0) rfl (.inl rfl) rfl rfl) (w_cons (w_var (i := 1) rfl (.inl rfl) rfl rfl) (w_nil) rfl) rfl) rfl rfl rfl) rfl)
      (s_cons (s_if (b_cmp hr (w_var (i := 2) rfl (.inl rfl) rfl rfl) (w_non) rfl) (s_cons (s_set (i := 2) nd rfl (.inl rfl) (w_callP h_own_order hr (by decide) rfl tk (w_cons (w_var (i := 0) rfl (.inl rfl) rfl rfl) (w_nil) rfl) rfl rfl rfl) rfl (.inl rfl))
      (s_nil)) (s_nil))
      (s_cons (s_expr (w_callP h_look_order hr (by decide) rfl tk (w_cons (w_var (i := 0) rfl (.inl rfl) rfl rfl) (w_cons (w_var (i := 2) rfl (.inl rfl) rfl rfl) (w_nil) rfl) rfl) rfl rfl rfl) rfl)
      (s_cons (s_expr (w_callP h_look_off hr (by decide) rfl tk (w_cons (w_var (i := 0) rfl (.inl rfl) rfl rfl) (w_cons (w_var (i := 3) rfl (.inl rfl) rfl rfl) (w_nil) rfl) rfl) rfl rfl rfl) rfl)
      (s_cons (s_ret (w_callP h_beat_of hr (by decide) rfl tk (w_cons (w_var (i := 0) rfl (.inl rfl) rfl rfl) (w_cons (w_var (i := 1) rfl (.inl rfl) rfl rfl) (w_cons (w_var (i := 2) rfl (.inl rfl) rfl rfl) (w_cons (w_var (i := 3) rfl (.inl rfl) rfl rfl) (w_nil) rfl) rfl) rfl) rfl) rfl rfl rfl))
      (s_nil)))))
abbrev s__law_stands : Stmt := top 93
theorem sc__law_stands : FnScope ["_law_ledger", "_law_state", "_law_idle", "_law_length", "_law_wish_here", "_law_turn"] ["_law_ledger", "_law_state", "_law_idle", "_law_length", "_law_wish_here"] (defScope s__law_stands) := ⟨rfl, rfl, rfl, by decide +kernel, rfl, by decide +kernel, by decide +kernel⟩
theorem ok__law_stands (G : Glo K mg) {dvs : List V} {kws : List (Str × V)} {f : Addr} {fd : FuncData} (h_beat_2_off : CallK (tab P w K) P w K mg base 6 "beat" 2 ["off"] c_beat_2_off) (Fd : FunD K "_law_stands" "_law_stands" (defArgs s__law_stands) (defBody s__law_stands) (defScope s__law_stands) dvs kws f fd) : FnOk P w K mg base (L2.CX P w) 7 f fd ["_law_ledger", "_law_state", "_law_idle", "_law_length", "_law_wish_here"] (spW (tab P w K) K 5 f__law_stands) := by
  have nd := (sc__law_stands).nd
  refine fnW_ok (k := 6) Fd sc__law_stands fun cdv A outer s H E hr => ?_
  have tk := takes_of (X := cxOf (L2.CX P w) P w K mg base ["_law_ledger", "_law_state", "_law_idle", "_law_length", "_law_wish_here", "_law_turn"] "_law_stands" (defScope s__law_stands) f cdv A outer s H E) (E := E) rfl rfl rfl rfl
  exact s_cons (s_for (passes_of rfl) rfl (i_range1 rfl G.b_range (w_var (i := 3) rfl (.inl rfl) rfl rfl) rfl) (g_name (i := 5) nd rfl (.inl rfl) (.inl rfl)) (s_cons (s_if (b_cmp hr (w_idx (w_idx (w_var (i := 1) rfl (.inl rfl) rfl rfl) (w_int) (fun _ _ => rfl)) (w_idx (w_var (i := 4) rfl (.inl rfl) rfl rfl) (w_int) (fun _ _ => rfl)) (fun _ _ => rfl)) (w_idx (w_var (i := 4) rfl (.inl rfl) rfl rfl) (w_int) (fun _ _ => rfl)) rfl) (s_cons (s_ret (w_bl))
      (s_nil)) (s_nil))
      (s_cons (s_set (i := 1) nd rfl (.inl rfl) (w_idx (w_callKP (ks := ["off"]) h_beat_2_off hr (by decide) rfl tk (w_cons (w_var (i := 0) rfl (.inl rfl) rfl rfl) (w_cons (w_var (i := 1) rfl (.inl rfl) rfl rfl) (w_nil) rfl) rfl) (k_cons (w_var (i := 2) rfl (.inl rfl) rfl rfl) (k_nil)) rfl rfl rfl rfl rfl) (w_int) (fun _ _ => rfl)) rfl (.inl rfl))
      (s_nil))) (fun _ => rfl))
      (s_cons (s_ret (w_bl))
      (s_nil))
abbrev s__law_shown : Stmt := top 94
theorem sc__law_shown : FnScope ["_law_ledger", "_law_wish_here", "_law_idle", "_law_far", "_law_values", "_law_state", "_law_first", "_law_length", "_law_spot", "_law_here"] ["_law_ledger", "_law_wish_here", "_law_idle", "_law_far"] (defScope s__law_shown) := ⟨rfl, rfl, rfl, by decide +kernel, rfl, by decide +kernel, by decide +kernel⟩
theorem ok__law_shown (G : Glo K mg) {dvs : List V} {kws : List (Str × V)} {f : Addr} {fd : FuncData} (h_beginnings : CallF (tab P w K) P w K mg base 2 "beginnings" f_beginnings) (h_begun : CallF (tab P w K) P w K mg base 4 "begun" f_begun) (h_round_of_2_off : CallK (tab P w K) P w K mg base 7 "round_of" 2 ["off"] c_round_of_2_off) (h_quiet_from_2_off : CallK (tab P w K) P w K mg base 7 "quiet_from" 2 ["off"] c_quiet_from_2_off) (h_times_4_off : CallK (tab P w K) P w K mg base 7 "times" 4 ["off"] c_times_4_off) (h_nth_3_off : CallK (tab P w K) P w K mg base 7 "nth" 3 ["off"] c_nth_3_off) (h_state_at_3_off : CallK (tab P w K) P w K mg base 7 "state_at" 3 ["off"] c_state_at_3_off) (h__law_stands : CallF (tab P w K) P w K mg base 7 "_law_stands" f__law_stands) (Fd : FunD K "_law_shown" "_law_shown" (defArgs s__law_shown) (defBody s__law_shown) (defScope s__law_shown) dvs kws f fd) : FnOk P w K mg base (L2.CX P w) 8 f fd ["_law_ledger", "_law_wish_here", "_law_idle", "_law_far"] (spW (tab P w K) K 4 f__law_shown) := by
  have nd := (sc__law_shown).nd
  refine fnW_ok (k := 7) Fd sc__law_shown fun cdv A outer s H E hr => ?_
  have tk := takes_of (X := cxOf (L2.CX P w) P w K mg base ["_law_ledger", "_law_wish_here", "_law_idle", "_law_far", "_law_values", "_law_state", "_law_first", "_law_length", "_law_spot", "_law_here"] "_law_shown" (defScope s__law_shown) f cdv A outer s H E) (E := E) rfl rfl rfl rfl
  exact s_cons (s_for (passes_of rfl) rfl (i_seq (w_callP h_beginnings hr (by decide) rfl tk (w_cons (w_var (i := 0) rfl (.inl rfl) rfl rfl) (w_nil) rfl) rfl rfl rfl)) (g_name (i := 4) nd rfl (.inl rfl) (.inl rfl)) (s_cons (s_set (i := 5) nd rfl (.inl rfl) (w_callP h_begun hr (by decide) rfl tk (w_cons (w_var (i := 0) rfl (.inl rfl) rfl rfl) (w_cons (w_var (i := 4) rfl (.inl rfl) rfl rfl) (w_nil) rfl) rfl) rfl rfl rfl) rfl (.inl rfl))
      (s_cons (s_asg (w_callKP (ks := ["off"]) h_round_of_2_off hr (by decide) rfl tk (w_cons (w_var (i := 0) rfl (.inl rfl) rfl rfl) (w_cons (w_var (i := 5) rfl (.inl rfl) rfl rfl) (w_nil) rfl) rfl) (k_cons (w_var (i := 2) rfl (.inl rfl) rfl rfl) (k_nil)) rfl rfl rfl rfl rfl) (g_tup rfl (gs_name (i := 6) nd rfl (.inl rfl) (.inl rfl) (gs_name (i := 7) nd rfl (.inl rfl) (.inl rfl) (gs_nil) rfl) rfl) rfl rfl) rfl rfl rfl)
      (s_cons (s_set (i := 8) nd rfl (.inl rfl) (w_bin (w_var (i := 6) rfl (.inl rfl) rfl rfl) (w_bin (w_var (i := 7) rfl (.inl rfl) rfl rfl) (w_var (i := 3) rfl (.inl rfl) rfl rfl))) rfl (.inl rfl))
      (s_cons (s_if (L2.PW.pt (b_and (b_cmp hr (w_idx (w_var (i := 1) rfl (.inl rfl) rfl rfl) (w_int) (fun _ _ => rfl)) (w_str) rfl) (b_and1 (b_cmp hr (w_callKP (ks := ["off"]) h_quiet_from_2_off hr (by decide) rfl tk (w_cons (w_var (i := 0) rfl (.inl rfl) rfl rfl) (w_cons (w_var (i := 5) rfl (.inl rfl) rfl rfl) (w_nil) rfl) rfl) (k_cons (w_var (i := 2) rfl (.inl rfl) rfl rfl) (k_nil)) rfl rfl rfl rfl rfl) (w_non) rfl)))) (s_cons (s_ret (w_bl))
      (s_nil)) (s_nil))
      (s_cons (s_if (L2.PW.pt (b_and (b_cmp hr (w_idx (w_var (i := 1) rfl (.inl rfl) rfl rfl) (w_int) (fun _ _ => rfl)) (w_str) rfl) (b_and1 (b_cmp hr (w_callKP (ks := ["off"]) h_times_4_off hr (by decide) rfl tk (w_cons (w_var (i := 0) rfl (.inl rfl) rfl rfl) (w_cons (w_var (i := 5) rfl (.inl rfl) rfl rfl) (w_cons (w_idx (w_var (i := 1) rfl (.inl rfl) rfl rfl) (w_int) (fun _ _ => rfl)) (w_cons (w_bin (w_var (i := 8) rfl (.inl rfl) rfl rfl) (w_var (i := 7) rfl (.inl rfl) rfl rfl)) (w_nil) rfl) rfl) rfl) rfl) (k_cons (w_var (i := 2) rfl (.inl rfl) rfl rfl) (k_nil)) rfl rfl rfl rfl rfl) (w_int) rfl)))) (s_cons (s_ret (w_bl))
      (s_nil)) (s_nil))
      (s_cons (s_if (L2.PW.pt (b_and (b_cmp hr (w_idx (w_var (i := 1) rfl (.inl rfl) rfl rfl) (w_int) (fun _ _ => rfl)) (w_str) rfl) (b_and1 (b_cmp hr (w_callKP (ks := ["off"]) h_nth_3_off hr (by decide) rfl tk (w_cons (w_var (i := 0) rfl (.inl rfl) rfl rfl) (w_cons (w_var (i := 5) rfl (.inl rfl) rfl rfl) (w_cons (w_idx (w_var (i := 1) rfl (.inl rfl) rfl rfl) (w_int) (fun _ _ => rfl)) (w_nil) rfl) rfl) rfl) (k_cons (w_var (i := 2) rfl (.inl rfl) rfl rfl) (k_nil)) rfl rfl rfl rfl rfl) (w_non) rfl)))) (s_cons (s_ret (w_bl))
      (s_nil)) (s_nil))
      (s_cons (s_set (i := 9) nd rfl (.inl rfl) (w_callKP (ks := ["off"]) h_state_at_3_off hr (by decide) rfl tk (w_cons (w_var (i := 0) rfl (.inl rfl) rfl rfl) (w_cons (w_var (i := 5) rfl (.inl rfl) rfl rfl) (w_cons (w_var (i := 8) rfl (.inl rfl) rfl rfl) (w_nil) rfl) rfl) rfl) (k_cons (w_var (i := 2) rfl (.inl rfl) rfl rfl) (k_nil)) rfl rfl rfl rfl rfl) rfl (.inl rfl))
      (s_cons (s_if (L2.PW.pt (b_and (b_cmp hr (w_idx (w_var (i := 1) rfl (.inl rfl) rfl rfl) (w_int) (fun _ _ => rfl)) (w_str) rfl) (b_and1 (b_not (b_test (w_callP h__law_stands hr (by decide) rfl tk (w_cons (w_var (i := 0) rfl (.inl rfl) rfl rfl) (w_cons (w_var (i := 9) rfl (.inl rfl) rfl rfl) (w_cons (w_var (i := 2) rfl (.inl rfl) rfl rfl) (w_cons (w_var (i := 7) rfl (.inl rfl) rfl rfl) (w_cons (w_var (i := 1) rfl (.inl rfl) rfl rfl) (w_nil) rfl) rfl) rfl) rfl) rfl) rfl rfl rfl) (fun _ => rfl)))))) (s_cons (s_ret (w_bl))
      (s_nil)) (s_nil))
      (s_nil))))))))) (fun _ => rfl))
      (s_cons (s_ret (w_bl))
      (s_nil))
abbrev s_law : Stmt := top 95
theorem sc_law : FnScope ["_law_script", "_law_k", "_law_bag_here", "_law_wheels_here", "_law_rules_here", "_law_ledger", "_law_turn", "_law_wish_here", "_law_idle", "_law_far"] ["_law_script"] (defScope s_law) := ⟨rfl, rfl, rfl, by decide +kernel, rfl, by decide +kernel, by decide +kernel⟩
theorem ok_law (G : Glo K mg) {dvs : List V} {kws : List (Str × V)} {f : Addr} {fd : FuncData} (h__law_bag : CallF (tab P w K) P w K mg base 1 "_law_bag" f__law_bag) (h__law_drawn : CallF (tab P w K) P w K mg base 5 "_law_drawn" f__law_drawn) (h_new_Book : MakeF (tab P w K) P w K mg base 7 "Book" 0 f_Book___init__) (h__law_off : CallF (tab P w K) P w K mg base 2 "_law_off" f__law_off) (h__law_wish : CallF (tab P w K) P w K mg base 2 "_law_wish" f__law_wish) (h__law_take : CallF (tab P w K) P w K mg base 1 "_law_take" f__law_take) (h_holds_2_off : CallK (tab P w K) P w K mg base 8 "holds" 2 ["off"] c_holds_2_off) (h__law_shown : CallF (tab P w K) P w K mg base 8 "_law_shown" f__law_shown) (Fd : FunD K "law" "law" (defArgs s_law) (defBody s_law) (defScope s_law) dvs kws f fd) : FnOk P w K mg base (L2.CX P w) 9 f fd ["_law_script"] (spW (tab P w K) K 1 f_law) := by
  have nd := (sc_law).nd
  refine fnW_ok (k := 8) Fd sc_law fun cdv A outer s H E hr => ?_
  have tk := takes_of (X := cxOf (L2.CX P w) P w K mg base ["_law_script", "_law_k", "_law_bag_here", "_law_wheels_here", "_law_rules_here", "_law_ledger", "_law_turn", "_law_wish_here", "_law_idle", "_law_far"] "law" (defScope s_law) f cdv A outer s H E) (E := E) rfl rfl rfl rfl
  exact s_cons (s_for (passes_of rfl) rfl (i_range1 rfl G.b_range (w_max rfl rfl G.b_max (w_cons (w_int) (w_cons (w_min rfl rfl G.b_min (w_cons (w_int) (w_cons (w_len rfl G.b_len (w_cons (w_var (i := 0) rfl (.inl rfl) rfl rfl) (w_nil) rfl) rfl rfl) (w_nil) rfl) rfl) rfl rfl) (w_nil) rfl) rfl) rfl rfl) rfl) (g_name (i := 1) nd rfl (.inl rfl) (.inl rfl)) (s_cons (s_set (i := 2) nd rfl (.inl rfl) (w_call h__law_bag hr (by decide) rfl tk (w_cons (w_var (i := 0) rfl (.inl rfl) rfl rfl) (w_cons (w_var (i := 1) rfl (.inl rfl) rfl rfl) (w_nil) rfl) rfl) rfl rfl rfl) rfl (.inl rfl))
      (s_cons (s_asg (w_call h__law_drawn hr (by decide) rfl tk (w_cons (w_var (i := 2) rfl (.inl rfl) rfl rfl) (w_nil) rfl) rfl rfl rfl) (g_tup rfl (gs_name (i := 3) nd rfl (.inl rfl) (.inl rfl) (gs_name (i := 4) nd rfl (.inl rfl) (.inl rfl) (gs_nil) rfl) rfl) rfl rfl) rfl rfl rfl)
      (s_cons (s_set (i := 5) nd rfl (.inl rfl) (w_make h_new_Book hr (by decide) rfl tk (w_cons (w_var (i := 3) rfl (.inl rfl) rfl rfl) (w_cons (w_var (i := 4) rfl (.inl rfl) rfl rfl) (w_nil) rfl) rfl) rfl rfl rfl) rfl (.inl rfl))
      (s_cons (s_for (passes_of rfl) rfl (i_range1 rfl G.b_range (w_int) rfl) (g_name (i := 6) nd rfl (.inl rfl) (.inl rfl)) (s_cons (s_par2 rfl nd rfl rfl (by decide) rfl rfl (w_cons (w_call h__law_wish hr (by decide) rfl tk (w_cons (w_var (i := 2) rfl (.inl rfl) rfl rfl) (w_cons (w_var (i := 3) rfl (.inl rfl) rfl rfl) (w_cons (w_len rfl G.b_len (w_cons (w_var (i := 4) rfl (.inl rfl) rfl rfl) (w_nil) rfl) rfl rfl) (w_nil) rfl) rfl) rfl) rfl rfl rfl) (w_cons (w_call h__law_off hr (by decide) rfl tk (w_cons (w_var (i := 2) rfl (.inl rfl) rfl rfl) (w_cons (w_len rfl G.b_len (w_cons (w_var (i := 4) rfl (.inl rfl) rfl rfl) (w_nil) rfl) rfl rfl) (w_nil) rfl) rfl) rfl rfl rfl) (w_nil) rfl) rfl) rfl rfl)
      (s_cons (s_set (i := 9) nd rfl (.inl rfl) (w_idx (w_tup (w_cons (w_call h__law_take hr (by decide) rfl tk (w_cons (w_var (i := 2) rfl (.inl rfl) rfl rfl) (w_cons (w_int) (w_nil) rfl) rfl) rfl rfl rfl) (w_cons (w_call h__law_take hr (by decide) rfl tk (w_cons (w_var (i := 2) rfl (.inl rfl) rfl rfl) (w_cons (w_bin (w_int) (w_int)) (w_nil) rfl) rfl) rfl rfl rfl) (w_nil) rfl) rfl)) (w_call h__law_take hr (by decide) rfl tk (w_cons (w_var (i := 2) rfl (.inl rfl) rfl rfl) (w_cons (w_int) (w_nil) rfl) rfl) rfl rfl rfl) (fun _ _ => rfl)) rfl (.inl rfl))
      (s_cons (s_if (b_cmp hr (w_callKP (ks := ["off"]) h_holds_2_off hr (by decide) rfl tk (w_cons (w_var (i := 5) rfl (.inl rfl) rfl rfl) (w_cons (w_var (i := 7) rfl (.inl rfl) rfl rfl) (w_nil) rfl) rfl) (k_cons (w_var (i := 8) rfl (.inl rfl) rfl rfl) (k_nil)) rfl rfl rfl rfl rfl) (w_callP h__law_shown hr (by decide) rfl tk (w_cons (w_var (i := 5) rfl (.inl rfl) rfl rfl) (w_cons (w_var (i := 7) rfl (.inl rfl) rfl rfl) (w_cons (w_var (i := 8) rfl (.inl rfl) rfl rfl) (w_cons (w_var (i := 9) rfl (.inl rfl) rfl rfl) (w_nil) rfl) rfl) rfl) rfl) rfl rfl rfl) rfl) (s_cons (s_ret (w_bl))
      (s_nil)) (s_nil))
      (s_nil)))) (fun _ => rfl))
      (s_nil))))) (fun _ => rfl))
      (s_cons (s_ret (w_bl))
      (s_nil))
end
/-! ### the head -/
abbrev gp : List Str := []
def d__law_bag : He.DefD := ⟨("_law_bag", none), "_law_bag", "_law_bag", defArgs s__law_bag, defBody s__law_bag, defScope s__law_bag, [], []⟩
def d__law_take : He.DefD := ⟨("_law_take", none), "_law_take", "_law_take", defArgs s__law_take, defBody s__law_take, defScope s__law_take, [], []⟩
def d__law_wheels : He.DefD := ⟨("_law_wheels", none), "_law_wheels", "_law_wheels", defArgs s__law_wheels, defBody s__law_wheels, defScope s__law_wheels, [], []⟩
def d__law_condition : He.DefD := ⟨("_law_condition", none), "_law_condition", "_law_condition", defArgs s__law_condition, defBody s__law_condition, defScope s__law_condition, [], []⟩
def d__law_change : He.DefD := ⟨("_law_change", none), "_law_change", "_law_change", defArgs s__law_change, defBody s__law_change, defScope s__law_change, [], []⟩
def d__law_rule : He.DefD := ⟨("_law_rule", none), "_law_rule", "_law_rule", defArgs s__law_rule, defBody s__law_rule, defScope s__law_rule, [], []⟩
def d__law_rules : He.DefD := ⟨("_law_rules", none), "_law_rules", "_law_rules", defArgs s__law_rules, defBody s__law_rules, defScope s__law_rules, [], []⟩
def d__law_drawn : He.DefD := ⟨("_law_drawn", none), "_law_drawn", "_law_drawn", defArgs s__law_drawn, defBody s__law_drawn, defScope s__law_drawn, [], []⟩
def d_is_row : He.DefD := ⟨("is_row", none), "is_row", "is_row", defArgs s_is_row, defBody s_is_row, defScope s_is_row, [], []⟩
def d_how_many : He.DefD := ⟨("how_many", none), "how_many", "how_many", defArgs s_how_many, defBody s_how_many, defScope s_how_many, [], []⟩
def d_is_whole : He.DefD := ⟨("is_whole", none), "is_whole", "is_whole", defArgs s_is_whole, defBody s_is_whole, defScope s_is_whole, [], []⟩
def d_is_from : He.DefD := ⟨("is_from", none), "is_from", "is_from", defArgs s_is_from, defBody s_is_from, defScope s_is_from, [], []⟩
def d_are_wheels : He.DefD := ⟨("are_wheels", none), "are_wheels", "are_wheels", defArgs s_are_wheels, defBody s_are_wheels, defScope s_are_wheels, [], []⟩
def d_are_rising : He.DefD := ⟨("are_rising", none), "are_rising", "are_rising", defArgs s_are_rising, defBody s_are_rising, defScope s_are_rising, [], []⟩
def d_is_hush : He.DefD := ⟨("is_hush", none), "is_hush", "is_hush", defArgs s_is_hush, defBody s_is_hush, defScope s_is_hush, [], []⟩
def d_are_hushes : He.DefD := ⟨("are_hushes", none), "are_hushes", "are_hushes", defArgs s_are_hushes, defBody s_are_hushes, defScope s_are_hushes, [], []⟩
def d_are_rules_numbers : He.DefD := ⟨("are_rules_numbers", none), "are_rules_numbers", "are_rules_numbers", defArgs s_are_rules_numbers, defBody s_are_rules_numbers, defScope s_are_rules_numbers, [], []⟩
def d_is_worded : He.DefD := ⟨("is_worded", none), "is_worded", "is_worded", defArgs s_is_worded, defBody s_is_worded, defScope s_is_worded, [], []⟩
def d_is_placed : He.DefD := ⟨("is_placed", none), "is_placed", "is_placed", defArgs s_is_placed, defBody s_is_placed, defScope s_is_placed, [], []⟩
def d_is_condition : He.DefD := ⟨("is_condition", none), "is_condition", "is_condition", defArgs s_is_condition, defBody s_is_condition, defScope s_is_condition, [], []⟩
def d_is_rule : He.DefD := ⟨("is_rule", none), "is_rule", "is_rule", defArgs s_is_rule, defBody s_is_rule, defScope s_is_rule, [], []⟩
def d_look_book : He.DefD := ⟨("look_book", none), "look_book", "look_book", defArgs s_look_book, defBody s_look_book, defScope s_look_book, [], []⟩
def d_Book___init__ : He.DefD := ⟨("Book", some "__init__"), "__init__", "Book.__init__", defArgs s_Book___init__, defBody s_Book___init__, defScope s_Book___init__, [.adr (He.dflAt ("Book", some "__init__") 0)], []⟩
def d__law_wish : He.DefD := ⟨("_law_wish", none), "_law_wish", "_law_wish", defArgs s__law_wish, defBody s__law_wish, defScope s__law_wish, [], []⟩
def d__law_off : He.DefD := ⟨("_law_off", none), "_law_off", "_law_off", defArgs s__law_off, defBody s__law_off, defScope s__law_off, [], []⟩
def d_is_wish : He.DefD := ⟨("is_wish", none), "is_wish", "is_wish", defArgs s_is_wish, defBody s_is_wish, defScope s_is_wish, [], []⟩
def d_look_wish : He.DefD := ⟨("look_wish", none), "look_wish", "look_wish", defArgs s_look_wish, defBody s_look_wish, defScope s_look_wish, [], []⟩
def d_look_off : He.DefD := ⟨("look_off", none), "look_off", "look_off", defArgs s_look_off, defBody s_look_off, defScope s_look_off, [], []⟩
def d_all_rows : He.DefD := ⟨("all_rows", none), "all_rows", "all_rows", defArgs s_all_rows, defBody s_all_rows, defScope s_all_rows, [], []⟩
def d_beginnings : He.DefD := ⟨("beginnings", none), "beginnings", "beginnings", defArgs s_beginnings, defBody s_beginnings, defScope s_beginnings, [], []⟩
def d_Track_in_round : He.DefD := ⟨("Track", some "in_round"), "in_round", "Track.in_round", defArgs s_Track_in_round, defBody s_Track_in_round, defScope s_Track_in_round, [], []⟩
def d_Track_quiet : He.DefD := ⟨("Track", some "quiet"), "quiet", "Track.quiet", defArgs s_Track_quiet, defBody s_Track_quiet, defScope s_Track_quiet, [], []⟩
def d_Track_turns : He.DefD := ⟨("Track", some "turns"), "turns", "Track.turns", defArgs s_Track_turns, defBody s_Track_turns, defScope s_Track_turns, [], []⟩
def d_is_broken : He.DefD := ⟨("is_broken", none), "is_broken", "is_broken", defArgs s_is_broken, defBody s_is_broken, defScope s_is_broken, [], []⟩
def d_own_order : He.DefD := ⟨("own_order", none), "own_order", "own_order", defArgs s_own_order, defBody s_own_order, defScope s_own_order, [], []⟩
def d_ended : He.DefD := ⟨("ended", none), "ended", "ended", defArgs s_ended, defBody s_ended, defScope s_ended, [], []⟩
def d_is_so : He.DefD := ⟨("is_so", none), "is_so", "is_so", defArgs s_is_so, defBody s_is_so, defScope s_is_so, [], []⟩
def d_would_do : He.DefD := ⟨("would_do", none), "would_do", "would_do", defArgs s_would_do, defBody s_would_do, defScope s_would_do, [], []⟩
def d_change : He.DefD := ⟨("change", none), "change", "change", defArgs s_change, defBody s_change, defScope s_change, [], []⟩
def d_hush_and_wake : He.DefD := ⟨("hush_and_wake", none), "hush_and_wake", "hush_and_wake", defArgs s_hush_and_wake, defBody s_hush_and_wake, defScope s_hush_and_wake, [], []⟩
def d_beat_of : He.DefD := ⟨("beat_of", none), "beat_of", "beat_of", defArgs s_beat_of, defBody s_beat_of, defScope s_beat_of, [], []⟩
def d_Track___init__ : He.DefD := ⟨("Track", some "__init__"), "__init__", "Track.__init__", defArgs s_Track___init__, defBody s_Track___init__, defScope s_Track___init__, [], []⟩
def d_are_values : He.DefD := ⟨("are_values", none), "are_values", "are_values", defArgs s_are_values, defBody s_are_values, defScope s_are_values, [], []⟩
def d_begun : He.DefD := ⟨("begun", none), "begun", "begun", defArgs s_begun, defBody s_begun, defScope s_begun, [], []⟩
def d_breaks_by : He.DefD := ⟨("breaks_by", none), "breaks_by", "breaks_by", defArgs s_breaks_by, defBody s_breaks_by, defScope s_breaks_by, [], []⟩
def d_least_break : He.DefD := ⟨("least_break", none), "least_break", "least_break", defArgs s_least_break, defBody s_least_break, defScope s_least_break, [], []⟩
def d_holds : He.DefD := ⟨("holds", none), "holds", "holds", defArgs s_holds, defBody s_holds, defScope s_holds, [], [("off", .adr (DL.kwdAt ("holds", none) "off"))]⟩
def d_is_state : He.DefD := ⟨("is_state", none), "is_state", "is_state", defArgs s_is_state, defBody s_is_state, defScope s_is_state, [], []⟩
def d_look_state : He.DefD := ⟨("look_state", none), "look_state", "look_state", defArgs s_look_state, defBody s_look_state, defScope s_look_state, [], []⟩
def d_track_of : He.DefD := ⟨("track_of", none), "track_of", "track_of", defArgs s_track_of, defBody s_track_of, defScope s_track_of, [], []⟩
def d_round_of : He.DefD := ⟨("round_of", none), "round_of", "round_of", defArgs s_round_of, defBody s_round_of, defScope s_round_of, [], [("off", .adr (DL.kwdAt ("round_of", none) "off"))]⟩
def d_look_beats : He.DefD := ⟨("look_beats", none), "look_beats", "look_beats", defArgs s_look_beats, defBody s_look_beats, defScope s_look_beats, [], []⟩
def d_Track_spot : He.DefD := ⟨("Track", some "spot"), "spot", "Track.spot", defArgs s_Track_spot, defBody s_Track_spot, defScope s_Track_spot, [], []⟩
def d_state_at : He.DefD := ⟨("state_at", none), "state_at", "state_at", defArgs s_state_at, defBody s_state_at, defScope s_state_at, [], [("off", .adr (DL.kwdAt ("state_at", none) "off"))]⟩
def d_quiet_from : He.DefD := ⟨("quiet_from", none), "quiet_from", "quiet_from", defArgs s_quiet_from, defBody s_quiet_from, defScope s_quiet_from, [], [("off", .adr (DL.kwdAt ("quiet_from", none) "off"))]⟩
def d_look_rule : He.DefD := ⟨("look_rule", none), "look_rule", "look_rule", defArgs s_look_rule, defBody s_look_rule, defScope s_look_rule, [], []⟩
def d_Track_often : He.DefD := ⟨("Track", some "often"), "often", "Track.often", defArgs s_Track_often, defBody s_Track_often, defScope s_Track_often, [], []⟩
def d_times : He.DefD := ⟨("times", none), "times", "times", defArgs s_times, defBody s_times, defScope s_times, [], [("off", .adr (DL.kwdAt ("times", none) "off"))]⟩
def d_nth : He.DefD := ⟨("nth", none), "nth", "nth", defArgs s_nth, defBody s_nth, defScope s_nth, [.int 1], [("off", .adr (DL.kwdAt ("nth", none) "off"))]⟩
def d_look_order : He.DefD := ⟨("look_order", none), "look_order", "look_order", defArgs s_look_order, defBody s_look_order, defScope s_look_order, [], []⟩
def d_beat : He.DefD := ⟨("beat", none), "beat", "beat", defArgs s_beat, defBody s_beat, defScope s_beat, [], [("order", .non), ("off", .adr (DL.kwdAt ("beat", none) "off"))]⟩
def d__law_stands : He.DefD := ⟨("_law_stands", none), "_law_stands", "_law_stands", defArgs s__law_stands, defBody s__law_stands, defScope s__law_stands, [], []⟩
def d__law_shown : He.DefD := ⟨("_law_shown", none), "_law_shown", "_law_shown", defArgs s__law_shown, defBody s__law_shown, defScope s__law_shown, [], []⟩
def d_law : He.DefD := ⟨("law", none), "law", "law", defArgs s_law, defBody s_law, defScope s_law, [], []⟩
def fn : List He.DefD := [d__law_bag, d__law_take, d__law_wheels, d__law_condition, d__law_change, d__law_rule, d__law_rules, d__law_drawn, d_is_row, d_how_many, d_is_whole, d_is_from, d_are_wheels, d_are_rising, d_is_hush, d_are_hushes, d_are_rules_numbers, d_is_worded, d_is_placed, d_is_condition, d_is_rule, d_look_book, d_Book___init__, d__law_wish, d__law_off, d_is_wish, d_look_wish, d_look_off, d_all_rows, d_beginnings, d_Track_in_round, d_Track_quiet, d_Track_turns, d_is_broken, d_own_order, d_ended, d_is_so, d_would_do, d_change, d_hush_and_wake, d_beat_of, d_Track___init__, d_are_values, d_begun, d_breaks_by, d_least_break, d_holds, d_is_state, d_look_state, d_track_of, d_round_of, d_look_beats, d_Track_spot, d_state_at, d_quiet_from, d_look_rule, d_Track_often, d_times, d_nth, d_look_order, d_beat, d__law_stands, d__law_shown, d_law]
def fa : List He.Fa := [.free "len", .free "abs", .free "range", .free "tuple", .free "isinstance", .free "bool", .free "int", .free "all", .free "zip", .free "str", .free "any", .free "enumerate", .free "max", .free "list", .free "divmod", .free "sorted", .free "min", .int "MOST_WHEELS" 3, .int "MOST_BEGINNINGS" 24, .int "MOST_PLACES" 4, .int "LEAST_PLACES" 2, .int "MOST_HUSHED" 3, .glo "RULED", .glo "PLACED", .int "PARTS" 4, .int "MOST_CONDITIONS" 4, .glo "CHANGES", .int "MOST_CHANGES" 3, .int "MOST_RULES" 5, .str "DOES" "does", .str "NEVER" "never", .str "AT" "at", .str "QUIET" "quiet", .int "MOST_BEATS" 1000000000000000000000000000000000000000000000000000000000000, .cls "Book", .cls "Track", .noat "Book" "wheels", .noat "Book" "rules", .noat "Track" "deeds", .noat "Track" "begin", .noat "Track" "states", .noat "Track" "length", .glo "_law_bag", .glo "_law_take", .glo "_law_wheels", .glo "_law_condition", .glo "_law_change", .glo "_law_rule", .glo "_law_rules", .glo "_law_drawn", .glo "is_row", .glo "how_many", .glo "is_whole", .glo "is_from", .glo "are_wheels", .glo "are_rising", .glo "is_hush", .glo "are_hushes", .glo "are_rules_numbers", .glo "is_worded", .glo "is_placed", .glo "is_condition", .glo "is_rule", .glo "look_book", .glo "Book", .mkr "Book", .glo "_law_wish", .glo "_law_off", .glo "is_wish", .glo "look_wish", .glo "look_off", .glo "all_rows", .glo "beginnings", .meth "Track" "in_round", .meth "Track" "quiet", .meth "Track" "turns", .glo "is_broken", .glo "own_order", .glo "ended", .glo "is_so", .glo "would_do", .glo "change", .glo "hush_and_wake", .glo "beat_of", .glo "Track", .mkr "Track", .glo "are_values", .glo "begun", .glo "breaks_by", .glo "least_break", .glo "holds", .glo "is_state", .glo "look_state", .glo "track_of", .glo "round_of", .glo "look_beats", .meth "Track" "spot", .glo "state_at", .glo "quiet_from", .glo "look_rule", .meth "Track" "often", .glo "times", .glo "nth", .glo "look_order", .glo "beat", .glo "_law_stands", .glo "_law_shown", .glo "law"]
def ex (K : PySem.W.Frag) : Bool := He.tupB K "RULED" ((["hushed", "awake"] : List Str).map He.Dv.str) && (He.tupB K "PLACED" ((["is", "not", "below"] : List Str).map He.Dv.str) && (He.tupB K "CHANGES" ((["put", "turn"] : List Str).map He.Dv.str)))
/-- THE PLAIN LAW -/
def Plain : Prop := ∀ ns : List Int, ns.length ≤ 63 → ∃ S, f_law [.lst (ns.map W.int)] [] = .ok (.bl true) S
theorem facts (hp : Plain) {P : Program} {w : World} {K : PySem.W.Frag} {h : Heap} {mg : Str → Option Value} {f : Addr} (X : K.In h) (G : h.Ns mainGlobals mg) (hfa : mg ("law" : Str) = some (.ref f)) (c : He.SaysD fa fn K) (hex : ex K = true) :
    ∃ fd : FuncData, (∀ (s : Shared) (v : Value), BindsTo s fd ⟨[v], []⟩ [("_law_script", v)]) ∧ ∀ base : Heap, K.In base → base.Ns mainGlobals mg → FnOk P w K mg base (L2.CX P w) 9 f fd ["_law_script"] (spLaw K) := by
  obtain ⟨e0, r0⟩ := He.ba hex
  obtain ⟨e1, r1⟩ := He.ba r0
  have e2 := r1
  obtain ⟨fd__law_bag, F__law_bag⟩ := c.def_ 0 (d := d__law_bag) rfl
  obtain ⟨fd__law_take, F__law_take⟩ := c.def_ 1 (d := d__law_take) rfl
  obtain ⟨fd__law_wheels, F__law_wheels⟩ := c.def_ 2 (d := d__law_wheels) rfl
  obtain ⟨fd__law_condition, F__law_condition⟩ := c.def_ 3 (d := d__law_condition) rfl
  obtain ⟨fd__law_change, F__law_change⟩ := c.def_ 4 (d := d__law_change) rfl
  obtain ⟨fd__law_rule, F__law_rule⟩ := c.def_ 5 (d := d__law_rule) rfl
  obtain ⟨fd__law_rules, F__law_rules⟩ := c.def_ 6 (d := d__law_rules) rfl
  obtain ⟨fd__law_drawn, F__law_drawn⟩ := c.def_ 7 (d := d__law_drawn) rfl
  obtain ⟨fd_is_row, F_is_row⟩ := c.def_ 8 (d := d_is_row) rfl
  obtain ⟨fd_how_many, F_how_many⟩ := c.def_ 9 (d := d_how_many) rfl
  obtain ⟨fd_is_whole, F_is_whole⟩ := c.def_ 10 (d := d_is_whole) rfl
  obtain ⟨fd_is_from, F_is_from⟩ := c.def_ 11 (d := d_is_from) rfl
  obtain ⟨fd_are_wheels, F_are_wheels⟩ := c.def_ 12 (d := d_are_wheels) rfl
  obtain ⟨fd_are_rising, F_are_rising⟩ := c.def_ 13 (d := d_are_rising) rfl
  obtain ⟨fd_is_hush, F_is_hush⟩ := c.def_ 14 (d := d_is_hush) rfl
  obtain ⟨fd_are_hushes, F_are_hushes⟩ := c.def_ 15 (d := d_are_hushes) rfl
  obtain ⟨fd_are_rules_numbers, F_are_rules_numbers⟩ := c.def_ 16 (d := d_are_rules_numbers) rfl
  obtain ⟨fd_is_worded, F_is_worded⟩ := c.def_ 17 (d := d_is_worded) rfl
  obtain ⟨fd_is_placed, F_is_placed⟩ := c.def_ 18 (d := d_is_placed) rfl
  obtain ⟨fd_is_condition, F_is_condition⟩ := c.def_ 19 (d := d_is_condition) rfl
  obtain ⟨fd_is_rule, F_is_rule⟩ := c.def_ 20 (d := d_is_rule) rfl
  obtain ⟨fd_look_book, F_look_book⟩ := c.def_ 21 (d := d_look_book) rfl
  obtain ⟨fd_Book___init__, F_Book___init__⟩ := c.def_ 22 (d := d_Book___init__) rfl
  obtain ⟨fd__law_wish, F__law_wish⟩ := c.def_ 23 (d := d__law_wish) rfl
  obtain ⟨fd__law_off, F__law_off⟩ := c.def_ 24 (d := d__law_off) rfl
  obtain ⟨fd_is_wish, F_is_wish⟩ := c.def_ 25 (d := d_is_wish) rfl
  obtain ⟨fd_look_wish, F_look_wish⟩ := c.def_ 26 (d := d_look_wish) rfl
  obtain ⟨fd_look_off, F_look_off⟩ := c.def_ 27 (d := d_look_off) rfl
  obtain ⟨fd_all_rows, F_all_rows⟩ := c.def_ 28 (d := d_all_rows) rfl
  obtain ⟨fd_beginnings, F_beginnings⟩ := c.def_ 29 (d := d_beginnings) rfl
  obtain ⟨fd_Track_in_round, F_Track_in_round⟩ := c.def_ 30 (d := d_Track_in_round) rfl
  obtain ⟨fd_Track_quiet, F_Track_quiet⟩ := c.def_ 31 (d := d_Track_quiet) rfl
  obtain ⟨fd_Track_turns, F_Track_turns⟩ := c.def_ 32 (d := d_Track_turns) rfl
  obtain ⟨fd_is_broken, F_is_broken⟩ := c.def_ 33 (d := d_is_broken) rfl
  obtain ⟨fd_own_order, F_own_order⟩ := c.def_ 34 (d := d_own_order) rfl
  obtain ⟨fd_ended, F_ended⟩ := c.def_ 35 (d := d_ended) rfl
  obtain ⟨fd_is_so, F_is_so⟩ := c.def_ 36 (d := d_is_so) rfl
  obtain ⟨fd_would_do, F_would_do⟩ := c.def_ 37 (d := d_would_do) rfl
  obtain ⟨fd_change, F_change⟩ := c.def_ 38 (d := d_change) rfl
  obtain ⟨fd_hush_and_wake, F_hush_and_wake⟩ := c.def_ 39 (d := d_hush_and_wake) rfl
  obtain ⟨fd_beat_of, F_beat_of⟩ := c.def_ 40 (d := d_beat_of) rfl
  obtain ⟨fd_Track___init__, F_Track___init__⟩ := c.def_ 41 (d := d_Track___init__) rfl
  obtain ⟨fd_are_values, F_are_values⟩ := c.def_ 42 (d := d_are_values) rfl
  obtain ⟨fd_begun, F_begun⟩ := c.def_ 43 (d := d_begun) rfl
  obtain ⟨fd_breaks_by, F_breaks_by⟩ := c.def_ 44 (d := d_breaks_by) rfl
  obtain ⟨fd_least_break, F_least_break⟩ := c.def_ 45 (d := d_least_break) rfl
  obtain ⟨fd_holds, F_holds⟩ := c.def_ 46 (d := d_holds) rfl
  obtain ⟨fd_is_state, F_is_state⟩ := c.def_ 47 (d := d_is_state) rfl
  obtain ⟨fd_look_state, F_look_state⟩ := c.def_ 48 (d := d_look_state) rfl
  obtain ⟨fd_track_of, F_track_of⟩ := c.def_ 49 (d := d_track_of) rfl
  obtain ⟨fd_round_of, F_round_of⟩ := c.def_ 50 (d := d_round_of) rfl
  obtain ⟨fd_look_beats, F_look_beats⟩ := c.def_ 51 (d := d_look_beats) rfl
  obtain ⟨fd_Track_spot, F_Track_spot⟩ := c.def_ 52 (d := d_Track_spot) rfl
  obtain ⟨fd_state_at, F_state_at⟩ := c.def_ 53 (d := d_state_at) rfl
  obtain ⟨fd_quiet_from, F_quiet_from⟩ := c.def_ 54 (d := d_quiet_from) rfl
  obtain ⟨fd_look_rule, F_look_rule⟩ := c.def_ 55 (d := d_look_rule) rfl
  obtain ⟨fd_Track_often, F_Track_often⟩ := c.def_ 56 (d := d_Track_often) rfl
  obtain ⟨fd_times, F_times⟩ := c.def_ 57 (d := d_times) rfl
  obtain ⟨fd_nth, F_nth⟩ := c.def_ 58 (d := d_nth) rfl
  obtain ⟨fd_look_order, F_look_order⟩ := c.def_ 59 (d := d_look_order) rfl
  obtain ⟨fd_beat, F_beat⟩ := c.def_ 60 (d := d_beat) rfl
  obtain ⟨fd__law_stands, F__law_stands⟩ := c.def_ 61 (d := d__law_stands) rfl
  obtain ⟨fd__law_shown, F__law_shown⟩ := c.def_ 62 (d := d__law_shown) rfl
  obtain ⟨fd_law, F_law⟩ := c.def_ 63 (d := d_law) rfl
  have GG : Glo K mg := ⟨He.free_ok X G (c.fact 0 (f := .free "len") rfl), He.free_ok X G (c.fact 1 (f := .free "abs") rfl), He.free_ok X G (c.fact 2 (f := .free "range") rfl), He.free_ok X G (c.fact 3 (f := .free "tuple") rfl), He.free_ok X G (c.fact 4 (f := .free "isinstance") rfl), He.free_ok X G (c.fact 5 (f := .free "bool") rfl), He.free_ok X G (c.fact 6 (f := .free "int") rfl), He.free_ok X G (c.fact 7 (f := .free "all") rfl), He.free_ok X G (c.fact 8 (f := .free "zip") rfl), He.free_ok X G (c.fact 9 (f := .free "str") rfl), He.free_ok X G (c.fact 10 (f := .free "any") rfl), He.free_ok X G (c.fact 11 (f := .free "enumerate") rfl), He.free_ok X G (c.fact 12 (f := .free "max") rfl), He.free_ok X G (c.fact 13 (f := .free "list") rfl), He.free_ok X G (c.fact 14 (f := .free "divmod") rfl), He.free_ok X G (c.fact 15 (f := .free "sorted") rfl), He.free_ok X G (c.fact 16 (f := .free "min") rfl), fun _ _ => gloW_int (He.int_ok X G (c.fact 17 (f := .int "MOST_WHEELS" 3) rfl)), fun _ _ => gloW_int (He.int_ok X G (c.fact 18 (f := .int "MOST_BEGINNINGS" 24) rfl)), fun _ _ => gloW_int (He.int_ok X G (c.fact 19 (f := .int "MOST_PLACES" 4) rfl)), fun _ _ => gloW_int (He.int_ok X G (c.fact 20 (f := .int "LEAST_PLACES" 2) rfl)), fun _ _ => gloW_int (He.int_ok X G (c.fact 21 (f := .int "MOST_HUSHED" 3) rfl)), fun _ _ => gloW_strs (xs := ["hushed", "awake"]) (He.glo_ok X G (c.fact 22 (f := .glo "RULED") rfl)) e0, fun _ _ => gloW_strs (xs := ["is", "not", "below"]) (He.glo_ok X G (c.fact 23 (f := .glo "PLACED") rfl)) e1, fun _ _ => gloW_int (He.int_ok X G (c.fact 24 (f := .int "PARTS" 4) rfl)), fun _ _ => gloW_int (He.int_ok X G (c.fact 25 (f := .int "MOST_CONDITIONS" 4) rfl)), fun _ _ => gloW_strs (xs := ["put", "turn"]) (He.glo_ok X G (c.fact 26 (f := .glo "CHANGES") rfl)) e2, fun _ _ => gloW_int (He.int_ok X G (c.fact 27 (f := .int "MOST_CHANGES" 3) rfl)), fun _ _ => gloW_int (He.int_ok X G (c.fact 28 (f := .int "MOST_RULES" 5) rfl)), fun _ _ => gloW_str (He.str_ok X G (c.fact 29 (f := .str "DOES" "does") rfl)), fun _ _ => gloW_str (He.str_ok X G (c.fact 30 (f := .str "NEVER" "never") rfl)), fun _ _ => gloW_str (He.str_ok X G (c.fact 31 (f := .str "AT" "at") rfl)), fun _ _ => gloW_str (He.str_ok X G (c.fact 32 (f := .str "QUIET" "quiet") rfl)), fun _ _ => gloW_int (He.int_ok X G (c.fact 33 (f := .int "MOST_BEATS" 1000000000000000000000000000000000000000000000000000000000000) rfl)), He.cls_ok (c.fact 34 (f := .cls "Book") rfl), He.cls_ok (c.fact 35 (f := .cls "Track") rfl), He.noat_ok (c.fact 36 (f := .noat "Book" "wheels") rfl), He.noat_ok (c.fact 37 (f := .noat "Book" "rules") rfl), He.noat_ok (c.fact 38 (f := .noat "Track" "deeds") rfl), He.noat_ok (c.fact 39 (f := .noat "Track" "begin") rfl), He.noat_ok (c.fact 40 (f := .noat "Track" "states") rfl), He.noat_ok (c.fact 41 (f := .noat "Track" "length") rfl)⟩
  have e := hfa.symm.trans (He.glo_ok X G (c.fact 107 (f := .glo "law") rfl))
  cases e
  have b := FunD.bindsA (ps := ["_law_script"]) F_law fun _ _ _ _ _ _ us hl => match us, hl with | [_], _ => rfl
  refine ⟨fd_law, fun s v => b s [v] rfl, fun base _ _ => ?_⟩
  have o__law_bag := ok__law_bag (P := P) (w := w) (base := base) GG  F__law_bag
  have h__law_bag : CallF (tab P w K) P w K mg base 1 "_law_bag" f__law_bag := callF_mk F__law_bag (He.glo_ok X G (c.fact 42 (f := .glo "_law_bag") rfl)) o__law_bag (fnW_takes _ _ _) (F__law_bag.bindsN (ps := ["_law_script", "_law_at"]) (fun _ _ _ _ _ _ us hl => match us, hl with | [_, _], _ => rfl))
  have o__law_take := ok__law_take (P := P) (w := w) (base := base) GG  F__law_take
  have h__law_take : CallF (tab P w K) P w K mg base 1 "_law_take" f__law_take := callF_mk F__law_take (He.glo_ok X G (c.fact 43 (f := .glo "_law_take") rfl)) o__law_take (fnW_takes _ _ _) (F__law_take.bindsN (ps := ["_law_bag_here", "_law_many"]) (fun _ _ _ _ _ _ us hl => match us, hl with | [_, _], _ => rfl))
  have o__law_wheels := ok__law_wheels (P := P) (w := w) (base := base) GG h__law_take F__law_wheels
  have h__law_wheels : CallF (tab P w K) P w K mg base 2 "_law_wheels" f__law_wheels := callF_mk F__law_wheels (He.glo_ok X G (c.fact 44 (f := .glo "_law_wheels") rfl)) o__law_wheels (fnW_takes _ _ _) (F__law_wheels.bindsN (ps := ["_law_bag_here"]) (fun _ _ _ _ _ _ us hl => match us, hl with | [_], _ => rfl))
  have o__law_condition := ok__law_condition (P := P) (w := w) (base := base) GG h__law_take F__law_condition
  have h__law_condition : CallF (tab P w K) P w K mg base 2 "_law_condition" f__law_condition := callF_mk F__law_condition (He.glo_ok X G (c.fact 45 (f := .glo "_law_condition") rfl)) o__law_condition (fnW_takes _ _ _) (F__law_condition.bindsN (ps := ["_law_bag_here", "_law_wheels_here", "_law_many"]) (fun _ _ _ _ _ _ us hl => match us, hl with | [_, _, _], _ => rfl))
  have o__law_change := ok__law_change (P := P) (w := w) (base := base) GG h__law_take F__law_change
  have h__law_change : CallF (tab P w K) P w K mg base 2 "_law_change" f__law_change := callF_mk F__law_change (He.glo_ok X G (c.fact 46 (f := .glo "_law_change") rfl)) o__law_change (fnW_takes _ _ _) (F__law_change.bindsN (ps := ["_law_bag_here", "_law_wheels_here"]) (fun _ _ _ _ _ _ us hl => match us, hl with | [_, _], _ => rfl))
  have o__law_rule := ok__law_rule (P := P) (w := w) (base := base) GG h__law_take h__law_condition h__law_change F__law_rule
  have h__law_rule : CallF (tab P w K) P w K mg base 3 "_law_rule" f__law_rule := callF_mk F__law_rule (He.glo_ok X G (c.fact 47 (f := .glo "_law_rule") rfl)) o__law_rule (fnW_takes _ _ _) (F__law_rule.bindsN (ps := ["_law_bag_here", "_law_wheels_here", "_law_many"]) (fun _ _ _ _ _ _ us hl => match us, hl with | [_, _, _], _ => rfl))
  have o__law_rules := ok__law_rules (P := P) (w := w) (base := base) GG h__law_rule F__law_rules
  have h__law_rules : CallF (tab P w K) P w K mg base 4 "_law_rules" f__law_rules := callF_mk F__law_rules (He.glo_ok X G (c.fact 48 (f := .glo "_law_rules") rfl)) o__law_rules (fnW_takes _ _ _) (F__law_rules.bindsN (ps := ["_law_bag_here", "_law_wheels_here", "_law_many"]) (fun _ _ _ _ _ _ us hl => match us, hl with | [_, _, _], _ => rfl))
  have o__law_drawn := ok__law_drawn (P := P) (w := w) (base := base) GG h__law_wheels h__law_rules h__law_take F__law_drawn
  have h__law_drawn : CallF (tab P w K) P w K mg base 5 "_law_drawn" f__law_drawn := callF_mk F__law_drawn (He.glo_ok X G (c.fact 49 (f := .glo "_law_drawn") rfl)) o__law_drawn (fnW_takes _ _ _) (F__law_drawn.bindsN (ps := ["_law_bag_here"]) (fun _ _ _ _ _ _ us hl => match us, hl with | [_], _ => rfl))
  have o_is_row := ok_is_row (P := P) (w := w) (base := base) GG  F_is_row
  have h_is_row : CallF (tab P w K) P w K mg base 1 "is_row" f_is_row := callF_mk F_is_row (He.glo_ok X G (c.fact 50 (f := .glo "is_row") rfl)) o_is_row (fnW_takes _ _ _) (F_is_row.bindsN (ps := ["thing", "most"]) (fun _ _ _ _ _ _ us hl => match us, hl with | [_, _], _ => rfl))
  have o_how_many := ok_how_many (P := P) (w := w) (base := base) GG  F_how_many
  have h_how_many : CallF (tab P w K) P w K mg base 1 "how_many" f_how_many := callF_mk F_how_many (He.glo_ok X G (c.fact 51 (f := .glo "how_many") rfl)) o_how_many (fnW_takes _ _ _) (F_how_many.bindsN (ps := ["wheels"]) (fun _ _ _ _ _ _ us hl => match us, hl with | [_], _ => rfl))
  have o_is_whole := ok_is_whole (P := P) (w := w) (base := base) GG  F_is_whole
  have h_is_whole : CallF (tab P w K) P w K mg base 1 "is_whole" f_is_whole := callF_mk F_is_whole (He.glo_ok X G (c.fact 52 (f := .glo "is_whole") rfl)) o_is_whole (fnW_takes _ _ _) (F_is_whole.bindsN (ps := ["thing"]) (fun _ _ _ _ _ _ us hl => match us, hl with | [_], _ => rfl))
  have o_is_from := ok_is_from (P := P) (w := w) (base := base) GG h_is_whole F_is_from
  have h_is_from : CallF (tab P w K) P w K mg base 2 "is_from" f_is_from := callF_mk F_is_from (He.glo_ok X G (c.fact 53 (f := .glo "is_from") rfl)) o_is_from (fnW_takes _ _ _) (F_is_from.bindsN (ps := ["thing", "least", "below"]) (fun _ _ _ _ _ _ us hl => match us, hl with | [_, _, _], _ => rfl))
  have o_are_wheels := ok_are_wheels (P := P) (w := w) (base := base) GG h_is_row h_how_many h_is_from F_are_wheels
  have h_are_wheels : CallF (tab P w K) P w K mg base 3 "are_wheels" f_are_wheels := callF_mk F_are_wheels (He.glo_ok X G (c.fact 54 (f := .glo "are_wheels") rfl)) o_are_wheels (fnW_takes _ _ _) (F_are_wheels.bindsN (ps := ["thing"]) (fun _ _ _ _ _ _ us hl => match us, hl with | [_], _ => rfl))
  have o_are_rising := ok_are_rising (P := P) (w := w) (base := base) GG  F_are_rising
  have h_are_rising : CallF (tab P w K) P w K mg base 1 "are_rising" f_are_rising := callF_mk F_are_rising (He.glo_ok X G (c.fact 55 (f := .glo "are_rising") rfl)) o_are_rising (fnW_takes _ _ _) (F_are_rising.bindsN (ps := ["numbers"]) (fun _ _ _ _ _ _ us hl => match us, hl with | [_], _ => rfl))
  have o_is_hush := ok_is_hush (P := P) (w := w) (base := base) GG h_is_from F_is_hush
  have h_is_hush : CallF (tab P w K) P w K mg base 3 "is_hush" f_is_hush := callF_mk F_is_hush (He.glo_ok X G (c.fact 56 (f := .glo "is_hush") rfl)) o_is_hush (fnW_takes _ _ _) (F_is_hush.bindsN (ps := ["many", "thing"]) (fun _ _ _ _ _ _ us hl => match us, hl with | [_, _], _ => rfl))
  have o_are_hushes := ok_are_hushes (P := P) (w := w) (base := base) GG h_is_hush h_are_rising F_are_hushes
  have h_are_hushes : CallF (tab P w K) P w K mg base 4 "are_hushes" f_are_hushes := callF_mk F_are_hushes (He.glo_ok X G (c.fact 57 (f := .glo "are_hushes") rfl)) o_are_hushes (fnW_takes _ _ _) (F_are_hushes.bindsN (ps := ["many", "thing"]) (fun _ _ _ _ _ _ us hl => match us, hl with | [_, _], _ => rfl))
  have o_are_rules_numbers := ok_are_rules_numbers (P := P) (w := w) (base := base) GG h_are_rising h_is_from F_are_rules_numbers
  have h_are_rules_numbers : CallF (tab P w K) P w K mg base 3 "are_rules_numbers" f_are_rules_numbers := callF_mk F_are_rules_numbers (He.glo_ok X G (c.fact 58 (f := .glo "are_rules_numbers") rfl)) o_are_rules_numbers (fnW_takes _ _ _) (F_are_rules_numbers.bindsN (ps := ["thing", "many"]) (fun _ _ _ _ _ _ us hl => match us, hl with | [_, _], _ => rfl))
  have o_is_worded := ok_is_worded (P := P) (w := w) (base := base) GG  F_is_worded
  have h_is_worded : CallF (tab P w K) P w K mg base 1 "is_worded" f_is_worded := callF_mk F_is_worded (He.glo_ok X G (c.fact 59 (f := .glo "is_worded") rfl)) o_is_worded (fnW_takes _ _ _) (F_is_worded.bindsN (ps := ["thing", "words", "many"]) (fun _ _ _ _ _ _ us hl => match us, hl with | [_, _, _], _ => rfl))
  have o_is_placed := ok_is_placed (P := P) (w := w) (base := base) GG h_is_worded h_is_from F_is_placed
  have h_is_placed : CallF (tab P w K) P w K mg base 3 "is_placed" f_is_placed := callF_mk F_is_placed (He.glo_ok X G (c.fact 60 (f := .glo "is_placed") rfl)) o_is_placed (fnW_takes _ _ _) (F_is_placed.bindsN (ps := ["wheels", "thing", "words"]) (fun _ _ _ _ _ _ us hl => match us, hl with | [_, _, _], _ => rfl))
  have o_is_condition := ok_is_condition (P := P) (w := w) (base := base) GG h_is_worded h_is_from h_is_placed F_is_condition
  have h_is_condition : CallF (tab P w K) P w K mg base 4 "is_condition" f_is_condition := callF_mk F_is_condition (He.glo_ok X G (c.fact 61 (f := .glo "is_condition") rfl)) o_is_condition (fnW_takes _ _ _) (F_is_condition.bindsN (ps := ["wheels", "many", "thing"]) (fun _ _ _ _ _ _ us hl => match us, hl with | [_, _, _], _ => rfl))
  have o_is_rule := ok_is_rule (P := P) (w := w) (base := base) GG h_is_condition h_is_row h_is_placed h_are_rules_numbers h_are_hushes F_is_rule
  have h_is_rule : CallF (tab P w K) P w K mg base 5 "is_rule" f_is_rule := callF_mk F_is_rule (He.glo_ok X G (c.fact 62 (f := .glo "is_rule") rfl)) o_is_rule (fnW_takes _ _ _) (F_is_rule.bindsN (ps := ["wheels", "many", "thing"]) (fun _ _ _ _ _ _ us hl => match us, hl with | [_, _, _], _ => rfl))
  have o_look_book := ok_look_book (P := P) (w := w) (base := base) GG h_is_row h_are_wheels h_is_rule F_look_book
  have h_look_book : CallF (tab P w K) P w K mg base 6 "look_book" f_look_book := callF_mk F_look_book (He.glo_ok X G (c.fact 63 (f := .glo "look_book") rfl)) o_look_book (fnW_takes _ _ _) (F_look_book.bindsN (ps := ["wheels", "rules"]) (fun _ _ _ _ _ _ us hl => match us, hl with | [_, _], _ => rfl))
  have o_Book___init__ := ok_Book___init__ (P := P) (w := w) (base := base) GG h_look_book F_Book___init__
  have h_new_Book : MakeF (tab P w K) P w K mg base 7 "Book" 0 f_Book___init__ := makeF_mk (He.glo_ok X G (c.fact 64 (f := .glo "Book") rfl)) (He.mkr_ok (c.fact 65 (f := .mkr "Book") rfl)) o_Book___init__ (fnW_takes _ _ _) (binds_full (pn := ["self", "wheels", "rules"]) F_Book___init__ 3 (by simp [He.DefD.dvs, d_Book___init__]) rfl (fun _ _ _ _ _ _ _ us its hl hi => match us, hl, its, hi with | [_, _, _], _, [_], _ => ⟨_, rfl, rfl⟩))
  have o__law_wish := ok__law_wish (P := P) (w := w) (base := base) GG h__law_take F__law_wish
  have h__law_wish : CallF (tab P w K) P w K mg base 2 "_law_wish" f__law_wish := callF_mk F__law_wish (He.glo_ok X G (c.fact 66 (f := .glo "_law_wish") rfl)) o__law_wish (fnW_takes _ _ _) (F__law_wish.bindsN (ps := ["_law_bag_here", "_law_wheels_here", "_law_many"]) (fun _ _ _ _ _ _ us hl => match us, hl with | [_, _, _], _ => rfl))
  have o__law_off := ok__law_off (P := P) (w := w) (base := base) GG h__law_take F__law_off
  have h__law_off : CallF (tab P w K) P w K mg base 2 "_law_off" f__law_off := callF_mk F__law_off (He.glo_ok X G (c.fact 67 (f := .glo "_law_off") rfl)) o__law_off (fnW_takes _ _ _) (F__law_off.bindsN (ps := ["_law_bag_here", "_law_many"]) (fun _ _ _ _ _ _ us hl => match us, hl with | [_, _], _ => rfl))
  have o_is_wish := ok_is_wish (P := P) (w := w) (base := base) GG h_is_from F_is_wish
  have h_is_wish : CallF (tab P w K) P w K mg base 3 "is_wish" f_is_wish := callF_mk F_is_wish (He.glo_ok X G (c.fact 68 (f := .glo "is_wish") rfl)) o_is_wish (fnW_takes _ _ _) (F_is_wish.bindsN (ps := ["book", "thing"]) (fun _ _ _ _ _ _ us hl => match us, hl with | [_, _], _ => rfl))
  have o_look_wish := ok_look_wish (P := P) (w := w) (base := base) GG h_is_wish F_look_wish
  have h_look_wish : CallF (tab P w K) P w K mg base 4 "look_wish" f_look_wish := callF_mk F_look_wish (He.glo_ok X G (c.fact 69 (f := .glo "look_wish") rfl)) o_look_wish (fnW_takes _ _ _) (F_look_wish.bindsN (ps := ["book", "thing"]) (fun _ _ _ _ _ _ us hl => match us, hl with | [_, _], _ => rfl))
  have o_look_off := ok_look_off (P := P) (w := w) (base := base) GG h_are_rules_numbers F_look_off
  have h_look_off : CallF (tab P w K) P w K mg base 4 "look_off" f_look_off := callF_mk F_look_off (He.glo_ok X G (c.fact 70 (f := .glo "look_off") rfl)) o_look_off (fnW_takes _ _ _) (F_look_off.bindsN (ps := ["book", "off"]) (fun _ _ _ _ _ _ us hl => match us, hl with | [_, _], _ => rfl))
  have o_all_rows := ok_all_rows (P := P) (w := w) (base := base) GG  F_all_rows
  have h_all_rows : CallF (tab P w K) P w K mg base 1 "all_rows" f_all_rows := callF_mk F_all_rows (He.glo_ok X G (c.fact 71 (f := .glo "all_rows") rfl)) o_all_rows (fnW_takes _ _ _) (F_all_rows.bindsN (ps := ["sizes"]) (fun _ _ _ _ _ _ us hl => match us, hl with | [_], _ => rfl))
  have o_beginnings := ok_beginnings (P := P) (w := w) (base := base) GG h_all_rows F_beginnings
  have h_beginnings : CallF (tab P w K) P w K mg base 2 "beginnings" f_beginnings := callF_mk F_beginnings (He.glo_ok X G (c.fact 72 (f := .glo "beginnings") rfl)) o_beginnings (fnW_takes _ _ _) (F_beginnings.bindsN (ps := ["book"]) (fun _ _ _ _ _ _ us hl => match us, hl with | [_], _ => rfl))
  have o_Track_in_round := ok_Track_in_round (P := P) (w := w) (base := base) GG  F_Track_in_round
  have h_m_Track_in_round : MethF (tab P w K) P w K mg base 1 1 "in_round" f_Track_in_round := methF_mk (He.cls_ok (c.fact 35 (f := .cls "Track") rfl)) (He.meth_ok (c.fact 73 (f := .meth "Track" "in_round") rfl)) (by show _ ∉ flds; decide +kernel) o_Track_in_round (fnW_takes _ _ _) (F_Track_in_round.bindsN (ps := ["self"]) (fun _ _ _ _ _ _ us hl => match us, hl with | [_], _ => rfl))
  have o_Track_quiet := ok_Track_quiet (P := P) (w := w) (base := base) GG h_m_Track_in_round F_Track_quiet
  have h_m_Track_quiet : MethF (tab P w K) P w K mg base 2 1 "quiet" f_Track_quiet := methF_mk (He.cls_ok (c.fact 35 (f := .cls "Track") rfl)) (He.meth_ok (c.fact 74 (f := .meth "Track" "quiet") rfl)) (by show _ ∉ flds; decide +kernel) o_Track_quiet (fnW_takes _ _ _) (F_Track_quiet.bindsN (ps := ["self"]) (fun _ _ _ _ _ _ us hl => match us, hl with | [_], _ => rfl))
  have o_Track_turns := ok_Track_turns (P := P) (w := w) (base := base) GG  F_Track_turns
  have h_m_Track_turns : MethF (tab P w K) P w K mg base 1 1 "turns" f_Track_turns := methF_mk (He.cls_ok (c.fact 35 (f := .cls "Track") rfl)) (He.meth_ok (c.fact 75 (f := .meth "Track" "turns") rfl)) (by show _ ∉ flds; decide +kernel) o_Track_turns (fnW_takes _ _ _) (F_Track_turns.bindsN (ps := ["self", "rule"]) (fun _ _ _ _ _ _ us hl => match us, hl with | [_, _], _ => rfl))
  have o_is_broken := ok_is_broken (P := P) (w := w) (base := base) GG h_m_Track_quiet h_m_Track_turns F_is_broken
  have h_is_broken : CallF (tab P w K) P w K mg base 3 "is_broken" f_is_broken := callF_mk F_is_broken (He.glo_ok X G (c.fact 76 (f := .glo "is_broken") rfl)) o_is_broken (fnW_takes _ _ _) (F_is_broken.bindsN (ps := ["track", "wish"]) (fun _ _ _ _ _ _ us hl => match us, hl with | [_, _], _ => rfl))
  have o_own_order := ok_own_order (P := P) (w := w) (base := base) GG  F_own_order
  have h_own_order : CallF (tab P w K) P w K mg base 1 "own_order" f_own_order := callF_mk F_own_order (He.glo_ok X G (c.fact 77 (f := .glo "own_order") rfl)) o_own_order (fnW_takes _ _ _) (F_own_order.bindsN (ps := ["book"]) (fun _ _ _ _ _ _ us hl => match us, hl with | [_], _ => rfl))
  have o_ended := ok_ended (P := P) (w := w) (base := base) GG  F_ended
  have h_ended : CallF (tab P w K) P w K mg base 1 "ended" f_ended := callF_mk F_ended (He.glo_ok X G (c.fact 78 (f := .glo "ended") rfl)) o_ended (fnW_takes _ _ _) (F_ended.bindsN (ps := ["state"]) (fun _ _ _ _ _ _ us hl => match us, hl with | [_], _ => rfl))
  have o_is_so := ok_is_so (P := P) (w := w) (base := base) GG  F_is_so
  have h_is_so : CallF (tab P w K) P w K mg base 1 "is_so" f_is_so := callF_mk F_is_so (He.glo_ok X G (c.fact 79 (f := .glo "is_so") rfl)) o_is_so (fnW_takes _ _ _) (F_is_so.bindsN (ps := ["condition", "values", "hushes"]) (fun _ _ _ _ _ _ us hl => match us, hl with | [_, _, _], _ => rfl))
  have o_would_do := ok_would_do (P := P) (w := w) (base := base) GG h_is_so F_would_do
  have h_would_do : CallF (tab P w K) P w K mg base 2 "would_do" f_would_do := callF_mk F_would_do (He.glo_ok X G (c.fact 80 (f := .glo "would_do") rfl)) o_would_do (fnW_takes _ _ _) (F_would_do.bindsN (ps := ["book", "rule", "values", "hushes"]) (fun _ _ _ _ _ _ us hl => match us, hl with | [_, _, _, _], _ => rfl))
  have o_change := ok_change (P := P) (w := w) (base := base) GG  F_change
  have h_change : CallF (tab P w K) P w K mg base 1 "change" f_change := callF_mk F_change (He.glo_ok X G (c.fact 81 (f := .glo "change") rfl)) o_change (fnW_takes _ _ _) (F_change.bindsN (ps := ["book", "rule", "values"]) (fun _ _ _ _ _ _ us hl => match us, hl with | [_, _, _], _ => rfl))
  have o_hush_and_wake := ok_hush_and_wake (P := P) (w := w) (base := base) GG  F_hush_and_wake
  have h_hush_and_wake : CallF (tab P w K) P w K mg base 1 "hush_and_wake" f_hush_and_wake := callF_mk F_hush_and_wake (He.glo_ok X G (c.fact 82 (f := .glo "hush_and_wake") rfl)) o_hush_and_wake (fnW_takes _ _ _) (F_hush_and_wake.bindsN (ps := ["book", "rule", "hushes"]) (fun _ _ _ _ _ _ us hl => match us, hl with | [_, _, _], _ => rfl))
  have o_beat_of := ok_beat_of (P := P) (w := w) (base := base) GG h_would_do h_change h_hush_and_wake h_ended F_beat_of
  have h_beat_of : CallF (tab P w K) P w K mg base 3 "beat_of" f_beat_of := callF_mk F_beat_of (He.glo_ok X G (c.fact 83 (f := .glo "beat_of") rfl)) o_beat_of (fnW_takes _ _ _) (F_beat_of.bindsN (ps := ["book", "state", "order", "off"]) (fun _ _ _ _ _ _ us hl => match us, hl with | [_, _, _, _], _ => rfl))
  have o_Track___init__ := ok_Track___init__ (P := P) (w := w) (base := base) GG h_own_order h_beat_of F_Track___init__
  have h_new_Track : MakeF (tab P w K) P w K mg base 4 "Track" 1 f_Track___init__ := makeF_mk (He.glo_ok X G (c.fact 84 (f := .glo "Track") rfl)) (He.mkr_ok (c.fact 85 (f := .mkr "Track") rfl)) o_Track___init__ (fnW_takes _ _ _) (F_Track___init__.bindsN (ps := ["self", "book", "state", "off"]) (fun _ _ _ _ _ _ us hl => match us, hl with | [_, _, _, _], _ => rfl))
  have o_are_values := ok_are_values (P := P) (w := w) (base := base) GG h_is_from F_are_values
  have h_are_values : CallF (tab P w K) P w K mg base 3 "are_values" f_are_values := callF_mk F_are_values (He.glo_ok X G (c.fact 86 (f := .glo "are_values") rfl)) o_are_values (fnW_takes _ _ _) (F_are_values.bindsN (ps := ["book", "thing"]) (fun _ _ _ _ _ _ us hl => match us, hl with | [_, _], _ => rfl))
  have o_begun := ok_begun (P := P) (w := w) (base := base) GG h_are_values F_begun
  have h_begun : CallF (tab P w K) P w K mg base 4 "begun" f_begun := callF_mk F_begun (He.glo_ok X G (c.fact 87 (f := .glo "begun") rfl)) o_begun (fnW_takes _ _ _) (F_begun.bindsN (ps := ["book", "values"]) (fun _ _ _ _ _ _ us hl => match us, hl with | [_, _], _ => rfl))
  have o_breaks_by := ok_breaks_by (P := P) (w := w) (base := base) GG h_is_broken h_new_Track h_begun F_breaks_by
  have h_breaks_by : CallF (tab P w K) P w K mg base 6 "breaks_by" f_breaks_by := callF_mk F_breaks_by (He.glo_ok X G (c.fact 88 (f := .glo "breaks_by") rfl)) o_breaks_by (fnW_takes _ _ _) (F_breaks_by.bindsN (ps := ["book", "wish", "off", "values"]) (fun _ _ _ _ _ _ us hl => match us, hl with | [_, _, _, _], _ => rfl))
  have o_least_break := ok_least_break (P := P) (w := w) (base := base) GG h_beginnings h_breaks_by F_least_break
  have h_least_break : CallF (tab P w K) P w K mg base 7 "least_break" f_least_break := callF_mk F_least_break (He.glo_ok X G (c.fact 89 (f := .glo "least_break") rfl)) o_least_break (fnW_takes _ _ _) (F_least_break.bindsN (ps := ["book", "wish", "off"]) (fun _ _ _ _ _ _ us hl => match us, hl with | [_, _, _], _ => rfl))
  have o_holds := ok_holds (P := P) (w := w) (base := base) GG h_look_wish h_look_off h_least_break F_holds
  have F2_holds : FunD K "holds" "holds" (defArgs s_holds) (defBody s_holds) (defScope s_holds) [] [("off", .ref ((DL.kwdAt ("holds", none) "off") K))] (He.fAd K ("holds", none)) fd_holds := F_holds
  obtain ⟨mv_holds_2_off, kb_holds_2_off⟩ := kb_only (pn := ["book", "wish", "off"]) F2_holds 2 ["off"] [] (fun us mv ws => gw_holds_2_off us mv ws) (by simp) (fun q hq => nomatch hq) (fun r1 r2 r3 => Vals.append (r1) (Vals.take 1 (Vals.drop 0 r3))) (fun _ _ _ _ _ _ us mv ws h1 h2 h3 => match us, h1, mv, h2, ws, h3 with | [_, _], _, [], _, [_], _ => rfl)
  have h_holds_2_off : CallK (tab P w K) P w K mg base 8 "holds" 2 ["off"] c_holds_2_off := callK_mk (gW := fun us ws => gw_holds_2_off us [] ws) F2_holds (He.glo_ok X G (c.fact 90 (f := .glo "holds") rfl)) o_holds (fnW_takes _ _ _) kb_holds_2_off (fun F al vs ws zs us r1 r3 => (fun r2 => RwL.append (r1) (RwL.take 1 (RwL.drop 0 r3))) (.nil : RwL (tab P w K) K F al [] []))
  have o_is_state := ok_is_state (P := P) (w := w) (base := base) GG h_are_values h_is_from F_is_state
  have h_is_state : CallF (tab P w K) P w K mg base 4 "is_state" f_is_state := callF_mk F_is_state (He.glo_ok X G (c.fact 91 (f := .glo "is_state") rfl)) o_is_state (fnW_takes _ _ _) (F_is_state.bindsN (ps := ["book", "thing"]) (fun _ _ _ _ _ _ us hl => match us, hl with | [_, _], _ => rfl))
  have o_look_state := ok_look_state (P := P) (w := w) (base := base) GG h_is_state F_look_state
  have h_look_state : CallF (tab P w K) P w K mg base 5 "look_state" f_look_state := callF_mk F_look_state (He.glo_ok X G (c.fact 92 (f := .glo "look_state") rfl)) o_look_state (fnW_takes _ _ _) (F_look_state.bindsN (ps := ["book", "thing"]) (fun _ _ _ _ _ _ us hl => match us, hl with | [_, _], _ => rfl))
  have o_track_of := ok_track_of (P := P) (w := w) (base := base) GG h_look_state h_look_off h_new_Track F_track_of
  have h_track_of : CallF (tab P w K) P w K mg base 6 "track_of" f_track_of := callF_mk F_track_of (He.glo_ok X G (c.fact 93 (f := .glo "track_of") rfl)) o_track_of (fnW_takes _ _ _) (F_track_of.bindsN (ps := ["book", "state", "off"]) (fun _ _ _ _ _ _ us hl => match us, hl with | [_, _, _], _ => rfl))
  have o_round_of := ok_round_of (P := P) (w := w) (base := base) GG h_track_of F_round_of
  have F2_round_of : FunD K "round_of" "round_of" (defArgs s_round_of) (defBody s_round_of) (defScope s_round_of) [] [("off", .ref ((DL.kwdAt ("round_of", none) "off") K))] (He.fAd K ("round_of", none)) fd_round_of := F_round_of
  obtain ⟨mv_round_of_2_off, kb_round_of_2_off⟩ := kb_only (pn := ["book", "state", "off"]) F2_round_of 2 ["off"] [] (fun us mv ws => gw_round_of_2_off us mv ws) (by simp) (fun q hq => nomatch hq) (fun r1 r2 r3 => Vals.append (r1) (Vals.take 1 (Vals.drop 0 r3))) (fun _ _ _ _ _ _ us mv ws h1 h2 h3 => match us, h1, mv, h2, ws, h3 with | [_, _], _, [], _, [_], _ => rfl)
  have h_round_of_2_off : CallK (tab P w K) P w K mg base 7 "round_of" 2 ["off"] c_round_of_2_off := callK_mk (gW := fun us ws => gw_round_of_2_off us [] ws) F2_round_of (He.glo_ok X G (c.fact 94 (f := .glo "round_of") rfl)) o_round_of (fnW_takes _ _ _) kb_round_of_2_off (fun F al vs ws zs us r1 r3 => (fun r2 => RwL.append (r1) (RwL.take 1 (RwL.drop 0 r3))) (.nil : RwL (tab P w K) K F al [] []))
  have o_look_beats := ok_look_beats (P := P) (w := w) (base := base) GG h_is_whole F_look_beats
  have h_look_beats : CallF (tab P w K) P w K mg base 2 "look_beats" f_look_beats := callF_mk F_look_beats (He.glo_ok X G (c.fact 95 (f := .glo "look_beats") rfl)) o_look_beats (fnW_takes _ _ _) (F_look_beats.bindsN (ps := ["beats"]) (fun _ _ _ _ _ _ us hl => match us, hl with | [_], _ => rfl))
  have o_Track_spot := ok_Track_spot (P := P) (w := w) (base := base) GG  F_Track_spot
  have h_m_Track_spot : MethF (tab P w K) P w K mg base 1 1 "spot" f_Track_spot := methF_mk (He.cls_ok (c.fact 35 (f := .cls "Track") rfl)) (He.meth_ok (c.fact 96 (f := .meth "Track" "spot") rfl)) (by show _ ∉ flds; decide +kernel) o_Track_spot (fnW_takes _ _ _) (F_Track_spot.bindsN (ps := ["self", "beats"]) (fun _ _ _ _ _ _ us hl => match us, hl with | [_, _], _ => rfl))
  have o_state_at := ok_state_at (P := P) (w := w) (base := base) GG h_look_state h_look_beats h_track_of h_m_Track_spot F_state_at
  have F2_state_at : FunD K "state_at" "state_at" (defArgs s_state_at) (defBody s_state_at) (defScope s_state_at) [] [("off", .ref ((DL.kwdAt ("state_at", none) "off") K))] (He.fAd K ("state_at", none)) fd_state_at := F_state_at
  obtain ⟨mv_state_at_3_off, kb_state_at_3_off⟩ := kb_only (pn := ["book", "state", "beats", "off"]) F2_state_at 3 ["off"] [] (fun us mv ws => gw_state_at_3_off us mv ws) (by simp) (fun q hq => nomatch hq) (fun r1 r2 r3 => Vals.append (r1) (Vals.take 1 (Vals.drop 0 r3))) (fun _ _ _ _ _ _ us mv ws h1 h2 h3 => match us, h1, mv, h2, ws, h3 with | [_, _, _], _, [], _, [_], _ => rfl)
  have h_state_at_3_off : CallK (tab P w K) P w K mg base 7 "state_at" 3 ["off"] c_state_at_3_off := callK_mk (gW := fun us ws => gw_state_at_3_off us [] ws) F2_state_at (He.glo_ok X G (c.fact 97 (f := .glo "state_at") rfl)) o_state_at (fnW_takes _ _ _) kb_state_at_3_off (fun F al vs ws zs us r1 r3 => (fun r2 => RwL.append (r1) (RwL.take 1 (RwL.drop 0 r3))) (.nil : RwL (tab P w K) K F al [] []))
  have o_quiet_from := ok_quiet_from (P := P) (w := w) (base := base) GG h_m_Track_quiet h_track_of F_quiet_from
  have F2_quiet_from : FunD K "quiet_from" "quiet_from" (defArgs s_quiet_from) (defBody s_quiet_from) (defScope s_quiet_from) [] [("off", .ref ((DL.kwdAt ("quiet_from", none) "off") K))] (He.fAd K ("quiet_from", none)) fd_quiet_from := F_quiet_from
  obtain ⟨mv_quiet_from_2_off, kb_quiet_from_2_off⟩ := kb_only (pn := ["book", "state", "off"]) F2_quiet_from 2 ["off"] [] (fun us mv ws => gw_quiet_from_2_off us mv ws) (by simp) (fun q hq => nomatch hq) (fun r1 r2 r3 => Vals.append (r1) (Vals.take 1 (Vals.drop 0 r3))) (fun _ _ _ _ _ _ us mv ws h1 h2 h3 => match us, h1, mv, h2, ws, h3 with | [_, _], _, [], _, [_], _ => rfl)
  have h_quiet_from_2_off : CallK (tab P w K) P w K mg base 7 "quiet_from" 2 ["off"] c_quiet_from_2_off := callK_mk (gW := fun us ws => gw_quiet_from_2_off us [] ws) F2_quiet_from (He.glo_ok X G (c.fact 98 (f := .glo "quiet_from") rfl)) o_quiet_from (fnW_takes _ _ _) kb_quiet_from_2_off (fun F al vs ws zs us r1 r3 => (fun r2 => RwL.append (r1) (RwL.take 1 (RwL.drop 0 r3))) (.nil : RwL (tab P w K) K F al [] []))
  have o_look_rule := ok_look_rule (P := P) (w := w) (base := base) GG h_is_from F_look_rule
  have h_look_rule : CallF (tab P w K) P w K mg base 3 "look_rule" f_look_rule := callF_mk F_look_rule (He.glo_ok X G (c.fact 99 (f := .glo "look_rule") rfl)) o_look_rule (fnW_takes _ _ _) (F_look_rule.bindsN (ps := ["book", "rule"]) (fun _ _ _ _ _ _ us hl => match us, hl with | [_, _], _ => rfl))
  have o_Track_often := ok_Track_often (P := P) (w := w) (base := base) GG h_m_Track_turns F_Track_often
  have h_m_Track_often : MethF (tab P w K) P w K mg base 2 1 "often" f_Track_often := methF_mk (He.cls_ok (c.fact 35 (f := .cls "Track") rfl)) (He.meth_ok (c.fact 100 (f := .meth "Track" "often") rfl)) (by show _ ∉ flds; decide +kernel) o_Track_often (fnW_takes _ _ _) (F_Track_often.bindsN (ps := ["self", "rule", "beats"]) (fun _ _ _ _ _ _ us hl => match us, hl with | [_, _, _], _ => rfl))
  have o_times := ok_times (P := P) (w := w) (base := base) GG h_look_state h_look_rule h_look_beats h_m_Track_often h_track_of F_times
  have F2_times : FunD K "times" "times" (defArgs s_times) (defBody s_times) (defScope s_times) [] [("off", .ref ((DL.kwdAt ("times", none) "off") K))] (He.fAd K ("times", none)) fd_times := F_times
  obtain ⟨mv_times_4_off, kb_times_4_off⟩ := kb_only (pn := ["book", "state", "rule", "beats", "off"]) F2_times 4 ["off"] [] (fun us mv ws => gw_times_4_off us mv ws) (by simp) (fun q hq => nomatch hq) (fun r1 r2 r3 => Vals.append (r1) (Vals.take 1 (Vals.drop 0 r3))) (fun _ _ _ _ _ _ us mv ws h1 h2 h3 => match us, h1, mv, h2, ws, h3 with | [_, _, _, _], _, [], _, [_], _ => rfl)
  have h_times_4_off : CallK (tab P w K) P w K mg base 7 "times" 4 ["off"] c_times_4_off := callK_mk (gW := fun us ws => gw_times_4_off us [] ws) F2_times (He.glo_ok X G (c.fact 101 (f := .glo "times") rfl)) o_times (fnW_takes _ _ _) kb_times_4_off (fun F al vs ws zs us r1 r3 => (fun r2 => RwL.append (r1) (RwL.take 1 (RwL.drop 0 r3))) (.nil : RwL (tab P w K) K F al [] []))
  have o_nth := ok_nth (P := P) (w := w) (base := base) GG h_look_state h_look_rule h_look_beats h_track_of h_m_Track_turns F_nth
  have F2_nth : FunD K "nth" "nth" (defArgs s_nth) (defBody s_nth) (defScope s_nth) [.int 1] [("off", .ref ((DL.kwdAt ("nth", none) "off") K))] (He.fAd K ("nth", none)) fd_nth := F_nth
  obtain ⟨dv_nth_3_off, mv_nth_3_off, kb_nth_3_off⟩ := kb_both (pn := ["book", "state", "rule", "many", "off"]) F2_nth 3 0 ["off"] [] (fun us dv mv ws => gw_nth_3_off us dv mv ws) (by simp) (by simp) (fun q hq => nomatch hq) (fun r1 rd r2 r3 => Vals.append (Vals.append r1 rd) (Vals.take 1 (Vals.drop 0 r3))) (fun _ _ _ _ _ _ _ us its mv ws h1 h4 h2 h3 => match us, h1, its, h4, mv, h2, ws, h3 with | [_, _, _], _, [_], _, [], _, [_], _ => ⟨_, rfl, rfl⟩)
  have h_nth_3_off : CallK (tab P w K) P w K mg base 7 "nth" 3 ["off"] c_nth_3_off := callK_mk (gW := fun us ws => gw_nth_3_off us [.int 1] [] ws) F2_nth (He.glo_ok X G (c.fact 102 (f := .glo "nth") rfl)) o_nth (fnW_takes _ _ _) kb_nth_3_off (fun F al vs ws zs us r1 r3 => (fun rd r2 => RwL.append (RwL.append r1 rd) (RwL.take 1 (RwL.drop 0 r3))) (.cons (.int 1) (.nil) : RwL (tab P w K) K F al [.int 1] [.int 1]) (.nil : RwL (tab P w K) K F al [] []))
  have o_look_order := ok_look_order (P := P) (w := w) (base := base) GG h_is_from h_own_order F_look_order
  have h_look_order : CallF (tab P w K) P w K mg base 3 "look_order" f_look_order := callF_mk F_look_order (He.glo_ok X G (c.fact 103 (f := .glo "look_order") rfl)) o_look_order (fnW_takes _ _ _) (F_look_order.bindsN (ps := ["book", "order"]) (fun _ _ _ _ _ _ us hl => match us, hl with | [_, _], _ => rfl))
  have o_beat := ok_beat (P := P) (w := w) (base := base) GG h_look_state h_own_order h_look_order h_look_off h_beat_of F_beat
  have F2_beat : FunD K "beat" "beat" (defArgs s_beat) (defBody s_beat) (defScope s_beat) [] [("order", .non), ("off", .ref ((DL.kwdAt ("beat", none) "off") K))] (He.fAd K ("beat", none)) fd_beat := F_beat
  obtain ⟨mv_beat_2_off, kb_beat_2_off⟩ := kb_only (pn := ["book", "state", "order", "off"]) F2_beat 2 ["off"] [("order", .non)] (fun us mv ws => gw_beat_2_off us mv ws) (by simp) (fun q hq => by
        rcases List.mem_cons.mp hq with rfl | hq
        · exact List.mem_cons_self ..
        · cases hq) (fun r1 r2 r3 => Vals.append (Vals.append (r1) (Vals.take 1 (Vals.drop 0 r2))) (Vals.take 1 (Vals.drop 0 r3))) (fun _ _ _ _ _ _ us mv ws h1 h2 h3 => match us, h1, mv, h2, ws, h3 with | [_, _], _, [_], _, [_], _ => ⟨_, _, _, _, _, _, rfl, rfl, rfl⟩)
  have h_beat_2_off : CallK (tab P w K) P w K mg base 6 "beat" 2 ["off"] c_beat_2_off := callK_mk (gW := fun us ws => gw_beat_2_off us [.non] ws) F2_beat (He.glo_ok X G (c.fact 104 (f := .glo "beat") rfl)) o_beat (fnW_takes _ _ _) kb_beat_2_off (fun F al vs ws zs us r1 r3 => (fun r2 => RwL.append (RwL.append (r1) (RwL.take 1 (RwL.drop 0 r2))) (RwL.take 1 (RwL.drop 0 r3))) (.cons .non (.nil) : RwL (tab P w K) K F al [.non] [.non]))
  have o__law_stands := ok__law_stands (P := P) (w := w) (base := base) GG h_beat_2_off F__law_stands
  have h__law_stands : CallF (tab P w K) P w K mg base 7 "_law_stands" f__law_stands := callF_mk F__law_stands (He.glo_ok X G (c.fact 105 (f := .glo "_law_stands") rfl)) o__law_stands (fnW_takes _ _ _) (F__law_stands.bindsN (ps := ["_law_ledger", "_law_state", "_law_idle", "_law_length", "_law_wish_here"]) (fun _ _ _ _ _ _ us hl => match us, hl with | [_, _, _, _, _], _ => rfl))
  have o__law_shown := ok__law_shown (P := P) (w := w) (base := base) GG h_beginnings h_begun h_round_of_2_off h_quiet_from_2_off h_times_4_off h_nth_3_off h_state_at_3_off h__law_stands F__law_shown
  have h__law_shown : CallF (tab P w K) P w K mg base 8 "_law_shown" f__law_shown := callF_mk F__law_shown (He.glo_ok X G (c.fact 106 (f := .glo "_law_shown") rfl)) o__law_shown (fnW_takes _ _ _) (F__law_shown.bindsN (ps := ["_law_ledger", "_law_wish_here", "_law_idle", "_law_far"]) (fun _ _ _ _ _ _ us hl => match us, hl with | [_, _, _, _], _ => rfl))
  have o_law := ok_law (P := P) (w := w) (base := base) GG h__law_bag h__law_drawn h_new_Book h__law_off h__law_wish h__law_take h_holds_2_off h__law_shown F_law
  exact law_end o_law hp
def loose0 : List Str := ["__name__", "HushError", "NoBook", "NoState", "NoOrder", "NoOff", "NoWish", "NoRule", "NoBeat", "NOTHING", "part_text", "words_of", "rule_text", "book_text", "MOST_WHEELS", "LEAST_PLACES", "MOST_PLACES", "MOST_BEGINNINGS", "MOST_RULES", "MOST_CONDITIONS", "MOST_CHANGES", "MOST_HUSHED", "PARTS", "PLACED", "RULED", "CHANGES", "is_whole", "is_from", "is_row", "are_rising"]
def loose1 : List Str := ["how_many", "are_wheels", "is_worded", "is_placed", "is_condition", "are_rules_numbers", "is_hush", "are_hushes", "is_rule", "look_book", "Book", "all_rows", "beginnings", "are_values", "is_state", "look_state", "begun", "look_rule", "look_off", "own_order", "look_order", "is_so", "would_do", "change", "hush_and_wake", "ended", "beat_of", "beat", "MOST_BEATS", "Track"]
def loose2 : List Str := ["look_beats", "track_of", "state_at", "round_of", "quiet_from", "times", "nth", "QUIET", "NEVER", "DOES", "AT", "is_wish", "look_wish", "is_broken", "breaks_by", "least_break", "holds", "_law_bag", "_law_take", "_law_wheels", "_law_condition", "_law_change", "_law_rule", "_law_rules", "_law_drawn", "_law_off", "_law_wish", "_law_stands", "_law_shown"]
def loose : List Str := loose0 ++ loose1 ++ loose2
abbrev Ro : PySem.W.OpenRow := PySem.W.OpenLaw.row PySem.Challenge.rw_hushrules_k35_whole_wishes_by_far_beats
abbrev hk : PySem.W.Hook := hookM 5 fa fn ex
def ob (s : PySem.W.SharedT) : He.AlD × Bool := obsM 5 fa fn ex (HandSHeadRun.getT s)
theorem ob_eq (s : PySem.W.SharedT) : ob s = hk.obs s.abs := obsM_eq (HandSHeadRun.getT_eq s)
open PySem.W PySem.Calls PyProof.Rows HandSHeadRun in
theorem run_a (w : World) (os : OsState) : (endF (stepQ (denQ tabQ) Ro.prog w) 6000 Ro.prog w os).map (fun s => looksF Ro.prog (boot_heap w.params) s.abs) = some true := by kernel_rfl
open PySem.W PySem.Calls PyProof.Rows HandSHeadRun in
theorem run_b (w : World) (os : OsState) : (endF (stepQ (denQ tabQ) Ro.prog w) 6000 Ro.prog w os).map (fun s => seenQ (view Ro.prog [95]) loose (importedModules Ro.prog.main.body) (fun s => xlAt (view Ro.prog [95]) [] s && recOk Ro.toRowW.records s) s.abs) = some (openGood (view Ro.prog [95]) loose) := by kernel_rfl
open PySem.W PySem.Calls PyProof.Rows HandSHeadRun in
theorem run_c (w : World) (os : OsState) : (endF (stepQ (denQ tabQ) Ro.prog w) 6000 Ro.prog w os).map ob = some (hk.val w) := by kernel_rfl
theorem map3 {α β γ δ : Type} {R : Option α} {f : α → β} {g : α → γ} {h : α → δ} {a : β} {b : γ} {c : δ} (h1 : R.map f = some a) (h2 : R.map g = some b) (h3 : R.map h = some c) : R.map (fun s => (f s, g s, h s)) = some (a, b, c) := by
  cases R with
  | none => cases h1
  | some s =>
    have e1 : f s = a := Option.some.inj h1
    have e2 : g s = b := Option.some.inj h2
    have e3 : h s = c := Option.some.inj h3
    rw [← e1, ← e2, ← e3]; rfl
theorem run (w : World) : HandSHeadRun.RunEq Ro (PySem.W.view Ro.prog [95]) hk ob 6000 loose w := by
  intro os
  have a := run_a w os
  have b := run_b w os
  have c := run_c w os
  exact map3 a b c
end K35
open PySem PySem.W PySem.Calls PyProof.Rows in
theorem PySem.Challenge.held_hushrules_k35_whole_wishes_by_far_beats (hp : K35.Plain) : PySem.Challenge.rw_hushrules_k35_whole_wishes_by_far_beats.Holds := by
  w_on; o_law
  refine HandSHeadRun.head_any (r := OpenLaw.row PySem.Challenge.rw_hushrules_k35_whole_wishes_by_far_beats) (q := view (OpenLaw.row PySem.Challenge.rw_hushrules_k35_whole_wishes_by_far_beats).prog [95]) (H := K35.hk) (ob := K35.ob) (M := 6000) (loose := K35.loose) (d := HandSHeadRun.topDef (OpenLaw.row PySem.Challenge.rw_hushrules_k35_whole_wishes_by_far_beats).prog 95) (kwd := []) K35.ob_eq
    (by kernel_rfl) (fun s => by kernel_rfl) K35.run (by kernel_rfl) (by kernel_rfl) (by kernel_rfl) (by rfl) (by first | assumption | decide +kernel) (by decide +kernel) ⟨rfl, rfl, rfl, rfl, rfl, by decide +kernel⟩ ?hw ?hc
  case hw => w_witness2
  case hc =>
    refine DL.walk_end (l := PySem.Challenge.rw_hushrules_k35_whole_wishes_by_far_beats) (n := 63) (k := 9) (x := "_law_script") (CX := L2.CX (PySem.Challenge.rw_hushrules_k35_whole_wishes_by_far_beats).prog) rfl (by decide) (by kernel_rfl) ⟨rfl, by decide, by decide⟩ ?F (fun w => DL.noX)
    intro w mg fa h Y G hmg0
    obtain ⟨K, KX, c, hex⟩ := Y
    have hmg : mg ("law" : PySem.Str) = some (.ref fa) := by
      have e : (HandSHeadRun.topDef (OpenLaw.row PySem.Challenge.rw_hushrules_k35_whole_wishes_by_far_beats).prog 95).name = ("law" : PySem.Str) := by kernel_rfl
      rw [← e]
      exact hmg0
    obtain ⟨fd, hb, hF⟩ := K35.facts hp (P := (PySem.Challenge.rw_hushrules_k35_whole_wishes_by_far_beats).prog) (w := w) KX G hmg c hex
    exact ⟨K, fd, DL.spLaw K, KX, hb, fun H a ns hl _ hS => ⟨a, ns, rfl, hS, hl, fun _ => rfl⟩, hF⟩

set_option Elab.async false
set_option linter.all false
set_option maxRecDepth 100000
set_option maxHeartbeats 4000000
/-! S0: the data functions' pieces, opened step by step. -/
namespace DL
open PySem
section
variable (ρ : Env) (S : Sto) (a b c l h : Me) (ms : Ml) (p q r : Mb) (s t u : Ms) (w : W) (x y z : W)
@[simp] theorem o_var (i : Nat) : mVar i ρ S = match ρ[i]? with
  | some (some w) => .ok w S
  | _ => .bad := (rfl)
@[simp] theorem o_con : mCon w ρ S = .ok w S := (rfl)
@[simp] theorem o_nil : mNil ρ S = .ok [] S := (rfl)
@[simp] theorem o_cons : mCons a ms ρ S = (a ρ S).bindL fun w S => (ms ρ S).bindL fun ws S => .ok (w :: ws) S := (rfl)
@[simp] theorem o_tup : mTup ms ρ S = (ms ρ S).bind fun ws S => if ws.length ≤ limit then .ok (.tup ws) S else .bad := (rfl)
@[simp] theorem o_lst : mLst ms ρ S = (ms ρ S).bind fun ws S => if ws.length ≤ limit then .ok (.lst ws) S else .bad := (rfl)
@[simp] theorem o_nlst : mNLst ms ρ S = (ms ρ S).bind fun ws S => if ws.length ≤ limit then .ok (.loc S.length) (S ++ [.lst ws]) else .bad := (rfl)
@[simp] theorem o_bin (o : Operator) : mBin o a b ρ S = (a ρ S).bind fun x S => (b ρ S).bind fun y S => optR S (binop o (deref S x) (deref S y)) := (rfl)
@[simp] theorem o_neg : mNeg a ρ S = (a ρ S).bind fun x S => optR S (negW x) := (rfl)
@[simp] theorem o_not : mNot a ρ S = (a ρ S).bind fun x S => optR S ((truthy (deref S x)).map fun k => .bl (!k)) := (rfl)
@[simp] theorem o_and : mAnd a b ρ S = (a ρ S).bind fun x S => match truthy (deref S x) with
  | some true => b ρ S
  | some false => .ok x S
  | none => .bad := (rfl)
@[simp] theorem o_or : mOr a b ρ S = (a ρ S).bind fun x S => match truthy (deref S x) with
  | some true => .ok x S
  | some false => b ρ S
  | none => .bad := (rfl)
@[simp] theorem o_cmp (o : CmpOp) : mCmp o a b ρ S = (a ρ S).bind fun x S => (b ρ S).bind fun y S => optR S ((cmpop o (deref S x) (deref S y)).map .bl) := (rfl)
@[simp] theorem o_chain (o o' : CmpOp) : mChain o o' a b c ρ S = (a ρ S).bind fun x S => (b ρ S).bind fun y S => match cmpop o (deref S x) (deref S y) with
  | some true => (c ρ S).bind fun z S => optR S ((cmpop o' (deref S y) (deref S z)).map .bl)
  | some false => .ok (.bl false) S
  | none => .bad := (rfl)
@[simp] theorem o_idx : mIdx a b ρ S = (a ρ S).bind fun x S => (b ρ S).bind fun y S => optR S (getIx (deref S x) y) := (rfl)
@[simp] theorem o_part : mPart a ρ S = (a ρ S).bind fun x S => match x with
  | .int i => .ok (.int i) S
  | _ => .bad := (rfl)
@[simp] theorem o_slc : mSlc a l h ρ S = (a ρ S).bind fun x S => (l ρ S).bind fun l S => match partW l with
  | none => .bad
  | some l => (h ρ S).bind fun h S => match partW h with
    | none => .bad
    | some u => optR S (getSl (deref S x) l u) := (rfl)
@[simp] theorem o_fld (k f : Nat) : mFld k f a ρ S = (a ρ S).bind fun x S => optR S (getFld S k f x) := (rfl)
@[simp] theorem o_prim (p : Prim) : mPrim p ms ρ S = (ms ρ S).bind fun ws S => optR S (DL.prim p (ws.map (deref S))) := (rfl)
@[simp] theorem o_nlist : mNlist a ρ S = (a ρ S).bind fun x S => match items (deref S x) with
  | some ws => .ok (.loc S.length) (S ++ [.lst ws])
  | none => .bad := (rfl)
@[simp] theorem o_isi (t : Ty) : mIsi t a ρ S = (a ρ S).bind fun x S => optR S ((isTy t (deref S x)).map .bl) := (rfl)
@[simp] theorem o_frz : mFrz a ρ S = (a ρ S).bind freezeR := (rfl)
@[simp] theorem o_app : mApp a b ρ S = (a ρ S).bind fun x S => if isCell S x then (b ρ S).bind fun y S => appR x y S else .bad := (rfl)
@[simp] theorem o_ifx : mIfx p a b ρ S = (p ρ S).bind fun k S => if k then a ρ S else b ρ S := (rfl)
@[simp] theorem o_yes : bYes ρ S = .ok true S := (rfl)
@[simp] theorem o_btest : bTest a ρ S = (a ρ S).bindB truthyR := (rfl)
@[simp] theorem o_truthyR : truthyR x S = optB S (truthy (deref S x)) := (rfl)
@[simp] theorem o_band : bAnd p q ρ S = (p ρ S).bindB fun k S => if k then q ρ S else .ok false S := (rfl)
@[simp] theorem o_bor : bOr p q ρ S = (p ρ S).bindB fun k S => if k then .ok true S else q ρ S := (rfl)
@[simp] theorem o_bnot : bNot p ρ S = (p ρ S).bindB fun k S => .ok (!k) S := (rfl)
@[simp] theorem o_bifx : bIfx p q r ρ S = (p ρ S).bindB fun k S => if k then q ρ S else r ρ S := (rfl)
@[simp] theorem o_call (ψ : Fn) : mCall ψ ms ρ S = (ms ρ S).bind ψ := (rfl)
@[simp] theorem o_callP (ψ : Fn) : mCallP ψ ms ρ S = (ms ρ S).bind fun ws S => if nlL (ws.map (derefF S)) then pureR (ψ (ws.map (derefF S)) []) S else .bad := (rfl)
@[simp] theorem o_callV (ψ : Fn) : mCallV ψ ms ρ S = (ms ρ S).bind fun ws S => if nlL (ws.map (deref S)) then pureV (ψ (ws.map (deref S)) []) S else .bad := (rfl)
@[simp] theorem o_callKP (ψ : List W → List W → Sto → Res) (n m : Nat) (ks : Ml) : mCallKP ψ n m ms ks ρ S = (ms ρ S).bind fun ws S => (ks ρ S).bind fun us S => if ws.length = n ∧ us.length = m ∧ nlL (ws.map (derefF S)) = true ∧ nlL (us.map (derefF S)) = true then pureR (ψ (ws.map (derefF S)) (us.map (derefF S)) []) S else .bad := (rfl)
@[simp] theorem o_make (k : Nat) (ψ : Fn) : mMake k ψ ms ρ S = (ms ρ S).bind fun ws S => if nlL (ws.map (derefF S)) then makeR k ψ (ws.map (derefF S)) S else .bad := (rfl)
@[simp] theorem o_makeZ (k : Nat) (ψ : Fn) : mMakeZ k ψ ms ρ S = (ms ρ S).bind fun ws S => if nlL (ws.map (derefF S)) then makeZR k ψ (ws.map (derefF S)) S else .bad := (rfl)
@[simp] theorem o_meth (k : Nat) (ψ : Fn) : mMeth k ψ a ms ρ S = (a ρ S).bind fun x S => if isIns k x && x.nl then (ms ρ S).bind fun ws S => if nlL (ws.map (derefF S)) then pureR (ψ (x :: ws.map (derefF S)) []) S else .bad else .bad := (rfl)
@[simp] theorem o_dnew : mDNew ρ S = .ok (.loc S.length) (S ++ [.dic []]) := (rfl)
@[simp] theorem o_mdin (n : Bool) : mDIn n a b ρ S = (a ρ S).bind fun x S => (b ρ S).bind fun y S => optR S ((dinR n x y S).map .bl) := (rfl)
@[simp] theorem o_bdin (n : Bool) : bDIn n a b ρ S = (a ρ S).bindB fun x S => (b ρ S).bindB fun y S => optB S (dinR n x y S) := (rfl)
@[simp] theorem o_dget : mDGet a b ρ S = (a ρ S).bind fun x S => (b ρ S).bind fun y S => optR S (dgetR x y S) := (rfl)
@[simp] theorem o_lc (mt : Bool) (vs : List Nat) (tg : Tg) (it : Ml) : mLc mt vs tg it p a ρ S = (it ρ S).bind fun xs S => if xs.length ≤ limit then
    (compM (lcStep ρ vs tg p a) xs [] S).bind fun ys S => if mt then newCellR (.lst ys) S else .ok (.lst ys) S
  else .bad := (rfl)
@[simp] theorem o_jE : jE a ρ S = (a ρ S).bindL fun x S => optL S (items x) := (rfl)
@[simp] theorem o_range1 : jRange1 a ρ S = (a ρ S).bindL fun x S => match x with
  | .int j => if -(2 ^ 62) ≤ j ∧ j < 2 ^ 62 then .ok (rangeW 0 j.toNat) S else .bad
  | _ => .bad := (rfl)
@[simp] theorem o_range2 : jRange2 a b ρ S = (a ρ S).bindL fun x S => (b ρ S).bindL fun y S => match x, y with
  | .int i, .int j => if (-(2 ^ 62) ≤ i ∧ i < 2 ^ 62) ∧ -(2 ^ 62) ≤ j ∧ j < 2 ^ 62 then .ok (rangeW i (j - i).toNat) S else .bad
  | _, _ => .bad := (rfl)
@[simp] theorem o_enum (k : Int) : jEnum k a ρ S = (a ρ S).bindL fun x S => optL S ((items x).map (jEnum.enumI k)) := (rfl)
@[simp] theorem o_zip : jZip a b ρ S = (a ρ S).bindL fun x S => (b ρ S).bindL fun y S => match x, y with
  | .tup xs, .tup ys => .ok (zipW xs ys) S
  | .lst xs, .lst ys => .ok (zipW xs ys) S
  | _, _ => .bad := (rfl)
@[simp] theorem o_zips : jZips a b ρ S = (a ρ S).bindL fun x S => (b ρ S).bindL fun y S => match items x, items y with
  | some xs, some ys => if xs.length = ys.length then .ok (zipW xs ys) S else .bad
  | _, _ => .bad := (rfl)
theorem rg1_ok {k : List W → Sto → Res} {a : Me} {ρ : Env} {S S' : Sto} {j : Int} (h : a ρ S = .ok (.int j) S') (hr : rgOk 0 j = true) : mRg1 k a ρ S = k (rgR 0 j) S' := by
  unfold mRg1
  rw [h]
  exact if_pos hr
@[simp] theorem o_seq : sSeq s t ρ S = (s ρ S).seq t := (rfl)
@[simp] theorem o_next : sNext ρ S = .nx ρ S := (rfl)
@[simp] theorem o_break : sBreak ρ S = .bk ρ S := (rfl)
@[simp] theorem o_cont : sCont ρ S = .ct ρ S := (rfl)
@[simp] theorem o_never : sNever ρ S = .bad := (rfl)
@[simp] theorem o_expr : sExpr a ρ S = (a ρ S).toS ρ fun _ S => .nx ρ S := (rfl)
@[simp] theorem o_ret : sRet a ρ S = (a ρ S).toS ρ fun w S => .ret w S := (rfl)
@[simp] theorem o_retN : sRetN ρ S = .ret .non S := (rfl)
@[simp] theorem o_if : sIf p s t ρ S = (p ρ S).toS ρ fun k S => if k then s ρ S else t ρ S := (rfl)
@[simp] theorem o_asg (tg : Tg) : sAsg tg a ρ S = (a ρ S).toS ρ fun w S => Fl.ofO S (bindTg tg w ρ) := (rfl)
@[simp] theorem o_par (is : List Nat) : sPar is ms ρ S = (ms ρ S).toS ρ fun ws S => Fl.ofO S (setAll is ws ρ) := (rfl)
@[simp] theorem o_aug (o : Operator) (i : Nat) : sAug o i a ρ S = match ρ[i]? with
  | some (some x) => (a ρ S).toS ρ fun y S => match augW o x y with
    | some z => .nx (ρ.set i (some z)) S
    | none => .bad
  | _ => .bad := (rfl)
@[simp] theorem o_setIx : sSetIx a b c ρ S = (c ρ S).toS ρ fun v S => (a ρ S).toS ρ fun x S => (b ρ S).toS ρ fun i S => match setIxR x i v S with
  | some S => .nx ρ S
  | none => .bad := (rfl)
@[simp] theorem o_setFld (k f : Nat) : sSetFld k f a b ρ S = (b ρ S).toS ρ fun v S => (a ρ S).toS ρ fun x S => match setFldR k f x v S with
  | some S => .nx ρ S
  | none => .bad := (rfl)
@[simp] theorem o_dput : sDPut a b c ρ S = (c ρ S).toS ρ fun v S => (a ρ S).toS ρ fun x S => (b ρ S).toS ρ fun i S => match dputR x i v S with
  | some S => .nx ρ S
  | none => .bad := (rfl)
@[simp] theorem o_for (it : Ml) (tg : Tg) : sFor it tg s ρ S = (it ρ S).toS ρ fun xs S => forM tg s xs ρ S := (rfl)
@[simp] theorem o_fn (n N : Nat) (ws : List W) : fnW n N s ws S = if ws.length = n then (s (startW N ws) S).toR else .bad := (rfl)
end
section
variable (S : Sto) (w x : W) (ws : List W) (f : W → Sto → Res) (f2 : W → Sto → LRes) (f3 : W → Sto → BRes) (f4 : List W → Sto → Res) (f5 : List W → Sto → LRes) (f6 : Bool → Sto → Res) (f7 : Bool → Sto → BRes) (f8 : W → Sto → Fl) (f9 : List W → Sto → Fl) (f10 : Bool → Sto → Fl) (k : Bool) (ρ : Env) (s : Ms)
@[simp] theorem r_bind : (Res.ok w S).bind f = f w S := (rfl)
@[simp] theorem r_bindL : (Res.ok w S).bindL f2 = f2 w S := (rfl)
@[simp] theorem r_bindB : (Res.ok w S).bindB f3 = f3 w S := (rfl)
@[simp] theorem l_bind : (LRes.ok ws S).bind f4 = f4 ws S := (rfl)
@[simp] theorem l_bindL : (LRes.ok ws S).bindL f5 = f5 ws S := (rfl)
@[simp] theorem b_bind : (BRes.ok k S).bind f6 = f6 k S := (rfl)
@[simp] theorem b_bindB : (BRes.ok k S).bindB f7 = f7 k S := (rfl)
@[simp] theorem r_toS : (Res.ok w S).toS ρ f8 = f8 w S := (rfl)
@[simp] theorem l_toS : (LRes.ok ws S).toS ρ f9 = f9 ws S := (rfl)
@[simp] theorem b_toS : (BRes.ok k S).toS ρ f10 = f10 k S := (rfl)
@[simp] theorem rb_bind : Res.bad.bind f = .bad := (rfl)
@[simp] theorem rb_bindL : Res.bad.bindL f2 = .bad := (rfl)
@[simp] theorem rb_bindB : Res.bad.bindB f3 = .bad := (rfl)
@[simp] theorem optR_s : optR S (some w) = .ok w S := (rfl)
@[simp] theorem optB_s : optB S (some k) = .ok k S := (rfl)
@[simp] theorem optL_s : optL S (some ws) = .ok ws S := (rfl)
@[simp] theorem ofO_s : Fl.ofO S (some ρ) = .nx ρ S := (rfl)
@[simp] theorem seq_nx : (Fl.nx ρ S).seq s = s ρ S := (rfl)
@[simp] theorem seq_ret : (Fl.ret w S).seq s = .ret w S := (rfl)
@[simp] theorem seq_bk : (Fl.bk ρ S).seq s = .bk ρ S := (rfl)
@[simp] theorem seq_ct : (Fl.ct ρ S).seq s = .ct ρ S := (rfl)
@[simp] theorem toR_nx : (Fl.nx ρ S).toR = .ok .non S := (rfl)
@[simp] theorem toR_ret : (Fl.ret w S).toR = .ok w S := (rfl)
@[simp] theorem for_nil (tg : Tg) : forM tg s [] ρ S = .nx ρ S := (rfl)
theorem for_cons (tg : Tg) : forM tg s (x :: ws) ρ S = match bindTg tg x ρ with
    | none => .bad
    | some ρ => match s ρ S with
      | .nx ρ S => forM tg s ws ρ S
      | .ct ρ S => forM tg s ws ρ S
      | .bk ρ S => .nx ρ S
      | r => r := (rfl)
@[simp] theorem comp_nil (st : W → Sto → LRes) (acc : List W) : compM st [] acc S = .ok acc S := (rfl)
@[simp] theorem b_nm (i : Nat) : bindTg (.nm i) w ρ = some (ρ.set i (some w)) := (rfl)
@[simp] theorem b_tup (is : List Nat) : bindTg (.tup is) (.tup ws) ρ = setAll is ws ρ := (rfl)
@[simp] theorem b_tupl (is : List Nat) : bindTg (.tup is) (.lst ws) ρ = setAll is ws ρ := (rfl)
@[simp] theorem b_star (is : List Nat) (j : Nat) : bindTg (.star is j) (.tup ws) ρ = if is.length ≤ ws.length ∧ ws.length ≤ 16384 then (setAll is (ws.take is.length) ρ).map fun ρ' => ρ'.set j (some (.lst (ws.drop is.length))) else none := (rfl)
@[simp] theorem sa_nil : setAll [] [] ρ = some ρ := (rfl)
@[simp] theorem sa_cons (i : Nat) (is : List Nat) : setAll (i :: is) (w :: ws) ρ = setAll is ws (ρ.set i (some w)) := (rfl)
@[simp] theorem wipe_nil : wipeW ρ [] = ρ := (rfl)
@[simp] theorem wipe_cons (i : Nat) (is : List Nat) : wipeW ρ (i :: is) = (wipeW ρ is).set i none := (rfl)
end
section
variable (S : Sto) (ws xs : List W) (i j : Int) (k : Bool) (x y : Str) (c : Nat) (fs : List (Nat × W))
@[simp] theorem d_non : deref S .non = .non := (rfl)
@[simp] theorem d_bl : deref S (.bl k) = .bl k := (rfl)
@[simp] theorem d_int : deref S (.int i) = .int i := (rfl)
@[simp] theorem d_str : deref S (.str x) = .str x := (rfl)
@[simp] theorem d_tup : deref S (.tup ws) = .tup ws := (rfl)
@[simp] theorem d_lst : deref S (.lst ws) = .lst ws := (rfl)
@[simp] theorem d_ins : deref S (.ins c fs) = .ins c fs := (rfl)
@[simp] theorem d_loc (n : Nat) : deref S (.loc n) = match S[n]? with
  | some (.lst ws) => .lst ws
  | some (.frz w) => w
  | _ => .loc n := (rfl)
@[simp] theorem df_loc (n : Nat) : derefF S (.loc n) = match S[n]? with
  | some (.frz w) => w
  | _ => .loc n := (rfl)
@[simp] theorem df_non : derefF S .non = .non := (rfl)
@[simp] theorem df_bl : derefF S (.bl k) = .bl k := (rfl)
@[simp] theorem df_int : derefF S (.int i) = .int i := (rfl)
@[simp] theorem df_str : derefF S (.str x) = .str x := (rfl)
@[simp] theorem df_tup : derefF S (.tup ws) = .tup ws := (rfl)
@[simp] theorem df_lst : derefF S (.lst ws) = .lst ws := (rfl)
@[simp] theorem df_ins : derefF S (.ins c fs) = .ins c fs := (rfl)
@[simp] theorem i_tup : items (.tup ws) = some ws := (rfl)
@[simp] theorem i_lst : items (.lst ws) = some ws := (rfl)
@[simp] theorem n_nil : nlL [] = true := (rfl)
@[simp] theorem n_cons (w : W) : nlL (w :: ws) = (w.nl && nlL ws) := (rfl)
@[simp] theorem n_non : W.nl .non = true := (rfl)
@[simp] theorem n_bl : W.nl (.bl k) = true := (rfl)
@[simp] theorem n_int : W.nl (.int i) = true := (rfl)
@[simp] theorem n_str : W.nl (.str x) = true := (rfl)
@[simp] theorem n_tup : W.nl (.tup ws) = nlL ws := (rfl)
@[simp] theorem n_lst : W.nl (.lst ws) = nlL ws := (rfl)
@[simp] theorem n_ins : W.nl (.ins c fs) = nlF fs := (rfl)
@[simp] theorem n_fnil : nlF [] = true := (rfl)
@[simp] theorem n_fcons (p : Nat × W) : nlF (p :: fs) = (p.2.nl && nlF fs) := by cases p; rfl
@[simp] theorem n_ints (ns : List Int) : nlL (ns.map W.int) = true := nl_ints ns
@[simp] theorem t_non : truthy .non = some false := (rfl)
@[simp] theorem t_bl : truthy (.bl k) = some k := (rfl)
@[simp] theorem t_int : truthy (.int i) = some (i != 0) := (rfl)
@[simp] theorem t_tup : truthy (.tup ws) = some (!ws.isEmpty) := (rfl)
@[simp] theorem t_lst : truthy (.lst ws) = some (!ws.isEmpty) := (rfl)
@[simp] theorem ge_tup : getIx (.tup ws) (.int i) = L2.atI ws i := (rfl)
@[simp] theorem ge_lst : getIx (.lst ws) (.int i) = L2.atI ws i := (rfl)
@[simp] theorem gs_tup (lo hi : Option Int) : getSl (.tup ws) lo hi = some (.tup (cutW ws lo hi)) := (rfl)
@[simp] theorem gs_lst (lo hi : Option Int) : getSl (.lst ws) lo hi = some (.lst (cutW ws lo hi)) := (rfl)
@[simp] theorem pw_non : partW .non = some none := (rfl)
@[simp] theorem pw_int : partW (.int i) = some (some i) := (rfl)
@[simp] theorem cl_lt : cmpop .Lt (.int i) (.int j) = some (decide (i < j)) := (rfl)
@[simp] theorem cl_le : cmpop .LtE (.int i) (.int j) = some (decide (i ≤ j)) := (rfl)
@[simp] theorem cl_gt : cmpop .Gt (.int i) (.int j) = some (decide (j < i)) := (rfl)
@[simp] theorem cl_ge : cmpop .GtE (.int i) (.int j) = some (decide (j ≤ i)) := (rfl)
@[simp] theorem cl_eq (a b : W) : cmpop .Eq a b = cmpEq a b := (rfl)
@[simp] theorem cl_ne (a b : W) : cmpop .NotEq a b = (cmpEq a b).map (!·) := (rfl)
@[simp] theorem cl_inT (a : W) : cmpop .In a (.tup ws) = memW a ws := (rfl)
@[simp] theorem cl_inL (a : W) : cmpop .In a (.lst ws) = memW a ws := (rfl)
@[simp] theorem cl_ninT (a : W) : cmpop .NotIn a (.tup ws) = (memW a ws).map (!·) := (rfl)
@[simp] theorem cl_ninL (a : W) : cmpop .NotIn a (.lst ws) = (memW a ws).map (!·) := (rfl)
@[simp] theorem ce_int : cmpEq (.int i) (.int j) = some (i == j) := (rfl)
@[simp] theorem ce_bl (m : Bool) : cmpEq (.bl k) (.bl m) = some (k == m) := (rfl)
@[simp] theorem bo_add : binop .Add (.int i) (.int j) = some (.int (i + j)) := (rfl)
@[simp] theorem bo_sub : binop .Sub (.int i) (.int j) = some (.int (i - j)) := (rfl)
@[simp] theorem bo_mod : binop .Mod (.int i) (.int j) = if 0 < j then some (.int (i % j)) else none := (rfl)
@[simp] theorem bo_mul : binop .Mult (.int i) (.int j) = if mulOk i j then some (.int (i * j)) else none := (rfl)
@[simp] theorem bo_div : binop .FloorDiv (.int i) (.int j) = if 0 < j ∧ j < divLim then some (.int (i / j)) else none := (rfl)
@[simp] theorem bo_pow : binop .Pow (.int i) (.int j) = if 0 ≤ j ∧ j ≤ 1000000 ∧ i.natAbs < 2 ^ 64 then some (.int (i ^ j.toNat)) else none := (rfl)
@[simp] theorem p_lenT : DL.prim .len [.tup ws] = some (.int ws.length) := (rfl)
@[simp] theorem p_lenL : DL.prim .len [.lst ws] = some (.int ws.length) := (rfl)
@[simp] theorem p_tupT : DL.prim .tuple [.tup ws] = some (.tup ws) := (rfl)
@[simp] theorem p_tupL : DL.prim .tuple [.lst ws] = some (.tup ws) := (rfl)
@[simp] theorem p_lstT : DL.prim .list [.tup ws] = some (.lst ws) := (rfl)
@[simp] theorem p_lstL : DL.prim .list [.lst ws] = some (.lst ws) := (rfl)
@[simp] theorem p_max : DL.prim .max [.int i, .int j] = some (.int (max i j)) := by
  show some (W.int (if j > i then j else i)) = _
  congr 2; split <;> omega
@[simp] theorem p_min : DL.prim .min [.int i, .int j] = some (.int (min i j)) := by
  show some (W.int (if j < i then j else i)) = _
  congr 2; split <;> omega
@[simp] theorem p_abs : DL.prim .abs [.int i] = some (.int (if i < 0 then -i else i)) := (rfl)
@[simp] theorem p_all : DL.prim .all [.lst ws] = (allB ws).map fun bs => .bl (bs.all id) := (rfl)
@[simp] theorem p_any : DL.prim .any [.lst ws] = (allB ws).map fun bs => .bl (bs.any id) := (rfl)
@[simp] theorem p_int : DL.prim .int [.int i] = some (.int i) := (rfl)
@[simp] theorem p_intb : DL.prim .int [.bl k] = some (.int (if k then 1 else 0)) := (rfl)
@[simp] theorem p_divmod : DL.prim .divmod [.int i, .int j] = if 0 < j ∧ j < 1073741824 then some (.tup [.int (i / j), .int (i % j)]) else none := (rfl)
@[simp] theorem f_ins (d f : Nat) : getFld S d f (.ins c fs) = if c = d then lookF f fs else none := (rfl)
@[simp] theorem f_nil (f : Nat) : lookF f [] = none := (rfl)
@[simp] theorem f_cons (f : Nat) (p : Nat × W) : lookF f (p :: fs) = if f = p.1 then some p.2 else lookF f fs := by cases p; rfl
@[simp] theorem a_nil : allB [] = some [] := (rfl)
@[simp] theorem a_cons : allB (.bl k :: ws) = (allB ws).map (k :: ·) := (rfl)
@[simp] theorem p_ok (w : W) (T : Sto) : pureR (.ok w T) S = if w.nl then .ok w S else .bad := (rfl)
@[simp] theorem v_ok (w : W) (T : Sto) : pureV (.ok w T) S = if w.nol then .ok w S else .bad := (rfl)
@[simp] theorem no_bl : W.nol (.bl k) = true := (rfl)
@[simp] theorem no_int : W.nol (.int i) = true := (rfl)
@[simp] theorem is_int (w : Int) : isTy .int (.int w) = some true := (rfl)
@[simp] theorem is_intb : isTy .int (.bl k) = some true := (rfl)
@[simp] theorem is_bli : isTy .bool (.int i) = some false := (rfl)
@[simp] theorem is_bl : isTy .bool (.bl k) = some true := (rfl)
@[simp] theorem is_str : isTy .str (.str x) = some true := (rfl)
@[simp] theorem is_tup : isTy .tuple (.tup ws) = some true := (rfl)
@[simp] theorem is_lst : isTy .list (.lst ws) = some true := (rfl)
@[simp] theorem is_tupl : isTy .tuple (.lst ws) = some false := (rfl)
end
@[simp] theorem allB_map {α : Type} (f : α → Bool) (l : List α) : allB (l.map fun a => W.bl (f a)) = some (l.map f) := by
  have := allB_bls (l.map f)
  rw [List.map_map] at this
  exact this
theorem for_step {tg : Tg} {s : Ms} {x : W} {ws : List W} {ρ ρ1 ρ2 : Env} {S S2 : Sto} (h1 : bindTg tg x ρ = some ρ1) (h2 : s ρ1 S = .nx ρ2 S2) : forM tg s (x :: ws) ρ S = forM tg s ws ρ2 S2 := by
  rw [forM, h1]
  dsimp only
  rw [h2]
theorem for_ct {tg : Tg} {s : Ms} {x : W} {ws : List W} {ρ ρ1 ρ2 : Env} {S S2 : Sto} (h1 : bindTg tg x ρ = some ρ1) (h2 : s ρ1 S = .ct ρ2 S2) : forM tg s (x :: ws) ρ S = forM tg s ws ρ2 S2 := by
  rw [forM, h1]
  dsimp only
  rw [h2]
theorem seq_step {a b : Ms} {ρ ρ1 : Env} {S S1 : Sto} (h : a ρ S = .nx ρ1 S1) : sSeq a b ρ S = b ρ1 S1 := by
  unfold sSeq
  rw [h]; rfl
/-- a comprehension over data that is told -/
theorem lc_data {α : Type} {l : List α} {e g : α → W} {ρ : Env} {S : Sto} {vs : List Nat} {tg : Tg} {p : Mb} {el : Me} (h : ∀ a ∈ l, lcStep ρ vs tg p el (e a) S = .ok [g a] S) : compM (lcStep ρ vs tg p el) (l.map e) [] S = .ok (l.map g) S := by
  have := compM_map (step := lcStep ρ vs tg p el) (S := S) (xs := l.map e) (f := fun w => match lcStep ρ vs tg p el w S with | .ok [u] _ => u | _ => .non) (acc := []) fun x hx => by
    obtain ⟨a, ha, rfl⟩ := List.mem_map.mp hx
    rw [h a ha]
  rw [this, List.nil_append, List.map_map]
  congr 1
  refine List.map_congr_left fun a ha => ?_
  simp only [Function.comp]
  rw [h a ha]
theorem lc_filter {α : Type} {l : List α} {e : α → W} {g : α → List W} {ρ : Env} {S : Sto} {vs : List Nat} {tg : Tg} {p : Mb} {el : Me} (h : ∀ a ∈ l, lcStep ρ vs tg p el (e a) S = .ok (g a) S) : compM (lcStep ρ vs tg p el) (l.map e) [] S = .ok (l.flatMap g) S := by
  have := compM_filter (step := lcStep ρ vs tg p el) (S := S) (xs := l.map e) (f := fun w => match lcStep ρ vs tg p el w S with | .ok u _ => u | _ => []) (acc := []) fun x hx => by
    obtain ⟨a, ha, rfl⟩ := List.mem_map.mp hx
    rw [h a ha]
  rw [this, List.nil_append]
  congr 1
  clear this
  induction l with
  | nil => rfl
  | cons a l ih =>
    rw [List.map_cons, List.flatMap_cons, List.flatMap_cons, ih fun b hb => h b (List.mem_cons_of_mem _ hb), h a (List.mem_cons_self ..)]
theorem limit_big {n : Nat} (h : n ≤ 10000) : n ≤ limit := by unfold limit; omega
end DL

set_option Elab.async false
set_option linter.all false
set_option maxRecDepth 100000
set_option maxHeartbeats 4000000
/-! S1: books, states, beats as plain things; how they look as data. -/
namespace SP
open DL
open PySem

def gi (xs : List Int) (i : Int) : Int := xs.getD i.toNat 0
def seti (xs : List Int) (i v : Int) : List Int := xs.set i.toNat v
abbrev tpI (ns : List Int) : W := .tup (ns.map W.int)
abbrev lsI (ns : List Int) : W := .lst (ns.map W.int)
/-- i is a place of xs -/
def Ix (n : Nat) (i : Int) : Prop := 0 ≤ i ∧ i < n
theorem gi_at {xs : List Int} {i : Int} (h : Ix xs.length i) : L2.atI (xs.map W.int) i = some (.int (gi xs i)) := by
  obtain ⟨h0, h1⟩ := h
  unfold L2.atI L2.ixN gi
  rw [if_pos h0, List.length_map, if_pos h1]
  show (xs.map W.int)[i.toNat]? = _
  rw [List.getElem?_map, List.getD_eq_getElem?_getD, List.getElem?_eq_getElem (by omega)]
  rfl
theorem at_map {α : Type} {f : α → W} {xs : List α} {d : α} {i : Int} (h : Ix xs.length i) : L2.atI (xs.map f) i = some (f (xs.getD i.toNat d)) := by
  obtain ⟨h0, h1⟩ := h
  unfold L2.atI L2.ixN
  rw [if_pos h0, List.length_map, if_pos h1]
  show (xs.map f)[i.toNat]? = _
  rw [List.getElem?_map, List.getD_eq_getElem?_getD, List.getElem?_eq_getElem (by omega)]
  rfl
inductive PK where
  | is | not | below
  deriving DecidableEq
inductive Cnd where
  | pl (k : PK) (w p : Int) | hu (r : Int) | aw (r : Int)
def PK.s : PK → Str
  | .is => "is" | .not => "not" | .below => "below"
def Cnd.w : Cnd → W
  | .pl k w p => .tup [.str k.s, .int w, .int p]
  | .hu r => .tup [.str "hushed", .int r]
  | .aw r => .tup [.str "awake", .int r]
structure Chg where
  put : Bool
  w : Int
  p : Int
def Chg.wd (c : Chg) : Str := if c.put then "put" else "turn"
def Chg.W (c : Chg) : W := .tup [.str c.wd, .int c.w, .int c.p]
def hw (p : Int × Int) : W := .tup [.int p.1, .int p.2]
structure Rul where
  test : List Cnd
  chg : List Chg
  hus : List (Int × Int)
  wak : List Int
  deriving Inhabited
def Rul.W (r : Rul) : W := .tup [.tup (r.test.map Cnd.w), .tup (r.chg.map Chg.W), .tup (r.hus.map hw), tpI r.wak]
structure Bk where
  wh : List Int
  ru : List Rul
def Bk.W (b : Bk) : W := .ins 0 [(0, tpI b.wh), (1, .tup (b.ru.map Rul.W))]
def Bk.rule (b : Bk) (r : Int) : Rul := b.ru.getD r.toNat default
abbrev Sta := List Int × List Int
def stW (s : Sta) : W := .tup [tpI s.1, tpI s.2]

def Cnd.Ok (wh : List Int) (n : Nat) : Cnd → Prop
  | .pl _ w p => Ix wh.length w ∧ 0 ≤ p ∧ p < gi wh w
  | .hu r => Ix n r
  | .aw r => Ix n r
def Chg.Ok (wh : List Int) (c : Chg) : Prop := Ix wh.length c.w ∧ 0 ≤ c.p ∧ c.p < gi wh c.w
structure Rul.Ok (wh : List Int) (n : Nat) (r : Rul) : Prop where
  tl : r.test.length ≤ 4
  t : ∀ c ∈ r.test, c.Ok wh n
  cl : r.chg.length ≤ 3
  c : ∀ c ∈ r.chg, c.Ok wh
  h : ∀ p ∈ r.hus, Ix n p.1 ∧ 1 ≤ p.2 ∧ p.2 ≤ 3
  hr : (r.hus.map (·.1)).Pairwise (· < ·)
  k : ∀ p ∈ r.wak, Ix n p
  kr : r.wak.Pairwise (· < ·)
  x : ∀ p ∈ r.hus, p.1 ∉ r.wak
structure WhOk (wh : List Int) : Prop where
  l0 : 1 ≤ wh.length
  l1 : wh.length ≤ 3
  m : ∀ x ∈ wh, 2 ≤ x ∧ x ≤ 4
  p : wh.prod ≤ 24
structure Bk.Ok (b : Bk) : Prop where
  w : WhOk b.wh
  n : b.ru.length ≤ 5
  r : ∀ r ∈ b.ru, r.Ok b.wh b.ru.length
structure StOk (b : Bk) (s : Sta) : Prop where
  l1 : s.1.length = b.wh.length
  m1 : ∀ i, Ix b.wh.length i → 0 ≤ gi s.1 i ∧ gi s.1 i < gi b.wh i
  l2 : s.2.length = b.ru.length
  m2 : ∀ h ∈ s.2, 0 ≤ h ∧ h ≤ 2
def OffOk (b : Bk) (off : List Int) : Prop := (∀ r ∈ off, Ix b.ru.length r) ∧ off.Pairwise (· < ·)

/-! ### what a beat does -/
def Cnd.so (vs hs : List Int) : Cnd → Bool
  | .pl .is w p => gi vs w == p
  | .pl .not w p => gi vs w != p
  | .pl .below w p => decide (gi vs w < p)
  | .hu r => decide (0 < gi hs r)
  | .aw r => gi hs r == 0
def wouldDo (b : Bk) (r : Int) (vs hs : List Int) : Bool := gi hs r == 0 && (b.rule r).test.all (Cnd.so vs hs)
def Chg.do (wh vs : List Int) (c : Chg) : List Int := seti vs c.w (if c.put then c.p else (gi vs c.w + c.p) % gi wh c.w)
def husDo (hs : List Int) (l : List (Int × Int)) : List Int := l.foldl (fun hs p => seti hs p.1 (max (gi hs p.1) p.2)) hs
def wakDo (hs : List Int) (l : List Int) : List Int := l.foldl (fun hs r => seti hs r 0) hs
structure Mid3 where
  vs : List Int
  hs : List Int
  dn : List Int
def ask (b : Bk) (off : List Int) (m : Mid3) (r : Int) : Mid3 :=
  if !off.contains r && wouldDo b r m.vs m.hs then ⟨(b.rule r).chg.foldl (Chg.do b.wh) m.vs, wakDo (husDo m.hs (b.rule r).hus) (b.rule r).wak, m.dn ++ [r]⟩ else m
def less (hs : List Int) : List Int := hs.map fun h => max 0 (h - 1)
def beatOf (b : Bk) (s : Sta) (order off : List Int) : List Int × Sta :=
  let m := order.foldl (ask b off) ⟨s.1, s.2, []⟩
  (m.dn, (m.vs, less m.hs))
def own (b : Bk) : List Int := (List.range b.ru.length).map fun (i : Nat) => (i : Int)
end SP

set_option Elab.async false
set_option linter.all false
set_option maxRecDepth 100000
set_option maxHeartbeats 4000000
/-! S2: what the program's defs about books and beats do. -/
namespace SP
open PySem DL

theorem plainL_ints (n : Nat) : ∀ l : List Int, W.plainL n (l.map W.int) = true
  | [] => rfl
  | a :: l => by show (W.plain n (.int a) && W.plainL n (l.map W.int)) = true; rw [plainL_ints n l]; cases n <;> rfl
theorem eqvL_ints : ∀ a b : List Int, W.eqvL (a.map W.int) (b.map W.int) = (a == b)
  | [], [] => rfl
  | [], _ :: _ => rfl
  | _ :: _, [] => rfl
  | x :: a, y :: b => by
    show (x == y && W.eqvL (a.map W.int) (b.map W.int)) = (x :: a == y :: b)
    rw [eqvL_ints a b]; rfl
theorem ce_ints (a b : List Int) : cmpEq (tpI a) (tpI b) = some (a == b) := by
  unfold cmpEq
  rw [show W.plain 60 (tpI a) = true from plainL_ints 59 a, show W.plain 60 (tpI b) = true from plainL_ints 59 b]
  show some (W.eqvL _ _) = _
  rw [eqvL_ints]
theorem ce_intsL (a b : List Int) : cmpEq (lsI a) (lsI b) = some (a == b) := by
  unfold cmpEq
  rw [show W.plain 60 (lsI a) = true from plainL_ints 59 a, show W.plain 60 (lsI b) = true from plainL_ints 59 b]
  show some (W.eqvL _ _) = _
  rw [eqvL_ints]
theorem ce_intsE (a : List Int) : cmpEq (tpI a) (.tup []) = some (a == []) := ce_ints a []
theorem mem_ints (x : Int) (l : List Int) : memW (.int x) (l.map W.int) = some (l.contains x) := by
  unfold memW
  rw [plainL_ints 60 l, show W.plain 60 (.int x) = true from rfl]
  show some _ = _
  congr 1
  induction l with
  | nil => rfl
  | cons a l ih =>
    rw [List.map_cons, List.any_cons, ih, List.contains_cons]
    show ((a == x) || _) = _
    congr 1
    exact Bool.beq_comm
theorem e_is_whole (i : Int) (S : Sto) : pureR (f_is_whole [.int i] []) S = .ok (.bl true) S := by
  simp [f_is_whole, startW]
theorem e_is_from (i lo hi : Int) (S : Sto) : pureR (f_is_from [.int i, .int lo, .int hi] []) S = .ok (.bl (decide (lo ≤ i) && decide (i < hi))) S := by
  by_cases h : lo ≤ i <;> simp [f_is_from, startW, e_is_whole, h]
theorem e_is_row (ws : List W) (n : Int) (S : Sto) : pureR (f_is_row [.tup ws, .int n] []) S = .ok (.bl (decide ((ws.length : Int) ≤ n))) S := by
  simp [f_is_row, startW]
theorem e_how_many (ns : List Int) (hn : ∀ x ∈ ns, 0 ≤ x ∧ x ≤ 4) (S : Sto) : pureR (f_how_many [tpI ns] []) S = .ok (.int ns.prod) S := by
  have key : ∀ (l : List Int) (a : Int) (x : Option W), (∀ x ∈ l, 0 ≤ x ∧ x ≤ 4) → ∃ x', forM (.nm 2) b_how_many_1 (l.map W.int) [some (tpI ns), some (.int a), x] [] = .nx [some (tpI ns), some (.int (a * l.prod)), x'] [] := by
    intro l
    induction l with
    | nil => intro a x _; exact ⟨x, by simp⟩
    | cons y l ih =>
      intro a x h
      have hy := h y (List.mem_cons_self ..)
      obtain ⟨x', e⟩ := ih (a * y) (some (.int y)) fun z hz => h z (List.mem_cons_of_mem _ hz)
      refine ⟨x', ?_⟩
      have hm : mulOk a y = true := by
        unfold mulOk
        have h1 : -(2 ^ 64) < y := by omega
        have h2 : y < 2 ^ 64 := by omega
        rw [decide_eq_true h1, decide_eq_true h2]; simp
      rw [List.map_cons, for_cons, List.prod_cons, ← Int.mul_assoc, ← e]
      simp [b_how_many_1, augW, hm]
  obtain ⟨x', e⟩ := key ns 1 none hn
  simp [f_how_many, startW, e]
end SP

set_option Elab.async false
set_option linter.all false
set_option maxRecDepth 100000
set_option maxHeartbeats 4000000
namespace SP
open PySem DL
@[simp] theorem all_tt {α : Type} (l : List α) : (l.all fun _ => true) = true := by simp
theorem l_small {α : Type} {l : List α} {n : Nat} (h : l.length ≤ n) (hn : n ≤ 10000 := by decide) : l.length ≤ limit := limit_big (by omega)
theorem e_are_wheels {wh : List Int} (h : WhOk wh) (S : Sto) : pureR (f_are_wheels [tpI wh] []) S = .ok (.bl true) S := by
  have h1 := e_how_many wh (fun x hx => by have := h.m x hx; omega)
  have hl : wh.length ≤ limit := l_small h.l1
  have hne : (wh == []) = false := by cases wh with
    | nil => have := h.l0; simp at this
    | cons _ _ => rfl
  have h3 : (wh.length : Int) ≤ 3 := by have := h.l1; omega
  simp [f_are_wheels, startW, e_is_row, h3, ce_intsE, hne, hl, h1]
  rw [lc_data (g := fun _ => .bl true) fun a ha => by
    have := h.m a ha
    have h4 : a < 5 := by omega
    simp [lcStep, e_is_from, this, h4]]
  simp [h.p]
theorem memW_strs (x : Str) (l : List Str) (hx : PyData.strOk x = true) (hl : ∀ y ∈ l, PyData.strOk y = true) : memW (.str x) (l.map W.str) = some (l.contains x) := by
  have key : ∀ l : List Str, (∀ y ∈ l, PyData.strOk y = true) → W.plainL 60 (l.map W.str) = true := by
    intro l; induction l with
    | nil => intro _; rfl
    | cons a l ih =>
      intro h
      show (PyData.strOk a && W.plainL 60 (l.map W.str)) = true
      rw [h a (List.mem_cons_self ..), ih fun y hy => h y (List.mem_cons_of_mem _ hy)]; rfl
  unfold memW
  rw [key l hl, show W.plain 60 (.str x) = true from hx]
  show some _ = _
  congr 1
  clear key hl
  induction l with
  | nil => rfl
  | cons a l ih =>
    rw [List.map_cons, List.any_cons, ih, List.contains_cons]
    show ((a == x) || _) = _
    congr 1
    exact Bool.beq_comm
theorem e_worded (x : Str) (ws : List W) (l : List Str) (n : Int) (hx : PyData.strOk x = true) (hl : ∀ y ∈ l, PyData.strOk y = true) (S : Sto) : pureR (f_is_worded [.tup (.str x :: ws), .tup (l.map W.str), .int n] []) S = .ok (.bl ((ws.length + 1 : Int) == n && l.contains x)) S := by
  have ha : L2.atI (W.str x :: ws) 0 = some (.str x) := by simp [L2.atI, L2.ixN]
  have hm := memW_strs x l hx hl
  by_cases h : (ws.length + 1 : Int) = n
  · have h2 : ((ws.length + 1 : Int) == n) = true := by simpa using h
    simp [f_is_worded, startW, ha, hm, h2]
  · have h2 : ((ws.length + 1 : Int) == n) = false := by simpa using h
    simp [f_is_worded, startW, ha, hm, h2]
theorem pk_ok (k : PK) : PyData.strOk k.s = true := by cases k <;> kernel_rfl
theorem cw_ok (c : Chg) : PyData.strOk c.wd = true := by unfold Chg.wd; split <;> kernel_rfl
theorem ok_words : ∀ y ∈ (["is", "not", "below"] : List Str), PyData.strOk y = true := by
  intro y hy
  simp only [List.mem_cons, List.not_mem_nil, or_false] at hy
  rcases hy with rfl | rfl | rfl <;> kernel_rfl
theorem ok_words2 : ∀ y ∈ (["hushed", "awake"] : List Str), PyData.strOk y = true := by
  intro y hy
  simp only [List.mem_cons, List.not_mem_nil, or_false] at hy
  rcases hy with rfl | rfl <;> kernel_rfl
theorem ok_words3 : ∀ y ∈ (["put", "turn"] : List Str), PyData.strOk y = true := by
  intro y hy
  simp only [List.mem_cons, List.not_mem_nil, or_false] at hy
  rcases hy with rfl | rfl <;> kernel_rfl
theorem e_placed {wh : List Int} {x : Str} {w p : Int} {l : List Str} (hw : Ix wh.length w) (hp : 0 ≤ p ∧ p < gi wh w) (hx : PyData.strOk x = true) (hl : ∀ y ∈ l, PyData.strOk y = true) (hc : l.contains x = true) (S : Sto) :
    pureR (f_is_placed [tpI wh, .tup [.str x, .int w, .int p], .tup (l.map W.str)] []) S = .ok (.bl true) S := by
  have h1 := e_worded x [.int w, .int p] l 3 hx hl
  have hs : nlL (l.map W.str) = true := by clear hl hc h1; induction l with
    | nil => rfl
    | cons a l ih => simpa using ih
  have hm : x ∈ l := by simpa using hc
  simp [f_is_placed, startW, h1, hs, e_is_from, hw.1, hw.2, gi_at hw, hp, hm]
theorem e_condition {wh : List Int} {n : Nat} {c : Cnd} (h : c.Ok wh n) (S : Sto) : pureR (f_is_condition [tpI wh, .int n, c.w] []) S = .ok (.bl true) S := by
  have e2 : ∀ (x : Str) (ws : List W) (n : Int), PyData.strOk x = true → ∀ S, pureR (f_is_worded [.tup (.str x :: ws), .tup [.str "hushed", .str "awake"], .int n] []) S = .ok (.bl ((ws.length + 1 : Int) == n && (["hushed", "awake"] : List Str).contains x)) S := fun x ws n hx S => e_worded x ws ["hushed", "awake"] n hx ok_words2 S
  cases c with
  | pl k w p =>
    have e1 : ∀ S, pureR (f_is_placed [tpI wh, .tup [.str k.s, .int w, .int p], .tup [.str "is", .str "not", .str "below"]] []) S = .ok (.bl true) S := fun S => e_placed (l := ["is", "not", "below"]) h.1 h.2 (pk_ok k) ok_words (by cases k <;> kernel_rfl) S
    simp [f_is_condition, startW, Cnd.w, e2 _ _ _ (pk_ok k), e1]
  | hu r =>
    have c1 : (["hushed", "awake"] : List Str).contains "hushed" = true := by kernel_rfl
    simp only [f_is_condition, o_fn, Cnd.w]
    simp [startW, e2 "hushed" _ _ (by kernel_rfl), c1, e_is_from, h.1, h.2, L2.atI, L2.ixN]
  | aw r =>
    have c1 : (["hushed", "awake"] : List Str).contains "awake" = true := by kernel_rfl
    simp only [f_is_condition, o_fn, Cnd.w]
    simp [startW, e2 "awake" _ _ (by kernel_rfl), c1, e_is_from, h.1, h.2, L2.atI, L2.ixN]
theorem zipW_map {α β : Type} (f : α → W) (g : β → W) : ∀ (a : List α) (b : List β), zipW (a.map f) (b.map g) = (a.zip b).map fun p => .tup [f p.1, g p.2]
  | [], _ => by cases ‹List β› <;> rfl
  | _ :: _, [] => rfl
  | x :: a, y :: b => by show _ :: zipW (a.map f) (b.map g) = _; rw [zipW_map f g a b]; rfl
theorem rising_all : ∀ l : List Int, l.Pairwise (· < ·) → ∀ p ∈ l.zip (l.drop 1), p.1 < p.2
  | [], _, p, h => by simp at h
  | [_], _, p, h => by simp at h
  | x :: y :: l, h, p, hp => by
    rw [List.drop_succ_cons, List.drop_zero, List.zip_cons_cons] at hp
    rw [List.pairwise_cons] at h
    rcases List.mem_cons.mp hp with rfl | hp
    · exact h.1 y (List.mem_cons_self ..)
    · exact rising_all (y :: l) h.2 p (by simpa using hp)
theorem cut1 (l : List W) : cutW l (some 1) none = l.drop 1 := by
  unfold cutW HT.sIx
  cases l with
  | nil => simp
  | cons a l => simp
end SP

set_option Elab.async false
set_option linter.all false
set_option maxRecDepth 100000
set_option maxHeartbeats 4000000
namespace SP
open PySem DL
theorem zip_cut (l : List Int) : zipW (l.map W.int) (cutW (l.map W.int) (some 1) none) = (l.zip (l.drop 1)).map fun p => .tup [.int p.1, .int p.2] := by
  rw [cut1, ← List.map_drop]; exact zipW_map _ _ _ _
theorem zlen {l : List Int} {n : Nat} (h : l.length ≤ n) : (l.zip (l.drop 1)).length ≤ n := by rw [List.length_zip]; omega
theorem zlim {l : List Int} (h : l.length ≤ limit) : min l.length (l.length - 1) ≤ limit := by omega
theorem e_are_risingT {l : List Int} (h : l.Pairwise (· < ·)) (hl : l.length ≤ limit) (S : Sto) : pureR (f_are_rising [tpI l] []) S = .ok (.bl true) S := by
  have hl2 : l.length ≤ limit + 1 := by omega
  simp [f_are_rising, startW, zip_cut, hl2]
  rw [lc_data (g := fun _ => .bl true) fun p hp => by
    have := rising_all l h p (by simpa using hp)
    simp [lcStep, this]]
  simp
theorem e_are_risingL {l : List Int} (h : l.Pairwise (· < ·)) (hl : l.length ≤ limit) (S : Sto) : pureR (f_are_rising [lsI l] []) S = .ok (.bl true) S := by
  have hl2 : l.length ≤ limit + 1 := by omega
  simp [f_are_rising, startW, zip_cut, hl2]
  rw [lc_data (g := fun _ => .bl true) fun p hp => by
    have := rising_all l h p (by simpa using hp)
    simp [lcStep, this]]
  simp
theorem e_rules_numbers {l : List Int} {n : Nat} (h : l.Pairwise (· < ·)) (hn : ∀ r ∈ l, Ix n r) (hl : l.length ≤ limit) (S : Sto) : pureR (f_are_rules_numbers [tpI l, .int n] []) S = .ok (.bl true) S := by
  simp [f_are_rules_numbers, startW, hl, e_are_risingT h hl]
  rw [lc_data (g := fun _ => .bl true) fun p hp => by
    have := hn p hp
    simp [lcStep, e_is_from, this.1, this.2]]
  simp
theorem e_hush {p : Int × Int} {n : Nat} (h : Ix n p.1 ∧ 1 ≤ p.2 ∧ p.2 ≤ 3) (S : Sto) : pureR (f_is_hush [.int n, hw p] []) S = .ok (.bl true) S := by
  have h4 : p.2 < 4 := by omega
  have a0 : L2.atI [W.int p.1, W.int p.2] 0 = some (.int p.1) := by simp [L2.atI, L2.ixN]
  have a1 : L2.atI [W.int p.1, W.int p.2] 1 = some (.int p.2) := by simp [L2.atI, L2.ixN]
  simp [f_is_hush, startW, hw, a0, a1, e_is_from, h.1.1, h.1.2, h.2, h4]
@[simp] theorem nl_map {α : Type} {f : α → W} (hf : ∀ a, (f a).nl = true) : ∀ l : List α, nlL (l.map f) = true
  | [] => rfl
  | a :: l => by rw [List.map_cons, n_cons, hf a, nl_map hf l]; rfl
@[simp] theorem nl_hw (p : Int × Int) : (hw p).nl = true := rfl
@[simp] theorem nl_cnd (c : Cnd) : c.w.nl = true := by cases c <;> rfl
@[simp] theorem nl_chg (c : Chg) : c.W.nl = true := rfl
@[simp] theorem nl_hws (l : List (Int × Int)) : nlL (l.map hw) = true := nl_map nl_hw l
@[simp] theorem nl_cnds (l : List Cnd) : nlL (l.map Cnd.w) = true := nl_map nl_cnd l
@[simp] theorem nl_chgs (l : List Chg) : nlL (l.map Chg.W) = true := nl_map nl_chg l
@[simp] theorem nl_rul (r : Rul) : r.W.nl = true := by simp [Rul.W]
@[simp] theorem nl_ruls (l : List Rul) : nlL (l.map Rul.W) = true := nl_map nl_rul l
@[simp] theorem nl_bk (b : Bk) : b.W.nl = true := by simp [Bk.W]
@[simp] theorem nl_st (s : Sta) : (stW s).nl = true := by simp [stW]
@[simp] theorem nl_sts (l : List Sta) : nlL (l.map stW) = true := nl_map nl_st l
@[simp] theorem dd_hw (S : Sto) (p : Int × Int) : derefF S (hw p) = hw p := rfl
@[simp] theorem dd_cnd (S : Sto) (c : Cnd) : derefF S c.w = c.w := by cases c <;> rfl
@[simp] theorem dd_chg (S : Sto) (c : Chg) : derefF S c.W = c.W := rfl
@[simp] theorem dd_rul (S : Sto) (c : Rul) : derefF S c.W = c.W := rfl
@[simp] theorem dd_bk (S : Sto) (c : Bk) : derefF S c.W = c.W := rfl
@[simp] theorem dd_st (S : Sto) (c : Sta) : derefF S (stW c) = stW c := rfl
@[simp] theorem de_hw (S : Sto) (p : Int × Int) : deref S (hw p) = hw p := rfl
@[simp] theorem de_cnd (S : Sto) (c : Cnd) : deref S c.w = c.w := by cases c <;> rfl
@[simp] theorem de_chg (S : Sto) (c : Chg) : deref S c.W = c.W := rfl
@[simp] theorem de_rul (S : Sto) (c : Rul) : deref S c.W = c.W := rfl
@[simp] theorem de_bk (S : Sto) (c : Bk) : deref S c.W = c.W := rfl
@[simp] theorem de_st (S : Sto) (c : Sta) : deref S (stW c) = stW c := rfl
theorem e_hushes {l : List (Int × Int)} {n : Nat} (h : ∀ p ∈ l, Ix n p.1 ∧ 1 ≤ p.2 ∧ p.2 ≤ 3) (hr : (l.map (·.1)).Pairwise (· < ·)) (hl : l.length ≤ limit) (S : Sto) : pureR (f_are_hushes [.int n, .tup (l.map hw)] []) S = .ok (.bl true) S := by
  have e2 : ∀ S, pureR (f_are_rising [.lst (l.map fun p => W.int p.1)] []) S = .ok (.bl true) S := fun S => by
    have := e_are_risingL hr (by simpa using hl) S
    rw [show (l.map fun p => W.int p.1) = (l.map (·.1)).map W.int by rw [List.map_map]; rfl]
    exact this
  simp [f_are_hushes, startW, hl]
  rw [lc_data (g := fun _ => .bl true) fun p hp => by
    simp [lcStep, e_hush (h p hp)]]
  simp [hl]
  rw [lc_data (g := fun p => .int p.1) fun p hp => by simp [lcStep, hw]]
  have hn : nlL (l.map fun p => W.int p.1) = true := nl_map (fun _ => rfl) l
  simp [e2, hn]
theorem e_rule {wh : List Int} {n : Nat} {r : Rul} (h : r.Ok wh n) (hw1 : r.hus.length ≤ limit) (hw2 : r.wak.length ≤ limit) (S : Sto) : pureR (f_is_rule [tpI wh, .int n, r.W] []) S = .ok (.bl true) S := by
  have t4 : (r.test.length : Int) ≤ 4 := by have := h.tl; omega
  have c3 : (r.chg.length : Int) ≤ 3 := by have := h.cl; omega
  have e1 : ∀ c ∈ r.chg, ∀ S, pureR (f_is_placed [tpI wh, c.W, .tup [.str "put", .str "turn"]] []) S = .ok (.bl true) S := fun c hc S => e_placed (l := ["put", "turn"]) (h.c c hc).1 (h.c c hc).2 (cw_ok c) ok_words3 (by cases c with | mk p _ _ => cases p <;> kernel_rfl) S
  simp [f_is_rule, startW, Rul.W, e_is_row, t4, c3, l_small h.tl, l_small h.cl, hw1]
  rw [lc_data (g := fun _ => .bl true) fun c hc => by simp [lcStep, e_condition (h.t c hc)]]
  simp [e_is_row, c3, l_small h.cl]
  rw [lc_data (g := fun _ => .bl true) fun c hc => by simp [lcStep, e1 c hc]]
  simp [e_hushes h.h h.hr hw1, e_rules_numbers h.kr h.k hw2, hw1]
  rw [lc_data (g := fun _ => .bl false) fun p hp => by
    have := h.x p hp
    simp [lcStep, SP.hw, mem_ints, this]]
  simp
end SP

set_option Elab.async false
set_option linter.all false
set_option maxRecDepth 100000
set_option maxHeartbeats 4000000
namespace SP
open PySem DL
theorem rising_len {n : Nat} : ∀ (l : List Int) (lo : Int), l.Pairwise (· < ·) → (∀ x ∈ l, lo ≤ x ∧ x < n) → l.length ≤ (n - lo).toNat
  | [], _, _, _ => Nat.zero_le _
  | x :: l, lo, h, hx => by
    rw [List.pairwise_cons] at h
    have h1 := hx x (List.mem_cons_self ..)
    have := rising_len l (x + 1) h.2 fun y hy => ⟨by have := h.1 y hy; omega, (hx y (List.mem_cons_of_mem _ hy)).2⟩
    rw [List.length_cons]
    omega
theorem rising_le {n : Nat} {l : List Int} (h : l.Pairwise (· < ·)) (hx : ∀ x ∈ l, Ix n x) : l.length ≤ n := by
  have := rising_len l 0 h hx
  omega
theorem look_book_loop {wh : List Int} {ru : List Rul} (h : ∀ r ∈ ru, ∀ S, pureR (f_is_rule [tpI wh, .int ru.length, r.W] []) S = .ok (.bl true) S) : ∀ (l : List Rul) (k : Int) (x y : Option W), (∀ r ∈ l, r ∈ ru) →
    ∃ x' y', forM (.tup [2, 3]) b_look_book_1 (jEnum.enumI k (l.map Rul.W)) [some (tpI wh), some (.tup (ru.map Rul.W)), x, y] [] = .nx [some (tpI wh), some (.tup (ru.map Rul.W)), x', y'] []
  | [], k, x, y, _ => ⟨x, y, rfl⟩
  | r :: l, k, x, y, hl => by
    obtain ⟨x', y', e⟩ := look_book_loop h l (k + 1) (some (.int k)) (some r.W) fun r hr => hl r (List.mem_cons_of_mem _ hr)
    refine ⟨x', y', ?_⟩
    rw [List.map_cons, jEnum.enumI, for_cons, ← e]
    simp [b_look_book_1, h r (hl r (List.mem_cons_self ..))]
theorem e_look_book {b : Bk} (h : b.Ok) (S : Sto) : pureR (f_look_book [tpI b.wh, .tup (b.ru.map Rul.W)] []) S = .ok .non S := by
  have hn : (b.ru.length : Int) ≤ 5 := by have := h.n; omega
  have hr : ∀ r ∈ b.ru, ∀ S, pureR (f_is_rule [tpI b.wh, .int b.ru.length, r.W] []) S = .ok (.bl true) S := fun r hr S => by
    have hk := h.r r hr
    have := h.n
    refine e_rule hk ?_ ?_ S
    · have h1 := rising_le (l := r.hus.map (·.1)) hk.hr fun x hx => by
        obtain ⟨p, hp, rfl⟩ := List.mem_map.mp hx
        exact (hk.h p hp).1
      rw [List.length_map] at h1
      exact l_small (n := 5) (by omega)
    · exact l_small (n := 5) (by have := rising_le hk.kr hk.k; omega)
  obtain ⟨x', y', e⟩ := look_book_loop hr b.ru 0 none none fun _ h => h
  simp [f_look_book, startW, e_are_wheels h.w, e_is_row, hn, e]
theorem e_Book {b : Bk} (h : b.Ok) (S : Sto) : makeR 0 f_Book___init__ [tpI b.wh, .tup (b.ru.map Rul.W)] S = .ok b.W S := by
  have e : f_Book___init__ (.loc 0 :: [tpI b.wh, .tup (b.ru.map Rul.W)]) [.obj 0 []] = .ok .non [.obj 0 [(0, tpI b.wh), (1, .tup (b.ru.map Rul.W))]] := by
    simp [f_Book___init__, startW, e_look_book h, setFldR, putFN]
  unfold makeR
  rw [e]
  simp [Bk.W]
theorem prod_gi {wh : List Int} (h : WhOk wh) {w : Int} (hw : Ix wh.length w) : 2 ≤ gi wh w ∧ gi wh w ≤ 4 := by
  obtain ⟨h0, h1⟩ := hw
  unfold gi
  rw [List.getD_eq_getElem?_getD, List.getElem?_eq_getElem (by omega)]
  exact h.m _ (List.getElem_mem _)
theorem e_are_values {b : Bk} {vs : List Int} (hl : vs.length = b.wh.length) (hm : ∀ i, Ix b.wh.length i → 0 ≤ gi vs i ∧ gi vs i < gi b.wh i) (hb : WhOk b.wh) (S : Sto) : pureR (f_are_values [b.W, tpI vs] []) S = .ok (.bl true) S := by
  have hz : ∀ p ∈ vs.zip b.wh, 0 ≤ p.1 ∧ p.1 < p.2 := by
    intro p hp
    obtain ⟨i, hi, e⟩ := List.getElem_of_mem hp
    rw [List.length_zip] at hi
    have hi1 : i < vs.length := by omega
    have hi2 : i < b.wh.length := by omega
    rw [List.getElem_zip] at e
    have := hm i ⟨by omega, by omega⟩
    unfold gi at this
    simp only [Int.toNat_natCast] at this
    rw [List.getD_eq_getElem?_getD, List.getD_eq_getElem?_getD, List.getElem?_eq_getElem hi1, List.getElem?_eq_getElem hi2] at this
    subst e
    exact this
  have hz2 : zipW (vs.map W.int) (b.wh.map W.int) = (vs.zip b.wh).map fun p => .tup [.int p.1, .int p.2] := zipW_map _ _ _ _
  have hlim : b.wh.length ≤ limit := l_small hb.l1
  simp [f_are_values, startW, Bk.W, hl, hz2, hlim]
  rw [lc_data (g := fun _ => .bl true) fun p hp => by
    have := hz p hp
    simp [lcStep, e_is_from, this]]
  simp
theorem e_is_state {b : Bk} {s : Sta} (hb : b.Ok) (h : StOk b s) (S : Sto) : pureR (f_is_state [b.W, stW s] []) S = .ok (.bl true) S := by
  have ev := e_are_values h.l1 h.m1 hb.w
  have hlim : b.ru.length ≤ limit := l_small hb.n
  have a0 : L2.atI [tpI s.1, tpI s.2] 0 = some (tpI s.1) := by simp [L2.atI, L2.ixN]
  have a1 : L2.atI [tpI s.1, tpI s.2] 1 = some (tpI s.2) := by simp [L2.atI, L2.ixN]
  have hf : ∀ S, getFld S 0 1 b.W = some (.tup (b.ru.map Rul.W)) := fun S => by simp [Bk.W]
  simp only [f_is_state, o_fn]
  simp [startW, stW, a0, a1, ev, h.l2, hf, hlim]
  rw [lc_data (g := fun _ => .bl true) fun p hp => by
    have := h.m2 p hp
    have h3 : p < 3 := by omega
    simp [lcStep, e_is_from, this, h3]]
  simp
theorem e_look_state {b : Bk} {s : Sta} (hb : b.Ok) (h : StOk b s) (S : Sto) : pureR (f_look_state [b.W, stW s] []) S = .ok .non S := by
  simp [f_look_state, startW, e_is_state hb h]
theorem g_ru (b : Bk) (S : Sto) : getFld S 0 1 b.W = some (.tup (b.ru.map Rul.W)) := by simp [Bk.W]
theorem g_wh (b : Bk) (S : Sto) : getFld S 0 0 b.W = some (tpI b.wh) := by simp [Bk.W]
theorem e_look_off {b : Bk} {off : List Int} (hb : b.Ok) (h : OffOk b off) (S : Sto) : pureR (f_look_off [b.W, tpI off] []) S = .ok .non S := by
  have hl : off.length ≤ limit := l_small (n := 5) (by have := rising_le h.2 h.1; have := hb.n; omega)
  simp [f_look_off, startW, g_ru, e_rules_numbers h.2 h.1 hl]
theorem range_ints (n : Nat) : ∀ lo : Int, rangeW lo n = ((List.range n).map fun (i : Nat) => lo + (i : Int)).map W.int := by
  induction n with
  | zero => intro lo; rfl
  | succ n ih =>
    intro lo
    rw [rangeW, ih, List.range_succ_eq_map, List.map_cons, List.map_cons, List.map_map, List.map_map, List.map_map]
    congr 1
    · simp
    · apply List.map_congr_left; intro a _; simp; omega
theorem range0 (n : Nat) : rangeW 0 n = ((List.range n).map fun (i : Nat) => (i : Int)).map W.int := by
  rw [range_ints]
  congr 1
  apply List.map_congr_left; intro a _; simp
theorem rgOk_of {i j : Int} (h1 : -1000000000 ≤ i) (h2 : i ≤ 1000000000) (h3 : -1000000000 ≤ j) (h4 : j ≤ 1000000000) (h5 : j - i ≤ 10000000) : rgOk i j = true := by
  have e1 : -(2 ^ 62 : Int) ≤ i := Int.le_trans (by decide) h1
  have e2 : i < 2 ^ 62 := Int.lt_of_le_of_lt h2 (by decide)
  have e3 : -(2 ^ 62 : Int) ≤ j := Int.le_trans (by decide) h3
  have e4 : j < 2 ^ 62 := Int.lt_of_le_of_lt h4 (by decide)
  have e5 : (j - i).toNat ≤ 2 ^ 24 := Nat.le_trans (show (j - i).toNat ≤ 10000000 by omega) (Nat.le_of_ble_eq_true rfl)
  unfold rgOk
  rw [decide_eq_true e1, decide_eq_true e2, decide_eq_true e3, decide_eq_true e4, decide_eq_true e5]; rfl
theorem e_own {b : Bk} (hb : b.Ok) (S : Sto) : pureR (f_own_order [b.W] []) S = .ok (tpI (own b)) S := by
  have hn := hb.n
  have hr : rgOk 0 (b.ru.length : Int) = true := rgOk_of (by omega) (by omega) (by omega) (by omega) (by omega)
  have hz : rgR 0 (b.ru.length : Int) = (own b).map W.int := by
    unfold rgR own
    rw [Int.sub_zero, Int.toNat_natCast]; exact range0 _
  have e1 : (mPrim .len (mCons (mFld 0 1 (mVar 0)) mNil)) [some b.W] [] = .ok (.int b.ru.length) [] := by simp [g_ru]
  have e : mRg1 kTup (mPrim .len (mCons (mFld 0 1 (mVar 0)) mNil)) [some b.W] [] = .ok (tpI (own b)) [] := by
    rw [rg1_ok e1 hr, hz]; rfl
  simp [f_own_order, startW, e]
end SP

set_option Elab.async false
set_option linter.all false
set_option maxRecDepth 100000
set_option maxHeartbeats 4000000
/-! S4: beats. -/
namespace SP
open PySem DL
theorem ce_str (x y : Str) (hx : PyData.strOk x = true) (hy : PyData.strOk y = true) : cmpEq (.str x) (.str y) = some (x == y) := by
  unfold cmpEq
  rw [show W.plain 60 (.str x) = true from hx, show W.plain 60 (.str y) = true from hy]; rfl
theorem w_is : PyData.strOk ("is" : Str) = true := by kernel_rfl
theorem w_hu : PyData.strOk ("hushed" : Str) = true := by kernel_rfl
theorem w_aw : PyData.strOk ("awake" : Str) = true := by kernel_rfl
theorem w_be : PyData.strOk ("below" : Str) = true := by kernel_rfl
theorem w_pu : PyData.strOk ("put" : Str) = true := by kernel_rfl
theorem k_hu (k : PK) : (k.s == ("hushed" : Str)) = false := by cases k <;> kernel_rfl
theorem k_aw (k : PK) : (k.s == ("awake" : Str)) = false := by cases k <;> kernel_rfl
theorem k_be (k : PK) : (k.s == ("below" : Str)) = (k == .below) := by cases k <;> kernel_rfl
theorem k_is (k : PK) : (k.s == ("is" : Str)) = (k == .is) := by cases k <;> kernel_rfl
theorem k_pu (c : Chg) : (c.wd == ("put" : Str)) = c.put := by unfold Chg.wd; cases c.put <;> kernel_rfl
theorem e_is_so {wh : List Int} {n : Nat} {c : Cnd} (h : c.Ok wh n) {vs hs : List Int} (hv : vs.length = wh.length) (hh : hs.length = n) (S : Sto) : pureR (f_is_so [c.w, lsI vs, lsI hs] []) S = .ok (.bl (c.so vs hs)) S := by
  cases c with
  | pl k w p =>
    have hw : Ix vs.length w := by rw [hv]; exact h.1
    have a0 : L2.atI [W.int p] 0 = some (.int p) := by simp [L2.atI, L2.ixN]
    cases k with
    | is => simp [f_is_so, startW, Cnd.w, ce_str _ _ (pk_ok _) w_hu, ce_str _ _ (pk_ok _) w_aw, ce_str _ _ (pk_ok _) w_be, ce_str _ _ (pk_ok _) w_is, k_hu, k_aw, k_be, k_is, gi_at hw, a0, Cnd.so]
    | not => simp [f_is_so, startW, Cnd.w, ce_str _ _ (pk_ok _) w_hu, ce_str _ _ (pk_ok _) w_aw, ce_str _ _ (pk_ok _) w_be, ce_str _ _ (pk_ok _) w_is, k_hu, k_aw, k_be, k_is, gi_at hw, a0, Cnd.so]
             show ((gi vs w == p) == (PK.not == PK.is)) = !(gi vs w == p)
             cases (gi vs w == p) <;> rfl
    | below => simp [f_is_so, startW, Cnd.w, ce_str _ _ (pk_ok _) w_hu, ce_str _ _ (pk_ok _) w_aw, ce_str _ _ (pk_ok _) w_be, ce_str _ _ (pk_ok _) w_is, k_hu, k_aw, k_be, k_is, gi_at hw, a0, Cnd.so]
  | hu r =>
    have hr : Ix hs.length r := by rw [hh]; exact h
    have e : (("hushed" : Str) == ("hushed" : Str)) = true := by kernel_rfl
    simp [f_is_so, startW, Cnd.w, ce_str _ _ w_hu w_hu, e, gi_at hr, Cnd.so]
  | aw r =>
    have hr : Ix hs.length r := by rw [hh]; exact h
    have e : (("awake" : Str) == ("hushed" : Str)) = false := by kernel_rfl
    have e2 : (("awake" : Str) == ("awake" : Str)) = true := by kernel_rfl
    simp [f_is_so, startW, Cnd.w, ce_str _ _ w_aw w_hu, ce_str _ _ w_aw w_aw, e, e2, gi_at hr, Cnd.so]
theorem rule_at {b : Bk} {r : Int} (h : Ix b.ru.length r) : L2.atI (b.ru.map Rul.W) r = some (b.rule r).W := at_map h
theorem rule_mem {b : Bk} {r : Int} (h : Ix b.ru.length r) : b.rule r ∈ b.ru := by
  obtain ⟨h0, h1⟩ := h
  unfold Bk.rule
  rw [List.getD_eq_getElem?_getD, List.getElem?_eq_getElem (by omega)]
  exact List.getElem_mem _
theorem rule_ok {b : Bk} (hb : b.Ok) {r : Int} (h : Ix b.ru.length r) : (b.rule r).Ok b.wh b.ru.length := hb.r _ (rule_mem h)
theorem rul_0 (r : Rul) : getIx r.W (.int 0) = some (.tup (r.test.map Cnd.w)) := by simp [Rul.W, L2.atI, L2.ixN]
theorem rul_1 (r : Rul) : getIx r.W (.int 1) = some (.tup (r.chg.map Chg.W)) := by simp [Rul.W, L2.atI, L2.ixN]
/-- the lengths fit -/
structure Fit (b : Bk) (vs hs : List Int) : Prop where
  v : vs.length = b.wh.length
  h : hs.length = b.ru.length
theorem e_would_do {b : Bk} (hb : b.Ok) {r : Int} (hr : Ix b.ru.length r) {vs hs : List Int} (f : Fit b vs hs) (S : Sto) : f_would_do [b.W, .int r, lsI vs, lsI hs] [] = .ok (.bl (wouldDo b r vs hs)) [] := by
  have hk := rule_ok hb hr
  have hr2 : Ix hs.length r := by rw [f.h]; exact hr
  by_cases h0 : gi hs r = 0
  · have h1 : (gi hs r == 0) = true := by simpa using h0
    simp [f_would_do, startW, gi_at hr2, h1, g_ru, rule_at hr, rul_0, l_small hk.tl]
    rw [lc_data (g := fun c => .bl (c.so vs hs)) fun c hc => by simp [lcStep, e_is_so (hk.t c hc) f.v f.h]]
    simp [wouldDo, h0]
  · have h1 : (gi hs r == 0) = false := by simpa using h0
    simp [f_would_do, startW, gi_at hr2, h1, wouldDo]
/-- a def at a list that it changes: the list stands in the cell n -/
theorem set_at {vs : List Int} {i v : Int} (h : Ix vs.length i) (n : Nat) (S : Sto) (hS : S[n]? = some (.lst (vs.map W.int))) : setIxR (.loc n) (.int i) (.int v) S = some (S.set n (.lst ((seti vs i v).map W.int))) := by
  obtain ⟨h0, h1⟩ := h
  unfold setIxR
  simp only [hS, L2.ixN, List.length_map, if_pos h0, if_pos h1]
  unfold seti
  rw [List.map_set]
theorem seti_len (vs : List Int) (i v : Int) : (seti vs i v).length = vs.length := by unfold seti; rw [List.length_set]
theorem loc_d {S : Sto} {n : Nat} {ws : List W} (h : S[n]? = some (.lst ws)) : deref S (.loc n) = .lst ws := by
  show (match S[n]? with
    | some (.lst ws) => W.lst ws
    | some (.frz w) => w
    | _ => .loc n) = _
  rw [h]
theorem set_self {α : Type} : ∀ {l : List α} {n : Nat} {a : α}, l[n]? = some a → l.set n a = l
  | [], n, a, h => by simp at h
  | x :: l, 0, a, h => by simp at h; subst h; rfl
  | x :: l, n + 1, a, h => by rw [List.set_cons_succ, set_self (by simpa using h)]
theorem change_loop {b : Bk} (n : Nat) (r : W) : ∀ (l : List Chg) (vs : List Int) (S : Sto) (x y z : Option W), (∀ c ∈ l, c.Ok b.wh) → WhOk b.wh → vs.length = b.wh.length → S[n]? = some (.lst (vs.map W.int)) →
    ∃ x' y' z', forM (.tup [3, 4, 5]) b_change_1 (l.map Chg.W) [some b.W, some r, some (.loc n), x, y, z] S = .nx [some b.W, some r, some (.loc n), x', y', z'] (S.set n (.lst ((l.foldl (Chg.do b.wh) vs).map W.int)))
  | [], vs, S, x, y, z, _, _, _, hS => ⟨x, y, z, by
      show Fl.nx _ S = Fl.nx _ (S.set n (.lst (vs.map W.int)))
      rw [set_self hS]⟩
  | c :: l, vs, S, x, y, z, hc, hw, hv, hS => by
    have h0 := hc c (List.mem_cons_self ..)
    have hl : n < S.length := (List.getElem?_eq_some_iff.mp hS).1
    have hx : Ix vs.length c.w := by rw [hv]; exact h0.1
    have h2 := prod_gi hw h0.1
    obtain ⟨x', y', z', e⟩ := change_loop n r l (Chg.do b.wh vs c) (S.set n (.lst ((Chg.do b.wh vs c).map W.int))) (some (.str c.wd)) (some (.int c.w)) (some (.int c.p)) (fun c h => hc c (List.mem_cons_of_mem _ h)) hw (by unfold Chg.do; rw [seti_len]; exact hv) (List.getElem?_set_self hl)
    refine ⟨x', y', z', ?_⟩
    rw [List.map_cons, for_cons]
    rw [List.set_set] at e
    rw [show (c :: l).foldl (Chg.do b.wh) vs = l.foldl (Chg.do b.wh) (Chg.do b.wh vs c) from rfl, ← e]
    have hd := loc_d hS
    have hp : 0 < gi b.wh c.w := by omega
    have gw : L2.atI (b.wh.map W.int) c.w = some (.int (gi b.wh c.w)) := gi_at h0.1
    cases hput : c.put with
    | true => simp [b_change_1, Chg.W, hS, ce_str _ _ (cw_ok c) w_pu, k_pu, hput, set_at hx n S hS, Chg.do]
    | false => simp [b_change_1, Chg.W, hS, ce_str _ _ (cw_ok c) w_pu, k_pu, hput, gi_at hx, g_wh, gw, hp, set_at hx n S hS, Chg.do]
theorem e_change {b : Bk} (hb : b.Ok) {r : Int} (hr : Ix b.ru.length r) {vs : List Int} (hv : vs.length = b.wh.length) {n : Nat} {S : Sto} (hS : S[n]? = some (.lst (vs.map W.int))) : f_change [b.W, .int r, .loc n] S = .ok .non (S.set n (.lst (((b.rule r).chg.foldl (Chg.do b.wh) vs).map W.int))) := by
  have hk := rule_ok hb hr
  obtain ⟨x', y', z', e⟩ := change_loop n (.int r) (b.rule r).chg vs S none none none hk.c hb.w hv hS
  simp [f_change, startW, g_ru, rule_at hr, rul_1, e]
theorem hus_loop {b : Bk} (n : Nat) (r x3 x4 x5 x6 : Option W) : ∀ (l : List (Int × Int)) (hs : List Int) (S : Sto) (x y : Option W), (∀ p ∈ l, Ix hs.length p.1) → S[n]? = some (.lst (hs.map W.int)) →
    ∃ x' y', forM (.tup [7, 8]) b_hush_and_wake_1 (l.map hw) [some b.W, r, some (.loc n), x3, x4, x5, x6, x, y] S = .nx [some b.W, r, some (.loc n), x3, x4, x5, x6, x', y'] (S.set n (.lst ((husDo hs l).map W.int)))
  | [], hs, S, x, y, _, hS => ⟨x, y, by
      show Fl.nx _ S = Fl.nx _ (S.set n (.lst (hs.map W.int)))
      rw [set_self hS]⟩
  | p :: l, hs, S, x, y, hp, hS => by
    have h0 := hp p (List.mem_cons_self ..)
    have hl : n < S.length := (List.getElem?_eq_some_iff.mp hS).1
    obtain ⟨x', y', e⟩ := hus_loop n r x3 x4 x5 x6 l (seti hs p.1 (max (gi hs p.1) p.2)) (S.set n (.lst ((seti hs p.1 (max (gi hs p.1) p.2)).map W.int))) (some (.int p.1)) (some (.int p.2)) (fun q h => by rw [seti_len]; exact hp q (List.mem_cons_of_mem _ h)) (List.getElem?_set_self hl)
    refine ⟨x', y', ?_⟩
    rw [List.map_cons, for_cons]
    rw [List.set_set] at e
    rw [show husDo hs (p :: l) = husDo (seti hs p.1 (max (gi hs p.1) p.2)) l from rfl, ← e]
    have hd := loc_d hS
    simp [b_hush_and_wake_1, hw, hS, gi_at h0, set_at h0 n S hS]
theorem wak_loop {b : Bk} (n : Nat) (r x3 x4 x5 x6 y : Option W) : ∀ (l : List Int) (hs : List Int) (S : Sto) (x : Option W), (∀ p ∈ l, Ix hs.length p) → S[n]? = some (.lst (hs.map W.int)) →
    ∃ x', forM (.nm 7) b_hush_and_wake_2 (l.map W.int) [some b.W, r, some (.loc n), x3, x4, x5, x6, x, y] S = .nx [some b.W, r, some (.loc n), x3, x4, x5, x6, x', y] (S.set n (.lst ((wakDo hs l).map W.int)))
  | [], hs, S, x, _, hS => ⟨x, by
      show Fl.nx _ S = Fl.nx _ (S.set n (.lst (hs.map W.int)))
      rw [set_self hS]⟩
  | p :: l, hs, S, x, hp, hS => by
    have h0 := hp p (List.mem_cons_self ..)
    have hl : n < S.length := (List.getElem?_eq_some_iff.mp hS).1
    obtain ⟨x', e⟩ := wak_loop n r x3 x4 x5 x6 y l (seti hs p 0) (S.set n (.lst ((seti hs p 0).map W.int))) (some (.int p)) (fun q h => by rw [seti_len]; exact hp q (List.mem_cons_of_mem _ h)) (List.getElem?_set_self hl)
    refine ⟨x', ?_⟩
    rw [List.map_cons, for_cons]
    rw [List.set_set] at e
    rw [show wakDo hs (p :: l) = wakDo (seti hs p 0) l from rfl, ← e]
    simp [b_hush_and_wake_2, set_at h0 n S hS]
theorem hus_len (l : List (Int × Int)) : ∀ hs : List Int, (husDo hs l).length = hs.length := by
  induction l with
  | nil => intro hs; rfl
  | cons p l ih => intro hs; show (husDo (seti _ _ _) l).length = _; rw [ih, seti_len]
theorem wak_len (l : List Int) : ∀ hs : List Int, (wakDo hs l).length = hs.length := by
  induction l with
  | nil => intro hs; rfl
  | cons p l ih => intro hs; show (wakDo (seti _ _ _) l).length = _; rw [ih, seti_len]
theorem chg_len (wh : List Int) (l : List Chg) : ∀ vs : List Int, (l.foldl (Chg.do wh) vs).length = vs.length := by
  induction l with
  | nil => intro hs; rfl
  | cons p l ih => intro hs; show (l.foldl (Chg.do wh) _).length = _; rw [ih]; exact seti_len _ _ _
theorem e_hush_and_wake {b : Bk} (hb : b.Ok) {r : Int} (hr : Ix b.ru.length r) {hs : List Int} (hh : hs.length = b.ru.length) {n : Nat} {S : Sto} (hS : S[n]? = some (.lst (hs.map W.int))) : f_hush_and_wake [b.W, .int r, .loc n] S = .ok .non (S.set n (.lst ((wakDo (husDo hs (b.rule r).hus) (b.rule r).wak).map W.int))) := by
  have hk := rule_ok hb hr
  have hl : n < S.length := (List.getElem?_eq_some_iff.mp hS).1
  obtain ⟨x, y, e⟩ := hus_loop (b := b) n (some (.int r)) (some (.tup ((b.rule r).test.map Cnd.w))) (some (.tup ((b.rule r).chg.map Chg.W))) (some (.tup ((b.rule r).hus.map hw))) (some (tpI (b.rule r).wak)) (b.rule r).hus hs S none none (fun p hp => by rw [hh]; exact (hk.h p hp).1) hS
  obtain ⟨x2, e2⟩ := wak_loop (b := b) n (some (.int r)) (some (.tup ((b.rule r).test.map Cnd.w))) (some (.tup ((b.rule r).chg.map Chg.W))) (some (.tup ((b.rule r).hus.map hw))) (some (tpI (b.rule r).wak)) y (b.rule r).wak (husDo hs (b.rule r).hus) (S.set n (.lst ((husDo hs (b.rule r).hus).map W.int))) x (fun p hp => by rw [hus_len, hh]; exact hk.k p hp) (List.getElem?_set_self hl)
  rw [List.set_set] at e2
  have hru : (b.rule r).W = .tup [.tup ((b.rule r).test.map Cnd.w), .tup ((b.rule r).chg.map Chg.W), .tup ((b.rule r).hus.map hw), tpI (b.rule r).wak] := rfl
  simp [f_hush_and_wake, startW, g_ru, rule_at hr, hru, e, e2]
theorem e_ended (vs hs : List Int) (hl : hs.length ≤ limit) (S : Sto) : pureR (f_ended [.tup [tpI vs, tpI hs]] []) S = .ok (stW (vs, less hs)) S := by
  have hlc : ∀ ρ : DL.Env, ∀ S, ρ.length = 4 → compM (lcStep ρ [3] (.nm 3) bYes (mPrim .max (mCons (mCon (.int 0)) (mCons (mBin .Sub (mVar 3) (mCon (.int 1))) mNil)))) (hs.map W.int) [] S = .ok ((less hs).map W.int) S := by
    intro ρ S hρ
    rw [lc_data (g := fun h => .int (max 0 (h - 1))) fun h _ => by
      match ρ, hρ with
      | [a, b, c, d], _ => simp [lcStep]]
    unfold less
    rw [List.map_map]; rfl
  have l2 : 2 ≤ limit := by unfold limit; omega
  simp [f_ended, startW, hl, hlc, stW, l2]
/-! ### one whole beat -/
theorem beat_loop {b : Bk} (hb : b.Ok) {off : List Int} (s : W) (od : W) : ∀ (l : List Int) (m : Mid3) (x : Option W), (∀ r ∈ l, Ix b.ru.length r) → Fit b m.vs m.hs → m.dn.length + l.length ≤ 1000 →
    ∃ x', forM (.nm 7) b_beat_of_1 (l.map W.int) [some b.W, some s, some od, some (tpI off), some (.loc 0), some (.loc 1), some (.loc 2), x] [.lst (m.vs.map W.int), .lst (m.hs.map W.int), .lst (m.dn.map W.int)] =
      .nx [some b.W, some s, some od, some (tpI off), some (.loc 0), some (.loc 1), some (.loc 2), x'] [.lst ((l.foldl (ask b off) m).vs.map W.int), .lst ((l.foldl (ask b off) m).hs.map W.int), .lst ((l.foldl (ask b off) m).dn.map W.int)]
  | [], m, x, _, _, _ => ⟨x, rfl⟩
  | r :: l, m, x, hr, f, hl => by
    have h0 := hr r (List.mem_cons_self ..)
    have hln : m.dn.length < limit := by unfold limit; rw [List.length_cons] at hl; omega
    have hw := e_would_do hb h0 f []
    rw [List.map_cons, for_cons, List.foldl_cons]
    by_cases hc : (!off.contains r && wouldDo b r m.vs m.hs) = true
    · have ea : ask b off m r = ⟨(b.rule r).chg.foldl (Chg.do b.wh) m.vs, wakDo (husDo m.hs (b.rule r).hus) (b.rule r).wak, m.dn ++ [r]⟩ := by unfold ask; rw [if_pos hc]
      rw [Bool.and_eq_true] at hc
      have h1 : off.contains r = false := by simpa using hc.1
      have h2 := hc.2
      have hS0 : ([.lst (m.vs.map W.int), .lst (m.hs.map W.int), .lst (m.dn.map W.int)] : Sto)[0]? = some (.lst (m.vs.map W.int)) := rfl
      have e1 := e_change hb h0 f.v hS0
      have hS1 : ([.lst (((b.rule r).chg.foldl (Chg.do b.wh) m.vs).map W.int), .lst (m.hs.map W.int), .lst (m.dn.map W.int)] : Sto)[1]? = some (.lst (m.hs.map W.int)) := rfl
      have e2 := e_hush_and_wake hb h0 f.h hS1
      rw [ea]
      obtain ⟨x', e⟩ := beat_loop hb s od l (ask b off m r) (some (.int r)) (fun q h => hr q (List.mem_cons_of_mem _ h)) (by
        rw [ea]; exact ⟨by show List.length _ = _; rw [chg_len]; exact f.v, by show List.length _ = _; rw [wak_len, hus_len]; exact f.h⟩) (by rw [ea]; show (m.dn ++ [r]).length + _ ≤ _; rw [List.length_append, List.length_singleton]; rw [List.length_cons] at hl; omega)
      rw [ea] at e
      refine ⟨x', ?_⟩
      rw [← e]
      simp at e1 e2
      have h3 : r ∉ off := by simpa using h1
      simp [b_beat_of_1, mem_ints, h3, hw, h2, e1, e2, isCell, appR, hln]
    · have ea : ask b off m r = m := by unfold ask; rw [if_neg hc]
      obtain ⟨x', e⟩ := beat_loop hb s od l m (some (.int r)) (fun q h => hr q (List.mem_cons_of_mem _ h)) f (by rw [List.length_cons] at hl; omega)
      refine ⟨x', ?_⟩
      rw [ea, ← e]
      cases h1 : off.contains r with
      | true =>
        have h3 : r ∈ off := by simpa using h1
        simp [b_beat_of_1, mem_ints, h3]
      | false =>
        have h2 : wouldDo b r m.vs m.hs = false := by rw [h1] at hc; simpa using hc
        have h3 : r ∉ off := by simpa using h1
        simp [b_beat_of_1, mem_ints, h3, hw, h2]
theorem ask_fit {b : Bk} {off : List Int} : ∀ (l : List Int) (m : Mid3), Fit b m.vs m.hs → Fit b (l.foldl (ask b off) m).vs (l.foldl (ask b off) m).hs
  | [], m, f => f
  | r :: l, m, f => by
    rw [List.foldl_cons]
    refine ask_fit l _ ?_
    unfold ask
    split
    · exact ⟨by show List.length _ = _; rw [chg_len]; exact f.v, by show List.length _ = _; rw [wak_len, hus_len]; exact f.h⟩
    · exact f
theorem e_beat_of {b : Bk} (hb : b.Ok) {s : Sta} (hs : StOk b s) {order off : List Int} (ho : ∀ r ∈ order, Ix b.ru.length r) (hl : order.length ≤ 1000) (S : Sto) :
    pureR (f_beat_of [b.W, stW s, tpI order, tpI off] []) S = .ok (.tup [tpI (beatOf b s order off).1, stW (beatOf b s order off).2]) S := by
  have f : Fit b s.1 s.2 := ⟨hs.l1, hs.l2⟩
  obtain ⟨x', e⟩ := beat_loop hb (stW s) (tpI order) (off := off) order ⟨s.1, s.2, []⟩ none ho f (by simpa using hl)
  have f2 := ask_fit (off := off) order ⟨s.1, s.2, []⟩ f
  have hlim : (order.foldl (ask b off) ⟨s.1, s.2, []⟩).hs.length ≤ limit := by rw [f2.h]; exact l_small hb.n
  have a0 : L2.atI [tpI s.1, tpI s.2] 0 = some (tpI s.1) := by simp [L2.atI, L2.ixN]
  have a1 : L2.atI [tpI s.1, tpI s.2] 1 = some (tpI s.2) := by simp [L2.atI, L2.ixN]
  have gs0 : getIx (stW s) (.int 0) = some (tpI s.1) := a0
  have gs1 : getIx (stW s) (.int 1) = some (tpI s.2) := a1
  have ee := e_ended (order.foldl (ask b off) ⟨s.1, s.2, []⟩).vs (order.foldl (ask b off) ⟨s.1, s.2, []⟩).hs hlim
  have l0 : 0 ≤ limit := Nat.zero_le _
  have l2 : 2 ≤ limit := by unfold limit; omega
  simp at e
  simp [f_beat_of, startW, gs0, gs1, e, l0, l2, ee, beatOf]
end SP

set_option Elab.async false
set_option linter.all false
/-! M1: what comes of a step told again and again, on finitely many things. -/
namespace SP
def itr {α : Type} (f : α → α) : Nat → α → α
  | 0, s => s
  | n + 1, s => f (itr f n s)
theorem itr_add {α : Type} (f : α → α) (s : α) (m : Nat) : ∀ n, itr f (m + n) s = itr f n (itr f m s)
  | 0 => rfl
  | n + 1 => by show f (itr f (m + n) s) = f (itr f n (itr f m s)); rw [itr_add f s m n]
theorem itr_comm {α : Type} (f : α → α) (s : α) (n : Nat) : itr f n (f s) = f (itr f n s) := by
  have := itr_add f s 1 n
  rw [Nat.add_comm] at this
  exact this.symm
/-- the states of a run up to where it comes round: the n-th is known to come again at bg -/
structure Trk {α : Type} (f : α → α) (s : α) (sts : List α) (bg : Nat) : Prop where
  lt : bg < sts.length
  at_ : ∀ i, i < sts.length → sts[i]? = some (itr f i s)
  nd : sts.Nodup
  back : itr f sts.length s = itr f bg s
def spot (bg len n : Nat) : Nat := if n < bg then n else bg + (n - bg) % len
section
variable {α : Type} {f : α → α} {s : α} {sts : List α} {bg : Nat}
theorem Trk.len0 (t : Trk f s sts bg) : 0 < sts.length - bg := by have := t.lt; omega
theorem Trk.step (t : Trk f s sts bg) (n : Nat) (h : bg ≤ n) : itr f (n + (sts.length - bg)) s = itr f n s := by
  have e : n + (sts.length - bg) = sts.length + (n - bg) := by have := t.lt; omega
  rw [e, itr_add, t.back, ← itr_add]
  congr 1; omega
theorem Trk.rounds (t : Trk f s sts bg) (n : Nat) (h : bg ≤ n) : ∀ k, itr f (n + k * (sts.length - bg)) s = itr f n s
  | 0 => by rw [Nat.zero_mul]; rfl
  | k + 1 => by
    have e : n + (k + 1) * (sts.length - bg) = (n + k * (sts.length - bg)) + (sts.length - bg) := by rw [Nat.add_mul, Nat.one_mul]; omega
    rw [e, t.step _ (by omega), t.rounds n h k]
theorem Trk.spot_lt (t : Trk f s sts bg) (n : Nat) : spot bg (sts.length - bg) n < sts.length := by
  have h1 := t.lt
  unfold spot
  split
  · omega
  · have := Nat.mod_lt (n - bg) t.len0; omega
theorem Trk.spot_at (t : Trk f s sts bg) (n : Nat) : itr f (spot bg (sts.length - bg) n) s = itr f n s := by
  unfold spot
  split
  · rfl
  · rename_i h
    have e : n = (bg + (n - bg) % (sts.length - bg)) + ((n - bg) / (sts.length - bg)) * (sts.length - bg) := by
      have := Nat.div_add_mod (n - bg) (sts.length - bg)
      rw [Nat.mul_comm] at this
      omega
    have := t.rounds (bg + (n - bg) % (sts.length - bg)) (by omega) ((n - bg) / (sts.length - bg))
    rw [← e] at this
    exact this.symm
theorem Trk.get (t : Trk f s sts bg) (n : Nat) : sts[spot bg (sts.length - bg) n]? = some (itr f n s) := by
  rw [t.at_ _ (t.spot_lt n), t.spot_at n]
theorem Trk.inj (t : Trk f s sts bg) {i j : Nat} (hi : i < sts.length) (hj : j < sts.length) (e : itr f i s = itr f j s) : i = j := by
  have h1 := t.at_ i hi
  have h2 := t.at_ j hj
  exact (List.getElem?_inj hi t.nd).mp (by rw [h1, h2, e])
theorem Trk.uniq {sts' : List α} {bg' : Nat} (t : Trk f s sts bg) (t' : Trk f s sts' bg') : sts = sts' ∧ bg = bg' := by
  have key : ∀ {sts sts' : List α} {bg bg' : Nat}, Trk f s sts bg → Trk f s sts' bg' → ¬ sts.length < sts'.length := by
    intro sts sts' bg bg' t t' hl
    have := t'.inj (i := sts.length) (j := bg) hl (Nat.lt_trans t.lt hl) t.back
    have := t.lt
    omega
  have hl : sts.length = sts'.length := by
    have := key t t'; have := key t' t; omega
  have hs : sts = sts' := by
    apply List.ext_getElem? 
    intro i
    by_cases hi : i < sts.length
    · rw [t.at_ i hi, t'.at_ i (by omega)]
    · rw [List.getElem?_eq_none (by omega), List.getElem?_eq_none (by omega)]
  subst hs
  refine ⟨rfl, t.inj t.lt t'.lt ?_⟩
  rw [← t.back, ← t'.back]
end
/-- pigeons -/
theorem nd_len : ∀ (l D : List Nat), l.Nodup → (∀ x ∈ l, x ∈ D) → l.length ≤ D.length
  | [], _, _, _ => Nat.zero_le _
  | x :: l, D, hn, hs => by
    obtain ⟨h1, h2⟩ := List.nodup_cons.mp hn
    have hx : x ∈ D := hs x (List.mem_cons_self ..)
    have ih := nd_len l (D.erase x) h2 fun y hy => by
      have hne : y ≠ x := fun e => h1 (e ▸ hy)
      exact (List.mem_erase_of_ne hne).2 (hs y (List.mem_cons_of_mem _ hy))
    have e := List.length_erase_of_mem hx
    have hp : 0 < D.length := List.length_pos_of_mem hx
    rw [List.length_cons]
    omega
theorem nd_code {α : Type} (c : α → Nat) (N : Nat) {l : List α} (hn : l.Nodup) (hc : ∀ x ∈ l, c x < N) (hi : ∀ x ∈ l, ∀ y ∈ l, c x = c y → x = y) : l.length ≤ N := by
  have h1 : (l.map c).Nodup := by
    rw [List.nodup_iff_pairwise_ne] at hn ⊢
    rw [List.pairwise_map]
    exact List.Pairwise.imp_of_mem (fun {a b} ha hb hab e => hab (hi a ha b hb e)) hn
  have := nd_len (l.map c) (List.range N) h1 fun x hx => by
    obtain ⟨a, ha, rfl⟩ := List.mem_map.mp hx
    exact List.mem_range.mpr (hc a ha)
  simpa using this
end SP

set_option Elab.async false
set_option linter.all false
set_option maxRecDepth 100000
set_option maxHeartbeats 4000000
/-! S5: beats lead from states to states; there are few states. -/
namespace SP
open PySem DL
theorem gi_seti {xs : List Int} {i j v : Int} (hi : Ix xs.length i) (hj : 0 ≤ j) : gi (seti xs i v) j = if j = i then v else gi xs j := by
  obtain ⟨h0, h1⟩ := hi
  unfold gi seti
  rw [List.getD_eq_getElem?_getD, List.getD_eq_getElem?_getD, List.getElem?_set]
  by_cases e : j = i
  · subst e
    rw [if_pos rfl, if_pos rfl, if_pos (by omega)]; rfl
  · rw [if_neg e, if_neg (by omega)]
structure MidOk (b : Bk) (m : Mid3) : Prop where
  f : Fit b m.vs m.hs
  v : ∀ i, Ix b.wh.length i → 0 ≤ gi m.vs i ∧ gi m.vs i < gi b.wh i
  h : ∀ h ∈ m.hs, 0 ≤ h ∧ h ≤ 3
theorem chg_vals {wh : List Int} (hw : WhOk wh) : ∀ (l : List Chg) (vs : List Int), (∀ c ∈ l, c.Ok wh) → vs.length = wh.length → (∀ i, Ix wh.length i → 0 ≤ gi vs i ∧ gi vs i < gi wh i) → ∀ i, Ix wh.length i → 0 ≤ gi (l.foldl (Chg.do wh) vs) i ∧ gi (l.foldl (Chg.do wh) vs) i < gi wh i
  | [], vs, _, _, h => h
  | c :: l, vs, hc, hv, h => by
    rw [List.foldl_cons]
    have h0 := hc c (List.mem_cons_self ..)
    have hx : Ix vs.length c.w := by rw [hv]; exact h0.1
    have hp := prod_gi hw h0.1
    refine chg_vals hw l _ (fun c h => hc c (List.mem_cons_of_mem _ h)) (by unfold Chg.do; rw [seti_len]; exact hv) fun i hi => ?_
    unfold Chg.do
    rw [gi_seti hx hi.1]
    split
    · rename_i e
      subst e
      split
      · exact h0.2
      · exact ⟨Int.emod_nonneg _ (by omega), Int.emod_lt_of_pos _ (by omega)⟩
    · exact h i hi
theorem mem_seti {xs : List Int} {i v x : Int} (h : x ∈ seti xs i v) : x ∈ xs ∨ x = v := List.mem_or_eq_of_mem_set h
theorem gi_mem {xs : List Int} {i : Int} (h : Ix xs.length i) : gi xs i ∈ xs := by
  obtain ⟨h0, h1⟩ := h
  unfold gi
  rw [List.getD_eq_getElem?_getD, List.getElem?_eq_getElem (by omega)]
  exact List.getElem_mem _
theorem hus_vals {n : Nat} : ∀ (l : List (Int × Int)) (hs : List Int), (∀ p ∈ l, Ix n p.1 ∧ 1 ≤ p.2 ∧ p.2 ≤ 3) → hs.length = n → (∀ h ∈ hs, 0 ≤ h ∧ h ≤ 3) → ∀ h ∈ husDo hs l, 0 ≤ h ∧ h ≤ 3
  | [], hs, _, _, h => h
  | p :: l, hs, hp, hl, h => by
    have h0 := hp p (List.mem_cons_self ..)
    refine hus_vals l (seti hs p.1 (max (gi hs p.1) p.2)) (fun q hq => hp q (List.mem_cons_of_mem _ hq)) (by rw [seti_len]; exact hl) fun x hx => ?_
    rcases mem_seti hx with hx | hx
    · exact h x hx
    · have := h _ (gi_mem (by rw [hl]; exact h0.1))
      omega
theorem wak_vals : ∀ (l : List Int) (hs : List Int), (∀ h ∈ hs, 0 ≤ h ∧ h ≤ 3) → ∀ h ∈ wakDo hs l, 0 ≤ h ∧ h ≤ 3
  | [], hs, h => h
  | p :: l, hs, h => by
    refine wak_vals l (seti hs p 0) fun x hx => ?_
    rcases mem_seti hx with hx | hx
    · exact h x hx
    · omega
theorem ask_ok {b : Bk} (hb : b.Ok) {off : List Int} : ∀ (l : List Int) (m : Mid3), (∀ r ∈ l, Ix b.ru.length r) → MidOk b m → MidOk b (l.foldl (ask b off) m)
  | [], m, _, f => f
  | r :: l, m, hr, f => by
    rw [List.foldl_cons]
    refine ask_ok hb l _ (fun q h => hr q (List.mem_cons_of_mem _ h)) ?_
    have hk := rule_ok hb (hr r (List.mem_cons_self ..))
    unfold ask
    split
    · exact ⟨⟨by show List.length _ = _; rw [chg_len]; exact f.f.v, by show List.length _ = _; rw [wak_len, hus_len]; exact f.f.h⟩, chg_vals hb.w _ _ hk.c f.f.v f.v, wak_vals _ _ (hus_vals _ _ hk.h f.f.h f.h)⟩
    · exact f
theorem beatOf_ok {b : Bk} (hb : b.Ok) {s : Sta} (hs : StOk b s) {order off : List Int} (ho : ∀ r ∈ order, Ix b.ru.length r) : StOk b (beatOf b s order off).2 := by
  have m := ask_ok hb (off := off) order ⟨s.1, s.2, []⟩ ho ⟨⟨hs.l1, hs.l2⟩, hs.m1, fun h hh => by have := hs.m2 h hh; exact ⟨this.1, by omega⟩⟩
  refine ⟨m.f.v, m.v, ?_, ?_⟩
  · show (less _).length = _
    unfold less
    rw [List.length_map]; exact m.f.h
  · intro h hh
    obtain ⟨x, hx, rfl⟩ := List.mem_map.mp hh
    have := m.h x hx
    omega
theorem own_ix (b : Bk) : ∀ r ∈ own b, Ix b.ru.length r := by
  intro r hr
  obtain ⟨i, hi, rfl⟩ := List.mem_map.mp hr
  have := List.mem_range.mp hi
  exact ⟨by omega, by omega⟩
theorem own_len (b : Bk) : (own b).length = b.ru.length := by unfold own; rw [List.length_map, List.length_range]
/-! ### there are few states -/
def cod : List Int → List Int → Nat
  | w :: ws, v :: vs => v.toNat + w.toNat * cod ws vs
  | _, _ => 0
theorem cod_lt : ∀ (ws vs : List Int), vs.length = ws.length → (∀ i, Ix ws.length i → 0 ≤ gi vs i ∧ gi vs i < gi ws i) → cod ws vs < (ws.map Int.toNat).prod ∨ (ws.map Int.toNat).prod = 0
  | [], [], _, _ => .inl (by decide)
  | [], _ :: _, h, _ => by simp at h
  | _ :: _, [], h, _ => by simp at h
  | w :: ws, v :: vs, hl, h => by
    have h0 := h 0 ⟨by omega, by simp <;> omega⟩
    simp [gi] at h0
    have ih := cod_lt ws vs (by simpa using hl) fun i hi => by
      have := h (i + 1) ⟨by have := hi.1; omega, by have := hi.2; simp <;> omega⟩
      unfold gi at this ⊢
      rw [show (i + 1).toNat = i.toNat + 1 by have := hi.1; omega] at this
      simpa using this
    rw [List.map_cons, List.prod_cons]
    rcases ih with ih | ih
    · refine .inl ?_
      show v.toNat + w.toNat * cod ws vs < _
      have : w.toNat * (cod ws vs + 1) ≤ w.toNat * (ws.map Int.toNat).prod := Nat.mul_le_mul_left _ ih
      rw [Nat.mul_add, Nat.mul_one] at this
      omega
    · refine .inr ?_
      rw [ih, Nat.mul_zero]
theorem cod_inj : ∀ (ws vs us : List Int), vs.length = ws.length → us.length = ws.length → (∀ i, Ix ws.length i → 0 ≤ gi vs i ∧ gi vs i < gi ws i) → (∀ i, Ix ws.length i → 0 ≤ gi us i ∧ gi us i < gi ws i) → cod ws vs = cod ws us → vs = us
  | [], [], [], _, _, _, _, _ => rfl
  | [], _ :: _, _, h, _, _, _, _ => by simp at h
  | [], _, _ :: _, _, h, _, _, _ => by simp at h
  | _ :: _, [], _, h, _, _, _, _ => by simp at h
  | _ :: _, _, [], _, h, _, _, _ => by simp at h
  | w :: ws, v :: vs, u :: us, hl, hl', h, h', e => by
    have h0 := h 0 ⟨by omega, by simp <;> omega⟩
    have h1 := h' 0 ⟨by omega, by simp <;> omega⟩
    simp [gi] at h0 h1
    have sub : ∀ (v : Int) (vs : List Int), (∀ i, Ix (w :: ws).length i → 0 ≤ gi (v :: vs) i ∧ gi (v :: vs) i < gi (w :: ws) i) → ∀ i, Ix ws.length i → 0 ≤ gi vs i ∧ gi vs i < gi ws i := fun v vs h i hi => by
      have := h (i + 1) ⟨by have := hi.1; omega, by have := hi.2; simp <;> omega⟩
      unfold gi at this ⊢
      rw [show (i + 1).toNat = i.toNat + 1 by have := hi.1; omega] at this
      simpa using this
    replace e : v.toNat + w.toNat * cod ws vs = u.toNat + w.toNat * cod ws us := e
    have hw : 0 < w.toNat := by omega
    have em : (v.toNat + w.toNat * cod ws vs) % w.toNat = (u.toNat + w.toNat * cod ws us) % w.toNat := by rw [e]
    rw [Nat.add_mul_mod_self_left, Nat.add_mul_mod_self_left, Nat.mod_eq_of_lt (by omega), Nat.mod_eq_of_lt (by omega)] at em
    have ed : w.toNat * cod ws vs = w.toNat * cod ws us := by omega
    have ed := Nat.eq_of_mul_eq_mul_left hw ed
    rw [cod_inj ws vs us (by simpa using hl) (by simpa using hl') (sub v vs h) (sub u us h') ed, show v = u by omega]
def stCod (b : Bk) (s : Sta) : Nat := cod b.wh s.1 + 24 * cod (b.ru.map fun _ => 3) s.2
theorem prod_nat {wh : List Int} (h : WhOk wh) : (wh.map Int.toNat).prod ≤ 24 := by
  have key : ∀ l : List Int, (∀ x ∈ l, 2 ≤ x ∧ x ≤ 4) → ((l.map Int.toNat).prod : Int) = l.prod := by
    intro l
    induction l with
    | nil => intro _; rfl
    | cons a l ih =>
      intro h
      have := h a (List.mem_cons_self ..)
      rw [List.map_cons, List.prod_cons, List.prod_cons, Int.natCast_mul, ih fun x hx => h x (List.mem_cons_of_mem _ hx)]
      congr 1
      omega
  have h1 := key wh h.m
  have h2 := h.p
  omega
theorem prod_pos {wh : List Int} (h : WhOk wh) : 0 < (wh.map Int.toNat).prod := by
  have key : ∀ l : List Int, (∀ x ∈ l, 2 ≤ x ∧ x ≤ 4) → 0 < (l.map Int.toNat).prod := by
    intro l
    induction l with
    | nil => intro _; decide
    | cons a l ih =>
      intro h
      have := h a (List.mem_cons_self ..)
      rw [List.map_cons, List.prod_cons]
      exact Nat.mul_pos (by omega) (ih fun x hx => h x (List.mem_cons_of_mem _ hx))
  exact key wh h.m
theorem gi_three {n : Nat} {l : List Rul} (hn : l.length = n) {i : Int} (hi : Ix n i) : gi (l.map fun _ => (3 : Int)) i = 3 := by
  obtain ⟨h0, h1⟩ := hi
  unfold gi
  rw [List.getD_eq_getElem?_getD, List.getElem?_eq_getElem (by rw [List.length_map]; omega), List.getElem_map]; rfl
theorem three_prod (l : List Rul) : ((l.map fun _ => (3 : Int)).map Int.toNat).prod = 3 ^ l.length := by
  induction l with
  | nil => rfl
  | cons a l ih => rw [List.map_cons, List.map_cons, List.prod_cons, ih, List.length_cons, Nat.pow_succ, Nat.mul_comm]; rfl
theorem hus_fit {b : Bk} {s : Sta} (h : StOk b s) : ∀ i, Ix (b.ru.map fun _ => (3 : Int)).length i → 0 ≤ gi s.2 i ∧ gi s.2 i < gi (b.ru.map fun _ => (3 : Int)) i := fun i hi => by
  rw [List.length_map] at hi
  rw [gi_three rfl hi]
  have := h.m2 _ (gi_mem (by rw [h.l2]; exact hi))
  omega
theorem stCod_lt {b : Bk} (hb : b.Ok) {s : Sta} (h : StOk b s) : stCod b s < 5832 := by
  have h1 : cod b.wh s.1 < 24 := by
    have := prod_nat hb.w
    have hp := prod_pos hb.w
    rcases cod_lt b.wh s.1 h.l1 h.m1 with h | h <;> omega
  have h2 : cod (b.ru.map fun _ => 3) s.2 < 243 := by
    have := cod_lt (b.ru.map fun _ => (3 : Int)) s.2 (by rw [List.length_map]; exact h.l2) (hus_fit h)
    rw [three_prod] at this
    have : 3 ^ b.ru.length ≤ 3 ^ 5 := Nat.pow_le_pow_right (by omega) hb.n
    have : 0 < 3 ^ b.ru.length := Nat.pow_pos (by omega)
    omega
  unfold stCod
  omega
theorem stCod_inj {b : Bk} (hb : b.Ok) {s t : Sta} (h : StOk b s) (h' : StOk b t) (e : stCod b s = stCod b t) : s = t := by
  have lt : ∀ {s : Sta}, StOk b s → cod b.wh s.1 < 24 := fun {s} h => by
    have := prod_nat hb.w
    have hp := prod_pos hb.w
    rcases cod_lt b.wh s.1 h.l1 h.m1 with h | h <;> omega
  have l1 := lt h
  have l2 := lt h'
  unfold stCod at e
  have e1 : cod b.wh s.1 = cod b.wh t.1 := by omega
  have e2 : cod (b.ru.map fun _ => 3) s.2 = cod (b.ru.map fun _ => 3) t.2 := by omega
  have a1 := cod_inj b.wh _ _ h.l1 h'.l1 h.m1 h'.m1 e1
  have a2 := cod_inj (b.ru.map fun _ => (3 : Int)) _ _ (by rw [List.length_map]; exact h.l2) (by rw [List.length_map]; exact h'.l2) (hus_fit h) (hus_fit h') e2
  exact Prod.ext a1 a2
theorem few {b : Bk} (hb : b.Ok) {l : List Sta} (hn : l.Nodup) (h : ∀ s ∈ l, StOk b s) : l.length ≤ 5832 :=
  nd_code (stCod b) 5832 hn (fun s hs => stCod_lt hb (h s hs)) fun s hs t ht e => stCod_inj hb (h s hs) (h t ht) e
end SP

set_option Elab.async false
set_option linter.all false
set_option maxRecDepth 100000
set_option maxHeartbeats 4000000
/-! S6: a run's track. -/
namespace SP
open PySem DL
def tst (b : Bk) (off : List Int) (s : Sta) : Sta := (beatOf b s (own b) off).2
def tdn (b : Bk) (off : List Int) (s : Sta) : List Int := (beatOf b s (own b) off).1
def trW (sts : List Sta) (dds : List (List Int)) (bg : Nat) : W := .ins 1 [(2, .lst (sts.map stW)), (3, .lst (dds.map fun d => tpI d)), (4, .int bg), (5, .int ((sts.length : Int) - bg))]
theorem tst_ok {b : Bk} (hb : b.Ok) {off : List Int} {s : Sta} (h : StOk b s) : StOk b (tst b off s) := beatOf_ok hb h (own_ix b)
theorem itr_ok {b : Bk} (hb : b.Ok) {off : List Int} {s : Sta} (h : StOk b s) : ∀ n, StOk b (itr (tst b off) n s)
  | 0 => h
  | n + 1 => tst_ok hb (itr_ok hb h n)
theorem eqv_st (a b : Sta) : W.eqv (stW a) (stW b) = decide (a = b) := by
  show (W.eqvL _ _ && (W.eqvL _ _ && true)) = _
  rw [eqvL_ints, eqvL_ints, Bool.and_true]
  obtain ⟨a1, a2⟩ := a
  obtain ⟨b1, b2⟩ := b
  by_cases h1 : a1 = b1
  · by_cases h2 : a2 = b2
    · subst h1; subst h2; simp
    · have e : (a2 == b2) = false := by simpa using h2
      simp [h1, h2, e]
  · have e : (a1 == b1) = false := by simpa using h1
    simp [h1, e]
theorem keyL_ints (n : Nat) : ∀ l : List Int, W.keyOkL n (l.map W.int) = true
  | [] => rfl
  | a :: l => by show (W.keyOk n (.int a) && W.keyOkL n (l.map W.int)) = true; rw [keyL_ints n l]; cases n <;> rfl
@[simp] theorem key_st (s : Sta) : isKey (stW s) = true := by
  show (W.keyOkL 6 _ && (W.keyOkL 6 _ && true)) = true
  rw [keyL_ints, keyL_ints]; rfl
/-- the dict of places -/
def kvs (k : Nat) : List Sta → List (W × W)
  | [] => []
  | s :: l => (stW s, .int k) :: kvs (k + 1) l
theorem look_kvs (s : Sta) : ∀ (l : List Sta) (k : Nat), lookD (stW s) (kvs k l) = if s ∈ l then some (.int ((k + l.idxOf s : Nat) : Int)) else none
  | [], k => rfl
  | t :: l, k => by
    show (if W.eqv (stW t) (stW s) then some (W.int k) else lookD (stW s) (kvs (k + 1) l)) = _
    rw [eqv_st, look_kvs s l (k + 1)]
    by_cases h : t = s
    · subst h
      simp
    · rw [List.idxOf_cons]
      have h2 : ¬ s = t := fun e => h e.symm
      have h3 : (t == s) = false := by simpa using h
      simp [h, h2, h3]
      by_cases hm : s ∈ l
      · simp [hm]; omega
      · simp [hm]
theorem kvs_app (s : Sta) : ∀ (l : List Sta) (k : Nat), kvs k (l ++ [s]) = kvs k l ++ [(stW s, .int ((k + l.length : Nat) : Int))]
  | [], k => rfl
  | t :: l, k => by
    rw [List.cons_append]
    show _ :: kvs (k + 1) (l ++ [s]) = _ :: (kvs (k + 1) l ++ _)
    rw [kvs_app s l (k + 1), List.length_cons]
    rw [show k + 1 + l.length = k + (l.length + 1) by omega]
theorem kvs_len : ∀ (l : List Sta) (k : Nat), (kvs k l).length = l.length
  | [], _ => rfl
  | _ :: l, k => by show (kvs (k + 1) l).length + 1 = _; rw [kvs_len l]; rfl
theorem put_kvs {s : Sta} {l : List Sta} (h : s ∉ l) : putD (stW s) (.int l.length) (kvs 0 l) = kvs 0 (l ++ [s]) := by
  unfold putD
  rw [look_kvs, if_neg h, kvs_app, Nat.zero_add]
  rfl
def trS (vis : List Sta) (dds : List (List Int)) : Sto := [.obj 1 [(2, .loc 1), (3, .loc 2)], .lst (vis.map stW), .lst (dds.map fun d => tpI d), .dic (kvs 0 vis)]
theorem own_le {b : Bk} (hb : b.Ok) : (own b).length ≤ 1000 := by rw [own_len]; have := hb.n; omega
theorem track_loop {b : Bk} (hb : b.Ok) {off : List Int} {s : Sta} (hs : StOk b s) : ∀ (n : Nat) (vis : List Sta) (x : Option W), vis.Nodup → (∀ i, i < vis.length → vis[i]? = some (itr (tst b off) i s)) → 5834 ≤ n + vis.length →
    ∃ sts bg x', Trk (tst b off) s sts bg ∧ whileM (bDIn true (mVar 2) (mVar 5)) b_Track___init___1 n [some (.loc 0), some b.W, some (stW (itr (tst b off) vis.length s)), some (tpI off), some (tpI (own b)), some (.loc 3), x] (trS vis (vis.map (tdn b off))) =
      .nx [some (.loc 0), some b.W, some (stW (itr (tst b off) bg s)), some (tpI off), some (tpI (own b)), some (.loc 3), x'] (trS sts (sts.map (tdn b off)))
  | 0, vis, x, hn, hv, hl => by
    exfalso
    have := few hb hn fun t ht => by
      obtain ⟨i, hi, e⟩ := List.getElem_of_mem ht
      have := hv i hi
      rw [List.getElem?_eq_getElem hi] at this
      rw [← e, Option.some.inj this]; exact itr_ok hb hs i
    omega
  | n + 1, vis, x, hn, hv, hl => by
    have hfew := few hb hn fun t ht => by
      obtain ⟨i, hi, e⟩ := List.getElem_of_mem ht
      have := hv i hi
      rw [List.getElem?_eq_getElem hi] at this
      rw [← e, Option.some.inj this]; exact itr_ok hb hs i
    have hlk := look_kvs (itr (tst b off) vis.length s) vis 0
    by_cases hm : itr (tst b off) vis.length s ∈ vis
    · have hlt := List.idxOf_lt_length_of_mem hm
      have hg := hv _ hlt
      rw [List.getElem?_eq_getElem hlt, List.getElem_idxOf hlt] at hg
      have hg := Option.some.inj hg
      refine ⟨vis, vis.idxOf (itr (tst b off) vis.length s), x, ⟨hlt, hv, hn, hg⟩, ?_⟩
      rw [if_pos hm] at hlk
      rw [← hg]
      unfold whileM
      simp [dinR, dicOf, trS, hlk]
    · have hv2 : ∀ i, i < (vis ++ [itr (tst b off) vis.length s]).length → (vis ++ [itr (tst b off) vis.length s])[i]? = some (itr (tst b off) i s) := fun i hi => by
        rw [List.length_append, List.length_singleton] at hi
        by_cases h : i < vis.length
        · rw [List.getElem?_append_left h]; exact hv i h
        · have e : i = vis.length := by omega
          subst e
          rw [List.getElem?_append_right (Nat.le_refl _), Nat.sub_self]; rfl
      have hn2 : (vis ++ [itr (tst b off) vis.length s]).Nodup := by
        rw [List.nodup_append]
        exact ⟨hn, by simp, fun a ha c hc e => by
          have : c = itr (tst b off) vis.length s := by simpa using hc
          exact hm (by rw [← this, ← e]; exact ha)⟩
      obtain ⟨sts, bg, x', ht, e⟩ := track_loop hb hs n (vis ++ [itr (tst b off) vis.length s]) (some (tpI (tdn b off (itr (tst b off) vis.length s)))) hn2 hv2 (by rw [List.length_append, List.length_singleton]; omega)
      refine ⟨sts, bg, x', ht, ?_⟩
      rw [← e]
      rw [if_neg hm] at hlk
      have hbt := e_beat_of (off := off) hb (itr_ok hb hs (off := off) vis.length) (own_ix b) (own_le hb)
      have h1 : vis.length < limit := by unfold limit; omega
      have hk : (kvs 0 vis).length < limit := by rw [kvs_len]; exact h1
      have hp := put_kvs hm
      conv => lhs; unfold whileM
      simp [dinR, dicOf, trS, hlk, b_Track___init___1, dputR, hk, hp, getFld, isCell, appR, h1, hbt]
      rfl
end SP

set_option Elab.async false
set_option linter.all false
set_option maxRecDepth 100000
set_option maxHeartbeats 4000000
/-! S7: runs. -/
namespace SP
open PySem DL
open Classical in
noncomputable def trk (b : Bk) (off : List Int) (s : Sta) : List Sta × Nat := if h : ∃ p : List Sta × Nat, Trk (tst b off) s p.1 p.2 then Classical.choose h else ([], 0)
theorem trk_of {b : Bk} {off : List Int} {s : Sta} {sts : List Sta} {bg : Nat} (t : Trk (tst b off) s sts bg) : trk b off s = (sts, bg) := by
  have h : ∃ p : List Sta × Nat, Trk (tst b off) s p.1 p.2 := ⟨(sts, bg), t⟩
  unfold trk
  rw [dif_pos h]
  obtain ⟨e1, e2⟩ := (Classical.choose_spec h).uniq t
  exact Prod.ext e1 e2
theorem track_init {b : Bk} (hb : b.Ok) {off : List Int} {s : Sta} (hs : StOk b s) : ∃ sts bg, Trk (tst b off) s sts bg ∧ ∀ S, makeZR 1 f_Track___init__ [b.W, stW s, tpI off] S = .ok (trW sts (sts.map (tdn b off)) bg) S := by
  obtain ⟨sts, bg, x', t, e⟩ := track_loop hb (off := off) hs 10000 [] none List.nodup_nil (fun i hi => by simp at hi) (by decide)
  refine ⟨sts, bg, t, fun S => ?_⟩
  have eo := e_own hb
  have l0 : 0 ≤ limit := Nat.zero_le _
  have hlk := look_kvs (itr (tst b off) bg s) sts 0
  have hg := t.at_ bg t.lt
  have hm : itr (tst b off) bg s ∈ sts := List.mem_of_getElem? hg
  have hix : sts.idxOf (itr (tst b off) bg s) = bg := by
    have h1 := List.idxOf_lt_length_of_mem hm
    have h2 := t.at_ _ h1
    rw [List.getElem?_eq_getElem h1, List.getElem_idxOf h1] at h2
    exact (t.inj t.lt h1 (Option.some.inj h2)).symm
  rw [if_pos hm, hix, Nat.zero_add] at hlk
  have e2 : (sWhile 10000 (bDIn true (mVar 2) (mVar 5)) b_Track___init___1) [some (.loc 0), some b.W, some (stW s), some (tpI off), some (tpI (own b)), some (.loc 3), none] [.obj 1 [(2, .loc 1), (3, .loc 2)], .lst [], .lst [], .dic []] = _ := e
  have hF : f_Track___init__ [.loc 0, b.W, stW s, tpI off] [.obj 1 []] = .ok .non [.obj 1 [(2, .loc 1), (3, .loc 2), (4, .int bg), (5, .int ((sts.length : Int) - bg))], .lst (sts.map stW), .lst ((sts.map (tdn b off)).map fun d => tpI d), .dic (kvs 0 sts)] := by
    simp [f_Track___init__, startW, setFldR, putFN, l0, eo, e2]
    simp [trS, setFldR, putFN, dgetR, dicOf, hlk, getFld]
  unfold makeZR
  rw [hF]
  have hn2 : nlL (sts.map ((fun d => tpI d) ∘ tdn b off)) = true := nl_map (fun d => by simp) _
  simp [frzFs, frzW, trW, hn2]
theorem trk_spec {b : Bk} (hb : b.Ok) {off : List Int} {s : Sta} (hs : StOk b s) : Trk (tst b off) s (trk b off s).1 (trk b off s).2 := by
  obtain ⟨sts, bg, t, _⟩ := track_init hb (off := off) hs
  rw [trk_of t]; exact t
noncomputable def trO (b : Bk) (off : List Int) (s : Sta) : W := trW (trk b off s).1 ((trk b off s).1.map (tdn b off)) (trk b off s).2
theorem e_Track {b : Bk} (hb : b.Ok) {off : List Int} {s : Sta} (hs : StOk b s) (S : Sto) : makeZR 1 f_Track___init__ [b.W, stW s, tpI off] S = .ok (trO b off s) S := by
  obtain ⟨sts, bg, t, e⟩ := track_init hb (off := off) hs
  unfold trO
  rw [trk_of t]; exact e S
@[simp] theorem nl_tr (b : Bk) (off : List Int) (s : Sta) : (trO b off s).nl = true := by
  have hn : ∀ l : List Sta, nlL (l.map ((fun d => tpI d) ∘ tdn b off)) = true := fun l => nl_map (fun d => by simp) _
  simp [trO, trW, hn]
@[simp] theorem is_tr (b : Bk) (off : List Int) (s : Sta) : isIns 1 (trO b off s) = true := rfl
@[simp] theorem dd_tr (S : Sto) (b : Bk) (off : List Int) (s : Sta) : derefF S (trO b off s) = trO b off s := rfl
@[simp] theorem de_tr (S : Sto) (b : Bk) (off : List Int) (s : Sta) : deref S (trO b off s) = trO b off s := rfl
theorem g_states (b : Bk) (off : List Int) (s : Sta) (S : Sto) : getFld S 1 2 (trO b off s) = some (.lst ((trk b off s).1.map stW)) := by simp [trO, trW]
theorem g_deeds (b : Bk) (off : List Int) (s : Sta) (S : Sto) : getFld S 1 3 (trO b off s) = some (.lst (((trk b off s).1.map (tdn b off)).map fun d => tpI d)) := by simp [trO, trW]
theorem g_begin (b : Bk) (off : List Int) (s : Sta) (S : Sto) : getFld S 1 4 (trO b off s) = some (.int (trk b off s).2) := by simp [trO, trW]
theorem g_length (b : Bk) (off : List Int) (s : Sta) (S : Sto) : getFld S 1 5 (trO b off s) = some (.int (((trk b off s).1.length : Int) - (trk b off s).2)) := by simp [trO, trW]
theorem e_track_of {b : Bk} (hb : b.Ok) {off : List Int} (ho : OffOk b off) {s : Sta} (hs : StOk b s) (S : Sto) : pureR (f_track_of [b.W, stW s, tpI off] []) S = .ok (trO b off s) S := by
  simp [f_track_of, startW, e_look_state hb hs, e_look_off hb ho, e_Track hb hs]
theorem e_spot {b : Bk} (hb : b.Ok) {off : List Int} {s : Sta} (hs : StOk b s) (n : Nat) (S : Sto) : pureR (f_Track_spot [trO b off s, .int n] []) S = .ok (.int (spot (trk b off s).2 ((trk b off s).1.length - (trk b off s).2) n)) S := by
  have t := trk_spec hb (off := off) hs
  have h0 := t.lt
  have hp : 0 < (((trk b off s).1.length : Int) - (trk b off s).2) := by omega
  by_cases h : n < (trk b off s).2
  · have h2 : (n : Int) < (trk b off s).2 := by omega
    simp [f_Track_spot, startW, g_begin, h2, spot, h]
  · have h2 : ¬ (n : Int) < (trk b off s).2 := by omega
    have h3 : ((trk b off s).2 : Int) < (trk b off s).1.length := by omega
    simp [f_Track_spot, startW, g_begin, g_length, h2, h3, spot, h]
    rw [show ((n : Int) - (trk b off s).2) = ((n - (trk b off s).2 : Nat) : Int) by omega, show (((trk b off s).1.length : Int) - (trk b off s).2) = (((trk b off s).1.length - (trk b off s).2 : Nat) : Int) by omega]
def MOST : Int := 1000000000000000000000000000000000000000000000000000000000000
theorem e_look_beats {n : Int} (h : 0 ≤ n) (h2 : n < MOST) (S : Sto) : pureR (f_look_beats [.int n] []) S = .ok .non S := by
  unfold MOST at h2
  simp [f_look_beats, startW, e_is_whole, h, h2]
theorem st_at {l : List Sta} {n : Nat} {s : Sta} (h : l[n]? = some s) : L2.atI (l.map stW) (n : Int) = some (stW s) := by
  have hl : n < l.length := (List.getElem?_eq_some_iff.mp h).1
  unfold L2.atI L2.ixN
  rw [if_pos (by omega), if_pos (by rw [List.length_map]; omega)]
  show (l.map stW)[n]? = _
  rw [List.getElem?_map, h]; rfl
theorem e_state_at {b : Bk} (hb : b.Ok) {off : List Int} (ho : OffOk b off) {s : Sta} (hs : StOk b s) {n : Nat} (hn : (n : Int) < MOST) (S : Sto) : pureR (f_state_at [b.W, stW s, .int n, tpI off] []) S = .ok (stW (itr (tst b off) n s)) S := by
  have t := trk_spec hb (off := off) hs
  simp [f_state_at, startW, e_look_state hb hs, e_look_beats (Int.natCast_nonneg n) hn, e_track_of hb ho hs, g_states, e_spot hb hs, st_at (t.get n)]
theorem c_state_at {b : Bk} (hb : b.Ok) {off : List Int} (ho : OffOk b off) {s : Sta} (hs : StOk b s) {n : Nat} (hn : (n : Int) < MOST) (S : Sto) : pureR (c_state_at_3_off [b.W, stW s, .int n] [tpI off] []) S = .ok (stW (itr (tst b off) n s)) S := e_state_at hb ho hs hn S
theorem e_round_of {b : Bk} (hb : b.Ok) {off : List Int} (ho : OffOk b off) {s : Sta} (hs : StOk b s) (S : Sto) : pureR (f_round_of [b.W, stW s, tpI off] []) S = .ok (.tup [.int (trk b off s).2, .int (((trk b off s).1.length : Int) - (trk b off s).2)]) S := by
  have l2 : 2 ≤ limit := by unfold limit; omega
  simp [f_round_of, startW, e_track_of hb ho hs, g_begin, g_length, l2]
end SP

set_option Elab.async false
set_option linter.all false
set_option maxRecDepth 100000
set_option maxHeartbeats 4000000
/-! S8: what the laws draw. -/
namespace SP
open PySem DL
/-- the bag stands in the cell n, at most c numbers were mixed -/
def Bg (n c : Nat) (S : Sto) : Prop := ∃ g b k : Int, S[n]? = some (.lst [.int g, .int b, .int k]) ∧ 0 ≤ k ∧ k ≤ c
/-- all cells below L but n stay -/
def Keep (n L : Nat) (S S' : Sto) : Prop := S.length ≤ S'.length ∧ ∀ i, i < L → i ≠ n → S'[i]? = S[i]?
theorem Keep.refl (n L : Nat) (S : Sto) : Keep n L S S := ⟨Nat.le_refl _, fun _ _ _ => rfl⟩
theorem Keep.trans {n L : Nat} {S S' S'' : Sto} (h : Keep n L S S') (h' : Keep n L S' S'') : Keep n L S S'' := ⟨Nat.le_trans h.1 h'.1, fun i hi hn => (h'.2 i hi hn).trans (h.2 i hi hn)⟩
theorem Keep.mono {n L L' : Nat} {S S' : Sto} (h : Keep n L S S') (hl : L' ≤ L) : Keep n L' S S' := ⟨h.1, fun i hi hn => h.2 i (by omega) hn⟩
theorem Keep.app (n : Nat) (S : Sto) (T : Sto) : Keep n S.length S (S ++ T) := ⟨by rw [List.length_append]; omega, fun i hi _ => List.getElem?_append_left hi⟩
theorem Keep.set (n : Nat) (L : Nat) (S : Sto) (c : Cell) {m : Nat} (h : L ≤ m ∨ m = n) : Keep n L S (S.set m c) := ⟨by rw [List.length_set]; exact Nat.le_refl _, fun i hi hn => List.getElem?_set_ne (by omega)⟩
theorem Bg.lt {n c : Nat} {S : Sto} (h : Bg n c S) : n < S.length := by obtain ⟨g, b, k, e, _⟩ := h; exact (List.getElem?_eq_some_iff.mp e).1
theorem Bg.mono {n c c' : Nat} {S : Sto} (h : Bg n c S) (hc : c ≤ c') : Bg n c' S := by obtain ⟨g, b, k, e, h0, h1⟩ := h; exact ⟨g, b, k, e, h0, by omega⟩
theorem Bg.app {n c : Nat} {S : Sto} (h : Bg n c S) (T : Sto) : Bg n c (S ++ T) := by obtain ⟨g, b, k, e, h0⟩ := h; exact ⟨g, b, k, by rw [List.getElem?_append_left (List.getElem?_eq_some_iff.mp e).1]; exact e, h0⟩
theorem Bg.set {n c : Nat} {S : Sto} (h : Bg n c S) {m : Nat} (hm : m ≠ n) (x : Cell) : Bg n c (S.set m x) := by obtain ⟨g, b, k, e, h0⟩ := h; exact ⟨g, b, k, by rw [List.getElem?_set_ne hm]; exact e, h0⟩
theorem d_take {S : Sto} {n c : Nat} {m : Int} (hB : Bg n c S) (hm : 0 < m) (hm2 : m < divLim) (hc : c < 1000000000) :
    ∃ d S', 0 ≤ d ∧ d < m ∧ f__law_take [.loc n, .int m] S = .ok (.int d) S' ∧ S'.length = S.length ∧ Keep n S.length S S' ∧ Bg n (c + 1) S' := by
  obtain ⟨g, b, k, hS, hk, hkc⟩ := hB
  have hl : n < S.length := (List.getElem?_eq_some_iff.mp hS).1
  have a0 : L2.atI [W.int g, .int b, .int k] 0 = some (.int g) := by simp [L2.atI, L2.ixN]
  have a1 : L2.atI [W.int g, .int b, .int k] 1 = some (.int b) := by simp [L2.atI, L2.ixN]
  have a2 : L2.atI [W.int g, .int b, .int k] 2 = some (.int k) := by simp [L2.atI, L2.ixN]
  by_cases hg : 0 < g
  · refine ⟨g % m, S.set n (.lst [.int (g / m), .int b, .int k]), Int.emod_nonneg _ (by omega), Int.emod_lt_of_pos _ hm, ?_, List.length_set, Keep.set n _ _ _ (.inr rfl), ⟨g / m, b, k, List.getElem?_set_self hl, hk, by omega⟩⟩
    simp [f__law_take, startW, hS, a0, hg, hm, hm2, setIxR, L2.ixN]
  · have m1 : mulOk b 48271 = true := by simp [mulOk]
    have m2 : mulOk 7919 (k + 1) = true := by simp [mulOk]
    have m3 : mulOk (7919 * (k + 1)) (k + 1) = true := by
      have h1 : -(2 ^ 64) < k + 1 := by omega
      have h2 : k + 1 < 2 ^ 64 := by omega
      unfold mulOk
      rw [decide_eq_true h1, decide_eq_true h2]; simp
    have hb1 : 0 ≤ (b * 48271 + 7919 * (k + 1) * (k + 1) + 11) % 2147483647 := Int.emod_nonneg _ (by omega)
    have hb2 : (b * 48271 + 7919 * (k + 1) * (k + 1) + 11) % 2147483647 < 2147483647 := Int.emod_lt_of_pos _ (by omega)
    generalize hbb : (b * 48271 + 7919 * (k + 1) * (k + 1) + 11) % 2147483647 = B at hb1 hb2
    have p1 : (B / 8).natAbs < 18446744073709551616 := by omega
    have d8 : (8 : Int) < divLim := by decide
    have c0 : L2.atI [W.int g, .int b, .int (k + 1)] 1 = some (.int b) := by simp [L2.atI, L2.ixN]
    have c2 : L2.atI [W.int g, .int b, .int (k + 1)] 2 = some (.int (k + 1)) := by simp [L2.atI, L2.ixN]
    have c1 : L2.atI [W.int g, .int B, .int (k + 1)] 1 = some (.int B) := by simp [L2.atI, L2.ixN]
    refine ⟨(B / 8) ^ 3 % 2147483629 % m, S.set n (.lst [.int g, .int B, .int (k + 1)]), Int.emod_nonneg _ (by omega), Int.emod_lt_of_pos _ hm, ?_, List.length_set, Keep.set n _ _ _ (.inr rfl), ⟨g, B, k + 1, List.getElem?_set_self hl, by omega, by omega⟩⟩
    have hset : ∀ c : Cell, (S.set n c)[n]? = some c := fun c => List.getElem?_set_self hl
    simp [f__law_take, startW, hS, a0, a2, hg, hm, setIxR, L2.ixN, hset, m1, m2, m3, hbb, p1, d8, c0, c1, c2]
/-- a comprehension that draws -/
theorem comp_draw {α : Type} {w : α → W} {P : α → Prop} {step : W → Sto → LRes} {n L k : Nat} : ∀ (xs : List W) (acc : List W) (S : Sto) (c : Nat), Bg n c S → L ≤ S.length →
    (∀ x ∈ xs, ∀ S c', Bg n c' S → L ≤ S.length → c' ≤ c + k * xs.length → ∃ y S', P y ∧ step x S = .ok [w y] S' ∧ Keep n L S S' ∧ Bg n (c' + k) S') →
    ∃ (ys : List α) (S' : Sto), ys.length = xs.length ∧ (∀ y ∈ ys, P y) ∧ compM step xs acc S = .ok (acc ++ ys.map w) S' ∧ Keep n L S S' ∧ Bg n (c + k * xs.length) S'
  | [], acc, S, c, hB, _, _ => ⟨[], S, rfl, (fun _ h => nomatch h), by simp, Keep.refl _ _ _, hB⟩
  | x :: xs, acc, S, c, hB, hL, h => by
    obtain ⟨y, S1, hy, e1, k1, b1⟩ := h x (List.mem_cons_self ..) S c hB hL (by omega)
    obtain ⟨ys, S2, hl, hP, e2, k2, b2⟩ := comp_draw (w := w) (P := P) xs (acc ++ [w y]) S1 (c + k) b1 (Nat.le_trans hL k1.1) fun x' hx S' c' hb hl hc => h x' (List.mem_cons_of_mem _ hx) S' c' hb hl (by rw [List.length_cons, Nat.mul_add]; omega)
    refine ⟨y :: ys, S2, by rw [List.length_cons, List.length_cons, hl], fun z hz => ?_, ?_, k1.trans k2, b2.mono (by rw [List.length_cons, Nat.mul_add]; omega)⟩
    · rcases List.mem_cons.mp hz with rfl | hz
      · exact hy
      · exact hP z hz
    · show (step x S).bindL _ = _
      rw [e1]
      show compM step xs (acc ++ [w y]) S1 = _
      rw [e2, List.map_cons, List.append_assoc]; rfl
end SP

set_option Elab.async false
set_option linter.all false
set_option maxRecDepth 100000
set_option maxHeartbeats 4000000
/-! S9: drawn conditions, changes, rules, wheels, books, states. -/
namespace SP
open PySem DL
theorem n3 : (3 : Int) < divLim := by decide
theorem small_div {m : Int} (h : m ≤ 1000000000000) : m < divLim := Int.lt_of_le_of_lt h (by decide)
theorem d_condition {wh : List Int} {n many c : Nat} {S : Sto} (hw : WhOk wh) (hm : 0 < many) (hm2 : many ≤ 5) (hB : Bg n c S) (hc : c ≤ 900000000) :
    ∃ cn S', Cnd.Ok wh many cn ∧ f__law_condition [.loc n, tpI wh, .int many] S = .ok cn.w S' ∧ Keep n S.length S S' ∧ Bg n (c + 3) S' := by
  obtain ⟨d, S1, p1, p2, e1, l1, k1, b1⟩ := d_take hB (m := 6) (by omega) (by decide) (by omega)
  have hwl := hw.l0
  have hwl2 := hw.l1
  have l6 : 6 ≤ limit := by unfold limit; omega
  have l2 : 2 ≤ limit := by unfold limit; omega
  have l3 : 3 ≤ limit := by unfold limit; omega
  have mem : ∀ x : Str, PyData.strOk x = true → memW (.str x) [W.str "hushed", W.str "awake"] = some ((["hushed", "awake"] : List Str).contains x) := fun x hx => memW_strs x ["hushed", "awake"] hx ok_words2
  have i0 : L2.atI [W.str "is", .str "is", .str "not", .str "below", .str "hushed", .str "awake"] d = some (.str (if d < 2 then "is" else if d = 2 then "not" else if d = 3 then "below" else if d = 4 then "hushed" else "awake")) := by
    rcases (by omega : d = 0 ∨ d = 1 ∨ d = 2 ∨ d = 3 ∨ d = 4 ∨ d = 5) with rfl | rfl | rfl | rfl | rfl | rfl <;> rfl
  by_cases hd : d < 4
  · have hk : ∃ k : PK, (if d < 2 then ("is" : Str) else if d = 2 then "not" else if d = 3 then "below" else if d = 4 then "hushed" else "awake") = k.s := by
      rcases (by omega : d = 0 ∨ d = 1 ∨ d = 2 ∨ d = 3) with rfl | rfl | rfl | rfl
      · exact ⟨.is, rfl⟩
      · exact ⟨.is, rfl⟩
      · exact ⟨.not, rfl⟩
      · exact ⟨.below, rfl⟩
    obtain ⟨k, hk⟩ := hk
    rw [hk] at i0
    have mk : (["hushed", "awake"] : List Str).contains k.s = false := by cases k <;> kernel_rfl
    have mk2 := mem k.s (pk_ok k)
    rw [mk] at mk2
    obtain ⟨w, S2, q1, q2, e2, l2', k2, b2⟩ := d_take b1 (m := wh.length) (by omega) (small_div (by omega)) (by omega)
    have hw' : Ix wh.length w := ⟨q1, q2⟩
    have hg := prod_gi hw hw'
    obtain ⟨p, S3, r1, r2, e3, l3', k3, b3⟩ := d_take b2 (m := gi wh w) (by omega) (small_div (by omega)) (by omega)
    refine ⟨.pl k w p, S3, ⟨hw', r1, r2⟩, ?_, (k1.trans (k2.mono (by omega))).trans (k3.mono (by omega)), b3⟩
    simp [f__law_condition, startW, l6, e1, i0, l2, mk2, e2, e3, gi_at hw', l3, Cnd.w]
  · have hk : ∃ f : Int → Cnd, (∃ s : Str, (∀ r, (f r).w = .tup [.str s, .int r]) ∧ PyData.strOk s = true ∧ (["hushed", "awake"] : List Str).contains s = true ∧ (if d < 2 then ("is" : Str) else if d = 2 then "not" else if d = 3 then "below" else if d = 4 then "hushed" else "awake") = s) ∧ ∀ r, Ix many r → (f r).Ok wh many := by
      rcases (by omega : d = 4 ∨ d = 5) with rfl | rfl
      · exact ⟨.hu, ⟨"hushed", fun _ => rfl, by kernel_rfl, by kernel_rfl, rfl⟩, fun r h => h⟩
      · exact ⟨.aw, ⟨"awake", fun _ => rfl, by kernel_rfl, by kernel_rfl, rfl⟩, fun r h => h⟩
    obtain ⟨f, ⟨s, hf, so, sc, hk⟩, hok⟩ := hk
    rw [hk] at i0
    have mk2 := mem s so
    rw [sc] at mk2
    obtain ⟨w, S2, q1, q2, e2, l2', k2, b2⟩ := d_take b1 (m := many) (by omega) (small_div (by omega)) (by omega)
    refine ⟨f w, S2, hok w ⟨q1, q2⟩, ?_, k1.trans (k2.mono (by omega)), b2.mono (by omega)⟩
    simp [f__law_condition, startW, l6, e1, i0, l2, mk2, e2, hf]
theorem d_change {wh : List Int} {n c : Nat} {S : Sto} (hw : WhOk wh) (hB : Bg n c S) (hc : c ≤ 900000000) :
    ∃ (cn : Chg) (S' : Sto), cn.Ok wh ∧ f__law_change [.loc n, tpI wh] S = .ok cn.W S' ∧ Keep n S.length S S' ∧ Bg n (c + 3) S' := by
  have hwl := hw.l0
  have hwl2 := hw.l1
  have l3 : 3 ≤ limit := by unfold limit; omega
  obtain ⟨w, S2, q1, q2, e2, l2', k2, b2⟩ := d_take hB (m := wh.length) (by omega) (small_div (by omega)) (by omega)
  have hw' : Ix wh.length w := ⟨q1, q2⟩
  have hg := prod_gi hw hw'
  obtain ⟨d, S1, p1, p2, e1, l1, k1, b1⟩ := d_take b2 (m := 3) (by omega) (by decide) (by omega)
  obtain ⟨p, S3, r1, r2, e3, l3', k3, b3⟩ := d_take b1 (m := gi wh w) (by omega) (small_div (by omega)) (by omega)
  have hk : ∃ t : Bool, L2.atI [W.str "turn", .str "turn", .str "put"] d = some (.str (if t then "put" else "turn")) := by
    rcases (by omega : d = 0 ∨ d = 1 ∨ d = 2) with rfl | rfl | rfl
    · exact ⟨false, rfl⟩
    · exact ⟨false, rfl⟩
    · exact ⟨true, rfl⟩
  obtain ⟨t, ht⟩ := hk
  refine ⟨⟨t, w, p⟩, S3, ⟨hw', r1, r2⟩, ?_, (k2.trans (k1.mono (by omega))).trans (k3.mono (by omega)), b3⟩
  simp [f__law_change, startW, l3, e2, e1, ht, e3, gi_at hw', Chg.W, Chg.wd]
theorem small_range {j : Int} (h0 : 0 ≤ j) (h : j ≤ 100000) : -(2 ^ 62 : Int) ≤ j ∧ j < 2 ^ 62 := ⟨Int.le_trans (by decide) h0, Int.lt_of_le_of_lt h (by decide)⟩
theorem rangeW_length (n : Nat) : ∀ lo, (rangeW lo n).length = n := fun lo => rangeW_len n lo
/-- hushes and wakes of a rule: what the loop makes -/
theorem d_parts {n m1 m2 many : Nat} (wh x3 x4 : Option W) (hne : m1 ≠ n) (hne2 : m2 ≠ n) (h12 : m1 ≠ m2) (hm5 : many ≤ 5) : ∀ (t lo : Nat) (hus : List (Int × Int)) (wak : List Int) (S : Sto) (c : Nat) (x7 x8 x9 : Option W), lo + t = many → Bg n c S → c + 2 * t ≤ 900000000 → S[m1]? = some (.lst (hus.map hw)) → S[m2]? = some (.lst (wak.map W.int)) → hus.length ≤ lo → wak.length ≤ lo →
    (∀ p ∈ hus, (0 ≤ p.1 ∧ p.1 < lo) ∧ 1 ≤ p.2 ∧ p.2 ≤ 3) → (hus.map (·.1)).Pairwise (· < ·) → (∀ p ∈ wak, 0 ≤ p ∧ p < lo) → wak.Pairwise (· < ·) → (∀ p ∈ hus, p.1 ∉ wak) →
    ∃ (hus' : List (Int × Int)) (wak' : List Int) (S' : Sto) (x7' x8' : Option W), forM (.nm 7) b__law_rule_1 (rangeW lo t) [some (.loc n), wh, some (.int many), x3, x4, some (.loc m1), some (.loc m2), x7, x8, x9] S = .nx [some (.loc n), wh, some (.int many), x3, x4, some (.loc m1), some (.loc m2), x7', x8', x9] S' ∧
      S'.length = S.length ∧ (∀ i, i ≠ n → i ≠ m1 → i ≠ m2 → S'[i]? = S[i]?) ∧ Bg n (c + 2 * t) S' ∧ S'[m1]? = some (.lst (hus'.map hw)) ∧ S'[m2]? = some (.lst (wak'.map W.int)) ∧
      (∀ p ∈ hus', Ix many p.1 ∧ 1 ≤ p.2 ∧ p.2 ≤ 3) ∧ (hus'.map (·.1)).Pairwise (· < ·) ∧ (∀ p ∈ wak', Ix many p) ∧ wak'.Pairwise (· < ·) ∧ (∀ p ∈ hus', p.1 ∉ wak')
  | 0, lo, hus, wak, S, c, x7, x8, x9, hlo, hB, hc, h1, h2, hl1, hl2, a1, a2, a3, a4, a5 => by
    have : lo = many := by omega
    subst this
    exact ⟨hus, wak, S, x7, x8, rfl, rfl, fun _ _ _ _ => rfl, hB, h1, h2, a1, a2, a3, a4, a5⟩
  | t + 1, lo, hus, wak, S, c, x7, x8, x9, hlo, hB, hc, h1, h2, hl1, hl2, a1, a2, a3, a4, a5 => by
    have l2 : 2 ≤ limit := by unfold limit; omega
    have ll1 : hus.length < limit := by unfold limit; omega
    have ll2 : wak.length < limit := by unfold limit; omega
    obtain ⟨d, S1, p1, p2, e1, l1, k1, b1⟩ := d_take hB (m := 5) (by omega) (by decide) (by omega)
    have m1l : m1 < S.length := (List.getElem?_eq_some_iff.mp h1).1
    have m2l : m2 < S.length := (List.getElem?_eq_some_iff.mp h2).1
    have g1 : S1[m1]? = some (.lst (hus.map hw)) := by rw [k1.2 m1 m1l hne]; exact h1
    have g2 : S1[m2]? = some (.lst (wak.map W.int)) := by rw [k1.2 m2 m2l hne2]; exact h2
    have kk : ∀ i, i ≠ n → S1[i]? = S[i]? := fun i hi => by
      by_cases h : i < S.length
      · exact k1.2 i h hi
      · rw [List.getElem?_eq_none (by omega), List.getElem?_eq_none (by omega)]
    have er : rangeW (lo : Int) (t + 1) = .int lo :: rangeW ((lo + 1 : Nat) : Int) t := by rw [rangeW]; push_cast; rfl
    by_cases hd0 : d = 0
    · obtain ⟨d2, S2, q1, q2, e2, l2', k2, b2⟩ := d_take b1 (m := 3) (by omega) (by decide) (by omega)
      have kk2 : ∀ i, i ≠ n → S2[i]? = S[i]? := fun i hi => by
        by_cases h : i < S1.length
        · rw [k2.2 i h hi]; exact kk i hi
        · rw [List.getElem?_eq_none (by omega), List.getElem?_eq_none (by omega)]
      have f1 : S2[m1]? = some (.lst (hus.map hw)) := by rw [kk2 m1 hne]; exact h1
      have f2 : S2[m2]? = some (.lst (wak.map W.int)) := by rw [kk2 m2 hne2]; exact h2
      have em : (hus ++ [((lo : Int), 1 + d2)]).map hw = hus.map hw ++ [.tup [.int lo, .int (1 + d2)]] := by rw [List.map_append]; rfl
      obtain ⟨hus', wak', S', x7', x8', r1, r2, r3, r4, r5⟩ := d_parts wh x3 x4 hne hne2 h12 hm5 t (lo + 1) (hus ++ [((lo : Int), 1 + d2)]) wak (S2.set m1 (.lst (hus.map hw ++ [.tup [.int lo, .int (1 + d2)]]))) (c + 2) (some (.int lo)) (some (.int d)) x9 (by omega) (b2.set hne _) (by omega) (by rw [em]; exact List.getElem?_set_self (by omega)) (by rw [List.getElem?_set_ne h12]; exact f2) (by rw [List.length_append, List.length_singleton]; omega) (by omega)
        (fun p hp => by
          rcases List.mem_append.mp hp with hp | hp
          · have := a1 p hp; omega
          · have : p = ((lo : Int), 1 + d2) := by simpa using hp
            subst this
            dsimp only; omega)
        (by
          rw [List.map_append, List.pairwise_append]
          refine ⟨a2, by simp, fun x hx y hy => ?_⟩
          obtain ⟨p, hp, rfl⟩ := List.mem_map.mp hx
          have : y = (lo : Int) := by simpa using hy
          have := (a1 p hp).1
          omega)
        (fun p hp => by have := a3 p hp; omega) a4
        (fun p hp => by
          rcases List.mem_append.mp hp with hp | hp
          · exact a5 p hp
          · have : p = ((lo : Int), 1 + d2) := by simpa using hp
            subst this
            intro hm
            have := a3 _ hm
            dsimp only at this; omega)
      refine ⟨hus', wak', S', x7', x8', ?_, by rw [r2, List.length_set]; omega, fun i i1 i2 i3 => by rw [r3 i i1 i2 i3, List.getElem?_set_ne (Ne.symm i2)]; exact kk2 i i1, r4.mono (by omega), r5⟩
      rw [er, for_cons, ← r1]
      simp [b__law_rule_1, e1, hd0, e2, l2, f1, isCell, g1, appR, ll1]
    · by_cases hd1 : d = 1
      · have em : (wak ++ [(lo : Int)]).map W.int = wak.map W.int ++ [.int lo] := by rw [List.map_append]; rfl
        obtain ⟨hus', wak', S', x7', x8', r1, r2, r3, r4, r5⟩ := d_parts wh x3 x4 hne hne2 h12 hm5 t (lo + 1) hus (wak ++ [(lo : Int)]) (S1.set m2 (.lst (wak.map W.int ++ [.int lo]))) (c + 2) (some (.int lo)) (some (.int d)) x9 (by omega) ((b1.mono (by omega)).set hne2 _) (by omega) (by rw [List.getElem?_set_ne (Ne.symm h12)]; exact g1) (by rw [em]; exact List.getElem?_set_self (by omega)) (by omega) (by rw [List.length_append, List.length_singleton]; omega)
          (fun p hp => by have := a1 p hp; omega) a2
          (fun p hp => by
            rcases List.mem_append.mp hp with hp | hp
            · have := a3 p hp; omega
            · have : p = (lo : Int) := by simpa using hp
              omega)
          (by
            rw [List.pairwise_append]
            refine ⟨a4, by simp, fun x hx y hy => ?_⟩
            have : y = (lo : Int) := by simpa using hy
            have := (a3 x hx)
            omega)
          (fun p hp hm => by
            rcases List.mem_append.mp hm with hm | hm
            · exact a5 p hp hm
            · have : p.1 = (lo : Int) := by simpa using hm
              have := (a1 p hp).1
              omega)
        refine ⟨hus', wak', S', x7', x8', ?_, by rw [r2, List.length_set]; omega, fun i i1 i2 i3 => by rw [r3 i i1 i2 i3, List.getElem?_set_ne (Ne.symm i3)]; exact kk i i1, r4.mono (by omega), r5⟩
        rw [er, for_cons, ← r1]
        simp [b__law_rule_1, e1, hd1, isCell, g2, appR, ll2]
      · obtain ⟨hus', wak', S', x7', x8', r1, r2, r3, r4, r5⟩ := d_parts wh x3 x4 hne hne2 h12 hm5 t (lo + 1) hus wak S1 (c + 2) (some (.int lo)) (some (.int d)) x9 (by omega) (b1.mono (by omega)) (by omega) g1 g2 (by omega) (by omega)
          (fun p hp => by have := a1 p hp; omega) a2 (fun p hp => by have := a3 p hp; omega) a4 a5
        refine ⟨hus', wak', S', x7', x8', ?_, by rw [r2]; omega, fun i i1 i2 i3 => by rw [r3 i i1 i2 i3]; exact kk i i1, r4.mono (by omega), r5⟩
        rw [er, for_cons, ← r1]
        have h5 : (d == 0) = false := by simpa using hd0
        have h6 : (d == 1) = false := by simpa using hd1
        simp [b__law_rule_1, e1, h5, h6]
end SP

set_option Elab.async false
set_option linter.all false
set_option maxRecDepth 100000
set_option maxHeartbeats 4000000
/-! S10: drawn rules, wheels, books. -/
namespace SP
open PySem DL
theorem len_range (j : Int) : (rangeW 0 j.toNat).length = j.toNat := rangeW_length _ _
theorem d_rule {wh : List Int} {n many c : Nat} {S : Sto} (hw : WhOk wh) (hm : 0 < many) (hm5 : many ≤ 5) (hB : Bg n c S) (hc : c ≤ 800000000) :
    ∃ (r : Rul) (S' : Sto), r.Ok wh many ∧ f__law_rule [.loc n, tpI wh, .int many] S = .ok r.W S' ∧ Keep n S.length S S' ∧ Bg n (c + 40) S' := by
  obtain ⟨d, S1, p1, p2, e1, l1, k1, b1⟩ := d_take hB (m := 6) (by omega) (by decide) (by omega)
  have l6 : 6 ≤ limit := by unfold limit; omega
  have l5 : 5 ≤ limit := by unfold limit; omega
  have l4 : 4 ≤ limit := by unfold limit; omega
  have l0 : 0 ≤ limit := Nat.zero_le _
  have i0 : ∃ t : Nat, t ≤ 4 ∧ L2.atI [W.int 1, .int 1, .int 0, .int 2, .int 3, .int 4] d = some (.int t) := by
    rcases (by omega : d = 0 ∨ d = 1 ∨ d = 2 ∨ d = 3 ∨ d = 4 ∨ d = 5) with rfl | rfl | rfl | rfl | rfl | rfl
    · exact ⟨1, by omega, rfl⟩
    · exact ⟨1, by omega, rfl⟩
    · exact ⟨0, by omega, rfl⟩
    · exact ⟨2, by omega, rfl⟩
    · exact ⟨3, by omega, rfl⟩
    · exact ⟨4, by omega, rfl⟩
  obtain ⟨t, ht, i0⟩ := i0
  have hcomp1 : ∀ a3 a4 a5 a6 a7 a8 a9 : Option W, ∃ (ys : List Cnd) (S' : Sto), ys.length = t ∧ (∀ y ∈ ys, y.Ok wh many) ∧ compM (lcStep [some (.loc n), some (tpI wh), some (.int many), a3, a4, a5, a6, a7, a8, a9] [9] (.nm 9) bYes (mCall f__law_condition (mCons (mVar 0) (mCons (mVar 1) (mCons (mVar 2) mNil))))) (rangeW 0 t) [] S1 = .ok (ys.map Cnd.w) S' ∧ Keep n S1.length S1 S' ∧ Bg n (c + 1 + 3 * t) S' := by
    intro a3 a4 a5 a6 a7 a8 a9
    have := comp_draw (w := Cnd.w) (P := fun y => y.Ok wh many) (step := lcStep [some (.loc n), some (tpI wh), some (.int many), a3, a4, a5, a6, a7, a8, a9] [9] (.nm 9) bYes (mCall f__law_condition (mCons (mVar 0) (mCons (mVar 1) (mCons (mVar 2) mNil))))) (n := n) (L := S1.length) (k := 3) (rangeW 0 t) [] S1 (c + 1) b1 (Nat.le_refl _) (by
      intro x hx S' c' hb hl hc'
      rw [rangeW_length] at hc'
      obtain ⟨y, S2, q1, q2, q3, q4⟩ := d_condition hw hm hm5 hb (by omega)
      exact ⟨y, S2, q1, by simp [lcStep, q2], q3.mono hl, q4⟩)
    rw [rangeW_length] at this
    simpa using this
  obtain ⟨ys, S2, yl, yP, e2, k2, b2⟩ := hcomp1 none none none none none none none
  obtain ⟨d2, S3, p3, p4, e3, l3, k3, b3⟩ := d_take b2 (m := 5) (by omega) (by decide) (by omega)
  have i1 : ∃ u : Nat, u ≤ 3 ∧ L2.atI [W.int 1, .int 1, .int 2, .int 0, .int 3] d2 = some (.int u) := by
    rcases (by omega : d2 = 0 ∨ d2 = 1 ∨ d2 = 2 ∨ d2 = 3 ∨ d2 = 4) with rfl | rfl | rfl | rfl | rfl
    · exact ⟨1, by omega, rfl⟩
    · exact ⟨1, by omega, rfl⟩
    · exact ⟨2, by omega, rfl⟩
    · exact ⟨0, by omega, rfl⟩
    · exact ⟨3, by omega, rfl⟩
  obtain ⟨u, hu, i1⟩ := i1
  have hcomp2 : ∃ (zs : List Chg) (S' : Sto), zs.length = u ∧ (∀ y ∈ zs, y.Ok wh) ∧ compM (lcStep [some (.loc n), some (tpI wh), some (.int many), some (.lst (ys.map Cnd.w)), none, none, none, none, none, none] [9] (.nm 9) bYes (mCall f__law_change (mCons (mVar 0) (mCons (mVar 1) mNil)))) (rangeW 0 u) [] S3 = .ok (zs.map Chg.W) S' ∧ Keep n S3.length S3 S' ∧ Bg n (c + 1 + 3 * t + 1 + 3 * u) S' := by
    have := comp_draw (w := Chg.W) (P := fun y => y.Ok wh) (step := lcStep [some (.loc n), some (tpI wh), some (.int many), some (.lst (ys.map Cnd.w)), none, none, none, none, none, none] [9] (.nm 9) bYes (mCall f__law_change (mCons (mVar 0) (mCons (mVar 1) mNil)))) (n := n) (L := S3.length) (k := 3) (rangeW 0 u) [] S3 (c + 1 + 3 * t + 1) b3 (Nat.le_refl _) (by
      intro x hx S' c' hb hl hc'
      rw [rangeW_length] at hc'
      obtain ⟨y, S2, q1, q2, q3, q4⟩ := d_change hw hb (by omega)
      exact ⟨y, S2, q1, by simp [lcStep, q2], q3.mono hl, q4⟩)
    rw [rangeW_length] at this
    simpa using this
  obtain ⟨zs, S4, zl, zP, e4, k4, b4⟩ := hcomp2
  have hn4 : n < S4.length := b4.lt
  obtain ⟨hus, wak, S5, x7, x8, r1, r2, r3, r4, r5, r6, r7, r8, r9, r10, r11⟩ := d_parts (n := n) (m1 := S4.length) (m2 := S4.length + 1) (many := many) (some (tpI wh)) (some (.lst (ys.map Cnd.w))) (some (.lst (zs.map Chg.W))) (by omega) (by omega) (by omega) hm5 many 0 [] [] (S4 ++ [.lst []] ++ [.lst []]) (c + 1 + 3 * t + 1 + 3 * u) none none none (by omega) ((b4.app _).app _) (by omega) (by simp) (by simp) (by simp) (by simp) (fun _ h => nomatch h) (by simp) (fun _ h => nomatch h) (by simp) (fun _ h => nomatch h)
  refine ⟨⟨ys, zs, hus, wak⟩, S5, ⟨by show ys.length ≤ 4; omega, yP, by show zs.length ≤ 3; omega, zP, r7, r8, r9, r10, r11⟩, ?_, ?_, r4.mono (by omega)⟩
  · have hr : (t : Int) < 4611686018427387904 := by omega
    have hr2 : (u : Int) < 4611686018427387904 := by omega
    have hr3 : (many : Int) < 4611686018427387904 := by omega
    have t1 : (rangeW 0 t).length ≤ limit := by rw [rangeW_length]; unfold limit; omega
    have t2 : (rangeW 0 u).length ≤ limit := by rw [rangeW_length]; unfold limit; omega
    simp only [List.append_assoc, List.cons_append, List.nil_append] at r1
    have r1' : forM (.nm 7) b__law_rule_1 (rangeW 0 many) [some (.loc n), some (tpI wh), some (.int many), some (.lst (ys.map Cnd.w)), some (.lst (zs.map Chg.W)), some (.loc S4.length), some (.loc (S4.length + 1)), none, none, none] (S4 ++ [.lst [], .lst []]) = _ := r1
    simp only [f__law_rule, o_fn, List.length_cons, List.length_nil]
    simp only [startW, List.map_cons, List.map_nil, o_seq, o_asg, o_lc, o_range1, o_idx, o_tup, o_cons, o_nil, o_con, o_call, o_var]
    simp [l6, l5, e1, i0, hr, t1, e2, e3, i1, hr2, t2, e4, l0, hr3, r1', r5, r6, l4, Rul.W]
  · refine (k1.trans ((k2.mono (by omega)).trans ((k3.mono (by have := k2.1; omega)).trans (k4.mono (by have := k2.1; omega))))).trans ⟨?_, fun i hi hne => ?_⟩
    · have h2 : (S4 ++ [Cell.lst []] ++ [Cell.lst []]).length = S4.length + 2 := by simp
      omega
    · have hi4 : i < S4.length := by have := k2.1; have := k3.1; have := k4.1; omega
      rw [r3 i hne (by omega) (by omega), List.append_assoc, List.getElem?_append_left hi4]
end SP

set_option Elab.async false
set_option linter.all false
set_option maxRecDepth 100000
set_option maxHeartbeats 4000000
/-! S11: drawn books and states. -/
namespace SP
open PySem DL
theorem d_rules {wh : List Int} {n many c : Nat} {S : Sto} (hw : WhOk wh) (hm5 : many ≤ 5) (hB : Bg n c S) (hc : c ≤ 700000000) :
    ∃ (rs : List Rul) (S' : Sto), rs.length = many ∧ (∀ r ∈ rs, r.Ok wh many) ∧ f__law_rules [.loc n, tpI wh, .int many] S = .ok (.tup (rs.map Rul.W)) S' ∧ Keep n S.length S S' ∧ Bg n (c + 40 * many) S' := by
  have := comp_draw (w := Rul.W) (P := fun y => y.Ok wh many) (step := lcStep [some (.loc n), some (tpI wh), some (.int many), none] [3] (.nm 3) bYes (mCall f__law_rule (mCons (mVar 0) (mCons (mVar 1) (mCons (mVar 2) mNil))))) (n := n) (L := S.length) (k := 40) (rangeW 0 many) [] S c hB (Nat.le_refl _) (by
    intro x hx S' c' hb hl hc'
    rw [rangeW_length] at hc'
    have hm : 0 < many := by
      cases many with
      | zero => cases hx
      | succ m => omega
    obtain ⟨y, S2, q1, q2, q3, q4⟩ := d_rule hw hm hm5 hb (by omega)
    exact ⟨y, S2, q1, by simp [lcStep, q2], q3.mono hl, q4⟩)
  rw [rangeW_length] at this
  obtain ⟨ys, S', h1, h2, h3, h4, h5⟩ := this
  rw [List.nil_append] at h3
  have hr : (many : Int) < 4611686018427387904 := by omega
  have t1 : (rangeW 0 many).length ≤ limit := by rw [rangeW_length]; unfold limit; omega
  exact ⟨ys, S', h1, h2, by simp [f__law_rules, startW, hr, t1, h3], h4, h5⟩
theorem prod_app (l : List Int) (x : Int) : (l ++ [x]).prod = l.prod * x := by
  induction l with
  | nil => simp
  | cons a l ih => rw [List.cons_append, List.prod_cons, List.prod_cons, ih, Int.mul_assoc]
theorem d_wheels_loop {n m : Nat} (hne : m ≠ n) : ∀ (t lo : Nat) (found : List Int) (S : Sto) (c : Nat) (x3 x4 : Option W), Bg n c S → c + t ≤ 900000000 → S[m]? = some (.lst (found.map W.int)) → found.length + t ≤ 3 → (∀ x ∈ found, 2 ≤ x ∧ x ≤ 4) → found.prod ≤ 24 → 1 ≤ found.prod →
    ∃ (found' : List Int) (S' : Sto) (x3' x4' : Option W), forM (.nm 3) b__law_wheels_1 (rangeW lo t) [some (.loc n), some (.loc m), some (.int found.prod), x3, x4] S = .nx [some (.loc n), some (.loc m), some (.int found'.prod), x3', x4'] S' ∧
      S'.length = S.length ∧ (∀ i, i ≠ n → i ≠ m → S'[i]? = S[i]?) ∧ Bg n (c + t) S' ∧ S'[m]? = some (.lst (found'.map W.int)) ∧ found'.length ≤ 3 ∧ (∀ x ∈ found', 2 ≤ x ∧ x ≤ 4) ∧ found'.prod ≤ 24 ∧ (0 < t → found = [] → found' ≠ []) ∧ (found ≠ [] → found' ≠ [])
  | 0, lo, found, S, c, x3, x4, hB, hc, hS, hl, hm, hp, hp1 => ⟨found, S, x3, x4, rfl, rfl, fun _ _ _ => rfl, hB, hS, by omega, hm, hp, fun h => by omega, fun h => h⟩
  | t + 1, lo, found, S, c, x3, x4, hB, hc, hS, hl, hm, hp, hp1 => by
    obtain ⟨d, S1, p1, p2, e1, l1, k1, b1⟩ := d_take hB (m := 3) (by omega) (by decide) (by omega)
    have ml : m < S.length := (List.getElem?_eq_some_iff.mp hS).1
    have g1 : S1[m]? = some (.lst (found.map W.int)) := by rw [k1.2 m ml hne]; exact hS
    have kk : ∀ i, i ≠ n → S1[i]? = S[i]? := fun i hi => by
      by_cases h : i < S.length
      · exact k1.2 i h hi
      · rw [List.getElem?_eq_none (by omega), List.getElem?_eq_none (by omega)]
    have er : rangeW (lo : Int) (t + 1) = .int lo :: rangeW ((lo + 1 : Nat) : Int) t := by rw [rangeW]; push_cast; rfl
    have hmu : mulOk found.prod (2 + d) = true := by
      unfold mulOk
      have h1 : -(2 ^ 64) < 2 + d := by omega
      have h2 : 2 + d < 2 ^ 64 := by omega
      rw [decide_eq_true h1, decide_eq_true h2]; simp
    have ll : found.length < limit := by unfold limit; omega
    by_cases h24 : found.prod * (2 + d) ≤ 24
    · have em : (found ++ [2 + d]).map W.int = found.map W.int ++ [.int (2 + d)] := by rw [List.map_append]; rfl
      obtain ⟨f', S', x3', x4', r1, r2, r3, r4, r5, r6, r7, r8, r9, r10⟩ := d_wheels_loop hne t (lo + 1) (found ++ [2 + d]) (S1.set m (.lst (found.map W.int ++ [.int (2 + d)]))) (c + 1) (some (.int lo)) (some (.int (2 + d))) (b1.set hne _) (by omega) (by rw [em]; exact List.getElem?_set_self (by omega)) (by rw [List.length_append, List.length_singleton]; omega)
        (fun x hx => by
          rcases List.mem_append.mp hx with hx | hx
          · exact hm x hx
          · have : x = 2 + d := by simpa using hx
            omega) (by rw [prod_app]; exact h24) (by rw [prod_app]; have := Int.mul_le_mul hp1 (show (1 : Int) ≤ 2 + d by omega) (by omega) (by omega); omega)
      refine ⟨f', S', x3', x4', ?_, by rw [r2, List.length_set]; omega, fun i i1 i2 => by rw [r3 i i1 i2, List.getElem?_set_ne (Ne.symm i2)]; exact kk i i1, r4.mono (by omega), r5, r6, r7, r8, fun _ _ => r10 (by simp), fun _ => r10 (by simp)⟩
      rw [er, for_cons, ← r1, prod_app]
      simp [b__law_wheels_1, e1, hmu, h24, isCell, g1, appR, ll]
    · have hf : found ≠ [] := fun e => by subst e; simp at h24; omega
      obtain ⟨f', S', x3', x4', r1, r2, r3, r4, r5, r6, r7, r8, r9, r10⟩ := d_wheels_loop hne t (lo + 1) found S1 (c + 1) (some (.int lo)) (some (.int (2 + d))) b1 (by omega) g1 (by omega) hm hp hp1
      refine ⟨f', S', x3', x4', ?_, by rw [r2]; omega, fun i i1 i2 => by rw [r3 i i1 i2]; exact kk i i1, r4.mono (by omega), r5, r6, r7, r8, fun _ e => absurd e hf, r10⟩
      rw [er, for_cons, ← r1]
      simp [b__law_wheels_1, e1, hmu, h24]
theorem d_wheels {n c : Nat} {S : Sto} (hB : Bg n c S) (hc : c ≤ 700000000) :
    ∃ (wh : List Int) (S' : Sto), WhOk wh ∧ f__law_wheels [.loc n] S = .ok (tpI wh) S' ∧ Keep n S.length S S' ∧ Bg n (c + 4) S' := by
  have l0 : 0 ≤ limit := Nat.zero_le _
  have hn : n < S.length := hB.lt
  obtain ⟨d, S1, p1, p2, e1, l1, k1, b1⟩ := d_take (hB.app [.lst []]) (m := 3) (by omega) (by decide) (by omega)
  rw [List.length_append, List.length_singleton] at l1 k1
  have hS1 : S1[S.length]? = some (.lst (([] : List Int).map W.int)) := by
    rw [k1.2 S.length (by omega) (by omega)]; simp
  obtain ⟨f, S2, x3, x4, r1, r2, r3, r4, r5, r6, r7, r8, r9, r10⟩ := d_wheels_loop (n := n) (m := S.length) (by omega) (1 + d.toNat) 0 [] S1 (c + 1) none none b1 (by omega) hS1 (by simp; omega) (fun _ h => nomatch h) (by decide) (by decide)
  have hr : (1 + d : Int) < 4611686018427387904 := by omega
  have hr0 : -4611686018427387904 ≤ (1 + d : Int) := by omega
  have hd : (1 + d).toNat = 1 + d.toNat := by omega
  refine ⟨f, S2, ⟨?_, r6, r7, r8⟩, ?_, ?_, r4.mono (by omega)⟩
  · have := r9 (by omega) rfl
    cases f with
    | nil => exact absurd rfl this
    | cons _ _ => simp
  · have r1' : forM (.nm 3) b__law_wheels_1 (rangeW 0 (1 + d.toNat)) [some (.loc n), some (.loc S.length), some (.int 1), none, none] S1 = _ := r1
    simp [f__law_wheels, startW, l0, e1, hr, hr0, hd, r1', r5]
  · refine ⟨by rw [r2, l1]; omega, fun i hi hne => ?_⟩
    rw [r3 i hne (by omega), k1.2 i (by omega) hne, List.getElem?_append_left hi]
theorem d_drawn {n c : Nat} {S : Sto} (hB : Bg n c S) (hc : c ≤ 600000000) :
    ∃ (b : Bk) (S' : Sto), b.Ok ∧ f__law_drawn [.loc n] S = .ok (.tup [tpI b.wh, .tup (b.ru.map Rul.W)]) S' ∧ Keep n S.length S S' ∧ Bg n (c + 205) S' := by
  have l6 : 6 ≤ limit := by unfold limit; omega
  have l2 : 2 ≤ limit := by unfold limit; omega
  obtain ⟨wh, S1, hw, e1, k1, b1⟩ := d_wheels hB (by omega)
  obtain ⟨d, S2, p1, p2, e2, l2', k2, b2⟩ := d_take b1 (m := 6) (by omega) (by decide) (by omega)
  have i0 : ∃ t : Nat, t ≤ 5 ∧ L2.atI [W.int 3, .int 5, .int 2, .int 4, .int 1, .int 0] d = some (.int t) := by
    rcases (by omega : d = 0 ∨ d = 1 ∨ d = 2 ∨ d = 3 ∨ d = 4 ∨ d = 5) with rfl | rfl | rfl | rfl | rfl | rfl
    · exact ⟨3, by omega, rfl⟩
    · exact ⟨5, by omega, rfl⟩
    · exact ⟨2, by omega, rfl⟩
    · exact ⟨4, by omega, rfl⟩
    · exact ⟨1, by omega, rfl⟩
    · exact ⟨0, by omega, rfl⟩
  obtain ⟨t, ht, i0⟩ := i0
  obtain ⟨rs, S3, q1, q2, q3, q4, q5⟩ := d_rules hw ht b2 (by omega)
  refine ⟨⟨wh, rs⟩, S3, ⟨hw, by show rs.length ≤ 5; omega, by show ∀ r ∈ rs, r.Ok wh rs.length; rw [q1]; exact q2⟩, ?_, (k1.trans (k2.mono k1.1)).trans (q4.mono (by have := k1.1; omega)), q5.mono (by omega)⟩
  simp [f__law_drawn, startW, e1, l6, e2, i0, q3, l2]
/-- any places of some wheels -/
theorem d_places {wh : List Int} {n c : Nat} {S : Sto} {el : Me} {ρ : DL.Env} {vs : List Nat} {tg : Tg} (hw : WhOk wh) (hB : Bg n c S) (hc : c ≤ 800000000) (hstep : ∀ x S y S', f__law_take [.loc n, .int x] S = .ok y S' → lcStep ρ vs tg bYes el (.int x) S = .ok [y] S') :
    ∃ (us : List Int) (S' : Sto), us.length = wh.length ∧ (∀ i, Ix wh.length i → 0 ≤ gi us i ∧ gi us i < gi wh i) ∧ compM (lcStep ρ vs tg bYes el) (wh.map W.int) [] S = .ok (us.map W.int) S' ∧ S'.length = S.length ∧ Keep n S.length S S' ∧ Bg n (c + wh.length) S' := by
  have key : ∀ (l : List Int) (acc : List W) (S : Sto) (c : Nat), (∀ x ∈ l, 2 ≤ x ∧ x ≤ 4) → Bg n c S → c + l.length ≤ 900000000 → ∃ (us : List Int) (S' : Sto), us.length = l.length ∧ (∀ i, Ix l.length i → 0 ≤ gi us i ∧ gi us i < gi l i) ∧ compM (lcStep ρ vs tg bYes el) (l.map W.int) acc S = .ok (acc ++ us.map W.int) S' ∧ S'.length = S.length ∧ Keep n S.length S S' ∧ Bg n (c + l.length) S' := by
    intro l
    induction l with
    | nil => intro acc S c _ hB _; exact ⟨[], S, rfl, fun i hi => by have h0 := hi.1; have h1 := hi.2; simp at h1; omega, by simp, rfl, Keep.refl _ _ _, hB⟩
    | cons x l ih =>
      intro acc S c hx hB hc
      have h0 := hx x (List.mem_cons_self ..)
      rw [List.length_cons] at hc
      obtain ⟨d, S1, p1, p2, e1, l1, k1, b1⟩ := d_take hB (m := x) (by omega) (small_div (by omega)) (by omega)
      obtain ⟨us, S2, q1, q2, q3, q4, q5, q6⟩ := ih (acc ++ [.int d]) S1 (c + 1) (fun y hy => hx y (List.mem_cons_of_mem _ hy)) b1 (by omega)
      refine ⟨d :: us, S2, by rw [List.length_cons, List.length_cons, q1], fun i hi => ?_, ?_, by omega, k1.trans (q5.mono (by omega)), q6.mono (by rw [List.length_cons]; omega)⟩
      · obtain ⟨h1, h2⟩ := hi
        rw [List.length_cons] at h2
        by_cases hi0 : i = 0
        · subst hi0; exact ⟨p1, p2⟩
        · have := q2 (i - 1) ⟨by omega, by omega⟩
          unfold gi at this ⊢
          rw [show i.toNat = (i - 1).toNat + 1 by omega]
          simpa using this
      · rw [List.map_cons]
        show (lcStep ρ vs tg bYes el (.int x) S).bindL _ = _
        rw [hstep _ _ _ _ e1]
        show compM _ _ (acc ++ [.int d]) S1 = _
        rw [q3, List.map_cons, List.append_assoc]; rfl
  have := key wh [] S c hw.m hB (by have := hw.l1; omega)
  simpa using this
theorem d_state {b : Bk} {n c : Nat} {S : Sto} (hb : b.Ok) (hB : Bg n c S) (hc : c ≤ 600000000) :
    ∃ (s : Sta) (S' : Sto), StOk b s ∧ f__law_state [.loc n, tpI b.wh, .int b.ru.length] S = .ok (stW s) S' ∧ Keep n S.length S S' ∧ Bg n (c + 8) S' := by
  have l2 : 2 ≤ limit := by unfold limit; omega
  have l4 : 4 ≤ limit := by unfold limit; omega
  have hn := hb.n
  have hl : b.wh.length ≤ limit := l_small hb.w.l1
  obtain ⟨us, S1, q1, q2, q3, q4, q5, q6⟩ := d_places (ρ := [some (.loc n), some (tpI b.wh), some (.int b.ru.length), none, none, none]) (vs := [4]) (tg := .nm 4) (el := mCall f__law_take (mCons (mVar 0) (mCons (mVar 4) mNil))) hb.w hB (by omega) (by
    intro x S y S' e
    simp [lcStep, e])
  have := comp_draw (w := W.int) (P := fun h => 0 ≤ h ∧ h ≤ 2) (step := lcStep [some (.loc n), some (tpI b.wh), some (.int b.ru.length), some (tpI us), none, none] [5] (.nm 5) bYes (mIdx (mTup (mCons (mCon (.int 0)) (mCons (mCon (.int 0)) (mCons (mCon (.int 1)) (mCons (mCon (.int 2)) mNil))))) (mCall f__law_take (mCons (mVar 0) (mCons (mCon (.int 4)) mNil))))) (n := n) (L := S1.length) (k := 1) (rangeW 0 b.ru.length) [] S1 (c + b.wh.length) q6 (Nat.le_refl _) (by
    intro x hx S' c' hb' hl' hc'
    rw [rangeW_length] at hc'
    have := hb.w.l1
    obtain ⟨d, S2, p1, p2, e1, l1, k1, b1⟩ := d_take hb' (m := 4) (by omega) (by decide) (by omega)
    have i0 : ∃ t : Int, (0 ≤ t ∧ t ≤ 2) ∧ L2.atI [W.int 0, .int 0, .int 1, .int 2] d = some (.int t) := by
      rcases (by omega : d = 0 ∨ d = 1 ∨ d = 2 ∨ d = 3) with rfl | rfl | rfl | rfl
      · exact ⟨0, by omega, rfl⟩
      · exact ⟨0, by omega, rfl⟩
      · exact ⟨1, by omega, rfl⟩
      · exact ⟨2, by omega, rfl⟩
    obtain ⟨t, ht, i0⟩ := i0
    exact ⟨t, S2, ht, by simp [lcStep, l4, e1, i0], k1.mono hl', b1⟩)
  rw [rangeW_length] at this
  obtain ⟨hs, S2, h1, h2, h3, h4, h5⟩ := this
  rw [List.nil_append] at h3
  have hr : (b.ru.length : Int) < 4611686018427387904 := by omega
  have t1 : (rangeW 0 b.ru.length).length ≤ limit := by rw [rangeW_length]; unfold limit; omega
  have := hb.w.l1
  refine ⟨(us, hs), S2, ⟨q1, q2, h1, h2⟩, ?_, q5.trans (h4.mono (by omega)), h5.mono (by omega)⟩
  simp [f__law_state, startW, hl, q3, hr, t1, h3, l2, stW]
theorem filt_rising {n : Nat} (p : Nat → Bool) : (((List.range n).filter p).map fun (i : Nat) => (i : Int)).Pairwise (· < ·) := by
  rw [List.pairwise_map]
  exact (List.pairwise_lt_range.filter p).imp fun h => by omega
/-- a comprehension that keeps some of its turns, by drawing -/
theorem comp_some {step : W → Sto → LRes} {n L : Nat} : ∀ (t lo : Nat) (acc : List W) (S : Sto) (c : Nat), Bg n c S → L ≤ S.length →
    (∀ (i : Nat) S c', Bg n c' S → L ≤ S.length → c' ≤ c + t → ∃ (k : Bool) (S' : Sto), step (.int i) S = .ok (if k then [.int i] else []) S' ∧ Keep n L S S' ∧ Bg n (c' + 1) S') →
    ∃ (ys : List Int) (S' : Sto), (∀ y ∈ ys, (lo : Int) ≤ y ∧ y < lo + t) ∧ ys.Pairwise (· < ·) ∧ compM step (rangeW lo t) acc S = .ok (acc ++ ys.map W.int) S' ∧ Keep n L S S' ∧ Bg n (c + t) S'
  | 0, lo, acc, S, c, hB, _, _ => ⟨[], S, (fun _ h => nomatch h), List.Pairwise.nil, by simp [rangeW], Keep.refl _ _ _, hB⟩
  | t + 1, lo, acc, S, c, hB, hL, h => by
    obtain ⟨k, S1, e1, k1, b1⟩ := h lo S c hB hL (by omega)
    obtain ⟨ys, S2, q1, q2, q3, q4, q5⟩ := comp_some t (lo + 1) (acc ++ (if k then [.int lo] else [])) S1 (c + 1) b1 (Nat.le_trans hL k1.1) fun i S' c' hb hl hc => h i S' c' hb hl (by omega)
    have er : rangeW (lo : Int) (t + 1) = .int lo :: rangeW ((lo + 1 : Nat) : Int) t := by rw [rangeW]; push_cast; rfl
    have hstep : compM step (rangeW lo (t + 1)) acc S = .ok (acc ++ (if k then [.int lo] else []) ++ ys.map W.int) S2 := by
      rw [er]
      show (step _ S).bindL _ = _
      rw [e1]
      exact q3
    cases k with
    | true =>
      refine ⟨(lo : Int) :: ys, S2, fun y hy => ?_, ?_, by rw [hstep]; simp, k1.trans q4, q5.mono (by omega)⟩
      · rcases List.mem_cons.mp hy with rfl | hy
        · omega
        · have := q1 y hy; omega
      · rw [List.pairwise_cons]
        exact ⟨fun y hy => by have := q1 y hy; omega, q2⟩
    | false => exact ⟨ys, S2, fun y hy => by have := q1 y hy; omega, q2, by rw [hstep]; simp, k1.trans q4, q5.mono (by omega)⟩
theorem d_off {many n c : Nat} {S : Sto} (hm5 : many ≤ 5) (hB : Bg n c S) (hc : c ≤ 600000000) :
    ∃ (off : List Int) (S' : Sto), ((∀ r ∈ off, Ix many r) ∧ off.Pairwise (· < ·)) ∧ f__law_off [.loc n, .int many] S = .ok (tpI off) S' ∧ Keep n S.length S S' ∧ Bg n (c + 6) S' := by
  have l0 : 0 ≤ limit := Nat.zero_le _
  obtain ⟨d, S1, p1, p2, e1, l1, k1, b1⟩ := d_take hB (m := 2) (by omega) (by decide) (by omega)
  by_cases hd : d = 0
  · refine ⟨[], S1, ⟨(fun _ h => nomatch h), List.Pairwise.nil⟩, ?_, k1, b1.mono (by omega)⟩
    simp [f__law_off, startW, e1, hd, l0]
  · obtain ⟨ys, S2, q1, q2, q3, q4, q5⟩ := comp_some (n := n) (L := S1.length) (step := lcStep [some (.loc n), some (.int many), none] [2] (.nm 2) (bTest (mCmp .Eq (mCall f__law_take (mCons (mVar 0) (mCons (mCon (.int 3)) mNil))) (mCon (.int 0)))) (mVar 2)) many 0 [] S1 (c + 1) b1 (Nat.le_refl _) (by
      intro i S' c' hb hl hc'
      obtain ⟨d, S2, p1, p2, e1, l1, k1, b1⟩ := d_take hb (m := 3) (by omega) (by decide) (by omega)
      refine ⟨d == 0, S2, ?_, k1.mono hl, b1⟩
      cases hd : (d == 0) <;> simp [lcStep, e1, hd])
    have hr : (many : Int) < 4611686018427387904 := by omega
    have t1 : (rangeW 0 many).length ≤ limit := by rw [rangeW_length]; unfold limit; omega
    have hd' : (d == 0) = false := by simpa using hd
    refine ⟨ys, S2, ⟨fun r hr => ⟨by have := q1 r hr; omega, by have := q1 r hr; omega⟩, q2⟩, ?_, k1.trans (q4.mono (by omega)), q5.mono (by omega)⟩
    have q3' : compM (lcStep [some (.loc n), some (.int many), none] [2] (.nm 2) (bTest (mCmp .Eq (mCall f__law_take (mCons (mVar 0) (mCons (mCon (.int 3)) mNil))) (mCon (.int 0)))) (mVar 2)) (rangeW 0 many) [] S1 = _ := q3
    simp [f__law_off, startW, e1, hd', hr, t1, q3']
end SP

set_option Elab.async false
set_option linter.all false
set_option maxRecDepth 100000
set_option maxHeartbeats 4000000
/-! S12: the bag itself; far numbers; the law's own beat. -/
namespace SP
open PySem DL
abbrev scr (ns : List Int) : W := .lst (ns.map W.int)
theorem d_bag {S : Sto} {k : Nat} (ns : List Int) (hk : k < 100) :
    ∃ S', f__law_bag [scr ns, .int k] S = .ok (.loc S.length) S' ∧ S'.length = S.length + 1 ∧ Keep S.length S.length S S' ∧ Bg S.length 0 S' := by
  have cell : ∃ cell : Int, (if k < ns.length then L2.atI (ns.map W.int) k else some (.int 0)) = some (.int cell) := by
    split
    · rename_i h
      exact ⟨ns[k], by simp [L2.atI, L2.ixN, h]⟩
    · exact ⟨0, rfl⟩
  obtain ⟨z, hz⟩ := cell
  have p1 : mulOk 104729 k = true := by simp [mulOk]
  have hm : 0 ≤ z % 2147483647 := Int.emod_nonneg _ (by omega)
  have hm2 : z % 2147483647 < 2147483647 := Int.emod_lt_of_pos _ (by omega)
  have p2 : (z % 2147483647 + 104729 * (k : Int) + 7).natAbs < 18446744073709551616 := by omega
  have hp : ∃ q : Int, 0 < q ∧ L2.atI [W.int 2147483629, .int 2147483587, .int 2147483579, .int 2147483563, .int 2147483549, .int 2147483543, .int 2147483497, .int 2147483489] ((k : Int) % 8) = some (.int q) := by
    have : k % 8 = 0 ∨ k % 8 = 1 ∨ k % 8 = 2 ∨ k % 8 = 3 ∨ k % 8 = 4 ∨ k % 8 = 5 ∨ k % 8 = 6 ∨ k % 8 = 7 := by omega
    have e : ((k : Int) % 8) = ((k % 8 : Nat) : Int) := by omega
    rw [e]
    rcases this with h | h | h | h | h | h | h | h <;> rw [h] <;> exact ⟨_, by decide, rfl⟩
  obtain ⟨q, hq, hq2⟩ := hp
  have l8 : 8 ≤ limit := by unfold limit; omega
  have l3 : 3 ≤ limit := by unfold limit; omega
  have fin : ∀ g b : Int, f__law_bag [scr ns, .int k] S = .ok (.loc S.length) (S ++ [.lst [.int g, .int b, .int 0]]) → ∃ S', f__law_bag [scr ns, .int k] S = .ok (.loc S.length) S' ∧ S'.length = S.length + 1 ∧ Keep S.length S.length S S' ∧ Bg S.length 0 S' := fun g b e =>
    ⟨_, e, by simp, Keep.app _ _ _, ⟨g, b, 0, by simp, by omega, by omega⟩⟩
  by_cases h1 : k < ns.length
  · have hzz : L2.atI (ns.map W.int) k = some (.int z) := by rw [if_pos h1] at hz; exact hz
    by_cases h2 : (1000000000000000000 : Int) ≤ (if z < 0 then -z else z)
    · refine fin (if z < 0 then -z else z) ((z % 2147483647 + 104729 * (k : Int) + 7) ^ 5 % q) ?_
      simp [f__law_bag, startW, p1, hq, hq2, p2, hzz, h1, h2, l8, l3]
    · refine fin 0 ((z % 2147483647 + 104729 * (k : Int) + 7) ^ 5 % q) ?_
      simp [f__law_bag, startW, p1, hq, hq2, p2, hzz, h1, h2, l8, l3]
  · have p3 : (104729 * (k : Int) + 7).natAbs < 18446744073709551616 := by omega
    refine fin 0 ((104729 * (k : Int) + 7) ^ 5 % q) ?_
    simp [f__law_bag, startW, p1, hq, hq2, p3, h1, l8, l3]
theorem ten_turn (n : W) (v : Int) (lo : W) (S : Sto) : b__law_ten_1 [some n, some (.int v), some lo] S = .nx [some n, some (.int (v * 10)), some lo] S := by
  have hm : mulOk v 10 = true := by simp [mulOk]
  simp [b__law_ten_1, hm]
theorem ten_loop (n : W) : ∀ (t : Nat) (lo v : Int) (x : Option W), ∃ (u : Int) (x' : Option W), u = v * 10 ^ t ∧ forM (.nm 2) b__law_ten_1 (rangeW lo t) [some n, some (.int v), x] [] = .nx [some n, some (.int u), x'] [] := by
  intro t
  induction t with
  | zero => intro lo v x; exact ⟨v, x, by simp, for_nil [] _ _ _⟩
  | succ t ih =>
    intro lo v x
    obtain ⟨u, x', e1, e⟩ := ih (lo + 1) (v * 10) (some (.int lo))
    refine ⟨u, x', by rw [e1, Int.pow_succ, Int.mul_assoc, Int.mul_comm 10], ?_⟩
    rw [rangeW, for_step (b_nm (.int lo) _ 2) (ten_turn n v (.int lo) []), e]
theorem e_ten (n : Nat) (hn : n ≤ 1000) (S : Sto) : pureR (f__law_ten [.int n] []) S = .ok (.int (10 ^ n)) S := by
  obtain ⟨u, x', e1, e⟩ := ten_loop (.int n) n 0 1 none
  rw [Int.one_mul] at e1
  rw [← e1]
  have hr : (n : Int) < 4611686018427387904 := by omega
  simp [f__law_ten, startW, hr, e]
theorem d_far {n c : Nat} {S : Sto} (hB : Bg n c S) (hc : c ≤ 600000000) :
    ∃ (v : Nat) (S' : Sto), (v : Int) * 2 ≤ 10 ^ 59 + 98 ∧ f__law_far [.loc n] S = .ok (.int v) S' ∧ Keep n S.length S S' ∧ Bg n (c + 5) S' := by
  have l3 : 3 ≤ limit := by unfold limit; omega
  obtain ⟨d1, S1, p1, p2, e1, l1, k1, b1⟩ := d_take hB (m := 60) (by omega) (by decide) (by omega)
  obtain ⟨d2, S2, q1, q2, e2, l2, k2, b2⟩ := d_take b1 (m := 99) (by omega) (by decide) (by omega)
  obtain ⟨d3, S3, r1, r2, e3, l3', k3, b3⟩ := d_take b2 (m := 40) (by omega) (by decide) (by omega)
  obtain ⟨d4, S4, s1, s2, e4, l4, k4, b4⟩ := d_take b3 (m := 1000000) (by omega) (by decide) (by omega)
  obtain ⟨d5, S5, t1, t2, e5, l5, k5, b5⟩ := d_take b4 (m := 3) (by omega) (by decide) (by omega)
  have et := e_ten d1.toNat (by omega)
  rw [show ((d1.toNat : Nat) : Int) = d1 by omega] at et
  have hp : (0 : Int) < 10 ^ d1.toNat := Int.pow_pos (by decide)
  have hp2 : (10 : Int) ^ d1.toNat ≤ 10 ^ 59 := by
    have := Nat.pow_le_pow_right (n := 10) (by omega) (show d1.toNat ≤ 59 by omega)
    have e : ((10 ^ d1.toNat : Nat) : Int) ≤ ((10 ^ 59 : Nat) : Int) := Int.ofNat_le.mpr this
    simpa using e
  have i0 : ∃ v : Int, 0 ≤ v ∧ v ≤ 10 ^ 59 + 98 ∧ L2.atI [W.int d3, .int d4, .int (10 ^ d1.toNat + d2)] d5 = some (.int v) := by
    have h59 : (1000000 : Int) ≤ 10 ^ 59 := by decide
    rcases (by omega : d5 = 0 ∨ d5 = 1 ∨ d5 = 2) with rfl | rfl | rfl
    · exact ⟨d3, by omega, by omega, rfl⟩
    · exact ⟨d4, by omega, by omega, rfl⟩
    · exact ⟨10 ^ d1.toNat + d2, by omega, by omega, rfl⟩
  obtain ⟨v, v0, v1, i0⟩ := i0
  have d2' : (2 : Int) < divLim := by decide
  refine ⟨(v / 2).toNat, S5, by omega, ?_, ((((k1.trans (k2.mono (by omega))).trans (k3.mono (by omega))).trans (k4.mono (by omega))).trans (k5.mono (by omega))), b5⟩
  have hv : ((v / 2).toNat : Int) = v / 2 := by omega
  simp [f__law_far, startW, e1, et, e2, e3, e4, e5, i0, l3, d2', hv]
theorem e_lown {ru : List Rul} (hn : ru.length ≤ 5) (S : Sto) : pureR (f__law_own [.tup (ru.map Rul.W)] []) S = .ok (tpI ((List.range ru.length).map fun (i : Nat) => (i : Int))) S := by
  have hr : rgOk 0 (ru.length : Int) = true := rgOk_of (by omega) (by omega) (by omega) (by omega) (by omega)
  have hz : rgR 0 (ru.length : Int) = ((List.range ru.length).map fun (i : Nat) => (i : Int)).map W.int := by
    unfold rgR
    rw [Int.sub_zero, Int.toNat_natCast]; exact range0 _
  have e1 : (mPrim .len (mCons (mVar 0) mNil)) [some (.tup (ru.map Rul.W))] [] = .ok (.int ru.length) [] := by simp
  have e : mRg1 kTup (mPrim .len (mCons (mVar 0) mNil)) [some (.tup (ru.map Rul.W))] [] = .ok (tpI ((List.range ru.length).map fun (i : Nat) => (i : Int))) [] := by
    rw [rg1_ok e1 hr, hz]; rfl
  simp [f__law_own, startW, e]
theorem e_lawown {b : Bk} (hb : b.Ok) (S : Sto) : pureR (f__law_own [.tup (b.ru.map Rul.W)] []) S = .ok (tpI (own b)) S := e_lown hb.n S
end SP

set_option Elab.async false
set_option linter.all false
set_option maxRecDepth 100000
set_option maxHeartbeats 4000000
/-! S13: the law's own beat (as in k07, k13 .. k20). -/
namespace SP
open PySem DL
theorem e_lso {wh : List Int} {n : Nat} {c : Cnd} (h : c.Ok wh n) {vs hs : List Int} (hv : vs.length = wh.length) (hh : hs.length = n) (hnn : ∀ h ∈ hs, 0 ≤ h) : f__law_so [c.w, lsI vs, lsI hs] [] = .ok (.bl (c.so vs hs)) [] := by
  cases c with
  | pl k w p =>
    have hw : Ix vs.length w := by rw [hv]; exact h.1
    have a0 : L2.atI [W.str k.s, .int w, .int p] 0 = some (.str k.s) := by simp [L2.atI, L2.ixN]
    have a1 : L2.atI [W.str k.s, .int w, .int p] 1 = some (.int w) := by simp [L2.atI, L2.ixN]
    have a2 : L2.atI [W.str k.s, .int w, .int p] 2 = some (.int p) := by simp [L2.atI, L2.ixN]
    cases k with
    | is => simp [f__law_so, startW, Cnd.w, a0, a1, a2, ce_str _ _ (pk_ok _) w_hu, ce_str _ _ (pk_ok _) w_aw, ce_str _ _ (pk_ok _) w_be, ce_str _ _ (pk_ok _) w_is, k_hu, k_aw, k_be, k_is, gi_at hw, Cnd.so]
    | not => simp [f__law_so, startW, Cnd.w, a0, a1, a2, ce_str _ _ (pk_ok _) w_hu, ce_str _ _ (pk_ok _) w_aw, ce_str _ _ (pk_ok _) w_be, ce_str _ _ (pk_ok _) w_is, k_hu, k_aw, k_be, k_is, gi_at hw, Cnd.so]
             show ((gi vs w == p) == (PK.not == PK.is)) = !(gi vs w == p)
             cases (gi vs w == p) <;> rfl
    | below => simp [f__law_so, startW, Cnd.w, a0, a1, a2, ce_str _ _ (pk_ok _) w_hu, ce_str _ _ (pk_ok _) w_aw, ce_str _ _ (pk_ok _) w_be, ce_str _ _ (pk_ok _) w_is, k_hu, k_aw, k_be, k_is, gi_at hw, Cnd.so]
  | hu r =>
    have hr : Ix hs.length r := by rw [hh]; exact h
    have a0 : L2.atI [W.str "hushed", .int r] 0 = some (.str "hushed") := by simp [L2.atI, L2.ixN]
    have a1 : L2.atI [W.str "hushed", .int r] 1 = some (.int r) := by simp [L2.atI, L2.ixN]
    have e : (("hushed" : Str) == ("hushed" : Str)) = true := by kernel_rfl
    simp [f__law_so, startW, Cnd.w, a0, a1, ce_str _ _ w_hu w_hu, e, gi_at hr, Cnd.so]
  | aw r =>
    have hr : Ix hs.length r := by rw [hh]; exact h
    have a0 : L2.atI [W.str "awake", .int r] 0 = some (.str "awake") := by simp [L2.atI, L2.ixN]
    have a1 : L2.atI [W.str "awake", .int r] 1 = some (.int r) := by simp [L2.atI, L2.ixN]
    have e : (("awake" : Str) == ("hushed" : Str)) = false := by kernel_rfl
    have e2 : (("awake" : Str) == ("awake" : Str)) = true := by kernel_rfl
    have h0 := hnn _ (gi_mem hr)
    have e3 : (!decide (0 < gi hs r)) = (gi hs r == 0) := by
      by_cases h : gi hs r = 0
      · rw [h]; rfl
      · have h2 : (gi hs r == 0) = false := by simpa using h
        rw [h2, decide_eq_true (show 0 < gi hs r by omega)]; rfl
    have e4 : ∀ k : Bool, (k == false) = !k := fun k => by cases k <;> rfl
    simp [f__law_so, startW, Cnd.w, a0, a1, ce_str _ _ w_aw w_hu, ce_str _ _ w_aw w_aw, e, e2, gi_at hr, Cnd.so]
    simpa using e3
/-- how many conditions hold -/
def held (vs hs : List Int) (l : List Cnd) : List W := l.flatMap fun c => if c.so vs hs then [c.w] else []
theorem held_len (vs hs : List Int) : ∀ l : List Cnd, (held vs hs l).length ≤ l.length ∧ ((held vs hs l).length < l.length ↔ l.all (Cnd.so vs hs) = false)
  | [] => ⟨Nat.le_refl _, by simp [held]⟩
  | c :: l => by
    obtain ⟨h1, h2⟩ := held_len vs hs l
    unfold held at h1 h2 ⊢
    rw [List.flatMap_cons, List.all_cons]
    by_cases h : c.so vs hs = true
    · rw [if_pos h, h, Bool.true_and, List.length_append, List.length_singleton, List.length_cons]
      exact ⟨by omega, by rw [← h2]; omega⟩
    · have h' : c.so vs hs = false := by simpa using h
      rw [if_neg h, h', Bool.false_and, List.nil_append, List.length_cons]
      exact ⟨by omega, ⟨fun _ => rfl, fun _ => by omega⟩⟩
def bEnv (b : Bk) (s od : W) (off : List Int) (x8 x10 x11 x12 x13 x14 x15 x16 x17 x18 x19 x20 : Option W) : DL.Env := [some (tpI b.wh), some (.tup (b.ru.map Rul.W)), some s, some od, some (tpI off), some (.loc 0), some (.loc 1), some (.loc 2), x8, none, x10, x11, x12, x13, x14, x15, x16, x17, x18, x19, x20, none, none]
def mS (m : Mid3) : Sto := [.lst (m.vs.map W.int), .lst (m.hs.map W.int), .lst (m.dn.map W.int)]
section
variable (b : Bk) (s od : W) (off : List Int) (x8 x10 x11 x12 x13 x14 x15 x16 x17 x18 x19 x20 : Option W)
theorem lchange_loop (hw : WhOk b.wh) : ∀ (l : List Chg) (vs : List Int) (hs dn : List W) (x15 x16 x17 x20 : Option W), (∀ c ∈ l, c.Ok b.wh) → vs.length = b.wh.length →
    ∃ y15 y16 y17 y20, forM (.tup [15, 16, 17]) b__law_beat_2 (l.map Chg.W) (bEnv b s od off x8 x10 x11 x12 x13 x14 x15 x16 x17 x18 x19 x20) [.lst (vs.map W.int), .lst hs, .lst dn] =
      .nx (bEnv b s od off x8 x10 x11 x12 x13 x14 y15 y16 y17 x18 x19 y20) [.lst ((l.foldl (Chg.do b.wh) vs).map W.int), .lst hs, .lst dn]
  | [], vs, hs, dn, x15, x16, x17, x20, _, _ => ⟨x15, x16, x17, x20, rfl⟩
  | c :: l, vs, hs, dn, x15, x16, x17, x20, hc, hv => by
    have h0 := hc c (List.mem_cons_self ..)
    have hx : Ix vs.length c.w := by rw [hv]; exact h0.1
    have h2 := prod_gi hw h0.1
    obtain ⟨y15, y16, y17, y20, e⟩ := lchange_loop hw l (Chg.do b.wh vs c) hs dn (some (.str c.wd)) (some (.int c.w)) (some (.int c.p)) (some (.int (gi vs c.w + c.p))) (fun c h => hc c (List.mem_cons_of_mem _ h)) (by unfold Chg.do; rw [seti_len]; exact hv)
    refine ⟨y15, y16, y17, y20, ?_⟩
    have hp : 0 < gi b.wh c.w := by omega
    have gw : L2.atI (b.wh.map W.int) c.w = some (.int (gi b.wh c.w)) := gi_at h0.1
    have hs0 := fun v => set_at (v := v) hx 0 [.lst (vs.map W.int), .lst hs, .lst dn] rfl
    have turn : b__law_beat_2 (bEnv b s od off x8 x10 x11 x12 x13 x14 (some (.str c.wd)) (some (.int c.w)) (some (.int c.p)) x18 x19 x20) [.lst (vs.map W.int), .lst hs, .lst dn] = .nx (bEnv b s od off x8 x10 x11 x12 x13 x14 (some (.str c.wd)) (some (.int c.w)) (some (.int c.p)) x18 x19 (some (.int (gi vs c.w + c.p)))) [.lst ((Chg.do b.wh vs c).map W.int), .lst hs, .lst dn] := by
      cases hput : c.put with
      | true => simp [b__law_beat_2, bEnv, ce_str _ _ (cw_ok c) w_pu, k_pu, hput, gi_at hx, hs0, Chg.do]
      | false => simp [b__law_beat_2, bEnv, ce_str _ _ (cw_ok c) w_pu, k_pu, hput, gi_at hx, gw, hp, hs0, Chg.do]
    rw [List.map_cons, for_step (by rfl) turn, e]; rfl
theorem lhus_loop (vs dn : List W) : ∀ (l : List (Int × Int)) (hs : List Int) (x18 x19 : Option W), (∀ p ∈ l, Ix hs.length p.1) →
    ∃ y18 y19, forM (.tup [18, 19]) b__law_beat_3 (l.map hw) (bEnv b s od off x8 x10 x11 x12 x13 x14 x15 x16 x17 x18 x19 x20) [.lst vs, .lst (hs.map W.int), .lst dn] =
      .nx (bEnv b s od off x8 x10 x11 x12 x13 x14 x15 x16 x17 y18 y19 x20) [.lst vs, .lst ((husDo hs l).map W.int), .lst dn]
  | [], hs, x18, x19, _ => ⟨x18, x19, rfl⟩
  | p :: l, hs, x18, x19, hp => by
    have h0 := hp p (List.mem_cons_self ..)
    obtain ⟨y18, y19, e⟩ := lhus_loop vs dn l (seti hs p.1 (max (gi hs p.1) p.2)) (some (.int p.1)) (some (.int p.2)) (fun q h => by rw [seti_len]; exact hp q (List.mem_cons_of_mem _ h))
    refine ⟨y18, y19, ?_⟩
    have hs0 := fun v => set_at (v := v) h0 1 [.lst vs, .lst (hs.map W.int), .lst dn] rfl
    have turn : b__law_beat_3 (bEnv b s od off x8 x10 x11 x12 x13 x14 x15 x16 x17 (some (.int p.1)) (some (.int p.2)) x20) [.lst vs, .lst (hs.map W.int), .lst dn] = .nx (bEnv b s od off x8 x10 x11 x12 x13 x14 x15 x16 x17 (some (.int p.1)) (some (.int p.2)) x20) [.lst vs, .lst ((seti hs p.1 (max (gi hs p.1) p.2)).map W.int), .lst dn] := by
      simp [b__law_beat_3, bEnv, gi_at h0, hs0, Int.max_comm p.2]
    rw [List.map_cons, for_step (by rfl) turn, e]; rfl
theorem lwak_loop (vs dn : List W) : ∀ (l : List Int) (hs : List Int) (x18 : Option W), (∀ p ∈ l, Ix hs.length p) →
    ∃ y18, forM (.nm 18) b__law_beat_4 (l.map W.int) (bEnv b s od off x8 x10 x11 x12 x13 x14 x15 x16 x17 x18 x19 x20) [.lst vs, .lst (hs.map W.int), .lst dn] =
      .nx (bEnv b s od off x8 x10 x11 x12 x13 x14 x15 x16 x17 y18 x19 x20) [.lst vs, .lst ((wakDo hs l).map W.int), .lst dn]
  | [], hs, x18, _ => ⟨x18, rfl⟩
  | p :: l, hs, x18, hp => by
    have h0 := hp p (List.mem_cons_self ..)
    obtain ⟨y18, e⟩ := lwak_loop vs dn l (seti hs p 0) (some (.int p)) (fun q h => by rw [seti_len]; exact hp q (List.mem_cons_of_mem _ h))
    refine ⟨y18, ?_⟩
    have hs0 := fun v => set_at (v := v) h0 1 [.lst vs, .lst (hs.map W.int), .lst dn] rfl
    have turn : b__law_beat_4 (bEnv b s od off x8 x10 x11 x12 x13 x14 x15 x16 x17 (some (.int p)) x19 x20) [.lst vs, .lst (hs.map W.int), .lst dn] = .nx (bEnv b s od off x8 x10 x11 x12 x13 x14 x15 x16 x17 (some (.int p)) x19 x20) [.lst vs, .lst ((seti hs p 0).map W.int), .lst dn] := by
      simp [b__law_beat_4, bEnv, hs0]
    rw [List.map_cons, for_step (by rfl) turn, e]; rfl
end
theorem lbeat_turn {b : Bk} (hb : b.Ok) {off : List Int} (s od : W) {r : Int} (h0 : Ix b.ru.length r) (m : Mid3) (f : Fit b m.vs m.hs) (hl : m.dn.length ≤ 1000) (hn : ∀ h ∈ m.hs, 0 ≤ h) (x8 x10 x11 x12 x13 x14 x15 x16 x17 x18 x19 x20 : Option W) :
    ∃ y10 y11 y12 y13 y14 y15 y16 y17 y18 y19 y20, b__law_beat_1 (bEnv b s od off (some (.int r)) x10 x11 x12 x13 x14 x15 x16 x17 x18 x19 x20) (mS m) = .nx (bEnv b s od off (some (.int r)) y10 y11 y12 y13 y14 y15 y16 y17 y18 y19 y20) (mS (ask b off m r)) ∨
      b__law_beat_1 (bEnv b s od off (some (.int r)) x10 x11 x12 x13 x14 x15 x16 x17 x18 x19 x20) (mS m) = .ct (bEnv b s od off (some (.int r)) y10 y11 y12 y13 y14 y15 y16 y17 y18 y19 y20) (mS (ask b off m r)) := by
  have hk := rule_ok hb h0
  have hr2 : Ix m.hs.length r := by rw [f.h]; exact h0
  have hru : (b.rule r).W = .tup [.tup ((b.rule r).test.map Cnd.w), .tup ((b.rule r).chg.map Chg.W), .tup ((b.rule r).hus.map hw), tpI (b.rule r).wak] := rfl
  have hln : m.dn.length < limit := by unfold limit; omega
  have htl : (b.rule r).test.length ≤ limit := l_small hk.tl
  obtain ⟨hh1, hh2⟩ := held_len m.vs m.hs (b.rule r).test
  have hg := hn _ (gi_mem hr2)
  have hlc : ∀ ρ : DL.Env, (∃ x22 : Option W, ρ = (bEnv b s od off (some (.int r)) (some (.tup ((b.rule r).test.map Cnd.w))) (some (.tup ((b.rule r).chg.map Chg.W))) (some (.tup ((b.rule r).hus.map hw))) (some (tpI (b.rule r).wak)) x14 x15 x16 x17 x18 x19 x20)) → compM (lcStep ρ [22] (.nm 22) (bTest (mCallV f__law_so (mCons (mVar 22) (mCons (mVar 5) (mCons (mVar 6) mNil))))) (mVar 22)) ((b.rule r).test.map Cnd.w) [] (mS m) = .ok (held m.vs m.hs (b.rule r).test) (mS m) := by
    rintro ρ ⟨_, rfl⟩
    refine lc_filter (g := fun c : Cnd => if c.so m.vs m.hs then [c.w] else []) fun c hc => ?_
    have e := e_lso (hk.t c hc) f.v f.h hn
    cases hso : c.so m.vs m.hs with
    | true => rw [hso] at e; simp [lcStep, bEnv, mS, e]
    | false => rw [hso] at e; simp [lcStep, bEnv, mS, e]
  have hlc' := hlc _ ⟨none, rfl⟩
  simp only [bEnv, mS] at hlc'
  by_cases hc : (!off.contains r && wouldDo b r m.vs m.hs) = true
  · have ea : ask b off m r = ⟨(b.rule r).chg.foldl (Chg.do b.wh) m.vs, wakDo (husDo m.hs (b.rule r).hus) (b.rule r).wak, m.dn ++ [r]⟩ := by unfold ask; rw [if_pos hc]
    rw [Bool.and_eq_true] at hc
    have h1 : off.contains r = false := by simpa using hc.1
    have h3 : r ∉ off := by simpa using h1
    have hwd := hc.2
    unfold wouldDo at hwd
    rw [Bool.and_eq_true] at hwd
    have hz : gi m.hs r = 0 := by simpa using hwd.1
    have hnl : ¬ (held m.vs m.hs (b.rule r).test).length < (b.rule r).test.length := by rw [hh2, hwd.2]; simp
    have hnl2 : (b.rule r).test.length ≤ (held m.vs m.hs (b.rule r).test).length := by omega
    obtain ⟨y15, y16, y17, y20, e1⟩ := lchange_loop b s od off (some (.int r)) (some (.tup ((b.rule r).test.map Cnd.w))) (some (.tup ((b.rule r).chg.map Chg.W))) (some (.tup ((b.rule r).hus.map hw))) (some (tpI (b.rule r).wak)) (some (.lst (held m.vs m.hs (b.rule r).test))) x18 x19 hb.w (b.rule r).chg m.vs (m.hs.map W.int) (m.dn.map W.int ++ [.int r]) x15 x16 x17 x20 hk.c f.v
    obtain ⟨y18, y19, e2⟩ := lhus_loop b s od off (some (.int r)) (some (.tup ((b.rule r).test.map Cnd.w))) (some (.tup ((b.rule r).chg.map Chg.W))) (some (.tup ((b.rule r).hus.map hw))) (some (tpI (b.rule r).wak)) (some (.lst (held m.vs m.hs (b.rule r).test))) y15 y16 y17 y20 (((b.rule r).chg.foldl (Chg.do b.wh) m.vs).map W.int) (m.dn.map W.int ++ [.int r]) (b.rule r).hus m.hs x18 x19 (fun p hp => by rw [f.h]; exact (hk.h p hp).1)
    obtain ⟨z18, e3⟩ := lwak_loop b s od off (some (.int r)) (some (.tup ((b.rule r).test.map Cnd.w))) (some (.tup ((b.rule r).chg.map Chg.W))) (some (.tup ((b.rule r).hus.map hw))) (some (tpI (b.rule r).wak)) (some (.lst (held m.vs m.hs (b.rule r).test))) y15 y16 y17 y19 y20 (((b.rule r).chg.foldl (Chg.do b.wh) m.vs).map W.int) (m.dn.map W.int ++ [.int r]) (b.rule r).wak (husDo m.hs (b.rule r).hus) y18 (fun p hp => by rw [hus_len, f.h]; exact hk.k p hp)
    refine ⟨some (.tup ((b.rule r).test.map Cnd.w)), some (.tup ((b.rule r).chg.map Chg.W)), some (.tup ((b.rule r).hus.map hw)), some (tpI (b.rule r).wak), some (.lst (held m.vs m.hs (b.rule r).test)), y15, y16, y17, z18, y19, y20, .inl ?_⟩
    rw [ea]
    simp only [bEnv] at e1 e2 e3
    simp [b__law_beat_1, bEnv, mS, rule_at h0, hru, hlc', htl, mem_ints, h3, gi_at hr2, hz, hnl, isCell, appR, hln, e1, e2, e3]
  · have ea : ask b off m r = m := by unfold ask; rw [if_neg hc]
    refine ⟨some (.tup ((b.rule r).test.map Cnd.w)), some (.tup ((b.rule r).chg.map Chg.W)), some (.tup ((b.rule r).hus.map hw)), some (tpI (b.rule r).wak), some (.lst (held m.vs m.hs (b.rule r).test)), x15, x16, x17, x18, x19, x20, .inr ?_⟩
    rw [ea]
    by_cases h3 : r ∈ off
    · simp [b__law_beat_1, bEnv, mS, rule_at h0, hru, hlc', htl, mem_ints, h3]
    · by_cases hz : 0 < gi m.hs r
      · simp [b__law_beat_1, bEnv, mS, rule_at h0, hru, hlc', htl, mem_ints, h3, gi_at hr2, hz]
      · have hlt : (held m.vs m.hs (b.rule r).test).length < (b.rule r).test.length := by
          rw [hh2]
          have hz0 : gi m.hs r = 0 := by omega
          simp [h3, wouldDo, hz0] at hc
          simpa using hc
        simp [b__law_beat_1, bEnv, mS, rule_at h0, hru, hlc', htl, mem_ints, h3, gi_at hr2, hz, hlt]
theorem lbeat_loop {b : Bk} (hb : b.Ok) {off : List Int} (s od : W) : ∀ (l : List Int) (m : Mid3) (x8 x10 x11 x12 x13 x14 x15 x16 x17 x18 x19 x20 : Option W), (∀ r ∈ l, Ix b.ru.length r) → MidOk b m → m.dn.length + l.length ≤ 1000 →
    ∃ y8 y10 y11 y12 y13 y14 y15 y16 y17 y18 y19 y20, forM (.nm 8) b__law_beat_1 (l.map W.int) (bEnv b s od off x8 x10 x11 x12 x13 x14 x15 x16 x17 x18 x19 x20) (mS m) = .nx (bEnv b s od off y8 y10 y11 y12 y13 y14 y15 y16 y17 y18 y19 y20) (mS (l.foldl (ask b off) m))
  | [], m, x8, x10, x11, x12, x13, x14, x15, x16, x17, x18, x19, x20, _, _, _ => ⟨x8, x10, x11, x12, x13, x14, x15, x16, x17, x18, x19, x20, rfl⟩
  | r :: l, m, x8, x10, x11, x12, x13, x14, x15, x16, x17, x18, x19, x20, hr, mo, hl => by
    have h0 := hr r (List.mem_cons_self ..)
    rw [List.length_cons] at hl
    obtain ⟨y10, y11, y12, y13, y14, y15, y16, y17, y18, y19, y20, e⟩ := lbeat_turn hb s od (off := off) h0 m mo.f (by omega) (fun h hh => (mo.h h hh).1) x8 x10 x11 x12 x13 x14 x15 x16 x17 x18 x19 x20
    have mo2 := ask_ok hb (off := off) [r] m (fun q hq => by have : q = r := by simpa using hq
                                                             rw [this]; exact h0) mo
    have hd : (ask b off m r).dn.length ≤ m.dn.length + 1 := by unfold ask; split <;> simp
    obtain ⟨z8, z10, z11, z12, z13, z14, z15, z16, z17, z18, z19, z20, e2⟩ := lbeat_loop hb s od l (ask b off m r) (some (.int r)) y10 y11 y12 y13 y14 y15 y16 y17 y18 y19 y20 (fun q h => hr q (List.mem_cons_of_mem _ h)) mo2 (by omega)
    refine ⟨z8, z10, z11, z12, z13, z14, z15, z16, z17, z18, z19, z20, ?_⟩
    rw [List.map_cons, List.foldl_cons, ← e2]
    rcases e with e | e
    · exact for_step (by rfl) e
    · exact for_ct (by rfl) e
theorem e_lbeat {b : Bk} (hb : b.Ok) {s : Sta} (hs : StOk b s) {order off : List Int} (ho : ∀ r ∈ order, Ix b.ru.length r) (hl : order.length ≤ 1000) (S : Sto) :
    pureR (f__law_beat [tpI b.wh, .tup (b.ru.map Rul.W), stW s, tpI order, tpI off] []) S = .ok (.tup [tpI (beatOf b s order off).1, stW (beatOf b s order off).2]) S := by
  have mo : MidOk b ⟨s.1, s.2, []⟩ := ⟨⟨hs.l1, hs.l2⟩, hs.m1, fun h hh => by have := hs.m2 h hh; exact ⟨this.1, by omega⟩⟩
  obtain ⟨y8, y10, y11, y12, y13, y14, y15, y16, y17, y18, y19, y20, e⟩ := lbeat_loop hb (stW s) (tpI order) (off := off) order ⟨s.1, s.2, []⟩ none none none none none none none none none none none none ho mo (by simpa using hl)
  have mo2 := ask_ok hb (off := off) order ⟨s.1, s.2, []⟩ ho mo
  have hlim : (order.foldl (ask b off) ⟨s.1, s.2, []⟩).hs.length ≤ limit := by rw [mo2.f.h]; exact l_small hb.n
  have a0 : L2.atI [tpI s.1, tpI s.2] 0 = some (tpI s.1) := by simp [L2.atI, L2.ixN]
  have a1 : L2.atI [tpI s.1, tpI s.2] 1 = some (tpI s.2) := by simp [L2.atI, L2.ixN]
  have gs0 : getIx (stW s) (.int 0) = some (tpI s.1) := a0
  have gs1 : getIx (stW s) (.int 1) = some (tpI s.2) := a1
  have l0 : 0 ≤ limit := Nat.zero_le _
  have l2 : 2 ≤ limit := by unfold limit; omega
  have l3 : 3 ≤ limit := by unfold limit; omega
  have hlc : ∀ (ρ : DL.Env) (S : Sto), ρ.length = 23 → compM (lcStep ρ [21] (.nm 21) bYes (mBin .Sub (mVar 21) (mPrim .int (mCons (mCmp .Gt (mVar 21) (mCon (.int 0))) mNil)))) ((order.foldl (ask b off) ⟨s.1, s.2, []⟩).hs.map W.int) [] S = .ok ((less (order.foldl (ask b off) ⟨s.1, s.2, []⟩).hs).map W.int) S := by
    intro ρ S hρ
    rw [lc_data (g := fun h => .int (max 0 (h - 1))) fun h hh => by
      have hv : (ρ.set 21 (some (W.int h)))[21]? = some (some (.int h)) := by rw [List.getElem?_set_self (by omega)]
      have := mo2.h h hh
      by_cases hp : 0 < h
      · have h3 : max 0 (h - 1) = h - 1 := by omega
        simp [lcStep, hv, hp, h3]
      · have h3 : h = 0 := by omega
        subst h3
        simp [lcStep, hv]
        decide]
    unfold less
    rw [List.map_map]; rfl
  simp only [bEnv, mS] at e
  simp at e
  simp [f__law_beat, startW, gs0, gs1, l0, l3, e, freezeR, hlim, hlc, l2, beatOf]
  simp [stW]
end SP

set_option Elab.async false
set_option linter.all false
set_option maxRecDepth 100000
set_option maxHeartbeats 4000000
/-! S14: a beat by any order. -/
namespace SP
open PySem DL
@[simp] theorem o_sorted (ρ : DL.Env) (S : Sto) (a : Me) (k : List W → Sto → Res) : mSorted k a ρ S = (a ρ S).bind fun x S => match (items (deref S x)).bind allI with
  | some ns => k ((srtI ns).map W.int) S
  | none => .bad := (rfl)
@[simp] theorem allI_ints : ∀ l : List Int, allI (l.map W.int) = some l
  | [] => rfl
  | a :: l => by rw [List.map_cons, allI, allI_ints l]; rfl
@[simp] theorem kLst_d (ws : List W) (S : Sto) : kLst ws S = .ok (.lst ws) S := (rfl)
@[simp] theorem kTup_d (ws : List W) (S : Sto) : kTup ws S = .ok (.tup ws) S := (rfl)
@[simp] theorem is_nn : cmpop .Is .non .non = some true := (rfl)
@[simp] theorem is_tn (ws : List W) : cmpop .Is (.tup ws) .non = some false := (rfl)
def OrdOk (b : Bk) (order : List Int) : Prop := order.Perm (own b)
theorem own_rise (b : Bk) : (own b).Pairwise (· ≤ ·) := by
  unfold own
  rw [List.pairwise_map]
  exact List.pairwise_lt_range.imp fun h => by omega
theorem srt_ord {b : Bk} {order : List Int} (h : OrdOk b order) : srtI order = own b := sorted_uniq ((srtI_perm order).trans h) (srtI_sorted order) (own_rise b)
theorem ord_ix {b : Bk} {order : List Int} (h : OrdOk b order) : ∀ r ∈ order, Ix b.ru.length r := fun r hr => own_ix b r (h.mem_iff.mp hr)
theorem ord_len {b : Bk} {order : List Int} (h : OrdOk b order) : order.length = b.ru.length := by rw [h.length_eq, own_len]
theorem own_ok (b : Bk) : OrdOk b (own b) := List.Perm.refl _
theorem e_look_order {b : Bk} (hb : b.Ok) {order : List Int} (h : OrdOk b order) (S : Sto) : pureR (f_look_order [b.W, tpI order] []) S = .ok .non S := by
  have hl : order.length ≤ limit := l_small (n := 5) (by rw [ord_len h]; exact hb.n)
  have he : cmpEq (lsI (own b)) (lsI (own b)) = some true := by rw [ce_intsL]; simp
  simp [f_look_order, startW, hl, g_ru]
  rw [lc_data (g := fun _ => .bl true) fun p hp => by
    have := ord_ix h p hp
    simp [lcStep, g_ru, e_is_from, this.1, this.2]]
  simp [srt_ord h, e_own hb, he]
theorem e_beat {b : Bk} (hb : b.Ok) {s : Sta} (hs : StOk b s) {order off : List Int} (ho : OrdOk b order) (hf : OffOk b off) (S : Sto) : pureR (f_beat [b.W, stW s, tpI order, tpI off] []) S = .ok (.tup [tpI (beatOf b s order off).1, stW (beatOf b s order off).2]) S := by
  have hl : order.length ≤ 1000 := by rw [ord_len ho]; have := hb.n; omega
  simp [f_beat, startW, e_look_state hb hs, e_look_order hb ho, e_look_off hb hf, e_beat_of hb hs (ord_ix ho) hl]
theorem e_beat0 {b : Bk} (hb : b.Ok) {s : Sta} (hs : StOk b s) {off : List Int} (hf : OffOk b off) (S : Sto) : pureR (f_beat [b.W, stW s, .non, tpI off] []) S = .ok (.tup [tpI (tdn b off s), stW (tst b off s)]) S := by
  simp [f_beat, startW, e_look_state hb hs, e_own hb, e_look_order hb (own_ok b), e_look_off hb hf, e_beat_of hb hs (own_ix b) (own_le hb)]
  exact ⟨rfl, rfl⟩
theorem c_beat {b : Bk} (hb : b.Ok) {s : Sta} (hs : StOk b s) {off : List Int} (hf : OffOk b off) (S : Sto) : pureR (c_beat_2_off [b.W, stW s] [tpI off] []) S = .ok (.tup [tpI (tdn b off s), stW (tst b off s)]) S := e_beat0 hb hs hf S
theorem c_round_of {b : Bk} (hb : b.Ok) {off : List Int} (ho : OffOk b off) {s : Sta} (hs : StOk b s) (S : Sto) : pureR (c_round_of_2_off [b.W, stW s] [tpI off] []) S = .ok (.tup [.int (trk b off s).2, .int (((trk b off s).1.length : Int) - (trk b off s).2)]) S := e_round_of hb ho hs S
theorem plain_st (s : Sta) : W.plain 60 (stW s) = true := by
  show (W.plainL 58 _ && (W.plainL 58 _ && true)) = true
  rw [plainL_ints, plainL_ints]; rfl
theorem ce_st (a b : Sta) : cmpEq (stW a) (stW b) = some (decide (a = b)) := by
  unfold cmpEq
  rw [plain_st, plain_st, eqv_st]; rfl
noncomputable def rbeg (b : Bk) (off : List Int) (s : Sta) : Nat := (trk b off s).2
noncomputable def rlen (b : Bk) (off : List Int) (s : Sta) : Nat := (trk b off s).1.length - (trk b off s).2
theorem c_round {b : Bk} (hb : b.Ok) {off : List Int} (ho : OffOk b off) {s : Sta} (hs : StOk b s) (S : Sto) : pureR (c_round_of_2_off [b.W, stW s] [tpI off] []) S = .ok (.tup [.int (rbeg b off s), .int (rlen b off s)]) S := by
  have h := (trk_spec hb (off := off) hs).lt
  rw [c_round_of hb ho hs, show (((trk b off s).1.length : Int) - (trk b off s).2) = (rlen b off s : Int) by unfold rlen; omega]; rfl
theorem rlen_pos {b : Bk} (hb : b.Ok) {off : List Int} {s : Sta} (hs : StOk b s) : 0 < rlen b off s := (trk_spec hb (off := off) hs).len0
theorem itr_rounds {b : Bk} (hb : b.Ok) {off : List Int} {s : Sta} (hs : StOk b s) {n : Nat} (h : rbeg b off s ≤ n) (k : Nat) : itr (tst b off) (n + k * rlen b off s) s = itr (tst b off) n s := (trk_spec hb (off := off) hs).rounds n h k
theorem trk_few {b : Bk} (hb : b.Ok) {off : List Int} {s : Sta} (hs : StOk b s) : (trk b off s).1.length ≤ 5832 := by
  have t := trk_spec hb (off := off) hs
  refine few hb t.nd fun x hx => ?_
  obtain ⟨i, hi, e⟩ := List.getElem_of_mem hx
  have := t.at_ i hi
  rw [List.getElem?_eq_getElem hi] at this
  rw [← e, Option.some.inj this]; exact itr_ok hb hs i
theorem rb_few {b : Bk} (hb : b.Ok) {off : List Int} {s : Sta} (hs : StOk b s) : rbeg b off s + rlen b off s ≤ 5832 := by
  have h := (trk_spec hb (off := off) hs).lt
  have := trk_few hb (off := off) hs
  unfold rbeg rlen; omega
/-- the law's outer loop: its turns keep the script's slot -/
theorem main_loop {ns : List Int} {body : Ms} {N M : Nat} (hb : ∀ (k : Nat), k < M → ∀ (r : DL.Env) (S : Sto), r.length = N → ∃ (r' : DL.Env) (S' : Sto), r'.length = N ∧ body (some (scr ns) :: (r.set 0 (some (.int k)))) S = .nx (some (scr ns) :: r') S') :
    ∀ (m lo : Nat), lo + m ≤ M → ∀ (r : DL.Env) (S : Sto), r.length = N → ∃ (r' : DL.Env) (S' : Sto), r'.length = N ∧ forM (.nm 1) body (rangeW lo m) (some (scr ns) :: r) S = .nx (some (scr ns) :: r') S'
  | 0, lo, _, r, S, hr => ⟨r, S, hr, rfl⟩
  | m + 1, lo, h, r, S, hr => by
    obtain ⟨r1, S1, h1, e1⟩ := hb lo (by omega) r S hr
    obtain ⟨r2, S2, h2, e2⟩ := main_loop hb m (lo + 1) (by omega) r1 S1 h1
    refine ⟨r2, S2, h2, ?_⟩
    have er : rangeW (lo : Int) (m + 1) = .int lo :: rangeW ((lo + 1 : Nat) : Int) m := by rw [rangeW]; push_cast; rfl
    rw [er, for_step (by rfl) e1, e2]
theorem main_law {ns : List Int} {body : Ms} {lo hi N : Nat} (hlo : lo ≤ 1000) (hhi : hi ≤ 1000) (hb : ∀ (k : Nat), k < max lo hi → ∀ (r : DL.Env) (S : Sto), r.length = N → ∃ (r' : DL.Env) (S' : Sto), r'.length = N ∧ body (some (scr ns) :: (r.set 0 (some (.int k)))) S = .nx (some (scr ns) :: r') S') :
    ∃ S, fnW 1 (N + 1) (sSeq (sFor (jRange1 (mPrim .max (mCons (mCon (.int lo)) (mCons (mPrim .min (mCons (mCon (.int hi)) (mCons (mPrim .len (mCons (mVar 0) mNil)) mNil))) mNil)))) (.nm 1) body) (sSeq (sRet (mCon (.bl true))) sNext)) [scr ns] [] = .ok (.bl true) S := by
  have hm : max (lo : Int) (min (hi : Int) (ns.length : Int)) = ((max lo (min hi ns.length) : Nat) : Int) := by omega
  obtain ⟨r, S, hr, e⟩ := main_loop hb (max lo (min hi ns.length)) 0 (by omega) (List.replicate N none) [] (by simp)
  have h62 : ((max lo (min hi ns.length) : Nat) : Int) < 4611686018427387904 := by omega
  refine ⟨S, ?_⟩
  have hs : startW (N + 1) [scr ns] = some (scr ns) :: List.replicate N none := by simp [startW]
  have hit : jRange1 (mPrim .max (mCons (mCon (.int lo)) (mCons (mPrim .min (mCons (mCon (.int hi)) (mCons (mPrim .len (mCons (mVar 0) mNil)) mNil))) mNil))) (some (scr ns) :: List.replicate N none) [] = .ok (rangeW 0 (max lo (min hi ns.length))) [] := by
    simp only [o_range1, o_prim, o_cons, o_con, o_nil, o_var]
    simp only [List.getElem?_cons_zero, r_bindL, l_bindL, l_bind, List.map_cons, List.map_nil, d_int, d_lst, p_lenL, optR_s, p_min, p_max, List.length_map, hm]
    rw [if_pos (small_range (by omega) (by omega)), Int.toNat_natCast]
  have hf : sFor (jRange1 (mPrim .max (mCons (mCon (.int lo)) (mCons (mPrim .min (mCons (mCon (.int hi)) (mCons (mPrim .len (mCons (mVar 0) mNil)) mNil))) mNil)))) (.nm 1) body (some (scr ns) :: List.replicate N none) [] = .nx (some (scr ns) :: r) S := by
    rw [o_for, hit, l_toS]
    exact e
  rw [o_fn, if_pos (by rfl), hs, seq_step hf]
  simp
end SP

set_option Elab.async false
set_option linter.all false
set_option maxRecDepth 100000
set_option maxHeartbeats 4000000
/-! S15: how often a rule does. -/
namespace SP
open PySem DL
/-- the first n beats' deeds -/
def dn (b : Bk) (off : List Int) (s : Sta) (n : Nat) : List (List Int) := (List.range n).map fun i => tdn b off (itr (tst b off) i s)
def cnt (b : Bk) (off : List Int) (s : Sta) (r : Int) (n : Nat) : Nat := (dn b off s n).countP fun d => d.contains r
theorem cnt_zero (b : Bk) (off : List Int) (s : Sta) (r : Int) : cnt b off s r 0 = 0 := rfl
theorem cnt_succ (b : Bk) (off : List Int) (s : Sta) (r : Int) (n : Nat) : cnt b off s r (n + 1) = cnt b off s r n + (if (tdn b off (itr (tst b off) n s)).contains r then 1 else 0) := by
  unfold cnt dn
  rw [List.range_succ, List.map_append, List.countP_append, List.map_singleton, List.countP_singleton]
theorem cnt_add (b : Bk) (off : List Int) (s : Sta) (r : Int) (m : Nat) : ∀ n, cnt b off s r (m + n) = cnt b off s r m + cnt b off (itr (tst b off) m s) r n
  | 0 => rfl
  | n + 1 => by rw [← Nat.add_assoc, cnt_succ, cnt_add b off s r m n, cnt_succ, itr_add, Nat.add_assoc]
theorem cnt_round {b : Bk} (hb : b.Ok) {off : List Int} {s : Sta} (hs : StOk b s) (r : Int) {n : Nat} (h : rbeg b off s ≤ n) : cnt b off (itr (tst b off) n s) r (rlen b off s) = cnt b off (itr (tst b off) (rbeg b off s) s) r (rlen b off s) := by
  have key : ∀ k, cnt b off (itr (tst b off) (rbeg b off s + k) s) r (rlen b off s) = cnt b off (itr (tst b off) (rbeg b off s) s) r (rlen b off s) := by
    intro k
    induction k with
    | zero => rfl
    | succ k ih =>
      rw [← ih]
      have e1 := cnt_add b off (itr (tst b off) (rbeg b off s + k) s) r (rlen b off s) 1
      have e2 := cnt_add b off (itr (tst b off) (rbeg b off s + k) s) r 1 (rlen b off s)
      rw [Nat.add_comm 1, e1, ← itr_add, ← itr_add] at e2
      have hr := itr_rounds hb hs (off := off) (n := rbeg b off s + k) (by omega) 1
      rw [Nat.one_mul] at hr
      rw [hr] at e2
      rw [← Nat.add_assoc]
      omega
  have := key (n - rbeg b off s)
  rwa [show rbeg b off s + (n - rbeg b off s) = n by omega] at this
theorem cnt_rounds {b : Bk} (hb : b.Ok) {off : List Int} {s : Sta} (hs : StOk b s) (r : Int) {n : Nat} (h : rbeg b off s ≤ n) : ∀ k, cnt b off (itr (tst b off) n s) r (k * rlen b off s) = k * cnt b off (itr (tst b off) (rbeg b off s) s) r (rlen b off s)
  | 0 => by rw [Nat.zero_mul, Nat.zero_mul]; rfl
  | k + 1 => by
    rw [Nat.add_mul, Nat.one_mul, cnt_add, cnt_rounds hb hs r h k, ← itr_add, cnt_round hb hs r (n := n + k * rlen b off s) (by omega), Nat.add_mul, Nat.one_mul]
/-- the beats among the first ones at which a rule does -/
def tu (r : Int) : Int → List (List Int) → List Int
  | _, [] => []
  | k, d :: l => if d.contains r then k :: tu r (k + 1) l else tu r (k + 1) l
theorem tu_lt (r : Int) : ∀ (l : List (List Int)) (k : Int) (j : Nat), ((tu r k l).filter fun a => decide (a < k + j)).length = (l.take j).countP fun d => d.contains r
  | [], k, j => by cases j <;> rfl
  | d :: l, k, 0 => by
    have key : ∀ (l : List (List Int)) (m : Int), k ≤ m → (tu r m l).filter (fun a => decide (a < k + (0 : Nat))) = [] := by
      intro l
      induction l with
      | nil => intro m _; rfl
      | cons d l ih =>
        intro m hm
        unfold tu
        split
        · rw [List.filter_cons, ih (m + 1) (by omega), decide_eq_false (by omega)]; rfl
        · exact ih (m + 1) (by omega)
    rw [key _ _ (by omega)]; rfl
  | d :: l, k, j + 1 => by
    have ih := tu_lt r l (k + 1) j
    rw [show k + 1 + (j : Int) = k + ((j + 1 : Nat) : Int) by omega] at ih
    unfold tu
    rw [List.take_succ_cons, List.countP_cons]
    split
    · rename_i h
      rw [List.filter_cons, decide_eq_true (show k < k + ((j + 1 : Nat) : Int) by omega)]
      simp only [if_true, List.length_cons, ih]
    · rename_i h
      rw [ih]; omega
theorem tu_ge (r : Int) : ∀ (l : List (List Int)) (k : Int), ∀ a ∈ tu r k l, k ≤ a ∧ a < k + l.length
  | [], k, a, h => by cases h
  | d :: l, k, a, h => by
    unfold tu at h
    rw [List.length_cons]
    split at h
    · rcases List.mem_cons.mp h with rfl | h
      · omega
      · have := tu_ge r l (k + 1) a h; omega
    · have := tu_ge r l (k + 1) a h; omega
theorem tu_all (r : Int) (l : List (List Int)) (k : Int) : (tu r k l).length = l.countP fun d => d.contains r := by
  have := tu_lt r l k l.length
  rw [List.take_length] at this
  rw [← this]
  congr 1
  rw [List.filter_eq_self.mpr]
  intro a ha
  have := tu_ge r l k a ha
  exact decide_eq_true this.2
theorem dn_take (b : Bk) (off : List Int) (s : Sta) {j m : Nat} (h : j ≤ m) : (dn b off s m).take j = dn b off s j := by
  unfold dn
  rw [← List.map_take, List.take_range, Nat.min_eq_left h]
theorem trk_dn {b : Bk} (hb : b.Ok) {off : List Int} {s : Sta} (hs : StOk b s) : (trk b off s).1.map (tdn b off) = dn b off s (trk b off s).1.length := by
  have t := trk_spec hb (off := off) hs
  apply List.ext_getElem?
  intro i
  unfold dn
  rw [List.getElem?_map, List.getElem?_map]
  by_cases h : i < (trk b off s).1.length
  · rw [t.at_ i h, List.getElem?_range h]; rfl
  · rw [List.getElem?_eq_none (by omega), List.getElem?_eq_none (by rw [List.length_range]; omega)]; rfl
noncomputable def tus (b : Bk) (off : List Int) (s : Sta) (r : Int) : List Int := tu r 0 ((trk b off s).1.map (tdn b off))
theorem tus_lt {b : Bk} (hb : b.Ok) {off : List Int} {s : Sta} (hs : StOk b s) (r : Int) {n : Nat} (h : n ≤ (trk b off s).1.length) : ((tus b off s r).filter fun a => decide (a < (n : Int))).length = cnt b off s r n := by
  have := tu_lt r ((trk b off s).1.map (tdn b off)) 0 n
  rw [Int.zero_add] at this
  unfold tus
  rw [this, trk_dn hb hs, dn_take b off s h]; rfl
theorem tus_len {b : Bk} (hb : b.Ok) {off : List Int} {s : Sta} (hs : StOk b s) (r : Int) : (tus b off s r).length = cnt b off s r (trk b off s).1.length := by
  unfold tus
  rw [tu_all, trk_dn hb hs]; rfl
theorem tus_le {b : Bk} (hb : b.Ok) {off : List Int} {s : Sta} (hs : StOk b s) (r : Int) : (tus b off s r).length ≤ 5832 := by
  rw [tus_len hb hs]
  unfold cnt
  refine Nat.le_trans List.countP_le_length ?_
  unfold dn
  rw [List.length_map, List.length_range]; exact trk_few hb hs
theorem filt_split (T : List Int) {a c : Int} (h : a ≤ c) : (T.filter fun x => decide (x < c)).length = (T.filter fun x => decide (x < a)).length + ((T.filter fun x => decide (a ≤ x)).filter fun x => decide (x < c)).length := by
  induction T with
  | nil => rfl
  | cons x T ih =>
    rw [List.filter_cons, List.filter_cons, List.filter_cons (p := fun x => decide (a ≤ x))]
    by_cases h1 : x < a
    · rw [decide_eq_true h1, decide_eq_true (show x < c by omega), decide_eq_false (show ¬ a ≤ x by omega)]
      simp only [if_true, if_false, List.length_cons, ih, Bool.false_eq_true]; omega
    · rw [decide_eq_false h1, decide_eq_true (show a ≤ x by omega)]
      simp only [if_true, if_false, Bool.false_eq_true]
      rw [List.filter_cons]
      by_cases h2 : x < c
      · rw [decide_eq_true h2]
        simp only [if_true, List.length_cons, ih]; omega
      · rw [decide_eq_false h2]
        simp only [if_false, Bool.false_eq_true, ih]
theorem flat_if {α β : Type} (p : α → Bool) (f : α → β) (l : List α) : (l.flatMap fun a => if p a then [f a] else []) = (l.filter p).map f := by
  induction l with
  | nil => rfl
  | cons a l ih =>
    rw [List.flatMap_cons, ih, List.filter_cons]
    cases p a <;> rfl
/-- a comprehension with a test over data that is told -/
theorem lc_if {α : Type} {l : List α} {e f : α → W} {p : α → Bool} {ρ : DL.Env} {S : Sto} {vs : List Nat} {tg : Tg} {c : Mb} {el : Me} (h : ∀ a ∈ l, lcStep ρ vs tg c el (e a) S = .ok (if p a then [f a] else []) S) : compM (lcStep ρ vs tg c el) (l.map e) [] S = .ok ((l.filter p).map f) S := by
  rw [lc_filter (g := fun a => if p a then [f a] else []) h, flat_if]
theorem turns_comp (r : Int) (step : W → Sto → LRes) (h : ∀ (i : Int) (d : List Int) S, step (.tup [.int i, tpI d]) S = .ok (if d.contains r then [.int i] else []) S) : ∀ (l : List (List Int)) (k : Int) (acc : List W) (S : Sto), compM step (jEnum.enumI k (l.map fun d => tpI d)) acc S = .ok (acc ++ (tu r k l).map W.int) S
  | [], k, acc, S => by simp [jEnum.enumI, tu]
  | d :: l, k, acc, S => by
    rw [List.map_cons, jEnum.enumI]
    show (step _ S).bindL _ = _
    rw [h k d S]
    show compM step _ (acc ++ _) S = _
    rw [turns_comp r step h l (k + 1)]
    have et : tu r k (d :: l) = if d.contains r then k :: tu r (k + 1) l else tu r (k + 1) l := rfl
    rw [et]
    cases d.contains r <;> simp
theorem enum_len (l : List W) : ∀ k, (jEnum.enumI k l).length = l.length := fun k => enumI_len l k
theorem e_turns {b : Bk} (hb : b.Ok) {off : List Int} {s : Sta} (hs : StOk b s) (r : Int) (S : Sto) : pureR (f_Track_turns [trO b off s, .int r] []) S = .ok (lsI (tus b off s r)) S := by
  have hl : (jEnum.enumI 0 (((trk b off s).1.map (tdn b off)).map fun d => tpI d)).length ≤ limit := by rw [enum_len, List.length_map, List.length_map]; exact l_small (trk_few hb hs)
  have hc := turns_comp r (lcStep [some (trO b off s), some (.int r), none, none] [2, 3] (.tup [2, 3]) (bTest (mCmp .In (mVar 1) (mVar 3))) (mVar 2)) (fun i d S => by
    by_cases h : r ∈ d <;> simp [lcStep, mem_ints, h]) ((trk b off s).1.map (tdn b off)) 0 [] []
  rw [List.nil_append] at hc
  have hg := g_deeds b off s
  generalize ((trk b off s).1.map (tdn b off)).map (fun d => tpI d) = ds at hl hc hg
  simp [f_Track_turns, startW, hg, hl, hc, tus]
/-- how often, as the program reckons it -/
theorem e_often {b : Bk} (hb : b.Ok) {off : List Int} {s : Sta} (hs : StOk b s) (r : Int) (n : Nat) (S : Sto) : pureR (f_Track_often [trO b off s, .int r, .int n] []) S = .ok (.int (cnt b off s r n)) S := by
  have ht := e_turns hb hs (off := off) r
  have hle := tus_le hb hs (off := off) r
  have hlim : (tus b off s r).length ≤ limit := l_small hle
  have hg := g_deeds b off s
  have hdl : (((trk b off s).1.map (tdn b off)).map (fun d => tpI d)).length = (trk b off s).1.length := by rw [List.length_map, List.length_map]
  generalize ((trk b off s).1.map (tdn b off)).map (fun d => tpI d) = ds at hdl hg
  by_cases h : n ≤ (trk b off s).1.length
  · have h2 : (n : Int) ≤ (trk b off s).1.length := by omega
    have hc := lc_if (l := tus b off s r) (e := W.int) (f := W.int) (p := fun a => decide (a < (n : Int))) (ρ := [some (trO b off s), some (.int r), some (.int n), some (lsI (tus b off s r)), none, none, none, none]) (S := []) (vs := [7]) (tg := .nm 7) (c := bTest (mCmp .Lt (mVar 7) (mVar 2))) (el := mVar 7) (fun a _ => by
      by_cases h : a < (n : Int) <;> simp [lcStep, h])
    have hl := tus_lt hb hs (off := off) r h
    simp [f_Track_often, startW, ht, hg, hdl, h2, h, hlim, hc, hl]
  · have t := trk_spec hb (off := off) hs
    have hlt := t.lt
    have hpos := rlen_pos hb (off := off) hs
    have hfew := rb_few hb (off := off) hs
    have hlen : (trk b off s).1.length = rbeg b off s + rlen b off s := by unfold rbeg rlen; omega
    have hgb : ∀ S, getFld S 1 4 (trO b off s) = some (.int (rbeg b off s)) := g_begin b off s
    have hgl : ∀ S, getFld S 1 5 (trO b off s) = some (.int (rlen b off s)) := fun S => by rw [g_length b off s S]; unfold rlen; congr 2; omega
    rw [hlen] at hdl
    have hn : rbeg b off s + rlen b off s < n := by omega
    have hI : ∀ x4 x5 x6 x7 : Option W, compM (lcStep [some (trO b off s), some (.int r), some (.int n), some (lsI (tus b off s r)), x4, x5, x6, x7] [7] (.nm 7) (bTest (mCmp .GtE (mVar 7) (mFld 1 4 (mVar 0)))) (mBin .Sub (mVar 7) (mFld 1 4 (mVar 0)))) ((tus b off s r).map W.int) [] [] = .ok ((((tus b off s r).filter fun a => decide ((rbeg b off s : Int) ≤ a)).map fun a => a - (rbeg b off s : Int)).map W.int) [] := by
      intro x4 x5 x6 x7
      rw [List.map_map]
      refine lc_if (p := fun a => decide ((rbeg b off s : Int) ≤ a)) fun a _ => ?_
      by_cases h : (rbeg b off s : Int) ≤ a <;> simp [lcStep, hgb, h]
    generalize hII : (((tus b off s r).filter fun a => decide ((rbeg b off s : Int) ≤ a)).map fun a => a - (rbeg b off s : Int)) = I at hI
    have hIl : I.length = ((tus b off s r).filter fun a => decide ((rbeg b off s : Int) ≤ a)).length := by rw [← hII, List.length_map]
    have hIle : I.length ≤ 5832 := by rw [hIl]; exact Nat.le_trans (List.length_filter_le _ _) hle
    have hIlim : I.length ≤ limit := l_small hIle
    obtain ⟨q, hq⟩ : ∃ q : Nat, (q : Int) = ((n : Int) - rbeg b off s) / (rlen b off s : Int) := ⟨(n - rbeg b off s) / rlen b off s, by rw [Int.natCast_ediv, show ((n - rbeg b off s : Nat) : Int) = (n : Int) - rbeg b off s by omega]⟩
    obtain ⟨e, he⟩ : ∃ e : Nat, (e : Int) = ((n : Int) - rbeg b off s) % (rlen b off s : Int) := ⟨(n - rbeg b off s) % rlen b off s, by rw [Int.natCast_emod, show ((n - rbeg b off s : Nat) : Int) = (n : Int) - rbeg b off s by omega]⟩
    have hqe : n = rbeg b off s + (q * rlen b off s + e) := by
      have := Int.mul_ediv_add_emod ((n : Int) - rbeg b off s) (rlen b off s : Int)
      rw [← hq, ← he, Int.mul_comm] at this
      have h2 : ((q * rlen b off s : Nat) : Int) = (q : Int) * (rlen b off s : Int) := by simp
      omega
    have hel : e < rlen b off s := by
      have := Int.emod_lt_of_pos ((n : Int) - rbeg b off s) (show (0 : Int) < rlen b off s by omega)
      omega
    have hR : ∀ x3 x4 x6 x7 : Option W, compM (lcStep [some (trO b off s), some (.int r), some (.int n), x3, x4, some (.int e), x6, x7] [7] (.nm 7) (bTest (mCmp .Lt (mVar 7) (mVar 5))) (mVar 7)) (I.map W.int) [] [] = .ok ((I.filter fun a => decide (a < (e : Int))).map W.int) [] := by
      intro x3 x4 x6 x7
      refine lc_if (p := fun a => decide (a < (e : Int))) fun a _ => ?_
      by_cases h : a < (e : Int) <;> simp [lcStep, h]
    -- the counts
    have c0 := tus_lt hb hs (off := off) r (n := rbeg b off s) (by omega)
    have c1 := tus_lt hb hs (off := off) r (n := rbeg b off s + rlen b off s) (by omega)
    have c2 := tus_lt hb hs (off := off) r (n := rbeg b off s + e) (by omega)
    have lt_all : ∀ a ∈ tus b off s r, a < ((rbeg b off s + rlen b off s : Nat) : Int) := fun a ha => by
      have := tu_ge r _ _ a ha
      rw [List.length_map, hlen] at this
      omega
    have f1 := filt_split (tus b off s r) (a := (rbeg b off s : Int)) (c := ((rbeg b off s + rlen b off s : Nat) : Int)) (by omega)
    rw [List.filter_eq_self.mpr (fun a ha => decide_eq_true (lt_all a ha)), List.filter_eq_self.mpr (fun a ha => decide_eq_true (lt_all a (List.mem_filter.mp ha).1)), c0, ← hIl] at f1
    rw [List.filter_eq_self.mpr (fun a ha => decide_eq_true (lt_all a ha))] at c1
    have f2 := filt_split (tus b off s r) (a := (rbeg b off s : Int)) (c := ((rbeg b off s + e : Nat) : Int)) (by omega)
    rw [c0, c2] at f2
    have f3 : (I.filter fun a => decide (a < (e : Int))).length = (((tus b off s r).filter fun a => decide ((rbeg b off s : Int) ≤ a)).filter fun a => decide (a < ((rbeg b off s + e : Nat) : Int))).length := by
      rw [← hII, List.filter_map, List.length_map]
      congr 1
      apply List.filter_congr
      intro a _
      show decide (a - (rbeg b off s : Int) < (e : Int)) = _
      by_cases h : a - (rbeg b off s : Int) < (e : Int)
      · rw [decide_eq_true h, decide_eq_true (by omega)]
      · rw [decide_eq_false h, decide_eq_false (by omega)]
    have g1 := cnt_add b off s r (rbeg b off s) (rlen b off s)
    have g2 := cnt_add b off s r (rbeg b off s) e
    have g3 := cnt_add b off s r (rbeg b off s) (q * rlen b off s + e)
    have g4 : cnt b off (itr (tst b off) (rbeg b off s) s) r (q * rlen b off s + e) = q * cnt b off (itr (tst b off) (rbeg b off s) s) r (rlen b off s) + cnt b off (itr (tst b off) (rbeg b off s) s) r e := by
      rw [cnt_add, cnt_rounds hb hs r (Nat.le_refl _), ← itr_add, itr_rounds hb hs (off := off) (Nat.le_refl _)]
    rw [g4] at g3
    have hfin : ((tus b off s r).length : Int) - I.length + q * I.length + (I.filter fun a => decide (a < (e : Int))).length = cnt b off s r n := by
      have hC : I.length = cnt b off (itr (tst b off) (rbeg b off s) s) r (rlen b off s) := by omega
      have h4 : cnt b off s r n = cnt b off s r (rbeg b off s) + q * I.length + (I.filter fun a => decide (a < (e : Int))).length := by
        rw [hqe, g3, hC, f3]; omega
      have h5 : (cnt b off s r n : Int) = cnt b off s r (rbeg b off s) + q * I.length + (I.filter fun a => decide (a < (e : Int))).length := by
        rw [h4]; simp
      omega
    have h2 : ¬ (n : Int) ≤ (rbeg b off s : Int) + rlen b off s := by omega
    have h3 : (rlen b off s : Int) < 1073741824 := by omega
    have hmu : mulOk (q : Int) I.length = true := by
      unfold mulOk
      have q1 : -(2 ^ 64) < (I.length : Int) := by omega
      have q2 : (I.length : Int) < 2 ^ 64 := by omega
      rw [decide_eq_true q1, decide_eq_true q2]; simp
    have hJl : (I.filter fun a => decide (a < (e : Int))).length ≤ limit := Nat.le_trans (List.length_filter_le _ _) hIlim
    rw [← hfin]
    simp [f_Track_often, startW, ht, hg, hdl, h2, hgb, hgl, hpos, h3, hlim, hI, hIlim, ← hq, ← he, hR, hmu]
theorem e_look_rule {b : Bk} {r : Int} (h : Ix b.ru.length r) (S : Sto) : pureR (f_look_rule [b.W, .int r] []) S = .ok .non S := by
  simp [f_look_rule, startW, g_ru, e_is_from, h.1, h.2]
theorem e_times {b : Bk} (hb : b.Ok) {off : List Int} (ho : OffOk b off) {s : Sta} (hs : StOk b s) {r : Int} (hr : Ix b.ru.length r) {n : Nat} (hn : (n : Int) < MOST) (S : Sto) : pureR (f_times [b.W, stW s, .int r, .int n, tpI off] []) S = .ok (.int (cnt b off s r n)) S := by
  simp [f_times, startW, e_look_state hb hs, e_look_rule hr, e_look_beats (Int.natCast_nonneg n) hn, e_track_of hb ho hs, e_often hb hs]
theorem c_times {b : Bk} (hb : b.Ok) {off : List Int} (ho : OffOk b off) {s : Sta} (hs : StOk b s) {r : Int} (hr : Ix b.ru.length r) {n : Nat} (hn : (n : Int) < MOST) (S : Sto) : pureR (c_times_4_off [b.W, stW s, .int r, .int n] [tpI off] []) S = .ok (.int (cnt b off s r n)) S := e_times hb ho hs hr hn S
end SP

set_option Elab.async false
set_option linter.all false
set_option maxRecDepth 100000
set_option maxHeartbeats 4000000
/-! S16: quiet; the law's own track. -/
namespace SP
open PySem DL
section
variable {a i b : Me} {pk : Ml} {ρ : DL.Env} {S : Sto}
@[simp] theorem o_maxD : mMaxD a pk ρ S = (a ρ S).bind fun x S => (pk ρ S).bind fun zs S => maxDR x zs S := (rfl)
@[simp] theorem o_ins : mIns a i b ρ S = (a ρ S).bind fun x S => if isCell S x then (i ρ S).bind fun i S => (b ρ S).bind fun y S => insR x i y S else .bad := (rfl)
@[simp] theorem o_isLT : mIsLT a ρ S = (a ρ S).bind fun x S => optR S ((isLT (deref S x)).map .bl) := (rfl)
end
theorem maxD_ints (l : List Int) (z : W) (S : Sto) : maxDR (.lst (l.map W.int)) [z] S = match l with | [] => .ok z S | n :: ns => .ok (.int (maxI n ns)) S := by
  unfold maxDR
  simp only [deref, allI_ints]
  cases l <;> rfl
/-- the last of the loud ones, and one more -/
def lq : Nat → Nat → List (List Int) → Nat
  | q, _, [] => q
  | q, k, d :: l => if d = [] then lq q (k + 1) l else lq (k + 1) (k + 1) l
def quD (D : List (List Int)) (bg : Nat) : Option Nat := if (D.drop bg).any (fun d => !(d == [])) then none else some (lq 0 0 D)
def Qt (δ : Nat → List Int) : Option Nat → Prop
  | none => ∀ n, ∃ m, n ≤ m ∧ δ m ≠ []
  | some q => (∀ n, q ≤ n → δ n = []) ∧ (q = 0 ∨ δ (q - 1) ≠ [])
theorem Qt.uniq {δ : Nat → List Int} : ∀ {o p : Option Nat}, Qt δ o → Qt δ p → o = p
  | none, none, _, _ => rfl
  | none, some q, h, k => by obtain ⟨m, h1, h2⟩ := h q; exact absurd (k.1 m h1) h2
  | some q, none, h, k => by obtain ⟨m, h1, h2⟩ := k q; exact absurd (h.1 m h1) h2
  | some q, some p, h, k => by
    have key : ∀ {q p : Nat}, Qt δ (some q) → Qt δ (some p) → ¬ q < p := by
      intro q p h k hl
      rcases k.2 with e | e
      · omega
      · exact e (h.1 _ (by omega))
    have h1 := key h k
    have h2 := key k h
    rw [show q = p by omega]
theorem Qt.shift {δ : Nat → List Int} (f : Nat) : ∀ {o : Option Nat}, Qt δ o → Qt (fun n => δ (f + n)) (o.map (· - f))
  | none, h => fun n => by
    obtain ⟨m, h1, h2⟩ := h (f + n)
    exact ⟨m - f, by omega, by show δ (f + (m - f)) ≠ []; rw [show f + (m - f) = m by omega]; exact h2⟩
  | some q, h => by
    show (∀ n, q - f ≤ n → δ (f + n) = []) ∧ (q - f = 0 ∨ δ (f + (q - f - 1)) ≠ [])
    refine ⟨fun n hn => h.1 _ (by omega), ?_⟩
    by_cases hq : q ≤ f
    · exact .inl (by show q - f = 0; omega)
    · rcases h.2 with e | e
      · omega
      · exact .inr (by show δ (f + (q - f - 1)) ≠ []; rw [show f + (q - f - 1) = q - 1 by omega]; exact e)
theorem lq_spec : ∀ (D : List (List Int)) (q k : Nat), q ≤ k → (∀ i, lq q k D ≤ k + i → ∀ d, D[i]? = some d → d = []) ∧ (lq q k D = q ∨ ∃ i d, lq q k D = k + i + 1 ∧ D[i]? = some d ∧ d ≠ [])
  | [], q, k, _ => ⟨(fun i _ d h => by cases h), .inl rfl⟩
  | d :: l, q, k, hq => by
    unfold lq
    by_cases hd : d = []
    · rw [if_pos hd]
      obtain ⟨h1, h2⟩ := lq_spec l q (k + 1) (by omega)
      refine ⟨fun i hi e he => ?_, ?_⟩
      · cases i with
        | zero => cases he; exact hd
        | succ i => exact h1 i (by omega) e he
      · rcases h2 with h2 | ⟨i, e, h2, h3, h4⟩
        · exact .inl h2
        · exact .inr ⟨i + 1, e, by omega, h3, h4⟩
    · rw [if_neg hd]
      obtain ⟨h1, h2⟩ := lq_spec l (k + 1) (k + 1) (Nat.le_refl _)
      have hge : ∀ (l : List (List Int)) (q k : Nat), q ≤ k → q ≤ lq q k l := by
        intro l
        induction l with
        | nil => intro q k _; exact Nat.le_refl _
        | cons e l ih =>
          intro q k h
          unfold lq
          split
          · exact ih q (k + 1) (by omega)
          · exact Nat.le_trans (by omega) (ih (k + 1) (k + 1) (Nat.le_refl _))
      refine ⟨fun i hi e he => ?_, ?_⟩
      · cases i with
        | zero =>
          have := hge l (k + 1) (k + 1) (Nat.le_refl _)
          omega
        | succ i => exact h1 i (by omega) e he
      · rcases h2 with h2 | ⟨i, e, h2, h3, h4⟩
        · exact .inr ⟨0, d, h2, rfl, hd⟩
        · exact .inr ⟨i + 1, e, by omega, h3, h4⟩
theorem qt_trk {b : Bk} {off : List Int} {s : Sta} {sts : List Sta} {bg : Nat} (t : Trk (tst b off) s sts bg) : Qt (fun n => tdn b off (itr (tst b off) n s)) (quD (sts.map (tdn b off)) bg) := by
  have hD : ∀ i, i < sts.length → (sts.map (tdn b off))[i]? = some (tdn b off (itr (tst b off) i s)) := fun i hi => by rw [List.getElem?_map, t.at_ i hi]; rfl
  unfold quD
  split
  · rename_i h
    rw [List.any_eq_true] at h
    obtain ⟨d, hd, hn⟩ := h
    obtain ⟨j, hj⟩ := List.mem_iff_getElem?.mp hd
    rw [List.getElem?_drop] at hj
    have hlt : bg + j < sts.length := by
      obtain ⟨h1, _⟩ := List.getElem?_eq_some_iff.mp hj
      rw [List.length_map] at h1; exact h1
    rw [hD _ hlt] at hj
    intro n
    have hL := t.len0
    refine ⟨bg + j + n * (sts.length - bg), ?_, ?_⟩
    · have := Nat.mul_le_mul_left n (show 1 ≤ sts.length - bg by omega); omega
    · show tdn b off (itr (tst b off) (bg + j + n * (sts.length - bg)) s) ≠ []
      rw [t.rounds (bg + j) (by omega) n, Option.some.inj hj]
      simpa using hn
  · rename_i h
    have h0 : ∀ d ∈ (sts.map (tdn b off)).drop bg, d = [] := by
      intro d hd
      have h2 : ((sts.map (tdn b off)).drop bg).any (fun d => !(d == [])) = false := by
        cases hh : ((sts.map (tdn b off)).drop bg).any (fun d => !(d == [])) with
        | false => rfl
        | true => exact absurd hh h
      rw [List.any_eq_false] at h2
      have := h2 d hd
      simpa using this
    obtain ⟨h1, h2⟩ := lq_spec (sts.map (tdn b off)) 0 0 (Nat.le_refl _)
    refine ⟨fun n hn => ?_, ?_⟩
    · show tdn b off (itr (tst b off) n s) = []
      rw [← t.spot_at n]
      have hs := t.spot_lt n
      by_cases hb : n < bg
      · have e : spot bg (sts.length - bg) n = n := by unfold spot; rw [if_pos hb]
        rw [e] at hs ⊢
        exact h1 n (by omega) _ (hD n hs)
      · have e : bg ≤ spot bg (sts.length - bg) n := by unfold spot; rw [if_neg hb]; omega
        refine h0 _ (List.mem_iff_getElem?.mpr ⟨spot bg (sts.length - bg) n - bg, ?_⟩)
        rw [List.getElem?_drop, show bg + (spot bg (sts.length - bg) n - bg) = spot bg (sts.length - bg) n by omega, hD _ hs]
    · rcases h2 with h2 | ⟨i, d, h2, h3, h4⟩
      · exact .inl h2
      · have hi : i < sts.length := by
          obtain ⟨h1, _⟩ := List.getElem?_eq_some_iff.mp h3
          rw [List.length_map] at h1; exact h1
        rw [hD i hi] at h3
        refine .inr ?_
        show tdn b off (itr (tst b off) (lq 0 0 (sts.map (tdn b off)) - 1) s) ≠ []
        rw [h2, show 0 + i + 1 - 1 = i by omega, Option.some.inj h3]
        exact h4
/-! ### what the two sides reckon -/
def ldm : Int → List (List Int) → List Int
  | _, [] => []
  | k, d :: l => if d = [] then ldm (k + 1) l else k :: ldm (k + 1) l
theorem ldm_max : ∀ (D : List (List Int)) (q k : Nat), q ≤ k → maxI (q : Int) ((ldm k D).map (· + 1)) = (lq q k D : Nat)
  | [], _, _, _ => rfl
  | d :: l, q, k, h => by
    unfold ldm lq
    by_cases hd : d = []
    · rw [if_pos hd, if_pos hd]
      exact ldm_max l q (k + 1) (by omega)
    · rw [if_neg hd, if_neg hd, List.map_cons]
      unfold maxI
      rw [if_pos (by omega)]
      exact ldm_max l (k + 1) (k + 1) (Nat.le_refl _)
theorem ldm_last : ∀ (D : List (List Int)) (q k : Nat), (match (ldm k D).getLast? with | none => (q : Int) | some a => a + 1 : Int) = ((lq q k D : Nat) : Int)
  | [], _, _ => rfl
  | d :: l, q, k => by
    unfold ldm lq
    by_cases hd : d = []
    · rw [if_pos hd, if_pos hd]
      exact ldm_last l q (k + 1)
    · rw [if_neg hd, if_neg hd, ← ldm_last l (k + 1) (k + 1)]
      rw [List.getLast?_cons]
      show _ = (match (ldm ((k : Int) + 1) l).getLast? with | none => _ | some a => a + 1)
      cases (ldm ((k : Int) + 1) l).getLast? <;> rfl
theorem lq_app : ∀ (A B : List (List Int)) (q k : Nat), (∀ d ∈ B, d = []) → lq q k (A ++ B) = lq q k A
  | [], B, q, k, h => by
    show lq q k B = q
    induction B generalizing k with
    | nil => rfl
    | cons d B ih =>
      unfold lq
      rw [if_pos (h d (List.mem_cons_self ..))]
      exact ih (k + 1) fun e he => h e (List.mem_cons_of_mem _ he)
  | d :: A, B, q, k, h => by
    rw [List.cons_append]
    unfold lq
    split <;> exact lq_app A B _ _ h
def qW : Option Nat → W
  | none => .non
  | some q => .int q
@[simp] theorem nl_qW (o : Option Nat) : (qW o).nl = true := by cases o <;> rfl
theorem ce00 : cmpEq (.tup []) (.tup []) = some true := ce_ints [] []
theorem cut_drop (l : List W) (n : Nat) : cutW l (some (n : Int)) none = l.drop n := by
  unfold cutW HT.sIx
  simp only [Int.toNat_natCast]
  rw [if_neg (by omega)]
  by_cases h : n ≤ l.length
  · rw [Nat.min_eq_left h, List.take_of_length_le (by rw [List.length_drop]; omega)]
  · rw [Nat.min_eq_right (by omega), List.drop_eq_nil_of_le (Nat.le_refl _), List.drop_eq_nil_of_le (by omega), List.take_nil]
theorem ldm_ge : ∀ (D : List (List Int)) (k : Int), ∀ a ∈ ldm k D, k ≤ a
  | [], _, _, h => by cases h
  | d :: l, k, a, h => by
    unfold ldm at h
    split at h
    · have := ldm_ge l (k + 1) a h; omega
    · rcases List.mem_cons.mp h with rfl | h
      · omega
      · have := ldm_ge l (k + 1) a h; omega
theorem ldm_top (D : List (List Int)) (S : Sto) : maxDR (.lst (((ldm 0 D).map (· + 1)).map W.int)) [.int 0] S = .ok (.int (lq 0 0 D)) S := by
  have hm := ldm_max D 0 0 (Nat.le_refl _)
  rw [maxD_ints]
  have hg := ldm_ge D 0
  change maxI 0 ((ldm 0 D).map (· + 1)) = _ at hm
  cases e : ldm 0 D with
  | nil => rw [e] at hm; rw [← hm]; rfl
  | cons a l =>
    have := hg a (by rw [e]; exact List.mem_cons_self ..)
    rw [e, List.map_cons] at hm
    unfold maxI at hm
    rw [if_pos (by omega)] at hm
    rw [List.map_cons]
    show Res.ok (W.int (maxI (a + 1) (l.map (· + 1)))) S = _
    rw [hm]
/-- enumerating, what is loud -/
theorem loud_comp (step : W → Sto → LRes) (g : Int → Int) (h : ∀ (i : Int) (d : List Int) S, step (.tup [.int i, tpI d]) S = .ok (if d = [] then [] else [.int (g i)]) S) : ∀ (l : List (List Int)) (k : Int) (acc : List W) (S : Sto), compM step (jEnum.enumI k (l.map fun d => tpI d)) acc S = .ok (acc ++ ((ldm k l).map g).map W.int) S
  | [], k, acc, S => by simp [jEnum.enumI, ldm]
  | d :: l, k, acc, S => by
    rw [List.map_cons, jEnum.enumI]
    show (step _ S).bindL _ = _
    rw [h k d S]
    show compM step _ (acc ++ _) S = _
    rw [loud_comp step g h l (k + 1)]
    have et : ldm k (d :: l) = if d = [] then ldm (k + 1) l else k :: ldm (k + 1) l := rfl
    rw [et]
    by_cases hd : d = [] <;> simp [hd]
noncomputable def qt (b : Bk) (off : List Int) (s : Sta) : Option Nat := quD ((trk b off s).1.map (tdn b off)) (trk b off s).2
theorem qt_ok {b : Bk} (hb : b.Ok) {off : List Int} {s : Sta} (hs : StOk b s) : Qt (fun n => tdn b off (itr (tst b off) n s)) (qt b off s) := qt_trk (trk_spec hb hs)
theorem qt_itr {b : Bk} (hb : b.Ok) {off : List Int} {s : Sta} (hs : StOk b s) (f : Nat) : qt b off (itr (tst b off) f s) = (qt b off s).map (· - f) := by
  refine (qt_ok hb (itr_ok hb hs f)).uniq ?_
  have := (qt_ok hb (off := off) hs).shift f
  have e : (fun n => tdn b off (itr (tst b off) (f + n) s)) = fun n => tdn b off (itr (tst b off) n (itr (tst b off) f s)) := funext fun n => by rw [itr_add]
  rw [← e]; exact this
theorem e_quiet {b : Bk} (hb : b.Ok) {off : List Int} {s : Sta} (hs : StOk b s) (S : Sto) : pureR (f_Track_quiet [trO b off s] []) S = .ok (qW (qt b off s)) S := by
  have hg := g_deeds b off s
  have hgb : ∀ S, getFld S 1 4 (trO b off s) = some (.int (trk b off s).2) := g_begin b off s
  have hfew := trk_few hb (off := off) hs
  unfold qt
  have hDl : ((trk b off s).1.map (tdn b off)).length = (trk b off s).1.length := List.length_map _
  generalize (trk b off s).1.map (tdn b off) = D at hg hDl
  generalize (trk b off s).2 = bg at hgb
  have hDlim : D.length ≤ limit := l_small (show D.length ≤ 5832 by omega)
  obtain ⟨B, hB⟩ : ∃ B, B = D.drop bg := ⟨_, rfl⟩
  have hBm : List.drop bg (D.map fun d => tpI d) = B.map fun d => tpI d := by rw [hB, List.map_drop]
  have hin : ∀ S, pureR (f_Track_in_round [trO b off s] []) S = .ok (.lst (B.map fun d => tpI d)) S := fun S => by
    simp [f_Track_in_round, startW, hg, hgb, cut_drop, hBm]
  have hl2 : B.length ≤ limit := by rw [hB, List.length_drop]; omega
  have hl3 : (jEnum.enumI 0 (D.map fun d => tpI d)).length ≤ limit := by rw [enum_len, List.length_map]; exact hDlim
  have hc1 : ∀ x1 x2 : Option W, compM (lcStep [some (trO b off s), x1, x2] [1] (.nm 1) bYes (mCmp .NotEq (mVar 1) (mTup mNil))) (B.map fun d => tpI d) [] [] = .ok (B.map fun d => .bl (!(d == []))) [] := fun x1 x2 =>
    lc_data fun d _ => by simp [lcStep, ce_intsE]
  have hc2 := loud_comp (lcStep [some (trO b off s), none, none] [2, 1] (.tup [2, 1]) (bTest (mCmp .NotEq (mVar 1) (mTup mNil))) (mBin .Add (mVar 2) (mCon (.int 1)))) (· + 1) (fun i d S => by
    cases d with
    | nil => simp [lcStep, ce00]
    | cons a l =>
      have hce : cmpEq (.tup (.int a :: l.map W.int)) (.tup []) = some false := ce_ints (a :: l) []
      simp [lcStep, hce]) D 0 [] []
  rw [List.nil_append] at hc2
  have hm := ldm_top D []
  rw [List.map_map] at hm
  have hab : allB (B.map fun d => .bl (!(d == []))) = some (B.map fun d => !(d == [])) := allB_map _ _
  unfold quD
  rw [← hB]
  cases hq : B.any (fun d => !(d == [])) with
  | true =>
    have hq2 : ∃ x, x ∈ B ∧ ¬ x = [] := by
      rw [List.any_eq_true] at hq
      obtain ⟨x, h1, h2⟩ := hq
      exact ⟨x, h1, by simpa using h2⟩
    simp [hq2, f_Track_quiet, startW, hin, hl2, hc1, hab, hq, qW]
  | false =>
    have hq2 : ¬ ∃ x, x ∈ B ∧ ¬ x = [] := by
      rintro ⟨x, h1, h2⟩
      rw [List.any_eq_false] at hq
      exact h2 (by simpa using hq x h1)
    simp [hq2, f_Track_quiet, startW, hin, hl2, hc1, hab, hq, hg, hl3, hc2, hm, qW]
theorem off_nil {b : Bk} : OffOk b [] := ⟨(fun r h => nomatch h), List.Pairwise.nil⟩
theorem e_quiet_from {b : Bk} (hb : b.Ok) {off : List Int} (ho : OffOk b off) {s : Sta} (hs : StOk b s) (S : Sto) : pureR (f_quiet_from [b.W, stW s, tpI off] []) S = .ok (qW (qt b off s)) S := by
  simp [f_quiet_from, startW, e_track_of hb ho hs, e_quiet hb hs]
theorem c_quiet {b : Bk} (hb : b.Ok) {off : List Int} (ho : OffOk b off) {s : Sta} (hs : StOk b s) (S : Sto) : pureR (c_quiet_from_2_off [b.W, stW s] [tpI off] []) S = .ok (qW (qt b off s)) S := e_quiet_from hb ho hs S
theorem c_quiet0 {b : Bk} (hb : b.Ok) {s : Sta} (hs : StOk b s) (S : Sto) : pureR (c_quiet_from_2 [b.W, stW s] []) S = .ok (qW (qt b [] s)) S := e_quiet_from hb (off := []) off_nil hs S
end SP

set_option Elab.async false
set_option linter.all false
set_option maxRecDepth 100000
set_option maxHeartbeats 4000000
/-! S17: the law's own track. -/
namespace SP
open PySem DL
def ltS (vis : List Sta) (dds : List (List Int)) : Sto := [.lst (vis.map stW), .lst (dds.map fun d => tpI d), .dic (kvs 0 vis)]
theorem ltrack_loop {b : Bk} (hb : b.Ok) {off : List Int} {s : Sta} (hs : StOk b s) : ∀ (n : Nat) (vis : List Sta) (x : Option W), vis.Nodup → (∀ i, i < vis.length → vis[i]? = some (itr (tst b off) i s)) → 5834 ≤ n + vis.length →
    ∃ sts bg x', Trk (tst b off) s sts bg ∧ whileM (bDIn true (mVar 2) (mVar 6)) b__law_track_1 n [some (tpI b.wh), some (.tup (b.ru.map Rul.W)), some (stW (itr (tst b off) vis.length s)), some (tpI off), some (.loc 0), some (.loc 1), some (.loc 2), x] (ltS vis (vis.map (tdn b off))) =
      .nx [some (tpI b.wh), some (.tup (b.ru.map Rul.W)), some (stW (itr (tst b off) bg s)), some (tpI off), some (.loc 0), some (.loc 1), some (.loc 2), x'] (ltS sts (sts.map (tdn b off)))
  | 0, vis, x, hn, hv, hl => by
    exfalso
    have := few hb hn fun t ht => by
      obtain ⟨i, hi, e⟩ := List.getElem_of_mem ht
      have := hv i hi
      rw [List.getElem?_eq_getElem hi] at this
      rw [← e, Option.some.inj this]; exact itr_ok hb hs i
    omega
  | n + 1, vis, x, hn, hv, hl => by
    have hfew := few hb hn fun t ht => by
      obtain ⟨i, hi, e⟩ := List.getElem_of_mem ht
      have := hv i hi
      rw [List.getElem?_eq_getElem hi] at this
      rw [← e, Option.some.inj this]; exact itr_ok hb hs i
    have hlk := look_kvs (itr (tst b off) vis.length s) vis 0
    by_cases hm : itr (tst b off) vis.length s ∈ vis
    · have hlt := List.idxOf_lt_length_of_mem hm
      have hg := hv _ hlt
      rw [List.getElem?_eq_getElem hlt, List.getElem_idxOf hlt] at hg
      have hg := Option.some.inj hg
      refine ⟨vis, vis.idxOf (itr (tst b off) vis.length s), x, ⟨hlt, hv, hn, hg⟩, ?_⟩
      rw [if_pos hm] at hlk
      rw [← hg]
      unfold whileM
      simp [dinR, dicOf, ltS, hlk]
    · have hv2 : ∀ i, i < (vis ++ [itr (tst b off) vis.length s]).length → (vis ++ [itr (tst b off) vis.length s])[i]? = some (itr (tst b off) i s) := fun i hi => by
        rw [List.length_append, List.length_singleton] at hi
        by_cases h : i < vis.length
        · rw [List.getElem?_append_left h]; exact hv i h
        · have e : i = vis.length := by omega
          subst e
          rw [List.getElem?_append_right (Nat.le_refl _), Nat.sub_self]; rfl
      have hn2 : (vis ++ [itr (tst b off) vis.length s]).Nodup := by
        rw [List.nodup_append]
        exact ⟨hn, by simp, fun a ha c hc e => by
          have : c = itr (tst b off) vis.length s := by simpa using hc
          exact hm (by rw [← this, ← e]; exact ha)⟩
      obtain ⟨sts, bg, x', ht, e⟩ := ltrack_loop hb hs n (vis ++ [itr (tst b off) vis.length s]) (some (tpI (tdn b off (itr (tst b off) vis.length s)))) hn2 hv2 (by rw [List.length_append, List.length_singleton]; omega)
      refine ⟨sts, bg, x', ht, ?_⟩
      rw [← e]
      rw [if_neg hm] at hlk
      have hbt := e_lbeat (off := off) hb (itr_ok hb hs (off := off) vis.length) (own_ix b) (own_le hb)
      have how := e_lawown hb
      have h1 : vis.length < limit := by unfold limit; omega
      have hk : (kvs 0 vis).length < limit := by rw [kvs_len]; exact h1
      have hp := put_kvs hm
      conv => lhs; unfold whileM
      simp [dinR, dicOf, ltS, hlk, b__law_track_1, dputR, hk, hp, getFld, isCell, appR, h1, hbt, how]
      rfl
theorem e_ltrack {b : Bk} (hb : b.Ok) {off : List Int} {s : Sta} (hs : StOk b s) (S : Sto) : pureR (f__law_track [tpI b.wh, .tup (b.ru.map Rul.W), stW s, tpI off] []) S =
    .ok (.tup [.lst ((trk b off s).1.map stW), .lst (((trk b off s).1.map (tdn b off)).map fun d => tpI d), .int (trk b off s).2]) S := by
  obtain ⟨sts, bg, x', t, e⟩ := ltrack_loop hb (off := off) hs 10000 [] none List.nodup_nil (fun i hi => by simp at hi) (by decide)
  rw [trk_of t]
  have l0 : 0 ≤ limit := Nat.zero_le _
  have l3 : 3 ≤ limit := by unfold limit; omega
  have hlk := look_kvs (itr (tst b off) bg s) sts 0
  have hg := t.at_ bg t.lt
  have hm : itr (tst b off) bg s ∈ sts := List.mem_of_getElem? hg
  have hix : sts.idxOf (itr (tst b off) bg s) = bg := by
    have h1 := List.idxOf_lt_length_of_mem hm
    have h2 := t.at_ _ h1
    rw [List.getElem?_eq_getElem h1, List.getElem_idxOf h1] at h2
    exact (t.inj t.lt h1 (Option.some.inj h2)).symm
  rw [if_pos hm, hix, Nat.zero_add] at hlk
  have e2 : (sWhile 10000 (bDIn true (mVar 2) (mVar 6)) b__law_track_1) [some (tpI b.wh), some (.tup (b.ru.map Rul.W)), some (stW s), some (tpI off), some (.loc 0), some (.loc 1), some (.loc 2), none] [.lst [], .lst [], .dic []] = _ := e
  have hn1 : nlL (sts.map stW) = true := nl_map (fun d => by simp) _
  have hn2 : nlL (sts.map ((fun d => tpI d) ∘ tdn b off)) = true := nl_map (fun d => by simp) _
  simp [f__law_track, startW, l0, e2, ltS, dgetR, dicOf, hlk, l3, freezeR, hn1, hn2]
end SP

set_option Elab.async false
set_option linter.all false
set_option maxRecDepth 100000
set_option maxHeartbeats 4000000
/-! S18: the law's likeness; rounds from within. -/
namespace SP
open PySem DL
theorem y_succ (m : Nat) : y__law_like (m + 1) = r__law_like (y__law_like m) := rfl
theorem like_int (m : Nat) (i : Int) (S : Sto) : pureR (y__law_like (m + 1) [.int i, .int i] []) S = .ok (.bl true) S := by
  rw [y_succ]
  simp [r__law_like, startW, isTy, isLT]
theorem zip_self (l : List Int) : zipW (l.map W.int) (l.map W.int) = l.map fun i => .tup [.int i, .int i] := by
  induction l with
  | nil => rfl
  | cons a l ih => rw [List.map_cons, List.map_cons, ← ih]; rfl
theorem like_ints (m : Nat) (l : List Int) (hl : l.length ≤ limit) (S : Sto) : pureR (y__law_like (m + 2) [tpI l, tpI l] []) S = .ok (.bl true) S := by
  have hz := zip_self l
  have hc : ∀ x2 x3 : Option W, compM (lcStep [some (tpI l), some (tpI l), x2, x3] [2, 3] (.tup [2, 3]) bYes (mCallP (y__law_like (m + 1)) (mCons (mVar 2) (mCons (mVar 3) mNil)))) (l.map fun i => .tup [.int i, .int i]) [] [] = .ok (l.map fun _ => .bl true) [] := fun x2 x3 =>
    lc_data fun i _ => by simp [lcStep, like_int]
  have hce := ce_ints l l
  rw [beq_self_eq_true] at hce
  have hit1 : isTy .bool (tpI l) = some false := rfl
  have hit2 : isLT (tpI l) = some true := rfl
  rw [y_succ]
  simp only [r__law_like, o_fn]
  simp [startW, hce, hit1, hit2, hz, hl, hc]
theorem trk_in {b : Bk} (hb : b.Ok) {off : List Int} {s : Sta} (hs : StOk b s) (d : Nat) : (trk b off (itr (tst b off) (rbeg b off s + d) s)).2 = 0 ∧ (trk b off (itr (tst b off) (rbeg b off s + d) s)).1.length = rlen b off s := by
  have t := trk_spec hb (off := off) hs
  have t' := trk_spec hb (off := off) (itr_ok hb hs (off := off) (rbeg b off s + d))
  have hL := t.len0
  have hL' := t'.len0
  have hlt := t.lt
  have hlt' := t'.lt
  change 0 < rlen b off s at hL
  have hlen : (trk b off s).1.length = rbeg b off s + rlen b off s := by
    show (trk b off s).1.length = (trk b off s).2 + ((trk b off s).1.length - (trk b off s).2); omega
  generalize hu : trk b off (itr (tst b off) (rbeg b off s + d) s) = u at t' hL' hlt'
  obtain ⟨sts', bg'⟩ := u
  change 0 < sts'.length - bg' at hL'
  change bg' < sts'.length at hlt'
  show bg' = 0 ∧ sts'.length = rlen b off s
  have hle : sts'.length ≤ rlen b off s := by
    apply Nat.le_of_not_lt
    intro h
    have e : itr (tst b off) (rlen b off s) (itr (tst b off) (rbeg b off s + d) s) = itr (tst b off) 0 (itr (tst b off) (rbeg b off s + d) s) := by
      rw [← itr_add]
      have := itr_rounds hb hs (off := off) (n := rbeg b off s + d) (by omega) 1
      rw [Nat.one_mul] at this
      exact this
    have := t'.inj h (show 0 < sts'.length by omega) e
    omega
  have hp : ∀ n, bg' ≤ n → itr (tst b off) (rbeg b off s + d + (n + (sts'.length - bg'))) s = itr (tst b off) (rbeg b off s + d + n) s := fun n hn => by
    rw [itr_add, t'.step n hn, ← itr_add]
  have hq : itr (tst b off) (rbeg b off s + (sts'.length - bg')) s = itr (tst b off) (rbeg b off s) s := by
    have h1 := hp ((d + bg') * rlen b off s - d) (by
      have := Nat.mul_le_mul_left (d + bg') (show 1 ≤ rlen b off s by omega); omega)
    have hge : d ≤ (d + bg') * rlen b off s := by
      have := Nat.mul_le_mul_left (d + bg') (show 1 ≤ rlen b off s by omega); omega
    rw [show rbeg b off s + d + ((d + bg') * rlen b off s - d + (sts'.length - bg')) = rbeg b off s + (sts'.length - bg') + (d + bg') * rlen b off s by omega, show rbeg b off s + d + ((d + bg') * rlen b off s - d) = rbeg b off s + (d + bg') * rlen b off s by omega] at h1
    rw [itr_rounds hb hs (off := off) (by omega), itr_rounds hb hs (off := off) (Nat.le_refl _)] at h1
    exact h1
  by_cases hc : sts'.length - bg' < rlen b off s
  · have := t.inj (i := rbeg b off s + (sts'.length - bg')) (j := rbeg b off s) (by omega) (by omega) hq
    omega
  · omega
theorem c_round0 {b : Bk} (hb : b.Ok) {s : Sta} (hs : StOk b s) (S : Sto) : pureR (c_round_of_2 [b.W, stW s] []) S = .ok (.tup [.int (rbeg b [] s), .int (rlen b [] s)]) S := by
  have h := (trk_spec hb (off := []) hs).lt
  have e : pureR (c_round_of_2 [b.W, stW s] []) S = _ := e_round_of hb (off := []) off_nil hs S
  rw [e, show (((trk b [] s).1.length : Int) - (trk b [] s).2) = (rlen b [] s : Int) by unfold rlen; omega]; rfl
theorem trk_len {b : Bk} (hb : b.Ok) {off : List Int} {s : Sta} (hs : StOk b s) : (trk b off s).1.length = rbeg b off s + rlen b off s := by
  have := (trk_spec hb (off := off) hs).lt
  show (trk b off s).1.length = (trk b off s).2 + ((trk b off s).1.length - (trk b off s).2); omega
theorem rbeg_in {b : Bk} (hb : b.Ok) {off : List Int} {s : Sta} (hs : StOk b s) (d : Nat) : rbeg b off (itr (tst b off) (rbeg b off s + d) s) = 0 ∧ rlen b off (itr (tst b off) (rbeg b off s + d) s) = rlen b off s := by
  obtain ⟨h1, h2⟩ := trk_in hb hs (off := off) d
  refine ⟨h1, ?_⟩
  show (trk b off _).1.length - (trk b off _).2 = _
  rw [h1, h2, Nat.sub_zero]
end SP

set_option Elab.async false
set_option linter.all false
set_option maxRecDepth 100000
set_option maxHeartbeats 4000000
/-! S19: the n-th time. -/
namespace SP
open PySem DL
theorem tu_app (r : Int) : ∀ (A B : List (List Int)) (k : Int), tu r k (A ++ B) = tu r k A ++ tu r (k + A.length) B
  | [], B, k => by rw [show k + (([] : List (List Int)).length : Int) = k by simp]; rfl
  | d :: A, B, k => by
    rw [List.cons_append]
    have et : ∀ (k : Int) (d : List Int) l, tu r k (d :: l) = if d.contains r then k :: tu r (k + 1) l else tu r (k + 1) l := fun _ _ _ => rfl
    rw [et, et, tu_app r A B (k + 1), List.length_cons, show k + 1 + (A.length : Int) = k + ((A.length + 1 : Nat) : Int) by omega]
    split <;> rfl
theorem tu_at (r : Int) : ∀ (l : List (List Int)) (k : Int) (i : Nat) (a : Int), (tu r k l)[i]? = some a → ∃ j d, a = k + (j : Nat) ∧ l[j]? = some d ∧ d.contains r = true ∧ (l.take j).countP (fun d => d.contains r) = i
  | [], k, i, a, h => by cases h
  | d :: l, k, i, a, h => by
    unfold tu at h
    split at h
    · rename_i hd
      cases i with
      | zero => cases h; exact ⟨0, d, by omega, rfl, hd, rfl⟩
      | succ i =>
        obtain ⟨j, e, h1, h2, h3, h4⟩ := tu_at r l (k + 1) i a h
        refine ⟨j + 1, e, by omega, h2, h3, ?_⟩
        rw [List.take_succ_cons, List.countP_cons, h4, if_pos hd]
    · rename_i hd
      obtain ⟨j, e, h1, h2, h3, h4⟩ := tu_at r l (k + 1) i a h
      refine ⟨j + 1, e, by omega, h2, h3, ?_⟩
      rw [List.take_succ_cons, List.countP_cons, h4, if_neg hd]; rfl
theorem cnt_mono (b : Bk) (off : List Int) (s : Sta) (r : Int) {m n : Nat} (h : m ≤ n) : cnt b off s r m ≤ cnt b off s r n := by
  have := cnt_add b off s r m (n - m)
  rw [show m + (n - m) = n by omega] at this
  omega
def Nth (b : Bk) (off : List Int) (s : Sta) (r : Int) (m : Nat) : Option Nat → Prop
  | none => ∀ n, cnt b off s r n < m
  | some n => (tdn b off (itr (tst b off) n s)).contains r = true ∧ cnt b off s r n + 1 = m
theorem Nth.uniq {b : Bk} {off : List Int} {s : Sta} {r : Int} {m : Nat} : ∀ {o p : Option Nat}, Nth b off s r m o → Nth b off s r m p → o = p
  | none, none, _, _ => rfl
  | none, some q, h, k => by
    have := h (q + 1)
    rw [cnt_succ, if_pos k.1] at this
    have := k.2; omega
  | some q, none, h, k => by
    have := k (q + 1)
    rw [cnt_succ, if_pos h.1] at this
    have := h.2; omega
  | some q, some p, h, k => by
    have key : ∀ {q p : Nat}, Nth b off s r m (some q) → Nth b off s r m (some p) → ¬ q < p := by
      intro q p h k hl
      have h1 := cnt_mono b off s r (show q + 1 ≤ p by omega)
      rw [cnt_succ, if_pos h.1] at h1
      have h2 := h.2
      have h3 := k.2
      omega
    have h1 := key h k
    have h2 := key k h
    rw [show q = p by omega]
theorem cnt_D {b : Bk} (hb : b.Ok) {off : List Int} {s : Sta} (hs : StOk b s) (r : Int) {n : Nat} (h : n ≤ (trk b off s).1.length) : cnt b off s r n = (((trk b off s).1.map (tdn b off)).take n).countP fun d => d.contains r := by
  rw [trk_dn hb hs, dn_take b off s h]; rfl
theorem D_at {b : Bk} (hb : b.Ok) {off : List Int} {s : Sta} (hs : StOk b s) {j : Nat} {d : List Int} (h : ((trk b off s).1.map (tdn b off))[j]? = some d) : d = tdn b off (itr (tst b off) j s) ∧ j < (trk b off s).1.length := by
  have hl : j < (trk b off s).1.length := by
    have := (List.getElem?_eq_some_iff.mp h).1
    rwa [List.length_map] at this
  rw [List.getElem?_map, (trk_spec hb hs).at_ j hl] at h
  exact ⟨(Option.some.inj h).symm, hl⟩
theorem tus_at {b : Bk} (hb : b.Ok) {off : List Int} {s : Sta} (hs : StOk b s) {r : Int} {i : Nat} {a : Int} (h : (tus b off s r)[i]? = some a) : ∃ n : Nat, a = n ∧ n < (trk b off s).1.length ∧ Nth b off s r (i + 1) (some n) := by
  obtain ⟨j, d, h1, h2, h3, h4⟩ := tu_at r _ 0 i a h
  obtain ⟨e, hl⟩ := D_at hb hs h2
  refine ⟨j, by omega, hl, ?_, ?_⟩
  · rw [← e]; exact h3
  · rw [cnt_D hb hs r (by omega), h4]
theorem tus_split {b : Bk} (hb : b.Ok) {off : List Int} {s : Sta} (hs : StOk b s) (r : Int) : ∃ T1 I, tus b off s r = T1 ++ I ∧ (∀ a ∈ T1, a < (rbeg b off s : Int)) ∧ (∀ a ∈ I, (rbeg b off s : Int) ≤ a) ∧ (tus b off s r).length = T1.length + I.length ∧
    cnt b off (itr (tst b off) (rbeg b off s) s) r (rlen b off s) = I.length ∧ cnt b off s r (rbeg b off s) = T1.length := by
  have hlen := trk_len hb (off := off) hs
  have hbl : rbeg b off s ≤ ((trk b off s).1.map (tdn b off)).length := by rw [List.length_map]; omega
  have e := tu_app r (((trk b off s).1.map (tdn b off)).take (rbeg b off s)) (((trk b off s).1.map (tdn b off)).drop (rbeg b off s)) 0
  rw [List.take_append_drop, List.length_take_of_le hbl, Int.zero_add] at e
  have c0 := cnt_D hb hs (off := off) r (n := rbeg b off s) (by omega)
  rw [← tu_all r _ 0] at c0
  have c1 := cnt_add b off s r (rbeg b off s) (rlen b off s)
  have c2 := tus_len hb hs (off := off) r
  rw [hlen] at c2
  refine ⟨_, _, e, fun a ha => ?_, fun a ha => (tu_ge r _ _ a ha).1, ?_, ?_, c0⟩
  · have := tu_ge r _ _ a ha
    rw [List.length_take_of_le hbl] at this
    omega
  · show (tu r 0 _).length = _
    rw [e, List.length_append]
  · have c3 : (tus b off s r).length = _ := congrArg List.length e
    rw [List.length_append] at c3
    omega
/-- the n-th time, as the program reckons it -/
theorem e_nth {b : Bk} (hb : b.Ok) {off : List Int} (ho : OffOk b off) {s : Sta} (hs : StOk b s) {r : Int} (hr : Ix b.ru.length r) {m : Nat} (hm1 : 1 ≤ m) (hm : (m : Int) < MOST) : ∃ o, Nth b off s r m o ∧ ∀ S, pureR (f_nth [b.W, stW s, .int r, .int m, tpI off] []) S = .ok (qW o) S := by
  have ht := e_turns hb hs (off := off) r
  have hle := tus_le hb hs (off := off) r
  have hlim : (tus b off s r).length ≤ limit := l_small hle
  have hls := e_look_state hb hs
  have hlr := fun S => e_look_rule hr S
  have hlb := fun S => e_look_beats (Int.natCast_nonneg m) hm S
  have htr := e_track_of hb ho hs
  have hm0 : ¬ m = 0 := by omega
  have hm0' : ((m : Int) == 0) = false := by simp; omega
  by_cases h : m ≤ (tus b off s r).length
  · obtain ⟨n, e1, e2, e3⟩ := tus_at hb hs (off := off) (r := r) (i := m - 1) (a := (tus b off s r)[m - 1]'(by omega)) (List.getElem?_eq_getElem (by omega))
    rw [show m - 1 + 1 = m by omega] at e3
    refine ⟨some n, e3, fun S => ?_⟩
    have h2 : (m : Int) ≤ (tus b off s r).length := by omega
    have hat : L2.atI ((tus b off s r).map W.int) ((m : Int) - 1) = some (.int n) := by
      unfold L2.atI L2.ixN
      rw [List.length_map, if_pos (by omega), if_pos (by omega)]
      show ((tus b off s r).map W.int)[((m : Int) - 1).toNat]? = _
      rw [List.getElem?_map, show ((m : Int) - 1).toNat = m - 1 by omega, List.getElem?_eq_getElem (by omega), e1]; rfl
    simp [f_nth, startW, hls, hlr, hlb, hm0, htr, ht, h, hat, qW]
  · obtain ⟨T1, I, hT, hT1, hI, hTl, hcI, hcT⟩ := tus_split hb hs (off := off) r
    have t := trk_spec hb (off := off) hs
    have hpos := rlen_pos hb (off := off) hs
    have hfew := rb_few hb (off := off) hs
    have hlen := trk_len hb (off := off) hs
    have hgb : ∀ S, getFld S 1 4 (trO b off s) = some (.int (rbeg b off s)) := g_begin b off s
    have hgl : ∀ S, getFld S 1 5 (trO b off s) = some (.int (rlen b off s)) := fun S => by rw [g_length b off s S]; have := t.lt; unfold rlen; congr 2; omega
    have hfil : (tus b off s r).filter (fun a => decide ((rbeg b off s : Int) ≤ a)) = I := by
      rw [hT, List.filter_append, List.filter_eq_nil_iff.mpr (fun a ha => by have := hT1 a ha; simp; omega), List.filter_eq_self.mpr (fun a ha => by have := hI a ha; simpa using this)]; rfl
    have hc : ∀ x7 x8 x9 x10 : Option W, compM (lcStep [some b.W, some (stW s), some (.int r), some (.int m), some (tpI off), some (trO b off s), some (lsI (tus b off s r)), x7, x8, x9, x10] [10] (.nm 10) (bTest (mCmp .GtE (mVar 10) (mFld 1 4 (mVar 5)))) (mVar 10)) ((tus b off s r).map W.int) [] [] = .ok (I.map W.int) [] := by
      intro x7 x8 x9 x10
      rw [← hfil]
      refine lc_if (p := fun a => decide ((rbeg b off s : Int) ≤ a)) fun a _ => ?_
      by_cases h : (rbeg b off s : Int) ≤ a <;> simp [lcStep, hgb, h]
    have hIle : I.length ≤ 5832 := by omega
    have hIlim : I.length ≤ limit := l_small hIle
    have hceI : cmpEq (.lst (I.map W.int)) (.lst []) = some (I == []) := ce_intsL I []
    have h2 : ¬ (m : Int) ≤ (tus b off s r).length := by omega
    by_cases hI0 : I = []
    · refine ⟨none, fun n => ?_, fun S => ?_⟩
      · rw [hI0] at hcI hTl
        have hL0 : I.length = 0 := by rw [hI0]; rfl
        by_cases hn : n ≤ rbeg b off s
        · have := cnt_mono b off s r hn; simp at hTl; omega
        · have c1 := cnt_add b off s r (rbeg b off s) (n * rlen b off s)
          rw [cnt_rounds hb hs r (Nat.le_refl _), hcI] at c1
          have : n ≤ rbeg b off s + n * rlen b off s := by
            have := Nat.mul_le_mul_left n (show 1 ≤ rlen b off s by omega); omega
          have := cnt_mono b off s r this
          simp at hTl c1; omega
      · have hceI0 : (I == []) = true := by rw [hI0]; rfl
        rw [hceI0] at hceI
        simp only [f_nth, o_fn]
        simp [startW, hls, hlr, hlb, hm0, htr, ht, h, hlim, hc, hceI, qW]
    · have hceI0 : (I == []) = false := by
        cases I with
        | nil => exact absurd rfl hI0
        | cons _ _ => rfl
      rw [hceI0] at hceI
      have hIp : 0 < I.length := List.length_pos_iff.mpr hI0
      obtain ⟨q, e, hqe, heL⟩ : ∃ q e : Nat, m = (tus b off s r).length + 1 + (q * I.length + e) ∧ e < I.length := by
        refine ⟨(m - ((tus b off s r).length + 1)) / I.length, (m - ((tus b off s r).length + 1)) % I.length, ?_, Nat.mod_lt _ hIp⟩
        have := Nat.div_add_mod (m - ((tus b off s r).length + 1)) I.length
        rw [Nat.mul_comm] at this
        omega
      have hq : ((m : Int) - (tus b off s r).length - 1) / (I.length : Int) = q := by
        have e1 : (m : Int) - (tus b off s r).length - 1 = (e : Int) + (I.length : Int) * q := by
          have : ((q * I.length : Nat) : Int) = (I.length : Int) * q := by rw [Int.natCast_mul, Int.mul_comm]
          omega
        rw [e1, Int.add_mul_ediv_left _ _ (by omega), Int.ediv_eq_zero_of_lt (by omega) (by omega), Int.zero_add]
      have he : ((m : Int) - (tus b off s r).length - 1) % (I.length : Int) = e := by
        have e1 : (m : Int) - (tus b off s r).length - 1 = (e : Int) + (I.length : Int) * q := by
          have : ((q * I.length : Nat) : Int) = (I.length : Int) * q := by rw [Int.natCast_mul, Int.mul_comm]
          omega
        rw [e1, Int.add_mul_emod_self_left, Int.emod_eq_of_lt (by omega) (by omega)]
      have hix : (tus b off s r)[T1.length + e]? = some I[e] := by
        rw [hT, List.getElem?_append_right (by omega), show T1.length + e - T1.length = e by omega, List.getElem?_eq_getElem heL]
      obtain ⟨n, e1, e2, e3, e4⟩ := tus_at hb hs hix
      have hnb : rbeg b off s ≤ n := by
        have := hI I[e] (List.getElem_mem heL)
        omega
      refine ⟨some (n + (q + 1) * rlen b off s), ⟨?_, ?_⟩, fun S => ?_⟩
      · rw [itr_rounds hb hs hnb]; exact e3
      · rw [cnt_add, cnt_rounds hb hs r hnb, hcI, Nat.add_mul, Nat.one_mul]
        omega
      · have hat : L2.atI (I.map W.int) (e : Int) = some (.int n) := by
          unfold L2.atI L2.ixN
          rw [List.length_map, if_pos (by omega), if_pos (by omega)]
          show (I.map W.int)[((e : Int)).toNat]? = _
          rw [List.getElem?_map, Int.toNat_natCast, List.getElem?_eq_getElem heL, e1]; rfl
        have hmu : mulOk ((q : Int) + 1) (rlen b off s) = true := by
          unfold mulOk
          have q1 : -(2 ^ 64) < (rlen b off s : Int) := by omega
          have q2 : (rlen b off s : Int) < 2 ^ 64 := by omega
          rw [decide_eq_true q1, decide_eq_true q2]; simp
        have h3 : (I.length : Int) < 1073741824 := by omega
        have hres : ((n + (q + 1) * rlen b off s : Nat) : Int) = (n : Int) + ((q : Int) + 1) * (rlen b off s : Int) := by push_cast; rfl
        show _ = Res.ok (W.int ((n + (q + 1) * rlen b off s : Nat) : Int)) S
        rw [hres]
        simp only [f_nth, o_fn]
        simp [startW, hls, hlr, hlb, hm0, htr, ht, h, hlim, hc, hceI, hIp, h3, hq, he, hat, hgl, hmu]
theorem c_nth {b : Bk} (hb : b.Ok) {off : List Int} (ho : OffOk b off) {s : Sta} (hs : StOk b s) {r : Int} (hr : Ix b.ru.length r) {m : Nat} (hm1 : 1 ≤ m) (hm : (m : Int) < MOST) {o : Option Nat} (hN : Nth b off s r m o) (S : Sto) : pureR (c_nth_4_off [b.W, stW s, .int r, .int m] [tpI off] []) S = .ok (qW o) S := by
  obtain ⟨p, h1, h2⟩ := e_nth hb ho hs hr hm1 hm
  rw [hN.uniq h1]; exact h2 S
theorem c_nth1 {b : Bk} (hb : b.Ok) {off : List Int} (ho : OffOk b off) {s : Sta} (hs : StOk b s) {r : Int} (hr : Ix b.ru.length r) {o : Option Nat} (hN : Nth b off s r 1 o) (S : Sto) : pureR (c_nth_3_off [b.W, stW s, .int r] [tpI off] []) S = .ok (qW o) S := by
  obtain ⟨p, h1, h2⟩ := e_nth hb ho hs hr (m := 1) (by omega) (by decide)
  rw [hN.uniq h1]; exact h2 S
end SP

set_option Elab.async false
set_option linter.all false
set_option maxRecDepth 100000
set_option maxHeartbeats 4000000
/-! S20: orders drawn, numbers picked. -/
namespace SP
open PySem DL
def upTo (n : Nat) : List Int := (List.range n).map fun (i : Nat) => (i : Int)
theorem upTo_succ (n : Nat) : upTo (n + 1) = upTo n ++ [(n : Int)] := by unfold upTo; rw [List.range_succ, List.map_append]; rfl
theorem own_upTo (b : Bk) : own b = upTo b.ru.length := rfl
theorem order_loop {n m : Nat} (hne : m ≠ n) (many : W) : ∀ (t i : Nat) (found : List Int) (S : Sto) (c : Nat) (x3 : Option W), Bg n c S → c + t ≤ 900000000 → S[m]? = some (.lst (found.map W.int)) → found.Perm (upTo i) → i + t ≤ 100 →
    ∃ (found' : List Int) (S' : Sto) (x3' : Option W), forM (.nm 3) b__law_order_1 (rangeW i t) [some (.loc n), some many, some (.loc m), x3] S = .nx [some (.loc n), some many, some (.loc m), x3'] S' ∧ S'.length = S.length ∧ (∀ j, j ≠ n → j ≠ m → S'[j]? = S[j]?) ∧ Bg n (c + t) S' ∧ S'[m]? = some (.lst (found'.map W.int)) ∧ found'.Perm (upTo (i + t))
  | 0, i, found, S, c, x3, hB, _, hm, hp, _ => ⟨found, S, x3, for_nil _ _ _ _, rfl, fun _ _ _ => rfl, hB, hm, hp⟩
  | t + 1, i, found, S, c, x3, hB, hc, hm, hp, hi => by
    have hfl : found.length = i := by rw [hp.length_eq]; unfold upTo; rw [List.length_map, List.length_range]
    obtain ⟨d, S1, p1, p2, e1, l1, k1, b1⟩ := d_take hB (m := (i : Int) + 1) (by omega) (small_div (by omega)) (by omega)
    obtain ⟨p, rfl⟩ : ∃ p : Nat, d = (p : Int) := ⟨d.toNat, by omega⟩
    have hml : m < S.length := (List.getElem?_eq_some_iff.mp hm).1
    have hm1 : S1[m]? = some (.lst (found.map W.int)) := by rw [k1.2 m hml hne]; exact hm
    have hlim : found.length < limit := by rw [hfl]; unfold limit; omega
    have h62 : (p : Int) < 4611686018427387904 := by omega
    have hda : (found.take p ++ [(i : Int)] ++ found.drop p).map W.int = (found.map W.int).take p ++ [.int i] ++ (found.map W.int).drop p := by
      rw [List.map_append, List.map_append, List.map_take, List.map_drop]; rfl
    have hml1 : m < S1.length := by omega
    have et : b__law_order_1 [some (.loc n), some many, some (.loc m), some (.int i)] S = .nx [some (.loc n), some many, some (.loc m), some (.int i)] (S1.set m (.lst ((found.take p ++ [(i : Int)] ++ found.drop p).map W.int))) := by
      rw [hda]
      simp [b__law_order_1, isCell, hm, hfl, e1, insR, hm1, hlim, h62]
      have : i < limit := by rw [← hfl]; exact hlim
      simp [this]
    have hp2 : (found.take p ++ [(i : Int)] ++ found.drop p).Perm (upTo (i + 1)) := by
      rw [upTo_succ]
      have h1 : (found.take p ++ [(i : Int)] ++ found.drop p).Perm ((i : Int) :: (found.take p ++ found.drop p)) := by
        rw [List.append_assoc]
        exact List.perm_middle
      rw [List.take_append_drop] at h1
      refine h1.trans ((hp.cons _).trans ?_)
      exact (List.perm_append_singleton _ _).symm
    obtain ⟨found', S', x3', e2, l2, k2, b2, m2, q2⟩ := order_loop hne many t (i + 1) _ (S1.set m (.lst ((found.take p ++ [(i : Int)] ++ found.drop p).map W.int))) (c + 1) (some (.int i)) (b1.set hne _) (by omega) (by rw [List.getElem?_set_self hml1]) hp2 (by omega)
    refine ⟨found', S', x3', ?_, by rw [l2, List.length_set, l1], fun j hj1 hj2 => ?_, b2.mono (by omega), m2, by rw [show i + (t + 1) = i + 1 + t by omega]; exact q2⟩
    · rw [rangeW, for_step (by rfl) et, show ((i : Int) + 1) = ((i + 1 : Nat) : Int) by omega, e2]
    · rw [k2 j hj1 hj2, List.getElem?_set_ne (Ne.symm hj2)]
      by_cases hl : j < S.length
      · exact k1.2 j hl hj1
      · rw [List.getElem?_eq_none (by omega), List.getElem?_eq_none (by omega)]
theorem d_order {many n c : Nat} {S : Sto} (hm5 : many ≤ 5) (hB : Bg n c S) (hc : c ≤ 600000000) :
    ∃ (order : List Int) (S' : Sto), order.Perm (upTo many) ∧ f__law_order [.loc n, .int many] S = .ok (tpI order) S' ∧ Keep n S.length S S' ∧ Bg n (c + 5) S' := by
  have hlt := hB.lt
  have hm0 : (S ++ [Cell.lst []])[S.length]? = some (.lst (([] : List Int).map W.int)) := by rw [List.getElem?_append_right (Nat.le_refl _), Nat.sub_self]; rfl
  obtain ⟨found, S1, x3, e1, l1, k1, b1, m1, p1⟩ := order_loop (m := S.length) (n := n) (by omega) (.int many) many 0 [] (S ++ [Cell.lst []]) c none (hB.app _) (by omega) hm0 (List.Perm.refl _) (by omega)
  rw [Nat.zero_add] at p1
  have l0 : 0 ≤ limit := Nat.zero_le _
  have hr : (many : Int) < 4611686018427387904 := by omega
  have e1' : forM (.nm 3) b__law_order_1 (rangeW 0 many) [some (.loc n), some (.int many), some (.loc S.length), none] (S ++ [Cell.lst []]) = _ := e1
  refine ⟨found, S1, p1, ?_, ⟨by rw [l1, List.length_append]; omega, fun j hj hn => ?_⟩, b1.mono (by omega)⟩
  · simp [f__law_order, startW, l0, hr, e1', m1]
  · rw [k1 j hn (by omega), List.getElem?_append_left hj]
/-- some of some numbers picked -/
theorem comp_pick {step : W → Sto → LRes} {n L : Nat} : ∀ (t : Nat) (lo : Int) (acc : List W) (S : Sto) (c : Nat), Bg n c S → L ≤ S.length →
    (∀ (x : Int) S c', Bg n c' S → L ≤ S.length → c' ≤ c + t → ∃ (k : Bool) (S' : Sto), step (.int x) S = .ok (if k then [.int x] else []) S' ∧ Keep n L S S' ∧ Bg n (c' + 1) S') →
    ∃ (off : List Int) (S' : Sto), compM step (rangeW lo t) acc S = .ok (acc ++ off.map W.int) S' ∧ (∀ r ∈ off, lo ≤ r ∧ r < lo + t) ∧ off.Pairwise (· < ·) ∧ Keep n L S S' ∧ Bg n (c + t) S'
  | 0, lo, acc, S, c, hB, hL, _ => ⟨[], S, by rw [List.map_nil, List.append_nil]; rfl, (fun _ h => nomatch h), .nil, Keep.refl _ _ _, hB⟩
  | t + 1, lo, acc, S, c, hB, hL, h => by
    obtain ⟨k, S1, e1, k1, b1⟩ := h lo S c hB hL (by omega)
    obtain ⟨off, S2, e2, r2, w2, k2, b2⟩ := comp_pick t (lo + 1) (acc ++ if k then [.int lo] else []) S1 (c + 1) b1 (Nat.le_trans hL k1.1) fun x S' c' hb hl hc => h x S' c' hb hl (by omega)
    refine ⟨(if k then [lo] else []) ++ off, S2, ?_, ?_, ?_, k1.trans k2, b2.mono (by omega)⟩
    · rw [rangeW]
      show (step _ S).bindL _ = _
      rw [e1]
      show compM step (rangeW (lo + 1) t) (acc ++ _) S1 = _
      rw [e2, List.map_append, List.append_assoc]
      cases k <;> rfl
    · intro r hr
      rcases List.mem_append.mp hr with hr | hr
      · cases k with
        | false => cases hr
        | true => have : r = lo := by simpa using hr
                  omega
      · have := r2 r hr; omega
    · cases k with
      | false => exact w2
      | true => exact List.pairwise_cons.mpr ⟨fun r hr => by have := r2 r hr; omega, w2⟩
end SP

set_option Elab.async false
set_option linter.all false
set_option maxRecDepth 100000
set_option maxHeartbeats 4000000
/-! S21: rows, beginnings, wishes. -/
namespace SP
open PySem DL
theorem comp_flat {α : Type} {step : W → Sto → LRes} {e : α → W} {g : α → List W} {S : Sto} : ∀ {l : List α} {acc : List W}, (∀ a ∈ l, step (e a) S = .ok (g a) S) → compM step (l.map e) acc S = .ok (acc ++ l.flatMap g) S
  | [], acc, _ => by simp [compM]
  | a :: l, acc, h => by
    rw [List.map_cons]
    show (step _ S).bindL _ = _
    rw [h a (List.mem_cons_self ..)]
    show compM step _ (acc ++ g a) S = _
    rw [comp_flat fun b hb => h b (List.mem_cons_of_mem _ hb), List.flatMap_cons, List.append_assoc]
section
variable {it it1 : Ml} {c c1 : Mb} {el : Me} {tg tg1 : Tg} {vs vs1 : List Nat} {mt : Bool} {ρ : DL.Env} {S : Sto}
@[simp] theorem o_lc2 : mLc2 mt vs tg it c vs1 tg1 it1 c1 el ρ S = (it ρ S).bind fun xs S => match compM (lc2Step ρ vs tg c vs1 tg1 it1 c1 el) xs [] S with
  | .ok ys S => if ys.length ≤ limit then (if mt then newCellR (.lst ys) S else .ok (.lst ys) S) else .bad
  | _ => .bad := (rfl)
end
def wider (found : List (List Int)) (z : Nat) : List (List Int) := found.flatMap fun row => (upTo z).map fun i => row ++ [i]
def rowsOf (sz : List Nat) : List (List Int) := sz.foldl wider [[]]
theorem wider_len (found : List (List Int)) (z : Nat) : (wider found z).length = found.length * z := by
  unfold wider
  induction found with
  | nil => simp
  | cons a l ih => rw [List.flatMap_cons, List.length_append, ih, List.length_map]; unfold upTo; simp [Nat.add_mul]; omega
theorem wider_mem {found : List (List Int)} {z : Nat} {r : List Int} : r ∈ wider found z ↔ ∃ row ∈ found, ∃ i : Nat, i < z ∧ r = row ++ [(i : Int)] := by
  unfold wider upTo
  simp only [List.mem_flatMap, List.mem_map, List.mem_range]
  constructor
  · rintro ⟨row, h, i, ⟨j, hj, rfl⟩, rfl⟩; exact ⟨row, h, j, hj, rfl⟩
  · rintro ⟨row, h, j, hj, rfl⟩; exact ⟨row, h, _, ⟨j, hj, rfl⟩, rfl⟩
theorem lc2_step {it1 : Ml} {c c1 : Mb} {el : Me} {tg tg1 : Tg} {vs vs1 : List Nat} {ρ ρ' : DL.Env} {S S1 S2 : Sto} {u : W} {xs : List W} (h1 : bindTg tg u (wipeW ρ vs) = some ρ') (h2 : c ρ' S = .ok true S1) (h3 : it1 ρ' S1 = .ok xs S2) : lc2Step ρ vs tg c vs1 tg1 it1 c1 el u S = compM (lcStep ρ' vs1 tg1 c1 el) xs [] S2 := by
  unfold lc2Step
  simp only [h1, h2, h3]
theorem row_step (v : W) (fw : List W) (z : Nat) (x3 x4 : Option W) (row : List Int) (hz : z ≤ 4) (hrow : row.length ≤ 8) : lc2Step [some v, some (.lst fw), some (.int z), x3, x4] [3, 4] (.nm 3) bYes [4] (.nm 4) (jRange1 (mVar 2)) bYes (mBin .Add (mVar 3) (mTup (mCons (mVar 4) mNil))) (tpI row) [] = .ok (((upTo z).map fun i => row ++ [i]).map fun r => tpI r) [] := by
  have hl1 : (1 : Nat) ≤ limit := by unfold limit; omega
  have hl2 : row.length + 1 ≤ limit := by unfold limit; omega
  have hadd : ∀ i : Int, binop .Add (.tup (row.map W.int)) (.tup [.int i]) = some (.tup ((row ++ [i]).map W.int)) := fun i => by
    simp [binop, hl2]
  have hin : compM (lcStep [some v, some (.lst fw), some (.int z), some (tpI row), none] [4] (.nm 4) bYes (mBin .Add (mVar 3) (mTup (mCons (mVar 4) mNil)))) ((upTo z).map W.int) [] [] = .ok ((upTo z).map fun i => tpI (row ++ [i])) [] := by
    refine lc_data fun i hi => ?_
    simp [lcStep, hl1, hadd]
  have hr0 : rangeW 0 z = (upTo z).map W.int := range0 z
  have hz62 : (z : Int) < 4611686018427387904 := by omega
  have h3 : (jRange1 (mVar 2)) [some v, some (.lst fw), some (.int z), some (tpI row), none] [] = .ok ((upTo z).map W.int) [] := by
    simp [hz62, hr0]
  rw [lc2_step (ρ' := [some v, some (.lst fw), some (.int z), some (tpI row), none]) (by rfl) (by rfl) h3, hin, List.map_map]
  rfl
theorem rows_turn (v : W) (found : List (List Int)) (z : Nat) (x3 x4 : Option W) (hz : z ≤ 4) (hr : ∀ r ∈ found, r.length ≤ 8) (hl : (wider found z).length ≤ limit) : b_all_rows_1 [some v, some (.lst (found.map fun r => tpI r)), some (.int z), x3, x4] [] = .nx [some v, some (.lst ((wider found z).map fun r => tpI r)), some (.int z), x3, x4] [] := by
  have hc : compM (lc2Step [some v, some (.lst (found.map fun r => tpI r)), some (.int z), x3, x4] [3, 4] (.nm 3) bYes [4] (.nm 4) (jRange1 (mVar 2)) bYes (mBin .Add (mVar 3) (mTup (mCons (mVar 4) mNil)))) (found.map fun r => tpI r) [] [] = .ok ((wider found z).map fun r => tpI r) [] := by
    rw [comp_flat (g := fun row => ((upTo z).map fun i => row ++ [i]).map fun r => tpI r) fun row hrow => row_step v _ z x3 x4 row hz (hr row hrow), List.nil_append]
    unfold wider
    rw [List.map_flatMap]
  simp [b_all_rows_1, hc, hl]
theorem rows_loop (v : W) (sz : List Nat) : ∀ (found : List (List Int)) (x2 x3 x4 : Option W) (m : Nat), (∀ z ∈ sz, z ≤ 4) → (∀ r ∈ found, r.length = m) → m + sz.length ≤ 8 → found.length * 4 ^ sz.length ≤ 100000 →
    ∃ y2, forM (.nm 2) b_all_rows_1 (sz.map fun z => .int (z : Nat)) [some v, some (.lst (found.map fun r => tpI r)), x2, x3, x4] [] = .nx [some v, some (.lst ((sz.foldl wider found).map fun r => tpI r)), y2, x3, x4] [] := by
  induction sz with
  | nil => intro found x2 x3 x4 m _ _ _ _; exact ⟨x2, for_nil _ _ _ _⟩
  | cons z sz ih =>
    intro found x2 x3 x4 m hz hr hm hl
    have hz0 := hz z (List.mem_cons_self ..)
    rw [List.length_cons] at hm
    rw [List.length_cons, Nat.pow_succ] at hl
    have hp : 1 ≤ 4 ^ sz.length := Nat.one_le_pow _ _ (by omega)
    have hwl : (wider found z).length * 4 ^ sz.length ≤ 100000 := by
      rw [wider_len]
      refine Nat.le_trans ?_ hl
      rw [Nat.mul_assoc]
      refine Nat.mul_le_mul_left _ ?_
      rw [Nat.mul_comm]
      exact Nat.mul_le_mul_left _ hz0
    have hwl2 : (wider found z).length ≤ limit := by
      have := Nat.mul_le_mul_left (wider found z).length hp
      unfold limit; omega
    obtain ⟨y2, e⟩ := ih (wider found z) (some (.int z)) x3 x4 (m + 1) (fun q hq => hz q (List.mem_cons_of_mem _ hq)) (fun r hr2 => by
      obtain ⟨row, h1, i, _, rfl⟩ := wider_mem.mp hr2
      rw [List.length_append, hr row h1]; rfl) (by omega) hwl
    refine ⟨y2, ?_⟩
    rw [List.map_cons, List.foldl_cons, for_step (by rfl) (rows_turn v found z x3 x4 hz0 (fun r h => by have := hr r h; omega) hwl2), e]
theorem e_all_rows (sz : List Nat) (hz : ∀ z ∈ sz, z ≤ 4) (hl : sz.length ≤ 6) (S : Sto) : pureR (f_all_rows [.tup (sz.map fun z => .int (z : Nat))] []) S = .ok (.lst ((rowsOf sz).map fun r => tpI r)) S := by
  have h4 : [([] : List Int)].length * 4 ^ sz.length ≤ 100000 := by
    rw [List.length_singleton, Nat.one_mul]
    exact Nat.le_trans (Nat.pow_le_pow_right (by omega) hl) (by decide)
  have hr0 : ∀ r ∈ [([] : List Int)], r.length = 0 := fun r hr => by
    have h : r = [] := by simpa using hr
    rw [h]; rfl
  obtain ⟨y2, e⟩ := rows_loop (.tup (sz.map fun z => .int (z : Nat))) sz [[]] none none none 0 hz hr0 (by omega) h4
  have e' : forM (.nm 2) b_all_rows_1 (sz.map fun z => .int (z : Nat)) [some (.tup (sz.map fun z => .int (z : Nat))), some (.lst [.tup []]), none, none, none] [] = _ := e
  have l1 : 1 ≤ limit := by unfold limit; omega
  have l0 : 0 ≤ limit := Nat.zero_le _
  simp [f_all_rows, startW, l0, l1, e', rowsOf]
theorem mem_rows : ∀ (sz : List Nat) (found : List (List Int)) (r : List Int), r ∈ sz.foldl wider found → ∃ row ∈ found, ∃ l : List Int, r = row ++ l ∧ l.length = sz.length ∧ ∀ i, Ix sz.length i → 0 ≤ gi l i ∧ gi l i < (sz.getD i.toNat 0 : Nat)
  | [], found, r, h => ⟨r, h, [], by simp, rfl, fun i hi => by have h0 := hi.1; have h1 := hi.2; simp at h1; omega⟩
  | z :: sz, found, r, h => by
    obtain ⟨row, h1, l, h2, h3, h4⟩ := mem_rows sz (wider found z) r h
    obtain ⟨row0, k1, i0, k2, rfl⟩ := wider_mem.mp h1
    refine ⟨row0, k1, (i0 : Int) :: l, by rw [h2, List.append_assoc]; rfl, by rw [List.length_cons, List.length_cons, h3], fun i hi => ?_⟩
    obtain ⟨q0, q1⟩ := hi
    rw [List.length_cons] at q1
    by_cases e : i = 0
    · subst e
      show 0 ≤ (i0 : Int) ∧ (i0 : Int) < (z : Nat)
      omega
    · have := h4 (i - 1) ⟨by omega, by omega⟩
      unfold gi at this ⊢
      rw [show i.toNat = (i - 1).toNat + 1 by omega]
      simpa using this
def zeros (n : Nat) : List Int := List.replicate n 0
theorem begun_ok {b : Bk} {vs : List Int} (hl : vs.length = b.wh.length) (hv : ∀ i, Ix b.wh.length i → 0 ≤ gi vs i ∧ gi vs i < gi b.wh i) : StOk b (vs, zeros b.ru.length) :=
  ⟨hl, hv, by simp [zeros], fun h hh => by
    have : h = 0 := (List.mem_replicate.mp hh).2
    omega⟩
theorem rep_flat (n : Nat) : (List.replicate n [W.int 0]).flatten = (zeros n).map W.int := by
  induction n with
  | zero => rfl
  | succ n ih => rw [List.replicate_succ, List.flatten_cons, ih]; rfl
theorem e_begun {b : Bk} (hb : b.Ok) {vs : List Int} (hl : vs.length = b.wh.length) (hv : ∀ i, Ix b.wh.length i → 0 ≤ gi vs i ∧ gi vs i < gi b.wh i) (S : Sto) : pureR (f_begun [b.W, tpI vs] []) S = .ok (stW (vs, zeros b.ru.length)) S := by
  have ev := e_are_values hl hv hb.w
  have hn := hb.n
  have l1 : 1 ≤ limit := by unfold limit; omega
  have l2 : 2 ≤ limit := by unfold limit; omega
  have hm : binop .Mult (.tup [.int 0]) (.int (b.ru.length : Int)) = some (tpI (zeros b.ru.length)) := by
    have h1 : ((b.ru.length : Int) ≤ 1000) := by omega
    simp [binop, h1, zeros]
  simp [f_begun, startW, ev, g_ru, l1, l2, hm]
  rfl
end SP

set_option Elab.async false
set_option linter.all false
set_option maxRecDepth 100000
set_option maxHeartbeats 4000000
/-! S22: wishes. -/
namespace SP
open PySem DL
inductive Wish where
  | quiet | never (r : Int) | does (r : Int) | at_ (w p : Int)
def Wish.W : Wish → W
  | .quiet => .tup [.str "quiet"]
  | .never r => .tup [.str "never", .int r]
  | .does r => .tup [.str "does", .int r]
  | .at_ w p => .tup [.str "at", .int w, .int p]
def Wish.Ok (b : Bk) : Wish → Prop
  | .quiet => True
  | .never r => Ix b.ru.length r
  | .does r => Ix b.ru.length r
  | .at_ w p => Ix b.wh.length w ∧ 0 ≤ p ∧ p < gi b.wh w
/-- a run from s breaks the wish -/
noncomputable def broken (b : Bk) (off : List Int) (s : Sta) : Wish → Bool
  | .quiet => (qt b off s).isNone
  | .never r => !(tus b off s r == [])
  | .does r => tus b off s r == []
  | .at_ w p => ((trk b off s).1.drop (trk b off s).2).any fun t => gi t.1 w != p
theorem e_broken_quiet {b : Bk} (hb : b.Ok) {off : List Int} {s : Sta} (hs : StOk b s) (S : Sto) : pureR (f_is_broken [trO b off s, Wish.W .quiet] []) S = .ok (.bl (broken b off s .quiet)) S := by
  have hq := e_quiet hb (off := off) hs
  have hc : cmpEq (.str "quiet") (.str "quiet") = some true := by rw [ce_str _ _ (by kernel_rfl) (by kernel_rfl)]; rfl
  have hcis : ∀ o : Option Nat, cmpop .Is (qW o) .non = some o.isNone := fun o => by cases o <;> rfl
  have hqd : ∀ S, deref S (qW (qt b off s)) = qW (qt b off s) := fun S => by cases qt b off s <;> rfl
  have hu : Wish.W .quiet = .tup [.str "quiet"] := rfl
  rw [hu]
  simp only [f_is_broken, o_fn]
  simp [startW, hc, hq, hcis, hqd, broken]
theorem e_broken_never {b : Bk} (hb : b.Ok) {off : List Int} {s : Sta} (hs : StOk b s) {r : Int} (S : Sto) : pureR (f_is_broken [trO b off s, Wish.W (.never r)] []) S = .ok (.bl (broken b off s (.never r))) S := by
  have ht := e_turns hb hs (off := off) r
  have c1 : cmpEq (.str "never") (.str "quiet") = some false := by rw [ce_str _ _ (by kernel_rfl) (by kernel_rfl)]; congr 1
  have c2 : cmpEq (.str "never") (.str "never") = some true := by rw [ce_str _ _ (by kernel_rfl) (by kernel_rfl)]; rfl
  have hm : memW (.str "never") [.str "never", .str "does"] = some true := by kernel_rfl
  have hce : cmpEq (lsI (tus b off s r)) (.lst []) = some (tus b off s r == []) := ce_intsL _ []
  have a0 : L2.atI [W.int r] 0 = some (.int r) := by simp [L2.atI, L2.ixN]
  have l2 : 2 ≤ limit := by unfold limit; omega
  have hu : Wish.W (.never r) = .tup [.str "never", .int r] := rfl
  rw [hu]
  have hbr : broken b off s (.never r) = !(tus b off s r == []) := rfl
  rw [hbr]
  generalize tus b off s r = T at ht hce ⊢
  simp only [f_is_broken, o_fn]
  cases hT : (T == []) <;> rw [hT] at hce <;> simp [startW, c1, c2, hm, ht, hce, a0, l2]
theorem e_broken_does {b : Bk} (hb : b.Ok) {off : List Int} {s : Sta} (hs : StOk b s) {r : Int} (S : Sto) : pureR (f_is_broken [trO b off s, Wish.W (.does r)] []) S = .ok (.bl (broken b off s (.does r))) S := by
  have ht := e_turns hb hs (off := off) r
  have c1 : cmpEq (.str "does") (.str "quiet") = some false := by rw [ce_str _ _ (by kernel_rfl) (by kernel_rfl)]; congr 1
  have c2 : cmpEq (.str "does") (.str "never") = some false := by rw [ce_str _ _ (by kernel_rfl) (by kernel_rfl)]; congr 1
  have hm : memW (.str "does") [.str "never", .str "does"] = some true := by kernel_rfl
  have hce : cmpEq (lsI (tus b off s r)) (.lst []) = some (tus b off s r == []) := ce_intsL _ []
  have a0 : L2.atI [W.int r] 0 = some (.int r) := by simp [L2.atI, L2.ixN]
  have l2 : 2 ≤ limit := by unfold limit; omega
  have hu : Wish.W (.does r) = .tup [.str "does", .int r] := rfl
  rw [hu]
  have hbr : broken b off s (.does r) = (tus b off s r == []) := rfl
  rw [hbr]
  generalize tus b off s r = T at ht hce ⊢
  simp only [f_is_broken, o_fn]
  cases hT : (T == []) <;> rw [hT] at hce <;> simp [startW, c1, c2, hm, ht, hce, a0, l2]
theorem e_broken_at {b : Bk} (hb : b.Ok) {off : List Int} {s : Sta} (hs : StOk b s) {w p : Int} (hw : Ix b.wh.length w) (S : Sto) : pureR (f_is_broken [trO b off s, Wish.W (.at_ w p)] []) S = .ok (.bl (broken b off s (.at_ w p))) S := by
  have t := trk_spec hb (off := off) hs
  have hgs : ∀ S, getFld S 1 2 (trO b off s) = some (.lst ((trk b off s).1.map stW)) := g_states b off s
  have hgb : ∀ S, getFld S 1 4 (trO b off s) = some (.int (trk b off s).2) := g_begin b off s
  have c1 : cmpEq (.str "at") (.str "quiet") = some false := by rw [ce_str _ _ (by kernel_rfl) (by kernel_rfl)]; congr 1
  have hm : memW (.str "at") [.str "never", .str "does"] = some false := by kernel_rfl
  have l2 : 2 ≤ limit := by unfold limit; omega
  have hu : Wish.W (.at_ w p) = .tup [.str "at", .int w, .int p] := rfl
  rw [hu]
  have hbr : broken b off s (.at_ w p) = ((trk b off s).1.drop (trk b off s).2).any fun t => gi t.1 w != p := rfl
  rw [hbr]
  obtain ⟨B, hB⟩ : ∃ B, B = (trk b off s).1.drop (trk b off s).2 := ⟨_, rfl⟩
  have hBm : List.drop (trk b off s).2 ((trk b off s).1.map stW) = B.map stW := by rw [hB, List.map_drop]
  have hfew := trk_few hb (off := off) hs
  have hl : B.length ≤ limit := l_small (n := 5832) (by rw [hB, List.length_drop]; omega)
  have hok : ∀ x ∈ B, StOk b x := fun x hx => by
    rw [hB] at hx
    obtain ⟨i, hi⟩ := List.mem_iff_getElem?.mp (List.mem_of_mem_drop hx)
    have := t.at_ i (List.getElem?_eq_some_iff.mp hi).1
    rw [hi] at this
    rw [Option.some.inj this]; exact itr_ok hb hs i
  have hc : ∀ x6 x7 : Option W, compM (lcStep [some (trO b off s), some (.tup [.str "at", .int w, .int p]), some (.str "at"), some (.lst [.int w, .int p]), some (.int w), some (.int p), x6, x7] [6, 7] (.tup [6, 7]) bYes (mCmp .NotEq (mIdx (mVar 6) (mVar 4)) (mVar 5))) (B.map stW) [] [] = .ok (B.map fun t => .bl (gi t.1 w != p)) [] := fun x6 x7 =>
    lc_data fun x hx => by
      have hx2 := hok x hx
      have hat := gi_at (xs := x.1) (i := w) (by rw [hx2.l1]; exact hw)
      have hst : stW x = .tup [tpI x.1, tpI x.2] := rfl
      rw [hst]
      simp [lcStep, hat]
      cases h : gi x.1 w == p <;> simp [bne, h]
  rw [← hB]
  have hab : allB (B.map fun t => .bl (gi t.1 w != p)) = some (B.map fun t => gi t.1 w != p) := allB_map _ _
  simp only [f_is_broken, o_fn]
  simp [startW, c1, hm, hgs, hgb, cut_drop, hBm, hl, hc, hab, l2]
theorem e_is_broken {b : Bk} (hb : b.Ok) {off : List Int} {s : Sta} (hs : StOk b s) {u : Wish} (hu : u.Ok b) (S : Sto) : pureR (f_is_broken [trO b off s, u.W] []) S = .ok (.bl (broken b off s u)) S := by
  cases u with
  | quiet => exact e_broken_quiet hb hs S
  | never r => exact e_broken_never hb hs S
  | does r => exact e_broken_does hb hs S
  | at_ w p => exact e_broken_at hb hs hu.1 S
@[simp] theorem nl_wish (u : Wish) : u.W.nl = true := by cases u <;> rfl
@[simp] theorem dd_wish (S : Sto) (u : Wish) : derefF S u.W = u.W := by cases u <;> rfl
theorem e_breaks_by {b : Bk} (hb : b.Ok) {off : List Int} {u : Wish} (hu : u.Ok b) {vs : List Int} (hl : vs.length = b.wh.length) (hv : ∀ i, Ix b.wh.length i → 0 ≤ gi vs i ∧ gi vs i < gi b.wh i) (S : Sto) : pureR (f_breaks_by [b.W, u.W, tpI off, tpI vs] []) S = .ok (.bl (broken b off (vs, zeros b.ru.length) u)) S := by
  have h1 := e_begun hb hl hv
  have hs := begun_ok hl hv
  have h2 := e_Track hb (off := off) hs
  have h3 := e_is_broken hb (off := off) hs hu
  simp [f_breaks_by, startW, h1, h2, h3]
end SP

set_option Elab.async false
set_option linter.all false
set_option maxRecDepth 100000
set_option maxHeartbeats 4000000
/-! S23: all values of a book, wishes looked at and drawn, the least beginning that breaks one. -/
namespace SP
open PySem DL
def szs (b : Bk) : List Nat := b.wh.map Int.toNat
def begs (b : Bk) : List (List Int) := rowsOf (szs b)
theorem szs_W {b : Bk} (hb : b.Ok) : ((szs b).map fun z => W.int (z : Nat)) = b.wh.map W.int := by
  unfold szs
  rw [List.map_map]
  refine List.map_congr_left fun x hx => ?_
  have := (hb.w.m x hx).1
  show W.int ((x.toNat : Nat) : Int) = _
  rw [Int.toNat_of_nonneg (by omega)]
theorem e_beginnings {b : Bk} (hb : b.Ok) (S : Sto) : pureR (f_beginnings [b.W] []) S = .ok (.lst ((begs b).map fun r => tpI r)) S := by
  have h := e_all_rows (szs b) (fun z hz => by
    obtain ⟨x, hx, rfl⟩ := List.mem_map.mp hz
    have := (hb.w.m x hx).2
    omega) (by unfold szs; rw [List.length_map]; have := hb.w.l1; omega)
  rw [szs_W hb] at h
  have h : ∀ S, pureR (f_all_rows [tpI b.wh] []) S = .ok (.lst ((begs b).map fun r => tpI r)) S := h
  simp [f_beginnings, startW, g_wh, h]
theorem begs_ok {b : Bk} (hb : b.Ok) {vs : List Int} (h : vs ∈ begs b) : vs.length = b.wh.length ∧ ∀ i, Ix b.wh.length i → 0 ≤ gi vs i ∧ gi vs i < gi b.wh i := by
  obtain ⟨row, h1, l, h2, h3, h4⟩ := mem_rows (szs b) [[]] vs h
  have hr : row = [] := by simpa using h1
  rw [hr, List.nil_append] at h2
  rw [← h2] at h3 h4
  have hz : (szs b).length = b.wh.length := List.length_map ..
  refine ⟨by rw [h3, hz], fun i hi => ?_⟩
  have := h4 i (by rw [hz]; exact hi)
  have hl : i.toNat < b.wh.length := by have := hi.1; have := hi.2; omega
  have e : (((szs b).getD i.toNat 0 : Nat) : Int) = gi b.wh i := by
    unfold szs gi
    rw [List.getD_eq_getElem?_getD, List.getD_eq_getElem?_getD, List.getElem?_map, List.getElem?_eq_getElem hl]
    have := (hb.w.m _ (List.getElem_mem hl)).1
    show ((b.wh[i.toNat].toNat : Nat) : Int) = b.wh[i.toNat]
    omega
  rw [e] at this
  exact this
theorem beg_st {b : Bk} (hb : b.Ok) {vs : List Int} (h : vs ∈ begs b) : StOk b (vs, zeros b.ru.length) := begun_ok (begs_ok hb h).1 (begs_ok hb h).2
theorem e_beg {b : Bk} (hb : b.Ok) {vs : List Int} (h : vs ∈ begs b) (S : Sto) : pureR (f_begun [b.W, tpI vs] []) S = .ok (stW (vs, zeros b.ru.length)) S := e_begun hb (begs_ok hb h).1 (begs_ok hb h).2 S
theorem for_ret {tg : Tg} {s : Ms} {x : W} {ws : List W} {ρ ρ1 : DL.Env} {S S2 : Sto} {w : W} (h1 : bindTg tg x ρ = some ρ1) (h2 : s ρ1 S = .ret w S2) : forM tg s (x :: ws) ρ S = .ret w S2 := by
  rw [for_cons, h1]
  dsimp only
  rw [h2]
theorem e_is_wish {b : Bk} (hb : b.Ok) {u : Wish} (hu : u.Ok b) (S : Sto) : pureR (f_is_wish [b.W, u.W] []) S = .ok (.bl true) S := by
  have l2 : 2 ≤ limit := by unfold limit; omega
  have l1 : 1 ≤ limit := by unfold limit; omega
  cases u with
  | quiet =>
    have c0 : cmpEq (.tup [.str "quiet"]) (.tup []) = some false := by kernel_rfl
    have a0 : L2.atI [W.str "quiet"] 0 = some (.str "quiet") := by simp [L2.atI, L2.ixN]
    have hm : memW (.str "quiet") [.str "never", .str "does"] = some false := by kernel_rfl
    have c1 : cmpEq (.str "quiet") (.str "at") = some false := by rw [ce_str _ _ (by kernel_rfl) (by kernel_rfl)]; congr 1
    have c2 : cmpEq (.str "quiet") (.str "quiet") = some true := by rw [ce_str _ _ (by kernel_rfl) (by kernel_rfl)]; rfl
    have c3 : cmpEq (.lst []) (.lst []) = some true := by rfl
    have hw : Wish.W .quiet = .tup [.str "quiet"] := rfl
    rw [hw]
    simp [f_is_wish, startW, c0, a0, hm, c1, c2, c3, l1, l2]
  | never r =>
    have c0 : cmpEq (.tup [.str "never", .int r]) (.tup []) = some false := by kernel_rfl
    have a0 : L2.atI [W.str "never", .int r] 0 = some (.str "never") := by simp [L2.atI, L2.ixN]
    have a1 : L2.atI [W.int r] 0 = some (.int r) := by simp [L2.atI, L2.ixN]
    have hm : memW (.str "never") [.str "never", .str "does"] = some true := by kernel_rfl
    have hw : Wish.W (.never r) = .tup [.str "never", .int r] := rfl
    have hr := e_is_from r 0 (b.ru.length : Int)
    rw [decide_eq_true hu.1, decide_eq_true hu.2] at hr
    rw [hw]
    simp [f_is_wish, startW, c0, a0, a1, hm, l1, l2, g_ru, hr]
  | does r =>
    have c0 : cmpEq (.tup [.str "does", .int r]) (.tup []) = some false := by kernel_rfl
    have a0 : L2.atI [W.str "does", .int r] 0 = some (.str "does") := by simp [L2.atI, L2.ixN]
    have a1 : L2.atI [W.int r] 0 = some (.int r) := by simp [L2.atI, L2.ixN]
    have hm : memW (.str "does") [.str "never", .str "does"] = some true := by kernel_rfl
    have hw : Wish.W (.does r) = .tup [.str "does", .int r] := rfl
    have hr := e_is_from r 0 (b.ru.length : Int)
    rw [decide_eq_true hu.1, decide_eq_true hu.2] at hr
    rw [hw]
    simp [f_is_wish, startW, c0, a0, a1, hm, l1, l2, g_ru, hr]
  | at_ w p =>
    obtain ⟨hw1, hp0, hp1⟩ := hu
    have c0 : cmpEq (.tup [.str "at", .int w, .int p]) (.tup []) = some false := by kernel_rfl
    have a0 : L2.atI [W.str "at", .int w, .int p] 0 = some (.str "at") := by simp [L2.atI, L2.ixN]
    have a1 : L2.atI [W.int w, .int p] 0 = some (.int w) := by simp [L2.atI, L2.ixN]
    have a2 : L2.atI [W.int w, .int p] 1 = some (.int p) := by simp [L2.atI, L2.ixN]
    have hm : memW (.str "at") [.str "never", .str "does"] = some false := by kernel_rfl
    have c1 : cmpEq (.str "at") (.str "at") = some true := by rw [ce_str _ _ (by kernel_rfl) (by kernel_rfl)]; rfl
    have hw : Wish.W (.at_ w p) = .tup [.str "at", .int w, .int p] := rfl
    have hr := e_is_from w 0 (b.wh.length : Int)
    rw [decide_eq_true hw1.1, decide_eq_true hw1.2] at hr
    have hr2 := e_is_from p 0 (gi b.wh w)
    rw [decide_eq_true hp0, decide_eq_true hp1] at hr2
    have hgi := gi_at hw1
    rw [hw]
    simp [f_is_wish, startW, c0, a0, a1, a2, hm, c1, l1, l2, g_wh, hr, hr2, hgi]
theorem e_look_wish {b : Bk} (hb : b.Ok) {u : Wish} (hu : u.Ok b) (S : Sto) : pureR (f_look_wish [b.W, u.W] []) S = .ok .non S := by
  have h := e_is_wish hb hu
  simp [f_look_wish, startW, h]
/-- the least beginning whose run breaks the wish -/
noncomputable def least (b : Bk) (off : List Int) (u : Wish) : Option (List Int) := (begs b).find? fun vs => broken b off (vs, zeros b.ru.length) u
def vW : Option (List Int) → W
  | none => .non
  | some l => tpI l
theorem least_loop {b : Bk} (hb : b.Ok) {off : List Int} {u : Wish} (hu : u.Ok b) : ∀ (l : List (List Int)) (x3 : Option W), (∀ vs ∈ l, vs ∈ begs b) →
    ((l.find? fun vs => broken b off (vs, zeros b.ru.length) u) = none ∧ ∃ y3, forM (.nm 3) b_least_break_1 (l.map fun r => tpI r) [some b.W, some u.W, some (tpI off), x3] [] = .nx [some b.W, some u.W, some (tpI off), y3] []) ∨
    (∃ vs, (l.find? fun vs => broken b off (vs, zeros b.ru.length) u) = some vs ∧ forM (.nm 3) b_least_break_1 (l.map fun r => tpI r) [some b.W, some u.W, some (tpI off), x3] [] = .ret (tpI vs) [])
  | [], x3, _ => .inl ⟨rfl, x3, for_nil _ _ _ _⟩
  | vs :: l, x3, h => by
    have hv := begs_ok hb (h vs (List.mem_cons_self ..))
    have e := e_breaks_by hb (off := off) hu hv.1 hv.2
    rw [List.map_cons, List.find?_cons]
    cases hbr : broken b off (vs, zeros b.ru.length) u with
    | true =>
      rw [hbr] at e
      refine .inr ⟨vs, rfl, for_ret (by rfl) ?_⟩
      simp [b_least_break_1, e]
    | false =>
      rw [hbr] at e
      have et : b_least_break_1 [some b.W, some u.W, some (tpI off), some (tpI vs)] [] = .nx [some b.W, some u.W, some (tpI off), some (tpI vs)] [] := by
        simp [b_least_break_1, e]
      rw [for_step (by rfl) et]
      exact least_loop hb hu l (some (tpI vs)) fun v hv => h v (List.mem_cons_of_mem _ hv)
theorem e_least {b : Bk} (hb : b.Ok) {off : List Int} {u : Wish} (hu : u.Ok b) (S : Sto) : pureR (f_least_break [b.W, u.W, tpI off] []) S = .ok (vW (least b off u)) S := by
  have h0 := e_beginnings hb
  rcases least_loop hb (off := off) hu (begs b) none fun _ h => h with ⟨h1, y3, h2⟩ | ⟨vs, h1, h2⟩
  · have hl : least b off u = none := h1
    rw [hl]
    simp [f_least_break, startW, h0, h2, vW]
  · have hl : least b off u = some vs := h1
    rw [hl]
    simp [f_least_break, startW, h0, h2, vW]
theorem c_holds {b : Bk} (hb : b.Ok) {off : List Int} (ho : OffOk b off) {u : Wish} (hu : u.Ok b) (S : Sto) : pureR (c_holds_2_off [b.W, u.W] [tpI off] []) S = .ok (.bl (least b off u).isNone) S := by
  have h1 := e_look_wish hb hu
  have h2 := e_look_off hb ho
  have h3 := e_least hb (off := off) hu
  have hi : ∀ o : Option (List Int), cmpop .Is (vW o) .non = some o.isNone := fun o => by cases o <;> rfl
  have e : pureR (f_holds [b.W, u.W, tpI off] []) S = .ok (.bl (least b off u).isNone) S := by
    have hd : ∀ (S : Sto) (o : Option (List Int)), deref S (vW o) = vW o := fun S o => by cases o <;> rfl
    simp [f_holds, startW, h1, h2, h3, hi, hd]
  exact e
/-- a wish drawn -/
theorem d_wish {b : Bk} (hb : b.Ok) {n c : Nat} {S : Sto} (hB : Bg n c S) (hc : c ≤ 600000000) :
    ∃ (u : Wish) (S' : Sto), u.Ok b ∧ f__law_wish [.loc n, tpI b.wh, .int b.ru.length] S = .ok u.W S' ∧ Keep n S.length S S' ∧ Bg n (c + 3) S' := by
  have l2 : 2 ≤ limit := by unfold limit; omega
  have l1 : 1 ≤ limit := by unfold limit; omega
  have l3 : 3 ≤ limit := by unfold limit; omega
  obtain ⟨d, S1, p1, p2, e1, l1', k1, b1⟩ := d_take hB (m := 5) (by omega) (by decide) (by omega)
  by_cases h0 : d = 0 ∨ (d < 3 ∧ b.ru.length = 0)
  · refine ⟨.quiet, S1, trivial, ?_, k1, b1.mono (by omega)⟩
    have hw : Wish.W .quiet = .tup [.str "quiet"] := rfl
    rw [hw]
    rcases h0 with h0 | ⟨h0, h1⟩
    · simp [f__law_wish, startW, e1, h0, l1]
    · by_cases hd : d = 0
      · simp [f__law_wish, startW, e1, hd, l1]
      · simp [f__law_wish, startW, e1, hd, h0, h1, l1]
  · have hd0 : ¬ d = 0 := fun h => h0 (.inl h)
    by_cases h3 : d < 3
    · have hn : b.ru.length ≠ 0 := fun h => h0 (.inr ⟨h3, h⟩)
      have hn5 := hb.n
      obtain ⟨r, S2, q1, q2, e2, l2', k2, b2⟩ := d_take b1 (m := (b.ru.length : Int)) (by omega) (small_div (by omega)) (by omega)
      have hdd : d = 1 ∨ d = 2 := by omega
      rcases hdd with rfl | rfl
      · refine ⟨.never r, S2, ⟨q1, q2⟩, ?_, k1.trans (k2.mono (by omega)), b2.mono (by omega)⟩
        have hw : Wish.W (.never r) = .tup [.str "never", .int r] := rfl
        have a0 : L2.atI [W.str "never", .str "does"] 0 = some (.str "never") := by simp [L2.atI, L2.ixN]
        rw [hw]
        simp [f__law_wish, startW, e1, hn, e2, a0, l2]
      · refine ⟨.does r, S2, ⟨q1, q2⟩, ?_, k1.trans (k2.mono (by omega)), b2.mono (by omega)⟩
        have hw : Wish.W (.does r) = .tup [.str "does", .int r] := rfl
        have a0 : L2.atI [W.str "never", .str "does"] 1 = some (.str "does") := by simp [L2.atI, L2.ixN]
        rw [hw]
        simp [f__law_wish, startW, e1, hn, e2, a0, l2]
    · have hw0 := hb.w.l0
      have hw1 := hb.w.l1
      obtain ⟨w, S2, q1, q2, e2, l2', k2, b2⟩ := d_take b1 (m := (b.wh.length : Int)) (by omega) (small_div (by omega)) (by omega)
      have hix : Ix b.wh.length w := ⟨q1, q2⟩
      have hgi := gi_at hix
      have hm := hb.w.m (gi b.wh w) (by
        unfold gi
        rw [List.getD_eq_getElem?_getD, List.getElem?_eq_getElem (by omega : w.toNat < b.wh.length)]
        exact List.getElem_mem _)
      obtain ⟨p, S3, r1, r2, e3, l3', k3, b3⟩ := d_take b2 (m := gi b.wh w) (by omega) (small_div (by omega)) (by omega)
      refine ⟨.at_ w p, S3, ⟨hix, r1, r2⟩, ?_, (k1.trans (k2.mono (by omega))).trans (k3.mono (by omega)), b3.mono (by omega)⟩
      have hw : Wish.W (.at_ w p) = .tup [.str "at", .int w, .int p] := rfl
      rw [hw]
      simp [f__law_wish, startW, e1, hd0, h3, e2, hgi, e3, l3]
end SP

set_option Elab.async false
set_option linter.all false
set_option maxRecDepth 100000
set_option maxHeartbeats 4000000
namespace K35
open PySem DL SP
/-- the wheel stands at the place ahead of each of so many beats -/
def stB (b : Bk) (off : List Int) (w p : Int) : Nat → Sta → Bool
  | 0, _ => true
  | n + 1, s => (gi s.1 w == p) && stB b off w p n (tst b off s)
theorem stB_iff (b : Bk) (off : List Int) (w p : Int) : ∀ (n : Nat) (s : Sta), stB b off w p n s = true ↔ ∀ i, i < n → gi (itr (tst b off) i s).1 w = p
  | 0, s => by simp [stB]
  | n + 1, s => by
    rw [stB, Bool.and_eq_true, stB_iff b off w p n, beq_iff_eq]
    constructor
    · rintro ⟨h1, h2⟩ i hi
      cases i with
      | zero => exact h1
      | succ i =>
        have := h2 i (by omega)
        rw [itr_comm] at this
        exact this
    · intro h
      refine ⟨h 0 (by omega), fun i hi => ?_⟩
      rw [itr_comm]
      exact h (i + 1) (by omega)
theorem stand_loop {b : Bk} (hb : b.Ok) {off : List Int} (ho : OffOk b off) {w p : Int} (hw : Ix b.wh.length w) (x3 : W) : ∀ (t : Nat) (lo : Int) (s : Sta) (x5 : Option W), StOk b s →
    (stB b off w p t s = true ∧ ∃ y1 y5, forM (.nm 5) b__law_stands_1 (rangeW lo t) [some b.W, some (stW s), some (tpI off), some x3, some (Wish.W (.at_ w p)), x5] [] = .nx [some b.W, y1, some (tpI off), some x3, some (Wish.W (.at_ w p)), y5] []) ∨
    (stB b off w p t s = false ∧ forM (.nm 5) b__law_stands_1 (rangeW lo t) [some b.W, some (stW s), some (tpI off), some x3, some (Wish.W (.at_ w p)), x5] [] = .ret (.bl false) [])
  | 0, lo, s, x5, hs => .inl ⟨rfl, _, x5, for_nil _ _ _ _⟩
  | t + 1, lo, s, x5, hs => by
    have hu : Wish.W (.at_ w p) = .tup [.str "at", .int w, .int p] := rfl
    have a1 : L2.atI [W.str "at", .int w, .int p] 1 = some (.int w) := by simp [L2.atI, L2.ixN]
    have a2 : L2.atI [W.str "at", .int w, .int p] 2 = some (.int p) := by simp [L2.atI, L2.ixN]
    have a0 : L2.atI [tpI s.1, tpI s.2] 0 = some (tpI s.1) := by simp [L2.atI, L2.ixN]
    have hst : stW s = .tup [tpI s.1, tpI s.2] := rfl
    have hat := gi_at (xs := s.1) (i := w) (by rw [hs.l1]; exact hw)
    have hbt := c_beat hb hs ho
    have a3 : L2.atI [tpI (tdn b off s), stW (tst b off s)] 1 = some (stW (tst b off s)) := by simp [L2.atI, L2.ixN]
    rw [rangeW]
    cases hp : gi s.1 w == p with
    | false =>
      refine .inr ⟨by rw [stB, hp]; rfl, for_ret (by rfl) ?_⟩
      have hp' : ¬ gi s.1 w = p := by simpa using hp
      rw [hu, hst]
      simp [b__law_stands_1, a0, a1, a2, hat, hp']
    | true =>
      have hp' : gi s.1 w = p := by simpa using hp
      have et : b__law_stands_1 [some b.W, some (stW s), some (tpI off), some x3, some (Wish.W (.at_ w p)), some (.int lo)] [] = .nx [some b.W, some (stW (tst b off s)), some (tpI off), some x3, some (Wish.W (.at_ w p)), some (.int lo)] [] := by
        rw [hu]
        have hbt2 := hbt
        rw [hst] at hbt2 ⊢
        simp [b__law_stands_1, a0, a1, a2, a3, hat, hp', hbt2]
      rw [for_step (by rfl) et, stB, hp, Bool.true_and]
      exact stand_loop hb ho hw x3 t (lo + 1) (tst b off s) _ (tst_ok hb hs)
theorem e_stands {b : Bk} (hb : b.Ok) {off : List Int} (ho : OffOk b off) {w p : Int} (hw : Ix b.wh.length w) {s : Sta} (hs : StOk b s) {n : Nat} (hn : n ≤ 100000) (S : Sto) : pureR (f__law_stands [b.W, stW s, tpI off, .int n, Wish.W (.at_ w p)] []) S = .ok (.bl (stB b off w p n s)) S := by
  have h62 : (n : Int) < 4611686018427387904 := by omega
  rcases stand_loop hb ho hw (p := p) (.int n) n 0 s none hs with ⟨h1, y1, y5, h2⟩ | ⟨h1, h2⟩
  · rw [h1]
    simp [f__law_stands, startW, h62, h2]
  · rw [h1]
    simp [f__law_stands, startW, h62, h2]
theorem at_broken {b : Bk} (hb : b.Ok) {off : List Int} {s : Sta} (hs : StOk b s) (w p : Int) (k : Nat) : stB b off w p (rlen b off s) (itr (tst b off) (rbeg b off s + k * rlen b off s) s) = !broken b off s (.at_ w p) := by
  have t := trk_spec hb (off := off) hs
  rw [itr_rounds hb hs (Nat.le_refl _)]
  have hlt := t.lt
  have hbr : broken b off s (.at_ w p) = ((trk b off s).1.drop (trk b off s).2).any fun t => gi t.1 w != p := rfl
  rw [hbr]
  have key : stB b off w p (rlen b off s) (itr (tst b off) (rbeg b off s) s) = true ↔ (((trk b off s).1.drop (trk b off s).2).any fun t => gi t.1 w != p) = false := by
    rw [stB_iff, List.any_eq_false]
    have hlen : rlen b off s = (trk b off s).1.length - (trk b off s).2 := rfl
    have hbg : rbeg b off s = (trk b off s).2 := rfl
    rw [hlen, hbg]
    constructor
    · intro h x hx
      obtain ⟨i, hi⟩ := List.mem_iff_getElem?.mp hx
      rw [List.getElem?_drop] at hi
      have hl := (List.getElem?_eq_some_iff.mp hi).1
      have h1 := t.at_ _ hl
      rw [h1, itr_add] at hi
      have := h i (by omega)
      rw [Option.some.inj hi] at this
      simp [this]
    · intro h i hi
      have h1 := t.at_ ((trk b off s).2 + i) (by omega)
      rw [itr_add, ← List.getElem?_drop] at h1
      have := h _ (List.mem_of_getElem? h1)
      simpa using this
  cases hst : stB b off w p (rlen b off s) (itr (tst b off) (rbeg b off s) s) with
  | true => rw [key.mp hst]; rfl
  | false =>
    cases hq : ((trk b off s).1.drop (trk b off s).2).any fun t => gi t.1 w != p with
    | true => rfl
    | false => rw [key.mpr hq] at hst; cases hst
theorem never_cnt {b : Bk} (hb : b.Ok) {off : List Int} {s : Sta} (hs : StOk b s) (r : Int) (k : Nat) : (0 < cnt b off s r (rbeg b off s + k * rlen b off s + rlen b off s)) ↔ tus b off s r ≠ [] := by
  have t := trk_spec hb (off := off) hs
  have hlt := t.lt
  have hlen := tus_len hb (off := off) hs r
  have e : (trk b off s).1.length = rbeg b off s + rlen b off s := by unfold rbeg rlen; omega
  rw [e] at hlen
  have e2 : rbeg b off s + k * rlen b off s + rlen b off s = rbeg b off s + (k + 1) * rlen b off s := by rw [Nat.add_mul, Nat.one_mul]; omega
  rw [e2, cnt_add, cnt_rounds hb hs r (Nat.le_refl _)]
  rw [cnt_add] at hlen
  have hne : tus b off s r ≠ [] ↔ 0 < (tus b off s r).length := by rw [List.length_pos_iff]
  rw [hne, hlen]
  constructor
  · intro h
    rcases Nat.eq_zero_or_pos (cnt b off (itr (tst b off) (rbeg b off s) s) r (rlen b off s)) with h0 | h0
    · rw [h0, Nat.mul_zero] at h; omega
    · omega
  · intro h
    have := Nat.le_mul_of_pos_left (cnt b off (itr (tst b off) (rbeg b off s) s) r (rlen b off s)) (show 0 < k + 1 by omega)
    omega
theorem does_nth {b : Bk} (hb : b.Ok) {off : List Int} {s : Sta} (hs : StOk b s) (r : Int) : ∃ o, Nth b off s r 1 o ∧ (o.isNone = (tus b off s r == [])) := by
  cases hT : tus b off s r with
  | nil =>
    refine ⟨none, fun n => ?_, rfl⟩
    have t := trk_spec hb (off := off) hs
    have hlt := t.lt
    have hlen := tus_len hb (off := off) hs r
    rw [hT] at hlen
    have h := never_cnt hb (off := off) hs r n
    rw [hT] at h
    have h0 : cnt b off s r (rbeg b off s + n * rlen b off s + rlen b off s) = 0 := by
      rcases Nat.eq_zero_or_pos (cnt b off s r (rbeg b off s + n * rlen b off s + rlen b off s)) with h0 | h0
      · exact h0
      · exact absurd rfl (h.mp h0)
    have hm := cnt_mono b off s r (show n ≤ rbeg b off s + n * rlen b off s + rlen b off s by
      have := Nat.le_mul_of_pos_right n (rlen_pos hb (off := off) hs); omega)
    omega
  | cons a l =>
    obtain ⟨n, h1, h2, h3⟩ := tus_at hb (off := off) hs (r := r) (i := 0) (a := a) (by rw [hT]; rfl)
    exact ⟨some n, h3, rfl⟩
theorem shown_turn {b : Bk} (hb : b.Ok) {off : List Int} (ho : OffOk b off) {u : Wish} (hu : u.Ok b) (f : Nat) (hf : (f : Int) ≤ 10000000000000000000000000000000000000000) {vs : List Int} (hv : vs ∈ begs b) (x5 x6 x7 x8 x9 : Option W) :
    ∃ y5 y6 y7 y8 y9, b__law_shown_1 [some b.W, some u.W, some (tpI off), some (.int f), some (tpI vs), x5, x6, x7, x8, x9] [] = if broken b off (vs, zeros b.ru.length) u then .ret (.bl false) [] else .nx [some b.W, some u.W, some (tpI off), some (.int f), some (tpI vs), y5, y6, y7, y8, y9] [] := by
  have h1 := e_beg hb hv
  have hs := beg_st hb hv
  obtain ⟨s, hse⟩ : ∃ s : Sta, s = (vs, zeros b.ru.length) := ⟨_, rfl⟩
  rw [← hse] at h1 hs ⊢
  have h2 := c_round hb ho hs
  have hrb := rb_few hb (off := off) hs
  have hM : MOST = 1000000000000000000000000000000000000000000000000000000000000 := rfl
  have hmu : mulOk (rlen b off s) (f : Int) = true := by
    unfold mulOk
    have q1 : -(2 ^ 64) < (rlen b off s : Int) := by omega
    have q2 : (rlen b off s : Int) < 2 ^ 64 := by omega
    rw [decide_eq_true q1, decide_eq_true q2]; simp
  have hsp : (rbeg b off s : Int) + (rlen b off s : Int) * (f : Int) = ((rbeg b off s + f * rlen b off s : Nat) : Int) := by push_cast; rw [Int.mul_comm]
  have hsp2 : ((rbeg b off s + f * rlen b off s : Nat) : Int) + (rlen b off s : Int) = ((rbeg b off s + f * rlen b off s + rlen b off s : Nat) : Int) := by push_cast; rfl
  have hle : f * rlen b off s ≤ f * 5832 := Nat.mul_le_mul_left _ (by omega)
  have h3 := c_state_at hb ho hs (n := rbeg b off s + f * rlen b off s) (by rw [hM]; omega)
  have hst := itr_ok hb (off := off) hs (rbeg b off s + f * rlen b off s)
  generalize hN : rbeg b off s + f * rlen b off s = N at hsp hsp2 h3 hst
  have l2 : 2 ≤ limit := by unfold limit; omega
  cases u with
  | quiet =>
    have hw : Wish.W .quiet = .tup [.str "quiet"] := rfl
    have a0 : L2.atI [W.str "quiet"] 0 = some (.str "quiet") := by simp [L2.atI, L2.ixN]
    have c1 : cmpEq (.str "quiet") (.str "quiet") = some true := by rw [ce_str _ _ (by kernel_rfl) (by kernel_rfl)]; rfl
    have c2 : cmpEq (.str "quiet") (.str "never") = some false := by rw [ce_str _ _ (by kernel_rfl) (by kernel_rfl)]; congr 1
    have c3 : cmpEq (.str "quiet") (.str "does") = some false := by rw [ce_str _ _ (by kernel_rfl) (by kernel_rfl)]; congr 1
    have c4 : cmpEq (.str "quiet") (.str "at") = some false := by rw [ce_str _ _ (by kernel_rfl) (by kernel_rfl)]; congr 1
    have hq := c_quiet hb ho hs
    have hbr : broken b off s .quiet = (qt b off s).isNone := rfl
    rw [hbr, hw]
    cases hqq : qt b off s with
    | none =>
      rw [hqq] at hq
      have hq : ∀ S, pureR (c_quiet_from_2_off [b.W, stW s] [tpI off] []) S = .ok .non S := hq
      refine ⟨none, none, none, none, none, ?_⟩
      simp [b__law_shown_1, h1, h2, hmu, hsp, a0, c1, c2, c3, c4, hq]
    | some q =>
      rw [hqq] at hq
      have hq : ∀ S, pureR (c_quiet_from_2_off [b.W, stW s] [tpI off] []) S = .ok (.int q) S := hq
      have hi : cmpop .Is (.int q) .non = some false := rfl
      refine ⟨some (stW s), some (.int (rbeg b off s)), some (.int (rlen b off s)), some (.int N), some (stW (itr (tst b off) N s)), ?_⟩
      simp [b__law_shown_1, h1, h2, hmu, hsp, a0, c1, c2, c3, c4, hq, hi, h3]
  | never r =>
    have hw : Wish.W (.never r) = .tup [.str "never", .int r] := rfl
    have a0 : L2.atI [W.str "never", .int r] 0 = some (.str "never") := by simp [L2.atI, L2.ixN]
    have a1 : L2.atI [W.str "never", .int r] 1 = some (.int r) := by simp [L2.atI, L2.ixN]
    have c1 : cmpEq (.str "never") (.str "quiet") = some false := by rw [ce_str _ _ (by kernel_rfl) (by kernel_rfl)]; congr 1
    have c2 : cmpEq (.str "never") (.str "never") = some true := by rw [ce_str _ _ (by kernel_rfl) (by kernel_rfl)]; rfl
    have c3 : cmpEq (.str "never") (.str "does") = some false := by rw [ce_str _ _ (by kernel_rfl) (by kernel_rfl)]; congr 1
    have c4 : cmpEq (.str "never") (.str "at") = some false := by rw [ce_str _ _ (by kernel_rfl) (by kernel_rfl)]; congr 1
    have ht := c_times hb ho hs (r := r) hu (n := N + rlen b off s) (by rw [hM]; omega)
    have hcn := never_cnt hb (off := off) hs r f
    rw [hN] at hcn
    have hbr : broken b off s (.never r) = !(tus b off s r == []) := rfl
    rw [hbr, hw]
    generalize cnt b off s r (N + rlen b off s) = C at ht hcn
    rw [← hsp2] at ht
    cases hT : tus b off s r with
    | nil =>
      have h0 : ¬ 0 < C := fun h => hcn.mp h hT
      refine ⟨some (stW s), some (.int (rbeg b off s)), some (.int (rlen b off s)), some (.int N), some (stW (itr (tst b off) N s)), ?_⟩
      simp [b__law_shown_1, h1, h2, hmu, hsp, a0, a1, c1, c2, c3, c4, ht, h0, h3]
    | cons a l =>
      have h0 : 0 < C := hcn.mpr (by rw [hT]; simp)
      refine ⟨none, none, none, none, none, ?_⟩
      simp [b__law_shown_1, h1, h2, hmu, hsp, a0, a1, c1, c2, c3, c4, ht, h0, h3]
  | does r =>
    have hw : Wish.W (.does r) = .tup [.str "does", .int r] := rfl
    have a0 : L2.atI [W.str "does", .int r] 0 = some (.str "does") := by simp [L2.atI, L2.ixN]
    have a1 : L2.atI [W.str "does", .int r] 1 = some (.int r) := by simp [L2.atI, L2.ixN]
    have c1 : cmpEq (.str "does") (.str "quiet") = some false := by rw [ce_str _ _ (by kernel_rfl) (by kernel_rfl)]; congr 1
    have c2 : cmpEq (.str "does") (.str "never") = some false := by rw [ce_str _ _ (by kernel_rfl) (by kernel_rfl)]; congr 1
    have c3 : cmpEq (.str "does") (.str "does") = some true := by rw [ce_str _ _ (by kernel_rfl) (by kernel_rfl)]; rfl
    have c4 : cmpEq (.str "does") (.str "at") = some false := by rw [ce_str _ _ (by kernel_rfl) (by kernel_rfl)]; congr 1
    obtain ⟨o, ho1, ho2⟩ := does_nth hb (off := off) hs r
    have ht := c_nth1 hb ho hs hu ho1
    have hbr : broken b off s (.does r) = (tus b off s r == []) := rfl
    rw [hbr, ← ho2, hw]
    cases o with
    | none =>
      have ht : ∀ S, pureR (c_nth_3_off [b.W, stW s, .int r] [tpI off] []) S = .ok .non S := ht
      refine ⟨none, none, none, none, none, ?_⟩
      simp [b__law_shown_1, h1, h2, hmu, hsp, a0, a1, c1, c2, c3, c4, ht, h3]
    | some q =>
      have ht : ∀ S, pureR (c_nth_3_off [b.W, stW s, .int r] [tpI off] []) S = .ok (.int q) S := ht
      have hi : cmpop .Is (.int q) .non = some false := rfl
      refine ⟨some (stW s), some (.int (rbeg b off s)), some (.int (rlen b off s)), some (.int N), some (stW (itr (tst b off) N s)), ?_⟩
      simp [b__law_shown_1, h1, h2, hmu, hsp, a0, a1, c1, c2, c3, c4, ht, hi, h3]
  | at_ w p =>
    have hw : Wish.W (.at_ w p) = .tup [.str "at", .int w, .int p] := rfl
    have a0 : L2.atI [W.str "at", .int w, .int p] 0 = some (.str "at") := by simp [L2.atI, L2.ixN]
    have c1 : cmpEq (.str "at") (.str "quiet") = some false := by rw [ce_str _ _ (by kernel_rfl) (by kernel_rfl)]; congr 1
    have c2 : cmpEq (.str "at") (.str "never") = some false := by rw [ce_str _ _ (by kernel_rfl) (by kernel_rfl)]; congr 1
    have c3 : cmpEq (.str "at") (.str "does") = some false := by rw [ce_str _ _ (by kernel_rfl) (by kernel_rfl)]; congr 1
    have c4 : cmpEq (.str "at") (.str "at") = some true := by rw [ce_str _ _ (by kernel_rfl) (by kernel_rfl)]; rfl
    have hsd := e_stands hb ho hu.1 (p := p) hst (n := rlen b off s) (by omega)
    have hab := at_broken hb (off := off) hs w p f
    rw [hN] at hab
    rw [hab] at hsd
    rw [hw] at hsd ⊢
    cases hbr : broken b off s (.at_ w p) with
    | true =>
      rw [hbr] at hsd
      refine ⟨none, none, none, none, none, ?_⟩
      simp [b__law_shown_1, h1, h2, hmu, hsp, a0, c1, c2, c3, c4, h3, hsd]
    | false =>
      rw [hbr] at hsd
      refine ⟨some (stW s), some (.int (rbeg b off s)), some (.int (rlen b off s)), some (.int N), some (stW (itr (tst b off) N s)), ?_⟩
      simp [b__law_shown_1, h1, h2, hmu, hsp, a0, c1, c2, c3, c4, h3, hsd]
theorem shown_loop {b : Bk} (hb : b.Ok) {off : List Int} (ho : OffOk b off) {u : Wish} (hu : u.Ok b) (f : Nat) (hf : (f : Int) ≤ 10000000000000000000000000000000000000000) : ∀ (l : List (List Int)) (x4 x5 x6 x7 x8 x9 : Option W), (∀ vs ∈ l, vs ∈ begs b) →
    ((l.find? fun vs => broken b off (vs, zeros b.ru.length) u) = none ∧ ∃ y4 y5 y6 y7 y8 y9, forM (.nm 4) b__law_shown_1 (l.map fun r => tpI r) [some b.W, some u.W, some (tpI off), some (.int f), x4, x5, x6, x7, x8, x9] [] = .nx [some b.W, some u.W, some (tpI off), some (.int f), y4, y5, y6, y7, y8, y9] []) ∨
    (∃ vs, (l.find? fun vs => broken b off (vs, zeros b.ru.length) u) = some vs ∧ forM (.nm 4) b__law_shown_1 (l.map fun r => tpI r) [some b.W, some u.W, some (tpI off), some (.int f), x4, x5, x6, x7, x8, x9] [] = .ret (.bl false) [])
  | [], x4, x5, x6, x7, x8, x9, _ => .inl ⟨rfl, x4, x5, x6, x7, x8, x9, for_nil _ _ _ _⟩
  | vs :: l, x4, x5, x6, x7, x8, x9, h => by
    obtain ⟨y5, y6, y7, y8, y9, e⟩ := shown_turn hb ho hu f hf (h vs (List.mem_cons_self ..)) x5 x6 x7 x8 x9
    rw [List.map_cons, List.find?_cons]
    cases hbr : broken b off (vs, zeros b.ru.length) u with
    | true =>
      rw [hbr] at e
      exact .inr ⟨vs, rfl, for_ret (by rfl) e⟩
    | false =>
      rw [hbr] at e
      rw [for_step (by rfl) e]
      exact shown_loop hb ho hu f hf l _ y5 y6 y7 y8 y9 fun v hv => h v (List.mem_cons_of_mem _ hv)
theorem e_shown {b : Bk} (hb : b.Ok) {off : List Int} (ho : OffOk b off) {u : Wish} (hu : u.Ok b) (f : Nat) (hf : (f : Int) ≤ 10000000000000000000000000000000000000000) (S : Sto) : pureR (f__law_shown [b.W, u.W, tpI off, .int f] []) S = .ok (.bl (least b off u).isNone) S := by
  have h0 := e_beginnings hb
  rcases shown_loop hb ho hu f hf (begs b) none none none none none none fun _ h => h with ⟨h1, y4, y5, y6, y7, y8, y9, h2⟩ | ⟨vs, h1, h2⟩
  · have hl : least b off u = none := h1
    rw [hl]
    simp [f__law_shown, startW, h0, h2]
  · have hl : least b off u = some vs := h1
    rw [hl]
    simp [f__law_shown, startW, h0, h2]
def E (ns : List Int) (k : Int) (n : Nat) (b : Bk) (x6 x7 x8 x9 : Option W) : DL.Env := [some (scr ns), some (.int k), some (.loc n), some (tpI b.wh), some (.tup (b.ru.map Rul.W)), some b.W, x6, x7, x8, x9]
theorem turn_ok (ns : List Int) (k : Int) {n c : Nat} {b : Bk} (hb : b.Ok) {S : Sto} (hB : Bg n c S) (hc : c ≤ 500000000) (x6 x7 x8 x9 : Option W) :
    ∃ (y7 y8 y9 : Option W) (S' : Sto), b_law_2 (E ns k n b x6 x7 x8 x9) S = .nx (E ns k n b x6 y7 y8 y9) S' ∧ Bg n (c + 12) S' := by
  obtain ⟨u, S1, hu, e1, k1, b1⟩ := d_wish hb hB (by omega)
  obtain ⟨off, S2, ho, e2, k2, b2⟩ := d_off hb.n b1 (by omega)
  obtain ⟨d1, S3, p1, p2, e3, l3, k3, b3⟩ := d_take b2 (m := 9) (by omega) (by decide) (by omega)
  obtain ⟨d2, S4, q1, q2, e4, l4, k4, b4⟩ := d_take b3 (m := 10000000000000000000000000000000000000000) (by omega) (by decide) (by omega)
  obtain ⟨d3, S5, r1, r2, e5, l5, k5, b5⟩ := d_take b4 (m := 2) (by omega) (by decide) (by omega)
  obtain ⟨f, hf, hat⟩ : ∃ f : Nat, (f : Int) ≤ 10000000000000000000000000000000000000000 ∧ L2.atI [W.int d1, .int d2] d3 = some (.int f) := by
    rcases (by omega : d3 = 0 ∨ d3 = 1) with rfl | rfl
    · exact ⟨d1.toNat, by omega, by rw [show ((d1.toNat : Nat) : Int) = d1 by omega]; rfl⟩
    · exact ⟨d2.toNat, by omega, by rw [show ((d2.toNat : Nat) : Int) = d2 by omega]; rfl⟩
  have hh := c_holds hb ho hu
  have hs := e_shown hb ho hu f hf
  have l2 : 2 ≤ limit := by unfold limit; omega
  have hc1 : ∀ x : Bool, cmpEq (.bl x) (.bl x) = some true := fun x => by cases x <;> rfl
  refine ⟨some u.W, some (tpI off), some (.int f), S5, ?_, b5.mono (by omega)⟩
  unfold E
  simp [b_law_2, b_law_2t0, b_law_2_0, b_law_2t1, b_law_2_1, b_law_2t2, b_law_2_2, e1, e2, e3, e4, e5, hat, hh, hs, l2, hc1]
theorem turns_ok (ns : List Int) (k : Int) {n : Nat} {b : Bk} (hb : b.Ok) : ∀ (t : Nat) (lo : Int) (S : Sto) (c : Nat) (x6 x7 x8 x9 : Option W), Bg n c S → c + 12 * t ≤ 500000000 →
    ∃ (y6 y7 y8 y9 : Option W) (S' : Sto), forM (.nm 6) b_law_2 (rangeW lo t) (E ns k n b x6 x7 x8 x9) S = .nx (E ns k n b y6 y7 y8 y9) S'
  | 0, lo, S, c, x6, x7, x8, x9, _, _ => ⟨x6, x7, x8, x9, S, for_nil _ _ _ _⟩
  | t + 1, lo, S, c, x6, x7, x8, x9, hB, hc => by
    obtain ⟨y7, y8, y9, S1, e1, b1⟩ := turn_ok ns k hb hB (by omega) (some (.int lo)) x7 x8 x9
    obtain ⟨z6, z7, z8, z9, S2, e2⟩ := turns_ok ns k hb t (lo + 1) S1 (c + 12) (some (.int lo)) y7 y8 y9 b1 (by omega)
    refine ⟨z6, z7, z8, z9, S2, ?_⟩
    rw [rangeW, for_step (by rfl) e1, e2]
theorem body_ok (ns : List Int) (k : Nat) (hk : k < 4) (a2 a3 a4 a5 a6 a7 a8 a9 : Option W) (S : Sto) :
    ∃ (r' : DL.Env) (S' : Sto), r'.length = 9 ∧ b_law_1 [some (scr ns), some (.int k), a2, a3, a4, a5, a6, a7, a8, a9] S = .nx (some (scr ns) :: r') S' := by
  obtain ⟨S1, e1, l1, k1, b1⟩ := d_bag (S := S) ns (show k < 100 by omega)
  obtain ⟨b, S2, hb, e2, k2, b2⟩ := d_drawn b1 (by omega)
  obtain ⟨y6, y7, y8, y9, S5, e5⟩ := turns_ok ns k hb 5 0 S2 (0 + 205) a6 a7 a8 a9 b2 (by omega)
  have hh : b_law_1 [some (scr ns), some (.int k), a2, a3, a4, a5, a6, a7, a8, a9] S = .nx (E ns k S.length b y6 y7 y8 y9) S5 := by
    unfold E at e5 ⊢
    simp [b_law_1, b_law_1t0, b_law_1_0, b_law_1t1, b_law_1_1, b_law_1t2, b_law_1_2, b_law_1t3, b_law_1_3, e1, e2, e_Book hb, e5]
  unfold E at hh
  exact ⟨_, S5, by rfl, hh⟩
theorem plain : Plain := by
  intro ns hl
  exact main_law (lo := 2) (hi := 4) (N := 9) (by omega) (by omega) fun k hk r S hr => by
    match r, hr with
    | [a1, a2, a3, a4, a5, a6, a7, a8, a9], _ => exact body_ok ns k (by omega) a2 a3 a4 a5 a6 a7 a8 a9 S
end K35

theorem PySem.Challenge.cw_hushrules_k35_whole_wishes_by_far_beats_holds : PySem.Challenge.rw_hushrules_k35_whole_wishes_by_far_beats.Holds :=
  PySem.Challenge.held_hushrules_k35_whole_wishes_by_far_beats K35.plain
