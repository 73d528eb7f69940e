import PyProof.Rows.All
import Wide.All
import OpenK.AllK
import Wide.FinOn
import HandS.Base
import HandS.Call
import HandS.List
import HandS.Comp
import HandS.Words
import HandS.Walk
import HandS.TupAny
import HandS.TupMul
import HandS.IsInst
import HandS.ExcOwn
import HandS.CallSlots
import HandS.Deep
import HandS.Style
import HandS.Zip
import KE.GoesZip
import KE.GoesEnumKw
import KE.GoesMore
import KE.GoesEnum
import HandS.Flow
import HandS.TryOnly
import HandS.Defaults
import HandS.MakeKw
import HandS.WordsExc
import PyProof.Rows.Nodes
import HandS.Iter
import HandS.Ends
import HandS.Head0
import HandS.Head1
import HandS.Head2
import HandS.HeadEnd
import HandS.HeadHook1
import HandS.HeadHook2
import PyProof.FactsLen
import PySem.Challenge.RW_hushrules_k10_conditions_one_by_one
set_option Elab.async false
set_option linter.all false
set_option maxRecDepth 100000
set_option maxHeartbeats 4000000
/-! Wa: values as data (W), mutable cells, how they stand in the abstract heap. -/
namespace DL
open PySem PySem.Spec L2

/-- a value as data: tuples, lists that nobody changes any more, instances that nobody changes any more; loc: a thing that may be changed, by its number -/
inductive W where
  | non | bl (b : Bool) | int (i : Int) | str (s : Str)
  | tup (ws : List W) | lst (ws : List W) | ins (c : Nat) (fs : List (Nat × W)) | loc (n : Nat)
  deriving Inhabited
inductive Cell where
  | lst (ws : List W) | obj (c : Nat) (fs : List (Nat × W)) | dic (kvs : List (W × W)) | set (ws : List W) | frz (w : W) | dead
  deriving Inhabited
abbrev Env := List (Option W)
abbrev Sto := List Cell

/-- names of fields, addresses of classes -/
structure Tab where
  fld : List Str
  cls : List Addr
def Tab.f (T : Tab) (i : Nat) : Str := T.fld.getD i Str.empty
def Tab.c (T : Tab) (i : Nat) : Addr := T.cls.getD i 0
theorem Tab.f_inj {T : Tab} (hn : T.fld.Nodup) {i j : Nat} (hi : i < T.fld.length) (hj : j < T.fld.length) (e : T.f i = T.f j) : i = j := by
  unfold Tab.f at e
  rw [List.getD_eq_getElem?_getD, List.getD_eq_getElem?_getD, List.getElem?_eq_getElem hi, List.getElem?_eq_getElem hj] at e
  exact (List.getElem_inj hn).mp e

mutual
inductive Rw (T : Tab) (K : PySem.W.Frag) (F : Hp) (al : List Addr) : V → W → Prop
  | non : Rw T K F al .non .non
  | bl (b : Bool) : Rw T K F al (.bl b) (.bl b)
  | int (i : Int) : Rw T K F al (.int i) (.int i)
  | str (x : Str) : Rw T K F al (.str x) (.str x)
  | tup {a : Addr} {xs : List V} {ws : List W} : SqT K F a xs → RwL T K F al xs ws → Rw T K F al (.ref a) (.tup ws)
  | lst {a : Addr} {xs : List V} {ws : List W} : SqL K F a xs → RwL T K F al xs ws → Rw T K F al (.ref a) (.lst ws)
  | ins {a dx : Addr} {c : Nat} {gs : List (Str × V)} {fs : List (Nat × W)} : F a = some (.ins (T.c c) dx gs) → RwF T K F al gs fs → Rw T K F al (.ref a) (.ins c fs)
  | loc {a : Addr} {n : Nat} : al[n]? = some a → Rw T K F al (.ref a) (.loc n)
inductive RwL (T : Tab) (K : PySem.W.Frag) (F : Hp) (al : List Addr) : List V → List W → Prop
  | nil : RwL T K F al [] []
  | cons {v : V} {vs : List V} {w : W} {ws : List W} : Rw T K F al v w → RwL T K F al vs ws → RwL T K F al (v :: vs) (w :: ws)
inductive RwF (T : Tab) (K : PySem.W.Frag) (F : Hp) (al : List Addr) : List (Str × V) → List (Nat × W) → Prop
  | nil : RwF T K F al [] []
  | cons {i : Nat} {v : V} {gs : List (Str × V)} {w : W} {fs : List (Nat × W)} : i < T.fld.length → Rw T K F al v w → RwF T K F al gs fs → RwF T K F al ((T.f i, v) :: gs) ((i, w) :: fs)
end

theorem sqT_mono {K : PySem.W.Frag} {F F' : Hp} (h : Same F F') {a : Addr} {xs : List V} (q : SqT K F a xs) : SqT K F' a xs := by
  rcases q with (q | ⟨o, q⟩) | q
  · exact .inl (.inl (h _ _ q))
  · exact .inl (.inr ⟨o, h _ _ q⟩)
  · exact .inr q
theorem rd_mono {F F' : Hp} (h : Same F F') {a : Addr} {u : HO} (q : Rd F a u) : Rd F' a u := by
  rcases q with q | ⟨o, q⟩
  · exact .inl (h _ _ q)
  · exact .inr ⟨o, h _ _ q⟩
theorem sqL_mono {K : PySem.W.Frag} {F F' : Hp} (h : Same F F') {a : Addr} {xs : List V} (q : SqL K F a xs) : SqL K F' a xs := by
  rcases q with q | q
  · exact .inl (rd_mono h q)
  · exact .inr q
/-- al' begins with al -/
def Pre (al al' : List Addr) : Prop := ∀ (n : Nat) (a : Addr), al[n]? = some a → al'[n]? = some a
theorem Pre.refl (al : List Addr) : Pre al al := fun _ _ h => h
theorem Pre.trans {a b c : List Addr} (h : Pre a b) (h' : Pre b c) : Pre a c := fun n x q => h' n x (h n x q)
theorem Pre.app (al be : List Addr) : Pre al (al ++ be) := fun n a q => by
  have := (List.getElem?_eq_some_iff.mp q).1
  rw [List.getElem?_append_left this]; exact q
section
variable {T : Tab} {K : PySem.W.Frag} {F F' : Hp} {al al' : List Addr}
mutual
theorem Rw.mono (h : Same F F') (p : Pre al al') : ∀ {v : V} {w : W}, Rw T K F al v w → Rw T K F' al' v w
  | _, _, .non => .non
  | _, _, .bl b => .bl b
  | _, _, .int i => .int i
  | _, _, .str x => .str x
  | _, _, .tup q r => .tup (sqT_mono h q) (RwL.mono h p r)
  | _, _, .lst q r => .lst (sqL_mono h q) (RwL.mono h p r)
  | _, _, .ins q r => .ins (h _ _ q) (RwF.mono h p r)
  | _, _, .loc q => .loc (p _ _ q)
theorem RwL.mono (h : Same F F') (p : Pre al al') : ∀ {vs : List V} {ws : List W}, RwL T K F al vs ws → RwL T K F' al' vs ws
  | _, _, .nil => .nil
  | _, _, .cons a b => .cons (Rw.mono h p a) (RwL.mono h p b)
theorem RwF.mono (h : Same F F') (p : Pre al al') : ∀ {gs : List (Str × V)} {fs : List (Nat × W)}, RwF T K F al gs fs → RwF T K F' al' gs fs
  | _, _, .nil => .nil
  | _, _, .cons l a b => .cons l (Rw.mono h p a) (RwF.mono h p b)
end
theorem RwL.length : ∀ {vs : List V} {ws : List W}, RwL T K F al vs ws → vs.length = ws.length
  | _, _, .nil => rfl
  | _, _, .cons _ b => by rw [List.length_cons, List.length_cons, b.length]
theorem RwL.get : ∀ {vs : List V} {ws : List W} {i : Nat} {w : W}, RwL T K F al vs ws → ws[i]? = some w → ∃ v, vs[i]? = some v ∧ Rw T K F al v w
  | _, _, _, _, .nil, e => by simp at e
  | _, _, 0, _, .cons r _, e => by simp at e; subst e; exact ⟨_, rfl, r⟩
  | _, _, i + 1, _, .cons _ t, e => by
    obtain ⟨v, h1, h2⟩ := RwL.get (i := i) t (by simpa using e)
    exact ⟨v, by simpa using h1, h2⟩
theorem RwL.getV : ∀ {vs : List V} {ws : List W} {i : Nat} {v : V}, RwL T K F al vs ws → vs[i]? = some v → ∃ w, ws[i]? = some w ∧ Rw T K F al v w
  | _, _, _, _, .nil, e => by simp at e
  | _, _, 0, _, .cons r _, e => by simp at e; subst e; exact ⟨_, rfl, r⟩
  | _, _, i + 1, _, .cons _ t, e => by
    obtain ⟨v, h1, h2⟩ := RwL.getV (i := i) t (by simpa using e)
    exact ⟨v, by simpa using h1, h2⟩
theorem RwL.append : ∀ {vs us : List V} {ws xs : List W}, RwL T K F al vs ws → RwL T K F al us xs → RwL T K F al (vs ++ us) (ws ++ xs)
  | _, _, _, _, .nil, s => s
  | _, _, _, _, .cons r t, s => .cons r (RwL.append t s)
theorem RwL.take : ∀ {vs : List V} {ws : List W} (n : Nat), RwL T K F al vs ws → RwL T K F al (vs.take n) (ws.take n)
  | _, _, 0, _ => .nil
  | _, _, _ + 1, .nil => .nil
  | _, _, n + 1, .cons r t => .cons r (RwL.take n t)
theorem RwL.drop : ∀ {vs : List V} {ws : List W} (n : Nat), RwL T K F al vs ws → RwL T K F al (vs.drop n) (ws.drop n)
  | _, _, 0, r => r
  | _, _, _ + 1, .nil => .nil
  | _, _, n + 1, .cons _ t => RwL.drop n t
theorem RwL.set {v : V} {w : W} (r : Rw T K F al v w) : ∀ {vs : List V} {ws : List W} (i : Nat), RwL T K F al vs ws → RwL T K F al (vs.set i v) (ws.set i w)
  | _, _, _, .nil => .nil
  | _, _, 0, .cons _ t => .cons r t
  | _, _, i + 1, .cons q t => .cons q (RwL.set r i t)
theorem RwL.reverse {vs : List V} {ws : List W} (r : RwL T K F al vs ws) : RwL T K F al vs.reverse ws.reverse := by
  induction r using RwL.rec (motive_1 := fun _ _ _ => True) (motive_3 := fun _ _ _ => True) with
  | nil => exact .nil
  | cons a b _ ih => rw [List.reverse_cons, List.reverse_cons]; exact ih.append (.cons a .nil)
  | _ => trivial
theorem RwL.eraseIdx : ∀ {vs : List V} {ws : List W} (i : Nat), RwL T K F al vs ws → RwL T K F al (vs.eraseIdx i) (ws.eraseIdx i)
  | _, _, _, .nil => .nil
  | _, _, 0, .cons _ t => t
  | _, _, i + 1, .cons q t => .cons q (RwL.eraseIdx i t)
theorem RwL.dropLast {vs : List V} {ws : List W} (r : RwL T K F al vs ws) : RwL T K F al vs.dropLast ws.dropLast := by
  rw [List.dropLast_eq_take, List.dropLast_eq_take, r.length]; exact r.take _
theorem RwL.rep {vs : List V} {ws : List W} (r : RwL T K F al vs ws) : ∀ k, RwL T K F al (List.replicate k vs).flatten (List.replicate k ws).flatten
  | 0 => .nil
  | k + 1 => by rw [List.replicate_succ, List.replicate_succ, List.flatten_cons, List.flatten_cons]; exact r.append (r.rep k)
theorem RwL.ints : ∀ {vs : List V} {ns : List Int}, RwL T K F al vs (ns.map W.int) → vs = ns.map V.int
  | _, [], .nil => rfl
  | _, n :: ns, .cons r t => by cases r; rw [List.map_cons, RwL.ints t]
theorem RwL.of_ints : ∀ (ns : List Int), RwL T K F al (ns.map V.int) (ns.map W.int)
  | [] => .nil
  | n :: ns => .cons (.int n) (RwL.of_ints ns)
theorem RwL.bls : ∀ {vs : List V} {ns : List Bool}, RwL T K F al vs (ns.map W.bl) → vs = ns.map V.bl
  | _, [], .nil => rfl
  | _, n :: ns, .cons r t => by cases r; rw [List.map_cons, RwL.bls t]
theorem RwL.strs : ∀ {vs : List V} {ns : List Str}, RwL T K F al vs (ns.map W.str) → vs = ns.map V.str
  | _, [], .nil => rfl
  | _, n :: ns, .cons r t => by cases r; rw [List.map_cons, RwL.strs t]
end

/-- what stands at the address of a cell -/
def CellOk (T : Tab) (K : PySem.W.Frag) (F : Hp) (al : List Addr) (H : Hp) (a : Addr) : Cell → Prop
  | .lst ws => ∃ xs, H a = some (.lst xs) ∧ F a = none ∧ RwL T K F al xs ws
  | .obj c fs => ∃ dx gs, H a = some (.ins (T.c c) dx gs) ∧ F a = none ∧ RwF T K F al gs fs
  | .dic _ => False
  | .set _ => False
  | .frz w => Rw T K F al (.ref a) w
  | .dead => True
/-- the data's part F of the heap, the cells' addresses al -/
structure Good (T : Tab) (K : PySem.W.Frag) (F : Hp) (al : List Addr) (S : Sto) (H : Hp) : Prop where
  sub : Same F H
  nd : al.Nodup
  len : al.length = S.length
  tr : ∀ a ∈ al, H a ≠ none
  cell : ∀ (n : Nat) (a : Addr) (c : Cell), al[n]? = some a → S[n]? = some c → CellOk T K F al H a c
structure Post (F : Hp) (al : List Addr) (H : Hp) (F' : Hp) (al' : List Addr) (H' : Hp) : Prop where
  ext : Same F F'
  pre : Pre al al'
  fresh : ∀ b, b ∈ al' → b ∈ al ∨ H b = none
  keep : ∀ b o, H b = some o → b ∉ al → H' b = some o
  dom : ∀ b, F' b ≠ none → F b ≠ none ∨ b ∈ al ∨ H b = none
def EnvOk (T : Tab) (K : PySem.W.Frag) (F : Hp) (al : List Addr) (σ : St) (ρ : Env) : Prop :=
  ρ.length = σ.length ∧ ∀ (i : Nat) (w : W), ρ[i]? = some (some w) → ∃ v, σ[i]? = some (some v) ∧ Rw T K F al v w
section
variable {T : Tab} {K : PySem.W.Frag} {F F' F2 : Hp} {al al' al2 : List Addr} {H H' H2 : Hp} {S S' : Sto} {σ : St} {ρ : Env}
theorem Post.refl : Post F al H F al H := ⟨Same.refl _, Pre.refl _, fun _ h => .inl h, fun _ _ h _ => h, fun _ h => .inl h⟩
theorem Post.trans (p : Post F al H F' al' H') (q : Post F' al' H' F2 al2 H2) : Post F al H F2 al2 H2 := by
  have kn : ∀ b, H' b = none → b ∈ al ∨ H b = none := fun b h => by
    by_cases hb : b ∈ al
    · exact .inl hb
    · refine .inr ?_
      cases e : H b with
      | none => rfl
      | some o => rw [p.keep b o e hb] at h; cases h
  refine ⟨p.ext.trans q.ext, p.pre.trans q.pre, fun b h => ?_, fun b o h hb => ?_, fun b h => ?_⟩
  · rcases q.fresh b h with h | h
    · exact p.fresh b h
    · exact kn b h
  · refine q.keep b o (p.keep b o h hb) fun hm => ?_
    rcases p.fresh b hm with z | z
    · exact hb z
    · rw [h] at z; cases z
  · rcases q.dom b h with h | h | h
    · exact p.dom b h
    · rcases p.fresh b h with z | z
      · exact .inr (.inl z)
      · exact .inr (.inr z)
    · exact .inr (kn b h)
theorem EnvOk.mono (e : EnvOk T K F al σ ρ) (h : Same F F') (p : Pre al al') : EnvOk T K F' al' σ ρ :=
  ⟨e.1, fun i w q => let ⟨v, a, b⟩ := e.2 i w q; ⟨v, a, b.mono h p⟩⟩
theorem EnvOk.post (e : EnvOk T K F al σ ρ) (p : Post F al H F' al' H') : EnvOk T K F' al' σ ρ := e.mono p.ext p.pre
theorem Rw.post {v : V} {w : W} (e : Rw T K F al v w) (p : Post F al H F' al' H') : Rw T K F' al' v w := e.mono p.ext p.pre
theorem RwL.post {v : List V} {w : List W} (e : RwL T K F al v w) (p : Post F al H F' al' H') : RwL T K F' al' v w := e.mono p.ext p.pre
theorem EnvOk.set (e : EnvOk T K F al σ ρ) {v : V} {w : W} (r : Rw T K F al v w) (i : Nat) : EnvOk T K F al (σ.set i (some v)) (ρ.set i (some w)) := by
  refine ⟨by rw [List.length_set, List.length_set]; exact e.1, fun j x q => ?_⟩
  by_cases hj : i = j
  · subst hj
    by_cases hl : i < ρ.length
    · rw [List.getElem?_set_self hl] at q
      cases q
      exact ⟨v, List.getElem?_set_self (by rw [← e.1]; exact hl), r⟩
    · rw [List.getElem?_eq_none (by rw [List.length_set]; omega)] at q; cases q
  · rw [List.getElem?_set_ne hj] at q
    obtain ⟨u, a, b⟩ := e.2 j x q
    exact ⟨u, by rw [List.getElem?_set_ne hj]; exact a, b⟩
theorem EnvOk.wipe (e : EnvOk T K F al σ ρ) (i : Nat) : EnvOk T K F al (σ.set i none) (ρ.set i none) := by
  refine ⟨by rw [List.length_set, List.length_set]; exact e.1, fun j x q => ?_⟩
  by_cases hj : i = j
  · subst hj
    by_cases hl : i < ρ.length
    · rw [List.getElem?_set_self hl] at q; cases q
    · rw [List.getElem?_eq_none (by rw [List.length_set]; omega)] at q; cases q
  · rw [List.getElem?_set_ne hj] at q
    obtain ⟨u, a, b⟩ := e.2 j x q
    exact ⟨u, by rw [List.getElem?_set_ne hj]; exact a, b⟩
theorem Good.anew (g : Good T K F al S H) {n : Nat} {a : Addr} {c : Cell} (ha : al[n]? = some a) (hc : S[n]? = some c) : CellOk T K F al H a c := g.cell n a c ha hc
theorem Good.notF (g : Good T K F al S H) {p : Addr} (h : H p = none) : F p = none := g.sub.free h
theorem Good.notA (g : Good T K F al S H) {p : Addr} (h : H p = none) : p ∉ al := fun m => g.tr p m h

theorem CellOk.mono {a : Addr} : ∀ {c : Cell}, CellOk T K F al H a c → Same F F' → Pre al al' → (∀ o, H a = some o → H' a = some o) → (F a = none → F' a = none) → CellOk T K F' al' H' a c
  | .lst _, ⟨xs, h1, h2, h3⟩, s, p, k, f => ⟨xs, k _ h1, f h2, h3.mono s p⟩
  | .obj _ _, ⟨dx, gs, h1, h2, h3⟩, s, p, k, f => ⟨dx, gs, k _ h1, f h2, h3.mono s p⟩
  | .dic _, h, _, _, _, _ => h.elim
  | .set _, h, _, _, _, _ => h.elim
  | .frz _, h, s, p, _, _ => Rw.mono s p h
  | .dead, _, _, _, _, _ => trivial
/-- a new thing that is data from its begin on -/
theorem Good.newF (g : Good T K F al S H) {p : Addr} (hp : H p = none) (o : HO) : Good T K (upd F p o) al S (upd H p o) ∧ Post F al H (upd F p o) al (upd H p o) := by
  have hF := g.notF hp
  have hA := g.notA hp
  have s1 : Same F (upd F p o) := fun b u e => by rw [upd_ne (ne_of_none e hF)]; exact e
  refine ⟨⟨fun b u e => ?_, g.nd, g.len, fun a ha => ?_, fun n a c ha hc => ?_⟩, ⟨s1, Pre.refl _, fun _ h => .inl h, fun b u e _ => by rw [upd_ne (ne_of_none e hp)]; exact e, fun b h => ?_⟩⟩
  · by_cases hb : b = p
    · subst hb; rw [upd_same] at e ⊢; exact e
    · rw [upd_ne hb] at e ⊢; exact g.sub b u e
  · rw [upd_ne (show a ≠ p from fun e => hA (e ▸ ha))]; exact g.tr a ha
  · have ne : a ≠ p := fun e => hA (e ▸ List.mem_of_getElem? ha)
    exact (g.cell n a c ha hc).mono s1 (Pre.refl _) (fun o h => by rw [upd_ne ne]; exact h) (fun h => by rw [upd_ne ne]; exact h)
  · by_cases hb : b = p
    · subst hb; exact .inr (.inr hp)
    · rw [upd_ne hb] at h; exact .inl h
theorem Good.newTup (g : Good T K F al S H) {p : Addr} (hp : H p = none) {xs : List V} {ws : List W} (r : RwL T K F al xs ws) :
    Good T K (upd F p (.tup xs)) al S (upd H p (.tup xs)) ∧ Post F al H (upd F p (.tup xs)) al (upd H p (.tup xs)) ∧ Rw T K (upd F p (.tup xs)) al (.ref p) (.tup ws) := by
  obtain ⟨a, b⟩ := g.newF hp (.tup xs)
  exact ⟨a, b, .tup (.of upd_same) (r.post b)⟩
theorem Good.newLst (g : Good T K F al S H) {p : Addr} (hp : H p = none) {xs : List V} {ws : List W} (r : RwL T K F al xs ws) :
    Good T K (upd F p (.lst xs)) al S (upd H p (.lst xs)) ∧ Post F al H (upd F p (.lst xs)) al (upd H p (.lst xs)) ∧ Rw T K (upd F p (.lst xs)) al (.ref p) (.lst ws) := by
  obtain ⟨a, b⟩ := g.newF hp (.lst xs)
  exact ⟨a, b, .lst (SqL.of upd_same) (r.post b)⟩
/-- a new cell -/
theorem Good.newCell (g : Good T K F al S H) {p : Addr} (hp : H p = none) {o : HO} {c : Cell} (hc : CellOk T K F (al ++ [p]) (upd H p o) p c) :
    Good T K F (al ++ [p]) (S ++ [c]) (upd H p o) ∧ Post F al H F (al ++ [p]) (upd H p o) ∧ Rw T K F (al ++ [p]) (.ref p) (.loc S.length) := by
  have hF := g.notF hp
  have hA := g.notA hp
  refine ⟨⟨fun b u e => ?_, ?_, by rw [List.length_append, List.length_append, g.len]; rfl, fun a ha => ?_, fun n a d ha hd => ?_⟩, ⟨Same.refl _, Pre.app _ _, fun b h => ?_, fun b u e _ => by rw [upd_ne (ne_of_none e hp)]; exact e, fun _ h => .inl h⟩, .loc ?_⟩
  · rw [upd_ne (ne_of_none e hF)]; exact g.sub b u e
  · rw [List.nodup_append]
    refine ⟨g.nd, by simp, fun a ha b hb e => ?_⟩
    have : b = p := by simpa using hb
    subst this; subst e; exact hA ha
  · rcases List.mem_append.mp ha with h | h
    · by_cases e : a = p
      · subst e; rw [upd_same]; simp
      · rw [upd_ne e]; exact g.tr a h
    · have : a = p := by simpa using h
      subst this; rw [upd_same]; simp
  · by_cases hn : n < al.length
    · rw [List.getElem?_append_left hn] at ha
      rw [List.getElem?_append_left (by rw [← g.len]; exact hn)] at hd
      have ne : a ≠ p := fun e => hA (e ▸ List.mem_of_getElem? ha)
      exact (g.cell n a d ha hd).mono (Same.refl _) (Pre.app _ _) (fun o h => by rw [upd_ne ne]; exact h) (fun h => h)
    · have h2 : n = al.length := by
        have := (List.getElem?_eq_some_iff.mp ha).1
        rw [List.length_append] at this
        simp at this; omega
      subst h2
      rw [List.getElem?_append_right (Nat.le_refl _), Nat.sub_self] at ha
      rw [g.len, List.getElem?_append_right (Nat.le_refl _), Nat.sub_self] at hd
      simp at ha hd
      subst ha; subst hd
      exact hc
  · rcases List.mem_append.mp h with h | h
    · exact .inl h
    · have : b = p := by simpa using h
      subst this; exact .inr hp
  · rw [← g.len, List.getElem?_append_right (Nat.le_refl _), Nat.sub_self]; rfl
/-- a cell is changed -/
theorem Good.setCell (g : Good T K F al S H) {n : Nat} {a : Addr} {o : HO} {c : Cell} (ha : al[n]? = some a) (hF : F a = none) (hc : CellOk T K F al (upd H a o) a c) :
    Good T K F al (S.set n c) (upd H a o) ∧ Post F al H F al (upd H a o) := by
  have hm : a ∈ al := List.mem_of_getElem? ha
  refine ⟨⟨fun b u e => ?_, g.nd, by rw [List.length_set]; exact g.len, fun b hb => ?_, fun m b d hb hd => ?_⟩, ⟨Same.refl _, Pre.refl _, fun _ h => .inl h, fun b u e hb => ?_, fun _ h => .inl h⟩⟩
  · rw [upd_ne (ne_of_none e hF)]; exact g.sub b u e
  · by_cases e : b = a
    · subst e; rw [upd_same]; simp
    · rw [upd_ne e]; exact g.tr b hb
  · by_cases e : m = n
    · subst e
      rw [ha] at hb; cases hb
      have hl : m < S.length := by rw [← g.len]; exact (List.getElem?_eq_some_iff.mp ha).1
      rw [List.getElem?_set_self hl] at hd
      cases hd
      exact hc
    · rw [List.getElem?_set_ne (Ne.symm e)] at hd
      have ne : b ≠ a := fun q => e (by subst q; exact nd_ix' g.nd hb ha)
      exact (g.cell m b d hb hd).mono (Same.refl _) (Pre.refl _) (fun o h => by rw [upd_ne ne]; exact h) (fun h => h)
  · rw [upd_ne (show b ≠ a from fun q => hb (q ▸ hm))]; exact e
where nd_ix' {l : List Addr} (hN : l.Nodup) {i j : Nat} {x : Addr} (a : l[i]? = some x) (b : l[j]? = some x) : i = j := by
        obtain ⟨h1, e1⟩ := List.getElem?_eq_some_iff.mp a
        obtain ⟨h2, e2⟩ := List.getElem?_eq_some_iff.mp b
        exact (List.getElem_inj hN).mp (e1.trans e2.symm)
/-- a cell is frozen: what it holds becomes data -/
theorem Good.freeze (g : Good T K F al S H) {n : Nat} {a : Addr} {o : HO} {w : W} (ha : al[n]? = some a) (hF : F a = none) (ho : H a = some o) (hw : Rw T K (upd F a o) al (.ref a) w) :
    Good T K (upd F a o) al (S.set n (.frz w)) H ∧ Post F al H (upd F a o) al H := by
  have hm : a ∈ al := List.mem_of_getElem? ha
  have s1 : Same F (upd F a o) := fun b u e => by rw [upd_ne (ne_of_none e hF)]; exact e
  refine ⟨⟨fun b u e => ?_, g.nd, by rw [List.length_set]; exact g.len, g.tr, fun m b d hb hd => ?_⟩, ⟨s1, Pre.refl _, fun _ h => .inl h, fun b u e _ => e, fun b h => ?_⟩⟩
  · by_cases q : b = a
    · subst q; rw [upd_same] at e; rw [← e]; exact ho
    · rw [upd_ne q] at e; exact g.sub b u e
  · by_cases e : m = n
    · subst e
      rw [ha] at hb; cases hb
      have hl : m < S.length := by rw [← g.len]; exact (List.getElem?_eq_some_iff.mp ha).1
      rw [List.getElem?_set_self hl] at hd
      cases hd
      exact hw
    · rw [List.getElem?_set_ne (Ne.symm e)] at hd
      have ne : b ≠ a := fun q => e (by subst q; exact setCell.nd_ix' g.nd hb ha)
      exact (g.cell m b d hb hd).mono s1 (Pre.refl _) (fun o h => h) (fun h => by rw [upd_ne ne]; exact h)
  · by_cases q : b = a
    · subst q; exact .inr (.inl hm)
    · rw [upd_ne q] at h; exact .inl h
end
end DL

set_option Elab.async false
set_option linter.all false
set_option maxRecDepth 100000
set_option maxHeartbeats 4000000
/-! Wb: a small language of expressions and statements over data, and what it does. -/
namespace DL
open PySem PySem.Spec L2

def limit : Nat := 16777216

/-! ### plain data, == -/
mutual
def W.plain : Nat → W → Bool
  | _, .non => true
  | _, .bl _ => true
  | _, .int _ => true
  | _, .str s => PyData.strOk s
  | 0, .tup _ => false
  | 0, .lst _ => false
  | n + 1, .tup ws => W.plainL n ws
  | n + 1, .lst ws => W.plainL n ws
  | _, .ins _ _ => false
  | _, .loc _ => false
def W.plainL : Nat → List W → Bool
  | _, [] => true
  | n, w :: ws => W.plain n w && W.plainL n ws
end
mutual
def W.eqv : W → W → Bool
  | .non, .non => true
  | .bl a, .bl b => a == b
  | .bl a, .int j => (if a then 1 else 0) == j
  | .int i, .bl b => i == (if b then 1 else 0)
  | .int i, .int j => i == j
  | .str x, .str y => x == y
  | .lst xs, .lst ys => W.eqvL xs ys
  | .tup xs, .tup ys => W.eqvL xs ys
  | _, _ => false
def W.eqvL : List W → List W → Bool
  | [], [] => true
  | x :: xs, y :: ys => W.eqv x y && W.eqvL xs ys
  | _, _ => false
end
/-- a thing that may be changed, as it stands now -/
def deref (S : Sto) : W → W
  | .loc n => match S[n]? with
    | some (.lst ws) => .lst ws
    | some (.frz w) => w
    | _ => .loc n
  | w => w
def cmpEq (a b : W) : Option Bool := if W.plain 60 a && W.plain 60 b then some (W.eqv a b) else none

inductive Xn where
  | own (c : Nat) (fs : List (Nat × W))
  deriving Inhabited
inductive Res where
  | ok (w : W) (S : Sto) | exc (x : Xn) (S : Sto) | bad
  deriving Inhabited
inductive LRes where
  | ok (ws : List W) (S : Sto) | exc (x : Xn) (S : Sto) | bad
  deriving Inhabited
inductive BRes where
  | ok (b : Bool) (S : Sto) | exc (x : Xn) (S : Sto) | bad
  deriving Inhabited
def Res.bind : Res → (W → Sto → Res) → Res
  | .ok w S, f => f w S
  | .exc x S, _ => .exc x S
  | .bad, _ => .bad
def Res.bindL : Res → (W → Sto → LRes) → LRes
  | .ok w S, f => f w S
  | .exc x S, _ => .exc x S
  | .bad, _ => .bad
def Res.bindB : Res → (W → Sto → BRes) → BRes
  | .ok w S, f => f w S
  | .exc x S, _ => .exc x S
  | .bad, _ => .bad
def LRes.bind : LRes → (List W → Sto → Res) → Res
  | .ok w S, f => f w S
  | .exc x S, _ => .exc x S
  | .bad, _ => .bad
def LRes.bindL : LRes → (List W → Sto → LRes) → LRes
  | .ok w S, f => f w S
  | .exc x S, _ => .exc x S
  | .bad, _ => .bad
def BRes.bind : BRes → (Bool → Sto → Res) → Res
  | .ok w S, f => f w S
  | .exc x S, _ => .exc x S
  | .bad, _ => .bad
def BRes.bindB : BRes → (Bool → Sto → BRes) → BRes
  | .ok w S, f => f w S
  | .exc x S, _ => .exc x S
  | .bad, _ => .bad
def BRes.bindLL : BRes → (Bool → Sto → LRes) → LRes
  | .ok w S, f => f w S
  | .exc x S, _ => .exc x S
  | .bad, _ => .bad
def optR (S : Sto) : Option W → Res
  | some w => .ok w S
  | none => .bad
abbrev Fn := List W → Sto → Res

/-! ### operators -/
def mulOk (i j : Int) : Bool := (decide (-(2 ^ 64) < i) && decide (i < 2 ^ 64)) || (decide (-(2 ^ 64) < j) && decide (j < 2 ^ 64))
def binop : Operator → W → W → Option W
  | .Add, .int i, .int j => some (.int (i + j))
  | .Add, .str x, .str y => if x.length + y.length ≤ limit then some (.str (x ++ y)) else none
  | .Add, .tup xs, .tup ys => if xs.length + ys.length ≤ limit then some (.tup (xs ++ ys)) else none
  | .Add, .lst xs, .lst ys => if xs.length + ys.length ≤ limit then some (.lst (xs ++ ys)) else none
  | .Sub, .int i, .int j => some (.int (i - j))
  | .Mult, .int i, .int j => if mulOk i j then some (.int (i * j)) else none
  | .Mult, .tup xs, .int k => if decide (0 ≤ k) && decide (k ≤ 1000) && decide (xs.length ≤ 1000) then some (.tup (List.replicate k.toNat xs).flatten) else none
  | .FloorDiv, .int i, .int j => if 0 < j ∧ j < 1073741824 then some (.int (i / j)) else none
  | .Mod, .int i, .int j => if 0 < j then some (.int (i % j)) else none
  | .Pow, .int i, .int j => if 0 ≤ j ∧ j ≤ 1000000 ∧ i.natAbs < 2 ^ 64 then some (.int (i ^ j.toNat)) else none
  | _, _, _ => none
def memW (x : W) (ys : List W) : Option Bool := if W.plain 60 x && W.plainL 60 ys then some (ys.any fun y => W.eqv y x) else none
def cmpop : CmpOp → W → W → Option Bool
  | .Eq, a, b => cmpEq a b
  | .NotEq, a, b => (cmpEq a b).map (!·)
  | .Lt, .int i, .int j => some (decide (i < j))
  | .LtE, .int i, .int j => some (decide (i ≤ j))
  | .Gt, .int i, .int j => some (decide (j < i))
  | .GtE, .int i, .int j => some (decide (j ≤ i))
  | .Is, .non, .non => some true
  | .Is, .bl _, .non => some false
  | .Is, .int _, .non => some false
  | .Is, .str _, .non => some false
  | .Is, .tup _, .non => some false
  | .Is, .lst _, .non => some false
  | .IsNot, .non, .non => some false
  | .IsNot, .bl _, .non => some true
  | .IsNot, .int _, .non => some true
  | .IsNot, .str _, .non => some true
  | .IsNot, .tup _, .non => some true
  | .IsNot, .lst _, .non => some true
  | .Is, .bl a, .bl b => some (a == b)
  | .IsNot, .bl a, .bl b => some (!(a == b))
  | .In, x, .tup ys => memW x ys
  | .In, x, .lst ys => memW x ys
  | .NotIn, x, .tup ys => (memW x ys).map (!·)
  | .NotIn, x, .lst ys => (memW x ys).map (!·)
  | _, _, _ => none
def truthy : W → Option Bool
  | .non => some false
  | .bl b => some b
  | .int i => some (i != 0)
  | .str y => if y.length ≤ limit then some ((y.length : Int) != 0) else none
  | .tup ws => some (!ws.isEmpty)
  | .lst ws => some (!ws.isEmpty)
  | _ => none
def getIx : W → W → Option W
  | .tup ws, .int i => atI ws i
  | .lst ws, .int i => atI ws i
  | _, _ => none
def cutW (ws : List W) (lo hi : Option Int) : List W := (ws.drop (HT.sIx ws.length 0 lo)).take (HT.sIx ws.length ws.length hi - HT.sIx ws.length 0 lo)
def getSl : W → Option Int → Option Int → Option W
  | .tup ws, lo, hi => some (.tup (cutW ws lo hi))
  | .lst ws, lo, hi => some (.lst (cutW ws lo hi))
  | _, _, _ => none
def lookF (i : Nat) : List (Nat × W) → Option W
  | [] => none
  | (j, w) :: fs => if i = j then some w else lookF i fs
def putFN (i : Nat) (w : W) : List (Nat × W) → List (Nat × W)
  | [] => [(i, w)]
  | (j, x) :: fs => if j = i then (j, w) :: fs else (j, x) :: putFN i w fs
def getFld (S : Sto) (c f : Nat) : W → Option W
  | .ins d fs => if d = c then lookF f fs else none
  | .loc n => match S[n]? with
    | some (.obj d fs) => if d = c then lookF f fs else none
    | some (.frz (.ins d fs)) => if d = c then lookF f fs else none
    | _ => none
  | _ => none
inductive Ty where
  | int | bool | str | tuple | list
  deriving DecidableEq
def isTy : Ty → W → Option Bool
  | .int, .int _ => some true
  | .int, .bl _ => some true
  | .bool, .bl _ => some true
  | .str, .str _ => some true
  | .tuple, .tup _ => some true
  | .list, .lst _ => some true
  | _, .non => some false
  | _, .bl _ => some false
  | _, .int _ => some false
  | _, .str _ => some false
  | _, .tup _ => some false
  | _, .lst _ => some false
  | _, _ => none

inductive Prim where
  | len | abs | max | min | all | any | tuple | list | divmod | sum
  deriving DecidableEq
def allB : List W → Option (List Bool)
  | [] => some []
  | .bl b :: ws => (allB ws).map (b :: ·)
  | _ => none
def allI : List W → Option (List Int)
  | [] => some []
  | .int b :: ws => (allI ws).map (b :: ·)
  | _ => none
def prim : Prim → List W → Option W
  | .len, [.tup ws] => some (.int ws.length)
  | .len, [.lst ws] => some (.int ws.length)
  | .len, [.str x] => if x.length ≤ limit then some (.int x.length) else none
  | .abs, [.int i] => some (.int (if i < 0 then -i else i))
  | .max, [.int i, .int j] => some (.int (if j > i then j else i))
  | .min, [.int i, .int j] => some (.int (if j < i then j else i))
  | .all, [.lst ws] => (allB ws).map fun bs => .bl (bs.all id)
  | .any, [.lst ws] => (allB ws).map fun bs => .bl (bs.any id)
  | .tuple, [.tup ws] => some (.tup ws)
  | .tuple, [.lst ws] => some (.tup ws)
  | .list, [.tup ws] => some (.lst ws)
  | .list, [.lst ws] => some (.lst ws)
  | .divmod, [.int i, .int j] => if 0 < j ∧ j < 1073741824 then some (.tup [.int (i / j), .int (i % j)]) else none
  | .sum, [.lst ws] => (allI ws).map fun ns => .int ns.sum
  | _, _ => none

/-! ### the language -/
inductive Tg where
  | nm (i : Nat) | tup (is : List Nat) | star (is : List Nat) (j : Nat)
  deriving DecidableEq
def setAll : List Nat → List W → Env → Option Env
  | [], [], ρ => some ρ
  | i :: is, w :: ws, ρ => setAll is ws (ρ.set i (some w))
  | _, _, _ => none
def bindTg : Tg → W → Env → Option Env
  | .nm i, w, ρ => some (ρ.set i (some w))
  | .tup is, .tup ws, ρ => setAll is ws ρ
  | .tup is, .lst ws, ρ => setAll is ws ρ
  | .star is j, .tup ws, ρ => if is.length ≤ ws.length ∧ ws.length ≤ 16384 then (setAll is (ws.take is.length) ρ).map fun ρ' => ρ'.set j (some (.lst (ws.drop is.length))) else none
  | _, _, _ => none
def wipeW (ρ : Env) : List Nat → Env
  | [] => ρ
  | v :: vs => (wipeW ρ vs).set v none
def zipW : List W → List W → List W
  | x :: xs, y :: ys => .tup [x, y] :: zipW xs ys
  | _, _ => []
def enumW (n : Nat) : List W → List W
  | [] => []
  | x :: xs => .tup [.int (n : Int), x] :: enumW (n + 1) xs
def rangeW (lo : Int) : Nat → List W
  | 0 => []
  | n + 1 => .int lo :: rangeW (lo + 1) n
def items : W → Option (List W)
  | .tup ws => some ws
  | .lst ws => some ws
  | _ => none
def compM (step : W → Sto → LRes) : List W → List W → Sto → LRes
  | [], acc, S => .ok acc S
  | x :: xs, acc, S => (step x S).bindL fun ys S' => compM step xs (acc ++ ys) S'
def newCellR (c : Cell) (S : Sto) : Res := .ok (.loc S.length) (S ++ [c])
def freezeR : W → Sto → Res
  | .loc n, S => match S[n]? with
    | some (.lst ws) => .ok (.lst ws) (S.set n (.frz (.lst ws)))
    | some (.frz w) => .ok w S
    | _ => .bad
  | w, S => .ok w S
def optL (S : Sto) : Option (List W) → LRes
  | some ws => .ok ws S
  | none => .bad

def optB (S : Sto) : Option Bool → BRes
  | some b => .ok b S
  | none => .bad
def truthyR (w : W) (S : Sto) : BRes := optB S (truthy (deref S w))
def test (r : Res) : BRes := r.bindB truthyR
/-- a turn of a comprehension: nothing may be raised in it -/
def lcStep (ρ : Env) (vs : List Nat) (tg : Tg) (cond : Env → Sto → BRes) (elt : Env → Sto → Res) (x : W) (S : Sto) : LRes :=
  match bindTg tg x (wipeW ρ vs) with
  | none => .bad
  | some ρ' => match cond ρ' S with
    | .ok false S1 => .ok [] S1
    | .ok true S1 => match elt ρ' S1 with
      | .ok y S2 => .ok [y] S2
      | _ => .bad
    | _ => .bad
def partW : W → Option (Option Int)
  | .non => some none
  | .int i => some (some i)
  | _ => none
end DL

set_option Elab.async false
set_option linter.all false
set_option maxRecDepth 100000
set_option maxHeartbeats 4000000
/-! Wc: what the small language's expressions do is what the program's expressions do: the parts. -/
namespace DL
open PySem PySem.Spec L2

section
variable (T : Tab) (K : PySem.W.Frag)
def RwX (F : Hp) (al : List Addr) : Xn → Value → Option Addr → Prop
  | .own c fs, cls, d => cls = .ref (T.c c) ∧ (fs = [] ∨ ∃ a gs, d = some a ∧ F a = some (.xd gs) ∧ RwF T K F al gs fs)
def RQ (E : WX) (σ : L2.St) (F : Hp) (al : List Addr) (H : Hp) (r : Res) (Q : VK) : Prop :=
  match r with
  | .ok w S' => ∀ v F' al' H', Post F al H F' al' H' → Good T K F' al' S' H' → Rw T K F' al' v w → Q v H'
  | .exc x S' => ∀ cls d F' al' H', Post F al H F' al' H' → Good T K F' al' S' H' → RwX T K F' al' x cls d → E cls d σ H'
  | .bad => False
def LQ (E : WX) (σ : L2.St) (F : Hp) (al : List Addr) (H : Hp) (r : LRes) (Q : List V → Hp → Prop) : Prop :=
  match r with
  | .ok ws S' => ∀ vs F' al' H', Post F al H F' al' H' → Good T K F' al' S' H' → RwL T K F' al' vs ws → Q vs H'
  | .exc x S' => ∀ cls d F' al' H', Post F al H F' al' H' → Good T K F' al' S' H' → RwX T K F' al' x cls d → E cls d σ H'
  | .bad => False
def BQ (E : WX) (σ : L2.St) (F : Hp) (al : List Addr) (H : Hp) (r : BRes) (Q : Bool → Hp → Prop) : Prop :=
  match r with
  | .ok b S' => ∀ F' al' H', Post F al H F' al' H' → Good T K F' al' S' H' → Q b H'
  | .exc x S' => ∀ cls d F' al' H', Post F al H F' al' H' → Good T K F' al' S' H' → RwX T K F' al' x cls d → E cls d σ H'
  | .bad => False
def tW (E : WX) (m : Env → Sto → Res) : TE := fun σ H Q => ∃ F al S ρ, Good T K F al S H ∧ EnvOk T K F al σ ρ ∧ RQ T K E σ F al H (m ρ S) Q
def tL (E : WX) (m : Env → Sto → LRes) : TA := fun σ H Q => ∃ F al S ρ, Good T K F al S H ∧ EnvOk T K F al σ ρ ∧ LQ T K E σ F al H (m ρ S) Q
def tB (E : WX) (m : Env → Sto → BRes) : TT := fun σ H Q => ∃ F al S ρ, Good T K F al S H ∧ EnvOk T K F al σ ρ ∧ BQ T K E σ F al H (m ρ S) Q
end

section
variable {T : Tab} {K : PySem.W.Frag} {E : WX} {σ : L2.St} {ρ : Env} {F F' : Hp} {al al' : List Addr} {H H' : Hp} {S S' : Sto}
theorem RQ.post {r : Res} {Q : VK} (p : Post F al H F' al' H') (h : RQ T K E σ F al H r Q) : RQ T K E σ F' al' H' r Q := by
  cases r with
  | ok w S' => exact fun v F2 al2 H2 q g r => h v F2 al2 H2 (p.trans q) g r
  | exc x S' => exact fun c d F2 al2 H2 q g r => h c d F2 al2 H2 (p.trans q) g r
  | bad => exact h
theorem LQ.post {r : LRes} {Q : List V → Hp → Prop} (p : Post F al H F' al' H') (h : LQ T K E σ F al H r Q) : LQ T K E σ F' al' H' r Q := by
  cases r with
  | ok w S' => exact fun v F2 al2 H2 q g r => h v F2 al2 H2 (p.trans q) g r
  | exc x S' => exact fun c d F2 al2 H2 q g r => h c d F2 al2 H2 (p.trans q) g r
  | bad => exact h
theorem BQ.post {r : BRes} {Q : Bool → Hp → Prop} (p : Post F al H F' al' H') (h : BQ T K E σ F al H r Q) : BQ T K E σ F' al' H' r Q := by
  cases r with
  | ok w S' => exact fun F2 al2 H2 q g => h F2 al2 H2 (p.trans q) g
  | exc x S' => exact fun c d F2 al2 H2 q g r => h c d F2 al2 H2 (p.trans q) g r
  | bad => exact h
theorem RQ.imp {r : Res} {Q Q' : VK} (h : RQ T K E σ F al H r Q) (i : ∀ v H, Q v H → Q' v H) : RQ T K E σ F al H r Q' := by
  cases r with
  | ok w S' => exact fun v F2 al2 H2 q g r => i _ _ (h v F2 al2 H2 q g r)
  | exc x S' => exact h
  | bad => exact h
theorem LQ.imp {r : LRes} {Q Q' : List V → Hp → Prop} (h : LQ T K E σ F al H r Q) (i : ∀ v H, Q v H → Q' v H) : LQ T K E σ F al H r Q' := by
  cases r with
  | ok w S' => exact fun v F2 al2 H2 q g r => i _ _ (h v F2 al2 H2 q g r)
  | exc x S' => exact h
  | bad => exact h
theorem BQ.imp {r : BRes} {Q Q' : Bool → Hp → Prop} (h : BQ T K E σ F al H r Q) (i : ∀ v H, Q v H → Q' v H) : BQ T K E σ F al H r Q' := by
  cases r with
  | ok w S' => exact fun F2 al2 H2 q g => i _ _ (h F2 al2 H2 q g)
  | exc x S' => exact h
  | bad => exact h
theorem tW.imp {m : Env → Sto → Res} {Q Q' : VK} (h : tW T K E m σ H Q) (i : ∀ v H, Q v H → Q' v H) : tW T K E m σ H Q' :=
  let ⟨F, al, S, ρ, g, e, q⟩ := h
  ⟨F, al, S, ρ, g, e, q.imp i⟩
theorem tL.imp {m : Env → Sto → LRes} {Q Q' : List V → Hp → Prop} (h : tL T K E m σ H Q) (i : ∀ v H, Q v H → Q' v H) : tL T K E m σ H Q' :=
  let ⟨F, al, S, ρ, g, e, q⟩ := h
  ⟨F, al, S, ρ, g, e, q.imp i⟩
theorem tB.imp {m : Env → Sto → BRes} {Q Q' : Bool → Hp → Prop} (h : tB T K E m σ H Q) (i : ∀ v H, Q v H → Q' v H) : tB T K E m σ H Q' :=
  let ⟨F, al, S, ρ, g, e, q⟩ := h
  ⟨F, al, S, ρ, g, e, q.imp i⟩
/-- behind the first part of a computation -/
structure Mid (T : Tab) (K : PySem.W.Frag) (F : Hp) (al : List Addr) (H : Hp) (σ : L2.St) (ρ : Env) (F1 : Hp) (al1 : List Addr) (S1 : Sto) (H1 : Hp) : Prop where
  g : Good T K F1 al1 S1 H1
  e : EnvOk T K F1 al1 σ ρ
  p : Post F al H F1 al1 H1
theorem tW.bind {m : Env → Sto → Res} {f : W → Sto → Res} {Q : VK} (g : Good T K F al S H) (e : EnvOk T K F al σ ρ) (h : RQ T K E σ F al H ((m ρ S).bind f) Q) :
    tW T K E m σ H fun v H1 => ∃ F1 al1 S1 w, Mid T K F al H σ ρ F1 al1 S1 H1 ∧ Rw T K F1 al1 v w ∧ RQ T K E σ F1 al1 H1 (f w S1) Q := by
  refine ⟨F, al, S, ρ, g, e, ?_⟩
  cases q : m ρ S with
  | ok w S1 =>
    rw [q] at h
    exact fun v F1 al1 H1 p g1 r => ⟨F1, al1, S1, w, ⟨g1, e.post p, p⟩, r, RQ.post p h⟩
  | exc x S1 => rw [q] at h; exact h
  | bad => rw [q] at h; exact h
theorem tW.bindL {m : Env → Sto → Res} {f : W → Sto → LRes} {Q : List V → Hp → Prop} (g : Good T K F al S H) (e : EnvOk T K F al σ ρ) (h : LQ T K E σ F al H ((m ρ S).bindL f) Q) :
    tW T K E m σ H fun v H1 => ∃ F1 al1 S1 w, Mid T K F al H σ ρ F1 al1 S1 H1 ∧ Rw T K F1 al1 v w ∧ LQ T K E σ F1 al1 H1 (f w S1) Q := by
  refine ⟨F, al, S, ρ, g, e, ?_⟩
  cases q : m ρ S with
  | ok w S1 =>
    rw [q] at h
    exact fun v F1 al1 H1 p g1 r => ⟨F1, al1, S1, w, ⟨g1, e.post p, p⟩, r, LQ.post p h⟩
  | exc x S1 => rw [q] at h; exact h
  | bad => rw [q] at h; exact h
theorem tW.bindB {m : Env → Sto → Res} {f : W → Sto → BRes} {Q : Bool → Hp → Prop} (g : Good T K F al S H) (e : EnvOk T K F al σ ρ) (h : BQ T K E σ F al H ((m ρ S).bindB f) Q) :
    tW T K E m σ H fun v H1 => ∃ F1 al1 S1 w, Mid T K F al H σ ρ F1 al1 S1 H1 ∧ Rw T K F1 al1 v w ∧ BQ T K E σ F1 al1 H1 (f w S1) Q := by
  refine ⟨F, al, S, ρ, g, e, ?_⟩
  cases q : m ρ S with
  | ok w S1 =>
    rw [q] at h
    exact fun v F1 al1 H1 p g1 r => ⟨F1, al1, S1, w, ⟨g1, e.post p, p⟩, r, BQ.post p h⟩
  | exc x S1 => rw [q] at h; exact h
  | bad => rw [q] at h; exact h
theorem tL.bind {m : Env → Sto → LRes} {f : List W → Sto → Res} {Q : VK} (g : Good T K F al S H) (e : EnvOk T K F al σ ρ) (h : RQ T K E σ F al H ((m ρ S).bind f) Q) :
    tL T K E m σ H fun v H1 => ∃ F1 al1 S1 w, Mid T K F al H σ ρ F1 al1 S1 H1 ∧ RwL T K F1 al1 v w ∧ RQ T K E σ F1 al1 H1 (f w S1) Q := by
  refine ⟨F, al, S, ρ, g, e, ?_⟩
  cases q : m ρ S with
  | ok w S1 =>
    rw [q] at h
    exact fun v F1 al1 H1 p g1 r => ⟨F1, al1, S1, w, ⟨g1, e.post p, p⟩, r, RQ.post p h⟩
  | exc x S1 => rw [q] at h; exact h
  | bad => rw [q] at h; exact h
theorem tL.bindL {m : Env → Sto → LRes} {f : List W → Sto → LRes} {Q : List V → Hp → Prop} (g : Good T K F al S H) (e : EnvOk T K F al σ ρ) (h : LQ T K E σ F al H ((m ρ S).bindL f) Q) :
    tL T K E m σ H fun v H1 => ∃ F1 al1 S1 w, Mid T K F al H σ ρ F1 al1 S1 H1 ∧ RwL T K F1 al1 v w ∧ LQ T K E σ F1 al1 H1 (f w S1) Q := by
  refine ⟨F, al, S, ρ, g, e, ?_⟩
  cases q : m ρ S with
  | ok w S1 =>
    rw [q] at h
    exact fun v F1 al1 H1 p g1 r => ⟨F1, al1, S1, w, ⟨g1, e.post p, p⟩, r, LQ.post p h⟩
  | exc x S1 => rw [q] at h; exact h
  | bad => rw [q] at h; exact h
theorem tB.bind {m : Env → Sto → BRes} {f : Bool → Sto → Res} {Q : VK} (g : Good T K F al S H) (e : EnvOk T K F al σ ρ) (h : RQ T K E σ F al H ((m ρ S).bind f) Q) :
    tB T K E m σ H fun b H1 => ∃ F1 al1 S1, Mid T K F al H σ ρ F1 al1 S1 H1 ∧ RQ T K E σ F1 al1 H1 (f b S1) Q := by
  refine ⟨F, al, S, ρ, g, e, ?_⟩
  cases q : m ρ S with
  | ok w S1 =>
    rw [q] at h
    exact fun F1 al1 H1 p g1 => ⟨F1, al1, S1, ⟨g1, e.post p, p⟩, RQ.post p h⟩
  | exc x S1 => rw [q] at h; exact h
  | bad => rw [q] at h; exact h
theorem tB.bindB {m : Env → Sto → BRes} {f : Bool → Sto → BRes} {Q : Bool → Hp → Prop} (g : Good T K F al S H) (e : EnvOk T K F al σ ρ) (h : BQ T K E σ F al H ((m ρ S).bindB f) Q) :
    tB T K E m σ H fun b H1 => ∃ F1 al1 S1, Mid T K F al H σ ρ F1 al1 S1 H1 ∧ BQ T K E σ F1 al1 H1 (f b S1) Q := by
  refine ⟨F, al, S, ρ, g, e, ?_⟩
  cases q : m ρ S with
  | ok w S1 =>
    rw [q] at h
    exact fun F1 al1 H1 p g1 => ⟨F1, al1, S1, ⟨g1, e.post p, p⟩, BQ.post p h⟩
  | exc x S1 => rw [q] at h; exact h
  | bad => rw [q] at h; exact h
/-- a value at once -/
theorem RQ.val {w : W} {v : V} {Q : VK} (h : RQ T K E σ F al H (.ok w S) Q) (g : Good T K F al S H) (r : Rw T K F al v w) : Q v H := h v F al H Post.refl g r
theorem RQ.valL {w : List W} {v : List V} {Q : List V → Hp → Prop} (h : LQ T K E σ F al H (.ok w S) Q) (g : Good T K F al S H) (r : RwL T K F al v w) : Q v H := h v F al H Post.refl g r
theorem RQ.new {xs : List V} {ws : List W} {Q : VK} (h : RQ T K E σ F al H (.ok (.tup ws) S) Q) (g : Good T K F al S H) (r : RwL T K F al xs ws) {p : Addr} (hp : H p = none) : Q (.ref p) (upd H p (.tup xs)) := by
  obtain ⟨a, b, c⟩ := g.newTup hp r
  exact h _ _ _ _ b a c
theorem RQ.newL {xs : List V} {ws : List W} {Q : VK} (h : RQ T K E σ F al H (.ok (.lst ws) S) Q) (g : Good T K F al S H) (r : RwL T K F al xs ws) {p : Addr} (hp : H p = none) : Q (.ref p) (upd H p (.lst xs)) := by
  obtain ⟨a, b, c⟩ := g.newLst hp r
  exact h _ _ _ _ b a c
theorem RQ.newC {xs : List V} {ws : List W} {Q : VK} (h : RQ T K E σ F al H (newCellR (.lst ws) S) Q) (g : Good T K F al S H) (r : RwL T K F al xs ws) {p : Addr} (hp : H p = none) : Q (.ref p) (upd H p (.lst xs)) := by
  obtain ⟨a, b, c⟩ := g.newCell hp (o := .lst xs) (c := .lst ws) ⟨xs, upd_same, g.notF hp, r.mono (Same.refl _) (Pre.app _ _)⟩
  exact h _ _ _ _ b a c

/-! ### how a value that may be changed looks now -/
inductive Vw (T : Tab) (K : PySem.W.Frag) (F : Hp) (al : List Addr) (H : Hp) : V → W → Prop
  | same {v : V} {w : W} : Rw T K F al v w → Vw T K F al H v w
  | cell {a : Addr} {xs : List V} {ws : List W} : H a = some (.lst xs) → RwL T K F al xs ws → Vw T K F al H (.ref a) (.lst ws)
theorem vw_of (g : Good T K F al S H) {v : V} {w : W} (r : Rw T K F al v w) : Vw T K F al H v (deref S w) := by
  cases r with
  | @loc a n ha =>
    cases q : S[n]? with
    | none => rw [show deref S (.loc n) = .loc n by simp only [deref, q]]; exact .same (.loc ha)
    | some c =>
      have hc := g.cell n a c ha q
      cases c with
      | lst ws => rw [show deref S (.loc n) = .lst ws by simp only [deref, q]]; obtain ⟨xs, h1, _, h3⟩ := hc; exact .cell h1 h3
      | frz w => rw [show deref S (.loc n) = w by simp only [deref, q]]; exact .same hc
      | _ => rw [show deref S (.loc n) = .loc n by simp only [deref, q]]; exact .same (.loc ha)
  | non => exact .same .non
  | bl b => exact .same (.bl b)
  | int b => exact .same (.int b)
  | str b => exact .same (.str b)
  | tup a b => exact .same (.tup a b)
  | lst a b => exact .same (.lst a b)
  | ins a b => exact .same (.ins a b)
theorem Vw.lst (s : Same F H) {v : V} {ws : List W} (r : Vw T K F al H v (.lst ws)) : ∃ a xs, v = .ref a ∧ SqL K H a xs ∧ RwL T K F al xs ws := by
  cases r with
  | same r => cases r with
    | lst q r => exact ⟨_, _, rfl, sqL_mono s q, r⟩
  | cell h r => exact ⟨_, _, rfl, SqL.of h, r⟩
theorem Vw.tup (s : Same F H) {v : V} {ws : List W} (r : Vw T K F al H v (.tup ws)) : ∃ a xs, v = .ref a ∧ SqT K H a xs ∧ RwL T K F al xs ws := by
  cases r with
  | same r => cases r with
    | tup q r => exact ⟨_, _, rfl, sqT_mono s q, r⟩
theorem Vw.int {v : V} {i : Int} (r : Vw T K F al H v (.int i)) : v = .int i := by
  cases r with
  | same r => cases r; rfl
theorem Vw.str {v : V} {i : Str} (r : Vw T K F al H v (.str i)) : v = .str i := by
  cases r with
  | same r => cases r; rfl
theorem Vw.bl {v : V} {i : Bool} (r : Vw T K F al H v (.bl i)) : v = .bl i := by
  cases r with
  | same r => cases r; rfl
theorem Vw.non {v : V} (r : Vw T K F al H v .non) : v = .non := by
  cases r with
  | same r => cases r; rfl
/-- of several values -/
def VwL (T : Tab) (K : PySem.W.Frag) (F : Hp) (al : List Addr) (H : Hp) : List V → List W → Prop := Paired (Vw T K F al H)
theorem vwL_of (g : Good T K F al S H) : ∀ {vs : List V} {ws : List W}, RwL T K F al vs ws → VwL T K F al H vs (ws.map (deref S))
  | _, _, .nil => .nil
  | _, _, .cons a b => .cons (vw_of g a) (vwL_of g b)

/-! ### plain data -/
mutual
def toP : W → PyData
  | .non => .none
  | .bl b => .bool b
  | .int i => .int i
  | .str s => .str s
  | .tup ws => .tuple (toPL ws)
  | .lst ws => .list (toPL ws)
  | .ins _ _ => .none
  | .loc _ => .none
def toPL : List W → List PyData
  | [] => []
  | w :: ws => toP w :: toPL ws
end
mutual
theorem plain_eqv : ∀ (n m : Nat) (a b : W), W.plain n a = true → W.plain m b = true → PyData.eqv (toP a) (toP b) = W.eqv a b
  | _, _, .non, .non, _, _ => rfl
  | _, _, .non, .bl _, _, _ => rfl
  | _, _, .non, .int _, _, _ => rfl
  | _, _, .non, .str _, _, _ => rfl
  | _, _, .non, .tup _, _, _ => rfl
  | _, _, .non, .lst _, _, _ => rfl
  | _, _, .bl _, .non, _, _ => rfl
  | _, _, .bl _, .bl _, _, _ => rfl
  | _, _, .bl _, .int _, _, _ => rfl
  | _, _, .bl _, .str _, _, _ => rfl
  | _, _, .bl _, .tup _, _, _ => rfl
  | _, _, .bl _, .lst _, _, _ => rfl
  | _, _, .int _, .non, _, _ => rfl
  | _, _, .int _, .bl _, _, _ => rfl
  | _, _, .int _, .int _, _, _ => rfl
  | _, _, .int _, .str _, _, _ => rfl
  | _, _, .int _, .tup _, _, _ => rfl
  | _, _, .int _, .lst _, _, _ => rfl
  | _, _, .str _, .non, _, _ => rfl
  | _, _, .str _, .bl _, _, _ => rfl
  | _, _, .str _, .int _, _, _ => rfl
  | _, _, .str _, .str _, _, _ => rfl
  | _, _, .str _, .tup _, _, _ => rfl
  | _, _, .str _, .lst _, _, _ => rfl
  | _, _, .tup _, .non, _, _ => rfl
  | _, _, .tup _, .bl _, _, _ => rfl
  | _, _, .tup _, .int _, _, _ => rfl
  | _, _, .tup _, .str _, _, _ => rfl
  | n + 1, m + 1, .tup a, .tup b, h, k => plain_eqvL n m a b h k
  | _, _, .tup _, .lst _, _, _ => rfl
  | _, _, .lst _, .non, _, _ => rfl
  | _, _, .lst _, .bl _, _, _ => rfl
  | _, _, .lst _, .int _, _, _ => rfl
  | _, _, .lst _, .str _, _, _ => rfl
  | _, _, .lst _, .tup _, _, _ => rfl
  | n + 1, m + 1, .lst a, .lst b, h, k => plain_eqvL n m a b h k
theorem plain_eqvL : ∀ (n m : Nat) (a b : List W), W.plainL n a = true → W.plainL m b = true → PyData.eqvAll (toPL a) (toPL b) = W.eqvL a b
  | _, _, [], [], _, _ => rfl
  | _, _, [], _ :: _, _, _ => rfl
  | _, _, _ :: _, [], _, _ => rfl
  | n, m, a :: as, b :: bs, h, k => by
    rw [W.plainL, Bool.and_eq_true] at h k
    show (PyData.eqv (toP a) (toP b) && PyData.eqvAll (toPL as) (toPL bs)) = (W.eqv a b && W.eqvL as bs)
    rw [plain_eqv n m a b h.1 k.1, plain_eqvL n m as bs h.2 k.2]
end
mutual
theorem plain_lay : ∀ (n : Nat) (a : W), W.plain n a = true → (toP a).canLay0 = true ∧ (toP a).depth ≤ n
  | _, .non, _ => ⟨rfl, by simp [toP, PyData.depth]⟩
  | _, .bl _, _ => ⟨rfl, by simp [toP, PyData.depth]⟩
  | _, .int _, _ => ⟨rfl, by simp [toP, PyData.depth]⟩
  | n, .str s, h => ⟨by cases n <;> simpa [toP, PyData.canLay0, W.plain] using h, by simp [toP, PyData.depth]⟩
  | n + 1, .tup ws, h => by
    obtain ⟨a, b⟩ := plain_layL n ws h
    exact ⟨by simpa [toP, PyData.canLay0] using a, by simp only [toP, PyData.depth]; omega⟩
  | n + 1, .lst ws, h => by
    obtain ⟨a, b⟩ := plain_layL n ws h
    exact ⟨by simpa [toP, PyData.canLay0] using a, by simp only [toP, PyData.depth]; omega⟩
theorem plain_layL : ∀ (n : Nat) (a : List W), W.plainL n a = true → PyData.canLayAll0 (toPL a) = true ∧ PyData.depthAll (toPL a) ≤ n
  | _, [], _ => ⟨rfl, by simp [toPL, PyData.depthAll]⟩
  | n, a :: as, h => by
    rw [W.plainL, Bool.and_eq_true] at h
    obtain ⟨h1, h2⟩ := plain_lay n a h.1
    obtain ⟨h3, h4⟩ := plain_layL n as h.2
    refine ⟨?_, ?_⟩
    · simp only [toPL, PyData.canLayAll0, h1, h3, Bool.and_self]
    · simp only [toPL, PyData.depthAll]; omega
end
theorem plain_shaped {a : W} (h : W.plain 60 a = true) : SeqAt.shaped (toP a) = true := by
  obtain ⟨h1, h2⟩ := plain_lay 60 a h
  show ((toP a).canLay0 && decide ((toP a).depth ≤ 64)) = true
  rw [h1, decide_eq_true (by omega)]; rfl
mutual
theorem Rw.dp (s : Same F H) : ∀ (n : Nat) {v : V} {w : W}, Rw T K F al v w → W.plain n w = true → Dp K H v (toP w)
  | _, _, _, .non, _ => .non
  | _, _, _, .bl b, _ => .bl b
  | _, _, _, .int b, _ => .int b
  | _, _, _, .str b, _ => .str b
  | n + 1, _, _, .tup q r, h => .tup (sqT_mono s q) (RwL.dp s n r h)
  | n + 1, _, _, .lst q r, h => .lst (sqL_mono s q) (RwL.dp s n r h)
  | 0, _, _, .ins _ _, h => by simp [W.plain] at h
  | n + 1, _, _, .ins _ _, h => by simp [W.plain] at h
  | 0, _, _, .loc _, h => by simp [W.plain] at h
  | n + 1, _, _, .loc _, h => by simp [W.plain] at h
theorem RwL.dp (s : Same F H) : ∀ (n : Nat) {v : List V} {w : List W}, RwL T K F al v w → W.plainL n w = true → DpAll K H v (toPL w)
  | _, _, _, .nil, _ => .nil
  | n, _, _, .cons a b, h => by
    rw [W.plainL, Bool.and_eq_true] at h
    exact .cons (Rw.dp s n a h.1) (RwL.dp s n b h.2)
end
theorem Vw.dp (s : Same F H) {n : Nat} {v : V} {w : W} (r : Vw T K F al H v w) (h : W.plain n w = true) : Dp K H v (toP w) := by
  cases r with
  | same r => exact r.dp s n h
  | cell a r =>
    cases n with
    | zero => simp [W.plain] at h
    | succ n => exact .lst (.of a) (r.dp s n h)
end
end DL

set_option Elab.async false
set_option linter.all false
set_option maxRecDepth 100000
set_option maxHeartbeats 4000000
/-! Wd: operators and built-in functions over data. -/
namespace DL
open PySem PySem.Spec L2
theorem limit_eq : limit = sizeLine := by rw [sizeLine_eq]; rfl

/-! ### rules that lack -/
section
variable {X : Cx}
def rCatL (K : PySem.W.Frag) : R2 := fun x y H Q => ∃ l b xs zs, x = .ref l ∧ y = .ref b ∧ SqL K H l xs ∧ SqL K H b zs ∧ xs.length + zs.length ≤ sizeLine ∧ ∀ p, H p = none → Q (.ref p) (upd H p (.lst (xs ++ zs)))
theorem op_catL : OpR X (binaryOp .Add) (rCatL X.K) := by
  intro pins s σ H x y v u Q I rx ry h
  obtain ⟨l, b, xs, zs, rfl, rfl, hH, hB, hz, q⟩ := h
  cases rx
  cases ry
  obtain ⟨its, r, pl, _⟩ := I.list hH
  obtain ⟨its2, r2, pl2, _⟩ := I.list hB
  have hl := r.length
  have hl2 := r2.length
  obtain ⟨⟨cls, dd, data, sl⟩, ho, hc, n, hd⟩ := pl.isList
  obtain ⟨⟨cls2, dd2, data2, sl2⟩, ho2, hc2, n2, hd2⟩ := pl2.isList
  simp only at hc hd hc2 hd2
  subst hc hd hc2 hd2
  refine concat_meets ⟨_, ho, rfl⟩ ⟨_, ho2, rfl⟩ noFill_list_add seq_list_add PySem.F.slot_list_add PySem.F.entry_list_add (PySem.F.args_list_add_2 _ _) (PyProof.Rows.list_addW l b its.toArray its2.toArray n n2 dd dd2 sl sl2 (by rw [List.size_toArray, List.size_toArray]; omega)) ⟨ho, ho2, ?_⟩
  have ea : its.toArray ++ its2.toArray = (its ++ its2).toArray := by simp
  rw [ea]
  exact ⟨.ref _, _, I.lnew (t' := s.toks) (r.append r2) (by rw [List.length_append]; omega), rfl, q _ I.fresh⟩
theorem tuple_mul1 (l : Addr) (items : Array Value) (n : Nat) (dd : Option Addr) (sl : Array (Option Value)) (x : Int) (u : Tok) (c0 : (decide (x < -(2 ^ 63)) || decide (x ≥ 2 ^ 63)) = false) (c1 : (items.isEmpty || x == 1) = true) :
    Meets (Builtin.«tuple.__mul__» ⟨[.ref l, .int x u], []⟩) (fun _ R s => s.heap.get? l = some { cls := .type "tuple", dict := dd, data := .seq items n, slots := sl } ∧
      R (.ok (.ret (Value.ref l))) s) :=
  .of_wp fun prog w A R s h => by
    obtain ⟨hp, g, d, tk, os⟩ := s
    obtain ⟨hl, h⟩ := h
    have f1 := AutoSeq1.idx_int
    wp_walk using wpAny_loadPart' hl
    repeat (first
      | (refine wpAny_ite_false (decide_eq_false (by rw [c0]; exact Bool.false_ne_true)) ?_; wp_walk using wpAny_loadPart' hl)
      | (refine wpAny_ite_true (decide_eq_true (by rw [c1])) ?_; wp_walk using wpAny_loadPart' hl))
    exact ⟨_, rfl, h⟩
theorem tuple_mul0 (l : Addr) (items : Array Value) (n : Nat) (dd : Option Addr) (sl : Array (Option Value)) (x : Int) (u : Tok) (c0 : (decide (x < -(2 ^ 63)) || decide (x ≥ 2 ^ 63)) = false) (c1 : (items.isEmpty || x == 1) = false) (c2 : (decide (x ≤ 0) || items.isEmpty) = true) :
    Meets (Builtin.«tuple.__mul__» ⟨[.ref l, .int x u], []⟩) (fun _ R s => s.heap.get? l = some { cls := .type "tuple", dict := dd, data := .seq items n, slots := sl } ∧
      R (.ok (.ret (Value.ref s.heap.objs.size))) { s with heap := s.heap.push { cls := Value.type "tuple", data := Data.seq #[] }, toks := s.toks }) :=
  .of_wp fun prog w A R s h => by
    obtain ⟨hp, g, d, tk, os⟩ := s
    obtain ⟨hl, h⟩ := h
    have f1 := AutoSeq1.idx_int
    wp_walk using wpAny_loadPart' hl
    repeat (first
      | (refine wpAny_ite_false (decide_eq_false (by rw [c0]; exact Bool.false_ne_true)) ?_; wp_walk using wpAny_loadPart' hl)
      | (refine wpAny_ite_false (decide_eq_false (by rw [c1]; exact Bool.false_ne_true)) ?_; wp_walk using wpAny_loadPart' hl)
      | (refine wpAny_ite_true (decide_eq_true (by rw [c2])) ?_; wp_walk using wpAny_loadPart' hl))
    exact ⟨_, rfl, h⟩

def rRepA (K : PySem.W.Frag) : R2 := fun x y H Q => ∃ l k xs, x = .ref l ∧ y = .int k ∧ SqT K H l xs ∧ 0 ≤ k ∧ k ≤ 1000 ∧ xs.length ≤ 1000 ∧ ((xs = [] ∨ k = 1) → Q (.ref l) H) ∧
  (xs ≠ [] → k ≠ 1 → ∀ p, H p = none → Q (.ref p) (upd H p (.tup (List.replicate k.toNat xs).flatten)))
theorem op_repA : OpR X (binaryOp .Mult) (rRepA X.K) := by
  intro pins s σ H x y v u Q I rx ry h
  obtain ⟨l, k, xs, rfl, rfl, hT, h0, h2, hz, q1, q2⟩ := h
  by_cases h1 : 2 ≤ k ∧ xs ≠ []
  · exact op_repT pins s σ H _ _ v u Q I rx ry ⟨l, k, xs, rfl, rfl, hT, h1.2, h1.1, h2, hz, q2 h1.2 (by omega)⟩
  cases rx
  obtain ⟨t, rfl⟩ := ry
  obtain ⟨its, r, ⟨⟨cls, dd, data, sl⟩, ho, hc, n, hd⟩, hs⟩ := I.tuple hT
  simp only at hc hd
  subst hc hd
  have hle : its.length = xs.length := r.length.symm
  have c0 : (decide (k < -(2 ^ 63)) || decide (k ≥ 2 ^ 63)) = false := by
    rw [decide_eq_false (by omega), decide_eq_false (by omega)] <;> rfl
  by_cases hx : xs = [] ∨ k = 1
  · have c1 : (its.toArray.isEmpty || k == 1) = true := by
      rcases hx with e | e
      · subst e
        cases its with
        | nil => rfl
        | cons a b => simp at hle
      · subst e; simp
    refine wpAny_binaryOp_repeat_ref (T := "tuple") (U := "int") (by decide) ⟨_, ho, rfl⟩ (fun s' => typeIs_int s' k t) noFill_tuple_mul F.fills_int_mul F.slot_int_rmul repeat_tuple F.slot_int_index.lookup
      (call_meets F.slot_int_rmul (typeIs_int s k t) F.entry_int_rmul (F.args_int_rmul_2 _ _) (int_rmul_tuple k t l its.toArray n dd sl)
        ⟨ho, rfl, ⟨_, ho, rfl⟩, call_meets F.slot_tuple_mul ⟨_, ho, rfl⟩ F.entry_tuple_mul (F.args_tuple_mul_2 _ _) (tuple_mul1 l its.toArray n dd sl k t c0 c1) ⟨ho, ?_⟩⟩)
    exact ⟨.ref l, H, I, rfl, q1 hx⟩
  · have hx1 : xs ≠ [] := fun e => hx (.inl e)
    have hx2 : k ≠ 1 := fun e => hx (.inr e)
    have hk : k = 0 := by
      by_cases h3 : 2 ≤ k
      · exact absurd ⟨h3, hx1⟩ h1
      · omega
    subst hk
    have c1 : (its.toArray.isEmpty || (0 : Int) == 1) = false := by
      cases its with
      | nil => exact absurd (List.eq_nil_of_length_eq_zero hle.symm) hx1
      | cons a b => rfl
    refine wpAny_binaryOp_repeat_ref (T := "tuple") (U := "int") (by decide) ⟨_, ho, rfl⟩ (fun s' => typeIs_int s' 0 t) noFill_tuple_mul F.fills_int_mul F.slot_int_rmul repeat_tuple F.slot_int_index.lookup
      (call_meets F.slot_int_rmul (typeIs_int s 0 t) F.entry_int_rmul (F.args_int_rmul_2 _ _) (int_rmul_tuple 0 t l its.toArray n dd sl)
        ⟨ho, rfl, ⟨_, ho, rfl⟩, call_meets F.slot_tuple_mul ⟨_, ho, rfl⟩ F.entry_tuple_mul (F.args_tuple_mul_2 _ _) (tuple_mul0 l its.toArray n dd sl 0 t c0 c1 rfl) ⟨ho, ?_⟩⟩)
    refine ⟨.ref _, _, I.laid (t' := s.toks) (o := .tup []) (fun b o e => Heap.get?_push_of_some _ e) (Nat.le_refl _) ⟨Nat.zero_le _, [], .nil, ⟨_, Heap.get?_push_size _ rfl, rfl, 0, rfl⟩⟩, rfl, ?_⟩
    have := q2 hx1 hx2 _ I.fresh
    simpa using this
def rInT (K : PySem.W.Frag) : R2 := fun x y H Q => ∃ d ds, Dp K H x d ∧ Dp K H y (.tuple ds) ∧ SeqAt.shaped d = true ∧ SeqAt.shaped (.tuple ds) = true ∧ Q (.bl (ds.any fun z => PyData.eqv z d)) H
def rNotInT (K : PySem.W.Frag) : R2 := fun x y H Q => ∃ d ds, Dp K H x d ∧ Dp K H y (.tuple ds) ∧ SeqAt.shaped d = true ∧ SeqAt.shaped (.tuple ds) = true ∧ Q (.bl (!ds.any fun z => PyData.eqv z d)) H
theorem op_inT (hu : X.A.units + 65 < cLine) : OpR X (compareOp .In) (rInT X.K) := by
  intro pins s σ H x y v u Q I rx ry h
  obtain ⟨d, ds, hd, he, sd, se, q⟩ := h
  obtain ⟨as, r1⟩ := Dp.reads I d x v hd rx
  obtain ⟨bs, r2⟩ := Dp.reads I (.tuple ds) y u he ry
  exact SeqAt.in_tuple_reads r2 r1 (SeqAt.canLay_of_shaped se) (SeqAt.canLay_of_shaped sd) (PyProof.Rows.room_in_shaped sd hu) ⟨.bl _, H, I, rfl, q⟩
theorem op_notInT (hu : X.A.units + 65 < cLine) : OpR X (compareOp .NotIn) (rNotInT X.K) := by
  intro pins s σ H x y v u Q I rx ry h
  obtain ⟨d, ds, hd, he, sd, se, q⟩ := h
  obtain ⟨as, r1⟩ := Dp.reads I d x v hd rx
  obtain ⟨bs, r2⟩ := Dp.reads I (.tuple ds) y u he ry
  exact SeqAt.notIn_tuple_reads r2 r1 (SeqAt.canLay_of_shaped se) (SeqAt.canLay_of_shaped sd) (PyProof.Rows.room_in_shaped sd hu) ⟨.bl _, H, I, rfl, q⟩
end

/-! ### the operators, each with all its ways -/
def rNo : R2 := fun _ _ _ _ => False
theorem op_no {X : Cx} {f : Value → Value → Sem Value} : OpR X f rNo := fun _ _ _ _ _ _ _ _ _ _ _ _ h => h.elim
def rOr (a b : R2) : R2 := fun x y H Q => a x y H Q ∨ b x y H Q
def rBin (K : PySem.W.Frag) : Operator → R2
  | .Add => rOr (rI0 fun i j => .int (i + j)) (rOr (fun x y H Q => ∃ i j, x = .str i ∧ y = .str j ∧ i.length + j.length ≤ sizeLine ∧ Q (.str (i ++ j)) H) (rOr (rCatA K) (rCatL K)))
  | .Sub => rI0 fun i j => .int (i - j)
  | .Mult => rOr (rI CMul fun i j => .int (i * j)) (rRepA K)
  | .FloorDiv => rI CDiv fun i j => .int (i / j)
  | .Mod => rI (fun _ j => 0 < j) fun i j => .int (i % j)
  | .Pow => rI CPow fun i j => .int (i ^ j.toNat)
  | _ => rNo
theorem op_bin {X : Cx} (o : Operator) : OpR X (binaryOp o) (rBin X.K o) := by
  cases o with
  | Add => exact op_add.or (op_add_str.or (op_catA.or op_catL))
  | Sub => exact op_sub
  | Mult => exact op_mul.or op_repA
  | FloorDiv => exact op_fdiv
  | Mod => exact op_mod
  | Pow => exact op_pow
  | _ => exact op_no
section
variable {T : Tab} {K : PySem.W.Frag} {E : WX} {σ : L2.St} {ρ : Env} {F F' : Hp} {al al' : List Addr} {H H' : Hp} {S S' : Sto}
theorem flat_one {α : Type} (xs : List α) : (List.replicate (1 : Int).toNat xs).flatten = xs := by
  show (List.replicate 1 xs).flatten = xs
  simp
theorem flat_nil {α : Type} (k : Nat) : (List.replicate k ([] : List α)).flatten = [] := by
  induction k with
  | zero => rfl
  | succ k ih => rw [List.replicate_succ, List.flatten_cons, ih]; rfl
theorem bin_sound {o : Operator} {x y : V} {a b : W} {Q : VK} (g : Good T K F al S H) (rx : Vw T K F al H x a) (ry : Vw T K F al H y b) (h : RQ T K E σ F al H (optR S (binop o a b)) Q) : rBin K o x y H Q := by
  cases e : binop o a b with
  | none => rw [e] at h; exact h.elim
  | some w =>
    rw [e] at h
    replace h : RQ T K E σ F al H (.ok w S) Q := h
    unfold binop at e
    split at e
    · cases e; cases rx.int; cases ry.int
      exact .inl ⟨_, _, rfl, rfl, h.val g (.int _)⟩
    · split at e
      · cases e; cases rx.str; cases ry.str
        rename_i hl
        exact .inr (.inl ⟨_, _, rfl, rfl, by rw [← limit_eq]; exact hl, h.val g (.str _)⟩)
      · cases e
    · split at e
      · cases e
        rename_i xs ys hl
        obtain ⟨p, us, rfl, hp, r1⟩ := rx.tup g.sub
        obtain ⟨q, vs, rfl, hq, r2⟩ := ry.tup g.sub
        refine .inr (.inr (.inl ⟨p, q, us, vs, rfl, rfl, hp, hq, by rw [← limit_eq, r1.length, r2.length]; exact hl, fun e => ?_, fun _ e => ?_, fun _ _ t ht => ?_⟩))
        · subst e
          have : xs = [] := by cases r1; rfl
          subst this
          refine h.val g ?_
          rw [List.nil_append]
          cases ry with
          | same r => exact r
        · subst e
          have : ys = [] := by cases r2; rfl
          subst this
          refine h.val g ?_
          rw [List.append_nil]
          cases rx with
          | same r => exact r
        · exact h.new g (r1.append r2) ht
      · cases e
    · split at e
      · cases e
        rename_i xs ys hl
        obtain ⟨p, us, rfl, hp, r1⟩ := rx.lst g.sub
        obtain ⟨q, vs, rfl, hq, r2⟩ := ry.lst g.sub
        exact .inr (.inr (.inr ⟨p, q, us, vs, rfl, rfl, hp, hq, by rw [← limit_eq, r1.length, r2.length]; exact hl, fun t ht => h.newL g (r1.append r2) ht⟩))
      · cases e
    · cases e; cases rx.int; cases ry.int
      exact ⟨_, _, rfl, rfl, h.val g (.int _)⟩
    · split at e
      · cases e; cases rx.int; cases ry.int
        rename_i hl
        refine .inl ⟨_, _, rfl, rfl, ?_, h.val g (.int _)⟩
        unfold mulOk at hl
        simpa [CMul] using hl
      · cases e
    · split at e
      · cases e; cases ry.int
        rename_i xs k hl
        obtain ⟨p, us, rfl, hp, r1⟩ := rx.tup g.sub
        simp only [Bool.and_eq_true, decide_eq_true_eq] at hl
        refine .inr ⟨p, _, us, rfl, rfl, hp, hl.1.1, hl.1.2, by rw [r1.length]; exact hl.2, fun e => ?_, fun _ _ t ht => h.new g (r1.rep _) ht⟩
        refine h.val g ?_
        rcases e with e | e
        · subst e
          have : xs = [] := by cases r1; rfl
          subst this
          rw [flat_nil]
          cases rx with
          | same r => exact r
        · subst e
          rw [flat_one]
          cases rx with
          | same r => exact r
      · cases e
    · split at e
      · cases e; cases rx.int; cases ry.int
        rename_i hl
        exact ⟨_, _, rfl, rfl, hl, h.val g (.int _)⟩
      · cases e
    · split at e
      · cases e; cases rx.int; cases ry.int
        rename_i hl
        exact ⟨_, _, rfl, rfl, hl, h.val g (.int _)⟩
      · cases e
    · split at e
      · cases e; cases rx.int; cases ry.int
        rename_i hl
        exact ⟨_, _, rfl, rfl, hl, h.val g (.int _)⟩
      · cases e
    · cases e
def rIsN : R2 := fun x y H Q => y = .non ∧ Q (.bl (decide (x = .non))) H
def rNotN : R2 := fun x y H Q => y = .non ∧ Q (.bl (!decide (x = .non))) H
def rCmp (K : PySem.W.Frag) : CmpOp → R2
  | .Eq => rEqD K
  | .NotEq => rNeD K
  | .Lt => rI0 fun i j => .bl (decide (i < j))
  | .LtE => rI0 fun i j => .bl (decide (i ≤ j))
  | .Gt => rI0 fun i j => .bl (decide (j < i))
  | .GtE => rI0 fun i j => .bl (decide (j ≤ i))
  | .Is => rOr DL.rIsN rIsB
  | .IsNot => rOr DL.rNotN rNotB
  | .In => rOr (rInT K) (rInD K)
  | .NotIn => rOr (rNotInT K) (rNotInD K)
theorem op_cmp {X : Cx} {k : Nat} (hr : Room k X.A) (o : CmpOp) : OpR X (compareOp o) (rCmp X.K o) := by
  have hu : X.A.units + 65 < cLine := by have := hr.un; omega
  cases o with
  | Eq => exact op_eqD (by omega)
  | NotEq => exact op_neD (by omega)
  | Lt => exact op_lt
  | LtE => exact op_le
  | Gt => exact op_gt
  | GtE => exact op_ge
  | Is => exact op_isN.or op_isBl
  | IsNot => exact op_notN.or op_notBl
  | In => exact (op_inT hu).or (op_inD hu)
  | NotIn => exact (op_notInT hu).or (op_notInD hu)
theorem plainL_lift {n : Nat} {ws : List W} : W.plainL n ws = true → W.plain (n + 1) (.tup ws) = true := fun h => h
theorem anyL : ∀ (n m : Nat) (ys : List W) (x : W), W.plainL n ys = true → W.plain m x = true → ((toPL ys).any fun z => PyData.eqv z (toP x)) = ys.any fun y => W.eqv y x
  | _, _, [], _, _, _ => rfl
  | n, m, y :: ys, x, h, k => by
    rw [W.plainL, Bool.and_eq_true] at h
    show (PyData.eqv (toP y) (toP x) || (toPL ys).any fun z => PyData.eqv z (toP x)) = (W.eqv y x || ys.any fun y => W.eqv y x)
    rw [plain_eqv n m y x h.1 k, anyL n m ys x h.2 k]
theorem shapedL {ws : List W} (h : W.plainL 60 ws = true) : SeqAt.shaped (.tuple (toPL ws)) = true ∧ SeqAt.shaped (.list (toPL ws)) = true := by
  obtain ⟨h1, h2⟩ := plain_layL 60 ws h
  have d1 : (PyData.tuple (toPL ws)).depth ≤ 64 := by simp only [PyData.depth]; omega
  have d2 : (PyData.list (toPL ws)).depth ≤ 64 := by simp only [PyData.depth]; omega
  have c1 : (PyData.tuple (toPL ws)).canLay0 = true := by simpa only [PyData.canLay0] using h1
  have c2 : (PyData.list (toPL ws)).canLay0 = true := by simpa only [PyData.canLay0] using h1
  refine ⟨?_, ?_⟩
  · show ((PyData.tuple (toPL ws)).canLay0 && decide ((PyData.tuple (toPL ws)).depth ≤ 64)) = true
    rw [c1, decide_eq_true d1]; rfl
  · show ((PyData.list (toPL ws)).canLay0 && decide ((PyData.list (toPL ws)).depth ≤ 64)) = true
    rw [c2, decide_eq_true d2]; rfl
theorem cmpEq_some {a b : W} {k : Bool} (h : cmpEq a b = some k) : W.plain 60 a = true ∧ W.plain 60 b = true ∧ k = W.eqv a b := by
  unfold cmpEq at h
  split at h
  · rename_i hp
    rw [Bool.and_eq_true] at hp
    cases h
    exact ⟨hp.1, hp.2, rfl⟩
  · cases h
theorem memW_some {a : W} {ys : List W} {k : Bool} (h : memW a ys = some k) : W.plain 60 a = true ∧ W.plainL 60 ys = true ∧ k = ys.any fun y => W.eqv y a := by
  unfold memW at h
  split at h
  · rename_i hp
    rw [Bool.and_eq_true] at hp
    cases h
    exact ⟨hp.1, hp.2, rfl⟩
  · cases h
theorem RQ.blv {k k' : Bool} {Q : VK} (h : RQ T K E σ F al H (.ok (.bl k) S) Q) (g : Good T K F al S H) (e : k = k') : Q (.bl k') H := by
  subst e; exact h.val g (.bl _)
theorem cmp_sound {o : CmpOp} {x y : V} {a b : W} {k : Bool} {Q : VK} (g : Good T K F al S H) (rx : Vw T K F al H x a) (ry : Vw T K F al H y b) (e : cmpop o a b = some k) (h : Q (.bl k) H) : rCmp K o x y H Q := by
  have nref : ∀ p : Addr, decide (V.ref p = V.non) = false := fun p => decide_eq_false (fun z => nomatch z)
  unfold cmpop at e
  split at e
  · obtain ⟨h1, h2, rfl⟩ := cmpEq_some e
    exact ⟨_, _, rx.dp g.sub h1, ry.dp g.sub h2, plain_shaped h1, plain_shaped h2, by rw [plain_eqv 60 60 a b h1 h2]; exact h⟩
  · rw [Option.map_eq_some_iff] at e
    obtain ⟨k2, e, rfl⟩ := e
    obtain ⟨h1, h2, rfl⟩ := cmpEq_some e
    exact ⟨_, _, rx.dp g.sub h1, ry.dp g.sub h2, plain_shaped h1, plain_shaped h2, by rw [plain_eqv 60 60 a b h1 h2]; exact h⟩
  · cases e; cases rx.int; cases ry.int; exact ⟨_, _, rfl, rfl, h⟩
  · cases e; cases rx.int; cases ry.int; exact ⟨_, _, rfl, rfl, h⟩
  · cases e; cases rx.int; cases ry.int; exact ⟨_, _, rfl, rfl, h⟩
  · cases e; cases rx.int; cases ry.int; exact ⟨_, _, rfl, rfl, h⟩
  · cases e; cases rx.non; cases ry.non; exact .inl ⟨rfl, h⟩
  · cases e; cases rx.bl; cases ry.non; exact .inl ⟨rfl, h⟩
  · cases e; cases rx.int; cases ry.non; exact .inl ⟨rfl, h⟩
  · cases e; cases rx.str; cases ry.non; exact .inl ⟨rfl, h⟩
  · cases e; obtain ⟨p, us, rfl, _⟩ := rx.tup g.sub; cases ry.non; exact .inl ⟨rfl, by rw [nref]; exact h⟩
  · cases e; obtain ⟨p, us, rfl, _⟩ := rx.lst g.sub; cases ry.non; exact .inl ⟨rfl, by rw [nref]; exact h⟩
  · cases e; cases rx.non; cases ry.non; exact .inl ⟨rfl, h⟩
  · cases e; cases rx.bl; cases ry.non; exact .inl ⟨rfl, h⟩
  · cases e; cases rx.int; cases ry.non; exact .inl ⟨rfl, h⟩
  · cases e; cases rx.str; cases ry.non; exact .inl ⟨rfl, h⟩
  · cases e; obtain ⟨p, us, rfl, _⟩ := rx.tup g.sub; cases ry.non; exact .inl ⟨rfl, by rw [nref]; exact h⟩
  · cases e; obtain ⟨p, us, rfl, _⟩ := rx.lst g.sub; cases ry.non; exact .inl ⟨rfl, by rw [nref]; exact h⟩
  · cases e; cases rx.bl; cases ry.bl
    rename_i a b
    exact .inr ⟨_, _, rfl, rfl, by rw [show decide (a = b) = (a == b) by cases a <;> cases b <;> rfl]; exact h⟩
  · cases e; cases rx.bl; cases ry.bl
    rename_i a b
    exact .inr ⟨_, _, rfl, rfl, by rw [show decide (a = b) = (a == b) by cases a <;> cases b <;> rfl]; exact h⟩
  · obtain ⟨h1, h2, rfl⟩ := memW_some e
    exact .inl ⟨_, _, rx.dp g.sub h1, ry.dp g.sub (n := 61) h2, plain_shaped h1, (shapedL h2).1, by rw [anyL 60 60 _ _ h2 h1]; exact h⟩
  · obtain ⟨h1, h2, rfl⟩ := memW_some e
    exact .inr ⟨_, _, rx.dp g.sub h1, ry.dp g.sub (n := 61) h2, plain_shaped h1, (shapedL h2).2, by rw [anyL 60 60 _ _ h2 h1]; exact h⟩
  · rw [Option.map_eq_some_iff] at e
    obtain ⟨k2, e, rfl⟩ := e
    obtain ⟨h1, h2, rfl⟩ := memW_some e
    exact .inl ⟨_, _, rx.dp g.sub h1, ry.dp g.sub (n := 61) h2, plain_shaped h1, (shapedL h2).1, by rw [anyL 60 60 _ _ h2 h1]; exact h⟩
  · rw [Option.map_eq_some_iff] at e
    obtain ⟨k2, e, rfl⟩ := e
    obtain ⟨h1, h2, rfl⟩ := memW_some e
    exact .inr ⟨_, _, rx.dp g.sub h1, ry.dp g.sub (n := 61) h2, plain_shaped h1, (shapedL h2).2, by rw [anyL 60 60 _ _ h2 h1]; exact h⟩
  · cases e
end
end DL

set_option Elab.async false
set_option linter.all false
set_option maxRecDepth 100000
set_option maxHeartbeats 4000000
/-! Wz: for .. in zip(a, b, strict=True), a and b lists or tuples, both of one length; the same without strict where one is a list and one a tuple. -/
namespace DL
open PySem PySem.Spec L2

/-- a list (false) or a tuple (true) at a -/
def SeqIs : Bool → Heap → Addr → Array Value → Prop
  | false, h, a, its => h.IsList a its
  | true, h, a, its => h.IsTuple a its
def IterIs : Bool → Heap → Addr → Addr → Nat → Prop
  | false, h, i, a, k => h.IsListIter i a k
  | true, h, i, a, k => h.IsTupleIter i a k
def iterObj : Bool → Addr → Obj
  | false, a => { cls := .type "list_iterator", data := .fields #[.ref a, .int 0 0] }
  | true, a => { cls := .type "tuple_iterator", data := .fields #[.ref a, .int 0 0] }
abbrev IsZipB (b : Bool) (h : Heap) (z TI TO : Addr) (f0 : Value) : Prop :=
  h.get? z = some { cls := .type "zip", dict := none, data := .fields #[f0, .bool false, .bool b, .ref TI, .ref TO], slots := #[] }
theorem SeqIs.at {t : Bool} {h h' : Heap} {a : Addr} {its : Array Value} (x : SeqIs t h a its) (k : ∀ o, h.get? a = some o → h'.get? a = some o) : SeqIs t h' a its := by
  cases t with
  | false => exact Heap.IsList.at x k
  | true => obtain ⟨o, e, r⟩ := x; exact ⟨o, k o e, r⟩
theorem SeqIs.ext {t : Bool} {h h' : Heap} {a b : Addr} {its : Array Value} (x : SeqIs t h a its) (k : Heap.ExtBut b h h') (n : a ≠ b) : SeqIs t h' a its := x.at fun o e => k a o n e
theorem IterIs.at {t : Bool} {h h' : Heap} {i a : Addr} {n : Nat} (x : IterIs t h i a n) (k : ∀ o, h.get? i = some o → h'.get? i = some o) : IterIs t h' i a n := by
  cases t with
  | false => exact Heap.IsListIter.at x k
  | true => exact Heap.IsTupleIter.at x k
theorem IterIs.ext {t : Bool} {h h' : Heap} {i a b : Addr} {n : Nat} (x : IterIs t h i a n) (k : Heap.ExtBut b h h') (q : i ≠ b) : IterIs t h' i a n := x.at fun o e => k i o q e
theorem IterIs.obj {t : Bool} {h : Heap} {i a : Addr} {n : Nat} (x : IterIs t h i a n) : ∃ o, h.get? i = some o ∧ ∀ v, o.data ≠ .cell v := by
  cases t with
  | false => obtain ⟨o, e, _, d⟩ := x; exact ⟨o, e, fun v q => by rw [d] at q; cases q⟩
  | true => obtain ⟨o, e, _, d⟩ := x; exact ⟨o, e, fun v q => by rw [d] at q; cases q⟩
theorem IterIs.new {t : Bool} {h : Heap} {i a : Addr} (e : h.get? i = some (iterObj t a)) : IterIs t h i a 0 := by
  cases t with
  | false => exact ⟨_, e, rfl, rfl⟩
  | true => exact ⟨_, e, rfl, rfl⟩
section
variable {prog : Program} {w : World} {A : Around} {E : Value → Shared → Prop} {s : Shared}
theorem nextOf_item {t : Bool} {it l : Addr} {i : Nat} {items : Array Value} {x : Value} {Q : Value → Shared → Prop} (hit : IterIs t s.heap it l i) (hl : SeqIs t s.heap l items) (hx : items[i]? = some x)
    (hQ : ∀ h', IterIs t h' it l (i + 1) → Heap.SameBut it s.heap h' → Q x { s with heap := h' }) : wpAny (model prog w) A (Builtin.SmallTypes.nextOf (.ref it)) Q E s := by
  cases t with
  | false => exact wpAny_nextOf_list_item hit hl hx hQ
  | true => exact wpAny_nextOf_tuple_item hit hl hx hQ
theorem nextOf_end {t : Bool} {it l : Addr} {i : Nat} {items : Array Value} {Q : Value → Shared → Prop} (hh : A.handled = none) (hit : IterIs t s.heap it l i) (hl : SeqIs t s.heap l items) (hx : items[i]? = none)
    (hE : ∀ h' e, Heap.ExtBut it s.heap h' → (∃ o, h'.get? e = some o ∧ o.cls = .type "StopIteration") → E (.ref e) { s with heap := h' }) : wpAny (model prog w) A (Builtin.SmallTypes.nextOf (.ref it)) Q E s := by
  cases t with
  | false => exact wpAny_nextOf_list_end hh hit hl hx hE
  | true => exact wpAny_nextOf_tuple_end hh hit hl hx hE
theorem nextOrEnd_item {t : Bool} {it l : Addr} {i : Nat} {items : Array Value} {x : Value} {Q : Option Value → Shared → Prop} (hit : IterIs t s.heap it l i) (hl : SeqIs t s.heap l items) (hx : items[i]? = some x)
    (hQ : ∀ h', IterIs t h' it l (i + 1) → Heap.SameBut it s.heap h' → Q (some x) { s with heap := h' }) : wpAny (model prog w) A (Builtin.SmallTypes.nextOrEnd (.ref it)) Q E s := by
  unfold Builtin.SmallTypes.nextOrEnd
  exact wpAny_bind (wpAny_attempt (nextOf_item hit hl hx fun h' a b => wpAny_pure (hQ h' a b)))
theorem nextOrEnd_end {t : Bool} {it l : Addr} {i : Nat} {items : Array Value} {Q : Option Value → Shared → Prop} (hh : A.handled = none) (hit : IterIs t s.heap it l i) (hl : SeqIs t s.heap l items) (hx : items[i]? = none)
    (hQ : ∀ h', Heap.ExtBut it s.heap h' → Q none { s with heap := h' }) : wpAny (model prog w) A (Builtin.SmallTypes.nextOrEnd (.ref it)) Q E s := by
  unfold Builtin.SmallTypes.nextOrEnd
  refine wpAny_bind (wpAny_attempt (nextOf_end hh hit hl hx fun h' e a b => ?_))
  obtain ⟨o, ho, hc⟩ := b
  exact wpAny_bind (wpAny_isInstance (T := "StopIteration") (b := true) ⟨o, ho, hc⟩ isSubtype_stop (wpAny_pure (hQ _ a)))
theorem zipS_item {z TI TO i1 i2 l1 l2 : Addr} {t1 t2 : Bool} {k1 k2 : Nat} {xs ys : Array Value} {x y a b : Value} {Q : Value → Shared → Prop} (D : ZipApart z TI TO i1 i2 l1 l2)
    (hz : IsZipB true s.heap z TI TO .none) (hTI : IsPair s.heap TI (.ref i1) (.ref i2)) (hTO : IsPair s.heap TO a b)
    (h1 : IterIs t1 s.heap i1 l1 k1) (h2 : IterIs t2 s.heap i2 l2 k2) (hl1 : SeqIs t1 s.heap l1 xs) (hl2 : SeqIs t2 s.heap l2 ys) (hx : xs[k1]? = some x) (hy : ys[k2]? = some y)
    (hQ : ∀ h', IsZipB true h' z TI TO (rawInt s.heap.objs.size) → IsPair h' TO x y → IterIs t1 h' i1 l1 (k1 + 1) → IterIs t2 h' i2 l2 (k2 + 1) → IsPair h' s.heap.objs.size x y → h'.objs.size = s.heap.objs.size + 1 →
      (∀ c o, c ≠ z → c ≠ TO → c ≠ i1 → c ≠ i2 → s.heap.get? c = some o → h'.get? c = some o) → Q (.ref s.heap.objs.size) { s with heap := h' }) :
    wpAny (model prog w) A (Builtin.«zip.__next__» ⟨[.ref z], []⟩) (fun fin s' => ∃ v, fin = .done (.ret v) ∧ Q v s') E s := by
  show wpAny _ _ (field (.ref z) 2 >>= _) _ _ _
  refine wpAny_bind (wpAny_field hz rfl (x := .bool true) rfl ?_)
  show wpAny _ _ (field (.ref z) 3 >>= _) _ _ _
  refine wpAny_bind (wpAny_field hz rfl (x := .ref TI) rfl ?_)
  refine wpAny_bind (wpAny_seqItems hTI rfl ?_)
  show wpAny _ _ (Builtin.SmallTypes.ownedTupleIsFree (.ref z) >>= _) _ _ _
  refine wpAny_bind ?_
  unfold Builtin.SmallTypes.ownedTupleIsFree
  refine wpAny_bind (wpAny_field hz rfl (x := .none) rfl (wpAny_pure ?_))
  simp only [if_true]
  refine wpAny_bind (wpAny_rule ?_)
  refine wpAny_bind (wpAny_field hz rfl (x := .ref TO) rfl ?_)
  refine wpAny_bind (wpAny_setField_rec hz (by simp) fun h₁ hz₁ hs₁ => ?_)
  replace hz₁ : IsZipB true h₁ z TI TO .ellipsis := hz₁
  refine wpAny_bind ?_
  simp only [List.zipIdx_cons, List.zipIdx_nil, List.forIn_cons, List.forIn_nil]
  refine wpAny_bind (wpAny_bind (wpAny_onRaise ?_))
  show wpAny _ _ (Builtin.SmallTypes.nextOrEnd (.ref i1)) _ _ _
  refine nextOrEnd_item (h1.ext hs₁.extBut D.i1z) (hl1.ext hs₁.extBut D.l1z) hx fun h₂ h1₂ hs₂ => ?_
  have hTO₂ : IsPair h₂ TO a b := hs₂.extBut _ _ D.TOi1 (hs₁.extBut _ _ D.TOz hTO)
  refine wpAny_bind (wpAny_seqItems hTO₂ rfl ?_)
  refine wpAny_bind (wpAny_updateSeq_pair hTO₂ fun h₃ hTO₃ hs₃ => ?_)
  replace hTO₃ : IsPair h₃ TO x b := hTO₃
  refine wpAny_bind (wpAny_letGo (wpAny_pure ?_))
  refine wpAny_bind (wpAny_bind (wpAny_onRaise ?_))
  show wpAny _ _ (Builtin.SmallTypes.nextOrEnd (.ref i2)) _ _ _
  refine nextOrEnd_item (((h2.ext hs₁.extBut D.i2z).ext hs₂.extBut D.i12.symm).ext hs₃.extBut D.TOi2.symm)
    (((hl2.ext hs₁.extBut D.l2z).ext hs₂.extBut D.l2i1).ext hs₃.extBut D.l2TO) hy fun h₄ h2₄ hs₄ => ?_
  have hTO₄ : IsPair h₄ TO x b := hs₄.extBut _ _ D.TOi2 hTO₃
  refine wpAny_bind (wpAny_seqItems hTO₄ rfl ?_)
  refine wpAny_bind (wpAny_updateSeq_pair hTO₄ fun h₅ hTO₅ hs₅ => ?_)
  replace hTO₅ : IsPair h₅ TO x y := hTO₅
  refine wpAny_bind (wpAny_letGo (wpAny_pure (wpAny_pure ?_)))
  refine wpAny_bind (wpAny_seqItems hTO₅ rfl ?_)
  refine wpAny_bind (wpAny_newTuple ?_)
  have hsz : h₅.objs.size = s.heap.objs.size := by rw [hs₅.1, hs₄.1, hs₃.1, hs₂.1, hs₁.1]
  have hz₅ : IsZipB true h₅ z TI TO .ellipsis := hs₅.extBut _ _ D.TOz.symm (hs₄.extBut _ _ D.i2z.symm (hs₃.extBut _ _ D.TOz.symm (hs₂.extBut _ _ D.i1z.symm hz₁)))
  have hk₅ : ∀ c o, c ≠ z → c ≠ TO → c ≠ i1 → c ≠ i2 → s.heap.get? c = some o → h₅.get? c = some o := fun c o c1 c2 c3 c4 e =>
    hs₅.extBut _ _ c2 (hs₄.extBut _ _ c4 (hs₃.extBut _ _ c2 (hs₂.extBut _ _ c3 (hs₁.extBut _ _ c1 e))))
  have h1₅ : IterIs t1 h₅ i1 l1 (k1 + 1) := ((h1₂.ext hs₃.extBut D.TOi1.symm).ext hs₄.extBut D.i12).ext hs₅.extBut D.TOi1.symm
  have h2₅ : IterIs t2 h₅ i2 l2 (k2 + 1) := h2₄.ext hs₅.extBut D.TOi2.symm
  have hzlt : z < h₅.objs.size := Heap.lt_size hz₅
  show wpAny _ _ (Builtin.SmallTypes.ownedTupleHandOut (.ref z) (.ref h₅.objs.size) >>= _) _ _ _
  refine wpAny_bind ?_
  unfold Builtin.SmallTypes.ownedTupleHandOut
  have hz₆ : IsZipB true (h₅.push { cls := .type "tuple", data := .seq #[x, y] }) z TI TO .ellipsis := Heap.get?_push_of_some _ hz₅
  refine wpAny_bind (wpAny_setField_rec hz₆ (by simp) fun h₇ hz₇ hs₇ => ?_)
  replace hz₇ : IsZipB true h₇ z TI TO (rawInt h₅.objs.size) := hz₇
  refine wpAny_setField_rec hz₇ (by simp) fun h₈ hz₈ hs₈ => ?_
  replace hz₈ : IsZipB true h₈ z TI TO (rawInt h₅.objs.size) := hz₈
  have up : ∀ c o, c ≠ z → h₅.get? c = some o → h₈.get? c = some o := fun c o c1 e => hs₈.extBut _ _ c1 (hs₇.extBut _ _ c1 (Heap.get?_push_of_some _ e))
  have hT₈ : IsPair h₈ h₅.objs.size x y := hs₈.extBut _ _ (Nat.ne_of_gt hzlt) (hs₇.extBut _ _ (Nat.ne_of_gt hzlt) (Heap.get?_push_size _ rfl))
  have hz8 : h₈.objs.size = h₅.objs.size + 1 := by rw [hs₈.1, hs₇.1, Heap.size_push]
  rw [hsz] at hz₈ hT₈ hz8
  refine wpAny_pure ⟨_, rfl, ?_⟩
  show Q (.ref h₅.objs.size) _
  rw [hsz]
  exact hQ h₈ hz₈ (up _ _ D.TOz hTO₅) (h1₅.at fun o e => up _ o D.i1z e) (h2₅.at fun o e => up _ o D.i2z e) hT₈ hz8 fun c o c1 c2 c3 c4 e => up c o c1 (hk₅ c o c1 c2 c3 c4 e)
theorem zipS_end {z TI TO i1 i2 l1 l2 : Addr} {t1 t2 : Bool} {k1 k2 : Nat} {xs ys : Array Value} {a b : Value} {Q : PySem.Fin → Shared → Prop} (hh : A.handled = none) (D : ZipApart z TI TO i1 i2 l1 l2)
    (hz : IsZipB true s.heap z TI TO .none) (hTI : IsPair s.heap TI (.ref i1) (.ref i2)) (hTO : IsPair s.heap TO a b)
    (h1 : IterIs t1 s.heap i1 l1 k1) (h2 : IterIs t2 s.heap i2 l2 k2) (hl1 : SeqIs t1 s.heap l1 xs) (hl2 : SeqIs t2 s.heap l2 ys) (hx : xs[k1]? = none) (hy : ys[k2]? = none)
    (hE : ∀ h' e, (∀ c o, c ≠ z → c ≠ TO → c ≠ i1 → c ≠ i2 → s.heap.get? c = some o → h'.get? c = some o) → (∃ o, h'.get? e = some o ∧ o.cls = .type "StopIteration") → E (.ref e) { s with heap := h' }) :
    wpAny (model prog w) A (Builtin.«zip.__next__» ⟨[.ref z], []⟩) Q E s := by
  show wpAny _ _ (field (.ref z) 2 >>= _) _ _ _
  refine wpAny_bind (wpAny_field hz rfl (x := .bool true) rfl ?_)
  show wpAny _ _ (field (.ref z) 3 >>= _) _ _ _
  refine wpAny_bind (wpAny_field hz rfl (x := .ref TI) rfl ?_)
  refine wpAny_bind (wpAny_seqItems hTI rfl ?_)
  show wpAny _ _ (Builtin.SmallTypes.ownedTupleIsFree (.ref z) >>= _) _ _ _
  refine wpAny_bind ?_
  unfold Builtin.SmallTypes.ownedTupleIsFree
  refine wpAny_bind (wpAny_field hz rfl (x := .none) rfl (wpAny_pure ?_))
  simp only [if_true]
  refine wpAny_bind (wpAny_rule ?_)
  refine wpAny_bind (wpAny_field hz rfl (x := .ref TO) rfl ?_)
  refine wpAny_bind (wpAny_setField_rec hz (by simp) fun h₁ hz₁ hs₁ => ?_)
  replace hz₁ : IsZipB true h₁ z TI TO .ellipsis := hz₁
  refine wpAny_bind ?_
  simp only [List.zipIdx_cons, List.zipIdx_nil, List.forIn_cons, List.forIn_nil]
  refine wpAny_bind (wpAny_bind (wpAny_onRaise ?_))
  show wpAny _ _ (Builtin.SmallTypes.nextOrEnd (.ref i1)) _ _ _
  refine nextOrEnd_end hh (h1.ext hs₁.extBut D.i1z) (hl1.ext hs₁.extBut D.l1z) hx fun h₂ hs₂ => ?_
  have hz₂ : IsZipB true h₂ z TI TO .ellipsis := hs₂ _ _ D.i1z.symm hz₁
  refine wpAny_bind (wpAny_setField_rec hz₂ (by simp) fun h₃ hz₃ hs₃ => ?_)
  have e2 : IterIs t2 h₃ i2 l2 k2 := ((h2.ext hs₁.extBut D.i2z).at fun o e => hs₂ i2 o D.i12.symm e).ext hs₃.extBut D.i2z
  have e3 : SeqIs t2 h₃ l2 ys := ((hl2.ext hs₁.extBut D.l2z).at fun o e => hs₂ l2 o D.l2i1 e).ext hs₃.extBut D.l2z
  refine wpAny_bind ?_
  refine wpAny_ite_false (a := Builtin.SmallTypes.stopIteration) (c := 0 > 0) (decide_eq_false (by decide)) ?_
  rw [if_neg (Nat.lt_irrefl 0)]
  simp only [List.drop_succ_cons, List.drop_zero, List.zipIdx_cons, List.zipIdx_nil, List.forIn_cons, List.forIn_nil]
  refine wpAny_bind (wpAny_bind (wpAny_bind (nextOrEnd_end hh e2 e3 hy fun h₄ hs₄ => ?_)))
  simp only [Option.isSome_none, Bool.false_eq_true, if_false]
  refine wpAny_pure (wpAny_pure (wpAny_bind (wpAny_rule ?_)))
  show wpAny _ _ (newExc (.type "StopIteration") [] >>= _) _ _ _
  refine wpAny_bind ?_
  simp only [newExc, newTuple]
  refine wpAny_bind (wpAny_newObj_type ?_ (by size_fits))
  refine wpAny_bind (m := firstArgMember _ _) (wpAny_of_eq (a := Value.none) (by first | rfl | (simp only [firstArgMember]; rfl)) ?_)
  refine wpAny_newObj_type ?_ (by size_fits)
  simp only [raiseNew]
  refine wpAny_bind (wpAny_handled ?_)
  first | rw [show A.in1.handled = none from hh] | rw [hh]
  refine wpAny_bind (wpAny_pure (wpAny_throw ?_))
  exact hE _ _ (fun c o c1 c2 c3 c4 x => Heap.get?_push_of_some _ (Heap.get?_push_of_some _ (hs₄ _ _ c4 (hs₃.extBut _ _ c1 (hs₂ _ _ c3 (hs₁.extBut _ _ c1 x)))))) ⟨_, Heap.get?_push_size _ rfl, rfl⟩
theorem pyNextS_item {z TI TO i1 i2 l1 l2 : Addr} {t1 t2 : Bool} {k1 k2 : Nat} {xs ys : Array Value} {x y a b : Value} {Q : Option Value → Shared → Prop} (D : ZipApart z TI TO i1 i2 l1 l2)
    (hz : IsZipB true s.heap z TI TO .none) (hTI : IsPair s.heap TI (.ref i1) (.ref i2)) (hTO : IsPair s.heap TO a b)
    (h1 : IterIs t1 s.heap i1 l1 k1) (h2 : IterIs t2 s.heap i2 l2 k2) (hl1 : SeqIs t1 s.heap l1 xs) (hl2 : SeqIs t2 s.heap l2 ys) (hx : xs[k1]? = some x) (hy : ys[k2]? = some y)
    (hQ : ∀ h', IsZipB true h' z TI TO (rawInt s.heap.objs.size) → IsPair h' TO x y → IterIs t1 h' i1 l1 (k1 + 1) → IterIs t2 h' i2 l2 (k2 + 1) → IsPair h' s.heap.objs.size x y → h'.objs.size = s.heap.objs.size + 1 →
      (∀ c o, c ≠ z → c ≠ TO → c ≠ i1 → c ≠ i2 → s.heap.get? c = some o → h'.get? c = some o) → Q (some (.ref s.heap.objs.size)) { s with heap := h' }) :
    wpAny (model prog w) A (pyNext (.ref z)) Q E s := by
  have hT : s.TypeIs (.ref z) "zip" := ⟨_, hz, rfl⟩
  unfold pyNext
  exact wpAny_bind (wpAny_attempt (wpAny_callSpecial?_slot (name := Str.ofString "__next__") hT F.slot_zip_next
    (wpAny_call_entry F.slot_zip_next hT F.entry_zip_next
      (zipS_item D hz hTI hTO h1 h2 hl1 hl2 hx hy fun h' a1 a2 a3 a4 a5 a6 a7 => wpAny_pure (hQ h' a1 a2 a3 a4 a5 a6 a7)) (F.args_zip_next_1 _))))
theorem pyNextS_end {z TI TO i1 i2 l1 l2 : Addr} {t1 t2 : Bool} {k1 k2 : Nat} {xs ys : Array Value} {a b : Value} {Q : Option Value → Shared → Prop} (hh : A.handled = none) (D : ZipApart z TI TO i1 i2 l1 l2)
    (hz : IsZipB true s.heap z TI TO .none) (hTI : IsPair s.heap TI (.ref i1) (.ref i2)) (hTO : IsPair s.heap TO a b)
    (h1 : IterIs t1 s.heap i1 l1 k1) (h2 : IterIs t2 s.heap i2 l2 k2) (hl1 : SeqIs t1 s.heap l1 xs) (hl2 : SeqIs t2 s.heap l2 ys) (hx : xs[k1]? = none) (hy : ys[k2]? = none)
    (hQ : ∀ h', (∀ c o, c ≠ z → c ≠ TO → c ≠ i1 → c ≠ i2 → s.heap.get? c = some o → h'.get? c = some o) → Q none { s with heap := h' }) : wpAny (model prog w) A (pyNext (.ref z)) Q E s := by
  have hT : s.TypeIs (.ref z) "zip" := ⟨_, hz, rfl⟩
  unfold pyNext
  refine wpAny_bind (wpAny_attempt (wpAny_callSpecial?_slot (name := Str.ofString "__next__") hT F.slot_zip_next
    (wpAny_call_entry F.slot_zip_next hT F.entry_zip_next (zipS_end hh D hz hTI hTO h1 h2 hl1 hl2 hx hy fun h' e hk he => ?_) (F.args_zip_next_1 _))))
  obtain ⟨o, ho, hc⟩ := he
  refine wpAny_bind (wpAny_isInstance (T := "StopIteration") (b := true) ⟨o, ho, hc⟩ isSubtype_stop ?_)
  exact wpAny_pure (hQ _ hk)
theorem letGoS {elts : List Expr} {x1} {pos : Pos} {z TI TO T : Addr} {Q : Unit → Shared → Prop} (hz : IsZipB true s.heap z TI TO (rawInt T))
    (hQ : ∀ h', IsZipB true h' z TI TO .none → Heap.SameBut z s.heap h' → Q () { s with heap := h' }) :
    wpAny (model prog w) A (letOwnedTupleGo (.Tuple elts x1 pos) (.ref z) (.ref T)) Q E s := by
  unfold letOwnedTupleGo
  refine wpAny_bind (wpAny_load hz ?_)
  show wpAny _ _ (if (["enumerate", "zip", "dict_itemiterator", "dict_reverseitemiterator", "odict_iterator", "itertools.zip_longest", "itertools.pairwise"].contains "zip" &&
      (#[rawInt T, .bool false, .bool true, .ref TI, .ref TO] : Array Value)[0]? == some (rawInt T)) = true then _ else _) Q E s
  rw [if_pos (by simp)]
  refine wpAny_bind (wpAny_rule ?_)
  show wpAny _ _ (setField (.ref z) 0 .none) Q E s
  exact wpAny_setField_rec hz (by simp) fun h' hz' hs' => hQ h' hz' hs'
theorem pyIterS {z TI TO : Addr} {f0 : Value} {Q : Value → Shared → Prop} (hz : IsZipB true s.heap z TI TO f0) (h : Q (.ref z) s) : wpAny (model prog w) A (pyIter (.ref z)) Q E s := by
  have hT : s.TypeIs (.ref z) "zip" := ⟨_, hz, rfl⟩
  refine wpAny_pyIter_slot hT F.slot_zip_iter (wpAny_call_entry F.slot_zip_iter hT F.entry_zip_iter ?_ (F.args_zip_iter_1 _))
  show wpAny _ _ (ret (.ref z)) _ _ s
  exact wpAny_pure ⟨_, rfl, "zip", _, hT, F.slot_zip_next.lookup, h⟩
/-- iter(a) -/
theorem iter_new {t : Bool} {a : Addr} {items : Array Value} {Q : Value → Shared → Prop} (hl : SeqIs t s.heap a items) (h : Q (.ref s.heap.objs.size) { s with heap := s.heap.push (iterObj t a) }) : wpAny (model prog w) A (pyIter (.ref a)) Q E s := by
  cases t with
  | false => exact wpAny_pyIter_list hl h
  | true => exact wpAny_pyIter_tuple hl h
end
abbrev zH1 (h : Heap) (t1 : Bool) (l1 : Addr) : Heap := h.push (iterObj t1 l1)
abbrev zH2 (h : Heap) (t1 t2 : Bool) (l1 l2 : Addr) : Heap := (zH1 h t1 l1).push (iterObj t2 l2)
abbrev zH3 (h : Heap) (t1 t2 : Bool) (l1 l2 : Addr) : Heap := (zH2 h t1 t2 l1 l2).push { cls := .type "tuple", data := .seq #[.ref h.objs.size, .ref (zH1 h t1 l1).objs.size] }
abbrev zH4 (h : Heap) (t1 t2 : Bool) (l1 l2 : Addr) : Heap := (zH3 h t1 t2 l1 l2).push { cls := .type "tuple", data := .seq #[.none, .none] }
abbrev zH5 (b : Bool) (h : Heap) (t1 t2 : Bool) (l1 l2 : Addr) : Heap := (zH4 h t1 t2 l1 l2).push { cls := .type "zip", data := .fields #[.none, .bool false, .bool b, .ref (zH2 h t1 t2 l1 l2).objs.size, .ref (zH3 h t1 t2 l1 l2).objs.size] }
set_option maxHeartbeats 8000000 in
theorem meets_zipS_new (t1 t2 : Bool) (l1 l2 : Addr) (xs ys : Array Value) :
    Meets (Builtin.«zip.__new__» ⟨[.type "zip", .ref l1, .ref l2], [(Str.ofString "strict", .bool true)]⟩) (fun _ R s => SeqIs t1 s.heap l1 xs ∧ SeqIs t2 s.heap l2 ys ∧
      R (.ok (.ret (.ref (zH4 s.heap t1 t2 l1 l2).objs.size))) { s with heap := zH5 true s.heap t1 t2 l1 l2 }) :=
  .of_wp fun prog w A R s h => by
    obtain ⟨hp, g, d, tk, os⟩ := s; obtain ⟨hl1, hl2, h⟩ := h
    have hsub := sub_zip
    have e1 : (Str.ofString "strict" == ("strict" : Str)) = true := by decide +kernel
    have e2 : (Str.ofString "strict" != ("strict" : Str)) = false := by decide +kernel
    have q1 : ∀ {A' : Around} {E : Value → Shared → Prop} {Q : Value → Shared → Prop}, Q (.ref hp.objs.size) ⟨zH1 hp t1 l1, g, d, tk, os⟩ → wpAny (model prog w) A' (pyIter (.ref l1)) Q E ⟨hp, g, d, tk, os⟩ :=
      fun q => iter_new (s := ⟨hp, g, d, tk, os⟩) hl1 q
    have q2 : ∀ {A' : Around} {E : Value → Shared → Prop} {Q : Value → Shared → Prop}, Q (.ref (zH1 hp t1 l1).objs.size) ⟨zH2 hp t1 t2 l1 l2, g, d, tk, os⟩ → wpAny (model prog w) A' (pyIter (.ref l2)) Q E ⟨zH1 hp t1 l1, g, d, tk, os⟩ :=
      fun q => iter_new (s := ⟨zH1 hp t1 l1, g, d, tk, os⟩) (hl2.at fun o e => Heap.get?_push_of_some _ e) q
    wp_walk using q1, q2
    exact ⟨_, rfl, h⟩
namespace Fz
theorem typeCall (a b c : Value) : checkTypeCall "zip" ⟨[a, b], [(Str.ofString "strict", c)]⟩ = pure () := by kernel_rfl
theorem newCall (a b c : Value) : checkBuiltinCall "zip.__new__" ⟨[.type "zip", a, b], [(Str.ofString "strict", c)]⟩ = pure () := by kernel_rfl
theorem args_init (obj a b c : Value) : argsOk "object.__init__" ⟨[obj, a, b], [(Str.ofString "strict", c)]⟩ := by unfold argsOk; kernel_rfl
end Fz
section
variable {prog : Program} {w : World} {A : Around} {E : Value → Shared → Prop} {s : Shared}
theorem call_zipS {t1 t2 : Bool} {l1 l2 : Addr} {xs ys : Array Value} {Q : Value → Shared → Prop} (hl1 : SeqIs t1 s.heap l1 xs) (hl2 : SeqIs t2 s.heap l2 ys)
    (h : ∀ h', IsZipB true h' (s.heap.objs.size + 4) (s.heap.objs.size + 2) (s.heap.objs.size + 3) .none → IsPair h' (s.heap.objs.size + 2) (.ref s.heap.objs.size) (.ref (s.heap.objs.size + 1)) →
      IsPair h' (s.heap.objs.size + 3) .none .none → IterIs t1 h' s.heap.objs.size l1 0 → IterIs t2 h' (s.heap.objs.size + 1) l2 0 → h'.objs.size = s.heap.objs.size + 5 →
      (∀ c o, s.heap.get? c = some o → h'.get? c = some o) → Q (.ref (s.heap.objs.size + 4)) { s with heap := h' }) :
    wpAny (model prog w) A (call (.type "zip") [.ref l1, .ref l2] [(Str.ofString "strict", .bool true)]) Q E s := by
  refine callType_newKw F.called_zip (by decide) (Fz.typeCall _ _ _) (Fz.newCall _ _ _) (fun obj => Fz.args_init obj _ _ _) F.entry_zip_new
    (meets_zipS_new t1 t2 l1 l2 xs ys) ⟨hl1, hl2, ?_⟩
  have z1 : (zH1 s.heap t1 l1).objs.size = s.heap.objs.size + 1 := Heap.size_push ..
  have z2 : (zH2 s.heap t1 t2 l1 l2).objs.size = s.heap.objs.size + 2 := by rw [Heap.size_push, z1]
  have z3 : (zH3 s.heap t1 t2 l1 l2).objs.size = s.heap.objs.size + 3 := by rw [Heap.size_push, z2]
  have z4 : (zH4 s.heap t1 t2 l1 l2).objs.size = s.heap.objs.size + 4 := by rw [Heap.size_push, z3]
  have z5 : (zH5 true s.heap t1 t2 l1 l2).objs.size = s.heap.objs.size + 5 := by rw [Heap.size_push, z4]
  have g5 : (zH5 true s.heap t1 t2 l1 l2).get? (zH4 s.heap t1 t2 l1 l2).objs.size = some _ := Heap.get?_push_size _ rfl
  have g4 : (zH5 true s.heap t1 t2 l1 l2).get? (zH3 s.heap t1 t2 l1 l2).objs.size = some _ := Heap.get?_push_of_some _ (Heap.get?_push_size _ rfl)
  have g3 : (zH5 true s.heap t1 t2 l1 l2).get? (zH2 s.heap t1 t2 l1 l2).objs.size = some _ := Heap.get?_push_of_some _ (Heap.get?_push_of_some _ (Heap.get?_push_size _ rfl))
  have i1 : ∀ t a, (iterObj t a).isFreed = false := fun t a => by cases t <;> rfl
  have g2 : (zH5 true s.heap t1 t2 l1 l2).get? (zH1 s.heap t1 l1).objs.size = some _ := Heap.get?_push_of_some _ (Heap.get?_push_of_some _ (Heap.get?_push_of_some _ (Heap.get?_push_size _ (i1 _ _))))
  have g1 : (zH5 true s.heap t1 t2 l1 l2).get? s.heap.objs.size = some _ := Heap.get?_push_of_some _ (Heap.get?_push_of_some _ (Heap.get?_push_of_some _ (Heap.get?_push_of_some _ (Heap.get?_push_size _ (i1 _ _)))))
  show _ ∧ _
  rw [z2, z3, z4] at g5
  rw [z1, z2] at g3
  rw [z3] at g4
  rw [z1] at g2
  rw [z4]
  exact ⟨⟨_, g5, rfl⟩, h _ g5 g3 g4 (.new g1) (.new g2) z5 fun c o x =>
    Heap.get?_push_of_some _ (Heap.get?_push_of_some _ (Heap.get?_push_of_some _ (Heap.get?_push_of_some _ (Heap.get?_push_of_some _ x))))⟩
end

/-! ### the walk -/
def SqB (K : PySem.W.Frag) (H : Hp) : Bool → Addr → List V → Prop
  | false, a, xs => SqL K H a xs
  | true, a, xs => SqT K H a xs
section
variable {X : Cx} {pins : List (Addr × Obj)} {σ : L2.St} {H : Hp} {s : Shared}
theorem seqB (I : Inv X pins σ H s) {t : Bool} {a : Addr} {xs : List V} (h : SqB X.K H t a xs) : ∃ its : List Value, Vals xs its ∧ SeqIs t s.heap a its.toArray ∧ a < s.heap.objs.size := by
  cases t with
  | false =>
    obtain ⟨its, r, p, _⟩ := I.list h
    exact ⟨its, r, p.isList, p.lt⟩
  | true =>
    obtain ⟨its, r, p, _⟩ := I.tuple h
    exact ⟨its, r, p, p.lt⟩
theorem seqB_inj (I : Inv X pins σ H s) {t : Bool} {a : Addr} {xs ys : List V} (h : SqB X.K H t a xs) (h' : SqB X.K H t a ys) : xs = ys := by
  cases t with
  | false => exact I.list_inj h h'
  | true => exact I.tuple_inj h h'
end
/-- both sequences as they stand at each turn, of one length -/
def ItzS (K : PySem.W.Frag) (t1 t2 : Bool) (a b : Addr) : It :=
  ⟨fun i H => ∃ (xs ys : List V) (x y : V), SqB K H t1 a xs ∧ SqB K H t2 b ys ∧ xs[i]? = some x ∧ ys[i]? = some y,
    fun i H v H' => ∃ T x y, v = .ref T ∧ H T = none ∧ H' = upd H T (.tup [x, y]) ∧ (∀ xs, SqB K H t1 a xs → xs[i]? = some x) ∧ ∀ ys, SqB K H t2 b ys → ys[i]? = some y,
    fun i H => ∃ xs ys : List V, SqB K H t1 a xs ∧ SqB K H t2 b ys ∧ xs.length ≤ i ∧ ys.length ≤ i⟩
theorem turn_zipS {P : Program} {w : World} {K : PySem.W.Frag} {elts : List Expr} {kk : Nat} {tpos : Pos} {t1 t2 : Bool} {a b z TI TO i1 i2 : Addr} (D : ZipApart z TI TO i1 i2 a b) :
    Turn P w K (.Tuple elts kk tpos) (ItzS K t1 t2 a b) [z, TI, TO, i1, i2] z (fun i h => IsZipB true h z TI TO .none ∧ IsPair h TI (.ref i1) (.ref i2) ∧ (∃ x y, IsPair h TO x y) ∧ IterIs t1 h i1 a i ∧ IterIs t2 h i2 b i) where
  mem := by simp
  obj := fun i h st c hc => by
    obtain ⟨hz, hTI, ⟨x, y, hTO⟩, h1, h2⟩ := st
    have e' : c = z ∨ c = TI ∨ c = TO ∨ c = i1 ∨ c = i2 := by simpa using hc
    rcases e' with q | q | q | q | q
    · rw [q]; exact ⟨_, hz, fun v q => nomatch q⟩
    · rw [q]; exact ⟨_, hTI, fun v q => nomatch q⟩
    · rw [q]; exact ⟨_, hTO, fun v q => nomatch q⟩
    · rw [q]; exact h1.obj
    · rw [q]; exact h2.obj
  keep := fun i h h' st k => by
    obtain ⟨hz, hTI, ⟨x, y, hTO⟩, h1, h2⟩ := st
    exact ⟨k z (by simp) _ hz, k TI (by simp) _ hTI, ⟨x, y, k TO (by simp) _ hTO⟩, h1.at fun o q => k i1 (by simp) o q, h2.at fun o q => k i2 (by simp) o q⟩
  item := by
    intro X hP hw hK hc i pins s σ H E I hf st hg
    subst hP hw hK
    obtain ⟨hz, hTI, ⟨x0, y0, hTO⟩, h1, h2⟩ := st
    obtain ⟨xs, ys, x, y, hqx, hqy, hx, hy⟩ := hg
    obtain ⟨its, rv, p, _⟩ := seqB I hqx
    obtain ⟨its2, rv2, p2, _⟩ := seqB I hqy
    obtain ⟨u, hu, ru⟩ := rv.get hx
    obtain ⟨u2, hu2, ru2⟩ := rv2.get hy
    have hzl : z < s.heap.objs.size := Heap.lt_size hz
    have l1 : i1 < s.heap.objs.size := by obtain ⟨_, e, _⟩ := h1.obj; exact Heap.lt_size e
    have l2 : i2 < s.heap.objs.size := by obtain ⟨_, e, _⟩ := h2.obj; exact Heap.lt_size e
    refine pyNextS_item D hz hTI hTO h1 h2 p p2 (x := u) (y := u2) (by simpa using hu) (by simpa using hu2) fun h' z' TO' h1' h2' hT hsz hk => ?_
    refine ⟨_, rfl, letGoS (s := { s with heap := h' }) z' fun h'' z'' sb => ?_⟩
    have hT2 : h''.get? s.heap.objs.size = some { cls := .type "tuple", data := .seq #[u, u2] } := (sb.2 _ (Nat.ne_of_gt hzl)).trans hT
    have new : ObjOk X.prog X.w (upd H s.heap.objs.size (.tup [x, y])) h'' s.heap.objs.size (.tup [x, y]) :=
      ⟨by show 2 ≤ sizeLine; decide, [u, u2], .cons ru (.cons ru2 .nil), ⟨_, hT2, rfl, _, rfl⟩⟩
    have I1 : Inv X pins σ (upd H s.heap.objs.size (.tup [x, y])) { s with heap := h'' } :=
      I.turnedNew (t' := s.toks) (ch := [z, TI, TO, i1, i2]) (fun c o hb q => (sb.2 c (fun q' => hb (by simp [q']))).trans (hk c o (fun q' => hb (by simp [q'])) (fun q' => hb (by simp [q'])) (fun q' => hb (by simp [q'])) (fun q' => hb (by simp [q'])) q)) hf (Nat.le_refl _) new
    refine ⟨.ref s.heap.objs.size, _, I1, rfl, ⟨_, x, y, rfl, I.hok.fresh (Nat.le_refl _), rfl, fun l hl => by rw [seqB_inj I hl hqx]; exact hx, fun l hl => by rw [seqB_inj I hl hqy]; exact hy⟩, ⟨z'', ?_, ⟨u, u2, ?_⟩, ?_, ?_⟩, fun c hcm => ?_⟩
    · exact (sb.2 _ D.TIz).trans (hk _ _ D.TIz D.TITO D.TIi1 D.TIi2 hTI)
    · exact (sb.2 _ D.TOz).trans TO'
    · exact h1'.at fun o q => (sb.2 _ D.i1z).trans q
    · exact h2'.at fun o q => (sb.2 _ D.i2z).trans q
    · have hlt : c < s.heap.objs.size := by
        have e' : c = z ∨ c = TI ∨ c = TO ∨ c = i1 ∨ c = i2 := by simpa using hcm
        rcases e' with q | q | q | q | q
        · rw [q]; exact hzl
        · rw [q]; exact Heap.lt_size hTI
        · rw [q]; exact Heap.lt_size hTO
        · rw [q]; exact l1
        · rw [q]; exact l2
      rw [upd_ne (Nat.ne_of_lt hlt)]
      exact (hf c hcm).1
  done := by
    intro X hP hw hK hc i pins s σ H E I hf st hg
    subst hP hw hK
    obtain ⟨hz, hTI, ⟨x0, y0, hTO⟩, h1, h2⟩ := st
    obtain ⟨xs, ys, hqx, hqy, e1, e2⟩ := hg
    obtain ⟨its, rv, p, _⟩ := seqB I hqx
    obtain ⟨its2, rv2, p2, _⟩ := seqB I hqy
    have l1 := rv.length
    have l2 := rv2.length
    exact pyNextS_end (I.ok.hd hc) D hz hTI hTO h1 h2 p p2 (by simp; omega) (by simp; omega) fun h' hk => ⟨rfl, I.turnedL (t' := s.toks) (ch := [z, TI, TO, i1, i2]) (fun c o hb q =>
      hk c o (fun q' => hb (by simp [q'])) (fun q' => hb (by simp [q'])) (fun q' => hb (by simp [q'])) (fun q' => hb (by simp [q'])) q) hf⟩
  self := fun A i s Q E st h => pyIterS st.1 h
theorem callWith_type_kwB {M : Model} {A : Around} {E : Value → Shared → Prop} {s : Shared} {pos : Pos} {T : String} {first : List Value} {args : List (Bool × Sem Value)} {keywords : List (Option Str × Sem Value)} {Q : Value → Shared → Prop}
    (hplain : args.any (·.1) = false) (hkw : keywords.any (·.1.isNone) = false)
    (h : wpAny M A (evalArgs (.type T) true args keywords) (fun a s₁ => wpAny M A (call (.type T) (first ++ a.pos) a.kw) Q E s₁) E s) :
    wpAny M A (callWith pos (.type T) first args keywords) Q E s := by
  unfold callWith
  refine wpAny_bind (wpAny_holding (wpAny_mono h (fun a s₁ h₁ => wpAny_bind (wpAny_standAt ?_)) fun _ _ x => x))
  simp only [hplain, hkw, Bool.or_false]
  refine wpAny_bind (wpAny_pure ?_)
  exact wpAny_bind (wpAny_mono h₁ (fun r s₂ hr => wpAny_bind (wpAny_holding (wpAny_point (wpAny_pure hr)))) fun _ _ x => x)
theorem callWith_type_kw {M : Model} {A : Around} {E : Value → Shared → Prop} {s : Shared} {env : PySem.Env} {pos : Pos} {T : String} {e : Expr} {rest : List Expr} {kws : List Keyword} {Q : Value → Shared → Prop}
    (h : wpAny M A (spliced (backTo pos (starEach (e :: rest) env))) (fun vs s₁ => wpAny M A (evalAll ((backToKw pos (keywordEach kws env)).map (·.2)))
      (fun kvs s₂ => wpAny M A (call (.type T) vs (((backToKw pos (keywordEach kws env)).filterMap (·.1)).zip kvs)) Q E s₂) E s₁) E s)
    (he : backTo pos (starEach (e :: rest) env) = (false, eval e env) :: backTo pos (starEach rest env) := by rfl)
    (hplain : (backTo pos (starEach (e :: rest) env)).any (·.1) = false := by rfl)
    (hall : (backToKw pos (keywordEach kws env)).all (·.1.isSome) = true := by rfl)
    (hkw : (backToKw pos (keywordEach kws env)).any (·.1.isNone) = false := by rfl) :
    wpAny M A (callWith pos (.type T) [] (backTo pos (starEach (e :: rest) env)) (backToKw pos (keywordEach kws env))) Q E s := by
  refine callWith_type_kwB hplain hkw ?_
  rw [he] at h ⊢
  exact PyProof.Rows.evalArgs_kwB hall h
def iZipS (K : PySem.W.Frag) (ta : TA) : TI := fun σ H R => ta σ H fun vs H1 => ∃ (t1 t2 : Bool) (a b : Addr) (xs ys : List V), vs = [.ref a, .ref b] ∧ SqB K H1 t1 a xs ∧ SqB K H1 t2 b ys ∧ R (ItzS K t1 t2 a b) H1
theorem pi_zipS {X : Cx} {e e2 : Expr} {ta : TA} {p pos tpos cpos kpos : Pos} {ck : Nat} {elts : List Expr} {kk : Nat} (hg : Gl X "zip") (hm : X.mg "zip" = none) (ha : PA X [e, e2] ta)
    (hs : starEach [e, e2] X.env = [(false, eval e X.env), (false, eval e2 X.env)]) (hs2 : starEach [e2] X.env = [(false, eval e2 X.env)]) :
    PI X (.Tuple elts kk tpos) (.Call (.Name "zip" p) [e, e2] [⟨some (Str.ofString "strict"), .Constant (.bool true) ck cpos, kpos⟩] pos) (iZipS X.K ta) := by
  refine ⟨fun pins s σ H R I h => ?_⟩
  refine wpAny_Call_Name_kw (ld_blt I hg hm PyProof.Rows.boot_zip ?_)
  refine (callWith_type_kw (kws := [⟨some (Str.ofString "strict"), .Constant (.bool true) ck cpos, kpos⟩]) (thn (ha.run pos pins s σ H _ I h) fun us s1 ⟨vs, H1, I1, r1, q1⟩ => ?_) (by rw [hs, hs2]; rfl) (by rw [hs]; rfl))
  refine PyProof.Rows.kws_cons (PyProof.Rows.Constant_bool (PyProof.Rows.kws_nil ?_))
  obtain ⟨t1, t2, a, b, xs, ys, ex, hqx, hqy, q⟩ := q1
  subst ex
  cases r1 with
  | cons r rr =>
    cases rr with
    | cons r' rr =>
      cases rr
      cases r
      cases r'
      obtain ⟨its, rv, p1, la⟩ := seqB I1 hqx
      obtain ⟨its2, rv2, p2, lb⟩ := seqB I1 hqy
      refine call_zipS p1 p2 fun h' hz hTI hTO h1 h2 hsz hk => pyIterS hz ?_
      have I2 : Inv X pins σ H1 { s1 with heap := h' } := I1.kept (t' := s1.toks) hk
      refine ⟨s1.heap.objs.size + 4, [s1.heap.objs.size + 4, s1.heap.objs.size + 2, s1.heap.objs.size + 3, s1.heap.objs.size, s1.heap.objs.size + 1], _, _, H1, rfl, I2, turn_zipS (PySem.W.ktu_apart s1.heap.objs.size a b la lb), ⟨hz, hTI, ⟨_, _, hTO⟩, h1, h2⟩, fun c hcm => ?_, q⟩
      have e' : c = s1.heap.objs.size + 4 ∨ c = s1.heap.objs.size + 2 ∨ c = s1.heap.objs.size + 3 ∨ c = s1.heap.objs.size ∨ c = s1.heap.objs.size + 1 := by simpa using hcm
      have hle : s1.heap.objs.size ≤ c := by
        rcases e' with z | z | z | z | z
        · rw [z]; exact Nat.le_add_right _ _
        · rw [z]; exact Nat.le_add_right _ _
        · rw [z]; exact Nat.le_add_right _ _
        · rw [z]; exact Nat.le_refl _
        · rw [z]; exact Nat.le_add_right _ _
      exact I1.fpOk hle (I1.hok.fresh hle)
theorem walk_zipS {K : PySem.W.Frag} {t1 t2 : Bool} {a b : Addr} {xs ys : List V} (hn : xs.length = ys.length) : Walk (ItzS K t1 t2 a b) xs.length (fun H => SqB K H t1 a xs ∧ SqB K H t2 b ys) (YPair (fun i => xs[i]?) (fun i => ys[i]?)) := by
  refine ⟨fun i _ hi q => ?_, fun _ q => ⟨xs, ys, q.1, q.2, Nat.le_refl _, by omega⟩, fun i H v H' _ q y => ?_⟩
  · have h2 : i < ys.length := by omega
    exact ⟨xs, ys, xs[i], ys[i], q.1, q.2, by simp [hi], by simp [h2]⟩
  · obtain ⟨T, x, z, h1, h2, h3, h4, h5⟩ := y
    exact ⟨T, x, z, h1, h2, h3, h4 xs q.1, h5 ys q.2⟩
end DL

set_option Elab.async false
set_option linter.all false
set_option maxRecDepth 100000
set_option maxHeartbeats 4000000
/-! Wy: for i, x in enumerate(a) and enumerate(a, start=k), a a list or a tuple. -/
namespace DL
open PySem PySem.Spec L2
theorem begins (t : Bool) (a : Addr) (items : Array Value) : Begins (.ref a) (iterObj t a) fun h => SeqIs t h a items := by
  cases t with
  | false => exact begins_list a items
  | true => exact begins_tuple a items
set_option maxHeartbeats 1000000 in
theorem meets_enum1 {v : Value} {o : Obj} {H : Heap → Prop} (B : Begins v o H) :
    Meets (Builtin.«enumerate.__new__» ⟨[.type "enumerate", v], []⟩) (fun _ R s => H s.heap ∧
      R (.ok (.ret (.ref (s.heap.push o).objs.size))) { s with heap := (s.heap.push o).push { cls := .type "enumerate", data := .fields #[.none, .bool false, .ref s.heap.objs.size, rawInt 0, .none, .none] } }) :=
  .of_wp fun prog w A R s h => by
    obtain ⟨hp, g, d, tk, os⟩ := s; obtain ⟨h1, h⟩ := h
    have hsub := sub_enumerate
    have q1 : ∀ {A' : Around} {E : Value → Shared → Prop} {Q : Value → Shared → Prop}, Q (.ref hp.objs.size) ⟨hp.push o, g, d, tk, os⟩ → wpAny (model prog w) A' (pyIter v) Q E ⟨hp, g, d, tk, os⟩ :=
      fun q => B.iter prog w _ _ ⟨hp, g, d, tk, os⟩ _ h1 q
    wp_walk using q1
    refine wpAny_stack_any fun st => wpAny_pure ?_
    split
    · rename_i c _ _ _ _ _
      cases (c == Value.type "enumerate")
      · wp_walk using q1
        exact ⟨_, rfl, h⟩
      · wp_walk using q1
        exact ⟨_, rfl, h⟩
    · wp_walk using q1
      exact ⟨_, rfl, h⟩
section
variable {prog : Program} {w : World} {A : Around} {E : Value → Shared → Prop} {s : Shared}
theorem enum_begins1 {v : Value} {o : Obj} {H : Heap → Prop} {Q : Value → Shared → Prop} (B : Begins v o H) (h1 : H s.heap)
    (h : ∀ h', IsEnum h' (s.heap.objs.size + 1) s.heap.objs.size 0 .none → h'.get? s.heap.objs.size = some o → h'.objs.size = s.heap.objs.size + 2 →
      (∀ b o, s.heap.get? b = some o → h'.get? b = some o) → Q (.ref (s.heap.objs.size + 1)) { s with heap := h' }) :
    wpAny (model prog w) A (call (.type "enumerate") [v]) Q E s := by
  refine callType_new F.called_enumerate (by decide) (F.typeCall_enumerate_1 _) (F.newCall_enumerate_1 _) (fun obj => F.args_object_init_2 obj _) F.entry_enumerate_new
    (meets_enum1 B) ⟨h1, ?_⟩
  have hz : (s.heap.push o).objs.size = s.heap.objs.size + 1 := Heap.size_push ..
  show _ ∧ _
  rw [hz]
  have he : IsEnum ((s.heap.push o).push { cls := .type "enumerate", data := .fields #[.none, .bool false, .ref s.heap.objs.size, rawInt 0, .none, .none] }) (s.heap.objs.size + 1) s.heap.objs.size 0 .none := by
    have := Heap.get?_push_size (s.heap.push o) (o := { cls := .type "enumerate", data := .fields #[.none, .bool false, .ref s.heap.objs.size, rawInt 0, .none, .none] }) rfl
    rw [hz] at this; exact this
  exact ⟨⟨_, he, rfl⟩, h _ he (Heap.get?_push_of_some _ (Heap.get?_push_size _ B.free)) (by rw [Heap.size_push, hz]) fun b o x => Heap.get?_push_of_some _ (Heap.get?_push_of_some _ x)⟩
theorem enumB_item {t : Bool} {e it l : Addr} {i : Nat} {c : Int} {items : Array Value} {x old : Value} {Q : Value → Shared → Prop}
    (he : IsEnum s.heap e it c old) (hit : IterIs t s.heap it l i) (hl : SeqIs t s.heap l items) (hx : items[i]? = some x) (hne : e ≠ it)
    (hQ : ∀ h', IsEnumOut h' e it (c + 1) x s.heap.objs.size → IterIs t h' it l (i + 1) →
      h'.get? s.heap.objs.size = some { cls := .type "tuple", data := .seq #[.int c s.toks, x] } → h'.objs.size = s.heap.objs.size + 1 →
      (∀ b o, b ≠ e → b ≠ it → s.heap.get? b = some o → h'.get? b = some o) → Q (.ref s.heap.objs.size) { s with heap := h', toks := s.toks + 1 }) :
    wpAny (model prog w) A (Builtin.«enumerate.__next__» ⟨[.ref e], []⟩) (fun fin s' => ∃ v, fin = .done (.ret v) ∧ Q v s') E s := by
  obtain ⟨hp, g, d, tk, os⟩ := s
  show wpAny _ _ (field (.ref e) 2 >>= _) _ _ _
  refine wpAny_bind (wpAny_field he rfl (x := .ref it) rfl ?_)
  refine wpAny_bind (nextOf_item hit hl hx fun h₁ hit₁ hs₁ => ?_)
  replace hs₁ : Heap.SameBut it hp h₁ := hs₁
  have he₁ : IsEnum h₁ e it c old := (hs₁.2 e hne).trans he
  show wpAny _ _ (field (.ref e) 3 >>= _) _ _ ⟨h₁, g, d, tk, os⟩
  refine wpAny_bind (wpAny_field he₁ rfl (x := rawInt c) rfl ?_)
  show wpAny _ _ (field (.ref e) 4 >>= _) _ _ ⟨h₁, g, d, tk, os⟩
  refine wpAny_bind (wpAny_field he₁ rfl (x := .none) rfl ?_)
  show wpAny _ _ (mkInt c >>= _) _ _ ⟨h₁, g, d, tk, os⟩
  refine wpAny_bind (wpAny_mkInt ?_)
  show wpAny _ _ (setField (.ref e) 3 (rawInt (c + 1)) >>= _) _ _ ⟨h₁, g, d, tk + 1, os⟩
  refine wpAny_bind (wpAny_setField_rec he₁ (by simp) fun h₂ he₂ hs₂ => ?_)
  replace hs₂ : Heap.SameBut e h₁ h₂ := hs₂
  replace he₂ : IsEnum h₂ e it (c + 1) old := he₂
  show wpAny _ _ (setField (.ref e) 4 .none >>= _) _ _ ⟨h₂, g, d, tk + 1, os⟩
  refine wpAny_bind (wpAny_setField_rec he₂ (by simp) fun h₃ he₃ hs₃ => ?_)
  replace hs₃ : Heap.SameBut e h₂ h₃ := hs₃
  replace he₃ : IsEnum h₃ e it (c + 1) old := he₃
  show wpAny _ _ (newTuple [.int c tk, x] >>= _) _ _ ⟨h₃, g, d, tk + 1, os⟩
  refine wpAny_bind (wpAny_newTuple ?_)
  have he₄ : IsEnum (h₃.push { cls := .type "tuple", data := .seq #[.int c tk, x] }) e it (c + 1) old := Heap.get?_push_of_some _ he₃
  generalize hh₄ : h₃.push { cls := .type "tuple", data := .seq #[.int c tk, x] } = h₄ at he₄
  have hsz : h₃.objs.size = hp.objs.size := by rw [hs₃.1, hs₂.1, hs₁.1]
  have hel : e < hp.objs.size := Heap.lt_size he
  have ht₄ : h₄.get? hp.objs.size = some { cls := .type "tuple", data := .seq #[.int c tk, x] } := by rw [← hh₄, ← hsz]; exact Heap.get?_push_size _ rfl
  have hz₄ : h₄.objs.size = hp.objs.size + 1 := by rw [← hh₄, Heap.size_push, hsz]
  have hk₄ : ∀ b o, b ≠ e → b ≠ it → hp.get? b = some o → h₄.get? b = some o := fun b o hbe hbi hb => by
    rw [← hh₄]; exact Heap.get?_push_of_some _ (hs₃.extBut b o hbe (hs₂.extBut b o hbe (hs₁.extBut b o hbi hb)))
  have hit₄ : IterIs t h₄ it l (i + 1) := by
    rw [← hh₄]; exact ((hit₁.ext hs₂.extBut (Ne.symm hne)).ext hs₃.extBut (Ne.symm hne)).at fun o e => Heap.get?_push_of_some _ e
  show wpAny _ _ (Builtin.SmallTypes.ownedTupleIsFree (.ref e) >>= _) _ _ ⟨h₄, g, d, tk + 1, os⟩
  rw [hsz]
  clear hh₄ he₃ hs₃ he₂ hs₂ he₁ hs₁ hit₁ hsz h₃ h₂ h₁
  refine wpAny_bind ?_
  unfold Builtin.SmallTypes.ownedTupleIsFree
  refine wpAny_bind (wpAny_field he₄ rfl (x := .none) rfl (wpAny_pure ?_))
  simp only [if_true]
  refine wpAny_bind (wpAny_rule ?_)
  refine wpAny_bind (wpAny_field he₄ rfl (x := old) rfl ?_)
  refine wpAny_bind (wpAny_setField_rec he₄ (by simp) fun h₅ he₅ hs₅ => ?_)
  replace hs₅ : Heap.SameBut e h₄ h₅ := hs₅
  replace he₅ : IsEnum h₅ e it (c + 1) x := he₅
  show wpAny _ _ (Builtin.SmallTypes.ownedTupleHandOut (.ref e) (.ref hp.objs.size) >>= _) _ _ ⟨h₅, g, d, tk + 1, os⟩
  refine wpAny_bind ?_
  unfold Builtin.SmallTypes.ownedTupleHandOut
  refine wpAny_bind (wpAny_setField_rec he₅ (by simp) fun h₆ he₆ hs₆ => ?_)
  replace hs₆ : Heap.SameBut e h₅ h₆ := hs₆
  replace he₆ : IsEnumOut h₆ e it (c + 1) x hp.objs.size := he₆
  refine wpAny_setField_rec he₆ (by simp) fun h₇ he₇ hs₇ => ?_
  replace hs₇ : Heap.SameBut e h₆ h₇ := hs₇
  replace he₇ : IsEnumOut h₇ e it (c + 1) x hp.objs.size := he₇
  refine wpAny_bind (wpAny_letGo (wpAny_pure ⟨_, rfl, hQ h₇ he₇ ?_ ?_ ?_ ?_⟩))
  · exact ((hit₄.ext hs₅.extBut (Ne.symm hne)).ext hs₆.extBut (Ne.symm hne)).ext hs₇.extBut (Ne.symm hne)
  · exact hs₇.extBut _ _ (Nat.ne_of_gt hel) (hs₆.extBut _ _ (Nat.ne_of_gt hel) (hs₅.extBut _ _ (Nat.ne_of_gt hel) ht₄))
  · rw [hs₇.1, hs₆.1, hs₅.1, hz₄]
  · exact fun b o hbe hbi hb => hs₇.extBut b o hbe (hs₆.extBut b o hbe (hs₅.extBut b o hbe (hk₄ b o hbe hbi hb)))
theorem pyNextE_item {t : Bool} {e it l : Addr} {i : Nat} {c : Int} {items : Array Value} {x old : Value} {Q : Option Value → Shared → Prop}
    (he : IsEnum s.heap e it c old) (hit : IterIs t s.heap it l i) (hl : SeqIs t s.heap l items) (hx : items[i]? = some x) (hne : e ≠ it)
    (hQ : ∀ h', IsEnumOut h' e it (c + 1) x s.heap.objs.size → IterIs t h' it l (i + 1) →
      h'.get? s.heap.objs.size = some { cls := .type "tuple", data := .seq #[.int c s.toks, x] } → h'.objs.size = s.heap.objs.size + 1 →
      (∀ b o, b ≠ e → b ≠ it → s.heap.get? b = some o → h'.get? b = some o) → Q (some (.ref s.heap.objs.size)) { s with heap := h', toks := s.toks + 1 }) :
    wpAny (model prog w) A (pyNext (.ref e)) Q E s := by
  have hT : s.TypeIs (.ref e) "enumerate" := ⟨_, he, rfl⟩
  unfold pyNext
  exact wpAny_bind (wpAny_attempt (wpAny_callSpecial?_slot (name := Str.ofString "__next__") hT F.slot_enumerate_next
    (wpAny_call_entry F.slot_enumerate_next hT F.entry_enumerate_next
      (enumB_item he hit hl hx hne fun h' a b c d k => wpAny_pure (hQ h' a b c d k)) (F.args_enumerate_next_1 _))))
theorem pyNextE_end {t : Bool} {e it l : Addr} {i : Nat} {c : Int} {items : Array Value} {old : Value} {Q : Option Value → Shared → Prop} (hh : A.handled = none)
    (he : IsEnum s.heap e it c old) (hit : IterIs t s.heap it l i) (hl : SeqIs t s.heap l items) (hx : items[i]? = none)
    (hQ : ∀ h', Heap.ExtBut it s.heap h' → Q none { s with heap := h' }) : wpAny (model prog w) A (pyNext (.ref e)) Q E s := by
  have hT : s.TypeIs (.ref e) "enumerate" := ⟨_, he, rfl⟩
  unfold pyNext
  refine wpAny_bind (wpAny_attempt (wpAny_callSpecial?_slot (name := Str.ofString "__next__") hT F.slot_enumerate_next
    (wpAny_call_entry F.slot_enumerate_next hT F.entry_enumerate_next ?_ (F.args_enumerate_next_1 _))))
  show wpAny _ _ (field (.ref e) 2 >>= _) _ _ _
  refine wpAny_bind (wpAny_field he rfl (x := .ref it) rfl ?_)
  refine wpAny_bind (nextOf_end hh hit hl hx fun h' x he' hx' => ?_)
  obtain ⟨o, ho, hc⟩ := hx'
  refine wpAny_bind (wpAny_isInstance (T := "StopIteration") (b := true) ⟨o, ho, hc⟩ isSubtype_stop ?_)
  exact wpAny_pure (hQ _ he')
end
def ItE (K : PySem.W.Frag) (t : Bool) (c : Int) (a : Addr) : It :=
  ⟨fun i H => ∃ (xs : List V) (x : V), SqB K H t a xs ∧ xs[i]? = some x, fun i H v H' => ∃ T x, v = .ref T ∧ H T = none ∧ H' = upd H T (.tup [.int (c + (i : Nat)), x]) ∧ ∀ xs, SqB K H t a xs → xs[i]? = some x, fun i H => ∃ xs : List V, SqB K H t a xs ∧ xs.length ≤ i⟩
theorem turn_enumB {P : Program} {w : World} {K : PySem.W.Frag} {elts : List Expr} {kk : Nat} {tpos : Pos} {t : Bool} {c : Int} (a e it : Addr) :
    Turn P w K (.Tuple elts kk tpos) (ItE K t c a) [e, it] e (fun i h => (∃ old, IsEnum h e it (c + ((i : Nat) : Int)) old) ∧ IterIs t h it a i ∧ e ≠ it) where
  mem := by simp
  obj := fun i h st b hb => by
    obtain ⟨⟨old, he⟩, hi, _⟩ := st
    have e' : b = e ∨ b = it := by simpa using hb
    rcases e' with z | z
    · rw [z]; exact ⟨_, he, fun v q => nomatch q⟩
    · rw [z]; exact hi.obj
  keep := fun i h h' st k => let ⟨⟨old, he⟩, hi, hne⟩ := st; ⟨⟨old, k e (by simp) _ he⟩, hi.at fun o q => k it (by simp) o q, hne⟩
  item := by
    intro X hP hw hK hc i pins s σ H E I hf st hg
    subst hP hw hK
    obtain ⟨⟨old, he⟩, hit, hne⟩ := st
    obtain ⟨xs, x, hq, hx⟩ := hg
    obtain ⟨its, rv, p, _⟩ := seqB I hq
    obtain ⟨u, hu, ru⟩ := rv.get hx
    have hel : e < s.heap.objs.size := Heap.lt_size he
    have hil : it < s.heap.objs.size := by obtain ⟨_, q, _⟩ := hit.obj; exact Heap.lt_size q
    refine pyNextE_item he hit p (x := u) (by simpa using hu) hne fun h' ho hit' hT hsz hk => ?_
    refine ⟨_, rfl, wpAny_letOwnedTupleGo_enum (s := { s with heap := h', toks := s.toks + 1 }) ho fun h'' he' sb => ?_⟩
    have hT2 : h''.get? s.heap.objs.size = some { cls := .type "tuple", data := .seq #[.int (c + (i : Nat)) s.toks, u] } := (sb.2 _ (Nat.ne_of_gt hel)).trans hT
    have new : ObjOk X.prog X.w (upd H s.heap.objs.size (.tup [.int (c + (i : Nat)), x])) h'' s.heap.objs.size (.tup [.int (c + (i : Nat)), x]) :=
      ⟨by show 2 ≤ sizeLine; decide, [.int (c + (i : Nat)) s.toks, u], .cons ⟨_, rfl⟩ (.cons ru .nil), ⟨_, hT2, rfl, _, rfl⟩⟩
    have I1 : Inv X pins σ (upd H s.heap.objs.size (.tup [.int (c + (i : Nat)), x])) { s with heap := h'', toks := s.toks + 1 } :=
      I.turnedNew (ch := [e, it]) (fun b ob hb q => (sb.2 b (fun z => hb (by simp [z]))).trans (hk b ob (fun z => hb (by simp [z])) (fun z => hb (by simp [z])) q)) hf (Nat.le_refl _) new
    refine ⟨.ref s.heap.objs.size, _, I1, rfl, ⟨_, x, rfl, I.hok.fresh (Nat.le_refl _), rfl, fun ys hy => by rw [seqB_inj I hy hq]; exact hx⟩, ⟨⟨u, ?_⟩, hit'.at fun o q => (sb.2 it (Ne.symm hne)).trans q, hne⟩, fun b hb => ?_⟩
    · have e1 : c + ((i + 1 : Nat) : Int) = c + (i : Int) + 1 := by omega
      rw [e1]; exact he'
    · have hb' : b < s.heap.objs.size := by
        have e' : b = e ∨ b = it := by simpa using hb
        rcases e' with z | z
        · rw [z]; exact hel
        · rw [z]; exact hil
      rw [upd_ne (Nat.ne_of_lt hb')]
      exact (hf b hb).1
  done := by
    intro X hP hw hK hc i pins s σ H E I hf st hg
    subst hP hw hK
    obtain ⟨⟨old, he⟩, hit, hne⟩ := st
    obtain ⟨xs, hq, hx⟩ := hg
    obtain ⟨its, rv, p, _⟩ := seqB I hq
    obtain ⟨f0, f1, f2, f3, f4, f5⟩ := hf it (by simp)
    have hl := rv.length
    exact pyNextE_end (I.ok.hd hc) he hit p (by simp; omega) fun h' eb => ⟨rfl, I.turned (t' := s.toks) (fun b o hb q => eb b o hb q) f0 f1 f3 f4 f5⟩
  self := fun A i s Q E st h => let ⟨⟨_, he⟩, _⟩ := st; wpAny_pyIter_enum he h
def iEnumB (K : PySem.W.Frag) (c : Int) (ta : TA) : TI := fun σ H R => ta σ H fun vs H1 => ∃ (t : Bool) (a : Addr) (xs : List V), vs = [.ref a] ∧ SqB K H1 t a xs ∧ R (ItE K t c a) H1
section
variable {X : Cx} {pins : List (Addr × Obj)} {σ : L2.St} {H : Hp} {s : Shared}
theorem enumB_begun {elts : List Expr} {kk : Nat} {tpos : Pos} {t : Bool} {c : Int} {a : Addr} {h' : Heap} {R : It → Hp → Prop} (I2 : Inv X pins σ H { s with heap := h' }) (I1 : Inv X pins σ H s)
    (he : IsEnum h' (s.heap.objs.size + 1) s.heap.objs.size c .none) (hit : h'.get? s.heap.objs.size = some (iterObj t a)) (q : R (ItE X.K t c a) H) :
    PIE X pins σ (.Tuple elts kk tpos) R (.ref (s.heap.objs.size + 1)) { s with heap := h' } := by
  refine ⟨s.heap.objs.size + 1, [s.heap.objs.size + 1, s.heap.objs.size], _, _, H, rfl, I2, turn_enumB a (s.heap.objs.size + 1) s.heap.objs.size, ⟨⟨.none, ?_⟩, .new hit, Nat.succ_ne_self _⟩, fun b hb => ?_, q⟩
  · show IsEnum h' _ _ (c + ((0 : Nat) : Int)) _
    rw [show c + ((0 : Nat) : Int) = c by simp]; exact he
  · have e' : b = s.heap.objs.size + 1 ∨ b = s.heap.objs.size := by simpa using hb
    have hle : s.heap.objs.size ≤ b := by
      rcases e' with z | z
      · rw [z]; exact Nat.le_add_right _ _
      · rw [z]; exact Nat.le_refl _
    exact I1.fpOk hle (I1.hok.fresh hle)
end
theorem pi_enumB {X : Cx} {e : Expr} {ta : TA} {p pos tpos : Pos} {elts : List Expr} {kk : Nat} (hg : Gl X "enumerate") (hm : X.mg "enumerate" = none) (ha : PA X [e] ta) (hs : starEach [e] X.env = [(false, eval e X.env)]) :
    PI X (.Tuple elts kk tpos) (.Call (.Name "enumerate" p) [e] [] pos) (iEnumB X.K 0 ta) := by
  refine ⟨fun pins s σ H R I h => ?_⟩
  refine PyProof.Rows.Call_ (ld_blt I hg hm PyProof.Rows.boot_enumerate (PyProof.Rows.callWith_type1 (thn (ha.run pos pins s σ H _ I h) fun us s1 ⟨vs, H1, I1, r1, q1⟩ => ?_) hs rfl))
  obtain ⟨t, a, xs, ex, hq, q⟩ := q1
  subst ex
  cases r1 with
  | cons r rr =>
    cases rr
    cases r
    obtain ⟨its, rv, p', _⟩ := seqB I1 hq
    refine enum_begins1 (begins t a its.toArray) p' fun h' he hit hsz hk => wpAny_pyIter_enum he ?_
    exact enumB_begun (I1.kept (t' := s1.toks) hk) I1 he hit q
theorem pi_enumS {X : Cx} {e : Expr} {ta : TA} {p pos tpos cpos kpos : Pos} {ck : Nat} {elts : List Expr} {kk : Nat} {c : Int} (h0 : -(2 ^ 63) ≤ c) (h1 : c < 2 ^ 63) (hg : Gl X "enumerate") (hm : X.mg "enumerate" = none) (ha : PA X [e] ta) (hs : starEach [e] X.env = [(false, eval e X.env)]) :
    PI X (.Tuple elts kk tpos) (.Call (.Name "enumerate" p) [e] [⟨some (Str.ofString "start"), .Constant (.int c) ck cpos, kpos⟩] pos) (iEnumB X.K c ta) := by
  refine ⟨fun pins s σ H R I h => ?_⟩
  refine wpAny_Call_Name_kw (ld_blt I hg hm PyProof.Rows.boot_enumerate ?_)
  refine (callWith_type_kw (kws := [⟨some (Str.ofString "start"), .Constant (.int c) ck cpos, kpos⟩]) (thn (ha.run pos pins s σ H _ I h) fun us s1 ⟨vs, H1, I1, r1, q1⟩ => ?_) (by rw [hs]; rfl) (by rw [hs]; rfl))
  refine PyProof.Rows.kws_cons (wpAny_Constant_int (PyProof.Rows.kws_nil ?_))
  obtain ⟨t, a, xs, ex, hq, q⟩ := q1
  subst ex
  cases r1 with
  | cons r rr =>
    cases rr
    cases r
    have I1 := I1.tok (s1.toks + 1)
    obtain ⟨its, rv, p', _⟩ := seqB I1 hq
    refine enum_begins_start (s := { s1 with toks := s1.toks + 1 }) (begins t a its.toArray) p' h0 h1 fun h' he hit hsz hk => wpAny_pyIter_enum he ?_
    exact enumB_begun (s := { s1 with toks := s1.toks + 1 }) (I1.kept (t' := s1.toks + 1) hk) I1 he hit q
theorem walk_enumB {K : PySem.W.Frag} {t : Bool} {c : Int} {a : Addr} {xs : List V} : Walk (ItE K t c a) xs.length (fun H => SqB K H t a xs) (YPair (fun i => some (.int (c + (i : Nat)))) (fun i => xs[i]?)) := by
  refine ⟨fun i _ hi q => ⟨xs, xs[i], q, by simp [hi]⟩, fun _ q => ⟨xs, q, Nat.le_refl _⟩, fun i H v H' _ q y => ?_⟩
  obtain ⟨T, x, h1, h2, h3, h4⟩ := y
  exact ⟨T, .int (c + (i : Nat)), x, h1, h2, h3, rfl, h4 xs q⟩
end DL

set_option Elab.async false
set_option linter.all false
set_option maxRecDepth 100000
set_option maxHeartbeats 4000000
/-! We: truth, items, slices, fields, built-ins, targets, what is walked. -/
namespace DL
open PySem PySem.Spec L2

section
variable {T : Tab} {K : PySem.W.Frag} {E : WX} {σ : L2.St} {ρ : Env} {F F' : Hp} {al al' : List Addr} {H H' : Hp} {S S' : Sto}
theorem isEmptyL {vs : List V} {ws : List W} (r : RwL T K F al vs ws) : vs.isEmpty = ws.isEmpty := by cases r <;> rfl
theorem truthy_sound {v : V} {w : W} {k : Bool} (g : Good T K F al S H) (r : Vw T K F al H v w) (e : truthy w = some k) : TruV K v H k := by
  unfold truthy at e
  split at e
  · cases e; cases r.non; rfl
  · cases e; cases r.bl; rfl
  · cases e; cases r.int; rfl
  · split at e
    · cases e; cases r.str
      rename_i hl
      exact ⟨by rw [← limit_eq]; exact hl, rfl⟩
    · cases e
  · cases e
    obtain ⟨a, xs, rfl, h1, h2⟩ := r.tup g.sub
    exact .inr (.inl ⟨xs, h1, by rw [isEmptyL h2]⟩)
  · cases e
    obtain ⟨a, xs, rfl, h1, h2⟩ := r.lst g.sub
    exact .inl ⟨xs, h1, by rw [isEmptyL h2]⟩
  · cases e
theorem atI_sound {vs : List V} {ws : List W} {i : Int} {w : W} (r : RwL T K F al vs ws) (h : atI ws i = some w) : ∃ v, atI vs i = some v ∧ Rw T K F al v w := by
  unfold atI at h ⊢
  rw [r.length]
  cases e : ixN ws.length i with
  | none => rw [e] at h; simp at h
  | some j =>
    rw [e] at h
    exact r.get h
theorem ix_sound {x y : V} {a b w : W} {Q : VK} (g : Good T K F al S H) (rx : Vw T K F al H x a) (ry : Rw T K F al y b) (e : getIx a b = some w) (h : RQ T K E σ F al H (.ok w S) Q) : rIx K x y H Q := by
  unfold getIx at e
  split at e
  · cases ry
    obtain ⟨p, xs, rfl, h1, h2⟩ := rx.tup g.sub
    obtain ⟨v, h3, h4⟩ := atI_sound h2 e
    exact .inr (.inl ⟨p, xs, _, v, rfl, rfl, h1, h3, h.val g h4⟩)
  · cases ry
    obtain ⟨p, xs, rfl, h1, h2⟩ := rx.lst g.sub
    obtain ⟨v, h3, h4⟩ := atI_sound h2 e
    exact .inl ⟨p, xs, _, v, rfl, rfl, h1, h3, h.val g h4⟩
  · cases e
def rSl (K : PySem.W.Frag) : V → Option Int → Option Int → Hp → VK → Prop := fun x lo hi H Q => rSlA K x lo hi H Q ∨ rSlL K x lo hi H Q
theorem sl_any {X : Cx} : SlR X (rSl X.K) := sl_tupA.or sl_list
theorem cut_sound {vs : List V} {ws : List W} (r : RwL T K F al vs ws) (lo hi : Option Int) : RwL T K F al (cutV vs lo hi) (cutW ws lo hi) := by
  unfold cutV cutW
  rw [r.length]
  exact (r.drop _).take _
theorem cut_whole {ws : List W} {lo hi : Option Int} (h : HT.sIx ws.length 0 lo = 0 ∧ HT.sIx ws.length ws.length hi = ws.length) : cutW ws lo hi = ws := by
  unfold cutW
  rw [h.1, h.2]
  simp
theorem sl_sound {x : V} {a w : W} {lo hi : Option Int} {Q : VK} (g : Good T K F al S H) (rx : Vw T K F al H x a) (e : getSl a lo hi = some w) (h : RQ T K E σ F al H (.ok w S) Q) : rSl K x lo hi H Q := by
  unfold getSl at e
  split at e
  · cases e
    obtain ⟨p, xs, rfl, h1, h2⟩ := rx.tup g.sub
    refine .inl ⟨p, xs, rfl, h1, fun hw => ?_, fun _ t ht => h.new g (cut_sound h2 _ _) ht⟩
    rw [h2.length] at hw
    refine h.val g ?_
    rw [cut_whole hw]
    cases rx with
    | same r => exact r
  · cases e
    obtain ⟨p, xs, rfl, h1, h2⟩ := rx.lst g.sub
    exact .inr ⟨p, xs, rfl, h1, fun t ht => h.newL g (cut_sound h2 _ _) ht⟩
  · cases e
theorem lookF_sound (hn : T.fld.Nodup) {f : Nat} {w : W} (hf : f < T.fld.length) : ∀ {gs : List (Str × V)} {fs : List (Nat × W)}, RwF T K F al gs fs → lookF f fs = some w → ∃ v, gs.lookup (T.f f) = some v ∧ Rw T K F al v w
  | _, _, .nil, e => by cases e
  | _, _, .cons (i := i) (fs := fs) l r t, e => by
    unfold lookF at e
    by_cases h : f = i
    · subst h
      rw [if_pos rfl] at e; cases e
      exact ⟨_, by rw [List.lookup_cons_self], r⟩
    · rw [if_neg h] at e
      obtain ⟨v, h1, h2⟩ := lookF_sound hn hf t e
      refine ⟨v, ?_, h2⟩
      rw [List.lookup_cons, show (T.f f == T.f i) = false from beq_eq_false_iff_ne.mpr fun q => h (Tab.f_inj hn hf l q)]
      exact h1
theorem noField {m : Str} (hm : m ∉ T.fld) : ∀ {gs : List (Str × V)} {fs : List (Nat × W)}, RwF T K F al gs fs → gs.lookup m = none
  | _, _, .nil => rfl
  | _, _, .cons (i := i) l r t => by
    rw [List.lookup_cons, show (m == T.f i) = false from beq_eq_false_iff_ne.mpr fun q => hm ?_]
    · exact noField hm t
    · rw [q]; unfold Tab.f; rw [List.getD_eq_getElem?_getD, List.getElem?_eq_getElem l]; exact List.getElem_mem l
/-- an instance's fields, however it stands -/
theorem getFld_sound {x : V} {a w : W} {c f : Nat} (hn : T.fld.Nodup) (hf : f < T.fld.length) (g : Good T K F al S H) (rx : Rw T K F al x a) (e : getFld S c f a = some w) :
    ∃ p dx gs v, x = .ref p ∧ H p = some (.ins (T.c c) dx gs) ∧ gs.lookup (T.f f) = some v ∧ Rw T K F al v w := by
  cases rx with
  | @ins a dx d gs fs h1 h2 =>
    replace e : (if d = c then lookF f fs else none) = some w := e
    split at e
    · rename_i q; subst q
      obtain ⟨v, h3, h4⟩ := lookF_sound hn hf h2 e
      exact ⟨_, _, _, v, rfl, g.sub _ _ h1, h3, h4⟩
    · cases e
  | @loc a n ha =>
    cases q : S[n]? with
    | none => simp only [getFld, q] at e; cases e
    | some cl =>
      have hc := g.cell n a cl ha q
      cases cl with
      | obj d fs =>
        simp only [getFld, q] at e
        split at e
        · rename_i q2; subst q2
          obtain ⟨dx, gs, h1, _, h2⟩ := hc
          obtain ⟨v, h3, h4⟩ := lookF_sound hn hf h2 e
          exact ⟨_, _, _, v, rfl, h1, h3, h4⟩
        · cases e
      | frz w2 =>
        cases w2 with
        | ins d fs =>
          simp only [getFld, q] at e
          split at e
          · rename_i q2; subst q2
            have hc : Rw T K F al (.ref a) (.ins d fs) := hc
            cases hc with
            | ins h1 h2 =>
              obtain ⟨v, h3, h4⟩ := lookF_sound hn hf h2 e
              exact ⟨_, _, _, v, rfl, g.sub _ _ h1, h3, h4⟩
          · cases e
        | _ => simp only [getFld, q] at e; cases e
      | _ => simp only [getFld, q] at e; cases e
  | _ => cases e

/-! ### isinstance -/
def Ty.s : Ty → String
  | .int => "int" | .bool => "bool" | .str => "str" | .tuple => "tuple" | .list => "list"
theorem tyX_lst {p : Addr} {xs : List V} (h : SqL K H p xs) : TyX K H (.ref p) (.type "list") := by
  rcases h with (h | ⟨o, h⟩) | ⟨o, its, n, h1, h2, _⟩
  · exact .base (.lst h)
  · exact .base (.frz h)
  · exact .kList h1 h2
theorem tyX_tup {p : Addr} {xs : List V} (h : SqT K H p xs) : TyX K H (.ref p) (.type "tuple") := by
  rcases h with (h | ⟨o, h⟩) | ⟨o, its, n, h1, h2, _⟩
  · exact .base (.tup h)
  · exact .fTuple h
  · exact .kTuple h1 h2
theorem isi_sound {x : V} {a : W} {t : Ty} {k : Bool} {Q : VK} (g : Good T K F al S H) (rx : Vw T K F al H x a) (e : isTy t a = some k) (h : Q (.bl k) H) : rIsi K [x, .ty t.s] H Q := by
  have kk : ∀ {s : String} {b : Bool}, kitB s t.s = some b → TyX K H x (.type s) → b = k → rIsi K [x, .ty t.s] H Q := fun {s b} h1 h2 h3 => ⟨x, .ty t.s, .type s, .type t.s, b, rfl, .ty _, h2, kit_ty h1, by rw [h3]; exact h⟩
  cases a with
  | non => cases rx.non; cases t <;> (cases e; exact kk (s := "NoneType") (by decide +kernel) (.base .non) rfl)
  | bl b => cases rx.bl; cases t <;> (cases e; exact kk (s := "bool") (by decide +kernel) (.base (.bl _)) rfl)
  | int i => cases rx.int; cases t <;> (cases e; exact kk (s := "int") (by decide +kernel) (.base (.int _)) rfl)
  | str i => cases rx.str; cases t <;> (cases e; exact kk (s := "str") (by decide +kernel) (.base (.str _)) rfl)
  | tup ws => obtain ⟨p, xs, rfl, h1, _⟩ := rx.tup g.sub; cases t <;> (cases e; exact kk (s := "tuple") (by decide +kernel) (tyX_tup h1) rfl)
  | lst ws => obtain ⟨p, xs, rfl, h1, _⟩ := rx.lst g.sub; cases t <;> (cases e; exact kk (s := "list") (by decide +kernel) (tyX_lst h1) rfl)
  | ins c fs => cases t <;> cases e
  | loc n => cases t <;> cases e

/-! ### built-in functions -/
theorem allB_sound : ∀ {ws : List W} {bs : List Bool}, allB ws = some bs → ws = bs.map W.bl
  | [], bs, e => by cases e; rfl
  | .bl b :: ws, bs, e => by
    unfold allB at e
    rw [Option.map_eq_some_iff] at e
    obtain ⟨cs, h1, rfl⟩ := e
    rw [List.map_cons, ← allB_sound h1]
  | .non :: _, _, e => by cases e
  | .int _ :: _, _, e => by cases e
  | .str _ :: _, _, e => by cases e
  | .tup _ :: _, _, e => by cases e
  | .lst _ :: _, _, e => by cases e
  | .ins _ _ :: _, _, e => by cases e
  | .loc _ :: _, _, e => by cases e
theorem allI_sound : ∀ {ws : List W} {bs : List Int}, allI ws = some bs → ws = bs.map W.int
  | [], bs, e => by cases e; rfl
  | .int b :: ws, bs, e => by
    unfold allI at e
    rw [Option.map_eq_some_iff] at e
    obtain ⟨cs, h1, rfl⟩ := e
    rw [List.map_cons, ← allI_sound h1]
  | .non :: _, _, e => by cases e
  | .bl _ :: _, _, e => by cases e
  | .str _ :: _, _, e => by cases e
  | .tup _ :: _, _, e => by cases e
  | .lst _ :: _, _, e => by cases e
  | .ins _ _ :: _, _, e => by cases e
  | .loc _ :: _, _, e => by cases e
def Prim.nm : Prim → Str
  | .len => "len" | .abs => "abs" | .max => "max" | .min => "min" | .all => "all" | .any => "any" | .tuple => "tuple" | .list => "list" | .divmod => "divmod" | .sum => "sum"
abbrev rCall := List V → Hp → VK → Prop
def rPrim (K : PySem.W.Frag) : Prim → rCall
  | .len => fun xs H Q => (∃ p ys, xs = [.ref p] ∧ (SqL K H p ys ∨ SqT K H p ys) ∧ Q (.int ys.length) H) ∨ ∃ z, xs = [.str z] ∧ z.length ≤ sizeLine ∧ Q (.int z.length) H
  | .abs => fun xs H Q => ∃ i, xs = [.int i] ∧ Q (.int (if i < 0 then -i else i)) H
  | .max => fun xs H Q => ∃ i j, xs = [.int i, .int j] ∧ Q (.int (if j > i then j else i)) H
  | .min => fun xs H Q => ∃ i j, xs = [.int i, .int j] ∧ Q (.int (if j < i then j else i)) H
  | .all => rAll K
  | .any => rAny K
  | .tuple => fun xs H Q => ∃ p ys, xs = [.ref p] ∧ ((SqL K H p ys ∧ ∀ l, H l = none → Q (.ref l) (upd H l (.tup ys))) ∨ (SqT K H p ys ∧ Q (.ref p) H))
  | .list => fun xs H Q => ∃ p ys, xs = [.ref p] ∧ (SqL K H p ys ∨ SqT K H p ys) ∧ ∀ l, H l = none → Q (.ref l) (upd H l (.lst ys))
  | .divmod => fun xs H Q => ∃ i j, xs = [.int i, .int j] ∧ CDiv i j ∧ ∀ p, H p = none → Q (.ref p) (upd H p (.tup [.int (i / j), .int (i % j)]))
  | .sum => rSum K
theorem vwL1 {xs : List V} {w : W} (h : VwL T K F al H xs [w]) : ∃ x, xs = [x] ∧ Vw T K F al H x w := by
  cases h with
  | cons a b => cases b; exact ⟨_, rfl, a⟩
theorem vwL2 {xs : List V} {w u : W} (h : VwL T K F al H xs [w, u]) : ∃ x y, xs = [x, y] ∧ Vw T K F al H x w ∧ Vw T K F al H y u := by
  cases h with
  | cons a b => cases b with
    | cons b c => cases c; exact ⟨_, _, rfl, a, b⟩
theorem prim_sound {p : Prim} {xs : List V} {ws : List W} {w : W} {Q : VK} (g : Good T K F al S H) (rx : VwL T K F al H xs ws) (e : prim p ws = some w) (h : RQ T K E σ F al H (.ok w S) Q) : rPrim K p xs H Q := by
  unfold prim at e
  split at e
  · cases e; obtain ⟨x, rfl, r⟩ := vwL1 rx
    obtain ⟨q, ys, rfl, h1, h2⟩ := r.tup g.sub
    exact .inl ⟨q, ys, rfl, .inr h1, by rw [h2.length]; exact h.val g (.int _)⟩
  · cases e; obtain ⟨x, rfl, r⟩ := vwL1 rx
    obtain ⟨q, ys, rfl, h1, h2⟩ := r.lst g.sub
    exact .inl ⟨q, ys, rfl, .inl h1, by rw [h2.length]; exact h.val g (.int _)⟩
  · split at e
    · cases e; obtain ⟨x, rfl, r⟩ := vwL1 rx; cases r.str
      rename_i hl
      exact .inr ⟨_, rfl, by rw [← limit_eq]; exact hl, h.val g (.int _)⟩
    · cases e
  · cases e; obtain ⟨x, rfl, r⟩ := vwL1 rx; cases r.int
    exact ⟨_, rfl, h.val g (.int _)⟩
  · cases e; obtain ⟨x, y, rfl, r1, r2⟩ := vwL2 rx; cases r1.int; cases r2.int
    exact ⟨_, _, rfl, h.val g (.int _)⟩
  · cases e; obtain ⟨x, y, rfl, r1, r2⟩ := vwL2 rx; cases r1.int; cases r2.int
    exact ⟨_, _, rfl, h.val g (.int _)⟩
  · rw [Option.map_eq_some_iff] at e
    obtain ⟨bs, h1, rfl⟩ := e
    obtain ⟨x, rfl, r⟩ := vwL1 rx
    obtain ⟨q, ys, rfl, h3, h4⟩ := r.lst g.sub
    rw [allB_sound h1] at h4
    have := h4.bls
    subst this
    exact ⟨q, bs, rfl, h3, h.val g (.bl _)⟩
  · rw [Option.map_eq_some_iff] at e
    obtain ⟨bs, h1, rfl⟩ := e
    obtain ⟨x, rfl, r⟩ := vwL1 rx
    obtain ⟨q, ys, rfl, h3, h4⟩ := r.lst g.sub
    rw [allB_sound h1] at h4
    have := h4.bls
    subst this
    exact ⟨q, bs, rfl, h3, h.val g (.bl _)⟩
  · cases e; obtain ⟨x, rfl, r⟩ := vwL1 rx
    obtain ⟨q, ys, rfl, h1, h2⟩ := r.tup g.sub
    refine ⟨q, ys, rfl, .inr ⟨h1, h.val g ?_⟩⟩
    cases r with
    | same r => exact r
  · cases e; obtain ⟨x, rfl, r⟩ := vwL1 rx
    obtain ⟨q, ys, rfl, h1, h2⟩ := r.lst g.sub
    exact ⟨q, ys, rfl, .inl ⟨h1, fun t ht => h.new g h2 ht⟩⟩
  · cases e; obtain ⟨x, rfl, r⟩ := vwL1 rx
    obtain ⟨q, ys, rfl, h1, h2⟩ := r.tup g.sub
    exact ⟨q, ys, rfl, .inr h1, fun t ht => h.newL g h2 ht⟩
  · cases e; obtain ⟨x, rfl, r⟩ := vwL1 rx
    obtain ⟨q, ys, rfl, h1, h2⟩ := r.lst g.sub
    exact ⟨q, ys, rfl, .inl h1, fun t ht => h.newL g h2 ht⟩
  · split at e
    · cases e; obtain ⟨x, y, rfl, r1, r2⟩ := vwL2 rx; cases r1.int; cases r2.int
      rename_i hl
      exact ⟨_, _, rfl, hl, fun t ht => h.new g (.cons (.int _) (.cons (.int _) .nil)) ht⟩
    · cases e
  · rw [Option.map_eq_some_iff] at e
    obtain ⟨bs, h1, rfl⟩ := e
    obtain ⟨x, rfl, r⟩ := vwL1 rx
    obtain ⟨q, ys, rfl, h3, h4⟩ := r.lst g.sub
    rw [allI_sound h1] at h4
    have := h4.ints
    subst this
    exact ⟨q, bs, rfl, h3, h.val g (.int _)⟩
  · cases e
theorem items_sound {v : V} {w : W} {ws : List W} (g : Good T K F al S H) (r : Vw T K F al H v w) (e : items w = some ws) : ∃ a xs, v = .ref a ∧ (SqL K H a xs ∨ SqT K H a xs) ∧ RwL T K F al xs ws := by
  unfold items at e
  split at e
  · cases e; obtain ⟨a, xs, h1, h2, h3⟩ := r.tup g.sub; exact ⟨a, xs, h1, .inr h2, h3⟩
  · cases e; obtain ⟨a, xs, h1, h2, h3⟩ := r.lst g.sub; exact ⟨a, xs, h1, .inl h2, h3⟩
  · cases e

/-! ### targets -/
theorem setAll_mono : ∀ {is : List Nat} {ws : List W} {ρ ρ' : Env}, setAll is ws ρ = some ρ' → ρ'.length = ρ.length
  | [], [], _, _, e => by cases e; rfl
  | [], _ :: _, _, _, e => by cases e
  | _ :: _, [], _, _, e => by cases e
  | i :: is, w :: ws, ρ, ρ', e => by
    have := setAll_mono (is := is) (ws := ws) e
    rw [this, List.length_set]
def gAll : List Nat → TGs
  | [] => gNil
  | i :: is => gCons (gName i) (gAll is)
def wiped (vs : List Nat) (σ : L2.St) : L2.St := L2.wipe σ vs
theorem wipe_set {σ : L2.St} {i : Nat} {v : Option V} : ∀ {vs : List Nat}, i ∈ vs → L2.wipe (σ.set i v) vs = L2.wipe σ vs
  | [], h => by cases h
  | u :: vs, h => by
    unfold L2.wipe
    by_cases e : i ∈ vs
    · rw [wipe_set e]
    · have : i = u := by rcases List.mem_cons.mp h with h | h; exact h; exact absurd h e
      subst this
      have : ∀ (ws : List Nat) (σ : L2.St), (L2.wipe (σ.set i v) ws).set i none = (L2.wipe σ ws).set i none := by
        intro ws
        induction ws with
        | nil => intro σ; show (σ.set i v).set i none = σ.set i none; rw [List.set_set]
        | cons x ws ih =>
          intro σ
          show ((L2.wipe (σ.set i v) ws).set x none).set i none = ((L2.wipe σ ws).set x none).set i none
          by_cases q : x = i
          · subst q; rw [List.set_set, List.set_set]; exact ih σ
          · rw [List.set_comm _ _ q, ih σ, List.set_comm _ _ q]
      exact this vs σ
theorem wipe_idem (σ : L2.St) (vs : List Nat) : True := trivial
theorem wipe_envOk (e : EnvOk T K F al σ ρ) : ∀ vs : List Nat, EnvOk T K F al (L2.wipe σ vs) (wipeW ρ vs)
  | [] => e
  | v :: vs => (wipe_envOk e vs).wipe v
/-- Q is wanted of all slots that fit, the slots out of vs as they were -/
theorem gAll_sound (vs : List Nat) : ∀ {is : List Nat} {xs : List V} {ws : List W} {σ σ0 : L2.St} {ρ ρ' : Env} {Q : L2.St → Hp → Prop}, RwL T K F al xs ws → EnvOk T K F al σ ρ → setAll is ws ρ = some ρ' → (∀ i ∈ is, i ∈ vs) → L2.wipe σ vs = L2.wipe σ0 vs →
    (∀ σ', EnvOk T K F al σ' ρ' → L2.wipe σ' vs = L2.wipe σ0 vs → Q σ' H) → gAll is xs σ H Q
  | [], _, _, σ, σ0, ρ, ρ', Q, .nil, e, h, _, hw, k => by cases h; exact ⟨rfl, k σ e hw⟩
  | [], _, _, _, _, _, _, _, .cons _ _, _, h, _, _, _ => by cases h
  | _ :: _, _, _, _, _, _, _, _, .nil, _, h, _, _, _ => by cases h
  | i :: is, _, _, σ, σ0, ρ, ρ', Q, .cons r t, e, h, hv, hw, k => by
    refine ⟨_, _, rfl, ?_⟩
    exact gAll_sound vs t (e.set r i) h (fun j hj => hv j (List.mem_cons_of_mem _ hj)) (by rw [wipe_set (hv i (List.mem_cons_self ..))]; exact hw) k
end

/-! ### a star in a target -/
section
variable {prog : Program} {w : World} {A : Around} {E : Value → Shared → Prop} {s : Shared} {env : PySem.Env}
theorem starT {l : Addr} {items : Array Value} {n i : Nat} {Q : List Value → Shared → Prop} (hl : PyProof.Rows.IsTup s.heap l items) (hh : A.handled = none) (hi : i < n) (hn : n ≤ items.size + 1) (hz : items.size ≤ 16384)
    (h : ∀ (h' : Heap) (tk : Nat), (∀ b o, s.heap.get? b = some o → h'.get? b = some o) → Q (items.toList.take i ++ [.ref h'.objs.size] ++ (items.toList.drop i).drop (items.size + 1 - n)) { s with heap := h'.push { cls := .type "list", data := .seq ((items.toList.drop i).take (items.size + 1 - n)).toArray }, toks := tk }) :
    wpAny (model prog w) A (unpackItems (.ref l) n (some i)) Q E s := by
  have hlt : l ≠ s.heap.objs.size := by obtain ⟨o, ho, _⟩ := hl; exact Nat.ne_of_lt (Heap.lt_size ho)
  unfold unpackItems
  refine wpAny_bind ?_
  unfold notIterableAtAll
  refine wpAny_bind (wpAny_specialOf hl.typeIs PyProof.Rows.slot_tuple_iter.lookup ?_)
  refine wpAny_pure ?_
  simp only [Bool.false_eq_true, if_false]
  refine wpAny_bind (wpAny_holding (PyProof.Rows.iter_tuple hl ?_))
  refine wpAny_bind (wpAny_holding (PyProof.Rows.draw_tuple hlt i 0 _ _ ⟨_, Heap.get?_push_size _ rfl, rfl, rfl⟩ (hl.push _) (by omega) fun h₁ hit₁ hs₁ => ?_))
  have hl₁ : PyProof.Rows.IsTup h₁ l items := (hl.push _).extBut hs₁.extBut hlt
  rw [Nat.zero_add] at hit₁
  have hit₁' := hit₁
  obtain ⟨oi, hoi, _⟩ := hit₁'
  have hl₁' := hl₁
  obtain ⟨ol, hol, _⟩ := hl₁'
  rw [List.drop_zero]
  have hfl : (items.toList.take i).length = i := by rw [List.length_take, Array.length_toList]; omega
  rw [if_neg (show ¬ ((items.toList.take i).length < i) by rw [hfl]; omega)]
  refine wpAny_bind (wpAny_holding (PySem.W.kun_collect (s := { s with heap := h₁ }) (T := "tuple_iterator") (.inr (.inr (.inr rfl))) (Walks.tuple (A := A.in1) hh s.heap.objs.size l hlt items) (fun j u st => st.1.typeIs) (k := i) (by omega) ⟨hit₁, hl₁⟩ (Heap.lt_size hoi) (Heap.lt_size hol) (fun h₂ tk hk => ?_) (by rw [sizeLine_eq]; omega)))
  have hrl : (items.toList.drop i).length = items.size - i := by rw [List.length_drop, Array.length_toList]
  have hmid : (items.toList.drop i).length - (n - 1 - i) = items.size + 1 - n := by rw [hrl]; omega
  show wpAny _ _ (if (items.toList.drop i).length < n - 1 - i then _ else _) _ _ _
  rw [if_neg (by rw [hrl]; omega)]
  show wpAny _ _ (newList ((items.toList.drop i).take ((items.toList.drop i).length - (n - 1 - i))) >>= fun d => pure (items.toList.take i ++ [d] ++ (items.toList.drop i).drop ((items.toList.drop i).length - (n - 1 - i)))) _ _ _
  rw [hmid]
  have he : Heap.ExtBut s.heap.objs.size s.heap h₂ := fun b o hb e => hk b o hb (hs₁.extBut b o hb (Heap.get?_push_of_some _ e))
  exact wpAny_bind (wpAny_newList (s := { s with heap := h₂, toks := tk }) (wpAny_pure (h h₂ tk fun b o e => he b o (Nat.ne_of_lt (Heap.lt_size e)) e)))
end
/-- a, b, *c = a tuple, the starred one last -/
def gStar (K : PySem.W.Frag) (n : Nat) (t : TGs) : TG := fun v σ H Q => ∃ a xs, v = .ref a ∧ SqT K H a xs ∧ n ≤ xs.length ∧ xs.length ≤ 16384 ∧ ∀ p, H p = none → t (xs.take n ++ [.ref p]) σ (upd H p (.lst (xs.drop n))) Q
theorem pg_star {X : Cx} {pos : Pos} {es : List Expr} {k : Nat} {t : TGs} {n : Nat} (hc : X.calm = true) (h : PGs X es t)
    (hn : (assignEach es X.env).length = n + 1) (hst : (assignEach es X.env).findIdx? (·.1) = some n) : PG X (.Tuple es k pos) (gStar X.K n t) := by
  refine ⟨fun pins s σ H v u Q I r hw => ?_⟩
  obtain ⟨a, xs, e1, hq, h1, h2, hw⟩ := hw
  subst e1
  cases r
  obtain ⟨its, rv, ht, hz⟩ := I.tuple hq
  have hl := rv.length
  rw [PyProof.Rows.assign_Tuple]
  refine wpAny_bind (wpAny_standAt ?_)
  unfold unpack
  rw [hn, hst]
  refine wpAny_bind (wpAny_holding (starT ht (I.ok.hd hc) (Nat.lt_succ_self n) (by simp; omega) (by simp; omega) fun h' tk hk => ?_))
  have I1 : Inv X pins σ H { s with heap := h', toks := tk } := I.kept hk
  have e2 : its.toArray.size + 1 - (n + 1) = its.length - n := by rw [List.size_toArray]; omega
  have e3 : (its.toArray.toList.drop n).take (its.toArray.size + 1 - (n + 1)) = its.drop n := by rw [e2]; exact List.take_of_length_le (by simp)
  have e4 : (its.toArray.toList.drop n).drop (its.toArray.size + 1 - (n + 1)) = [] := by rw [e2]; exact List.drop_of_length_le (by simp)
  rw [e3, e4]
  have I2 := I1.lnew (t' := tk) (rv.drop n) (by rw [List.length_drop]; omega)
  refine h.run pins _ σ _ (xs.take n ++ [.ref h'.objs.size]) _ Q I2 ?_ (hw _ I1.fresh)
  rw [List.append_nil]
  exact (rv.take n).append (.cons rfl .nil)
end DL

set_option Elab.async false
set_option linter.all false
set_option maxRecDepth 100000
set_option maxHeartbeats 4000000
/-! Wf: parts of expressions as functions on data, each with its rule. -/
namespace DL
open PySem PySem.Spec L2

abbrev Me := Env → Sto → Res
abbrev Ml := Env → Sto → LRes
abbrev Mb := Env → Sto → BRes
abbrev EF : WX := fun _ _ _ _ => False
def mVar (i : Nat) : Me := fun ρ S => match ρ[i]? with
  | some (some w) => .ok w S
  | _ => .bad
def mCon (w : W) : Me := fun _ S => .ok w S
def mNil : Ml := fun _ S => .ok [] S
def mCons (m : Me) (ms : Ml) : Ml := fun ρ S => (m ρ S).bindL fun w S => (ms ρ S).bindL fun ws S => .ok (w :: ws) S
def mTup (ms : Ml) : Me := fun ρ S => (ms ρ S).bind fun ws S => if ws.length ≤ limit then .ok (.tup ws) S else .bad
def mLst (ms : Ml) : Me := fun ρ S => (ms ρ S).bind fun ws S => if ws.length ≤ limit then .ok (.lst ws) S else .bad
def mNLst (ms : Ml) : Me := fun ρ S => (ms ρ S).bind fun ws S => if ws.length ≤ limit then newCellR (.lst ws) S else .bad
def mBin (o : Operator) (a b : Me) : Me := fun ρ S => (a ρ S).bind fun x S => (b ρ S).bind fun y S => optR S (binop o (deref S x) (deref S y))
def negW : W → Option W
  | .int i => some (.int (-i))
  | _ => none
def mNeg (a : Me) : Me := fun ρ S => (a ρ S).bind fun x S => optR S (negW x)
def mNot (a : Me) : Me := fun ρ S => (a ρ S).bind fun x S => optR S ((truthy (deref S x)).map fun k => .bl (!k))
def mAnd (a b : Me) : Me := fun ρ S => (a ρ S).bind fun x S => match truthy (deref S x) with
  | some true => b ρ S
  | some false => .ok x S
  | none => .bad
def mOr (a b : Me) : Me := fun ρ S => (a ρ S).bind fun x S => match truthy (deref S x) with
  | some true => .ok x S
  | some false => b ρ S
  | none => .bad
def mCmp (o : CmpOp) (a b : Me) : Me := fun ρ S => (a ρ S).bind fun x S => (b ρ S).bind fun y S => optR S ((cmpop o (deref S x) (deref S y)).map .bl)
def mChain (o p : CmpOp) (a b c : Me) : Me := fun ρ S => (a ρ S).bind fun x S => (b ρ S).bind fun y S => match cmpop o (deref S x) (deref S y) with
  | some true => (c ρ S).bind fun z S => optR S ((cmpop p (deref S y) (deref S z)).map .bl)
  | some false => .ok (.bl false) S
  | none => .bad
def mIdx (a b : Me) : Me := fun ρ S => (a ρ S).bind fun x S => (b ρ S).bind fun y S => optR S (getIx (deref S x) y)
def mPart (a : Me) : Me := fun ρ S => (a ρ S).bind fun x S => match x with
  | .int i => .ok (.int i) S
  | _ => .bad
def mSlc (a l h : Me) : Me := fun ρ S => (a ρ S).bind fun x S => (l ρ S).bind fun l S => match partW l with
  | none => .bad
  | some l => (h ρ S).bind fun h S => match partW h with
    | none => .bad
    | some u => optR S (getSl (deref S x) l u)
def mFld (c f : Nat) (a : Me) : Me := fun ρ S => (a ρ S).bind fun x S => optR S (getFld S c f x)
def mPrim (p : Prim) (ms : Ml) : Me := fun ρ S => (ms ρ S).bind fun ws S => optR S (DL.prim p (ws.map (deref S)))
def mNlist (a : Me) : Me := fun ρ S => (a ρ S).bind fun x S => match items (deref S x) with
  | some ws => newCellR (.lst ws) S
  | none => .bad
def mIsi (t : Ty) (a : Me) : Me := fun ρ S => (a ρ S).bind fun x S => optR S ((isTy t (deref S x)).map .bl)
def mFrz (a : Me) : Me := fun ρ S => (a ρ S).bind freezeR
def appR (x y : W) (S : Sto) : Res := match x with
  | .loc n => match S[n]? with
    | some (.lst ws) => if ws.length < limit then .ok .non (S.set n (.lst (ws ++ [y]))) else .bad
    | _ => .bad
  | _ => .bad
def isCell (S : Sto) : W → Bool
  | .loc n => match S[n]? with
    | some (.lst _) => true
    | _ => false
  | _ => false
def mApp (a b : Me) : Me := fun ρ S => (a ρ S).bind fun x S => if isCell S x then (b ρ S).bind fun y S => appR x y S else .bad
def mLc (mt : Bool) (vs : List Nat) (tg : Tg) (it : Ml) (c : Mb) (elt : Me) : Me := fun ρ S => (it ρ S).bind fun xs S => if xs.length ≤ limit then
    (compM (lcStep ρ vs tg c elt) xs [] S).bind fun ys S => if mt then newCellR (.lst ys) S else .ok (.lst ys) S
  else .bad
def bYes : Mb := fun _ S => .ok true S
def bTest (a : Me) : Mb := fun ρ S => test (a ρ S)
def bAnd (a b : Mb) : Mb := fun ρ S => (a ρ S).bindB fun k S => if k then b ρ S else .ok false S
def bOr (a b : Mb) : Mb := fun ρ S => (a ρ S).bindB fun k S => if k then .ok true S else b ρ S
def bNot (a : Mb) : Mb := fun ρ S => (a ρ S).bindB fun k S => .ok (!k) S
def bIfx (c a b : Mb) : Mb := fun ρ S => (c ρ S).bindB fun k S => if k then a ρ S else b ρ S
def mIfx (c : Mb) (a b : Me) : Me := fun ρ S => (c ρ S).bind fun k S => if k then a ρ S else b ρ S
/-! what is walked -/
def jE (a : Me) : Ml := fun ρ S => (a ρ S).bindL fun x S => optL S (items x)
def jRange1 (a : Me) : Ml := fun ρ S => (a ρ S).bindL fun x S => match x with
  | .int j => if -(2 ^ 62) ≤ j ∧ j < 2 ^ 62 then .ok (rangeW 0 j.toNat) S else .bad
  | _ => .bad
def jRange2 (a b : Me) : Ml := fun ρ S => (a ρ S).bindL fun x S => (b ρ S).bindL fun y S => match x, y with
  | .int i, .int j => if (-(2 ^ 62) ≤ i ∧ i < 2 ^ 62) ∧ -(2 ^ 62) ≤ j ∧ j < 2 ^ 62 then .ok (rangeW i (j - i).toNat) S else .bad
  | _, _ => .bad
def jEnum (c : Int) (a : Me) : Ml := fun ρ S => (a ρ S).bindL fun x S => optL S ((items x).map (enumI c))
where enumI (n : Int) : List W → List W
  | [] => []
  | x :: xs => .tup [.int n, x] :: enumI (n + 1) xs
def jZip (a b : Me) : Ml := fun ρ S => (a ρ S).bindL fun x S => (b ρ S).bindL fun y S => match x, y with
  | .tup xs, .tup ys => .ok (zipW xs ys) S
  | .lst xs, .lst ys => .ok (zipW xs ys) S
  | _, _ => .bad
def jZips (a b : Me) : Ml := fun ρ S => (a ρ S).bindL fun x S => (b ρ S).bindL fun y S => match items x, items y with
  | some xs, some ys => if xs.length = ys.length then .ok (zipW xs ys) S else .bad
  | _, _ => .bad

theorem peM {X : Cx} {e : Expr} {t t' : TE} (h : PE X e t) (i : ∀ σ H Q, t' σ H Q → t σ H Q) : PE X e t' := ⟨fun pins s σ H Q I w => h.run pins s σ H Q I (i σ H Q w)⟩
theorem paM {X : Cx} {e : List Expr} {t t' : TA} (h : PA X e t) (i : ∀ σ H Q, t' σ H Q → t σ H Q) : PA X e t' := ⟨fun pos pins s σ H Q I w => h.run pos pins s σ H Q I (i σ H Q w)⟩
theorem ptM {X : Cx} {e : Expr} {t t' : TT} (h : PT X e t) (i : ∀ σ H Q, t' σ H Q → t σ H Q) : PT X e t' := ⟨fun pins s σ H Q I w => h.run pins s σ H Q I (i σ H Q w)⟩
theorem pwM {X : Cx} {e : Expr} {t t' : TT} (h : PW X e t) (i : ∀ σ H Q, t' σ H Q → t σ H Q) : PW X e t' := ⟨fun wh pins s σ H Q I w => h.run wh pins s σ H Q I (i σ H Q w)⟩
theorem poM {X : Cx} {e : Option Expr} {t t' : TO} (h : PO X e t) (i : ∀ σ H Q, t' σ H Q → t σ H Q) : PO X e t' := ⟨fun pins s σ H Q I w => h.run pins s σ H Q I (i σ H Q w)⟩
theorem piM {X : Cx} {tg e : Expr} {t t' : TI} (h : PI X tg e t) (i : ∀ σ H R, t' σ H R → t σ H R) : PI X tg e t' := ⟨fun pins s σ H Q I w => h.run pins s σ H Q I (i σ H Q w)⟩
theorem psM {X : Cx} {e : Stmt} {t t' : TS} (h : PS X e t) (i : ∀ D σ H, t' D σ H → t D σ H) : PS X e t' := ⟨fun pins s σ H D I w => h.run pins s σ H D I (i D σ H w)⟩
theorem pssM {X : Cx} {e : List Stmt} {t t' : TS} (h : PSs X e t) (i : ∀ D σ H, t' D σ H → t D σ H) : PSs X e t' := ⟨fun pins s σ H D I w => h.run pins s σ H D I (i D σ H w)⟩

section
variable {X : Cx} {T : Tab} {E : WX} {pos : Pos} {a b c : Expr} {p q r : Me} {es : List Expr} {ps : Ml} {bp bq : Mb}
theorem w_var {i : Nat} {x : Str} (hN : X.N[i]? = some x) (hv : Vis X.env.scope x) (hd : (x == ("__debug__" : Str)) = false) (hcd : (x == ("__classdict__" : Str)) = false) : PE X (.Name x pos) (tW T X.K E (mVar i)) := by
  refine peM (pe_var hN hv hd hcd) ?_
  rintro σ H Q ⟨F, al, S, ρ, g, e, h⟩
  unfold mVar at h
  split at h
  · rename_i w hw
    obtain ⟨v, h1, h2⟩ := e.2 i w hw
    exact ⟨v, h1, h.val g h2⟩
  · exact h.elim
theorem w_con {v : V} {w : W} (r : ∀ F al, Rw T X.K F al v w) (h : PE X a (tC v)) : PE X a (tW T X.K E (mCon w)) := by
  refine peM h ?_
  rintro σ H Q ⟨F, al, S, ρ, g, e, h⟩
  exact h.val g (r F al)
theorem w_int {i : Int} {j} : PE X (.Constant (.int i) j pos) (tW T X.K E (mCon (.int i))) := w_con (fun _ _ => .int i) pe_int
theorem w_bl {i : Bool} {j} : PE X (.Constant (.bool i) j pos) (tW T X.K E (mCon (.bl i))) := w_con (fun _ _ => .bl i) pe_bl
theorem w_non {j} : PE X (.Constant .none j pos) (tW T X.K E (mCon .non)) := w_con (fun _ _ => .non) pe_non
theorem w_str {i : Str} {j} : PE X (.Constant (.str i) j pos) (tW T X.K E (mCon (.str i))) := w_con (fun _ _ => .str i) pe_str
theorem w_glob {x : Str} {v : V} {u : Value} {w : W} (hg : Gl X x) (hm : X.mg x = some u) (r : RelV v u) (rw : ∀ F al, Rw T X.K F al v w) (hd : (x == ("__debug__" : Str)) = false) : PE X (.Name x pos) (tW T X.K E (mCon w)) := w_con rw (pe_glob hg hm r hd)
theorem w_nil : PA X [] (tL T X.K E mNil) := by
  refine paM pa_nil ?_
  rintro σ H Q ⟨F, al, S, ρ, g, e, h⟩
  exact RQ.valL h g .nil
theorem w_cons (ha : PE X a (tW T X.K E p)) (hr : PA X es (tL T X.K E ps)) (hs : starEach (a :: es) X.env = (false, eval a X.env) :: starEach es X.env) : PA X (a :: es) (tL T X.K E (mCons p ps)) := by
  refine paM (pa_cons ha hr hs) ?_
  rintro σ H Q ⟨F, al, S, ρ, g, e, h⟩
  refine (tW.bindL g e h).imp fun x H1 ⟨F1, al1, S1, w, m, r, h1⟩ => ?_
  refine (tL.bindL m.g m.e h1).imp fun y H2 ⟨F2, al2, S2, u, m2, r2, h2⟩ => ?_
  exact RQ.valL h2 m2.g (.cons (r.post m2.p) r2)
theorem w_tup {k : Nat} (h : PA X es (tL T X.K E ps)) : PE X (.Tuple es k pos) (tW T X.K E (mTup ps)) := by
  refine peM (pe_tup h) ?_
  rintro σ H Q ⟨F, al, S, ρ, g, e, h⟩
  refine (tL.bind g e h).imp fun x H1 ⟨F1, al1, S1, w, m, r, h1⟩ => ?_
  split at h1
  · rename_i hl
    exact ⟨by rw [r.length, ← limit_eq]; exact hl, fun p hp => h1.new m.g r hp⟩
  · exact h1.elim
theorem w_lst (h : PA X es (tL T X.K E ps)) : PE X (.List es pos) (tW T X.K E (mLst ps)) := by
  refine peM (pe_lst h) ?_
  rintro σ H Q ⟨F, al, S, ρ, g, e, h⟩
  refine (tL.bind g e h).imp fun x H1 ⟨F1, al1, S1, w, m, r, h1⟩ => ?_
  split at h1
  · rename_i hl
    exact ⟨by rw [r.length, ← limit_eq]; exact hl, fun p hp => h1.newL m.g r hp⟩
  · exact h1.elim
theorem w_nlst (h : PA X es (tL T X.K E ps)) : PE X (.List es pos) (tW T X.K E (mNLst ps)) := by
  refine peM (pe_lst h) ?_
  rintro σ H Q ⟨F, al, S, ρ, g, e, h⟩
  refine (tL.bind g e h).imp fun x H1 ⟨F1, al1, S1, w, m, r, h1⟩ => ?_
  split at h1
  · rename_i hl
    exact ⟨by rw [r.length, ← limit_eq]; exact hl, fun p hp => h1.newC m.g r hp⟩
  · exact h1.elim
theorem w_bin {o : Operator} (ha : PE X a (tW T X.K E p)) (hb : PE X b (tW T X.K E q)) : PE X (.BinOp a o b pos) (tW T X.K E (mBin o p q)) := by
  refine peM (pe_op (op_bin o) ha hb) ?_
  rintro σ H Q ⟨F, al, S, ρ, g, e, h⟩
  refine (tW.bind g e h).imp fun x H1 ⟨F1, al1, S1, w, m, r, h1⟩ => ?_
  refine (tW.bind m.g m.e h1).imp fun y H2 ⟨F2, al2, S2, u, m2, r2, h2⟩ => ?_
  exact bin_sound m2.g (vw_of m2.g (r.post m2.p)) (vw_of m2.g r2) h2
theorem optR_some {T : Tab} {K : PySem.W.Frag} {E : WX} {σ : L2.St} {F : Hp} {al : List Addr} {H : Hp} {S : Sto} {Q : VK} {o : Option W} (h : RQ T K E σ F al H (optR S o) Q) : ∃ w, o = some w ∧ RQ T K E σ F al H (.ok w S) Q := by
  cases o with
  | none => exact h.elim
  | some w => exact ⟨w, rfl, h⟩
theorem w_neg (ha : PE X a (tW T X.K E p)) : PE X (.UnaryOp .USub a pos) (tW T X.K E (mNeg p)) := by
  refine peM (pe_un un_neg ha) ?_
  rintro σ H Q ⟨F, al, S, ρ, g, e, h⟩
  refine (tW.bind g e h).imp fun x H1 ⟨F1, al1, S1, w, m, r, h1⟩ => ?_
  obtain ⟨u, e1, h2⟩ := optR_some h1
  unfold negW at e1
  split at e1
  · cases e1; cases r
    exact ⟨_, rfl, h2.val m.g (.int _)⟩
  · cases e1
theorem w_not (ha : PE X a (tW T X.K E p)) : PE X (.UnaryOp .Not a pos) (tW T X.K E (mNot p)) := by
  refine peM (pe_notT ha) ?_
  rintro σ H Q ⟨F, al, S, ρ, g, e, h⟩
  refine (tW.bind g e h).imp fun x H1 ⟨F1, al1, S1, w, m, r, h1⟩ => ?_
  obtain ⟨u, e1, h2⟩ := optR_some h1
  rw [Option.map_eq_some_iff] at e1
  obtain ⟨k, e1, rfl⟩ := e1
  exact ⟨k, truthy_sound m.g (vw_of m.g r) e1, h2.val m.g (.bl _)⟩
theorem w_and {rest : List Expr} (ha : PE X a (tW T X.K E p)) (hb : PE X (.BoolOp .And (b :: rest) pos) (tW T X.K E q)) : PE X (.BoolOp .And (a :: b :: rest) pos) (tW T X.K E (mAnd p q)) := by
  refine peM (pe_andT ha hb) ?_
  rintro σ H Q ⟨F, al, S, ρ, g, e, h⟩
  refine (tW.bind g e h).imp fun x H1 ⟨F1, al1, S1, w, m, r, h1⟩ => ?_
  split at h1
  · rename_i e1
    exact ⟨true, truthy_sound m.g (vw_of m.g r) e1, by rw [if_pos rfl]; exact ⟨F1, al1, S1, ρ, m.g, m.e, h1⟩⟩
  · rename_i e1
    exact ⟨false, truthy_sound m.g (vw_of m.g r) e1, by rw [if_neg Bool.false_ne_true]; exact h1.val m.g r⟩
  · exact h1.elim
theorem w_or {rest : List Expr} (ha : PE X a (tW T X.K E p)) (hb : PE X (.BoolOp .Or (b :: rest) pos) (tW T X.K E q)) : PE X (.BoolOp .Or (a :: b :: rest) pos) (tW T X.K E (mOr p q)) := by
  refine peM (pe_orT ha hb) ?_
  rintro σ H Q ⟨F, al, S, ρ, g, e, h⟩
  refine (tW.bind g e h).imp fun x H1 ⟨F1, al1, S1, w, m, r, h1⟩ => ?_
  split at h1
  · rename_i e1
    exact ⟨true, truthy_sound m.g (vw_of m.g r) e1, by rw [if_pos rfl]; exact h1.val m.g r⟩
  · rename_i e1
    exact ⟨false, truthy_sound m.g (vw_of m.g r) e1, by rw [if_neg Bool.false_ne_true]; exact ⟨F1, al1, S1, ρ, m.g, m.e, h1⟩⟩
  · exact h1.elim
theorem w_cmp {k : Nat} {o : CmpOp} (hr : Room k X.A) (ha : PE X a (tW T X.K E p)) (hb : PE X b (tW T X.K E q)) (hm : behindInMarks o b = false) : PE X (.Compare a [o] [b] pos) (tW T X.K E (mCmp o p q)) := by
  refine peM (pe_cmpR (op_cmp hr o) ha hb hm) ?_
  rintro σ H Q ⟨F, al, S, ρ, g, e, h⟩
  refine (tW.bind g e h).imp fun x H1 ⟨F1, al1, S1, w, m, r, h1⟩ => ?_
  refine (tW.bind m.g m.e h1).imp fun y H2 ⟨F2, al2, S2, u, m2, r2, h2⟩ => ?_
  obtain ⟨z, e1, h3⟩ := optR_some h2
  rw [Option.map_eq_some_iff] at e1
  obtain ⟨k, e1, rfl⟩ := e1
  exact cmp_sound m2.g (vw_of m2.g (r.post m2.p)) (vw_of m2.g r2) e1 (h3.val m2.g (.bl _))
theorem w_chain {k : Nat} {o o' : CmpOp} (hr : Room k X.A) (ha : PE X a (tW T X.K E p)) (hb : PE X b (tW T X.K E q)) (hc : PE X c (tW T X.K E r)) (hm : lastMarks [o, o'] [b, c] = false) : PE X (.Compare a [o, o'] [b, c] pos) (tW T X.K E (mChain o o' p q r)) := by
  refine peM (pe_chain (op_cmp hr o) (op_cmp hr o') ha hb hc hm) ?_
  rintro σ H Q ⟨F, al, S, ρ, g, e, h⟩
  refine (tW.bind g e h).imp fun x H1 ⟨F1, al1, S1, w, m, r, h1⟩ => ?_
  refine (tW.bind m.g m.e h1).imp fun y H2 ⟨F2, al2, S2, u, m2, r2, h2⟩ => ?_
  split at h2
  · rename_i e1
    refine cmp_sound m2.g (vw_of m2.g (r.post m2.p)) (vw_of m2.g r2) e1 ⟨true, rfl, ?_⟩
    rw [if_pos rfl]
    refine (tW.bind m2.g m2.e h2).imp fun z H3 ⟨F3, al3, S3, u3, m3, r3, h3⟩ => ?_
    obtain ⟨z, e1, h3⟩ := optR_some h3
    rw [Option.map_eq_some_iff] at e1
    obtain ⟨k, e1, rfl⟩ := e1
    exact cmp_sound m3.g (vw_of m3.g (r2.post m3.p)) (vw_of m3.g r3) e1 (h3.val m3.g (.bl _))
  · rename_i e1
    refine cmp_sound m2.g (vw_of m2.g (r.post m2.p)) (vw_of m2.g r2) e1 ⟨false, rfl, ?_⟩
    rw [if_neg Bool.false_ne_true]
    exact h2.val m2.g (.bl _)
  · exact h2.elim
theorem w_idx (ha : PE X a (tW T X.K E p)) (hb : PE X b (tW T X.K E q)) (hs : PlainIx b) : PE X (.Subscript a b pos) (tW T X.K E (mIdx p q)) := by
  refine peM (pe_ix ix_seq ha hb hs) ?_
  rintro σ H Q ⟨F, al, S, ρ, g, e, h⟩
  refine (tW.bind g e h).imp fun x H1 ⟨F1, al1, S1, w, m, r, h1⟩ => ?_
  refine (tW.bind m.g m.e h1).imp fun y H2 ⟨F2, al2, S2, u, m2, r2, h2⟩ => ?_
  obtain ⟨z, e1, h3⟩ := optR_some h2
  exact ix_sound m2.g (vw_of m2.g (r.post m2.p)) r2 e1 h3
/-! slices -/
def partV : V → Option (Option Int)
  | .non => some none
  | .int i => some (some i)
  | _ => none
def tOW (T : Tab) (K : PySem.W.Frag) (E : WX) (m : Me) : TO := fun σ H Q => tW T K E m σ H fun x H1 => ∃ o, partV x = some o ∧ Q o H1
theorem w_part (h : PE X a (tW T X.K E p)) : PO X (some a) (tOW T X.K E (mPart p)) := by
  refine poM (po_some h) ?_
  rintro σ H Q ⟨F, al, S, ρ, g, e, h⟩
  refine (tW.bind g e h).imp fun x H1 ⟨F1, al1, S1, w, m, r, h1⟩ => ?_
  split at h1
  · cases r
    obtain ⟨o, e1, e2⟩ := h1.val m.g (.int _)
    cases e1
    exact ⟨_, rfl, e2⟩
  · exact h1.elim
theorem w_noPart : PO X none (tOW T X.K E (mCon .non)) := by
  refine poM po_none ?_
  rintro σ H Q ⟨F, al, S, ρ, g, e, h⟩
  obtain ⟨o, e1, e2⟩ := h.val g .non
  cases e1; exact e2
theorem partW_sound {K : PySem.W.Frag} {F : Hp} {al : List Addr} {v : V} {w : W} {o : Option Int} (r : Rw T K F al v w) (e : partW w = some o) : partV v = some o := by
  unfold partW at e
  split at e
  · cases r; exact e
  · cases r; exact e
  · cases e
theorem w_slc {lo hi : Option Expr} {p2 : Pos} (ha : PE X a (tW T X.K E p)) (hl : PO X lo (tOW T X.K E q)) (hh : PO X hi (tOW T X.K E r)) : PE X (.Subscript a (.Slice lo hi none p2) pos) (tW T X.K E (mSlc p q r)) := by
  refine peM (pe_slice sl_any ha hl hh) ?_
  rintro σ H Q ⟨F, al, S, ρ, g, e, h⟩
  refine (tW.bind g e h).imp fun x H1 ⟨F1, al1, S1, w, m, r, h1⟩ => ?_
  refine (tW.bind m.g m.e h1).imp fun y H2 ⟨F2, al2, S2, u, m2, r2, h2⟩ => ?_
  cases e1 : partW u with
  | none =>
    rw [e1] at h2
    exact h2.elim
  | some o =>
    rw [e1] at h2
    refine ⟨o, partW_sound r2 e1, ?_⟩
    refine (tW.bind m2.g m2.e h2).imp fun y3 H3 ⟨F3, al3, S3, u3, m3, r3, h3⟩ => ?_
    cases e2 : partW u3 with
    | none => rw [e2] at h3; exact h3.elim
    | some o2 =>
      rw [e2] at h3
      refine ⟨o2, partW_sound r3 e2, ?_⟩
      obtain ⟨z, e3, h4⟩ := optR_some h3
      exact sl_sound m3.g (vw_of m3.g ((r.post m2.p).post m3.p)) e3 h4
end
end DL

set_option Elab.async false
set_option linter.all false
set_option maxRecDepth 100000
set_option maxHeartbeats 4000000
/-! Wg: tests, built-ins, fields, calls. -/
namespace DL
open PySem PySem.Spec L2

/-! ### nothing in it that may be changed -/
mutual
def W.nl : W → Bool
  | .non => true
  | .bl _ => true
  | .int _ => true
  | .str _ => true
  | .tup ws => nlL ws
  | .lst ws => nlL ws
  | .ins _ fs => nlF fs
  | .loc _ => false
def nlL : List W → Bool
  | [] => true
  | w :: ws => W.nl w && nlL ws
def nlF : List (Nat × W) → Bool
  | [] => true
  | (_, w) :: ws => W.nl w && nlF ws
end
section
variable {T : Tab} {K : PySem.W.Frag} {F F' : Hp} {al al' be : List Addr} {H H' H1 : Hp} {S S' : Sto} {E : WX} {σ : L2.St}
mutual
theorem Rw.nl : ∀ {v : V} {w : W}, Rw T K F al v w → W.nl w = true → Rw T K F al' v w
  | _, _, .non, _ => .non
  | _, _, .bl b, _ => .bl b
  | _, _, .int i, _ => .int i
  | _, _, .str i, _ => .str i
  | _, _, .tup q r, h => .tup q (RwL.nl r h)
  | _, _, .lst q r, h => .lst q (RwL.nl r h)
  | _, _, .ins q r, h => .ins q (RwF.nl r h)
  | _, _, .loc _, h => by cases h
theorem RwL.nl : ∀ {v : List V} {w : List W}, RwL T K F al v w → nlL w = true → RwL T K F al' v w
  | _, _, .nil, _ => .nil
  | _, _, .cons a b, h => by
    rw [nlL, Bool.and_eq_true] at h
    exact .cons (Rw.nl a h.1) (RwL.nl b h.2)
theorem RwF.nl : ∀ {v : List (Str × V)} {w : List (Nat × W)}, RwF T K F al v w → nlF w = true → RwF T K F al' v w
  | _, _, .nil, _ => .nil
  | _, _, .cons l a b, h => by
    rw [nlF, Bool.and_eq_true] at h
    exact .cons l (Rw.nl a h.1) (RwF.nl b h.2)
end
def Xn.nl : Xn → Bool
  | .own _ fs => nlF fs
theorem RwX.nl {x : Xn} {cls : Value} {d : Option Addr} (r : RwX T K F al x cls d) (h : x.nl = true) : RwX T K F al' x cls d := by
  cases x with
  | own c fs =>
    refine ⟨r.1, ?_⟩
    rcases r.2 with e | ⟨a, gs, h1, h2, h3⟩
    · exact .inl e
    · exact .inr ⟨a, gs, h1, h2, h3.nl h⟩
theorem Good.frame (g : Good T K F al S H) (hs : Same H H1) (hb : ∀ b ∈ be, H b = none) (p : Post F be H1 F' al' H') (g' : Good T K F' al' S' H') : Good T K F' al S H' ∧ Post F al H F' al H' := by
  have kp : ∀ b o, H b = some o → H' b = some o := fun b o h => p.keep b o (hs b o h) fun hm => by rw [hb b hm] at h; cases h
  have dm : ∀ b, F' b ≠ none → F b ≠ none ∨ H b = none := fun b h => by
    rcases p.dom b h with h | h | h
    · exact .inl h
    · exact .inr (hb b h)
    · refine .inr ?_
      cases e : H b with
      | none => rfl
      | some o => rw [hs b o e] at h; cases h
  refine ⟨⟨g'.sub, g.nd, g.len, fun a ha => ?_, fun n a c ha hc => ?_⟩, ⟨p.ext, Pre.refl _, fun _ h => .inl h, fun b o h _ => kp b o h, fun b h => ?_⟩⟩
  · cases e : H a with
    | none => exact absurd e (g.tr a ha)
    | some o => rw [kp a o e]; simp
  · refine (g.cell n a c ha hc).mono p.ext (Pre.refl _) (fun o h => kp a o h) fun h => ?_
    cases e : F' a with
    | none => rfl
    | some o =>
      rcases dm a (by rw [e]; simp) with z | z
      · exact absurd h z
      · exact absurd z (g.tr a (List.mem_of_getElem? ha))
  · rcases dm b h with z | z
    · exact .inl z
    · exact .inr (.inr z)
theorem Good.bare (g : Good T K F al S H) : Good T K F [] [] H := ⟨g.sub, List.nodup_nil, rfl, (fun _ h => nomatch h), (fun n a c h => by simp at h)⟩
/-- a call on data alone: the store is out of it -/
def pureR (r : Res) (S : Sto) : Res := match r with
  | .ok w _ => if w.nl then .ok w S else .bad
  | .exc x _ => if x.nl then .exc x S else .bad
  | .bad => .bad
theorem RQ.wish {E' : WX} {σ' : L2.St} {r : Res} {Q : VK} (h : RQ T K E σ F al H r Q) (i : ∀ c d H, E c d σ H → E' c d σ' H) : RQ T K E' σ' F al H r Q := by
  cases r with
  | ok w S => exact h
  | exc x S => exact fun c d F' al' H' p g r => i _ _ _ (h c d F' al' H' p g r)
  | bad => exact h
theorem pure_sound {r : Res} {Q : VK} (g : Good T K F al S H) (hs : Same H H1) (hb : ∀ b ∈ be, H b = none) (h : RQ T K E σ F al H (pureR r S) Q) : RQ T K E σ F be H1 r Q := by
  cases r with
  | ok w S' =>
    replace h : RQ T K E σ F al H (if w.nl then .ok w S else .bad) Q := h
    split at h
    · rename_i hw
      intro v F' al' H' p g' r
      obtain ⟨a, b⟩ := g.frame hs hb p g'
      exact h v F' al H' b a (r.nl hw)
    · exact h.elim
  | exc x S' =>
    replace h : RQ T K E σ F al H (if x.nl then .exc x S else .bad) Q := h
    split at h
    · rename_i hw
      intro c d F' al' H' p g' r
      obtain ⟨a, b⟩ := g.frame hs hb p g'
      exact h c d F' al H' b a (r.nl hw)
    · exact h.elim
  | bad => exact h.elim
/-- a thing that is frozen, as data -/
def derefF (S : Sto) : W → W
  | .loc n => match S[n]? with
    | some (.frz w) => w
    | _ => .loc n
  | w => w
theorem Rw.derefF (g : Good T K F al S H) {v : V} {w : W} (r : Rw T K F al v w) : Rw T K F al v (derefF S w) := by
  cases r with
  | @loc a n ha =>
    cases q : S[n]? with
    | none => rw [show DL.derefF S (.loc n) = .loc n by simp only [DL.derefF, q]]; exact .loc ha
    | some c =>
      have hc := g.cell n a c ha q
      cases c with
      | frz w => rw [show DL.derefF S (.loc n) = w by simp only [DL.derefF, q]]; exact hc
      | _ => rw [show DL.derefF S (.loc n) = .loc n by simp only [DL.derefF, q]]; exact .loc ha
  | non => exact .non
  | bl b => exact .bl b
  | int b => exact .int b
  | str b => exact .str b
  | tup a b => exact .tup a b
  | lst a b => exact .lst a b
  | ins a b => exact .ins a b
theorem RwL.derefF (g : Good T K F al S H) : ∀ {v : List V} {w : List W}, RwL T K F al v w → RwL T K F al v (w.map (DL.derefF S))
  | _, _, .nil => .nil
  | _, _, .cons a b => .cons (Rw.derefF g a) (RwL.derefF g b)
end

/-! ### tests -/
section
variable {X : Cx} {T : Tab} {E : WX} {pos : Pos} {a b c : Expr} {p q r : Me} {es : List Expr} {ps : Ml} {bp bq br : Mb}
theorem b_test (h : PE X a (tW T X.K E p)) (he : ∀ whole, isTrue a X.env whole = (do let v ← whole; standAt a.pos; holding [v] (PySem.truthy v))) : PT X a (DL.tB T X.K E (bTest p)) := by
  refine ptM (pt_truth h he) ?_
  rintro σ H Q ⟨F, al, S, ρ, g, e, h⟩
  refine (tW.bindB g e h).imp fun x H1 ⟨F1, al1, S1, w, m, r, h1⟩ => ?_
  unfold truthyR at h1
  cases e1 : DL.truthy (deref S1 w) with
  | none => rw [e1] at h1; exact h1.elim
  | some k =>
    rw [e1] at h1
    exact ⟨k, truthy_sound m.g (vw_of m.g r) e1, h1 _ _ _ Post.refl m.g⟩
theorem b_cmp {k : Nat} {o : CmpOp} (hr : Room k X.A) (ha : PE X a (tW T X.K E p)) (hb : PE X b (tW T X.K E q)) (hm : behindInMarks o b = false) : PT X (.Compare a [o] [b] pos) (DL.tB T X.K E (bTest (mCmp o p q))) := by
  refine ptM (pt_cmpR (op_cmp hr o) ha hb hm) ?_
  rintro σ H Q ⟨F, al, S, ρ, g, e, h⟩
  have h0 : BQ T X.K E σ F al H ((p ρ S).bindB fun x S => (q ρ S).bindB fun y S => optB S (cmpop o (deref S x) (deref S y))) Q := by
    unfold bTest mCmp test at h
    revert h
    cases p ρ S with
    | ok x S1 =>
      show BQ T X.K E σ F al H (((q ρ S1).bind _).bindB truthyR) Q → BQ T X.K E σ F al H ((q ρ S1).bindB _) Q
      cases q ρ S1 with
      | ok y S2 =>
        show BQ T X.K E σ F al H ((optR S2 _).bindB truthyR) Q → BQ T X.K E σ F al H (optB S2 _) Q
        cases cmpop o (deref S2 x) (deref S2 y) with
        | none => exact id
        | some k => exact id
      | exc x S => exact id
      | bad => exact id
    | exc x S => exact id
    | bad => exact id
  refine (tW.bindB g e h0).imp fun x H1 ⟨F1, al1, S1, w, m, r, h1⟩ => ?_
  refine (tW.bindB m.g m.e h1).imp fun y H2 ⟨F2, al2, S2, u, m2, r2, h2⟩ => ?_
  cases e1 : cmpop o (deref S2 w) (deref S2 u) with
  | none => rw [e1] at h2; exact h2.elim
  | some k =>
    rw [e1] at h2
    exact cmp_sound m2.g (vw_of m2.g (r.post m2.p)) (vw_of m2.g r2) e1 ⟨k, rfl, h2 _ _ _ Post.refl m2.g⟩
theorem b_chain {k : Nat} {o o' : CmpOp} (hr : Room k X.A) (ha : PE X a (tW T X.K E p)) (hb : PE X b (tW T X.K E q)) (hc : PE X c (tW T X.K E r)) (hm : lastMarks [o, o'] [b, c] = false) : PT X (.Compare a [o, o'] [b, c] pos) (DL.tB T X.K E (bTest (mChain o o' p q r))) := by
  refine ptM (pt_chain (op_cmp hr o) (op_cmp hr o') ha hb hc hm) ?_
  rintro σ H Q ⟨F, al, S, ρ, g, e, h⟩
  have h0 : BQ T X.K E σ F al H ((p ρ S).bindB fun x S => (q ρ S).bindB fun y S => match cmpop o (deref S x) (deref S y) with
      | some true => (r ρ S).bindB fun z S => optB S (cmpop o' (deref S y) (deref S z))
      | some false => .ok false S
      | none => .bad) Q := by
    unfold bTest mChain test at h
    revert h
    cases p ρ S with
    | ok x S1 =>
      show BQ T X.K E σ F al H (((q ρ S1).bind _).bindB truthyR) Q → BQ T X.K E σ F al H ((q ρ S1).bindB _) Q
      cases q ρ S1 with
      | ok y S2 =>
        show BQ T X.K E σ F al H (Res.bindB (match cmpop o (deref S2 x) (deref S2 y) with
          | some true => (r ρ S2).bind fun z S => optR S ((cmpop o' (deref S y) (deref S z)).map .bl)
          | some false => Res.ok (.bl false) S2
          | none => .bad) truthyR) Q → BQ T X.K E σ F al H (match cmpop o (deref S2 x) (deref S2 y) with
          | some true => (r ρ S2).bindB fun z S => optB S (cmpop o' (deref S y) (deref S z))
          | some false => .ok false S2
          | none => .bad) Q
        cases cmpop o (deref S2 x) (deref S2 y) with
        | none => exact id
        | some k =>
          cases k with
          | false => exact id
          | true =>
            show BQ T X.K E σ F al H (((r ρ S2).bind _).bindB truthyR) Q → BQ T X.K E σ F al H ((r ρ S2).bindB _) Q
            cases r ρ S2 with
            | ok z S3 =>
              show BQ T X.K E σ F al H ((optR S3 _).bindB truthyR) Q → BQ T X.K E σ F al H (optB S3 _) Q
              cases cmpop o' (deref S3 y) (deref S3 z) with
              | none => exact id
              | some k => exact id
            | exc x S => exact id
            | bad => exact id
      | exc x S => exact id
      | bad => exact id
    | exc x S => exact id
    | bad => exact id
  refine (tW.bindB g e h0).imp fun x H1 ⟨F1, al1, S1, w, m, r, h1⟩ => ?_
  refine (tW.bindB m.g m.e h1).imp fun y H2 ⟨F2, al2, S2, u, m2, r2, h2⟩ => ?_
  split at h2
  · rename_i e1
    refine cmp_sound m2.g (vw_of m2.g (r.post m2.p)) (vw_of m2.g r2) e1 ⟨true, rfl, ?_⟩
    rw [if_pos rfl]
    refine (tW.bindB m2.g m2.e h2).imp fun z H3 ⟨F3, al3, S3, u3, m3, r3, h3⟩ => ?_
    cases e2 : cmpop o' (deref S3 u) (deref S3 u3) with
    | none => rw [e2] at h3; exact h3.elim
    | some k =>
      rw [e2] at h3
      exact cmp_sound m3.g (vw_of m3.g (r2.post m3.p)) (vw_of m3.g r3) e2 ⟨k, rfl, h3 _ _ _ Post.refl m3.g⟩
  · rename_i e1
    refine cmp_sound m2.g (vw_of m2.g (r.post m2.p)) (vw_of m2.g r2) e1 ⟨false, rfl, ?_⟩
    rw [if_neg Bool.false_ne_true]
    exact ⟨false, rfl, h2 _ _ _ Post.refl m2.g⟩
  · exact h2.elim
theorem b_and1 (ha : PT X a (DL.tB T X.K E bp)) : PW X (.BoolOp .And [a] pos) (DL.tB T X.K E bp) := pw_and1 ha
theorem b_or1 (ha : PT X a (DL.tB T X.K E bp)) : PW X (.BoolOp .Or [a] pos) (DL.tB T X.K E bp) := pw_or1 ha
theorem b_and {rest : List Expr} (ha : PT X a (DL.tB T X.K E bp)) (hb : PW X (.BoolOp .And (b :: rest) pos) (DL.tB T X.K E bq)) : PW X (.BoolOp .And (a :: b :: rest) pos) (DL.tB T X.K E (bAnd bp bq)) := by
  refine pwM (pw_and ha hb) ?_
  rintro σ H Q ⟨F, al, S, ρ, g, e, h⟩
  refine (tB.bindB g e h).imp fun k H1 ⟨F1, al1, S1, m, h1⟩ => ?_
  cases k with
  | true => rw [if_pos rfl]; exact ⟨F1, al1, S1, ρ, m.g, m.e, h1⟩
  | false => rw [if_neg Bool.false_ne_true]; exact h1 _ _ _ Post.refl m.g
theorem b_or {rest : List Expr} (ha : PT X a (DL.tB T X.K E bp)) (hb : PW X (.BoolOp .Or (b :: rest) pos) (DL.tB T X.K E bq)) : PW X (.BoolOp .Or (a :: b :: rest) pos) (DL.tB T X.K E (bOr bp bq)) := by
  refine pwM (pw_or ha hb) ?_
  rintro σ H Q ⟨F, al, S, ρ, g, e, h⟩
  refine (tB.bindB g e h).imp fun k H1 ⟨F1, al1, S1, m, h1⟩ => ?_
  cases k with
  | true => rw [if_pos rfl]; exact h1 _ _ _ Post.refl m.g
  | false => rw [if_neg Bool.false_ne_true]; exact ⟨F1, al1, S1, ρ, m.g, m.e, h1⟩
theorem b_not (ha : PT X a (DL.tB T X.K E bp)) : PT X (.UnaryOp .Not a pos) (DL.tB T X.K E (bNot bp)) := by
  refine ptM (pt_not ha) ?_
  rintro σ H Q ⟨F, al, S, ρ, g, e, h⟩
  refine (tB.bindB g e h).imp fun k H1 ⟨F1, al1, S1, m, h1⟩ => ?_
  exact h1 _ _ _ Post.refl m.g
theorem b_ifx (hc : PT X c (DL.tB T X.K E bp)) (ha : PT X a (DL.tB T X.K E bq)) (hb : PT X b (DL.tB T X.K E br)) : PT X (.IfExp c a b pos) (DL.tB T X.K E (bIfx bp bq br)) := by
  refine ⟨fun pins s σ H Q I h => ?_⟩
  obtain ⟨F, al, S, ρ, g, e, h⟩ := h
  refine PyProof.Rows.isTrue_IfExp (thn (hc.run pins s σ H _ I (tB.bindB g e h)) fun k s1 ⟨H1, I1, F1, al1, S1, m, h1⟩ => ?_)
  cases k with
  | true => exact ha.run pins s1 σ H1 Q I1 ⟨F1, al1, S1, ρ, m.g, m.e, h1⟩
  | false => exact hb.run pins s1 σ H1 Q I1 ⟨F1, al1, S1, ρ, m.g, m.e, h1⟩
theorem w_ifx (hc : PT X c (DL.tB T X.K E bp)) (ha : PE X a (tW T X.K E p)) (hb : PE X b (tW T X.K E q)) : PE X (.IfExp c a b pos) (tW T X.K E (mIfx bp p q)) := by
  refine peM (pe_ifExp hc ha hb) ?_
  rintro σ H Q ⟨F, al, S, ρ, g, e, h⟩
  refine (tB.bind g e h).imp fun k H1 ⟨F1, al1, S1, m, h1⟩ => ?_
  cases k with
  | true => rw [if_pos rfl]; exact ⟨F1, al1, S1, ρ, m.g, m.e, h1⟩
  | false => rw [if_neg Bool.false_ne_true]; exact ⟨F1, al1, S1, ρ, m.g, m.e, h1⟩

/-! ### built-ins, fields -/
theorem w_primB {P : Prim} {id : String} {x : Str} {pp : Pos} (hc : CallR X (.builtin id) (rPrim X.K P)) (hg : Gl X x) (hm : X.mg x = none) (hv : bootBuiltins x = some (.builtin id)) (ha : PA X (a :: es) (tL T X.K E ps)) (hn : x ≠ "__name__") (hdb : (x == ("__debug__" : Str)) = false)
    (he : starEach (a :: es) X.env = (false, eval a X.env) :: starEach es X.env) (hpl : (backTo pos (starEach es X.env)).any (·.1) = false) : PE X (.Call (.Name x pp) (a :: es) [] pos) (tW T X.K E (mPrim P ps)) := by
  refine peM (pe_callB hc hg hm hv ha hn hdb he hpl) ?_
  rintro σ H Q ⟨F, al, S, ρ, g, e, h⟩
  refine (tL.bind g e h).imp fun x H1 ⟨F1, al1, S1, w, m, r, h1⟩ => ?_
  obtain ⟨z, e1, h3⟩ := optR_some h1
  exact prim_sound m.g (vwL_of m.g r) e1 h3
theorem w_primT {P : Prim} {id : String} {x : Str} {pp : Pos} (hc : CallR X (.type id) (rPrim X.K P)) (hg : Gl X x) (hm : X.mg x = none) (hv : bootBuiltins x = some (.type id)) (ha : PA X (a :: es) (tL T X.K E ps)) (hn : x ≠ "__name__") (hdb : (x == ("__debug__" : Str)) = false)
    (he : starEach (a :: es) X.env = (false, eval a X.env) :: starEach es X.env) (hpl : (backTo pos (starEach es X.env)).any (·.1) = false) : PE X (.Call (.Name x pp) (a :: es) [] pos) (tW T X.K E (mPrim P ps)) := by
  refine peM (pe_callTy hc hg hm hv ha hn hdb he hpl) ?_
  rintro σ H Q ⟨F, al, S, ρ, g, e, h⟩
  refine (tL.bind g e h).imp fun x H1 ⟨F1, al1, S1, w, m, r, h1⟩ => ?_
  obtain ⟨z, e1, h3⟩ := optR_some h1
  exact prim_sound m.g (vwL_of m.g r) e1 h3
theorem w_nlist {x : Str} {pp : Pos} (hg : Gl X x) (hm : X.mg x = none) (hv : bootBuiltins x = some (.type "list")) (ha : PE X a (tW T X.K E p)) (hn : x ≠ "__name__") (hdb : (x == ("__debug__" : Str)) = false)
    (he : starEach [a] X.env = (false, eval a X.env) :: starEach [] X.env) : PE X (.Call (.Name x pp) [a] [] pos) (tW T X.K E (mNlist p)) := by
  refine peM (pe_callTy call_list_of hg hm hv (pa_cons ha pa_nil he) hn hdb he rfl) ?_
  rintro σ H Q ⟨F, al, S, ρ, g, e, h⟩
  refine (tW.bind g e h).imp fun x H1 ⟨F1, al1, S1, w, m, r, h1⟩ => ?_
  split at h1
  · rename_i ws e1
    obtain ⟨a, xs, rfl, h2, h3⟩ := items_sound m.g (vw_of m.g r) e1
    exact ⟨_, _, rfl, h2, fun l hl => h1.newC m.g h3 hl⟩
  · exact h1.elim
theorem call_len {X : Cx} : CallR X (.builtin "len") (rPrim X.K .len) := call_len_seq.or call_len_str
theorem w_isi {x : Str} {pp tp : Pos} {tx : Str} {t : Ty} (hg : Gl X x) (hm : X.mg x = none) (hv : bootBuiltins x = some (.builtin "isinstance")) (ht : PE X (.Name tx tp) (tC (.ty t.s))) (ha : PE X a (tW T X.K E p)) (hn : x ≠ "__name__") (hdb : (x == ("__debug__" : Str)) = false)
    (he : starEach [a, .Name tx tp] X.env = (false, eval a X.env) :: starEach [.Name tx tp] X.env) (he2 : starEach [.Name tx tp] X.env = (false, eval (.Name tx tp) X.env) :: starEach [] X.env) (hpl : (backTo pos (starEach [.Name tx tp] X.env)).any (·.1) = false) : PE X (.Call (.Name x pp) [a, .Name tx tp] [] pos) (tW T X.K E (mIsi t p)) := by
  refine peM (pe_callB call_isi hg hm hv (pa_cons ha (pa_cons ht pa_nil he2) he) hn hdb he hpl) ?_
  rintro σ H Q ⟨F, al, S, ρ, g, e, h⟩
  refine (tW.bind g e h).imp fun x H1 ⟨F1, al1, S1, w, m, r, h1⟩ => ?_
  obtain ⟨z, e1, h3⟩ := optR_some h1
  rw [Option.map_eq_some_iff] at e1
  obtain ⟨k, e1, rfl⟩ := e1
  exact isi_sound m.g (vw_of m.g r) e1 (h3.val m.g (.bl _))
theorem w_fld {cc f : Nat} {fn : Str} (hn : T.fld.Nodup) (hf : f < T.fld.length) (hfn : T.f f = fn) (hc : Cls X.K (T.c cc)) (hna : NoAttr X.K (T.c cc) fn) (ha : PE X a (tW T X.K E p)) (hb : attributeBase a fn X.env (eval a X.env) = eval a X.env) : PE X (.Attribute a fn pos) (tW T X.K E (mFld cc f p)) := by
  subst hfn
  refine peM (pe_fld ha hb) ?_
  rintro σ H Q ⟨F, al, S, ρ, g, e, h⟩
  refine (tW.bind g e h).imp fun x H1 ⟨F1, al1, S1, w, m, r, h1⟩ => ?_
  obtain ⟨z, e1, h3⟩ := optR_some h1
  obtain ⟨pp, dx, gs, v, h4, h5, h6, h7⟩ := getFld_sound hn hf m.g r e1
  exact ⟨pp, _, dx, gs, v, h4, h5, hc, hna, h6, h3.val m.g h7⟩
theorem w_frz (h : PE X a (tW T X.K E p)) : PE X a (tW T X.K E (mFrz p)) := by
  refine peM h ?_
  rintro σ H Q ⟨F, al, S, ρ, g, e, h⟩
  refine (tW.bind g e h).imp fun x H1 ⟨F1, al1, S1, w, m, r, h1⟩ => ?_
  cases r with
  | @loc a n ha =>
    unfold freezeR at h1
    cases q : S1[n]? with
    | none => simp only [q] at h1; exact h1.elim
    | some c =>
      have hc := m.g.cell n a c ha q
      cases c with
      | lst ws =>
        simp only [q] at h1
        obtain ⟨xs, h2, h3, h4⟩ := hc
        have s1 : Same F1 (upd F1 a (.lst xs)) := fun b u e => by rw [upd_ne (ne_of_none e h3)]; exact e
        have hw : Rw T X.K (upd F1 a (.lst xs)) al1 (.ref a) (.lst ws) := .lst (SqL.of upd_same) (h4.mono s1 (Pre.refl _))
        obtain ⟨a1, a2⟩ := m.g.freeze ha h3 h2 hw
        exact h1 _ _ _ _ a2 a1 hw
      | frz w => simp only [q] at h1; exact h1.val m.g hc
      | _ => simp only [q] at h1; exact h1.elim
  | non => exact h1.val m.g .non
  | bl b => exact h1.val m.g (.bl b)
  | int b => exact h1.val m.g (.int b)
  | str b => exact h1.val m.g (.str b)
  | tup a b => exact h1.val m.g (.tup a b)
  | lst a b => exact h1.val m.g (.lst a b)
  | ins a b => exact h1.val m.g (.ins a b)
/-- a list that may be changed gets one more -/
theorem app_sound {K : PySem.W.Frag} {F : Hp} {al : List Addr} {H : Hp} {S : Sto} {σ : L2.St} {x y : V} {w u : W} {Q : VK} (g : Good T K F al S H) (rx : Rw T K F al x w) (ry : Rw T K F al y u) (h : RQ T K E σ F al H (appR w u S) Q) : rAppend x [y] H Q := by
  unfold appR at h
  split at h
  · rename_i n
    split at h
    · rename_i ws e
      split at h
      · rename_i hl
        cases rx with
        | @loc a _ ha =>
          obtain ⟨xs, h1, h2, h3⟩ := g.cell n a _ ha e
          refine ⟨a, xs, y, rfl, rfl, h1, by rw [h3.length, ← limit_eq]; exact hl, ?_⟩
          obtain ⟨g1, p1⟩ := g.setCell (o := .lst (xs ++ [y])) (c := .lst (ws ++ [u])) ha h2 ⟨_, upd_same, h2, h3.append (.cons ry .nil)⟩
          exact h _ _ _ _ p1 g1 .non
      · exact h.elim
    · exact h.elim
  · exact h.elim
theorem isCell_ty {K : PySem.W.Frag} {F : Hp} {al : List Addr} {H : Hp} {S : Sto} {x : V} {w : W} (g : Good T K F al S H) (r : Rw T K F al x w) (e : isCell S w = true) : tyV K "list" x H := by
  cases r with
  | @loc a n ha =>
    cases q : S[n]? with
    | none => simp [isCell, q] at e
    | some c =>
      cases c with
      | lst ws =>
        obtain ⟨xs, h1, _⟩ := g.cell n a _ ha q
        exact .inl ⟨rfl, _, .inl (.inl h1)⟩
      | _ => simp [isCell, q] at e
  | _ => cases e
theorem w_app {apos : Pos} (ha : PE X a (tW T X.K E p)) (hb : PE X b (tW T X.K E q)) (hbase : attributeBase a "append" X.env (eval a X.env) = eval a X.env)
    (hfew : ((backTo pos (starEach [b] X.env)).all (fun x => !x.1) && (backToKw pos (keywordEach [] X.env)).all (fun x => x.1.isSome) && decide ([b].length + ([] : List Keyword).length + (if ([] : List Keyword).isEmpty then 0 else 1) < 30)) = true)
    (hline : (apos.endLine == pos.line) = true) (hs : starEach [b] X.env = (false, eval b X.env) :: starEach [] X.env) (hplain : (backTo pos (starEach [] X.env)).any (·.1) = false) :
    PE X (.Call (.Attribute a "append" apos) [b] [] pos) (tW T X.K E (mApp p q)) := by
  refine peM (pe_bm PySem.F.plainAttrs_list PySem.F.slot_list_append PySem.F.type_list_append mt_append ha (pa_cons hb pa_nil hs) hbase hfew hline hs hplain) ?_
  rintro σ H Q ⟨F, al, S, ρ, g, e, h⟩
  refine (tW.bind g e h).imp fun x H1 ⟨F1, al1, S1, w, m, r, h1⟩ => ?_
  split at h1
  · rename_i hc
    refine ⟨isCell_ty m.g r hc, ?_⟩
    refine (tW.bind m.g m.e h1).imp fun y H2 ⟨F2, al2, S2, u, m2, r2, h2⟩ => ?_
    exact app_sound m2.g (r.post m2.p) r2 h2
  · exact h1.elim

/-! ### calls -/
/-- what a def promises: it does what φ does -/
def spW (T : Tab) (K : PySem.W.Frag) (n : Nat) (φ : Fn) : Sp := fun vs H Q E => ∃ F al S ws, ws.length = n ∧ Good T K F al S H ∧ RwL T K F al vs ws ∧ RQ T K (fun c d _ H => E c d H) [] F al H (φ ws S) Q
def TakesN (n : Nat) (φ : Fn) : Prop := ∀ ws S, ws.length ≠ n → φ ws S = .bad
theorem spW_of {T : Tab} {K : PySem.W.Frag} {n : Nat} {φ : Fn} (hn : TakesN n φ) {vs : List V} {ws : List W} {H : Hp} {Q : VK} {E : WX} {σ : L2.St} {F : Hp} {al : List Addr} {S : Sto} (g : Good T K F al S H) (r : RwL T K F al vs ws) (h : RQ T K E σ F al H (φ ws S) Q) : spW T K n φ vs H Q (WE E σ) := by
  refine ⟨F, al, S, ws, ?_, g, r, h.wish fun c d H e => e⟩
  by_cases hl : ws.length = n
  · exact hl
  · rw [hn ws S hl] at h; exact h.elim
/-- a def by its name: ψ is what a call with written arguments does -/
def CallF (T : Tab) (P : Program) (w : World) (K : PySem.W.Frag) (mg : Str → Option Value) (base : Heap) (k : Nat) (x : Str) (ψ : Fn) : Prop :=
  ∃ (f : Addr) (fd : FuncData) (pn : List Str) (ds : List Value) (dvs : List V) (dws : List W) (n : Nat) (φ : Fn), FnOk P w K mg base (L2.CX P w) k f fd pn (spW T K n φ) ∧ TakesN n φ ∧ mg x = some (.ref f) ∧ PySem.W.keepIn K (.ref f) = true ∧ Binds K fd pn ds ∧ Vals dvs ds ∧
    (∀ F al, RwL T K F al dvs dws) ∧ ψ = fun ws S => φ (ws ++ dws) S
def mCall (ψ : Fn) (ms : Ml) : Me := fun ρ S => (ms ρ S).bind ψ
/-- data alone goes in and comes out -/
def mCallP (ψ : Fn) (ms : Ml) : Me := fun ρ S => (ms ρ S).bind fun ws S => if nlL (ws.map (derefF S)) then pureR (ψ (ws.map (derefF S)) []) S else .bad
theorem w_call {k j : Nat} {x : Str} {pp : Pos} {ψ : Fn} (C : CallF T X.prog X.w X.K X.mg X.base k x ψ) (hr : Room j X.A) (hj : k ≤ j) (hg : Gl X x) (tk : Takes X E) (ha : PA X (a :: es) (tL T X.K E ps)) (hdb : (x == ("__debug__" : Str)) = false)
    (he : starEach (a :: es) X.env = (false, eval a X.env) :: starEach es X.env) (hpl : (backTo pos (starEach es X.env)).any (·.1) = false) : PE X (.Call (.Name x pp) (a :: es) [] pos) (tW T X.K E (mCall ψ ps)) := by
  obtain ⟨f, fd, pn, ds, dvs, dws, n, φ, FO, hn, hm, hk, hb, hd, hw, rfl⟩ := C
  refine peM (pe_callSD FO (hr.mono hj) hg hm hk hb hd (E := WE E) (fun σ => passAt tk σ) ha hdb he hpl) ?_
  rintro σ H Q ⟨F, al, S, ρ, g, e, h⟩
  refine (tL.bind g e h).imp fun x H1 ⟨F1, al1, S1, w, m, r, h1⟩ => ?_
  exact spW_of hn m.g (r.append (hw _ _)) h1
theorem w_callP {k j : Nat} {x : Str} {pp : Pos} {ψ : Fn} (C : CallF T X.prog X.w X.K X.mg X.base k x ψ) (hr : Room j X.A) (hj : k ≤ j) (hg : Gl X x) (tk : Takes X E) (ha : PA X (a :: es) (tL T X.K E ps)) (hdb : (x == ("__debug__" : Str)) = false)
    (he : starEach (a :: es) X.env = (false, eval a X.env) :: starEach es X.env) (hpl : (backTo pos (starEach es X.env)).any (·.1) = false) : PE X (.Call (.Name x pp) (a :: es) [] pos) (tW T X.K E (mCallP ψ ps)) := by
  obtain ⟨f, fd, pn, ds, dvs, dws, n, φ, FO, hn, hm, hk, hb, hd, hw, rfl⟩ := C
  refine peM (pe_callSD FO (hr.mono hj) hg hm hk hb hd (E := WE E) (fun σ => passAt tk σ) ha hdb he hpl) ?_
  rintro σ H Q ⟨F, al, S, ρ, g, e, h⟩
  refine (tL.bind g e h).imp fun x H1 ⟨F1, al1, S1, w, m, r, h1⟩ => ?_
  split at h1
  · rename_i hnl
    exact spW_of hn m.g.bare (((r.derefF m.g).nl hnl).append (hw _ _)) (pure_sound m.g (Same.refl _) (fun _ h => nomatch h) h1)
  · exact h1.elim

/-! ### a class's call -/
/-- C(..): __init__ at a new instance; all it holds is data behind it -/
def makeR (c : Nat) (ψ : Fn) (ws : List W) (S : Sto) : Res := match ψ (.loc 0 :: ws) [.obj c []] with
  | .ok .non S' => match (S' : List Cell)[0]? with
    | some (Cell.obj d fs) => if d = c ∧ nlF fs = true then .ok (.ins c fs) S else .bad
    | _ => .bad
  | .ok _ _ => .bad
  | .exc x _ => if x.nl then .exc x S else .bad
  | .bad => .bad
def mMake (c : Nat) (ψ : Fn) (ms : Ml) : Me := fun ρ S => (ms ρ S).bind fun ws S => if nlL (ws.map (derefF S)) then makeR c ψ (ws.map (derefF S)) S else .bad
theorem Good.side {K : PySem.W.Frag} {F : Hp} {al : List Addr} {H : Hp} {S : Sto} (g : Good T K F al S H) {p : Addr} (hp : H p = none) (o : HO) : Good T K F al S (upd H p o) ∧ Post F al H F al (upd H p o) := by
  have sm : Same H (upd H p o) := fun b u e => by rw [upd_ne (ne_of_none e hp)]; exact e
  refine ⟨⟨fun b u e => sm b u (g.sub b u e), g.nd, g.len, fun a ha => ?_, fun n a c ha hc => ?_⟩, ⟨Same.refl _, Pre.refl _, fun _ h => .inl h, fun b u e _ => sm b u e, fun _ h => .inl h⟩⟩
  · cases e : H a with
    | none => exact absurd e (g.tr a ha)
    | some u => rw [sm a u e]; simp
  · exact (g.cell n a c ha hc).mono (Same.refl _) (Pre.refl _) (fun u e => sm a u e) (fun h => h)
/-- a class by its name -/
def MakeF (T : Tab) (P : Program) (w : World) (K : PySem.W.Frag) (mg : Str → Option Value) (base : Heap) (k : Nat) (x : Str) (c : Nat) (ψ : Fn) : Prop :=
  ∃ (f : Addr) (fd : FuncData) (pn : List Str) (ds : List Value) (dvs : List V) (dws : List W) (n : Nat) (φ : Fn), FnOk P w K mg base (L2.CX P w) k f fd pn (spW T K n φ) ∧ TakesN n φ ∧ mg x = some (.ref (T.c c)) ∧ Mk K (T.c c) f ∧ Binds K fd pn ds ∧ Vals dvs ds ∧
    (∀ F al, RwL T K F al dvs dws) ∧ ψ = fun ws S => φ (ws ++ dws) S
theorem w_make {k j cc : Nat} {x : Str} {pp : Pos} {ψ : Fn} {Ec : XK} (C : MakeF T X.prog X.w X.K X.mg X.base k x cc ψ) (hr : Room j X.A) (hj : k + 1 ≤ j) (hg : Gl X x) (tk : Takes X fun c d _ H => Ec c d H) (ha : PA X (a :: es) (tL T X.K (fun c d _ H => Ec c d H) ps)) (hdb : (x == ("__debug__" : Str)) = false)
    (he : starEach (a :: es) X.env = (false, eval a X.env) :: starEach es X.env) (hpl : (backTo pos (starEach es X.env)).any (·.1) = false) : PE X (.Call (.Name x pp) (a :: es) [] pos) (tW T X.K (fun c d _ H => Ec c d H) (mMake cc ψ ps)) := by
  obtain ⟨f, fd, pn, ds, dvs, dws, n, φ, FO, hn, hm, hM, hb, hd, hw, rfl⟩ := C
  refine peM (pe_make hM FO (hr.mono hj) hg hm hb hd (passes_call tk fun _ _ _ _ h => h) ha hdb he hpl) ?_
  rintro σ H Q ⟨F, al, S, ρ, g, e, h⟩
  refine (tL.bind g e h).imp fun vs H1 ⟨F1, al1, S1, ws, m, r, h1⟩ => ?_
  intro x dx hx hdx hne
  split at h1
  · rename_i hnl
    obtain ⟨gs, _⟩ := m.g.bare.side hdx (.own x)
    have hx2 : upd H1 dx (.own x) x = none := by rw [upd_ne (Ne.symm hne)]; exact hx
    obtain ⟨g2, p2, r2⟩ := gs.newCell hx2 (o := .ins (T.c cc) dx []) (c := .obj cc []) ⟨dx, [], upd_same, m.g.notF hx, .nil⟩
    have sm : Same H1 (upd (upd H1 dx (.own x)) x (.ins (T.c cc) dx [])) := fun b u eb => by
      rw [upd_ne (ne_of_none eb hx), upd_ne (ne_of_none eb hdx)]; exact eb
    have hbe : ∀ b ∈ ([] ++ [x] : List Addr), H1 b = none := fun b hb => by
      have : b = x := by simpa using hb
      rw [this]; exact hx
    refine spW_of (E := fun c d _ H => Ec c d H) (σ := σ) hn g2 (.cons r2 (((r.derefF m.g).nl hnl).append (hw _ _))) ?_
    unfold makeR at h1
    show RQ T X.K (fun c d _ H => Ec c d H) σ F1 ([] ++ [x]) _ (φ (.loc 0 :: (ws.map (derefF S1) ++ dws)) [.obj cc []]) _
    replace h1 : RQ T X.K (fun c d _ H => Ec c d H) σ F1 al1 H1 (match φ (.loc 0 :: (ws.map (derefF S1) ++ dws)) [.obj cc []] with
      | .ok .non S' => match (S' : List Cell)[0]? with
        | some (Cell.obj d fs) => if d = cc ∧ nlF fs = true then .ok (.ins cc fs) S1 else .bad
        | _ => .bad
      | .ok _ _ => .bad
      | .exc x _ => if x.nl then .exc x S1 else .bad
      | .bad => .bad) Q := h1
    cases e1 : φ (.loc 0 :: (ws.map (derefF S1) ++ dws)) [.obj cc []] with
    | bad => rw [e1] at h1; exact h1.elim
    | exc z S' =>
      rw [e1] at h1
      replace h1 : RQ T X.K (fun c d _ H => Ec c d H) σ F1 al1 H1 (if z.nl then .exc z S1 else .bad) Q := h1
      split at h1
      · rename_i hz
        intro c d F' al' H' p g' rz
        obtain ⟨a1, b1⟩ := m.g.frame sm hbe p g'
        exact h1 c d F' al1 H' b1 a1 (rz.nl hz)
      · exact h1.elim
    | ok v S' =>
      rw [e1] at h1
      cases v with
      | non =>
        replace h1 : RQ T X.K (fun c d _ H => Ec c d H) σ F1 al1 H1 (match (S' : List Cell)[0]? with
          | some (Cell.obj d fs) => if d = cc ∧ nlF fs = true then .ok (.ins cc fs) S1 else .bad
          | _ => .bad) Q := h1
        split at h1
        · rename_i d fs e2
          split at h1
          · rename_i hdf
            obtain ⟨rfl, hfs⟩ := hdf
            intro u F' al' H' p g' ru
            cases ru
            refine ⟨rfl, ?_⟩
            have hx0 : al'[0]? = some x := p.pre 0 x rfl
            obtain ⟨dx2, gs2, h5, h6, h7⟩ := g'.cell 0 x _ hx0 e2
            have s1 : Same F' (upd F' x (.ins (T.c d) dx2 gs2)) := fun b u e => by rw [upd_ne (ne_of_none e h6)]; exact e
            have hw2 : ∀ al, Rw T X.K (upd F' x (.ins (T.c d) dx2 gs2)) al (.ref x) (.ins d fs) := fun al => .ins upd_same ((h7.nl hfs).mono s1 (Pre.refl _))
            obtain ⟨a1, a2⟩ := g'.freeze hx0 h6 h5 (hw2 _)
            obtain ⟨a3, b3⟩ := m.g.frame sm hbe (p.trans a2) a1
            exact h1 _ _ _ _ b3 a3 (hw2 _)
          · exact h1.elim
        · exact h1.elim
      | _ => exact h1.elim
  · exact h1.elim
end
end DL

set_option Elab.async false
set_option linter.all false
set_option maxRecDepth 100000
set_option maxHeartbeats 4000000
/-! Wh: what is walked, targets, comprehensions. -/
namespace DL
open PySem PySem.Spec L2

/-- a walk that gives the data xs -/
def WkW (T : Tab) (K : PySem.W.Frag) (F : Hp) (al : List Addr) (J : L2.It) (xs : List W) : Prop :=
  ∃ (G : Hp → Prop) (Y : Nat → Hp → V → Hp → Prop), Walk J xs.length G Y ∧ (∀ H, Same F H → G H) ∧ ∀ i H v H', i < xs.length → Y i H v H' → ∀ F1 al1 S1, Same F F1 → Pre al al1 → Good T K F1 al1 S1 H →
    ∃ F2 x, xs[i]? = some x ∧ Good T K F2 al1 S1 H' ∧ Post F1 al1 H F2 al1 H' ∧ Rw T K F2 al1 v x
section
variable (T : Tab) (K : PySem.W.Frag)
def IQ (E : WX) (σ : L2.St) (F : Hp) (al : List Addr) (H : Hp) (r : LRes) (R : L2.It → Hp → Prop) : Prop :=
  match r with
  | .ok ws S' => ∀ J F' al' H', Post F al H F' al' H' → Good T K F' al' S' H' → WkW T K F' al' J ws → R J H'
  | .exc x S' => ∀ cls d F' al' H', Post F al H F' al' H' → Good T K F' al' S' H' → RwX T K F' al' x cls d → E cls d σ H'
  | .bad => False
def tI (E : WX) (m : Ml) : TI := fun σ H R => ∃ F al S ρ, Good T K F al S H ∧ EnvOk T K F al σ ρ ∧ IQ T K E σ F al H (m ρ S) R
end
section
variable {T : Tab} {K : PySem.W.Frag} {E : WX} {σ : L2.St} {ρ : Env} {F F' : Hp} {al al' : List Addr} {H H' : Hp} {S S' : Sto}
theorem IQ.post {r : LRes} {Q : L2.It → Hp → Prop} (p : Post F al H F' al' H') (h : IQ T K E σ F al H r Q) : IQ T K E σ F' al' H' r Q := by
  cases r with
  | ok w S' => exact fun v F2 al2 H2 q g r => h v F2 al2 H2 (p.trans q) g r
  | exc x S' => exact fun c d F2 al2 H2 q g r => h c d F2 al2 H2 (p.trans q) g r
  | bad => exact h
theorem tW.bindI {m : Me} {f : W → Sto → LRes} {R : L2.It → Hp → Prop} (g : Good T K F al S H) (e : EnvOk T K F al σ ρ) (h : IQ T K E σ F al H ((m ρ S).bindL f) R) :
    tW T K E m σ H fun v H1 => ∃ F1 al1 S1 w, Mid T K F al H σ ρ F1 al1 S1 H1 ∧ Rw T K F1 al1 v w ∧ IQ T K E σ F1 al1 H1 (f w S1) R := by
  refine ⟨F, al, S, ρ, g, e, ?_⟩
  cases q : m ρ S with
  | ok w S1 =>
    rw [q] at h
    exact fun v F1 al1 H1 p g1 r => ⟨F1, al1, S1, w, ⟨g1, e.post p, p⟩, r, IQ.post p h⟩
  | exc x S1 => rw [q] at h; exact h
  | bad => rw [q] at h; exact h
theorem tL.bindI {m : Ml} {f : List W → Sto → LRes} {R : L2.It → Hp → Prop} (g : Good T K F al S H) (e : EnvOk T K F al σ ρ) (h : IQ T K E σ F al H ((m ρ S).bindL f) R) :
    tL T K E m σ H fun v H1 => ∃ F1 al1 S1 w, Mid T K F al H σ ρ F1 al1 S1 H1 ∧ RwL T K F1 al1 v w ∧ IQ T K E σ F1 al1 H1 (f w S1) R := by
  refine ⟨F, al, S, ρ, g, e, ?_⟩
  cases q : m ρ S with
  | ok w S1 =>
    rw [q] at h
    exact fun v F1 al1 H1 p g1 r => ⟨F1, al1, S1, w, ⟨g1, e.post p, p⟩, r, IQ.post p h⟩
  | exc x S1 => rw [q] at h; exact h
  | bad => rw [q] at h; exact h
theorem IQ.val {ws : List W} {J : L2.It} {R : L2.It → Hp → Prop} (h : IQ T K E σ F al H (.ok ws S) R) (g : Good T K F al S H) (r : WkW T K F al J ws) : R J H := h J F al H Post.refl g r
theorem wk_seq {a : Addr} {xs : List V} {ws : List W} (b : Bool) (q : SqB K F b a xs) (r : RwL T K F al xs ws) : WkW T K F al (match b with | false => Itl K a | true => Itt K a) ws := by
  have yld : ∀ i (H : Hp) v (H' : Hp), i < ws.length → YAt xs i H v H' → ∀ F1 al1 S1, Same F F1 → Pre al al1 → Good T K F1 al1 S1 H → ∃ F2 x, ws[i]? = some x ∧ Good T K F2 al1 S1 H' ∧ Post F1 al1 H F2 al1 H' ∧ Rw T K F2 al1 v x := by
    rintro i H v H' hi ⟨rfl, hx⟩ F1 al1 S1 s p g
    obtain ⟨w, h1, h2⟩ := r.getV hx
    exact ⟨F1, w, h1, g, Post.refl, h2.mono s p⟩
  cases b with
  | false => exact ⟨_, _, by rw [← r.length]; exact walk_list, fun H s => (by
      rcases (q : SqL K F a xs) with q | q
      · exact .inl (rd_mono s q)
      · exact .inr q : SqL K H a xs), yld⟩
  | true => exact ⟨_, _, by rw [← r.length]; exact walk_tup, fun H s => sqT_mono s q, yld⟩
theorem sqB_mono {b : Bool} {a : Addr} {xs : List V} (s : Same F F') (q : SqB K F b a xs) : SqB K F' b a xs := by
  cases b with
  | false =>
    rcases (q : SqL K F a xs) with q | q
    · exact .inl (rd_mono s q)
    · exact .inr q
  | true => exact sqT_mono s q
theorem items_seq {v : V} {w : W} {ws : List W} (r : Rw T K F al v w) (e : items w = some ws) : ∃ (b : Bool) (a : Addr) (xs : List V), v = .ref a ∧ SqB K F b a xs ∧ RwL T K F al xs ws ∧ w = (if b then .tup ws else .lst ws) := by
  unfold items at e
  split at e
  · cases e
    cases r with
    | tup q r => exact ⟨true, _, _, rfl, q, r, rfl⟩
  · cases e
    cases r with
    | lst q r => exact ⟨false, _, _, rfl, q, r, rfl⟩
  · cases e
theorem wk_pair {J : L2.It} {n : Nat} {G : Hp → Prop} {f g : Nat → Option V} {ws : List W} (hn : ws.length = n) (wk : Walk J n G (YPair f g)) (hG : ∀ H, Same F H → G H)
    (h : ∀ i x y, i < n → f i = some x → g i = some y → ∃ u w, ws[i]? = some (.tup [u, w]) ∧ Rw T K F al x u ∧ Rw T K F al y w) : WkW T K F al J ws := by
  subst hn
  refine ⟨_, _, wk, hG, ?_⟩
  rintro i H v H' hi ⟨a, x, y, rfl, h1, rfl, h2, h3⟩ F1 al1 S1 s p gg
  obtain ⟨u, w, h4, h5, h6⟩ := h i x y hi h2 h3
  obtain ⟨a1, b1, c1⟩ := gg.newTup h1 (.cons (h5.mono s p) (.cons (h6.mono s p) .nil))
  exact ⟨_, _, h4, a1, b1, c1⟩
theorem rangeW_len : ∀ (n : Nat) (lo : Int), (rangeW lo n).length = n
  | 0, _ => rfl
  | n + 1, lo => by rw [rangeW, List.length_cons, rangeW_len n]
theorem rangeW_get : ∀ (n : Nat) (lo : Int) (i : Nat), i < n → (rangeW lo n)[i]? = some (.int (lo + i))
  | 0, _, _, h => by omega
  | n + 1, lo, 0, _ => by simp [rangeW]
  | n + 1, lo, i + 1, h => by
    rw [rangeW, List.getElem?_cons_succ, rangeW_get n (lo + 1) i (by omega)]
    congr 2; push_cast; omega
theorem wk_range (lo : Int) (n : Nat) : WkW T K F al (Itr lo n) (rangeW lo n) := by
  refine ⟨_, _, by rw [rangeW_len]; exact walk_range, fun _ _ => trivial, ?_⟩
  rintro i H v H' hi ⟨rfl, rfl⟩ F1 al1 S1 s p g
  rw [rangeW_len] at hi
  exact ⟨F1, _, rangeW_get n lo i hi, g, Post.refl, .int _⟩
theorem enumI_len : ∀ (ws : List W) (c : Int), (jEnum.enumI c ws).length = ws.length
  | [], _ => rfl
  | w :: ws, c => by rw [jEnum.enumI, List.length_cons, List.length_cons, enumI_len ws]
theorem enumI_get : ∀ (ws : List W) (c : Int) (i : Nat) (w : W), ws[i]? = some w → (jEnum.enumI c ws)[i]? = some (.tup [.int (c + (i : Nat)), w])
  | [], _, _, _, h => by simp at h
  | x :: ws, c, 0, w, h => by simp at h; subst h; simp [jEnum.enumI]
  | x :: ws, c, i + 1, w, h => by
    rw [jEnum.enumI, List.getElem?_cons_succ, enumI_get ws (c + 1) i w (by simpa using h)]
    congr 4; push_cast; omega
theorem zipW_len : ∀ (xs ys : List W), (zipW xs ys).length = min xs.length ys.length
  | [], _ => by simp [zipW]
  | _ :: _, [] => by simp [zipW]
  | x :: xs, y :: ys => by rw [zipW, List.length_cons, List.length_cons, List.length_cons, zipW_len xs ys]; omega
theorem zipW_get : ∀ (xs ys : List W) (i : Nat) (x y : W), xs[i]? = some x → ys[i]? = some y → (zipW xs ys)[i]? = some (.tup [x, y])
  | [], _, _, _, _, h, _ => by simp at h
  | _ :: _, [], _, _, _, _, h => by simp at h
  | a :: xs, b :: ys, 0, x, y, h, k => by simp at h k; subst h; subst k; simp [zipW]
  | a :: xs, b :: ys, i + 1, x, y, h, k => by
    rw [zipW, List.getElem?_cons_succ]
    exact zipW_get xs ys i x y (by simpa using h) (by simpa using k)
theorem walk_zipT {a b : Addr} {xs ys : List V} {n : Nat} (hn : n = min xs.length ys.length) : Walk (RZ.ItzT K a b) n (fun H => SqT K H a xs ∧ SqT K H b ys) (YPair (fun i => xs[i]?) (fun i => ys[i]?)) := by
  subst hn
  refine ⟨fun i _ hi q => ?_, fun _ q => ⟨xs, ys, q.1, q.2, by omega⟩, fun i H v H' _ q y => ?_⟩
  · have h1 : i < xs.length := by omega
    have h2 : i < ys.length := by omega
    exact ⟨xs, ys, xs[i], ys[i], q.1, q.2, by simp [h1], by simp [h2]⟩
  · obtain ⟨T, x, z, h1, h2, h3, h4, h5⟩ := y
    exact ⟨T, x, z, h1, h2, h3, h4 xs q.1, h5 ys q.2⟩
theorem zip_pairs {xs ys : List V} {us ws : List W} (r : RwL T K F al xs us) (r2 : RwL T K F al ys ws) : ∀ i x y, i < min xs.length ys.length → xs[i]? = some x → ys[i]? = some y → ∃ u w, (zipW us ws)[i]? = some (.tup [u, w]) ∧ Rw T K F al x u ∧ Rw T K F al y w := by
  intro i x y _ hx hy
  obtain ⟨u, h1, h2⟩ := r.getV hx
  obtain ⟨w, h3, h4⟩ := r2.getV hy
  exact ⟨u, w, zipW_get us ws i u w h1 h3, h2, h4⟩
end

section
variable {X : Cx} {T : Tab} {E : WX} {pos : Pos} {a b c tg : Expr} {p q r : Me} {es : List Expr} {ps : Ml} {bp bq br : Mb}
theorem i_seq (h : PE X a (tW T X.K E p)) : PI X tg a (tI T X.K E (jE p)) := by
  refine ⟨fun pins s σ H R I h0 => ?_⟩
  obtain ⟨F, al, S, ρ, g, e, h0⟩ := h0
  have h1 := (tW.bindI g e h0)
  cases q0 : p ρ S with
  | bad =>
    obtain ⟨_, _, _, _, _, _, h2⟩ := h1
    unfold jE at h0; rw [q0] at h0; exact h0.elim
  | exc x S' =>
    unfold jE at h0; rw [q0] at h0
    exact (pi_list (tg := tg) h).run pins s σ H R I ⟨F, al, S, ρ, g, e, by rw [q0]; exact h0⟩
  | ok w S' =>
    unfold jE at h0; rw [q0] at h0
    replace h0 : IQ T X.K E σ F al H (optL S' (items w)) R := h0
    cases e1 : items w with
    | none => rw [e1] at h0; exact h0.elim
    | some ws =>
      rw [e1] at h0
      replace h0 : IQ T X.K E σ F al H (.ok ws S') R := h0
      cases w with
      | tup us =>
        cases e1
        refine (pi_tup (tg := tg) h).run pins s σ H R I ⟨F, al, S, ρ, g, e, ?_⟩
        rw [q0]
        intro v F' al' H' po g' r
        cases r with
        | tup hq hr => exact ⟨_, rfl, ⟨_, sqT_mono g'.sub hq⟩, h0 _ _ _ _ po g' (wk_seq true hq hr)⟩
      | lst us =>
        cases e1
        refine (pi_list (tg := tg) h).run pins s σ H R I ⟨F, al, S, ρ, g, e, ?_⟩
        rw [q0]
        intro v F' al' H' po g' r
        cases r with
        | lst hq hr => exact ⟨_, rfl, ⟨_, sqL_mono g'.sub hq⟩, h0 _ _ _ _ po g' (wk_seq false hq hr)⟩
      | _ => cases e1
theorem i_range1 {pp : Pos} (hg : Gl X "range") (hm : X.mg "range" = none) (ha : PE X a (tW T X.K E p)) (hs : starEach [a] X.env = (false, eval a X.env) :: starEach [] X.env) : PI X tg (.Call (.Name "range" pp) [a] [] pos) (tI T X.K E (jRange1 p)) := by
  refine piM (pi_range1 hg hm (pa_cons ha pa_nil hs) hs) ?_
  rintro σ H R ⟨F, al, S, ρ, g, e, h⟩
  refine (tW.bindI g e h).imp fun x H1 ⟨F1, al1, S1, w, m, r, h1⟩ => ?_
  split at h1
  · split at h1
    · rename_i j hj
      cases r
      exact ⟨j, rfl, hj.1, hj.2, h1.val m.g (wk_range 0 j.toNat)⟩
    · exact h1.elim
  · exact h1.elim
theorem i_range2 {pp : Pos} (hg : Gl X "range") (hm : X.mg "range" = none) (ha : PE X a (tW T X.K E p)) (hb : PE X b (tW T X.K E q)) (hs : starEach [a, b] X.env = (false, eval a X.env) :: starEach [b] X.env) (hs2 : starEach [b] X.env = (false, eval b X.env) :: starEach [] X.env) :
    PI X tg (.Call (.Name "range" pp) [a, b] [] pos) (tI T X.K E (jRange2 p q)) := by
  refine piM (pi_range2 hg hm (pa_cons ha (pa_cons hb pa_nil hs2) hs) (by rw [hs, hs2]; rfl) (by rw [hs2]; rfl)) ?_
  rintro σ H R ⟨F, al, S, ρ, g, e, h⟩
  refine (tW.bindI g e h).imp fun x H1 ⟨F1, al1, S1, w, m, r, h1⟩ => ?_
  refine (tW.bindI m.g m.e h1).imp fun y H2 ⟨F2, al2, S2, u, m2, r2, h2⟩ => ?_
  split at h2
  · split at h2
    · rename_i hj
      cases r; cases r2
      exact ⟨_, _, rfl, ⟨hj.1.1, hj.1.2, hj.2.1, hj.2.2⟩, h2.val m2.g (wk_range _ _)⟩
    · exact h2.elim
  · exact h2.elim
theorem enum_sound {K : PySem.W.Frag} {F : Hp} {al : List Addr} {H : Hp} {S : Sto} {σ : L2.St} {c : Int} {v : V} {w : W} {R : L2.It → Hp → Prop} (g : Good T K F al S H) (r : Rw T K F al v w) (h : IQ T K E σ F al H (optL S ((items w).map (jEnum.enumI c))) R) :
    ∃ (t : Bool) (a : Addr) (xs : List V), [v] = [.ref a] ∧ SqB K H t a xs ∧ R (ItE K t c a) H := by
  cases e1 : items w with
  | none => rw [e1] at h; exact h.elim
  | some ws =>
    rw [e1] at h
    obtain ⟨t, a, xs, rfl, h1, h2, _⟩ := items_seq r e1
    refine ⟨t, a, xs, rfl, sqB_mono g.sub h1, h.val g ?_⟩
    refine wk_pair (n := xs.length) (by rw [enumI_len, h2.length]) walk_enumB (fun H s => sqB_mono s h1) fun i x y hi e2 e3 => ?_
    cases e2
    obtain ⟨w, h4, h5⟩ := h2.getV e3
    exact ⟨_, _, enumI_get ws c i w h4, .int _, h5⟩
theorem i_enum {elts : List Expr} {kk : Nat} {tpos pp : Pos} (hg : Gl X "enumerate") (hm : X.mg "enumerate" = none) (ha : PE X a (tW T X.K E p)) (hs : starEach [a] X.env = (false, eval a X.env) :: starEach [] X.env) : PI X (.Tuple elts kk tpos) (.Call (.Name "enumerate" pp) [a] [] pos) (tI T X.K E (jEnum 0 p)) := by
  refine piM (pi_enumB hg hm (pa_cons ha pa_nil hs) hs) ?_
  rintro σ H R ⟨F, al, S, ρ, g, e, h⟩
  exact (tW.bindI g e h).imp fun x H1 ⟨F1, al1, S1, w, m, r, h1⟩ => enum_sound m.g r h1
theorem i_enumS {elts : List Expr} {kk ck : Nat} {tpos pp cpos kpos : Pos} {c : Int} (h0 : -(2 ^ 63) ≤ c) (h1 : c < 2 ^ 63) (hg : Gl X "enumerate") (hm : X.mg "enumerate" = none) (ha : PE X a (tW T X.K E p)) (hs : starEach [a] X.env = (false, eval a X.env) :: starEach [] X.env) :
    PI X (.Tuple elts kk tpos) (.Call (.Name "enumerate" pp) [a] [⟨some (Str.ofString "start"), .Constant (.int c) ck cpos, kpos⟩] pos) (tI T X.K E (jEnum c p)) := by
  refine piM (pi_enumS h0 h1 hg hm (pa_cons ha pa_nil hs) hs) ?_
  rintro σ H R ⟨F, al, S, ρ, g, e, h⟩
  exact (tW.bindI g e h).imp fun x H1 ⟨F1, al1, S1, w, m, r, h1⟩ => enum_sound m.g r h1
theorem i_zip {elts : List Expr} {kk : Nat} {tpos pp : Pos} (hg : Gl X "zip") (hm : X.mg "zip" = none) (ha : PE X a (tW T X.K E p)) (hb : PE X b (tW T X.K E q)) (hs : starEach [a, b] X.env = (false, eval a X.env) :: starEach [b] X.env) (hs2 : starEach [b] X.env = (false, eval b X.env) :: starEach [] X.env) (hpl : (backTo pos (starEach [b] X.env)).any (·.1) = false) :
    PI X (.Tuple elts kk tpos) (.Call (.Name "zip" pp) [a, b] [] pos) (tI T X.K E (jZip p q)) := by
  refine piM (RZ.pi_zipA hg hm (pa_cons ha (pa_cons hb pa_nil hs2) hs) hs hpl) ?_
  rintro σ H R ⟨F, al, S, ρ, g, e, h⟩
  refine (tW.bindI g e h).imp fun x H1 ⟨F1, al1, S1, w, m, r, h1⟩ => ?_
  refine (tW.bindI m.g m.e h1).imp fun y H2 ⟨F2, al2, S2, u, m2, r2, h2⟩ => ?_
  replace r := r.post m2.p
  split at h2
  · cases r with
    | tup q1 r1 => cases r2 with
      | tup q3 r3 =>
        refine ⟨_, _, _, _, rfl, .inr ⟨sqT_mono m2.g.sub q1, sqT_mono m2.g.sub q3, h2.val m2.g ?_⟩⟩
        exact wk_pair (by rw [zipW_len, r1.length, r3.length]) (walk_zipT rfl) (fun H s => ⟨sqT_mono s q1, sqT_mono s q3⟩) (zip_pairs r1 r3)
  · cases r with
    | lst q1 r1 => cases r2 with
      | lst q3 r3 =>
        refine ⟨_, _, _, _, rfl, .inl ⟨sqL_mono m2.g.sub q1, sqL_mono m2.g.sub q3, h2.val m2.g ?_⟩⟩
        exact wk_pair (by rw [zipW_len, r1.length, r3.length]) (walk_zip rfl) (fun H s => ⟨sqL_mono s q1, sqL_mono s q3⟩) (zip_pairs r1 r3)
  · exact h2.elim
theorem i_zips {elts : List Expr} {kk ck : Nat} {tpos pp cpos kpos : Pos} (hg : Gl X "zip") (hm : X.mg "zip" = none) (ha : PE X a (tW T X.K E p)) (hb : PE X b (tW T X.K E q)) (hs : starEach [a, b] X.env = (false, eval a X.env) :: starEach [b] X.env) (hs2 : starEach [b] X.env = (false, eval b X.env) :: starEach [] X.env) (hpl : (backTo pos (starEach [b] X.env)).any (·.1) = false)
    (hi : ∀ {ta : TA}, PA X [a, b] ta → PI X (.Tuple elts kk tpos) (.Call (.Name "zip" pp) [a, b] [⟨some (Str.ofString "strict"), .Constant (.bool true) ck cpos, kpos⟩] pos) (iZipS X.K ta)) :
    PI X (.Tuple elts kk tpos) (.Call (.Name "zip" pp) [a, b] [⟨some (Str.ofString "strict"), .Constant (.bool true) ck cpos, kpos⟩] pos) (tI T X.K E (jZips p q)) := by
  refine piM (hi (pa_cons ha (pa_cons hb pa_nil hs2) hs)) ?_
  rintro σ H R ⟨F, al, S, ρ, g, e, h⟩
  refine (tW.bindI g e h).imp fun x H1 ⟨F1, al1, S1, w, m, r, h1⟩ => ?_
  refine (tW.bindI m.g m.e h1).imp fun y H2 ⟨F2, al2, S2, u, m2, r2, h2⟩ => ?_
  replace r := r.post m2.p
  split at h2
  · rename_i us ws e1 e2
    split at h2
    · rename_i hl
      obtain ⟨t1, a1, xs, rfl, q1, r1, _⟩ := items_seq r e1
      obtain ⟨t2, a2, ys, rfl, q3, r3, _⟩ := items_seq r2 e2
      have hl2 : xs.length = ys.length := by rw [r1.length, r3.length, hl]
      refine ⟨t1, t2, _, _, _, _, rfl, sqB_mono m2.g.sub q1, sqB_mono m2.g.sub q3, h2.val m2.g ?_⟩
      refine wk_pair (by rw [zipW_len, ← r1.length, ← r3.length, ← hl2, Nat.min_self]) (walk_zipS hl2) (fun H s => ⟨sqB_mono s q1, sqB_mono s q3⟩) ?_
      intro i x y hi hx hy
      exact zip_pairs r1 r3 i x y (by omega) hx hy
    · exact h2.elim
  · exact h2.elim

/-! ### targets -/
def gTg (K : PySem.W.Frag) : Tg → TG
  | .nm i => gName i
  | .tup is => fun v σ H Q => gTup K is.length (gAll is) v σ H Q ∨ gLst K is.length (gAll is) v σ H Q
  | .star is j => gStar K is.length (gAll (is ++ [j]))
theorem pgs_len : ∀ {is : List Nat} {ws : List W} {ρ ρ' : Env}, setAll is ws ρ = some ρ' → ws.length = is.length
  | [], [], _, _, _ => rfl
  | [], _ :: _, _, _, e => by cases e
  | _ :: _, [], _, _, e => by cases e
  | i :: is, w :: ws, ρ, ρ', e => by rw [List.length_cons, List.length_cons, pgs_len (is := is) (ws := ws) e]
def Tg.slots : Tg → List Nat
  | .nm i => [i]
  | .tup is => is
  | .star is j => is ++ [j]
theorem setAll_app : ∀ {is : List Nat} {ws : List W} {j : Nat} {w : W} {ρ ρ' : Env}, setAll is ws ρ = some ρ' → setAll (is ++ [j]) (ws ++ [w]) ρ = some (ρ'.set j (some w))
  | [], [], _, _, _, _, e => by cases e; rfl
  | [], _ :: _, _, _, _, _, e => by cases e
  | _ :: _, [], _, _, _, _, e => by cases e
  | i :: is, x :: ws, j, w, ρ, ρ', e => setAll_app (is := is) (ws := ws) e
theorem tg_sound {K : PySem.W.Frag} {F : Hp} {al : List Addr} {H : Hp} {S : Sto} {σ σ0 : L2.St} {ρ ρ' : Env} (vs : List Nat) {tg : Tg} {v : V} {w : W} {Q : L2.St → Hp → Prop} (g : Good T K F al S H) (r : Rw T K F al v w) (e : EnvOk T K F al σ ρ) (hb : bindTg tg w ρ = some ρ') (hv : ∀ i ∈ tg.slots, i ∈ vs) (hw : L2.wipe σ vs = L2.wipe σ0 vs)
    (k : ∀ σ' F' al' H', Post F al H F' al' H' → Good T K F' al' S H' → EnvOk T K F' al' σ' ρ' → L2.wipe σ' vs = L2.wipe σ0 vs → Q σ' H') : gTg K tg v σ H Q := by
  cases tg with
  | nm i =>
    cases hb
    exact k _ _ _ _ Post.refl g (e.set r i) (by rw [wipe_set (hv i (List.mem_singleton.mpr rfl))]; exact hw)
  | tup is =>
    cases r with
    | tup q r =>
      exact .inl ⟨_, _, rfl, sqT_mono g.sub q, by rw [r.length, pgs_len hb], gAll_sound vs r e hb hv hw fun σ' e' h' => k _ _ _ _ Post.refl g e' h'⟩
    | lst q r =>
      exact .inr ⟨_, _, rfl, sqL_mono g.sub q, by rw [r.length, pgs_len hb], gAll_sound vs r e hb hv hw fun σ' e' h' => k _ _ _ _ Post.refl g e' h'⟩
    | _ => cases hb
  | star is j =>
    cases r with
    | @tup a xs ws q r =>
      replace hb : (if is.length ≤ ws.length ∧ ws.length ≤ 16384 then (setAll is (ws.take is.length) ρ).map fun ρ' => ρ'.set j (some (.lst (ws.drop is.length))) else none) = some ρ' := hb
      split at hb
      · rename_i hl
        rw [Option.map_eq_some_iff] at hb
        obtain ⟨ρ1, h1, rfl⟩ := hb
        refine ⟨_, _, rfl, sqT_mono g.sub q, by rw [r.length]; exact hl.1, by rw [r.length]; exact hl.2, fun p hp => ?_⟩
        obtain ⟨a1, b1, c1⟩ := g.newLst hp (r.drop is.length)
        refine gAll_sound vs ((r.take is.length).mono b1.ext b1.pre |>.append (.cons c1 .nil)) (e.post b1) (setAll_app h1) hv hw fun σ' e' h' => k _ _ _ _ b1 a1 e' h'
      · cases hb
    | _ => cases hb
theorem g_name {i : Nat} {x : Str} (hN : X.N.Nodup) (hi : X.N[i]? = some x) (hx : Loc X.env.scope x) (hf : X.fn x = true ∨ X.env.scope.names.lookup x = some .local) : PG X (.Name x pos) (gTg X.K (.nm i)) := pg_name hN hi hx hf
theorem gs_nil : PGs X [] (gAll []) := pgs_nil
theorem gs_name {i : Nat} {x : Str} {is : List Nat} (hN : X.N.Nodup) (hi : X.N[i]? = some x) (hx : Loc X.env.scope x) (hf : X.fn x = true ∨ X.env.scope.names.lookup x = some .local) (h2 : PGs X es (gAll is)) (hs : (assignEach (.Name x pos :: es) X.env).map (·.2) = assign (.Name x pos) X.env :: (assignEach es X.env).map (·.2)) : PGs X (.Name x pos :: es) (gAll (i :: is)) := pgs_cons (pg_name hN hi hx hf) h2 hs
theorem gs_star {i : Nat} {x : Str} {pp : Pos} (hN : X.N.Nodup) (hi : X.N[i]? = some x) (hx : Loc X.env.scope x) (hf : X.fn x = true ∨ X.env.scope.names.lookup x = some .local) (hs : (assignEach [.Starred (.Name x pos) pp] X.env).map (·.2) = [assign (.Name x pos) X.env]) : PGs X [.Starred (.Name x pos) pp] (gAll [i]) := by
  refine ⟨fun pins s σ H vs us Q I r h => ?_⟩
  have := (pgs_cons (pg_name (pos := pos) hN hi hx hf) pgs_nil rfl).run pins s σ H vs us Q I r h
  rw [hs]
  exact this
theorem g_tup {is : List Nat} {k : Nat} (hc : X.calm = true) (h : PGs X es (gAll is)) (hn : (assignEach es X.env).length = is.length) (hst : (assignEach es X.env).findIdx? (·.1) = none) : PG X (.Tuple es k pos) (gTg X.K (.tup is)) := by
  refine ⟨fun pins s σ H v u Q I r hw => ?_⟩
  rcases hw with hw | hw
  · exact (pg_tup hc h hn hst).run pins s σ H v u Q I r hw
  · exact (pg_lst hc h hn hst).run pins s σ H v u Q I r hw
theorem g_star {is : List Nat} {j k : Nat} (hc : X.calm = true) (h : PGs X es (gAll (is ++ [j]))) (hn : (assignEach es X.env).length = is.length + 1) (hst : (assignEach es X.env).findIdx? (·.1) = some is.length) : PG X (.Tuple es k pos) (gTg X.K (.star is j)) := pg_star hc h hn hst
end
end DL

set_option Elab.async false
set_option linter.all false
set_option maxRecDepth 100000
set_option maxHeartbeats 4000000
/-! Wi: comprehensions. -/
namespace DL
open PySem PySem.Spec L2

section
variable {T : Tab} {K : PySem.W.Frag} {E : WX} {σ : L2.St} {ρ : Env} {F F' F2 : Hp} {al al' al2 : List Addr} {H H' H2 : Hp} {S S' : Sto} {D : Addr} {o : HO}
theorem wipe_wipe {vs : List Nat} : ∀ {ws : List Nat} {σ : L2.St}, (∀ i ∈ ws, i ∈ vs) → L2.wipe (L2.wipe σ ws) vs = L2.wipe σ vs
  | [], _, _ => rfl
  | w :: ws, σ, h => by
    show L2.wipe ((L2.wipe σ ws).set w none) vs = _
    rw [wipe_set (h w (List.mem_cons_self ..))]
    exact wipe_wipe fun i hi => h i (List.mem_cons_of_mem _ hi)
theorem Good.other (g : Good T K F al S H) (hA : D ∉ al) (hF : F D = none) (o : HO) : Good T K F al S (upd H D o) := by
  refine ⟨fun b u e => ?_, g.nd, g.len, fun a ha => ?_, fun n a c ha hc => ?_⟩
  · rw [upd_ne (ne_of_none e hF)]; exact g.sub b u e
  · rw [upd_ne (show a ≠ D from fun e => hA (e ▸ ha))]; exact g.tr a ha
  · have ne : a ≠ D := fun e => hA (e ▸ List.mem_of_getElem? ha)
    exact (g.cell n a c ha hc).mono (Same.refl _) (Pre.refl _) (fun o h => by rw [upd_ne ne]; exact h) (fun h => h)
theorem Post.other (p : Post F al H F' al' H') (hD : H D = none) (o : HO) : Post F al H F' al' (upd H' D o) :=
  ⟨p.ext, p.pre, p.fresh, fun b u e hb => by rw [upd_ne (ne_of_none e hD)]; exact p.keep b u e hb, p.dom⟩
theorem Good.adoptF (g : Good T K F al S H) (hA : D ∉ al) (hF : F D = none) (ho : H D = some o) : Good T K (upd F D o) al S H := by
  have s1 : Same F (upd F D o) := fun b u e => by rw [upd_ne (ne_of_none e hF)]; exact e
  refine ⟨fun b u e => ?_, g.nd, g.len, g.tr, fun n a c ha hc => ?_⟩
  · by_cases q : b = D
    · subst q; rw [upd_same] at e; rw [← e]; exact ho
    · rw [upd_ne q] at e; exact g.sub b u e
  · have ne : a ≠ D := fun e => hA (e ▸ List.mem_of_getElem? ha)
    exact (g.cell n a c ha hc).mono s1 (Pre.refl _) (fun o h => h) (fun h => by rw [upd_ne ne]; exact h)
theorem Post.adoptF (p : Post F al H F' al' H') (hF : F' D = none) (hD : H D = none) (o : HO) : Post F al H (upd F' D o) al' H' := by
  refine ⟨fun b u e => ?_, p.pre, p.fresh, p.keep, fun b h => ?_⟩
  · have := p.ext b u e
    rw [upd_ne (ne_of_none this hF)]; exact this
  · by_cases q : b = D
    · subst q; exact .inr (.inr hD)
    · rw [upd_ne q] at h; exact p.dom b h
theorem Good.adoptC (g : Good T K F al S H) (hA : D ∉ al) (ho : H D ≠ none) {c : Cell} (hc : CellOk T K F (al ++ [D]) H D c) : Good T K F (al ++ [D]) (S ++ [c]) H := by
  refine ⟨g.sub, ?_, by rw [List.length_append, List.length_append, g.len]; rfl, fun a ha => ?_, fun n a d ha hd => ?_⟩
  · rw [List.nodup_append]
    refine ⟨g.nd, by simp, fun a ha b hb e => ?_⟩
    have : b = D := by simpa using hb
    subst this; subst e; exact hA ha
  · rcases List.mem_append.mp ha with h | h
    · exact g.tr a h
    · have : a = D := by simpa using h
      subst this; exact ho
  · by_cases hn : n < al.length
    · rw [List.getElem?_append_left hn] at ha
      rw [List.getElem?_append_left (by rw [← g.len]; exact hn)] at hd
      exact (g.cell n a d ha hd).mono (Same.refl _) (Pre.app _ _) (fun o h => h) (fun h => h)
    · have h2 : n = al.length := by
        have := (List.getElem?_eq_some_iff.mp ha).1
        rw [List.length_append] at this
        simp at this; omega
      subst h2
      rw [List.getElem?_append_right (Nat.le_refl _), Nat.sub_self] at ha
      rw [g.len, List.getElem?_append_right (Nat.le_refl _), Nat.sub_self] at hd
      simp at ha hd
      subst ha; subst hd
      exact hc
theorem Post.adoptC (p : Post F al H F' al' H') (hD : H D = none) : Post F al H F' (al' ++ [D]) H' := by
  refine ⟨p.ext, p.pre.trans (Pre.app _ _), fun b h => ?_, p.keep, p.dom⟩
  rcases List.mem_append.mp h with h | h
  · exact p.fresh b h
  · have : b = D := by simpa using h
    subst this; exact .inr hD
theorem Post.offA (p : Post F al H F' al' H') (hA : D ∉ al) (ho : H D = some o) : D ∉ al' := fun h => by
  rcases p.fresh D h with z | z
  · exact hA z
  · rw [ho] at z; cases z
theorem Post.offF (p : Post F al H F' al' H') (hA : D ∉ al) (hF : F D = none) (ho : H D = some o) : F' D = none := by
  cases e : F' D with
  | none => rfl
  | some u =>
    rcases p.dom D (by rw [e]; simp) with z | z | z
    · exact absurd hF z
    · exact absurd z hA
    · rw [ho] at z; cases z
theorem lc_sound {it : Ml} {c : Mb} {el : Me} {tgt : Tg} {vs : List Nat} {mt : Bool} {Q : VK} (hsl : ∀ i ∈ tgt.slots, i ∈ vs) (h : tW T K E (mLc mt vs tgt it c el) σ H Q) : tLc (tI T K E it) (gTg K tgt) (DL.tB T K EF c) (tW T K EF el) vs σ H Q := by
  obtain ⟨F, al, S, ρ, g, e, h⟩ := h
  refine ⟨F, al, S, ρ, g, e, ?_⟩
  unfold mLc at h
  cases q : it ρ S with
  | bad => rw [q] at h; exact h.elim
  | exc x S' => rw [q] at h; exact h
  | ok xs S' =>
    rw [q] at h
    replace h : RQ T K E σ F al H (if xs.length ≤ limit then (compM (lcStep ρ vs tgt c el) xs [] S').bind fun ys S => if mt then newCellR (.lst ys) S else .ok (.lst ys) S else .bad) Q := h
    intro J F1 al1 H1 p1 g1 wk D hD
    split at h
    case isFalse => exact h.elim
    rename_i hlim
    obtain ⟨G, Y, w, hG, hY⟩ := wk
    have nb : compM (lcStep ρ vs tgt c el) xs [] S' ≠ .bad := fun z => by rw [z] at h; exact h.elim
    refine lc_it w (fun i H2 => ∃ F2 al2 S2 acc vacc, Post F1 al1 H1 F2 al2 H2 ∧ Good T K F2 al2 S2 H2 ∧ H2 D = some (.lst vacc) ∧ F2 D = none ∧ D ∉ al2 ∧ RwL T K F2 al2 vacc acc ∧ vacc.length ≤ i ∧
      compM (lcStep ρ vs tgt c el) (xs.drop i) acc S2 = compM (lcStep ρ vs tgt c el) xs [] S') ?_ ?_ ?_ ?_
    · obtain ⟨a, b⟩ := g1.side hD (.lst [])
      exact ⟨F1, al1, S', [], [], b, a, upd_same, g1.notF hD, g1.notA hD, .nil, Nat.le_refl _, rfl⟩
    · rintro i H2 hi ⟨F2, al2, S2, acc, vacc, p2, g2, _⟩
      exact hG H2 fun b u e => g2.sub b u (p2.ext b u e)
    · rintro i x H2 H2' hi ⟨F2, al2, S2, acc, vacc, p2, g2, hHD, hFD, hAD, racc, hl, hcm⟩ y
      obtain ⟨F3, u, hu, g3, p3, r3⟩ := hY i H2 x H2' hi y F2 al2 S2 p2.ext p2.pre g2
      have hHD3 : H2' D = some (.lst vacc) := p3.keep D _ hHD hAD
      have hFD3 : F3 D = none := p3.offF hAD hFD hHD
      have hdrop : xs.drop i = u :: xs.drop (i + 1) := by
        obtain ⟨hi', hu'⟩ := List.getElem?_eq_some_iff.mp hu
        rw [List.drop_eq_getElem_cons hi', hu']
      rw [hdrop] at hcm
      replace hcm : (lcStep ρ vs tgt c el u S2).bindL (fun ys S' => compM (lcStep ρ vs tgt c el) (xs.drop (i + 1)) (acc ++ ys) S') = compM (lcStep ρ vs tgt c el) xs [] S' := hcm
      unfold lcStep at hcm
      cases hb : bindTg tgt u (wipeW ρ vs) with
      | none => rw [hb] at hcm; exact absurd hcm.symm nb
      | some ρ' =>
        simp only [hb] at hcm
        refine tg_sound vs (σ0 := σ) g3 r3 ((wipe_envOk e vs).mono (p1.ext.trans (p2.ext.trans p3.ext)) (p1.pre.trans (p2.pre.trans p3.pre))) hb hsl (wipe_wipe fun i h => h) fun σ' F4 al4 H4 p4 g4 e4 hw4 => ⟨hw4, ?_⟩
        have hHD4 : H4 D = some (.lst vacc) := p4.keep D _ hHD3 hAD
        have hFD4 : F4 D = none := p4.offF hAD hFD3 hHD3
        have hAD4 : D ∉ al4 := p4.offA hAD hHD3
        refine ⟨F4, al4, S2, ρ', g4, e4, ?_⟩
        cases hc : c ρ' S2 with
        | bad => rw [hc] at hcm; exact absurd hcm.symm nb
        | exc z S3 => rw [hc] at hcm; exact absurd hcm.symm nb
        | ok b S3 =>
          rw [hc] at hcm
          intro F5 al5 H5 p5 g5
          have hHD5 : H5 D = some (.lst vacc) := p5.keep D _ hHD4 hAD4
          have hFD5 : F5 D = none := p5.offF hAD4 hFD4 hHD4
          have hAD5 : D ∉ al5 := p5.offA hAD4 hHD4
          have p15 := ((p2.trans p3).trans p4).trans p5
          cases b with
          | false =>
            rw [if_neg Bool.false_ne_true]
            replace hcm : compM (lcStep ρ vs tgt c el) (xs.drop (i + 1)) (acc ++ []) S3 = compM (lcStep ρ vs tgt c el) xs [] S' := hcm
            rw [List.append_nil] at hcm
            exact ⟨F5, al5, S3, acc, vacc, p15, g5, hHD5, hFD5, hAD5, ((racc.post p3).post p4).post p5, by omega, hcm⟩
          | true =>
            rw [if_pos rfl]
            refine ⟨F5, al5, S3, ρ', g5, e4.post p5, ?_⟩
            cases hv : el ρ' S3 with
            | bad => simp only [hv] at hcm; exact absurd hcm.symm nb
            | exc z S4 => simp only [hv] at hcm; exact absurd hcm.symm nb
            | ok yw S4 =>
              simp only [hv] at hcm
              replace hcm : compM (lcStep ρ vs tgt c el) (xs.drop (i + 1)) (acc ++ [yw]) S4 = compM (lcStep ρ vs tgt c el) xs [] S' := hcm
              intro v F6 al6 H6 p6 g6 r6
              have hHD6 : H6 D = some (.lst vacc) := p6.keep D _ hHD5 hAD5
              have hFD6 : F6 D = none := p6.offF hAD5 hFD5 hHD5
              have hAD6 : D ∉ al6 := p6.offA hAD5 hHD5
              refine ⟨vacc, hHD6, by rw [← limit_eq]; omega, F6, al6, S4, acc ++ [yw], vacc ++ [v], (p15.trans p6).other hD _, g6.other hAD6 hFD6 _, upd_same, hFD6, hAD6, ((((racc.post p3).post p4).post p5).post p6).append (.cons r6 .nil), by rw [List.length_append, List.length_singleton]; omega, hcm⟩
    · rintro H2 ⟨F2, al2, S2, acc, vacc, p2, g2, hHD, hFD, hAD, racc, hl, hcm⟩
      rw [List.drop_length] at hcm
      replace hcm : LRes.ok acc S2 = compM (lcStep ρ vs tgt c el) xs [] S' := hcm
      rw [← hcm] at h
      replace h : RQ T K E σ F al H (if mt then newCellR (.lst acc) S2 else .ok (.lst acc) S2) Q := h
      cases mt with
      | false =>
        rw [if_neg Bool.false_ne_true] at h
        refine h _ _ _ _ (p1.trans (p2.adoptF hFD hD _)) (g2.adoptF hAD hFD hHD) (.lst (SqL.of upd_same) (racc.mono (fun b u e => by rw [upd_ne (ne_of_none e hFD)]; exact e) (Pre.refl _)))
      | true =>
        rw [if_pos rfl] at h
        refine h _ _ _ _ (p1.trans (p2.adoptC hD)) (g2.adoptC hAD (by rw [hHD]; simp) ⟨vacc, hHD, hFD, racc.mono (Same.refl _) (Pre.app _ _)⟩) (.loc ?_)
        rw [← g2.len, List.getElem?_append_right (Nat.le_refl _), Nat.sub_self]; rfl
end
section
variable {X : Cx} {T : Tab} {E : WX} {pos : Pos} {p q r : Me} {es : List Expr} {ps : Ml} {bp bq br : Mb}
theorem bs_nil : PTs X [] (DL.tB T X.K E bYes) := by
  refine ⟨fun pins s σ H Q I h => ?_⟩
  obtain ⟨F, al, S, ρ, g, e, h⟩ := h
  exact pts_nil.run pins s σ H Q I (h _ _ _ Post.refl g)
theorem bs_one {c : Expr} (h : PT X c (DL.tB T X.K E bp)) : PTs X [c] (DL.tB T X.K E bp) := pts_one h
theorem w_lc {elt tg iter : Expr} {ifs : List Expr} {scope : Scope} {own : List (Str × Nat)} {it : Ml} {c : Mb} {el : Me} {tgt : Tg} {mt : Bool} {vs : List Nat} (hc : X.calm = true) (hN : X.N.Nodup) (hi : PI X tg iter (tI T X.K E it)) (ok : BlkOk X.N X.env.scope scope own) (hvs : own.map (·.2) = vs) (hsl : (tgt.slots.all fun i => vs.contains i) = true)
    (hg : ∀ (s : Shared) (H : Hp) (C : Addr) (cl : List (Str × Addr)) (fp : List Addr), PG (X.blk s H scope (compEnvC scope cl C X.env) fp) tg (gTg X.K tgt)) (ht : ∀ (s : Shared) (H : Hp) (C : Addr) (cl : List (Str × Addr)) (fp : List Addr), PTs (X.blk s H scope (compEnvC scope cl C X.env) fp) ifs (DL.tB T X.K EF c))
    (he : ∀ (s : Shared) (H : Hp) (C : Addr) (cl : List (Str × Addr)) (fp : List Addr), PE (X.blk s H scope (compEnvC scope cl C X.env) fp) elt (tW T X.K EF el)) (hs : ∀ x, foldedSetIterable iter X.env x = pure x) :
    PE X (.ListComp elt [⟨tg, iter, ifs, 0⟩] scope pos) (tW T X.K E (mLc mt vs tgt it c el)) := by
  subst hvs
  refine peM (pe_lc hc hN hi ok hg ht he hs) fun σ H Q h => lc_sound (fun i hi => ?_) h
  have := List.all_eq_true.mp hsl i hi
  simpa using this
end
end DL

set_option Elab.async false
set_option linter.all false
set_option maxRecDepth 100000
set_option maxHeartbeats 4000000
/-! Wj: statements. -/
namespace DL
open PySem PySem.Spec L2

inductive Fl where
  | nx (ρ : Env) (S : Sto) | bk (ρ : Env) (S : Sto) | ct (ρ : Env) (S : Sto) | ret (w : W) (S : Sto) | exc (x : Xn) (ρ : Env) (S : Sto) | bad
  deriving Inhabited
abbrev Ms := Env → Sto → Fl
def Res.toS (ρ : Env) : Res → (W → Sto → Fl) → Fl
  | .ok w S, f => f w S
  | .exc x S, _ => .exc x ρ S
  | .bad, _ => .bad
def LRes.toS (ρ : Env) : LRes → (List W → Sto → Fl) → Fl
  | .ok w S, f => f w S
  | .exc x S, _ => .exc x ρ S
  | .bad, _ => .bad
def BRes.toS (ρ : Env) : BRes → (Bool → Sto → Fl) → Fl
  | .ok w S, f => f w S
  | .exc x S, _ => .exc x ρ S
  | .bad, _ => .bad
def Fl.seq : Fl → Ms → Fl
  | .nx ρ S, f => f ρ S
  | r, _ => r
def Fl.ofO (S : Sto) : Option Env → Fl
  | some ρ => .nx ρ S
  | none => .bad
def sNext : Ms := fun ρ S => .nx ρ S
def sBreak : Ms := fun ρ S => .bk ρ S
def sCont : Ms := fun ρ S => .ct ρ S
def sNever : Ms := fun _ _ => .bad
def sSeq (a b : Ms) : Ms := fun ρ S => (a ρ S).seq b
def sExpr (m : Me) : Ms := fun ρ S => (m ρ S).toS ρ fun _ S => .nx ρ S
def sRet (m : Me) : Ms := fun ρ S => (m ρ S).toS ρ fun w S => .ret w S
def sRetN : Ms := fun _ S => .ret .non S
def sIf (c : Mb) (a b : Ms) : Ms := fun ρ S => (c ρ S).toS ρ fun k S => if k then a ρ S else b ρ S
def sAsg (tg : Tg) (m : Me) : Ms := fun ρ S => (m ρ S).toS ρ fun w S => Fl.ofO S (bindTg tg w ρ)
def sPar (is : List Nat) (m : Ml) : Ms := fun ρ S => (m ρ S).toS ρ fun ws S => Fl.ofO S (setAll is ws ρ)
def augW : Operator → W → W → Option W
  | .Add, .int i, .int j => some (.int (i + j))
  | .Sub, .int i, .int j => some (.int (i - j))
  | .Mult, .int i, .int j => if mulOk i j then some (.int (i * j)) else none
  | .FloorDiv, .int i, .int j => if 0 < j ∧ j < 1073741824 then some (.int (i / j)) else none
  | .Mod, .int i, .int j => if 0 < j then some (.int (i % j)) else none
  | _, _, _ => none
def sAug (o : Operator) (i : Nat) (m : Me) : Ms := fun ρ S => match ρ[i]? with
  | some (some x) => (m ρ S).toS ρ fun y S => match augW o x y with
    | some z => .nx (ρ.set i (some z)) S
    | none => .bad
  | _ => .bad
def setIxR (x i v : W) (S : Sto) : Option Sto := match x, i with
  | .loc n, .int i => match S[n]? with
    | some (.lst ws) => match ixN ws.length i with
      | some j => some (S.set n (.lst (ws.set j v)))
      | none => none
    | _ => none
  | _, _ => none
def sSetIx (a b m : Me) : Ms := fun ρ S => (m ρ S).toS ρ fun v S => (a ρ S).toS ρ fun x S => (b ρ S).toS ρ fun i S => match setIxR x i v S with
  | some S => .nx ρ S
  | none => .bad
def setFldR (c f : Nat) (x v : W) (S : Sto) : Option Sto := match x with
  | .loc n => match S[n]? with
    | some (.obj d fs) => if d = c ∧ fs.length < 100 then some (S.set n (.obj d (putFN f v fs))) else none
    | _ => none
  | _ => none
def sSetFld (c f : Nat) (a m : Me) : Ms := fun ρ S => (m ρ S).toS ρ fun v S => (a ρ S).toS ρ fun x S => match setFldR c f x v S with
  | some S => .nx ρ S
  | none => .bad
def forM (tg : Tg) (b : Ms) : List W → Env → Sto → Fl
  | [], ρ, S => .nx ρ S
  | x :: xs, ρ, S => match bindTg tg x ρ with
    | none => .bad
    | some ρ => match b ρ S with
      | .nx ρ S => forM tg b xs ρ S
      | .ct ρ S => forM tg b xs ρ S
      | .bk ρ S => .nx ρ S
      | r => r
def sFor (it : Ml) (tg : Tg) (b : Ms) : Ms := fun ρ S => (it ρ S).toS ρ fun xs S => forM tg b xs ρ S
def whileM (c : Mb) (b : Ms) : Nat → Env → Sto → Fl
  | 0, _, _ => .bad
  | n + 1, ρ, S => (c ρ S).toS ρ fun k S => if k then match b ρ S with
      | .nx ρ S => whileM c b n ρ S
      | .ct ρ S => whileM c b n ρ S
      | .bk ρ S => .nx ρ S
      | r => r
    else .nx ρ S
def sWhile (n : Nat) (c : Mb) (b : Ms) : Ms := whileM c b n

section
variable (T : Tab) (K : PySem.W.Frag)
def FQ (E : WX) (D : Ends) (F : Hp) (al : List Addr) (H : Hp) (r : Fl) : Prop :=
  match r with
  | .nx ρ S' => ∀ σ' F' al' H', Post F al H F' al' H' → Good T K F' al' S' H' → EnvOk T K F' al' σ' ρ → D.nx σ' H'
  | .bk ρ S' => ∀ σ' F' al' H', Post F al H F' al' H' → Good T K F' al' S' H' → EnvOk T K F' al' σ' ρ → D.bk σ' H'
  | .ct ρ S' => ∀ σ' F' al' H', Post F al H F' al' H' → Good T K F' al' S' H' → EnvOk T K F' al' σ' ρ → D.ct σ' H'
  | .ret w S' => ∀ v F' al' H', Post F al H F' al' H' → Good T K F' al' S' H' → Rw T K F' al' v w → D.rt v H'
  | .exc x ρ S' => ∀ cls d σ' F' al' H', Post F al H F' al' H' → Good T K F' al' S' H' → EnvOk T K F' al' σ' ρ → RwX T K F' al' x cls d → E cls d σ' H'
  | .bad => False
def tS (E : WX) (m : Ms) : TS := fun D σ H => ∃ F al S ρ, Good T K F al S H ∧ EnvOk T K F al σ ρ ∧ FQ T K E D F al H (m ρ S)
end
section
variable {T : Tab} {K : PySem.W.Frag} {E : WX} {σ : L2.St} {ρ : Env} {F F' : Hp} {al al' : List Addr} {H H' : Hp} {S S' : Sto} {D : Ends}
theorem FQ.post {r : Fl} (p : Post F al H F' al' H') (h : FQ T K E D F al H r) : FQ T K E D F' al' H' r := by
  cases r with
  | nx ρ S => exact fun v F2 al2 H2 q g r => h v F2 al2 H2 (p.trans q) g r
  | bk ρ S => exact fun v F2 al2 H2 q g r => h v F2 al2 H2 (p.trans q) g r
  | ct ρ S => exact fun v F2 al2 H2 q g r => h v F2 al2 H2 (p.trans q) g r
  | ret w S' => exact fun v F2 al2 H2 q g r => h v F2 al2 H2 (p.trans q) g r
  | exc x ρ S' => exact fun c d v F2 al2 H2 q g e r => h c d v F2 al2 H2 (p.trans q) g e r
  | bad => exact h
theorem tW.toS {m : Me} {f : W → Sto → Fl} (g : Good T K F al S H) (e : EnvOk T K F al σ ρ) (h : FQ T K E D F al H ((m ρ S).toS ρ f)) :
    tW T K E m σ H fun v H1 => ∃ F1 al1 S1 w, Mid T K F al H σ ρ F1 al1 S1 H1 ∧ Rw T K F1 al1 v w ∧ FQ T K E D F1 al1 H1 (f w S1) := by
  refine ⟨F, al, S, ρ, g, e, ?_⟩
  cases q : m ρ S with
  | ok w S1 =>
    rw [q] at h
    exact fun v F1 al1 H1 p g1 r => ⟨F1, al1, S1, w, ⟨g1, e.post p, p⟩, r, FQ.post p h⟩
  | exc x S1 => rw [q] at h; exact fun c d F1 al1 H1 p g1 r => h c d σ F1 al1 H1 p g1 (e.post p) r
  | bad => rw [q] at h; exact h
theorem tL.toS {m : Ml} {f : List W → Sto → Fl} (g : Good T K F al S H) (e : EnvOk T K F al σ ρ) (h : FQ T K E D F al H ((m ρ S).toS ρ f)) :
    tL T K E m σ H fun v H1 => ∃ F1 al1 S1 w, Mid T K F al H σ ρ F1 al1 S1 H1 ∧ RwL T K F1 al1 v w ∧ FQ T K E D F1 al1 H1 (f w S1) := by
  refine ⟨F, al, S, ρ, g, e, ?_⟩
  cases q : m ρ S with
  | ok w S1 =>
    rw [q] at h
    exact fun v F1 al1 H1 p g1 r => ⟨F1, al1, S1, w, ⟨g1, e.post p, p⟩, r, FQ.post p h⟩
  | exc x S1 => rw [q] at h; exact fun c d F1 al1 H1 p g1 r => h c d σ F1 al1 H1 p g1 (e.post p) r
  | bad => rw [q] at h; exact h
theorem tB.toS {m : Mb} {f : Bool → Sto → Fl} (g : Good T K F al S H) (e : EnvOk T K F al σ ρ) (h : FQ T K E D F al H ((m ρ S).toS ρ f)) :
    DL.tB T K E m σ H fun b H1 => ∃ F1 al1 S1, Mid T K F al H σ ρ F1 al1 S1 H1 ∧ FQ T K E D F1 al1 H1 (f b S1) := by
  refine ⟨F, al, S, ρ, g, e, ?_⟩
  cases q : m ρ S with
  | ok w S1 =>
    rw [q] at h
    exact fun F1 al1 H1 p g1 => ⟨F1, al1, S1, ⟨g1, e.post p, p⟩, FQ.post p h⟩
  | exc x S1 => rw [q] at h; exact fun c d F1 al1 H1 p g1 r => h c d σ F1 al1 H1 p g1 (e.post p) r
  | bad => rw [q] at h; exact h
theorem tI.toS {m : Ml} {f : List W → Sto → Fl} (g : Good T K F al S H) (e : EnvOk T K F al σ ρ) (h : FQ T K E D F al H ((m ρ S).toS ρ f)) :
    tI T K E m σ H fun J H1 => ∃ F1 al1 S1 ws, Mid T K F al H σ ρ F1 al1 S1 H1 ∧ WkW T K F1 al1 J ws ∧ FQ T K E D F1 al1 H1 (f ws S1) := by
  refine ⟨F, al, S, ρ, g, e, ?_⟩
  cases q : m ρ S with
  | ok w S1 =>
    rw [q] at h
    exact fun v F1 al1 H1 p g1 r => ⟨F1, al1, S1, w, ⟨g1, e.post p, p⟩, r, FQ.post p h⟩
  | exc x S1 => rw [q] at h; exact fun c d F1 al1 H1 p g1 r => h c d σ F1 al1 H1 p g1 (e.post p) r
  | bad => rw [q] at h; exact h
theorem tI.imp {m : Ml} {Q Q' : L2.It → Hp → Prop} (h : tI T K E m σ H Q) (i : ∀ v H, Q v H → Q' v H) : tI T K E m σ H Q' := by
  obtain ⟨F, al, S, ρ, g, e, q⟩ := h
  refine ⟨F, al, S, ρ, g, e, ?_⟩
  cases r : m ρ S with
  | ok w S' => rw [r] at q; exact fun v F2 al2 H2 p g r => i _ _ (q v F2 al2 H2 p g r)
  | exc x S' => rw [r] at q; exact q
  | bad => rw [r] at q; exact q
theorem FQ.now {ρ : Env} (h : FQ T K E D F al H (.nx ρ S)) (g : Good T K F al S H) (e : EnvOk T K F al σ ρ) : D.nx σ H := h σ F al H Post.refl g e
theorem FQ.ends {D' : Ends} {r : Fl} (h : FQ T K E D F al H r) (h1 : ∀ σ H, D.nx σ H → D'.nx σ H) (h2 : ∀ σ H, D.bk σ H → D'.bk σ H) (h3 : ∀ σ H, D.ct σ H → D'.ct σ H) (h4 : ∀ v H, D.rt v H → D'.rt v H) : FQ T K E D' F al H r := by
  cases r with
  | nx ρ S => exact fun v F2 al2 H2 q g r => h1 _ _ (h v F2 al2 H2 q g r)
  | bk ρ S => exact fun v F2 al2 H2 q g r => h2 _ _ (h v F2 al2 H2 q g r)
  | ct ρ S => exact fun v F2 al2 H2 q g r => h3 _ _ (h v F2 al2 H2 q g r)
  | ret w S' => exact fun v F2 al2 H2 q g r => h4 _ _ (h v F2 al2 H2 q g r)
  | exc x ρ S' => exact h
  | bad => exact h
/-- a target's binding, then what follows -/
theorem FQ.tg {tg : Tg} {v : V} {w : W} (g : Good T K F al S H) (r : Rw T K F al v w) (e : EnvOk T K F al σ ρ) (h : FQ T K E D F al H (Fl.ofO S (bindTg tg w ρ))) : gTg K tg v σ H D.nx := by
  cases q : bindTg tg w ρ with
  | none => rw [q] at h; exact h.elim
  | some ρ' =>
    rw [q] at h
    exact tg_sound tg.slots (σ0 := σ) g r e q (fun i hi => hi) rfl fun σ' F' al' H' p g' e' _ => h σ' F' al' H' p g' e'
end

section
variable {X : Cx} {T : Tab} {E : WX} {pos : Pos} {a b c tg : Expr} {p q r : Me} {es : List Expr} {ps : Ml} {bp bq br : Mb} {st : Stmt} {rest bd od : List Stmt} {m m2 : Ms}
theorem s_nil : PSs X [] (tS T X.K E sNext) := by
  refine pssM pss_nil ?_
  rintro D σ H ⟨F, al, S, ρ, g, e, h⟩
  exact h.now g e
theorem s_cons (h1 : PS X st (tS T X.K E m)) (h2 : PSs X rest (tS T X.K E m2)) : PSs X (st :: rest) (tS T X.K E (sSeq m m2)) := by
  refine pssM (pss_cons h1 h2) ?_
  rintro D σ H ⟨F, al, S, ρ, g, e, h⟩
  refine ⟨F, al, S, ρ, g, e, ?_⟩
  unfold sSeq at h
  cases q : m ρ S with
  | nx ρ1 S1 =>
    rw [q] at h
    exact fun σ' F' al' H' p g' e' => ⟨F', al', S1, ρ1, g', e', FQ.post p h⟩
  | bk ρ1 S1 => rw [q] at h; exact h
  | ct ρ1 S1 => rw [q] at h; exact h
  | ret w S1 => rw [q] at h; exact h
  | exc x ρ1 S1 => rw [q] at h; exact h
  | bad => rw [q] at h; exact h.elim
theorem s_never : PS X st (tS T X.K E sNever) := by
  refine psM ps_never ?_
  rintro D σ H ⟨F, al, S, ρ, g, e, h⟩
  exact h
theorem ss_never : PSs X rest (tS T X.K E sNever) := by
  refine pssM pss_never ?_
  rintro D σ H ⟨F, al, S, ρ, g, e, h⟩
  exact h
theorem s_pass : PS X (.Pass pos) (tS T X.K E sNext) := by
  refine psM ps_pass ?_
  rintro D σ H ⟨F, al, S, ρ, g, e, h⟩
  exact h.now g e
theorem s_break : PS X (.Break pos) (tS T X.K E sBreak) := by
  refine psM ps_break ?_
  rintro D σ H ⟨F, al, S, ρ, g, e, h⟩
  exact h σ F al H Post.refl g e
theorem s_continue : PS X (.Continue pos) (tS T X.K E sCont) := by
  refine psM ps_continue ?_
  rintro D σ H ⟨F, al, S, ρ, g, e, h⟩
  exact h σ F al H Post.refl g e
theorem s_expr (ha : PE X a (tW T X.K E p)) (hs : swapsWith a none pos.line X.env = pure false) : PS X (.Expr a pos) (tS T X.K E (sExpr p)) := by
  refine psM (ps_expr ha hs) ?_
  rintro D σ H ⟨F, al, S, ρ, g, e, h⟩
  exact (tW.toS g e h).imp fun x H1 ⟨F1, al1, S1, w, m, r, h1⟩ => h1.now m.g m.e
theorem s_ret (ha : PE X a (tW T X.K E p)) : PS X (.Return (some a) pos) (tS T X.K E (sRet p)) := by
  refine psM (ps_ret ha) ?_
  rintro D σ H ⟨F, al, S, ρ, g, e, h⟩
  exact (tW.toS g e h).imp fun x H1 ⟨F1, al1, S1, w, m, r, h1⟩ => h1 _ _ _ _ Post.refl m.g r
theorem s_retN : PS X (.Return none pos) (tS T X.K E sRetN) := by
  refine psM ps_retN ?_
  rintro D σ H ⟨F, al, S, ρ, g, e, h⟩
  exact h _ _ _ _ Post.refl g .non
theorem s_if (hc : PT X c (DL.tB T X.K E bp)) (ha : PSs X bd (tS T X.K E m)) (hb : PSs X od (tS T X.K E m2)) : PS X (.If c bd od pos) (tS T X.K E (sIf bp m m2)) := by
  refine psM (ps_if hc ha hb) ?_
  rintro D σ H ⟨F, al, S, ρ, g, e, h⟩
  refine (tB.toS g e h).imp fun k H1 ⟨F1, al1, S1, m, h1⟩ => ?_
  cases k with
  | true => rw [if_pos rfl]; exact ⟨F1, al1, S1, ρ, m.g, m.e, h1⟩
  | false => rw [if_neg Bool.false_ne_true]; exact ⟨F1, al1, S1, ρ, m.g, m.e, h1⟩
theorem s_asg {t : Tg} (ha : PE X a (tW T X.K E p)) (hg : PG X tg (gTg X.K t)) (hs : swapsWithSole [tg] a pos.line X.env = pure false) (hw : swappedStores [tg] a X.env = pure none) (h1 : (assignEach [tg] X.env).map (·.2) = [assign tg X.env]) : PS X (.Assign [tg] a pos) (tS T X.K E (sAsg t p)) := by
  refine psM (ps_asg ha hg hs hw h1) ?_
  rintro D σ H ⟨F, al, S, ρ, g, e, h⟩
  exact (tW.toS g e h).imp fun x H1 ⟨F1, al1, S1, w, m, r, h1⟩ => h1.tg m.g r m.e
theorem s_set {i : Nat} {x : Str} {pos' : Pos} (hN : X.N.Nodup) (hi : X.N[i]? = some x) (hx : Loc X.env.scope x) (ha : PE X a (tW T X.K E p)) (hs : swapsWith a (some (.Name x pos')) pos.line X.env = pure false) (hf : X.fn x = true ∨ X.env.scope.names.lookup x = some .local) :
    PS X (.Assign [.Name x pos'] a pos) (tS T X.K E (sAsg (.nm i) p)) := by
  refine psM (ps_set hN hi hx ha hs hf) ?_
  rintro D σ H ⟨F, al, S, ρ, g, e, h⟩
  exact (tW.toS g e h).imp fun x H1 ⟨F1, al1, S1, w, m, r, h1⟩ => h1.tg m.g r m.e
theorem s_setLc {i : Nat} {y : Str} {py : Pos} {elt iter : Expr} {ifs : List Expr} {scope : Scope} {own : List (Str × Nat)} {spos : Pos} {it : Ml} {cb : Mb} {el : Me} {tgt : Tg} {mt : Bool} {vs : List Nat} (hc : X.calm = true) (hN : X.N.Nodup) (hy : X.N[i]? = some y) (hyl : X.env.scope.names.lookup y = some .local)
    (hsw : swapsWith (.ListComp elt [⟨tg, iter, ifs, 0⟩] scope pos) (some (.Name y py)) spos.line X.env = pure true) (hi : PI X tg iter (tI T X.K E it)) (ok : BlkOk X.N X.env.scope scope own) (hvs : own.map (·.2) = vs) (hsl : (tgt.slots.all fun i => vs.contains i) = true)
    (hg : ∀ (s : Shared) (H : Hp) (C : Addr) (cl : List (Str × Addr)) (fp : List Addr), PG (X.blk s H scope (compEnvC scope cl C X.env) fp) tg (gTg X.K tgt)) (ht : ∀ (s : Shared) (H : Hp) (C : Addr) (cl : List (Str × Addr)) (fp : List Addr), PTs (X.blk s H scope (compEnvC scope cl C X.env) fp) ifs (DL.tB T X.K EF cb))
    (he : ∀ (s : Shared) (H : Hp) (C : Addr) (cl : List (Str × Addr)) (fp : List Addr), PE (X.blk s H scope (compEnvC scope cl C X.env) fp) elt (tW T X.K EF el)) (hs : ∀ x, foldedSetIterable iter X.env x = pure x) :
    PS X (.Assign [.Name y py] (.ListComp elt [⟨tg, iter, ifs, 0⟩] scope pos) spos) (tS T X.K E (sAsg (.nm i) (mLc mt vs tgt it cb el))) := by
  subst hvs
  refine psM (ps_setLc hc hN hy hyl hsw hi ok hg ht he hs) ?_
  rintro D σ H ⟨F, al, S, ρ, g, e, h⟩
  refine lc_sound (mt := mt) (fun i hi => ?_) ((tW.toS g e h).imp fun x H1 ⟨F1, al1, S1, w, m, r, h1⟩ => h1.tg m.g r m.e)
  have := List.all_eq_true.mp hsl i hi
  simpa using this
theorem s_par2 {i j : Nat} {x y : Str} {px py pt : Pos} {kt k2 pt2} (hc : X.calm = true) (hN : X.N.Nodup) (hi : X.N[i]? = some x) (hj : X.N[j]? = some y) (hij : i ≠ j)
    (hx : X.env.scope.names.lookup x = some .local) (hy : X.env.scope.names.lookup y = some .local) (ha : PA X [a, b] (tL T X.K E ps))
    (hw : swappedStores [.Tuple [.Name x px, .Name y py] kt pt] (.Tuple [a, b] k2 pt2) X.env = pure (some [x, y])) (hs : swapsWithSole [.Tuple [.Name x px, .Name y py] kt pt] (.Tuple [a, b] k2 pt2) pos.line X.env = pure false) :
    PS X (.Assign [.Tuple [.Name x px, .Name y py] kt pt] (.Tuple [a, b] k2 pt2) pos) (tS T X.K E (sPar [i, j] ps)) := by
  refine psM (ps_par hc hN hi hj hij hx hy ha hw hs) ?_
  rintro D σ H ⟨F, al, S, ρ, g, e, h⟩
  refine (tL.toS g e h).imp fun vs H1 ⟨F1, al1, S1, w, m, r, h1⟩ => ?_
  cases r with
  | nil => exact h1.elim
  | cons r1 r =>
    cases r with
    | nil => exact h1.elim
    | cons r2 r =>
      cases r with
      | nil => exact ⟨_, _, rfl, h1.now m.g ((m.e.set r1 i).set r2 j)⟩
      | cons r3 r => exact h1.elim
theorem s_par3 {i j l : Nat} {x y z : Str} {px py pz pt : Pos} {kt k2 pt2} (hc : X.calm = true) (hN : X.N.Nodup) (hi : X.N[i]? = some x) (hj : X.N[j]? = some y) (hl : X.N[l]? = some z) (hij : i ≠ j) (hil : i ≠ l) (hjl : j ≠ l)
    (hx : X.env.scope.names.lookup x = some .local) (hy : X.env.scope.names.lookup y = some .local) (hz : X.env.scope.names.lookup z = some .local) (ha : PA X [a, b, c] (tL T X.K E ps))
    (hw : swappedStores [.Tuple [.Name x px, .Name y py, .Name z pz] kt pt] (.Tuple [a, b, c] k2 pt2) X.env = pure (some [x, y, z])) (hs : swapsWithSole [.Tuple [.Name x px, .Name y py, .Name z pz] kt pt] (.Tuple [a, b, c] k2 pt2) pos.line X.env = pure false) :
    PS X (.Assign [.Tuple [.Name x px, .Name y py, .Name z pz] kt pt] (.Tuple [a, b, c] k2 pt2) pos) (tS T X.K E (sPar [i, j, l] ps)) := by
  refine psM (ps_par3 hc hN hi hj hl hij hil hjl hx hy hz ha hw hs) ?_
  rintro D σ H ⟨F, al, S, ρ, g, e, h⟩
  refine (tL.toS g e h).imp fun vs H1 ⟨F1, al1, S1, w, m, r, h1⟩ => ?_
  cases r with
  | nil => exact h1.elim
  | cons r1 r =>
    cases r with
    | nil => exact h1.elim
    | cons r2 r =>
      cases r with
      | nil => exact h1.elim
      | cons r3 r =>
        cases r with
        | nil => exact ⟨_, _, _, rfl, h1.now m.g (((m.e.set r1 i).set r2 j).set r3 l)⟩
        | cons r4 r => exact h1.elim
/-- op= -/
def rAug : Operator → R2
  | .Add => rI0 fun i j => .int (i + j)
  | .Sub => rI0 fun i j => .int (i - j)
  | .Mult => rI CMul fun i j => .int (i * j)
  | .FloorDiv => rI CDiv fun i j => .int (i / j)
  | .Mod => rI (fun _ j => 0 < j) fun i j => .int (i % j)
  | _ => rNo
theorem op_aug (o : Operator) : OpR X (inplaceOp o) (rAug o) := by
  cases o <;> first | exact iop_add | exact iop_sub | exact iop_mul | exact iop_fdiv | exact iop_mod | exact op_no
theorem aug_sound {K : PySem.W.Frag} {F : Hp} {al : List Addr} {H : Hp} {o : Operator} {x y : V} {u w z : W} {Q : VK} (rx : Rw T K F al x u) (ry : Rw T K F al y w) (e : augW o u w = some z) (k : ∀ v, Rw T K F al v z → Q v H) : rAug o x y H Q := by
  unfold augW at e
  split at e
  · cases e; cases rx; cases ry; exact ⟨_, _, rfl, rfl, k _ (.int _)⟩
  · cases e; cases rx; cases ry; exact ⟨_, _, rfl, rfl, k _ (.int _)⟩
  · split at e
    · rename_i hm
      cases e; cases rx; cases ry
      refine ⟨_, _, rfl, rfl, ?_, k _ (.int _)⟩
      unfold mulOk at hm
      simp only [Bool.or_eq_true, Bool.and_eq_true, decide_eq_true_eq] at hm
      exact hm
    · cases e
  · split at e
    · rename_i hm
      cases e; cases rx; cases ry
      exact ⟨_, _, rfl, rfl, hm, k _ (.int _)⟩
    · cases e
  · split at e
    · rename_i hm
      cases e; cases rx; cases ry
      exact ⟨_, _, rfl, rfl, hm, k _ (.int _)⟩
    · cases e
  · cases e
theorem s_aug {i : Nat} {x : Str} {o : Operator} {pos' : Pos} (hN : X.N.Nodup) (hi : X.N[i]? = some x) (hx : Loc X.env.scope x) (ha : PE X a (tW T X.K E p)) (hf : X.fn x = true ∨ X.env.scope.names.lookup x = some .local) : PS X (.AugAssign (.Name x pos') o a pos) (tS T X.K E (sAug o i p)) := by
  refine psM (ps_aug hN hi hx ha (ti := rAug o) (fun pins s σ H x y v u Q I rx ry q => augR (op_aug o) I rx ry q) hf) ?_
  rintro D σ H ⟨F, al, S, ρ, g, e, h⟩
  unfold sAug at h
  split at h
  · rename_i w hw
    obtain ⟨v, h1, h2⟩ := e.2 i w hw
    refine ⟨v, h1, (tW.toS g e h).imp fun y H1 ⟨F1, al1, S1, u, m, r, h3⟩ => ?_⟩
    cases q : augW o w u with
    | none => rw [q] at h3; exact h3.elim
    | some z =>
      rw [q] at h3
      exact aug_sound (h2.post m.p) r q fun v rv => h3.now m.g (m.e.set rv i)
  · exact h.elim
theorem s_setIx {iv : Expr} {tpos : Pos} (ha : PE X a (tW T X.K E p)) (hb : PE X b (tW T X.K E q)) (hv : PE X iv (tW T X.K E r)) (hs : swapsWithSole [.Subscript a b tpos] iv pos.line X.env = pure false) (hw : swappedStores [.Subscript a b tpos] iv X.env = pure none) (h1 : (assignEach [.Subscript a b tpos] X.env).map (·.2) = [assign (.Subscript a b tpos) X.env])
    (h2 : ∀ v, assign (.Subscript a b tpos) X.env v = (do
      let ov ← holding [v] (eval a X.env)
      let iv ← holding [v, ov] (eval b X.env)
      standAt tpos
      holding [v, ov, iv] (setItem ov iv v)
      release [v, ov, iv] [])) : PS X (.Assign [.Subscript a b tpos] iv pos) (tS T X.K E (sSetIx p q r)) := by
  refine psM (ps_asg hv (pg_sub ha hb set_list h2) hs hw h1) ?_
  rintro D σ H ⟨F, al, S, ρ, g, e, h⟩
  refine (tW.toS g e h).imp fun v H1 ⟨F1, al1, S1, vw, m, rv, h1⟩ => ?_
  refine (tW.toS m.g m.e h1).imp fun x H2 ⟨F2, al2, S2, xw, m2, rx, h2⟩ => ?_
  refine (tW.toS m2.g m2.e h2).imp fun i H3 ⟨F3, al3, S3, iw, m3, ri, h3⟩ => ?_
  cases q : setIxR xw iw vw S3 with
  | none => simp only [q] at h3; exact h3.elim
  | some S4 =>
    simp only [q] at h3
    unfold setIxR at q
    split at q
    · split at q
      · rename_i ws hn
        split at q
        · rename_i j hj
          cases q
          cases ri
          cases rx.post m3.p with
          | @loc pa _ hl =>
            obtain ⟨xs, h4, h5, h6⟩ := m3.g.cell _ pa _ hl hn
            refine ⟨pa, xs, _, j, rfl, rfl, h4, by rw [h6.length]; exact hj, ?_⟩
            obtain ⟨g1, p1⟩ := m3.g.setCell (o := .lst (xs.set j v)) (c := .lst (ws.set j vw)) hl h5 ⟨_, upd_same, h5, h6.set ((rv.post m2.p).post m3.p) j⟩
            exact h3 _ _ _ _ p1 g1 (m3.e.post p1)
        · cases q
      · cases q
    · cases q
theorem putF_sound {K : PySem.W.Frag} {F : Hp} {al : List Addr} (hn : T.fld.Nodup) {f : Nat} (hf : f < T.fld.length) {v : V} {w : W} (rv : Rw T K F al v w) : ∀ {gs : List (Str × V)} {fs : List (Nat × W)}, RwF T K F al gs fs → RwF T K F al (putF (T.f f) v gs) (putFN f w fs)
  | _, _, .nil => .cons hf rv .nil
  | _, _, .cons (i := i) l r t => by
    unfold putF putFN
    by_cases h : i = f
    · subst h
      rw [if_pos rfl, if_pos rfl]
      exact .cons l rv t
    · rw [if_neg h, if_neg (fun q => h (Tab.f_inj hn l hf q))]
      exact .cons l r (putF_sound hn hf rv t)
theorem rwF_len {K : PySem.W.Frag} {F : Hp} {al : List Addr} : ∀ {gs : List (Str × V)} {fs : List (Nat × W)}, RwF T K F al gs fs → gs.length = fs.length
  | _, _, .nil => rfl
  | _, _, .cons _ _ t => by rw [List.length_cons, List.length_cons, rwF_len t]
theorem s_setFld {cc f : Nat} {fn : Str} {pos' : Pos} (hn : T.fld.Nodup) (hf : f < T.fld.length) (hfn : T.f f = fn) (hc : Cls X.K (T.c cc)) (hna : NoAttr X.K (T.c cc) fn) (ha : PE X a (tW T X.K E p)) (hv : PE X b (tW T X.K E q)) (hs : swapsWith b (some (.Attribute a fn pos')) pos.line X.env = pure false) : PS X (.Assign [.Attribute a fn pos'] b pos) (tS T X.K E (sSetFld cc f p q)) := by
  subst hfn
  refine psM (ps_fld ha hv hs) ?_
  rintro D σ H ⟨F, al, S, ρ, g, e, h⟩
  refine (tW.toS g e h).imp fun v H1 ⟨F1, al1, S1, vw, m, rv, h1⟩ => ?_
  refine (tW.toS m.g m.e h1).imp fun x H2 ⟨F2, al2, S2, xw, m2, rx, h2⟩ => ?_
  cases q : setFldR cc f xw vw S2 with
  | none => rw [q] at h2; exact h2.elim
  | some S3 =>
    rw [q] at h2
    unfold setFldR at q
    split at q
    · split at q
      · rename_i d fs hn2
        split at q
        · rename_i hd
          cases q
          obtain ⟨rfl, hl⟩ := hd
          cases rx with
          | @loc pa _ hl2 =>
            obtain ⟨dx, gs, h4, h5, h6⟩ := m2.g.cell _ pa _ hl2 hn2
            refine ⟨pa, _, dx, gs, rfl, h4, hc, hna, by rw [rwF_len h6]; omega, ?_⟩
            obtain ⟨g1, p1⟩ := m2.g.setCell (o := .ins (T.c d) dx (putF (T.f f) v gs)) (c := .obj d (putFN f vw fs)) hl2 h5 ⟨dx, _, upd_same, h5, putF_sound hn hf (rv.post m2.p) h6⟩
            exact h2 _ _ _ _ p1 g1 (m2.e.post p1)
        · cases q
      · cases q
    · cases q
theorem s_for {iter : Expr} {it : Ml} {t : Tg} (hp : PassesOwn (model X.prog X.w) X.A X.env X.xe) (hc : X.calm = true) (hi : PI X tg iter (tI T X.K E it)) (hg : PG X tg (gTg X.K t)) (hb : PSs X bd (tS T X.K E m)) (hs : ∀ x, foldedSetIterable iter X.env x = pure x) : PS X (.For tg iter bd [] pos) (tS T X.K E (sFor it t m)) := by
  refine psM (ps_for hp hc hi hg hb hs) ?_
  rintro D σ H ⟨F, al, S, ρ, g, e, h⟩
  refine (tI.toS g e h).imp fun J H1 ⟨F1, al1, S1, xs, mid, wk, h1⟩ => ?_
  obtain ⟨G, Y, w, hG, hY⟩ := wk
  refine for_it w (fun i σ2 H2 => ∃ F2 al2 S2 ρ2, Post F1 al1 H1 F2 al2 H2 ∧ Good T X.K F2 al2 S2 H2 ∧ EnvOk T X.K F2 al2 σ2 ρ2 ∧ FQ T X.K E D F2 al2 H2 (forM t m (xs.drop i) ρ2 S2)) ?_ ?_ ?_ ?_
  · exact ⟨F1, al1, S1, ρ, Post.refl, mid.g, mid.e, h1⟩
  · rintro i σ2 H2 hi ⟨F2, al2, S2, ρ2, p2, g2, _⟩
    exact hG H2 fun b u e => g2.sub b u (p2.ext b u e)
  · rintro i x σ2 H2 H2' hi ⟨F2, al2, S2, ρ2, p2, g2, e2, h2⟩ y
    obtain ⟨F3, u, hu, g3, p3, r3⟩ := hY i H2 x H2' hi y F2 al2 S2 p2.ext p2.pre g2
    have hdrop : xs.drop i = u :: xs.drop (i + 1) := by
      obtain ⟨hi', hu'⟩ := List.getElem?_eq_some_iff.mp hu
      rw [List.drop_eq_getElem_cons hi', hu']
    rw [hdrop] at h2
    unfold forM at h2
    cases hb : bindTg t u ρ2 with
    | none => rw [hb] at h2; exact h2.elim
    | some ρ3 =>
      simp only [hb] at h2
      refine tg_sound t.slots (σ0 := σ2) g3 r3 (e2.post p3) hb (fun i hi => hi) rfl fun σ3 F4 al4 H4 p4 g4 e4 _ => ?_
      refine ⟨F4, al4, S2, ρ3, g4, e4, ?_⟩
      have p14 := (p2.trans p3).trans p4
      replace h2 := FQ.post (p3.trans p4) h2
      cases hm : m ρ3 S2 with
      | nx ρ5 S5 =>
        simp only [hm] at h2
        exact fun σ5 F5 al5 H5 p5 g5 e5 => ⟨F5, al5, S5, ρ5, p14.trans p5, g5, e5, FQ.post p5 h2⟩
      | ct ρ5 S5 =>
        simp only [hm] at h2
        exact fun σ5 F5 al5 H5 p5 g5 e5 => ⟨F5, al5, S5, ρ5, p14.trans p5, g5, e5, FQ.post p5 h2⟩
      | bk ρ5 S5 =>
        simp only [hm] at h2
        exact fun σ5 F5 al5 H5 p5 g5 e5 => h2 σ5 F5 al5 H5 p5 g5 e5
      | ret w S5 =>
        simp only [hm] at h2
        exact h2
      | exc x ρ5 S5 =>
        simp only [hm] at h2
        exact h2
      | bad => simp only [hm] at h2; exact h2.elim
  · rintro σ2 H2 ⟨F2, al2, S2, ρ2, p2, g2, e2, h2⟩
    rw [List.drop_length] at h2
    exact h2.now g2 e2
end

/-! ### a statement on data alone: the store stays out of it -/
def hide (ρ : Env) : Env := ρ.map fun o => o.bind fun w => if w.nl then some w else none
def frameR (S : Sto) : Fl → Fl
  | .nx ρ _ => .nx (hide ρ) S
  | .bk ρ _ => .bk (hide ρ) S
  | .ct ρ _ => .ct (hide ρ) S
  | .ret w _ => if w.nl then .ret w S else .bad
  | .exc x ρ _ => if x.nl then .exc x (hide ρ) S else .bad
  | .bad => .bad
def sFrame (b : Ms) : Ms := fun ρ S => frameR S (b (hide ρ) [])
section
variable {X : Cx} {T : Tab} {E : WX} {st : Stmt} {m : Ms}
theorem hide_envOk {K : PySem.W.Frag} {F : Hp} {al al' : List Addr} {σ : L2.St} {ρ : Env} (e : EnvOk T K F al σ ρ) : EnvOk T K F al' σ (hide ρ) := by
  refine ⟨by unfold hide; rw [List.length_map]; exact e.1, fun i w h => ?_⟩
  unfold hide at h
  rw [List.getElem?_map] at h
  cases q : ρ[i]? with
  | none => rw [q] at h; cases h
  | some o =>
    rw [q] at h
    cases o with
    | none => cases h
    | some u =>
      replace h : some (if u.nl then some u else none) = some (some w) := h
      split at h
      · rename_i hu
        cases h
        obtain ⟨v, h1, h2⟩ := e.2 i _ q
        exact ⟨v, h1, h2.nl hu⟩
      · cases h
theorem s_frame (h : PS X st (tS T X.K E m)) : PS X st (tS T X.K E (sFrame m)) := by
  refine psM h ?_
  rintro D σ H ⟨F, al, S, ρ, g, e, hq⟩
  refine ⟨F, [], [], hide ρ, g.bare, hide_envOk e, ?_⟩
  unfold sFrame at hq
  have fr : ∀ {F' al' S' H'}, Post F [] H F' al' H' → Good T X.K F' al' S' H' → Good T X.K F' al S H' ∧ Post F al H F' al H' := fun p g' => g.frame (be := []) (Same.refl _) (fun _ h => nomatch h) p g'
  cases q : m (hide ρ) [] with
  | nx ρ1 S1 =>
    rw [q] at hq
    intro σ' F' al' H' p g' e'
    obtain ⟨a, b⟩ := fr p g'
    exact hq σ' F' al H' b a (hide_envOk e')
  | bk ρ1 S1 =>
    rw [q] at hq
    intro σ' F' al' H' p g' e'
    obtain ⟨a, b⟩ := fr p g'
    exact hq σ' F' al H' b a (hide_envOk e')
  | ct ρ1 S1 =>
    rw [q] at hq
    intro σ' F' al' H' p g' e'
    obtain ⟨a, b⟩ := fr p g'
    exact hq σ' F' al H' b a (hide_envOk e')
  | ret w S1 =>
    rw [q] at hq
    replace hq : FQ T X.K E D F al H (if w.nl then .ret w S else .bad) := hq
    split at hq
    · rename_i hw
      intro v F' al' H' p g' r
      obtain ⟨a, b⟩ := fr p g'
      exact hq v F' al H' b a (r.nl hw)
    · exact hq.elim
  | exc x ρ1 S1 =>
    rw [q] at hq
    replace hq : FQ T X.K E D F al H (if x.nl then .exc x (hide ρ1) S else .bad) := hq
    split at hq
    · rename_i hw
      intro c d σ' F' al' H' p g' e' r
      obtain ⟨a, b⟩ := fr p g'
      exact hq c d σ' F' al H' b a (hide_envOk e') (r.nl hw)
    · exact hq.elim
  | bad => rw [q] at hq; exact hq.elim
end
end DL

set_option Elab.async false
set_option linter.all false
set_option maxRecDepth 100000
set_option maxHeartbeats 4000000
/-! Wk: defs, the head's facts, the law's end. -/
namespace DL
open PySem PySem.Spec L2

def startW (N : Nat) (ws : List W) : Env := ws.map some ++ List.replicate (N - ws.length) none
def Fl.toR : Fl → Res
  | .nx _ S => .ok .non S
  | .ret w S => .ok w S
  | .exc x _ S => .exc x S
  | _ => .bad
def fnW (n N : Nat) (b : Ms) : Fn := fun ws S => if ws.length = n then (b (startW N ws) S).toR else .bad
theorem fnW_takes (n N : Nat) (b : Ms) : TakesN n (fnW n N b) := fun ws S h => if_neg h
section
variable {T : Tab} {P : Program} {w : World} {K : PySem.W.Frag} {mg : Str → Option Value} {base : Heap}
theorem start_get {vs : List V} : ∀ {N : List Str} {i : Nat} {v : V}, vs[i]? = some v → (start N vs)[i]? = some (some v) := fun {N i v} h => by
  unfold L2.start
  have hi := (List.getElem?_eq_some_iff.mp h).1
  rw [List.getElem?_append_left (by rw [List.length_map]; exact hi), List.getElem?_map, h]; rfl
theorem start_envOk {F : Hp} {al : List Addr} {N : List Str} {vs : List V} {ws : List W} (r : RwL T K F al vs ws) : EnvOk T K F al (start N vs) (startW N.length ws) := by
  refine ⟨?_, fun i u h => ?_⟩
  · unfold L2.start startW
    rw [List.length_append, List.length_append, List.length_map, List.length_map, List.length_replicate, List.length_replicate, r.length]
  · unfold startW at h
    by_cases hi : i < ws.length
    · rw [List.getElem?_append_left (by rw [List.length_map]; exact hi), List.getElem?_map] at h
      cases q : ws[i]? with
      | none => rw [q] at h; cases h
      | some x =>
        rw [q] at h
        have : x = u := by simpa using h
        subst this
        obtain ⟨v, h1, h2⟩ := r.get q
        exact ⟨v, start_get h1, h2⟩
    · rw [List.getElem?_append_right (by rw [List.length_map]; omega), List.getElem?_replicate] at h
      split at h <;> cases h
theorem fnW_ok {x qual : Str} {params : Arguments} {body : List Stmt} {scope : Scope} {dvs : List V} {kws : List (Str × V)} {f : Addr} {fd : FuncData} {N pn : List Str} {k : Nat} {b : Ms} (Fd : FunD K x qual params body scope dvs kws f fd) (Sc : FnScope N pn scope)
    (hb : ∀ (cdv : Value) (A : Around) (outer : List PySem.Env) (s : Shared) (H : Hp) (E : XK), Room k (A.deeper (PyProof.Rows.envOfC qual scope s.heap.objs.size f cdv)) →
      PSs (cxOf (L2.CX P w) P w K mg base N qual scope f cdv A outer s H E) body (tS T K (fun c d _ H' => E c d H') b)) :
    FnOk P w K mg base (L2.CX P w) (k + 1) f fd pn (spW T K pn.length (fnW pn.length N.length b)) := by
  refine Fd.ok Sc (fun vs H Q E h => ?_) (fun cdv A outer s H vs Q E hr h => ⟨_, hb cdv A outer s H E hr, ?_⟩)
  · obtain ⟨F, al, S, ws, hl, g, r, _⟩ := h
    exact r.length.trans hl
  · obtain ⟨F, al, S, ws, hl, g, r, h⟩ := h
    refine ⟨F, al, S, startW N.length ws, g, start_envOk r, ?_⟩
    unfold fnW at h
    rw [if_pos hl] at h
    cases q : b (startW N.length ws) S with
    | nx ρ S' => rw [q] at h; exact fun σ' F' al' H' p g' _ => h .non F' al' H' p g' .non
    | bk ρ S' => rw [q] at h; exact h.elim
    | ct ρ S' => rw [q] at h; exact h.elim
    | ret u S' => rw [q] at h; exact h
    | exc z ρ S' => rw [q] at h; exact fun c d σ' F' al' H' p g' _ rx => h c d F' al' H' p g' rx
    | bad => rw [q] at h; exact h.elim
theorem callF_mk {x qual : Str} {params : Arguments} {body : List Stmt} {scope : Scope} {dv0 : List V} {kws : List (Str × V)} {f : Addr} {fd : FuncData} {pn : List Str} {k n : Nat} {φ : Fn} (Fd : FunD K x qual params body scope dv0 kws f fd) (hm : mg x = some (.ref f))
    (FO : FnOk P w K mg base (L2.CX P w) k f fd pn (spW T K n φ)) (hn : TakesN n φ) (hb : Binds K fd pn []) : CallF T P w K mg base k x φ :=
  ⟨f, fd, pn, [], [], [], n, φ, FO, hn, hm, Fd.kp, hb, .nil, fun _ _ => .nil, funext fun ws => funext fun S => by rw [List.append_nil]⟩
theorem makeF_mk {x : Str} {f : Addr} {fd : FuncData} {pn : List Str} {k n c : Nat} {φ : Fn} (hm : mg x = some (.ref (T.c c))) (hM : Mk K (T.c c) f)
    (FO : FnOk P w K mg base (L2.CX P w) k f fd pn (spW T K n φ)) (hn : TakesN n φ) (hb : Binds K fd pn []) : MakeF T P w K mg base k x c φ :=
  ⟨f, fd, pn, [], [], [], n, φ, FO, hn, hm, hM, hb, .nil, fun _ _ => .nil, funext fun ws => funext fun S => by rw [List.append_nil]⟩
/-- a def with defaults, all of them written at the call -/
theorem binds_full {x qual : Str} {params : Arguments} {body : List Stmt} {scope : Scope} {dvs : List V} {kws : List (Str × V)} {f : Addr} {fd : FuncData} {pn : List Str} (Fd : FunD K x qual params body scope dvs kws f fd) (n : Nat) (hd : dvs ≠ []) (hn : n = pn.length)
    (h : ∀ (Ta : Addr) (kV doc pm : Value) (an : Option Addr) (cdv ct : Value) (us its : List Value), us.length = n → its.length = dvs.length →
      ∃ k, bindArgs (PySem.W.fnOf x qual params body scope (.ref Ta) kV doc pm an cdv ct) ⟨us, []⟩ = seqItems? (.ref Ta) >>= k ∧ k (some its.toArray) = pure (pn.zip us)) : Binds K fd pn [] := by
  have := Fd.binds1 (ps := pn) n dvs.length hd (by omega) fun Ta kV doc pm an cdv ct us its h1 h2 => by
    obtain ⟨k, e1, e2⟩ := h Ta kV doc pm an cdv ct us its h1 h2
    refine ⟨k, e1, ?_⟩
    rw [e2, ← h2, List.drop_length, List.append_nil]
  obtain ⟨ds, h1, h2⟩ := this
  rw [List.drop_length] at h1
  cases h1
  exact h2
end
/-- what the law promises -/
def spLaw (K : PySem.W.Frag) : Sp := fun vs H Q _ => ∃ (a : Addr) (ns : List Int), vs = [.ref a] ∧ SqL K H a (ns.map V.int) ∧ ns.length ≤ 63 ∧ ∀ H', Q (.bl true) H'
theorem law_end {T : Tab} {P : Program} {w : World} {K : PySem.W.Frag} {mg : Str → Option Value} {base : Heap} {k : Nat} {f : Addr} {fd : FuncData} {pn : List Str} {φ : Fn} (FO : FnOk P w K mg base (L2.CX P w) k f fd pn (spW T K 1 φ))
    (hφ : ∀ ns : List Int, ns.length ≤ 63 → ∃ S, φ [.lst (ns.map W.int)] [] = .ok (.bl true) S) : FnOk P w K mg base (L2.CX P w) k f fd pn (spLaw K) := by
  refine FO.imp fun vs H Q E h => ?_
  obtain ⟨a, ns, rfl, hS, hl, hq⟩ := h
  obtain ⟨S, e⟩ := hφ ns hl
  refine ⟨H, [], [], [.lst (ns.map W.int)], rfl, ⟨Same.refl _, List.nodup_nil, rfl, (fun _ h => nomatch h), (fun n a c h => by simp at h)⟩, .cons (.lst hS (RwL.of_ints ns)) .nil, ?_⟩
  rw [e]
  intro v F' al' H' p g r
  cases r
  exact hq H'
theorem noX {P : Program} {w : World} (H : Hp) (s : Shared) (e : Value) (s' : Shared) (h : L2.CX P w [] H s (fun _ _ _ => False) e s') : False := by
  obtain ⟨_, _, _, _, _, _, _, _, _, _, _, _, z⟩ := h
  exact z
/-! ### the head with more facts -/
def obsM (n : Nat) (fa : List He.Fa) (fn : List He.DefD) (ex : PySem.W.Frag → Bool) (g : Addr → Option Obj) : He.AlD × Bool := (He.obsDG n fa fn g, ex (He.frG g (He.asD g n)))
def hookM (n : Nat) (fa : List He.Fa) (fn : List He.DefD) (ex : PySem.W.Frag → Bool) : PySem.W.Hook where
  α := He.AlD × Bool
  obs := fun s => obsM n fa fn ex s.heap.get?
  val := fun _ => (He.valD fn, true)
  says := fun _ h => ∃ K : PySem.W.Frag, K.In h ∧ He.SaysD fa fn K ∧ ex K = true
  of := fun _ _ e => ⟨_, He.frG_in, congrArg (fun z : He.AlD × Bool => z.1) e, congrArg (fun z : He.AlD × Bool => z.2) e⟩
  keeps := fun _ _ _ ⟨K, hK, c⟩ k => ⟨K, PySem.W.Frag.In.keeps hK k, c⟩
theorem obsM_eq {n : Nat} {fa : List He.Fa} {fn : List He.DefD} {ex : PySem.W.Frag → Bool} {g : Addr → Option Obj} {s : Shared} (h : ∀ a, g a = s.heap.get? a) : obsM n fa fn ex g = (hookM n fa fn ex).obs s := by
  have e : g = s.heap.get? := funext h
  rw [e] <;> rfl
/-- the end of a walk, the wish about exceptions by the world -/
theorem walk_end {l : PySem.W.OpenLaw} {n k : Nat} {q : Program} {loose : List Str} {XP : (Str → Option Value) → Heap → Prop} {YP : World → Heap → Prop} {d : DefRec} {CX : World → CXT} {x : Str}
    (hn : l.most = some n) (hn2 : n ≤ sizeLine) (hdf : d.params.defaults = []) (hr : Room k callerA)
    (hF : ∀ (w : World) (mg : Str → Option Value) (fa : Addr) (h : Heap), YP w h → h.Ns mainGlobals mg → mg d.name = some (.ref fa) →
      ∃ (K : PySem.W.Frag) (fd : FuncData) (sp : Sp), K.In h ∧ (∀ (s : Shared) (u : Value), BindsTo s fd ⟨[u], []⟩ [(x, u)]) ∧
        (∀ (H : Hp) (a : Addr) (ns : List Int), ns.length ≤ n → Only H → SqL K H a (ns.map V.int) → sp [.ref a] H (fun v _ => v = .bl true) fun _ _ _ => False) ∧
        ∀ base : Heap, K.In base → base.Ns mainGlobals mg → FnOk l.prog w K mg base (CX w) k fa fd [x] sp)
    (hCX : ∀ (w : World) (H : Hp) (s : Shared) (e : Value) (s' : Shared), CX w [] H s (fun _ _ _ => False) e s' → False) :
    PySem.W.WalkO q loose XP YP l.row.toRowW d [] (fun f vs => PySem.call f vs) := by
  refine Att.attach_call hn hdf fun w s₀ s₁ mg mb fa o pm cd doc a vs ns Gd hY ho hd hcd hmg hobj hints hlen hg => ?_
  obtain ⟨K, fd, sp, KX, hb, hsp, hf⟩ := hF w mg fa _ hY Gd.T.g hmg
  exact law_call KX Gd.T.g Gd.T.b Gd.T.builtins Gd.T.nolimit hg hobj hints (Nat.le_trans hlen hn2) hr hf hb (fun H hO hS => hsp H a ns hlen hO hS) fun H e s' => hCX w H s₁ e s'
end DL

set_option Elab.async false
set_option linter.all false
set_option maxRecDepth 100000
set_option maxHeartbeats 4000000
/-! Wl: rules by names. -/
namespace DL
open PySem PySem.Spec L2
section
variable {X : Cx} {T : Tab} {E : WX} {pos pp : Pos} {a b c : Expr} {p q r : Me} {es : List Expr} {ps : Ml} {bp bq br : Mb} {x : Str}
theorem w_globI {i : Int} (hg : Gl X x) (h : ∃ t, X.mg x = some (.int i t)) (hd : (x == ("__debug__" : Str)) = false) : PE X (.Name x pos) (tW T X.K E (mCon (.int i))) := by
  obtain ⟨t, h⟩ := h
  exact w_glob hg h (v := .int i) ⟨t, rfl⟩ (fun _ _ => .int i) hd
theorem w_globS {i : Str} (hg : Gl X x) (h : ∃ t, X.mg x = some (.str i t)) (hd : (x == ("__debug__" : Str)) = false) : PE X (.Name x pos) (tW T X.K E (mCon (.str i))) := by
  obtain ⟨t, h⟩ := h
  exact w_glob hg h (v := .str i) ⟨t, rfl⟩ (fun _ _ => .str i) hd
/-- a name of the module that stands for data -/
def GloW (T : Tab) (K : PySem.W.Frag) (mg : Str → Option Value) (x : Str) (w : W) : Prop := ∃ (v : V) (u : Value), mg x = some u ∧ RelV v u ∧ ∀ F al, Rw T K F al v w
theorem w_globW {w : W} (hg : Gl X x) (h : GloW T X.K X.mg x w) (hd : (x == ("__debug__" : Str)) = false) : PE X (.Name x pos) (tW T X.K E (mCon w)) := by
  obtain ⟨v, u, h1, h2, h3⟩ := h
  exact w_glob hg h1 h2 h3 hd
theorem gloW_int {K : PySem.W.Frag} {mg : Str → Option Value} {i : Int} (h : ∃ t, mg x = some (.int i t)) : GloW T K mg x (.int i) := by
  obtain ⟨t, h⟩ := h
  exact ⟨.int i, _, h, ⟨t, rfl⟩, fun _ _ => .int i⟩
theorem gloW_str {K : PySem.W.Frag} {mg : Str → Option Value} {i : Str} (h : ∃ t, mg x = some (.str i t)) : GloW T K mg x (.str i) := by
  obtain ⟨t, h⟩ := h
  exact ⟨.str i, _, h, ⟨t, rfl⟩, fun _ _ => .str i⟩
theorem gloW_strs {K : PySem.W.Frag} {mg : Str → Option Value} {xs : List Str} (hm : mg x = some (.ref (He.ga K x))) (h : He.tupB K x (xs.map He.Dv.str) = true) : GloW T K mg x (.tup (xs.map W.str)) := by
  refine ⟨.ref (He.ga K x), _, hm, rfl, fun F al => .tup (He.tupB_ok h F) ?_⟩
  clear h
  induction xs with
  | nil => exact .nil
  | cons y ys ih => exact .cons (.str y) ih
theorem one {o : BoolOp} (h : PE X a (tW T X.K E p)) : PE X (.BoolOp o [a] pos) (tW T X.K E p) := pe_one h
theorem w_len (hg : Gl X "len") (hm : X.mg "len" = none) (ha : PA X (a :: es) (tL T X.K E ps)) (he : starEach (a :: es) X.env = (false, eval a X.env) :: starEach es X.env) (hpl : (backTo pos (starEach es X.env)).any (·.1) = false) : PE X (.Call (.Name "len" pp) (a :: es) [] pos) (tW T X.K E (mPrim .len ps)) :=
  w_primB call_len hg hm PySem.boot_len ha (by decide) rfl he hpl
theorem w_abs (hg : Gl X "abs") (hm : X.mg "abs" = none) (ha : PA X (a :: es) (tL T X.K E ps)) (he : starEach (a :: es) X.env = (false, eval a X.env) :: starEach es X.env) (hpl : (backTo pos (starEach es X.env)).any (·.1) = false) : PE X (.Call (.Name "abs" pp) (a :: es) [] pos) (tW T X.K E (mPrim .abs ps)) :=
  w_primB call_abs hg hm PyProof.Rows.boot_abs ha (by decide) rfl he hpl
theorem w_max (hc : X.calm = true) (hg : Gl X "max") (hm : X.mg "max" = none) (ha : PA X (a :: es) (tL T X.K E ps)) (he : starEach (a :: es) X.env = (false, eval a X.env) :: starEach es X.env) (hpl : (backTo pos (starEach es X.env)).any (·.1) = false) : PE X (.Call (.Name "max" pp) (a :: es) [] pos) (tW T X.K E (mPrim .max ps)) :=
  w_primB (P := .max) (call_max2 hc) hg hm PyProof.Rows.boot_max ha (by decide) rfl he hpl
theorem w_min (hc : X.calm = true) (hg : Gl X "min") (hm : X.mg "min" = none) (ha : PA X (a :: es) (tL T X.K E ps)) (he : starEach (a :: es) X.env = (false, eval a X.env) :: starEach es X.env) (hpl : (backTo pos (starEach es X.env)).any (·.1) = false) : PE X (.Call (.Name "min" pp) (a :: es) [] pos) (tW T X.K E (mPrim .min ps)) :=
  w_primB (P := .min) (call_min2 hc) hg hm PyProof.Rows.boot_min ha (by decide) rfl he hpl
theorem w_all (hc : X.calm = true) (hg : Gl X "all") (hm : X.mg "all" = none) (ha : PA X (a :: es) (tL T X.K E ps)) (he : starEach (a :: es) X.env = (false, eval a X.env) :: starEach es X.env) (hpl : (backTo pos (starEach es X.env)).any (·.1) = false) : PE X (.Call (.Name "all" pp) (a :: es) [] pos) (tW T X.K E (mPrim .all ps)) :=
  w_primB (P := .all) (cr_all hc) hg hm PyProof.Rows.boot_all ha (by decide) rfl he hpl
theorem w_any (hc : X.calm = true) (hg : Gl X "any") (hm : X.mg "any" = none) (ha : PA X (a :: es) (tL T X.K E ps)) (he : starEach (a :: es) X.env = (false, eval a X.env) :: starEach es X.env) (hpl : (backTo pos (starEach es X.env)).any (·.1) = false) : PE X (.Call (.Name "any" pp) (a :: es) [] pos) (tW T X.K E (mPrim .any ps)) :=
  w_primB (P := .any) (cr_any hc) hg hm PyProof.Rows.boot_any ha (by decide) rfl he hpl
theorem w_sum (hc : X.calm = true) (hg : Gl X "sum") (hm : X.mg "sum" = none) (ha : PA X (a :: es) (tL T X.K E ps)) (he : starEach (a :: es) X.env = (false, eval a X.env) :: starEach es X.env) (hpl : (backTo pos (starEach es X.env)).any (·.1) = false) : PE X (.Call (.Name "sum" pp) (a :: es) [] pos) (tW T X.K E (mPrim .sum ps)) :=
  w_primB (P := .sum) (cr_sum hc) hg hm PyProof.Rows.boot_sum ha (by decide) rfl he hpl
theorem w_divmod (hg : Gl X "divmod") (hm : X.mg "divmod" = none) (ha : PA X (a :: es) (tL T X.K E ps)) (he : starEach (a :: es) X.env = (false, eval a X.env) :: starEach es X.env) (hpl : (backTo pos (starEach es X.env)).any (·.1) = false) : PE X (.Call (.Name "divmod" pp) (a :: es) [] pos) (tW T X.K E (mPrim .divmod ps)) :=
  w_primB (P := .divmod) call_divmod hg hm PyProof.Rows.boot_divmod ha (by decide) rfl he hpl
theorem w_tuple (hg : Gl X "tuple") (hm : X.mg "tuple" = none) (ha : PA X (a :: es) (tL T X.K E ps)) (he : starEach (a :: es) X.env = (false, eval a X.env) :: starEach es X.env) (hpl : (backTo pos (starEach es X.env)).any (·.1) = false) : PE X (.Call (.Name "tuple" pp) (a :: es) [] pos) (tW T X.K E (mPrim .tuple ps)) :=
  w_primT (P := .tuple) call_tuple_of hg hm PyProof.Rows.boot_tuple ha (by decide) rfl he hpl
theorem w_list (hg : Gl X "list") (hm : X.mg "list" = none) (ha : PA X (a :: es) (tL T X.K E ps)) (he : starEach (a :: es) X.env = (false, eval a X.env) :: starEach es X.env) (hpl : (backTo pos (starEach es X.env)).any (·.1) = false) : PE X (.Call (.Name "list" pp) (a :: es) [] pos) (tW T X.K E (mPrim .list ps)) :=
  w_primT (P := .list) call_list_of hg hm PyProof.Rows.boot_list ha (by decide) rfl he hpl
theorem w_isT {tp : Pos} {tx : Str} {t : Ty} (hg : Gl X "isinstance") (hm : X.mg "isinstance" = none) (htg : Gl X tx) (htm : X.mg tx = none) (hv : bootBuiltins tx = some (.type t.s)) (hn : tx ≠ "__name__") (hdb : (tx == ("__debug__" : Str)) = false) (ha : PE X a (tW T X.K E p))
    (he : starEach [a, .Name tx tp] X.env = (false, eval a X.env) :: starEach [.Name tx tp] X.env) (he2 : starEach [.Name tx tp] X.env = (false, eval (.Name tx tp) X.env) :: starEach [] X.env) (hpl : (backTo pos (starEach [.Name tx tp] X.env)).any (·.1) = false) : PE X (.Call (.Name "isinstance" pp) [a, .Name tx tp] [] pos) (tW T X.K E (mIsi t p)) :=
  w_isi hg hm PyProof.Rows.boot_isinstance (pe_bltn htg htm hv rfl hn hdb) ha (by decide) rfl he he2 hpl
theorem w_isInt {tp : Pos} (hg : Gl X "isinstance") (hm : X.mg "isinstance" = none) (htg : Gl X "int") (htm : X.mg "int" = none) (ha : PE X a (tW T X.K E p))
    (he : starEach [a, .Name "int" tp] X.env = (false, eval a X.env) :: starEach [.Name "int" tp] X.env) (he2 : starEach [.Name "int" tp] X.env = (false, eval (.Name "int" tp) X.env) :: starEach [] X.env) (hpl : (backTo pos (starEach [.Name "int" tp] X.env)).any (·.1) = false) : PE X (.Call (.Name "isinstance" pp) [a, .Name "int" tp] [] pos) (tW T X.K E (mIsi .int p)) :=
  w_isT (t := .int) hg hm htg htm PyProof.Rows.boot_int (by decide) rfl ha he he2 hpl
theorem w_isBool {tp : Pos} (hg : Gl X "isinstance") (hm : X.mg "isinstance" = none) (htg : Gl X "bool") (htm : X.mg "bool" = none) (ha : PE X a (tW T X.K E p))
    (he : starEach [a, .Name "bool" tp] X.env = (false, eval a X.env) :: starEach [.Name "bool" tp] X.env) (he2 : starEach [.Name "bool" tp] X.env = (false, eval (.Name "bool" tp) X.env) :: starEach [] X.env) (hpl : (backTo pos (starEach [.Name "bool" tp] X.env)).any (·.1) = false) : PE X (.Call (.Name "isinstance" pp) [a, .Name "bool" tp] [] pos) (tW T X.K E (mIsi .bool p)) :=
  w_isT (t := .bool) hg hm htg htm PyProof.Rows.boot_bool (by decide) rfl ha he he2 hpl
theorem w_isStr {tp : Pos} (hg : Gl X "isinstance") (hm : X.mg "isinstance" = none) (htg : Gl X "str") (htm : X.mg "str" = none) (ha : PE X a (tW T X.K E p))
    (he : starEach [a, .Name "str" tp] X.env = (false, eval a X.env) :: starEach [.Name "str" tp] X.env) (he2 : starEach [.Name "str" tp] X.env = (false, eval (.Name "str" tp) X.env) :: starEach [] X.env) (hpl : (backTo pos (starEach [.Name "str" tp] X.env)).any (·.1) = false) : PE X (.Call (.Name "isinstance" pp) [a, .Name "str" tp] [] pos) (tW T X.K E (mIsi .str p)) :=
  w_isT (t := .str) hg hm htg htm PyProof.Rows.boot_str (by decide) rfl ha he he2 hpl
theorem w_isTuple {tp : Pos} (hg : Gl X "isinstance") (hm : X.mg "isinstance" = none) (htg : Gl X "tuple") (htm : X.mg "tuple" = none) (ha : PE X a (tW T X.K E p))
    (he : starEach [a, .Name "tuple" tp] X.env = (false, eval a X.env) :: starEach [.Name "tuple" tp] X.env) (he2 : starEach [.Name "tuple" tp] X.env = (false, eval (.Name "tuple" tp) X.env) :: starEach [] X.env) (hpl : (backTo pos (starEach [.Name "tuple" tp] X.env)).any (·.1) = false) : PE X (.Call (.Name "isinstance" pp) [a, .Name "tuple" tp] [] pos) (tW T X.K E (mIsi .tuple p)) :=
  w_isT (t := .tuple) hg hm htg htm PyProof.Rows.boot_tuple (by decide) rfl ha he he2 hpl
theorem w_isList {tp : Pos} (hg : Gl X "isinstance") (hm : X.mg "isinstance" = none) (htg : Gl X "list") (htm : X.mg "list" = none) (ha : PE X a (tW T X.K E p))
    (he : starEach [a, .Name "list" tp] X.env = (false, eval a X.env) :: starEach [.Name "list" tp] X.env) (he2 : starEach [.Name "list" tp] X.env = (false, eval (.Name "list" tp) X.env) :: starEach [] X.env) (hpl : (backTo pos (starEach [.Name "list" tp] X.env)).any (·.1) = false) : PE X (.Call (.Name "isinstance" pp) [a, .Name "list" tp] [] pos) (tW T X.K E (mIsi .list p)) :=
  w_isT (t := .list) hg hm htg htm PyProof.Rows.boot_list (by decide) rfl ha he he2 hpl
end
end DL

set_option Elab.async false
set_option linter.all false
set_option maxRecDepth 100000
set_option maxHeartbeats 4000000
namespace K10
open PySem PySem.Spec L2 DL
def top (i : Nat) : Stmt := PySem.Challenge.pw_hushrules_k10_conditions_one_by_one.main.body.getD i (.Pass ⟨0, 0, 0, 0⟩)
def flds : List Str := ["rules", "wheels"]
theorem fldN0 : flds.Nodup := by decide +kernel
def tab (K : PySem.W.Frag) : Tab := ⟨flds, [He.ga K "Book"]⟩
theorem fldN {K : PySem.W.Frag} : (tab K).fld.Nodup := fldN0
/-! ### what each def does -/
def f__law_bag : Fn := fnW 2 5 (sSeq (sAsg (.nm 2) (mCon (.int 0))) (sSeq (sIf (bTest (mCmp .Lt (mVar 1) (mPrim .len (mCons (mVar 0) (mNil))))) (sSeq (sAsg (.nm 2) (mIdx (mVar 0) (mVar 1))) (sNext)) (sNext)) (sSeq (sAsg (.nm 3) (mCon (.int 0))) (sSeq (sIf (bTest (mCmp .GtE (mPrim .abs (mCons (mVar 2) (mNil))) (mBin .Pow (mCon (.int 10)) (mCon (.int 18))))) (sSeq (sAsg (.nm 3) (mPrim .abs (mCons (mVar 2) (mNil)))) (sNext)) (sNext)) (sSeq (sAsg (.nm 4) (mLst (mCons (mCon (.int 2147483629)) (mCons (mCon (.int 2147483587)) (mCons (mCon (.int 2147483579)) (mCons (mCon (.int 2147483563)) (mCons (mCon (.int 2147483549)) (mCons (mCon (.int 2147483543)) (mCons (mCon (.int 2147483497)) (mCons (mCon (.int 2147483489)) (mNil))))))))))) (sSeq (sRet (mNLst (mCons (mVar 3) (mCons (mBin .Mod (mBin .Pow (mBin .Add (mBin .Add (mBin .Mod (mVar 2) (mCon (.int 2147483647))) (mBin .Mult (mCon (.int 104729)) (mVar 1))) (mCon (.int 7))) (mCon (.int 5))) (mIdx (mVar 4) (mBin .Mod (mVar 1) (mCon (.int 8))))) (mCons (mCon (.int 0)) (mNil)))))) (sNext)))))))
def f__law_take : Fn := fnW 2 3 (sSeq (sIf (bTest (mCmp .Gt (mIdx (mVar 0) (mCon (.int 0))) (mCon (.int 0)))) (sSeq (sAsg (.nm 2) (mBin .Mod (mIdx (mVar 0) (mCon (.int 0))) (mVar 1))) (sSeq (sSetIx (mVar 0) (mCon (.int 0)) (mBin .FloorDiv (mIdx (mVar 0) (mCon (.int 0))) (mVar 1))) (sSeq (sRet (mVar 2)) (sNext)))) (sNext)) (sSeq (sSetIx (mVar 0) (mCon (.int 2)) (mBin .Add (mIdx (mVar 0) (mCon (.int 2))) (mCon (.int 1)))) (sSeq (sSetIx (mVar 0) (mCon (.int 1)) (mBin .Mod (mBin .Add (mBin .Add (mBin .Mult (mIdx (mVar 0) (mCon (.int 1))) (mCon (.int 48271))) (mBin .Mult (mBin .Mult (mCon (.int 7919)) (mIdx (mVar 0) (mCon (.int 2)))) (mIdx (mVar 0) (mCon (.int 2))))) (mCon (.int 11))) (mCon (.int 2147483647)))) (sSeq (sRet (mBin .Mod (mBin .Mod (mBin .Pow (mBin .FloorDiv (mIdx (mVar 0) (mCon (.int 1))) (mCon (.int 8))) (mCon (.int 3))) (mCon (.int 2147483629))) (mVar 1))) (sNext)))))
def f_is_row : Fn := fnW 2 2 (sSeq (sRet (mAnd (mIsi .tuple (mVar 0)) (mCmp .LtE (mPrim .len (mCons (mVar 0) (mNil))) (mVar 1)))) (sNext))
def f_how_many : Fn := fnW 1 3 (sSeq (sAsg (.nm 1) (mCon (.int 1))) (sSeq (sFor (jE (mVar 0)) (.nm 2) (sSeq (sAug .Mult 1 (mVar 2)) (sNext))) (sSeq (sRet (mVar 1)) (sNext))))
def f_is_whole : Fn := fnW 1 1 (sSeq (sRet (mAnd (mIsi .int (mVar 0)) (mNot (mIsi .bool (mVar 0))))) (sNext))
def f_is_from : Fn := fnW 3 3 (sSeq (sRet (mAnd (mCallP f_is_whole (mCons (mVar 0) (mNil))) (mChain .LtE .Lt (mVar 1) (mVar 0) (mVar 2)))) (sNext))
def f_are_wheels : Fn := fnW 1 2 (sSeq (sIf (bOr (bNot (bTest (mCallP f_is_row (mCons (mVar 0) (mCons (mCon (.int 3)) (mNil)))))) (bTest (mCmp .Eq (mVar 0) (mTup (mNil))))) (sSeq (sRet (mCon (.bl false))) (sNext)) (sNext)) (sSeq (sRet (mAnd (mPrim .all (mCons (mLc false [1] (.nm 1) (jE (mVar 0)) (bYes) (mCallP f_is_from (mCons (mVar 1) (mCons (mCon (.int 2)) (mCons (mBin .Add (mCon (.int 4)) (mCon (.int 1))) (mNil)))))) (mNil))) (mCmp .LtE (mCallP f_how_many (mCons (mVar 0) (mNil))) (mCon (.int 24))))) (sNext)))
def f_are_rising : Fn := fnW 1 3 (sSeq (sRet (mPrim .all (mCons (mLc false [1, 2] (.tup [1, 2]) (jZip (mVar 0) (mSlc (mVar 0) (mPart (mCon (.int 1))) (mCon .non))) (bYes) (mCmp .Lt (mVar 1) (mVar 2))) (mNil)))) (sNext))
def f_is_hush : Fn := fnW 2 2 (sSeq (sIf (bOr (bNot (bTest (mIsi .tuple (mVar 1)))) (bTest (mCmp .NotEq (mPrim .len (mCons (mVar 1) (mNil))) (mCon (.int 2))))) (sSeq (sRet (mCon (.bl false))) (sNext)) (sNext)) (sSeq (sRet (mAnd (mCallP f_is_from (mCons (mIdx (mVar 1) (mCon (.int 0))) (mCons (mCon (.int 0)) (mCons (mVar 0) (mNil))))) (mCallP f_is_from (mCons (mIdx (mVar 1) (mCon (.int 1))) (mCons (mCon (.int 1)) (mCons (mBin .Add (mCon (.int 3)) (mCon (.int 1))) (mNil))))))) (sNext)))
def f_are_hushes : Fn := fnW 2 5 (sSeq (sIf (bOr (bNot (bTest (mIsi .tuple (mVar 1)))) (bNot (bTest (mPrim .all (mCons (mLc false [4] (.nm 4) (jE (mVar 1)) (bYes) (mCallP f_is_hush (mCons (mVar 0) (mCons (mVar 4) (mNil))))) (mNil)))))) (sSeq (sRet (mCon (.bl false))) (sNext)) (sNext)) (sSeq (sRet (mCallP f_are_rising (mCons (mLc false [2, 3] (.tup [2, 3]) (jE (mVar 1)) (bYes) (mVar 2)) (mNil)))) (sNext)))
def f_are_rules_numbers : Fn := fnW 2 3 (sSeq (sRet (mAnd (mIsi .tuple (mVar 0)) (mAnd (mPrim .all (mCons (mLc false [2] (.nm 2) (jE (mVar 0)) (bYes) (mCallP f_is_from (mCons (mVar 2) (mCons (mCon (.int 0)) (mCons (mVar 1) (mNil)))))) (mNil))) (mCallP f_are_rising (mCons (mVar 0) (mNil)))))) (sNext))
def f_is_worded : Fn := fnW 3 3 (sSeq (sRet (mAnd (mIsi .tuple (mVar 0)) (mAnd (mCmp .Eq (mPrim .len (mCons (mVar 0) (mNil))) (mVar 2)) (mAnd (mIsi .str (mIdx (mVar 0) (mCon (.int 0)))) (mCmp .In (mIdx (mVar 0) (mCon (.int 0))) (mVar 1)))))) (sNext))
def f_is_placed : Fn := fnW 3 6 (sSeq (sIf (bNot (bTest (mCallP f_is_worded (mCons (mVar 1) (mCons (mVar 2) (mCons (mCon (.int 3)) (mNil))))))) (sSeq (sRet (mCon (.bl false))) (sNext)) (sNext)) (sSeq (sAsg (.tup [3, 4, 5]) (mVar 1)) (sSeq (sRet (mAnd (mCallP f_is_from (mCons (mVar 4) (mCons (mCon (.int 0)) (mCons (mPrim .len (mCons (mVar 0) (mNil))) (mNil))))) (mCallP f_is_from (mCons (mVar 5) (mCons (mCon (.int 0)) (mCons (mIdx (mVar 0) (mVar 4)) (mNil))))))) (sNext))))
def f_is_condition : Fn := fnW 3 3 (sSeq (sIf (bTest (mCallP f_is_worded (mCons (mVar 2) (mCons (mCon (.tup [.str "hushed", .str "awake"])) (mCons (mCon (.int 2)) (mNil)))))) (sSeq (sRet (mCallP f_is_from (mCons (mIdx (mVar 2) (mCon (.int 1))) (mCons (mCon (.int 0)) (mCons (mVar 1) (mNil)))))) (sNext)) (sNext)) (sSeq (sRet (mCallP f_is_placed (mCons (mVar 0) (mCons (mVar 2) (mCons (mCon (.tup [.str "is", .str "not", .str "below"])) (mNil)))))) (sNext)))
def f_is_rule : Fn := fnW 3 10 (sSeq (sIf (bOr (bNot (bTest (mIsi .tuple (mVar 2)))) (bTest (mCmp .NotEq (mPrim .len (mCons (mVar 2) (mNil))) (mCon (.int 4))))) (sSeq (sRet (mCon (.bl false))) (sNext)) (sNext)) (sSeq (sAsg (.tup [3, 4, 5, 6]) (mVar 2)) (sSeq (sIf (bOr (bNot (bTest (mCallP f_is_row (mCons (mVar 3) (mCons (mCon (.int 4)) (mNil)))))) (bNot (bTest (mPrim .all (mCons (mLc false [9] (.nm 9) (jE (mVar 3)) (bYes) (mCallP f_is_condition (mCons (mVar 0) (mCons (mVar 1) (mCons (mVar 9) (mNil)))))) (mNil)))))) (sSeq (sRet (mCon (.bl false))) (sNext)) (sNext)) (sSeq (sIf (bOr (bNot (bTest (mCallP f_is_row (mCons (mVar 4) (mCons (mCon (.int 3)) (mNil)))))) (bNot (bTest (mPrim .all (mCons (mLc false [9] (.nm 9) (jE (mVar 4)) (bYes) (mCallP f_is_placed (mCons (mVar 0) (mCons (mVar 9) (mCons (mCon (.tup [.str "put", .str "turn"])) (mNil)))))) (mNil)))))) (sSeq (sRet (mCon (.bl false))) (sNext)) (sNext)) (sSeq (sIf (bOr (bNot (bTest (mCallP f_are_hushes (mCons (mVar 1) (mCons (mVar 5) (mNil)))))) (bNot (bTest (mCallP f_are_rules_numbers (mCons (mVar 6) (mCons (mVar 1) (mNil))))))) (sSeq (sRet (mCon (.bl false))) (sNext)) (sNext)) (sSeq (sRet (mNot (mPrim .any (mCons (mLc false [7, 8] (.tup [7, 8]) (jE (mVar 5)) (bYes) (mCmp .In (mVar 7) (mVar 6))) (mNil))))) (sNext)))))))
def f_look_book : Fn := fnW 2 4 (sSeq (sIf (bOr (bNot (bTest (mCallP f_are_wheels (mCons (mVar 0) (mNil))))) (bNot (bTest (mCallP f_is_row (mCons (mVar 1) (mCons (mCon (.int 5)) (mNil))))))) (sSeq (sNever) (sNext)) (sNext)) (sSeq (sFor (jEnum 0 (mVar 1)) (.tup [2, 3]) (sSeq (sIf (bNot (bTest (mCallP f_is_rule (mCons (mVar 0) (mCons (mPrim .len (mCons (mVar 1) (mNil))) (mCons (mVar 3) (mNil))))))) (sSeq (sNever) (sNext)) (sNext)) (sNext))) (sNext)))
def f_Book___init__ : Fn := fnW 3 3 (sSeq (sExpr (mCallP f_look_book (mCons (mVar 1) (mCons (mVar 2) (mNil))))) (sSeq (sSetFld 0 1 (mVar 0) (mVar 1)) (sSeq (sSetFld 0 0 (mVar 0) (mVar 2)) (sNext))))
def f_are_values : Fn := fnW 2 4 (sSeq (sIf (bOr (bNot (bTest (mIsi .tuple (mVar 1)))) (bTest (mCmp .NotEq (mPrim .len (mCons (mVar 1) (mNil))) (mPrim .len (mCons (mFld 0 1 (mVar 0)) (mNil)))))) (sSeq (sRet (mCon (.bl false))) (sNext)) (sNext)) (sSeq (sRet (mPrim .all (mCons (mLc false [2, 3] (.tup [2, 3]) (jZips (mVar 1) (mFld 0 1 (mVar 0))) (bYes) (mCallP f_is_from (mCons (mVar 2) (mCons (mCon (.int 0)) (mCons (mVar 3) (mNil)))))) (mNil)))) (sNext)))
def f_is_state : Fn := fnW 2 4 (sSeq (sIf (bOr (bNot (bTest (mIsi .tuple (mVar 1)))) (bOr (bTest (mCmp .NotEq (mPrim .len (mCons (mVar 1) (mNil))) (mCon (.int 2)))) (bNot (bTest (mCallP f_are_values (mCons (mVar 0) (mCons (mIdx (mVar 1) (mCon (.int 0))) (mNil)))))))) (sSeq (sRet (mCon (.bl false))) (sNext)) (sNext)) (sSeq (sAsg (.nm 2) (mIdx (mVar 1) (mCon (.int 1)))) (sSeq (sIf (bOr (bNot (bTest (mIsi .tuple (mVar 2)))) (bTest (mCmp .NotEq (mPrim .len (mCons (mVar 2) (mNil))) (mPrim .len (mCons (mFld 0 0 (mVar 0)) (mNil)))))) (sSeq (sRet (mCon (.bl false))) (sNext)) (sNext)) (sSeq (sRet (mPrim .all (mCons (mLc false [3] (.nm 3) (jE (mVar 2)) (bYes) (mCallP f_is_from (mCons (mVar 3) (mCons (mCon (.int 0)) (mCons (mCon (.int 3)) (mNil)))))) (mNil)))) (sNext)))))
def f_look_state : Fn := fnW 2 2 (sSeq (sIf (bNot (bTest (mCallP f_is_state (mCons (mVar 0) (mCons (mVar 1) (mNil)))))) (sSeq (sNever) (sNext)) (sNext)) (sNext))
def f_look_rule : Fn := fnW 2 2 (sSeq (sIf (bNot (bTest (mCallP f_is_from (mCons (mVar 1) (mCons (mCon (.int 0)) (mCons (mPrim .len (mCons (mFld 0 0 (mVar 0)) (mNil))) (mNil))))))) (sSeq (sNever) (sNext)) (sNext)) (sNext))
def f_is_so : Fn := fnW 3 6 (sSeq (sAsg (.star [3, 4] 5) (mVar 0)) (sSeq (sIf (bTest (mCmp .Eq (mVar 3) (mCon (.str "hushed")))) (sSeq (sRet (mCmp .Gt (mIdx (mVar 2) (mVar 4)) (mCon (.int 0)))) (sNext)) (sNext)) (sSeq (sIf (bTest (mCmp .Eq (mVar 3) (mCon (.str "awake")))) (sSeq (sRet (mCmp .Eq (mIdx (mVar 2) (mVar 4)) (mCon (.int 0)))) (sNext)) (sNext)) (sSeq (sIf (bTest (mCmp .Eq (mVar 3) (mCon (.str "below")))) (sSeq (sRet (mCmp .Lt (mIdx (mVar 1) (mVar 4)) (mIdx (mVar 5) (mCon (.int 0))))) (sNext)) (sNext)) (sSeq (sRet (mCmp .Eq (mCmp .Eq (mIdx (mVar 1) (mVar 4)) (mIdx (mVar 5) (mCon (.int 0)))) (mCmp .Eq (mVar 3) (mCon (.str "is"))))) (sNext))))))
def f_would_do : Fn := fnW 4 5 (sSeq (sRet (mAnd (mCmp .Eq (mIdx (mVar 3) (mVar 1)) (mCon (.int 0))) (mPrim .all (mCons (mLc false [4] (.nm 4) (jE (mIdx (mIdx (mFld 0 0 (mVar 0)) (mVar 1)) (mCon (.int 0)))) (bYes) (mCallP f_is_so (mCons (mVar 4) (mCons (mVar 2) (mCons (mVar 3) (mNil)))))) (mNil))))) (sNext))
def f_may_do : Fn := fnW 3 3 (sSeq (sExpr (mCallP f_look_state (mCons (mVar 0) (mCons (mVar 1) (mNil))))) (sSeq (sExpr (mCallP f_look_rule (mCons (mVar 0) (mCons (mVar 2) (mNil))))) (sSeq (sRet (mCallP f_would_do (mCons (mVar 0) (mCons (mVar 2) (mCons (mPrim .list (mCons (mIdx (mVar 1) (mCon (.int 0))) (mNil))) (mCons (mPrim .list (mCons (mIdx (mVar 1) (mCon (.int 1))) (mNil))) (mNil))))))) (sNext))))
def f__law_told : Fn := fnW 4 7 (sSeq (sAsg (.nm 4) (mMake 0 f_Book___init__ (mCons (mVar 0) (mCons (mPrim .tuple (mCons (mLc false [6] (.nm 6) (jE (mVar 1)) (bYes) (mTup (mCons (mVar 6) (mCons (mTup (mNil)) (mCons (mTup (mNil)) (mCons (mTup (mNil)) (mNil))))))) (mNil))) (mNil))))) (sSeq (sRet (mLc false [5] (.nm 5) (jRange1 (mPrim .len (mCons (mVar 1) (mNil)))) (bYes) (mCallP f_may_do (mCons (mVar 4) (mCons (mTup (mCons (mVar 2) (mCons (mVar 3) (mNil)))) (mCons (mVar 5) (mNil))))))) (sNext)))
def frame1 : Ms := sFor (jE (mTup (mCons (mCon (.int 0)) (mCons (mCon (.int 1)) (mCons (mCon (.int 2)) (mNil)))))) (.nm 7) (sSeq (sAsg (.nm 9) (mNLst (mCons (mTup (mCons (mTup (mCons (mCon (.str "hushed")) (mCons (mCon (.int 4)) (mNil)))) (mNil))) (mCons (mTup (mCons (mTup (mCons (mCon (.str "awake")) (mCons (mCon (.int 4)) (mNil)))) (mNil))) (mCons (mTup (mCons (mTup (mCons (mCon (.str "hushed")) (mCons (mCon (.int 1)) (mNil)))) (mCons (mTup (mCons (mCon (.str "awake")) (mCons (mCon (.int 4)) (mNil)))) (mNil)))) (mCons (mTup (mCons (mTup (mCons (mCon (.str "awake")) (mCons (mCon (.int 3)) (mNil)))) (mNil))) (mCons (mTup (mNil)) (mNil)))))))) (sSeq (sAsg (.nm 10) (mLst (mCons (mCmp .Gt (mVar 7) (mCon (.int 0))) (mCons (mCmp .Eq (mVar 7) (mCon (.int 0))) (mCons (mCon (.bl false)) (mCons (mCon (.bl true)) (mCons (mCmp .Eq (mVar 7) (mCon (.int 0))) (mNil)))))))) (sSeq (sIf (bTest (mCmp .NotEq (mCallP f__law_told (mCons (mVar 3) (mCons (mFrz (mVar 9)) (mCons (mTup (mCons (mCon (.int 0)) (mCons (mCon (.int 0)) (mNil)))) (mCons (mTup (mCons (mCon (.int 0)) (mCons (mCon (.int 0)) (mCons (mCon (.int 0)) (mCons (mCon (.int 0)) (mCons (mVar 7) (mNil))))))) (mNil)))))) (mVar 10))) (sSeq (sRet (mCon (.bl false))) (sNext)) (sNext)) (sNext))))
def frame2 : Ms := sFor (jRange1 (mIdx (mVar 3) (mVar 4))) (.nm 6) (sSeq (sFor (jRange1 (mIdx (mVar 3) (mVar 4))) (.nm 8) (sSeq (sAsg (.nm 11) (mIfx (bTest (mCmp .Eq (mVar 4) (mCon (.int 0)))) (mTup (mCons (mVar 8) (mCons (mVar 5) (mNil)))) (mTup (mCons (mVar 5) (mCons (mVar 8) (mNil)))))) (sSeq (sAsg (.nm 9) (mNLst (mCons (mTup (mCons (mTup (mCons (mCon (.str "is")) (mCons (mVar 4) (mCons (mVar 6) (mNil))))) (mNil))) (mCons (mTup (mCons (mTup (mCons (mCon (.str "not")) (mCons (mVar 4) (mCons (mVar 6) (mNil))))) (mNil))) (mCons (mTup (mCons (mTup (mCons (mCon (.str "below")) (mCons (mVar 4) (mCons (mVar 6) (mNil))))) (mNil))) (mCons (mTup (mNil)) (mNil))))))) (sSeq (sExpr (mApp (mVar 9) (mTup (mCons (mTup (mCons (mCon (.str "below")) (mCons (mVar 4) (mCons (mVar 6) (mNil))))) (mCons (mTup (mCons (mCon (.str "is")) (mCons (mBin .Sub (mCon (.int 1)) (mVar 4)) (mCons (mVar 5) (mNil))))) (mNil)))))) (sSeq (sAsg (.nm 10) (mLst (mCons (mCmp .Eq (mVar 8) (mVar 6)) (mCons (mCmp .NotEq (mVar 8) (mVar 6)) (mCons (mCmp .Lt (mVar 8) (mVar 6)) (mCons (mCon (.bl true)) (mCons (mCmp .Lt (mVar 8) (mVar 6)) (mNil)))))))) (sSeq (sIf (bTest (mCmp .NotEq (mCallP f__law_told (mCons (mVar 3) (mCons (mFrz (mVar 9)) (mCons (mVar 11) (mCons (mBin .Mult (mTup (mCons (mCon (.int 0)) (mNil))) (mCon (.int 5))) (mNil)))))) (mVar 10))) (sSeq (sRet (mCon (.bl false))) (sNext)) (sNext)) (sSeq (sAsg (.nm 10) (mLst (mCons (mIdx (mVar 10) (mCon (.int 0))) (mCons (mCon (.bl false)) (mCons (mIdx (mVar 10) (mCon (.int 2))) (mCons (mCon (.bl false)) (mCons (mIdx (mVar 10) (mCon (.int 4))) (mNil)))))))) (sSeq (sFor (jE (mTup (mCons (mCon (.int 1)) (mCons (mCon (.int 2)) (mNil))))) (.nm 7) (sSeq (sIf (bTest (mCmp .NotEq (mCallP f__law_told (mCons (mVar 3) (mCons (mFrz (mVar 9)) (mCons (mVar 11) (mCons (mTup (mCons (mCon (.int 0)) (mCons (mVar 7) (mCons (mCon (.int 0)) (mCons (mVar 7) (mCons (mCon (.int 0)) (mNil))))))) (mNil)))))) (mVar 10))) (sSeq (sRet (mCon (.bl false))) (sNext)) (sNext)) (sNext))) (sNext))))))))) (sNext))
def body3 : Ms := sSeq (sAsg (.nm 2) (mCall f__law_bag (mCons (mVar 0) (mCons (mVar 1) (mNil))))) (sSeq (sPar [3, 4] (mCons (mTup (mCons (mBin .Add (mCon (.int 2)) (mCall f__law_take (mCons (mVar 2) (mCons (mCon (.int 3)) (mNil))))) (mCons (mBin .Add (mCon (.int 2)) (mCall f__law_take (mCons (mVar 2) (mCons (mCon (.int 3)) (mNil))))) (mNil)))) (mCons (mCall f__law_take (mCons (mVar 2) (mCons (mCon (.int 2)) (mNil)))) (mNil)))) (sSeq (sAsg (.nm 5) (mCall f__law_take (mCons (mVar 2) (mCons (mIdx (mVar 3) (mBin .Sub (mCon (.int 1)) (mVar 4))) (mNil))))) (sSeq (sFrame frame2) (sSeq (sFrame frame1) (sNext)))))
def f_law : Fn := fnW 1 12 (sSeq (sFor (jRange1 (mPrim .max (mCons (mCon (.int 3)) (mCons (mPrim .min (mCons (mCon (.int 8)) (mCons (mPrim .len (mCons (mVar 0) (mNil))) (mNil)))) (mNil))))) (.nm 1) body3) (sSeq (sRet (mCon (.bl true))) (sNext)))
/-! ### the module's names -/
structure Glo (K : PySem.W.Frag) (mg : Str → Option Value) : Prop where
  b_abs : mg "abs" = none
  b_len : mg "len" = none
  b_isinstance : mg "isinstance" = none
  b_tuple : mg "tuple" = none
  b_bool : mg "bool" = none
  b_int : mg "int" = none
  b_all : mg "all" = none
  b_zip : mg "zip" = none
  b_str : mg "str" = none
  b_any : mg "any" = none
  b_enumerate : mg "enumerate" = none
  b_list : mg "list" = none
  b_range : mg "range" = none
  b_min : mg "min" = none
  b_max : mg "max" = none
  c_MOST_BEGINNINGS : GloW (tab K) K mg "MOST_BEGINNINGS" (.int 24)
  c_MOST_PLACES : GloW (tab K) K mg "MOST_PLACES" (.int 4)
  c_LEAST_PLACES : GloW (tab K) K mg "LEAST_PLACES" (.int 2)
  c_MOST_WHEELS : GloW (tab K) K mg "MOST_WHEELS" (.int 3)
  c_MOST_HUSHED : GloW (tab K) K mg "MOST_HUSHED" (.int 3)
  c_PLACED : GloW (tab K) K mg "PLACED" (.tup [.str "is", .str "not", .str "below"])
  c_RULED : GloW (tab K) K mg "RULED" (.tup [.str "hushed", .str "awake"])
  c_CHANGES : GloW (tab K) K mg "CHANGES" (.tup [.str "put", .str "turn"])
  c_MOST_CHANGES : GloW (tab K) K mg "MOST_CHANGES" (.int 3)
  c_MOST_CONDITIONS : GloW (tab K) K mg "MOST_CONDITIONS" (.int 4)
  c_PARTS : GloW (tab K) K mg "PARTS" (.int 4)
  c_MOST_RULES : GloW (tab K) K mg "MOST_RULES" (.int 5)
  k_Book : Cls K ((tab K).c 0)
  n_Book_rules : NoAttr K ((tab K).c 0) "rules"
  n_Book_wheels : NoAttr K ((tab K).c 0) "wheels"
section
variable {P : Program} {w : World} {K : PySem.W.Frag} {mg : Str → Option Value} {base : Heap}
abbrev s__law_bag : Stmt := top 48
theorem sc__law_bag : FnScope ["_law_script", "_law_at", "_law_cell", "_law_great", "_law_primes"] ["_law_script", "_law_at"] (defScope s__law_bag) := ⟨rfl, rfl, rfl, by decide +kernel, rfl, by decide +kernel, by decide +kernel⟩
theorem ok__law_bag (G : Glo K mg) {dvs : List V} {kws : List (Str × V)} {f : Addr} {fd : FuncData} (Fd : FunD K "_law_bag" "_law_bag" (defArgs s__law_bag) (defBody s__law_bag) (defScope s__law_bag) dvs kws f fd) : FnOk P w K mg base (L2.CX P w) 1 f fd ["_law_script", "_law_at"] (spW (tab K) K 2 f__law_bag) := by
  have nd := (sc__law_bag).nd
  refine fnW_ok (k := 0) Fd sc__law_bag fun cdv A outer s H E hr => ?_
  have tk := takes_of (X := cxOf (L2.CX P w) P w K mg base ["_law_script", "_law_at", "_law_cell", "_law_great", "_law_primes"] "_law_bag" (defScope s__law_bag) f cdv A outer s H E) (E := E) rfl rfl rfl rfl
  exact s_cons (s_set (i := 2) nd rfl (.inl rfl) (w_int) rfl (.inl rfl))
      (s_cons (s_if (b_cmp hr (w_var (i := 1) rfl (.inl rfl) rfl rfl) (w_len rfl G.b_len (w_cons (w_var (i := 0) rfl (.inl rfl) rfl rfl) (w_nil) rfl) rfl rfl) rfl) (s_cons (s_set (i := 2) nd rfl (.inl rfl) (w_idx (w_var (i := 0) rfl (.inl rfl) rfl rfl) (w_var (i := 1) rfl (.inl rfl) rfl rfl) (fun _ _ => rfl)) rfl (.inl rfl))
      (s_nil)) (s_nil))
      (s_cons (s_set (i := 3) nd rfl (.inl rfl) (w_int) rfl (.inl rfl))
      (s_cons (s_if (b_cmp hr (w_abs rfl G.b_abs (w_cons (w_var (i := 2) rfl (.inl rfl) rfl rfl) (w_nil) rfl) rfl rfl) (w_bin (w_int) (w_int)) rfl) (s_cons (s_set (i := 3) nd rfl (.inl rfl) (w_abs rfl G.b_abs (w_cons (w_var (i := 2) rfl (.inl rfl) rfl rfl) (w_nil) rfl) rfl rfl) rfl (.inl rfl))
      (s_nil)) (s_nil))
      (s_cons (s_set (i := 4) nd rfl (.inl rfl) (w_lst (w_cons (w_int) (w_cons (w_int) (w_cons (w_int) (w_cons (w_int) (w_cons (w_int) (w_cons (w_int) (w_cons (w_int) (w_cons (w_int) (w_nil) rfl) rfl) rfl) rfl) rfl) rfl) rfl) rfl)) rfl (.inl rfl))
      (s_cons (s_ret (w_nlst (w_cons (w_var (i := 3) rfl (.inl rfl) rfl rfl) (w_cons (w_bin (w_bin (w_bin (w_bin (w_bin (w_var (i := 2) rfl (.inl rfl) rfl rfl) (w_int)) (w_bin (w_int) (w_var (i := 1) rfl (.inl rfl) rfl rfl))) (w_int)) (w_int)) (w_idx (w_var (i := 4) rfl (.inl rfl) rfl rfl) (w_bin (w_var (i := 1) rfl (.inl rfl) rfl rfl) (w_int)) (fun _ _ => rfl))) (w_cons (w_int) (w_nil) rfl) rfl) rfl)))
      (s_nil))))))
abbrev s__law_take : Stmt := top 49
theorem sc__law_take : FnScope ["_law_bag_here", "_law_many", "_law_digit"] ["_law_bag_here", "_law_many"] (defScope s__law_take) := ⟨rfl, rfl, rfl, by decide +kernel, rfl, by decide +kernel, by decide +kernel⟩
theorem ok__law_take (G : Glo K mg) {dvs : List V} {kws : List (Str × V)} {f : Addr} {fd : FuncData} (Fd : FunD K "_law_take" "_law_take" (defArgs s__law_take) (defBody s__law_take) (defScope s__law_take) dvs kws f fd) : FnOk P w K mg base (L2.CX P w) 1 f fd ["_law_bag_here", "_law_many"] (spW (tab K) K 2 f__law_take) := by
  have nd := (sc__law_take).nd
  refine fnW_ok (k := 0) Fd sc__law_take fun cdv A outer s H E hr => ?_
  have tk := takes_of (X := cxOf (L2.CX P w) P w K mg base ["_law_bag_here", "_law_many", "_law_digit"] "_law_take" (defScope s__law_take) f cdv A outer s H E) (E := E) rfl rfl rfl rfl
  exact s_cons (s_if (b_cmp hr (w_idx (w_var (i := 0) rfl (.inl rfl) rfl rfl) (w_int) (fun _ _ => rfl)) (w_int) rfl) (s_cons (s_set (i := 2) nd rfl (.inl rfl) (w_bin (w_idx (w_var (i := 0) rfl (.inl rfl) rfl rfl) (w_int) (fun _ _ => rfl)) (w_var (i := 1) rfl (.inl rfl) rfl rfl)) rfl (.inl rfl))
      (s_cons (s_setIx (w_var (i := 0) rfl (.inl rfl) rfl rfl) (w_int) (w_bin (w_idx (w_var (i := 0) rfl (.inl rfl) rfl rfl) (w_int) (fun _ _ => rfl)) (w_var (i := 1) rfl (.inl rfl) rfl rfl)) rfl rfl rfl (fun _ => rfl))
      (s_cons (s_ret (w_var (i := 2) rfl (.inl rfl) rfl rfl))
      (s_nil)))) (s_nil))
      (s_cons (s_setIx (w_var (i := 0) rfl (.inl rfl) rfl rfl) (w_int) (w_bin (w_idx (w_var (i := 0) rfl (.inl rfl) rfl rfl) (w_int) (fun _ _ => rfl)) (w_int)) rfl rfl rfl (fun _ => rfl))
      (s_cons (s_setIx (w_var (i := 0) rfl (.inl rfl) rfl rfl) (w_int) (w_bin (w_bin (w_bin (w_bin (w_idx (w_var (i := 0) rfl (.inl rfl) rfl rfl) (w_int) (fun _ _ => rfl)) (w_int)) (w_bin (w_bin (w_int) (w_idx (w_var (i := 0) rfl (.inl rfl) rfl rfl) (w_int) (fun _ _ => rfl))) (w_idx (w_var (i := 0) rfl (.inl rfl) rfl rfl) (w_int) (fun _ _ => rfl)))) (w_int)) (w_int)) rfl rfl rfl (fun _ => rfl))
      (s_cons (s_ret (w_bin (w_bin (w_bin (w_bin (w_idx (w_var (i := 0) rfl (.inl rfl) rfl rfl) (w_int) (fun _ _ => rfl)) (w_int)) (w_int)) (w_int)) (w_var (i := 1) rfl (.inl rfl) rfl rfl)))
      (s_nil))))
abbrev s_is_row : Stmt := top 26
theorem sc_is_row : FnScope ["thing", "most"] ["thing", "most"] (defScope s_is_row) := ⟨rfl, rfl, rfl, by decide +kernel, rfl, by decide +kernel, by decide +kernel⟩
theorem ok_is_row (G : Glo K mg) {dvs : List V} {kws : List (Str × V)} {f : Addr} {fd : FuncData} (Fd : FunD K "is_row" "is_row" (defArgs s_is_row) (defBody s_is_row) (defScope s_is_row) dvs kws f fd) : FnOk P w K mg base (L2.CX P w) 1 f fd ["thing", "most"] (spW (tab K) K 2 f_is_row) := by
  have nd := (sc_is_row).nd
  refine fnW_ok (k := 0) Fd sc_is_row fun cdv A outer s H E hr => ?_
  have tk := takes_of (X := cxOf (L2.CX P w) P w K mg base ["thing", "most"] "is_row" (defScope s_is_row) f cdv A outer s H E) (E := E) rfl rfl rfl rfl
  exact s_cons (s_ret (w_and (w_isTuple rfl G.b_isinstance rfl G.b_tuple (w_var (i := 0) rfl (.inl rfl) rfl rfl) rfl rfl rfl) (one (w_cmp hr (w_len rfl G.b_len (w_cons (w_var (i := 0) rfl (.inl rfl) rfl rfl) (w_nil) rfl) rfl rfl) (w_var (i := 1) rfl (.inl rfl) rfl rfl) rfl))))
      (s_nil)
abbrev s_how_many : Stmt := top 28
theorem sc_how_many : FnScope ["wheels", "found", "places"] ["wheels"] (defScope s_how_many) := ⟨rfl, rfl, rfl, by decide +kernel, rfl, by decide +kernel, by decide +kernel⟩
theorem ok_how_many (G : Glo K mg) {dvs : List V} {kws : List (Str × V)} {f : Addr} {fd : FuncData} (Fd : FunD K "how_many" "how_many" (defArgs s_how_many) (defBody s_how_many) (defScope s_how_many) dvs kws f fd) : FnOk P w K mg base (L2.CX P w) 1 f fd ["wheels"] (spW (tab K) K 1 f_how_many) := by
  have nd := (sc_how_many).nd
  refine fnW_ok (k := 0) Fd sc_how_many fun cdv A outer s H E hr => ?_
  have tk := takes_of (X := cxOf (L2.CX P w) P w K mg base ["wheels", "found", "places"] "how_many" (defScope s_how_many) f cdv A outer s H E) (E := E) rfl rfl rfl rfl
  exact s_cons (s_set (i := 1) nd rfl (.inl rfl) (w_int) rfl (.inl rfl))
      (s_cons (s_for (passes_of rfl) rfl (i_seq (w_var (i := 0) rfl (.inl rfl) rfl rfl)) (g_name (i := 2) nd rfl (.inl rfl) (.inl rfl)) (s_cons (s_aug (i := 1) nd rfl (.inl rfl) (w_var (i := 2) rfl (.inl rfl) rfl rfl) (.inl rfl))
      (s_nil)) (fun _ => rfl))
      (s_cons (s_ret (w_var (i := 1) rfl (.inl rfl) rfl rfl))
      (s_nil)))
abbrev s_is_whole : Stmt := top 24
theorem sc_is_whole : FnScope ["thing"] ["thing"] (defScope s_is_whole) := ⟨rfl, rfl, rfl, by decide +kernel, rfl, by decide +kernel, by decide +kernel⟩
theorem ok_is_whole (G : Glo K mg) {dvs : List V} {kws : List (Str × V)} {f : Addr} {fd : FuncData} (Fd : FunD K "is_whole" "is_whole" (defArgs s_is_whole) (defBody s_is_whole) (defScope s_is_whole) dvs kws f fd) : FnOk P w K mg base (L2.CX P w) 1 f fd ["thing"] (spW (tab K) K 1 f_is_whole) := by
  have nd := (sc_is_whole).nd
  refine fnW_ok (k := 0) Fd sc_is_whole fun cdv A outer s H E hr => ?_
  have tk := takes_of (X := cxOf (L2.CX P w) P w K mg base ["thing"] "is_whole" (defScope s_is_whole) f cdv A outer s H E) (E := E) rfl rfl rfl rfl
  exact s_cons (s_ret (w_and (w_isInt rfl G.b_isinstance rfl G.b_int (w_var (i := 0) rfl (.inl rfl) rfl rfl) rfl rfl rfl) (one (w_not (w_isBool rfl G.b_isinstance rfl G.b_bool (w_var (i := 0) rfl (.inl rfl) rfl rfl) rfl rfl rfl)))))
      (s_nil)
abbrev s_is_from : Stmt := top 25
theorem sc_is_from : FnScope ["thing", "least", "below"] ["thing", "least", "below"] (defScope s_is_from) := ⟨rfl, rfl, rfl, by decide +kernel, rfl, by decide +kernel, by decide +kernel⟩
theorem ok_is_from (G : Glo K mg) {dvs : List V} {kws : List (Str × V)} {f : Addr} {fd : FuncData} (h_is_whole : CallF (tab K) P w K mg base 1 "is_whole" f_is_whole) (Fd : FunD K "is_from" "is_from" (defArgs s_is_from) (defBody s_is_from) (defScope s_is_from) dvs kws f fd) : FnOk P w K mg base (L2.CX P w) 2 f fd ["thing", "least", "below"] (spW (tab K) K 3 f_is_from) := by
  have nd := (sc_is_from).nd
  refine fnW_ok (k := 1) Fd sc_is_from fun cdv A outer s H E hr => ?_
  have tk := takes_of (X := cxOf (L2.CX P w) P w K mg base ["thing", "least", "below"] "is_from" (defScope s_is_from) f cdv A outer s H E) (E := E) rfl rfl rfl rfl
  exact s_cons (s_ret (w_and (w_callP h_is_whole hr (by decide) rfl tk (w_cons (w_var (i := 0) rfl (.inl rfl) rfl rfl) (w_nil) rfl) rfl rfl rfl) (one (w_chain hr (w_var (i := 1) rfl (.inl rfl) rfl rfl) (w_var (i := 0) rfl (.inl rfl) rfl rfl) (w_var (i := 2) rfl (.inl rfl) rfl rfl) (by with_unfolding_all rfl)))))
      (s_nil)
abbrev s_are_wheels : Stmt := top 29
theorem sc_are_wheels : FnScope ["thing", "one"] ["thing"] (defScope s_are_wheels) := ⟨rfl, rfl, rfl, by decide +kernel, rfl, by decide +kernel, by decide +kernel⟩
theorem ok_are_wheels (G : Glo K mg) {dvs : List V} {kws : List (Str × V)} {f : Addr} {fd : FuncData} (h_how_many : CallF (tab K) P w K mg base 1 "how_many" f_how_many) (h_is_from : CallF (tab K) P w K mg base 2 "is_from" f_is_from) (h_is_row : CallF (tab K) P w K mg base 1 "is_row" f_is_row) (Fd : FunD K "are_wheels" "are_wheels" (defArgs s_are_wheels) (defBody s_are_wheels) (defScope s_are_wheels) dvs kws f fd) : FnOk P w K mg base (L2.CX P w) 3 f fd ["thing"] (spW (tab K) K 1 f_are_wheels) := by
  have nd := (sc_are_wheels).nd
  refine fnW_ok (k := 2) Fd sc_are_wheels fun cdv A outer s H E hr => ?_
  have tk := takes_of (X := cxOf (L2.CX P w) P w K mg base ["thing", "one"] "are_wheels" (defScope s_are_wheels) f cdv A outer s H E) (E := E) rfl rfl rfl rfl
  exact s_cons (s_if (L2.PW.pt (b_or (b_not (b_test (w_callP h_is_row hr (by decide) rfl tk (w_cons (w_var (i := 0) rfl (.inl rfl) rfl rfl) (w_cons (w_globW rfl G.c_MOST_WHEELS rfl) (w_nil) rfl) rfl) rfl rfl rfl) (fun _ => rfl))) (b_or1 (b_cmp hr (w_var (i := 0) rfl (.inl rfl) rfl rfl) (w_tup (w_nil)) rfl)))) (s_cons (s_ret (w_bl))
      (s_nil)) (s_nil))
      (s_cons (s_ret (w_and (w_all rfl rfl G.b_all (w_cons (w_lc (mt := false) rfl nd (i_seq (w_var (i := 0) rfl (.inl rfl) rfl rfl)) (blkOk_by (own := [("one", 1)]) (by kernel_rfl)) rfl rfl (fun _ _ _ _ _ => g_name (i := 1) nd rfl (.inl rfl) (.inr rfl)) (fun _ _ _ _ _ => bs_nil) (fun _ _ _ _ _ => w_callP h_is_from hr (by decide) rfl L2.takes0 (w_cons (w_var (i := 1) rfl (.inl rfl) rfl rfl) (w_cons (w_globW rfl G.c_LEAST_PLACES rfl) (w_cons (w_bin (w_globW rfl G.c_MOST_PLACES rfl) (w_int)) (w_nil) rfl) rfl) rfl) rfl rfl rfl) (fun _ => rfl)) (w_nil) rfl) rfl rfl) (one (w_cmp hr (w_callP h_how_many hr (by decide) rfl tk (w_cons (w_var (i := 0) rfl (.inl rfl) rfl rfl) (w_nil) rfl) rfl rfl rfl) (w_globW rfl G.c_MOST_BEGINNINGS rfl) rfl))))
      (s_nil))
abbrev s_are_rising : Stmt := top 27
theorem sc_are_rising : FnScope ["numbers", "one", "other"] ["numbers"] (defScope s_are_rising) := ⟨rfl, rfl, rfl, by decide +kernel, rfl, by decide +kernel, by decide +kernel⟩
theorem ok_are_rising (G : Glo K mg) {dvs : List V} {kws : List (Str × V)} {f : Addr} {fd : FuncData} (Fd : FunD K "are_rising" "are_rising" (defArgs s_are_rising) (defBody s_are_rising) (defScope s_are_rising) dvs kws f fd) : FnOk P w K mg base (L2.CX P w) 1 f fd ["numbers"] (spW (tab K) K 1 f_are_rising) := by
  have nd := (sc_are_rising).nd
  refine fnW_ok (k := 0) Fd sc_are_rising fun cdv A outer s H E hr => ?_
  have tk := takes_of (X := cxOf (L2.CX P w) P w K mg base ["numbers", "one", "other"] "are_rising" (defScope s_are_rising) f cdv A outer s H E) (E := E) rfl rfl rfl rfl
  exact s_cons (s_ret (w_all rfl rfl G.b_all (w_cons (w_lc (mt := false) rfl nd (i_zip rfl G.b_zip (w_var (i := 0) rfl (.inl rfl) rfl rfl) (w_slc (w_var (i := 0) rfl (.inl rfl) rfl rfl) (w_part (w_int)) (w_noPart)) rfl rfl rfl) (blkOk_by (own := [("one", 1), ("other", 2)]) (by kernel_rfl)) rfl rfl (fun _ _ _ _ _ => g_tup rfl (gs_name (i := 1) nd rfl (.inl rfl) (.inr rfl) (gs_name (i := 2) nd rfl (.inl rfl) (.inr rfl) (gs_nil) rfl) rfl) rfl rfl) (fun _ _ _ _ _ => bs_nil) (fun _ _ _ _ _ => w_cmp hr (w_var (i := 1) rfl (.inl rfl) rfl rfl) (w_var (i := 2) rfl (.inl rfl) rfl rfl) rfl) (fun _ => rfl)) (w_nil) rfl) rfl rfl))
      (s_nil)
abbrev s_is_hush : Stmt := top 34
theorem sc_is_hush : FnScope ["many", "thing"] ["many", "thing"] (defScope s_is_hush) := ⟨rfl, rfl, rfl, by decide +kernel, rfl, by decide +kernel, by decide +kernel⟩
theorem ok_is_hush (G : Glo K mg) {dvs : List V} {kws : List (Str × V)} {f : Addr} {fd : FuncData} (h_is_from : CallF (tab K) P w K mg base 2 "is_from" f_is_from) (Fd : FunD K "is_hush" "is_hush" (defArgs s_is_hush) (defBody s_is_hush) (defScope s_is_hush) dvs kws f fd) : FnOk P w K mg base (L2.CX P w) 3 f fd ["many", "thing"] (spW (tab K) K 2 f_is_hush) := by
  have nd := (sc_is_hush).nd
  refine fnW_ok (k := 2) Fd sc_is_hush fun cdv A outer s H E hr => ?_
  have tk := takes_of (X := cxOf (L2.CX P w) P w K mg base ["many", "thing"] "is_hush" (defScope s_is_hush) f cdv A outer s H E) (E := E) rfl rfl rfl rfl
  exact s_cons (s_if (L2.PW.pt (b_or (b_not (b_test (w_isTuple rfl G.b_isinstance rfl G.b_tuple (w_var (i := 1) rfl (.inl rfl) rfl rfl) rfl rfl rfl) (fun _ => rfl))) (b_or1 (b_cmp hr (w_len rfl G.b_len (w_cons (w_var (i := 1) rfl (.inl rfl) rfl rfl) (w_nil) rfl) rfl rfl) (w_int) rfl)))) (s_cons (s_ret (w_bl))
      (s_nil)) (s_nil))
      (s_cons (s_ret (w_and (w_callP h_is_from hr (by decide) rfl tk (w_cons (w_idx (w_var (i := 1) rfl (.inl rfl) rfl rfl) (w_int) (fun _ _ => rfl)) (w_cons (w_int) (w_cons (w_var (i := 0) rfl (.inl rfl) rfl rfl) (w_nil) rfl) rfl) rfl) rfl rfl rfl) (one (w_callP h_is_from hr (by decide) rfl tk (w_cons (w_idx (w_var (i := 1) rfl (.inl rfl) rfl rfl) (w_int) (fun _ _ => rfl)) (w_cons (w_int) (w_cons (w_bin (w_globW rfl G.c_MOST_HUSHED rfl) (w_int)) (w_nil) rfl) rfl) rfl) rfl rfl rfl))))
      (s_nil))
abbrev s_are_hushes : Stmt := top 35
theorem sc_are_hushes : FnScope ["many", "thing", "rule", "beats", "one"] ["many", "thing"] (defScope s_are_hushes) := ⟨rfl, rfl, rfl, by decide +kernel, rfl, by decide +kernel, by decide +kernel⟩
theorem ok_are_hushes (G : Glo K mg) {dvs : List V} {kws : List (Str × V)} {f : Addr} {fd : FuncData} (h_are_rising : CallF (tab K) P w K mg base 1 "are_rising" f_are_rising) (h_is_hush : CallF (tab K) P w K mg base 3 "is_hush" f_is_hush) (Fd : FunD K "are_hushes" "are_hushes" (defArgs s_are_hushes) (defBody s_are_hushes) (defScope s_are_hushes) dvs kws f fd) : FnOk P w K mg base (L2.CX P w) 4 f fd ["many", "thing"] (spW (tab K) K 2 f_are_hushes) := by
  have nd := (sc_are_hushes).nd
  refine fnW_ok (k := 3) Fd sc_are_hushes fun cdv A outer s H E hr => ?_
  have tk := takes_of (X := cxOf (L2.CX P w) P w K mg base ["many", "thing", "rule", "beats", "one"] "are_hushes" (defScope s_are_hushes) f cdv A outer s H E) (E := E) rfl rfl rfl rfl
  exact s_cons (s_if (L2.PW.pt (b_or (b_not (b_test (w_isTuple rfl G.b_isinstance rfl G.b_tuple (w_var (i := 1) rfl (.inl rfl) rfl rfl) rfl rfl rfl) (fun _ => rfl))) (b_or1 (b_not (b_test (w_all rfl rfl G.b_all (w_cons (w_lc (mt := false) rfl nd (i_seq (w_var (i := 1) rfl (.inl rfl) rfl rfl)) (blkOk_by (own := [("one", 4)]) (by kernel_rfl)) rfl rfl (fun _ _ _ _ _ => g_name (i := 4) nd rfl (.inl rfl) (.inr rfl)) (fun _ _ _ _ _ => bs_nil) (fun _ _ _ _ _ => w_callP h_is_hush hr (by decide) rfl L2.takes0 (w_cons (w_var (i := 0) rfl (.inr (.inl rfl)) rfl rfl) (w_cons (w_var (i := 4) rfl (.inl rfl) rfl rfl) (w_nil) rfl) rfl) rfl rfl rfl) (fun _ => rfl)) (w_nil) rfl) rfl rfl) (fun _ => rfl)))))) (s_cons (s_ret (w_bl))
      (s_nil)) (s_nil))
      (s_cons (s_ret (w_callP h_are_rising hr (by decide) rfl tk (w_cons (w_lc (mt := false) rfl nd (i_seq (w_var (i := 1) rfl (.inl rfl) rfl rfl)) (blkOk_by (own := [("rule", 2), ("beats", 3)]) (by kernel_rfl)) rfl rfl (fun _ _ _ _ _ => g_tup rfl (gs_name (i := 2) nd rfl (.inl rfl) (.inr rfl) (gs_name (i := 3) nd rfl (.inl rfl) (.inr rfl) (gs_nil) rfl) rfl) rfl rfl) (fun _ _ _ _ _ => bs_nil) (fun _ _ _ _ _ => w_var (i := 2) rfl (.inl rfl) rfl rfl) (fun _ => rfl)) (w_nil) rfl) rfl rfl rfl))
      (s_nil))
abbrev s_are_rules_numbers : Stmt := top 33
theorem sc_are_rules_numbers : FnScope ["thing", "many", "one"] ["thing", "many"] (defScope s_are_rules_numbers) := ⟨rfl, rfl, rfl, by decide +kernel, rfl, by decide +kernel, by decide +kernel⟩
theorem ok_are_rules_numbers (G : Glo K mg) {dvs : List V} {kws : List (Str × V)} {f : Addr} {fd : FuncData} (h_are_rising : CallF (tab K) P w K mg base 1 "are_rising" f_are_rising) (h_is_from : CallF (tab K) P w K mg base 2 "is_from" f_is_from) (Fd : FunD K "are_rules_numbers" "are_rules_numbers" (defArgs s_are_rules_numbers) (defBody s_are_rules_numbers) (defScope s_are_rules_numbers) dvs kws f fd) : FnOk P w K mg base (L2.CX P w) 3 f fd ["thing", "many"] (spW (tab K) K 2 f_are_rules_numbers) := by
  have nd := (sc_are_rules_numbers).nd
  refine fnW_ok (k := 2) Fd sc_are_rules_numbers fun cdv A outer s H E hr => ?_
  have tk := takes_of (X := cxOf (L2.CX P w) P w K mg base ["thing", "many", "one"] "are_rules_numbers" (defScope s_are_rules_numbers) f cdv A outer s H E) (E := E) rfl rfl rfl rfl
  exact s_cons (s_ret (w_and (w_isTuple rfl G.b_isinstance rfl G.b_tuple (w_var (i := 0) rfl (.inl rfl) rfl rfl) rfl rfl rfl) (w_and (w_all rfl rfl G.b_all (w_cons (w_lc (mt := false) rfl nd (i_seq (w_var (i := 0) rfl (.inl rfl) rfl rfl)) (blkOk_by (own := [("one", 2)]) (by kernel_rfl)) rfl rfl (fun _ _ _ _ _ => g_name (i := 2) nd rfl (.inl rfl) (.inr rfl)) (fun _ _ _ _ _ => bs_nil) (fun _ _ _ _ _ => w_callP h_is_from hr (by decide) rfl L2.takes0 (w_cons (w_var (i := 2) rfl (.inl rfl) rfl rfl) (w_cons (w_int) (w_cons (w_var (i := 1) rfl (.inr (.inl rfl)) rfl rfl) (w_nil) rfl) rfl) rfl) rfl rfl rfl) (fun _ => rfl)) (w_nil) rfl) rfl rfl) (one (w_callP h_are_rising hr (by decide) rfl tk (w_cons (w_var (i := 0) rfl (.inl rfl) rfl rfl) (w_nil) rfl) rfl rfl rfl)))))
      (s_nil)
abbrev s_is_worded : Stmt := top 30
theorem sc_is_worded : FnScope ["thing", "words", "many"] ["thing", "words", "many"] (defScope s_is_worded) := ⟨rfl, rfl, rfl, by decide +kernel, rfl, by decide +kernel, by decide +kernel⟩
theorem ok_is_worded (G : Glo K mg) {dvs : List V} {kws : List (Str × V)} {f : Addr} {fd : FuncData} (Fd : FunD K "is_worded" "is_worded" (defArgs s_is_worded) (defBody s_is_worded) (defScope s_is_worded) dvs kws f fd) : FnOk P w K mg base (L2.CX P w) 1 f fd ["thing", "words", "many"] (spW (tab K) K 3 f_is_worded) := by
  have nd := (sc_is_worded).nd
  refine fnW_ok (k := 0) Fd sc_is_worded fun cdv A outer s H E hr => ?_
  have tk := takes_of (X := cxOf (L2.CX P w) P w K mg base ["thing", "words", "many"] "is_worded" (defScope s_is_worded) f cdv A outer s H E) (E := E) rfl rfl rfl rfl
  exact s_cons (s_ret (w_and (w_isTuple rfl G.b_isinstance rfl G.b_tuple (w_var (i := 0) rfl (.inl rfl) rfl rfl) rfl rfl rfl) (w_and (w_cmp hr (w_len rfl G.b_len (w_cons (w_var (i := 0) rfl (.inl rfl) rfl rfl) (w_nil) rfl) rfl rfl) (w_var (i := 2) rfl (.inl rfl) rfl rfl) rfl) (w_and (w_isStr rfl G.b_isinstance rfl G.b_str (w_idx (w_var (i := 0) rfl (.inl rfl) rfl rfl) (w_int) (fun _ _ => rfl)) rfl rfl rfl) (one (w_cmp hr (w_idx (w_var (i := 0) rfl (.inl rfl) rfl rfl) (w_int) (fun _ _ => rfl)) (w_var (i := 1) rfl (.inl rfl) rfl rfl) rfl))))))
      (s_nil)
abbrev s_is_placed : Stmt := top 31
theorem sc_is_placed : FnScope ["wheels", "thing", "words", "word", "wheel", "place"] ["wheels", "thing", "words"] (defScope s_is_placed) := ⟨rfl, rfl, rfl, by decide +kernel, rfl, by decide +kernel, by decide +kernel⟩
theorem ok_is_placed (G : Glo K mg) {dvs : List V} {kws : List (Str × V)} {f : Addr} {fd : FuncData} (h_is_from : CallF (tab K) P w K mg base 2 "is_from" f_is_from) (h_is_worded : CallF (tab K) P w K mg base 1 "is_worded" f_is_worded) (Fd : FunD K "is_placed" "is_placed" (defArgs s_is_placed) (defBody s_is_placed) (defScope s_is_placed) dvs kws f fd) : FnOk P w K mg base (L2.CX P w) 3 f fd ["wheels", "thing", "words"] (spW (tab K) K 3 f_is_placed) := by
  have nd := (sc_is_placed).nd
  refine fnW_ok (k := 2) Fd sc_is_placed fun cdv A outer s H E hr => ?_
  have tk := takes_of (X := cxOf (L2.CX P w) P w K mg base ["wheels", "thing", "words", "word", "wheel", "place"] "is_placed" (defScope s_is_placed) f cdv A outer s H E) (E := E) rfl rfl rfl rfl
  exact s_cons (s_if (b_not (b_test (w_callP h_is_worded hr (by decide) rfl tk (w_cons (w_var (i := 1) rfl (.inl rfl) rfl rfl) (w_cons (w_var (i := 2) rfl (.inl rfl) rfl rfl) (w_cons (w_int) (w_nil) rfl) rfl) rfl) rfl rfl rfl) (fun _ => rfl))) (s_cons (s_ret (w_bl))
      (s_nil)) (s_nil))
      (s_cons (s_asg (w_var (i := 1) rfl (.inl rfl) rfl rfl) (g_tup rfl (gs_name (i := 3) nd rfl (.inl rfl) (.inl rfl) (gs_name (i := 4) nd rfl (.inl rfl) (.inl rfl) (gs_name (i := 5) nd rfl (.inl rfl) (.inl rfl) (gs_nil) rfl) rfl) rfl) rfl rfl) rfl rfl rfl)
      (s_cons (s_ret (w_and (w_callP h_is_from hr (by decide) rfl tk (w_cons (w_var (i := 4) rfl (.inl rfl) rfl rfl) (w_cons (w_int) (w_cons (w_len rfl G.b_len (w_cons (w_var (i := 0) rfl (.inl rfl) rfl rfl) (w_nil) rfl) rfl rfl) (w_nil) rfl) rfl) rfl) rfl rfl rfl) (one (w_callP h_is_from hr (by decide) rfl tk (w_cons (w_var (i := 5) rfl (.inl rfl) rfl rfl) (w_cons (w_int) (w_cons (w_idx (w_var (i := 0) rfl (.inl rfl) rfl rfl) (w_var (i := 4) rfl (.inl rfl) rfl rfl) (fun _ _ => rfl)) (w_nil) rfl) rfl) rfl) rfl rfl rfl))))
      (s_nil)))
abbrev s_is_condition : Stmt := top 32
theorem sc_is_condition : FnScope ["wheels", "many", "thing"] ["wheels", "many", "thing"] (defScope s_is_condition) := ⟨rfl, rfl, rfl, by decide +kernel, rfl, by decide +kernel, by decide +kernel⟩
theorem ok_is_condition (G : Glo K mg) {dvs : List V} {kws : List (Str × V)} {f : Addr} {fd : FuncData} (h_is_placed : CallF (tab K) P w K mg base 3 "is_placed" f_is_placed) (h_is_worded : CallF (tab K) P w K mg base 1 "is_worded" f_is_worded) (h_is_from : CallF (tab K) P w K mg base 2 "is_from" f_is_from) (Fd : FunD K "is_condition" "is_condition" (defArgs s_is_condition) (defBody s_is_condition) (defScope s_is_condition) dvs kws f fd) : FnOk P w K mg base (L2.CX P w) 4 f fd ["wheels", "many", "thing"] (spW (tab K) K 3 f_is_condition) := by
  have nd := (sc_is_condition).nd
  refine fnW_ok (k := 3) Fd sc_is_condition fun cdv A outer s H E hr => ?_
  have tk := takes_of (X := cxOf (L2.CX P w) P w K mg base ["wheels", "many", "thing"] "is_condition" (defScope s_is_condition) f cdv A outer s H E) (E := E) rfl rfl rfl rfl
  exact s_cons (s_if (b_test (w_callP h_is_worded hr (by decide) rfl tk (w_cons (w_var (i := 2) rfl (.inl rfl) rfl rfl) (w_cons (w_globW rfl G.c_RULED rfl) (w_cons (w_int) (w_nil) rfl) rfl) rfl) rfl rfl rfl) (fun _ => rfl)) (s_cons (s_ret (w_callP h_is_from hr (by decide) rfl tk (w_cons (w_idx (w_var (i := 2) rfl (.inl rfl) rfl rfl) (w_int) (fun _ _ => rfl)) (w_cons (w_int) (w_cons (w_var (i := 1) rfl (.inl rfl) rfl rfl) (w_nil) rfl) rfl) rfl) rfl rfl rfl))
      (s_nil)) (s_nil))
      (s_cons (s_ret (w_callP h_is_placed hr (by decide) rfl tk (w_cons (w_var (i := 0) rfl (.inl rfl) rfl rfl) (w_cons (w_var (i := 2) rfl (.inl rfl) rfl rfl) (w_cons (w_globW rfl G.c_PLACED rfl) (w_nil) rfl) rfl) rfl) rfl rfl rfl))
      (s_nil))
abbrev s_is_rule : Stmt := top 36
theorem sc_is_rule : FnScope ["wheels", "many", "thing", "test", "changes", "hushes", "wakes", "rule", "beats", "one"] ["wheels", "many", "thing"] (defScope s_is_rule) := ⟨rfl, rfl, rfl, by decide +kernel, rfl, by decide +kernel, by decide +kernel⟩
theorem ok_is_rule (G : Glo K mg) {dvs : List V} {kws : List (Str × V)} {f : Addr} {fd : FuncData} (h_are_rules_numbers : CallF (tab K) P w K mg base 3 "are_rules_numbers" f_are_rules_numbers) (h_are_hushes : CallF (tab K) P w K mg base 4 "are_hushes" f_are_hushes) (h_is_placed : CallF (tab K) P w K mg base 3 "is_placed" f_is_placed) (h_is_row : CallF (tab K) P w K mg base 1 "is_row" f_is_row) (h_is_condition : CallF (tab K) P w K mg base 4 "is_condition" f_is_condition) (Fd : FunD K "is_rule" "is_rule" (defArgs s_is_rule) (defBody s_is_rule) (defScope s_is_rule) dvs kws f fd) : FnOk P w K mg base (L2.CX P w) 5 f fd ["wheels", "many", "thing"] (spW (tab K) K 3 f_is_rule) := by
  have nd := (sc_is_rule).nd
  refine fnW_ok (k := 4) Fd sc_is_rule fun cdv A outer s H E hr => ?_
  have tk := takes_of (X := cxOf (L2.CX P w) P w K mg base ["wheels", "many", "thing", "test", "changes", "hushes", "wakes", "rule", "beats", "one"] "is_rule" (defScope s_is_rule) f cdv A outer s H E) (E := E) rfl rfl rfl rfl
  exact s_cons (s_if (L2.PW.pt (b_or (b_not (b_test (w_isTuple rfl G.b_isinstance rfl G.b_tuple (w_var (i := 2) rfl (.inl rfl) rfl rfl) rfl rfl rfl) (fun _ => rfl))) (b_or1 (b_cmp hr (w_len rfl G.b_len (w_cons (w_var (i := 2) rfl (.inl rfl) rfl rfl) (w_nil) rfl) rfl rfl) (w_globW rfl G.c_PARTS rfl) rfl)))) (s_cons (s_ret (w_bl))
      (s_nil)) (s_nil))
      (s_cons (s_asg (w_var (i := 2) rfl (.inl rfl) rfl rfl) (g_tup rfl (gs_name (i := 3) nd rfl (.inl rfl) (.inl rfl) (gs_name (i := 4) nd rfl (.inl rfl) (.inl rfl) (gs_name (i := 5) nd rfl (.inl rfl) (.inl rfl) (gs_name (i := 6) nd rfl (.inr rfl) (.inl rfl) (gs_nil) rfl) rfl) rfl) rfl) rfl rfl) rfl rfl rfl)
      (s_cons (s_if (L2.PW.pt (b_or (b_not (b_test (w_callP h_is_row hr (by decide) rfl tk (w_cons (w_var (i := 3) rfl (.inl rfl) rfl rfl) (w_cons (w_globW rfl G.c_MOST_CONDITIONS rfl) (w_nil) rfl) rfl) rfl rfl rfl) (fun _ => rfl))) (b_or1 (b_not (b_test (w_all rfl rfl G.b_all (w_cons (w_lc (mt := false) rfl nd (i_seq (w_var (i := 3) rfl (.inl rfl) rfl rfl)) (blkOk_by (own := [("one", 9)]) (by kernel_rfl)) rfl rfl (fun _ _ _ _ _ => g_name (i := 9) nd rfl (.inl rfl) (.inr rfl)) (fun _ _ _ _ _ => bs_nil) (fun _ _ _ _ _ => w_callP h_is_condition hr (by decide) rfl L2.takes0 (w_cons (w_var (i := 0) rfl (.inr (.inl rfl)) rfl rfl) (w_cons (w_var (i := 1) rfl (.inr (.inl rfl)) rfl rfl) (w_cons (w_var (i := 9) rfl (.inl rfl) rfl rfl) (w_nil) rfl) rfl) rfl) rfl rfl rfl) (fun _ => rfl)) (w_nil) rfl) rfl rfl) (fun _ => rfl)))))) (s_cons (s_ret (w_bl))
      (s_nil)) (s_nil))
      (s_cons (s_if (L2.PW.pt (b_or (b_not (b_test (w_callP h_is_row hr (by decide) rfl tk (w_cons (w_var (i := 4) rfl (.inl rfl) rfl rfl) (w_cons (w_globW rfl G.c_MOST_CHANGES rfl) (w_nil) rfl) rfl) rfl rfl rfl) (fun _ => rfl))) (b_or1 (b_not (b_test (w_all rfl rfl G.b_all (w_cons (w_lc (mt := false) rfl nd (i_seq (w_var (i := 4) rfl (.inl rfl) rfl rfl)) (blkOk_by (own := [("one", 9)]) (by kernel_rfl)) rfl rfl (fun _ _ _ _ _ => g_name (i := 9) nd rfl (.inl rfl) (.inr rfl)) (fun _ _ _ _ _ => bs_nil) (fun _ _ _ _ _ => w_callP h_is_placed hr (by decide) rfl L2.takes0 (w_cons (w_var (i := 0) rfl (.inr (.inl rfl)) rfl rfl) (w_cons (w_var (i := 9) rfl (.inl rfl) rfl rfl) (w_cons (w_globW rfl G.c_CHANGES rfl) (w_nil) rfl) rfl) rfl) rfl rfl rfl) (fun _ => rfl)) (w_nil) rfl) rfl rfl) (fun _ => rfl)))))) (s_cons (s_ret (w_bl))
      (s_nil)) (s_nil))
      (s_cons (s_if (L2.PW.pt (b_or (b_not (b_test (w_callP h_are_hushes hr (by decide) rfl tk (w_cons (w_var (i := 1) rfl (.inr (.inl rfl)) rfl rfl) (w_cons (w_var (i := 5) rfl (.inl rfl) rfl rfl) (w_nil) rfl) rfl) rfl rfl rfl) (fun _ => rfl))) (b_or1 (b_not (b_test (w_callP h_are_rules_numbers hr (by decide) rfl tk (w_cons (w_var (i := 6) rfl (.inr (.inl rfl)) rfl rfl) (w_cons (w_var (i := 1) rfl (.inr (.inl rfl)) rfl rfl) (w_nil) rfl) rfl) rfl rfl rfl) (fun _ => rfl)))))) (s_cons (s_ret (w_bl))
      (s_nil)) (s_nil))
      (s_cons (s_ret (w_not (w_any rfl rfl G.b_any (w_cons (w_lc (mt := false) rfl nd (i_seq (w_var (i := 5) rfl (.inl rfl) rfl rfl)) (blkOk_by (own := [("rule", 7), ("beats", 8)]) (by kernel_rfl)) rfl rfl (fun _ _ _ _ _ => g_tup rfl (gs_name (i := 7) nd rfl (.inl rfl) (.inr rfl) (gs_name (i := 8) nd rfl (.inl rfl) (.inr rfl) (gs_nil) rfl) rfl) rfl rfl) (fun _ _ _ _ _ => bs_nil) (fun _ _ _ _ _ => w_cmp hr (w_var (i := 7) rfl (.inl rfl) rfl rfl) (w_var (i := 6) rfl (.inr (.inl rfl)) rfl rfl) rfl) (fun _ => rfl)) (w_nil) rfl) rfl rfl)))
      (s_nil))))))
abbrev s_look_book : Stmt := top 37
theorem sc_look_book : FnScope ["wheels", "rules", "at", "rule"] ["wheels", "rules"] (defScope s_look_book) := ⟨rfl, rfl, rfl, by decide +kernel, rfl, by decide +kernel, by decide +kernel⟩
theorem ok_look_book (G : Glo K mg) {dvs : List V} {kws : List (Str × V)} {f : Addr} {fd : FuncData} (h_is_rule : CallF (tab K) P w K mg base 5 "is_rule" f_is_rule) (h_is_row : CallF (tab K) P w K mg base 1 "is_row" f_is_row) (h_are_wheels : CallF (tab K) P w K mg base 3 "are_wheels" f_are_wheels) (Fd : FunD K "look_book" "look_book" (defArgs s_look_book) (defBody s_look_book) (defScope s_look_book) dvs kws f fd) : FnOk P w K mg base (L2.CX P w) 6 f fd ["wheels", "rules"] (spW (tab K) K 2 f_look_book) := by
  have nd := (sc_look_book).nd
  refine fnW_ok (k := 5) Fd sc_look_book fun cdv A outer s H E hr => ?_
  have tk := takes_of (X := cxOf (L2.CX P w) P w K mg base ["wheels", "rules", "at", "rule"] "look_book" (defScope s_look_book) f cdv A outer s H E) (E := E) rfl rfl rfl rfl
  exact s_cons (s_if (L2.PW.pt (b_or (b_not (b_test (w_callP h_are_wheels hr (by decide) rfl tk (w_cons (w_var (i := 0) rfl (.inl rfl) rfl rfl) (w_nil) rfl) rfl rfl rfl) (fun _ => rfl))) (b_or1 (b_not (b_test (w_callP h_is_row hr (by decide) rfl tk (w_cons (w_var (i := 1) rfl (.inl rfl) rfl rfl) (w_cons (w_globW rfl G.c_MOST_RULES rfl) (w_nil) rfl) rfl) rfl rfl rfl) (fun _ => rfl)))))) (s_cons (s_never)
      (s_nil)) (s_nil))
      (s_cons (s_for (passes_of rfl) rfl (i_enum rfl G.b_enumerate (w_var (i := 1) rfl (.inl rfl) rfl rfl) rfl) (g_tup rfl (gs_name (i := 2) nd rfl (.inl rfl) (.inl rfl) (gs_name (i := 3) nd rfl (.inl rfl) (.inl rfl) (gs_nil) rfl) rfl) rfl rfl) (s_cons (s_if (b_not (b_test (w_callP h_is_rule hr (by decide) rfl tk (w_cons (w_var (i := 0) rfl (.inl rfl) rfl rfl) (w_cons (w_len rfl G.b_len (w_cons (w_var (i := 1) rfl (.inl rfl) rfl rfl) (w_nil) rfl) rfl rfl) (w_cons (w_var (i := 3) rfl (.inl rfl) rfl rfl) (w_nil) rfl) rfl) rfl) rfl rfl rfl) (fun _ => rfl))) (s_cons (s_never)
      (s_nil)) (s_nil))
      (s_nil)) (fun _ => rfl))
      (s_nil))
abbrev s_Book___init__ : Stmt := inClass (top 38) 0
theorem sc_Book___init__ : FnScope ["self", "wheels", "rules"] ["self", "wheels", "rules"] (defScope s_Book___init__) := ⟨rfl, rfl, rfl, by decide +kernel, rfl, by decide +kernel, by decide +kernel⟩
theorem ok_Book___init__ (G : Glo K mg) {dvs : List V} {kws : List (Str × V)} {f : Addr} {fd : FuncData} (h_look_book : CallF (tab K) P w K mg base 6 "look_book" f_look_book) (Fd : FunD K "__init__" "Book.__init__" (defArgs s_Book___init__) (defBody s_Book___init__) (defScope s_Book___init__) dvs kws f fd) : FnOk P w K mg base (L2.CX P w) 7 f fd ["self", "wheels", "rules"] (spW (tab K) K 3 f_Book___init__) := by
  have nd := (sc_Book___init__).nd
  refine fnW_ok (k := 6) Fd sc_Book___init__ fun cdv A outer s H E hr => ?_
  have tk := takes_of (X := cxOf (L2.CX P w) P w K mg base ["self", "wheels", "rules"] "Book.__init__" (defScope s_Book___init__) f cdv A outer s H E) (E := E) rfl rfl rfl rfl
  exact s_cons (s_expr (w_callP h_look_book hr (by decide) rfl tk (w_cons (w_var (i := 1) rfl (.inl rfl) rfl rfl) (w_cons (w_var (i := 2) rfl (.inl rfl) rfl rfl) (w_nil) rfl) rfl) rfl rfl rfl) rfl)
      (s_cons (s_setFld fldN (Nat.le_of_ble_eq_true rfl) rfl G.k_Book G.n_Book_wheels (w_var (i := 0) rfl (.inl rfl) rfl rfl) (w_var (i := 1) rfl (.inl rfl) rfl rfl) rfl)
      (s_cons (s_setFld fldN (Nat.le_of_ble_eq_true rfl) rfl G.k_Book G.n_Book_rules (w_var (i := 0) rfl (.inl rfl) rfl rfl) (w_var (i := 2) rfl (.inl rfl) rfl rfl) rfl)
      (s_nil)))
abbrev s_are_values : Stmt := top 39
theorem sc_are_values : FnScope ["book", "thing", "place", "places"] ["book", "thing"] (defScope s_are_values) := ⟨rfl, rfl, rfl, by decide +kernel, rfl, by decide +kernel, by decide +kernel⟩
theorem ok_are_values (G : Glo K mg) {dvs : List V} {kws : List (Str × V)} {f : Addr} {fd : FuncData} (h_is_from : CallF (tab K) P w K mg base 2 "is_from" f_is_from) (Fd : FunD K "are_values" "are_values" (defArgs s_are_values) (defBody s_are_values) (defScope s_are_values) dvs kws f fd) : FnOk P w K mg base (L2.CX P w) 3 f fd ["book", "thing"] (spW (tab K) K 2 f_are_values) := by
  have nd := (sc_are_values).nd
  refine fnW_ok (k := 2) Fd sc_are_values fun cdv A outer s H E hr => ?_
  have tk := takes_of (X := cxOf (L2.CX P w) P w K mg base ["book", "thing", "place", "places"] "are_values" (defScope s_are_values) f cdv A outer s H E) (E := E) rfl rfl rfl rfl
  exact s_cons (s_if (L2.PW.pt (b_or (b_not (b_test (w_isTuple rfl G.b_isinstance rfl G.b_tuple (w_var (i := 1) rfl (.inl rfl) rfl rfl) rfl rfl rfl) (fun _ => rfl))) (b_or1 (b_cmp hr (w_len rfl G.b_len (w_cons (w_var (i := 1) rfl (.inl rfl) rfl rfl) (w_nil) rfl) rfl rfl) (w_len rfl G.b_len (w_cons (w_fld fldN (Nat.le_of_ble_eq_true rfl) rfl G.k_Book G.n_Book_wheels (w_var (i := 0) rfl (.inl rfl) rfl rfl) rfl) (w_nil) rfl) rfl rfl) rfl)))) (s_cons (s_ret (w_bl))
      (s_nil)) (s_nil))
      (s_cons (s_ret (w_all rfl rfl G.b_all (w_cons (w_lc (mt := false) rfl nd (i_zips rfl G.b_zip (w_var (i := 1) rfl (.inl rfl) rfl rfl) (w_fld fldN (Nat.le_of_ble_eq_true rfl) rfl G.k_Book G.n_Book_wheels (w_var (i := 0) rfl (.inl rfl) rfl rfl) rfl) rfl rfl rfl (fun ha => pi_zipS rfl G.b_zip ha rfl rfl)) (blkOk_by (own := [("place", 2), ("places", 3)]) (by kernel_rfl)) rfl rfl (fun _ _ _ _ _ => g_tup rfl (gs_name (i := 2) nd rfl (.inl rfl) (.inr rfl) (gs_name (i := 3) nd rfl (.inl rfl) (.inr rfl) (gs_nil) rfl) rfl) rfl rfl) (fun _ _ _ _ _ => bs_nil) (fun _ _ _ _ _ => w_callP h_is_from hr (by decide) rfl L2.takes0 (w_cons (w_var (i := 2) rfl (.inl rfl) rfl rfl) (w_cons (w_int) (w_cons (w_var (i := 3) rfl (.inl rfl) rfl rfl) (w_nil) rfl) rfl) rfl) rfl rfl rfl) (fun _ => rfl)) (w_nil) rfl) rfl rfl))
      (s_nil))
abbrev s_is_state : Stmt := top 40
theorem sc_is_state : FnScope ["book", "thing", "hushes", "hush"] ["book", "thing"] (defScope s_is_state) := ⟨rfl, rfl, rfl, by decide +kernel, rfl, by decide +kernel, by decide +kernel⟩
theorem ok_is_state (G : Glo K mg) {dvs : List V} {kws : List (Str × V)} {f : Addr} {fd : FuncData} (h_is_from : CallF (tab K) P w K mg base 2 "is_from" f_is_from) (h_are_values : CallF (tab K) P w K mg base 3 "are_values" f_are_values) (Fd : FunD K "is_state" "is_state" (defArgs s_is_state) (defBody s_is_state) (defScope s_is_state) dvs kws f fd) : FnOk P w K mg base (L2.CX P w) 4 f fd ["book", "thing"] (spW (tab K) K 2 f_is_state) := by
  have nd := (sc_is_state).nd
  refine fnW_ok (k := 3) Fd sc_is_state fun cdv A outer s H E hr => ?_
  have tk := takes_of (X := cxOf (L2.CX P w) P w K mg base ["book", "thing", "hushes", "hush"] "is_state" (defScope s_is_state) f cdv A outer s H E) (E := E) rfl rfl rfl rfl
  exact s_cons (s_if (L2.PW.pt (b_or (b_not (b_test (w_isTuple rfl G.b_isinstance rfl G.b_tuple (w_var (i := 1) rfl (.inl rfl) rfl rfl) rfl rfl rfl) (fun _ => rfl))) (b_or (b_cmp hr (w_len rfl G.b_len (w_cons (w_var (i := 1) rfl (.inl rfl) rfl rfl) (w_nil) rfl) rfl rfl) (w_int) rfl) (b_or1 (b_not (b_test (w_callP h_are_values hr (by decide) rfl tk (w_cons (w_var (i := 0) rfl (.inl rfl) rfl rfl) (w_cons (w_idx (w_var (i := 1) rfl (.inl rfl) rfl rfl) (w_int) (fun _ _ => rfl)) (w_nil) rfl) rfl) rfl rfl rfl) (fun _ => rfl))))))) (s_cons (s_ret (w_bl))
      (s_nil)) (s_nil))
      (s_cons (s_set (i := 2) nd rfl (.inl rfl) (w_idx (w_var (i := 1) rfl (.inl rfl) rfl rfl) (w_int) (fun _ _ => rfl)) rfl (.inl rfl))
      (s_cons (s_if (L2.PW.pt (b_or (b_not (b_test (w_isTuple rfl G.b_isinstance rfl G.b_tuple (w_var (i := 2) rfl (.inl rfl) rfl rfl) rfl rfl rfl) (fun _ => rfl))) (b_or1 (b_cmp hr (w_len rfl G.b_len (w_cons (w_var (i := 2) rfl (.inl rfl) rfl rfl) (w_nil) rfl) rfl rfl) (w_len rfl G.b_len (w_cons (w_fld fldN (Nat.le_of_ble_eq_true rfl) rfl G.k_Book G.n_Book_rules (w_var (i := 0) rfl (.inl rfl) rfl rfl) rfl) (w_nil) rfl) rfl rfl) rfl)))) (s_cons (s_ret (w_bl))
      (s_nil)) (s_nil))
      (s_cons (s_ret (w_all rfl rfl G.b_all (w_cons (w_lc (mt := false) rfl nd (i_seq (w_var (i := 2) rfl (.inl rfl) rfl rfl)) (blkOk_by (own := [("hush", 3)]) (by kernel_rfl)) rfl rfl (fun _ _ _ _ _ => g_name (i := 3) nd rfl (.inl rfl) (.inr rfl)) (fun _ _ _ _ _ => bs_nil) (fun _ _ _ _ _ => w_callP h_is_from hr (by decide) rfl L2.takes0 (w_cons (w_var (i := 3) rfl (.inl rfl) rfl rfl) (w_cons (w_int) (w_cons (w_globW rfl G.c_MOST_HUSHED rfl) (w_nil) rfl) rfl) rfl) rfl rfl rfl) (fun _ => rfl)) (w_nil) rfl) rfl rfl))
      (s_nil))))
abbrev s_look_state : Stmt := top 41
theorem sc_look_state : FnScope ["book", "thing"] ["book", "thing"] (defScope s_look_state) := ⟨rfl, rfl, rfl, by decide +kernel, rfl, by decide +kernel, by decide +kernel⟩
theorem ok_look_state (G : Glo K mg) {dvs : List V} {kws : List (Str × V)} {f : Addr} {fd : FuncData} (h_is_state : CallF (tab K) P w K mg base 4 "is_state" f_is_state) (Fd : FunD K "look_state" "look_state" (defArgs s_look_state) (defBody s_look_state) (defScope s_look_state) dvs kws f fd) : FnOk P w K mg base (L2.CX P w) 5 f fd ["book", "thing"] (spW (tab K) K 2 f_look_state) := by
  have nd := (sc_look_state).nd
  refine fnW_ok (k := 4) Fd sc_look_state fun cdv A outer s H E hr => ?_
  have tk := takes_of (X := cxOf (L2.CX P w) P w K mg base ["book", "thing"] "look_state" (defScope s_look_state) f cdv A outer s H E) (E := E) rfl rfl rfl rfl
  exact s_cons (s_if (b_not (b_test (w_callP h_is_state hr (by decide) rfl tk (w_cons (w_var (i := 0) rfl (.inl rfl) rfl rfl) (w_cons (w_var (i := 1) rfl (.inl rfl) rfl rfl) (w_nil) rfl) rfl) rfl rfl rfl) (fun _ => rfl))) (s_cons (s_never)
      (s_nil)) (s_nil))
      (s_nil)
abbrev s_look_rule : Stmt := top 43
theorem sc_look_rule : FnScope ["book", "rule"] ["book", "rule"] (defScope s_look_rule) := ⟨rfl, rfl, rfl, by decide +kernel, rfl, by decide +kernel, by decide +kernel⟩
theorem ok_look_rule (G : Glo K mg) {dvs : List V} {kws : List (Str × V)} {f : Addr} {fd : FuncData} (h_is_from : CallF (tab K) P w K mg base 2 "is_from" f_is_from) (Fd : FunD K "look_rule" "look_rule" (defArgs s_look_rule) (defBody s_look_rule) (defScope s_look_rule) dvs kws f fd) : FnOk P w K mg base (L2.CX P w) 3 f fd ["book", "rule"] (spW (tab K) K 2 f_look_rule) := by
  have nd := (sc_look_rule).nd
  refine fnW_ok (k := 2) Fd sc_look_rule fun cdv A outer s H E hr => ?_
  have tk := takes_of (X := cxOf (L2.CX P w) P w K mg base ["book", "rule"] "look_rule" (defScope s_look_rule) f cdv A outer s H E) (E := E) rfl rfl rfl rfl
  exact s_cons (s_if (b_not (b_test (w_callP h_is_from hr (by decide) rfl tk (w_cons (w_var (i := 1) rfl (.inl rfl) rfl rfl) (w_cons (w_int) (w_cons (w_len rfl G.b_len (w_cons (w_fld fldN (Nat.le_of_ble_eq_true rfl) rfl G.k_Book G.n_Book_rules (w_var (i := 0) rfl (.inl rfl) rfl rfl) rfl) (w_nil) rfl) rfl rfl) (w_nil) rfl) rfl) rfl) rfl rfl rfl) (fun _ => rfl))) (s_cons (s_never)
      (s_nil)) (s_nil))
      (s_nil)
abbrev s_is_so : Stmt := top 44
theorem sc_is_so : FnScope ["condition", "values", "hushes", "word", "number", "place"] ["condition", "values", "hushes"] (defScope s_is_so) := ⟨rfl, rfl, rfl, by decide +kernel, rfl, by decide +kernel, by decide +kernel⟩
theorem ok_is_so (G : Glo K mg) {dvs : List V} {kws : List (Str × V)} {f : Addr} {fd : FuncData} (Fd : FunD K "is_so" "is_so" (defArgs s_is_so) (defBody s_is_so) (defScope s_is_so) dvs kws f fd) : FnOk P w K mg base (L2.CX P w) 1 f fd ["condition", "values", "hushes"] (spW (tab K) K 3 f_is_so) := by
  have nd := (sc_is_so).nd
  refine fnW_ok (k := 0) Fd sc_is_so fun cdv A outer s H E hr => ?_
  have tk := takes_of (X := cxOf (L2.CX P w) P w K mg base ["condition", "values", "hushes", "word", "number", "place"] "is_so" (defScope s_is_so) f cdv A outer s H E) (E := E) rfl rfl rfl rfl
  exact s_cons (s_asg (w_var (i := 0) rfl (.inl rfl) rfl rfl) (g_star rfl (gs_name (i := 3) nd rfl (.inl rfl) (.inl rfl) (gs_name (i := 4) nd rfl (.inl rfl) (.inl rfl) (gs_star (i := 5) nd rfl (.inl rfl) (.inl rfl) rfl) rfl) rfl) rfl rfl) rfl rfl rfl)
      (s_cons (s_if (b_cmp hr (w_var (i := 3) rfl (.inl rfl) rfl rfl) (w_str) rfl) (s_cons (s_ret (w_cmp hr (w_idx (w_var (i := 2) rfl (.inl rfl) rfl rfl) (w_var (i := 4) rfl (.inl rfl) rfl rfl) (fun _ _ => rfl)) (w_int) rfl))
      (s_nil)) (s_nil))
      (s_cons (s_if (b_cmp hr (w_var (i := 3) rfl (.inl rfl) rfl rfl) (w_str) rfl) (s_cons (s_ret (w_cmp hr (w_idx (w_var (i := 2) rfl (.inl rfl) rfl rfl) (w_var (i := 4) rfl (.inl rfl) rfl rfl) (fun _ _ => rfl)) (w_int) rfl))
      (s_nil)) (s_nil))
      (s_cons (s_if (b_cmp hr (w_var (i := 3) rfl (.inl rfl) rfl rfl) (w_str) rfl) (s_cons (s_ret (w_cmp hr (w_idx (w_var (i := 1) rfl (.inl rfl) rfl rfl) (w_var (i := 4) rfl (.inl rfl) rfl rfl) (fun _ _ => rfl)) (w_idx (w_var (i := 5) rfl (.inl rfl) rfl rfl) (w_int) (fun _ _ => rfl)) rfl))
      (s_nil)) (s_nil))
      (s_cons (s_ret (w_cmp hr (w_cmp hr (w_idx (w_var (i := 1) rfl (.inl rfl) rfl rfl) (w_var (i := 4) rfl (.inl rfl) rfl rfl) (fun _ _ => rfl)) (w_idx (w_var (i := 5) rfl (.inl rfl) rfl rfl) (w_int) (fun _ _ => rfl)) rfl) (w_cmp hr (w_var (i := 3) rfl (.inl rfl) rfl rfl) (w_str) rfl) rfl))
      (s_nil)))))
abbrev s_would_do : Stmt := top 45
theorem sc_would_do : FnScope ["book", "rule", "values", "hushes", "condition"] ["book", "rule", "values", "hushes"] (defScope s_would_do) := ⟨rfl, rfl, rfl, by decide +kernel, rfl, by decide +kernel, by decide +kernel⟩
theorem ok_would_do (G : Glo K mg) {dvs : List V} {kws : List (Str × V)} {f : Addr} {fd : FuncData} (h_is_so : CallF (tab K) P w K mg base 1 "is_so" f_is_so) (Fd : FunD K "would_do" "would_do" (defArgs s_would_do) (defBody s_would_do) (defScope s_would_do) dvs kws f fd) : FnOk P w K mg base (L2.CX P w) 2 f fd ["book", "rule", "values", "hushes"] (spW (tab K) K 4 f_would_do) := by
  have nd := (sc_would_do).nd
  refine fnW_ok (k := 1) Fd sc_would_do fun cdv A outer s H E hr => ?_
  have tk := takes_of (X := cxOf (L2.CX P w) P w K mg base ["book", "rule", "values", "hushes", "condition"] "would_do" (defScope s_would_do) f cdv A outer s H E) (E := E) rfl rfl rfl rfl
  exact s_cons (s_ret (w_and (w_cmp hr (w_idx (w_var (i := 3) rfl (.inr (.inl rfl)) rfl rfl) (w_var (i := 1) rfl (.inl rfl) rfl rfl) (fun _ _ => rfl)) (w_int) rfl) (one (w_all rfl rfl G.b_all (w_cons (w_lc (mt := false) rfl nd (i_seq (w_idx (w_idx (w_fld fldN (Nat.le_of_ble_eq_true rfl) rfl G.k_Book G.n_Book_rules (w_var (i := 0) rfl (.inl rfl) rfl rfl) rfl) (w_var (i := 1) rfl (.inl rfl) rfl rfl) (fun _ _ => rfl)) (w_int) (fun _ _ => rfl))) (blkOk_by (own := [("condition", 4)]) (by kernel_rfl)) rfl rfl (fun _ _ _ _ _ => g_name (i := 4) nd rfl (.inl rfl) (.inr rfl)) (fun _ _ _ _ _ => bs_nil) (fun _ _ _ _ _ => w_callP h_is_so hr (by decide) rfl L2.takes0 (w_cons (w_var (i := 4) rfl (.inl rfl) rfl rfl) (w_cons (w_var (i := 2) rfl (.inr (.inl rfl)) rfl rfl) (w_cons (w_var (i := 3) rfl (.inr (.inl rfl)) rfl rfl) (w_nil) rfl) rfl) rfl) rfl rfl rfl) (fun _ => rfl)) (w_nil) rfl) rfl rfl))))
      (s_nil)
abbrev s_may_do : Stmt := top 46
theorem sc_may_do : FnScope ["book", "state", "rule"] ["book", "state", "rule"] (defScope s_may_do) := ⟨rfl, rfl, rfl, by decide +kernel, rfl, by decide +kernel, by decide +kernel⟩
theorem ok_may_do (G : Glo K mg) {dvs : List V} {kws : List (Str × V)} {f : Addr} {fd : FuncData} (h_would_do : CallF (tab K) P w K mg base 2 "would_do" f_would_do) (h_look_rule : CallF (tab K) P w K mg base 3 "look_rule" f_look_rule) (h_look_state : CallF (tab K) P w K mg base 5 "look_state" f_look_state) (Fd : FunD K "may_do" "may_do" (defArgs s_may_do) (defBody s_may_do) (defScope s_may_do) dvs kws f fd) : FnOk P w K mg base (L2.CX P w) 6 f fd ["book", "state", "rule"] (spW (tab K) K 3 f_may_do) := by
  have nd := (sc_may_do).nd
  refine fnW_ok (k := 5) Fd sc_may_do fun cdv A outer s H E hr => ?_
  have tk := takes_of (X := cxOf (L2.CX P w) P w K mg base ["book", "state", "rule"] "may_do" (defScope s_may_do) f cdv A outer s H E) (E := E) rfl rfl rfl rfl
  exact s_cons (s_expr (w_callP h_look_state hr (by decide) rfl tk (w_cons (w_var (i := 0) rfl (.inl rfl) rfl rfl) (w_cons (w_var (i := 1) rfl (.inl rfl) rfl rfl) (w_nil) rfl) rfl) rfl rfl rfl) rfl)
      (s_cons (s_expr (w_callP h_look_rule hr (by decide) rfl tk (w_cons (w_var (i := 0) rfl (.inl rfl) rfl rfl) (w_cons (w_var (i := 2) rfl (.inl rfl) rfl rfl) (w_nil) rfl) rfl) rfl rfl rfl) rfl)
      (s_cons (s_ret (w_callP h_would_do hr (by decide) rfl tk (w_cons (w_var (i := 0) rfl (.inl rfl) rfl rfl) (w_cons (w_var (i := 2) rfl (.inl rfl) rfl rfl) (w_cons (w_list rfl G.b_list (w_cons (w_idx (w_var (i := 1) rfl (.inl rfl) rfl rfl) (w_int) (fun _ _ => rfl)) (w_nil) rfl) rfl rfl) (w_cons (w_list rfl G.b_list (w_cons (w_idx (w_var (i := 1) rfl (.inl rfl) rfl rfl) (w_int) (fun _ _ => rfl)) (w_nil) rfl) rfl rfl) (w_nil) rfl) rfl) rfl) rfl) rfl rfl rfl))
      (s_nil)))
abbrev s__law_told : Stmt := top 50
theorem sc__law_told : FnScope ["_law_wheels", "_law_tests", "_law_values", "_law_hushes", "_law_book", "_law_number", "_law_test"] ["_law_wheels", "_law_tests", "_law_values", "_law_hushes"] (defScope s__law_told) := ⟨rfl, rfl, rfl, by decide +kernel, rfl, by decide +kernel, by decide +kernel⟩
theorem ok__law_told (G : Glo K mg) {dvs : List V} {kws : List (Str × V)} {f : Addr} {fd : FuncData} (h_may_do : CallF (tab K) P w K mg base 6 "may_do" f_may_do) (h_new_Book : MakeF (tab K) P w K mg base 7 "Book" 0 f_Book___init__) (Fd : FunD K "_law_told" "_law_told" (defArgs s__law_told) (defBody s__law_told) (defScope s__law_told) dvs kws f fd) : FnOk P w K mg base (L2.CX P w) 9 f fd ["_law_wheels", "_law_tests", "_law_values", "_law_hushes"] (spW (tab K) K 4 f__law_told) := by
  have nd := (sc__law_told).nd
  refine fnW_ok (k := 8) Fd sc__law_told fun cdv A outer s H E hr => ?_
  have tk := takes_of (X := cxOf (L2.CX P w) P w K mg base ["_law_wheels", "_law_tests", "_law_values", "_law_hushes", "_law_book", "_law_number", "_law_test"] "_law_told" (defScope s__law_told) f cdv A outer s H E) (E := E) rfl rfl rfl rfl
  exact s_cons (s_set (i := 4) nd rfl (.inr rfl) (w_make h_new_Book hr (by decide) rfl tk (w_cons (w_var (i := 0) rfl (.inl rfl) rfl rfl) (w_cons (w_tuple rfl G.b_tuple (w_cons (w_lc (mt := false) rfl nd (i_seq (w_var (i := 1) rfl (.inl rfl) rfl rfl)) (blkOk_by (own := [("_law_test", 6)]) (by kernel_rfl)) rfl rfl (fun _ _ _ _ _ => g_name (i := 6) nd rfl (.inl rfl) (.inr rfl)) (fun _ _ _ _ _ => bs_nil) (fun _ _ _ _ _ => w_tup (w_cons (w_var (i := 6) rfl (.inl rfl) rfl rfl) (w_cons (w_tup (w_nil)) (w_cons (w_tup (w_nil)) (w_cons (w_tup (w_nil)) (w_nil) rfl) rfl) rfl) rfl)) (fun _ => rfl)) (w_nil) rfl) rfl rfl) (w_nil) rfl) rfl) rfl rfl rfl) rfl (.inl rfl))
      (s_cons (s_ret (w_lc (mt := false) rfl nd (i_range1 rfl G.b_range (w_len rfl G.b_len (w_cons (w_var (i := 1) rfl (.inl rfl) rfl rfl) (w_nil) rfl) rfl rfl) rfl) (blkOk_by (own := [("_law_number", 5)]) (by kernel_rfl)) rfl rfl (fun _ _ _ _ _ => g_name (i := 5) nd rfl (.inl rfl) (.inr rfl)) (fun _ _ _ _ _ => bs_nil) (fun _ _ _ _ _ => w_callP h_may_do hr (by decide) rfl L2.takes0 (w_cons (w_var (i := 4) rfl (.inr (.inl rfl)) rfl rfl) (w_cons (w_tup (w_cons (w_var (i := 2) rfl (.inr (.inl rfl)) rfl rfl) (w_cons (w_var (i := 3) rfl (.inr (.inl rfl)) rfl rfl) (w_nil) rfl) rfl)) (w_cons (w_var (i := 5) rfl (.inl rfl) rfl rfl) (w_nil) rfl) rfl) rfl) rfl rfl rfl) (fun _ => rfl)))
      (s_nil))
abbrev s_law : Stmt := top 51
theorem sc_law : FnScope ["_law_script", "_law_k", "_law_bag_here", "_law_wheels", "_law_wheel", "_law_other", "_law_place", "_law_hushed", "_law_stands", "_law_tests", "_law_due", "_law_values"] ["_law_script"] (defScope s_law) := ⟨rfl, rfl, rfl, by decide +kernel, rfl, by decide +kernel, by decide +kernel⟩
theorem ok_law (G : Glo K mg) {dvs : List V} {kws : List (Str × V)} {f : Addr} {fd : FuncData} (h__law_told : CallF (tab K) P w K mg base 9 "_law_told" f__law_told) (h__law_take : CallF (tab K) P w K mg base 1 "_law_take" f__law_take) (h__law_bag : CallF (tab K) P w K mg base 1 "_law_bag" f__law_bag) (Fd : FunD K "law" "law" (defArgs s_law) (defBody s_law) (defScope s_law) dvs kws f fd) : FnOk P w K mg base (L2.CX P w) 10 f fd ["_law_script"] (spW (tab K) K 1 f_law) := by
  have nd := (sc_law).nd
  refine fnW_ok (k := 9) Fd sc_law fun cdv A outer s H E hr => ?_
  have tk := takes_of (X := cxOf (L2.CX P w) P w K mg base ["_law_script", "_law_k", "_law_bag_here", "_law_wheels", "_law_wheel", "_law_other", "_law_place", "_law_hushed", "_law_stands", "_law_tests", "_law_due", "_law_values"] "law" (defScope s_law) f cdv A outer s H E) (E := E) rfl rfl rfl rfl
  exact s_cons (s_for (passes_of rfl) rfl (i_range1 rfl G.b_range (w_max rfl rfl G.b_max (w_cons (w_int) (w_cons (w_min rfl rfl G.b_min (w_cons (w_int) (w_cons (w_len rfl G.b_len (w_cons (w_var (i := 0) rfl (.inl rfl) rfl rfl) (w_nil) rfl) rfl rfl) (w_nil) rfl) rfl) rfl rfl) (w_nil) rfl) rfl) rfl rfl) rfl) (g_name (i := 1) nd rfl (.inl rfl) (.inl rfl)) (s_cons (s_set (i := 2) nd rfl (.inl rfl) (w_call h__law_bag hr (by decide) rfl tk (w_cons (w_var (i := 0) rfl (.inl rfl) rfl rfl) (w_cons (w_var (i := 1) rfl (.inl rfl) rfl rfl) (w_nil) rfl) rfl) rfl rfl rfl) rfl (.inl rfl))
      (s_cons (s_par2 rfl nd rfl rfl (by decide) rfl rfl (w_cons (w_tup (w_cons (w_bin (w_int) (w_call h__law_take hr (by decide) rfl tk (w_cons (w_var (i := 2) rfl (.inl rfl) rfl rfl) (w_cons (w_int) (w_nil) rfl) rfl) rfl rfl rfl)) (w_cons (w_bin (w_int) (w_call h__law_take hr (by decide) rfl tk (w_cons (w_var (i := 2) rfl (.inl rfl) rfl rfl) (w_cons (w_int) (w_nil) rfl) rfl) rfl rfl rfl)) (w_nil) rfl) rfl)) (w_cons (w_call h__law_take hr (by decide) rfl tk (w_cons (w_var (i := 2) rfl (.inl rfl) rfl rfl) (w_cons (w_int) (w_nil) rfl) rfl) rfl rfl rfl) (w_nil) rfl) rfl) rfl rfl)
      (s_cons (s_set (i := 5) nd rfl (.inl rfl) (w_call h__law_take hr (by decide) rfl tk (w_cons (w_var (i := 2) rfl (.inl rfl) rfl rfl) (w_cons (w_idx (w_var (i := 3) rfl (.inl rfl) rfl rfl) (w_bin (w_int) (w_var (i := 4) rfl (.inl rfl) rfl rfl)) (fun _ _ => rfl)) (w_nil) rfl) rfl) rfl rfl rfl) rfl (.inl rfl))
      (s_cons (s_frame (s_for (passes_of rfl) rfl (i_range1 rfl G.b_range (w_idx (w_var (i := 3) rfl (.inl rfl) rfl rfl) (w_var (i := 4) rfl (.inl rfl) rfl rfl) (fun _ _ => rfl)) rfl) (g_name (i := 6) nd rfl (.inl rfl) (.inl rfl)) (s_cons (s_for (passes_of rfl) rfl (i_range1 rfl G.b_range (w_idx (w_var (i := 3) rfl (.inl rfl) rfl rfl) (w_var (i := 4) rfl (.inl rfl) rfl rfl) (fun _ _ => rfl)) rfl) (g_name (i := 8) nd rfl (.inl rfl) (.inl rfl)) (s_cons (s_set (i := 11) nd rfl (.inl rfl) (w_ifx (b_cmp hr (w_var (i := 4) rfl (.inl rfl) rfl rfl) (w_int) rfl) (w_tup (w_cons (w_var (i := 8) rfl (.inl rfl) rfl rfl) (w_cons (w_var (i := 5) rfl (.inl rfl) rfl rfl) (w_nil) rfl) rfl)) (w_tup (w_cons (w_var (i := 5) rfl (.inl rfl) rfl rfl) (w_cons (w_var (i := 8) rfl (.inl rfl) rfl rfl) (w_nil) rfl) rfl))) rfl (.inl rfl))
      (s_cons (s_set (i := 9) nd rfl (.inl rfl) (w_nlst (w_cons (w_tup (w_cons (w_tup (w_cons (w_str) (w_cons (w_var (i := 4) rfl (.inl rfl) rfl rfl) (w_cons (w_var (i := 6) rfl (.inl rfl) rfl rfl) (w_nil) rfl) rfl) rfl)) (w_nil) rfl)) (w_cons (w_tup (w_cons (w_tup (w_cons (w_str) (w_cons (w_var (i := 4) rfl (.inl rfl) rfl rfl) (w_cons (w_var (i := 6) rfl (.inl rfl) rfl rfl) (w_nil) rfl) rfl) rfl)) (w_nil) rfl)) (w_cons (w_tup (w_cons (w_tup (w_cons (w_str) (w_cons (w_var (i := 4) rfl (.inl rfl) rfl rfl) (w_cons (w_var (i := 6) rfl (.inl rfl) rfl rfl) (w_nil) rfl) rfl) rfl)) (w_nil) rfl)) (w_cons (w_tup (w_nil)) (w_nil) rfl) rfl) rfl) rfl)) rfl (.inl rfl))
      (s_cons (s_expr (w_app (w_var (i := 9) rfl (.inl rfl) rfl rfl) (w_tup (w_cons (w_tup (w_cons (w_str) (w_cons (w_var (i := 4) rfl (.inl rfl) rfl rfl) (w_cons (w_var (i := 6) rfl (.inl rfl) rfl rfl) (w_nil) rfl) rfl) rfl)) (w_cons (w_tup (w_cons (w_str) (w_cons (w_bin (w_int) (w_var (i := 4) rfl (.inl rfl) rfl rfl)) (w_cons (w_var (i := 5) rfl (.inl rfl) rfl rfl) (w_nil) rfl) rfl) rfl)) (w_nil) rfl) rfl)) rfl rfl rfl rfl rfl) rfl)
      (s_cons (s_set (i := 10) nd rfl (.inl rfl) (w_lst (w_cons (w_cmp hr (w_var (i := 8) rfl (.inl rfl) rfl rfl) (w_var (i := 6) rfl (.inl rfl) rfl rfl) rfl) (w_cons (w_cmp hr (w_var (i := 8) rfl (.inl rfl) rfl rfl) (w_var (i := 6) rfl (.inl rfl) rfl rfl) rfl) (w_cons (w_cmp hr (w_var (i := 8) rfl (.inl rfl) rfl rfl) (w_var (i := 6) rfl (.inl rfl) rfl rfl) rfl) (w_cons (w_bl) (w_cons (w_cmp hr (w_var (i := 8) rfl (.inl rfl) rfl rfl) (w_var (i := 6) rfl (.inl rfl) rfl rfl) rfl) (w_nil) rfl) rfl) rfl) rfl) rfl)) rfl (.inl rfl))
      (s_cons (s_if (b_cmp hr (w_callP h__law_told hr (by decide) rfl tk (w_cons (w_var (i := 3) rfl (.inl rfl) rfl rfl) (w_cons (w_frz (w_var (i := 9) rfl (.inl rfl) rfl rfl)) (w_cons (w_var (i := 11) rfl (.inl rfl) rfl rfl) (w_cons (w_bin (w_tup (w_cons (w_int) (w_nil) rfl)) (w_int)) (w_nil) rfl) rfl) rfl) rfl) rfl rfl rfl) (w_var (i := 10) rfl (.inl rfl) rfl rfl) rfl) (s_cons (s_ret (w_bl))
      (s_nil)) (s_nil))
      (s_cons (s_set (i := 10) nd rfl (.inl rfl) (w_lst (w_cons (w_idx (w_var (i := 10) rfl (.inl rfl) rfl rfl) (w_int) (fun _ _ => rfl)) (w_cons (w_bl) (w_cons (w_idx (w_var (i := 10) rfl (.inl rfl) rfl rfl) (w_int) (fun _ _ => rfl)) (w_cons (w_bl) (w_cons (w_idx (w_var (i := 10) rfl (.inl rfl) rfl rfl) (w_int) (fun _ _ => rfl)) (w_nil) rfl) rfl) rfl) rfl) rfl)) rfl (.inl rfl))
      (s_cons (s_for (passes_of rfl) rfl (i_seq (w_tup (w_cons (w_int) (w_cons (w_int) (w_nil) rfl) rfl))) (g_name (i := 7) nd rfl (.inl rfl) (.inl rfl)) (s_cons (s_if (b_cmp hr (w_callP h__law_told hr (by decide) rfl tk (w_cons (w_var (i := 3) rfl (.inl rfl) rfl rfl) (w_cons (w_frz (w_var (i := 9) rfl (.inl rfl) rfl rfl)) (w_cons (w_var (i := 11) rfl (.inl rfl) rfl rfl) (w_cons (w_tup (w_cons (w_int) (w_cons (w_var (i := 7) rfl (.inl rfl) rfl rfl) (w_cons (w_int) (w_cons (w_var (i := 7) rfl (.inl rfl) rfl rfl) (w_cons (w_int) (w_nil) rfl) rfl) rfl) rfl) rfl)) (w_nil) rfl) rfl) rfl) rfl) rfl rfl rfl) (w_var (i := 10) rfl (.inl rfl) rfl rfl) rfl) (s_cons (s_ret (w_bl))
      (s_nil)) (s_nil))
      (s_nil)) (fun _ => rfl))
      (s_nil)))))))) (fun _ => rfl))
      (s_nil)) (fun _ => rfl)))
      (s_cons (s_frame (s_for (passes_of rfl) rfl (i_seq (w_tup (w_cons (w_int) (w_cons (w_int) (w_cons (w_int) (w_nil) rfl) rfl) rfl))) (g_name (i := 7) nd rfl (.inl rfl) (.inl rfl)) (s_cons (s_set (i := 9) nd rfl (.inl rfl) (w_nlst (w_cons (w_tup (w_cons (w_tup (w_cons (w_str) (w_cons (w_int) (w_nil) rfl) rfl)) (w_nil) rfl)) (w_cons (w_tup (w_cons (w_tup (w_cons (w_str) (w_cons (w_int) (w_nil) rfl) rfl)) (w_nil) rfl)) (w_cons (w_tup (w_cons (w_tup (w_cons (w_str) (w_cons (w_int) (w_nil) rfl) rfl)) (w_cons (w_tup (w_cons (w_str) (w_cons (w_int) (w_nil) rfl) rfl)) (w_nil) rfl) rfl)) (w_cons (w_tup (w_cons (w_tup (w_cons (w_str) (w_cons (w_int) (w_nil) rfl) rfl)) (w_nil) rfl)) (w_cons (w_tup (w_nil)) (w_nil) rfl) rfl) rfl) rfl) rfl)) rfl (.inl rfl))
      (s_cons (s_set (i := 10) nd rfl (.inl rfl) (w_lst (w_cons (w_cmp hr (w_var (i := 7) rfl (.inl rfl) rfl rfl) (w_int) rfl) (w_cons (w_cmp hr (w_var (i := 7) rfl (.inl rfl) rfl rfl) (w_int) rfl) (w_cons (w_bl) (w_cons (w_bl) (w_cons (w_cmp hr (w_var (i := 7) rfl (.inl rfl) rfl rfl) (w_int) rfl) (w_nil) rfl) rfl) rfl) rfl) rfl)) rfl (.inl rfl))
      (s_cons (s_if (b_cmp hr (w_callP h__law_told hr (by decide) rfl tk (w_cons (w_var (i := 3) rfl (.inl rfl) rfl rfl) (w_cons (w_frz (w_var (i := 9) rfl (.inl rfl) rfl rfl)) (w_cons (w_tup (w_cons (w_int) (w_cons (w_int) (w_nil) rfl) rfl)) (w_cons (w_tup (w_cons (w_int) (w_cons (w_int) (w_cons (w_int) (w_cons (w_int) (w_cons (w_var (i := 7) rfl (.inl rfl) rfl rfl) (w_nil) rfl) rfl) rfl) rfl) rfl)) (w_nil) rfl) rfl) rfl) rfl) rfl rfl rfl) (w_var (i := 10) rfl (.inl rfl) rfl rfl) rfl) (s_cons (s_ret (w_bl))
      (s_nil)) (s_nil))
      (s_nil)))) (fun _ => rfl)))
      (s_nil)))))) (fun _ => rfl))
      (s_cons (s_ret (w_bl))
      (s_nil))
end
/-! ### the head -/
abbrev gp : List Str := []
def d__law_bag : He.DefD := ⟨("_law_bag", none), "_law_bag", "_law_bag", defArgs s__law_bag, defBody s__law_bag, defScope s__law_bag, [], []⟩
def d__law_take : He.DefD := ⟨("_law_take", none), "_law_take", "_law_take", defArgs s__law_take, defBody s__law_take, defScope s__law_take, [], []⟩
def d_is_row : He.DefD := ⟨("is_row", none), "is_row", "is_row", defArgs s_is_row, defBody s_is_row, defScope s_is_row, [], []⟩
def d_how_many : He.DefD := ⟨("how_many", none), "how_many", "how_many", defArgs s_how_many, defBody s_how_many, defScope s_how_many, [], []⟩
def d_is_whole : He.DefD := ⟨("is_whole", none), "is_whole", "is_whole", defArgs s_is_whole, defBody s_is_whole, defScope s_is_whole, [], []⟩
def d_is_from : He.DefD := ⟨("is_from", none), "is_from", "is_from", defArgs s_is_from, defBody s_is_from, defScope s_is_from, [], []⟩
def d_are_wheels : He.DefD := ⟨("are_wheels", none), "are_wheels", "are_wheels", defArgs s_are_wheels, defBody s_are_wheels, defScope s_are_wheels, [], []⟩
def d_are_rising : He.DefD := ⟨("are_rising", none), "are_rising", "are_rising", defArgs s_are_rising, defBody s_are_rising, defScope s_are_rising, [], []⟩
def d_is_hush : He.DefD := ⟨("is_hush", none), "is_hush", "is_hush", defArgs s_is_hush, defBody s_is_hush, defScope s_is_hush, [], []⟩
def d_are_hushes : He.DefD := ⟨("are_hushes", none), "are_hushes", "are_hushes", defArgs s_are_hushes, defBody s_are_hushes, defScope s_are_hushes, [], []⟩
def d_are_rules_numbers : He.DefD := ⟨("are_rules_numbers", none), "are_rules_numbers", "are_rules_numbers", defArgs s_are_rules_numbers, defBody s_are_rules_numbers, defScope s_are_rules_numbers, [], []⟩
def d_is_worded : He.DefD := ⟨("is_worded", none), "is_worded", "is_worded", defArgs s_is_worded, defBody s_is_worded, defScope s_is_worded, [], []⟩
def d_is_placed : He.DefD := ⟨("is_placed", none), "is_placed", "is_placed", defArgs s_is_placed, defBody s_is_placed, defScope s_is_placed, [], []⟩
def d_is_condition : He.DefD := ⟨("is_condition", none), "is_condition", "is_condition", defArgs s_is_condition, defBody s_is_condition, defScope s_is_condition, [], []⟩
def d_is_rule : He.DefD := ⟨("is_rule", none), "is_rule", "is_rule", defArgs s_is_rule, defBody s_is_rule, defScope s_is_rule, [], []⟩
def d_look_book : He.DefD := ⟨("look_book", none), "look_book", "look_book", defArgs s_look_book, defBody s_look_book, defScope s_look_book, [], []⟩
def d_Book___init__ : He.DefD := ⟨("Book", some "__init__"), "__init__", "Book.__init__", defArgs s_Book___init__, defBody s_Book___init__, defScope s_Book___init__, [.adr (He.dflAt ("Book", some "__init__") 0)], []⟩
def d_are_values : He.DefD := ⟨("are_values", none), "are_values", "are_values", defArgs s_are_values, defBody s_are_values, defScope s_are_values, [], []⟩
def d_is_state : He.DefD := ⟨("is_state", none), "is_state", "is_state", defArgs s_is_state, defBody s_is_state, defScope s_is_state, [], []⟩
def d_look_state : He.DefD := ⟨("look_state", none), "look_state", "look_state", defArgs s_look_state, defBody s_look_state, defScope s_look_state, [], []⟩
def d_look_rule : He.DefD := ⟨("look_rule", none), "look_rule", "look_rule", defArgs s_look_rule, defBody s_look_rule, defScope s_look_rule, [], []⟩
def d_is_so : He.DefD := ⟨("is_so", none), "is_so", "is_so", defArgs s_is_so, defBody s_is_so, defScope s_is_so, [], []⟩
def d_would_do : He.DefD := ⟨("would_do", none), "would_do", "would_do", defArgs s_would_do, defBody s_would_do, defScope s_would_do, [], []⟩
def d_may_do : He.DefD := ⟨("may_do", none), "may_do", "may_do", defArgs s_may_do, defBody s_may_do, defScope s_may_do, [], []⟩
def d__law_told : He.DefD := ⟨("_law_told", none), "_law_told", "_law_told", defArgs s__law_told, defBody s__law_told, defScope s__law_told, [], []⟩
def d_law : He.DefD := ⟨("law", none), "law", "law", defArgs s_law, defBody s_law, defScope s_law, [], []⟩
def fn : List He.DefD := [d__law_bag, d__law_take, d_is_row, d_how_many, d_is_whole, d_is_from, d_are_wheels, d_are_rising, d_is_hush, d_are_hushes, d_are_rules_numbers, d_is_worded, d_is_placed, d_is_condition, d_is_rule, d_look_book, d_Book___init__, d_are_values, d_is_state, d_look_state, d_look_rule, d_is_so, d_would_do, d_may_do, d__law_told, d_law]
def fa : List He.Fa := [.free "abs", .free "len", .free "isinstance", .free "tuple", .free "bool", .free "int", .free "all", .free "zip", .free "str", .free "any", .free "enumerate", .free "list", .free "range", .free "min", .free "max", .int "MOST_BEGINNINGS" 24, .int "MOST_PLACES" 4, .int "LEAST_PLACES" 2, .int "MOST_WHEELS" 3, .int "MOST_HUSHED" 3, .glo "PLACED", .glo "RULED", .glo "CHANGES", .int "MOST_CHANGES" 3, .int "MOST_CONDITIONS" 4, .int "PARTS" 4, .int "MOST_RULES" 5, .cls "Book", .noat "Book" "rules", .noat "Book" "wheels", .glo "_law_bag", .glo "_law_take", .glo "is_row", .glo "how_many", .glo "is_whole", .glo "is_from", .glo "are_wheels", .glo "are_rising", .glo "is_hush", .glo "are_hushes", .glo "are_rules_numbers", .glo "is_worded", .glo "is_placed", .glo "is_condition", .glo "is_rule", .glo "look_book", .glo "Book", .mkr "Book", .glo "are_values", .glo "is_state", .glo "look_state", .glo "look_rule", .glo "is_so", .glo "would_do", .glo "may_do", .glo "_law_told", .glo "law"]
def ex (K : PySem.W.Frag) : Bool := He.tupB K "PLACED" ((["is", "not", "below"] : List Str).map He.Dv.str) && (He.tupB K "RULED" ((["hushed", "awake"] : List Str).map He.Dv.str) && (He.tupB K "CHANGES" ((["put", "turn"] : List Str).map He.Dv.str)))
/-- THE PLAIN LAW -/
def Plain : Prop := ∀ ns : List Int, ns.length ≤ 63 → ∃ S, f_law [.lst (ns.map W.int)] [] = .ok (.bl true) S
theorem facts (hp : Plain) {P : Program} {w : World} {K : PySem.W.Frag} {h : Heap} {mg : Str → Option Value} {f : Addr} (X : K.In h) (G : h.Ns mainGlobals mg) (hfa : mg ("law" : Str) = some (.ref f)) (c : He.SaysD fa fn K) (hex : ex K = true) :
    ∃ fd : FuncData, (∀ (s : Shared) (v : Value), BindsTo s fd ⟨[v], []⟩ [("_law_script", v)]) ∧ ∀ base : Heap, K.In base → base.Ns mainGlobals mg → FnOk P w K mg base (L2.CX P w) 10 f fd ["_law_script"] (spLaw K) := by
  obtain ⟨e0, r0⟩ := He.ba hex
  obtain ⟨e1, r1⟩ := He.ba r0
  have e2 := r1
  obtain ⟨fd__law_bag, F__law_bag⟩ := c.def_ 0 (d := d__law_bag) rfl
  obtain ⟨fd__law_take, F__law_take⟩ := c.def_ 1 (d := d__law_take) rfl
  obtain ⟨fd_is_row, F_is_row⟩ := c.def_ 2 (d := d_is_row) rfl
  obtain ⟨fd_how_many, F_how_many⟩ := c.def_ 3 (d := d_how_many) rfl
  obtain ⟨fd_is_whole, F_is_whole⟩ := c.def_ 4 (d := d_is_whole) rfl
  obtain ⟨fd_is_from, F_is_from⟩ := c.def_ 5 (d := d_is_from) rfl
  obtain ⟨fd_are_wheels, F_are_wheels⟩ := c.def_ 6 (d := d_are_wheels) rfl
  obtain ⟨fd_are_rising, F_are_rising⟩ := c.def_ 7 (d := d_are_rising) rfl
  obtain ⟨fd_is_hush, F_is_hush⟩ := c.def_ 8 (d := d_is_hush) rfl
  obtain ⟨fd_are_hushes, F_are_hushes⟩ := c.def_ 9 (d := d_are_hushes) rfl
  obtain ⟨fd_are_rules_numbers, F_are_rules_numbers⟩ := c.def_ 10 (d := d_are_rules_numbers) rfl
  obtain ⟨fd_is_worded, F_is_worded⟩ := c.def_ 11 (d := d_is_worded) rfl
  obtain ⟨fd_is_placed, F_is_placed⟩ := c.def_ 12 (d := d_is_placed) rfl
  obtain ⟨fd_is_condition, F_is_condition⟩ := c.def_ 13 (d := d_is_condition) rfl
  obtain ⟨fd_is_rule, F_is_rule⟩ := c.def_ 14 (d := d_is_rule) rfl
  obtain ⟨fd_look_book, F_look_book⟩ := c.def_ 15 (d := d_look_book) rfl
  obtain ⟨fd_Book___init__, F_Book___init__⟩ := c.def_ 16 (d := d_Book___init__) rfl
  obtain ⟨fd_are_values, F_are_values⟩ := c.def_ 17 (d := d_are_values) rfl
  obtain ⟨fd_is_state, F_is_state⟩ := c.def_ 18 (d := d_is_state) rfl
  obtain ⟨fd_look_state, F_look_state⟩ := c.def_ 19 (d := d_look_state) rfl
  obtain ⟨fd_look_rule, F_look_rule⟩ := c.def_ 20 (d := d_look_rule) rfl
  obtain ⟨fd_is_so, F_is_so⟩ := c.def_ 21 (d := d_is_so) rfl
  obtain ⟨fd_would_do, F_would_do⟩ := c.def_ 22 (d := d_would_do) rfl
  obtain ⟨fd_may_do, F_may_do⟩ := c.def_ 23 (d := d_may_do) rfl
  obtain ⟨fd__law_told, F__law_told⟩ := c.def_ 24 (d := d__law_told) rfl
  obtain ⟨fd_law, F_law⟩ := c.def_ 25 (d := d_law) rfl
  have GG : Glo K mg := ⟨He.free_ok X G (c.fact 0 (f := .free "abs") rfl), He.free_ok X G (c.fact 1 (f := .free "len") rfl), He.free_ok X G (c.fact 2 (f := .free "isinstance") rfl), He.free_ok X G (c.fact 3 (f := .free "tuple") rfl), He.free_ok X G (c.fact 4 (f := .free "bool") rfl), He.free_ok X G (c.fact 5 (f := .free "int") rfl), He.free_ok X G (c.fact 6 (f := .free "all") rfl), He.free_ok X G (c.fact 7 (f := .free "zip") rfl), He.free_ok X G (c.fact 8 (f := .free "str") rfl), He.free_ok X G (c.fact 9 (f := .free "any") rfl), He.free_ok X G (c.fact 10 (f := .free "enumerate") rfl), He.free_ok X G (c.fact 11 (f := .free "list") rfl), He.free_ok X G (c.fact 12 (f := .free "range") rfl), He.free_ok X G (c.fact 13 (f := .free "min") rfl), He.free_ok X G (c.fact 14 (f := .free "max") rfl), gloW_int (He.int_ok X G (c.fact 15 (f := .int "MOST_BEGINNINGS" 24) rfl)), gloW_int (He.int_ok X G (c.fact 16 (f := .int "MOST_PLACES" 4) rfl)), gloW_int (He.int_ok X G (c.fact 17 (f := .int "LEAST_PLACES" 2) rfl)), gloW_int (He.int_ok X G (c.fact 18 (f := .int "MOST_WHEELS" 3) rfl)), gloW_int (He.int_ok X G (c.fact 19 (f := .int "MOST_HUSHED" 3) rfl)), gloW_strs (xs := ["is", "not", "below"]) (He.glo_ok X G (c.fact 20 (f := .glo "PLACED") rfl)) e0, gloW_strs (xs := ["hushed", "awake"]) (He.glo_ok X G (c.fact 21 (f := .glo "RULED") rfl)) e1, gloW_strs (xs := ["put", "turn"]) (He.glo_ok X G (c.fact 22 (f := .glo "CHANGES") rfl)) e2, gloW_int (He.int_ok X G (c.fact 23 (f := .int "MOST_CHANGES" 3) rfl)), gloW_int (He.int_ok X G (c.fact 24 (f := .int "MOST_CONDITIONS" 4) rfl)), gloW_int (He.int_ok X G (c.fact 25 (f := .int "PARTS" 4) rfl)), gloW_int (He.int_ok X G (c.fact 26 (f := .int "MOST_RULES" 5) rfl)), He.cls_ok (c.fact 27 (f := .cls "Book") rfl), He.noat_ok (c.fact 28 (f := .noat "Book" "rules") rfl), He.noat_ok (c.fact 29 (f := .noat "Book" "wheels") rfl)⟩
  have e := hfa.symm.trans (He.glo_ok X G (c.fact 56 (f := .glo "law") rfl))
  cases e
  have b := FunD.bindsA (ps := ["_law_script"]) F_law fun _ _ _ _ _ _ us hl => match us, hl with | [_], _ => rfl
  refine ⟨fd_law, fun s v => b s [v] rfl, fun base _ _ => ?_⟩
  have o__law_bag := ok__law_bag (P := P) (w := w) (base := base) GG  F__law_bag
  have h__law_bag : CallF (tab K) P w K mg base 1 "_law_bag" f__law_bag := callF_mk F__law_bag (He.glo_ok X G (c.fact 30 (f := .glo "_law_bag") rfl)) o__law_bag (fnW_takes _ _ _) (F__law_bag.bindsN (ps := ["_law_script", "_law_at"]) (fun _ _ _ _ _ _ us hl => match us, hl with | [_, _], _ => rfl))
  have o__law_take := ok__law_take (P := P) (w := w) (base := base) GG  F__law_take
  have h__law_take : CallF (tab K) P w K mg base 1 "_law_take" f__law_take := callF_mk F__law_take (He.glo_ok X G (c.fact 31 (f := .glo "_law_take") rfl)) o__law_take (fnW_takes _ _ _) (F__law_take.bindsN (ps := ["_law_bag_here", "_law_many"]) (fun _ _ _ _ _ _ us hl => match us, hl with | [_, _], _ => rfl))
  have o_is_row := ok_is_row (P := P) (w := w) (base := base) GG  F_is_row
  have h_is_row : CallF (tab K) P w K mg base 1 "is_row" f_is_row := callF_mk F_is_row (He.glo_ok X G (c.fact 32 (f := .glo "is_row") rfl)) o_is_row (fnW_takes _ _ _) (F_is_row.bindsN (ps := ["thing", "most"]) (fun _ _ _ _ _ _ us hl => match us, hl with | [_, _], _ => rfl))
  have o_how_many := ok_how_many (P := P) (w := w) (base := base) GG  F_how_many
  have h_how_many : CallF (tab K) P w K mg base 1 "how_many" f_how_many := callF_mk F_how_many (He.glo_ok X G (c.fact 33 (f := .glo "how_many") rfl)) o_how_many (fnW_takes _ _ _) (F_how_many.bindsN (ps := ["wheels"]) (fun _ _ _ _ _ _ us hl => match us, hl with | [_], _ => rfl))
  have o_is_whole := ok_is_whole (P := P) (w := w) (base := base) GG  F_is_whole
  have h_is_whole : CallF (tab K) P w K mg base 1 "is_whole" f_is_whole := callF_mk F_is_whole (He.glo_ok X G (c.fact 34 (f := .glo "is_whole") rfl)) o_is_whole (fnW_takes _ _ _) (F_is_whole.bindsN (ps := ["thing"]) (fun _ _ _ _ _ _ us hl => match us, hl with | [_], _ => rfl))
  have o_is_from := ok_is_from (P := P) (w := w) (base := base) GG h_is_whole F_is_from
  have h_is_from : CallF (tab K) P w K mg base 2 "is_from" f_is_from := callF_mk F_is_from (He.glo_ok X G (c.fact 35 (f := .glo "is_from") rfl)) o_is_from (fnW_takes _ _ _) (F_is_from.bindsN (ps := ["thing", "least", "below"]) (fun _ _ _ _ _ _ us hl => match us, hl with | [_, _, _], _ => rfl))
  have o_are_wheels := ok_are_wheels (P := P) (w := w) (base := base) GG h_how_many h_is_from h_is_row F_are_wheels
  have h_are_wheels : CallF (tab K) P w K mg base 3 "are_wheels" f_are_wheels := callF_mk F_are_wheels (He.glo_ok X G (c.fact 36 (f := .glo "are_wheels") rfl)) o_are_wheels (fnW_takes _ _ _) (F_are_wheels.bindsN (ps := ["thing"]) (fun _ _ _ _ _ _ us hl => match us, hl with | [_], _ => rfl))
  have o_are_rising := ok_are_rising (P := P) (w := w) (base := base) GG  F_are_rising
  have h_are_rising : CallF (tab K) P w K mg base 1 "are_rising" f_are_rising := callF_mk F_are_rising (He.glo_ok X G (c.fact 37 (f := .glo "are_rising") rfl)) o_are_rising (fnW_takes _ _ _) (F_are_rising.bindsN (ps := ["numbers"]) (fun _ _ _ _ _ _ us hl => match us, hl with | [_], _ => rfl))
  have o_is_hush := ok_is_hush (P := P) (w := w) (base := base) GG h_is_from F_is_hush
  have h_is_hush : CallF (tab K) P w K mg base 3 "is_hush" f_is_hush := callF_mk F_is_hush (He.glo_ok X G (c.fact 38 (f := .glo "is_hush") rfl)) o_is_hush (fnW_takes _ _ _) (F_is_hush.bindsN (ps := ["many", "thing"]) (fun _ _ _ _ _ _ us hl => match us, hl with | [_, _], _ => rfl))
  have o_are_hushes := ok_are_hushes (P := P) (w := w) (base := base) GG h_are_rising h_is_hush F_are_hushes
  have h_are_hushes : CallF (tab K) P w K mg base 4 "are_hushes" f_are_hushes := callF_mk F_are_hushes (He.glo_ok X G (c.fact 39 (f := .glo "are_hushes") rfl)) o_are_hushes (fnW_takes _ _ _) (F_are_hushes.bindsN (ps := ["many", "thing"]) (fun _ _ _ _ _ _ us hl => match us, hl with | [_, _], _ => rfl))
  have o_are_rules_numbers := ok_are_rules_numbers (P := P) (w := w) (base := base) GG h_are_rising h_is_from F_are_rules_numbers
  have h_are_rules_numbers : CallF (tab K) P w K mg base 3 "are_rules_numbers" f_are_rules_numbers := callF_mk F_are_rules_numbers (He.glo_ok X G (c.fact 40 (f := .glo "are_rules_numbers") rfl)) o_are_rules_numbers (fnW_takes _ _ _) (F_are_rules_numbers.bindsN (ps := ["thing", "many"]) (fun _ _ _ _ _ _ us hl => match us, hl with | [_, _], _ => rfl))
  have o_is_worded := ok_is_worded (P := P) (w := w) (base := base) GG  F_is_worded
  have h_is_worded : CallF (tab K) P w K mg base 1 "is_worded" f_is_worded := callF_mk F_is_worded (He.glo_ok X G (c.fact 41 (f := .glo "is_worded") rfl)) o_is_worded (fnW_takes _ _ _) (F_is_worded.bindsN (ps := ["thing", "words", "many"]) (fun _ _ _ _ _ _ us hl => match us, hl with | [_, _, _], _ => rfl))
  have o_is_placed := ok_is_placed (P := P) (w := w) (base := base) GG h_is_from h_is_worded F_is_placed
  have h_is_placed : CallF (tab K) P w K mg base 3 "is_placed" f_is_placed := callF_mk F_is_placed (He.glo_ok X G (c.fact 42 (f := .glo "is_placed") rfl)) o_is_placed (fnW_takes _ _ _) (F_is_placed.bindsN (ps := ["wheels", "thing", "words"]) (fun _ _ _ _ _ _ us hl => match us, hl with | [_, _, _], _ => rfl))
  have o_is_condition := ok_is_condition (P := P) (w := w) (base := base) GG h_is_placed h_is_worded h_is_from F_is_condition
  have h_is_condition : CallF (tab K) P w K mg base 4 "is_condition" f_is_condition := callF_mk F_is_condition (He.glo_ok X G (c.fact 43 (f := .glo "is_condition") rfl)) o_is_condition (fnW_takes _ _ _) (F_is_condition.bindsN (ps := ["wheels", "many", "thing"]) (fun _ _ _ _ _ _ us hl => match us, hl with | [_, _, _], _ => rfl))
  have o_is_rule := ok_is_rule (P := P) (w := w) (base := base) GG h_are_rules_numbers h_are_hushes h_is_placed h_is_row h_is_condition F_is_rule
  have h_is_rule : CallF (tab K) P w K mg base 5 "is_rule" f_is_rule := callF_mk F_is_rule (He.glo_ok X G (c.fact 44 (f := .glo "is_rule") rfl)) o_is_rule (fnW_takes _ _ _) (F_is_rule.bindsN (ps := ["wheels", "many", "thing"]) (fun _ _ _ _ _ _ us hl => match us, hl with | [_, _, _], _ => rfl))
  have o_look_book := ok_look_book (P := P) (w := w) (base := base) GG h_is_rule h_is_row h_are_wheels F_look_book
  have h_look_book : CallF (tab K) P w K mg base 6 "look_book" f_look_book := callF_mk F_look_book (He.glo_ok X G (c.fact 45 (f := .glo "look_book") rfl)) o_look_book (fnW_takes _ _ _) (F_look_book.bindsN (ps := ["wheels", "rules"]) (fun _ _ _ _ _ _ us hl => match us, hl with | [_, _], _ => rfl))
  have o_Book___init__ := ok_Book___init__ (P := P) (w := w) (base := base) GG h_look_book F_Book___init__
  have h_new_Book : MakeF (tab K) P w K mg base 7 "Book" 0 f_Book___init__ := makeF_mk (He.glo_ok X G (c.fact 46 (f := .glo "Book") rfl)) (He.mkr_ok (c.fact 47 (f := .mkr "Book") rfl)) o_Book___init__ (fnW_takes _ _ _) (binds_full (pn := ["self", "wheels", "rules"]) F_Book___init__ 3 (by simp [He.DefD.dvs, d_Book___init__]) rfl (fun _ _ _ _ _ _ _ us its hl hi => match us, hl, its, hi with | [_, _, _], _, [_], _ => ⟨_, rfl, rfl⟩))
  have o_are_values := ok_are_values (P := P) (w := w) (base := base) GG h_is_from F_are_values
  have h_are_values : CallF (tab K) P w K mg base 3 "are_values" f_are_values := callF_mk F_are_values (He.glo_ok X G (c.fact 48 (f := .glo "are_values") rfl)) o_are_values (fnW_takes _ _ _) (F_are_values.bindsN (ps := ["book", "thing"]) (fun _ _ _ _ _ _ us hl => match us, hl with | [_, _], _ => rfl))
  have o_is_state := ok_is_state (P := P) (w := w) (base := base) GG h_is_from h_are_values F_is_state
  have h_is_state : CallF (tab K) P w K mg base 4 "is_state" f_is_state := callF_mk F_is_state (He.glo_ok X G (c.fact 49 (f := .glo "is_state") rfl)) o_is_state (fnW_takes _ _ _) (F_is_state.bindsN (ps := ["book", "thing"]) (fun _ _ _ _ _ _ us hl => match us, hl with | [_, _], _ => rfl))
  have o_look_state := ok_look_state (P := P) (w := w) (base := base) GG h_is_state F_look_state
  have h_look_state : CallF (tab K) P w K mg base 5 "look_state" f_look_state := callF_mk F_look_state (He.glo_ok X G (c.fact 50 (f := .glo "look_state") rfl)) o_look_state (fnW_takes _ _ _) (F_look_state.bindsN (ps := ["book", "thing"]) (fun _ _ _ _ _ _ us hl => match us, hl with | [_, _], _ => rfl))
  have o_look_rule := ok_look_rule (P := P) (w := w) (base := base) GG h_is_from F_look_rule
  have h_look_rule : CallF (tab K) P w K mg base 3 "look_rule" f_look_rule := callF_mk F_look_rule (He.glo_ok X G (c.fact 51 (f := .glo "look_rule") rfl)) o_look_rule (fnW_takes _ _ _) (F_look_rule.bindsN (ps := ["book", "rule"]) (fun _ _ _ _ _ _ us hl => match us, hl with | [_, _], _ => rfl))
  have o_is_so := ok_is_so (P := P) (w := w) (base := base) GG  F_is_so
  have h_is_so : CallF (tab K) P w K mg base 1 "is_so" f_is_so := callF_mk F_is_so (He.glo_ok X G (c.fact 52 (f := .glo "is_so") rfl)) o_is_so (fnW_takes _ _ _) (F_is_so.bindsN (ps := ["condition", "values", "hushes"]) (fun _ _ _ _ _ _ us hl => match us, hl with | [_, _, _], _ => rfl))
  have o_would_do := ok_would_do (P := P) (w := w) (base := base) GG h_is_so F_would_do
  have h_would_do : CallF (tab K) P w K mg base 2 "would_do" f_would_do := callF_mk F_would_do (He.glo_ok X G (c.fact 53 (f := .glo "would_do") rfl)) o_would_do (fnW_takes _ _ _) (F_would_do.bindsN (ps := ["book", "rule", "values", "hushes"]) (fun _ _ _ _ _ _ us hl => match us, hl with | [_, _, _, _], _ => rfl))
  have o_may_do := ok_may_do (P := P) (w := w) (base := base) GG h_would_do h_look_rule h_look_state F_may_do
  have h_may_do : CallF (tab K) P w K mg base 6 "may_do" f_may_do := callF_mk F_may_do (He.glo_ok X G (c.fact 54 (f := .glo "may_do") rfl)) o_may_do (fnW_takes _ _ _) (F_may_do.bindsN (ps := ["book", "state", "rule"]) (fun _ _ _ _ _ _ us hl => match us, hl with | [_, _, _], _ => rfl))
  have o__law_told := ok__law_told (P := P) (w := w) (base := base) GG h_may_do h_new_Book F__law_told
  have h__law_told : CallF (tab K) P w K mg base 9 "_law_told" f__law_told := callF_mk F__law_told (He.glo_ok X G (c.fact 55 (f := .glo "_law_told") rfl)) o__law_told (fnW_takes _ _ _) (F__law_told.bindsN (ps := ["_law_wheels", "_law_tests", "_law_values", "_law_hushes"]) (fun _ _ _ _ _ _ us hl => match us, hl with | [_, _, _, _], _ => rfl))
  have o_law := ok_law (P := P) (w := w) (base := base) GG h__law_told h__law_take h__law_bag F_law
  exact law_end o_law hp
def loose0 : List Str := ["__name__", "HushError", "NoBook", "NoState", "NoRule", "NOTHING", "part_text", "words_of", "rule_text", "book_text", "MOST_WHEELS", "LEAST_PLACES", "MOST_PLACES", "MOST_BEGINNINGS", "MOST_RULES", "MOST_CONDITIONS", "MOST_CHANGES", "MOST_HUSHED", "PARTS", "PLACED", "RULED", "CHANGES", "is_whole", "is_from", "is_row", "are_rising", "how_many", "are_wheels", "is_worded", "is_placed"]
def loose1 : List Str := ["is_condition", "are_rules_numbers", "is_hush", "are_hushes", "is_rule", "look_book", "Book", "are_values", "is_state", "look_state", "look_rule", "is_so", "would_do", "may_do", "_law_bag", "_law_take", "_law_told"]
def loose : List Str := loose0 ++ loose1
abbrev Ro : PySem.W.OpenRow := PySem.W.OpenLaw.row PySem.Challenge.rw_hushrules_k10_conditions_one_by_one
abbrev hk : PySem.W.Hook := hookM 5 fa fn ex
def ob (s : PySem.W.SharedT) : He.AlD × Bool := obsM 5 fa fn ex (HandSHeadRun.getT s)
theorem ob_eq (s : PySem.W.SharedT) : ob s = hk.obs s.abs := obsM_eq (HandSHeadRun.getT_eq s)
theorem run (w : World) : HandSHeadRun.RunEq Ro (PySem.W.view Ro.prog [51]) hk ob 6000 loose w := by
  intro os
  kernel_rfl
end K10
open PySem PySem.W PySem.Calls PyProof.Rows in
theorem PySem.Challenge.held_hushrules_k10_conditions_one_by_one (hp : K10.Plain) : PySem.Challenge.rw_hushrules_k10_conditions_one_by_one.Holds := by
  w_on; o_law
  refine HandSHeadRun.head_any (r := OpenLaw.row PySem.Challenge.rw_hushrules_k10_conditions_one_by_one) (q := view (OpenLaw.row PySem.Challenge.rw_hushrules_k10_conditions_one_by_one).prog [51]) (H := K10.hk) (ob := K10.ob) (M := 6000) (loose := K10.loose) (d := HandSHeadRun.topDef (OpenLaw.row PySem.Challenge.rw_hushrules_k10_conditions_one_by_one).prog 51) (kwd := []) K10.ob_eq
    (by kernel_rfl) (fun s => by kernel_rfl) K10.run (by kernel_rfl) (by kernel_rfl) (by kernel_rfl) (by rfl) (by first | assumption | decide +kernel) (by decide +kernel) ⟨rfl, rfl, rfl, rfl, rfl, by decide +kernel⟩ ?hw ?hc
  case hw => w_witness2
  case hc =>
    refine DL.walk_end (l := PySem.Challenge.rw_hushrules_k10_conditions_one_by_one) (n := 63) (k := 10) (x := "_law_script") (CX := L2.CX (PySem.Challenge.rw_hushrules_k10_conditions_one_by_one).prog) rfl (by decide) (by kernel_rfl) ⟨rfl, by decide, by decide⟩ ?F (fun w => DL.noX)
    intro w mg fa h Y G hmg0
    obtain ⟨K, KX, c, hex⟩ := Y
    have hmg : mg ("law" : PySem.Str) = some (.ref fa) := by
      have e : (HandSHeadRun.topDef (OpenLaw.row PySem.Challenge.rw_hushrules_k10_conditions_one_by_one).prog 51).name = ("law" : PySem.Str) := by kernel_rfl
      rw [← e]
      exact hmg0
    obtain ⟨fd, hb, hF⟩ := K10.facts hp (P := (PySem.Challenge.rw_hushrules_k10_conditions_one_by_one).prog) (w := w) KX G hmg c hex
    exact ⟨K, fd, DL.spLaw K, KX, hb, fun H a ns hl _ hS => ⟨a, ns, rfl, hS, hl, fun _ => rfl⟩, hF⟩

namespace K10
open PySem DL
/-! ### the bag -/
theorem take_ok {S : Sto} {n : Nat} {g b c m : Int} (hS : S[n]? = some (.lst [.int g, .int b, .int c])) (hm : 0 < m) (hm2 : m < 1073741824) (hc : 0 ≤ c) (hc2 : c < 1000) :
    ∃ d g' b' c', 0 ≤ d ∧ d < m ∧ 0 ≤ c' ∧ c' ≤ c + 1 ∧ f__law_take [.loc n, .int m] S = .ok (.int d) (S.set n (.lst [.int g', .int b', .int c'])) := by
  have hl : n < S.length := (List.getElem?_eq_some_iff.mp hS).1
  by_cases hg : 0 < g
  · refine ⟨g % m, g / m, b, c, Int.emod_nonneg _ (by omega), Int.emod_lt_of_pos _ hm, hc, by omega, ?_⟩
    simp [f__law_take, fnW, startW, sSeq, sIf, bTest, test, truthyR, mCmp, mIdx, mVar, mCon, Res.bind, Res.bindB, Fl.seq, Fl.toR, BRes.toS, Res.toS, hS, deref, getIx, L2.atI, L2.ixN, optR, optB, binop, cmpop, DL.truthy, hg, mBin, sAsg, bindTg, Fl.ofO, sSetIx, setIxR, sRet, hm, hm2]
  · have hset : ∀ c : Cell, (S.set n c)[n]? = some c := fun c => List.getElem?_set_self hl
    have m1 : mulOk b 48271 = true := by simp [mulOk]
    have m2 : mulOk 7919 (c + 1) = true := by simp [mulOk]
    have m3 : mulOk (7919 * (c + 1)) (c + 1) = true := by
      have h1 : -(2 ^ 64) < c + 1 := by omega
      have h2 : c + 1 < 2 ^ 64 := by omega
      unfold mulOk
      rw [decide_eq_true h1, decide_eq_true h2]; simp
    have hb1 : 0 ≤ (b * 48271 + 7919 * (c + 1) * (c + 1) + 11) % 2147483647 := Int.emod_nonneg _ (by omega)
    have hb2 : (b * 48271 + 7919 * (c + 1) * (c + 1) + 11) % 2147483647 < 2147483647 := Int.emod_lt_of_pos _ (by omega)
    generalize hbb : (b * 48271 + 7919 * (c + 1) * (c + 1) + 11) % 2147483647 = B at hb1 hb2
    have p1 : (B / 8).natAbs < 18446744073709551616 := by omega
    refine ⟨(B / 8) ^ 3 % 2147483629 % m, g, B, c + 1, Int.emod_nonneg _ (by omega), Int.emod_lt_of_pos _ hm, by omega, by omega, ?_⟩
    simp [f__law_take, fnW, startW, sSeq, sIf, bTest, test, truthyR, mCmp, mIdx, mVar, mCon, Res.bind, Res.bindB, Fl.seq, Fl.toR, BRes.toS, Res.toS, hS, deref, getIx, L2.atI, L2.ixN, optR, optB, binop, cmpop, DL.truthy, hg, mBin, sAsg, bindTg, Fl.ofO, sSetIx, setIxR, sRet, hm, sNext, hset, m1, m2, m3, hbb, p1]
theorem bag_ok {S : Sto} {k : Nat} {ns : List Int} (hk : k < 8) :
    ∃ g b, f__law_bag [.lst (ns.map W.int), .int k] S = .ok (.loc S.length) (S ++ [.lst [.int g, .int b, .int 0]]) := by
  have cell : ∃ cell : Int, (if k < ns.length then L2.atI (ns.map W.int) k else some (.int 0)) = some (.int cell) := by
    split
    · rename_i h
      refine ⟨ns[k], ?_⟩
      simp [L2.atI, L2.ixN, h]
    · exact ⟨0, rfl⟩
  obtain ⟨z, hz⟩ := cell
  have p1 : mulOk 104729 k = true := by simp [mulOk]
  have hm : 0 ≤ z % 2147483647 := Int.emod_nonneg _ (by omega)
  have hm2 : z % 2147483647 < 2147483647 := Int.emod_lt_of_pos _ (by omega)
  have p2 : (z % 2147483647 + 104729 * (k : Int) + 7).natAbs < 18446744073709551616 := by omega
  have hp : ∃ q : Int, 0 < q ∧ L2.atI [W.int 2147483629, .int 2147483587, .int 2147483579, .int 2147483563, .int 2147483549, .int 2147483543, .int 2147483497, .int 2147483489] ((k : Int) % 8) = some (.int q) := by
    have : k = 0 ∨ k = 1 ∨ k = 2 ∨ k = 3 ∨ k = 4 ∨ k = 5 ∨ k = 6 ∨ k = 7 := by omega
    rcases this with h | h | h | h | h | h | h | h <;> subst h <;> exact ⟨_, by decide, rfl⟩
  obtain ⟨q, hq, hq2⟩ := hp
  have hlen : ((ns.map W.int).length : Int) = ns.length := by simp
  have e1 : (mulOk 10 18) = true := by decide
  by_cases h1 : k < ns.length
  · have hzz : L2.atI (ns.map W.int) k = some (.int z) := by rw [if_pos h1] at hz; exact hz
    by_cases h2 : (1000000000000000000 : Int) ≤ (if z < 0 then -z else z)
    · refine ⟨if z < 0 then -z else z, (z % 2147483647 + 104729 * (k : Int) + 7) ^ 5 % q, ?_⟩
      simp [f__law_bag, fnW, startW, sSeq, sIf, bTest, test, truthyR, mCmp, mIdx, mVar, mCon, Res.bind, LRes.bind, LRes.bindL, Res.bindL, Res.bindB, Fl.seq, Fl.toR, BRes.toS, Res.toS, deref, getIx, optR, optB, binop, cmpop, DL.truthy, mBin, sAsg, bindTg, Fl.ofO, sRet, sNext, mPrim, mCons, mNil, DL.prim, mLst, mNLst, newCellR, limit, p1, hq, hq2, p2, hzz, h1, h2]
    · refine ⟨0, (z % 2147483647 + 104729 * (k : Int) + 7) ^ 5 % q, ?_⟩
      simp [f__law_bag, fnW, startW, sSeq, sIf, bTest, test, truthyR, mCmp, mIdx, mVar, mCon, Res.bind, LRes.bind, LRes.bindL, Res.bindL, Res.bindB, Fl.seq, Fl.toR, BRes.toS, Res.toS, deref, getIx, optR, optB, binop, cmpop, DL.truthy, mBin, sAsg, bindTg, Fl.ofO, sRet, sNext, mPrim, mCons, mNil, DL.prim, mLst, mNLst, newCellR, limit, p1, hq, hq2, p2, hzz, h1, h2]
  · have p3 : (104729 * (k : Int) + 7).natAbs < 18446744073709551616 := by omega
    refine ⟨0, (104729 * (k : Int) + 7) ^ 5 % q, ?_⟩
    simp [f__law_bag, fnW, startW, sSeq, sIf, bTest, test, truthyR, mCmp, mIdx, mVar, mCon, Res.bind, LRes.bind, LRes.bindL, Res.bindL, Res.bindB, Fl.seq, Fl.toR, BRes.toS, Res.toS, deref, getIx, optR, optB, binop, cmpop, DL.truthy, mBin, sAsg, bindTg, Fl.ofO, sRet, sNext, mPrim, mCons, mNil, DL.prim, mLst, mNLst, newCellR, limit, p1, hq, hq2, p3, h1]
/-! ### behind the drawn digits: the kernel runs each case -/
def hd (o : Option W) : Option W := o.bind fun w => if w.nl then some w else none
def chk : Fl → Option (Option W × Nat)
  | .nx (o :: r) _ => some (o, r.length)
  | _ => none
def tail : Ms := sSeq (sFrame frame2) (sSeq (sFrame frame1) sNext)
theorem t_2200 (scr : W) (kk l a6 a7 a8 a9 a10 a11 : Option W) (S : Sto) : chk (tail [some scr, kk, l, some (.tup [.int 2, .int 2]), some (.int 0), some (.int 0), a6, a7, a8, a9, a10, a11] S) = some (hd (hd (hd (hd (some scr)))), 11) := by kernel_rfl
theorem t_2201 (scr : W) (kk l a6 a7 a8 a9 a10 a11 : Option W) (S : Sto) : chk (tail [some scr, kk, l, some (.tup [.int 2, .int 2]), some (.int 0), some (.int 1), a6, a7, a8, a9, a10, a11] S) = some (hd (hd (hd (hd (some scr)))), 11) := by kernel_rfl
theorem t_2210 (scr : W) (kk l a6 a7 a8 a9 a10 a11 : Option W) (S : Sto) : chk (tail [some scr, kk, l, some (.tup [.int 2, .int 2]), some (.int 1), some (.int 0), a6, a7, a8, a9, a10, a11] S) = some (hd (hd (hd (hd (some scr)))), 11) := by kernel_rfl
theorem t_2211 (scr : W) (kk l a6 a7 a8 a9 a10 a11 : Option W) (S : Sto) : chk (tail [some scr, kk, l, some (.tup [.int 2, .int 2]), some (.int 1), some (.int 1), a6, a7, a8, a9, a10, a11] S) = some (hd (hd (hd (hd (some scr)))), 11) := by kernel_rfl
theorem t_2300 (scr : W) (kk l a6 a7 a8 a9 a10 a11 : Option W) (S : Sto) : chk (tail [some scr, kk, l, some (.tup [.int 2, .int 3]), some (.int 0), some (.int 0), a6, a7, a8, a9, a10, a11] S) = some (hd (hd (hd (hd (some scr)))), 11) := by kernel_rfl
theorem t_2301 (scr : W) (kk l a6 a7 a8 a9 a10 a11 : Option W) (S : Sto) : chk (tail [some scr, kk, l, some (.tup [.int 2, .int 3]), some (.int 0), some (.int 1), a6, a7, a8, a9, a10, a11] S) = some (hd (hd (hd (hd (some scr)))), 11) := by kernel_rfl
theorem t_2302 (scr : W) (kk l a6 a7 a8 a9 a10 a11 : Option W) (S : Sto) : chk (tail [some scr, kk, l, some (.tup [.int 2, .int 3]), some (.int 0), some (.int 2), a6, a7, a8, a9, a10, a11] S) = some (hd (hd (hd (hd (some scr)))), 11) := by kernel_rfl
theorem t_2310 (scr : W) (kk l a6 a7 a8 a9 a10 a11 : Option W) (S : Sto) : chk (tail [some scr, kk, l, some (.tup [.int 2, .int 3]), some (.int 1), some (.int 0), a6, a7, a8, a9, a10, a11] S) = some (hd (hd (hd (hd (some scr)))), 11) := by kernel_rfl
theorem t_2311 (scr : W) (kk l a6 a7 a8 a9 a10 a11 : Option W) (S : Sto) : chk (tail [some scr, kk, l, some (.tup [.int 2, .int 3]), some (.int 1), some (.int 1), a6, a7, a8, a9, a10, a11] S) = some (hd (hd (hd (hd (some scr)))), 11) := by kernel_rfl
theorem t_2400 (scr : W) (kk l a6 a7 a8 a9 a10 a11 : Option W) (S : Sto) : chk (tail [some scr, kk, l, some (.tup [.int 2, .int 4]), some (.int 0), some (.int 0), a6, a7, a8, a9, a10, a11] S) = some (hd (hd (hd (hd (some scr)))), 11) := by kernel_rfl
theorem t_2401 (scr : W) (kk l a6 a7 a8 a9 a10 a11 : Option W) (S : Sto) : chk (tail [some scr, kk, l, some (.tup [.int 2, .int 4]), some (.int 0), some (.int 1), a6, a7, a8, a9, a10, a11] S) = some (hd (hd (hd (hd (some scr)))), 11) := by kernel_rfl
theorem t_2402 (scr : W) (kk l a6 a7 a8 a9 a10 a11 : Option W) (S : Sto) : chk (tail [some scr, kk, l, some (.tup [.int 2, .int 4]), some (.int 0), some (.int 2), a6, a7, a8, a9, a10, a11] S) = some (hd (hd (hd (hd (some scr)))), 11) := by kernel_rfl
theorem t_2403 (scr : W) (kk l a6 a7 a8 a9 a10 a11 : Option W) (S : Sto) : chk (tail [some scr, kk, l, some (.tup [.int 2, .int 4]), some (.int 0), some (.int 3), a6, a7, a8, a9, a10, a11] S) = some (hd (hd (hd (hd (some scr)))), 11) := by kernel_rfl
theorem t_2410 (scr : W) (kk l a6 a7 a8 a9 a10 a11 : Option W) (S : Sto) : chk (tail [some scr, kk, l, some (.tup [.int 2, .int 4]), some (.int 1), some (.int 0), a6, a7, a8, a9, a10, a11] S) = some (hd (hd (hd (hd (some scr)))), 11) := by kernel_rfl
theorem t_2411 (scr : W) (kk l a6 a7 a8 a9 a10 a11 : Option W) (S : Sto) : chk (tail [some scr, kk, l, some (.tup [.int 2, .int 4]), some (.int 1), some (.int 1), a6, a7, a8, a9, a10, a11] S) = some (hd (hd (hd (hd (some scr)))), 11) := by kernel_rfl
theorem t_3200 (scr : W) (kk l a6 a7 a8 a9 a10 a11 : Option W) (S : Sto) : chk (tail [some scr, kk, l, some (.tup [.int 3, .int 2]), some (.int 0), some (.int 0), a6, a7, a8, a9, a10, a11] S) = some (hd (hd (hd (hd (some scr)))), 11) := by kernel_rfl
theorem t_3201 (scr : W) (kk l a6 a7 a8 a9 a10 a11 : Option W) (S : Sto) : chk (tail [some scr, kk, l, some (.tup [.int 3, .int 2]), some (.int 0), some (.int 1), a6, a7, a8, a9, a10, a11] S) = some (hd (hd (hd (hd (some scr)))), 11) := by kernel_rfl
theorem t_3210 (scr : W) (kk l a6 a7 a8 a9 a10 a11 : Option W) (S : Sto) : chk (tail [some scr, kk, l, some (.tup [.int 3, .int 2]), some (.int 1), some (.int 0), a6, a7, a8, a9, a10, a11] S) = some (hd (hd (hd (hd (some scr)))), 11) := by kernel_rfl
theorem t_3211 (scr : W) (kk l a6 a7 a8 a9 a10 a11 : Option W) (S : Sto) : chk (tail [some scr, kk, l, some (.tup [.int 3, .int 2]), some (.int 1), some (.int 1), a6, a7, a8, a9, a10, a11] S) = some (hd (hd (hd (hd (some scr)))), 11) := by kernel_rfl
theorem t_3212 (scr : W) (kk l a6 a7 a8 a9 a10 a11 : Option W) (S : Sto) : chk (tail [some scr, kk, l, some (.tup [.int 3, .int 2]), some (.int 1), some (.int 2), a6, a7, a8, a9, a10, a11] S) = some (hd (hd (hd (hd (some scr)))), 11) := by kernel_rfl
theorem t_3300 (scr : W) (kk l a6 a7 a8 a9 a10 a11 : Option W) (S : Sto) : chk (tail [some scr, kk, l, some (.tup [.int 3, .int 3]), some (.int 0), some (.int 0), a6, a7, a8, a9, a10, a11] S) = some (hd (hd (hd (hd (some scr)))), 11) := by kernel_rfl
theorem t_3301 (scr : W) (kk l a6 a7 a8 a9 a10 a11 : Option W) (S : Sto) : chk (tail [some scr, kk, l, some (.tup [.int 3, .int 3]), some (.int 0), some (.int 1), a6, a7, a8, a9, a10, a11] S) = some (hd (hd (hd (hd (some scr)))), 11) := by kernel_rfl
theorem t_3302 (scr : W) (kk l a6 a7 a8 a9 a10 a11 : Option W) (S : Sto) : chk (tail [some scr, kk, l, some (.tup [.int 3, .int 3]), some (.int 0), some (.int 2), a6, a7, a8, a9, a10, a11] S) = some (hd (hd (hd (hd (some scr)))), 11) := by kernel_rfl
theorem t_3310 (scr : W) (kk l a6 a7 a8 a9 a10 a11 : Option W) (S : Sto) : chk (tail [some scr, kk, l, some (.tup [.int 3, .int 3]), some (.int 1), some (.int 0), a6, a7, a8, a9, a10, a11] S) = some (hd (hd (hd (hd (some scr)))), 11) := by kernel_rfl
theorem t_3311 (scr : W) (kk l a6 a7 a8 a9 a10 a11 : Option W) (S : Sto) : chk (tail [some scr, kk, l, some (.tup [.int 3, .int 3]), some (.int 1), some (.int 1), a6, a7, a8, a9, a10, a11] S) = some (hd (hd (hd (hd (some scr)))), 11) := by kernel_rfl
theorem t_3312 (scr : W) (kk l a6 a7 a8 a9 a10 a11 : Option W) (S : Sto) : chk (tail [some scr, kk, l, some (.tup [.int 3, .int 3]), some (.int 1), some (.int 2), a6, a7, a8, a9, a10, a11] S) = some (hd (hd (hd (hd (some scr)))), 11) := by kernel_rfl
theorem t_3400 (scr : W) (kk l a6 a7 a8 a9 a10 a11 : Option W) (S : Sto) : chk (tail [some scr, kk, l, some (.tup [.int 3, .int 4]), some (.int 0), some (.int 0), a6, a7, a8, a9, a10, a11] S) = some (hd (hd (hd (hd (some scr)))), 11) := by kernel_rfl
theorem t_3401 (scr : W) (kk l a6 a7 a8 a9 a10 a11 : Option W) (S : Sto) : chk (tail [some scr, kk, l, some (.tup [.int 3, .int 4]), some (.int 0), some (.int 1), a6, a7, a8, a9, a10, a11] S) = some (hd (hd (hd (hd (some scr)))), 11) := by kernel_rfl
theorem t_3402 (scr : W) (kk l a6 a7 a8 a9 a10 a11 : Option W) (S : Sto) : chk (tail [some scr, kk, l, some (.tup [.int 3, .int 4]), some (.int 0), some (.int 2), a6, a7, a8, a9, a10, a11] S) = some (hd (hd (hd (hd (some scr)))), 11) := by kernel_rfl
theorem t_3403 (scr : W) (kk l a6 a7 a8 a9 a10 a11 : Option W) (S : Sto) : chk (tail [some scr, kk, l, some (.tup [.int 3, .int 4]), some (.int 0), some (.int 3), a6, a7, a8, a9, a10, a11] S) = some (hd (hd (hd (hd (some scr)))), 11) := by kernel_rfl
theorem t_3410 (scr : W) (kk l a6 a7 a8 a9 a10 a11 : Option W) (S : Sto) : chk (tail [some scr, kk, l, some (.tup [.int 3, .int 4]), some (.int 1), some (.int 0), a6, a7, a8, a9, a10, a11] S) = some (hd (hd (hd (hd (some scr)))), 11) := by kernel_rfl
theorem t_3411 (scr : W) (kk l a6 a7 a8 a9 a10 a11 : Option W) (S : Sto) : chk (tail [some scr, kk, l, some (.tup [.int 3, .int 4]), some (.int 1), some (.int 1), a6, a7, a8, a9, a10, a11] S) = some (hd (hd (hd (hd (some scr)))), 11) := by kernel_rfl
theorem t_3412 (scr : W) (kk l a6 a7 a8 a9 a10 a11 : Option W) (S : Sto) : chk (tail [some scr, kk, l, some (.tup [.int 3, .int 4]), some (.int 1), some (.int 2), a6, a7, a8, a9, a10, a11] S) = some (hd (hd (hd (hd (some scr)))), 11) := by kernel_rfl
theorem t_4200 (scr : W) (kk l a6 a7 a8 a9 a10 a11 : Option W) (S : Sto) : chk (tail [some scr, kk, l, some (.tup [.int 4, .int 2]), some (.int 0), some (.int 0), a6, a7, a8, a9, a10, a11] S) = some (hd (hd (hd (hd (some scr)))), 11) := by kernel_rfl
theorem t_4201 (scr : W) (kk l a6 a7 a8 a9 a10 a11 : Option W) (S : Sto) : chk (tail [some scr, kk, l, some (.tup [.int 4, .int 2]), some (.int 0), some (.int 1), a6, a7, a8, a9, a10, a11] S) = some (hd (hd (hd (hd (some scr)))), 11) := by kernel_rfl
theorem t_4210 (scr : W) (kk l a6 a7 a8 a9 a10 a11 : Option W) (S : Sto) : chk (tail [some scr, kk, l, some (.tup [.int 4, .int 2]), some (.int 1), some (.int 0), a6, a7, a8, a9, a10, a11] S) = some (hd (hd (hd (hd (some scr)))), 11) := by kernel_rfl
theorem t_4211 (scr : W) (kk l a6 a7 a8 a9 a10 a11 : Option W) (S : Sto) : chk (tail [some scr, kk, l, some (.tup [.int 4, .int 2]), some (.int 1), some (.int 1), a6, a7, a8, a9, a10, a11] S) = some (hd (hd (hd (hd (some scr)))), 11) := by kernel_rfl
theorem t_4212 (scr : W) (kk l a6 a7 a8 a9 a10 a11 : Option W) (S : Sto) : chk (tail [some scr, kk, l, some (.tup [.int 4, .int 2]), some (.int 1), some (.int 2), a6, a7, a8, a9, a10, a11] S) = some (hd (hd (hd (hd (some scr)))), 11) := by kernel_rfl
theorem t_4213 (scr : W) (kk l a6 a7 a8 a9 a10 a11 : Option W) (S : Sto) : chk (tail [some scr, kk, l, some (.tup [.int 4, .int 2]), some (.int 1), some (.int 3), a6, a7, a8, a9, a10, a11] S) = some (hd (hd (hd (hd (some scr)))), 11) := by kernel_rfl
theorem t_4300 (scr : W) (kk l a6 a7 a8 a9 a10 a11 : Option W) (S : Sto) : chk (tail [some scr, kk, l, some (.tup [.int 4, .int 3]), some (.int 0), some (.int 0), a6, a7, a8, a9, a10, a11] S) = some (hd (hd (hd (hd (some scr)))), 11) := by kernel_rfl
theorem t_4301 (scr : W) (kk l a6 a7 a8 a9 a10 a11 : Option W) (S : Sto) : chk (tail [some scr, kk, l, some (.tup [.int 4, .int 3]), some (.int 0), some (.int 1), a6, a7, a8, a9, a10, a11] S) = some (hd (hd (hd (hd (some scr)))), 11) := by kernel_rfl
theorem t_4302 (scr : W) (kk l a6 a7 a8 a9 a10 a11 : Option W) (S : Sto) : chk (tail [some scr, kk, l, some (.tup [.int 4, .int 3]), some (.int 0), some (.int 2), a6, a7, a8, a9, a10, a11] S) = some (hd (hd (hd (hd (some scr)))), 11) := by kernel_rfl
theorem t_4310 (scr : W) (kk l a6 a7 a8 a9 a10 a11 : Option W) (S : Sto) : chk (tail [some scr, kk, l, some (.tup [.int 4, .int 3]), some (.int 1), some (.int 0), a6, a7, a8, a9, a10, a11] S) = some (hd (hd (hd (hd (some scr)))), 11) := by kernel_rfl
theorem t_4311 (scr : W) (kk l a6 a7 a8 a9 a10 a11 : Option W) (S : Sto) : chk (tail [some scr, kk, l, some (.tup [.int 4, .int 3]), some (.int 1), some (.int 1), a6, a7, a8, a9, a10, a11] S) = some (hd (hd (hd (hd (some scr)))), 11) := by kernel_rfl
theorem t_4312 (scr : W) (kk l a6 a7 a8 a9 a10 a11 : Option W) (S : Sto) : chk (tail [some scr, kk, l, some (.tup [.int 4, .int 3]), some (.int 1), some (.int 2), a6, a7, a8, a9, a10, a11] S) = some (hd (hd (hd (hd (some scr)))), 11) := by kernel_rfl
theorem t_4313 (scr : W) (kk l a6 a7 a8 a9 a10 a11 : Option W) (S : Sto) : chk (tail [some scr, kk, l, some (.tup [.int 4, .int 3]), some (.int 1), some (.int 3), a6, a7, a8, a9, a10, a11] S) = some (hd (hd (hd (hd (some scr)))), 11) := by kernel_rfl
theorem t_4400 (scr : W) (kk l a6 a7 a8 a9 a10 a11 : Option W) (S : Sto) : chk (tail [some scr, kk, l, some (.tup [.int 4, .int 4]), some (.int 0), some (.int 0), a6, a7, a8, a9, a10, a11] S) = some (hd (hd (hd (hd (some scr)))), 11) := by kernel_rfl
theorem t_4401 (scr : W) (kk l a6 a7 a8 a9 a10 a11 : Option W) (S : Sto) : chk (tail [some scr, kk, l, some (.tup [.int 4, .int 4]), some (.int 0), some (.int 1), a6, a7, a8, a9, a10, a11] S) = some (hd (hd (hd (hd (some scr)))), 11) := by kernel_rfl
theorem t_4402 (scr : W) (kk l a6 a7 a8 a9 a10 a11 : Option W) (S : Sto) : chk (tail [some scr, kk, l, some (.tup [.int 4, .int 4]), some (.int 0), some (.int 2), a6, a7, a8, a9, a10, a11] S) = some (hd (hd (hd (hd (some scr)))), 11) := by kernel_rfl
theorem t_4403 (scr : W) (kk l a6 a7 a8 a9 a10 a11 : Option W) (S : Sto) : chk (tail [some scr, kk, l, some (.tup [.int 4, .int 4]), some (.int 0), some (.int 3), a6, a7, a8, a9, a10, a11] S) = some (hd (hd (hd (hd (some scr)))), 11) := by kernel_rfl
theorem t_4410 (scr : W) (kk l a6 a7 a8 a9 a10 a11 : Option W) (S : Sto) : chk (tail [some scr, kk, l, some (.tup [.int 4, .int 4]), some (.int 1), some (.int 0), a6, a7, a8, a9, a10, a11] S) = some (hd (hd (hd (hd (some scr)))), 11) := by kernel_rfl
theorem t_4411 (scr : W) (kk l a6 a7 a8 a9 a10 a11 : Option W) (S : Sto) : chk (tail [some scr, kk, l, some (.tup [.int 4, .int 4]), some (.int 1), some (.int 1), a6, a7, a8, a9, a10, a11] S) = some (hd (hd (hd (hd (some scr)))), 11) := by kernel_rfl
theorem t_4412 (scr : W) (kk l a6 a7 a8 a9 a10 a11 : Option W) (S : Sto) : chk (tail [some scr, kk, l, some (.tup [.int 4, .int 4]), some (.int 1), some (.int 2), a6, a7, a8, a9, a10, a11] S) = some (hd (hd (hd (hd (some scr)))), 11) := by kernel_rfl
theorem t_4413 (scr : W) (kk l a6 a7 a8 a9 a10 a11 : Option W) (S : Sto) : chk (tail [some scr, kk, l, some (.tup [.int 4, .int 4]), some (.int 1), some (.int 3), a6, a7, a8, a9, a10, a11] S) = some (hd (hd (hd (hd (some scr)))), 11) := by kernel_rfl
theorem tail_ok (scr : W) (kk l a6 a7 a8 a9 a10 a11 : Option W) (S : Sto) {w0 w1 wh ot : Int} (h0 : 2 ≤ w0 ∧ w0 < 5) (h1 : 2 ≤ w1 ∧ w1 < 5) (h2 : 0 ≤ wh ∧ wh < 2) (h3 : 0 ≤ ot ∧ ot < (if wh = 0 then w1 else w0)) :
    chk (tail [some scr, kk, l, some (.tup [.int w0, .int w1]), some (.int wh), some (.int ot), a6, a7, a8, a9, a10, a11] S) = some (hd (hd (hd (hd (some scr)))), 11) := by
  obtain ⟨h3, h4⟩ := h3
  rcases (by omega : w0 = 2 ∨ w0 = 3 ∨ w0 = 4) with rfl | rfl | rfl
  · rcases (by omega : w1 = 2 ∨ w1 = 3 ∨ w1 = 4) with rfl | rfl | rfl
    · rcases (by omega : wh = 0 ∨ wh = 1) with rfl | rfl
      · replace h4 : ot < 2 := by simpa using h4
        rcases (by omega : ot = 0 ∨ ot = 1) with rfl | rfl
        · exact t_2200 scr kk l a6 a7 a8 a9 a10 a11 S
        · exact t_2201 scr kk l a6 a7 a8 a9 a10 a11 S
      · replace h4 : ot < 2 := by simpa using h4
        rcases (by omega : ot = 0 ∨ ot = 1) with rfl | rfl
        · exact t_2210 scr kk l a6 a7 a8 a9 a10 a11 S
        · exact t_2211 scr kk l a6 a7 a8 a9 a10 a11 S
    · rcases (by omega : wh = 0 ∨ wh = 1) with rfl | rfl
      · replace h4 : ot < 3 := by simpa using h4
        rcases (by omega : ot = 0 ∨ ot = 1 ∨ ot = 2) with rfl | rfl | rfl
        · exact t_2300 scr kk l a6 a7 a8 a9 a10 a11 S
        · exact t_2301 scr kk l a6 a7 a8 a9 a10 a11 S
        · exact t_2302 scr kk l a6 a7 a8 a9 a10 a11 S
      · replace h4 : ot < 2 := by simpa using h4
        rcases (by omega : ot = 0 ∨ ot = 1) with rfl | rfl
        · exact t_2310 scr kk l a6 a7 a8 a9 a10 a11 S
        · exact t_2311 scr kk l a6 a7 a8 a9 a10 a11 S
    · rcases (by omega : wh = 0 ∨ wh = 1) with rfl | rfl
      · replace h4 : ot < 4 := by simpa using h4
        rcases (by omega : ot = 0 ∨ ot = 1 ∨ ot = 2 ∨ ot = 3) with rfl | rfl | rfl | rfl
        · exact t_2400 scr kk l a6 a7 a8 a9 a10 a11 S
        · exact t_2401 scr kk l a6 a7 a8 a9 a10 a11 S
        · exact t_2402 scr kk l a6 a7 a8 a9 a10 a11 S
        · exact t_2403 scr kk l a6 a7 a8 a9 a10 a11 S
      · replace h4 : ot < 2 := by simpa using h4
        rcases (by omega : ot = 0 ∨ ot = 1) with rfl | rfl
        · exact t_2410 scr kk l a6 a7 a8 a9 a10 a11 S
        · exact t_2411 scr kk l a6 a7 a8 a9 a10 a11 S
  · rcases (by omega : w1 = 2 ∨ w1 = 3 ∨ w1 = 4) with rfl | rfl | rfl
    · rcases (by omega : wh = 0 ∨ wh = 1) with rfl | rfl
      · replace h4 : ot < 2 := by simpa using h4
        rcases (by omega : ot = 0 ∨ ot = 1) with rfl | rfl
        · exact t_3200 scr kk l a6 a7 a8 a9 a10 a11 S
        · exact t_3201 scr kk l a6 a7 a8 a9 a10 a11 S
      · replace h4 : ot < 3 := by simpa using h4
        rcases (by omega : ot = 0 ∨ ot = 1 ∨ ot = 2) with rfl | rfl | rfl
        · exact t_3210 scr kk l a6 a7 a8 a9 a10 a11 S
        · exact t_3211 scr kk l a6 a7 a8 a9 a10 a11 S
        · exact t_3212 scr kk l a6 a7 a8 a9 a10 a11 S
    · rcases (by omega : wh = 0 ∨ wh = 1) with rfl | rfl
      · replace h4 : ot < 3 := by simpa using h4
        rcases (by omega : ot = 0 ∨ ot = 1 ∨ ot = 2) with rfl | rfl | rfl
        · exact t_3300 scr kk l a6 a7 a8 a9 a10 a11 S
        · exact t_3301 scr kk l a6 a7 a8 a9 a10 a11 S
        · exact t_3302 scr kk l a6 a7 a8 a9 a10 a11 S
      · replace h4 : ot < 3 := by simpa using h4
        rcases (by omega : ot = 0 ∨ ot = 1 ∨ ot = 2) with rfl | rfl | rfl
        · exact t_3310 scr kk l a6 a7 a8 a9 a10 a11 S
        · exact t_3311 scr kk l a6 a7 a8 a9 a10 a11 S
        · exact t_3312 scr kk l a6 a7 a8 a9 a10 a11 S
    · rcases (by omega : wh = 0 ∨ wh = 1) with rfl | rfl
      · replace h4 : ot < 4 := by simpa using h4
        rcases (by omega : ot = 0 ∨ ot = 1 ∨ ot = 2 ∨ ot = 3) with rfl | rfl | rfl | rfl
        · exact t_3400 scr kk l a6 a7 a8 a9 a10 a11 S
        · exact t_3401 scr kk l a6 a7 a8 a9 a10 a11 S
        · exact t_3402 scr kk l a6 a7 a8 a9 a10 a11 S
        · exact t_3403 scr kk l a6 a7 a8 a9 a10 a11 S
      · replace h4 : ot < 3 := by simpa using h4
        rcases (by omega : ot = 0 ∨ ot = 1 ∨ ot = 2) with rfl | rfl | rfl
        · exact t_3410 scr kk l a6 a7 a8 a9 a10 a11 S
        · exact t_3411 scr kk l a6 a7 a8 a9 a10 a11 S
        · exact t_3412 scr kk l a6 a7 a8 a9 a10 a11 S
  · rcases (by omega : w1 = 2 ∨ w1 = 3 ∨ w1 = 4) with rfl | rfl | rfl
    · rcases (by omega : wh = 0 ∨ wh = 1) with rfl | rfl
      · replace h4 : ot < 2 := by simpa using h4
        rcases (by omega : ot = 0 ∨ ot = 1) with rfl | rfl
        · exact t_4200 scr kk l a6 a7 a8 a9 a10 a11 S
        · exact t_4201 scr kk l a6 a7 a8 a9 a10 a11 S
      · replace h4 : ot < 4 := by simpa using h4
        rcases (by omega : ot = 0 ∨ ot = 1 ∨ ot = 2 ∨ ot = 3) with rfl | rfl | rfl | rfl
        · exact t_4210 scr kk l a6 a7 a8 a9 a10 a11 S
        · exact t_4211 scr kk l a6 a7 a8 a9 a10 a11 S
        · exact t_4212 scr kk l a6 a7 a8 a9 a10 a11 S
        · exact t_4213 scr kk l a6 a7 a8 a9 a10 a11 S
    · rcases (by omega : wh = 0 ∨ wh = 1) with rfl | rfl
      · replace h4 : ot < 3 := by simpa using h4
        rcases (by omega : ot = 0 ∨ ot = 1 ∨ ot = 2) with rfl | rfl | rfl
        · exact t_4300 scr kk l a6 a7 a8 a9 a10 a11 S
        · exact t_4301 scr kk l a6 a7 a8 a9 a10 a11 S
        · exact t_4302 scr kk l a6 a7 a8 a9 a10 a11 S
      · replace h4 : ot < 4 := by simpa using h4
        rcases (by omega : ot = 0 ∨ ot = 1 ∨ ot = 2 ∨ ot = 3) with rfl | rfl | rfl | rfl
        · exact t_4310 scr kk l a6 a7 a8 a9 a10 a11 S
        · exact t_4311 scr kk l a6 a7 a8 a9 a10 a11 S
        · exact t_4312 scr kk l a6 a7 a8 a9 a10 a11 S
        · exact t_4313 scr kk l a6 a7 a8 a9 a10 a11 S
    · rcases (by omega : wh = 0 ∨ wh = 1) with rfl | rfl
      · replace h4 : ot < 4 := by simpa using h4
        rcases (by omega : ot = 0 ∨ ot = 1 ∨ ot = 2 ∨ ot = 3) with rfl | rfl | rfl | rfl
        · exact t_4400 scr kk l a6 a7 a8 a9 a10 a11 S
        · exact t_4401 scr kk l a6 a7 a8 a9 a10 a11 S
        · exact t_4402 scr kk l a6 a7 a8 a9 a10 a11 S
        · exact t_4403 scr kk l a6 a7 a8 a9 a10 a11 S
      · replace h4 : ot < 4 := by simpa using h4
        rcases (by omega : ot = 0 ∨ ot = 1 ∨ ot = 2 ∨ ot = 3) with rfl | rfl | rfl | rfl
        · exact t_4410 scr kk l a6 a7 a8 a9 a10 a11 S
        · exact t_4411 scr kk l a6 a7 a8 a9 a10 a11 S
        · exact t_4412 scr kk l a6 a7 a8 a9 a10 a11 S
        · exact t_4413 scr kk l a6 a7 a8 a9 a10 a11 S
theorem chk_some {f : Fl} {o : Option W} {n : Nat} (h : chk f = some (o, n)) : ∃ r S, f = .nx (o :: r) S ∧ r.length = n := by
  cases f with
  | nx ρ S =>
    cases ρ with
    | nil => cases h
    | cons a r =>
      have h : some (a, r.length) = some (o, n) := h
      cases h
      exact ⟨r, S, rfl, rfl⟩
  | _ => cases h
theorem nl_ints : ∀ ns : List Int, nlL (ns.map W.int) = true
  | [] => rfl
  | n :: ns => by rw [List.map_cons, nlL, nl_ints ns]; rfl
theorem hd_scr (ns : List Int) : hd (some (.lst (ns.map W.int))) = some (.lst (ns.map W.int)) := by
  show (if W.nl (.lst (ns.map W.int)) = true then _ else _) = _
  rw [if_pos (show W.nl (.lst (ns.map W.int)) = true from nl_ints ns)]
theorem body_ok (ns : List Int) {k : Nat} (hk : k < 8) (S : Sto) (a2 a3 a4 a5 a6 a7 a8 a9 a10 a11 : Option W) :
    ∃ r S', body3 [some (.lst (ns.map W.int)), some (.int k), a2, a3, a4, a5, a6, a7, a8, a9, a10, a11] S = .nx (some (.lst (ns.map W.int)) :: r) S' ∧ r.length = 11 := by
  obtain ⟨g, b, e0⟩ := bag_ok (S := S) (ns := ns) hk
  have q1 : (S ++ [.lst [.int g, .int b, .int 0]])[S.length]? = some (.lst [.int g, .int b, .int 0]) := by simp
  obtain ⟨d1, g1, b1, c1, p1, p2, p3, p4, e1⟩ := take_ok (m := 3) q1 (by omega) (by omega) (by omega) (by omega)
  have set1 : ∀ (S : Sto) (n : Nat) (c : Cell), n < S.length → (S.set n c)[n]? = some c := fun S n c h => List.getElem?_set_self h
  have l0 : S.length < (S ++ [Cell.lst [.int g, .int b, .int 0]]).length := by simp
  have q2 := set1 _ _ (.lst [.int g1, .int b1, .int c1]) l0
  generalize hS1 : (S ++ [Cell.lst [.int g, .int b, .int 0]]).set S.length (.lst [.int g1, .int b1, .int c1]) = S1 at e1 q2
  have l1 : S.length < S1.length := (List.getElem?_eq_some_iff.mp q2).1
  obtain ⟨d2, g2, b2, c2, p5, p6, p7, p8, e2⟩ := take_ok (m := 3) q2 (by omega) (by omega) (by omega) (by omega)
  have q3 := set1 _ _ (.lst [.int g2, .int b2, .int c2]) l1
  generalize hS2 : S1.set S.length (.lst [.int g2, .int b2, .int c2]) = S2 at e2 q3
  have l2 : S.length < S2.length := (List.getElem?_eq_some_iff.mp q3).1
  obtain ⟨d3, g3, b3, c3, p9, p10, p11, p12, e3⟩ := take_ok (m := 2) q3 (by omega) (by omega) (by omega) (by omega)
  have q4 := set1 _ _ (.lst [.int g3, .int b3, .int c3]) l2
  generalize hS3 : S2.set S.length (.lst [.int g3, .int b3, .int c3]) = S3 at e3 q4
  have ix : ∃ m, getIx (.tup [.int (2 + d1), .int (2 + d2)]) (.int (1 - d3)) = some (.int m) ∧ m = (if d3 = 0 then 2 + d2 else 2 + d1) := by
    rcases (by omega : d3 = 0 ∨ d3 = 1) with rfl | rfl
    · exact ⟨_, rfl, rfl⟩
    · exact ⟨_, rfl, rfl⟩
  obtain ⟨m, i1, i2⟩ := ix
  obtain ⟨d4, g4, b4, c4, p13, p14, p15, p16, e4⟩ := take_ok (m := m) q4 (by rw [i2]; split <;> omega) (by rw [i2]; split <;> omega) (by omega) (by omega)
  have hb : body3 [some (.lst (ns.map W.int)), some (.int k), a2, a3, a4, a5, a6, a7, a8, a9, a10, a11] S =
      tail [some (.lst (ns.map W.int)), some (.int k), some (.loc S.length), some (.tup [.int (2 + d1), .int (2 + d2)]), some (.int d3), some (.int d4), a6, a7, a8, a9, a10, a11] (S3.set S.length (.lst [.int g4, .int b4, .int c4])) := by
    simp [body3, tail, sSeq, sAsg, sPar, mCall, mCons, mNil, mVar, mCon, mTup, mBin, mIdx, Res.bind, Res.bindL, LRes.bind, LRes.bindL, Res.toS, LRes.toS, Fl.seq, Fl.ofO, setAll, bindTg, optR, binop, deref, limit, e0, e1, e2, e3, i1, e4]
  rw [hb]
  obtain ⟨r, S', h1, h2⟩ := chk_some (tail_ok (.lst (ns.map W.int)) (some (.int k)) (some (.loc S.length)) a6 a7 a8 a9 a10 a11 (S3.set S.length (.lst [.int g4, .int b4, .int c4])) (w0 := 2 + d1) (w1 := 2 + d2) (wh := d3) (ot := d4) (by omega) (by omega) (by omega) (by rw [← i2]; omega))
  rw [hd_scr, hd_scr, hd_scr, hd_scr] at h1
  exact ⟨r, S', h1, h2⟩
theorem len11 {r : DL.Env} (h : r.length = 11) : ∃ a1 a2 a3 a4 a5 a6 a7 a8 a9 a10 a11, r = [a1, a2, a3, a4, a5, a6, a7, a8, a9, a10, a11] := by
  match r, h with
  | [a1, a2, a3, a4, a5, a6, a7, a8, a9, a10, a11], _ => exact ⟨a1, a2, a3, a4, a5, a6, a7, a8, a9, a10, a11, rfl⟩
theorem loop_ok (ns : List Int) : ∀ (m lo : Nat), lo + m ≤ 8 → ∀ (r : DL.Env) (S : Sto), r.length = 11 → ∃ ρ' S', DL.forM (.nm 1) body3 (rangeW lo m) (some (.lst (ns.map W.int)) :: r) S = .nx ρ' S'
  | 0, lo, _, r, S, _ => ⟨_, _, rfl⟩
  | m + 1, lo, h, r, S, hr => by
    obtain ⟨a1, a2, a3, a4, a5, a6, a7, a8, a9, a10, a11, rfl⟩ := len11 hr
    obtain ⟨r', S', e, hr'⟩ := body_ok ns (k := lo) (by omega) S a2 a3 a4 a5 a6 a7 a8 a9 a10 a11
    obtain ⟨ρ', S'', e2⟩ := loop_ok ns m (lo + 1) (by omega) r' S' hr'
    refine ⟨ρ', S'', ?_⟩
    have e3 : rangeW (lo : Int) (m + 1) = .int lo :: rangeW ((lo + 1 : Nat) : Int) m := by rw [rangeW]; push_cast; rfl
    rw [e3]
    show (match body3 [some (.lst (ns.map W.int)), some (.int lo), a2, a3, a4, a5, a6, a7, a8, a9, a10, a11] S with
      | .nx ρ S => DL.forM (.nm 1) body3 (rangeW ((lo + 1 : Nat) : Int) m) ρ S
      | .ct ρ S => DL.forM (.nm 1) body3 (rangeW ((lo + 1 : Nat) : Int) m) ρ S
      | .bk ρ S => .nx ρ S
      | r => r) = _
    rw [e]
    exact e2
theorem plain : Plain := by
  intro ns hl
  obtain ⟨m, h1, h2⟩ : ∃ m : Nat, (if (if ((ns.map W.int).length : Int) < 8 then ((ns.map W.int).length : Int) else 8) > 3 then (if ((ns.map W.int).length : Int) < 8 then ((ns.map W.int).length : Int) else 8) else 3) = (m : Int) ∧ m ≤ 8 := by
    rw [List.length_map]
    refine ⟨max 3 (min 8 ns.length), ?_, by omega⟩
    split <;> split <;> omega
  obtain ⟨ρ', S', e⟩ := loop_ok ns m 0 (by omega) (List.replicate 11 none) [] (by rw [List.length_replicate])
  refine ⟨S', ?_⟩
  have hr : (-(2 ^ 62) ≤ (m : Int) ∧ (m : Int) < 2 ^ 62) := by omega
  have hj : jRange1 (mPrim .max (mCons (mCon (.int 3)) (mCons (mPrim .min (mCons (mCon (.int 8)) (mCons (mPrim .len (mCons (mVar 0) mNil)) mNil))) mNil))) (some (.lst (ns.map W.int)) :: List.replicate 11 none) [] = .ok (rangeW 0 m) [] := by
    show (if -(2 ^ 62) ≤ (if (if ((ns.map W.int).length : Int) < 8 then ((ns.map W.int).length : Int) else 8) > 3 then (if ((ns.map W.int).length : Int) < 8 then ((ns.map W.int).length : Int) else 8) else 3) ∧ (if (if ((ns.map W.int).length : Int) < 8 then ((ns.map W.int).length : Int) else 8) > 3 then (if ((ns.map W.int).length : Int) < 8 then ((ns.map W.int).length : Int) else 8) else 3) < 2 ^ 62 then LRes.ok (rangeW 0 (if (if ((ns.map W.int).length : Int) < 8 then ((ns.map W.int).length : Int) else 8) > 3 then (if ((ns.map W.int).length : Int) < 8 then ((ns.map W.int).length : Int) else 8) else 3).toNat) [] else .bad) = _
    rw [h1, if_pos hr]
    rfl
  show (Fl.toR (Fl.seq (LRes.toS _ (jRange1 _ (some (.lst (ns.map W.int)) :: List.replicate 11 none) []) fun xs S => DL.forM (.nm 1) body3 xs (some (.lst (ns.map W.int)) :: List.replicate 11 none) S) _)) = _
  rw [hj]
  show (Fl.toR (Fl.seq (DL.forM (.nm 1) body3 (rangeW 0 m) (some (.lst (ns.map W.int)) :: List.replicate 11 none) []) _)) = _
  have e' : DL.forM (.nm 1) body3 (rangeW 0 m) (some (.lst (ns.map W.int)) :: List.replicate 11 none) [] = .nx ρ' S' := e
  rw [e']
  rfl
end K10
theorem PySem.Challenge.cw_hushrules_k10_conditions_one_by_one_holds : PySem.Challenge.rw_hushrules_k10_conditions_one_by_one.Holds :=
  PySem.Challenge.held_hushrules_k10_conditions_one_by_one K10.plain
#print axioms PySem.Challenge.cw_hushrules_k10_conditions_one_by_one_holds

