import PyProof.Rows.All
import Wide.All
import OpenK.AllK
import Wide.FinOn
import HandS.ForMost
import HandS.Exc
import HandS.TryOnly
import HandS.ExcOwn
import HandS.WordsExc
import HandS.Lambda
import HandS.HeadHook2
import HandS.HeadHook4
import HandS.Deep
import HandS.TupLe
import HandS.TupAny
import HandS.TupMul
import HandS.Style
import HandS.Wide
import HandS.IsInst
import HandS.StrMore
import HandS.RaiseMore
import HandS.Zip
import HandS.ExcCtx
import HandS.HotCalls
import HandS.ExcIs
import HandS.HeadEnd
import HandS.Head0
import HandS.Head1
import HandS.Head2
import HandS.HeadWalk
import KE.DatumOrd
import HandS.SetKeys
import KE.DataCmp
import HandS.Small
import HandS.More
import HandS.WordsDict
import KE.DataMinMax
import KE.DataFind
import HandS.Conv
import KE.DataMinKey
import KE.SortData
import HandS.Replace
import PyProof.StrReplace2
import PyProof.ToksMono
import PyProof.Draws
import PyProof.EnumMake
import HandS.Codes
import HandS.ReplaceList
import PyProof.Rows.StrCase
import PyProof.ListStr
import HandS.DictComp
import KE.SortKeyHeap
import HandS.ReplaceLit
import KE.KStateDown
import Lean
import PySem.Challenge.RW_lendboard_k10_makes_and_wishes
set_option Elab.async false
set_option linter.all false
set_option maxRecDepth 100000
set_option maxHeartbeats 0
namespace Mr
open PySem PySem.Spec L2

/-! ### data, cells, worlds -/
inductive D where
  | non | bl (b : Bool) | int (i : Int) | str (x : Str) | ty (n : String)
  | lst (xs : List D) | fix (xs : List D) | tup (xs : List D) | dct (ks : List Key) (vs : List D) | ref (n : Nat)
  deriving Inhabited
inductive Cell where
  | lst (xs : List D) | dct (ks : List Key) (vs : List D) | ins (c : Str) (fs : List (Str × D)) | dcf (ks : List Key) (vs : List D)
  deriving Inhabited
abbrev Store := List Cell
abbrev Env' := List (Option D)
inductive Res (α : Type) where
  | ok (a : α) (st : Store) | ex (c : Str) (st : Store) | no

structure Wd where
  F : Hp
  rh : List Addr
  U : Hp

mutual
inductive RD (K : PySem.W.Frag) (F : Hp) (ρ : List Addr) : D → V → Prop
  | non : RD K F ρ .non .non
  | bl (b : Bool) : RD K F ρ (.bl b) (.bl b)
  | int (i : Int) : RD K F ρ (.int i) (.int i)
  | str (x : Str) : RD K F ρ (.str x) (.str x)
  | ty (n : String) : RD K F ρ (.ty n) (.ty n)
  | lst {a : Addr} {xs : List V} {ds : List D} : F a = some (.lst xs) → RDs K F ρ ds xs → RD K F ρ (.lst ds) (.ref a)
  | fix {a : Addr} {xs : List V} {ds : List D} : SqL K F a xs → RDs K F ρ ds xs → RD K F ρ (.fix ds) (.ref a)
  | tup {a : Addr} {xs : List V} {ds : List D} : SqT K F a xs → RDs K F ρ ds xs → RD K F ρ (.tup ds) (.ref a)
  | dct {a : Addr} {ks : List Key} {xs : List V} {ds : List D} : F a = some (.dK (ks.zip xs)) → ks.length = xs.length → RDs K F ρ ds xs → RD K F ρ (.dct ks ds) (.ref a)
  | ref {n : Nat} {a : Addr} : ρ[n]? = some a → RD K F ρ (.ref n) (.ref a)
inductive RDs (K : PySem.W.Frag) (F : Hp) (ρ : List Addr) : List D → List V → Prop
  | nil : RDs K F ρ [] []
  | cons {d : D} {ds : List D} {v : V} {vs : List V} : RD K F ρ d v → RDs K F ρ ds vs → RDs K F ρ (d :: ds) (v :: vs)
end

def Wd.le (W W' : Wd) : Prop := Same W.F W'.F ∧ (∃ t, W'.rh = W.rh ++ t) ∧ W'.U = W.U
theorem Wd.le.refl (W : Wd) : W.le W := ⟨fun _ _ h => h, ⟨[], by simp⟩, rfl⟩
theorem Wd.le.trans {a b c : Wd} (h : a.le b) (g : b.le c) : a.le c := by
  obtain ⟨h1, ⟨t, h2⟩, h3⟩ := h
  obtain ⟨g1, ⟨u, g2⟩, g3⟩ := g
  exact ⟨fun x o e => g1 x o (h1 x o e), ⟨t ++ u, by rw [g2, h2, List.append_assoc]⟩, g3.trans h3⟩
theorem sqT_mono {K : PySem.W.Frag} {F F' : Hp} {a : Addr} {xs : List V} (e : Same F F') (h : SqT K F a xs) : SqT K F' a xs := by
  rcases h with (h | ⟨o, h⟩) | h
  · exact .inl (.inl (e _ _ h))
  · exact .inl (.inr ⟨o, e _ _ h⟩)
  · exact .inr h
theorem sqL_mono {K : PySem.W.Frag} {F F' : Hp} {a : Addr} {xs : List V} (e : Same F F') (h : SqL K F a xs) : SqL K F' a xs := by
  rcases h with (h | ⟨o, h⟩) | h
  · exact .inl (.inl (e _ _ h))
  · exact .inl (.inr ⟨o, e _ _ h⟩)
  · exact .inr h
mutual
theorem RD.mono' {K : PySem.W.Frag} {F F' : Hp} {ρ ρ' : List Addr} (e : Same F F') (p : ∀ (n : Nat) (a : Addr), ρ[n]? = some a → ρ'[n]? = some a) : ∀ {d : D} {v : V}, RD K F ρ d v → RD K F' ρ' d v
  | _, _, .non => .non
  | _, _, .bl b => .bl b
  | _, _, .int i => .int i
  | _, _, .str x => .str x
  | _, _, .ty n => .ty n
  | _, _, .lst h r => .lst (e _ _ h) (RDs.mono' e p r)
  | _, _, .fix h r => .fix (sqL_mono e h) (RDs.mono' e p r)
  | _, _, .tup h r => .tup (sqT_mono e h) (RDs.mono' e p r)
  | _, _, .dct h l r => .dct (e _ _ h) l (RDs.mono' e p r)
  | _, _, .ref h => .ref (p _ _ h)
theorem RDs.mono' {K : PySem.W.Frag} {F F' : Hp} {ρ ρ' : List Addr} (e : Same F F') (p : ∀ (n : Nat) (a : Addr), ρ[n]? = some a → ρ'[n]? = some a) : ∀ {ds : List D} {vs : List V}, RDs K F ρ ds vs → RDs K F' ρ' ds vs
  | _, _, .nil => .nil
  | _, _, .cons h r => .cons (RD.mono' e p h) (RDs.mono' e p r)
end
abbrev RV (K : PySem.W.Frag) (W : Wd) : D → V → Prop := RD K W.F W.rh
abbrev RVs (K : PySem.W.Frag) (W : Wd) : List D → List V → Prop := RDs K W.F W.rh
theorem pre_get {α : Type} {l l' t : List α} (e : l' = l ++ t) : ∀ (n : Nat) (a : α), l[n]? = some a → l'[n]? = some a := fun n a h => by
  rw [e, List.getElem?_append_left]
  · exact h
  · exact (List.getElem?_eq_some_iff.mp h).1
theorem RV.mono {K : PySem.W.Frag} {W W' : Wd} (h : W.le W') {d : D} {v : V} (r : RV K W d v) : RV K W' d v := by
  obtain ⟨h1, ⟨t, h2⟩, h3⟩ := h
  exact RD.mono' h1 (pre_get h2) r
theorem RVs.mono {K : PySem.W.Frag} {W W' : Wd} (h : W.le W') {d : List D} {v : List V} (r : RVs K W d v) : RVs K W' d v := by
  obtain ⟨h1, ⟨t, h2⟩, h3⟩ := h
  exact RDs.mono' h1 (pre_get h2) r
section
variable {K : PySem.W.Frag} {F : Hp} {ρ : List Addr}
theorem RDs.length : ∀ {ds : List D} {vs : List V}, RDs K F ρ ds vs → ds.length = vs.length
  | _, _, .nil => rfl
  | _, _, .cons _ r => by rw [List.length_cons, List.length_cons, RDs.length r]
theorem RDs.get : ∀ {ds : List D} {vs : List V} {i : Nat} {d : D}, RDs K F ρ ds vs → ds[i]? = some d → ∃ v, vs[i]? = some v ∧ RD K F ρ d v
  | _, _, _, _, .nil, e => by simp at e
  | _, _, 0, _, .cons r _, e => by simp at e; subst e; exact ⟨_, rfl, r⟩
  | _, _, i + 1, d, .cons _ t, e => by
    obtain ⟨v, h1, h2⟩ := RDs.get (i := i) (d := d) t (by simpa using e)
    exact ⟨v, by simpa using h1, h2⟩
theorem RDs.getV : ∀ {ds : List D} {vs : List V} {i : Nat} {v : V}, RDs K F ρ ds vs → vs[i]? = some v → ∃ d, ds[i]? = some d ∧ RD K F ρ d v
  | _, _, _, _, .nil, e => by simp at e
  | _, _, 0, _, .cons r _, e => by simp at e; subst e; exact ⟨_, rfl, r⟩
  | _, _, i + 1, d, .cons _ t, e => by
    obtain ⟨v, h1, h2⟩ := RDs.getV (i := i) (v := d) t (by simpa using e)
    exact ⟨v, by simpa using h1, h2⟩
theorem RDs.append : ∀ {ds es : List D} {vs us : List V}, RDs K F ρ ds vs → RDs K F ρ es us → RDs K F ρ (ds ++ es) (vs ++ us)
  | _, _, _, _, .nil, h => h
  | _, _, _, _, .cons r t, h => .cons r (RDs.append t h)
theorem RDs.take : ∀ {ds : List D} {vs : List V} (n : Nat), RDs K F ρ ds vs → RDs K F ρ (ds.take n) (vs.take n)
  | _, _, 0, _ => .nil
  | _, _, _ + 1, .nil => .nil
  | _, _, n + 1, .cons r t => .cons r (RDs.take n t)
theorem RDs.drop : ∀ {ds : List D} {vs : List V} (n : Nat), RDs K F ρ ds vs → RDs K F ρ (ds.drop n) (vs.drop n)
  | _, _, 0, h => h
  | _, _, _ + 1, .nil => .nil
  | _, _, n + 1, .cons r t => RDs.drop n t
theorem RDs.reverse : ∀ {ds : List D} {vs : List V}, RDs K F ρ ds vs → RDs K F ρ ds.reverse vs.reverse
  | _, _, .nil => .nil
  | _, _, .cons r t => by rw [List.reverse_cons, List.reverse_cons]; exact (RDs.reverse t).append (.cons r .nil)
theorem RDs.set : ∀ {ds : List D} {vs : List V} {d : D} {v : V} (n : Nat), RD K F ρ d v → RDs K F ρ ds vs → RDs K F ρ (ds.set n d) (vs.set n v)
  | _, _, _, _, _, _, .nil => .nil
  | _, _, _, _, 0, h, .cons r t => .cons h t
  | _, _, _, _, n + 1, h, .cons r t => .cons r (RDs.set n h t)
theorem RDs.eraseIdx : ∀ {ds : List D} {vs : List V} (n : Nat), RDs K F ρ ds vs → RDs K F ρ (ds.eraseIdx n) (vs.eraseIdx n)
  | _, _, _, .nil => .nil
  | _, _, 0, .cons r t => t
  | _, _, n + 1, .cons r t => .cons r (RDs.eraseIdx n t)
theorem RDs.strs : ∀ (xs : List Str), RDs K F ρ (xs.map D.str) (xs.map V.str)
  | [] => .nil
  | x :: xs => .cons (.str x) (RDs.strs xs)
theorem RDs.ints : ∀ (xs : List Int), RDs K F ρ (xs.map D.int) (xs.map V.int)
  | [] => .nil
  | x :: xs => .cons (.int x) (RDs.ints xs)
end

/-! ### a cell's object -/
inductive FsR (K : PySem.W.Frag) (W : Wd) : List (Str × D) → List (Str × V) → Prop
  | nil : FsR K W [] []
  | cons {f : Str} {d : D} {v : V} {fs : List (Str × D)} {gs : List (Str × V)} : RV K W d v → FsR K W fs gs → FsR K W ((f, d) :: fs) ((f, v) :: gs)
def CellR (K : PySem.W.Frag) (W : Wd) : Cell → Option HO → Prop
  | .lst ds, o => ∃ xs, o = some (.lst xs) ∧ RVs K W ds xs
  | .dct ks ds, o => ∃ xs, o = some (.dK (ks.zip xs)) ∧ ks.length = xs.length ∧ RVs K W ds xs
  | .ins c fs, o => ∃ dx gs, o = some (.ins (He.ga K c) dx gs) ∧ FsR K W fs gs
  | .dcf ks ds, o => ∃ xs ob, o = some (.frz ob (.dK (ks.zip xs))) ∧ ks.length = xs.length ∧ RVs K W ds xs
/-- a dict while it is walked -/
def Cell.isF : Cell → Bool
  | .dcf _ _ => true
  | _ => false
theorem FsR.mono {K : PySem.W.Frag} {W W' : Wd} (h : W.le W') : ∀ {fs : List (Str × D)} {gs : List (Str × V)}, FsR K W fs gs → FsR K W' fs gs
  | _, _, .nil => .nil
  | _, _, .cons r t => .cons (r.mono h) (FsR.mono h t)
theorem CellR.mono {K : PySem.W.Frag} {W W' : Wd} (h : W.le W') {c : Cell} {o : Option HO} (r : CellR K W c o) : CellR K W' c o := by
  cases c with
  | lst ds => obtain ⟨xs, e, r⟩ := r; exact ⟨xs, e, r.mono h⟩
  | dct ks ds => obtain ⟨xs, e, l, r⟩ := r; exact ⟨xs, e, l, r.mono h⟩
  | ins c fs => obtain ⟨dx, gs, e, r⟩ := r; exact ⟨dx, gs, e, r.mono h⟩
  | dcf ks ds => obtain ⟨xs, ob, e, l, r⟩ := r; exact ⟨xs, ob, e, l, r.mono h⟩

/-! ### what never changes: no table, and of a swap's texts the marks are known -/
def swA : List Str := ["a", "b", "X", " ", "~", "y"]
def swB : List Str := ["a", "b", "Y", " ", "~", "z"]
def isSwp (y z : Str) : Bool := decide (y ∈ swA) && decide (z ∈ swB)
def TokO (o : Obj) (y z : Str) : Prop := ∃ (w : Value) (u v : Tok) (n : Nat), o.cls = .type "tuple" ∧ o.data = .seq #[w, .str y u, .str z v] n ∧ u ≠ 0 ∧ v ≠ 0 ∧ u ≠ v
def FOk (o : HO) : Prop := (∀ ps, o ≠ .tbl ps) ∧ ∀ y z, isSwp y z = true → o ≠ .tup [.str "swap", .str y, .str z] ∧ ∀ ob, o = .frz ob (.tup [.str "swap", .str y, .str z]) → TokO ob y z
theorem fok_lst (xs : List V) : FOk (.lst xs) := ⟨(fun ps z => by cases z), fun y z _ => ⟨(fun h => by cases h), fun _ h => by cases h⟩⟩
theorem fok_dK (xs : List (Key × V)) : FOk (.dK xs) := ⟨(fun ps z => by cases z), fun y z _ => ⟨(fun h => by cases h), fun _ h => by cases h⟩⟩
theorem fok_ins (c dx : Addr) (gs : List (Str × V)) : FOk (.ins c dx gs) := ⟨(fun ps z => by cases z), fun y z _ => ⟨(fun h => by cases h), fun _ h => by cases h⟩⟩
theorem fok_frzD (ob : Obj) (xs : List (Key × V)) : FOk (.frz ob (.dK xs)) := ⟨(fun ps z => by cases z), fun y z _ => ⟨(fun h => by cases h), fun _ h => by cases h⟩⟩
theorem fok_frzL (ob : Obj) (xs : List V) : FOk (.frz ob (.lst xs)) := ⟨(fun ps z => by cases z), fun y z _ => ⟨(fun h => by cases h), fun _ h => by cases h⟩⟩
/-- no swap -/
def sw3 : D → D → D → Bool
  | .str w, .str y, .str z => decide (w = "swap") && isSwp y z
  | _, _, _ => false
def notSw : List D → Bool
  | [a, b, c] => !sw3 a b c
  | _ => true
theorem fok_tup {K : PySem.W.Frag} {F : Hp} {ρ : List Addr} {ds : List D} {xs : List V} (r : RDs K F ρ ds xs) (h : notSw ds = true) : FOk (.tup xs) := by
  refine ⟨(fun ps z => by cases z), fun y z hs => ⟨fun e => ?_, fun _ e => by cases e⟩⟩
  cases e
  cases r with
  | cons r1 r => cases r with
    | cons r2 r => cases r with
      | cons r3 r => cases r with
        | nil =>
          cases r1
          cases r2
          cases r3
          simp [notSw, sw3, hs] at h
/-! ### a store in a heap -/
abbrev Tb := List (Addr × Str)
structure RS (K : PySem.W.Frag) (T : Tb) (W : Wd) (st : Store) (H : Hp) : Prop where
  f : Same W.F H
  u : Same W.U H
  len : W.rh.length = st.length
  nd : W.rh.Nodup
  nf : ∀ (n : Nat) (c : Cell) (a : Addr), st[n]? = some c → W.rh[n]? = some a → (W.F a).isSome = c.isF
  nu : ∀ a ∈ W.rh, W.U a = none
  fu : ∀ a o, W.U a = some o → W.F a = none
  cell : ∀ (n : Nat) (c : Cell) (a : Addr), st[n]? = some c → W.rh[n]? = some a → CellR K W c (H a)
  tb : LamX.Tabs T H
  ntF : ∀ a o, W.F a = some o → FOk o
  ntU : ∀ a o, W.U a = some o → FOk o

section
variable {K : PySem.W.Frag} {T : Tb} {W : Wd} {st : Store} {H : Hp}
theorem RS.atCell (R : RS K T W st H) {a : Addr} (h : a ∈ W.rh) : ∃ (n : Nat) (c : Cell), st[n]? = some c ∧ W.rh[n]? = some a ∧ CellR K W c (H a) := by
  obtain ⟨n, hn, e⟩ := List.getElem_of_mem h
  have hn' : n < st.length := by rw [← R.len]; exact hn
  have e2 : W.rh[n]? = some a := by rw [List.getElem?_eq_getElem hn, e]
  exact ⟨n, st[n], by simp [hn'], e2, R.cell n _ a (by simp [hn']) e2⟩
theorem CellR.isObj {c : Cell} {o : Option HO} (r : CellR K W c o) : ∃ u, o = some u ∧ FOk u := by
  cases c with
  | lst ds => obtain ⟨xs, e, r⟩ := r; exact ⟨_, e, fok_lst _⟩
  | dct ks ds => obtain ⟨xs, e, l, r⟩ := r; exact ⟨_, e, fok_dK _⟩
  | ins c fs => obtain ⟨dx, gs, e, r⟩ := r; exact ⟨_, e, fok_ins _ _ _⟩
  | dcf ks ds => obtain ⟨xs, ob, e, l, r⟩ := r; exact ⟨_, e, fok_frzD _ _⟩
theorem RS.fresh (R : RS K T W st H) {p : Addr} (h : H p = none) : W.F p = none ∧ W.U p = none ∧ p ∉ W.rh := by
  refine ⟨?_, ?_, fun hm => ?_⟩
  · cases e : W.F p with
    | none => rfl
    | some o => rw [R.f p o e] at h; cases h
  · cases e : W.U p with
    | none => rfl
    | some o => rw [R.u p o e] at h; cases h
  · obtain ⟨n, c, _, _, r⟩ := R.atCell hm
    obtain ⟨u, e, _⟩ := r.isObj
    rw [h] at e; cases e
theorem tabs_upd {p : Addr} {o : HO} (t : LamX.Tabs T H) (h : ∀ u, H p = some u → (∀ ps, u ≠ .tbl ps)) (h2 : ∀ c q, H p ≠ some (LamX.CodeO c q)) : LamX.Tabs T (upd H p o) := fun q hq => by
  obtain ⟨ps, h1, h2', h3⟩ := t q hq
  have np : q.1 ≠ p := fun z => by rw [z] at h1; exact h _ h1 ps rfl
  refine ⟨ps, by rw [upd_ne np]; exact h1, h2', fun pos cv hc => ?_⟩
  obtain ⟨c, e1, e2⟩ := h3 pos cv hc
  refine ⟨c, e1, ?_⟩
  rw [upd_ne (fun z => by rw [z] at e2; exact h2 _ _ e2)]
  exact e2
theorem same_upd {F : Hp} {p : Addr} {o : HO} (h : F p = none) : Same F (upd F p o) := fun b u e => by
  rw [upd_ne (ne_of_none e h)]; exact e
/-- a new object that never changes -/
def Wd.addF (W : Wd) (p : Addr) (o : HO) : Wd := ⟨upd W.F p o, W.rh, W.U⟩
theorem RS.le_addF (R : RS K T W st H) {p : Addr} {o : HO} (h : H p = none) : W.le (W.addF p o) := ⟨same_upd (R.fresh h).1, ⟨[], by simp [Wd.addF]⟩, rfl⟩
theorem RS.newF (R : RS K T W st H) {p : Addr} {o : HO} (h : H p = none) (ho : FOk o) : RS K T (W.addF p o) st (upd H p o) := by
  obtain ⟨f1, f2, f3⟩ := R.fresh h
  have ne : ∀ a ∈ W.rh, a ≠ p := fun a ha z => f3 (z ▸ ha)
  refine ⟨fun b u e => ?_, fun b u e => ?_, R.len, R.nd, fun n c a h1 h2 => ?_, R.nu, fun a u e => ?_, fun n c a h1 h2 => ?_, tabs_upd R.tb (fun u e => by rw [h] at e; cases e) (fun c q e => by rw [h] at e; cases e), fun a u e => ?_, R.ntU⟩
  · by_cases hb : b = p
    · subst hb; simp only [Wd.addF, upd_same] at e ⊢; exact e
    · simp only [Wd.addF] at e; rw [upd_ne hb] at e ⊢; exact R.f b u e
  · rw [upd_ne (fun z => by rw [z] at e; exact absurd (show W.U p = some u from e) (by rw [f2]; simp))]; exact R.u b u e
  · show (upd W.F p o a).isSome = _
    rw [upd_ne (ne a (List.mem_of_getElem? h2))]; exact R.nf n c a h1 h2
  · show upd W.F p o a = none
    rw [upd_ne (fun z => by rw [z] at e; exact absurd (show W.U p = some u from e) (by rw [f2]; simp))]; exact R.fu a u e
  · rw [upd_ne (ne a (List.mem_of_getElem? h2))]
    exact (R.cell n c a h1 h2).mono (R.le_addF h)
  · by_cases hb : a = p
    · subst hb; simp only [Wd.addF, upd_same] at e; cases e; exact ho
    · simp only [Wd.addF] at e; rw [upd_ne hb] at e; exact R.ntF a u e
/-- a new cell -/
def Wd.addC (W : Wd) (p : Addr) : Wd := ⟨W.F, W.rh ++ [p], W.U⟩
theorem Wd.le_addC (W : Wd) (p : Addr) : W.le (W.addC p) := ⟨fun _ _ h => h, ⟨[p], rfl⟩, rfl⟩
theorem RS.newC (R : RS K T W st H) {p : Addr} {o : HO} {c : Cell} (h : H p = none) (ho : CellR K (W.addC p) c (some o)) (hc : c.isF = false := by rfl) : RS K T (W.addC p) (st ++ [c]) (upd H p o) := by
  obtain ⟨f1, f2, f3⟩ := R.fresh h
  have ne : ∀ a ∈ W.rh, a ≠ p := fun a ha z => f3 (z ▸ ha)
  refine ⟨fun b u e => ?_, fun b u e => ?_, by simp [Wd.addC, R.len], ?_, fun n c' a h1 h2 => ?_, fun a ha => ?_, R.fu, fun n c' a h1 h2 => ?_, tabs_upd R.tb (fun u e => by rw [h] at e; cases e) (fun c q e => by rw [h] at e; cases e), R.ntF, R.ntU⟩
  · rw [upd_ne (fun z => by rw [z] at e; exact absurd (show W.F p = some u from e) (by rw [f1]; simp))]; exact R.f b u e
  · rw [upd_ne (fun z => by rw [z] at e; exact absurd (show W.U p = some u from e) (by rw [f2]; simp))]; exact R.u b u e
  · show (W.rh ++ [p]).Nodup
    rw [List.nodup_append]
    exact ⟨R.nd, by simp, fun a ha b hb z => f3 (by simp at hb; rw [← hb, ← z]; exact ha)⟩
  · have h2' : (W.rh ++ [p])[n]? = some a := h2
    by_cases hn : n < W.rh.length
    · rw [List.getElem?_append_left hn] at h2'
      rw [List.getElem?_append_left (by rw [← R.len]; exact hn)] at h1
      exact R.nf n c' a h1 h2'
    · have hl : n = W.rh.length := by
        have := (List.getElem?_eq_some_iff.mp h2').1
        rw [List.length_append] at this; simp at this; omega
      subst hl
      rw [List.getElem?_append_right (Nat.le_refl _)] at h2'
      rw [R.len, List.getElem?_append_right (Nat.le_refl _)] at h1
      simp at h1 h2'
      subst h1 h2'
      show (W.F p).isSome = _
      rw [f1, hc]
      rfl
  · rcases List.mem_append.mp ha with ha | ha
    · exact R.nu a ha
    · simp at ha; subst ha; exact f2
  · have h2' : (W.rh ++ [p])[n]? = some a := h2
    by_cases hn : n < W.rh.length
    · rw [List.getElem?_append_left hn] at h2'
      rw [List.getElem?_append_left (by rw [← R.len]; exact hn)] at h1
      rw [upd_ne (ne a (List.mem_of_getElem? h2'))]
      exact (R.cell n c' a h1 h2').mono (W.le_addC p)
    · have hl : n = W.rh.length := by
        have := (List.getElem?_eq_some_iff.mp h2').1
        rw [List.length_append] at this; simp at this; omega
      subst hl
      rw [List.getElem?_append_right (Nat.le_refl _)] at h2'
      rw [R.len, List.getElem?_append_right (Nat.le_refl _)] at h1
      simp at h1 h2'
      subst h1 h2'
      rw [upd_same]; exact ho
/-- a cell is changed -/
theorem RS.setC (R : RS K T W st H) {p : Addr} {o : HO} {c : Cell} {n : Nat} (hp : W.rh[n]? = some p) (ho : CellR K W c (some o)) {c0 : Cell} (h0 : st[n]? = some c0) (hf : c0.isF = false := by rfl) (hc : c.isF = false := by rfl) : RS K T W (st.set n c) (upd H p o) := by
  have hFp : W.F p = none := by
    have := R.nf n c0 p h0 hp
    rw [hf] at this
    simpa using this
  have hm : p ∈ W.rh := List.mem_of_getElem? hp
  obtain ⟨n', c', e1, e2, r⟩ := R.atCell hm
  obtain ⟨u0, eu, nt⟩ := r.isObj
  refine ⟨fun b u e => ?_, fun b u e => ?_, by simp [R.len], R.nd, fun m c' a h1 h2 => ?_, R.nu, R.fu, fun m c' a h1 h2 => ?_, tabs_upd R.tb (fun u e => by rw [eu] at e; cases e; exact nt.1) (fun c q e => ?_), R.ntF, R.ntU⟩
  · rw [upd_ne (fun z => by rw [z] at e; exact absurd (show W.F p = some u from e) (by rw [hFp]; simp))]; exact R.f b u e
  · rw [upd_ne (fun z => by rw [z] at e; exact absurd (show W.U p = some u from e) (by rw [R.nu p hm]; simp))]; exact R.u b u e
  · by_cases hmn : m = n
    · subst hmn
      rw [hp] at h2; cases h2
      have hlt : m < st.length := by rw [← R.len]; exact (List.getElem?_eq_some_iff.mp hp).1
      rw [List.getElem?_set_self hlt] at h1
      cases h1
      rw [hFp, hc]
      rfl
    · rw [List.getElem?_set_ne (Ne.symm hmn)] at h1
      exact R.nf m c' a h1 h2
  · by_cases hmn : m = n
    · subst hmn
      rw [hp] at h2; cases h2
      rw [upd_same]
      have hlt : m < st.length := by rw [← R.len]; exact (List.getElem?_eq_some_iff.mp hp).1
      rw [List.getElem?_set_self hlt] at h1
      cases h1; exact ho
    · rw [List.getElem?_set_ne (Ne.symm hmn)] at h1
      have hap : a ≠ p := fun z => hmn ((List.getElem?_inj (by exact (List.getElem?_eq_some_iff.mp h2).1) R.nd).mp (by rw [h2, hp, z]))
      rw [upd_ne hap]
      exact R.cell m c' a h1 h2
  · rw [e] at eu
    cases c' with
    | lst ds => obtain ⟨xs, z, _⟩ := r; rw [z] at e; unfold LamX.CodeO at e; cases e
    | dct ks ds => obtain ⟨xs, z, _⟩ := r; rw [z] at e; unfold LamX.CodeO at e; cases e
    | ins c fs => obtain ⟨dx, gs, z, _⟩ := r; rw [z] at e; unfold LamX.CodeO at e; cases e
    | dcf ks ds => obtain ⟨xs, ob, z, _⟩ := r; rw [z] at e; unfold LamX.CodeO at e; cases e
end
end Mr
namespace Mr
open PySem PySem.Spec L2

def Res.bind {α β : Type} : Res α → (α → Store → Res β) → Res β
  | .ok a st, f => f a st
  | .ex c st, _ => .ex c st
  | .no, _ => .no
def Res.of {α : Type} (o : Option α) (st : Store) : Res α := match o with
  | some a => .ok a st
  | none => .no
theorem Res.ok_bind {α β : Type} (a : α) (st : Store) (f : α → Store → Res β) : (Res.ok a st).bind f = f a st := rfl
theorem Res.of_some {α : Type} (a : α) (st : Store) : Res.of (some a) st = .ok a st := rfl

/-- what is wanted of a result -/
def PostG (K : PySem.W.Frag) (T : Tb) (E : XK) (W : Wd) {α β : Type} (R : Wd → α → β → Prop) (r : Res α) (Q : β → Hp → Prop) : Prop := match r with
  | .ok a st => ∀ W' b H', W.le W' → R W' a b → RS K T W' st H' → Q b H'
  | .ex c st => ∀ W' H', W.le W' → RS K T W' st H' → E (.ref (He.ga K c)) none H'
  | .no => False
section
variable {K : PySem.W.Frag} {T : Tb} {E : XK} {W W1 : Wd} {α β γ δ : Type} {R : Wd → α → β → Prop} {R1 : Wd → γ → δ → Prop} {Q : β → Hp → Prop} {Q1 : δ → Hp → Prop}
theorem PostG.mono {r : Res α} (l : W.le W1) (p : PostG K T E W R r Q) : PostG K T E W1 R r Q := by
  cases r with
  | ok a st => exact fun W' b H' h r s => p W' b H' (l.trans h) r s
  | ex c st => exact fun W' H' h s => p W' H' (l.trans h) s
  | no => exact p
theorem PostG.step {r : Res γ} {f : γ → Store → Res α} (p : PostG K T E W R (r.bind f) Q)
    (k : ∀ a st1 W1 b H1, r = .ok a st1 → W.le W1 → R1 W1 a b → RS K T W1 st1 H1 → PostG K T E W1 R (f a st1) Q → Q1 b H1) : PostG K T E W R1 r Q1 := by
  cases r with
  | ok a st => exact fun W' b H' h r s => k a st W' b H' rfl h r s (PostG.mono h p)
  | ex c st => exact p
  | no => exact p
theorem PostG.imp {r : Res α} {Q' : β → Hp → Prop} (p : PostG K T E W R r Q) (h : ∀ b H, Q b H → Q' b H) : PostG K T E W R r Q' := by
  cases r with
  | ok a st => exact fun W' b H' l r s => h _ _ (p W' b H' l r s)
  | ex c st => exact p
  | no => exact p
end

/-! ### the frame's names -/
structure RE (K : PySem.W.Frag) (W : Wd) (env : Env') (σ : St) : Prop where
  len : env.length = σ.length
  at_ : ∀ (i : Nat) (d : D), env[i]? = some (some d) → ∃ v, σ[i]? = some (some v) ∧ RV K W d v
theorem RE.mono {K : PySem.W.Frag} {W W' : Wd} {env : Env'} {σ : St} (h : W.le W') (r : RE K W env σ) : RE K W' env σ :=
  ⟨r.len, fun i d e => let ⟨v, h1, h2⟩ := r.at_ i d e; ⟨v, h1, h2.mono h⟩⟩
theorem RE.set {K : PySem.W.Frag} {W : Wd} {env : Env'} {σ : St} {d : D} {v : V} (r : RE K W env σ) (i : Nat) (h : RV K W d v) : RE K W (env.set i (some d)) (σ.set i (some v)) := by
  refine ⟨by simp [r.len], fun j e he => ?_⟩
  by_cases hj : j = i
  · subst hj
    have hlt : j < env.length := by
      have := (List.getElem?_eq_some_iff.mp he).1
      simpa using this
    rw [List.getElem?_set_self hlt] at he
    cases he
    exact ⟨v, by rw [List.getElem?_set_self (by rw [← r.len]; exact hlt)], h⟩
  · rw [List.getElem?_set_ne (Ne.symm hj)] at he
    obtain ⟨u, h1, h2⟩ := r.at_ j e he
    exact ⟨u, by rw [List.getElem?_set_ne (Ne.symm hj)]; exact h1, h2⟩
theorem RE.clear {K : PySem.W.Frag} {W : Wd} {env : Env'} {σ : St} (r : RE K W env σ) (i : Nat) : RE K W (env.set i none) σ := by
  refine ⟨by simp [r.len], fun j e he => ?_⟩
  by_cases hj : j = i
  · subst hj
    by_cases hlt : j < env.length
    · rw [List.getElem?_set_self hlt] at he; cases he
    · rw [List.set_eq_of_length_le (by omega)] at he
      exact r.at_ j e he
  · rw [List.getElem?_set_ne (Ne.symm hj)] at he
    exact r.at_ j e he

abbrev Ev (α : Type) := Env' → Store → Res α
/-- the reading that a mirror gives -/
def tG (K : PySem.W.Frag) (T : Tb) (Wx : WX) {α β : Type} (R : Wd → α → β → Prop) (m : Ev α) : St → Hp → (β → Hp → Prop) → Prop := fun σ H Q =>
  ∃ (W : Wd) (env : Env') (st : Store), RE K W env σ ∧ RS K T W st H ∧ PostG K T (fun c d H => Wx c d σ H) W R (m env st) Q
abbrev RB (W : Wd) (b c : Bool) : Prop := b = c
abbrev tE (K : PySem.W.Frag) (T : Tb) (Wx : WX) (m : Ev D) : TE := tG K T Wx (RV K) m
abbrev tT (K : PySem.W.Frag) (T : Tb) (Wx : WX) (m : Ev Bool) : TT := tG K T Wx RB m
abbrev tA (K : PySem.W.Frag) (T : Tb) (Wx : WX) (m : Ev (List D)) : TA := tG K T Wx (RVs K) m
def SE (T : Tb) (Wx : WX) (X : Cx) (e : Expr) (m : Ev D) : Prop := PE X e (tE X.K T Wx m)
def SX (T : Tb) (Wx : WX) (X : Cx) (e : Expr) (m : Ev Bool) : Prop := PT X e (tT X.K T Wx m)
def SW (T : Tb) (Wx : WX) (X : Cx) (e : Expr) (m : Ev Bool) : Prop := PW X e (tT X.K T Wx m)
def SA (T : Tb) (Wx : WX) (X : Cx) (es : List Expr) (m : Ev (List D)) : Prop := PA X es (tA X.K T Wx m)

theorem PE.imp {X : Cx} {e : Expr} {t t' : TE} (h : PE X e t) (i : ∀ σ H Q, t' σ H Q → t σ H Q) : PE X e t' := ⟨fun pins s σ H Q I q => h.run pins s σ H Q I (i σ H Q q)⟩
theorem PT.imp {X : Cx} {e : Expr} {t t' : TT} (h : PT X e t) (i : ∀ σ H Q, t' σ H Q → t σ H Q) : PT X e t' := ⟨fun pins s σ H Q I q => h.run pins s σ H Q I (i σ H Q q)⟩
theorem PW.imp {X : Cx} {e : Expr} {t t' : TT} (h : PW X e t) (i : ∀ σ H Q, t' σ H Q → t σ H Q) : PW X e t' := ⟨fun wh pins s σ H Q I q => h.run wh pins s σ H Q I (i σ H Q q)⟩
theorem PA.imp {X : Cx} {e : List Expr} {t t' : TA} (h : PA X e t) (i : ∀ σ H Q, t' σ H Q → t σ H Q) : PA X e t' := ⟨fun pos pins s σ H Q I q => h.run pos pins s σ H Q I (i σ H Q q)⟩
theorem PS.imp {X : Cx} {e : Stmt} {t t' : TS} (h : PS X e t) (i : ∀ D σ H, t' D σ H → t D σ H) : PS X e t' := ⟨fun pins s σ H D I q => h.run pins s σ H D I (i D σ H q)⟩
theorem PSs.imp {X : Cx} {e : List Stmt} {t t' : TS} (h : PSs X e t) (i : ∀ D σ H, t' D σ H → t D σ H) : PSs X e t' := ⟨fun pins s σ H D I q => h.run pins s σ H D I (i D σ H q)⟩

section
variable {T : Tb} {Wx : WX} {X : Cx} {pos : Pos} {a b c : Expr} {ma mb mc : Ev D}
/-! ### names, constants -/
def mVar (i : Nat) : Ev D := fun env st => match env[i]? with
  | some (some d) => .ok d st
  | _ => .no
def mC (d : D) : Ev D := fun _ st => .ok d st
theorem so_var {e : Expr} {i : Nat} (h : PE X e (tVar i)) : SE T Wx X e (mVar i) := PE.imp h fun σ H Q q => by
  obtain ⟨W, env, st, re, rs, p⟩ := q
  unfold mVar at p
  split at p
  · rename_i d e
    obtain ⟨v, h1, h2⟩ := re.at_ i d e
    exact ⟨v, h1, p W v H (Wd.le.refl W) h2 rs⟩
  · exact p.elim
theorem so_const {e : Expr} {v : V} {d : D} (h : PE X e (tC v)) (r : ∀ W : Wd, RV X.K W d v) : SE T Wx X e (mC d) := PE.imp h fun σ H Q q => by
  obtain ⟨W, env, st, re, rs, p⟩ := q
  exact p W v H (Wd.le.refl W) (r W) rs
theorem so_int {i : Int} {j : Nat} : SE T Wx X (.Constant (.int i) j pos) (mC (.int i)) := so_const pe_int fun _ => .int i
theorem so_str {x : Str} {j : Nat} : SE T Wx X (.Constant (.str x) j pos) (mC (.str x)) := so_const pe_str fun _ => .str x
theorem so_bl {b : Bool} {j : Nat} : SE T Wx X (.Constant (.bool b) j pos) (mC (.bl b)) := so_const pe_bl fun _ => .bl b
theorem so_non {j : Nat} : SE T Wx X (.Constant .none j pos) (mC .non) := so_const pe_non fun _ => .non

/-! ### operators -/
/-- an operator by values: no store is changed -/
def rO (K : PySem.W.Frag) (T : Tb) (g : Store → D → D → Option D) : R2 := fun x y H Q =>
  ∃ W st d e z, RV K W d x ∧ RV K W e y ∧ RS K T W st H ∧ g st d e = some z ∧ ∀ W' v H', W.le W' → RV K W' z v → RS K T W' st H' → Q v H'
def mBin (g : Store → D → D → Option D) (ma mb : Ev D) : Ev D := fun env st => (ma env st).bind fun d st => (mb env st).bind fun e st => Res.of (g st d e) st
theorem bin_read {K : PySem.W.Frag} {g : Store → D → D → Option D} (σ : St) (H : Hp) (Q : VK) (q : tE K T Wx (mBin g ma mb) σ H Q) : tOp (rO K T g) (tE K T Wx ma) (tE K T Wx mb) σ H Q := by
  obtain ⟨W, env, st, re, rs, p⟩ := q
  refine ⟨W, env, st, re, rs, PostG.step p fun d st1 W1 x H1 _ l1 r1 rs1 p1 => ?_⟩
  refine ⟨W1, env, st1, re.mono l1, rs1, PostG.step p1 fun e st2 W2 y H2 _ l2 r2 rs2 p2 => ?_⟩
  cases hz : g st2 d e with
  | none => rw [hz] at p2; exact p2.elim
  | some z =>
    rw [hz] at p2
    exact ⟨W2, st2, d, e, z, r1.mono l2, r2, rs2, hz, p2⟩
theorem so_bin {op : Operator} {g : Store → D → D → Option D} (ho : OpR X (binaryOp op) (rO X.K T g)) (ha : SE T Wx X a ma) (hb : SE T Wx X b mb) : SE T Wx X (.BinOp a op b pos) (mBin g ma mb) :=
  PE.imp (pe_op ho ha hb) (bin_read (K := X.K))
theorem so_cmp {op : CmpOp} {g : Store → D → D → Option D} (ho : OpR X (compareOp op) (rO X.K T g)) (ha : SE T Wx X a ma) (hb : SE T Wx X b mb) (hm : behindInMarks op b = false) : SE T Wx X (.Compare a [op] [b] pos) (mBin g ma mb) :=
  PE.imp (pe_cmpR ho ha hb hm) (bin_read (K := X.K))
/-- a test by a value that is a bool -/
def asB : D → Option Bool
  | .bl b => some b
  | _ => none
def mTest (m : Ev D) : Ev Bool := fun env st => (m env st).bind fun d st => Res.of (asB d) st
theorem test_read {K : PySem.W.Frag} {m : Ev D} (σ : St) (H : Hp) (Q : Bool → Hp → Prop) (q : tT K T Wx (mTest m) σ H Q) : tE K T Wx m σ H fun x H' => ∃ k, x = .bl k ∧ Q k H' := by
  obtain ⟨W, env, st, re, rs, p⟩ := q
  refine ⟨W, env, st, re, rs, PostG.step p fun d st1 W1 x H1 _ l1 r1 rs1 p1 => ?_⟩
  cases d with
  | bl b => cases r1; exact ⟨b, rfl, p1 W1 b H1 (Wd.le.refl _) rfl rs1⟩
  | _ => exact p1.elim
theorem sx_cmp {op : CmpOp} {g : Store → D → D → Option D} (ho : OpR X (compareOp op) (rO X.K T g)) (ha : SE T Wx X a ma) (hb : SE T Wx X b mb) (hm : behindInMarks op b = false) : SX T Wx X (.Compare a [op] [b] pos) (mTest (mBin g ma mb)) :=
  PT.imp (pt_cmpR ho ha hb hm) fun σ H Q q => by
    have h := test_read σ H Q q
    exact bin_read σ H _ h
/-- a <= b <= c -/
def mChain (g g' : Store → D → D → Option D) (ma mb mc : Ev D) : Ev D := fun env st => (ma env st).bind fun d st => (mb env st).bind fun e st => (Res.of (g st d e) st).bind fun z st => match z with
  | .bl true => (mc env st).bind fun f st => Res.of (g' st e f) st
  | .bl false => .ok (.bl false) st
  | _ => .no
theorem chain_read {K : PySem.W.Frag} {g g' : Store → D → D → Option D} (σ : St) (H : Hp) (Q : VK) (q : tE K T Wx (mChain g g' ma mb mc) σ H Q) : tChain (rO K T g) (rO K T g') (tE K T Wx ma) (tE K T Wx mb) (tE K T Wx mc) σ H Q := by
  obtain ⟨W, env, st, re, rs, p⟩ := q
  refine ⟨W, env, st, re, rs, PostG.step p fun d st1 W1 x H1 _ l1 r1 rs1 p1 => ?_⟩
  refine ⟨W1, env, st1, re.mono l1, rs1, PostG.step p1 fun e st2 W2 y H2 _ l2 r2 rs2 p2 => ?_⟩
  cases hz : g st2 d e with
  | none => rw [hz] at p2; exact p2.elim
  | some z =>
    rw [hz] at p2
    refine ⟨W2, st2, d, e, z, r1.mono l2, r2, rs2, hz, fun W3 v H3 l3 r3 rs3 => ?_⟩
    cases z with
    | bl k =>
      cases r3
      refine ⟨k, rfl, ?_⟩
      cases k with
      | true =>
        refine ⟨W3, env, st2, (re.mono l1).mono (l2.trans l3), rs3, PostG.step (PostG.mono l3 p2) fun f st4 W4 w H4 _ l4 r4 rs4 p4 => ?_⟩
        cases hz' : g' st4 e f with
        | none => rw [hz'] at p4; exact p4.elim
        | some z' =>
          rw [hz'] at p4
          exact ⟨W4, st4, e, f, z', (r2.mono l3).mono l4, r4, rs4, hz', p4⟩
      | false => exact p2 W3 (.bl false) H3 l3 (.bl false) rs3
    | _ => exact p2.elim
theorem so_chain {op op' : CmpOp} {g g' : Store → D → D → Option D} (ho : OpR X (compareOp op) (rO X.K T g)) (ho' : OpR X (compareOp op') (rO X.K T g')) (ha : SE T Wx X a ma) (hb : SE T Wx X b mb) (hc : SE T Wx X c mc) (hm : lastMarks [op, op'] [b, c] = false := by with_unfolding_all rfl) : SE T Wx X (.Compare a [op, op'] [b, c] pos) (mChain g g' ma mb mc) :=
  PE.imp (pe_chain ho ho' ha hb hc hm) (chain_read (K := X.K))
theorem sx_chain {op op' : CmpOp} {g g' : Store → D → D → Option D} (ho : OpR X (compareOp op) (rO X.K T g)) (ho' : OpR X (compareOp op') (rO X.K T g')) (ha : SE T Wx X a ma) (hb : SE T Wx X b mb) (hc : SE T Wx X c mc) (hm : lastMarks [op, op'] [b, c] = false := by with_unfolding_all rfl) : SX T Wx X (.Compare a [op, op'] [b, c] pos) (mTest (mChain g g' ma mb mc)) :=
  PT.imp (pt_chain ho ho' ha hb hc hm) fun σ H Q q => by
    have h := test_read σ H Q q
    exact chain_read σ H _ h
end
end Mr
namespace Mr
open PySem PySem.Spec L2
section
variable {T : Tb} {Wx : WX} {X : Cx} {pos : Pos} {a b c : Expr} {rest : List Expr} {ma mb mc : Ev D} {ta tb : Ev Bool}
/-! ### and, or, not: tests -/
def mAndT (ta tb : Ev Bool) : Ev Bool := fun env st => (ta env st).bind fun k st => if k = true then tb env st else .ok false st
def mOrT (ta tb : Ev Bool) : Ev Bool := fun env st => (ta env st).bind fun k st => if k = true then .ok true st else tb env st
def mNotT (ta : Ev Bool) : Ev Bool := fun env st => (ta env st).bind fun k st => .ok (!k) st
theorem sw_and1 (h : SX T Wx X a ta) : SW T Wx X (.BoolOp .And [a] pos) ta := pw_and1 h
theorem sw_or1 (h : SX T Wx X a ta) : SW T Wx X (.BoolOp .Or [a] pos) ta := pw_or1 h
theorem sw_and (h : SX T Wx X a ta) (g : SW T Wx X (.BoolOp .And (b :: rest) pos) tb) : SW T Wx X (.BoolOp .And (a :: b :: rest) pos) (mAndT ta tb) := PW.imp (pw_and h g) fun σ H Q q => by
  obtain ⟨W, env, st, re, rs, p⟩ := q
  refine ⟨W, env, st, re, rs, PostG.step p fun k st1 W1 x H1 _ l1 r1 rs1 p1 => ?_⟩
  cases r1
  cases k with
  | true => exact ⟨W1, env, st1, re.mono l1, rs1, p1⟩
  | false => exact p1 W1 false H1 (Wd.le.refl _) rfl rs1
theorem sw_or (h : SX T Wx X a ta) (g : SW T Wx X (.BoolOp .Or (b :: rest) pos) tb) : SW T Wx X (.BoolOp .Or (a :: b :: rest) pos) (mOrT ta tb) := PW.imp (pw_or h g) fun σ H Q q => by
  obtain ⟨W, env, st, re, rs, p⟩ := q
  refine ⟨W, env, st, re, rs, PostG.step p fun k st1 W1 x H1 _ l1 r1 rs1 p1 => ?_⟩
  cases r1
  cases k with
  | true => exact p1 W1 true H1 (Wd.le.refl _) rfl rs1
  | false => exact ⟨W1, env, st1, re.mono l1, rs1, p1⟩
theorem sx_bool {op : BoolOp} (h : SW T Wx X (.BoolOp op rest pos) ta) : SX T Wx X (.BoolOp op rest pos) ta := PW.pt h
theorem sx_not (h : SX T Wx X a ta) : SX T Wx X (.UnaryOp .Not a pos) (mNotT ta) := PT.imp (pt_not h) fun σ H Q q => by
  obtain ⟨W, env, st, re, rs, p⟩ := q
  refine ⟨W, env, st, re, rs, PostG.step p fun k st1 W1 x H1 _ l1 r1 rs1 p1 => ?_⟩
  cases r1
  exact p1 W1 (!k) H1 (Wd.le.refl _) rfl rs1
/-! ### by truth -/
def tru (st : Store) : D → Option Bool
  | .non => some false
  | .bl b => some b
  | .int i => some (i != 0)
  | .str x => if x.length ≤ sizeLine then some ((x.length : Int) != 0) else none
  | .lst xs => some (!xs.isEmpty)
  | .fix xs => some (!xs.isEmpty)
  | .tup xs => some (!xs.isEmpty)
  | .dct ks _ => none
  | .ty _ => none
  | .ref n => match st[n]? with
    | some (.lst xs) => some (!xs.isEmpty)
    | _ => none
def mTru (m : Ev D) : Ev Bool := fun env st => (m env st).bind fun d st => Res.of (tru st d) st
theorem RDs.isEmpty {K : PySem.W.Frag} {F : Hp} {ρ : List Addr} {ds : List D} {vs : List V} (h : RDs K F ρ ds vs) : ds.isEmpty = vs.isEmpty := by cases h <;> rfl
theorem tru_ok {K : PySem.W.Frag} {W : Wd} {st : Store} {H : Hp} {d : D} {v : V} {k : Bool} (rs : RS K T W st H) (r : RV K W d v) (e : tru st d = some k) : TruV K v H k := by
  cases r with
  | non => cases e; rfl
  | bl b => cases e; rfl
  | int i => cases e; rfl
  | str x =>
    simp only [tru] at e
    split at e
    · cases e; exact ⟨by assumption, rfl⟩
    · cases e
  | lst h q => cases e; exact .inl ⟨_, .inl (.inl (rs.f _ _ h)), by rw [q.isEmpty]⟩
  | fix h q => cases e; exact .inl ⟨_, sqL_mono rs.f h, by rw [q.isEmpty]⟩
  | tup h q => cases e; exact .inr (.inl ⟨_, sqT_mono rs.f h, by rw [q.isEmpty]⟩)
  | dct _ _ _ => cases e
  | ty _ => cases e
  | ref h =>
    simp only [tru] at e
    split at e
    · rename_i xs hs
      obtain ⟨vs, h1, q⟩ := rs.cell _ _ _ hs h
      cases e
      exact .inl ⟨_, .inl (.inl h1), by rw [q.isEmpty]⟩
    · cases e
theorem sx_tru (h : SE T Wx X a ma) (he : ∀ whole, isTrue a X.env whole = (do let v ← whole; standAt a.pos; holding [v] (truthy v)) := by intro _; rfl) : SX T Wx X a (mTru ma) := PT.imp (pt_truth h he) fun σ H Q q => by
  obtain ⟨W, env, st, re, rs, p⟩ := q
  refine ⟨W, env, st, re, rs, PostG.step p fun d st1 W1 x H1 _ l1 r1 rs1 p1 => ?_⟩
  cases hz : tru st1 d with
  | none => rw [hz] at p1; exact p1.elim
  | some k =>
    rw [hz] at p1
    exact ⟨k, tru_ok rs1 r1 hz, p1 W1 k H1 (Wd.le.refl _) rfl rs1⟩
/-! ### and, or, not as values (bools ahead) -/
def mAnd (ma mb : Ev D) : Ev D := fun env st => (ma env st).bind fun d st => match d with
  | .bl true => mb env st
  | .bl false => .ok (.bl false) st
  | _ => .no
def mOr (ma mb : Ev D) : Ev D := fun env st => (ma env st).bind fun d st => match d with
  | .bl true => .ok (.bl true) st
  | .bl false => mb env st
  | _ => .no
def mNot (ma : Ev D) : Ev D := fun env st => (ma env st).bind fun d st => match d with
  | .bl k => .ok (.bl (!k)) st
  | _ => .no
theorem so_one {op : BoolOp} (h : SE T Wx X a ma) : SE T Wx X (.BoolOp op [a] pos) ma := pe_one h
theorem so_and (h : SE T Wx X a ma) (g : SE T Wx X (.BoolOp .And (b :: rest) pos) mb) : SE T Wx X (.BoolOp .And (a :: b :: rest) pos) (mAnd ma mb) := PE.imp (pe_and h g) fun σ H Q q => by
  obtain ⟨W, env, st, re, rs, p⟩ := q
  refine ⟨W, env, st, re, rs, PostG.step p fun d st1 W1 x H1 _ l1 r1 rs1 p1 => ?_⟩
  cases d with
  | bl k =>
    cases r1
    refine ⟨k, rfl, ?_⟩
    cases k with
    | true => exact ⟨W1, env, st1, re.mono l1, rs1, p1⟩
    | false => exact p1 W1 (.bl false) H1 (Wd.le.refl _) (.bl false) rs1
  | _ => exact p1.elim
theorem so_or (h : SE T Wx X a ma) (g : SE T Wx X (.BoolOp .Or (b :: rest) pos) mb) : SE T Wx X (.BoolOp .Or (a :: b :: rest) pos) (mOr ma mb) := PE.imp (pe_or h g) fun σ H Q q => by
  obtain ⟨W, env, st, re, rs, p⟩ := q
  refine ⟨W, env, st, re, rs, PostG.step p fun d st1 W1 x H1 _ l1 r1 rs1 p1 => ?_⟩
  cases d with
  | bl k =>
    cases r1
    refine ⟨k, rfl, ?_⟩
    cases k with
    | true => exact p1 W1 (.bl true) H1 (Wd.le.refl _) (.bl true) rs1
    | false => exact ⟨W1, env, st1, re.mono l1, rs1, p1⟩
  | _ => exact p1.elim
theorem so_not (h : SE T Wx X a ma) : SE T Wx X (.UnaryOp .Not a pos) (mNot ma) := PE.imp (pe_not h) fun σ H Q q => by
  obtain ⟨W, env, st, re, rs, p⟩ := q
  refine ⟨W, env, st, re, rs, PostG.step p fun d st1 W1 x H1 _ l1 r1 rs1 p1 => ?_⟩
  cases d with
  | bl k =>
    cases r1
    exact ⟨k, rfl, p1 W1 (.bl (!k)) H1 (Wd.le.refl _) (.bl _) rs1⟩
  | _ => exact p1.elim
def mIfE (tc : Ev Bool) (ma mb : Ev D) : Ev D := fun env st => (tc env st).bind fun k st => if k = true then ma env st else mb env st
theorem so_if (hc : SX T Wx X c ta) (ha : SE T Wx X a ma) (hb : SE T Wx X b mb) : SE T Wx X (.IfExp c a b pos) (mIfE ta ma mb) := PE.imp (pe_ifExp hc ha hb) fun σ H Q q => by
  obtain ⟨W, env, st, re, rs, p⟩ := q
  refine ⟨W, env, st, re, rs, PostG.step p fun k st1 W1 x H1 _ l1 r1 rs1 p1 => ?_⟩
  cases r1
  cases k with
  | true => exact ⟨W1, env, st1, re.mono l1, rs1, p1⟩
  | false => exact ⟨W1, env, st1, re.mono l1, rs1, p1⟩
/-- -a -/
def mNeg (ma : Ev D) : Ev D := fun env st => (ma env st).bind fun d st => match d with
  | .int i => .ok (.int (-i)) st
  | _ => .no
theorem so_neg (h : SE T Wx X a ma) : SE T Wx X (.UnaryOp .USub a pos) (mNeg ma) := PE.imp (pe_un un_neg h) fun σ H Q q => by
  obtain ⟨W, env, st, re, rs, p⟩ := q
  refine ⟨W, env, st, re, rs, PostG.step p fun d st1 W1 x H1 _ l1 r1 rs1 p1 => ?_⟩
  cases d with
  | int i => cases r1; exact ⟨i, rfl, p1 W1 (.int (-i)) H1 (Wd.le.refl _) (.int _) rs1⟩
  | _ => exact p1.elim

/-! ### arguments, displays -/
variable {es : List Expr} {ms : Ev (List D)}
def mNil : Ev (List D) := fun _ st => .ok [] st
def mCons (ma : Ev D) (ms : Ev (List D)) : Ev (List D) := fun env st => (ma env st).bind fun d st => (ms env st).bind fun ds st => .ok (d :: ds) st
theorem sa_nil : SA T Wx X [] mNil := PA.imp pa_nil fun σ H Q q => by
  obtain ⟨W, env, st, re, rs, p⟩ := q
  exact p W [] H (Wd.le.refl _) .nil rs
theorem sa_cons (h : SE T Wx X a ma) (g : SA T Wx X es ms) (hs : starEach (a :: es) X.env = (false, eval a X.env) :: starEach es X.env := by rfl) : SA T Wx X (a :: es) (mCons ma ms) := PA.imp (pa_cons h g hs) fun σ H Q q => by
  obtain ⟨W, env, st, re, rs, p⟩ := q
  refine ⟨W, env, st, re, rs, PostG.step p fun d st1 W1 x H1 _ l1 r1 rs1 p1 => ?_⟩
  refine ⟨W1, env, st1, re.mono l1, rs1, PostG.step p1 fun e st2 W2 y H2 _ l2 r2 rs2 p2 => ?_⟩
  exact p2 W2 _ H2 (Wd.le.refl _) (.cons (r1.mono l2) r2) rs2
def mTup (ms : Ev (List D)) : Ev D := fun env st => (ms env st).bind fun ds st => if ds.length ≤ sizeLine then (if notSw ds = true then .ok (.tup ds) st else .no) else .no
def mLst (ms : Ev (List D)) : Ev D := fun env st => (ms env st).bind fun ds st => if ds.length ≤ sizeLine then .ok (.lst ds) st else .no
/-- a new list that will be changed -/
def mLstC (ms : Ev (List D)) : Ev D := fun env st => (ms env st).bind fun ds st => if ds.length ≤ sizeLine then .ok (.ref st.length) (st ++ [.lst ds]) else .no
theorem new_lst {K : PySem.W.Frag} {W : Wd} {st : Store} {H : Hp} {ds : List D} {xs : List V} {p : Addr} (rs : RS K T W st H) (h : H p = none) (r : RVs K W ds xs) :
    W.le (W.addF p (.lst xs)) ∧ RV K (W.addF p (.lst xs)) (.lst ds) (.ref p) ∧ RS K T (W.addF p (.lst xs)) st (upd H p (.lst xs)) :=
  ⟨rs.le_addF h, .lst upd_same (r.mono (rs.le_addF h)), rs.newF h (fok_lst _)⟩
theorem new_tup {K : PySem.W.Frag} {W : Wd} {st : Store} {H : Hp} {ds : List D} {xs : List V} {p : Addr} (rs : RS K T W st H) (h : H p = none) (r : RVs K W ds xs) (hs : notSw ds = true) :
    W.le (W.addF p (.tup xs)) ∧ RV K (W.addF p (.tup xs)) (.tup ds) (.ref p) ∧ RS K T (W.addF p (.tup xs)) st (upd H p (.tup xs)) :=
  ⟨rs.le_addF h, .tup (.inl (.inl upd_same)) (r.mono (rs.le_addF h)), rs.newF h (fok_tup r hs)⟩
theorem new_lstC {K : PySem.W.Frag} {W : Wd} {st : Store} {H : Hp} {ds : List D} {xs : List V} {p : Addr} (rs : RS K T W st H) (h : H p = none) (r : RVs K W ds xs) :
    W.le (W.addC p) ∧ RV K (W.addC p) (.ref st.length) (.ref p) ∧ RS K T (W.addC p) (st ++ [.lst ds]) (upd H p (.lst xs)) :=
  ⟨W.le_addC p, .ref (by show (W.rh ++ [p])[st.length]? = some p; rw [← rs.len, List.getElem?_append_right (Nat.le_refl _)]; simp), rs.newC h ⟨xs, rfl, r.mono (W.le_addC p)⟩⟩
theorem so_tup {x1 : Nat} (h : SA T Wx X es ms) : SE T Wx X (.Tuple es x1 pos) (mTup ms) := PE.imp (pe_tup h) fun σ H Q q => by
  obtain ⟨W, env, st, re, rs, p⟩ := q
  refine ⟨W, env, st, re, rs, PostG.step p fun ds st1 W1 xs H1 _ l1 r1 rs1 p1 => ?_⟩
  by_cases hl : ds.length ≤ sizeLine
  · rw [if_pos hl] at p1
    by_cases hsw : notSw ds = true
    · rw [if_pos hsw] at p1
      refine ⟨by rw [← r1.length]; exact hl, fun q hq => ?_⟩
      obtain ⟨h1, h2, h3⟩ := new_tup rs1 hq r1 hsw
      exact p1 _ _ _ h1 h2 h3
    · rw [if_neg hsw] at p1; exact p1.elim
  · rw [if_neg hl] at p1; exact p1.elim
theorem so_lst (h : SA T Wx X es ms) : SE T Wx X (.List es pos) (mLst ms) := PE.imp (pe_lst h) fun σ H Q q => by
  obtain ⟨W, env, st, re, rs, p⟩ := q
  refine ⟨W, env, st, re, rs, PostG.step p fun ds st1 W1 xs H1 _ l1 r1 rs1 p1 => ?_⟩
  by_cases hl : ds.length ≤ sizeLine
  · rw [if_pos hl] at p1
    refine ⟨by rw [← r1.length]; exact hl, fun q hq => ?_⟩
    obtain ⟨h1, h2, h3⟩ := new_lst rs1 hq r1
    exact p1 _ _ _ h1 h2 h3
  · rw [if_neg hl] at p1; exact p1.elim
theorem so_lstC (h : SA T Wx X es ms) : SE T Wx X (.List es pos) (mLstC ms) := PE.imp (pe_lst h) fun σ H Q q => by
  obtain ⟨W, env, st, re, rs, p⟩ := q
  refine ⟨W, env, st, re, rs, PostG.step p fun ds st1 W1 xs H1 _ l1 r1 rs1 p1 => ?_⟩
  by_cases hl : ds.length ≤ sizeLine
  · rw [if_pos hl] at p1
    refine ⟨by rw [← r1.length]; exact hl, fun q hq => ?_⟩
    obtain ⟨h1, h2, h3⟩ := new_lstC rs1 hq r1
    exact p1 _ _ _ h1 h2 h3
  · rw [if_neg hl] at p1; exact p1.elim

/-! ### built-ins by name -/
def rC (K : PySem.W.Frag) (T : Tb) (g : Store → List D → Option D) : List V → Hp → VK → Prop := fun xs H Q =>
  ∃ W st ds z, RVs K W ds xs ∧ RS K T W st H ∧ g st ds = some z ∧ ∀ W' v H', W.le W' → RV K W' z v → RS K T W' st H' → Q v H'
def mCall (g : Store → List D → Option D) (ms : Ev (List D)) : Ev D := fun env st => (ms env st).bind fun ds st => Res.of (g st ds) st
theorem call_read {K : PySem.W.Frag} {g : Store → List D → Option D} (σ : St) (H : Hp) (Q : VK) (q : tE K T Wx (mCall g ms) σ H Q) : tCB (rC K T g) (tA K T Wx ms) σ H Q := by
  obtain ⟨W, env, st, re, rs, p⟩ := q
  refine ⟨W, env, st, re, rs, PostG.step p fun ds st1 W1 xs H1 _ l1 r1 rs1 p1 => ?_⟩
  cases hz : g st1 ds with
  | none => rw [hz] at p1; exact p1.elim
  | some z => rw [hz] at p1; exact ⟨W1, st1, ds, z, r1, rs1, hz, p1⟩
variable {x : Str} {p2 : Pos} {e : Expr} {id Ty : String} {g : Store → List D → Option D}
theorem so_callB (hc : CallR X (.builtin id) (rC X.K T g)) (hg : Gl X x) (hm : X.mg x = none) (hv : bootBuiltins x = some (.builtin id)) (ha : SA T Wx X (e :: es) ms) (hn : x ≠ "__name__" := by decide) (hdb : (x == ("__debug__" : Str)) = false := by decide)
    (he : starEach (e :: es) X.env = (false, eval e X.env) :: starEach es X.env := by rfl) (hpl : (backTo pos (starEach es X.env)).any (·.1) = false := by rfl) : SE T Wx X (.Call (.Name x p2) (e :: es) [] pos) (mCall g ms) :=
  PE.imp (pe_callB hc hg hm hv ha hn hdb he hpl) (call_read (K := X.K))
theorem so_callTy (hc : CallR X (.type Ty) (rC X.K T g)) (hg : Gl X x) (hm : X.mg x = none) (hv : bootBuiltins x = some (.type Ty)) (ha : SA T Wx X (e :: es) ms) (hn : x ≠ "__name__" := by decide) (hdb : (x == ("__debug__" : Str)) = false := by decide)
    (he : starEach (e :: es) X.env = (false, eval e X.env) :: starEach es X.env := by rfl) (hpl : (backTo pos (starEach es X.env)).any (·.1) = false := by rfl) : SE T Wx X (.Call (.Name x p2) (e :: es) [] pos) (mCall g ms) :=
  PE.imp (pe_callTy hc hg hm hv ha hn hdb he hpl) (call_read (K := X.K))
/-! ### subscripts -/
theorem so_ix {g : Store → D → D → Option D} (ho : IxR X (rO X.K T g)) (ha : SE T Wx X a ma) (hb : SE T Wx X b mb) (hs : PlainIx b) : SE T Wx X (.Subscript a b pos) (mBin g ma mb) :=
  PE.imp (pe_ix ho ha hb hs) (bin_read (K := X.K))
def rL (K : PySem.W.Frag) (T : Tb) (g : Store → D → Option Int → Option Int → Option D) : V → Option Int → Option Int → Hp → VK → Prop := fun x lo hi H Q =>
  ∃ W st d z, RV K W d x ∧ RS K T W st H ∧ g st d lo hi = some z ∧ ∀ W' v H', W.le W' → RV K W' z v → RS K T W' st H' → Q v H'
abbrev RO (W : Wd) (b c : Option Int) : Prop := b = c
def SO (T : Tb) (Wx : WX) (X : Cx) (e : Option Expr) (m : Ev (Option Int)) : Prop := PO X e (tG X.K T Wx RO m)
def mNoP : Ev (Option Int) := fun _ st => .ok none st
def mPart (m : Ev D) : Ev (Option Int) := fun env st => (m env st).bind fun d st => match d with
  | .int i => .ok (some i) st
  | _ => .no
theorem PO.imp {X : Cx} {e : Option Expr} {t t' : TO} (h : PO X e t) (i : ∀ σ H Q, t' σ H Q → t σ H Q) : PO X e t' := ⟨fun pins s σ H Q I q => h.run pins s σ H Q I (i σ H Q q)⟩
theorem sp_none : SO T Wx X none mNoP := PO.imp po_none fun σ H Q q => by
  obtain ⟨W, env, st, re, rs, p⟩ := q
  exact p W none H (Wd.le.refl _) rfl rs
theorem sp_some (h : SE T Wx X a ma) : SO T Wx X (some a) (mPart ma) := PO.imp (po_some h) fun σ H Q q => by
  obtain ⟨W, env, st, re, rs, p⟩ := q
  refine ⟨W, env, st, re, rs, PostG.step p fun d st1 W1 x H1 _ l1 r1 rs1 p1 => ?_⟩
  cases d with
  | int i => cases r1; exact ⟨i, rfl, p1 W1 (some i) H1 (Wd.le.refl _) rfl rs1⟩
  | _ => exact p1.elim
def mSl (g : Store → D → Option Int → Option Int → Option D) (ma : Ev D) (ml mh : Ev (Option Int)) : Ev D := fun env st => (ma env st).bind fun d st => (ml env st).bind fun lo st => (mh env st).bind fun hi st => Res.of (g st d lo hi) st
theorem so_slice {g : Store → D → Option Int → Option Int → Option D} {lo hi : Option Expr} {ml mh : Ev (Option Int)} {p3 : Pos} (hr : SlR X (rL X.K T g)) (ha : SE T Wx X a ma) (hl : SO T Wx X lo ml) (hh : SO T Wx X hi mh) :
    SE T Wx X (.Subscript a (.Slice lo hi none p3) pos) (mSl g ma ml mh) := PE.imp (pe_slice hr ha hl hh) fun σ H Q q => by
  obtain ⟨W, env, st, re, rs, p⟩ := q
  refine ⟨W, env, st, re, rs, PostG.step p fun d st1 W1 x H1 _ l1 r1 rs1 p1 => ?_⟩
  refine ⟨W1, env, st1, re.mono l1, rs1, PostG.step p1 fun e st2 W2 y H2 _ l2 r2 rs2 p2 => ?_⟩
  refine ⟨W2, env, st2, (re.mono l1).mono l2, rs2, PostG.step p2 fun f st3 W3 z H3 _ l3 r3 rs3 p3 => ?_⟩
  cases r2
  cases r3
  cases hz : g st3 d e f with
  | none => rw [hz] at p3; exact p3.elim
  | some z => rw [hz] at p3; exact ⟨W3, st3, d, z, (r1.mono l2).mono l3, rs3, hz, p3⟩
end
end Mr
namespace Mr
open PySem PySem.Spec L2

/-! ### what is read of data -/
def asL (st : Store) : D → Option (List D)
  | .lst xs => some xs
  | .fix xs => some xs
  | .ref n => match st[n]? with
    | some (.lst xs) => some xs
    | _ => none
  | _ => none
def asLs (st : Store) : D → Option (List D)
  | .lst xs => some xs
  | .ref n => match st[n]? with
    | some (.lst xs) => some xs
    | _ => none
  | _ => none
def asT : D → Option (List D)
  | .tup xs => some xs
  | _ => none
section
variable {K : PySem.W.Frag} {T : Tb} {W : Wd} {st : Store} {H : Hp} {d : D} {v : V} {ds : List D}
theorem asLs_ok (rs : RS K T W st H) (r : RV K W d v) (e : asLs st d = some ds) : ∃ a xs, v = .ref a ∧ H a = some (.lst xs) ∧ RVs K W ds xs := by
  cases r with
  | lst h q => cases e; exact ⟨_, _, rfl, rs.f _ _ h, q⟩
  | ref h =>
    simp only [asLs] at e
    split at e
    · rename_i xs hs
      obtain ⟨vs, h1, q⟩ := rs.cell _ _ _ hs h
      cases e
      exact ⟨_, vs, rfl, h1, q⟩
    · cases e
  | _ => cases e
theorem asL_ok (rs : RS K T W st H) (r : RV K W d v) (e : asL st d = some ds) : ∃ a xs, v = .ref a ∧ SqL K H a xs ∧ RVs K W ds xs := by
  cases r with
  | lst h q => cases e; exact ⟨_, _, rfl, .inl (.inl (rs.f _ _ h)), q⟩
  | fix h q => cases e; exact ⟨_, _, rfl, sqL_mono rs.f h, q⟩
  | ref h =>
    simp only [asL] at e
    split at e
    · rename_i xs hs
      obtain ⟨vs, h1, q⟩ := rs.cell _ _ _ hs h
      cases e
      exact ⟨_, vs, rfl, .inl (.inl h1), q⟩
    · cases e
  | _ => cases e
theorem asT_ok (rs : RS K T W st H) (r : RV K W d v) (e : asT d = some ds) : ∃ a xs, v = .ref a ∧ SqT K H a xs ∧ RVs K W ds xs := by
  cases r with
  | tup h q => cases e; exact ⟨_, _, rfl, sqT_mono rs.f h, q⟩
  | _ => cases e
end

/-! ### arithmetic -/
instance (i j : Int) : Decidable (CMul i j) := by unfold CMul; infer_instance
instance (i j : Int) : Decidable (CMulW i j) := by unfold CMulW; infer_instance
instance (i j : Int) : Decidable (CDivW i j) := by unfold CDivW; infer_instance
instance (i j : Int) : Decidable (CPow i j) := by unfold CPow; infer_instance
def mulOk (i j : Int) : Bool := decide (CMul i j) || decide (CMulW i j)
def gAdd (st : Store) : D → D → Option D
  | .int i, .int j => some (.int (i + j))
  | .str x, .str y => if x.length + y.length ≤ sizeLine then some (.str (x ++ y)) else none
  | .tup xs, .tup ys => if xs.length + ys.length ≤ sizeLine ∧ notSw (xs ++ ys) = true then some (.tup (xs ++ ys)) else none
  | d, e => match asLs st d, asLs st e with
    | some xs, some ys => if xs.length + ys.length ≤ sizeLine then some (.lst (xs ++ ys)) else none
    | _, _ => none
def gSub (_ : Store) : D → D → Option D
  | .int i, .int j => some (.int (i - j))
  | _, _ => none
def gMul (st : Store) : D → D → Option D
  | .int i, .int j => if mulOk i j then some (.int (i * j)) else none
  | .tup xs, .int k => if xs ≠ [] ∧ 2 ≤ k ∧ k ≤ 1000 ∧ xs.length ≤ 1000 ∧ notSw (List.replicate k.toNat xs).flatten = true then some (.tup (List.replicate k.toNat xs).flatten) else none
  | d, .int k => match asLs st d with
    | some xs => if -(2 ^ 63) ≤ k ∧ k < 2 ^ 63 ∧ xs.length * k.toNat ≤ sizeLine then some (.lst (List.replicate k.toNat xs).flatten) else none
    | none => none
  | _, _ => none
def gDiv (_ : Store) : D → D → Option D
  | .int i, .int j => if CDivW i j then some (.int (i / j)) else none
  | _, _ => none
def gMod (_ : Store) : D → D → Option D
  | .int i, .int j => if 0 < j then some (.int (i % j)) else none
  | _, _ => none
def gPow (_ : Store) : D → D → Option D
  | .int i, .int j => if CPow i j then some (.int (i ^ j.toNat)) else none
  | _, _ => none
section
variable {T : Tb} {X : Cx}
theorem RDs.rep {K : PySem.W.Frag} {F : Hp} {ρ : List Addr} {ds : List D} {vs : List V} (h : RDs K F ρ ds vs) : ∀ k : Nat, RDs K F ρ (List.replicate k ds).flatten (List.replicate k vs).flatten
  | 0 => .nil
  | k + 1 => by
    rw [List.replicate_succ, List.replicate_succ, List.flatten_cons, List.flatten_cons]
    exact h.append (RDs.rep h k)
theorem gAdd_lists {d e : D} {st : Store} {z : D} (h1 : ∀ i j, d = .int i → e = .int j → False) (h2 : ∀ x y, d = .str x → e = .str y → False) (h3 : ∀ x y, d = .tup x → e = .tup y → False) (h : gAdd st d e = some z) :
    ∃ xs ys, asLs st d = some xs ∧ asLs st e = some ys ∧ xs.length + ys.length ≤ sizeLine ∧ z = .lst (xs ++ ys) := by
  unfold gAdd at h
  split at h
  · exact (h1 _ _ rfl rfl).elim
  · exact (h2 _ _ rfl rfl).elim
  · exact (h3 _ _ rfl rfl).elim
  · split at h
    · rename_i xs ys e1 e2
      split at h
      · rename_i hl
        cases h
        exact ⟨xs, ys, e1, e2, hl, rfl⟩
      · cases h
    · cases h
theorem o_add : OpR X (binaryOp .Add) (rO X.K T gAdd) := by
  intro pins s σ H x y v u Q I rx ry q
  obtain ⟨W, st, d, e, z, r1, r2, rs, hz, k⟩ := q
  by_cases c1 : ∃ i j, d = .int i ∧ e = .int j
  · obtain ⟨i, j, rfl, rfl⟩ := c1
    cases r1; cases r2; cases hz
    exact op_add pins s σ H _ _ v u Q I rx ry ⟨i, j, rfl, rfl, k W _ H (Wd.le.refl _) (.int _) rs⟩
  by_cases c2 : ∃ i j, d = .str i ∧ e = .str j
  · obtain ⟨i, j, rfl, rfl⟩ := c2
    cases r1; cases r2
    simp only [gAdd] at hz
    split at hz
    · cases hz
      exact op_add_str pins s σ H _ _ v u Q I rx ry ⟨i, j, rfl, rfl, by assumption, k W _ H (Wd.le.refl _) (.str _) rs⟩
    · cases hz
  by_cases c3 : ∃ i j, d = .tup i ∧ e = .tup j
  · obtain ⟨i, j, rfl, rfl⟩ := c3
    simp only [gAdd] at hz
    split at hz
    · rename_i hl
      cases hz
      obtain ⟨a, xs, rfl, h1, q1⟩ := asT_ok rs r1 rfl
      obtain ⟨b, ys, rfl, h2, q2⟩ := asT_ok rs r2 rfl
      refine op_catA pins s σ H _ _ v u Q I rx ry ⟨a, b, xs, ys, rfl, rfl, h1, h2, by rw [← q1.length, ← q2.length]; exact hl.1, fun e1 => ?_, fun e1 e2 => ?_, fun e1 e2 p hp => ?_⟩
      · subst e1
        cases q1
        exact k W _ H (Wd.le.refl _) r2 rs
      · subst e2
        cases q2
        rw [List.append_nil] at k
        exact k W _ H (Wd.le.refl _) r1 rs
      · obtain ⟨l1, l2, l3⟩ := new_tup rs hp (q1.append q2) hl.2
        exact k _ _ _ l1 l2 l3
    · cases hz
  · obtain ⟨xs, ys, e1, e2, hl, rfl⟩ := gAdd_lists (fun i j h1 h2 => c1 ⟨i, j, h1, h2⟩) (fun i j h1 h2 => c2 ⟨i, j, h1, h2⟩) (fun i j h1 h2 => c3 ⟨i, j, h1, h2⟩) hz
    obtain ⟨a, us, rfl, h1, q1⟩ := asLs_ok rs r1 e1
    obtain ⟨b, ws, rfl, h2, q2⟩ := asLs_ok rs r2 e2
    refine op_cat pins s σ H _ _ v u Q I rx ry ⟨a, b, us, ws, rfl, rfl, h1, h2, by rw [← q1.length, ← q2.length]; exact hl, fun p hp => ?_⟩
    obtain ⟨l1, l2, l3⟩ := new_lst rs hp (q1.append q2)
    exact k _ _ _ l1 l2 l3
theorem o_int {f : Value → Value → Sem Value} {g : Store → D → D → Option D} {C : Int → Int → Prop} {h : Int → Int → Int} (ho : OpR X f (rI C fun i j => .int (h i j)))
    (hg : ∀ st d e z, g st d e = some z → ∃ i j, d = .int i ∧ e = .int j ∧ C i j ∧ z = .int (h i j)) : OpR X f (rO X.K T g) := by
  intro pins s σ H x y v u Q I rx ry q
  obtain ⟨W, st, d, e, z, r1, r2, rs, hz, k⟩ := q
  obtain ⟨i, j, rfl, rfl, hc, rfl⟩ := hg st d e z hz
  cases r1; cases r2
  exact ho pins s σ H _ _ v u Q I rx ry ⟨i, j, rfl, rfl, hc, k W _ H (Wd.le.refl _) (.int _) rs⟩
theorem o_int0 {f : Value → Value → Sem Value} {g : Store → D → D → Option D} {h : Int → Int → Int} (ho : OpR X f (rI0 fun i j => .int (h i j)))
    (hg : ∀ st d e z, g st d e = some z → ∃ i j, d = .int i ∧ e = .int j ∧ z = .int (h i j)) : OpR X f (rO X.K T g) := by
  intro pins s σ H x y v u Q I rx ry q
  obtain ⟨W, st, d, e, z, r1, r2, rs, hz, k⟩ := q
  obtain ⟨i, j, rfl, rfl, rfl⟩ := hg st d e z hz
  cases r1; cases r2
  exact ho pins s σ H _ _ v u Q I rx ry ⟨i, j, rfl, rfl, k W _ H (Wd.le.refl _) (.int _) rs⟩
theorem o_sub : OpR X (binaryOp .Sub) (rO X.K T gSub) := o_int0 op_sub fun st d e z h => by
  unfold gSub at h
  split at h
  · cases h; exact ⟨_, _, rfl, rfl, rfl⟩
  · cases h
theorem o_div : OpR X (binaryOp .FloorDiv) (rO X.K T gDiv) := o_int op_fdivW fun st d e z h => by
  unfold gDiv at h
  split at h
  · split at h
    · cases h; exact ⟨_, _, rfl, rfl, by assumption, rfl⟩
    · cases h
  · cases h
theorem o_mod : OpR X (binaryOp .Mod) (rO X.K T gMod) := o_int op_mod fun st d e z h => by
  unfold gMod at h
  split at h
  · split at h
    · cases h; exact ⟨_, _, rfl, rfl, by assumption, rfl⟩
    · cases h
  · cases h
theorem o_pow : OpR X (binaryOp .Pow) (rO X.K T gPow) := o_int op_pow fun st d e z h => by
  unfold gPow at h
  split at h
  · split at h
    · cases h; exact ⟨_, _, rfl, rfl, by assumption, rfl⟩
    · cases h
  · cases h
theorem o_mul : OpR X (binaryOp .Mult) (rO X.K T gMul) := by
  intro pins s σ H x y v u Q I rx ry q
  obtain ⟨W, st, d, e, z, r1, r2, rs, hz, k⟩ := q
  unfold gMul at hz
  split at hz
  · rename_i i j
    cases r1; cases r2
    split at hz
    · rename_i hm
      cases hz
      unfold mulOk at hm
      rw [Bool.or_eq_true, decide_eq_true_eq, decide_eq_true_eq] at hm
      rcases hm with hm | hm
      · exact op_mul pins s σ H _ _ v u Q I rx ry ⟨i, j, rfl, rfl, hm, k W _ H (Wd.le.refl _) (.int _) rs⟩
      · exact op_mulW pins s σ H _ _ v u Q I rx ry ⟨i, j, rfl, rfl, hm, k W _ H (Wd.le.refl _) (.int _) rs⟩
    · cases hz
  · rename_i xs j
    cases r2
    split at hz
    · rename_i hc
      cases hz
      obtain ⟨a, us, rfl, h1, q1⟩ := asT_ok rs r1 rfl
      refine op_repT pins s σ H _ _ v u Q I rx ry ⟨a, j, us, rfl, rfl, h1, fun z => hc.1 (by subst z; cases q1; rfl), hc.2.1, hc.2.2.1, by rw [← q1.length]; exact hc.2.2.2.1, fun p hp => ?_⟩
      obtain ⟨l1, l2, l3⟩ := new_tup rs hp (q1.rep j.toNat) hc.2.2.2.2
      exact k _ _ _ l1 l2 l3
    · cases hz
  · rename_i d j h1 h2
    cases r2
    split at hz
    · rename_i xs e1
      split at hz
      · rename_i hc
        cases hz
        obtain ⟨a, us, rfl, h1, q1⟩ := asLs_ok rs r1 e1
        refine op_rep pins s σ H _ _ v u Q I rx ry ⟨a, j, us, rfl, rfl, h1, hc.1, hc.2.1, by rw [← q1.length]; exact hc.2.2, fun p hp => ?_⟩
        obtain ⟨l1, l2, l3⟩ := new_lst rs hp (q1.rep j.toNat)
        exact k _ _ _ l1 l2 l3
      · cases hz
    · cases hz
  · cases hz
end
end Mr
namespace Mr
open PySem PySem.Spec L2

/-! ### data as the library reads it -/
mutual
def pyF (f : Nat → Option PyData) : D → Option PyData
  | .non => some .none
  | .bl b => some (.bool b)
  | .int i => some (.int i)
  | .str x => some (.str x)
  | .ty _ => none
  | .lst xs => (pysF f xs).map .list
  | .fix xs => (pysF f xs).map .list
  | .tup xs => (pysF f xs).map .tuple
  | .dct _ _ => none
  | .ref n => f n
def pysF (f : Nat → Option PyData) : List D → Option (List PyData)
  | [] => some []
  | d :: ds => (pyF f d).bind fun x => (pysF f ds).map fun xs => x :: xs
end
def py : Nat → Store → D → Option PyData
  | 0, _, d => pyF (fun _ => none) d
  | n + 1, st, d => pyF (fun k => match st[k]? with
    | some (.lst xs) => py n st (.lst xs)
    | _ => none) d
section
variable {K : PySem.W.Frag} {T : Tb} {W : Wd} {st : Store} {H : Hp}
mutual
theorem pyF_ok {f : Nat → Option PyData} (rs : RS K T W st H) (hf : ∀ n x a, f n = some x → W.rh[n]? = some a → Dp K H (.ref a) x) : ∀ (d : D) (x : PyData) (v : V), pyF f d = some x → RV K W d v → Dp K H v x
  | .non, x, v, e, r => by cases r; simp only [pyF] at e; cases e; exact .non
  | .bl b, x, v, e, r => by cases r; simp only [pyF] at e; cases e; exact .bl b
  | .int i, x, v, e, r => by cases r; simp only [pyF] at e; cases e; exact .int i
  | .str y, x, v, e, r => by cases r; simp only [pyF] at e; cases e; exact .str y
  | .ty y, x, v, e, r => by simp only [pyF] at e; cases e
  | .lst xs, x, v, e, r => by
    simp only [pyF, Option.map_eq_some_iff] at e
    obtain ⟨ys, e1, rfl⟩ := e
    cases r with
    | lst h q => exact .lst (.inl (.inl (rs.f _ _ h))) (pysF_ok rs hf xs ys _ e1 q)
  | .fix xs, x, v, e, r => by
    simp only [pyF, Option.map_eq_some_iff] at e
    obtain ⟨ys, e1, rfl⟩ := e
    cases r with
    | fix h q => exact .lst (sqL_mono rs.f h) (pysF_ok rs hf xs ys _ e1 q)
  | .tup xs, x, v, e, r => by
    simp only [pyF, Option.map_eq_some_iff] at e
    obtain ⟨ys, e1, rfl⟩ := e
    cases r with
    | tup h q => exact .tup (sqT_mono rs.f h) (pysF_ok rs hf xs ys _ e1 q)
  | .dct _ _, x, v, e, r => by simp only [pyF] at e; cases e
  | .ref n, x, v, e, r => by
    simp only [pyF] at e
    cases r with
    | ref h => exact hf n x _ e h
theorem pysF_ok {f : Nat → Option PyData} (rs : RS K T W st H) (hf : ∀ n x a, f n = some x → W.rh[n]? = some a → Dp K H (.ref a) x) : ∀ (ds : List D) (xs : List PyData) (vs : List V), pysF f ds = some xs → RVs K W ds vs → DpAll K H vs xs
  | [], xs, vs, e, r => by cases r; simp only [pysF] at e; cases e; exact .nil
  | d :: ds, xs, vs, e, r => by
    simp only [pysF, Option.bind_eq_some_iff, Option.map_eq_some_iff] at e
    obtain ⟨x, e1, ys, e2, rfl⟩ := e
    cases r with
    | cons r q => exact .cons (pyF_ok rs hf d x _ e1 r) (pysF_ok rs hf ds ys _ e2 q)
end
theorem py_ok (rs : RS K T W st H) : ∀ (n : Nat) (d : D) (x : PyData) (v : V), py n st d = some x → RV K W d v → Dp K H v x
  | 0, d, x, v, e, r => pyF_ok rs (fun n x a h => by cases h) d x v e r
  | n + 1, d, x, v, e, r => pyF_ok rs (fun k x a h hk => by
      split at h
      · rename_i xs hs
        obtain ⟨vs, h1, q⟩ := rs.cell _ _ _ hs hk
        -- the cell's list read as a frozen one: by its items
        cases n with
        | zero =>
          simp only [py, pyF, Option.map_eq_some_iff] at h
          obtain ⟨ys, e1, rfl⟩ := h
          exact .lst (.inl (.inl h1)) (pysF_ok rs (fun n x a h => by cases h) xs ys vs e1 q)
        | succ n =>
          have h' := h
          simp only [py, pyF, Option.map_eq_some_iff] at h
          obtain ⟨ys, e1, rfl⟩ := h
          refine .lst (.inl (.inl h1)) (pysF_ok rs (fun k2 x2 a2 h2 hk2 => ?_) xs ys vs e1 q)
          have := py_ok rs (n + 1) (.ref k2) x2 (.ref a2) (by simp only [py, pyF]; exact h2) (.ref hk2)
          exact this
      · cases h) d x v e r
end

/-! ### comparisons -/
def shp (x : PyData) : Bool := SeqAt.shaped x
def eqD (st : Store) (d e : D) : Option Bool := match d, e with
  | .int i, .int j => some (i == j)
  | .str x, .str y => some (x == y)
  | d, e => match py 3 st d, py 3 st e with
    | some x, some y => if shp x && shp y then some (PyData.eqv x y) else none
    | _, _ => none
def gEq (st : Store) (d e : D) : Option D := (eqD st d e).map .bl
def gNe (st : Store) (d e : D) : Option D := (eqD st d e).map fun b => .bl (!b)
theorem eqD_cases {st : Store} {d e : D} {k : Bool} (h : eqD st d e = some k) : (∃ i j, d = .int i ∧ e = .int j ∧ k = (i == j)) ∨ (∃ i j, d = .str i ∧ e = .str j ∧ k = (i == j)) ∨
    ∃ x y, py 3 st d = some x ∧ py 3 st e = some y ∧ SeqAt.shaped x = true ∧ SeqAt.shaped y = true ∧ k = PyData.eqv x y := by
  unfold eqD at h
  split at h
  · cases h; exact .inl ⟨_, _, rfl, rfl, rfl⟩
  · cases h; exact .inr (.inl ⟨_, _, rfl, rfl, rfl⟩)
  · split at h
    · rename_i x y e1 e2
      split at h
      · rename_i hs
        cases h
        rw [Bool.and_eq_true] at hs
        exact .inr (.inr ⟨x, y, e1, e2, hs.1, hs.2, rfl⟩)
      · cases h
    · cases h
section
variable {T : Tb} {X : Cx}
theorem o_eq (hu : X.A.units + 64 < cLine) : OpR X (compareOp .Eq) (rO X.K T gEq) := by
  intro pins s σ H x y v u Q I rx ry q
  obtain ⟨W, st, d, e, z, r1, r2, rs, hz, k⟩ := q
  simp only [gEq, Option.map_eq_some_iff] at hz
  obtain ⟨b, hb, rfl⟩ := hz
  have hk := k W (.bl b) H (Wd.le.refl _) (.bl b) rs
  rcases eqD_cases hb with ⟨i, j, rfl, rfl, rfl⟩ | ⟨i, j, rfl, rfl, rfl⟩ | ⟨p, q, e1, e2, s1, s2, rfl⟩
  · cases r1; cases r2
    exact op_eq pins s σ H _ _ v u Q I rx ry ⟨rfl, by rw [dec_int]; exact hk⟩
  · cases r1; cases r2
    exact op_eq pins s σ H _ _ v u Q I rx ry ⟨rfl, by rw [dec_str]; exact hk⟩
  · exact op_eqD hu pins s σ H _ _ v u Q I rx ry ⟨p, q, py_ok rs _ _ _ _ e1 r1, py_ok rs _ _ _ _ e2 r2, s1, s2, hk⟩
theorem o_ne (hu : X.A.units + 64 < cLine) : OpR X (compareOp .NotEq) (rO X.K T gNe) := by
  intro pins s σ H x y v u Q I rx ry q
  obtain ⟨W, st, d, e, z, r1, r2, rs, hz, k⟩ := q
  simp only [gNe, Option.map_eq_some_iff] at hz
  obtain ⟨b, hb, rfl⟩ := hz
  have hk := k W (.bl (!b)) H (Wd.le.refl _) (.bl _) rs
  rcases eqD_cases hb with ⟨i, j, rfl, rfl, rfl⟩ | ⟨i, j, rfl, rfl, rfl⟩ | ⟨p, q, e1, e2, s1, s2, rfl⟩
  · cases r1; cases r2
    exact op_ne pins s σ H _ _ v u Q I rx ry ⟨rfl, by rw [dec_int]; exact hk⟩
  · cases r1; cases r2
    exact op_ne pins s σ H _ _ v u Q I rx ry ⟨rfl, by rw [dec_str]; exact hk⟩
  · exact op_neD hu pins s σ H _ _ v u Q I rx ry ⟨p, q, py_ok rs _ _ _ _ e1 r1, py_ok rs _ _ _ _ e2 r2, s1, s2, hk⟩
end
abbrev sltL (x y : Str) : Bool := decide (x.cps.toList < y.cps.toList)
def gLt (_ : Store) : D → D → Option D
  | .int i, .int j => some (.bl (decide (i < j)))
  | .str x, .str y => some (.bl (sltL x y))
  | _, _ => none
def gLe (_ : Store) : D → D → Option D
  | .int i, .int j => some (.bl (decide (i ≤ j)))
  | .str x, .str y => some (.bl (!sltL y x))
  | _, _ => none
def gGt (_ : Store) : D → D → Option D
  | .int i, .int j => some (.bl (decide (j < i)))
  | .str x, .str y => some (.bl (sltL y x))
  | _, _ => none
def gGe (_ : Store) : D → D → Option D
  | .int i, .int j => some (.bl (decide (j ≤ i)))
  | .str x, .str y => some (.bl (!sltL x y))
  | _, _ => none
section
variable {T : Tb} {X : Cx}
theorem o_ord {op : CmpOp} {g : Store → D → D → Option D} {p : Int → Int → Bool} {q : Str → Str → Bool} (h1 : OpR X (compareOp op) (rI0 fun i j => .bl (p i j))) (h2 : OpR X (compareOp op) (fun x y H Q => ∃ i j, x = .str i ∧ y = .str j ∧ Q (.bl (q i j)) H))
    (hg : ∀ st d e z, g st d e = some z → (∃ i j, d = .int i ∧ e = .int j ∧ z = .bl (p i j)) ∨ ∃ i j, d = .str i ∧ e = .str j ∧ z = .bl (q i j)) : OpR X (compareOp op) (rO X.K T g) := by
  intro pins s σ H x y v u Q I rx ry q
  obtain ⟨W, st, d, e, z, r1, r2, rs, hz, k⟩ := q
  rcases hg st d e z hz with ⟨i, j, rfl, rfl, rfl⟩ | ⟨i, j, rfl, rfl, rfl⟩
  · cases r1; cases r2
    exact h1 pins s σ H _ _ v u Q I rx ry ⟨i, j, rfl, rfl, k W _ H (Wd.le.refl _) (.bl _) rs⟩
  · cases r1; cases r2
    exact h2 pins s σ H _ _ v u Q I rx ry ⟨i, j, rfl, rfl, k W _ H (Wd.le.refl _) (.bl _) rs⟩
theorem o_lt : OpR X (compareOp .Lt) (rO X.K T gLt) := o_ord op_lt op_lt_str fun st d e z h => by
  unfold gLt at h; split at h <;> cases h
  · exact .inl ⟨_, _, rfl, rfl, rfl⟩
  · exact .inr ⟨_, _, rfl, rfl, rfl⟩
theorem o_le : OpR X (compareOp .LtE) (rO X.K T gLe) := o_ord op_le op_le_str fun st d e z h => by
  unfold gLe at h; split at h <;> cases h
  · exact .inl ⟨_, _, rfl, rfl, rfl⟩
  · exact .inr ⟨_, _, rfl, rfl, rfl⟩
theorem o_gt : OpR X (compareOp .Gt) (rO X.K T gGt) := o_ord op_gt op_gt_str fun st d e z h => by
  unfold gGt at h; split at h <;> cases h
  · exact .inl ⟨_, _, rfl, rfl, rfl⟩
  · exact .inr ⟨_, _, rfl, rfl, rfl⟩
theorem o_ge : OpR X (compareOp .GtE) (rO X.K T gGe) := o_ord op_ge op_ge_str fun st d e z h => by
  unfold gGe at h; split at h <;> cases h
  · exact .inl ⟨_, _, rfl, rfl, rfl⟩
  · exact .inr ⟨_, _, rfl, rfl, rfl⟩
end
/-! ### in, is -/
def subIn (x y : Str) : Bool := !(Builtin.Str.occurrences y x 0 y.length 1).isEmpty
def flatD : D → Option V
  | .non => some .non
  | .bl b => some (.bl b)
  | .int i => some (.int i)
  | .str x => some (.str x)
  | _ => none
def flatDs : List D → Option (List V)
  | [] => some []
  | d :: ds => (flatD d).bind fun v => (flatDs ds).map fun vs => v :: vs
def inD (st : Store) (d e : D) : Option Bool := match d, e with
  | .str x, .str y => some (subIn x y)
  | d, .tup ys => (flatD d).bind fun v => (flatDs ys).map fun vs => inV v vs
  | d, e => (asL st e).bind fun ys => match py 3 st d, py 3 st e with
    | some x, some (.list zs) => if shp x && shp (.list zs) then some (zs.any fun z => PyData.eqv z x) else none
    | _, _ => none
def gIn (st : Store) (d e : D) : Option D := (inD st d e).map .bl
def gNin (st : Store) (d e : D) : Option D := (inD st d e).map fun b => .bl (!b)
section
variable {K : PySem.W.Frag} {W : Wd} {T : Tb} {X : Cx}
theorem flatD_ok {d : D} {v w : V} (e : flatD d = some v) (r : RV K W d w) : w = v ∧ flatV v = true := by
  cases r <;> cases e <;> exact ⟨rfl, rfl⟩
theorem flatDs_ok : ∀ {ds : List D} {vs ws : List V}, flatDs ds = some vs → RVs K W ds ws → ws = vs ∧ vs.all flatV = true
  | [], vs, ws, e, r => by cases r; cases e; exact ⟨rfl, rfl⟩
  | d :: ds, vs, ws, e, r => by
    simp only [flatDs, Option.bind_eq_some_iff, Option.map_eq_some_iff] at e
    obtain ⟨v, e1, us, e2, rfl⟩ := e
    cases r with
    | cons r q =>
      obtain ⟨rfl, h1⟩ := flatD_ok e1 r
      obtain ⟨rfl, h2⟩ := flatDs_ok e2 q
      exact ⟨rfl, by rw [List.all_cons, h1, h2]; rfl⟩
theorem inD_cases {st : Store} {d e : D} {k : Bool} (h : inD st d e = some k) : (∃ x y, d = .str x ∧ e = .str y ∧ k = subIn x y) ∨ (∃ ys v vs, e = .tup ys ∧ flatD d = some v ∧ flatDs ys = some vs ∧ k = inV v vs) ∨
    ∃ x zs, py 3 st d = some x ∧ py 3 st e = some (.list zs) ∧ SeqAt.shaped x = true ∧ SeqAt.shaped (.list zs) = true ∧ k = (zs.any fun z => PyData.eqv z x) := by
  unfold inD at h
  split at h
  · cases h; exact .inl ⟨_, _, rfl, rfl, rfl⟩
  · simp only [Option.bind_eq_some_iff, Option.map_eq_some_iff] at h
    obtain ⟨v, e1, vs, e2, rfl⟩ := h
    exact .inr (.inl ⟨_, v, vs, rfl, e1, e2, rfl⟩)
  · simp only [Option.bind_eq_some_iff] at h
    obtain ⟨ys, _, h⟩ := h
    split at h
    · rename_i x zs e1 e2
      split at h
      · rename_i hs
        cases h
        rw [Bool.and_eq_true] at hs
        exact .inr (.inr ⟨x, zs, e1, e2, hs.1, hs.2, rfl⟩)
      · cases h
    · cases h
theorem o_in (hu : X.A.units + 65 < cLine) : OpR X (compareOp .In) (rO X.K T gIn) := by
  intro pins s σ H x y v u Q I rx ry q
  obtain ⟨W, st, d, e, z, r1, r2, rs, hz, k⟩ := q
  simp only [gIn, Option.map_eq_some_iff] at hz
  obtain ⟨b, hb, rfl⟩ := hz
  have hk := k W (.bl b) H (Wd.le.refl _) (.bl b) rs
  rcases inD_cases hb with ⟨i, j, rfl, rfl, rfl⟩ | ⟨ys, w, vs, rfl, e1, e2, rfl⟩ | ⟨p, zs, e1, e2, s1, s2, rfl⟩
  · cases r1; cases r2
    exact op_in_str pins s σ H _ _ v u Q I rx ry ⟨i, j, rfl, rfl, hk⟩
  · obtain ⟨a, us, rfl, h1, q1⟩ := asT_ok rs r2 rfl
    obtain ⟨rfl, f1⟩ := flatD_ok e1 r1
    obtain ⟨rfl, f2⟩ := flatDs_ok e2 q1
    exact op_in_seq pins s σ H _ _ v u Q I rx ry ⟨a, us, rfl, .inr h1, f1, f2, hk⟩
  · exact op_inD hu pins s σ H _ _ v u Q I rx ry ⟨p, zs, py_ok rs _ _ _ _ e1 r1, py_ok rs _ _ _ _ e2 r2, s1, s2, hk⟩
theorem o_nin (hu : X.A.units + 65 < cLine) : OpR X (compareOp .NotIn) (rO X.K T gNin) := by
  intro pins s σ H x y v u Q I rx ry q
  obtain ⟨W, st, d, e, z, r1, r2, rs, hz, k⟩ := q
  simp only [gNin, Option.map_eq_some_iff] at hz
  obtain ⟨b, hb, rfl⟩ := hz
  have hk := k W (.bl (!b)) H (Wd.le.refl _) (.bl _) rs
  rcases inD_cases hb with ⟨i, j, rfl, rfl, rfl⟩ | ⟨ys, w, vs, rfl, e1, e2, rfl⟩ | ⟨p, zs, e1, e2, s1, s2, rfl⟩
  · cases r1; cases r2
    exact op_notin_str pins s σ H _ _ v u Q I rx ry ⟨i, j, rfl, rfl, hk⟩
  · obtain ⟨a, us, rfl, h1, q1⟩ := asT_ok rs r2 rfl
    obtain ⟨rfl, f1⟩ := flatD_ok e1 r1
    obtain ⟨rfl, f2⟩ := flatDs_ok e2 q1
    exact op_notIn_seq pins s σ H _ _ v u Q I rx ry ⟨a, us, rfl, .inr h1, f1, f2, hk⟩
  · exact op_notInD hu pins s σ H _ _ v u Q I rx ry ⟨p, zs, py_ok rs _ _ _ _ e1 r1, py_ok rs _ _ _ _ e2 r2, s1, s2, hk⟩
def isD : D → D → Option Bool
  | .non, .non => some true
  | .bl a, .bl b => some (a == b)
  | _, .non => some false
  | _, _ => none
def gIs (_ : Store) (d e : D) : Option D := (isD d e).map .bl
def gIsn (_ : Store) (d e : D) : Option D := (isD d e).map fun b => .bl (!b)
theorem isD_cases {d e : D} {k : Bool} (h : isD d e = some k) : (∃ a b, d = .bl a ∧ e = .bl b ∧ k = (a == b)) ∨ (e = .non ∧ ((d = .non ∧ k = true) ∨ (d ≠ .non ∧ k = false))) := by
  unfold isD at h
  split at h
  · cases h; exact .inr ⟨rfl, .inl ⟨rfl, rfl⟩⟩
  · cases h; exact .inl ⟨_, _, rfl, rfl, rfl⟩
  · cases h; refine .inr ⟨rfl, .inr ⟨?_, rfl⟩⟩; intro z; simp_all
  · cases h
theorem nonV {d : D} {v : V} (r : RV K W d v) : (v = .non ↔ d = .non) := by
  cases r <;> simp
theorem o_is : OpR X (compareOp .Is) (rO X.K T gIs) := by
  intro pins s σ H x y v u Q I rx ry q
  obtain ⟨W, st, d, e, z, r1, r2, rs, hz, k⟩ := q
  simp only [gIs, Option.map_eq_some_iff] at hz
  obtain ⟨b, hb, rfl⟩ := hz
  have hk := k W (.bl b) H (Wd.le.refl _) (.bl b) rs
  rcases isD_cases hb with ⟨i, j, rfl, rfl, rfl⟩ | ⟨rfl, h⟩
  · cases r1; cases r2
    exact op_isBl pins s σ H _ _ v u Q I rx ry ⟨i, j, rfl, rfl, by rw [← Bool.beq_eq_decide_eq]; exact hk⟩
  · cases r2
    refine op_isN pins s σ H _ _ v u Q I rx ry ⟨rfl, ?_⟩
    rcases h with ⟨h, rfl⟩ | ⟨h, rfl⟩
    · rw [decide_eq_true ((nonV r1).mpr h)]; exact hk
    · rw [decide_eq_false (fun z => h ((nonV r1).mp z))]; exact hk
theorem o_isn : OpR X (compareOp .IsNot) (rO X.K T gIsn) := by
  intro pins s σ H x y v u Q I rx ry q
  obtain ⟨W, st, d, e, z, r1, r2, rs, hz, k⟩ := q
  simp only [gIsn, Option.map_eq_some_iff] at hz
  obtain ⟨b, hb, rfl⟩ := hz
  have hk := k W (.bl (!b)) H (Wd.le.refl _) (.bl _) rs
  rcases isD_cases hb with ⟨i, j, rfl, rfl, rfl⟩ | ⟨rfl, h⟩
  · cases r1; cases r2
    exact op_notBl pins s σ H _ _ v u Q I rx ry ⟨i, j, rfl, rfl, by rw [← Bool.beq_eq_decide_eq]; exact hk⟩
  · cases r2
    refine op_notN pins s σ H _ _ v u Q I rx ry ⟨rfl, ?_⟩
    rcases h with ⟨h, rfl⟩ | ⟨h, rfl⟩
    · rw [decide_eq_true ((nonV r1).mpr h)]; exact hk
    · rw [decide_eq_false (fun z => h ((nonV r1).mp z))]; exact hk
end
end Mr
namespace Mr
open PySem PySem.Spec L2
/-! ### subscripts -/
def gIx (st : Store) (d e : D) : Option D := match d, e with
  | .str z, .int i => if z.length ≤ sizeLine then (atI z.cps.toList i).map fun c => .str ⟨#[c]⟩ else none
  | .tup xs, .int i => atI xs i
  | d, .int i => (asL st d).bind fun xs => atI xs i
  | _, _ => none
section
variable {K : PySem.W.Frag} {W : Wd} {T : Tb} {X : Cx}
theorem atI_RDs {F : Hp} {ρ : List Addr} {ds : List D} {vs : List V} {i : Int} {d : D} (r : RDs K F ρ ds vs) (h : atI ds i = some d) : ∃ v, atI vs i = some v ∧ RD K F ρ d v := by
  unfold atI at h ⊢
  rw [r.length] at h
  cases hj : ixN vs.length i with
  | none => rw [hj] at h; cases h
  | some j =>
    rw [hj] at h
    exact r.get (show ds[j]? = some d from h)
theorem ix_ok : IxR X (rO X.K T gIx) := by
  intro value slice pins s σ H x y v u Q I rx ry q hs
  obtain ⟨W, st, d, e, z, r1, r2, rs, hz, k⟩ := q
  unfold gIx at hz
  split at hz
  · rename_i zz i
    cases r1; cases r2
    split at hz
    · rename_i hl
      simp only [Option.map_eq_some_iff] at hz
      obtain ⟨c, hc, rfl⟩ := hz
      exact ix_str value slice pins s σ H _ _ v u Q I rx ry ⟨zz, i, c, rfl, rfl, hl, hc, k W _ H (Wd.le.refl _) (.str _) rs⟩ hs
    · cases hz
  · rename_i xs i
    cases r2
    obtain ⟨a, us, rfl, h1, q1⟩ := asT_ok rs r1 rfl
    obtain ⟨w, h2, q2⟩ := atI_RDs q1 hz
    exact ix_tup value slice pins s σ H _ _ v u Q I rx ry ⟨a, us, i, w, rfl, rfl, h1, h2, k W _ H (Wd.le.refl _) q2 rs⟩ hs
  · rename_i d i _ _
    cases r2
    simp only [Option.bind_eq_some_iff] at hz
    obtain ⟨xs, e1, hz⟩ := hz
    obtain ⟨a, us, rfl, h1, q1⟩ := asL_ok rs r1 e1
    obtain ⟨w, h2, q2⟩ := atI_RDs q1 hz
    exact ix_list value slice pins s σ H _ _ v u Q I rx ry ⟨a, us, i, w, rfl, rfl, h1, h2, k W _ H (Wd.le.refl _) q2 rs⟩ hs
  · cases hz
/-! ### slices -/
def cutD (xs : List D) (lo hi : Option Int) : List D := (xs.drop (HT.sIx xs.length 0 lo)).take (HT.sIx xs.length xs.length hi - HT.sIx xs.length 0 lo)
theorem cut_RDs {F : Hp} {ρ : List Addr} {ds : List D} {vs : List V} {lo hi : Option Int} (r : RDs K F ρ ds vs) : RDs K F ρ (cutD ds lo hi) (cutV vs lo hi) := by
  unfold cutD cutV
  rw [r.length]
  exact (r.drop _).take _
def gSl (st : Store) (d : D) (lo hi : Option Int) : Option D := match d with
  | .str z => if z.length ≤ sizeLine then some (.str (cutS z lo hi)) else none
  | .tup xs => if notSw (cutD xs lo hi) = true then some (.tup (cutD xs lo hi)) else none
  | d => (asL st d).map fun xs => .lst (cutD xs lo hi)
theorem sl_ok : SlR X (rL X.K T gSl) := by
  intro pins s σ H x v vl vu lo hi sl Q I rx hs pl pu q
  obtain ⟨W, st, d, z, r1, rs, hz, k⟩ := q
  unfold gSl at hz
  split at hz
  · rename_i zz
    cases r1
    split at hz
    · rename_i hl
      cases hz
      exact sl_str pins s σ H _ v vl vu lo hi sl Q I rx hs pl pu ⟨zz, rfl, hl, k W _ H (Wd.le.refl _) (.str _) rs⟩
    · cases hz
  · rename_i xs
    split at hz
    rotate_left
    · cases hz
    rename_i hsw
    cases hz
    obtain ⟨a, us, rfl, h1, q1⟩ := asT_ok rs r1 rfl
    refine sl_tupA pins s σ H _ v vl vu lo hi sl Q I rx hs pl pu ⟨a, us, rfl, h1, fun hw => ?_, fun hw p hp => ?_⟩
    · refine k W _ H (Wd.le.refl _) ?_ rs
      have e : cutD xs lo hi = xs := by
        unfold cutD
        rw [q1.length, hw.1, hw.2, List.drop_zero, Nat.sub_zero, ← q1.length, List.take_length]
      rw [e]
      exact r1
    · obtain ⟨l1, l2, l3⟩ := new_tup rs hp (cut_RDs (lo := lo) (hi := hi) q1) hsw
      exact k _ _ _ l1 l2 l3
  · simp only [Option.map_eq_some_iff] at hz
    obtain ⟨xs, e1, rfl⟩ := hz
    obtain ⟨a, us, rfl, h1, q1⟩ := asL_ok rs r1 e1
    refine sl_list pins s σ H _ v vl vu lo hi sl Q I rx hs pl pu ⟨a, us, rfl, h1, fun p hp => ?_⟩
    obtain ⟨l1, l2, l3⟩ := new_lst rs hp (cut_RDs (lo := lo) (hi := hi) q1)
    exact k _ _ _ l1 l2 l3
/-! ### xs[::-1] -/
def mRev (m : Ev D) : Ev D := fun env st => (m env st).bind fun d st => Res.of ((asL st d).map fun xs => .lst xs.reverse) st
theorem so_rev {Wx : WX} {e : Expr} {m : Ev D} {k : Nat} {p1 p2 p3 pos : Pos} (h : SE T Wx X e m) : SE T Wx X (.Subscript e (.Slice none none (some (.UnaryOp .USub (.Constant (.int 1) k p1) p2)) p3) pos) (mRev m) := PE.imp (pe_revL h) fun σ H Q q => by
  obtain ⟨W, env, st, re, rs, p⟩ := q
  refine ⟨W, env, st, re, rs, PostG.step p fun d st1 W1 x H1 _ l1 r1 rs1 p1 => ?_⟩
  cases hz : asL st1 d with
  | none => rw [hz] at p1; exact p1.elim
  | some xs =>
    rw [hz] at p1
    obtain ⟨a, us, rfl, h1, q1⟩ := asL_ok rs1 r1 hz
    refine ⟨a, us, rfl, h1, fun p hp => ?_⟩
    obtain ⟨l1, l2, l3⟩ := new_lst rs1 hp q1.reverse
    exact p1 _ _ _ l1 l2 l3
/-! ### built-in calls -/
def cLen (st : Store) : List D → Option D
  | [.str z] => if z.length ≤ sizeLine then some (.int z.length) else none
  | [.tup xs] => some (.int xs.length)
  | [d] => (asL st d).map fun xs => .int xs.length
  | _ => none
def blD : List D → Option (List Bool)
  | [] => some []
  | .bl b :: ds => (blD ds).map fun bs => b :: bs
  | _ => none
def itD : List D → Option (List Int)
  | [] => some []
  | .int b :: ds => (itD ds).map fun bs => b :: bs
  | _ => none
def stD : List D → Option (List Str)
  | [] => some []
  | .str b :: ds => (stD ds).map fun bs => b :: bs
  | _ => none
theorem blD_ok : ∀ {ds : List D} {bs : List Bool} {F : Hp} {ρ : List Addr} {vs : List V}, blD ds = some bs → RDs K F ρ ds vs → vs = bs.map V.bl
  | [], bs, F, ρ, vs, e, r => by cases r; cases e; rfl
  | d :: ds, bs, F, ρ, vs, e, r => by
    cases r with
    | cons r q =>
      cases r <;> simp only [blD, reduceCtorEq, Option.map_eq_some_iff] at e
      obtain ⟨bs', e1, rfl⟩ := e
      rw [blD_ok e1 q]; rfl
theorem itD_ok : ∀ {ds : List D} {bs : List Int} {F : Hp} {ρ : List Addr} {vs : List V}, itD ds = some bs → RDs K F ρ ds vs → vs = bs.map V.int
  | [], bs, F, ρ, vs, e, r => by cases r; cases e; rfl
  | d :: ds, bs, F, ρ, vs, e, r => by
    cases r with
    | cons r q =>
      cases r <;> simp only [itD, reduceCtorEq, Option.map_eq_some_iff] at e
      obtain ⟨bs', e1, rfl⟩ := e
      rw [itD_ok e1 q]; rfl
theorem stD_ok : ∀ {ds : List D} {bs : List Str} {F : Hp} {ρ : List Addr} {vs : List V}, stD ds = some bs → RDs K F ρ ds vs → vs = bs.map V.str
  | [], bs, F, ρ, vs, e, r => by cases r; cases e; rfl
  | d :: ds, bs, F, ρ, vs, e, r => by
    cases r with
    | cons r q =>
      cases r <;> simp only [stD, reduceCtorEq, Option.map_eq_some_iff] at e
      obtain ⟨bs', e1, rfl⟩ := e
      rw [stD_ok e1 q]; rfl
def cAll (st : Store) : List D → Option D
  | [d] => (asL st d).bind fun xs => (blD xs).map fun bs => .bl (bs.all id)
  | _ => none
def cAny (st : Store) : List D → Option D
  | [d] => (asL st d).bind fun xs => (blD xs).map fun bs => .bl (bs.any id)
  | _ => none
def cSum (st : Store) : List D → Option D
  | [d] => (asL st d).bind fun xs => (itD xs).map fun bs => .int bs.sum
  | _ => none
def maxI : List Int → Int
  | [] => 0
  | [a] => a
  | a :: r => max a (maxI r)
def minI : List Int → Int
  | [] => 0
  | [a] => a
  | a :: r => min a (minI r)
theorem maxI_ok : ∀ {l : List Int}, l ≠ [] → maxI l ∈ l ∧ ∀ y ∈ l, y ≤ maxI l
  | [], h => absurd rfl h
  | [a], _ => by simp [maxI]
  | a :: b :: r, _ => by
    obtain ⟨h1, h2⟩ := maxI_ok (l := b :: r) (by simp)
    have e : maxI (a :: b :: r) = max a (maxI (b :: r)) := rfl
    rw [e]
    refine ⟨?_, fun y hy => ?_⟩
    · by_cases hh : a ≤ maxI (b :: r)
      · rw [Int.max_eq_right hh]; exact List.mem_cons_of_mem _ h1
      · rw [Int.max_eq_left (by omega)]; simp
    · rcases List.mem_cons.mp hy with rfl | hy
      · exact Int.le_max_left _ _
      · exact Int.le_trans (h2 y hy) (Int.le_max_right _ _)
theorem minI_ok : ∀ {l : List Int}, l ≠ [] → minI l ∈ l ∧ ∀ y ∈ l, minI l ≤ y
  | [], h => absurd rfl h
  | [a], _ => by simp [minI]
  | a :: b :: r, _ => by
    obtain ⟨h1, h2⟩ := minI_ok (l := b :: r) (by simp)
    have e : minI (a :: b :: r) = min a (minI (b :: r)) := rfl
    rw [e]
    refine ⟨?_, fun y hy => ?_⟩
    · by_cases hh : a ≤ minI (b :: r)
      · rw [Int.min_eq_left hh]; simp
      · rw [Int.min_eq_right (by omega)]; exact List.mem_cons_of_mem _ h1
    · rcases List.mem_cons.mp hy with rfl | hy
      · exact Int.min_le_left _ _
      · exact Int.le_trans (Int.min_le_right _ _) (h2 y hy)
def cMax (st : Store) : List D → Option D
  | [.int i, .int j] => some (.int (if j > i then j else i))
  | [d] => (asL st d).bind fun xs => (itD xs).bind fun ns => if ns = [] then none else some (.int (maxI ns))
  | _ => none
def cMin (st : Store) : List D → Option D
  | [.int i, .int j] => some (.int (if j < i then j else i))
  | [d] => (asL st d).bind fun xs => (itD xs).bind fun ns => if ns = [] then none else some (.int (minI ns))
  | _ => none
def cInt (_ : Store) : List D → Option D
  | [.int i] => some (.int i)
  | [.bl k] => some (.int (if k then 1 else 0))
  | [.str x] => if x.length ≤ 640 then (PySem.intText? x).map .int else none
  | _ => none
def cStr (_ : Store) : List D → Option D
  | [.int i] => if i.natAbs.log2 < 1920 then some (.str (toString i)) else none
  | [.bl k] => some (.str (if k then "True" else "False"))
  | [.str x] => some (.str x)
  | _ => none
def cOrd (_ : Store) : List D → Option D
  | [.str x] => if x.length = 1 then some (.int (x.cps.getD 0 0 : Nat)) else none
  | _ => none
def cList (st : Store) : List D → Option D
  | [.tup xs] => some (.lst xs)
  | [d] => (asL st d).map .lst
  | _ => none
def cTuple (st : Store) : List D → Option D
  | [.tup xs] => some (.tup xs)
  | [d] => (asL st d).bind fun xs => if notSw xs = true then some (.tup xs) else none
  | _ => none
theorem RDs.one {F : Hp} {ρ : List Addr} {d : D} {vs : List V} (r : RDs K F ρ [d] vs) : ∃ v, vs = [v] ∧ RD K F ρ d v := by
  cases r with
  | cons r q => cases q; exact ⟨_, rfl, r⟩
theorem RDs.two {F : Hp} {ρ : List Addr} {d e : D} {vs : List V} (r : RDs K F ρ [d, e] vs) : ∃ v u, vs = [v, u] ∧ RD K F ρ d v ∧ RD K F ρ e u := by
  cases r with
  | cons r q =>
    cases q with
    | cons r2 q => cases q; exact ⟨_, _, rfl, r, r2⟩
theorem c_len : CallR X (.builtin "len") (rC X.K T cLen) := by
  intro pins s σ H xs us Q I r q
  obtain ⟨W, st, ds, z, r1, rs, hz, k⟩ := q
  unfold cLen at hz
  split at hz
  · rename_i zz
    obtain ⟨v, rfl, r0⟩ := r1.one
    cases r0
    split at hz
    · rename_i hl
      cases hz
      exact call_len pins s σ H _ us Q I r ⟨_, zz.length, rfl, ⟨hl, rfl⟩, k W _ H (Wd.le.refl _) (.int _) rs⟩
    · cases hz
  · cases hz
    obtain ⟨v, rfl, r0⟩ := r1.one
    obtain ⟨a, ws, rfl, h1, q1⟩ := asT_ok rs r0 rfl
    exact call_len pins s σ H _ us Q I r ⟨_, _, rfl, .inr ⟨ws, h1, rfl⟩, by rw [← q1.length]; exact k W _ H (Wd.le.refl _) (.int _) rs⟩
  · simp only [Option.map_eq_some_iff] at hz
    obtain ⟨ys, e1, rfl⟩ := hz
    obtain ⟨v, rfl, r0⟩ := r1.one
    obtain ⟨a, ws, rfl, h1, q1⟩ := asL_ok rs r0 e1
    exact call_len pins s σ H _ us Q I r ⟨_, _, rfl, .inl ⟨ws, h1, rfl⟩, by rw [← q1.length]; exact k W _ H (Wd.le.refl _) (.int _) rs⟩
  · cases hz
theorem c_all (hc : X.calm = true) : CallR X (.builtin "all") (rC X.K T cAll) := by
  intro pins s σ H xs us Q I r q
  obtain ⟨W, st, ds, z, r1, rs, hz, k⟩ := q
  unfold cAll at hz
  split at hz
  · simp only [Option.bind_eq_some_iff, Option.map_eq_some_iff] at hz
    obtain ⟨ys, e1, bs, e2, rfl⟩ := hz
    obtain ⟨v, rfl, r0⟩ := r1.one
    obtain ⟨a, ws, rfl, h1, q1⟩ := asL_ok rs r0 e1
    exact cr_all hc pins s σ H _ us Q I r ⟨a, bs, rfl, by rw [← blD_ok e2 q1]; exact h1, k W _ H (Wd.le.refl _) (.bl _) rs⟩
  · cases hz
theorem c_any (hc : X.calm = true) : CallR X (.builtin "any") (rC X.K T cAny) := by
  intro pins s σ H xs us Q I r q
  obtain ⟨W, st, ds, z, r1, rs, hz, k⟩ := q
  unfold cAny at hz
  split at hz
  · simp only [Option.bind_eq_some_iff, Option.map_eq_some_iff] at hz
    obtain ⟨ys, e1, bs, e2, rfl⟩ := hz
    obtain ⟨v, rfl, r0⟩ := r1.one
    obtain ⟨a, ws, rfl, h1, q1⟩ := asL_ok rs r0 e1
    exact cr_any hc pins s σ H _ us Q I r ⟨a, bs, rfl, by rw [← blD_ok e2 q1]; exact h1, k W _ H (Wd.le.refl _) (.bl _) rs⟩
  · cases hz
theorem c_sum (hc : X.calm = true) : CallR X (.builtin "sum") (rC X.K T cSum) := by
  intro pins s σ H xs us Q I r q
  obtain ⟨W, st, ds, z, r1, rs, hz, k⟩ := q
  unfold cSum at hz
  split at hz
  · simp only [Option.bind_eq_some_iff, Option.map_eq_some_iff] at hz
    obtain ⟨ys, e1, bs, e2, rfl⟩ := hz
    obtain ⟨v, rfl, r0⟩ := r1.one
    obtain ⟨a, ws, rfl, h1, q1⟩ := asL_ok rs r0 e1
    exact cr_sum hc pins s σ H _ us Q I r ⟨a, bs, rfl, by rw [← itD_ok e2 q1]; exact h1, k W _ H (Wd.le.refl _) (.int _) rs⟩
  · cases hz
theorem c_max (hc : X.calm = true) : CallR X (.builtin "max") (rC X.K T cMax) := by
  intro pins s σ H xs us Q I r q
  obtain ⟨W, st, ds, z, r1, rs, hz, k⟩ := q
  unfold cMax at hz
  split at hz
  · rename_i i j
    cases hz
    obtain ⟨v, u, rfl, ra, rb⟩ := r1.two
    cases ra; cases rb
    exact call_max2 hc pins s σ H _ us Q I r ⟨i, j, rfl, k W _ H (Wd.le.refl _) (.int _) rs⟩
  · simp only [Option.bind_eq_some_iff] at hz
    obtain ⟨ys, e1, ns, e2, hz⟩ := hz
    split at hz
    · cases hz
    · rename_i hne
      cases hz
      obtain ⟨v, rfl, r0⟩ := r1.one
      obtain ⟨a, ws, rfl, h1, q1⟩ := asL_ok rs r0 e1
      refine cr_max hc pins s σ H _ us Q I r ⟨a, ns, rfl, by rw [← itD_ok e2 q1]; exact h1, List.length_pos_iff.mpr hne, fun m hm hle => ?_⟩
      obtain ⟨g1, g2⟩ := maxI_ok hne
      have e : m = maxI ns := Int.le_antisymm (g2 m hm) (hle _ g1)
      rw [e]
      exact k W _ H (Wd.le.refl _) (.int _) rs
  · cases hz
theorem c_min (hc : X.calm = true) : CallR X (.builtin "min") (rC X.K T cMin) := by
  intro pins s σ H xs us Q I r q
  obtain ⟨W, st, ds, z, r1, rs, hz, k⟩ := q
  unfold cMin at hz
  split at hz
  · rename_i i j
    cases hz
    obtain ⟨v, u, rfl, ra, rb⟩ := r1.two
    cases ra; cases rb
    exact call_min2 hc pins s σ H _ us Q I r ⟨i, j, rfl, k W _ H (Wd.le.refl _) (.int _) rs⟩
  · simp only [Option.bind_eq_some_iff] at hz
    obtain ⟨ys, e1, ns, e2, hz⟩ := hz
    split at hz
    · cases hz
    · rename_i hne
      cases hz
      obtain ⟨v, rfl, r0⟩ := r1.one
      obtain ⟨a, ws, rfl, h1, q1⟩ := asL_ok rs r0 e1
      refine cr_min hc pins s σ H _ us Q I r ⟨a, ns, rfl, by rw [← itD_ok e2 q1]; exact h1, List.length_pos_iff.mpr hne, fun m hm hle => ?_⟩
      obtain ⟨g1, g2⟩ := minI_ok hne
      have e : m = minI ns := Int.le_antisymm (hle _ g1) (g2 m hm)
      rw [e]
      exact k W _ H (Wd.le.refl _) (.int _) rs
  · cases hz
theorem c_int : CallR X (.type "int") (rC X.K T cInt) := by
  intro pins s σ H xs us Q I r q
  obtain ⟨W, st, ds, z, r1, rs, hz, k⟩ := q
  unfold cInt at hz
  split at hz
  · rename_i i
    cases hz
    obtain ⟨v, rfl, r0⟩ := r1.one
    cases r0
    exact call_int1 pins s σ H _ us Q I r (.inl ⟨i, rfl, k W _ H (Wd.le.refl _) (.int _) rs⟩)
  · rename_i b
    cases hz
    obtain ⟨v, rfl, r0⟩ := r1.one
    cases r0
    exact call_int1 pins s σ H _ us Q I r (.inr ⟨b, rfl, k W _ H (Wd.le.refl _) (.int _) rs⟩)
  · rename_i b
    obtain ⟨v, rfl, r0⟩ := r1.one
    cases r0
    split at hz
    · rename_i hl
      simp only [Option.map_eq_some_iff] at hz
      obtain ⟨n, hn, rfl⟩ := hz
      exact call_int_str pins s σ H _ us Q I r ⟨b, n, rfl, hn, hl, k W _ H (Wd.le.refl _) (.int _) rs⟩
    · cases hz
  · cases hz
theorem call_str_bl : CallR X (.type "str") (fun xs H Q => ∃ b : Bool, xs = [.bl b] ∧ Q (.str (if b then "True" else "False")) H) := by
  intro pins s σ H xs us Q I r h
  obtain ⟨b, rfl, q⟩ := h
  obtain ⟨u, rfl, t⟩ := vals1 r
  cases t
  exact PySem.P.str_of_bool ⟨.str _, H, I.tok _, ⟨_, rfl⟩, q⟩
theorem c_str : CallR X (.type "str") (rC X.K T cStr) := by
  intro pins s σ H xs us Q I r q
  obtain ⟨W, st, ds, z, r1, rs, hz, k⟩ := q
  unfold cStr at hz
  split at hz
  · rename_i i
    obtain ⟨v, rfl, r0⟩ := r1.one
    cases r0
    split at hz
    · rename_i hl
      cases hz
      exact call_str_int pins s σ H _ us Q I r ⟨i, rfl, hl, k W _ H (Wd.le.refl _) (.str _) rs⟩
    · cases hz
  · rename_i b
    cases hz
    obtain ⟨v, rfl, r0⟩ := r1.one
    cases r0
    exact call_str_bl pins s σ H _ us Q I r ⟨b, rfl, k W _ H (Wd.le.refl _) (.str _) rs⟩
  · rename_i b
    cases hz
    obtain ⟨v, rfl, r0⟩ := r1.one
    cases r0
    exact SkE.call_str_str pins s σ H _ us Q I r ⟨b, rfl, k W _ H (Wd.le.refl _) (.str _) rs⟩
  · cases hz
theorem c_ord : CallR X (.builtin "ord") (rC X.K T cOrd) := by
  intro pins s σ H xs us Q I r q
  obtain ⟨W, st, ds, z, r1, rs, hz, k⟩ := q
  unfold cOrd at hz
  split at hz
  · rename_i x
    obtain ⟨v, rfl, r0⟩ := r1.one
    cases r0
    split at hz
    · rename_i hl
      cases hz
      exact call_ord pins s σ H _ us Q I r ⟨x, rfl, hl, k W _ H (Wd.le.refl _) (.int _) rs⟩
    · cases hz
  · cases hz
theorem c_list : CallR X (.type "list") (rC X.K T cList) := by
  intro pins s σ H xs us Q I r q
  obtain ⟨W, st, ds, z, r1, rs, hz, k⟩ := q
  unfold cList at hz
  split at hz
  · cases hz
    obtain ⟨v, rfl, r0⟩ := r1.one
    obtain ⟨a, ws, rfl, h1, q1⟩ := asT_ok rs r0 rfl
    refine call_list_of pins s σ H _ us Q I r ⟨a, ws, rfl, .inr h1, fun p hp => ?_⟩
    obtain ⟨l1, l2, l3⟩ := new_lst rs hp q1
    exact k _ _ _ l1 l2 l3
  · simp only [Option.map_eq_some_iff] at hz
    obtain ⟨ys, e1, rfl⟩ := hz
    obtain ⟨v, rfl, r0⟩ := r1.one
    obtain ⟨a, ws, rfl, h1, q1⟩ := asL_ok rs r0 e1
    refine call_list_of pins s σ H _ us Q I r ⟨a, ws, rfl, .inl h1, fun p hp => ?_⟩
    obtain ⟨l1, l2, l3⟩ := new_lst rs hp q1
    exact k _ _ _ l1 l2 l3
  · cases hz
theorem c_tuple : CallR X (.type "tuple") (rC X.K T cTuple) := by
  intro pins s σ H xs us Q I r q
  obtain ⟨W, st, ds, z, r1, rs, hz, k⟩ := q
  unfold cTuple at hz
  split at hz
  · cases hz
    obtain ⟨v, rfl, r0⟩ := r1.one
    obtain ⟨a, ws, rfl, h1, q1⟩ := asT_ok rs r0 rfl
    exact call_tuple_of pins s σ H _ us Q I r ⟨a, ws, rfl, .inr ⟨h1, k W _ H (Wd.le.refl _) r0 rs⟩⟩
  · simp only [Option.bind_eq_some_iff] at hz
    obtain ⟨ys, e1, hz⟩ := hz
    split at hz
    rotate_left
    · cases hz
    rename_i hsw
    cases hz
    obtain ⟨v, rfl, r0⟩ := r1.one
    obtain ⟨a, ws, rfl, h1, q1⟩ := asL_ok rs r0 e1
    refine call_tuple_of pins s σ H _ us Q I r ⟨a, ws, rfl, .inl ⟨h1, fun p hp => ?_⟩⟩
    obtain ⟨l1, l2, l3⟩ := new_tup rs hp q1 hsw
    exact k _ _ _ l1 l2 l3
  · cases hz
/-! ### isinstance with built-in classes -/
def tyD (st : Store) : D → Option String
  | .non => some "NoneType"
  | .bl _ => some "bool"
  | .int _ => some "int"
  | .str _ => some "str"
  | .lst _ => some "list"
  | .tup _ => some "tuple"
  | .dct _ _ => some "dict"
  | .ref n => match st[n]? with
    | some (.lst _) => some "list"
    | some (.dct _ _) => some "dict"
    | _ => none
  | _ => none
def isiT (a b : String) : Option Bool := match a, b with
  | "NoneType", "str" => some false | "NoneType", "int" => some false | "NoneType", "tuple" => some false | "NoneType", "list" => some false | "NoneType", "bool" => some false | "NoneType", "dict" => some false
  | "bool", "str" => some false | "bool", "int" => some true | "bool", "tuple" => some false | "bool", "list" => some false | "bool", "bool" => some true | "bool", "dict" => some false
  | "int", "str" => some false | "int", "int" => some true | "int", "tuple" => some false | "int", "list" => some false | "int", "bool" => some false | "int", "dict" => some false
  | "str", "str" => some true | "str", "int" => some false | "str", "tuple" => some false | "str", "list" => some false | "str", "bool" => some false | "str", "dict" => some false
  | "list", "str" => some false | "list", "int" => some false | "list", "tuple" => some false | "list", "list" => some true | "list", "bool" => some false | "list", "dict" => some false
  | "tuple", "str" => some false | "tuple", "int" => some false | "tuple", "tuple" => some true | "tuple", "list" => some false | "tuple", "bool" => some false | "tuple", "dict" => some false
  | "dict", "str" => some false | "dict", "int" => some false | "dict", "tuple" => some false | "dict", "list" => some false | "dict", "bool" => some false | "dict", "dict" => some true
  | _, _ => none
def cIsi (st : Store) : List D → Option D
  | [d, .ty n] => (tyD st d).bind fun m => (isiT m n).map .bl
  | _ => none
theorem isiT_ok {a b : String} {r : Bool} (h : isiT a b = some r) : kitB a b = some r := by
  unfold isiT at h
  split at h <;> cases h <;> decide +kernel
theorem tyD_ok {st : Store} {H : Hp} {d : D} {v : V} {t : String} (rs : RS K T W st H) (r : RV K W d v) (e : tyD st d = some t) : TyX K H v (.type t) := by
  cases r with
  | non => cases e; exact .base .non
  | bl b => cases e; exact .base (.bl b)
  | int i => cases e; exact .base (.int i)
  | str x => cases e; exact .base (.str x)
  | ty _ => cases e
  | fix _ _ => cases e
  | lst h q => cases e; exact .base (.lst (rs.f _ _ h))
  | tup h q =>
    cases e
    rcases h with (h | ⟨o, h⟩) | ⟨o, _, _, h, hc, _⟩
    · exact .base (.tup (rs.f _ _ h))
    · exact .fTuple (rs.f _ _ h)
    · exact .kTuple h hc
  | dct h _ _ => cases e; exact .base (.dK (rs.f _ _ h))
  | ref h =>
    simp only [tyD] at e
    split at e
    · rename_i xs hs
      obtain ⟨vs, h1, q⟩ := rs.cell _ _ _ hs h
      cases e
      exact .base (.lst h1)
    · rename_i xs ys hs
      obtain ⟨vs, h1, q⟩ := rs.cell _ _ _ hs h
      cases e
      exact .base (.dK h1)
    · cases e
theorem c_isi : CallR X (.builtin "isinstance") (rC X.K T cIsi) := by
  intro pins s σ H xs us Q I r q
  obtain ⟨W, st, ds, z, r1, rs, hz, k⟩ := q
  unfold cIsi at hz
  split at hz
  · rename_i d n
    simp only [Option.bind_eq_some_iff, Option.map_eq_some_iff] at hz
    obtain ⟨m, e1, b, e2, rfl⟩ := hz
    obtain ⟨v, u, rfl, ra, rb⟩ := r1.two
    cases rb
    exact call_isi pins s σ H _ us Q I r ⟨v, .ty n, .type m, .type n, b, rfl, .ty n, tyD_ok rs ra e1, kit_ty (isiT_ok e2), k W _ H (Wd.le.refl _) (.bl _) rs⟩
  · cases hz
end
end Mr
namespace Mr
open PySem PySem.Spec L2
/-! ### methods of built-in types -/
def rMt (K : PySem.W.Frag) (T : Tb) (g : Store → D → List D → Option (D × Store)) : V → List V → Hp → VK → Prop := fun x xs H Q =>
  ∃ W st d ds z st', RV K W d x ∧ RVs K W ds xs ∧ RS K T W st H ∧ g st d ds = some (z, st') ∧ ∀ W' v H', W.le W' → RV K W' z v → RS K T W' st' H' → Q v H'
def rcv (ty : String) (st : Store) (d : D) : Bool := match ty, d with
  | "str", .str _ => true
  | "list", d => (asL st d).isSome
  | "dict", .dct _ _ => true
  | "dict", .ref n => match st[n]? with
    | some (.dct _ _) => true
    | _ => false
  | _, _ => false
def mMt (ty : String) (g : Store → D → List D → Option (D × Store)) (mo : Ev D) (ms : Ev (List D)) : Ev D := fun env st => (mo env st).bind fun d st => if rcv ty st d = true then (ms env st).bind fun ds st => match g st d ds with
  | some (z, st) => .ok z st
  | none => .no
  else .no
section
variable {K : PySem.W.Frag} {T : Tb} {Wx : WX} {X : Cx} {W : Wd}
theorem rcv_ok {st : Store} {H : Hp} {d : D} {v : V} {ty : String} (rs : RS K T W st H) (r : RV K W d v) (e : rcv ty st d = true) : tyV K ty v H := by
  unfold rcv at e
  split at e
  · cases r; exact rfl
  · obtain ⟨xs, h⟩ := Option.isSome_iff_exists.mp e
    obtain ⟨a, us, rfl, h1, _⟩ := asL_ok rs r h
    exact .inl ⟨rfl, us, h1⟩
  · cases r with
    | dct h _ _ => exact .inr (.inr (.inl ⟨rfl, .inl ⟨_, rs.f _ _ h⟩⟩))
  · split at e
    · rename_i n ks vs hs
      cases r with
      | ref h =>
        obtain ⟨us, h1, _, _⟩ := rs.cell _ _ _ hs h
        exact .inr (.inr (.inl ⟨rfl, .inl ⟨_, h1⟩⟩))
    · cases e
  · cases e
variable {o e : Expr} {es : List Expr} {mo : Ev D} {ms : Ev (List D)} {name : Str} {apos cpos : Pos} {ty id : String} {g : Store → D → List D → Option (D × Store)}
theorem mt_read (σ : St) (H : Hp) (Q : VK) (q : tE K T Wx (mMt ty g mo ms) σ H Q) : tBM K ty (rMt K T g) (tE K T Wx mo) (tA K T Wx ms) σ H Q := by
  obtain ⟨W, env, st, re, rs, p⟩ := q
  refine ⟨W, env, st, re, rs, PostG.step p fun d st1 W1 x H1 _ l1 r1 rs1 p1 => ?_⟩
  by_cases hr : rcv ty st1 d = true
  · simp only [hr, if_true] at p1
    refine ⟨rcv_ok rs1 r1 hr, W1, env, st1, re.mono l1, rs1, PostG.step p1 fun ds st2 W2 xs H2 _ l2 r2 rs2 p2 => ?_⟩
    cases hz : g st2 d ds with
    | none => simp only [hz] at p2; exact p2.elim
    | some z =>
      obtain ⟨z, st3⟩ := z
      simp only [hz] at p2
      exact ⟨W2, st2, d, ds, z, st3, r1.mono l2, r2, rs2, hz, p2⟩
  · rw [if_neg hr] at p1; exact p1.elim
theorem so_mt (pa : PlainAttrs ty) (slot : Slot ty name id) (hty : typeOf (.builtin id) = pure (.type "method_descriptor")) (hm : MtR X id (rMt X.K T g)) (ho : SE T Wx X o mo) (ha : SA T Wx X (e :: es) ms)
    (hbase : attributeBase o name X.env (eval o X.env) = eval o X.env := by rfl)
    (hfew : ((backTo cpos (starEach (e :: es) X.env)).all (fun x => !x.1) && (backToKw cpos (keywordEach [] X.env)).all (fun x => x.1.isSome)
      && decide ((e :: es).length + ([] : List Keyword).length + (if ([] : List Keyword).isEmpty then 0 else 1) < 30)) = true := by rfl)
    (hline : (apos.endLine == cpos.line) = true := by rfl) (hs : starEach (e :: es) X.env = (false, eval e X.env) :: starEach es X.env := by rfl) (hplain : (backTo cpos (starEach es X.env)).any (·.1) = false := by rfl) :
    SE T Wx X (.Call (.Attribute o name apos) (e :: es) [] cpos) (mMt ty g mo ms) :=
  PE.imp (pe_bm pa slot hty hm ho ha hbase hfew hline hs hplain) (mt_read (K := X.K))
theorem so_mt0 (pa : PlainAttrs ty) (slot : Slot ty name id) (hty : typeOf (.builtin id) = pure (.type "method_descriptor")) (hm : MtR X id (rMt X.K T g)) (ho : SE T Wx X o mo)
    (hbase : attributeBase o name X.env (eval o X.env) = eval o X.env := by rfl) (hline : (apos.endLine == cpos.line) = true := by rfl) :
    SE T Wx X (.Call (.Attribute o name apos) [] [] cpos) (mMt ty g mo mNil) :=
  PE.imp (pe_bm0 pa slot hty hm ho hbase hline) fun σ H Q q => by
    obtain ⟨W, env, st, re, rs, p⟩ := q
    refine ⟨W, env, st, re, rs, PostG.step p fun d st1 W1 x H1 _ l1 r1 rs1 p1 => ?_⟩
    by_cases hr : rcv ty st1 d = true
    · simp only [hr, if_true] at p1
      refine ⟨rcv_ok rs1 r1 hr, ?_⟩
      have p2 : PostG X.K T (fun c d H => Wx c d σ H) W1 (RV X.K) (match g st1 d [] with
        | some (z, st) => Res.ok z st
        | none => .no) Q := p1
      cases hz : g st1 d [] with
      | none => simp only [hz] at p2; exact p2.elim
      | some z =>
        obtain ⟨z, st3⟩ := z
        simp only [hz] at p2
        exact ⟨W1, st1, d, [], z, st3, r1, .nil, rs1, hz, p2⟩
    · rw [if_neg hr] at p1; exact p1.elim
/-! the texts' methods -/
def pureM (g : Store → D → List D → Option D) : Store → D → List D → Option (D × Store) := fun st d ds => (g st d ds).map fun z => (z, st)
theorem pureM_some {g : Store → D → List D → Option D} {st st' : Store} {d z : D} {ds : List D} (h : pureM g st d ds = some (z, st')) : g st d ds = some z ∧ st' = st := by
  simp only [pureM, Option.map_eq_some_iff, Prod.mk.injEq] at h
  obtain ⟨a, h1, rfl, rfl⟩ := h
  exact ⟨h1, rfl⟩
def gSplit (_ : Store) : D → List D → Option D
  | .str a, [.str b] => if (b.length == 0) = false ∧ a.length + 2 ≤ sizeLine then some (.lst ((Txt.split a b).map .str)) else none
  | _, _ => none
def gJoin (st : Store) : D → List D → Option D
  | .str a, [.tup xs] => (stD xs).bind fun ys => if (ys.map (·.length)).sum + ys.length * a.length ≤ 16777216 then some (.str (Txt.join a ys)) else none
  | .str a, [d] => (asL st d).bind fun xs => (stD xs).bind fun ys => if (ys.map (·.length)).sum + ys.length * a.length ≤ 16777216 then some (.str (Txt.join a ys)) else none
  | _, _ => none
def gStripC (_ : Store) : D → List D → Option D
  | .str a, [.str b] => if a.length ≤ sizeLine then some (.str (Txt.stripChars a b)) else none
  | _, _ => none
def gUpper (_ : Store) : D → List D → Option D
  | .str a, [] => if a.length ≤ 5592405 then some (.str (Txt.upper a)) else none
  | _, _ => none
def gLower (_ : Store) : D → List D → Option D
  | .str a, [] => if a.length ≤ 5592405 then some (.str (Txt.lower a)) else none
  | _, _ => none
theorem m_split : MtR X "str.split" (rMt X.K T (pureM gSplit)) := by
  intro pins s σ H x xs v us Q I rx rxs q
  obtain ⟨W, st, d, ds, z, st', r1, r2, rs, hz, k⟩ := q
  replace hz := pureM_some hz
  obtain ⟨hz, rfl⟩ := hz
  unfold gSplit at hz
  split at hz
  · rename_i a b
    obtain ⟨w, rfl, r3⟩ := r2.one
    cases r1; cases r3
    split at hz
    · rename_i hc
      cases hz
      refine mt_split pins s σ H _ _ v us Q I rx rxs ⟨a, b, rfl, rfl, hc.1, hc.2, fun p hp => ?_⟩
      obtain ⟨l1, l2, l3⟩ := new_lst rs hp (RDs.strs (Txt.split a b))
      exact k _ _ _ l1 l2 l3
    · cases hz
  · cases hz
theorem m_join : MtR X "str.join" (rMt X.K T (pureM gJoin)) := by
  intro pins s σ H x xs v us Q I rx rxs q
  obtain ⟨W, st, d, ds, z, st', r1, r2, rs, hz, k⟩ := q
  replace hz := pureM_some hz
  obtain ⟨hz, rfl⟩ := hz
  unfold gJoin at hz
  split at hz
  · rename_i a ys
    obtain ⟨w, rfl, r3⟩ := r2.one
    cases r1
    simp only [Option.bind_eq_some_iff] at hz
    obtain ⟨zs, e1, hz⟩ := hz
    split at hz
    · rename_i hc
      cases hz
      obtain ⟨p, ws, rfl, h1, q1⟩ := asT_ok rs r3 rfl
      refine mt_join pins s σ H _ _ v us Q I rx rxs ⟨a, p, zs, rfl, rfl, .inr (by rw [← stD_ok e1 q1]; exact h1), hc, k W _ H (Wd.le.refl _) (.str _) rs⟩
    · cases hz
  · rename_i a d _
    obtain ⟨w, rfl, r3⟩ := r2.one
    cases r1
    simp only [Option.bind_eq_some_iff] at hz
    obtain ⟨ys, e0, zs, e1, hz⟩ := hz
    split at hz
    · rename_i hc
      cases hz
      obtain ⟨p, ws, rfl, h1, q1⟩ := asL_ok rs r3 e0
      refine mt_join pins s σ H _ _ v us Q I rx rxs ⟨a, p, zs, rfl, rfl, .inl (by rw [← stD_ok e1 q1]; exact h1), hc, k W _ H (Wd.le.refl _) (.str _) rs⟩
    · cases hz
  · cases hz
theorem m_stripC : MtR X "str.strip" (rMt X.K T (pureM gStripC)) := by
  intro pins s σ H x xs v us Q I rx rxs q
  obtain ⟨W, st, d, ds, z, st', r1, r2, rs, hz, k⟩ := q
  replace hz := pureM_some hz
  obtain ⟨hz, rfl⟩ := hz
  unfold gStripC at hz
  split at hz
  · rename_i a b
    obtain ⟨w, rfl, r3⟩ := r2.one
    cases r1; cases r3
    split at hz
    · rename_i hc
      cases hz
      exact mt_stripChars pins s σ H _ _ v us Q I rx rxs ⟨a, b, rfl, rfl, hc, k W _ H (Wd.le.refl _) (.str _) rs⟩
    · cases hz
  · cases hz
theorem m_upper : MtR X "str.upper" (rMt X.K T (pureM gUpper)) := by
  intro pins s σ H x xs v us Q I rx rxs q
  obtain ⟨W, st, d, ds, z, st', r1, r2, rs, hz, k⟩ := q
  replace hz := pureM_some hz
  obtain ⟨hz, rfl⟩ := hz
  unfold gUpper at hz
  split at hz
  · rename_i a
    cases r1; cases r2
    split at hz
    · rename_i hc
      cases hz
      exact mt_upper pins s σ H _ _ v us Q I rx rxs ⟨a, rfl, rfl, hc, k W _ H (Wd.le.refl _) (.str _) rs⟩
    · cases hz
  · cases hz
theorem m_lower : MtR X "str.lower" (rMt X.K T (pureM gLower)) := by
  intro pins s σ H x xs v us Q I rx rxs q
  obtain ⟨W, st, d, ds, z, st', r1, r2, rs, hz, k⟩ := q
  replace hz := pureM_some hz
  obtain ⟨hz, rfl⟩ := hz
  unfold gLower at hz
  split at hz
  · rename_i a
    cases r1; cases r2
    split at hz
    · rename_i hc
      cases hz
      exact mt_lower pins s σ H _ _ v us Q I rx rxs ⟨a, rfl, rfl, hc, k W _ H (Wd.le.refl _) (.str _) rs⟩
    · cases hz
  · cases hz
/-! list.index (of data), append -/
def gIndex (st : Store) (d : D) : List D → Option D
  | [e] => match py 3 st d, py 3 st e with
    | some (.list zs), some x => if shp (.list zs) && shp x then (zs.findIdx? fun z => PyData.eqv z x).map fun j => .int (j : Nat) else none
    | _, _ => none
  | _ => none
theorem m_index (hu : X.A.units + 65 < cLine) : MtR X "list.index" (rMt X.K T (pureM gIndex)) := by
  intro pins s σ H x xs v us Q I rx rxs q
  obtain ⟨W, st, d, ds, z, st', r1, r2, rs, hz, k⟩ := q
  replace hz := pureM_some hz
  obtain ⟨hz, rfl⟩ := hz
  unfold gIndex at hz
  split at hz
  · rename_i e
    obtain ⟨w, rfl, r3⟩ := r2.one
    split at hz
    · rename_i zs y e1 e2
      split at hz
      · rename_i hs
        rw [Bool.and_eq_true] at hs
        simp only [Option.map_eq_some_iff] at hz
        obtain ⟨j, hj, rfl⟩ := hz
        have h1 := py_ok rs _ _ _ _ e1 r1
        have h2 := py_ok rs _ _ _ _ e2 r3
        obtain ⟨hlt, hp, hno⟩ := List.findIdx?_eq_some_iff_getElem.mp hj
        cases h1 with
        | lst hq hd =>
          exact mt_indexD hu pins s σ H _ _ v us Q I rx rxs ⟨_, w, y, zs, j, zs[j], rfl, rfl, .lst hq hd, h2, hs.1, hs.2, by simp [hlt], hp, fun m z' hm hz' => by
            have := hno m hm
            obtain ⟨hmlt, e⟩ := List.getElem?_eq_some_iff.mp hz'
            rw [← e]
            simpa using this, k W _ H (Wd.le.refl _) (.int _) rs⟩
      · cases hz
    · cases hz
  · cases hz
def gAppend (st : Store) : D → List D → Option (D × Store)
  | .ref n, [d] => match st[n]? with
    | some (.lst xs) => if xs.length < sizeLine then some (.non, st.set n (.lst (xs ++ [d]))) else none
    | _ => none
  | _, _ => none
theorem m_append : MtR X "list.append" (rMt X.K T gAppend) := by
  intro pins s σ H x xs v us Q I rx rxs q
  obtain ⟨W, st, d, ds, z, st', r1, r2, rs, hz, k⟩ := q
  unfold gAppend at hz
  split at hz
  · rename_i n e
    split at hz
    · rename_i ys hs
      split at hz
      · rename_i hl
        cases hz
        obtain ⟨w, rfl, r3⟩ := r2.one
        cases r1 with
        | ref h =>
          obtain ⟨ws, h1, q1⟩ := rs.cell _ _ _ hs h
          exact mt_append pins s σ H _ _ v us Q I rx rxs ⟨_, ws, w, rfl, rfl, h1, by rw [← q1.length]; exact hl, k W _ _ (Wd.le.refl _) .non (rs.setC h ⟨_, rfl, q1.append (.cons r3 .nil)⟩ hs)⟩
      · cases hz
    · cases hz
  · cases hz
def gExtend (st : Store) : D → List D → Option (D × Store)
  | .ref n, [d] => match st[n]?, asLs st d with
    | some (.lst xs), some ys => if xs.length + ys.length ≤ sizeLine then some (.non, st.set n (.lst (xs ++ ys))) else none
    | _, _ => none
  | _, _ => none
theorem m_extend : MtR X "list.extend" (rMt X.K T gExtend) := by
  intro pins s σ H x xs v us Q I rx rxs q
  obtain ⟨W, st, d, ds, z, st', r1, r2, rs, hz, k⟩ := q
  unfold gExtend at hz
  split at hz
  · rename_i n e
    split at hz
    · rename_i ys zs hs hy
      split at hz
      · rename_i hl
        cases hz
        obtain ⟨w, rfl, r3⟩ := r2.one
        obtain ⟨b, bs, rfl, h2, q2⟩ := asLs_ok rs r3 hy
        cases r1 with
        | ref h =>
          obtain ⟨ws, h1, q1⟩ := rs.cell _ _ _ hs h
          exact mt_extend pins s σ H _ _ v us Q I rx rxs ⟨_, b, ws, bs, rfl, rfl, h1, h2, by rw [← q1.length, ← q2.length]; exact hl, k W _ _ (Wd.le.refl _) .non (rs.setC h ⟨_, rfl, q1.append q2⟩ hs)⟩
      · cases hz
    · cases hz
  · cases hz
end
end Mr
namespace Mr
open PySem PySem.Spec L2
/-! ### equality of data, to be reckoned -/
mutual
def D.beq : D → D → Bool
  | .non, .non => true
  | .bl a, .bl b => a == b
  | .int a, .int b => decide (a = b)
  | .str a, .str b => decide (a = b)
  | .ty a, .ty b => decide (a = b)
  | .lst a, .lst b => D.beqs a b
  | .fix a, .fix b => D.beqs a b
  | .tup a, .tup b => D.beqs a b
  | .dct k a, .dct l b => decide (k = l) && D.beqs a b
  | .ref a, .ref b => decide (a = b)
  | _, _ => false
def D.beqs : List D → List D → Bool
  | [], [] => true
  | a :: r, b :: s => D.beq a b && D.beqs r s
  | _, _ => false
end
mutual
theorem D.beq_eq : ∀ (a b : D), D.beq a b = true → a = b
  | .non, b, h => by cases b <;> simp_all [D.beq]
  | .bl a, b, h => by cases b <;> simp_all [D.beq]
  | .int a, b, h => by cases b <;> simp_all [D.beq]
  | .str a, b, h => by cases b <;> simp_all [D.beq]
  | .ty a, b, h => by cases b <;> simp_all [D.beq]
  | .lst a, b, h => by
    cases b <;> simp only [D.beq, reduceCtorEq, Bool.false_eq_true] at h
    rw [D.beqs_eq _ _ h]
  | .fix a, b, h => by
    cases b <;> simp only [D.beq, reduceCtorEq, Bool.false_eq_true] at h
    rw [D.beqs_eq _ _ h]
  | .tup a, b, h => by
    cases b <;> simp only [D.beq, reduceCtorEq, Bool.false_eq_true] at h
    rw [D.beqs_eq _ _ h]
  | .dct k a, b, h => by
    cases b <;> simp only [D.beq, reduceCtorEq, Bool.false_eq_true, Bool.and_eq_true, decide_eq_true_eq] at h
    rw [h.1, D.beqs_eq _ _ h.2]
  | .ref a, b, h => by cases b <;> simp_all [D.beq]
theorem D.beqs_eq : ∀ (a b : List D), D.beqs a b = true → a = b
  | [], b, h => by cases b <;> simp_all [D.beqs]
  | a :: r, b, h => by
    cases b with
    | nil => simp [D.beqs] at h
    | cons b s =>
      simp only [D.beqs, Bool.and_eq_true] at h
      rw [D.beq_eq _ _ h.1, D.beqs_eq _ _ h.2]
end
mutual
theorem D.beq_refl : ∀ (a : D), D.beq a a = true
  | .non => by simp [D.beq]
  | .bl a => by simp [D.beq]
  | .int a => by simp [D.beq]
  | .str a => by simp [D.beq]
  | .ty a => by simp [D.beq]
  | .lst a => by simp only [D.beq]; exact D.beqs_refl a
  | .fix a => by simp only [D.beq]; exact D.beqs_refl a
  | .tup a => by simp only [D.beq]; exact D.beqs_refl a
  | .dct k a => by simp only [D.beq, decide_true, Bool.true_and]; exact D.beqs_refl a
  | .ref a => by simp [D.beq]
theorem D.beqs_refl : ∀ (a : List D), D.beqs a a = true
  | [] => by simp [D.beqs]
  | a :: r => by simp only [D.beqs, Bool.and_eq_true]; exact ⟨D.beq_refl a, D.beqs_refl r⟩
end
instance : DecidableEq D := fun a b => if h : D.beq a b = true then .isTrue (D.beq_eq a b h) else .isFalse fun e => h (e ▸ D.beq_refl a)
def Cell.dec : (a b : Cell) → Decidable (a = b)
  | .lst xs, .lst ys => if h : xs = ys then .isTrue (by rw [h]) else .isFalse fun e => h (by cases e; rfl)
  | .dct ks xs, .dct js ys => if h : ks = js ∧ xs = ys then .isTrue (by rw [h.1, h.2]) else .isFalse fun e => h (by cases e; exact ⟨rfl, rfl⟩)
  | .ins c fs, .ins d gs => if h : c = d ∧ fs = gs then .isTrue (by rw [h.1, h.2]) else .isFalse fun e => h (by cases e; exact ⟨rfl, rfl⟩)
  | .lst _, .dct _ _ => .isFalse fun e => by cases e
  | .lst _, .ins _ _ => .isFalse fun e => by cases e
  | .dct _ _, .lst _ => .isFalse fun e => by cases e
  | .dct _ _, .ins _ _ => .isFalse fun e => by cases e
  | .ins _ _, .lst _ => .isFalse fun e => by cases e
  | .ins _ _, .dct _ _ => .isFalse fun e => by cases e
  | .dcf ks xs, .dcf js ys => if h : ks = js ∧ xs = ys then .isTrue (by rw [h.1, h.2]) else .isFalse fun e => h (by cases e; exact ⟨rfl, rfl⟩)
  | .dcf _ _, .lst _ => .isFalse fun e => by cases e
  | .dcf _ _, .dct _ _ => .isFalse fun e => by cases e
  | .dcf _ _, .ins _ _ => .isFalse fun e => by cases e
  | .lst _, .dcf _ _ => .isFalse fun e => by cases e
  | .dct _ _, .dcf _ _ => .isFalse fun e => by cases e
  | .ins _ _, .dcf _ _ => .isFalse fun e => by cases e
instance : DecidableEq Cell := Cell.dec

/-! ### hidden objects -/
section
variable {K : PySem.W.Frag} {T : Tb} {W : Wd} {st : Store} {H : Hp}
def Wd.hid (W : Wd) (p : Addr) (o : HO) : Wd := ⟨W.F, W.rh, upd W.U p o⟩
theorem CellR.same {W W' : Wd} (hF : W'.F = W.F) (hρ : W'.rh = W.rh) {c : Cell} {o : Option HO} (r : CellR K W c o) : CellR K W' c o := by
  have e : W' = ⟨W.F, W.rh, W'.U⟩ := by cases W'; simp_all
  have l : W.le ⟨W.F, W.rh, W.U⟩ := Wd.le.refl W
  rw [e]
  cases c with
  | lst ds => exact r
  | dct ks ds => exact r
  | dcf ks ds => exact r
  | ins c fs =>
    obtain ⟨dx, gs, e, r⟩ := r
    refine ⟨dx, gs, e, ?_⟩
    clear e
    induction r with
    | nil => exact .nil
    | cons r t ih => exact .cons r ih
theorem RS.hide (R : RS K T W st H) {p : Addr} {o : HO} (h : H p = none) (ho : FOk o) : RS K T (W.hid p o) st (upd H p o) := by
  obtain ⟨f1, f2, f3⟩ := R.fresh h
  have ne : ∀ a ∈ W.rh, a ≠ p := fun a ha z => f3 (z ▸ ha)
  refine ⟨fun b u e => ?_, fun b u e => ?_, R.len, R.nd, R.nf, fun a ha => ?_, fun a u e => ?_, fun n c a h1 h2 => ?_, tabs_upd R.tb (fun u e => by rw [h] at e; cases e) (fun c q e => by rw [h] at e; cases e), R.ntF, fun a u e => ?_⟩
  · rw [upd_ne (fun z => by rw [z] at e; exact absurd (show W.F p = some u from e) (by rw [f1]; simp))]; exact R.f b u e
  · by_cases hb : b = p
    · subst hb; simp only [Wd.hid, upd_same] at e ⊢; exact e
    · simp only [Wd.hid] at e; rw [upd_ne hb] at e ⊢; exact R.u b u e
  · show upd W.U p o a = none
    rw [upd_ne (ne a ha)]; exact R.nu a ha
  · by_cases hb : a = p
    · subst hb; exact f1
    · simp only [Wd.hid] at e; rw [upd_ne hb] at e; exact R.fu a u e
  · rw [upd_ne (ne a (List.mem_of_getElem? h2))]
    exact CellR.same (W := W) (W' := W.hid p o) rfl rfl (R.cell n c a h1 h2)
  · by_cases hb : a = p
    · subst hb; simp only [Wd.hid, upd_same] at e; cases e; exact ho
    · simp only [Wd.hid] at e; rw [upd_ne hb] at e; exact R.ntU a u e
theorem RS.hidden (R : RS K T W st H) {p : Addr} {o : HO} (h : W.U p = some o) : H p = some o ∧ W.F p = none ∧ p ∉ W.rh :=
  ⟨R.u p o h, R.fu p o h, fun hm => by have := R.nu p hm; rw [h] at this; cases this⟩
/-- the hidden object is changed -/
theorem RS.rehide (R : RS K T W st H) {p : Addr} {o o' : HO} (h : W.U p = some o) (hl : ∃ xs, o = .lst xs) (ho : FOk o') : RS K T (W.hid p o') st (upd H p o') := by
  obtain ⟨f0, f1, f3⟩ := R.hidden h
  have ne : ∀ a ∈ W.rh, a ≠ p := fun a ha z => f3 (z ▸ ha)
  refine ⟨fun b u e => ?_, fun b u e => ?_, R.len, R.nd, R.nf, fun a ha => ?_, fun a u e => ?_, fun n c a h1 h2 => ?_, tabs_upd R.tb (fun u e => by rw [f0] at e; cases e; exact (R.ntU p o h).1) (fun c q e => ?_), R.ntF, fun a u e => ?_⟩
  · rw [upd_ne (fun z => by rw [z] at e; exact absurd (show W.F p = some u from e) (by rw [f1]; simp))]; exact R.f b u e
  · by_cases hb : b = p
    · subst hb; simp only [Wd.hid, upd_same] at e ⊢; exact e
    · simp only [Wd.hid] at e; rw [upd_ne hb] at e ⊢; exact R.u b u e
  · show upd W.U p o' a = none
    rw [upd_ne (ne a ha)]; exact R.nu a ha
  · by_cases hb : a = p
    · subst hb; exact f1
    · simp only [Wd.hid] at e; rw [upd_ne hb] at e; exact R.fu a u e
  · rw [upd_ne (ne a (List.mem_of_getElem? h2))]
    exact CellR.same (W := W) (W' := W.hid p o') rfl rfl (R.cell n c a h1 h2)
  · rw [f0] at e
    obtain ⟨xs, rfl⟩ := hl
    unfold LamX.CodeO at e
    cases e
  · by_cases hb : a = p
    · subst hb; simp only [Wd.hid, upd_same] at e; cases e; exact ho
    · simp only [Wd.hid] at e; rw [upd_ne hb] at e; exact R.ntU a u e
/-- what is no more hidden, from now on unchanged -/
theorem RS.unhide (R : RS K T W st H) {p : Addr} {o : HO} {U : Hp} (h : W.U p = some o) (hU : ∀ a u, U a = some u → a ≠ p ∧ W.U a = some u) : RS K T ⟨upd W.F p o, W.rh, U⟩ st H := by
  obtain ⟨f0, f1, f3⟩ := R.hidden h
  have ne : ∀ a ∈ W.rh, a ≠ p := fun a ha z => f3 (z ▸ ha)
  refine ⟨fun b u e => ?_, fun b u e => R.u b u (hU b u e).2, R.len, R.nd, fun n c a h1 h2 => ?_, fun a ha => ?_, fun a u e => ?_, fun n c a h1 h2 => ?_, R.tb, fun a u e => ?_, fun a u e => R.ntU a u (hU a u e).2⟩
  · by_cases hb : b = p
    · subst hb; have e : upd W.F b o b = some u := e; rw [upd_same] at e; cases e; exact f0
    · have e : upd W.F p o b = some u := e; rw [upd_ne hb] at e; exact R.f b u e
  · show (upd W.F p o a).isSome = _
    rw [upd_ne (ne a (List.mem_of_getElem? h2))]; exact R.nf n c a h1 h2
  · show U a = none
    cases e : U a with
    | none => rfl
    | some u => have := R.nu a ha; rw [(hU a u e).2] at this; cases this
  · show upd W.F p o a = none
    rw [upd_ne (hU a u e).1]; exact R.fu a u (hU a u e).2
  · have := (R.cell n c a h1 h2)
    have l : W.le ⟨upd W.F p o, W.rh, W.U⟩ := ⟨same_upd f1, ⟨[], by simp⟩, rfl⟩
    exact CellR.same (W := ⟨upd W.F p o, W.rh, W.U⟩) (W' := ⟨upd W.F p o, W.rh, U⟩) rfl rfl (this.mono l)
  · by_cases hb : a = p
    · subst hb; have e : upd W.F a o a = some u := e; rw [upd_same] at e; cases e; exact R.ntU a o h
    · have e : upd W.F p o a = some u := e; rw [upd_ne hb] at e; exact R.ntF a u e
/-- what is no more hidden is a cell -/
theorem RS.uncell (R : RS K T W st H) {p : Addr} {o : HO} {U : Hp} {c : Cell} (h : W.U p = some o) (hU : ∀ a u, U a = some u → a ≠ p ∧ W.U a = some u) (hc : CellR K ⟨W.F, W.rh ++ [p], U⟩ c (some o)) (hf : c.isF = false := by rfl) : RS K T ⟨W.F, W.rh ++ [p], U⟩ (st ++ [c]) H := by
  obtain ⟨f0, f1, f3⟩ := R.hidden h
  refine ⟨R.f, fun b u e => R.u b u (hU b u e).2, by simp [R.len], ?_, fun n c' a h1 h2 => ?_, fun a ha => ?_, fun a u e => R.fu a u (hU a u e).2, fun n c' a h1 h2 => ?_, R.tb, R.ntF, fun a u e => R.ntU a u (hU a u e).2⟩
  · show (W.rh ++ [p]).Nodup
    rw [List.nodup_append]
    exact ⟨R.nd, by simp, fun a ha b hb z => f3 (by simp at hb; rw [← hb, ← z]; exact ha)⟩
  · have h2' : (W.rh ++ [p])[n]? = some a := h2
    by_cases hn : n < W.rh.length
    · rw [List.getElem?_append_left hn] at h2'
      rw [List.getElem?_append_left (by rw [← R.len]; exact hn)] at h1
      exact R.nf n c' a h1 h2'
    · have hl : n = W.rh.length := by
        have := (List.getElem?_eq_some_iff.mp h2').1
        rw [List.length_append] at this; simp at this; omega
      subst hl
      rw [List.getElem?_append_right (Nat.le_refl _)] at h2'
      rw [R.len, List.getElem?_append_right (Nat.le_refl _)] at h1
      simp at h1 h2'
      subst h1 h2'
      show (W.F p).isSome = _
      rw [f1, hf]
      rfl
  · show U a = none
    cases e : U a with
    | none => rfl
    | some u =>
      rcases List.mem_append.mp ha with ha | ha
      · have := R.nu a ha; rw [(hU a u e).2] at this; cases this
      · simp at ha; exact absurd ha (hU a u e).1
  · have h2' : (W.rh ++ [p])[n]? = some a := h2
    by_cases hn : n < W.rh.length
    · rw [List.getElem?_append_left hn] at h2'
      rw [List.getElem?_append_left (by rw [← R.len]; exact hn)] at h1
      have l : W.le ⟨W.F, W.rh ++ [p], W.U⟩ := ⟨fun _ _ h => h, ⟨[p], rfl⟩, rfl⟩
      exact CellR.same (W := ⟨W.F, W.rh ++ [p], W.U⟩) (W' := ⟨W.F, W.rh ++ [p], U⟩) rfl rfl ((R.cell n c' a h1 h2').mono l)
    · have hl : n = W.rh.length := by
        have := (List.getElem?_eq_some_iff.mp h2').1
        rw [List.length_append] at this; simp at this; omega
      subst hl
      rw [List.getElem?_append_right (Nat.le_refl _)] at h2'
      rw [R.len, List.getElem?_append_right (Nat.le_refl _)] at h1
      simp at h1 h2'
      subst h1 h2'
      rw [f0]; exact hc
end

/-! ### what is walked -/
structure Src where
  items : List D
  chk : Store → Bool
def Wd.le2 (W W' : Wd) : Prop := Same W.F W'.F ∧ ∃ t, W'.rh = W.rh ++ t
theorem Wd.le.two {W W' : Wd} (h : W.le W') : W.le2 W' := ⟨h.1, h.2.1⟩
theorem Wd.le2.trans {a b c : Wd} (h : a.le2 b) (g : b.le2 c) : a.le2 c := by
  obtain ⟨h1, ⟨t, h2⟩⟩ := h
  obtain ⟨g1, ⟨u, g2⟩⟩ := g
  exact ⟨fun x o e => g1 x o (h1 x o e), ⟨t ++ u, by rw [g2, h2, List.append_assoc]⟩⟩
theorem RV.mono2 {K : PySem.W.Frag} {W W' : Wd} (h : W.le2 W') {d : D} {v : V} (r : RV K W d v) : RV K W' d v := by
  obtain ⟨h1, ⟨t, h2⟩⟩ := h
  exact RD.mono' h1 (pre_get h2) r
theorem RVs.mono2 {K : PySem.W.Frag} {W W' : Wd} (h : W.le2 W') {d : List D} {v : List V} (r : RVs K W d v) : RVs K W' d v := by
  obtain ⟨h1, ⟨t, h2⟩⟩ := h
  exact RDs.mono' h1 (pre_get h2) r
def RI (K : PySem.W.Frag) (T : Tb) (W0 : Wd) (s : Src) (J : It) : Prop := ∀ W st H, W0.le2 W → RS K T W st H → s.chk st = true →
  (∀ i, s.items.length ≤ i → J.stop i H) ∧ ∀ (i : Nat) (d : D), s.items[i]? = some d → J.go i H ∧ ∀ x H', J.yld i H x H' → ∃ W', W.le W' ∧ RV K W' d x ∧ RS K T W' st H'
abbrev tI (K : PySem.W.Frag) (T : Tb) (Wx : WX) (m : Ev Src) : TI := tG K T Wx (RI K T) m
def SI (T : Tb) (Wx : WX) (X : Cx) (tg e : Expr) (m : Ev Src) : Prop := PI X tg e (tI X.K T Wx m)
theorem PI.imp {X : Cx} {tg e : Expr} {t t' : TI} (h : PI X tg e t) (i : ∀ σ H Q, t' σ H Q → t σ H Q) : PI X tg e t' := ⟨fun pins s σ H Q I q => h.run pins s σ H Q I (i σ H Q q)⟩
section
variable {K : PySem.W.Frag} {T : Tb} {Wx : WX} {X : Cx} {tg a b : Expr} {ma mb : Ev D} {ms : Ev (List D)} {p2 pos tpos : Pos}
def yes (_ : Store) : Bool := true
/-- whether what is walked is still as it was -/
def keepL (d : D) (xs : List D) : Store → Bool := match d with
  | .ref n => fun st => match st[n]? with
    | some (.lst ys) => D.beqs ys xs
    | _ => false
  | _ => yes
theorem keepL_ok {d : D} {xs : List D} {st st' : Store} (h : asL st d = some xs) (k : keepL d xs st' = true) : asL st' d = some xs := by
  cases d <;> simp only [asL] at h ⊢ <;> try exact h
  simp only [keepL] at k
  split at k
  · rename_i ys hs
    have e := D.beqs_eq _ _ k
    first
      | (rw [hs]; simp only; rw [e])
      | rw [e]
  · cases k
def srcL (st : Store) (d : D) : Option Src := (asL st d).map fun xs => ⟨xs, keepL d xs⟩
def mIL (m : Ev D) : Ev Src := fun env st => (m env st).bind fun d st => Res.of (srcL st d) st
theorem si_list (h : SE T Wx X a ma) : SI T Wx X tg a (mIL ma) := PI.imp (pi_list h) fun σ H Q q => by
  obtain ⟨W, env, st, re, rs, p⟩ := q
  refine ⟨W, env, st, re, rs, PostG.step p fun d st1 W1 x H1 _ l1 r1 rs1 p1 => ?_⟩
  unfold srcL at p1
  cases hz : asL st1 d with
  | none => rw [hz] at p1; exact p1.elim
  | some xs =>
    rw [hz] at p1
    obtain ⟨a, us, rfl, h1, q1⟩ := asL_ok rs1 r1 hz
    refine ⟨a, rfl, ⟨us, h1⟩, p1 W1 _ H1 (Wd.le.refl _) (fun W2 st2 H2 l2 rs2 hk => ?_) rs1⟩
    obtain ⟨a', vs, e, h2, q2⟩ := asL_ok rs2 (r1.mono2 l2) (keepL_ok hz hk)
    cases e
    refine ⟨fun i hi => ⟨vs, h2, by rw [← q2.length]; exact hi⟩, fun i d hd => ?_⟩
    obtain ⟨v, hv, rv⟩ := q2.get hd
    exact ⟨⟨vs, v, h2, hv⟩, fun x H' y => by
      obtain ⟨rfl, y⟩ := y
      have := y vs h2
      rw [hv] at this
      cases this
      exact ⟨W2, Wd.le.refl _, rv, rs2⟩⟩
def mIT (m : Ev D) : Ev Src := fun env st => (m env st).bind fun d st => Res.of ((asT d).map fun xs => ⟨xs, yes⟩) st
theorem si_tup (h : SE T Wx X a ma) : SI T Wx X tg a (mIT ma) := PI.imp (pi_tup h) fun σ H Q q => by
  obtain ⟨W, env, st, re, rs, p⟩ := q
  refine ⟨W, env, st, re, rs, PostG.step p fun d st1 W1 x H1 _ l1 r1 rs1 p1 => ?_⟩
  cases hz : asT d with
  | none => rw [hz] at p1; exact p1.elim
  | some xs =>
    rw [hz] at p1
    obtain ⟨a, us, rfl, h1, q1⟩ := asT_ok rs1 r1 hz
    refine ⟨a, rfl, ⟨us, h1⟩, p1 W1 _ H1 (Wd.le.refl _) (fun W2 st2 H2 l2 rs2 hk => ?_) rs1⟩
    obtain ⟨a', vs, e, h2, q2⟩ := asT_ok rs2 (r1.mono2 l2) hz
    cases e
    refine ⟨fun i hi => ⟨vs, h2, by rw [← q2.length]; exact hi⟩, fun i d hd => ?_⟩
    obtain ⟨v, hv, rv⟩ := q2.get hd
    exact ⟨⟨vs, v, h2, hv⟩, fun x H' y => by
      obtain ⟨rfl, y⟩ := y
      have := y vs h2
      rw [hv] at this
      cases this
      exact ⟨W2, Wd.le.refl _, rv, rs2⟩⟩
def chrs (x : Str) : List D := x.cps.toList.map fun c => .str ⟨#[c]⟩
def mIS (m : Ev D) : Ev Src := fun env st => (m env st).bind fun d st => match d with
  | .str x => .ok ⟨chrs x, yes⟩ st
  | _ => .no
theorem si_str (h : SE T Wx X a ma) : SI T Wx X tg a (mIS ma) := PI.imp (pi_str h) fun σ H Q q => by
  obtain ⟨W, env, st, re, rs, p⟩ := q
  refine ⟨W, env, st, re, rs, PostG.step p fun d st1 W1 x H1 _ l1 r1 rs1 p1 => ?_⟩
  cases d with
  | str z =>
    cases r1
    refine ⟨z, rfl, p1 W1 _ H1 (Wd.le.refl _) (fun W2 st2 H2 l2 rs2 hk => ⟨fun i hi => ?_, fun i d hd => ?_⟩) rs1⟩
    · have e : (chrs z).length = z.cps.size := by simp [chrs]
      have hi : (chrs z).length ≤ i := hi
      rw [e] at hi
      exact hi
    · have hd' : (chrs z)[i]? = some d := hd
      simp only [chrs, List.getElem?_map, Option.map_eq_some_iff, Array.getElem?_toList] at hd'
      obtain ⟨c, hc, rfl⟩ := hd'
      refine ⟨(Array.getElem?_eq_some_iff.mp hc).1, fun x H' y => ?_⟩
      obtain ⟨rfl, c', hc', rfl⟩ := y
      rw [hc] at hc'
      cases hc'
      exact ⟨W2, Wd.le.refl _, .str _, rs2⟩
  | _ => exact p1.elim
def rngD (lo : Int) (n : Nat) : List D := (List.range n).map fun i => .int (lo + (i : Nat))
def srcR1 : List D → Option Src
  | [.int j] => if -(2 ^ 62) ≤ j ∧ j < 2 ^ 62 then some ⟨rngD 0 j.toNat, yes⟩ else none
  | _ => none
def srcR2 : List D → Option Src
  | [.int i, .int j] => if (-(2 ^ 62) ≤ i ∧ i < 2 ^ 62 ∧ -(2 ^ 62) ≤ j ∧ j < 2 ^ 62) then some ⟨rngD i (j - i).toNat, yes⟩ else none
  | _ => none
def mIA (f : Store → List D → Option Src) (ms : Ev (List D)) : Ev Src := fun env st => (ms env st).bind fun ds st => Res.of (f st ds) st
theorem ri_range (lo : Int) (n : Nat) (W : Wd) : RI K T W ⟨rngD lo n, yes⟩ (Itr lo n) := fun W2 st2 H2 l2 rs2 hk => ⟨fun i hi => by
    have e : (rngD lo n).length = n := by simp [rngD]
    have hi : (rngD lo n).length ≤ i := hi
    rw [e] at hi
    exact hi, fun i d hd => by
    have hd' : (rngD lo n)[i]? = some d := hd
    simp only [rngD, List.getElem?_map, Option.map_eq_some_iff] at hd'
    obtain ⟨c, hc, rfl⟩ := hd'
    obtain ⟨h1, h2⟩ := List.getElem?_eq_some_iff.mp hc
    simp at h1 h2
    subst h2
    refine ⟨h1, fun x H' y => ?_⟩
    obtain ⟨rfl, rfl⟩ := y
    exact ⟨W2, Wd.le.refl _, .int _, rs2⟩⟩
theorem si_range1 (hg : Gl X "range") (hm : X.mg "range" = none) (ha : SA T Wx X [a] ms) (hs : starEach [a] X.env = [(false, eval a X.env)] := by rfl) : SI T Wx X tg (.Call (.Name "range" p2) [a] [] pos) (mIA (fun _ => srcR1) ms) := PI.imp (pi_range1 hg hm ha hs) fun σ H Q q => by
  obtain ⟨W, env, st, re, rs, p⟩ := q
  refine ⟨W, env, st, re, rs, PostG.step p fun ds st1 W1 xs H1 eq0 l1 r1 rs1 p1 => ?_⟩
  clear eq0
  cases hz : srcR1 ds with
  | none => simp only [hz] at p1; exact p1.elim
  | some z =>
    simp only [hz] at p1
    unfold srcR1 at hz
    split at hz
    · split at hz
      · rename_i j hc
        cases hz
        obtain ⟨v, rfl, r0⟩ := r1.one
        cases r0
        exact ⟨j, rfl, hc.1, hc.2, p1 W1 _ H1 (Wd.le.refl _) (ri_range _ _ _) rs1⟩
      · cases hz
    · cases hz
theorem si_range2 (hg : Gl X "range") (hm : X.mg "range" = none) (ha : SA T Wx X [a, b] ms) (hs : starEach [a, b] X.env = [(false, eval a X.env), (false, eval b X.env)] := by rfl) (hs2 : starEach [b] X.env = [(false, eval b X.env)] := by rfl) :
    SI T Wx X tg (.Call (.Name "range" p2) [a, b] [] pos) (mIA (fun _ => srcR2) ms) := PI.imp (pi_range2 hg hm ha hs hs2) fun σ H Q q => by
  obtain ⟨W, env, st, re, rs, p⟩ := q
  refine ⟨W, env, st, re, rs, PostG.step p fun ds st1 W1 xs H1 eq0 l1 r1 rs1 p1 => ?_⟩
  clear eq0
  cases hz : srcR2 ds with
  | none => simp only [hz] at p1; exact p1.elim
  | some z =>
    simp only [hz] at p1
    unfold srcR2 at hz
    split at hz
    · split at hz
      · rename_i i j hc
        cases hz
        obtain ⟨v, u, rfl, r0, r2⟩ := r1.two
        cases r0; cases r2
        exact ⟨i, j, rfl, hc, p1 W1 _ H1 (Wd.le.refl _) (ri_range _ _ _) rs1⟩
      · cases hz
    · cases hz
def enumD (n : Nat) : List D → List D
  | [] => []
  | d :: r => .tup [.int (n : Nat), d] :: enumD (n + 1) r
theorem enumD_length : ∀ (n : Nat) (l : List D), (enumD n l).length = l.length
  | _, [] => rfl
  | n, d :: r => by simp [enumD, enumD_length (n + 1) r]
theorem enumD_get : ∀ (n i : Nat) (l : List D) (d : D), (enumD n l)[i]? = some d → ∃ e, l[i]? = some e ∧ d = .tup [.int ((n + i : Nat) : Int), e]
  | _, _, [], d, h => by simp [enumD] at h
  | n, 0, e :: r, d, h => by simp [enumD] at h; exact ⟨e, rfl, by rw [← h]; rfl⟩
  | n, i + 1, e :: r, d, h => by
    obtain ⟨e', h1, h2⟩ := enumD_get (n + 1) i r d (by simpa [enumD] using h)
    exact ⟨e', by simpa using h1, by rw [h2, show n + 1 + i = n + (i + 1) by omega]⟩
def srcE (st : Store) : List D → Option Src
  | [d] => (asL st d).map fun xs => ⟨enumD 0 xs, keepL d xs⟩
  | _ => none
theorem si_enum {elts : List Expr} {kk : Nat} (hg : Gl X "enumerate") (hm : X.mg "enumerate" = none) (ha : SA T Wx X [a] ms) (hs : starEach [a] X.env = [(false, eval a X.env)] := by rfl) :
    SI T Wx X (.Tuple elts kk tpos) (.Call (.Name "enumerate" p2) [a] [] pos) (mIA srcE ms) := PI.imp (pi_enum hg hm ha hs) fun σ H Q q => by
  obtain ⟨W, env, st, re, rs, p⟩ := q
  refine ⟨W, env, st, re, rs, PostG.step p fun ds st1 W1 xs H1 _ l1 r1 rs1 p1 => ?_⟩
  cases hz : srcE st1 ds with
  | none => simp only [hz] at p1; exact p1.elim
  | some z =>
    simp only [hz] at p1
    unfold srcE at hz
    split at hz
    · rename_i d
      simp only [Option.map_eq_some_iff] at hz
      obtain ⟨xs, hx, rfl⟩ := hz
      obtain ⟨v, rfl, r0⟩ := r1.one
      obtain ⟨a, us, rfl, h1, q1⟩ := asL_ok rs1 r0 hx
      refine ⟨a, us, rfl, h1, p1 W1 _ H1 (Wd.le.refl _) (fun W2 st2 H2 l2 rs2 hk => ?_) rs1⟩
      obtain ⟨a', vs, e, h2, q2⟩ := asL_ok rs2 (RV.mono2 l2 r0) (keepL_ok hx hk)
      cases e
      refine ⟨fun i hi => ⟨vs, h2, by rw [← q2.length, ← enumD_length 0 xs]; exact hi⟩, fun i d' hd => ?_⟩
      obtain ⟨e, he, rfl⟩ := enumD_get 0 i xs d' hd
      obtain ⟨v, hv, rv⟩ := q2.get he
      refine ⟨⟨vs, v, h2, hv⟩, fun x H' y => ?_⟩
      obtain ⟨Tt, x', rfl, hT, rfl, y⟩ := y
      have := y vs h2
      rw [hv] at this
      cases this
      rw [Nat.zero_add]
      obtain ⟨g1, g2, g3⟩ := new_tup rs2 hT (ds := [.int ((i : Nat) : Int), e]) (xs := [.int ((i : Nat) : Int), v]) (.cons (.int _) (.cons rv .nil)) rfl
      exact ⟨_, g1, g2, g3⟩
    · cases hz
def zipD : List D → List D → List D
  | a :: r, b :: s => .tup [a, b] :: zipD r s
  | _, _ => []
theorem zipD_length : ∀ (l m : List D), (zipD l m).length = min l.length m.length
  | [], m => by simp [zipD]
  | a :: r, [] => by simp [zipD]
  | a :: r, b :: s => by simp [zipD, zipD_length r s]
theorem zipD_get : ∀ (i : Nat) (l m : List D) (d : D), (zipD l m)[i]? = some d → ∃ x y, l[i]? = some x ∧ m[i]? = some y ∧ d = .tup [x, y]
  | i, [], m, d, h => by simp [zipD] at h
  | i, a :: r, [], d, h => by simp [zipD] at h
  | 0, a :: r, b :: s, d, h => by simp [zipD] at h; exact ⟨a, b, rfl, rfl, h.symm⟩
  | i + 1, a :: r, b :: s, d, h => by
    obtain ⟨x, y, h1, h2, h3⟩ := zipD_get i r s d (by simpa [zipD] using h)
    exact ⟨x, y, by simpa using h1, by simpa using h2, h3⟩
def srcZ (st : Store) : List D → Option Src
  | [d, e] => (asL st d).bind fun xs => (asL st e).map fun ys => ⟨zipD xs ys, fun st => keepL d xs st && keepL e ys st⟩
  | _ => none
theorem si_zip {elts : List Expr} {kk : Nat} (hg : Gl X "zip") (hm : X.mg "zip" = none) (ha : SA T Wx X [a, b] ms)
    (hs : starEach [a, b] X.env = (false, eval a X.env) :: starEach [b] X.env := by rfl) (hs2 : (backTo pos (starEach [b] X.env)).any (·.1) = false := by rfl) :
    SI T Wx X (.Tuple elts kk tpos) (.Call (.Name "zip" p2) [a, b] [] pos) (mIA srcZ ms) := PI.imp (pi_zip hg hm ha hs hs2) fun σ H Q q => by
  obtain ⟨W, env, st, re, rs, p⟩ := q
  refine ⟨W, env, st, re, rs, PostG.step p fun ds st1 W1 xs H1 _ l1 r1 rs1 p1 => ?_⟩
  cases hz : srcZ st1 ds with
  | none => simp only [hz] at p1; exact p1.elim
  | some z =>
    simp only [hz] at p1
    unfold srcZ at hz
    split at hz
    · rename_i d e
      simp only [Option.map_eq_some_iff, Option.bind_eq_some_iff] at hz
      obtain ⟨xs, hx, ys, hy, rfl⟩ := hz
      obtain ⟨v, u, rfl, r0, r2⟩ := r1.two
      obtain ⟨a, us, rfl, h1, q1⟩ := asL_ok rs1 r0 hx
      obtain ⟨b, ws, rfl, h1', q1'⟩ := asL_ok rs1 r2 hy
      refine ⟨a, b, us, ws, rfl, h1, h1', p1 W1 _ H1 (Wd.le.refl _) (fun W2 st2 H2 l2 rs2 hk => ?_) rs1⟩
      have hk := Bool.and_eq_true_iff.mp hk
      obtain ⟨a', vs, e, h2, q2⟩ := asL_ok rs2 (RV.mono2 l2 r0) (keepL_ok hx hk.1)
      cases e
      obtain ⟨b', vs', e, h2', q2'⟩ := asL_ok rs2 (RV.mono2 l2 r2) (keepL_ok hy hk.2)
      cases e
      refine ⟨fun i hi => ⟨vs, vs', h2, h2', ?_⟩, fun i d' hd => ?_⟩
      · have hi : (zipD xs ys).length ≤ i := hi
        rw [zipD_length, q2.length, q2'.length] at hi
        omega
      · obtain ⟨x, y, he, he', rfl⟩ := zipD_get i xs ys d' hd
        obtain ⟨v, hv, rv⟩ := q2.get he
        obtain ⟨v', hv', rv'⟩ := q2'.get he'
        refine ⟨⟨vs, vs', v, v', h2, h2', hv, hv'⟩, fun x0 H' yy => ?_⟩
        obtain ⟨Tt, x', y', rfl, hT, rfl, y1, y2⟩ := yy
        have e1 := y1 vs h2
        have e2 := y2 vs' h2'
        rw [hv] at e1
        rw [hv'] at e2
        cases e1
        cases e2
        obtain ⟨g1, g2, g3⟩ := new_tup rs2 hT (ds := [x, y]) (xs := [v, v']) (.cons rv (.cons rv' .nil)) rfl
        exact ⟨_, g1, g2, g3⟩
    · cases hz
end
end Mr
namespace Mr
open PySem PySem.Spec L2
/-! ### targets -/
inductive Tg where
  | one (i : Nat) | tup (is : List Nat)
def gsOf : List Nat → TGs
  | [] => gNil
  | i :: r => gCons (gName i) (gsOf r)
def gOf (K : PySem.W.Frag) : Tg → TG
  | .one i => gName i
  | .tup is => gTup K is.length (gsOf is)
def setAll : List Nat → List D → Env' → Option Env'
  | [], [], env => some env
  | i :: r, d :: ds, env => setAll r ds (env.set i (some d))
  | _, _, _ => none
def setT : Tg → D → Env' → Option Env'
  | .one i, d, env => some (env.set i (some d))
  | .tup is, .tup ds, env => setAll is ds env
  | _, _, _ => none
def Tg.slots : Tg → List Nat
  | .one i => [i]
  | .tup is => is
theorem wipe_get (σ : St) (vs : List Nat) (j : Nat) : (wipe σ vs)[j]? = if j ∈ vs ∧ j < σ.length then some none else σ[j]? := by
  induction vs with
  | nil => simp [wipe]
  | cons v vs ih =>
    unfold wipe
    by_cases h : v = j
    · subst h
      by_cases hl : v < σ.length
      · rw [List.getElem?_set_self (by rw [wipe_length]; exact hl), if_pos ⟨by simp, hl⟩]
      · rw [List.set_eq_of_length_le (by rw [wipe_length]; omega), ih, if_neg (fun z => hl z.2), if_neg (fun z => hl z.2)]
    · rw [List.getElem?_set_ne h, ih]
      have : (j ∈ v :: vs) ↔ j ∈ vs := by simp [Ne.symm h]
      simp only [this]
theorem wipe_set {σ : St} {i : Nat} {v : Option V} {vs : List Nat} (h : i ∈ vs) : wipe (σ.set i v) vs = wipe σ vs := by
  apply List.ext_getElem?
  intro j
  rw [wipe_get, wipe_get]
  by_cases hj : j ∈ vs ∧ j < σ.length
  · rw [if_pos (by simpa using hj), if_pos hj]
  · rw [if_neg (by simpa using hj), if_neg hj]
    by_cases e : j = i
    · subst e
      have hl : ¬ j < σ.length := fun z => hj ⟨h, z⟩
      rw [List.set_eq_of_length_le (by omega)]
    · rw [List.getElem?_set_ne (Ne.symm e)]
section
variable {K : PySem.W.Frag} {W : Wd} {T : Tb} {st : Store} {H : Hp}
theorem setAll_run : ∀ {is : List Nat} {ds : List D} {vs : List V} {env env' : Env'} {σ : St} {Q : St → Hp → Prop}, RE K W env σ → RVs K W ds vs → setAll is ds env = some env' →
    (∀ σ', RE K W env' σ' → (∀ ws, (∀ i ∈ is, i ∈ ws) → wipe σ' ws = wipe σ ws) → Q σ' H) → gsOf is vs σ H Q
  | [], [], vs, env, env', σ, Q, re, r, e, k => by
    cases r
    cases e
    exact ⟨rfl, k σ re fun _ _ => rfl⟩
  | i :: is, d :: ds, vs, env, env', σ, Q, re, r, e, k => by
    cases r with
    | cons r q =>
      refine ⟨_, _, rfl, ?_⟩
      refine setAll_run (re.set i r) q e fun σ' re' hw => k σ' re' fun ws hs => ?_
      rw [hw ws fun j hj => hs j (List.mem_cons_of_mem _ hj), wipe_set (hs i (by simp))]
  | [], d :: ds, vs, env, env', σ, Q, re, r, e, k => by cases e
  | i :: is, [], vs, env, env', σ, Q, re, r, e, k => by cases e
theorem setAll_len : ∀ {is : List Nat} {ds : List D} {env env' : Env'}, setAll is ds env = some env' → ds.length = is.length
  | [], [], env, env', e => rfl
  | i :: is, d :: ds, env, env', e => by rw [List.length_cons, List.length_cons, setAll_len (is := is) (ds := ds) e]
  | [], d :: ds, env, env', e => by cases e
  | i :: is, [], env, env', e => by cases e
theorem setT_run {t : Tg} {d : D} {v : V} {env env' : Env'} {σ : St} {Q : St → Hp → Prop} (rs : RS K T W st H) (re : RE K W env σ) (r : RV K W d v) (e : setT t d env = some env')
    (k : ∀ σ', RE K W env' σ' → (∀ ws, (∀ i ∈ t.slots, i ∈ ws) → wipe σ' ws = wipe σ ws) → Q σ' H) : gOf K t v σ H Q := by
  cases t with
  | one i =>
    cases e
    exact k _ (re.set i r) fun ws hs => wipe_set (hs i (by simp [Tg.slots]))
  | tup is =>
    cases d <;> simp only [setT, reduceCtorEq] at e
    obtain ⟨a, us, rfl, h1, q1⟩ := asT_ok rs r rfl
    exact ⟨a, us, rfl, h1, by rw [← q1.length, setAll_len e], setAll_run re q1 e k⟩
end
def SG (X : Cx) (tg : Expr) (t : Tg) : Prop := PG X tg (gOf X.K t)
theorem sg_one {X : Cx} {i : Nat} {x : Str} {pos : Pos} (hN : X.N.Nodup) (hi : X.N[i]? = some x) (hx : Loc X.env.scope x) (hf : X.fn x = true ∨ X.env.scope.names.lookup x = some .local := by first | exact .inl rfl | exact .inr rfl) : SG X (.Name x pos) (.one i) := pg_name hN hi hx hf
theorem sg_tup {X : Cx} {es : List Expr} {k : Nat} {is : List Nat} {pos : Pos} (hc : X.calm = true) (h : PGs X es (gsOf is)) (hn : (assignEach es X.env).length = is.length := by rfl) (hst : (assignEach es X.env).findIdx? (·.1) = none := by rfl) : SG X (.Tuple es k pos) (.tup is) := pg_tup hc h hn hst
theorem sgs_nil {X : Cx} : PGs X [] (gsOf []) := pgs_nil
theorem sgs_cons {X : Cx} {e : Expr} {es : List Expr} {i : Nat} {is : List Nat} (h1 : SG X e (.one i)) (h2 : PGs X es (gsOf is)) (hs : (assignEach (e :: es) X.env).map (·.2) = assign e X.env :: (assignEach es X.env).map (·.2) := by rfl) : PGs X (e :: es) (gsOf (i :: is)) := pgs_cons h1 h2 hs

/-! ### list comprehensions -/
abbrev W0 : WX := fun _ _ _ _ => False
def Res.nox {α : Type} : Res α → Res α
  | .ex _ _ => .no
  | r => r
def wipeE (env : Env') : List Nat → Env'
  | [] => env
  | v :: vs => (wipeE env vs).set v none
def compL (chk : Store → Bool) (tg : Tg) (mt : Ev Bool) (me : Ev D) (env : Env') : List D → Store → Res (List D)
  | [], st => if chk st = true then .ok [] st else .no
  | d :: r, st => if chk st = true then match setT tg d env with
      | none => .no
      | some env1 => (mt env1 st).nox.bind fun k st => if k = true then (me env1 st).nox.bind fun y st => (compL chk tg mt me env r st).bind fun ys st => .ok (y :: ys) st else compL chk tg mt me env r st
    else .no
def mComp (mi : Ev Src) (tg : Tg) (own : List Nat) (mt : Ev Bool) (me : Ev D) : Ev D := fun env st => (mi env st).bind fun s st => (compL s.chk tg mt me (wipeE env own) s.items st).nox.bind fun ds st => if ds.length ≤ sizeLine then .ok (.lst ds) st else .no
/-- the same, its list to be changed later -/
def mCompC (mi : Ev Src) (tg : Tg) (own : List Nat) (mt : Ev Bool) (me : Ev D) : Ev D := fun env st => (mi env st).bind fun s st => (compL s.chk tg mt me (wipeE env own) s.items st).nox.bind fun ds st => if ds.length ≤ sizeLine then .ok (.ref st.length) (st ++ [.lst ds]) else .no
theorem RE.wipe {K : PySem.W.Frag} {W : Wd} {env : Env'} {σ : St} (r : RE K W env σ) (vs : List Nat) : RE K W (wipeE env vs) (L2.wipe σ vs) := by
  have ge : ∀ j : Nat, (wipeE env vs)[j]? = if j ∈ vs ∧ j < env.length then some none else env[j]? := fun j => by
    induction vs with
    | nil => simp [wipeE]
    | cons v vs ih =>
      unfold wipeE
      have hl : (wipeE env vs).length = env.length := by
        clear ih
        induction vs with
        | nil => rfl
        | cons w ws ih => simp [wipeE, ih]
      by_cases h : v = j
      · subst h
        by_cases hlt : v < env.length
        · rw [List.getElem?_set_self (by rw [hl]; exact hlt), if_pos ⟨by simp, hlt⟩]
        · rw [List.set_eq_of_length_le (by rw [hl]; omega), ih, if_neg (fun z => hlt z.2), if_neg (fun z => hlt z.2)]
      · rw [List.getElem?_set_ne h, ih]
        have : (j ∈ v :: vs) ↔ j ∈ vs := by simp [Ne.symm h]
        simp only [this]
  have hl : (wipeE env vs).length = env.length := by
    clear ge
    induction vs with
    | nil => rfl
    | cons w ws ih => simp [wipeE, ih]
  refine ⟨by rw [hl, wipe_length, r.len], fun j d e => ?_⟩
  rw [ge j] at e
  split at e
  · cases e
  · rename_i hn
    obtain ⟨v, h1, h2⟩ := r.at_ j d e
    refine ⟨v, ?_, h2⟩
    rw [wipe_get, if_neg (fun z => hn ⟨z.1, by rw [r.len]; exact z.2⟩)]
    exact h1
section
variable {K : PySem.W.Frag} {T : Tb}
theorem nox_ok {α : Type} {r : Res α} {a : α} {st : Store} (h : r.nox = .ok a st) : r = .ok a st := by
  cases r <;> simp_all [Res.nox]
theorem bind_ok {α β : Type} {r : Res α} {f : α → Store → Res β} {b : β} {st : Store} (h : r.bind f = .ok b st) : ∃ a st1, r = .ok a st1 ∧ f a st1 = .ok b st := by
  cases r with
  | ok a st1 => exact ⟨a, st1, rfl, h⟩
  | ex c st => cases h
  | no => cases h
theorem hid_le {W W1 : Wd} {p : Addr} {o o' : HO} (h : (W.hid p o).le W1) : W1.U = upd W.U p o := h.2.2
/-- the reading of a comprehension -/
theorem comp_read {mi : Ev Src} {tg : Tg} {own : List Nat} {mt : Ev Bool} {me : Ev D} {Wx : WX} {σ : St} {H : Hp} {Q : VK} (hown : ∀ i ∈ tg.slots, i ∈ own)
    (q : ∃ (W : Wd) (env : Env') (st : Store), RE K W env σ ∧ RS K T W st H ∧ PostG K T (fun c d H => Wx c d σ H) W (RI K T) (mi env st) fun J H1 => ∃ (W1 : Wd) (s : Src) (st1 : Store) (total : List D) (stF : Store), W.le W1 ∧ RI K T W1 s J ∧ RS K T W1 st1 H1 ∧
      compL s.chk tg mt me (wipeE env own) s.items st1 = .ok total stF ∧ total.length ≤ sizeLine ∧
      ∀ (W2 : Wd) (D : Addr) (accV : List V) (H2 : Hp), W1.le2 W2 → W2.U = upd W1.U D (.lst accV) → W1.U D = none → RVs K W2 total accV → RS K T W2 stF H2 → Q (.ref D) H2) :
    tLc (tI K T Wx mi) (gOf K tg) (tT K T W0 mt) (tE K T W0 me) own σ H Q := by
  obtain ⟨W, env, st, re, rs, p⟩ := q
  refine ⟨W, env, st, re, rs, PostG.imp p fun J H1 h => ?_⟩
  obtain ⟨W1, s, st1, total, stF, l1, ri, rs1, hc, hz, fin⟩ := h
  intro D hD
  have hU : W1.U D = none := (rs1.fresh hD).2.1
  have re0 := ((re.mono l1).wipe own)
  refine ⟨fun i m Hn => m = s.items.length - i ∧ i ≤ s.items.length ∧ ∃ (W2 : Wd) (st2 : Store) (acc ys : List Mr.D) (accV : List V), W1.le2 W2 ∧ W2.U = upd W1.U D (.lst accV) ∧ RVs K W2 acc accV ∧ RS K T W2 st2 Hn ∧
      compL s.chk tg mt me (wipeE env own) (s.items.drop i) st2 = .ok ys stF ∧ acc ++ ys = total,
    ⟨s.items.length, by simp, Nat.zero_le _, W1.hid D (.lst []), st1, [], total, [], ⟨fun _ _ h => h, [], by simp [Wd.hid]⟩, rfl, .nil, rs1.hide hD (fok_lst _), by rw [List.drop_zero]; exact hc, rfl⟩, ?_⟩
  rintro i m Hn ⟨rfl, hi, W2, st2, acc, ys, accV, l2, hU2, ra, rs2, hl, ht⟩
  by_cases hlt : i < s.items.length
  · have hd : s.items.drop i = s.items[i] :: s.items.drop (i + 1) := List.drop_eq_getElem_cons hlt
    rw [hd] at hl
    unfold compL at hl
    split at hl
    · rename_i hk
      obtain ⟨_, hgo⟩ := ri W2 st2 Hn l2 rs2 hk
      obtain ⟨go, yl⟩ := hgo i s.items[i] (by simp [hlt])
      refine .inr ⟨go, _, fun H' h => ⟨s.items.length - (i + 1), by omega, rfl, hlt, h⟩, fun x H' hy => ?_⟩
      obtain ⟨W3, l3, r3, rs3⟩ := yl x H' hy
      split at hl
      · cases hl
      · rename_i env1 he
        have re3 : RE K W3 (wipeE env own) (L2.wipe σ own) := ⟨re0.len, fun j d e => let ⟨v, a, b⟩ := re0.at_ j d e; ⟨v, a, (RV.mono2 l2 b).mono l3⟩⟩
        refine setT_run rs3 re3 r3 he fun σ2 re4 hw => ⟨by rw [hw own hown]; clear hw; apply List.ext_getElem?; intro j; rw [wipe_get, wipe_get, wipe_length]; split <;> simp_all, ?_⟩
        obtain ⟨k, st3, hk1, hl⟩ := bind_ok hl
        have hk1 := nox_ok hk1
        refine ⟨W3, env1, st2, re4, rs3, ?_⟩
        rw [hk1]
        intro W4 b H4 l4 rb rs4
        cases rb
        cases k with
        | true =>
          simp only [if_true] at hl ⊢
          obtain ⟨y, st4, hy1, hl⟩ := bind_ok hl
          have hy1 := nox_ok hy1
          obtain ⟨zs, st5, hz1, hl⟩ := bind_ok hl
          cases hl
          refine ⟨W4, env1, st3, re4.mono l4, rs4, ?_⟩
          rw [hy1]
          intro W5 v H5 l5 rv rs5
          have hU5 : W5.U = upd W1.U D (.lst accV) := by rw [l5.2.2, l4.2.2, l3.2.2, hU2]
          have hD5 : W5.U D = some (.lst accV) := by rw [hU5, upd_same]
          have ra5 : RVs K W5 acc accV := ((ra.mono l3).mono l4).mono l5
          refine ⟨accV, (rs5.hidden hD5).1, ?_, W5.hid D (.lst (accV ++ [v])), st4, acc ++ [y], zs, accV ++ [v], ?_, ?_, ?_, rs5.rehide hD5 ⟨_, rfl⟩ (fok_lst _), hz1, by rw [← ht, List.append_assoc]; rfl⟩
          · have : acc.length + (zs.length + 1) ≤ sizeLine := by rw [← ht] at hz; simpa using hz
            rw [← ra.length]; omega
          · exact ((l2.trans l3.two).trans l4.two).trans l5.two
          · show upd W5.U D _ = _
            rw [hU5, upd_upd]
          · exact (ra5.append (.cons rv .nil))
        | false =>
          simp only [Bool.false_eq_true, if_false] at hl ⊢
          exact ⟨W4, st3, acc, ys, accV, (l2.trans l3.two).trans l4.two, by rw [l4.2.2, l3.2.2, hU2], (ra.mono l3).mono l4, rs4, hl, ht⟩
    · cases hl
  · have e : i = s.items.length := by omega
    subst e
    rw [List.drop_length] at hl
    unfold compL at hl
    split at hl
    · rename_i hk
      cases hl
      rw [List.append_nil] at ht
      subst ht
      exact .inl ⟨(ri W2 stF Hn l2 rs2 hk).1 _ (Nat.le_refl _), fin W2 D accV Hn l2 hU2 hU ra rs2⟩
    · cases hl
variable {Wx : WX} {X : Cx} {elt tgx iter : Expr} {ifs : List Expr} {scope : Scope} {own : List (Str × Nat)} {pos : Pos} {mi : Ev Src} {tg : Tg} {mt : Ev Bool} {me : Ev D}
theorem unU {W1 W2 : Wd} {D : Addr} {o : HO} (hU2 : W2.U = upd W1.U D o) (hU : W1.U D = none) : W2.U D = some o ∧ ∀ a u, W1.U a = some u → a ≠ D ∧ W2.U a = some u :=
  ⟨by rw [hU2, upd_same], fun a u e => by
    have ne : a ≠ D := fun z => by rw [z, hU] at e; cases e
    exact ⟨ne, by rw [hU2, upd_ne ne]; exact e⟩⟩
theorem comp_frozen {σ : St} {H : Hp} {Q : VK} {ow : List Nat} (hown : ∀ i ∈ tg.slots, i ∈ ow) (q : tE K T Wx (mComp mi tg ow mt me) σ H Q) : tLc (tI K T Wx mi) (gOf K tg) (tT K T W0 mt) (tE K T W0 me) ow σ H Q := by
  obtain ⟨W, env, st, re, rs, p⟩ := q
  refine comp_read hown ⟨W, env, st, re, rs, PostG.step p fun s st1 W1 J H1 _ l1 ri rs1 p1 => ?_⟩
  cases hc : compL s.chk tg mt me (wipeE env ow) s.items st1 with
  | ok total stF =>
    simp only [hc, Res.bind, Res.nox] at p1
    by_cases hz : total.length ≤ sizeLine
    · simp only [hz, if_true] at p1
      refine ⟨W1, s, st1, total, stF, l1, ri, rs1, hc, hz, fun W2 D accV H2 l2 hU2 hU ra rs2 => ?_⟩
      obtain ⟨g1, g2⟩ := unU hU2 hU
      have f1 := (rs2.hidden g1).2.1
      refine p1 ⟨upd W2.F D (.lst accV), W2.rh, W1.U⟩ _ H2 ⟨fun b o e => ?_, l2.2, rfl⟩ ?_ (rs2.unhide g1 g2)
      · exact same_upd f1 b o (l2.1 b o e)
      · have l3 : W2.le2 ⟨upd W2.F D (.lst accV), W2.rh, W1.U⟩ := ⟨same_upd f1, [], by simp⟩
        exact .lst upd_same (RVs.mono2 l3 ra)
    · simp only [hz, if_false] at p1; exact p1.elim
  | ex c st => simp only [hc, Res.bind, Res.nox] at p1; exact p1.elim
  | no => simp only [hc, Res.bind, Res.nox] at p1; exact p1.elim
theorem comp_cell {σ : St} {H : Hp} {Q : VK} {ow : List Nat} (hown : ∀ i ∈ tg.slots, i ∈ ow) (q : tE K T Wx (mCompC mi tg ow mt me) σ H Q) : tLc (tI K T Wx mi) (gOf K tg) (tT K T W0 mt) (tE K T W0 me) ow σ H Q := by
  obtain ⟨W, env, st, re, rs, p⟩ := q
  refine comp_read hown ⟨W, env, st, re, rs, PostG.step p fun s st1 W1 J H1 _ l1 ri rs1 p1 => ?_⟩
  cases hc : compL s.chk tg mt me (wipeE env ow) s.items st1 with
  | ok total stF =>
    simp only [hc, Res.bind, Res.nox] at p1
    by_cases hz : total.length ≤ sizeLine
    · simp only [hz, if_true] at p1
      refine ⟨W1, s, st1, total, stF, l1, ri, rs1, hc, hz, fun W2 D accV H2 l2 hU2 hU ra rs2 => ?_⟩
      obtain ⟨g1, g2⟩ := unU hU2 hU
      have l3 : W2.le2 ⟨W2.F, W2.rh ++ [D], W1.U⟩ := ⟨fun _ _ h => h, [D], rfl⟩
      refine p1 ⟨W2.F, W2.rh ++ [D], W1.U⟩ _ H2 ⟨l2.1, (l2.trans l3).2, rfl⟩ ?_ (rs2.uncell g1 g2 ⟨accV, rfl, RVs.mono2 l3 ra⟩)
      refine .ref ?_
      show (W2.rh ++ [D])[stF.length]? = some D
      rw [← rs2.len, List.getElem?_append_right (Nat.le_refl _)]; simp
    · simp only [hz, if_false] at p1; exact p1.elim
  | ex c st => simp only [hc, Res.bind, Res.nox] at p1; exact p1.elim
  | no => simp only [hc, Res.bind, Res.nox] at p1; exact p1.elim
/-- the tests of a comprehension -/
def ST (T : Tb) (X : Cx) (ifs : List Expr) (m : Ev Bool) : Prop := PTs X ifs (tT X.K T W0 m)
def mYes : Ev Bool := fun _ st => .ok true st
theorem PTs.imp {X : Cx} {e : List Expr} {t t' : TT} (h : PTs X e t) (i : ∀ σ H Q, t' σ H Q → t σ H Q) : PTs X e t' := ⟨fun pins s σ H Q I q => h.run pins s σ H Q I (i σ H Q q)⟩
theorem st_nil : ST T X [] mYes := PTs.imp pts_nil fun σ H Q q => by
  obtain ⟨W, env, st, re, rs, p⟩ := q
  exact p W true H (Wd.le.refl _) rfl rs
theorem st_one {c : Expr} {m : Ev Bool} (h : SX T W0 X c m) : ST T X [c] m := pts_one h
theorem so_comp (hc : X.calm = true) (hN : X.N.Nodup) (hi : SI T Wx X tgx iter mi) (ok : BlkOk X.N X.env.scope scope own)
    (hg : ∀ (s : Shared) (H : Hp) (C : Addr) (cl : List (Str × Addr)) (fp : List Addr), SG (X.blk s H scope (compEnvC scope cl C X.env) fp) tgx tg) (ht : ∀ (s : Shared) (H : Hp) (C : Addr) (cl : List (Str × Addr)) (fp : List Addr), ST T (X.blk s H scope (compEnvC scope cl C X.env) fp) ifs mt)
    (he : ∀ (s : Shared) (H : Hp) (C : Addr) (cl : List (Str × Addr)) (fp : List Addr), SE T W0 (X.blk s H scope (compEnvC scope cl C X.env) fp) elt me) (hown : ∀ i ∈ tg.slots, i ∈ own.map (·.2) := by decide) (hs : ∀ x, foldedSetIterable iter X.env x = pure x := by intro _; rfl) :
    SE T Wx X (.ListComp elt [⟨tgx, iter, ifs, 0⟩] scope pos) (mComp mi tg (own.map (·.2)) mt me) :=
  PE.imp (pe_lc (g := gOf X.K tg) (tt := tT X.K T W0 mt) (te := tE X.K T W0 me) hc hN hi ok hg ht he hs) fun σ H Q q => comp_frozen hown q
theorem so_compC (hc : X.calm = true) (hN : X.N.Nodup) (hi : SI T Wx X tgx iter mi) (ok : BlkOk X.N X.env.scope scope own)
    (hg : ∀ (s : Shared) (H : Hp) (C : Addr) (cl : List (Str × Addr)) (fp : List Addr), SG (X.blk s H scope (compEnvC scope cl C X.env) fp) tgx tg) (ht : ∀ (s : Shared) (H : Hp) (C : Addr) (cl : List (Str × Addr)) (fp : List Addr), ST T (X.blk s H scope (compEnvC scope cl C X.env) fp) ifs mt)
    (he : ∀ (s : Shared) (H : Hp) (C : Addr) (cl : List (Str × Addr)) (fp : List Addr), SE T W0 (X.blk s H scope (compEnvC scope cl C X.env) fp) elt me) (hown : ∀ i ∈ tg.slots, i ∈ own.map (·.2) := by decide) (hs : ∀ x, foldedSetIterable iter X.env x = pure x := by intro _; rfl) :
    SE T Wx X (.ListComp elt [⟨tgx, iter, ifs, 0⟩] scope pos) (mCompC mi tg (own.map (·.2)) mt me) :=
  PE.imp (pe_lc (g := gOf X.K tg) (tt := tT X.K T W0 mt) (te := tE X.K T W0 me) hc hN hi ok hg ht he hs) fun σ H Q q => comp_cell hown q

/-! ### statements -/
inductive Fl where
  | nx | rt (d : D) | bk | ct
abbrev Sv := Env' → Store → Res (Fl × Env')
/-- what is wanted behind a statement, by its mirror -/
def PostS (K : PySem.W.Frag) (T : Tb) (Wx : WX) (W : Wd) (r : Res (Fl × Env')) (D : Ends) : Prop := match r with
  | .ok (.nx, env) st => ∀ W' σ' H', W.le W' → RE K W' env σ' → RS K T W' st H' → D.nx σ' H'
  | .ok (.rt d, _) st => ∀ W' v H', W.le W' → RV K W' d v → RS K T W' st H' → D.rt v H'
  | .ok (.bk, env) st => ∀ W' σ' H', W.le W' → RE K W' env σ' → RS K T W' st H' → D.bk σ' H'
  | .ok (.ct, env) st => ∀ W' σ' H', W.le W' → RE K W' env σ' → RS K T W' st H' → D.ct σ' H'
  | .ex c st => ∀ W' σ' H', W.le W' → RS K T W' st H' → Wx (.ref (He.ga K c)) none σ' H'
  | .no => False
theorem PostS.mono {W W1 : Wd} {r : Res (Fl × Env')} {D : Ends} (l : W.le W1) (p : PostS K T Wx W r D) : PostS K T Wx W1 r D := by
  cases r with
  | ok a st =>
    obtain ⟨f, env⟩ := a
    cases f with
    | nx => exact fun W' σ H' h r s => p W' σ H' (l.trans h) r s
    | rt d => exact fun W' v H' h r s => p W' v H' (l.trans h) r s
    | bk => exact fun W' σ H' h r s => p W' σ H' (l.trans h) r s
    | ct => exact fun W' σ H' h r s => p W' σ H' (l.trans h) r s
  | ex c st => exact fun W' σ H' h s => p W' σ H' (l.trans h) s
  | no => exact p
theorem PostS.step {α β : Type} {R1 : Wd → α → β → Prop} {W : Wd} {r : Res α} {f : α → Store → Res (Fl × Env')} {D : Ends} {σ : St} {Q1 : β → Hp → Prop} (p : PostS K T Wx W (r.bind f) D)
    (k : ∀ a st1 W1 b H1, r = .ok a st1 → W.le W1 → R1 W1 a b → RS K T W1 st1 H1 → PostS K T Wx W1 (f a st1) D → Q1 b H1) : PostG K T (fun c d H => Wx c d σ H) W R1 r Q1 := by
  cases r with
  | ok a st => exact fun W' b H' h r s => k a st W' b H' rfl h r s (PostS.mono h p)
  | ex c st => exact fun W' H' h s => p W' σ H' h s
  | no => exact p
def tS (K : PySem.W.Frag) (T : Tb) (Wx : WX) (m : Sv) : TS := fun D σ H => ∃ (W : Wd) (env : Env') (st : Store), RE K W env σ ∧ RS K T W st H ∧ PostS K T Wx W (m env st) D
def SS (T : Tb) (Wx : WX) (X : Cx) (s : Stmt) (m : Sv) : Prop := PS X s (tS X.K T Wx m)
def SSs (T : Tb) (Wx : WX) (X : Cx) (s : List Stmt) (m : Sv) : Prop := PSs X s (tS X.K T Wx m)
def sNil : Sv := fun env st => .ok (.nx, env) st
def sSeq (m n : Sv) : Sv := fun env st => (m env st).bind fun a st => match a with
  | (.nx, env) => n env st
  | a => .ok a st
theorem ss_nil : SSs T Wx X [] sNil := PSs.imp pss_nil fun D σ H q => by
  obtain ⟨W, env, st, re, rs, p⟩ := q
  exact p W σ H (Wd.le.refl _) re rs
theorem ss_one {s : Stmt} {m : Sv} (h : SS T Wx X s m) : SSs T Wx X [s] m := pss_one h
theorem ss_cons {s : Stmt} {r : List Stmt} {m n : Sv} (h : SS T Wx X s m) (g : SSs T Wx X r n) : SSs T Wx X (s :: r) (sSeq m n) := PSs.imp (pss_cons h g) fun D σ H q => by
  obtain ⟨W, env, st, re, rs, p⟩ := q
  refine ⟨W, env, st, re, rs, ?_⟩
  unfold sSeq at p
  cases hm : m env st with
  | ok a st1 =>
    rw [hm] at p
    obtain ⟨f, env1⟩ := a
    cases f with
    | nx => exact fun W' σ' H' l r s => ⟨W', env1, st1, r, s, PostS.mono l p⟩
    | rt d => exact p
    | bk => exact p
    | ct => exact p
  | ex c st1 => rw [hm] at p; exact p
  | no => rw [hm] at p; exact p
def sPass : Sv := sNil
theorem ss_pass {p : Pos} : SS T Wx X (.Pass p) sNil := PS.imp ps_pass fun D σ H q => by
  obtain ⟨W, env, st, re, rs, p⟩ := q
  exact p W σ H (Wd.le.refl _) re rs
def sBreak : Sv := fun env st => .ok (.bk, env) st
def sCont : Sv := fun env st => .ok (.ct, env) st
theorem ss_break {p : Pos} : SS T Wx X (.Break p) sBreak := PS.imp ps_break fun D σ H q => by
  obtain ⟨W, env, st, re, rs, p⟩ := q
  exact p W σ H (Wd.le.refl _) re rs
theorem ss_continue {p : Pos} : SS T Wx X (.Continue p) sCont := PS.imp ps_continue fun D σ H q => by
  obtain ⟨W, env, st, re, rs, p⟩ := q
  exact p W σ H (Wd.le.refl _) re rs
variable {e : Expr} {m : Ev D}
def sDrop (m : Ev D) : Sv := fun env st => (m env st).bind fun _ st => .ok (.nx, env) st
theorem ss_expr (h : SE T Wx X e m) (hs : swapsWith e none pos.line X.env = pure false := by rfl) : SS T Wx X (.Expr e pos) (sDrop m) := PS.imp (ps_expr h hs) fun D σ H q => by
  obtain ⟨W, env, st, re, rs, p⟩ := q
  refine ⟨W, env, st, re, rs, PostS.step p fun d st1 W1 x H1 _ l1 r1 rs1 p1 => ?_⟩
  exact p1 W1 σ H1 (Wd.le.refl _) (re.mono l1) rs1
def sRet (m : Ev D) : Sv := fun env st => (m env st).bind fun d st => .ok (.rt d, env) st
theorem ss_ret (h : SE T Wx X e m) : SS T Wx X (.Return (some e) pos) (sRet m) := PS.imp (ps_ret h) fun D σ H q => by
  obtain ⟨W, env, st, re, rs, p⟩ := q
  refine ⟨W, env, st, re, rs, PostS.step p fun d st1 W1 x H1 _ l1 r1 rs1 p1 => ?_⟩
  exact p1 W1 x H1 (Wd.le.refl _) r1 rs1
def sRetN : Sv := fun env st => .ok (.rt .non, env) st
theorem ss_retN : SS T Wx X (.Return none pos) sRetN := PS.imp ps_retN fun D σ H q => by
  obtain ⟨W, env, st, re, rs, p⟩ := q
  exact p W .non H (Wd.le.refl _) .non rs
def sIf (t : Ev Bool) (m n : Sv) : Sv := fun env st => (t env st).bind fun k st => if k = true then m env st else n env st
theorem ss_if {c : Expr} {a b : List Stmt} {t : Ev Bool} {m n : Sv} (hc : SX T Wx X c t) (ha : SSs T Wx X a m) (hb : SSs T Wx X b n) : SS T Wx X (.If c a b pos) (sIf t m n) := PS.imp (ps_if hc ha hb) fun D σ H q => by
  obtain ⟨W, env, st, re, rs, p⟩ := q
  refine ⟨W, env, st, re, rs, PostS.step p fun k st1 W1 x H1 _ l1 r1 rs1 p1 => ?_⟩
  cases r1
  cases k with
  | true => exact ⟨W1, env, st1, re.mono l1, rs1, p1⟩
  | false => exact ⟨W1, env, st1, re.mono l1, rs1, p1⟩
/-- target = value -/
def sAsg (m : Ev D) (tg : Tg) : Sv := fun env st => (m env st).bind fun d st => match setT tg d env with
  | some env => .ok (.nx, env) st
  | none => .no
theorem asg_read {D : Ends} {σ : St} {H : Hp} {tg : Tg} (q : tS K T Wx (sAsg m tg) D σ H) : tAsg (tE K T Wx m) (gOf K tg) D σ H := by
  obtain ⟨W, env, st, re, rs, p⟩ := q
  refine ⟨W, env, st, re, rs, PostS.step p fun d st1 W1 x H1 _ l1 r1 rs1 p1 => ?_⟩
  cases hz : setT tg d env with
  | none => simp only [hz] at p1; exact p1.elim
  | some env1 =>
    simp only [hz] at p1
    exact setT_run rs1 (re.mono l1) r1 hz fun σ' re' _ => p1 W1 σ' H1 (Wd.le.refl _) re' rs1
theorem ss_asg {tge : Expr} {tg : Tg} (he : SE T Wx X e m) (hg : SG X tge tg) (hs : swapsWithSole [tge] e pos.line X.env = pure false := by rfl) (hw : swappedStores [tge] e X.env = pure none := by rfl)
    (h1 : (assignEach [tge] X.env).map (·.2) = [assign tge X.env] := by rfl) : SS T Wx X (.Assign [tge] e pos) (sAsg m tg) := PS.imp (ps_asg he hg hs hw h1) fun D σ H q => asg_read q
theorem ss_asgLc {i : Nat} {y : Str} {py spos : Pos} (hc : X.calm = true) (hN : X.N.Nodup) (hy : X.N[i]? = some y) (hyl : X.env.scope.names.lookup y = some .local)
    (hsw : swapsWith (.ListComp elt [⟨tgx, iter, ifs, 0⟩] scope pos) (some (.Name y py)) spos.line X.env = pure true) (hi : SI T Wx X tgx iter mi) (ok : BlkOk X.N X.env.scope scope own)
    (hg : ∀ (s : Shared) (H : Hp) (C : Addr) (cl : List (Str × Addr)) (fp : List Addr), SG (X.blk s H scope (compEnvC scope cl C X.env) fp) tgx tg) (ht : ∀ (s : Shared) (H : Hp) (C : Addr) (cl : List (Str × Addr)) (fp : List Addr), ST T (X.blk s H scope (compEnvC scope cl C X.env) fp) ifs mt)
    (he : ∀ (s : Shared) (H : Hp) (C : Addr) (cl : List (Str × Addr)) (fp : List Addr), SE T W0 (X.blk s H scope (compEnvC scope cl C X.env) fp) elt me) (hown : ∀ i ∈ tg.slots, i ∈ own.map (·.2) := by decide) (hs : ∀ x, foldedSetIterable iter X.env x = pure x := by intro _; rfl) :
    SS T Wx X (.Assign [.Name y py] (.ListComp elt [⟨tgx, iter, ifs, 0⟩] scope pos) spos) (sAsg (mComp mi tg (own.map (·.2)) mt me) (.one i)) :=
  PS.imp (ps_setLc (g := gOf X.K tg) (tt := tT X.K T W0 mt) (te := tE X.K T W0 me) hc hN hy hyl hsw hi ok hg ht he hs) fun D σ H q => by
    have h := asg_read q
    exact comp_frozen hown h
theorem ss_asgLcC {i : Nat} {y : Str} {py spos : Pos} (hc : X.calm = true) (hN : X.N.Nodup) (hy : X.N[i]? = some y) (hyl : X.env.scope.names.lookup y = some .local)
    (hsw : swapsWith (.ListComp elt [⟨tgx, iter, ifs, 0⟩] scope pos) (some (.Name y py)) spos.line X.env = pure true) (hi : SI T Wx X tgx iter mi) (ok : BlkOk X.N X.env.scope scope own)
    (hg : ∀ (s : Shared) (H : Hp) (C : Addr) (cl : List (Str × Addr)) (fp : List Addr), SG (X.blk s H scope (compEnvC scope cl C X.env) fp) tgx tg) (ht : ∀ (s : Shared) (H : Hp) (C : Addr) (cl : List (Str × Addr)) (fp : List Addr), ST T (X.blk s H scope (compEnvC scope cl C X.env) fp) ifs mt)
    (he : ∀ (s : Shared) (H : Hp) (C : Addr) (cl : List (Str × Addr)) (fp : List Addr), SE T W0 (X.blk s H scope (compEnvC scope cl C X.env) fp) elt me) (hown : ∀ i ∈ tg.slots, i ∈ own.map (·.2) := by decide) (hs : ∀ x, foldedSetIterable iter X.env x = pure x := by intro _; rfl) :
    SS T Wx X (.Assign [.Name y py] (.ListComp elt [⟨tgx, iter, ifs, 0⟩] scope pos) spos) (sAsg (mCompC mi tg (own.map (·.2)) mt me) (.one i)) :=
  PS.imp (ps_setLc (g := gOf X.K tg) (tt := tT X.K T W0 mt) (te := tE X.K T W0 me) hc hN hy hyl hsw hi ok hg ht he hs) fun D σ H q => by
    have h := asg_read q
    exact comp_cell hown h
/-! ### for, while -/
def forL (chk : Store → Bool) (tg : Tg) (body : Sv) : List D → Env' → Store → Res (Fl × Env')
  | [], env, st => if chk st = true then .ok (.nx, env) st else .no
  | d :: r, env, st => if chk st = true then match setT tg d env with
      | none => .no
      | some env1 => (body env1 st).bind fun a st => match a with
        | (.nx, env) => forL chk tg body r env st
        | (.ct, env) => forL chk tg body r env st
        | (.bk, env) => .ok (.nx, env) st
        | (.rt d, env) => .ok (.rt d, env) st
    else .no
def sFor (mi : Ev Src) (tg : Tg) (body : Sv) : Sv := fun env st => (mi env st).bind fun s st => forL s.chk tg body s.items env st
theorem ss_for {body : List Stmt} {mb : Sv} (hp : PassesOwn (model X.prog X.w) X.A X.env X.xe) (hc : X.calm = true) (hi : SI T Wx X tgx iter mi) (hg : SG X tgx tg) (hb : SSs T Wx X body mb)
    (hs : ∀ x, foldedSetIterable iter X.env x = pure x := by intro _; rfl) : SS T Wx X (.For tgx iter body [] pos) (sFor mi tg mb) := PS.imp (ps_for hp hc hi hg hb hs) fun D σ H q => by
  obtain ⟨W, env, st, re, rs, p⟩ := q
  refine ⟨W, env, st, re, rs, PostS.step p fun s st1 W1 J H1 _ l1 ri rs1 p1 => ?_⟩
  refine ⟨fun i m σ2 H2 => m = s.items.length - i ∧ i ≤ s.items.length ∧ ∃ (W2 : Wd) (env2 : Env') (st2 : Store), W1.le W2 ∧ RE X.K W2 env2 σ2 ∧ RS X.K T W2 st2 H2 ∧ PostS X.K T Wx W2 (forL s.chk tg mb (s.items.drop i) env2 st2) D,
    ⟨s.items.length, by simp, Nat.zero_le _, W1, env, st1, Wd.le.refl _, re.mono l1, rs1, by rw [List.drop_zero]; exact p1⟩, ?_⟩
  rintro i m σ2 H2 ⟨rfl, hi, W2, env2, st2, l2, re2, rs2, p2⟩
  by_cases hlt : i < s.items.length
  · have hd : s.items.drop i = s.items[i] :: s.items.drop (i + 1) := List.drop_eq_getElem_cons hlt
    rw [hd] at p2
    unfold forL at p2
    split at p2
    · rename_i hk
      obtain ⟨_, hgo⟩ := ri W2 st2 H2 l2.two rs2 hk
      obtain ⟨go, yl⟩ := hgo i s.items[i] (by simp [hlt])
      refine .inr ⟨go, _, fun σ' H' h => ⟨s.items.length - (i + 1), by omega, rfl, hlt, h⟩, fun x H' hy => ?_⟩
      obtain ⟨W3, l3, r3, rs3⟩ := yl x H' hy
      split at p2
      · exact p2.elim
      · rename_i env1 he
        refine setT_run rs3 (re2.mono l3) r3 he fun σ3 re3 _ => ⟨W3, env1, st2, re3, rs3, ?_⟩
        have p3 := PostS.mono l3 p2
        cases hb : mb env1 st2 with
        | ok a st4 =>
          rw [hb] at p3
          obtain ⟨f, env4⟩ := a
          cases f with
          | nx => exact fun W' σ' H' l r s => ⟨W', env4, st4, (l2.trans l3).trans l, r, s, PostS.mono l p3⟩
          | ct => exact fun W' σ' H' l r s => ⟨W', env4, st4, (l2.trans l3).trans l, r, s, PostS.mono l p3⟩
          | bk => exact p3
          | rt d => exact p3
        | ex c st4 => rw [hb] at p3; exact p3
        | no => rw [hb] at p3; exact p3
    · exact p2.elim
  · have e : i = s.items.length := by omega
    subst e
    rw [List.drop_length] at p2
    unfold forL at p2
    split at p2
    · rename_i hk
      exact .inl ⟨(ri W2 st2 H2 l2.two rs2 hk).1 _ (Nat.le_refl _), p2 W2 σ2 H2 (Wd.le.refl _) re2 rs2⟩
    · exact p2.elim
def whL (t : Ev Bool) (body : Sv) : Nat → Env' → Store → Res (Fl × Env')
  | 0, _, _ => .no
  | n + 1, env, st => (t env st).bind fun k st => if k = true then (body env st).bind fun a st => match a with
      | (.nx, env) => whL t body n env st
      | (.ct, env) => whL t body n env st
      | (.bk, env) => .ok (.nx, env) st
      | (.rt d, env) => .ok (.rt d, env) st
    else .ok (.nx, env) st
def sWhile (fuel : Nat) (t : Ev Bool) (body : Sv) : Sv := whL t body fuel
theorem ss_while {c : Expr} {body : List Stmt} {t : Ev Bool} {mb : Sv} (fuel : Nat) (hp : PassesOwn (model X.prog X.w) X.A X.env X.xe) (hc : SX T Wx X c t) (hb : SSs T Wx X body mb) : SS T Wx X (.While c body [] pos) (sWhile fuel t mb) := PS.imp (ps_while hp hc hb) fun D σ H q => by
  obtain ⟨W, env, st, re, rs, p⟩ := q
  refine ⟨fun m σ2 H2 => ∃ (W2 : Wd) (env2 : Env') (st2 : Store), RE X.K W2 env2 σ2 ∧ RS X.K T W2 st2 H2 ∧ PostS X.K T Wx W2 (whL t mb m env2 st2) D, ⟨fuel, W, env, st, re, rs, p⟩, ?_⟩
  rintro m σ2 H2 ⟨W2, env2, st2, re2, rs2, p2⟩
  cases m with
  | zero => exact p2.elim
  | succ n =>
    unfold whL at p2
    refine ⟨W2, env2, st2, re2, rs2, PostS.step p2 fun k st3 W3 b H3 _ l3 rb rs3 p3 => ?_⟩
    cases rb
    cases k with
    | true =>
      simp only [if_true] at p3 ⊢
      refine ⟨_, fun σ' H' h => ⟨n, by omega, h⟩, W3, env2, st3, re2.mono l3, rs3, ?_⟩
      cases hb : mb env2 st3 with
      | ok a st4 =>
        rw [hb] at p3
        obtain ⟨f, env4⟩ := a
        cases f with
        | nx => exact fun W' σ' H' l r s => ⟨W', env4, st4, r, s, PostS.mono l p3⟩
        | ct => exact fun W' σ' H' l r s => ⟨W', env4, st4, r, s, PostS.mono l p3⟩
        | bk => exact p3
        | rt d => exact p3
      | ex c st4 => rw [hb] at p3; exact p3
      | no => rw [hb] at p3; exact p3
    | false =>
      simp only [Bool.false_eq_true, if_false] at p3 ⊢
      exact p3 W3 σ2 H3 (Wd.le.refl _) (re2.mono l3) rs3
end
end Mr
namespace Mr
open PySem PySem.Spec L2
/-! ### defs -/
def spM (K : PySem.W.Frag) (T : Tb) (n : Nat) (m : List D → Store → Res D) : Sp := fun vs H Q E => ∃ (W : Wd) (ds : List D) (st : Store), ds.length = n ∧ RVs K W ds vs ∧ RS K T W st H ∧ PostG K T E W (RV K) (m ds st) Q
def startE (N : Nat) (ds : List D) : Env' := ds.map some ++ List.replicate (N - ds.length) none
def mDef (N : Nat) (body : Sv) (ds : List D) (st : Store) : Res D := (body (startE N ds) st).bind fun a st => match a with
  | (.rt d, _) => .ok d st
  | (.nx, _) => .ok .non st
  | _ => .no
section
variable {P : Program} {w : World} {K : PySem.W.Frag} {mg : Str → Option Value} {base : Heap} {T : Tb}
theorem RE.start {W : Wd} {ds : List D} {vs : List V} {N : List Str} (r : RVs K W ds vs) : RE K W (startE N.length ds) (L2.start N vs) := by
  refine ⟨by simp [startE, L2.start, r.length], fun i d e => ?_⟩
  unfold startE at e
  unfold L2.start
  by_cases hi : i < ds.length
  · rw [List.getElem?_append_left (by simpa using hi)] at e
    rw [List.getElem?_append_left (by simpa [← r.length] using hi)]
    simp only [List.getElem?_map, Option.map_eq_some_iff] at e
    obtain ⟨d', e1, e2⟩ := e
    cases e2
    obtain ⟨v, h1, h2⟩ := r.get e1
    exact ⟨v, by simp [h1], h2⟩
  · rw [List.getElem?_append_right (by simpa using hi), List.getElem?_replicate] at e
    split at e <;> cases e
theorem fn_ok {x qual : Str} {params : Arguments} {body : List Stmt} {scope : Scope} {dvs : List V} {kws : List (Str × V)} {f : Addr} {fd : FuncData} {N ps : List Str} {k : Nat} {m : Sv}
    (F : FunD K x qual params body scope dvs kws f fd) (S : FnScope N ps scope)
    (hb : ∀ (cdv : Value) (A : Around) (outer : List Env) (s : Shared) (H : Hp) (E : XK), Room k (A.deeper (PyProof.Rows.envOfC qual scope s.heap.objs.size f cdv)) → SSs T (fun c d _ H => E c d H) (cxOf (L2N.CX P w) P w K mg base N qual scope f cdv A outer s H E) body m) :
    FnOk P w K mg base (L2N.CX P w) (k + 1) f fd ps (spM K T ps.length (mDef N.length m)) := by
  refine F.ok S (fun vs H Q E h => ?_) fun cdv A outer s H vs Q E hr h => ⟨_, hb cdv A outer s H E hr, ?_⟩
  · obtain ⟨W, ds, st, hl, r, _⟩ := h
    rw [← r.length, hl]
  · obtain ⟨W, ds, st, hl, r, rs, p⟩ := h
    refine ⟨W, startE N.length ds, st, RE.start r, rs, ?_⟩
    unfold mDef at p
    cases hm : m (startE N.length ds) st with
    | ok a st1 =>
      rw [hm] at p
      obtain ⟨fl, env1⟩ := a
      cases fl with
      | nx => exact fun W' σ' H' l _ s => p W' .non H' l .non s
      | rt d => exact p
      | bk => exact p.elim
      | ct => exact p.elim
    | ex c st1 => rw [hm] at p; exact fun W' σ' H' l s => p W' H' l s
    | no => rw [hm] at p; exact p
theorem spM_imp {n : Nat} {m m' : List D → Store → Res D} (h : ∀ (vs : List V) (H : Hp) (Q : VK) (E : XK), spM K T n m' vs H Q E → spM K T n m vs H Q E) {k : Nat} {f : Addr} {fd : FuncData} {ps : List Str} {CX : CXT} (F : FnOk P w K mg base CX k f fd ps (spM K T n m)) : FnOk P w K mg base CX k f fd ps (spM K T n m') := F.imp h
end

/-! ### a def that leaves no cell behind -/
mutual
def frzF (f : Nat → Option D) : D → Option D
  | .lst xs => (frzsF f xs).map .lst
  | .fix xs => (frzsF f xs).map .fix
  | .tup xs => (frzsF f xs).map .tup
  | .dct ks xs => (frzsF f xs).map (.dct ks)
  | .ref n => f n
  | .non => some .non
  | .bl b => some (.bl b)
  | .int i => some (.int i)
  | .str x => some (.str x)
  | .ty n => some (.ty n)
def frzsF (f : Nat → Option D) : List D → Option (List D)
  | [] => some []
  | d :: ds => (frzF f d).bind fun x => (frzsF f ds).map fun xs => x :: xs
end
def frz (n : Nat) (st : Store) : Nat → D → Option D
  | 0, d => frzF (fun k => if k < n then some (.ref k) else none) d
  | m + 1, d => frzF (fun k => if k < n then some (.ref k) else match st[k]? with
    | some (.lst xs) => frz n st m (.lst xs)
    | some (.dct ks xs) => frz n st m (.dct ks xs)
    | _ => none) d
def mPure (m : List D → Store → Res D) (ds : List D) (st : Store) : Res D := match m ds st with
  | .ok d st' => if st'.take st.length = st then match frz st.length st' 3 d with
    | some d' => .ok d' st
    | none => .no
    else .no
  | .ex c st' => if st'.take st.length = st then .ex c st else .no
  | .no => .no
mutual
def refsB (n : Nat) : D → Prop
  | .lst xs => refsBs n xs
  | .fix xs => refsBs n xs
  | .tup xs => refsBs n xs
  | .dct _ xs => refsBs n xs
  | .ref k => k < n
  | _ => True
def refsBs (n : Nat) : List D → Prop
  | [] => True
  | d :: ds => refsB n d ∧ refsBs n ds
end
section
variable {K : PySem.W.Frag} {T : Tb}
mutual
theorem RD.refs {F : Hp} {ρ : List Addr} : ∀ {d : D} {v : V}, RD K F ρ d v → refsB ρ.length d
  | _, _, .non => trivial
  | _, _, .bl b => trivial
  | _, _, .int i => trivial
  | _, _, .str x => trivial
  | _, _, .ty n => trivial
  | _, _, .lst h r => RDs.refs r
  | _, _, .fix h r => RDs.refs r
  | _, _, .tup h r => RDs.refs r
  | _, _, .dct h l r => RDs.refs r
  | _, _, .ref h => (List.getElem?_eq_some_iff.mp h).1
theorem RDs.refs {F : Hp} {ρ : List Addr} : ∀ {d : List D} {v : List V}, RDs K F ρ d v → refsBs ρ.length d
  | _, _, .nil => trivial
  | _, _, .cons r t => ⟨RD.refs r, RDs.refs t⟩
end
mutual
theorem RD.cut {F F' : Hp} {ρ ρ' : List Addr} {n : Nat} (e : Same F F') (p : ∀ (k : Nat) (a : Addr), k < n → ρ[k]? = some a → ρ'[k]? = some a) : ∀ {d : D} {v : V}, RD K F ρ d v → refsB n d → RD K F' ρ' d v
  | _, _, .non, _ => .non
  | _, _, .bl b, _ => .bl b
  | _, _, .int i, _ => .int i
  | _, _, .str x, _ => .str x
  | _, _, .ty n, _ => .ty n
  | _, _, .lst h r, b => .lst (e _ _ h) (RDs.cut e p r b)
  | _, _, .fix h r, b => .fix (sqL_mono e h) (RDs.cut e p r b)
  | _, _, .tup h r, b => .tup (sqT_mono e h) (RDs.cut e p r b)
  | _, _, .dct h l r, b => .dct (e _ _ h) l (RDs.cut e p r b)
  | _, _, .ref h, b => .ref (p _ _ b h)
theorem RDs.cut {F F' : Hp} {ρ ρ' : List Addr} {n : Nat} (e : Same F F') (p : ∀ (k : Nat) (a : Addr), k < n → ρ[k]? = some a → ρ'[k]? = some a) : ∀ {d : List D} {v : List V}, RDs K F ρ d v → refsBs n d → RDs K F' ρ' d v
  | _, _, .nil, _ => .nil
  | _, _, .cons r t, b => .cons (RD.cut e p r b.1) (RDs.cut e p t b.2)
end
theorem FsR.refs {W : Wd} : ∀ {fs : List (Str × D)} {gs : List (Str × V)}, FsR K W fs gs → ∀ q ∈ fs, refsB W.rh.length q.2
  | _, _, .nil, q, h => by cases h
  | _, _, .cons r t, q, h => by
    rcases List.mem_cons.mp h with rfl | h
    · exact RD.refs r
    · exact FsR.refs t q h
theorem FsR.cut {W W' : Wd} {n : Nat} (e : Same W.F W'.F) (p : ∀ (k : Nat) (a : Addr), k < n → W.rh[k]? = some a → W'.rh[k]? = some a) : ∀ {fs : List (Str × D)} {gs : List (Str × V)}, FsR K W fs gs → (∀ q ∈ fs, refsB n q.2) → FsR K W' fs gs
  | _, _, .nil, h => .nil
  | _, _, .cons r t, h => .cons (RD.cut e p r (h (_, _) List.mem_cons_self)) (FsR.cut e p t fun q hq => h q (List.mem_cons_of_mem _ hq))
def cellB (n : Nat) : Cell → Prop
  | .lst xs => refsBs n xs
  | .dct _ xs => refsBs n xs
  | .ins _ fs => ∀ q ∈ fs, refsB n q.2
  | .dcf _ xs => refsBs n xs
theorem CellR.refs {W : Wd} {c : Cell} {o : Option HO} (r : CellR K W c o) : cellB W.rh.length c := by
  cases c with
  | lst ds => obtain ⟨xs, _, r⟩ := r; exact RDs.refs r
  | dct ks ds => obtain ⟨xs, _, _, r⟩ := r; exact RDs.refs r
  | ins c fs => obtain ⟨dx, gs, _, r⟩ := r; exact r.refs
  | dcf ks ds => obtain ⟨xs, ob, _, _, r⟩ := r; exact RDs.refs r
theorem CellR.cut {W W' : Wd} {n : Nat} (e : Same W.F W'.F) (p : ∀ (k : Nat) (a : Addr), k < n → W.rh[k]? = some a → W'.rh[k]? = some a) {c : Cell} {o : Option HO} (r : CellR K W c o) (b : cellB n c) : CellR K W' c o := by
  cases c with
  | lst ds => obtain ⟨xs, h, r⟩ := r; exact ⟨xs, h, RDs.cut e p r b⟩
  | dct ks ds => obtain ⟨xs, h, l, r⟩ := r; exact ⟨xs, h, l, RDs.cut e p r b⟩
  | ins c fs => obtain ⟨dx, gs, h, r⟩ := r; exact ⟨dx, gs, h, r.cut e p b⟩
  | dcf ks ds => obtain ⟨xs, ob, h, l, r⟩ := r; exact ⟨xs, ob, h, l, RDs.cut e p r b⟩
/-- the world behind a def that leaves no cell: what was made is fixed -/
def Wd.cut (W : Wd) (n : Nat) (H : Hp) : Wd := ⟨fun a => if a ∈ W.rh.drop n then H a else W.F a, W.rh.take n, W.U⟩
section
variable {W : Wd} {st : Store} {H : Hp} {n : Nat}
theorem cut_same (R : RS K T W st H) : Same W.F (W.cut n H).F := fun a o e => by
  show (if a ∈ W.rh.drop n then H a else W.F a) = some o
  split
  · exact R.f a o e
  · exact e
theorem cut_ix {k : Nat} {a : Addr} (hk : k < n) (h : W.rh[k]? = some a) : (W.cut n H).rh[k]? = some a := by
  show (W.rh.take n)[k]? = some a
  rw [List.getElem?_take, if_pos hk]; exact h
theorem cut_RS (R : RS K T W st H) (hb : ∀ c ∈ st.take n, cellB n c) : RS K T (W.cut n H) (st.take n) H := by
  have dis : ∀ a ∈ W.rh.take n, a ∉ W.rh.drop n := fun a ha hd => by
    have := R.nd
    rw [← List.take_append_drop n W.rh, List.nodup_append] at this
    exact this.2.2 a ha a hd rfl
  refine ⟨fun a o e => ?_, R.u, by show (W.rh.take n).length = _; simp [R.len], R.nd.sublist (List.take_sublist n W.rh), fun k c a h1 h2 => ?_, fun a ha => R.nu a (List.mem_of_mem_take ha), fun a o e => ?_, fun k c a h1 h2 => ?_, R.tb, fun a o e => ?_, R.ntU⟩
  · have e : (if a ∈ W.rh.drop n then H a else W.F a) = some o := e
    split at e
    · exact e
    · exact R.f a o e
  · have h2' : (W.rh.take n)[k]? = some a := h2
    show (if a ∈ W.rh.drop n then H a else W.F a).isSome = _
    rw [if_neg (dis a (List.mem_of_getElem? h2'))]
    rw [List.getElem?_take] at h1 h2'
    split at h1
    · rename_i hk
      rw [if_pos hk] at h2'
      exact R.nf k c a h1 h2'
    · cases h1
  · show (if a ∈ W.rh.drop n then H a else W.F a) = none
    rw [if_neg (fun hm => by have := R.nu a (List.mem_of_mem_drop hm); rw [show W.U a = some o from e] at this; cases this)]
    exact R.fu a o e
  · have h2' : (W.rh.take n)[k]? = some a := h2
    rw [List.getElem?_take] at h1 h2'
    split at h1
    · rename_i hk
      rw [if_pos hk] at h2'
      exact (R.cell k c a h1 h2').cut (cut_same R) (fun k a hk h => cut_ix hk h) (hb c (List.mem_of_getElem? (by rw [List.getElem?_take, if_pos hk]; exact h1)))
    · cases h1
  · have e : (if a ∈ W.rh.drop n then H a else W.F a) = some o := e
    split at e
    · rename_i hm
      obtain ⟨k, c, _, _, r⟩ := R.atCell (List.mem_of_mem_drop hm)
      obtain ⟨u, e1, e2⟩ := r.isObj
      rw [e] at e1
      cases e1
      exact e2
    · exact R.ntF a o e
mutual
theorem frzF_ok {f : Nat → Option D} (R : RS K T W st H) (hf : ∀ k d a, f k = some d → W.rh[k]? = some a → RV K (W.cut n H) d (.ref a)) : ∀ (d e : D) (v : V), frzF f d = some e → RV K W d v → RV K (W.cut n H) e v
  | .non, e, v, h, r => by simp only [frzF] at h; cases h; cases r; exact .non
  | .bl b, e, v, h, r => by simp only [frzF] at h; cases h; cases r; exact .bl b
  | .int i, e, v, h, r => by simp only [frzF] at h; cases h; cases r; exact .int i
  | .str x, e, v, h, r => by simp only [frzF] at h; cases h; cases r; exact .str x
  | .ty x, e, v, h, r => by simp only [frzF] at h; cases h; cases r; exact .ty x
  | .lst xs, e, v, h, r => by
    simp only [frzF, Option.map_eq_some_iff] at h
    obtain ⟨ys, h1, rfl⟩ := h
    cases r with
    | lst g q => exact .lst (cut_same R _ _ g) (frzsF_ok R hf xs ys _ h1 q)
  | .fix xs, e, v, h, r => by
    simp only [frzF, Option.map_eq_some_iff] at h
    obtain ⟨ys, h1, rfl⟩ := h
    cases r with
    | fix g q => exact .fix (sqL_mono (cut_same R) g) (frzsF_ok R hf xs ys _ h1 q)
  | .tup xs, e, v, h, r => by
    simp only [frzF, Option.map_eq_some_iff] at h
    obtain ⟨ys, h1, rfl⟩ := h
    cases r with
    | tup g q => exact .tup (sqT_mono (cut_same R) g) (frzsF_ok R hf xs ys _ h1 q)
  | .dct ks xs, e, v, h, r => by
    simp only [frzF, Option.map_eq_some_iff] at h
    obtain ⟨ys, h1, rfl⟩ := h
    cases r with
    | dct g l q => exact .dct (cut_same R _ _ g) l (frzsF_ok R hf xs ys _ h1 q)
  | .ref k, e, v, h, r => by
    simp only [frzF] at h
    cases r with
    | ref g => exact hf k e _ h g
theorem frzsF_ok {f : Nat → Option D} (R : RS K T W st H) (hf : ∀ k d a, f k = some d → W.rh[k]? = some a → RV K (W.cut n H) d (.ref a)) : ∀ (ds es : List D) (vs : List V), frzsF f ds = some es → RVs K W ds vs → RVs K (W.cut n H) es vs
  | [], es, vs, h, r => by simp only [frzsF] at h; cases h; cases r; exact .nil
  | d :: ds, es, vs, h, r => by
    simp only [frzsF, Option.bind_eq_some_iff, Option.map_eq_some_iff] at h
    obtain ⟨x, h1, xs, h2, rfl⟩ := h
    cases r with
    | cons r q => exact .cons (frzF_ok R hf d x _ h1 r) (frzsF_ok R hf ds xs _ h2 q)
end
theorem cut_at (R : RS K T W st H) {k : Nat} {a : Addr} (hk : ¬ k < n) (h : W.rh[k]? = some a) : (W.cut n H).F a = H a := by
  show (if a ∈ W.rh.drop n then H a else W.F a) = H a
  rw [if_pos]
  have : (W.rh.drop n)[k - n]? = some a := by rw [List.getElem?_drop, show n + (k - n) = k by omega]; exact h
  exact List.mem_of_getElem? this
theorem frz_ok (R : RS K T W st H) : ∀ (m : Nat) (d e : D) (v : V), frz n st m d = some e → RV K W d v → RV K (W.cut n H) e v
  | 0, d, e, v, h, r => frzF_ok R (fun k d a h g => by
      split at h
      · rename_i hk; cases h; exact .ref (cut_ix hk g)
      · cases h) d e v h r
  | m + 1, d, e, v, h, r => frzF_ok R (fun k d a h g => by
      split at h
      · rename_i hk; cases h; exact .ref (cut_ix hk g)
      · rename_i hk
        split at h
        · rename_i xs hs
          obtain ⟨vs, h1, q⟩ := R.cell _ _ _ hs g
          have key : ∀ ys, (∃ f : Nat → Option D, frzsF f xs = some ys ∧ ∀ k d a, f k = some d → W.rh[k]? = some a → RV K (W.cut n H) d (.ref a)) → RV K (W.cut n H) (.lst ys) (.ref a) := fun ys ⟨f, e1, hf⟩ =>
            .lst (by rw [cut_at R hk g]; exact h1) (frzsF_ok R hf xs ys vs e1 q)
          cases m with
          | zero =>
            simp only [frz, frzF, Option.map_eq_some_iff] at h
            obtain ⟨ys, e1, rfl⟩ := h
            exact key ys ⟨_, e1, fun k d a h g => frz_ok R 0 (.ref k) d (.ref a) (by simp only [frz, frzF]; exact h) (.ref g)⟩
          | succ m =>
            simp only [frz, frzF, Option.map_eq_some_iff] at h
            obtain ⟨ys, e1, rfl⟩ := h
            exact key ys ⟨_, e1, fun k d a h g => frz_ok R (m + 1) (.ref k) d (.ref a) (by simp only [frz, frzF]; exact h) (.ref g)⟩
        · rename_i ks xs hs
          obtain ⟨vs, h1, hl, q⟩ := R.cell _ _ _ hs g
          have key : ∀ ys, (∃ f : Nat → Option D, frzsF f xs = some ys ∧ ∀ k d a, f k = some d → W.rh[k]? = some a → RV K (W.cut n H) d (.ref a)) → RV K (W.cut n H) (.dct ks ys) (.ref a) := fun ys ⟨f, e1, hf⟩ =>
            .dct (by rw [cut_at R hk g]; exact h1) hl (frzsF_ok R hf xs ys vs e1 q)
          cases m with
          | zero =>
            simp only [frz, frzF, Option.map_eq_some_iff] at h
            obtain ⟨ys, e1, rfl⟩ := h
            exact key ys ⟨_, e1, fun k d a h g => frz_ok R 0 (.ref k) d (.ref a) (by simp only [frz, frzF]; exact h) (.ref g)⟩
          | succ m =>
            simp only [frz, frzF, Option.map_eq_some_iff] at h
            obtain ⟨ys, e1, rfl⟩ := h
            exact key ys ⟨_, e1, fun k d a h g => frz_ok R (m + 1) (.ref k) d (.ref a) (by simp only [frz, frzF]; exact h) (.ref g)⟩
        · cases h) d e v h r
end
theorem cut_le {W W' : Wd} {st st' : Store} {H H' : Hp} (R : RS K T W st H) (R' : RS K T W' st' H') (l : W.le W') : W.le (W'.cut st.length H') := by
  obtain ⟨l1, ⟨t, l2⟩, l3⟩ := l
  refine ⟨fun a o e => cut_same R' a o (l1 a o e), ⟨[], ?_⟩, l3⟩
  show W'.rh.take st.length = W.rh ++ []
  rw [l2, ← R.len, List.take_left, List.append_nil]
theorem cells_B {W : Wd} {st : Store} {H : Hp} (R : RS K T W st H) : ∀ c ∈ st, cellB st.length c := fun c hc => by
  obtain ⟨k, hk, e⟩ := List.getElem_of_mem hc
  have hk' : k < W.rh.length := by rw [R.len]; exact hk
  have := (R.cell k c W.rh[k] (by simp [hk, e]) (by simp [hk'])).refs
  rw [R.len] at this
  exact this
theorem pure_sp {n : Nat} {m : List D → Store → Res D} (vs : List V) (H : Hp) (Q : VK) (E : XK) (h : spM K T n (mPure m) vs H Q E) : spM K T n m vs H Q E := by
  obtain ⟨W, ds, st, hl, r, rs, p⟩ := h
  refine ⟨W, ds, st, hl, r, rs, ?_⟩
  unfold mPure at p
  have hB := cells_B rs
  cases hm : m ds st with
  | ok d st' =>
    rw [hm] at p
    simp only at p
    split at p
    · rename_i hst
      split at p
      · rename_i d' hd
        intro W' v H' l rv rs'
        have c := cut_RS (n := st.length) rs' (by rw [hst]; exact hB)
        rw [hst] at c
        exact p (W'.cut st.length H') v H' (cut_le rs rs' l) (frz_ok rs' 3 d d' v hd rv) c
      · exact p.elim
    · exact p.elim
  | ex c st' =>
    rw [hm] at p
    simp only at p
    split at p
    · rename_i hst
      intro W' H' l rs'
      have c := cut_RS (n := st.length) rs' (by rw [hst]; exact hB)
      rw [hst] at c
      exact p (W'.cut st.length H') H' (cut_le rs rs' l) c
    · exact p.elim
  | no => rw [hm] at p; exact p
end
end Mr
namespace Mr
open PySem PySem.Spec L2
theorem passN {X : Cx} : Passes (L2N.CX X.prog X.w) X (fun _ _ _ => False) := fun pins σ H s e s' I h => by
  obtain ⟨_, _, _, _, _, _, _, _, _, _, _, _, no⟩ := h
  exact no.elim
theorem takesN {X : Cx} : L2N.Takes X (fun _ _ _ _ => False) := fun u s' h => by
  obtain ⟨_, _, _, _, _, _, _, _, _, _, _, _, _, _, _, _, no⟩ := h
  exact no.elim
section
variable {T : Tb} {Wx : WX} {E : XK} {X : Cx} {k n : Nat} {f C : Addr} {fd : FuncData} {ps : List Str} {m : List D → Store → Res D} {x c mn : Str} {p p2 pos apos : Pos} {e o : Expr} {es : List Expr} {ms : Ev (List D)} {mo : Ev D}
/-! ### a def called -/
def mCallD (n : Nat) (m : List D → Store → Res D) (ms : Ev (List D)) : Ev D := fun env st => (ms env st).bind fun ds st => if ds.length = n then m ds st else .no
theorem so_call (F : FnOk X.prog X.w X.K X.mg X.base (L2N.CX X.prog X.w) k f fd ps (spM X.K T n m)) (hr : Room k X.A) (hg : Gl X x) (hm : X.mg x = some (.ref f)) (hk : PySem.W.keepIn X.K (.ref f) = true) (hb : Binds X.K fd ps []) (tk : L2N.Takes X Wx)
    (ha : SA T Wx X (e :: es) ms) (hdb : (x == ("__debug__" : Str)) = false := by decide) (he : starEach (e :: es) X.env = (false, eval e X.env) :: starEach es X.env := by rfl) (hpl : (backTo pos (starEach es X.env)).any (·.1) = false := by rfl) :
    SE T Wx X (.Call (.Name x p) (e :: es) [] pos) (mCallD n m ms) := PE.imp (pe_callS F hr hg hm hk hb (fun σ => L2N.passAt tk σ) ha hdb he hpl) fun σ H Q q => by
  obtain ⟨W, env, st, re, rs, p⟩ := q
  refine ⟨W, env, st, re, rs, PostG.step p fun ds st1 W1 xs H1 _ l1 r1 rs1 p1 => ?_⟩
  by_cases hl : ds.length = n
  · rw [if_pos hl] at p1
    exact ⟨W1, ds, st1, hl, r1, rs1, p1⟩
  · rw [if_neg hl] at p1; exact p1.elim
def mCall0 (m : List D → Store → Res D) : Ev D := fun _ st => (m [] st).nox
theorem so_call0 (F : FnOk X.prog X.w X.K X.mg X.base (L2N.CX X.prog X.w) k f fd ps (spM X.K T 0 m)) (hr : Room k X.A) (hg : Gl X x) (hm : X.mg x = some (.ref f)) (hk : PySem.W.keepIn X.K (.ref f) = true) (hb : Binds X.K fd ps [])
    (hdb : (x == ("__debug__" : Str)) = false := by decide) : SE T Wx X (.Call (.Name x p) [] [] pos) (mCall0 m) := PE.imp (pe_call0 (dvs := []) (E := fun _ _ _ => False) F hr hg hm hk hb .nil passN hdb) fun σ H Q q => by
  obtain ⟨W, env, st, re, rs, p⟩ := q
  refine ⟨W, [], st, rfl, .nil, rs, ?_⟩
  replace p : PostG X.K T (fun c d H => Wx c d σ H) W (RV X.K) (m [] st).nox Q := p
  cases hz : m [] st with
  | ok d st' => rw [hz] at p; exact p
  | ex c st' => rw [hz] at p; exact p.elim
  | no => rw [hz] at p; exact p
/-! ### raise -/
def sRaise (c : Str) : Sv := fun _ st => .ex c st
theorem ss_raise {st' : Str} {j : Nat} (hc : X.calm = true) (tk : L2N.Takes X Wx) (q : PySem.W.excIn X.K (He.ga X.K c) He.veBase "ValueError.__new__" = true) (gC : X.mg c = some (.ref (He.ga X.K c))) (kC : PySem.W.keepIn X.K (.ref (He.ga X.K c)) = true)
    (r : Raises X (.ref (He.ga X.K c))) (hg : Gl X c) (hdb : (c == ("__debug__" : Str)) = false := by decide) : SS T Wx X (.Raise (some (.Call (.Name c p) [.Constant (.str st') j p2] [] pos)) none apos) (sRaise c) :=
  PS.imp (L2N.ps_raise hc tk (L2N.pmk_own PySem.F.excBase_ValueError q gC kC r hg hdb)) fun D σ H q => by
    obtain ⟨W, env, st, re, rs, p⟩ := q
    exact p W σ H (Wd.le.refl _) rs
/-! ### fields -/
def mFld (c f : Str) (mo : Ev D) : Ev D := fun env st => (mo env st).bind fun d st => match d with
  | .ref n => match st[n]? with
    | some (.ins c' fs) => if c' = c then Res.of (fs.lookup f) st else .no
    | _ => .no
  | _ => .no
theorem FsR.lookup {K : PySem.W.Frag} {W : Wd} {f : Str} : ∀ {fs : List (Str × D)} {gs : List (Str × V)} {d : D}, FsR K W fs gs → fs.lookup f = some d → ∃ v, gs.lookup f = some v ∧ RV K W d v
  | _, _, _, .nil, h => by cases h
  | _, _, _, .cons (f := g) r t, h => by
    simp only [List.lookup] at h ⊢
    cases hg : (f == g) with
    | true => rw [hg] at h; cases h; exact ⟨_, rfl, r⟩
    | false => rw [hg] at h; exact FsR.lookup t h
theorem FsR.lookupN {K : PySem.W.Frag} {W : Wd} {f : Str} : ∀ {fs : List (Str × D)} {gs : List (Str × V)}, FsR K W fs gs → fs.lookup f = none → gs.lookup f = none
  | _, _, .nil, h => rfl
  | _, _, .cons (f := g) r t, h => by
    simp only [List.lookup] at h ⊢
    cases hg : (f == g) with
    | true => rw [hg] at h; cases h
    | false => rw [hg] at h; exact FsR.lookupN t h
theorem so_fld {fn : Str} (cl : Cls X.K (He.ga X.K c)) (na : NoAttr X.K (He.ga X.K c) fn) (ho : SE T Wx X o mo) (hb : attributeBase o fn X.env (eval o X.env) = eval o X.env := by rfl) : SE T Wx X (.Attribute o fn pos) (mFld c fn mo) :=
  PE.imp (pe_fld ho hb) fun σ H Q q => by
    obtain ⟨W, env, st, re, rs, p⟩ := q
    refine ⟨W, env, st, re, rs, PostG.step p fun d st1 W1 v H1 _ l1 r1 rs1 p1 => ?_⟩
    cases d with
    | ref n =>
      simp only at p1
      split at p1
      · rename_i c' fs hs
        split at p1
        · rename_i hc
          subst hc
          cases r1 with
          | ref h =>
            obtain ⟨dx, gs, h1, q1⟩ := rs1.cell _ _ _ hs h
            cases hz : fs.lookup fn with
            | none => rw [hz] at p1; exact p1.elim
            | some z =>
              rw [hz] at p1
              obtain ⟨v, h2, r2⟩ := q1.lookup hz
              exact ⟨_, _, dx, gs, v, rfl, h1, cl, na, h2, p1 W1 v H1 (Wd.le.refl _) r2 rs1⟩
        · exact p1.elim
      · exact p1.elim
    | _ => exact p1.elim
def putD (f : Str) (v : D) : List (Str × D) → List (Str × D)
  | [] => [(f, v)]
  | (g, u) :: r => if g = f then (g, v) :: r else (g, u) :: putD f v r
def sFldS (c f : Str) (mo mv : Ev D) : Sv := fun env st => (mv env st).bind fun v st => (mo env st).bind fun d st => match d with
  | .ref n => match st[n]? with
    | some (.ins c' fs) => if c' = c ∧ fs.length < 1000 then .ok (.nx, env) (st.set n (.ins c (putD f v fs))) else .no
    | _ => .no
  | _ => .no
theorem FsR.length {K : PySem.W.Frag} {W : Wd} : ∀ {fs : List (Str × D)} {gs : List (Str × V)}, FsR K W fs gs → fs.length = gs.length
  | _, _, .nil => rfl
  | _, _, .cons r t => by rw [List.length_cons, List.length_cons, FsR.length t]
theorem FsR.put {K : PySem.W.Frag} {W : Wd} {f : Str} {d : D} {v : V} (h : RV K W d v) : ∀ {fs : List (Str × D)} {gs : List (Str × V)}, FsR K W fs gs → FsR K W (putD f d fs) (putF f v gs)
  | _, _, .nil => .cons h .nil
  | _, _, .cons (f := g) (d := u) (v := w) r t => by
    unfold putD putF
    by_cases e : g = f
    · rw [if_pos e, if_pos e]; exact .cons h t
    · rw [if_neg e, if_neg e]; exact .cons r (FsR.put h t)
theorem ss_fld {fn : Str} {v : Expr} {mv : Ev D} (cl : Cls X.K (He.ga X.K c)) (na : NoAttr X.K (He.ga X.K c) fn) (ho : SE T Wx X o mo) (hv : SE T Wx X v mv) (hs : swapsWith v (some (.Attribute o fn p2)) pos.line X.env = pure false := by rfl) : SS T Wx X (.Assign [.Attribute o fn p2] v pos) (sFldS c fn mo mv) :=
  PS.imp (ps_fld ho hv hs) fun D σ H q => by
    obtain ⟨W, env, st, re, rs, p⟩ := q
    refine ⟨W, env, st, re, rs, PostS.step p fun z st1 W1 y H1 _ l1 r1 rs1 p1 => ?_⟩
    refine ⟨W1, env, st1, re.mono l1, rs1, PostS.step p1 fun d st2 W2 w H2 _ l2 r2 rs2 p2 => ?_⟩
    cases d with
    | ref n =>
      simp only at p2
      split at p2
      · rename_i c' fs hs
        split at p2
        · rename_i hc
          obtain ⟨rfl, hl⟩ := hc
          cases r2 with
          | ref h =>
            obtain ⟨dx, gs, h1, q1⟩ := rs2.cell _ _ _ hs h
            exact ⟨_, _, dx, gs, rfl, h1, cl, na, by rw [← q1.length]; exact hl, p2 W2 σ _ (Wd.le.refl _) ((re.mono l1).mono l2) (rs2.setC h ⟨dx, _, rfl, q1.put (r1.mono l2)⟩ hs)⟩
        · exact p2.elim
      · exact p2.elim
    | _ => exact p2.elim
/-! ### methods -/
def mMeth (c mn : Str) (n : Nat) (m : List D → Store → Res D) (mo : Ev D) (ms : Ev (List D)) : Ev D := fun env st => (mo env st).bind fun d st => match d with
  | .ref i => match st[i]? with
    | some (.ins c' fs) => if c' = c ∧ fs.lookup mn = none then (ms env st).bind fun ds st => if ds.length + 1 = n then m (.ref i :: ds) st else .no else .no
    | _ => .no
  | _ => .no
abbrev WS (E : XK) : WX := fun cl d _ H => E cl d H
theorem so_meth {pl : Sem Bool} (cl : Cls X.K (He.ga X.K c)) (hm : Meth X.K (He.ga X.K c) mn f) (F : FnOk X.prog X.w X.K X.mg X.base (L2N.CX X.prog X.w) k f fd ps (spM X.K T n m)) (hr : Room k X.A) (hb : Binds X.K fd ps []) (tk : L2N.Takes X (WS E)) (ho : SE T (WS E) X o mo) (ha : SA T (WS E) X (e :: es) ms)
    (hst : starEach (e :: es) X.env = (false, eval e X.env) :: starEach es X.env := by rfl) (hpl : (backTo pos (starEach es X.env)).any (·.1) = false := by rfl)
    (ht : eval (.Call (.Attribute o mn apos) (e :: es) [] pos) X.env = (do
      let ov ← eval o X.env
      standAt apos.atName
      let (f, first) ← holding [ov] (getMethod ov mn pl)
      callWith pos f first (backTo pos (starEach (e :: es) X.env)) (backToKw pos (keywordEach [] X.env))) := by rfl) :
    SE T (WS E) X (.Call (.Attribute o mn apos) (e :: es) [] pos) (mMeth c mn n m mo ms) := PE.imp (pe_meth (dvs := []) ho cl hm F hr hb .nil (L2N.passes_call tk fun _ _ _ _ h => h) ha hst hpl ht) fun σ H Q q => by
  obtain ⟨W, env, st, re, rs, p⟩ := q
  refine ⟨W, env, st, re, rs, PostG.step p fun d st1 W1 v H1 _ l1 r1 rs1 p1 => ?_⟩
  cases d with
  | ref i =>
    simp only at p1
    split at p1
    · rename_i c' fs hs
      split at p1
      · rename_i hc
        obtain ⟨rfl, hl⟩ := hc
        cases r1 with
        | ref h =>
          obtain ⟨dx, gs, h1, q1⟩ := rs1.cell _ _ _ hs h
          refine ⟨_, dx, gs, rfl, h1, q1.lookupN hl, W1, env, st1, re.mono l1, rs1, PostG.step p1 fun ds st2 W2 xs H2 _ l2 r2 rs2 p2 => ?_⟩
          by_cases hn : ds.length + 1 = n
          · rw [if_pos hn] at p2
            rw [List.append_nil]
            exact ⟨W2, .ref i :: ds, st2, hn, .cons (RV.mono l2 (.ref h)) r2, rs2, p2⟩
          · rw [if_neg hn] at p2; exact p2.elim
      · exact p1.elim
    · exact p1.elim
  | _ => exact p1.elim
theorem so_meth0 {pl : Sem Bool} (cl : Cls X.K (He.ga X.K c)) (hm : Meth X.K (He.ga X.K c) mn f) (F : FnOk X.prog X.w X.K X.mg X.base (L2N.CX X.prog X.w) k f fd ps (spM X.K T n m)) (hr : Room k X.A) (hb : Binds X.K fd ps []) (tk : L2N.Takes X (WS E)) (ho : SE T (WS E) X o mo)
    (ht : eval (.Call (.Attribute o mn apos) [] [] pos) X.env = (do
      let ov ← eval o X.env
      standAt apos.atName
      let (f, first) ← holding [ov] (getMethod ov mn pl)
      callWith pos f first (backTo pos (starEach [] X.env)) (backToKw pos (keywordEach [] X.env))) := by rfl) :
    SE T (WS E) X (.Call (.Attribute o mn apos) [] [] pos) (mMeth c mn n m mo mNil) := PE.imp (pe_meth0 (dvs := []) ho cl hm F hr hb .nil (L2N.passes_call tk fun _ _ _ _ h => h) ht) fun σ H Q q => by
  obtain ⟨W, env, st, re, rs, p⟩ := q
  refine ⟨W, env, st, re, rs, PostG.step p fun d st1 W1 v H1 _ l1 r1 rs1 p1 => ?_⟩
  cases d with
  | ref i =>
    simp only at p1
    split at p1
    · rename_i c' fs hs
      split at p1
      · rename_i hc
        obtain ⟨rfl, hl⟩ := hc
        cases r1 with
        | ref h =>
          obtain ⟨dx, gs, h1, q1⟩ := rs1.cell _ _ _ hs h
          have p2 : PostG X.K T (fun c d H => E c d H) W1 (RV X.K) (if ([] : List Mr.D).length + 1 = n then m [.ref i] st1 else .no) Q := p1
          refine ⟨_, dx, gs, rfl, h1, q1.lookupN hl, ?_⟩
          by_cases hn : ([] : List Mr.D).length + 1 = n
          · rw [if_pos hn] at p2
            exact ⟨W1, [.ref i], st1, hn, .cons (.ref h) .nil, rs1, p2⟩
          · rw [if_neg hn] at p2; exact p2.elim
      · exact p1.elim
    · exact p1.elim
  | _ => exact p1.elim
/-! ### objects made -/
theorem RS.junk {K : PySem.W.Frag} {W : Wd} {st : Store} {H : Hp} (R : RS K T W st H) {p : Addr} {o : HO} (h : H p = none) : RS K T W st (upd H p o) := by
  obtain ⟨f1, f2, f3⟩ := R.fresh h
  have ne : ∀ a ∈ W.rh, a ≠ p := fun a ha z => f3 (z ▸ ha)
  refine ⟨fun b u e => ?_, fun b u e => ?_, R.len, R.nd, R.nf, R.nu, R.fu, fun n c a h1 h2 => ?_, tabs_upd R.tb (fun u e => by rw [h] at e; cases e) (fun c q e => by rw [h] at e; cases e), R.ntF, R.ntU⟩
  · rw [upd_ne (fun z => by rw [z] at e; exact absurd (show W.F p = some u from e) (by rw [f1]; simp))]; exact R.f b u e
  · rw [upd_ne (fun z => by rw [z] at e; exact absurd (show W.U p = some u from e) (by rw [f2]; simp))]; exact R.u b u e
  · rw [upd_ne (ne a (List.mem_of_getElem? h2))]; exact R.cell n c a h1 h2
def mMake (c : Str) (n : Nat) (m : List D → Store → Res D) (ms : Ev (List D)) : Ev D := fun env st => (ms env st).bind fun ds st => if ds.length + 1 = n then (m (.ref st.length :: ds) (st ++ [.ins c []])).bind fun d st2 => match d with
  | .non => .ok (.ref st.length) st2
  | _ => .no
  else .no
theorem make_read {K : PySem.W.Frag} {σ : St} {H : Hp} {Q : VK} (q : tE K T (WS E) (mMake c n m ms) σ H Q) : tMake (He.ga K c) (spM K T n m) [] E (tA K T (WS E) ms) σ H Q := by
  obtain ⟨W, env, st, re, rs, p⟩ := q
  refine ⟨W, env, st, re, rs, PostG.step p fun ds st1 W1 xs H1 _ l1 r1 rs1 p1 => ?_⟩
  intro x dx hx hdx hne
  rw [List.append_nil]
  by_cases hn : ds.length + 1 = n
  · rw [if_pos hn] at p1
    have rs2 : RS K T W1 st1 (upd H1 dx (.own x)) := rs1.junk hdx
    have hx2 : upd H1 dx (.own x) x = none := by rw [upd_ne (Ne.symm hne)]; exact hx
    have rs3 : RS K T (W1.addC x) (st1 ++ [.ins c []]) (upd (upd H1 dx (.own x)) x (.ins (He.ga K c) dx [])) := rs2.newC hx2 ⟨dx, [], rfl, .nil⟩
    have rx : RV K (W1.addC x) (.ref st1.length) (.ref x) := .ref (by show (W1.rh ++ [x])[st1.length]? = some x; rw [← rs1.len, List.getElem?_append_right (Nat.le_refl _)]; simp)
    refine ⟨W1.addC x, .ref st1.length :: ds, st1 ++ [.ins c []], hn, .cons rx (r1.mono (W1.le_addC x)), rs3, ?_⟩
    refine PostG.step (PostG.mono (W1.le_addC x) p1) fun d st4 W4 v H4 _ l4 r4 rs4 p4 => ?_
    cases d with
    | non => cases r4; exact ⟨rfl, p4 W4 (.ref x) H4 (Wd.le.refl _) (rx.mono l4) rs4⟩
    | _ => exact p4.elim
  · rw [if_neg hn] at p1; exact p1.elim
theorem so_make (M : Mk X.K (He.ga X.K c) f) (F : FnOk X.prog X.w X.K X.mg X.base (L2N.CX X.prog X.w) k f fd ps (spM X.K T n m)) (hr : Room (k + 1) X.A) (hg : Gl X x) (hm : X.mg x = some (.ref (He.ga X.K c))) (hb : Binds X.K fd ps []) (tk : L2N.Takes X (WS E))
    (ha : SA T (WS E) X (e :: es) ms) (hdb : (x == ("__debug__" : Str)) = false := by decide) (he : starEach (e :: es) X.env = (false, eval e X.env) :: starEach es X.env := by rfl) (hpl : (backTo pos (starEach es X.env)).any (·.1) = false := by rfl) :
    SE T (WS E) X (.Call (.Name x p) (e :: es) [] pos) (mMake c n m ms) := PE.imp (pe_make (dvs := []) M F hr hg hm hb .nil (L2N.passes_call tk fun _ _ _ _ h => h) ha hdb he hpl) fun σ H Q q => make_read q
/-! ### xs[i] = e, for a list to be changed -/
def sSetI (mo mi mv : Ev D) : Sv := fun env st => (mv env st).bind fun v st => (mo env st).bind fun d st => (mi env st).bind fun i st => match d, i with
  | .ref n, .int j => match st[n]? with
    | some (.lst xs) => match ixN xs.length j with
      | some j => .ok (.nx, env) (st.set n (.lst (xs.set j v)))
      | none => .no
    | _ => .no
  | _, _ => .no
theorem ss_setI {i v : Expr} {mi mv : Ev D} (ho : SE T Wx X o mo) (hi : SE T Wx X i mi) (hv : SE T Wx X v mv)
    (ha : ∀ v, assign (.Subscript o i p2) X.env v = (do
      let ov ← holding [v] (eval o X.env)
      let iv ← holding [v, ov] (eval i X.env)
      standAt p2
      holding [v, ov, iv] (setItem ov iv v)
      release [v, ov, iv] []) := by intro _; rfl)
    (hs : swapsWithSole [.Subscript o i p2] v pos.line X.env = pure false := by rfl) (hw : swappedStores [.Subscript o i p2] v X.env = pure none := by rfl)
    (h1 : (assignEach [.Subscript o i p2] X.env).map (·.2) = [assign (.Subscript o i p2) X.env] := by rfl) : SS T Wx X (.Assign [.Subscript o i p2] v pos) (sSetI mo mi mv) :=
  PS.imp (ps_asg hv (pg_sub ho hi set_list ha) hs hw h1) fun D σ H q => by
    obtain ⟨W, env, st, re, rs, p⟩ := q
    refine ⟨W, env, st, re, rs, PostS.step p fun z st1 W1 y H1 _ l1 r1 rs1 p1 => ?_⟩
    refine ⟨W1, env, st1, re.mono l1, rs1, PostS.step p1 fun d st2 W2 w H2 eq1 l2 r2 rs2 p2 => ?_⟩
    clear eq1
    refine ⟨W2, env, st2, (re.mono l1).mono l2, rs2, PostS.step p2 fun i st3 W3 u H3 eq0 l3 r3 rs3 p3 => ?_⟩
    clear eq0
    split at p3
    · rename_i n j
      split at p3
      · rename_i xs hs
        split at p3
        · rename_i jj hj
          have r2' := r2.mono l3
          cases r3
          cases r2' with
          | ref h =>
            obtain ⟨ws, h1, q1⟩ := rs3.cell _ _ _ hs h
            refine ⟨_, ws, j, jj, rfl, rfl, h1, by rw [← q1.length]; exact hj, ?_⟩
            exact p3 W3 σ _ (Wd.le.refl _) (((re.mono l1).mono l2).mono l3) (rs3.setC h ⟨_, rfl, q1.set jj ((r1.mono l2).mono l3)⟩ hs)
        · exact p3.elim
      · exact p3.elim
    · exact p3.elim
/-! ### a, b = e1, e2 -/
def sPar (is : List Nat) (ms : Ev (List D)) : Sv := fun env st => (ms env st).bind fun ds st => match setAll is ds env with
  | some env => .ok (.nx, env) st
  | none => .no
theorem par_run {K : PySem.W.Frag} {W : Wd} : ∀ {is : List Nat} {ds : List D} {vs : List V} {env env' : Env'} {σ : St}, RE K W env σ → RVs K W ds vs → setAll is ds env = some env' → vs.length = is.length ∧ RE K W env' ((is.zip vs).foldl (fun s q => s.set q.1 (some q.2)) σ)
  | [], [], vs, env, env', σ, re, r, e => by cases r; cases e; exact ⟨rfl, re⟩
  | i :: is, d :: ds, vs, env, env', σ, re, r, e => by
    cases r with
    | cons r q =>
      obtain ⟨h1, h2⟩ := par_run (re.set i r) q e
      exact ⟨by simp [h1], h2⟩
  | [], d :: ds, vs, env, env', σ, re, r, e => by cases e
  | i :: is, [], vs, env, env', σ, re, r, e => by cases e
theorem ss_par {i j : Nat} {a b : Expr} {x y : Str} {px py pt : Pos} {kt k2 : Nat} {pt2 : Pos} (hc : X.calm = true) (hN : X.N.Nodup) (hi : X.N[i]? = some x) (hj : X.N[j]? = some y) (hij : i ≠ j)
    (hx : X.env.scope.names.lookup x = some .local) (hy : X.env.scope.names.lookup y = some .local) (ha : SA T Wx X [a, b] ms)
    (hw : swappedStores [.Tuple [.Name x px, .Name y py] kt pt] (.Tuple [a, b] k2 pt2) X.env = pure (some [x, y]) := by rfl)
    (hs : swapsWithSole [.Tuple [.Name x px, .Name y py] kt pt] (.Tuple [a, b] k2 pt2) pos.line X.env = pure false := by rfl) :
    SS T Wx X (.Assign [.Tuple [.Name x px, .Name y py] kt pt] (.Tuple [a, b] k2 pt2) pos) (sPar [i, j] ms) := PS.imp (ps_par hc hN hi hj hij hx hy ha hw hs) fun D σ H q => by
  obtain ⟨W, env, st, re, rs, p⟩ := q
  refine ⟨W, env, st, re, rs, PostS.step p fun ds st1 W1 vs H1 _ l1 r1 rs1 p1 => ?_⟩
  cases hz : setAll [i, j] ds env with
  | none => simp only [hz] at p1; exact p1.elim
  | some env1 =>
    simp only [hz] at p1
    obtain ⟨h1, h2⟩ := par_run (re.mono l1) r1 hz
    match vs, h1 with
    | [u, v], _ => exact ⟨u, v, rfl, p1 W1 _ H1 (Wd.le.refl _) h2 rs1⟩
/-! ### a part that leaves no cell behind -/
def mRgn (m : Ev D) : Ev D := fun env st => mPure (fun _ st => m env st) [] st
end
end Mr
namespace Mr
open PySem PySem.Spec L2
/-! ### a def and what it does, in one row -/
structure DefOk (P : Program) (w : World) (K : PySem.W.Frag) (mg : Str → Option Value) (base : Heap) (T : Tb) (k : Nat) (x : Str × Option Str) (ps : List Str) (m : List D → Store → Res D) : Prop where
  ex : ∃ fd, Binds K fd ps [] ∧ FnOk P w K mg base (L2N.CX P w) k (He.fAd K x) fd ps (spM K T ps.length m) ∧ (∃ oc od osl, K.lookup (He.fAd K x) = some ⟨oc, od, .func fd, osl⟩) ∧ ∀ (s : Shared) (us : List Value), us.length = ps.length → BindsTo s fd ⟨us, []⟩ (ps.zip us)
  kp : PySem.W.keepIn K (.ref (He.fAd K x)) = true
section
variable {P : Program} {w : World} {K : PySem.W.Frag} {mg : Str → Option Value} {base : Heap} {T : Tb}
theorem DefOk.pure {k : Nat} {x : Str × Option Str} {ps : List Str} {m : List D → Store → Res D} (h : DefOk P w K mg base T k x ps m) : DefOk P w K mg base T k x ps (mPure m) := by
  obtain ⟨⟨fd, b, F, zz⟩, kp⟩ := h
  exact ⟨⟨fd, b, F.imp pure_sp, zz⟩, kp⟩
theorem DefOk.mono {k j : Nat} {x : Str × Option Str} {ps : List Str} {m : List D → Store → Res D} (h : DefOk P w K mg base T k x ps m) (l : k ≤ j) : DefOk P w K mg base T j x ps m := by
  obtain ⟨⟨fd, b, F, zz⟩, kp⟩ := h
  exact ⟨⟨fd, b, F.mono l, zz⟩, kp⟩
theorem def_ok {x qual : Str} {at_ : Str × Option Str} {params : Arguments} {body : List Stmt} {scope : Scope} {kws : List (Str × V)} {N ps : List Str} {k : Nat} {m : Sv}
    (h : ∃ fd, FunD K x qual params body scope [] kws (He.fAd K at_) fd) (S : FnScope N ps scope)
    (hbi : ∀ (kV doc pm : Value) (an : Option Addr) (cdv ct : Value) (us : List Value), us.length = ps.length → bindArgs (PySem.W.fnOf x qual params body scope .none kV doc pm an cdv ct) ⟨us, []⟩ = pure (ps.zip us))
    (hb : ∀ (cdv : Value) (A : Around) (outer : List Env) (s : Shared) (H : Hp) (E : XK), Room k (A.deeper (PyProof.Rows.envOfC qual scope s.heap.objs.size (He.fAd K at_) cdv)) → L2N.Takes (cxOf (L2N.CX P w) P w K mg base N qual scope (He.fAd K at_) cdv A outer s H E) (WS E) →
      PassesOwn (model P w) (A.deeper (PyProof.Rows.envOfC qual scope s.heap.objs.size (He.fAd K at_) cdv)) (PyProof.Rows.envOfC qual scope s.heap.objs.size (He.fAd K at_) cdv) (cxOf (L2N.CX P w) P w K mg base N qual scope (He.fAd K at_) cdv A outer s H E).xe →
      SSs T (WS E) (cxOf (L2N.CX P w) P w K mg base N qual scope (He.fAd K at_) cdv A outer s H E) body m) : DefOk P w K mg base T (k + 1) at_ ps (mDef N.length m) := by
  obtain ⟨fd, F⟩ := h
  refine ⟨⟨fd, F.bindsN hbi, fn_ok F S fun cdv A outer s H E hr => hb cdv A outer s H E hr (L2N.takes_of rfl rfl rfl rfl) (passes_of rfl), ?_, FunD.bindsA F hbi⟩, F.kp⟩
  obtain ⟨oc, od, _, _, _, _, _, _, _, osl, _, h, _⟩ := F.ex
  exact ⟨oc, od, osl, h⟩
end
section
variable {T : Tb} {Wx : WX} {E : XK} {X : Cx} {k : Nat} {ps : List Str} {m : List D → Store → Res D} {x y c mn : Str} {p p2 pos apos : Pos} {e o : Expr} {es : List Expr} {ms : Ev (List D)} {mo : Ev D}
theorem so_callD (G : DefOk X.prog X.w X.K X.mg X.base T k (y, none) ps m) (hr : Room k X.A) (hg : Gl X x) (hm : X.mg x = some (.ref (He.ga X.K y))) (tk : L2N.Takes X Wx)
    (ha : SA T Wx X (e :: es) ms) (hdb : (x == ("__debug__" : Str)) = false := by decide) (he : starEach (e :: es) X.env = (false, eval e X.env) :: starEach es X.env := by rfl) (hpl : (backTo pos (starEach es X.env)).any (·.1) = false := by rfl) :
    SE T Wx X (.Call (.Name x p) (e :: es) [] pos) (mCallD ps.length m ms) := by
  obtain ⟨⟨fd, b, F, zz⟩, kp⟩ := G
  exact so_call F hr hg hm kp b tk ha hdb he hpl
theorem so_callD0 (G : DefOk X.prog X.w X.K X.mg X.base T k (y, none) [] m) (hr : Room k X.A) (hg : Gl X x) (hm : X.mg x = some (.ref (He.ga X.K y)))
    (hdb : (x == ("__debug__" : Str)) = false := by decide) : SE T Wx X (.Call (.Name x p) [] [] pos) (mCall0 m) := by
  obtain ⟨⟨fd, b, F, zz⟩, kp⟩ := G
  exact so_call0 F hr hg hm kp b hdb
theorem so_methD {pl : Sem Bool} (cl : Cls X.K (He.ga X.K c)) (hm : Meth X.K (He.ga X.K c) mn (He.ma X.K (He.ga X.K c) mn)) (G : DefOk X.prog X.w X.K X.mg X.base T k (c, some mn) ps m) (hr : Room k X.A) (tk : L2N.Takes X (WS E)) (ho : SE T (WS E) X o mo) (ha : SA T (WS E) X (e :: es) ms)
    (hst : starEach (e :: es) X.env = (false, eval e X.env) :: starEach es X.env := by rfl) (hpl : (backTo pos (starEach es X.env)).any (·.1) = false := by rfl)
    (ht : eval (.Call (.Attribute o mn apos) (e :: es) [] pos) X.env = (do
      let ov ← eval o X.env
      standAt apos.atName
      let (f, first) ← holding [ov] (getMethod ov mn pl)
      callWith pos f first (backTo pos (starEach (e :: es) X.env)) (backToKw pos (keywordEach [] X.env))) := by rfl) :
    SE T (WS E) X (.Call (.Attribute o mn apos) (e :: es) [] pos) (mMeth c mn ps.length m mo ms) := by
  obtain ⟨⟨fd, b, F, zz⟩, kp⟩ := G
  exact so_meth cl hm F hr b tk ho ha hst hpl ht
theorem so_methD0 {pl : Sem Bool} (cl : Cls X.K (He.ga X.K c)) (hm : Meth X.K (He.ga X.K c) mn (He.ma X.K (He.ga X.K c) mn)) (G : DefOk X.prog X.w X.K X.mg X.base T k (c, some mn) ps m) (hr : Room k X.A) (tk : L2N.Takes X (WS E)) (ho : SE T (WS E) X o mo)
    (ht : eval (.Call (.Attribute o mn apos) [] [] pos) X.env = (do
      let ov ← eval o X.env
      standAt apos.atName
      let (f, first) ← holding [ov] (getMethod ov mn pl)
      callWith pos f first (backTo pos (starEach [] X.env)) (backToKw pos (keywordEach [] X.env))) := by rfl) :
    SE T (WS E) X (.Call (.Attribute o mn apos) [] [] pos) (mMeth c mn ps.length m mo mNil) := by
  obtain ⟨⟨fd, b, F, zz⟩, kp⟩ := G
  exact so_meth0 cl hm F hr b tk ho ht
theorem so_makeD (M : Mk X.K (He.ga X.K c) (He.ma X.K (He.ga X.K c) "__init__")) (G : DefOk X.prog X.w X.K X.mg X.base T k (c, some "__init__") ps m) (hr : Room (k + 1) X.A) (hg : Gl X x) (hm : X.mg x = some (.ref (He.ga X.K c))) (tk : L2N.Takes X (WS E))
    (ha : SA T (WS E) X (e :: es) ms) (hdb : (x == ("__debug__" : Str)) = false := by decide) (he : starEach (e :: es) X.env = (false, eval e X.env) :: starEach es X.env := by rfl) (hpl : (backTo pos (starEach es X.env)).any (·.1) = false := by rfl) :
    SE T (WS E) X (.Call (.Name x p) (e :: es) [] pos) (mMake c ps.length m ms) := by
  obtain ⟨⟨fd, b, F, zz⟩, kp⟩ := G
  exact so_make M F hr hg hm b tk ha hdb he hpl
theorem so_globI {i : Int} (hg : Gl X x) (hm : ∃ t, X.mg x = some (.int i t)) (hd : (x == ("__debug__" : Str)) = false := by decide) : SE T Wx X (.Name x pos) (mC (.int i)) := by
  obtain ⟨t, hm⟩ := hm
  exact so_const (v := .int i) (pe_glob hg hm ⟨t, rfl⟩ hd) fun _ => .int i
theorem so_globS {z : Str} (hg : Gl X x) (hm : ∃ t, X.mg x = some (.str z t)) (hd : (x == ("__debug__" : Str)) = false := by decide) : SE T Wx X (.Name x pos) (mC (.str z)) := by
  obtain ⟨t, hm⟩ := hm
  exact so_const (v := .str z) (pe_glob hg hm ⟨t, rfl⟩ hd) fun _ => .str z
theorem so_bty {n : String} (hg : Gl X x) (hm : X.mg x = none) (hv : bootBuiltins x = some (.type n)) (hn : x ≠ "__name__" := by decide) (hd : (x == ("__debug__" : Str)) = false := by decide) : SE T Wx X (.Name x pos) (mC (.ty n)) :=
  so_const (v := .ty n) (pe_bltn hg hm hv rfl hn hd) fun _ => .ty n
theorem u64 {k : Nat} {A : Around} (hr : Room k A) : A.units + 64 < cLine := hr.units
theorem u65 {k : Nat} {A : Around} (hr : Room k A) : A.units + 65 < cLine := by have := hr.un; omega
theorem relab_look {env : Env} : ∀ {l : List (Str × NameKind)} {y : Str}, (l.lookup y = some .cell ∨ l.lookup y = some .free) →
    ((l.map fun q => if (q.2 == NameKind.free && env.scope.kind == .function && env.kindOf q.1 == some .cell) then (q.1, NameKind.cell) else (q.1, q.2)).lookup y = some .cell ∨ (l.map fun q => if (q.2 == NameKind.free && env.scope.kind == .function && env.kindOf q.1 == some .cell) then (q.1, NameKind.cell) else (q.1, q.2)).lookup y = some .free)
  | [], y, h => by simp at h
  | (a, b) :: r, y, h => by
    rw [List.map_cons]
    cases hy : (y == a) with
    | true =>
      simp only [List.lookup, hy] at h ⊢
      by_cases hc : (b == NameKind.free && env.scope.kind == .function && env.kindOf a == some .cell) = true
      · rw [if_pos hc]; simp [hy]
      · rw [if_neg hc]; simp only [hy]; exact h
    | false =>
      simp only [List.lookup, hy] at h ⊢
      have ih := relab_look (env := env) h
      by_cases hc : (b == NameKind.free && env.scope.kind == .function && env.kindOf a == some .cell) = true
      · rw [if_pos hc]; simp only [hy]; exact ih
      · rw [if_neg hc]; simp only [hy]; exact ih
theorem blk_relab {N : List Str} {sc scope : Scope} {own : List (Str × Nat)} {env : Env} (h : BlkOk N sc scope own) : BlkOk N (relabel sc env) scope own :=
  ⟨h.kind, h.uniq, h.ix, fun y hy e => relab_look (h.free y hy e), h.own⟩
/-- a comprehension within another one's block -/
theorem so_compB {Y : Cx} {s0 : Shared} {H0 : Hp} {scO : Scope} {C0 : Addr} {cl0 : List (Str × Addr)} {fp0 : List Addr} {elt tgx iter : Expr} {ifs : List Expr} {scope : Scope} {own : List (Str × Nat)} {mi : Ev Src} {tg : Tg} {mt : Ev Bool} {me : Ev D}
    (hc : Y.calm = true) (hN : Y.N.Nodup) (hi : SI T W0 (Y.blk s0 H0 scO (compEnvC scO cl0 C0 Y.env) fp0) tgx iter mi) (ok : BlkOk Y.N scO scope own)
    (hg : ∀ (s : Shared) (H : Hp) (C : Addr) (cl : List (Str × Addr)) (fp : List Addr), SG ((Y.blk s0 H0 scO (compEnvC scO cl0 C0 Y.env) fp0).blk s H scope (compEnvC scope cl C (Y.blk s0 H0 scO (compEnvC scO cl0 C0 Y.env) fp0).env) fp) tgx tg)
    (ht : ∀ (s : Shared) (H : Hp) (C : Addr) (cl : List (Str × Addr)) (fp : List Addr), ST T ((Y.blk s0 H0 scO (compEnvC scO cl0 C0 Y.env) fp0).blk s H scope (compEnvC scope cl C (Y.blk s0 H0 scO (compEnvC scO cl0 C0 Y.env) fp0).env) fp) ifs mt)
    (he : ∀ (s : Shared) (H : Hp) (C : Addr) (cl : List (Str × Addr)) (fp : List Addr), SE T W0 ((Y.blk s0 H0 scO (compEnvC scO cl0 C0 Y.env) fp0).blk s H scope (compEnvC scope cl C (Y.blk s0 H0 scO (compEnvC scO cl0 C0 Y.env) fp0).env) fp) elt me)
    (hown : ∀ i ∈ tg.slots, i ∈ own.map (·.2) := by decide) (hs : ∀ x, foldedSetIterable iter (compEnvC scO cl0 C0 Y.env) x = pure x := by intro _; rfl) :
    SE T W0 (Y.blk s0 H0 scO (compEnvC scO cl0 C0 Y.env) fp0) (.ListComp elt [⟨tgx, iter, ifs, 0⟩] scope pos) (mComp mi tg (own.map (·.2)) mt me) :=
  so_comp (X := Y.blk s0 H0 scO (compEnvC scO cl0 C0 Y.env) fp0) hc hN hi (blk_relab ok) hg ht he hown hs
end
/-! the built-ins' names -/
theorem bt_len : bootBuiltins "len" = some (.builtin "len") := by decide +kernel
theorem bt_all : bootBuiltins "all" = some (.builtin "all") := by decide +kernel
theorem bt_any : bootBuiltins "any" = some (.builtin "any") := by decide +kernel
theorem bt_sum : bootBuiltins "sum" = some (.builtin "sum") := by decide +kernel
theorem bt_max : bootBuiltins "max" = some (.builtin "max") := by decide +kernel
theorem bt_min : bootBuiltins "min" = some (.builtin "min") := by decide +kernel
theorem bt_ord : bootBuiltins "ord" = some (.builtin "ord") := by decide +kernel
theorem bt_isinstance : bootBuiltins "isinstance" = some (.builtin "isinstance") := by decide +kernel
theorem bt_sorted : bootBuiltins "sorted" = some (.builtin "sorted") := by decide +kernel
theorem bt_int : bootBuiltins "int" = some (.type "int") := by decide +kernel
theorem bt_str : bootBuiltins "str" = some (.type "str") := by decide +kernel
theorem bt_bool : bootBuiltins "bool" = some (.type "bool") := by decide +kernel
theorem bt_list : bootBuiltins "list" = some (.type "list") := by decide +kernel
theorem bt_tuple : bootBuiltins "tuple" = some (.type "tuple") := by decide +kernel
theorem bt_dict : bootBuiltins "dict" = some (.type "dict") := by decide +kernel
theorem bt_set : bootBuiltins "set" = some (.type "set") := by decide +kernel
/-! ### the law -/
theorem law_sp {K : PySem.W.Frag} {m : List D → Store → Res D} {H : Hp} {a : Addr} {ns : List Int} (hS : SqL K H a (ns.map V.int)) {st' : Store} (hm : m [.fix (ns.map .int)] [] = .ok (.bl true) st') : spM K [] 1 m [.ref a] H (fun v _ => v = .bl true) fun _ _ _ => False := by
  have key : ∀ F : Hp, Same F H → (∀ b o, F b = some o → FOk o) → SqL K F a (ns.map V.int) → spM K [] 1 m [.ref a] H (fun v _ => v = .bl true) fun _ _ _ => False := fun F hF hn hs => by
    refine ⟨⟨F, [], fun _ => none⟩, [.fix (ns.map .int)], [], rfl, .cons (.fix hs (RDs.ints ns)) .nil, ⟨hF, (fun _ _ e => by cases e), rfl, (by simp), (fun n c a h => by simp at h), (fun _ h => by simp at h), (fun _ _ e => by cases e), (fun n c a h => by simp at h), (fun p h => by simp at h), hn, (fun _ _ e => by cases e)⟩, ?_⟩
    rw [hm]
    intro W' v H' _ r _
    cases r
    rfl
  rcases hS with (h | ⟨o, h⟩) | h
  · refine key (fun b => if b = a then H a else none) (fun b u e => ?_) (fun b u e => ?_) (.inl (.inl (by simp [h])))
    · dsimp only at e
      split at e
      · rename_i hb; rw [hb]; exact e
      · cases e
    · split at e
      · rw [h] at e; cases e; exact fok_lst _
      · cases e
  · refine key (fun b => if b = a then H a else none) (fun b u e => ?_) (fun b u e => ?_) (.inl (.inr ⟨o, by simp [h]⟩))
    · dsimp only at e
      split at e
      · rename_i hb; rw [hb]; exact e
      · cases e
    · split at e
      · rw [h] at e; cases e; exact fok_frzL _ _
      · cases e
  · exact key (fun _ => none) (fun _ _ e => by cases e) (fun _ _ e => by cases e) (.inr h)
theorem finish_at {l : PySem.W.OpenLaw} {w : World} {K : PySem.W.Frag} {mg : Str → Option Value} {fa : Addr} {h : Heap} {k : Nat} {x : Str} {m : List D → Store → Res D} (KX : K.In h) (hmg : mg "law" = some (.ref fa)) (hg : mg "law" = some (.ref (He.ga K "law")))
    (F : ∀ base : Heap, DefOk l.prog w K mg base [] k ("law", none) [x] m) (hm : ∀ ns : List Int, ns.length ≤ 63 → ∃ st', m [.fix (ns.map .int)] [] = .ok (.bl true) st') :
    ∃ K : PySem.W.Frag, K.In h ∧ LamX.LawAtS l w K (L2N.CX l.prog w) k 63 x mg fa h := by
  rw [hg] at hmg
  cases hmg
  obtain ⟨⟨fd, b, G, ⟨oc, od, osl, hlk⟩, hb⟩, _⟩ := F h
  refine ⟨K, KX, fd, [], spM K [] 1 m, (fun p hp => by simp at hp), (fun p hp => by simp at hp), (fun p hp => by simp at hp), fun s u => hb s [u] rfl, fun H a ns hl _ _ hS => ?_, fun base _ _ _ => ?_⟩
  · obtain ⟨st', e⟩ := hm ns hl
    exact law_sp hS e
  · obtain ⟨⟨fd', _, G', ⟨oc', od', osl', hlk'⟩, _⟩, _⟩ := F base
    rw [hlk] at hlk'
    cases hlk'
    exact G'
end Mr
namespace Mr
open PySem PySem.Spec L2
/-! ### reckoning with mirrors -/
theorem Res.ex_bind {α β : Type} (c : Str) (st : Store) (f : α → Store → Res β) : (Res.ex c st).bind f = .ex c st := rfl
theorem Res.no_bind {α β : Type} (f : α → Store → Res β) : (Res.no).bind f = .no := rfl
theorem Res.of_none {α : Type} (st : Store) : Res.of (none : Option α) st = .no := rfl
theorem Res.ok_nox {α : Type} (a : α) (st : Store) : (Res.ok a st).nox = .ok a st := rfl
theorem mDef_rt {N : Nat} {body : Sv} {ds : List D} {st st' : Store} {d : D} {env' : Env'} (h : body (startE N ds) st = .ok (.rt d, env') st') : mDef N body ds st = .ok d st' := by unfold mDef; rw [h]; rfl
theorem mDef_nx {N : Nat} {body : Sv} {ds : List D} {st st' : Store} {env' : Env'} (h : body (startE N ds) st = .ok (.nx, env') st') : mDef N body ds st = .ok .non st' := by unfold mDef; rw [h]; rfl
theorem mDef_ex {N : Nat} {body : Sv} {ds : List D} {st st' : Store} {c : Str} (h : body (startE N ds) st = .ex c st') : mDef N body ds st = .ex c st' := by unfold mDef; rw [h]; rfl
theorem seq_nx {m n : Sv} {env env' : Env'} {st st' : Store} {r : Res (Fl × Env')} (h : m env st = .ok (.nx, env') st') (g : n env' st' = r) : sSeq m n env st = r := by unfold sSeq; rw [h]; exact g
theorem seq_rt {m n : Sv} {env env' : Env'} {st st' : Store} {d : D} (h : m env st = .ok (.rt d, env') st') : sSeq m n env st = .ok (.rt d, env') st' := by unfold sSeq; rw [h]; rfl
theorem seq_ex {m n : Sv} {env : Env'} {st st' : Store} {c : Str} (h : m env st = .ex c st') : sSeq m n env st = .ex c st' := by unfold sSeq; rw [h]; rfl
theorem drop_nx {m : Ev D} {env : Env'} {st st' : Store} {d : D} (h : m env st = .ok d st') : sDrop m env st = .ok (.nx, env) st' := by unfold sDrop; rw [h]; rfl
theorem drop_ex {m : Ev D} {env : Env'} {st st' : Store} {c : Str} (h : m env st = .ex c st') : sDrop m env st = .ex c st' := by unfold sDrop; rw [h]; rfl
theorem call_1 {n : Nat} {m : List D → Store → Res D} {ma : Ev D} {env : Env'} {st : Store} {d : D} (hn : n = 1) (h : ma env st = .ok d st) : mCallD n m (mCons ma mNil) env st = m [d] st := by
  subst hn
  simp [mCallD, mCons, mNil, h, Res.bind]
theorem mOr_bl {ma mb : Ev D} {env : Env'} {st : Store} {a b : Bool} (h1 : ma env st = .ok (.bl a) st) (h2 : a = false → mb env st = .ok (.bl b) st) : mOr ma mb env st = .ok (.bl (a || b)) st := by
  unfold mOr
  rw [h1]
  cases a with
  | true => rfl
  | false => exact h2 rfl
theorem mAnd_bl {ma mb : Ev D} {env : Env'} {st : Store} {a b : Bool} (h1 : ma env st = .ok (.bl a) st) (h2 : a = true → mb env st = .ok (.bl b) st) : mAnd ma mb env st = .ok (.bl (a && b)) st := by
  unfold mAnd
  rw [h1]
  cases a with
  | true => exact h2 rfl
  | false => rfl
theorem mOrT_bl {ma mb : Ev Bool} {env : Env'} {st : Store} {a b : Bool} (h1 : ma env st = .ok a st) (h2 : a = false → mb env st = .ok b st) : mOrT ma mb env st = .ok (a || b) st := by
  unfold mOrT
  rw [h1]
  cases a with
  | true => rfl
  | false => exact h2 rfl
theorem mAndT_bl {ma mb : Ev Bool} {env : Env'} {st : Store} {a b : Bool} (h1 : ma env st = .ok a st) (h2 : a = true → mb env st = .ok b st) : mAndT ma mb env st = .ok (a && b) st := by
  unfold mAndT
  rw [h1]
  cases a with
  | true => exact h2 rfl
  | false => rfl
theorem sIf_eq {t : Ev Bool} {m n : Sv} {env : Env'} {st : Store} {k : Bool} (h : t env st = .ok k st) : sIf t m n env st = if k = true then m env st else n env st := by unfold sIf; rw [h]; rfl
theorem sRet_eq {m : Ev D} {env : Env'} {st st' : Store} {d : D} (h : m env st = .ok d st') : sRet m env st = .ok (.rt d, env) st' := by unfold sRet; rw [h]; rfl
theorem seq_if {t : Ev Bool} {m n r : Sv} {env : Env'} {st : Store} (k : Bool) (h : t env st = .ok k st) : sSeq (sIf t m n) r env st = if k = true then sSeq m r env st else sSeq n r env st := by
  unfold sSeq sIf
  rw [h]
  cases k <;> rfl
theorem seq_nil {r : Sv} {env : Env'} {st : Store} : sSeq sNil r env st = r env st := rfl
theorem seq_ret {m : Ev D} {r : Sv} {env : Env'} {st st' : Store} {d : D} (h : m env st = .ok d st') : sSeq (sRet m) r env st = .ok (.rt d, env) st' := seq_rt (sRet_eq h)
/-- what a body comes to -/
def fin (r : Res (Fl × Env')) : Res D := r.bind fun a st => match a with
  | (.rt d, _) => .ok d st
  | (.nx, _) => .ok .non st
  | _ => .no
theorem fin_nx {m n : Sv} {env env' : Env'} {st st' : Store} {r : Res D} (h : m env st = .ok (.nx, env') st') (g : fin (n env' st') = r) : fin (sSeq m n env st) = r := by rw [seq_nx h rfl]; exact g
theorem fin_if {t : Ev Bool} {m n r : Sv} {env : Env'} {st : Store} (k : Bool) {z : Res D} (h : t env st = .ok k st) (g : fin (if k = true then sSeq m r env st else sSeq n r env st) = z) : fin (sSeq (sIf t m n) r env st) = z := by rw [seq_if k h]; exact g
theorem fin_nil {r : Sv} {env : Env'} {st : Store} : fin (sSeq sNil r env st) = fin (r env st) := rfl
theorem fin_ret {m : Ev D} {env : Env'} {st st' : Store} {d : D} (h : m env st = .ok d st') : fin (sRet m env st) = .ok d st' := by rw [sRet_eq h]; rfl
theorem fin_rets {m : Ev D} {r : Sv} {env : Env'} {st st' : Store} {d : D} (h : m env st = .ok d st') : fin (sSeq (sRet m) r env st) = .ok d st' := by rw [seq_ret h]; rfl
theorem fin_last {m : Sv} {env env' : Env'} {st st' : Store} (h : m env st = .ok (.nx, env') st') : fin (m env st) = .ok .non st' := by rw [h]; rfl
theorem fin_ex {m n : Sv} {env : Env'} {st st' : Store} {c : Str} (h : m env st = .ex c st') : fin (sSeq m n env st) = .ex c st' := by rw [seq_ex h]; rfl
theorem size_eq : sizeLine = 16777216 := rfl
theorem beq_two : (((0 + 1 + 1 : Nat) : Int) == 2) = true := rfl
theorem mPure_ok {m : List D → Store → Res D} {ds : List D} {st : Store} {d : D} (h : m ds st = .ok d st) (hf : frz st.length st 3 d = some d) : mPure m ds st = .ok d st := by
  simp [mPure, h, hf]
theorem mPure_okC {m : List D → Store → Res D} {ds : List D} {st cs : Store} {d d' : D} (h : m ds st = .ok d (st ++ cs)) (hf : frz st.length (st ++ cs) 3 d = some d') : mPure m ds st = .ok d' st := by
  simp [mPure, h, hf]
theorem mPure_ex {m : List D → Store → Res D} {ds : List D} {st : Store} {c : Str} (h : m ds st = .ex c st) : mPure m ds st = .ex c st := by
  simp [mPure, h]
theorem mPure_exC {m : List D → Store → Res D} {ds : List D} {st cs : Store} {c : Str} (h : m ds st = .ex c (st ++ cs)) : mPure m ds st = .ex c st := by
  simp [mPure, h]
mutual
def noRef : D → Bool
  | .lst xs => noRefs xs
  | .fix xs => noRefs xs
  | .tup xs => noRefs xs
  | .dct _ xs => noRefs xs
  | .ref _ => false
  | .non => true
  | .bl _ => true
  | .int _ => true
  | .str _ => true
  | .ty _ => true
def noRefs : List D → Bool
  | [] => true
  | d :: ds => noRef d && noRefs ds
end
mutual
theorem frzF_id {f : Nat → Option D} : ∀ (d : D), noRef d = true → frzF f d = some d
  | .lst xs, h => by simp only [frzF, frzsF_id xs (by simpa only [noRef] using h), Option.map_some]
  | .fix xs, h => by simp only [frzF, frzsF_id xs (by simpa only [noRef] using h), Option.map_some]
  | .tup xs, h => by simp only [frzF, frzsF_id xs (by simpa only [noRef] using h), Option.map_some]
  | .dct ks xs, h => by simp only [frzF, frzsF_id xs (by simpa only [noRef] using h), Option.map_some]
  | .ref k, h => by simp [noRef] at h
  | .non, _ => by simp only [frzF]
  | .bl _, _ => by simp only [frzF]
  | .int _, _ => by simp only [frzF]
  | .str _, _ => by simp only [frzF]
  | .ty _, _ => by simp only [frzF]
theorem frzsF_id {f : Nat → Option D} : ∀ (ds : List D), noRefs ds = true → frzsF f ds = some ds
  | [], _ => by simp only [frzsF]
  | d :: ds, h => by
    simp only [noRefs, Bool.and_eq_true] at h
    simp only [frzsF, frzF_id d h.1, frzsF_id ds h.2, Option.bind_some, Option.map_some]
end
theorem frz_id {n : Nat} {st : Store} {m : Nat} {d : D} (h : noRef d = true) : frz n st m d = some d := by
  cases m <;> simp only [frz] <;> exact frzF_id d h
theorem pure_of {m : List D → Store → Res D} {ds : List D} {st : Store} {d : D} (h : m ds st = .ok d st) (hf : noRef d = true) : mPure m ds st = .ok d st := mPure_ok h (frz_id hf)
theorem def_rt {N : Nat} {body : Sv} {ds : List D} {st : Store} {d : D} (h : ∃ env', body (startE N ds) st = .ok (.rt d, env') st) (hf : noRef d = true) : mPure (mDef N body) ds st = .ok d st := by
  obtain ⟨e, h⟩ := h
  exact pure_of (mDef_rt h) hf
theorem def_nx {N : Nat} {body : Sv} {ds : List D} {st : Store} (h : ∃ env', body (startE N ds) st = .ok (.nx, env') st) : mPure (mDef N body) ds st = .ok .non st := by
  obtain ⟨e, h⟩ := h
  exact pure_of (mDef_nx h) rfl
theorem def_fin {N : Nat} {body : Sv} {ds : List D} {st : Store} {d : D} (h : fin (body (startE N ds) st) = .ok d st) (hf : noRef d = true) : mPure (mDef N body) ds st = .ok d st := pure_of (show mDef N body ds st = .ok d st from h) hf
theorem def_finC {N : Nat} {body : Sv} {ds : List D} {st cs : Store} {d : D} (h : fin (body (startE N ds) st) = .ok d (st ++ cs)) (hf : noRef d = true) : mPure (mDef N body) ds st = .ok d st := mPure_okC (show mDef N body ds st = .ok d (st ++ cs) from h) (frz_id hf)
theorem def_finX {N : Nat} {body : Sv} {ds : List D} {st : Store} {c : Str} (h : fin (body (startE N ds) st) = .ex c st) : mPure (mDef N body) ds st = .ex c st := mPure_ex (show mDef N body ds st = .ex c st from h)
theorem def_ex {N : Nat} {body : Sv} {ds : List D} {st : Store} {c : Str} (h : body (startE N ds) st = .ex c st) : mPure (mDef N body) ds st = .ex c st := mPure_ex (mDef_ex h)
theorem noRefs_map {α : Type} (f : α → D) (h : ∀ a, noRef (f a) = true) : ∀ l : List α, noRefs (l.map f) = true
  | [] => by simp [noRefs]
  | a :: r => by simp [noRefs, h, noRefs_map f h r]
theorem noRefs_mem : ∀ {l : List D}, (∀ d ∈ l, noRef d = true) → noRefs l = true
  | [], _ => by simp [noRefs]
  | a :: r, h => by simp [noRefs, h a (by simp), noRefs_mem (l := r) fun d hd => h d (List.mem_cons_of_mem _ hd)]
/-! comprehensions -/
theorem compL_map {α : Type} {chk : Store → Bool} {tg : Tg} {me : Ev D} {env : Env'} {st : Store} (g : α → D) (f : α → D) (hk : chk st = true) : ∀ (l : List α), (∀ a ∈ l, ∃ env1, setT tg (g a) env = some env1 ∧ me env1 st = .ok (f a) st) →
    compL chk tg mYes me env (l.map g) st = .ok (l.map f) st
  | [], _ => by simp [compL, hk]
  | a :: r, h => by
    obtain ⟨env1, h1, h2⟩ := h a (by simp)
    have ih := compL_map g f hk r fun d hd => h d (List.mem_cons_of_mem _ hd)
    simp [compL, hk, h1, mYes, Res.nox, Res.bind, h2, ih]
theorem compL_filter {α : Type} {chk : Store → Bool} {tg : Tg} {mt : Ev Bool} {me : Ev D} {env : Env'} {st : Store} (g : α → D) (p : α → Bool) (f : α → D) (hk : chk st = true) : ∀ (l : List α), (∀ a ∈ l, ∃ env1, setT tg (g a) env = some env1 ∧ mt env1 st = .ok (p a) st ∧ (p a = true → me env1 st = .ok (f a) st)) →
    compL chk tg mt me env (l.map g) st = .ok ((l.filter p).map f) st
  | [], _ => by simp [compL, hk]
  | a :: r, h => by
    obtain ⟨env1, h1, h2, h3⟩ := h a (by simp)
    have ih := compL_filter g p f hk r fun d hd => h d (List.mem_cons_of_mem _ hd)
    cases hp : p a with
    | true => simp [compL, hk, h1, h2, hp, Res.nox, Res.bind, h3 hp, ih]
    | false => simp [compL, hk, h1, h2, hp, Res.nox, Res.bind, ih]
theorem mComp_eq {mi : Ev Src} {tg : Tg} {own : List Nat} {mt : Ev Bool} {me : Ev D} {env : Env'} {st : Store} {s : Src} {ds : List D} (h1 : mi env st = .ok s st) (h2 : compL s.chk tg mt me (wipeE env own) s.items st = .ok ds st) (h3 : ds.length ≤ 16777216) : mComp mi tg own mt me env st = .ok (.lst ds) st := by
  have h3' : ds.length ≤ sizeLine := h3
  simp [mComp, h1, Res.bind, h2, Res.nox, h3']
theorem blD_map {α : Type} (p : α → Bool) : ∀ l : List α, blD (l.map fun a => D.bl (p a)) = some (l.map p)
  | [] => rfl
  | a :: r => by simp [blD, blD_map p r]
theorem itD_map {α : Type} (p : α → Int) : ∀ l : List α, itD (l.map fun a => D.int (p a)) = some (l.map p)
  | [] => rfl
  | a :: r => by simp [itD, itD_map p r]
theorem stD_map {α : Type} (p : α → Str) : ∀ l : List α, stD (l.map fun a => D.str (p a)) = some (l.map p)
  | [] => rfl
  | a :: r => by simp [stD, stD_map p r]
/-! loops -/
theorem forL_gen {α : Type} {chk : Store → Bool} {tg : Tg} {body : Sv} (g : α → D) (I : List α → Env' → Store → Prop)
    (step : ∀ a r env st, I (a :: r) env st → chk st = true ∧ ∃ env1 env2 st2, setT tg (g a) env = some env1 ∧ body env1 st = .ok (.nx, env2) st2 ∧ I r env2 st2) (last : ∀ env st, I [] env st → chk st = true) :
    ∀ (l : List α) (env : Env') (st : Store), I l env st → ∃ env' st', forL chk tg body (l.map g) env st = .ok (.nx, env') st' ∧ I [] env' st'
  | [], env, st, h => ⟨env, st, by simp [forL, last env st h], h⟩
  | a :: r, env, st, h => by
    obtain ⟨hk, env1, env2, st2, h1, h2, h3⟩ := step a r env st h
    obtain ⟨env', st', h4, h5⟩ := forL_gen g I step last r env2 st2 h3
    exact ⟨env', st', by simp [forL, hk, h1, h2, Res.bind, h4], h5⟩
theorem sFor_eq {mi : Ev Src} {tg : Tg} {body : Sv} {env : Env'} {st st' : Store} {s : Src} (h : mi env st = .ok s st') : sFor mi tg body env st = forL s.chk tg body s.items env st' := by unfold sFor; rw [h]; rfl
/-! ### data compared -/
mutual
def toPy : D → PyData
  | .non => .none
  | .bl b => .bool b
  | .int i => .int i
  | .str x => .str x
  | .lst xs => .list (toPys xs)
  | .fix xs => .list (toPys xs)
  | .tup xs => .tuple (toPys xs)
  | .ty _ => .none
  | .dct _ _ => .none
  | .ref _ => .none
def toPys : List D → List PyData
  | [] => []
  | d :: ds => toPy d :: toPys ds
end
def strB (x : Str) : Bool := x.cps.all (· < 0x110000)
mutual
def okD : Nat → D → Bool
  | _, .non => true
  | _, .bl _ => true
  | _, .int _ => true
  | _, .str x => strB x
  | n, .lst xs => match n with
    | 0 => false
    | n + 1 => okDs n xs
  | n, .fix xs => match n with
    | 0 => false
    | n + 1 => okDs n xs
  | n, .tup xs => match n with
    | 0 => false
    | n + 1 => okDs n xs
  | _, .ty _ => false
  | _, .dct _ _ => false
  | _, .ref _ => false
def okDs : Nat → List D → Bool
  | _, [] => true
  | n, d :: ds => okD n d && okDs n ds
end
mutual
theorem pyF_toPy {f : Nat → Option PyData} : ∀ (n : Nat) (d : D), okD n d = true → pyF f d = some (toPy d) ∧ (toPy d).canLay0 = true ∧ (toPy d).depth ≤ n
  | n, .non, h => by simp [pyF, toPy, PyData.canLay0, PyData.depth]
  | n, .bl b, h => by simp [pyF, toPy, PyData.canLay0, PyData.depth]
  | n, .int i, h => by simp [pyF, toPy, PyData.canLay0, PyData.depth]
  | n, .str x, h => by
    simp only [okD] at h
    refine ⟨by simp [pyF, toPy], ?_, by simp [toPy, PyData.depth]⟩
    simp only [toPy, PyData.canLay0]
    exact h
  | 0, .lst xs, h => by simp [okD] at h
  | n + 1, .lst xs, h => by
    obtain ⟨h1, h2, h3⟩ := pysF_toPy (f := f) n xs (by simpa only [okD] using h)
    refine ⟨by simp [pyF, toPy, h1], by simp only [toPy, PyData.canLay0]; exact h2, ?_⟩
    simp only [toPy, PyData.depth]; omega
  | 0, .fix xs, h => by simp [okD] at h
  | n + 1, .fix xs, h => by
    obtain ⟨h1, h2, h3⟩ := pysF_toPy (f := f) n xs (by simpa only [okD] using h)
    refine ⟨by simp [pyF, toPy, h1], by simp only [toPy, PyData.canLay0]; exact h2, ?_⟩
    simp only [toPy, PyData.depth]; omega
  | 0, .tup xs, h => by simp [okD] at h
  | n + 1, .tup xs, h => by
    obtain ⟨h1, h2, h3⟩ := pysF_toPy (f := f) n xs (by simpa only [okD] using h)
    refine ⟨by simp [pyF, toPy, h1], by simp only [toPy, PyData.canLay0]; exact h2, ?_⟩
    simp only [toPy, PyData.depth]; omega
  | n, .ty _, h => by simp [okD] at h
  | n, .dct _ _, h => by simp [okD] at h
  | n, .ref _, h => by simp [okD] at h
theorem pysF_toPy {f : Nat → Option PyData} : ∀ (n : Nat) (ds : List D), okDs n ds = true → pysF f ds = some (toPys ds) ∧ PyData.canLayAll0 (toPys ds) = true ∧ PyData.depthAll (toPys ds) ≤ n
  | n, [], h => by simp [pysF, toPys, PyData.canLayAll0, PyData.depthAll]
  | n, d :: ds, h => by
    simp only [okDs, Bool.and_eq_true] at h
    obtain ⟨h1, h2, h3⟩ := pyF_toPy (f := f) n d h.1
    obtain ⟨g1, g2, g3⟩ := pysF_toPy (f := f) n ds h.2
    refine ⟨by simp [pysF, toPys, h1, g1], by simp [toPys, PyData.canLayAll0, h2, g2], ?_⟩
    simp only [toPys, PyData.depthAll]; omega
end
theorem okDs_map {α : Type} (n : Nat) (f : α → D) : ∀ (l : List α), (∀ a ∈ l, okD n (f a) = true) → okDs n (l.map f) = true
  | [], _ => by simp [okDs]
  | a :: r, h => by simp [okDs, h a (by simp), okDs_map n f r fun b hb => h b (List.mem_cons_of_mem _ hb)]
theorem py_toPy {st : Store} {m n : Nat} {d : D} (h : okD n d = true) : py m st d = some (toPy d) := by
  cases m <;> simp only [py] <;> exact (pyF_toPy n d h).1
theorem shp_toPy {n : Nat} {d : D} (hn : n ≤ 64) (h : okD n d = true) : shp (toPy d) = true := by
  obtain ⟨_, h2, h3⟩ := pyF_toPy (f := fun _ => none) n d h
  unfold shp SeqAt.shaped
  rw [h2, decide_eq_true (by omega)]; rfl
mutual
/-- what data is worth to == -/
def nz : D → D
  | .bl b => .int (if b then 1 else 0)
  | .lst xs => .lst (nzs xs)
  | .fix xs => .lst (nzs xs)
  | .tup xs => .tup (nzs xs)
  | d => d
def nzs : List D → List D
  | [] => []
  | d :: ds => nz d :: nzs ds
end
mutual
theorem eqv_nz : ∀ (n m : Nat) (d e : D), okD n d = true → okD m e = true → (PyData.eqv (toPy d) (toPy e) = true ↔ nz d = nz e)
  | n, m, .non, e, hd, he => by cases e <;> simp_all [toPy, nz, PyData.eqv, okD]
  | n, m, .bl b, e, hd, he => by cases e <;> simp_all [toPy, nz, PyData.eqv, okD] <;> cases b <;> first | rfl | (rename_i c; cases c <;> simp) | simp
  | n, m, .int i, e, hd, he => by cases e <;> simp_all [toPy, nz, PyData.eqv, okD]
  | n, m, .str x, e, hd, he => by cases e <;> simp_all [toPy, nz, PyData.eqv, okD]
  | 0, m, .lst xs, e, hd, he => by simp [okD] at hd
  | n + 1, m, .lst xs, e, hd, he => by
    cases e <;> simp only [toPy, nz, PyData.eqv, reduceCtorEq, Bool.false_eq_true] <;> first | simp [okD] at he | skip
    all_goals
      rename_i ys
      cases m with
      | zero => simp [okD] at he
      | succ m =>
        have := eqv_nzs n m xs ys (by simpa only [okD] using hd) (by simpa only [okD] using he)
        simpa using this
  | 0, m, .fix xs, e, hd, he => by simp [okD] at hd
  | n + 1, m, .fix xs, e, hd, he => by
    cases e <;> simp only [toPy, nz, PyData.eqv, reduceCtorEq, Bool.false_eq_true] <;> first | simp [okD] at he | skip
    all_goals
      rename_i ys
      cases m with
      | zero => simp [okD] at he
      | succ m =>
        have := eqv_nzs n m xs ys (by simpa only [okD] using hd) (by simpa only [okD] using he)
        simpa using this
  | 0, m, .tup xs, e, hd, he => by simp [okD] at hd
  | n + 1, m, .tup xs, e, hd, he => by
    cases e <;> simp only [toPy, nz, PyData.eqv, reduceCtorEq, Bool.false_eq_true] <;> first | simp [okD] at he | skip
    all_goals
      rename_i ys
      cases m with
      | zero => simp [okD] at he
      | succ m =>
        have := eqv_nzs n m xs ys (by simpa only [okD] using hd) (by simpa only [okD] using he)
        simpa using this
  | n, m, .ty _, e, hd, he => by simp [okD] at hd
  | n, m, .dct _ _, e, hd, he => by simp [okD] at hd
  | n, m, .ref _, e, hd, he => by simp [okD] at hd
theorem eqv_nzs : ∀ (n m : Nat) (ds es : List D), okDs n ds = true → okDs m es = true → (PyData.eqvAll (toPys ds) (toPys es) = true ↔ nzs ds = nzs es)
  | n, m, [], [], _, _ => by simp [toPys, PyData.eqvAll, nzs]
  | n, m, [], e :: es, _, _ => by simp [toPys, PyData.eqvAll, nzs]
  | n, m, d :: ds, [], _, _ => by simp [toPys, PyData.eqvAll, nzs]
  | n, m, d :: ds, e :: es, hd, he => by
    simp only [okDs, Bool.and_eq_true] at hd he
    have h1 := eqv_nz n m d e hd.1 he.1
    have h2 := eqv_nzs n m ds es hd.2 he.2
    simp only [toPys, PyData.eqvAll, nzs, Bool.and_eq_true, h1, h2, List.cons.injEq]
end
theorem eqD_ok {st : Store} {n m : Nat} {d e : D} (hn : n ≤ 64) (hm : m ≤ 64) (hd : okD n d = true) (he : okD m e = true) : eqD st d e = some (decide (nz d = nz e)) := by
  unfold eqD
  split
  · simp [nz]
    rename_i i j
    by_cases h : i = j <;> simp [h]
  · simp [nz]
    rename_i i j
    by_cases h : i = j <;> simp [h]
  · rw [py_toPy hd, py_toPy he]
    simp only [shp_toPy hn hd, shp_toPy hm he, Bool.and_self, if_true, Option.some.injEq]
    have := eqv_nz n m d e hd he
    by_cases h : nz d = nz e
    · rw [decide_eq_true h]; exact this.mpr h
    · rw [decide_eq_false h]
      exact Bool.eq_false_iff.mpr fun z => h (this.mp z)
theorem eq_nilD {st : Store} {n : Nat} {xs : List D} (hn : n ≤ 60) (h : okDs n xs = true) : gEq st (.lst xs) (.lst []) = some (.bl xs.isEmpty) := by
  unfold gEq
  rw [eqD_ok (n := n + 1) (m := 1) (by omega) (by omega) (by simp only [okD]; exact h) rfl]
  simp only [Option.map_some, Option.some.injEq, D.bl.injEq, nz]
  cases xs with
  | nil => rfl
  | cons a r => simp [nzs]
theorem eq_nilF {st : Store} {n : Nat} {xs : List D} (hn : n ≤ 60) (h : okDs n xs = true) : gEq st (.fix xs) (.lst []) = some (.bl xs.isEmpty) := by
  unfold gEq
  rw [eqD_ok (n := n + 1) (m := 1) (by omega) (by omega) (by simp only [okD]; exact h) rfl]
  simp only [Option.map_some, Option.some.injEq, D.bl.injEq, nz]
  cases xs with
  | nil => rfl
  | cons a r => simp [nzs]
/-! ### places, parts -/
theorem atI_get {α : Type} (xs : List α) (n : Nat) : atI xs (n : Int) = xs[n]? := by
  unfold atI ixN
  rw [if_pos (by omega)]
  by_cases h : (n : Int) < (xs.length : Int)
  · rw [if_pos h]; simp
  · rw [if_neg h]
    exact (List.getElem?_eq_none (by omega)).symm
theorem atI_0 {α : Type} (xs : List α) : atI xs 0 = xs[0]? := atI_get xs 0
theorem atI_1 {α : Type} (xs : List α) : atI xs 1 = xs[1]? := atI_get xs 1
theorem atI_2 {α : Type} (xs : List α) : atI xs 2 = xs[2]? := atI_get xs 2
theorem atI_3 {α : Type} (xs : List α) : atI xs 3 = xs[3]? := atI_get xs 3
theorem atI_n1 {α : Type} (xs : List α) : atI xs (-1) = xs.getLast? := by
  unfold atI ixN
  rw [if_neg (by omega)]
  cases xs with
  | nil => simp
  | cons a r =>
    rw [if_pos (by simp only [List.length_cons]; omega)]
    simp only [List.length_cons, Option.bind_some, List.getLast?_eq_getElem?]
    congr 1
    omega
theorem atI_emod {α : Type} (xs : List α) (i : Int) (n : Nat) (hn : 0 < n) : atI xs (i % (n : Int)) = xs[(i % (n : Int)).toNat]? := by
  have h := Int.emod_nonneg i (b := (n : Int)) (by omega)
  have e : i % (n : Int) = ((i % (n : Int)).toNat : Int) := by omega
  rw [e, atI_get]
  congr 1
theorem sIx_n (n d k : Nat) : HT.sIx n d (some (k : Int)) = min k n := HT.sIx_nat n d k
theorem cut_drop (xs : List D) (k : Nat) : cutD xs (some (k : Int)) none = xs.drop k := by
  unfold cutD
  rw [sIx_n, HT.sIx_none]
  by_cases h : k ≤ xs.length
  · rw [Nat.min_eq_left h, List.take_of_length_le]
    rw [List.length_drop]
    omega
  · rw [Nat.min_eq_right (by omega), List.drop_of_length_le (Nat.le_refl _), List.drop_of_length_le (by omega)]
    simp
theorem cut_take (xs : List D) (k : Nat) : cutD xs none (some (k : Int)) = xs.take k := by
  unfold cutD
  rw [sIx_n, HT.sIx_none, List.drop_zero, Nat.sub_zero]
  by_cases h : k ≤ xs.length
  · rw [Nat.min_eq_left h]
  · rw [Nat.min_eq_right (by omega), List.take_length, List.take_of_length_le (by omega)]
theorem cut_d1 (xs : List D) : cutD xs (some 1) none = xs.drop 1 := cut_drop xs 1
theorem cut_t1 (xs : List D) : cutD xs none (some 1) = xs.take 1 := cut_take xs 1
theorem cut_t2 (xs : List D) : cutD xs none (some 2) = xs.take 2 := cut_take xs 2
theorem flatDs_strs : ∀ l : List Str, flatDs (l.map D.str) = some (l.map V.str)
  | [] => rfl
  | a :: r => by simp [flatDs, flatD, flatDs_strs r]
end Mr
namespace Mr
open PySem PySem.Spec L2
/-! ### a built-in function with one keyword -/
def Kw1R (X : Cx) (id : String) (nm : Str) (r : R2) : Prop := ∀ pins s σ H x y v u Q, Inv X pins σ H s → RelV x v → RelV y u → r x y H Q → wpAny (model X.prog X.w) X.A (call (.builtin id) [v] [(nm, u)]) (EP X pins σ Q) X.xe s
section
variable {T : Tb} {Wx : WX} {X : Cx} {a b : Expr} {ma mb : Ev D} {ta tb : TE} {p pos kp : Pos} {id : String} {x nm : Str}
theorem pe_kw1 {r : R2} (hk : Kw1R X id nm r) (hg : Gl X x) (hm : X.mg x = none) (hv : bootBuiltins x = some (.builtin id)) (ha : PE X a ta) (hb : PE X b tb) (hn : x ≠ "__name__" := by decide) (hdb : (x == ("__debug__" : Str)) = false := by decide)
    (he : starEach [a] X.env = [(false, eval a X.env)] := by rfl) : PE X (.Call (.Name x p) [a] [⟨some nm, b, kp⟩] pos) (tOp r ta tb) := by
  refine ⟨fun pins s σ H Q I h => ?_⟩
  refine wpAny_Call_Name_kw (ld_blt I hg hm hv ?_ hn hdb)
  have he2 : backTo pos (starEach [a] X.env) = (false, eval a X.env) :: [] := by rw [he]; rfl
  refine PyProof.Rows.callWith_kw ?_ he2 (by rw [he2]; rfl)
  rw [he2]
  refine Calls.spliced_cons (thn (ha.run pins s σ H _ I h) fun v s1 ⟨x1, H1, I1, r1, q1⟩ => ?_)
  refine Calls.spliced_nil ?_
  refine PyProof.Rows.kws_cons (thn (hb.run pins s1 σ H1 _ I1 q1) fun u s2 ⟨y1, H2, I2, r2, q2⟩ => ?_)
  refine PyProof.Rows.kws_nil ?_
  exact hk pins s2 σ H2 x1 y1 v u Q I2 r1 r2 q2
theorem so_kw1 {g : Store → D → D → Option D} (hk : Kw1R X id nm (rO X.K T g)) (hg : Gl X x) (hm : X.mg x = none) (hv : bootBuiltins x = some (.builtin id)) (ha : SE T Wx X a ma) (hb : SE T Wx X b mb) (hn : x ≠ "__name__" := by decide) (hdb : (x == ("__debug__" : Str)) = false := by decide)
    (he : starEach [a] X.env = [(false, eval a X.env)] := by rfl) : SE T Wx X (.Call (.Name x p) [a] [⟨some nm, b, kp⟩] pos) (mBin g ma mb) :=
  PE.imp (pe_kw1 hk hg hm hv ha hb hn hdb he) (bin_read (K := X.K))
/-- max(ns, default=d), whole numbers -/
def gMaxD (st : Store) (d e : D) : Option D := (asL st d).bind fun xs => (itD xs).bind fun ns => if ns = [] then some e else some (.int (maxI ns))
theorem maxOf_int : ∀ (l : List Int) (x : Int), PySem.W.maxOf x l = maxI (x :: l)
  | [], x => rfl
  | y :: l, x => by
    have ih := maxOf_int l (if (decide (x < y)) = true then y else x)
    refine (show PySem.W.maxOf x (y :: l) = PySem.W.maxOf (if (decide (x < y)) = true then y else x) l from rfl).trans (ih.trans ?_)
    have e : maxI (x :: y :: l) = max x (maxI (y :: l)) := rfl
    rw [e]
    have e2 : (if (decide (x < y)) = true then y else x) = max x y := by
      by_cases h : x < y
      · rw [if_pos (decide_eq_true h)]; omega
      · rw [if_neg (by simpa using h)]; omega
    rw [e2]
    cases l with
    | nil => rfl
    | cons z r =>
      show max (max x y) (maxI (z :: r)) = max x (max y (maxI (z :: r)))
      omega
theorem reads_ints {h : Heap} : ∀ {ns : List Int} {us : List Value}, Vals (ns.map V.int) us → ∃ as, ReadsAll h us (ns.map (PySem.W.Datum.toD)) as
  | [], us, r => by cases r; exact ⟨_, .nil⟩
  | n :: ns, us, r => by
    cases r with
    | cons r q =>
      obtain ⟨t, rfl⟩ := r
      obtain ⟨as, h⟩ := reads_ints q
      exact ⟨_, .cons (.int n t) h⟩
theorem k_max (hc : X.calm = true) (hu : X.A.units + 65 < cLine) : Kw1R X "max" "default" (rO X.K T gMaxD) := by
  intro pins s σ H x y v u Q I rx ry q
  obtain ⟨W, st, d, e, z, r1, r2, rs, hz, k⟩ := q
  unfold gMaxD at hz
  simp only [Option.bind_eq_some_iff] at hz
  obtain ⟨ys, e1, ns, e2, hz⟩ := hz
  obtain ⟨a, ws, rfl, h1, q1⟩ := asL_ok rs r1 e1
  rw [itD_ok e2 q1] at h1
  obtain ⟨its, rv, hl, _⟩ := I.list h1
  cases rx
  refine PySem.W.max_list_datum_default (α := Int) (xs := ns) (I.ok.hd hc) hl.isList ?_ ?_ ?_ ?_
  · exact reads_ints rv
  · show X.A.units + 1 + 0 < cLine
    omega
  · intro e0 h' tk hk
    rw [if_pos e0] at hz
    cases hz
    exact ⟨y, H, I.kept hk, ry, k W y H (Wd.le.refl _) r2 rs⟩
  · intro m ms i v h' tk e0 hv hh hk
    rw [if_neg (by rw [e0]; simp)] at hz
    cases hz
    obtain ⟨as, hr⟩ := hh
    rw [maxOf_int] at hr
    rw [← e0] at hr
    have : ∃ t, v = .int (maxI ns) t := by
      cases hr with
      | int i t => exact ⟨t, rfl⟩
    obtain ⟨t, rfl⟩ := this
    exact ⟨.int (maxI ns), H, I.kept hk, ⟨t, rfl⟩, k W _ H (Wd.le.refl _) (.int _) rs⟩
end
end Mr
namespace Mr
open PySem PySem.Spec L2
/-! ### lists walked while an exception is handled -/
section
variable {prog : Program} {w : World} {A : Around} {E : Value → Shared → Prop} {s : Shared}
theorem hot_listEnd {it l x1 : Addr} {i : Nat} {items : Array Value} {Q : Option Value → Shared → Prop} (hot : HotX.HotAt A x1 s.heap) (hne : x1 ≠ it) (hit : s.heap.IsListIter it l i) (hl : s.heap.IsList l items) (hx : items[i]? = none)
    (hQ : ∀ h', Heap.ExtBut it s.heap h' → Q none { s with heap := h' }) : wpAny (model prog w) A (pyNext (.ref it)) Q E s := by
  obtain ⟨hh, o1, vs1, h1, d1, c1⟩ := hot
  obtain ⟨o, ho, hc, hd⟩ := id hit
  obtain ⟨ol, hol, hcl, nl, hdl⟩ := hl
  unfold pyNext
  refine wpAny_bind (wpAny_attempt (wpAny_callSpecial?_slot (name := Str.ofString "__next__") hit.typeIs slot_listiter_next (wpAny_call_entry slot_listiter_next hit.typeIs entry_listiter_next ?k (args_listiter_next _))))
  refine wpAny_bind (m := field (.ref it) 0) (wpAny_field ho hd (x := .ref l) rfl ?_)
  have nn : ¬ (Value.ref l == Value.none) = true := Bool.false_ne_true
  rw [if_neg nn]
  refine wpAny_bind (m := field (.ref it) 1) (wpAny_field ho hd (x := .int i 0) rfl ?_)
  refine wpAny_bind (m := seqItems? (.ref l)) (wpAny_seqItems hol hdl ?_)
  simp only [Int.toNat_natCast, hx]
  refine wpAny_bind (wpAny_rule (wpAny_bind (wpAny_setField ho hd (by simp) ?_)))
  refine wpAny_bind (m := newExc (.type "StopIteration") []) ?_
  simp only [newExc, newTuple]
  refine wpAny_bind (wpAny_newObj_type ?a1 (by size_fits))
  refine wpAny_bind (m := firstArgMember _ _) (wpAny_of_eq (a := Value.none) rfl ?a2)
  refine wpAny_newObj_type ?a3 (by size_fits)
  have hu : ∀ b u, b ≠ it → s.heap.get? b = some u → ((s.heap.update it (Obj.mapFields (·.setIfInBounds 0 .none))).get? b) = some u := fun b u hb e => by
    rw [Heap.get?_update_other _ _ (Ne.symm hb)]; exact e
  have e1 := hu x1 o1 hne h1
  refine HotX.raiseNew_hot (x1 := x1) ⟨hh, o1, vs1, Heap.get?_push_of_some _ (Heap.get?_push_of_some _ e1), d1, c1⟩ (Nat.ne_of_lt (Heap.lt_size (Heap.get?_push_of_some _ e1)))
    (Heap.get?_push_size _ rfl) rfl (by simp; omega) ?a4
  refine wpAny_bind (wpAny_isInstance (T := "StopIteration") (b := true) ⟨_, Heap.get?_update_self _ (Heap.get?_push_size _ rfl) rfl, rfl⟩ isSubtype_stop ?a5)
  refine wpAny_pure (hQ _ fun b u hb e => ?a6)
  rw [Heap.get?_update_other _ _ (Nat.ne_of_gt (Heap.lt_size (Heap.get?_push_of_some _ (hu b u hb e))))]
  exact Heap.get?_push_of_some _ (Heap.get?_push_of_some _ (hu b u hb e))
theorem hot_walk {x1 I ax : Addr} (h1 : ax ≠ I) (h2 : x1 ≠ I) (items : Array Value) :
    Walks prog w A I [I, ax, x1] [I] items.size (fun i v => items[i]? = some v) (fun i h => h.IsListIter I ax i ∧ h.IsList ax items ∧ HotX.HotAt A x1 h) where
  sub := fun b hb => by
    rw [List.mem_singleton] at hb
    rw [hb]; simp
  frame := fun i h h' st hk => by
    obtain ⟨a, b, hh, o, vs, e, d, c⟩ := st
    exact ⟨a.at fun o e => hk I (by simp) o e, b.at fun o e => hk ax (by simp) o e, hh, o, vs, hk x1 (by simp) o e, d, c⟩
  item := fun i s Q E hi st hQ => by
    obtain ⟨a, b, hh, o, vs, e, d, c⟩ := st
    refine wpAny_pyNext_list_item a b (x := items[i]) (by simp [hi]) fun h' it' sb => hQ _ h' s.toks (by simp [hi]) ⟨it', b.extBut sb.extBut h1, hh, o, vs, sb.extBut x1 o h2 e, d, c⟩ fun b o hb e => sb.extBut b o ?_ e
    intro z
    exact hb (by simp [z])
  done := fun s Q E st hQ => by
    obtain ⟨a, b, hot⟩ := st
    refine hot_listEnd hot h2 a b (by simp) fun h' eb => hQ h' s.toks fun b o hb e => eb b o ?_ e
    intro z
    exact hb (by simp [z])
  self := fun i s Q E st hQ => wpAny_pyIter_listiter st.1 hQ
theorem hot_sum {l x1 : Addr} {its : List Value} {ns : List Int} {Q : Value → Shared → Prop} (hot : HotX.HotAt A x1 s.heap) (hl : s.heap.IsList l its.toArray) (hi : PyProof.Rows.IntsAre its ns)
    (h : ∀ h' tk t', (∀ b o, s.heap.get? b = some o → h'.get? b = some o) → Q (.int ns.sum t') { s with heap := h', toks := tk }) : wpAny (model prog w) A (call (.builtin "sum") [.ref l]) Q E s := by
  obtain ⟨xs, e⟩ := hi.allInts.items
  have hn : ns = (xs.toList.map (·.1)) := by
    have z := hi.numsOf
    rw [show its = its.toArray.toList from rfl, e, nums_intItems] at z
    exact z.symm
  rw [e] at hl
  obtain ⟨hh, o1, vs1, g1, g2, g3⟩ := hot
  have hlt : x1 < s.heap.objs.size := Heap.lt_size g1
  refine call_sum_walkG (iter_intList hl fun s2 es st hfp hlI => ?_)
  subst es
  refine ⟨_, _, _, _, _, _, numAt xs, rfl, hot_walk (A := A.in1) (x1 := x1) hlI (Nat.ne_of_lt hlt) (intItems xs), ⟨st.1, st.2, hh, o1, vs1, Heap.get?_push_of_some _ g1, g2, g3⟩, fun b hb => ?_, (fun _ _ => intItems_at), fun h' tk t' hk => ?_⟩
  · simp only [List.mem_cons, List.not_mem_nil, or_false] at hb
    rcases hb with rfl | rfl | rfl
    · exact hfp _ (by simp)
    · exact hfp _ (by simp)
    · exact Nat.lt_trans hlt (by show _ < (s.heap.push _).objs.size; rw [Heap.size_push]; omega)
  · have := h h' tk t' (old_kept hk)
    rw [hn] at this
    rw [preSum_eq, List.take_of_length_le (by simp [intItems])]
    exact this
end
theorem paired_ints : ∀ {bs : List Bool} {vs ys : List Value}, vs.length = bs.length → (∀ (j : Nat) (v : Value), vs[j]? = some v → ∃ b : Bool, bs[j]? = some b ∧ v = .bool b) → Paired (fun (v u : Value) => ∃ (b : Bool) (t : Tok), v = .bool b ∧ u = .int (if b = true then 1 else 0) t) vs ys → Vals (bs.map fun b => V.int (if b = true then 1 else 0)) ys
  | [], vs, ys, hl, hv, hp => by
    cases hp with
    | nil => exact .nil
    | cons _ _ => simp at hl
  | b :: bs, vs, ys, hl, hv, hp => by
    cases hp with
    | nil => simp at hl
    | cons h r =>
      obtain ⟨c, t, rfl, rfl⟩ := h
      obtain ⟨d, e1, e2⟩ := hv 0 _ rfl
      cases e1
      cases e2
      exact .cons ⟨t, rfl⟩ (paired_ints (by simpa using hl) (fun j v e => hv (j + 1) v e) r)
section
variable {X : Cx}
/-- [int(y) for y in x] of truth values, while an exception is handled -/
theorem pe_hotInts {i : Nat} {x y : Str} {scope : Scope} {px py p1 p2 p3 pos : Pos} (hc : L2H.HotC X) (hN : X.N[i]? = some x) (hv : Vis X.env.scope x) (hm : X.mg "int" = none) (hfree : ∀ z ∈ scope.names, z.2 ≠ .free) (hcell : ∀ z ∈ scope.names, z.2 ≠ .cell)
    (hk : scope.kind = .function) (hnm : ∀ z ∈ scope.names, z.2 = .local → scope.names.lookup z.1 = some .local) (hy : scope.names.lookup y = some .local) (hint : scope.names.lookup ("int" : Str) = some .globalImplicit) (hdx : (x == ("__debug__" : Str)) = false) (hcx : (x == ("__classdict__" : Str)) = false)
    (hdy : (y == ("__debug__" : Str)) = false) :
    PE X (.ListComp (.Call (.Name "int" p1) [.Name y p2] [] p3) [⟨.Name y py, .Name x px, [], 0⟩] scope pos)
      (fun σ H Q => ∃ (a : Addr) (bs : List Bool), σ[i]? = some (some (.ref a)) ∧ SqL X.K H a (bs.map V.bl) ∧ bs.length ≤ 1000 ∧ ∀ p, H p = none → Q (.ref p) (upd H p (.lst (bs.map fun b => V.int (if b = true then 1 else 0))))) := by
  refine ⟨fun pins s σ H Q I h => ?_⟩
  obtain ⟨a, bs, hs, hl, hb, q⟩ := h
  refine wpAny_ListComp hfree hk hnm (thn ((pe_var (pos := px) hN hv hdx hcx).run pins s σ H (fun v H1 => v = .ref a ∧ H1 = H) I ⟨.ref a, hs, rfl, rfl⟩) fun u s1 g => ?_)
  obtain ⟨v, H1, I1, r1, rfl, rfl⟩ := g
  obtain rfl : u = Value.ref a := r1
  obtain ⟨its, rv, pl, hz⟩ := I1.list hl
  obtain ⟨x1, hh, o1, vs1, g1, g2, g3⟩ := hc.at I1
  obtain ⟨oa, ga⟩ : ∃ o, s1.heap.get? a = some o := by
    obtain ⟨o, e, _⟩ := pl.isList
    exact ⟨o, e⟩
  have hxl : x1 < s1.heap.objs.size := Heap.lt_size g1
  have hal : a < s1.heap.objs.size := Heap.lt_size ga
  refine wpAny_pyIter_list pl.isList ?_
  generalize hs2 : ({ s1 with heap := s1.heap.push { cls := .type "list_iterator", data := .fields #[.ref a, .int 0 0] } } : Shared) = s2
  have k2 : ∀ b o, s1.heap.get? b = some o → s2.heap.get? b = some o := fun b o e => by rw [← hs2]; exact Heap.get?_push_of_some _ e
  have z2 : s2.heap.objs.size = s1.heap.objs.size + 1 := by rw [← hs2]; exact Heap.size_push ..
  have it2 : s2.heap.IsListIter s1.heap.objs.size a 0 := by rw [← hs2]; exact ⟨_, Heap.get?_push_size _ rfl, rfl, rfl⟩
  refine wpAny_newObj_type (wpAny_newFunctionEnv hcell (by intro z hz; simp at hz) (fun h3 n3 b3 => ?_) hk)
  dsimp only at n3 b3 ⊢
  generalize hG : s2.heap.push { cls := .type "list", dict := none, data := .seq ([] : List Value).toArray } = G at n3 b3 ⊢
  have zG : G.objs.size = s1.heap.objs.size + 2 := by rw [← hG, Heap.size_push, z2]
  have k3 : ∀ b o, b ≠ G.objs.size → G.get? b = some o → h3.get? b = some o := fun b o hb e => b3.extBut b o hb (Heap.get?_push_of_some _ e)
  have kG : ∀ b o, s2.heap.get? b = some o → G.get? b = some o := fun b o e => by rw [← hG]; exact Heap.get?_push_of_some _ e
  have kk : ∀ b o, s2.heap.get? b = some o → h3.get? b = some o := fun b o e => k3 b o (Nat.ne_of_lt (Nat.lt_trans (Heap.lt_size e) (by rw [zG, z2]; exact Nat.lt_succ_self _))) (kG b o e)
  have hacc : h3.PlainList s2.heap.objs.size #[] := ⟨_, k3 _ _ (by rw [zG, z2]; exact Nat.ne_of_lt (Nat.lt_succ_self _)) (by rw [← hG]; exact Heap.get?_push_size _ rfl)⟩
  have W := hot_walk (prog := X.prog) (w := X.w) (A := X.A) (x1 := x1) (I := s1.heap.objs.size) (ax := a) (Nat.ne_of_lt hal) (Nat.ne_of_lt hxl) its.toArray
  have st3 : h3.IsListIter s1.heap.objs.size a 0 ∧ h3.IsList a its.toArray ∧ HotX.HotAt X.A x1 h3 :=
    ⟨it2.at fun o e => kk _ o e, pl.isList.at fun o e => kk _ o (k2 _ o e), hh, o1, vs1, kk _ _ (k2 _ _ g1), g2, g3⟩
  have hlen : its.length = bs.length := by rw [← rv.length, List.length_map]
  have fpD : s2.heap.objs.size ∉ [s1.heap.objs.size, a, x1] := fun hm => by
    simp only [List.mem_cons, List.not_mem_nil, or_false] at hm
    rcases hm with e | e | e
    · rw [z2] at e; exact absurd e (Nat.succ_ne_self _)
    · rw [← e, z2] at hal; exact absurd hal (Nat.not_lt.mpr (Nat.le_succ _))
    · rw [← e, z2] at hxl; exact absurd hxl (Nat.not_lt.mpr (Nat.le_succ _))
  have fpC : G.objs.size ∉ [s1.heap.objs.size, a, x1] := fun hm => by
    simp only [List.mem_cons, List.not_mem_nil, or_false] at hm
    rcases hm with e | e | e
    · rw [zG] at e; exact absurd e (by omega)
    · rw [← e, zG] at hal; exact absurd hal (Nat.not_lt.mpr (Nat.le_add_right _ 2))
    · rw [← e, zG] at hxl; exact absurd hxl (Nat.not_lt.mpr (Nat.le_add_right _ 2))
  have loop : ∀ s4 : Shared, s4 = { s2 with heap := h3, toks := s2.toks + ([] : List (Str × Value)).length } →
      codeAny (model X.prog X.w) X.A (.compLoop (.ListComp (.Call (.Name "int" p1) [.Name y p2] [] p3) [⟨.Name y py, .Name x px, [], 0⟩] scope pos) 0 (.ref s1.heap.objs.size) (.ref s2.heap.objs.size) (compEnv scope G.objs.size X.env))
        (fun r s' => ∃ m, s'.heap.Ns G.objs.size m ∧ ∀ h', Heap.SameBut G.objs.size s'.heap h' → match r with
          | .ok _ => EP X pins σ Q (.ref s2.heap.objs.size) { s' with heap := h' }
          | .error x => wpAny (model X.prog X.w) X.A (passOn "comprehension.variables-let-go" x (compEnv scope G.objs.size X.env)) (EP X pins σ Q) X.xe { s' with heap := h' }) s4 := by
    rintro s4 rfl
    refine codeAny_compLoop_walk (hsz := by simp [hlen, size_eq]; omega) (cenv := compEnv scope G.objs.size X.env) W (fun _ => true) (fun (v u : Value) => ∃ (b : Bool) (t : Tok), v = .bool b ∧ u = .int (if b = true then 1 else 0) t) hy (by simp [compEnv, hk]) (by rw [zG, z2]; exact Nat.ne_of_lt (Nat.lt_succ_self _)) fpD fpC st3 hacc n3
      (fun j v s5 m5 hj n5 e5 k5 t5 => wpAny_tests_nil ⟨rfl, s5.heap, s5.toks, rfl, fun b o e => e⟩) (fun j v s5 m5 hj _ n5 e5 k5 t5 => ?elt) fun h' tk m' ys vs hn ha hp hl2 hP hF hk2 => ?fin
    case elt =>
      have hj' : its[j]? = some v := by simpa using hj
      obtain ⟨hjl, _⟩ := List.getElem?_eq_some_iff.mp hj'
      obtain ⟨u', hu', ru⟩ := rv.get (i := j) (x := V.bl (bs[j]'(by omega))) (by rw [List.getElem?_map, List.getElem?_eq_getElem (by omega)]; rfl)
      rw [hj'] at hu'
      cases hu'
      obtain rfl : v = Value.bool (bs[j]'(by omega)) := ru
      have k6 : ∀ b o, s1.heap.get? b = some o → s5.heap.get? b = some o := fun b o e => by
        have hlt := Heap.lt_size e
        refine k5 b o (fun z => ?_) (fun z => ?_) (fun z => ?_) (kk b o (k2 b o e))
        · have z' : b = G.objs.size := z
          rw [z', zG] at hlt; exact absurd hlt (Nat.not_lt.mpr (Nat.le_add_right _ 2))
        · rw [List.mem_singleton] at z
          rw [z] at hlt; exact absurd hlt (Nat.lt_irrefl _)
        · rw [z, z2] at hlt; exact absurd hlt (Nat.not_lt.mpr (Nat.le_succ _))
      obtain ⟨mb, w1, w2⟩ := I1.mod.blt
      have nint : (("int" : Str) ≠ ("__name__" : Str)) := by decide
      refine wpAny_Call_Name_kw (Calls.Name_function_global (env := compEnv scope G.objs.size X.env) hk hint (Calls.loadGlobal_builtin (env := compEnv scope G.objs.size X.env) (show s5.heap.Ns X.env.globals X.mg by rw [I1.ok.glob]; exact (I1.mod.glob.keeps I1.bk).keeps k6) hm
        (show s5.heap.Ns X.env.builtins mb by rw [I1.ok.blt]; exact (w1.keeps I1.bk).keeps k6) ((w2 _ nint).trans bt_int) ?_) (by decide))
      refine PyProof.Rows.callWith_type1 ?_ rfl rfl
      refine Calls.spliced_cons (wpAny_Name (wpAny_loadName_local (env := compEnv scope G.objs.size X.env) hk hy n5 e5 (Calls.spliced_nil ?_)) hdy)
      exact call_int_bool ⟨⟨_, _, rfl, rfl⟩, s5.heap, s5.toks + 1, rfl, fun b o e => e⟩
    case fin =>
      refine ⟨m', hn, fun h'' sb => ?_⟩
      have kf : ∀ b o, s1.heap.get? b = some o → h''.get? b = some o := fun b o e => by
        have hlt := Heap.lt_size e
        have nC : b ≠ G.objs.size := fun z => by rw [z, zG] at hlt; exact absurd hlt (Nat.not_lt.mpr (Nat.le_add_right _ 2))
        refine sb.extBut b o nC (hk2 b o nC (fun z => ?_) (fun z => ?_) (kk b o (k2 b o e)))
        · rw [List.mem_singleton] at z
          rw [z] at hlt; exact absurd hlt (Nat.lt_irrefl _)
        · rw [z, z2] at hlt; exact absurd hlt (Nat.not_lt.mpr (Nat.le_succ _))
      have hDC : s2.heap.objs.size ≠ G.objs.size := by rw [zG, z2]; exact Nat.ne_of_lt (Nat.lt_succ_self _)
      obtain ⟨nn, gD⟩ := hp.extBut sb.extBut hDC
      have hvs : vs.filter (fun _ => true) = vs := List.filter_eq_self.mpr fun _ _ => rfl
      rw [hvs] at hF
      have vals := paired_ints (bs := bs) (by rw [hl2]; simpa using hlen) (fun j v e => by
        have hj' : its[j]? = some v := by simpa using hP j v e
        obtain ⟨hjl, _⟩ := List.getElem?_eq_some_iff.mp hj'
        obtain ⟨u', hu', ru⟩ := rv.get (i := j) (x := V.bl (bs[j]'(by omega))) (by rw [List.getElem?_map, List.getElem?_eq_getElem (by omega)]; rfl)
        rw [hj'] at hu'
        cases hu'
        exact ⟨bs[j]'(by omega), List.getElem?_eq_getElem (by omega), ru⟩) hF
      have hge : s1.heap.objs.size ≤ s2.heap.objs.size := by rw [z2]; exact Nat.le_succ _
      have J := I1.laid (a := s2.heap.objs.size) (o := .lst (bs.map fun b => V.int (if b = true then 1 else 0))) (h' := h'') (t' := tk) kf hge ⟨by rw [List.length_map, size_eq]; omega, ys.toList, nn, vals, gD⟩
      have es : ({ s2 with heap := h'', toks := tk } : Shared) = { s1 with heap := h'', toks := tk } := by rw [← hs2]
      refine ⟨.ref s2.heap.objs.size, _, ?_, rfl, q _ (I1.hok.fresh hge)⟩
      show Inv X pins σ _ { s2 with heap := h'', toks := tk }
      rw [es]
      exact J
  exact codeAny_compStart_list (loop _ rfl) (W.self 0 _ _ _ st3 (loop _ rfl))
end
end Mr
namespace Mr
open PySem PySem.Spec L2
/-! ### a def called while an exception is handled that is known -/
section
variable {X : Cx}
/-- isinstance(e, c), e's object pinned, an exception of the class D -/
theorem is_pin {a D : Addr} {oe : Obj} (hp : (a, oe) ∈ X.pn) (C : ExcC X.K D) (hz : Zc (.ref D) none oe) (hf : ∃ vs, oe.data = .fields vs) : CallR X (.builtin "isinstance") (rIsE X.K D a) := by
  intro pins s σ H xs us Q I r h
  obtain ⟨c, cv, b, rfl, hcv, e, q⟩ := h
  obtain ⟨u, us', rfl⟩ : ∃ u us', us = u :: us' := by cases r; exact ⟨_, _, rfl⟩
  cases r with
  | cons r1 r2 =>
    cases r2 with
    | cons r2 r3 =>
      cases r3
      obtain rfl : u = Value.ref a := r1
      obtain rfl := hcv _ r2
      have hget := (I.pin (a, oe) (List.mem_append_left _ hp)).1
      obtain ⟨vs, hv⟩ := hf
      have J : PySem.W.InstAt s.heap a oe D none := by
        cases oe with
        | mk oc od dt sl =>
          obtain ⟨z1, z2⟩ := hz
          simp only at z1 z2 hv
          subst z1 z2 hv
          exact ⟨hget, rfl, rfl, trivial⟩
      exact PySem.W.kia_one (PySem.W.handS_kitx_exc (D := D) C.hg C.hk C.hs C.hd C.ha C.hn C.ht C.hm) I.kIn J e (fun z => nomatch z) fun tk => ⟨.bl b, H, I.kept (t' := tk) fun _ _ z => z, rfl, q⟩
/-- as an expression -/
theorem pe_isE {a D : Addr} {oe : Obj} {x : Str} {c : Expr} {v : V} {cv : Value} {b : Bool} {p p2 pos : Pos} (hp : (a, oe) ∈ X.pn) (C : ExcC X.K D) (hz : Zc (.ref D) none oe) (hf : ∃ vs, oe.data = .fields vs) (hg : Gl X "isinstance") (hm : X.mg "isinstance" = none)
    (hN : X.N[0]? = some x) (hv : Vis X.env.scope x) (hx : (x == ("__debug__" : Str)) = false) (hx2 : (x == ("__classdict__" : Str)) = false) (hc : PE X c (tC v)) (hcv : ∀ u, RelV v u → u = cv) (hk : PySem.W.kitOne X.K (.ref D) cv = some b)
    (h1 : starEach [.Name x p2, c] X.env = (false, eval (.Name x p2) X.env) :: starEach [c] X.env) (h2 : starEach [c] X.env = (false, eval c X.env) :: starEach [] X.env) :
    PE X (.Call (.Name "isinstance" p) [.Name x p2, c] [] pos) (fun σ H Q => σ[0]? = some (some (.ref a)) ∧ Q (.bl b) H) := by
  refine PE.imp (pe_callB (is_pin hp C hz hf) hg hm bt_isinstance (pa_cons (pe_var hN hv hx hx2) (pa_cons hc pa_nil h2) h1) (by decide) (by decide) h1 (by rw [h2]; rfl)) fun σ H Q q => ?_
  exact ⟨.ref a, q.1, v, cv, b, rfl, hcv, hk, q.2⟩
/-- sum of a list of whole numbers -/
theorem sum_pin (hc : L2H.HotC X) : CallR X (.builtin "sum") (rSum X.K) := by
  intro pins s σ H vs us Q I r h
  obtain ⟨a, ns, rfl, hs, q⟩ := h
  obtain ⟨its, rv, hl, _⟩ := I.list hs
  obtain ⟨x1, hot⟩ := hc.at I
  rw [Vals.ref1 r]
  exact hot_sum hot hl.isList rv.ints fun h' tk t' hk => ⟨.int ns.sum, H, I.kept hk, ⟨t', rfl⟩, q⟩
theorem pe_hotCall {pn0 : Addr × Obj} {x name qual : Str} {f : Addr} {params : Arguments} {body : List Stmt} {scope : Scope} {dV kV doc pm cdv ct oc : Value} {an od : Option Addr} {osl : Array (Option Value)} {N ps : List Str} {k : Nat} {e : Expr} {es : List Expr} {t : TA} {q pos : Pos}
    {sp : List V → Hp → VK → Prop} (hp : pn0 ∈ X.pn) (hot : L2H.Hot1 X.A pn0) (lk : X.K.lookup f = some ⟨oc, od, .func (PySem.W.fnOf name qual params body scope dV kV doc pm an cdv ct), osl⟩) (hcd : PySem.W.codeIn X.K cdv qual = true) (S : FnScope N ps scope)
    (hb : Binds X.K (PySem.W.fnOf name qual params body scope dV kV doc pm an cdv ct) ps []) (hr : L2H.RoomH (k + 1) X.A) (hg : Gl X x) (hm : X.mg x = some (.ref f)) (hk : PySem.W.keepIn X.K (.ref f) = true) (ha : PA X (e :: es) t)
    (len : ∀ vs H Q, sp vs H Q → vs.length = ps.length)
    (hbody : ∀ (s : Shared) (H : Hp) (vs : List V) (Q : VK), L2H.RoomH k (X.A.deeper (PyProof.Rows.envOfC qual scope s.heap.objs.size f cdv)) → sp vs H Q → ∃ t, PSs (L2H.cxH C8.CX0 X.prog X.w X.K X.mg X.base N qual scope f cdv X.A X.stack s H C8.E0 pn0) body t ∧ t { nx := fun _ H' => Q .non H', rt := Q } (L2.start N vs) H)
    (hdb : (x == ("__debug__" : Str)) = false) (he : starEach (e :: es) X.env = (false, eval e X.env) :: starEach es X.env) (hpl : (backTo pos (starEach es X.env)).any (·.1) = false) :
    PE X (.Call (.Name x q) (e :: es) [] pos) (fun σ H Q => t σ H fun vs H1 => sp vs H1 Q) := by
  refine ⟨fun pins s σ H Q I h => wpAny_Call_Name_kw (ld_glob I hg hm ?_ hdb)⟩
  refine PySem.W.callWith_K (h₀ := X.base) I.ok.mod.kin hk (thn (ha.run pos pins s σ H _ I h) fun us s1 g => ?_) he hpl
  obtain ⟨vs, H1, I1, r, hsp⟩ := g
  refine ⟨I1.kIn, ?_⟩
  have e0 := I1.env0
  have hl := len _ _ _ hsp
  have P1 := I1.pin pn0 (List.mem_append_left _ hp)
  have hpin : L2H.PinOk X.stack H1 s1 pn0 := ⟨P1.1, P1.2.1, fun hm => (List.mem_cons.mp (I1.stkSub pn0.1 hm)).elim P1.2.2.1 P1.2.2.2.1, P1.2.2.2.2⟩
  have b := hb s1 us I1.kIn (by rw [List.append_nil, ← r.length]; exact hl)
  rw [List.append_nil] at b
  have key : codeAny (model X.prog X.w) X.A (.call (.ref f) ⟨us, []⟩) (CR C8.CX0 X.stack X.prog X.w H1 s1 Q C8.E0) s1 := by
    refine codeAny_call_function hr.depth (I1.kIn _ _ lk) rfl S.co S.gen rfl (PySem.W.codeRec_of I1.kIn hcd) (b _ _ _ _ ?_)
    refine wpAny_newFunctionEnv_cells S.kind (fun yv hy => ?nk) fun env he s3 x3 => ?go
    case nk =>
      obtain ⟨n, v⟩ := yv
      rcases S.par n (List.of_mem_zip hy).1 with z | z
      · exact .inl z
      · exact .inr ⟨z, PySem.W.cellsFrom_some _ _ _ (.inl z)⟩
    case go =>
      subst he
      refine ⟨I1.nolimit.keeps x3.toInCall.keep, codeAny_func ?_⟩
      obtain ⟨tt, h1, h2⟩ := hbody s1 H1 vs Q (hr.deeper _) hsp
      have J := L2H.inv_startH (CX := C8.CX0) (E := C8.E0) S hpin e0 hl r x3
      refine wpAny_mono (h1.run [] s3 (L2.start N vs) H1 _ J h2) (fun fl s4 hs => ?_) fun _ _ hs => hs
      cases fl with
      | ret u =>
        obtain ⟨v, σ', H', J', rv, hq⟩ := hs
        exact ⟨v, H', J'.os, J'.bare, J'.base, J'.hok, rv, hq⟩
      | next =>
        obtain ⟨σ', H', J', hq⟩ := hs
        exact ⟨V.non, H', J'.os, J'.bare, J'.base, J'.hok, rfl, hq⟩
      | brk =>
        obtain ⟨_, _, _, no⟩ := hs
        exact no.elim
      | cont =>
        obtain ⟨_, _, _, no⟩ := hs
        exact no.elim
  refine wpAny_call (codeAny_mono key fun res s2 hq => ?_)
  cases res with
  | error e => exact hq.elim
  | ok fl =>
    cases fl with
    | ret u => exact I1.after hq
    | next => exact hq.elim
    | brk => exact hq.elim
    | cont => exact hq.elim
end
end Mr
namespace Mr
open PySem PySem.Spec L2
/-! ### what the law makes of a caught error -/
def tIs (a : Addr) (b : Bool) : TE := fun σ H Q => σ[0]? = some (some (.ref a)) ∧ Q (.bl b) H
def tInts (K : PySem.W.Frag) (i : Nat) : TE := fun σ H Q => ∃ (a : Addr) (bs : List Bool), σ[i]? = some (some (.ref a)) ∧ SqL K H a (bs.map V.bl) ∧ bs.length ≤ 1000 ∧ ∀ p, H p = none → Q (.ref p) (upd H p (.lst (bs.map fun b => V.int (if b = true then 1 else 0))))
def tWord (K : PySem.W.Frag) (a : Addr) (f : Nat → Bool) (n : Nat → Str) : TS :=
  tSeq (tAsg (tLst (tCons (tIs a (f 0)) (tCons (tIs a (f 1)) (tCons (tIs a (f 2)) tNil)))) (gName 1))
  (tSeq (tAsg (tOp rCat (tVar 1) (tLst (tCons (tIs a (f 3)) tNil))) (gName 1))
  (tSeq (tAsg (tOp rCat (tVar 1) (tLst (tCons (tIs a (f 4)) tNil))) (gName 1))
  (tSeq (tIfS (tOr (tTest (tOp rNe (tCB (rSum K) (tCons (tInts K 1) tNil)) (tC (.int 1)))) (tNot (tB (tIs a true)))) (tRet (tTup (tCons (tC (.str "refused")) (tCons (tC (.str "other")) tNil)))) tNext)
  (tRet (tTup (tCons (tC (.str "refused")) (tCons (tOp (rIxL K) (tLst (tCons (tC (.str (n 0))) (tCons (tC (.str (n 1))) (tCons (tC (.str (n 2))) (tCons (tC (.str (n 3))) (tCons (tC (.str (n 4))) tNil)))))) (tBM K "list" (rIndexD K) (tVar 1) (tCons (tC (.bl true)) tNil))) tNil)))))))
theorem upd_at {H : Hp} {p : Addr} {o : HO} : upd H p o p = some o := by simp [upd]
theorem upd_old {H : Hp} {p b : Addr} {o u : HO} (h : H p = none) (e : H b = some u) : upd H p o b = some u := by
  rw [upd_ne (fun z => by rw [z, h] at e; cases e)]; exact e
theorem word_pure {K : PySem.W.Frag} {T : Tb} {W : Wd} {st : Store} {H : Hp} (rs : RS K T W st H) (a : Addr) (n : Nat → Str) (j : Nat) (hj : j < 5) {Q : VK}
    (hQ : ∀ W' v H', W.le W' → RV K W' (.tup [.str "refused", .str (n j)]) v → RS K T W' st H' → Q v H') :
    tWord K a (fun i => i == j) n { nx := fun _ H' => Q .non H', rt := Q } [some (.ref a), none] H := by
  have z3 : (3 : Nat) ≤ sizeLine := by rw [size_eq]; omega
  have z1 : (1 : Nat) ≤ sizeLine := by rw [size_eq]; omega
  have z2 : (2 : Nat) ≤ sizeLine := by rw [size_eq]; omega
  have z5 : (5 : Nat) ≤ sizeLine := by rw [size_eq]; omega
  have z4 : (3 : Nat) + 1 ≤ sizeLine := by rw [size_eq]; omega
  have z6 : (4 : Nat) + 1 ≤ sizeLine := by rw [size_eq]; omega
  refine ⟨rfl, rfl, rfl, z3, fun p1 e1 => ?_⟩
  have l1 := rs.le_addF (o := .lst [.bl (0 == j), .bl (1 == j), .bl (2 == j)]) e1
  have r1 := rs.newF (o := .lst [.bl (0 == j), .bl (1 == j), .bl (2 == j)]) e1 (fok_lst _)
  refine ⟨_, rfl, rfl, z1, fun p2 e2 => ?_⟩
  have l2 := l1.trans (r1.le_addF (o := .lst [.bl (3 == j)]) e2)
  have r2 := r1.newF (o := .lst [.bl (3 == j)]) e2 (fok_lst _)
  refine ⟨p1, p2, _, _, rfl, rfl, upd_old e2 upd_at, upd_at, z4, fun p3 e3 => ?_⟩
  have l3 := l2.trans (r2.le_addF (o := .lst [.bl (0 == j), .bl (1 == j), .bl (2 == j), .bl (3 == j)]) e3)
  have r3 := r2.newF (o := .lst [.bl (0 == j), .bl (1 == j), .bl (2 == j), .bl (3 == j)]) e3 (fok_lst _)
  refine ⟨_, rfl, rfl, z1, fun p4 e4 => ?_⟩
  have l4 := l3.trans (r3.le_addF (o := .lst [.bl (4 == j)]) e4)
  have r4 := r3.newF (o := .lst [.bl (4 == j)]) e4 (fok_lst _)
  refine ⟨p3, p4, _, _, rfl, rfl, upd_old e4 upd_at, upd_at, z6, fun p5 e5 => ?_⟩
  have l5 := l4.trans (r4.le_addF (o := .lst [.bl (0 == j), .bl (1 == j), .bl (2 == j), .bl (3 == j), .bl (4 == j)]) e5)
  have r5 := r4.newF (o := .lst [.bl (0 == j), .bl (1 == j), .bl (2 == j), .bl (3 == j), .bl (4 == j)]) e5 (fok_lst _)
  have hsum : ([0 == j, 1 == j, 2 == j, 3 == j, 4 == j].map fun b => if b = true then (1 : Int) else 0).sum = 1 := by
    rcases j with _ | _ | _ | _ | _ | j
    all_goals first | rfl | omega
  refine ⟨p5, [0 == j, 1 == j, 2 == j, 3 == j, 4 == j], rfl, .inl (.inl upd_at), by simp, fun p6 e6 => ?_⟩
  have l6 := l5.trans (r5.le_addF (o := .lst ([0 == j, 1 == j, 2 == j, 3 == j, 4 == j].map fun b => V.int (if b = true then 1 else 0))) e6)
  have r6 := r5.newF (o := .lst ([0 == j, 1 == j, 2 == j, 3 == j, 4 == j].map fun b => V.int (if b = true then 1 else 0))) e6 (fok_lst _)
  refine ⟨p6, [0 == j, 1 == j, 2 == j, 3 == j, 4 == j].map fun b => if b = true then (1 : Int) else 0, rfl, .inl (.inl (by rw [List.map_map]; exact upd_at)), ?_⟩
  rw [hsum]
  refine ⟨rfl, false, rfl, rfl, true, rfl, ?_⟩
  refine ⟨z5, fun p7 e7 => ?_⟩
  have l7 := l6.trans (r6.le_addF (o := .lst [.str (n 0), .str (n 1), .str (n 2), .str (n 3), .str (n 4)]) e7)
  have r7 := r6.newF (o := .lst [.str (n 0), .str (n 1), .str (n 2), .str (n 3), .str (n 4)]) e7 (fok_lst _)
  have hf : SqL K (upd (upd (upd (upd (upd (upd (upd H p1 (.lst [.bl (0 == j), .bl (1 == j), .bl (2 == j)])) p2 (.lst [.bl (3 == j)])) p3 (.lst [.bl (0 == j), .bl (1 == j), .bl (2 == j), .bl (3 == j)])) p4 (.lst [.bl (4 == j)])) p5 (.lst [.bl (0 == j), .bl (1 == j), .bl (2 == j), .bl (3 == j), .bl (4 == j)]))
      p6 (.lst ([0 == j, 1 == j, 2 == j, 3 == j, 4 == j].map fun b => V.int (if b = true then 1 else 0)))) p7 (.lst [.str (n 0), .str (n 1), .str (n 2), .str (n 3), .str (n 4)])) p5 [.bl (0 == j), .bl (1 == j), .bl (2 == j), .bl (3 == j), .bl (4 == j)] :=
    .inl (.inl (upd_old e7 (upd_old e6 upd_at)))
  have hat : atI [V.str (n 0), V.str (n 1), V.str (n 2), V.str (n 3), V.str (n 4)] (j : Int) = some (.str (n j)) := by
    rcases j with _ | _ | _ | _ | _ | j
    all_goals first | rfl | omega
  have hix : [PyData.bool (0 == j), .bool (1 == j), .bool (2 == j), .bool (3 == j), .bool (4 == j)][j]? = some (.bool true) := by
    rcases j with _ | _ | _ | _ | _ | j
    all_goals first | rfl | omega
  have hlt : ∀ (m : Nat) (z : PyData), m < j → [PyData.bool (0 == j), .bool (1 == j), .bool (2 == j), .bool (3 == j), .bool (4 == j)][m]? = some z → PyData.eqv z (.bool true) = false := fun m z hm e => by
    have hm5 : m < 5 := by omega
    have hne : (m == j) = false := by simp; omega
    have ez : z = .bool (m == j) := by
      rcases m with _ | _ | _ | _ | _ | m
      all_goals first | (simp only [List.getElem?_cons_zero, List.getElem?_cons_succ, Option.some.injEq] at e; exact e.symm) | omega
    rw [ez, hne]
    rfl
  refine ⟨.ref p5, rfl, .inl ⟨rfl, _, hf⟩, p5, .bl true, .bool true, [.bool (0 == j), .bool (1 == j), .bool (2 == j), .bool (3 == j), .bool (4 == j)], j, .bool true, rfl, rfl, .lst hf (.cons (.bl _) (.cons (.bl _) (.cons (.bl _) (.cons (.bl _) (.cons (.bl _) .nil))))), .bl true, rfl, rfl, hix, rfl, hlt, ?_⟩
  refine ⟨p7, _, (j : Int), _, rfl, rfl, .inl (.inl upd_at), hat, z2, fun p8 e8 => ?_⟩
  obtain ⟨g1, g2, g3⟩ := new_tup (ds := [.str "refused", .str (n j)]) r7 e8 (.cons (.str _) (.cons (.str _) .nil)) rfl
  exact hQ _ _ _ (l7.trans g1) g2 g3
end Mr
namespace Mr
open PySem PySem.Spec L2
/-! ### a lambda's body, its errors without a context -/
abbrev lamN (X : Cx) (A : Around) (outer : List Env) (s : Shared) (H : Hp) (E : XK) (scope : Scope) (f c' : Addr) : Cx :=
  (LamX.lamCx X A outer s H E scope f c').tr [] fun e s' => wpAny (model X.prog X.w) (A.deeper (LamX.lamEnv X scope s.heap.objs.size f c')) (leaving (LamX.lamEnv X scope s.heap.objs.size f c') e)
    (fun _ s'' => L2N.CX X.prog X.w outer H s E e s'') (fun e' s'' => L2N.CX X.prog X.w outer H s E e' s'') s'
section
variable {X : Cx} {pins : List (Addr × Obj)} {σ : L2.St} {H : Hp} {s : Shared}
/-- the lambda at f, called within a def that was entered at s -/
theorem lam_called {A : Around} {outer : List Env} {s1 : Shared} {H1 : Hp} {E : XK} {scope : Scope} {f c' : Addr} {pm ctv : Value} {params : Arguments} {body : Expr} {k : Nat} {tb : TE} {Q : VK} (I : Inv X pins σ H s) (L : LamX.LamS X.env.scope scope)
    (hf : s1.heap.get? f = some (PySem.W.kla_obj "<lambda>" (X.env.qual ++ "<lambda>") params body scope (cloFrom X.env.cells scope.names []) pm c' ctv))
    (hbind : bindArgs (PySem.W.kla_fn "<lambda>" (X.env.qual ++ "<lambda>") params body scope (cloFrom X.env.cells scope.names []) pm (.ref c') ctv) ⟨[], []⟩ = pure [])
    (e0 : Env0 X.prog X.w X.K X.mg X.base A outer s1 H1) (un : Un (frs X.stack) [] H H1 s.heap s1.heap) (hr : Room (k + 1) A) (hc : H1 c' = some (LamX.CodeO c' (X.env.qual ++ "<lambda>"))) (lim : s1.heap.NoLimit)
    (hbody : PE (lamN X A outer s1 H1 E scope f c') body tb) (ht : tb σ H1 Q) :
    codeAny (model X.prog X.w) A (.call (.ref f) ⟨[], []⟩) (CR (L2N.CX X.prog X.w) outer X.prog X.w H1 s1 Q E) s1 := by
  obtain ⟨⟨oc, vs, t, hoc, hdc, hvc⟩, _, _⟩ := e0.hok c' _ hc
  refine PySem.W.kla_callFunE hr.depth hf rfl L.co L.gen rfl ⟨c', oc, vs, t, rfl, hoc, hdc, hvc⟩ ?_
  rw [hbind]
  have noc : ∀ y ∈ scope.names, y.2 ≠ .cell := fun y hy => (L.own y hy).2
  refine wpAny_pure (wpAny_newFunctionEnv noc (fun y hy => by simp at hy) (fun h₁ hns hsb => ⟨lim.fresh _ hsb, ?_⟩) L.kind)
  show codeAny _ _ (.expr body (LamX.lamEnv X scope s1.heap.objs.size f c')) _ _
  have kp : ∀ b o, s1.heap.get? b = some o → h₁.get? b = some o := fun b o e => hsb.extBut b o (Nat.ne_of_lt (Heap.lt_size e)) (Heap.get?_push_of_some _ e)
  have J0 := LamX.lam_start2 (E := E) (f := f) (c' := c') (tk := s1.toks + ([] : List (Str × Value)).length) I L e0 hr.hd un hns kp
  have J := J0.toTry (lamN X A outer s1 H1 E scope f c').xe
  refine PySem.W.kla_codeExpr (wpAny_mono (hbody.run [] _ _ H1 Q J ht) (fun v s2 hq => ?_) fun _ _ hq => hq)
  obtain ⟨z, H', J', rv, q⟩ := hq
  exact ⟨z, H', J'.os, J'.bare, J'.base, J'.hok, rv, q⟩
/-- a(), a the def's first name, the lambda at f in it -/
theorem pe_actN {CXg : CXT} {Eg : XK} {Ng : List Str} {qg : Str} {sg : Scope} {g f c' : Addr} {cdg pm ctv : Value} {params : Arguments} {body : Expr} {scope : Scope} {k : Nat} {a : Str} {pn : List (Addr × Obj)} {xe : Value → Shared → Prop} {W : WX} {E : XK} {tb : TE} {p1 p2 : Pos}
    (I : Inv X pins σ H s) (L : LamX.LamS X.env.scope scope) (hf : s.heap.get? f = some (PySem.W.kla_obj "<lambda>" (X.env.qual ++ "<lambda>") params body scope (cloFrom X.env.cells scope.names []) pm c' ctv)) (hfn : H f = none) (hfr : f ∉ frs X.stack)
    (hbind : bindArgs (PySem.W.kla_fn "<lambda>" (X.env.qual ++ "<lambda>") params body scope (cloFrom X.env.cells scope.names []) pm (.ref c') ctv) ⟨[], []⟩ = pure [])
    (tk : L2N.Takes ((cxOf CXg X.prog X.w X.K X.mg X.base Ng qg sg g cdg X.A X.stack s H Eg).tr pn xe) W) (hW : ∀ cls d σ' H', E cls d H' → W cls d σ' H') (hr : Room (k + 1) (X.A.deeper (PyProof.Rows.envOfC qg sg s.heap.objs.size g cdg)))
    (hbody : ∀ (A : Around) (outer : List Env) (s : Shared) (H : Hp), Room k (A.deeper (LamX.lamEnv X scope s.heap.objs.size f c')) → PE (lamN X A outer s H E scope f c') body tb)
    (hN : Ng[0]? = some a) (hv : Vis sg a) (hd : (a == ("__debug__" : Str)) = false) (hcd : (a == ("__classdict__" : Str)) = false) :
    PE ((cxOf CXg X.prog X.w X.K X.mg X.base Ng qg sg g cdg X.A X.stack s H Eg).tr pn xe) (.Call (.Name a p1) [] [] p2)
      (fun σZ HZ Q => σZ[0]? = some (some (.ref f)) ∧ HZ c' = some (LamX.CodeO c' (X.env.qual ++ "<lambda>")) ∧ tb σ HZ Q) := by
  refine ⟨fun pz sz σz Hz Q Iz hh => ?_⟩
  obtain ⟨hs, hc, ht⟩ := hh
  have hvar := (pe_var (X := (cxOf CXg X.prog X.w X.K X.mg X.base Ng qg sg g cdg X.A X.stack s H Eg).tr pn xe) (pos := p1) (i := 0) hN hv hd hcd).run pz sz σz Hz (fun v H1 => v = .ref f ∧ H1 = Hz) Iz ⟨.ref f, hs, rfl, rfl⟩
  refine wpAny_Call_Name_kw (thn hvar fun u s1 gg => ?_)
  obtain ⟨v, H1, I1, r1, rfl, rfl⟩ := gg
  obtain rfl : u = Value.ref f := r1
  have of1 := I1.base.keep f _ hf hfn hfr (fun z => nomatch (show f ∈ ([] : List Addr) from z))
  refine PySem.W.callWith_F0 ⟨_, _, _, _, of1⟩ ?_
  have rc := lam_called (Q := Q) (E := E) (k := k) (tb := tb) I L of1 hbind I1.env0 I1.base hr hc I1.nolimit (hbody _ _ s1 H1 (hr.deeper _)) ht
  have hx := L2N.passes_call tk hW
  refine wpAny_call (codeAny_mono rc fun res s2 hq => ?_)
  cases res with
  | error e => exact hx pz σz H1 s1 e s2 I1 hq
  | ok fl =>
    cases fl with
    | ret u => exact I1.after hq
    | next => exact hq.elim
    | brk => exact hq.elim
    | cont => exact hq.elim
/-- what the def that tries the lambda is in -/
abbrev toldCx (X : Cx) (Ng : List Str) (x : Str) (sg : Scope) (g : Addr) (cdv : Value) (s : Shared) (H : Hp) : Cx := (cxOf C8.CX0 X.prog X.w X.K X.mg X.base Ng x sg g cdv X.A X.stack s H C8.E0).nox
/-- the wish about the lambda's errors -/
def toldE (K : PySem.W.Frag) (CS : Addr) (SP : Value → List V → Hp → VK → Prop) (Q : VK) : XK := fun cls d H => d = none ∧ PySem.W.exmOne K cls (.ref CS) = some true ∧ ∀ a, H a = none → SP cls [.ref a] H Q
/-- x(lambda: body), x: try: return a() / except e as n: return w(n) -/
theorem pe_told {T : List (Addr × Str)} {x a e n wn : Str} {g c P CS : Addr} {k : Nat} {pg : Arguments} {sg : Scope} {dV kV doc pm cdv ct oc : Value} {an od : Option Addr} {osl : Array (Option Value)} {Ng : List Str} {q1 q2 q3 q4 q5 q6 q7 q8 q9 q10 : Pos}
    {params : Arguments} {body : Expr} {scope : Scope} {t : XK → TE} {p lpos pos : Pos} {SP : Value → List V → Hp → VK → Prop} (hg : Gl X x) (hm : X.mg x = some (.ref g)) (hk : PySem.W.keepIn X.K (.ref g) = true)
    (lk : X.K.lookup g = some ⟨oc, od, .func (PySem.W.fnOf x x pg [.Try [.Return (some (.Call (.Name a q1) [] [] q2)) q3] [.ExceptHandler (some (.Name e q4)) (some n) [.Return (some (.Call (.Name wn q5) [.Name n q6] [] q7)) q8] q9] [] [] q10] sg dV kV doc pm an cdv ct), osl⟩)
    (hcg : PySem.W.codeIn X.K cdv x = true) (hb : L2.Binds X.K (PySem.W.fnOf x x pg [.Try [.Return (some (.Call (.Name a q1) [] [] q2)) q3] [.ExceptHandler (some (.Name e q4)) (some n) [.Return (some (.Call (.Name wn q5) [.Name n q6] [] q7)) q8] q9] [] [] q10] sg dV kV doc pm an cdv ct) [a] [])
    (Sg : FnScope Ng [a] sg) (hNg : Ng[0]? = some a) (hva : Vis sg a) (hNn : Ng[1]? = some n) (hln : sg.names.lookup n = some .local) (hge : sg.names.lookup e = some .globalImplicit) (hme : X.mg e = some (.ref CS)) (hde : (e == ("__debug__" : Str)) = false)
    (hword : ∀ (s : Shared) (H : Hp) (b : Addr) (oe : Obj) (cls : Value) (pn : List (Addr × Obj)), L2N.Zn cls none oe → (∃ vs, oe.data = .fields vs) → Room (k + 1) (X.A.deeper (PyProof.Rows.envOfC x sg s.heap.objs.size g cdv)) →
      PE ((toldCx X Ng x sg g cdv s H).suite b ((b, oe) :: pn)) (.Call (.Name wn q5) [.Name n q6] [] q7) (fun σ H Q => σ[1]? = some (some (.ref b)) ∧ SP cls [.ref b] H Q))
    (TB : LamX.TabB X.base X.mg c P) (hcode : X.env.code = .ref c) (hmT : (P, X.env.qual ++ "<lambda>") ∈ T) (hu : ∀ p ∈ T, p.1 = P → p.2 = X.env.qual ++ "<lambda>") (hr : Room (k + 2) X.A) (L : LamX.LamS X.env.scope scope) (hdef : defaultsOf params X.env = ([], []))
    (hbind : ∀ (q : Str) (cl : List (Str × Addr)) (pm cv ctv : Value), bindArgs (PySem.W.kla_fn "<lambda>" q params body scope cl pm cv ctv) ⟨[], []⟩ = pure [])
    (hbody : ∀ (A : Around) (outer : List Env) (s : Shared) (H : Hp) (E : XK) (f c' : Addr), Room k (A.deeper (LamX.lamEnv X scope s.heap.objs.size f c')) → PE (lamN X A outer s H E scope f c') body (t E))
    (hdb : (x == ("__debug__" : Str)) = false) (hd : (a == ("__debug__" : Str)) = false) (hcd : (a == ("__classdict__" : Str)) = false) :
    PE X (.Call (.Name x p) [.Lambda params body scope lpos] [] pos) (fun σ H Q => LamX.Tabs T H ∧ ∀ H1, LamX.ExtN H H1 → LamX.Tabs T H1 → t (toldE X.K CS SP Q) σ H1 Q) := by
  refine ⟨fun pins s σ H Q I hh => ?_⟩
  obtain ⟨hT, h⟩ := hh
  refine wpAny_Call_Name_kw (ld_glob I hg hm ?_ hdb)
  refine PySem.W.callWith_K (h₀ := X.base) I.ok.mod.kin hk ?_ (by rfl) (by rfl)
  refine Calls.spliced_cons (LamX.lam_make2 I TB hcode hmT hu hT hdef (L.has I.ok) fun f c' pm' ctv H1 s' I1 eN T1 hf hfn hfr hco => ?_)
  refine Calls.spliced_nil ⟨I1.kIn, ?_⟩
  have rc : codeAny (model X.prog X.w) X.A (.call (.ref g) ⟨[.ref f], []⟩) (CR C8.CX0 X.stack X.prog X.w H1 s' Q C8.E0) s' := by
    refine LamX.run_ofS (N := Ng) (ps := [a]) (us := [.ref f]) (vs := [.ref f]) lk hcg Sg hr I1.env0 (hb s' [.ref f] I1.kIn rfl) (.cons rfl .nil) rfl fun hr' => ?_
    have hgl : Gl (toldCx X Ng x sg g cdv s' H1) e := hge
    have tr := L2N.ps_try_as (X := toldCx X Ng x sg g cdv s' H1) (x := e) (n := n) (c := .ref CS) (i := 1) (np := q4) (pos' := q9) (pos := q10) (Wout := fun _ _ _ _ => False)
      (body := [.Return (some (.Call (.Name a q1) [] [] q2)) q3]) (b₀ := .Return (some (.Call (.Name wn q5) [.Name n q6] [] q7)) q8) (suite := [])
      (tb := fun W D σz Hz => ∃ E : XK, (∀ cls d σ' H', E cls d H' → W cls d σ' H') ∧ σz[0]? = some (some (.ref f)) ∧ Hz c' = some (LamX.CodeO c' (X.env.qual ++ "<lambda>")) ∧ t E σ Hz D.rt)
      (ts := fun b cls d D σz Hz => d = none ∧ (σz.length = Ng.length → σz[1]? = some (some (.ref b))) ∧ SP cls [.ref b] Hz D.rt)
      rfl rfl Sg.nd hNn hln ⟨hgl, hde, .inl hme⟩ takesN
      (fun W pn xe tk _ => ?tb) (fun b oe cls d pn hz hf => ?ts)
    case tb =>
      refine ⟨fun pz sz σz Hz D Iz hz => ?_⟩
      obtain ⟨E, hW, g1, g2, g3⟩ := hz
      have act := pe_actN (CXg := C8.CX0) (Eg := C8.E0) (Ng := Ng) (qg := x) (sg := sg) (g := g) (cdg := cdv) (pn := pn) (xe := xe) (p1 := q1) (p2 := q2) (tb := t E) (k := k) I1 L hf hfn hfr (hbind _ _ _ _ _) tk hW hr' (fun A outer s H hr2 => hbody A outer s H E f c' hr2) hNg hva hd hcd
      exact (pss_one (ps_ret (pos := q3) act)).run pz sz σz Hz D Iz ⟨g1, g2, g3⟩
    case ts =>
      refine ⟨fun pz sz σz Hz D Iz h2 => ?_⟩
      obtain ⟨rfl, h3, h4⟩ := h2
      exact (pss_one (ps_ret (pos := q8) (hword s' H1 b oe cls pn hz hf hr'))).run pz sz σz Hz D Iz ⟨h3 Iz.len, h4⟩
    refine ⟨_, (pss_one tr).nox, ?_⟩
    refine ⟨toldE X.K CS SP Q, fun cls d σ' H' hE => ⟨true, hE.2.1, fun _ b hb => ⟨hE.1, ?_, hE.2.2 b hb⟩, fun z => by cases z⟩, rfl, hco, h H1 eN T1⟩
    intro hlen
    obtain ⟨h1, _⟩ := List.getElem?_eq_some_iff.mp hNn
    rw [List.length_set] at hlen
    exact List.getElem?_set_self (by omega)
  refine wpAny_call (codeAny_mono rc fun r s2 hq => ?_)
  cases r with
  | error e => exact (show False from hq).elim
  | ok fl =>
    cases fl with
    | ret u => exact I1.after hq
    | next => exact hq.elim
    | brk => exact hq.elim
    | cont => exact hq.elim
end
end Mr
namespace Mr
open PySem PySem.Spec L2
/-! ### the law's try, as a mirror -/
theorem RS.extN {K : PySem.W.Frag} {T : Tb} {W : Wd} {st : Store} {H H1 : Hp} (R : RS K T W st H) (e : LamX.ExtN H H1) (t : LamX.Tabs T H1) : RS K T W st H1 :=
  ⟨fun a o h => e a o (R.f a o h) (R.ntF a o h).1, fun a o h => e a o (R.u a o h) (R.ntU a o h).1, R.len, R.nd, R.nf, R.nu, R.fu, fun n c a h1 h2 => by
    have hc := R.cell n c a h1 h2
    cases ha : H a with
    | none => rw [ha] at hc; cases c <;> simp [CellR] at hc
    | some o =>
      have hn : ∀ ps, o ≠ .tbl ps := fun ps z => by
        rw [ha, z] at hc
        cases c <;> simp [CellR] at hc
      rw [e a o ha hn, ← ha]
      exact hc, t, R.ntF, R.ntU⟩
def refD (c : Str) : D := .tup [.str "refused", .str c]
def mTold (nm : List Str) (me : Ev D) : Ev D := fun env st => match me env st with
  | .ok d st' => .ok d st'
  | .ex c st' => if c ∈ nm then .ok (refD c) st' else .no
  | .no => .no
/-- what the call of the law's word promises -/
def wordSP (K : PySem.W.Frag) (T : Tb) (nm : List Str) : Value → List V → Hp → VK → Prop := fun cls vs H Q => ∃ (W : Wd) (st : Store) (c : Str) (a : Addr), c ∈ nm ∧ cls = .ref (He.ga K c) ∧ vs = [.ref a] ∧ RS K T W st H ∧ ∀ W' v H', W.le W' → RV K W' (refD c) v → RS K T W' st H' → Q v H'
theorem told_read {K : PySem.W.Frag} {T : Tb} {Wx : WX} {nm : List Str} {me : Ev D} {CS : Addr} (hx : ∀ c ∈ nm, PySem.W.exmOne K (.ref (He.ga K c)) (.ref CS) = some true) {σ : St} {H : Hp} {Q : VK} (h : tE K T Wx (mTold nm me) σ H Q) :
    LamX.Tabs T H ∧ ∀ H1, LamX.ExtN H H1 → LamX.Tabs T H1 → tE K T (WS (toldE K CS (wordSP K T nm) Q)) me σ H1 Q := by
  obtain ⟨W, env, st, re, rs, p⟩ := h
  refine ⟨rs.tb, fun H1 e1 t1 => ⟨W, env, st, re, rs.extN e1 t1, ?_⟩⟩
  unfold mTold at p
  cases hm : me env st with
  | ok d st' => rw [hm] at p; exact p
  | no => rw [hm] at p; exact p.elim
  | ex c st' =>
    rw [hm] at p
    by_cases hc : c ∈ nm
    · simp only [hc, if_true] at p
      exact fun W' H' l r => ⟨rfl, hx c hc, fun a ha => ⟨W', st', c, a, hc, rfl, rfl, r, fun W2 v H2 l2 rv rs2 => p W2 v H2 (l.trans l2) rv rs2⟩⟩
    · simp only [hc, if_false] at p
      exact p.elim
/-- the law's word, called in the suite -/
theorem pe_word {X : Cx} {b : Addr} {oe : Obj} {cls : Value} {pn : List (Addr × Obj)} {T : Tb} {nm : Nat → Str} {wn n name qual : Str} {f : Addr} {params : Arguments} {body : List Stmt} {scope : Scope} {dV kV doc pm cdv ct oc : Value} {an od : Option Addr} {osl : Array (Option Value)} {N : List Str} {k : Nat} {ev : Str}
    {q5 q6 q7 : Pos} (hz : L2N.Zn cls none oe) (hf : ∃ vs, oe.data = .fields vs) (lk : X.K.lookup f = some ⟨oc, od, .func (PySem.W.fnOf name qual params body scope dV kV doc pm an cdv ct), osl⟩) (hcd : PySem.W.codeIn X.K cdv qual = true) (S : FnScope N [ev] scope) (hN2 : N.length = 2)
    (hb : Binds X.K (PySem.W.fnOf name qual params body scope dV kV doc pm an cdv ct) [ev] []) (hr : L2H.RoomH (k + 1) X.A) (hg : Gl X wn) (hm : X.mg wn = some (.ref f)) (hk : PySem.W.keepIn X.K (.ref f) = true) (hNn : X.N[1]? = some n) (hvn : Vis X.env.scope n) (hdn : (n == ("__debug__" : Str)) = false) (hcn : (n == ("__classdict__" : Str)) = false) (hdb : (wn == ("__debug__" : Str)) = false)
    (hbody : ∀ (s : Shared) (H : Hp) (j : Nat), j < 5 → cls = .ref (He.ga X.K (nm j)) → L2H.RoomH k ((X.A.mark (some (.ref b))).deeper (PyProof.Rows.envOfC qual scope s.heap.objs.size f cdv)) →
      PSs (L2H.cxH C8.CX0 X.prog X.w X.K X.mg X.base N qual scope f cdv (X.A.mark (some (.ref b))) X.stack s H C8.E0 (b, oe)) body (tWord X.K b (fun i => i == j) nm)) :
    PE (X.suite b ((b, oe) :: pn)) (.Call (.Name wn q5) [.Name n q6] [] q7) (fun σ H Q => σ[1]? = some (some (.ref b)) ∧ wordSP X.K T [nm 0, nm 1, nm 2, nm 3, nm 4] cls [.ref b] H Q) := by
  have hot : L2H.Hot1 (X.suite b ((b, oe) :: pn)).A (b, oe) := by
    obtain ⟨vs, hv⟩ := hf
    exact ⟨rfl, vs, hv, hz.2.2 vs hv⟩
  refine PE.imp (pe_hotCall (X := X.suite b ((b, oe) :: pn)) (pn0 := (b, oe)) (k := k) (sp := fun vs H Q => vs = [.ref b] ∧ wordSP X.K T [nm 0, nm 1, nm 2, nm 3, nm 4] cls [.ref b] H Q) List.mem_cons_self hot lk hcd S hb ⟨hr.dp, hr.un⟩ hg hm hk (pa_cons (pe_var (i := 1) hNn hvn hdn hcn) pa_nil) (fun vs H Q h => by rw [h.1]; rfl) (fun s H vs Q hr2 hsp => ?_) hdb rfl rfl) fun σ H Q q => ⟨.ref b, q.1, rfl, q.2⟩
  obtain ⟨rfl, W, st, c, a, hc, e1, e2, rs, hQ⟩ := hsp
  obtain ⟨j, hj, rfl⟩ : ∃ j, j < 5 ∧ c = nm j := by
    simp only [List.mem_cons, List.not_mem_nil, or_false] at hc
    rcases hc with h | h | h | h | h
    · exact ⟨0, by omega, h⟩
    · exact ⟨1, by omega, h⟩
    · exact ⟨2, by omega, h⟩
    · exact ⟨3, by omega, h⟩
    · exact ⟨4, by omega, h⟩
  refine ⟨_, hbody s H j hj e1 hr2, ?_⟩
  have hst : L2.start N [V.ref b] = [some (.ref b), none] := by
    unfold L2.start
    rw [hN2]
    rfl
  rw [hst]
  exact word_pure rs b nm j hj hQ
/-- _law_told(lambda: body) -/
theorem so_told {X : Cx} {T : Tb} {Wx : WX} {me : Ev D} {nm : Nat → Str} {x a e n wn ev : Str} {c P CS : Addr} {k : Nat} {pg pw : Arguments} {bt bw : List Stmt} {sg sw : Scope} {kws kws2 : List (Str × V)} {Ng Nw : List Str} {q1 q2 q3 q4 q5 q6 q7 q8 q9 q10 p lpos pos : Pos} {params : Arguments} {body : Expr} {scope : Scope}
    (FT : ∃ fd, FunD X.K x x pg bt sg [] kws (He.fAd X.K (x, none)) fd) (FW : ∃ fd, FunD X.K wn wn pw bw sw [] kws2 (He.fAd X.K (wn, none)) fd)
    (hbt : bt = [.Try [.Return (some (.Call (.Name a q1) [] [] q2)) q3] [.ExceptHandler (some (.Name e q4)) (some n) [.Return (some (.Call (.Name wn q5) [.Name n q6] [] q7)) q8] q9] [] [] q10])
    (bT : ∀ (kV doc pm : Value) (an : Option Addr) (cdv ct : Value) (us : List Value), us.length = [a].length → bindArgs (PySem.W.fnOf x x pg bt sg .none kV doc pm an cdv ct) ⟨us, []⟩ = pure ([a].zip us))
    (bW : ∀ (kV doc pm : Value) (an : Option Addr) (cdv ct : Value) (us : List Value), us.length = [ev].length → bindArgs (PySem.W.fnOf wn wn pw bw sw .none kV doc pm an cdv ct) ⟨us, []⟩ = pure ([ev].zip us))
    (Sg : FnScope Ng [a] sg) (Sw : FnScope Nw [ev] sw) (hN2 : Nw.length = 2) (hNg : Ng[0]? = some a) (hva : Vis sg a) (hNn : Ng[1]? = some n) (hln : sg.names.lookup n = some .local) (hge : sg.names.lookup e = some .globalImplicit) (hgw : sg.names.lookup wn = some .globalImplicit)
    (hg : Gl X x) (hm : X.mg x = some (.ref (He.ga X.K x))) (hmw : X.mg wn = some (.ref (He.ga X.K wn))) (hme : X.mg e = some (.ref CS)) (hex : ∀ c ∈ [nm 0, nm 1, nm 2, nm 3, nm 4], PySem.W.exmOne X.K (.ref (He.ga X.K c)) (.ref CS) = some true)
    (hde : (e == ("__debug__" : Str)) = false) (hdb : (x == ("__debug__" : Str)) = false) (hd : (a == ("__debug__" : Str)) = false) (hcd : (a == ("__classdict__" : Str)) = false) (hdn : (n == ("__debug__" : Str)) = false) (hcn : (n == ("__classdict__" : Str)) = false) (hdw : (wn == ("__debug__" : Str)) = false)
    (hw : ∀ (A : Around) (outer : List Env) (s : Shared) (H : Hp) (cdv : Value) (b : Addr) (oe : Obj) (j : Nat), j < 5 → L2N.Zn (.ref (He.ga X.K (nm j))) none oe → (∃ vs, oe.data = .fields vs) → L2H.Hot1 A (b, oe) → L2H.RoomH k (A.deeper (PyProof.Rows.envOfC wn sw s.heap.objs.size (He.ga X.K wn) cdv)) →
      PSs (L2H.cxH C8.CX0 X.prog X.w X.K X.mg X.base Nw wn sw (He.ga X.K wn) cdv A outer s H C8.E0 (b, oe)) bw (tWord X.K b (fun i => i == j) nm))
    (TB : LamX.TabB X.base X.mg c P) (hcode : X.env.code = .ref c) (hmT : (P, X.env.qual ++ "<lambda>") ∈ T) (hu : ∀ p ∈ T, p.1 = P → p.2 = X.env.qual ++ "<lambda>") (hr : Room (k + 2) X.A) (L : LamX.LamS X.env.scope scope) (hdef : defaultsOf params X.env = ([], []))
    (hbind : ∀ (q : Str) (cl : List (Str × Addr)) (pm cv ctv : Value), bindArgs (PySem.W.kla_fn "<lambda>" q params body scope cl pm cv ctv) ⟨[], []⟩ = pure [])
    (hbody : ∀ (A : Around) (outer : List Env) (s : Shared) (H : Hp) (E : XK) (f c' : Addr), Room k (A.deeper (LamX.lamEnv X scope s.heap.objs.size f c')) → SE T (WS E) (lamN X A outer s H E scope f c') body me) :
    SE T Wx X (.Call (.Name x p) [.Lambda params body scope lpos] [] pos) (mTold [nm 0, nm 1, nm 2, nm 3, nm 4] me) := by
  obtain ⟨fdT, fT⟩ := FT
  obtain ⟨fdW, fW⟩ := FW
  have b1 := fT.bindsN bT
  have b2 := fW.bindsN bW
  obtain ⟨oc, od, dV, kV, doc, pm, an, cdv, ct, osl, rfl, lk, hcg, _, _⟩ := fT.ex
  obtain ⟨oc2, od2, dV2, kV2, doc2, pm2, an2, cdv2, ct2, osl2, rfl, lk2, hcg2, _, _⟩ := fW.ex
  subst hbt
  refine PE.imp (pe_told (T := T) (SP := wordSP X.K T [nm 0, nm 1, nm 2, nm 3, nm 4]) (t := fun E => tE X.K T (WS E) me) (k := k) (CS := CS) hg hm fT.kp lk hcg b1 Sg hNg hva hNn hln hge hme hde (fun s H b oe cls pn hz hf hr2 => ?_) TB hcode hmT hu hr L hdef hbind hbody hdb hd hcd) fun σ H Q q => told_read hex q
  refine pe_word (X := toldCx X Ng x sg (He.fAd X.K (x, none)) cdv s H) (k := k) hz hf lk2 hcg2 Sw hN2 b2 (L2H.roomH_of hr2) hgw hmw fW.kp hNn (.inl hln) hdn hcn hdw (fun s2 H2 j hj ec hr3 => ?_)
  subst ec
  exact hw _ _ s2 H2 cdv2 b oe j hj hz hf ⟨rfl, by obtain ⟨vs, hv⟩ := hf; exact ⟨vs, hv, hz.2.2 vs hv⟩⟩ hr3
end Mr
namespace Mr
open PySem PySem.Spec L2
/-! ### the refusals' classes -/
def nmW : Nat → Str
  | 0 => "BadAnswer"
  | 1 => "BadMake"
  | 2 => "BadOffer"
  | 3 => "BadStep"
  | _ => "BadTurn"
abbrev toldM (me : Ev D) : Ev D := mTold [nmW 0, nmW 1, nmW 2, nmW 3, nmW 4] me
structure ExF (K : PySem.W.Frag) : Prop where
  ex : ∀ j, j < 5 → ExcC K (He.ga K (nmW j))
  is : ∀ i j, i < 5 → j < 5 → PySem.W.kitOne K (.ref (He.ga K (nmW j))) (.ref (He.ga K (nmW i))) = some (i == j)
  ve : ∀ j, j < 5 → PySem.W.kitOne K (.ref (He.ga K (nmW j))) (.type "ValueError") = some true
  le : ∀ j, j < 5 → PySem.W.exmOne K (.ref (He.ga K (nmW j))) (.ref (He.ga K "LendError")) = some true
def excCB (K : PySem.W.Frag) (D : Addr) : Bool :=
  He.eqO (PySem.W.findIn K (.ref D) "__getattribute__") (some (some (.builtin "BaseException.__getattribute__"))) && (He.eqO (PySem.W.findIn K (.ref D) "__getattr__") (some none) && (decide (PySem.W.subIn K (.ref D) (.type "BaseException") = some true) && (PySem.W.hasDictIn K D && (He.eqO (PySem.W.findIn K (.ref D) "__class__") (some (some (.builtin "object.__class__"))) &&
  (He.eqO (PySem.W.specialIn K (.builtin "object.__class__") "__get__") (some (some (.builtin "getset_descriptor.__get__"))) && (decide (PySem.W.takesIn K (.builtin "object.__class__") = some true) && decide (PySem.W.mroIn K D (.type "object") = some true)))))))
theorem excCB_ok {K : PySem.W.Frag} {D : Addr} (h : excCB K D = true) : ExcC K D := by
  unfold excCB at h
  simp only [Bool.and_eq_true, decide_eq_true_eq] at h
  obtain ⟨h1, h2, h3, h4, h5, h6, h7, h8⟩ := h
  exact ⟨He.eqO_ok h1, He.eqO_ok h2, h3, h4, He.eqO_ok h5, He.eqO_ok h6, h7, h8⟩
def exFB (K : PySem.W.Frag) : Bool := (List.range 5).all fun j => excCB K (He.ga K (nmW j)) && (decide (PySem.W.kitOne K (.ref (He.ga K (nmW j))) (.type "ValueError") = some true) && (decide (PySem.W.exmOne K (.ref (He.ga K (nmW j))) (.ref (He.ga K "LendError")) = some true) &&
  (List.range 5).all fun i => decide (PySem.W.kitOne K (.ref (He.ga K (nmW j))) (.ref (He.ga K (nmW i))) = some (i == j))))
theorem exFB_ok {K : PySem.W.Frag} (h : exFB K = true) : ExF K := by
  unfold exFB at h
  simp only [List.all_eq_true, List.mem_range, Bool.and_eq_true, decide_eq_true_eq] at h
  exact ⟨fun j hj => excCB_ok (h j hj).1, fun i j hi hj => (h j hj).2.2.2 i hi, fun j hj => (h j hj).2.1, fun j hj => (h j hj).2.2.1⟩
/-! ### the law's word, its body -/
theorem word_ok {P : Program} {w : World} {K : PySem.W.Frag} {mg : Str → Option Value} {base : Heap} {f : Addr} {cdv : Value} {A : Around} {outer : List Env} {s : Shared} {H : Hp} {b : Addr} {oe : Obj} {k j : Nat} {sw sc : Scope} {bw : List Stmt}
    {a1 a2 a3 a4 a5 a6 a7 a8 a9 b1 b2 b3 b4 b5 b6 b7 b8 b9 c1 c2 c3 c4 c5 c6 c7 c8 c9 d1 d2 d3 d4 d5 d6 d7 d8 d9 e1 e2 e3 e4 e5 e6 e7 e8 e9 f1 f2 f3 f4 f5 f6 f7 f8 f9 g1 g2 g3 g4 g5 g6 g7 g8 g9 g10 g11 g12 g13 g14 : Pos} {n1 n2 m1 m2 m3 m4 m5 m6 m7 m8 m9 m10 : Nat}
    (hbw : bw = [.Assign [.Name "flags" a1] (.List [.Call (.Name "isinstance" a2) [.Name "e" a3, .Name "BadAnswer" a4] [] a5, .Call (.Name "isinstance" a6) [.Name "e" a7, .Name "BadMake" a8] [] a9, .Call (.Name "isinstance" b1) [.Name "e" b2, .Name "BadOffer" b3] [] b4] b5) b6,
      .Assign [.Name "flags" b7] (.BinOp (.Name "flags" b8) .Add (.List [.Call (.Name "isinstance" b9) [.Name "e" c1, .Name "BadStep" c2] [] c3] c4) c5) c6,
      .Assign [.Name "flags" c7] (.BinOp (.Name "flags" c8) .Add (.List [.Call (.Name "isinstance" c9) [.Name "e" d1, .Name "BadTurn" d2] [] d3] d4) d5) d6,
      .If (.BoolOp .Or [.Compare (.Call (.Name "sum" d7) [.ListComp (.Call (.Name "int" d8) [.Name "flag" d9] [] e1) [⟨.Name "flag" e2, .Name "flags" e3, [], 0⟩] sc e4] [] e5) [.NotEq] [.Constant (.int 1) m1 e6] e7, .UnaryOp .Not (.Call (.Name "isinstance" e8) [.Name "e" e9, .Name "ValueError" f1] [] f2) f3] f4)
        [.Return (some (.Tuple [.Constant (.str "refused") m2 f5, .Constant (.str "other") m3 f6] n1 f7)) f8] [] f9,
      .Return (some (.Tuple [.Constant (.str "refused") m4 g1, .Subscript (.List [.Constant (.str "BadAnswer") m5 g2, .Constant (.str "BadMake") m6 g3, .Constant (.str "BadOffer") m7 g4, .Constant (.str "BadStep") m8 g5, .Constant (.str "BadTurn") m9 g6] g7) (.Call (.Attribute (.Name "flags" g8) "index" g9) [.Constant (.bool true) m10 g10] [] g11) g12] n2 g13)) g14])
    (hline : (g9.endLine == g11.line) = true)
    (hj : j < 5) (EF : ExF K) (hz : L2N.Zn (.ref (He.ga K (nmW j))) none oe) (hf : ∃ vs, oe.data = .fields vs) (hot : L2H.Hot1 A (b, oe)) (hr : L2H.RoomH k (A.deeper (PyProof.Rows.envOfC "_law_word" sw s.heap.objs.size f cdv)))
    (hg : ∀ i, i < 5 → mg (nmW i) = some (.ref (He.ga K (nmW i)))) (zi : mg "isinstance" = none) (zs : mg "sum" = none) (zn : mg "int" = none) (zv : mg "ValueError" = none)
    (le : sw.names.lookup ("e" : Str) = some .local) (lf : sw.names.lookup ("flags" : Str) = some .local) (gi : sw.names.lookup ("isinstance" : Str) = some .globalImplicit) (gs : sw.names.lookup ("sum" : Str) = some .globalImplicit) (gv : sw.names.lookup ("ValueError" : Str) = some .globalImplicit) (gn : ∀ i, i < 5 → sw.names.lookup (nmW i) = some .globalImplicit)
    (hfree : ∀ z ∈ sc.names, z.2 ≠ .free) (hcell : ∀ z ∈ sc.names, z.2 ≠ .cell) (hk : sc.kind = .function) (hnm : ∀ z ∈ sc.names, z.2 = .local → sc.names.lookup z.1 = some .local) (hy : sc.names.lookup ("flag" : Str) = some .local) (hint : sc.names.lookup ("int" : Str) = some .globalImplicit) :
    PSs (L2H.cxH C8.CX0 P w K mg base ["e", "flags"] "_law_word" sw f cdv A outer s H C8.E0 (b, oe)) bw (tWord K b (fun i => i == j) nmW) := by
  subst hbw
  have hp : (b, oe) ∈ (L2H.cxH C8.CX0 P w K mg base ["e", "flags"] "_law_word" sw f cdv A outer s H C8.E0 (b, oe)).pn := List.mem_singleton.mpr rfl
  have hc : L2H.HotC (L2H.cxH C8.CX0 P w K mg base ["e", "flags"] "_law_word" sw f cdv A outer s H C8.E0 (b, oe)) := ⟨(b, oe), hot, hp⟩
  have hu : (L2H.cxH C8.CX0 P w K mg base ["e", "flags"] "_law_word" sw f cdv A outer s H C8.E0 (b, oe)).A.units + 65 < cLine := by
    have := hr.un
    show (A.deeper (PyProof.Rows.envOfC "_law_word" sw s.heap.objs.size f cdv)).units + 65 < cLine
    omega
  have is : ∀ (i : Nat), i < 5 → ∀ {q1 q2 q3 q4 : Pos}, PE (L2H.cxH C8.CX0 P w K mg base ["e", "flags"] "_law_word" sw f cdv A outer s H C8.E0 (b, oe)) (.Call (.Name "isinstance" q1) [.Name "e" q2, .Name (nmW i) q3] [] q4) (tIs b (i == j)) := fun i hi q1 q2 q3 q4 =>
    pe_isE (v := .ref (He.ga K (nmW i))) (cv := .ref (He.ga K (nmW i))) hp (EF.ex j hj) hz.zc hf gi zi rfl (.inl le) (by decide) (by decide) (pe_glob (gn i hi) (hg i hi) rfl (by
      rcases i with _ | _ | _ | _ | i <;> first | decide | (rcases i with _ | i <;> first | decide | omega))) (fun u r => r) (EF.is i j hi hj) rfl rfl
  have fl : ∀ {q : Pos}, PE (L2H.cxH C8.CX0 P w K mg base ["e", "flags"] "_law_word" sw f cdv A outer s H C8.E0 (b, oe)) (.Name "flags" q) (tVar 1) := fun {q} => pe_var (i := 1) rfl (.inl lf) (by decide) (by decide)
  have gf : ∀ {q : Pos}, PG (L2H.cxH C8.CX0 P w K mg base ["e", "flags"] "_law_word" sw f cdv A outer s H C8.E0 (b, oe)) (.Name "flags" q) (gName 1) := fun {q} => pg_name (i := 1) (by show (["e", "flags"] : List Str).Nodup; decide) rfl (.inl lf) (.inr lf)
  refine pss_cons (ps_asg (pe_lst (pa_cons (is 0 (by decide)) (pa_cons (is 1 (by decide)) (pa_cons (is 2 (by decide)) pa_nil)))) gf) ?_
  refine pss_cons (ps_asg (pe_op op_cat fl (pe_lst (pa_cons (is 3 (by decide)) pa_nil))) gf) ?_
  refine pss_cons (ps_asg (pe_op op_cat fl (pe_lst (pa_cons (is 4 (by decide)) pa_nil))) gf) ?_
  refine pss_cons (ps_if (PW.pt (pw_or (pt_cmpR op_ne (pe_callB (sum_pin hc) gs zs bt_sum (pa_cons (pe_hotInts (i := 1) hc rfl (.inl lf) zn hfree hcell hk hnm hy hint (by decide) (by decide) (by decide)) pa_nil)) pe_int rfl)
    (pw_or1 (pt_not (pt_val (pe_isE (v := .ty "ValueError") (cv := .type "ValueError") hp (EF.ex j hj) hz.zc hf gi zi rfl (.inl le) (by decide) (by decide) (pe_bltn gv zv (by decide +kernel) rfl (by decide) (by decide)) (fun u r => r) (EF.ve j hj) rfl rfl)))))) (pss_one (ps_ret (pe_tup (pa_cons pe_str (pa_cons pe_str pa_nil))))) pss_nil) ?_
  exact pss_one (ps_ret (pe_tup (pa_cons pe_str (pa_cons (pe_ix ix_list (pe_lst (pa_cons pe_str (pa_cons pe_str (pa_cons pe_str (pa_cons pe_str (pa_cons pe_str pa_nil)))))) (pe_bm PySem.F.plainAttrs_list PySem.F.slot_list_index PySem.F.type_list_index (mt_indexD hu) fl (pa_cons pe_bl pa_nil) rfl rfl hline) (fun _ _ => rfl)) pa_nil))))
/-! ### defs that hold lambdas -/
structure TbF (K : PySem.W.Frag) (mg : Str → Option Value) (base : Heap) (T : Tb) (at_ : Str × Option Str) (name : Str) : Prop where
  tb : LamX.TabB base mg (He.cT K at_).1 (He.cT K at_).2
  mem : ((He.cT K at_).2, name) ∈ T
  un : ∀ q ∈ T, q.1 = (He.cT K at_).2 → q.2 = name
section
variable {P : Program} {w : World} {K : PySem.W.Frag} {mg : Str → Option Value} {base : Heap} {T : Tb}
theorem def_okL {x qual : Str} {at_ : Str × Option Str} {params : Arguments} {body : List Stmt} {scope : Scope} {kws : List (Str × V)} {N ps : List Str} {k : Nat} {m : Sv}
    (h : ∃ fd, FunD K x qual params body scope [] kws (He.fAd K at_) fd) (S : FnScope N ps scope)
    (hbi : ∀ (kV doc pm : Value) (an : Option Addr) (cdv ct : Value) (us : List Value), us.length = ps.length → bindArgs (PySem.W.fnOf x qual params body scope .none kV doc pm an cdv ct) ⟨us, []⟩ = pure (ps.zip us))
    (hb : ∀ (cdv : Value) (A : Around) (outer : List Env) (s : Shared) (H : Hp) (E : XK), cdv = .ref (He.cT K at_).1 → Room k (A.deeper (PyProof.Rows.envOfC qual scope s.heap.objs.size (He.fAd K at_) cdv)) → L2N.Takes (cxOf (L2N.CX P w) P w K mg base N qual scope (He.fAd K at_) cdv A outer s H E) (WS E) →
      PassesOwn (model P w) (A.deeper (PyProof.Rows.envOfC qual scope s.heap.objs.size (He.fAd K at_) cdv)) (PyProof.Rows.envOfC qual scope s.heap.objs.size (He.fAd K at_) cdv) (cxOf (L2N.CX P w) P w K mg base N qual scope (He.fAd K at_) cdv A outer s H E).xe →
      SSs T (WS E) (cxOf (L2N.CX P w) P w K mg base N qual scope (He.fAd K at_) cdv A outer s H E) body m) : DefOk P w K mg base T (k + 1) at_ ps (mDef N.length m) := by
  obtain ⟨fd, F⟩ := h
  have b1 := F.bindsN hbi
  have b2 := FunD.bindsA F hbi
  obtain ⟨oc, od, dV, kV, doc, pm, an, cdv, ct, osl, rfl, lk, hcd, _, _⟩ := F.ex
  obtain ⟨c, ec⟩ := He.codeIn_ref hcd
  have hcc : cdv = .ref (He.cT K at_).1 := by
    rw [ec]
    show Value.ref c = .ref (He.codeOf K at_)
    rw [He.codeOf_eq (c := c) lk ec]
  refine ⟨⟨_, b1, ?_, ⟨oc, od, osl, lk⟩, b2⟩, F.kp⟩
  refine fn_of lk hcd S (fun vs H Q E h => ?_) fun A outer s H vs Q E hr h => ⟨_, hb cdv A outer s H E hcc hr (L2N.takes_of rfl rfl rfl rfl) (passes_of rfl), ?_⟩
  · obtain ⟨W, ds, st, hl, r, _⟩ := h
    rw [← r.length, hl]
  · obtain ⟨W, ds, st, hl, r, rs, p⟩ := h
    refine ⟨W, startE N.length ds, st, RE.start r, rs, ?_⟩
    unfold mDef at p
    cases hm : m (startE N.length ds) st with
    | ok a st1 =>
      rw [hm] at p
      obtain ⟨fl, env1⟩ := a
      cases fl with
      | nx => exact fun W' σ' H' l _ s => p W' .non H' l .non s
      | rt d => exact p
      | bk => exact p.elim
      | ct => exact p.elim
    | ex c st1 => rw [hm] at p; exact fun W' σ' H' l s => p W' H' l s
    | no => rw [hm] at p; exact p
end
/-! ### the law, tables about -/
theorem law_spL {K : PySem.W.Frag} {T : Tb} {m : List D → Store → Res D} {H : Hp} {a : Addr} {ns : List Int} (hS : SqL K H a (ns.map V.int)) (hT : LamX.Tabs T H) {st' : Store} (hm : m [.fix (ns.map .int)] [] = .ok (.bl true) st') : spM K T 1 m [.ref a] H (fun v _ => v = .bl true) fun _ _ _ => False := by
  have key : ∀ F : Hp, Same F H → (∀ b o, F b = some o → FOk o) → SqL K F a (ns.map V.int) → spM K T 1 m [.ref a] H (fun v _ => v = .bl true) fun _ _ _ => False := fun F hF hn hs => by
    refine ⟨⟨F, [], fun _ => none⟩, [.fix (ns.map .int)], [], rfl, .cons (.fix hs (RDs.ints ns)) .nil, ⟨hF, (fun _ _ e => by cases e), rfl, (by simp), (fun n c a h => by simp at h), (fun _ h => by simp at h), (fun _ _ e => by cases e), (fun n c a h => by simp at h), hT, hn, (fun _ _ e => by cases e)⟩, ?_⟩
    rw [hm]
    intro W' v H' _ r _
    cases r
    rfl
  rcases hS with (h | ⟨o, h⟩) | h
  · refine key (fun b => if b = a then H a else none) (fun b u e => ?_) (fun b u e => ?_) (.inl (.inl (by simp [h])))
    · dsimp only at e
      split at e
      · rename_i hb; rw [hb]; exact e
      · cases e
    · split at e
      · rw [h] at e; cases e; exact fok_lst _
      · cases e
  · refine key (fun b => if b = a then H a else none) (fun b u e => ?_) (fun b u e => ?_) (.inl (.inr ⟨o, by simp [h]⟩))
    · dsimp only at e
      split at e
      · rename_i hb; rw [hb]; exact e
      · cases e
    · split at e
      · rw [h] at e; cases e; exact fok_frzL _ _
      · cases e
  · exact key (fun _ => none) (fun _ _ e => by cases e) (fun _ _ e => by cases e) (.inr h)
def tbsOf (K : PySem.W.Frag) (tf : List ((Str × Option Str) × Str)) : Tb := tf.map fun p => ((He.cT K p.1).2, p.2)
def tbNd (tf : List ((Str × Option Str) × Str)) (K : PySem.W.Frag) : Bool := decide ((tf.map fun p => (He.cT K p.1).2).Nodup)
def exAll (tf : List ((Str × Option Str) × Str)) (K : PySem.W.Frag) : Bool := exFB K && tbNd tf K
theorem nodup_inj {α β : Type} {f : α → β} {l : List α} (h : (l.map f).Nodup) {a b : α} (ha : a ∈ l) (hb : b ∈ l) (e : f a = f b) : a = b := by
  induction l with
  | nil => cases ha
  | cons x l ih =>
    rw [List.map_cons, List.nodup_cons] at h
    have ha' := List.mem_cons.mp ha
    have hb' := List.mem_cons.mp hb
    by_cases h1 : a = x
    · by_cases h2 : b = x
      · rw [h1, h2]
      · exact absurd (List.mem_map.mpr ⟨b, hb'.resolve_left h2, by rw [← e, h1]⟩) h.1
    · by_cases h2 : b = x
      · exact absurd (List.mem_map.mpr ⟨a, ha'.resolve_left h1, by rw [e, h2]⟩) h.1
      · exact ih h.2 (ha'.resolve_left h1) (hb'.resolve_left h2)
theorem TbF.of {K : PySem.W.Frag} {mg : Str → Option Value} {base : Heap} {tf : List ((Str × Option Str) × Str)} (hn : tbNd tf K = true) (TB : ∀ p ∈ tf.map (fun p => He.cT K p.1), LamX.TabB base mg p.1 p.2) (i : Nat) {p : (Str × Option Str) × Str} (h : tf[i]? = some p := by rfl) : TbF K mg base (tbsOf K tf) p.1 p.2 := by
  have hm : p ∈ tf := List.mem_of_getElem? h
  refine ⟨TB _ (List.mem_map.mpr ⟨p, hm, rfl⟩), List.mem_map.mpr ⟨p, hm, rfl⟩, fun q hq e => ?_⟩
  obtain ⟨r, hr, rfl⟩ := List.mem_map.mp hq
  have : r = p := nodup_inj (of_decide_eq_true hn) hr hm e
  rw [this]
theorem fd_of {K : PySem.W.Frag} {x qual : Str} {at_ : Str × Option Str} {params : Arguments} {body : List Stmt} {scope : Scope} {kws : List (Str × V)} {ps : List Str} (h : ∃ fd, FunD K x qual params body scope [] kws (He.fAd K at_) fd)
    (hbi : ∀ (kV doc pm : Value) (an : Option Addr) (cdv ct : Value) (us : List Value), us.length = ps.length → bindArgs (PySem.W.fnOf x qual params body scope .none kV doc pm an cdv ct) ⟨us, []⟩ = pure (ps.zip us)) :
    ∃ fd, Binds K fd ps [] ∧ (∃ oc od osl, K.lookup (He.fAd K at_) = some ⟨oc, od, .func fd, osl⟩) ∧ ∀ (s : Shared) (us : List Value), us.length = ps.length → BindsTo s fd ⟨us, []⟩ (ps.zip us) := by
  obtain ⟨fd, F⟩ := h
  refine ⟨fd, F.bindsN hbi, ?_, FunD.bindsA F hbi⟩
  obtain ⟨oc, od, _, _, _, _, _, _, _, osl, _, h, _⟩ := F.ex
  exact ⟨oc, od, osl, h⟩
theorem finish_atL {l : PySem.W.OpenLaw} {w : World} {K : PySem.W.Frag} {mg : Str → Option Value} {fa : Addr} {h : Heap} {k : Nat} {x : Str} {m : List D → Store → Res D} {tf : List ((Str × Option Str) × Str)} (KX : K.In h) (hmg : mg "law" = some (.ref fa)) (hg : mg "law" = some (.ref (He.ga K "law")))
    (hd : ∀ p ∈ tf.map (·.1), PySem.W.codeHdIn K (He.cT K p).1 (He.cT K p).2 = true) (out : ∀ p ∈ tf.map (·.1), K.lookup (He.cT K p).2 = none) (empty : ∀ p ∈ tf.map (·.1), h.get? (He.cT K p).2 = some { cls := .none, data := .fields #[] })
    (hfd : ∃ fd, Binds K fd [x] [] ∧ (∃ oc od osl, K.lookup (He.fAd K ("law", none)) = some ⟨oc, od, .func fd, osl⟩) ∧ ∀ (s : Shared) (us : List Value), us.length = [x].length → BindsTo s fd ⟨us, []⟩ ([x].zip us))
    (F : ∀ base : Heap, (∀ p ∈ tf.map (fun p => He.cT K p.1), LamX.TabB base mg p.1 p.2) → DefOk l.prog w K mg base (tbsOf K tf) k ("law", none) [x] m) (hm : ∀ ns : List Int, ns.length ≤ 63 → ∃ st', m [.fix (ns.map .int)] [] = .ok (.bl true) st') :
    ∃ K : PySem.W.Frag, K.In h ∧ LamX.LawAtS l w K (L2N.CX l.prog w) k 63 x mg fa h := by
  rw [hg] at hmg
  cases hmg
  obtain ⟨fd, b, ⟨oc, od, osl, hlk⟩, hb⟩ := hfd
  have mp : ∀ {Q : Addr × Addr → Prop}, (∀ p ∈ tf.map (·.1), Q (He.cT K p)) → ∀ p ∈ tf.map (fun p => He.cT K p.1), Q p := fun hQ p hp => by
    obtain ⟨q, hq, rfl⟩ := List.mem_map.mp hp
    exact hQ q.1 (List.mem_map.mpr ⟨q, hq, rfl⟩)
  refine ⟨K, KX, fd, tf.map (fun p => He.cT K p.1), spM K (tbsOf K tf) 1 m, mp empty, mp out, mp (Q := fun c => PySem.W.CodeHd h c.1 c.2) (fun p hp => PySem.W.codeHd_of_K KX (hd p hp)), fun s u => hb s [u] rfl, fun H a ns hl _ hH hS => ?_, fun base _ _ TB => ?_⟩
  · obtain ⟨st', e⟩ := hm ns hl
    refine law_spL hS (fun p hp => ?_) e
    obtain ⟨q, hq, rfl⟩ := List.mem_map.mp hp
    exact LamX.TabS.nil (hH (He.cT K q.1) (List.mem_map.mpr ⟨q, hq, rfl⟩))
  · obtain ⟨⟨fd', _, G', ⟨oc', od', osl', hlk'⟩, _⟩, _⟩ := F base TB
    rw [hlk] at hlk'
    cases hlk'
    exact G'
end Mr
namespace Mr
open PySem PySem.Spec L2
/-! ### names forgotten, cells dropped -/
theorem wipeE_len (env : Env') : ∀ vs : List Nat, (wipeE env vs).length = env.length
  | [] => rfl
  | v :: vs => by rw [wipeE, List.length_set, wipeE_len env vs]
theorem wipeE_get (env : Env') (vs : List Nat) {i : Nat} {d : D} (h : (wipeE env vs)[i]? = some (some d)) : env[i]? = some (some d) := by
  induction vs with
  | nil => exact h
  | cons v vs ih =>
    rw [wipeE, List.getElem?_set] at h
    split at h
    · split at h <;> cases h
    · exact ih h
theorem RE.forget {K : PySem.W.Frag} {W : Wd} {env : Env'} {σ : St} (r : RE K W env σ) (vs : List Nat) : RE K W (wipeE env vs) σ :=
  ⟨by rw [wipeE_len, r.len], fun i d e => r.at_ i d (wipeE_get env vs e)⟩
def sPre (l : List Nat) (m : Sv) : Sv := fun env st => m (wipeE env l) st
mutual
def refsBb (n : Nat) : D → Bool
  | .lst xs => refsBbs n xs
  | .fix xs => refsBbs n xs
  | .tup xs => refsBbs n xs
  | .dct _ xs => refsBbs n xs
  | .ref k => decide (k < n)
  | .non => true
  | .bl _ => true
  | .int _ => true
  | .str _ => true
  | .ty _ => true
def refsBbs (n : Nat) : List D → Bool
  | [] => true
  | d :: ds => refsBb n d && refsBbs n ds
end
mutual
theorem refsBb_ok (n : Nat) : ∀ d : D, refsBb n d = true → refsB n d
  | .lst xs, h => by simp only [refsBb] at h; simp only [refsB]; exact refsBbs_ok n xs h
  | .fix xs, h => by simp only [refsBb] at h; simp only [refsB]; exact refsBbs_ok n xs h
  | .tup xs, h => by simp only [refsBb] at h; simp only [refsB]; exact refsBbs_ok n xs h
  | .dct _ xs, h => by simp only [refsBb] at h; simp only [refsB]; exact refsBbs_ok n xs h
  | .ref k, h => by simp only [refsBb, decide_eq_true_eq] at h; simpa only [refsB] using h
  | .non, _ => by simp only [refsB]
  | .bl _, _ => by simp only [refsB]
  | .int _, _ => by simp only [refsB]
  | .str _, _ => by simp only [refsB]
  | .ty _, _ => by simp only [refsB]
theorem refsBbs_ok (n : Nat) : ∀ ds : List D, refsBbs n ds = true → refsBs n ds
  | [], _ => by simp only [refsBs]
  | d :: ds, h => by
    simp only [refsBbs, Bool.and_eq_true] at h
    simp only [refsBs]
    exact ⟨refsBb_ok n d h.1, refsBbs_ok n ds h.2⟩
end
def cellBb (n : Nat) : Cell → Bool
  | .lst xs => refsBbs n xs
  | .dct _ xs => refsBbs n xs
  | .ins _ fs => fs.all fun q => refsBb n q.2
  | .dcf _ xs => refsBbs n xs
theorem cellBb_ok {n : Nat} {c : Cell} (h : cellBb n c = true) : cellB n c := by
  cases c with
  | lst xs => exact refsBbs_ok n xs h
  | dct ks xs => exact refsBbs_ok n xs h
  | dcf ks xs => exact refsBbs_ok n xs h
  | ins c fs => exact fun q hq => refsBb_ok n q.2 (List.all_eq_true.mp h q hq)
def frzO (n : Nat) (st : Store) : Option D → Option (Option D)
  | none => some none
  | some d => (frz n st 3 d).map some
def frzE (n : Nat) (st : Store) : Env' → Option Env'
  | [] => some []
  | o :: r => (frzO n st o).bind fun x => (frzE n st r).map fun xs => x :: xs
theorem frzE_ok {K : PySem.W.Frag} {T : Tb} {W : Wd} {st : Store} {H : Hp} {n : Nat} (R : RS K T W st H) : ∀ {env e' : Env'} {σ : St}, frzE n st env = some e' → RE K W env σ → RE K (W.cut n H) e' σ
  | [], e', σ, h, r => by
    cases h
    exact ⟨r.len, fun i d e => by simp at e⟩
  | o :: env, e', σ, h, r => by
    simp only [frzE, Option.bind_eq_some_iff, Option.map_eq_some_iff] at h
    obtain ⟨x, h1, xs, h2, rfl⟩ := h
    cases σ with
    | nil => have := r.len; simp at this
    | cons v σ =>
      have r2 : RE K W env σ := ⟨by have := r.len; simpa using this, fun i d e => r.at_ (i + 1) d (by simpa using e)⟩
      have q := frzE_ok R h2 r2
      refine ⟨by simpa using q.len, fun i d e => ?_⟩
      cases i with
      | zero =>
        simp only [List.getElem?_cons_zero, Option.some.injEq] at e
        subst e
        cases o with
        | none => simp [frzO] at h1
        | some d0 =>
          simp only [frzO, Option.map_eq_some_iff, Option.some.injEq] at h1
          obtain ⟨d1, h3, rfl⟩ := h1
          obtain ⟨u, g1, g2⟩ := r.at_ 0 d0 rfl
          exact ⟨u, g1, frz_ok R 3 d0 _ u h3 g2⟩
      | succ i =>
        obtain ⟨u, g1, g2⟩ := q.at_ i d (by simpa using e)
        exact ⟨u, by simpa using g1, g2⟩
def cutSt (st st' : Store) : Bool := decide (st'.take st.length = st) || (st'.take st.length).all (cellBb st.length)
def trimK (st : Store) (f : Fl) (e : Env') (st' : Store) : Res (Fl × Env') := if st'.length = st.length then .ok (f, e) st' else if cutSt st st' = true then match frzE st.length st' e with
  | some e' => .ok (f, e') (st'.take st.length)
  | none => .ok (f, e) st'
  else .ok (f, e) st'
def sTrim (l : List Nat) (m : Sv) : Sv := fun env st => (m env st).bind fun a st' => match a with
  | (.nx, e) => trimK st .nx (wipeE e l) st'
  | (.ct, e) => trimK st .ct (wipeE e l) st'
  | (.bk, e) => trimK st .bk (wipeE e l) st'
  | (.rt d, e) => .ok (.rt d, e) st'
theorem trimK_cases (st : Store) (f : Fl) (e : Env') (st' : Store) : (∃ e', cutSt st st' = true ∧ frzE st.length st' e = some e' ∧ trimK st f e st' = .ok (f, e') (st'.take st.length)) ∨ trimK st f e st' = .ok (f, e) st' := by
  unfold trimK
  split
  · exact .inr rfl
  split
  · rename_i hc
    split
    · rename_i e' h
      exact .inl ⟨e', hc, h, rfl⟩
    · exact .inr rfl
  · exact .inr rfl
section
variable {K : PySem.W.Frag} {T : Tb} {Wx : WX} {X : Cx}
theorem cutSt_ok {W W' : Wd} {st st' : Store} {H H' : Hp} (R : RS K T W st H) (R' : RS K T W' st' H') (l : W.le W') (h : cutSt st st' = true) : RS K T (W'.cut st.length H') (st'.take st.length) H' ∧ W.le (W'.cut st.length H') := by
  unfold cutSt at h
  rw [Bool.or_eq_true, decide_eq_true_eq, List.all_eq_true] at h
  refine ⟨cut_RS R' fun c hc => ?_, cut_le R R' l⟩
  rcases h with h | h
  · rw [h] at hc
    exact cells_B R c hc
  · exact cellBb_ok (h c hc)
theorem ss_trim {s : List Stmt} {m : Sv} (l : List Nat) (h : SSs T Wx X s m) : SSs T Wx X s (sTrim l m) := PSs.imp h fun D σ H q => by
  obtain ⟨W, env, st, re, rs, p⟩ := q
  refine ⟨W, env, st, re, rs, ?_⟩
  unfold sTrim at p
  cases hm : m env st with
  | no => rw [hm] at p; exact p
  | ex c st' => rw [hm] at p; exact p
  | ok a st' =>
    rw [hm] at p
    obtain ⟨f, e⟩ := a
    cases f with
    | rt d => exact p
    | nx =>
      have p : PostS X.K T Wx W (trimK st .nx (wipeE e l) st') D := p
      intro W' σ' H' le re' rs'
      rcases trimK_cases st .nx (wipeE e l) st' with ⟨e', h1, h2, h3⟩ | h3
      · rw [h3] at p
        obtain ⟨c1, c2⟩ := cutSt_ok rs rs' le h1
        exact p _ σ' H' c2 (frzE_ok rs' h2 (re'.forget l)) c1
      · rw [h3] at p
        exact p W' σ' H' le (re'.forget l) rs'
    | ct =>
      have p : PostS X.K T Wx W (trimK st .ct (wipeE e l) st') D := p
      intro W' σ' H' le re' rs'
      rcases trimK_cases st .ct (wipeE e l) st' with ⟨e', h1, h2, h3⟩ | h3
      · rw [h3] at p
        obtain ⟨c1, c2⟩ := cutSt_ok rs rs' le h1
        exact p _ σ' H' c2 (frzE_ok rs' h2 (re'.forget l)) c1
      · rw [h3] at p
        exact p W' σ' H' le (re'.forget l) rs'
    | bk =>
      have p : PostS X.K T Wx W (trimK st .bk (wipeE e l) st') D := p
      intro W' σ' H' le re' rs'
      rcases trimK_cases st .bk (wipeE e l) st' with ⟨e', h1, h2, h3⟩ | h3
      · rw [h3] at p
        obtain ⟨c1, c2⟩ := cutSt_ok rs rs' le h1
        exact p _ σ' H' c2 (frzE_ok rs' h2 (re'.forget l)) c1
      · rw [h3] at p
        exact p W' σ' H' le (re'.forget l) rs'
theorem ss_pre {s : Stmt} {m : Sv} (l : List Nat) (h : SS T Wx X s m) : SS T Wx X s (sPre l m) := PS.imp h fun D σ H q => by
  obtain ⟨W, env, st, re, rs, p⟩ := q
  exact ⟨W, wipeE env l, st, re.forget l, rs, p⟩
end
/-! a def that changes cells, but leaves none behind -/
def mClean (m : List D → Store → Res D) (ds : List D) (st : Store) : Res D := match m ds st with
  | .ok d st' => if st'.length = st.length then .ok d st' else if cutSt st st' = true then match frz st.length st' 3 d with
    | some d' => .ok d' (st'.take st.length)
    | none => .ok d st'
    else .ok d st'
  | .ex c st' => if st'.length = st.length then .ex c st' else if cutSt st st' = true then .ex c (st'.take st.length) else .ex c st'
  | .no => .no
theorem clean_sp {K : PySem.W.Frag} {T : Tb} {n : Nat} {m : List D → Store → Res D} (vs : List V) (H : Hp) (Q : VK) (E : XK) (h : spM K T n (mClean m) vs H Q E) : spM K T n m vs H Q E := by
  obtain ⟨W, ds, st, hl, r, rs, p⟩ := h
  refine ⟨W, ds, st, hl, r, rs, ?_⟩
  unfold mClean at p
  cases hm : m ds st with
  | ok d st' =>
    rw [hm] at p
    simp only at p
    split at p
    · exact p
    split at p
    · rename_i hc
      split at p
      · rename_i d' hd
        intro W' v H' l rv rs'
        obtain ⟨c1, c2⟩ := cutSt_ok rs rs' l hc
        exact p (W'.cut st.length H') v H' c2 (frz_ok rs' 3 d d' v hd rv) c1
      · exact p
    · exact p
  | ex c st' =>
    rw [hm] at p
    simp only at p
    split at p
    · exact p
    split at p
    · rename_i hc
      intro W' H' l rs'
      obtain ⟨c1, c2⟩ := cutSt_ok rs rs' l hc
      exact p (W'.cut st.length H') H' c2 c1
    · exact p
  | no => rw [hm] at p; exact p
theorem DefOk.clean {P : Program} {w : World} {K : PySem.W.Frag} {mg : Str → Option Value} {base : Heap} {T : Tb} {k : Nat} {x : Str × Option Str} {ps : List Str} {m : List D → Store → Res D} (h : DefOk P w K mg base T k x ps m) : DefOk P w K mg base T k x ps (mClean m) := by
  obtain ⟨⟨fd, b, F, zz⟩, kp⟩ := h
  exact ⟨⟨fd, b, F.imp clean_sp, zz⟩, kp⟩
/-! ### reckoning with them -/
theorem trim_nx {l : List Nat} {m : Sv} {env e : Env'} {st st' : Store} (h : m env st = .ok (.nx, e) st') (hl : st'.length = st.length) : sTrim l m env st = .ok (.nx, wipeE e l) st' := by
  unfold sTrim
  rw [h]
  show trimK st .nx (wipeE e l) st' = _
  unfold trimK
  rw [if_pos hl]
theorem trim_bk {l : List Nat} {m : Sv} {env e : Env'} {st st' : Store} (h : m env st = .ok (.bk, e) st') (hl : st'.length = st.length) : sTrim l m env st = .ok (.bk, wipeE e l) st' := by
  unfold sTrim
  rw [h]
  show trimK st .bk (wipeE e l) st' = _
  unfold trimK
  rw [if_pos hl]
theorem trim_ct {l : List Nat} {m : Sv} {env e : Env'} {st st' : Store} (h : m env st = .ok (.ct, e) st') (hl : st'.length = st.length) : sTrim l m env st = .ok (.ct, wipeE e l) st' := by
  unfold sTrim
  rw [h]
  show trimK st .ct (wipeE e l) st' = _
  unfold trimK
  rw [if_pos hl]
theorem trim_rt {l : List Nat} {m : Sv} {env e : Env'} {d : D} {st st' : Store} (h : m env st = .ok (.rt d, e) st') : sTrim l m env st = .ok (.rt d, e) st' := by
  unfold sTrim
  rw [h]
  rfl
theorem trim_cut {l : List Nat} {m : Sv} {env e e' : Env'} {st cs : Store} (h : m env st = .ok (.nx, e) (st ++ cs)) (hf : frzE st.length (st ++ cs) (wipeE e l) = some e') (hn : cs ≠ []) : sTrim l m env st = .ok (.nx, e') st := by
  unfold sTrim
  rw [h]
  show trimK st .nx (wipeE e l) (st ++ cs) = _
  unfold trimK
  have h1 : ¬ (st ++ cs).length = st.length := by
    rw [List.length_append]
    have := List.length_pos_iff.mpr hn
    omega
  have h2 : cutSt st (st ++ cs) = true := by
    unfold cutSt
    rw [List.take_left]
    simp
  rw [if_neg h1, if_pos h2, hf, List.take_left]
/-- a loop: the names' state E, the cells' state S, step f -/
theorem forL_fold {α β : Type} {chk : Store → Bool} {tg : Tg} {b : Sv} (g : α → D) (E : β → Env') (S : β → Store) (P : β → Prop) (f : β → α → β) : ∀ (l : List α) (s : β), (∀ s a, a ∈ l → P s → chk (S s) = true ∧ ∃ env1, setT tg (g a) (E s) = some env1 ∧ b env1 (S s) = .ok (.nx, E (f s a)) (S (f s a)) ∧ P (f s a)) → (∀ s, P s → chk (S s) = true) → P s →
    forL chk tg b (l.map g) (E s) (S s) = .ok (.nx, E (l.foldl f s)) (S (l.foldl f s)) ∧ P (l.foldl f s)
  | [], s, _, last, hP => ⟨by simp [forL, last s hP], hP⟩
  | a :: r, s, step, last, hP => by
    obtain ⟨hk, env1, h1, h2, h3⟩ := step s a List.mem_cons_self hP
    obtain ⟨g1, g2⟩ := forL_fold g E S P f r (f s a) (fun s x hx => step s x (List.mem_cons_of_mem _ hx)) last h3
    exact ⟨by simp [forL, hk, h1, h2, Res.bind, g1], g2⟩
/-- a loop that leaves all as it was -/
theorem forL_same {α : Type} {chk : Store → Bool} {tg : Tg} {b : Sv} {env : Env'} {st : Store} (g : α → D) (l : List α) (hk : chk st = true) (h : ∀ a ∈ l, ∃ env1, setT tg (g a) env = some env1 ∧ b env1 st = .ok (.nx, env) st) : forL chk tg b (l.map g) env st = .ok (.nx, env) st :=
  (forL_fold g (fun _ : Unit => env) (fun _ => st) (fun _ => True) (fun _ _ => ()) l () (fun _ a ha _ => by
    obtain ⟨e1, h1, h2⟩ := h a ha
    exact ⟨hk, e1, h1, h2, trivial⟩) (fun _ _ => hk) trivial).1
theorem for_pre {l : List Nat} {mi : Ev Src} {tg : Tg} {b : Sv} {env env' : Env'} {st st1 st' : Store} {s : Src} {ds : List D} (hi : mi (wipeE env l) st = .ok s st1) (hd : s.items = ds) (h : forL s.chk tg b ds (wipeE env l) st1 = .ok (.nx, env') st') : sPre l (sFor mi tg b) env st = .ok (.nx, env') st' := by
  subst hd
  unfold sPre
  rw [sFor_eq hi]
  exact h
theorem wh_pre {l : List Nat} {n : Nat} {t : Ev Bool} {b : Sv} {env env' : Env'} {st st' : Store} (h : whL t b n (wipeE env l) st = .ok (.nx, env') st') : sPre l (sWhile n t b) env st = .ok (.nx, env') st' := h
theorem whL_step {t : Ev Bool} {b : Sv} {n : Nat} {env env1 : Env'} {st st1 : Store} {r : Res (Fl × Env')} (h1 : t env st = .ok true st) (h2 : b env st = .ok (.nx, env1) st1) (h3 : whL t b n env1 st1 = r) : whL t b (n + 1) env st = r := by
  unfold whL
  simp only [h1, Res.ok_bind, if_true, h2]
  exact h3
theorem whL_stop {t : Ev Bool} {b : Sv} {n : Nat} {env : Env'} {st : Store} (h1 : t env st = .ok false st) : whL t b (n + 1) env st = .ok (.nx, env) st := by
  unfold whL
  rw [h1]
  rfl
theorem whL_break {t : Ev Bool} {b : Sv} {n : Nat} {env env1 : Env'} {st st1 : Store} (h1 : t env st = .ok true st) (h2 : b env st = .ok (.bk, env1) st1) : whL t b (n + 1) env st = .ok (.nx, env1) st1 := by
  unfold whL
  simp only [h1, Res.ok_bind, if_true, h2]
end Mr
namespace Mr
open PySem PySem.Spec L2
/-! ### the law's try, reckoned -/
theorem toldM_ok {me : Ev D} {env : Env'} {st st' : Store} {d : D} (h : me env st = .ok d st') : toldM me env st = .ok d st' := by
  unfold toldM mTold
  rw [h]
theorem toldM_ex {me : Ev D} {env : Env'} {st st' : Store} {c : Str} (h : me env st = .ex c st') (hc : c ∈ [nmW 0, nmW 1, nmW 2, nmW 3, nmW 4] := by decide) : toldM me env st = .ok (refD c) st' := by
  unfold toldM mTold
  rw [h]
  show (if c ∈ [nmW 0, nmW 1, nmW 2, nmW 3, nmW 4] then _ else _) = _
  rw [if_pos hc]
/-! ### the law's outer loop -/
theorem law_of {N : Nat} {l : List Nat} {c : Int} {w : Sv} (ns : List Int) (hl : wipeE (startE N [.fix (ns.map .int)]) l = startE N [.fix (ns.map .int)]) (hN : 2 ≤ N) (hc : c ≤ 100)
    (h : ∀ k : Int, 0 ≤ k → sTrim l w ((startE N [.fix (ns.map .int)]).set 1 (some (.int k))) [] = .ok (.nx, startE N [.fix (ns.map .int)]) []) :
    mPure (mDef N (sSeq (sPre l (sFor (mIA (fun _ => srcR1) (mCons (mCall cMax (mCons (mC (.int 1)) (mCons (mCall cMin (mCons (mC (.int c)) (mCons (mCall cLen (mCons (mVar 0) mNil)) mNil))) mNil))) mNil)) (.one 1) (sTrim l w))) (sRet (mC (.bl true))))) [.fix (ns.map .int)] [] = .ok (.bl true) [] := by
  refine def_fin ?_ rfl
  have h0 : (startE N [.fix (ns.map .int)])[0]? = some (some (.fix (ns.map .int))) := by simp [startE]
  have hmm : ∃ n : Nat, mIA (fun _ => srcR1) (mCons (mCall cMax (mCons (mC (.int 1)) (mCons (mCall cMin (mCons (mC (.int c)) (mCons (mCall cLen (mCons (mVar 0) mNil)) mNil))) mNil))) mNil) (startE N [.fix (ns.map .int)]) [] = .ok ⟨rngD 0 n, yes⟩ [] := by
    refine ⟨(if (if (ns.length : Int) < c then (ns.length : Int) else c) > 1 then (if (ns.length : Int) < c then (ns.length : Int) else c) else 1 : Int).toNat, ?_⟩
    have hcl : cLen [] [.fix (ns.map .int)] = some (.int ns.length) := by
      show some (D.int ((ns.map D.int).length : Int)) = _
      rw [List.length_map]
    simp only [mIA, mCons, mNil, mCall, mC, mVar, h0, Res.ok_bind, Res.of_some, hcl, cMin, cMax, srcR1]
    rw [if_pos (by split <;> split <;> omega)]
    rfl
  obtain ⟨n, hmm⟩ := hmm
  refine fin_nx (for_pre (by rw [hl]; exact hmm) (ds := (List.range n).map fun i : Nat => D.int ((0 : Int) + (i : Int))) rfl (env' := startE N [.fix (ns.map .int)]) (st' := []) ?_) (fin_ret rfl)
  rw [hl]
  refine forL_same (fun i : Nat => D.int ((0 : Int) + (i : Int))) (List.range n) rfl fun i _ => ⟨_, rfl, ?_⟩
  exact h _ (by omega)
/-! ### tests -/
theorem test_eq {m : Ev D} {env : Env'} {st st' : Store} {b : Bool} (h : m env st = .ok (.bl b) st') : mTest m env st = .ok b st' := by
  unfold mTest
  rw [h]
  rfl
theorem ifF {t : Ev Bool} {m n : Sv} {env : Env'} {st : Store} {r : Res (Fl × Env')} (h : t env st = .ok false st) (g : n env st = r) : sIf t m n env st = r := by rw [sIf_eq h, if_neg (by decide)]; exact g
theorem ifT {t : Ev Bool} {m n : Sv} {env : Env'} {st : Store} {r : Res (Fl × Env')} (h : t env st = .ok true st) (g : m env st = r) : sIf t m n env st = r := by rw [sIf_eq h, if_pos rfl]; exact g
/-- an if that does nothing, ahead of the rest -/
theorem seq_skip {t : Ev Bool} {m r : Sv} {env : Env'} {st : Store} {z : Res (Fl × Env')} (h : t env st = .ok false st) (g : r env st = z) : sSeq (sIf t m sNil) r env st = z := by rw [seq_if false h, if_neg (by decide)]; exact g
theorem last_skip {t : Ev Bool} {m : Sv} {env : Env'} {st : Store} (h : t env st = .ok false st) : sIf t m sNil env st = .ok (.nx, env) st := ifF h rfl
theorem orF {ma mb : Ev Bool} {env : Env'} {st : Store} (h1 : ma env st = .ok false st) (h2 : mb env st = .ok false st) : mOrT ma mb env st = .ok false st := mOrT_bl h1 fun _ => h2
theorem seq_asg {m : Ev D} {i : Nat} {r : Sv} {env : Env'} {st st1 : Store} {d : D} {z : Res (Fl × Env')} (h : m env st = .ok d st1) (g : r (env.set i (some d)) st1 = z) : sSeq (sAsg m (.one i)) r env st = z := by
  refine seq_nx (env' := env.set i (some d)) (st' := st1) ?_ g
  unfold sAsg
  rw [h]
  rfl
theorem asg_eq {m : Ev D} {i : Nat} {env : Env'} {st st1 : Store} {d : D} (h : m env st = .ok d st1) : sAsg m (.one i) env st = .ok (.nx, env.set i (some d)) st1 := by
  unfold sAsg
  rw [h]
  rfl
theorem call_2 {n : Nat} {m : List D → Store → Res D} {ma mb : Ev D} {env : Env'} {st : Store} {d e : D} (hn : n = 2) (h : ma env st = .ok d st) (g : mb env st = .ok e st) : mCallD n m (mCons ma (mCons mb mNil)) env st = m [d, e] st := by
  subst hn
  simp [mCallD, mCons, mNil, h, g, Res.bind]
theorem call_3 {n : Nat} {m : List D → Store → Res D} {ma mb mc : Ev D} {env : Env'} {st : Store} {d e f : D} (hn : n = 3) (h : ma env st = .ok d st) (g : mb env st = .ok e st) (k : mc env st = .ok f st) : mCallD n m (mCons ma (mCons mb (mCons mc mNil))) env st = m [d, e, f] st := by
  subst hn
  simp [mCallD, mCons, mNil, h, g, k, Res.bind]
theorem bin_eq {g : Store → D → D → Option D} {ma mb : Ev D} {env : Env'} {st : Store} {d e z : D} (h1 : ma env st = .ok d st) (h2 : mb env st = .ok e st) (h : g st d e = some z) : mBin g ma mb env st = .ok z st := by
  simp only [mBin, h1, h2, Res.ok_bind, h, Res.of_some]
/-- told != due, both data -/
theorem ne_same {ma mb : Ev D} {env : Env'} {st : Store} {d : D} (h1 : ma env st = .ok d st) (h2 : mb env st = .ok d st) (hd : okD 60 d = true) : mTest (mBin gNe ma mb) env st = .ok false st := by
  refine test_eq (bin_eq h1 h2 ?_)
  unfold gNe
  rw [eqD_ok (n := 60) (m := 60) (by decide) (by decide) hd hd]
  simp
/-! ### a loop, step by step -/
section
variable {chk : Store → Bool} {tg : Tg} {b : Sv} {d e : D} {l : List D} {env env1 env2 : Env'} {st st2 : Store} {c : Str} {r : Res (Fl × Env')}
theorem forL_nil (hk : chk st = true) : forL chk tg b [] env st = .ok (.nx, env) st := by simp only [forL, hk, if_true]
theorem forL_step (hk : chk st = true) (h1 : setT tg d env = some env1) (h2 : b env1 st = .ok (.nx, env2) st2) (h3 : forL chk tg b l env2 st2 = r) : forL chk tg b (d :: l) env st = r := by
  simp only [forL, hk, if_true, h1, h2, Res.ok_bind]
  exact h3
theorem forL_ct (hk : chk st = true) (h1 : setT tg d env = some env1) (h2 : b env1 st = .ok (.ct, env2) st2) (h3 : forL chk tg b l env2 st2 = r) : forL chk tg b (d :: l) env st = r := by
  simp only [forL, hk, if_true, h1, h2, Res.ok_bind]
  exact h3
theorem forL_bk (hk : chk st = true) (h1 : setT tg d env = some env1) (h2 : b env1 st = .ok (.bk, env2) st2) : forL chk tg b (d :: l) env st = .ok (.nx, env2) st2 := by
  simp only [forL, hk, if_true, h1, h2, Res.ok_bind]
theorem forL_rt (hk : chk st = true) (h1 : setT tg d env = some env1) (h2 : b env1 st = .ok (.rt e, env2) st2) : forL chk tg b (d :: l) env st = .ok (.rt e, env2) st2 := by
  simp only [forL, hk, if_true, h1, h2, Res.ok_bind]
theorem forL_ex (hk : chk st = true) (h1 : setT tg d env = some env1) (h2 : b env1 st = .ex c st2) : forL chk tg b (d :: l) env st = .ex c st2 := by
  simp only [forL, hk, if_true, h1, h2, Res.ex_bind]
end
/-! ### a body, forward -/
def Goes (m : Sv) (env : Env') (st : Store) (P : Env' → Store → Prop) : Prop := ∃ e st', m env st = .ok (.nx, e) st' ∧ P e st'
section
variable {m : Ev D} {s r : Sv} {t : Ev Bool} {a b : Sv} {i : Nat} {env e : Env'} {st st1 : Store} {d : D} {P : Env' → Store → Prop} {l : List Nat}
theorem go_nx (h : s env st = .ok (.nx, e) st1) (g : Goes r e st1 P) : Goes (sSeq s r) env st P := by
  obtain ⟨e2, st2, g1, g2⟩ := g
  exact ⟨e2, st2, seq_nx h g1, g2⟩
theorem go_goes {Q : Env' → Store → Prop} (h : Goes s env st Q) (g : ∀ e st1, Q e st1 → Goes r e st1 P) : Goes (sSeq s r) env st P := by
  obtain ⟨e, st1, h1, h2⟩ := h
  exact go_nx h1 (g e st1 h2)
theorem go_E (h : s env st = .ok (.nx, e) st1) (g : P e st1) : Goes s env st P := ⟨e, st1, h, g⟩
theorem go_asg (h : m env st = .ok d st1) (g : Goes r (env.set i (some d)) st1 P) : Goes (sSeq (sAsg m (.one i)) r) env st P := go_nx (asg_eq h) g
theorem go_asgE (h : m env st = .ok d st1) (g : P (env.set i (some d)) st1) : Goes (sAsg m (.one i)) env st P := go_E (asg_eq h) g
theorem go_drop (h : m env st = .ok d st1) (g : Goes r env st1 P) : Goes (sSeq (sDrop m) r) env st P := go_nx (drop_nx h) g
theorem go_dropE (h : m env st = .ok d st1) (g : P env st1) : Goes (sDrop m) env st P := go_E (drop_nx h) g
theorem go_skip (h : t env st = .ok false st) (g : Goes r env st P) : Goes (sSeq (sIf t a sNil) r) env st P := go_nx (last_skip h) g
theorem go_skipE (h : t env st = .ok false st) (g : P env st) : Goes (sIf t a sNil) env st P := go_E (last_skip h) g
theorem go_ifT (h : t env st = .ok true st) (g : Goes a env st P) : Goes (sIf t a b) env st P := by
  obtain ⟨e2, st2, g1, g2⟩ := g
  exact ⟨e2, st2, ifT h g1, g2⟩
theorem go_ifF (h : t env st = .ok false st) (g : Goes b env st P) : Goes (sIf t a b) env st P := by
  obtain ⟨e2, st2, g1, g2⟩ := g
  exact ⟨e2, st2, ifF h g1, g2⟩
theorem go_trim {env' : Env'} (h : Goes s env st fun e st' => wipeE e l = env' ∧ st' = st) : sTrim l s env st = .ok (.nx, env') st := by
  obtain ⟨e, st', h1, h2, rfl⟩ := h
  rw [trim_nx h1 rfl, h2]
theorem go_trim2 {env' : Env'} {st2 : Store} (h : Goes s env st fun e st' => wipeE e l = env' ∧ st' = st2) (hl : st2.length = st.length) : sTrim l s env st = .ok (.nx, env') st2 := by
  obtain ⟨e, st', h1, h2, rfl⟩ := h
  rw [trim_nx h1 hl, h2]
end
end Mr
namespace Mr
open PySem PySem.Spec PyProof.Rows L2
/-! ### keys met, each once -/
def memK (acc : List Key) (k : Key) : Bool := acc.any fun j => decide (j = k)
theorem memK_iff {acc : List Key} {k : Key} : memK acc k = true ↔ k ∈ acc := by
  unfold memK
  rw [List.any_eq_true]
  exact ⟨fun ⟨j, h, e⟩ => by rw [← of_decide_eq_true e]; exact h, fun h => ⟨k, h, decide_eq_true rfl⟩⟩
theorem memK_not {acc : List Key} {k : Key} (h : k ∉ acc) : memK acc k = false := by
  cases e : memK acc k with
  | false => rfl
  | true => exact absurd (memK_iff.mp e) h
def keyStep (acc : List Key) (k : Key) : List Key := if memK acc k = true then acc else acc ++ [k]
theorem SetOf_to {P : Program} {w : World} {h : Heap} {a : Addr} {S S' : Key → Bool} {n n' : Nat} (hS : h.SetOf (mixKind P w) a S n) (e : ∀ k, S k = S' k) (en : n = n') : h.SetOf (mixKind P w) a S' n' := by
  cases funext e
  subst en
  exact hS
def keysMet (ks : List Key) : List Key := ks.foldl keyStep []
theorem keyStep_any (acc : List Key) (v k : Key) : memK (keyStep acc v) k = (memK acc k || decide (k = v)) := by
  unfold keyStep
  by_cases h : memK acc v = true
  · rw [if_pos h]
    by_cases e : k = v
    · subst e; simp [h]
    · simp [e]
  · rw [if_neg h]
    unfold memK
    rw [List.any_append]
    by_cases e : k = v
    · subst e; simp
    · have e2 : ¬ v = k := fun z => e z.symm
      simp [e, e2]
theorem keyStep_len (acc : List Key) (v : Key) : (keyStep acc v).length = if memK acc v = true then acc.length else acc.length + 1 := by
  unfold keyStep
  split <;> simp
theorem keysMet_succ {ks : List Key} {i : Nat} {k : Key} (h : ks[i]? = some k) : keysMet (ks.take (i + 1)) = keyStep (keysMet (ks.take i)) k := by
  unfold keysMet
  rw [List.take_add_one, h, List.foldl_append]
  rfl
theorem keyStep_le (acc : List Key) (v : Key) : (keyStep acc v).length ≤ acc.length + 1 := by
  rw [keyStep_len]; split <;> omega
theorem keysFold_le : ∀ (ks acc : List Key), (ks.foldl keyStep acc).length ≤ acc.length + ks.length
  | [], acc => by simp
  | k :: ks, acc => by
    have h1 := keysFold_le ks (keyStep acc k)
    have h2 := keyStep_le acc k
    simp only [List.foldl_cons, List.length_cons]
    omega
theorem keysMet_le (ks : List Key) : (keysMet ks).length ≤ ks.length := by
  have := keysFold_le ks []
  simpa [keysMet] using this
theorem keysFold_nd : ∀ (ks acc : List Key), ks.Nodup → (∀ k ∈ ks, k ∉ acc) → (ks.foldl keyStep acc).length = acc.length + ks.length
  | [], acc, _, _ => by simp
  | k :: ks, acc, h, g => by
    rw [List.nodup_cons] at h
    have e : keyStep acc k = acc ++ [k] := if_neg (by rw [memK_not (g k List.mem_cons_self)]; decide)
    rw [List.foldl_cons, e, keysFold_nd ks (acc ++ [k]) h.2 fun j hj hm => ?_]
    · simp only [List.length_append, List.length_cons, List.length_nil]; omega
    · rcases List.mem_append.mp hm with hm | hm
      · exact g j (List.mem_cons_of_mem _ hj) hm
      · simp at hm; subst hm; exact h.1 hj
theorem keysFold_lt : ∀ (ks acc : List Key), (ks.foldl keyStep acc).length = acc.length + ks.length → ks.Nodup ∧ ∀ k ∈ ks, k ∉ acc
  | [], acc, _ => ⟨List.nodup_nil, fun k hk => by cases hk⟩
  | k :: ks, acc, h => by
    rw [List.foldl_cons] at h
    simp only [List.length_cons] at h
    have h1 := keysFold_le ks (keyStep acc k)
    have h2 := keyStep_le acc k
    have hk : k ∉ acc := fun hm => by
      have e : keyStep acc k = acc := if_pos (memK_iff.mpr hm)
      rw [e] at h1 h
      omega
    have e : keyStep acc k = acc ++ [k] := if_neg (by rw [memK_not hk]; decide)
    rw [e] at h
    obtain ⟨g1, g2⟩ := keysFold_lt ks (acc ++ [k]) (by rw [h]; simp only [List.length_append, List.length_cons, List.length_nil]; omega)
    refine ⟨List.nodup_cons.mpr ⟨fun hm => g2 k hm (by simp), g1⟩, fun j hj => ?_⟩
    rcases List.mem_cons.mp hj with rfl | hj
    · exact hk
    · exact fun hm => g2 j hj (List.mem_append_left _ hm)
/-- so many of them as there are, just if none is there twice -/
theorem keysMet_eq (ks : List Key) : (keysMet ks).length = ks.length ↔ ks.Nodup := by
  refine ⟨fun h => (keysFold_lt ks [] (by simpa [keysMet] using h)).1, fun h => ?_⟩
  have := keysFold_nd ks [] h (fun _ _ hm => by cases hm)
  simpa [keysMet] using this
section
variable {P : Program} {w : World} {A : Around} {R : Result → Shared → Prop} {J : Addr} {fp wr : List Addr} {G : Array GenState → Array GenState → Prop} {n : Nat} {Y : Nat → Value → Prop} {St : Nat → Shared → Prop}
theorem setLoopK (W : WalksS P w A.in1 J fp wr G n Y St) (B : Addr) (hB : B ∉ fp) (ks : List Key) (hsz : ks.length = n) (hval : ∀ i v, Y i v → ∃ k, ks[i]? = some k ∧ keyIs k v = true) (hb : n + 1 < scanBound) :
    ∀ (q i : Nat) (s : Shared), n - i = q → i ≤ n → St i s → s.heap.SetOf (mixKind P w) B (fun k => memK (keysMet (ks.take i)) k) (keysMet (ks.take i)).length →
      (∀ s', Moved (B :: wr) G s s' → s'.heap.SetOf (mixKind P w) B (fun k => memK (keysMet ks) k) (keysMet ks).length → R (.ok (.ret .none)) s') →
      codeAny (model P w) A (.builtin "set.update.loop" ⟨[.ref B, .ref J], []⟩) R s := by
  have hw : B ∉ wr := fun z => hB (W.sub _ z)
  have hs : ∀ b ∈ wr, b ∈ B :: wr := fun b z => List.mem_cons_of_mem _ z
  intro q
  induction q with
  | zero =>
    intro i s hq hi st hS hR
    obtain rfl : i = n := by omega
    refine codeAny_builtin F.entry_set_update_loop ((Around.under_plainId F.plain_set_update_loop _).symm ▸ ?_)
    show wpAny _ A.in1 (pyNext (.ref J) >>= _) _ _ s
    refine wpAny_bind (W.done s _ _ st fun s2 mv => ?_)
    show wpAny _ A.in1 (ret Value.none) _ _ s2
    rw [List.take_of_length_le (by omega)] at hS
    refine wpAny_pure (hR s2 (mv.mono hs) ?_)
    obtain ⟨o, es, ep, t, ho, more⟩ := hS
    exact ⟨o, es, ep, t, mv.heap B _ hw ho, more⟩
  | succ q ih =>
    intro i s hq hi st hS hR
    have hlt : i < n := by omega
    refine codeAny_builtin F.entry_set_update_loop ((Around.under_plainId F.plain_set_update_loop _).symm ▸ ?_)
    show wpAny _ A.in1 (pyNext (.ref J) >>= _) _ _ s
    refine wpAny_bind (W.item i s _ _ hlt st fun v s2 hy st2 mv => ?_)
    obtain ⟨k, hk, his⟩ := hval i v hy
    have hsc : v.scannable = true := by
      rcases keyIs_shape his with ⟨_, _, _, rfl⟩ | ⟨_, _, _, rfl⟩ <;> rfl
    have hS2 : s2.heap.SetOf (mixKind P w) B (fun k => memK (keysMet (ks.take i)) k) (keysMet (ks.take i)).length := by
      obtain ⟨o, es, ep, t, ho, more⟩ := hS
      exact ⟨o, es, ep, t, mv.heap B _ hw ho, more⟩
    show wpAny _ A.in1 (holding [v] (setAdd B v) >>= _) _ _ s2
    refine wpAny_bind (wpAny_holding ?_)
    unfold setAdd
    refine wpAny_holding (wpAny_bind ((mixKind P w).pyHash (k := k) his ?_))
    have hroom : (keysMet (ks.take i)).length + 1 < scanBound := by
      have h1 := keysMet_le (ks.take i)
      rw [List.length_take] at h1
      omega
    refine wpAny_setAddHashed_of (knd := mixKind P w) (s := { s2 with toks := s2.toks + 1 }) his hsc hS2 hroom fun g sb hS3 => ?_
    have hS4 : g.SetOf (mixKind P w) B (fun k => memK (keysMet (ks.take (i + 1))) k) (keysMet (ks.take (i + 1))).length :=
      SetOf_to hS3 (fun j => by rw [keysMet_succ hk, keyStep_any]) (by rw [keysMet_succ hk, keyStep_len])
    refine wpAny_pure ⟨plainId_quiet F.plain_set_update_loop _, ih (i + 1) _ (by omega) hlt (W.frame _ s2 _ _ st2 (Nat.le_succ _) fun b z o e => ?_) hS4 fun s3 mv3 hS5 => ?_⟩
    · rw [sb.2 b (fun y => hB (y ▸ z))]; exact e
    · refine hR s3 (Moved.trans W.gtrans ((mv.mono hs).then_heap (Nat.le_succ _) fun b o z e => ?_) mv3) hS5
      rw [sb.2 b (fun y => z (y ▸ List.mem_cons_self))]; exact e
end
/-- values that are keys -/
inductive KeysAre : List Value → List Key → Prop
  | nil : KeysAre [] []
  | cons {v : Value} {k : Key} {vs : List Value} {ks : List Key} : keyIs k v = true → KeysAre vs ks → KeysAre (v :: vs) (k :: ks)
theorem KeysAre.len {vs : List Value} {ks : List Key} (h : KeysAre vs ks) : ks.length = vs.length := by
  induction h with
  | nil => rfl
  | cons _ _ ih => simp [ih]
theorem KeysAre.at_ {vs : List Value} {ks : List Key} (h : KeysAre vs ks) : ∀ {i : Nat} {v : Value}, vs[i]? = some v → ∃ k, ks[i]? = some k ∧ keyIs k v = true := by
  induction h with
  | nil => intro i v e; simp at e
  | cons h1 _ ih =>
    intro i v e
    cases i with
    | zero => simp at e; subst e; exact ⟨_, rfl, h1⟩
    | succ i => exact ih (by simpa using e)
section
variable {P : Program} {w : World} {A : Around} {E : Value → Shared → Prop} {s : Shared}
/-- set(xs), xs a list of keys -/
theorem call_set_keys_list {l : Addr} {its : Array Value} (ks : List Key) {Q : Value → Shared → Prop} (hh : A.handled = none) (hl : s.heap.IsList l its) (hk : KeysAre its.toList ks) (hb : ks.length + 1 < scanBound)
    (h : ∀ (g : Heap) (tk : Nat), g.SetOf (mixKind P w) s.heap.objs.size (fun k => memK (keysMet ks) k) (keysMet ks).length → (∀ b o, s.heap.get? b = some o → g.get? b = some o) → Q (.ref s.heap.objs.size) { s with heap := g, toks := tk }) :
    wpAny (model P w) A (call (.type "set") [.ref l]) Q E s := by
  obtain ⟨_, _, hmro⟩ := PySem.F.called_set.mro
  have hmade := PySem.F.called_set.made; have hsub := PySem.F.called_set.sub
  refine wpAny_call (codeAny_of_tree (show wpAny _ _ (callAny (.type "set") _) _ _ _ from wpAny_pure ⟨Code.quiet_builtin _ (by decide +kernel), codeAny_builtin PySem.F.entry_type_call ?_⟩))
  rw [Around.under_plain (weight_type_call_type "set" [.ref l] []) rfl]
  have h1 := PySem.F.called_set.notType; have h2 := PySem.F.called_set.canCreate; have hct := PySem.F.typeCall_set_1 (.ref l)
  repeat (any_goals (first | assumption | wp_step))

  refine codeAny_mono (code_set_new_1 (.ref l) (E := E) (Q₁ := fun b s1 => ∃ d : Bool, b = .ref s.heap.objs.size ∧ s1 = { s with heap := s.heap.push { cls := .type "set", dict := none, data := .set #[] 0 (.fresh 0 0 d) } }) fun d => ⟨d, rfl, rfl⟩) fun r s1 hr => ?_
  cases r with
  | error e => exact hr
  | ok fl =>
    cases fl with
    | ret b =>
      obtain ⟨d, rfl, rfl⟩ := hr
      have hN : (s.heap.push { cls := .type "set", dict := none, data := .set #[] 0 (.fresh 0 0 d) }).get? s.heap.objs.size = some { cls := .type "set", dict := none, data := .set #[] 0 (.fresh 0 0 d) } := Heap.get?_push_size _ rfl
      have hT : Shared.TypeIs { s with heap := s.heap.push { cls := .type "set", dict := none, data := .set #[] 0 (.fresh 0 0 d) } } (.ref s.heap.objs.size) "set" := ⟨_, hN, rfl⟩
      have hli := PySem.F.called_set.init.lookup; have hbi := PySem.F.called_set.init.bind (.ref s.heap.objs.size)
      repeat (any_goals (first | assumption | wp_step))

      refine codeAny_mono (codeAny_call_builtin (R := wants (fun r s2 => r = .none ∧ ∃ g tk, s2 = { s with heap := g, toks := tk } ∧ g.SetOf (mixKind P w) s.heap.objs.size (fun k => memK (keysMet ks) k) (keysMet ks).length ∧ (∀ b o, s.heap.get? b = some o → g.get? b = some o)) E)
        PySem.F.called_set.init.plain PySem.F.entry_set_init (check_set_init_1 hT ?_)) fun r2 s2 hr2 => ?_
      · obtain ⟨ol, hol, hcl, nl, hdl⟩ := hl
        obtain ⟨oc, od, odt, osl⟩ := ol
        simp only at hcl hdl
        subst hcl hdl
        have hol2 : (s.heap.push { cls := .type "set", dict := none, data := .set #[] 0 (.fresh 0 0 d) }).get? l = some { cls := .type "list", dict := od, data := .seq its nl, slots := osl } := Heap.get?_push_of_some _ hol
        have hsls := PySem.F.sub_list_set; have hslf := PySem.F.sub_list_frozenset
        have hne : (Value.type "list" == Value.type "dict") = false := by decide
        have hl1 : (s.heap.push { cls := .type "set", dict := none, data := .set #[] 0 (.fresh 0 0 d) }).IsList l its := ⟨_, hol2, rfl, nl, rfl⟩
        unfold Builtin.«set.__init__» noKeywords Builtin.Frozenset.updateFrom
        generalize hPI : pyIter = PI
        wp_walk
        subst hPI
        refine wpAny_pyIter_list hl1 (wpAny_bind (wpAny_runValue ?_))
        have hlS : l < s.heap.objs.size := Heap.lt_size hol
        have hh3 : A.in1.in1.in1.handled = none := by simp [hh]
        have hneI : l ≠ (s.heap.push { cls := .type "set", dict := none, data := .set #[] 0 (.fresh 0 0 d) }).objs.size := by
          rw [Heap.size_push]; exact Nat.ne_of_lt (Nat.lt_succ_of_lt hlS)
        have hSf : s.heap.objs.size ∉ [(s.heap.push { cls := .type "set", dict := none, data := .set #[] 0 (.fresh 0 0 d) }).objs.size, l] := by
          rw [Heap.size_push]
          intro z
          rcases List.mem_cons.mp z with z | z
          · exact Nat.ne_of_lt (Nat.lt_succ_self _) z
          · exact Nat.ne_of_gt hlS (List.mem_singleton.mp z)
        have hsz : ks.length = its.size := by rw [hk.len, Array.length_toList]
        refine setLoopK ((Walks.list hh3 _ l hneI its).toS) s.heap.objs.size hSf ks hsz (fun i v e => hk.at_ (by rw [Array.getElem?_toList]; exact e)) (by rw [← hsz]; exact hb) (its.size - 0) 0 _ (by omega) (Nat.zero_le _) ⟨⟨_, Heap.get?_push_size _ rfl, rfl, rfl⟩, (hl1.push _)⟩ ?hS0 ?hR
        case hS0 =>
          have hget : ((s.heap.push { cls := .type "set", dict := none, data := .set #[] 0 (.fresh 0 0 d) }).push { cls := .type "list_iterator", data := .fields #[.ref l, .int 0 0] }).get? s.heap.objs.size = some { cls := .type "set", dict := none, data := .set #[] 0 (.fresh 0 0 d) } := Heap.get?_push_of_some _ hN
          exact ⟨_, #[], 0, _, hget, ⟨rfl, rfl, rfl⟩, rfl, (fun e he => by simp at he), (fun k => by simp [keysMet, memK]), (by decide), (by rfl), rfl⟩
        case hR =>
          intro s3 mv hS3
          obtain ⟨g3, q1, q2, tk3, q3⟩ := s3
          obtain rfl : q1 = s.gens := mv.gens
          obtain rfl : q2 = s.drawn := mv.drawn
          obtain rfl : q3 = s.os := mv.os
          show wpAny _ _ _ _ _ _
          refine wpAny_pure ?_
          show wpAny _ _ (ret Value.none) _ _ _
          refine wpAny_pure ⟨rfl, g3, tk3, rfl, hS3, fun b o e => ?_⟩
          have hb0 := Heap.lt_size e
          refine mv.heap b o ?_ (Heap.get?_push_of_some _ (Heap.get?_push_of_some _ e))
          rw [Heap.size_push]
          intro z
          rcases List.mem_cons.mp z with z | z
          · exact Nat.ne_of_lt hb0 z
          · exact Nat.ne_of_lt (Nat.lt_succ_of_lt hb0) (List.mem_singleton.mp z)
      · cases r2 with
        | error e => exact hr2
        | ok fl2 =>
          cases fl2 with
          | ret r =>
            obtain ⟨rfl, g, tk, rfl, hS2, hk2⟩ := hr2
            repeat (any_goals (first | assumption | wp_step))
            exact h _ _ hS2 hk2
          | _ => exact hr2.elim
    | _ => exact hr.elim
/-- set(xs), xs a tuple of keys -/
theorem call_set_keys_tuple {l : Addr} {its : Array Value} (ks : List Key) {Q : Value → Shared → Prop} (hh : A.handled = none) (hl : s.heap.IsTuple l its) (hk : KeysAre its.toList ks) (hb : ks.length + 1 < scanBound)
    (h : ∀ (g : Heap) (tk : Nat), g.SetOf (mixKind P w) s.heap.objs.size (fun k => memK (keysMet ks) k) (keysMet ks).length → (∀ b o, s.heap.get? b = some o → g.get? b = some o) → Q (.ref s.heap.objs.size) { s with heap := g, toks := tk }) :
    wpAny (model P w) A (call (.type "set") [.ref l]) Q E s := by
  obtain ⟨_, _, hmro⟩ := PySem.F.called_set.mro
  have hmade := PySem.F.called_set.made; have hsub := PySem.F.called_set.sub
  refine wpAny_call (codeAny_of_tree (show wpAny _ _ (callAny (.type "set") _) _ _ _ from wpAny_pure ⟨Code.quiet_builtin _ (by decide +kernel), codeAny_builtin PySem.F.entry_type_call ?_⟩))
  rw [Around.under_plain (weight_type_call_type "set" [.ref l] []) rfl]
  have h1 := PySem.F.called_set.notType; have h2 := PySem.F.called_set.canCreate; have hct := PySem.F.typeCall_set_1 (.ref l)
  repeat (any_goals (first | assumption | wp_step))

  refine codeAny_mono (code_set_new_1 (.ref l) (E := E) (Q₁ := fun b s1 => ∃ d : Bool, b = .ref s.heap.objs.size ∧ s1 = { s with heap := s.heap.push { cls := .type "set", dict := none, data := .set #[] 0 (.fresh 0 0 d) } }) fun d => ⟨d, rfl, rfl⟩) fun r s1 hr => ?_
  cases r with
  | error e => exact hr
  | ok fl =>
    cases fl with
    | ret b =>
      obtain ⟨d, rfl, rfl⟩ := hr
      have hN : (s.heap.push { cls := .type "set", dict := none, data := .set #[] 0 (.fresh 0 0 d) }).get? s.heap.objs.size = some { cls := .type "set", dict := none, data := .set #[] 0 (.fresh 0 0 d) } := Heap.get?_push_size _ rfl
      have hT : Shared.TypeIs { s with heap := s.heap.push { cls := .type "set", dict := none, data := .set #[] 0 (.fresh 0 0 d) } } (.ref s.heap.objs.size) "set" := ⟨_, hN, rfl⟩
      have hli := PySem.F.called_set.init.lookup; have hbi := PySem.F.called_set.init.bind (.ref s.heap.objs.size)
      repeat (any_goals (first | assumption | wp_step))

      refine codeAny_mono (codeAny_call_builtin (R := wants (fun r s2 => r = .none ∧ ∃ g tk, s2 = { s with heap := g, toks := tk } ∧ g.SetOf (mixKind P w) s.heap.objs.size (fun k => memK (keysMet ks) k) (keysMet ks).length ∧ (∀ b o, s.heap.get? b = some o → g.get? b = some o)) E)
        PySem.F.called_set.init.plain PySem.F.entry_set_init (check_set_init_1 hT ?_)) fun r2 s2 hr2 => ?_
      · obtain ⟨ol, hol, hcl, nl, hdl⟩ := hl
        obtain ⟨oc, od, odt, osl⟩ := ol
        simp only at hcl hdl
        subst hcl hdl
        have hol2 : (s.heap.push { cls := .type "set", dict := none, data := .set #[] 0 (.fresh 0 0 d) }).get? l = some { cls := .type "tuple", dict := od, data := .seq its nl, slots := osl } := Heap.get?_push_of_some _ hol
        have hsls := PySem.F.sub_tuple_set; have hslf := PySem.F.sub_tuple_frozenset
        have hne : (Value.type "tuple" == Value.type "dict") = false := by decide
        have hl1 : (s.heap.push { cls := .type "set", dict := none, data := .set #[] 0 (.fresh 0 0 d) }).IsTuple l its := ⟨_, hol2, rfl, nl, rfl⟩
        unfold Builtin.«set.__init__» noKeywords Builtin.Frozenset.updateFrom
        generalize hPI : pyIter = PI
        wp_walk
        subst hPI
        refine wpAny_pyIter_tuple hl1 (wpAny_bind (wpAny_runValue ?_))
        have hlS : l < s.heap.objs.size := Heap.lt_size hol
        have hh3 : A.in1.in1.in1.handled = none := by simp [hh]
        have hneI : l ≠ (s.heap.push { cls := .type "set", dict := none, data := .set #[] 0 (.fresh 0 0 d) }).objs.size := by
          rw [Heap.size_push]; exact Nat.ne_of_lt (Nat.lt_succ_of_lt hlS)
        have hSf : s.heap.objs.size ∉ [(s.heap.push { cls := .type "set", dict := none, data := .set #[] 0 (.fresh 0 0 d) }).objs.size, l] := by
          rw [Heap.size_push]
          intro z
          rcases List.mem_cons.mp z with z | z
          · exact Nat.ne_of_lt (Nat.lt_succ_self _) z
          · exact Nat.ne_of_gt hlS (List.mem_singleton.mp z)
        have hsz : ks.length = its.size := by rw [hk.len, Array.length_toList]
        refine setLoopK ((Walks.tuple hh3 _ l hneI its).toS) s.heap.objs.size hSf ks hsz (fun i v e => hk.at_ (by rw [Array.getElem?_toList]; exact e)) (by rw [← hsz]; exact hb) (its.size - 0) 0 _ (by omega) (Nat.zero_le _) ⟨⟨_, Heap.get?_push_size _ rfl, rfl, rfl⟩, (hl1.push _)⟩ ?hS0 ?hR
        case hS0 =>
          have hget : ((s.heap.push { cls := .type "set", dict := none, data := .set #[] 0 (.fresh 0 0 d) }).push { cls := .type "tuple_iterator", data := .fields #[.ref l, .int 0 0] }).get? s.heap.objs.size = some { cls := .type "set", dict := none, data := .set #[] 0 (.fresh 0 0 d) } := Heap.get?_push_of_some _ hN
          exact ⟨_, #[], 0, _, hget, ⟨rfl, rfl, rfl⟩, rfl, (fun e he => by simp at he), (fun k => by simp [keysMet, memK]), (by decide), (by rfl), rfl⟩
        case hR =>
          intro s3 mv hS3
          obtain ⟨g3, q1, q2, tk3, q3⟩ := s3
          obtain rfl : q1 = s.gens := mv.gens
          obtain rfl : q2 = s.drawn := mv.drawn
          obtain rfl : q3 = s.os := mv.os
          show wpAny _ _ _ _ _ _
          refine wpAny_pure ?_
          show wpAny _ _ (ret Value.none) _ _ _
          refine wpAny_pure ⟨rfl, g3, tk3, rfl, hS3, fun b o e => ?_⟩
          have hb0 := Heap.lt_size e
          refine mv.heap b o ?_ (Heap.get?_push_of_some _ (Heap.get?_push_of_some _ e))
          rw [Heap.size_push]
          intro z
          rcases List.mem_cons.mp z with z | z
          · exact Nat.ne_of_lt hb0 z
          · exact Nat.ne_of_lt (Nat.lt_succ_of_lt hb0) (List.mem_singleton.mp z)
      · cases r2 with
        | error e => exact hr2
        | ok fl2 =>
          cases fl2 with
          | ret r =>
            obtain ⟨rfl, g, tk, rfl, hS2, hk2⟩ := hr2
            repeat (any_goals (first | assumption | wp_step))
            exact h _ _ hS2 hk2
          | _ => exact hr2.elim
    | _ => exact hr.elim
end
/-! ### as a mirror -/
def kyD : D → Option Key
  | .int i => some (.inl i)
  | .str x => some (.inr x)
  | _ => none
def kysD : List D → Option (List Key)
  | [] => some []
  | d :: ds => (kyD d).bind fun k => (kysD ds).map fun ks => k :: ks
def cLenSet (st : Store) : D → Option D
  | .tup xs => (kysD xs).bind fun ks => if ks.length ≤ 4000 then some (.int (keysMet ks).length) else none
  | d => (asL st d).bind fun xs => (kysD xs).bind fun ks => if ks.length ≤ 4000 then some (.int (keysMet ks).length) else none
def mLenSet (m : Ev D) : Ev D := fun env st => (m env st).bind fun d st => Res.of (cLenSet st d) st
section
variable {K : PySem.W.Frag} {T : Tb} {Wx : WX} {X : Cx} {W : Wd}
theorem kysD_ok {F : Hp} {rh : List Addr} : ∀ {ds : List D} {ks : List Key} {vs : List V} {us : List Value}, kysD ds = some ks → RDs K F rh ds vs → Vals vs us → KeysAre us ks
  | [], ks, vs, us, e, r, q => by
    cases e; cases r; cases q
    exact .nil
  | d :: ds, ks, vs, us, e, r, q => by
    simp only [kysD, Option.bind_eq_some_iff, Option.map_eq_some_iff] at e
    obtain ⟨k, e1, kr, e2, rfl⟩ := e
    cases r with
    | cons r1 r2 =>
      cases q with
      | cons q1 q2 =>
        refine .cons ?_ (kysD_ok e2 r2 q2)
        cases d with
        | int i =>
          cases e1; cases r1
          obtain ⟨t, rfl⟩ := q1
          exact keyIs_int i t
        | str x =>
          cases e1; cases r1
          obtain ⟨t, rfl⟩ := q1
          exact keyIs_str x t
        | _ => cases e1
def tLenSetK (K : PySem.W.Frag) (ta : TE) : TE := fun σ H Q => ta σ H fun x H1 => ∃ (l : Addr) (vs : List V) (ks : List Key), x = .ref l ∧ (SqL K H1 l vs ∨ SqT K H1 l vs) ∧ (∀ us, Vals vs us → KeysAre us ks) ∧ ks.length ≤ 4000 ∧ Q (.int (keysMet ks).length) H1
theorem pe_lenSetK {a : Expr} {ta : TE} {p p2 q pos : Pos} (hc : X.calm = true) (hg : Gl X "len") (hm : X.mg "len" = none) (hg2 : Gl X "set") (hm2 : X.mg "set" = none) (ha : PE X a ta)
    (na : starEach [a] X.env = (false, eval a X.env) :: starEach [] X.env := by rfl) : PE X (.Call (.Name "len" p) [.Call (.Name "set" p2) [a] [] q] [] pos) (tLenSetK X.K ta) := by
  refine ⟨fun pins s σ H Q I h => ?_⟩
  refine wpAny_Call_Name_kw (ld_blt I hg hm bt_len ?_ (by decide) (by decide))
  refine PyProof.Rows.callWith_builtin1 (PyProof.Rows.args_cons ?_ rfl) rfl rfl
  refine wpAny_Call_Name_kw (ld_blt I hg2 hm2 bt_set ?_ (by decide) (by decide))
  refine PyProof.Rows.callWith_type1 (PyProof.Rows.args_cons (thn (ha.run pins s σ H _ I h) fun v s1 ⟨x, H1, I1, r1, q1⟩ => PyProof.Rows.args_nil ?_) na) na rfl
  obtain ⟨l, vs, ks, rfl, hq, hk, hl, q1⟩ := q1
  cases r1
  have fin : ∀ (g : Heap) (tk : Nat), g.SetOf (mixKind X.prog X.w) s1.heap.objs.size (fun k => memK (keysMet ks) k) (keysMet ks).length → (∀ b o, s1.heap.get? b = some o → g.get? b = some o) →
      wpAny (model X.prog X.w) X.A (call (.builtin "len") [.ref s1.heap.objs.size]) (EP X pins σ Q) X.xe { s1 with heap := g, toks := tk } := fun g tk hS hkp => by
    have hle := keysMet_le ks
    obtain ⟨o, es, ep, t, ho, hex, hd, _, _, _, hf, hn⟩ := hS
    have I2 : Inv X pins σ H1 { s1 with heap := g, toks := tk } := I1.kept hkp
    exact call_len_set ho hex hd hf (by rw [hn]; omega) ⟨.int (keysMet ks).length, H1, I2.tok _, ⟨_, by rw [hn]⟩, q1⟩
  rcases hq with hq | hq
  · obtain ⟨its, r, pl, hz⟩ := I1.list hq
    refine call_set_keys_list ks (I1.ok.hd hc) pl.isList (by simpa using hk its r) (by unfold scanBound; omega) fun g tk hS hkp => PyProof.Rows.args_nil (fin g tk hS hkp)
  · obtain ⟨its, r, pl, hz⟩ := I1.tuple hq
    refine call_set_keys_tuple ks (I1.ok.hd hc) pl (by simpa using hk its r) (by unfold scanBound; omega) fun g tk hS hkp => PyProof.Rows.args_nil (fin g tk hS hkp)
theorem so_lenSet {a : Expr} {ma : Ev D} {p p2 q pos : Pos} (hc : X.calm = true) (hg : Gl X "len") (hm : X.mg "len" = none) (hg2 : Gl X "set") (hm2 : X.mg "set" = none) (ha : SE T Wx X a ma)
    (na : starEach [a] X.env = (false, eval a X.env) :: starEach [] X.env := by rfl) : SE T Wx X (.Call (.Name "len" p) [.Call (.Name "set" p2) [a] [] q] [] pos) (mLenSet ma) := PE.imp (pe_lenSetK hc hg hm hg2 hm2 ha na) fun σ H Q q => by
  obtain ⟨W, env, st, re, rs, p⟩ := q
  refine ⟨W, env, st, re, rs, PostG.step p fun d st1 W1 x H1 _ l1 r1 rs1 p1 => ?_⟩
  cases hz : cLenSet st1 d with
  | none => rw [hz] at p1; exact p1.elim
  | some z =>
    rw [hz] at p1
    unfold cLenSet at hz
    split at hz
    · simp only [Option.bind_eq_some_iff] at hz
      obtain ⟨ks, e1, hz⟩ := hz
      split at hz
      · rename_i hl
        cases hz
        obtain ⟨b, vs, rfl, h1, q1⟩ := asT_ok rs1 r1 rfl
        exact ⟨b, vs, ks, rfl, .inr h1, fun us hu => kysD_ok e1 q1 hu, hl, p1 W1 _ H1 (Wd.le.refl _) (.int _) rs1⟩
      · cases hz
    · simp only [Option.bind_eq_some_iff] at hz
      obtain ⟨xs, e0, ks, e1, hz⟩ := hz
      split at hz
      · rename_i hl
        cases hz
        obtain ⟨b, vs, rfl, h1, q1⟩ := asL_ok rs1 r1 e0
        exact ⟨b, vs, ks, rfl, .inl h1, fun us hu => kysD_ok e1 q1 hu, hl, p1 W1 _ H1 (Wd.le.refl _) (.int _) rs1⟩
      · cases hz
end
end Mr
namespace Mr
open PySem PySem.Spec L2
/-! ### built-ins that make cells -/
def rCS (K : PySem.W.Frag) (T : Tb) (g : Store → List D → Option (D × Store)) : List V → Hp → VK → Prop := fun xs H Q =>
  ∃ W st ds z st', RVs K W ds xs ∧ RS K T W st H ∧ g st ds = some (z, st') ∧ ∀ W' v H', W.le W' → RV K W' z v → RS K T W' st' H' → Q v H'
def mCallS (g : Store → List D → Option (D × Store)) (ms : Ev (List D)) : Ev D := fun env st => (ms env st).bind fun ds st => match g st ds with
  | some (z, st) => .ok z st
  | none => .no
section
variable {K : PySem.W.Frag} {T : Tb} {Wx : WX} {X : Cx} {es : List Expr} {ms : Ev (List D)} {x : Str} {p2 pos : Pos} {e : Expr} {id Ty : String} {g : Store → List D → Option (D × Store)}
theorem callS_read (σ : St) (H : Hp) (Q : VK) (q : tE K T Wx (mCallS g ms) σ H Q) : tCB (rCS K T g) (tA K T Wx ms) σ H Q := by
  obtain ⟨W, env, st, re, rs, p⟩ := q
  refine ⟨W, env, st, re, rs, PostG.step p fun ds st1 W1 xs H1 _ l1 r1 rs1 p1 => ?_⟩
  cases hz : g st1 ds with
  | none => simp only [hz] at p1; exact p1.elim
  | some z =>
    obtain ⟨z, st2⟩ := z
    simp only [hz] at p1
    exact ⟨W1, st1, ds, z, st2, r1, rs1, hz, p1⟩
theorem so_callTyS (hc : CallR X (.type Ty) (rCS X.K T g)) (hg : Gl X x) (hm : X.mg x = none) (hv : bootBuiltins x = some (.type Ty)) (ha : SA T Wx X (e :: es) ms) (hn : x ≠ "__name__" := by decide) (hdb : (x == ("__debug__" : Str)) = false := by decide)
    (he : starEach (e :: es) X.env = (false, eval e X.env) :: starEach es X.env := by rfl) (hpl : (backTo pos (starEach es X.env)).any (·.1) = false := by rfl) : SE T Wx X (.Call (.Name x p2) (e :: es) [] pos) (mCallS g ms) :=
  PE.imp (pe_callTy hc hg hm hv ha hn hdb he hpl) (callS_read (K := X.K))
/-- list(xs), to be changed -/
def cListC (st : Store) : List D → Option (D × Store)
  | [.tup xs] => some (.ref st.length, st ++ [.lst xs])
  | [d] => (asL st d).map fun xs => (.ref st.length, st ++ [.lst xs])
  | _ => none
theorem c_listC : CallR X (.type "list") (rCS X.K T cListC) := by
  intro pins s σ H xs us Q I r q
  obtain ⟨W, st, ds, z, st', r1, rs, hz, k⟩ := q
  unfold cListC at hz
  split at hz
  · cases hz
    obtain ⟨v, rfl, r0⟩ := r1.one
    obtain ⟨a, ws, rfl, h1, q1⟩ := asT_ok rs r0 rfl
    refine call_list_of pins s σ H _ us Q I r ⟨a, ws, rfl, .inr h1, fun p hp => ?_⟩
    obtain ⟨l1, l2, l3⟩ := new_lstC rs hp q1
    exact k _ _ _ l1 l2 l3
  · simp only [Option.map_eq_some_iff, Prod.mk.injEq] at hz
    obtain ⟨ys, e1, rfl, rfl⟩ := hz
    obtain ⟨v, rfl, r0⟩ := r1.one
    obtain ⟨a, ws, rfl, h1, q1⟩ := asL_ok rs r0 e1
    refine call_list_of pins s σ H _ us Q I r ⟨a, ws, rfl, .inl h1, fun p hp => ?_⟩
    obtain ⟨l1, l2, l3⟩ := new_lstC rs hp q1
    exact k _ _ _ l1 l2 l3
  · cases hz
end
/-! ### comparisons of tuples -/
def isNoneP : PyData → Bool
  | .none => true
  | _ => false
def ltP (st : Store) (d e : D) : Option (PyData × PyData) := match py 3 st d, py 3 st e with
  | some x, some y => if (PySem.W.alike x y && !isNoneP x && decide (x.depth ≤ 64)) = true then some (x, y) else none
  | _, _ => none
def gLt2 (st : Store) (d e : D) : Option D := (ltP st d e).map fun q => .bl (PySem.W.dataLt q.1 q.2)
def gGt2 (st : Store) (d e : D) : Option D := (ltP st d e).map fun q => .bl (PySem.W.dataLt q.2 q.1)
def gLe2 (st : Store) (d e : D) : Option D := (ltP st d e).map fun q => .bl (!PySem.W.dataLt q.2 q.1)
def gGe2 (st : Store) (d e : D) : Option D := (ltP st d e).map fun q => .bl (!PySem.W.dataLt q.1 q.2)
section
variable {K : PySem.W.Frag} {T : Tb} {X : Cx}
theorem ltP_ok {pins : List (Addr × Obj)} {s : Shared} {σ : St} {H : Hp} {W : Wd} {st : Store} {d e : D} {x y : PyData} {v u : V} {a b : Value} (I : Inv X pins σ H s) (rs : RS X.K T W st H) (r1 : RV X.K W d v) (r2 : RV X.K W e u) (q1 : RelV v a) (q2 : RelV u b) (h : ltP st d e = some (x, y)) :
    (∃ as, Reads s.heap a x as) ∧ (∃ bs, Reads s.heap b y bs) ∧ PySem.W.alike x y = true ∧ x ≠ .none ∧ min x.depth y.depth ≤ 64 := by
  unfold ltP at h
  split at h
  · rename_i x0 y0 e1 e2
    split at h
    · rename_i hc
      cases h
      simp only [Bool.and_eq_true, Bool.not_eq_true', decide_eq_true_eq] at hc
      refine ⟨Dp.reads I x v a (py_ok rs _ _ _ _ e1 r1) q1, Dp.reads I y u b (py_ok rs _ _ _ _ e2 r2) q2, hc.1.1, fun z => ?_, by have := hc.2; omega⟩
      rw [z] at hc
      exact absurd hc.1.2 (by decide)
    · cases h
  · cases h
theorem o_lt2 (hu : X.A.units + 64 < cLine) : OpR X (compareOp .Lt) (rO X.K T gLt2) := by
  intro pins s σ H x y v u Q I rx ry q
  obtain ⟨W, st, d, e, z, r1, r2, rs, hz, k⟩ := q
  simp only [gLt2, Option.map_eq_some_iff] at hz
  obtain ⟨⟨p, q⟩, hp, rfl⟩ := hz
  obtain ⟨⟨as, ra⟩, ⟨bs, rb⟩, h1, h2, h3⟩ := ltP_ok I rs r1 r2 rx ry hp
  exact PySem.W.lt_data ra rb h1 h2 (by omega) ⟨.bl _, H, I, rfl, k W _ H (Wd.le.refl _) (.bl _) rs⟩
theorem o_gt2 (hu : X.A.units + 64 < cLine) : OpR X (compareOp .Gt) (rO X.K T gGt2) := by
  intro pins s σ H x y v u Q I rx ry q
  obtain ⟨W, st, d, e, z, r1, r2, rs, hz, k⟩ := q
  simp only [gGt2, Option.map_eq_some_iff] at hz
  obtain ⟨⟨p, q⟩, hp, rfl⟩ := hz
  obtain ⟨⟨as, ra⟩, ⟨bs, rb⟩, h1, h2, h3⟩ := ltP_ok I rs r1 r2 rx ry hp
  exact PySem.W.gt_data ra rb h1 h2 (by omega) ⟨.bl _, H, I, rfl, k W _ H (Wd.le.refl _) (.bl _) rs⟩
theorem o_le2 (hu : X.A.units + 64 < cLine) : OpR X (compareOp .LtE) (rO X.K T gLe2) := by
  intro pins s σ H x y v u Q I rx ry q
  obtain ⟨W, st, d, e, z, r1, r2, rs, hz, k⟩ := q
  simp only [gLe2, Option.map_eq_some_iff] at hz
  obtain ⟨⟨p, q⟩, hp, rfl⟩ := hz
  obtain ⟨⟨as, ra⟩, ⟨bs, rb⟩, h1, h2, h3⟩ := ltP_ok I rs r1 r2 rx ry hp
  exact PySem.W.le_data ra rb h1 h2 (by omega) ⟨.bl _, H, I, rfl, k W _ H (Wd.le.refl _) (.bl _) rs⟩
theorem o_ge2 (hu : X.A.units + 64 < cLine) : OpR X (compareOp .GtE) (rO X.K T gGe2) := by
  intro pins s σ H x y v u Q I rx ry q
  obtain ⟨W, st, d, e, z, r1, r2, rs, hz, k⟩ := q
  simp only [gGe2, Option.map_eq_some_iff] at hz
  obtain ⟨⟨p, q⟩, hp, rfl⟩ := hz
  obtain ⟨⟨as, ra⟩, ⟨bs, rb⟩, h1, h2, h3⟩ := ltP_ok I rs r1 r2 rx ry hp
  exact PySem.W.ge_data ra rb h1 h2 (by omega) ⟨.bl _, H, I, rfl, k W _ H (Wd.le.refl _) (.bl _) rs⟩
end
/-- (n, x) before (m, y) -/
def pairLt (n : Int) (x : Str) (m : Int) (y : Str) : Bool := decide (n < m) || (decide (n = m) && sltL x y)
theorem dataLt_pair (n m : Int) (x y : Str) : PySem.W.dataLt (.tuple [.int n, .str x]) (.tuple [.int m, .str y]) = pairLt n x m y := by
  have h := PySem.W.DatumOrd.lt_eq (α := Int × Str) (n, x) (m, y)
  refine (show _ = (if n = m then decide (x.cps.toList < y.cps.toList) else decide (n < m)) from h).trans ?_
  unfold pairLt
  by_cases e : n = m
  · subst e
    simp
  · rw [if_neg e]
    simp [e]
theorem gLe2_pair (st : Store) (n m : Int) (x y : Str) : gLe2 st (.tup [.int n, .str x]) (.tup [.int m, .str y]) = some (.bl (!pairLt m y n x)) := by
  have h : ltP st (.tup [.int n, .str x]) (.tup [.int m, .str y]) = some (.tuple [.int n, .str x], .tuple [.int m, .str y]) := by
    unfold ltP
    simp [py, pyF, pysF, PySem.W.alike, PySem.W.alikeAll, isNoneP, PyData.depth, PyData.depthAll]
  unfold gLe2
  rw [h, Option.map_some, dataLt_pair]
theorem gGt2_pair (st : Store) (n m : Int) (x y : Str) : gGt2 st (.tup [.int n, .str x]) (.tup [.int m, .str y]) = some (.bl (pairLt m y n x)) := by
  have h : ltP st (.tup [.int n, .str x]) (.tup [.int m, .str y]) = some (.tuple [.int n, .str x], .tuple [.int m, .str y]) := by
    unfold ltP
    simp [py, pyF, pysF, PySem.W.alike, PySem.W.alikeAll, isNoneP, PyData.depth, PyData.depthAll]
  unfold gGt2
  rw [h, Option.map_some, dataLt_pair]
end Mr
namespace Mr
open PySem PySem.Spec L2
/-! ### objects, reckoned -/
section
variable {c f mn : Str} {mo mv ma : Ev D} {ms : Ev (List D)} {m : List D → Store → Res D} {env : Env'} {st st1 st2 : Store} {n i k : Nat} {d v : D} {ds : List D} {fs : List (Str × D)} {x y : Cell} {xs : List D} {r : Sv} {P : Env' → Store → Prop}
theorem get_set (h : st[n]? = some x) : (st.set n y)[n]? = some y := List.getElem?_set_self (List.getElem?_eq_some_iff.mp h).1
theorem set_set : (st.set n x).set n y = st.set n y := List.set_set ..
theorem get_other (h : n ≠ k) : (st.set n x)[k]? = st[k]? := List.getElem?_set_ne h
theorem fld_eq (ho : mo env st = .ok (.ref n) st) (h : st[n]? = some (.ins c fs)) (hf : fs.lookup f = some d) : mFld c f mo env st = .ok d st := by
  simp only [mFld, ho, Res.ok_bind, h, if_true, hf, Res.of_some]
theorem fldS_eq (hv : mv env st = .ok v st1) (ho : mo env st1 = .ok (.ref n) st1) (h : st1[n]? = some (.ins c fs)) (hl : fs.length < 1000) : sFldS c f mo mv env st = .ok (.nx, env) (st1.set n (.ins c (putD f v fs))) := by
  simp only [sFldS, hv, ho, Res.ok_bind, h, hl, and_self, if_true]
theorem meth_eq (ho : mo env st = .ok (.ref i) st) (h : st[i]? = some (.ins c fs)) (hn : fs.lookup mn = none) (ha : ms env st = .ok ds st1) (hl : ds.length + 1 = n) : mMeth c mn n m mo ms env st = m (.ref i :: ds) st1 := by
  simp only [mMeth, ho, Res.ok_bind, h, hn, and_self, if_true, ha, hl]
theorem meth_0 (ho : mo env st = .ok (.ref i) st) (h : st[i]? = some (.ins c fs)) (hn : fs.lookup mn = none) (hl : n = 1) : mMeth c mn n m mo mNil env st = m [.ref i] st := by
  subst hl
  exact meth_eq ho h hn rfl rfl
theorem meth_1 (ho : mo env st = .ok (.ref i) st) (h : st[i]? = some (.ins c fs)) (hn : fs.lookup mn = none) (ha : ma env st = .ok d st) (hl : n = 2) : mMeth c mn n m mo (mCons ma mNil) env st = m [.ref i, d] st := by
  subst hl
  refine meth_eq ho h hn ?_ rfl
  simp only [mCons, ha, mNil, Res.ok_bind]
theorem make_eq (ha : ms env st = .ok ds st1) (hl : ds.length + 1 = n) (h : m (.ref st1.length :: ds) (st1 ++ [.ins c []]) = .ok .non st2) : mMake c n m ms env st = .ok (.ref st1.length) st2 := by
  simp only [mMake, ha, Res.ok_bind, hl, if_true, h]
theorem append_eq (ho : mo env st = .ok (.ref n) st) (hr : st[n]? = some (.lst xs)) (ha : ma env st = .ok d st1) (h : st1[n]? = some (.lst ds)) (hl : ds.length < 16777216) : mMt "list" gAppend mo (mCons ma mNil) env st = .ok .non (st1.set n (.lst (ds ++ [d]))) := by
  have hr2 : rcv "list" st (.ref n) = true := by
    show (asL st (.ref n)).isSome = true
    simp only [asL, hr, Option.isSome_some]
  have hg : gAppend st1 (.ref n) [d] = some (.non, st1.set n (.lst (ds ++ [d]))) := by
    simp only [gAppend, h]
    rw [if_pos (by rw [size_eq]; exact hl)]
  simp only [mMt, mCons, mNil, ho, ha, Res.ok_bind, hr2, if_true, hg]
theorem go_fld (hv : mv env st = .ok v st1) (ho : mo env st1 = .ok (.ref n) st1) (h : st1[n]? = some (.ins c fs)) (hl : fs.length < 1000) (g : Goes r env (st1.set n (.ins c (putD f v fs))) P) : Goes (sSeq (sFldS c f mo mv) r) env st P := go_nx (fldS_eq hv ho h hl) g
/-- what a def comes to, by its body -/
theorem def_ok_nx {N : Nat} {b : Sv} (h : Goes b (startE N ds) st fun _ s => s = st1) : mDef N b ds st = .ok .non st1 := by
  obtain ⟨e, s, h1, rfl⟩ := h
  unfold mDef
  rw [h1]
  rfl
theorem def_eq {N : Nat} {b : Sv} (h : fin (b (startE N ds) st) = .ok d st1) : mDef N b ds st = .ok d st1 := h
theorem fin_fld {z : Res D} (hv : mv env st = .ok v st1) (ho : mo env st1 = .ok (.ref n) st1) (h : st1[n]? = some (.ins c fs)) (hl : fs.length < 1000) (g : fin (r env (st1.set n (.ins c (putD f v fs)))) = z) : fin (sSeq (sFldS c f mo mv) r env st) = z := fin_nx (fldS_eq hv ho h hl) g
theorem fin_drop {z : Res D} {md : Ev D} (h : md env st = .ok d st1) (g : fin (r env st1) = z) : fin (sSeq (sDrop md) r env st) = z := fin_nx (drop_nx h) g
theorem fin_asg {z : Res D} {md : Ev D} (h : md env st = .ok d st1) (g : fin (r (env.set i (some d)) st1) = z) : fin (sSeq (sAsg md (.one i)) r env st) = z := fin_nx (asg_eq h) g
theorem fin_skip {t : Ev Bool} {a : Sv} {z : Res D} (h : t env st = .ok false st) (g : fin (r env st) = z) : fin (sSeq (sIf t a sNil) r env st) = z := fin_nx (last_skip h) g
theorem fin_goes {s : Sv} {Q : Env' → Store → Prop} {z : Res D} (h : Goes s env st Q) (g : ∀ e s1, Q e s1 → fin (r e s1) = z) : fin (sSeq s r env st) = z := by
  obtain ⟨e, s1, h1, h2⟩ := h
  exact fin_nx h1 (g e s1 h2)
end
theorem clean_same {m : List D → Store → Res D} {ds : List D} {st st1 : Store} {d : D} (h : m ds st = .ok d st1) (hl : st1.length = st.length) : mClean m ds st = .ok d st1 := by
  simp only [mClean, h, hl, if_true]
/-- a loop: after j items the state is one of P j -/
theorem forL_rel {α β : Type} {chk : Store → Bool} {tg : Tg} {b : Sv} (g : α → D) (E : β → Env') (S : β → Store) (P : Nat → β → Prop) (l : List α)
    (step : ∀ j s a, l[j]? = some a → P j s → chk (S s) = true ∧ ∃ env1, setT tg (g a) (E s) = some env1 ∧ ∃ s', b env1 (S s) = .ok (.nx, E s') (S s') ∧ P (j + 1) s') (last : ∀ s, P l.length s → chk (S s) = true) :
    ∀ s, P 0 s → ∃ s', forL chk tg b (l.map g) (E s) (S s) = .ok (.nx, E s') (S s') ∧ P l.length s' := by
  have key : ∀ (r : List α) (k : Nat), l.drop k = r → k ≤ l.length → ∀ s, P k s → ∃ s', forL chk tg b (r.map g) (E s) (S s) = .ok (.nx, E s') (S s') ∧ P l.length s' := by
    intro r
    induction r with
    | nil =>
      intro k hk hl s hP
      have e : k = l.length := by
        have := congrArg List.length hk
        rw [List.length_drop, List.length_nil] at this
        omega
      subst e
      exact ⟨s, forL_nil (last s hP), hP⟩
    | cons a r ih =>
      intro k hk hl s hP
      have ha : l[k]? = some a := by
        have : (l.drop k)[0]? = some a := by rw [hk]; rfl
        rw [List.getElem?_drop] at this
        simpa using this
      obtain ⟨hc, env1, h1, s1, h2, h3⟩ := step k s a ha hP
      obtain ⟨s', h4, h5⟩ := ih (k + 1) (by rw [← List.drop_drop, hk]; rfl) (List.getElem?_eq_some_iff.mp ha).1 s1 h3
      exact ⟨s', forL_step hc h1 h2 h4, h5⟩
  exact fun s hP => key l 0 rfl (Nat.zero_le _) s hP
theorem keep_ref {st : Store} {n : Nat} {xs : List D} (h : st[n]? = some (.lst xs)) : keepL (.ref n) xs st = true := by
  simp only [keepL, h]
  exact D.beqs_refl xs
theorem ix_ref {st : Store} {n : Nat} {xs : List D} {i : Int} (h : st[n]? = some (.lst xs)) : gIx st (.ref n) (.int i) = atI xs i := by
  show (asL st (.ref n)).bind _ = _
  simp only [asL, h, Option.bind_some]
theorem len_ref {st : Store} {n : Nat} {xs : List D} (h : st[n]? = some (.lst xs)) : cLen st [.ref n] = some (.int xs.length) := by
  show (asL st (.ref n)).map _ = _
  simp only [asL, h, Option.map_some]
theorem py_cell {st : Store} {n m k : Nat} {xs : List D} (h : st[n]? = some (.lst xs)) (ho : okDs m xs = true) : py (k + 1) st (.ref n) = some (.list (toPys xs)) := by
  have : py k st (.lst xs) = some (toPy (.lst xs)) := py_toPy (n := m + 1) (by simp only [okD]; exact ho)
  simp only [py, pyF, h]
  rw [this]
  simp only [toPy]
/-- a list cell and data compared -/
theorem eq_cell {st : Store} {n m k : Nat} {xs : List D} {e : D} (h : st[n]? = some (.lst xs)) (ho : okDs m xs = true) (he : okD k e = true) (hm : m ≤ 60) (hk : k ≤ 60) : eqD st (.ref n) e = some (decide (nz (.lst xs) = nz e)) := by
  have h2 : eqD st (.ref n) e = eqD st (.lst xs) e := by
    have hx : okD (m + 1) (.lst xs) = true := by simp only [okD]; exact ho
    have p1 := py_cell (k := 2) h ho
    have p2 := py_toPy (st := st) (m := 3) hx
    have e1 : eqD st (.ref n) e = match py 3 st (.ref n), py 3 st e with
      | some x, some y => if shp x && shp y then some (PyData.eqv x y) else none
      | _, _ => none := by
      unfold eqD
      split <;> first | rfl | (rename_i z _; cases z) | skip
      all_goals first | rfl | contradiction
    have e2 : eqD st (.lst xs) e = match py 3 st (.lst xs), py 3 st e with
      | some x, some y => if shp x && shp y then some (PyData.eqv x y) else none
      | _, _ => none := by
      unfold eqD
      split <;> first | rfl | (rename_i z _; cases z) | skip
      all_goals first | rfl | contradiction
    rw [e1, e2, p1, p2]
    simp only [toPy]
  rw [h2]
  exact eqD_ok (n := m + 1) (m := k) (by omega) (by omega) (by simp only [okD]; exact ho) he
section
variable {ma mb mc md : Ev D} {env : Env'} {st : Store} {a b c d : D}
theorem args_1 (h1 : ma env st = .ok a st) : mCons ma mNil env st = .ok [a] st := by simp only [mCons, mNil, h1, Res.ok_bind]
theorem args_2 (h1 : ma env st = .ok a st) (h2 : mb env st = .ok b st) : mCons ma (mCons mb mNil) env st = .ok [a, b] st := by simp only [mCons, mNil, h1, h2, Res.ok_bind]
theorem args_3 (h1 : ma env st = .ok a st) (h2 : mb env st = .ok b st) (h3 : mc env st = .ok c st) : mCons ma (mCons mb (mCons mc mNil)) env st = .ok [a, b, c] st := by simp only [mCons, mNil, h1, h2, h3, Res.ok_bind]
theorem args_4 (h1 : ma env st = .ok a st) (h2 : mb env st = .ok b st) (h3 : mc env st = .ok c st) (h4 : md env st = .ok d st) : mCons ma (mCons mb (mCons mc (mCons md mNil))) env st = .ok [a, b, c, d] st := by simp only [mCons, mNil, h1, h2, h3, h4, Res.ok_bind]
theorem tup_of {ms : Ev (List D)} {ds : List D} {st1 : Store} (h : ms env st = .ok ds st1) (hl : ds.length ≤ 1000) (hs : notSw ds = true := by rfl) : mTup ms env st = .ok (.tup ds) st1 := by
  simp only [mTup, h, Res.ok_bind]
  rw [if_pos (by rw [size_eq]; omega), if_pos hs]
theorem lst_of {ms : Ev (List D)} {ds : List D} {st1 : Store} (h : ms env st = .ok ds st1) (hl : ds.length ≤ 1000) : mLst ms env st = .ok (.lst ds) st1 := by
  simp only [mLst, h, Res.ok_bind]
  rw [if_pos (by rw [size_eq]; omega)]
theorem tup_2 (h1 : ma env st = .ok a st) (h2 : mb env st = .ok b st) : mTup (mCons ma (mCons mb mNil)) env st = .ok (.tup [a, b]) st := tup_of (args_2 h1 h2) (by show 2 ≤ 1000; decide)
theorem tup_3 (h1 : ma env st = .ok a st) (h2 : mb env st = .ok b st) (h3 : mc env st = .ok c st) (hs : notSw [a, b, c] = true := by rfl) : mTup (mCons ma (mCons mb (mCons mc mNil))) env st = .ok (.tup [a, b, c]) st := tup_of (args_3 h1 h2 h3) (by show 3 ≤ 1000; decide) hs
theorem callB_of {g : Store → List D → Option D} {ms : Ev (List D)} {ds : List D} {st1 : Store} (h : ms env st = .ok ds st1) (hg : g st1 ds = some a) : mCall g ms env st = .ok a st1 := by simp only [mCall, h, Res.ok_bind, hg, Res.of_some]
theorem callB_1 {g : Store → List D → Option D} (h : ma env st = .ok a st) (hg : g st [a] = some b) : mCall g (mCons ma mNil) env st = .ok b st := callB_of (args_1 h) hg
end
/-! ### tests that change cells -/
section
variable {t ta tb : Ev Bool} {m n r : Sv} {ma mb : Ev D} {env : Env'} {st st1 st2 : Store} {d e z : D} {P : Env' → Store → Prop} {x y : Bool}
theorem sIf_st {k : Bool} (h : t env st = .ok k st1) : sIf t m n env st = if k = true then m env st1 else n env st1 := by unfold sIf; rw [h]; rfl
theorem bin_st {g : Store → D → D → Option D} (h1 : ma env st = .ok d st1) (h2 : mb env st1 = .ok e st2) (h : g st2 d e = some z) : mBin g ma mb env st = .ok z st2 := by
  simp only [mBin, h1, h2, Res.ok_bind, h, Res.of_some]
theorem skip_st (h : t env st = .ok false st1) : sIf t m sNil env st = .ok (.nx, env) st1 := by rw [sIf_st h, if_neg (by decide)]; rfl
theorem go_skip' (h : t env st = .ok false st1) (g : Goes r env st1 P) : Goes (sSeq (sIf t m sNil) r) env st P := go_nx (skip_st h) g
theorem go_skipE' (h : t env st = .ok false st1) (g : P env st1) : Goes (sIf t m sNil) env st P := go_E (skip_st h) g
theorem or_st (h1 : ta env st = .ok false st1) (h2 : tb env st1 = .ok y st2) : mOrT ta tb env st = .ok y st2 := by
  simp only [mOrT, h1, Res.ok_bind, Bool.false_eq_true, if_false, h2]
theorem and_st (h1 : ta env st = .ok true st1) (h2 : tb env st1 = .ok y st2) : mAndT ta tb env st = .ok y st2 := by
  simp only [mAndT, h1, Res.ok_bind, if_true, h2]
end
/-! ### cells dropped, others changed -/
mutual
theorem frzF_bd {f : Nat → Option D} {n : Nat} (hf : ∀ k, k < n → f k = some (.ref k)) : ∀ d : D, refsBb n d = true → frzF f d = some d
  | .lst xs, h => by simp only [refsBb] at h; simp only [frzF, frzsF_bd hf xs h, Option.map_some]
  | .fix xs, h => by simp only [refsBb] at h; simp only [frzF, frzsF_bd hf xs h, Option.map_some]
  | .tup xs, h => by simp only [refsBb] at h; simp only [frzF, frzsF_bd hf xs h, Option.map_some]
  | .dct _ xs, h => by simp only [refsBb] at h; simp only [frzF, frzsF_bd hf xs h, Option.map_some]
  | .ref k, h => by simp only [refsBb, decide_eq_true_eq] at h; simp only [frzF, hf k h]
  | .non, _ => by simp only [frzF]
  | .bl _, _ => by simp only [frzF]
  | .int _, _ => by simp only [frzF]
  | .str _, _ => by simp only [frzF]
  | .ty _, _ => by simp only [frzF]
theorem frzsF_bd {f : Nat → Option D} {n : Nat} (hf : ∀ k, k < n → f k = some (.ref k)) : ∀ ds : List D, refsBbs n ds = true → frzsF f ds = some ds
  | [], _ => by simp only [frzsF]
  | d :: ds, h => by
    simp only [refsBbs, Bool.and_eq_true] at h
    simp only [frzsF, frzF_bd hf d h.1, frzsF_bd hf ds h.2, Option.bind_some, Option.map_some]
end
theorem frz_bd {n m : Nat} {st : Store} {d : D} (h : refsBb n d = true) : frz n st m d = some d := by
  cases m with
  | zero => exact frzF_bd (fun k hk => if_pos hk) d h
  | succ m => exact frzF_bd (fun k hk => if_pos hk) d h
def envB (n : Nat) : Env' → Bool
  | [] => true
  | none :: r => envB n r
  | some d :: r => refsBb n d && envB n r
theorem frzE_bd {n : Nat} {st : Store} : ∀ {env : Env'}, envB n env = true → frzE n st env = some env
  | [], _ => rfl
  | none :: r, h => by
    simp only [envB] at h
    simp only [frzE, frzO, Option.bind_some, frzE_bd h, Option.map_some]
  | some d :: r, h => by
    simp only [envB, Bool.and_eq_true] at h
    simp only [frzE, frzO, frz_bd h.1, Option.map_some, Option.bind_some, frzE_bd h.2]
mutual
theorem noRef_bd {n : Nat} : ∀ d : D, noRef d = true → refsBb n d = true
  | .lst xs, h => by simp only [noRef] at h; simp only [refsBb]; exact noRefs_bd xs h
  | .fix xs, h => by simp only [noRef] at h; simp only [refsBb]; exact noRefs_bd xs h
  | .tup xs, h => by simp only [noRef] at h; simp only [refsBb]; exact noRefs_bd xs h
  | .dct _ xs, h => by simp only [noRef] at h; simp only [refsBb]; exact noRefs_bd xs h
  | .ref k, h => by simp [noRef] at h
  | .non, _ => by simp only [refsBb]
  | .bl _, _ => by simp only [refsBb]
  | .int _, _ => by simp only [refsBb]
  | .str _, _ => by simp only [refsBb]
  | .ty _, _ => by simp only [refsBb]
theorem noRefs_bd {n : Nat} : ∀ ds : List D, noRefs ds = true → refsBbs n ds = true
  | [], _ => by simp only [refsBbs]
  | d :: ds, h => by
    simp only [noRefs, Bool.and_eq_true] at h
    simp only [refsBbs, noRef_bd d h.1, noRefs_bd ds h.2, Bool.and_self]
end
theorem refsBbs_map {α : Type} {n : Nat} (f : α → D) : ∀ {l : List α}, (∀ a ∈ l, refsBb n (f a) = true) → refsBbs n (l.map f) = true
  | [], _ => by simp only [List.map_nil, refsBbs]
  | a :: r, h => by simp only [List.map_cons, refsBbs, h a List.mem_cons_self, refsBbs_map f fun b hb => h b (List.mem_cons_of_mem _ hb), Bool.and_self]
theorem trim_cut2 {l : List Nat} {m : Sv} {env e : Env'} {st st1 cs : Store} (h : m env st = .ok (.nx, e) (st1 ++ cs)) (hl : st1.length = st.length) (hb : st1.all (cellBb st.length) = true) (he : envB st.length (wipeE e l) = true) : sTrim l m env st = .ok (.nx, wipeE e l) st1 := by
  unfold sTrim
  rw [h]
  show trimK st .nx (wipeE e l) (st1 ++ cs) = _
  unfold trimK
  have ht : (st1 ++ cs).take st.length = st1 := by rw [← hl, List.take_left]
  split
  · rename_i h1
    have : cs = [] := by
      rw [List.length_append, hl] at h1
      exact List.length_eq_zero_iff.mp (by omega)
    subst this
    rw [List.append_nil]
  · have h2 : cutSt st (st1 ++ cs) = true := by
      unfold cutSt
      rw [ht, hb, Bool.or_true]
    rw [if_pos h2, frzE_bd he, ht]
theorem go_cut {l : List Nat} {m : Sv} {env env' : Env'} {st st1 : Store} (h : Goes m env st fun e st' => wipeE e l = env' ∧ ∃ cs, st' = st1 ++ cs) (hl : st1.length = st.length) (hb : st1.all (cellBb st.length) = true) (he : envB st.length env' = true) : sTrim l m env st = .ok (.nx, env') st1 := by
  obtain ⟨e, st', h1, h2, cs, rfl⟩ := h
  subst h2
  exact trim_cut2 h1 hl hb he
theorem append_st {mo ma : Ev D} {env : Env'} {st st1 st2 : Store} {n : Nat} {d : D} {xs ds : List D} (ho : mo env st = .ok (.ref n) st1) (hr : st1[n]? = some (.lst xs)) (ha : ma env st1 = .ok d st2) (h : st2[n]? = some (.lst ds)) (hl : ds.length < 16777216) : mMt "list" gAppend mo (mCons ma mNil) env st = .ok .non (st2.set n (.lst (ds ++ [d]))) := by
  have hr2 : rcv "list" st1 (.ref n) = true := by
    show (asL st1 (.ref n)).isSome = true
    simp only [asL, hr, Option.isSome_some]
  have hg : gAppend st2 (.ref n) [d] = some (.non, st2.set n (.lst (ds ++ [d]))) := by
    simp only [gAppend, h]
    rw [if_pos (by rw [size_eq]; exact hl)]
  simp only [mMt, mCons, mNil, ho, ha, Res.ok_bind, hr2, if_true, hg]
theorem rng_1 {m : Ev D} {env : Env'} {st : Store} {i : Int} (h : m env st = .ok (.int i) st) (h1 : -1000 ≤ i) (h2 : i ≤ 1000000) : mIA (fun _ => srcR1) (mCons m mNil) env st = .ok ⟨rngD 0 i.toNat, yes⟩ st := by
  simp only [mIA, args_1 h, Res.ok_bind, srcR1]
  rw [if_pos (by omega)]
  rfl
theorem il_cell {m : Ev D} {env : Env'} {st : Store} {n : Nat} {xs : List D} (h : m env st = .ok (.ref n) st) (hs : st[n]? = some (.lst xs)) : mIL m env st = .ok ⟨xs, keepL (.ref n) xs⟩ st := by
  simp only [mIL, h, Res.ok_bind, srcL, asL, hs, Option.map_some, Res.of_some]
end Mr
namespace Mr
open PySem PySem.Spec L2
/-! ### the module's tuples and dicts -/
def strsB : List Value → List Str → Bool
  | [], [] => true
  | .str y _ :: r, x :: s => decide (y = x) && strsB r s
  | _, _ => false
theorem strsB_ok : ∀ {vs : List Value} {xs : List Str}, strsB vs xs = true → Vals (xs.map V.str) vs
  | [], [], _ => .nil
  | [], x :: s, h => by simp [strsB] at h
  | v :: r, [], h => by cases v <;> simp [strsB] at h
  | v :: r, x :: s, h => by
    cases v with
    | str y t =>
      simp only [strsB, Bool.and_eq_true, decide_eq_true_eq] at h
      rw [← h.1]
      exact .cons ⟨t, rfl⟩ (strsB_ok h.2)
    | _ => simp [strsB] at h
def kT (K : PySem.W.Frag) (a : Addr) (xs : List Str) : Bool := match K.lookup a with
  | some o => decide (o.cls = .type "tuple") && (match o.data with
    | .seq its _ => decide (its.size ≤ 1000) && strsB its.toList xs
    | _ => false)
  | none => false
theorem kT_ok {K : PySem.W.Frag} {a : Addr} {xs : List Str} (h : kT K a xs = true) (H : Hp) : SqT K H a (xs.map V.str) := by
  unfold kT at h
  split at h
  · rename_i o ho
    rw [Bool.and_eq_true, decide_eq_true_eq] at h
    obtain ⟨h1, h2⟩ := h
    split at h2
    · rename_i its n hd
      rw [Bool.and_eq_true, decide_eq_true_eq] at h2
      exact .inr ⟨o, its, n, ho, h1, hd, by rw [size_eq]; omega, strsB_ok h2.2⟩
    · cases h2
  · cases h
def TupC (K : PySem.W.Frag) (mg : Str → Option Value) (x : Str) (xs : List Str) : Prop := mg x = some (.ref (He.ga K x)) ∧ kT K (He.ga K x) xs = true
def kdB (K : PySem.W.Frag) (d : Addr) (tbl : List (Str × List Str)) (neg : List Str) : Bool := (tbl.all fun q => match PySem.W.nsIn K d q.1 with
  | some (some (.ref a)) => kT K a q.2
  | _ => false) && neg.all fun z => He.eqO (PySem.W.nsIn K d z) (some none)
structure DicC (K : PySem.W.Frag) (mg : Str → Option Value) (w : World) (x : Str) (tbl : List (Str × List Str)) (neg : List Str) : Prop where
  gl : mg x = some (.ref (He.ga K x))
  kd : ∃ es n, KDict K w (He.ga K x) es n
  vals : kdB K (He.ga K x) tbl neg = true
theorem lookup_in {α : Type} {z : Str} {a : α} : ∀ {l : List (Str × α)}, l.lookup z = some a → (z, a) ∈ l
  | [], h => by cases h
  | (b, u) :: r, h => by
    simp only [List.lookup] at h
    split at h
    · rename_i q
      cases h
      rw [eq_of_beq q]
      exact List.mem_cons_self
    · exact List.mem_cons_of_mem _ (lookup_in h)
theorem DicC.val {K : PySem.W.Frag} {mg : Str → Option Value} {w : World} {x : Str} {tbl : List (Str × List Str)} {neg : List Str} (h : DicC K mg w x tbl neg) {z : Str} {xs : List Str} (hz : tbl.lookup z = some xs) : ∃ a, PySem.W.nsIn K (He.ga K x) z = some (some (.ref a)) ∧ ∀ H, SqT K H a (xs.map V.str) := by
  have hv := h.vals
  unfold kdB at hv
  rw [Bool.and_eq_true, List.all_eq_true] at hv
  have := hv.1 _ (lookup_in hz)
  simp only at this
  split at this
  · rename_i a ha
    exact ⟨a, ha, kT_ok this⟩
  · cases this
theorem DicC.no {K : PySem.W.Frag} {mg : Str → Option Value} {w : World} {x : Str} {tbl : List (Str × List Str)} {neg : List Str} (h : DicC K mg w x tbl neg) {z : Str} (hz : neg.contains z = true) : PySem.W.nsIn K (He.ga K x) z = some none := by
  have hv := h.vals
  unfold kdB at hv
  rw [Bool.and_eq_true, List.all_eq_true, List.all_eq_true] at hv
  exact He.eqO_ok (hv.2 z (by simpa using hz))
def mKdIx (tbl : List (Str × List Str)) (m : Ev D) : Ev D := fun env st => (m env st).bind fun d st => match d with
  | .str z => Res.of ((tbl.lookup z).map fun xs => .tup (xs.map .str)) st
  | _ => .no
def mKdIn (tbl : List (Str × List Str)) (neg : List Str) (m : Ev D) : Ev D := fun env st => (m env st).bind fun d st => match d with
  | .str z => if (tbl.lookup z).isSome = true then .ok (.bl true) st else if neg.contains z = true then .ok (.bl false) st else .no
  | _ => .no
section
variable {T : Tb} {Wx : WX} {X : Cx} {x : Str} {xs : List Str} {e : Expr} {m : Ev D} {p p2 pos : Pos} {tbl : List (Str × List Str)} {neg : List Str}
theorem so_globT (h : TupC X.K X.mg x xs) (hg : Gl X x) (hd : (x == ("__debug__" : Str)) = false := by decide) : SE T Wx X (.Name x pos) (mC (.tup (xs.map .str))) :=
  so_const (v := .ref (He.ga X.K x)) (pe_glob hg h.1 rfl hd) fun W => .tup (kT_ok h.2 W.F) (RDs.strs xs)
theorem so_kdIx (h : DicC X.K X.mg X.w x tbl neg) (hg : Gl X x) (he : SE T Wx X e m) (hs : PlainIx e) (hd : (x == ("__debug__" : Str)) = false := by decide) : SE T Wx X (.Subscript (.Name x p) e pos) (mKdIx tbl m) :=
  PE.imp (pe_ix ix_kdict (pe_glob hg h.gl (v := .ref (He.ga X.K x)) rfl hd) he hs) fun σ H Q q => by
    obtain ⟨W, env, st, re, rs, p⟩ := q
    refine ⟨W, env, st, re, rs, PostG.step p fun d st1 W1 y H1 _ l1 r1 rs1 p1 => ?_⟩
    cases d with
    | str z =>
      cases r1
      cases hz : tbl.lookup z with
      | none => simp only [hz] at p1; exact p1.elim
      | some ys =>
        simp only [hz] at p1
        obtain ⟨a, h1, h2⟩ := h.val hz
        obtain ⟨es, n, D⟩ := h.kd
        exact ⟨_, z, .ref a, rfl, rfl, ⟨es, n, .ref a, D.at_, D.lit, h1, rfl⟩, p1 W1 _ H1 (Wd.le.refl _) (.tup (h2 W1.F) (RDs.strs ys)) rs1⟩
    | _ => exact p1.elim
theorem kdIn_read {K : PySem.W.Frag} (h : DicC K X.mg X.w x tbl neg) {σ : St} {H : Hp} {Q : VK} (q : tE K T Wx (mKdIn tbl neg m) σ H Q) :
    tOp (fun x0 y H Q => ∃ (z : Str) (r : Option Value), x0 = .str z ∧ y = .ref (He.ga K x) ∧ PySem.W.nsIn K (He.ga K x) z = some r ∧ Q (.bl r.isSome) H) (tE K T Wx m) (tC (.ref (He.ga K x))) σ H Q := by
  obtain ⟨W, env, st, re, rs, p⟩ := q
  refine ⟨W, env, st, re, rs, PostG.step p fun d st1 W1 y H1 _ l1 r1 rs1 p1 => ?_⟩
  cases d with
  | str z =>
    cases r1
    cases hz : tbl.lookup z with
    | some ys =>
      simp only [hz, Option.isSome_some, if_true] at p1
      obtain ⟨a, h1, h2⟩ := h.val hz
      exact ⟨z, _, rfl, rfl, h1, p1 W1 _ H1 (Wd.le.refl _) (.bl true) rs1⟩
    | none =>
      simp only [hz, Option.isSome_none, Bool.false_eq_true, if_false] at p1
      split at p1
      · rename_i hn
        exact ⟨z, none, rfl, rfl, h.no hn, p1 W1 _ H1 (Wd.le.refl _) (.bl false) rs1⟩
      · exact p1.elim
  | _ => exact p1.elim
theorem so_kdIn (h : DicC X.K X.mg X.w x tbl neg) (hg : Gl X x) (he : SE T Wx X e m) (hd : (x == ("__debug__" : Str)) = false := by decide) : SE T Wx X (.Compare e [.In] [.Name x p] pos) (mKdIn tbl neg m) := by
  obtain ⟨es, n, D⟩ := h.kd
  exact PE.imp (pe_cmpR (op_in_kd D) he (pe_glob hg h.gl (v := .ref (He.ga X.K x)) rfl hd) rfl) fun σ H Q q => kdIn_read (X := X) h q
end
end Mr
namespace Mr
open PySem PySem.Spec L2
/-! ### dicts -/
def valP : List Key → List D → Key → Option D
  | k0 :: ks, d :: ds, k => if k0 = k then some d else valP ks ds k
  | _, _, _ => none
def repl {α : Type} : List Key → List α → Key → α → List α
  | k0 :: ks, d :: ds, k, v => (if k0 = k then v else d) :: repl ks ds k v
  | _, _, _, _ => []
def putKs (ks : List Key) (k : Key) : List Key := if memK ks k = true then ks else ks ++ [k]
def putVs {α : Type} (ks : List Key) (ds : List α) (k : Key) (v : α) : List α := if memK ks k = true then repl ks ds k v else ds ++ [v]
def mergeD : List Key → List D → List Key → List D → List Key × List D
  | ks, ds, k :: kr, v :: vr => mergeD (putKs ks k) (putVs ks ds k v) kr vr
  | ks, ds, _, _ => (ks, ds)
section
variable {K : PySem.W.Frag} {F : Hp} {rh : List Addr}
theorem repl_len {α : Type} : ∀ {ks : List Key} {xs : List α} {k : Key} {v : α}, ks.length = xs.length → (repl ks xs k v).length = xs.length
  | [], [], _, _, _ => rfl
  | [], _ :: _, _, _, h => by simp at h
  | _ :: _, [], _, _, h => by simp at h
  | k0 :: ks, x :: xs, k, v, h => by simp only [repl, List.length_cons, repl_len (ks := ks) (xs := xs) (by simpa using h)]
theorem put_len {ks : List Key} {xs : List V} {k : Key} {v : V} (h : ks.length = xs.length) : (putKs ks k).length = (putVs ks xs k v).length := by
  unfold putKs putVs
  split
  · rw [repl_len h, h]
  · simp [h]
theorem valP_ok : ∀ {ks : List Key} {ds : List D} {xs : List V} {k : Key} {d : D}, RDs K F rh ds xs → valP ks ds k = some d → ∃ v, valV (ks.zip xs) k = some v ∧ RD K F rh d v
  | [], ds, xs, k, d, r, h => by cases ds <;> simp [valP] at h
  | k0 :: ks, [], xs, k, d, r, h => by simp [valP] at h
  | k0 :: ks, e :: ds, _, k, d, .cons (v := v) (vs := vs) r1 r2, h => by
    simp only [valP] at h
    rw [List.zip_cons_cons]
    by_cases hk : k0 = k
    · rw [if_pos hk] at h
      cases h
      exact ⟨v, valV_pos hk, r1⟩
    · rw [if_neg hk] at h
      obtain ⟨w, h1, h2⟩ := valP_ok r2 h
      exact ⟨w, by rw [valV_neg hk]; exact h1, h2⟩
theorem valP_no : ∀ {ks : List Key} {ds : List D} {xs : List V} {k : Key}, RDs K F rh ds xs → ks.length = xs.length → valP ks ds k = none → valV (ks.zip xs) k = none
  | [], ds, xs, k, r, hl, h => by rw [List.zip_nil_left]; rfl
  | k0 :: ks, [], xs, k, r, hl, h => by cases r; simp at hl
  | k0 :: ks, e :: ds, _, k, .cons (v := v) (vs := vs) r1 r2, hl, h => by
    simp only [valP] at h
    rw [List.zip_cons_cons]
    by_cases hk : k0 = k
    · rw [if_pos hk] at h; cases h
    · rw [if_neg hk] at h
      rw [valV_neg hk]
      exact valP_no r2 (by simpa using hl) h
theorem repl_ok {d : D} {v : V} (hv : RD K F rh d v) : ∀ {ks : List Key} {ds : List D} {xs : List V} {k : Key}, RDs K F rh ds xs → RDs K F rh (repl ks ds k d) (repl ks xs k v)
  | [], _, _, _, _ => by simp only [repl]; exact .nil
  | _ :: _, _, _, _, .nil => by simp only [repl]; exact .nil
  | k0 :: ks, _, _, k, .cons r1 r2 => by
    simp only [repl]
    refine .cons ?_ (repl_ok hv r2)
    split
    · exact hv
    · exact r1
theorem put_ok {d : D} {v : V} (hv : RD K F rh d v) {ks : List Key} {ds : List D} {xs : List V} {k : Key} (r : RDs K F rh ds xs) : RDs K F rh (putVs ks ds k d) (putVs ks xs k v) := by
  unfold putVs
  split
  · exact repl_ok hv r
  · exact r.append (.cons hv .nil)
theorem repl_zip {v : V} : ∀ {ks : List Key} {xs : List V} {k : Key}, (ks.zip xs).map (fun kv => if kv.1 = k then (kv.1, v) else kv) = ks.zip (repl ks xs k v)
  | [], _, _ => rfl
  | _ :: _, [], _ => rfl
  | k0 :: ks, x :: xs, k => by
    simp only [List.zip_cons_cons, List.map_cons, repl, repl_zip (ks := ks)]
    by_cases h : k0 = k <;> simp [h]
theorem any_zip : ∀ {ks : List Key} {xs : List V} {k : Key}, ks.length = xs.length → ((ks.zip xs).any fun kv => decide (kv.1 = k)) = memK ks k
  | [], _, _, _ => rfl
  | _ :: _, [], _, h => by simp at h
  | k0 :: ks, x :: xs, k, h => by
    have ih := any_zip (ks := ks) (xs := xs) (k := k) (by simpa using h)
    unfold memK at ih ⊢
    simp only [List.zip_cons_cons, List.any_cons, ih]
theorem put_zip {v : V} {ks : List Key} {xs : List V} {k : Key} (h : ks.length = xs.length) : putK (ks.zip xs) k v = (putKs ks k).zip (putVs ks xs k v) := by
  unfold putK putKs putVs
  rw [any_zip h]
  split
  · exact repl_zip
  · rw [List.zip_append h]
    rfl
def mergeV : List Key → List V → List Key → List V → List Key × List V
  | ks, ds, k :: kr, v :: vr => mergeV (putKs ks k) (putVs ks ds k v) kr vr
  | ks, ds, _, _ => (ks, ds)
theorem merge_ok : ∀ {kr : List Key} {vr : List D} {ur : List V} {ks : List Key} {ds : List D} {xs : List V}, RDs K F rh vr ur → RDs K F rh ds xs → ks.length = xs.length → kr.length = ur.length →
    ∃ ys, (mergeD ks ds kr vr).1.length = ys.length ∧ RDs K F rh (mergeD ks ds kr vr).2 ys ∧ mergeK (ks.zip xs) (kr.zip ur) = (mergeD ks ds kr vr).1.zip ys
  | [], vr, ur, ks, ds, xs, r, q, hl, hk => by
    have e : mergeD ks ds [] vr = (ks, ds) := by cases vr <;> rfl
    rw [e]
    exact ⟨xs, hl, q, rfl⟩
  | k :: kr, [], ur, ks, ds, xs, r, q, hl, hk => by cases r; simp at hk
  | k :: kr, d :: vr, _, ks, ds, xs, .cons (v := v) (vs := vs) r1 r2, q, hl, hk => by
    obtain ⟨ys, h1, h2, h3⟩ := merge_ok (kr := kr) (ks := putKs ks k) (ds := putVs ks ds k d) (xs := putVs ks xs k v) r2 (put_ok r1 q) (put_len hl) (by simpa using hk)
    refine ⟨ys, h1, h2, ?_⟩
    rw [List.zip_cons_cons]
    show (kr.zip vs).foldl _ (putK (ks.zip xs) k v) = _
    rw [put_zip hl]
    exact h3
end
def asDc (st : Store) : D → Option (List Key × List D)
  | .dct ks ds => some (ks, ds)
  | .ref n => match st[n]? with
    | some (.dct ks ds) => some (ks, ds)
    | some (.dcf ks ds) => some (ks, ds)
    | _ => none
  | _ => none
section
variable {K : PySem.W.Frag} {T : Tb} {Wx : WX} {X : Cx} {W : Wd} {st : Store} {H : Hp}
theorem asDc_ok {d : D} {v : V} {ks : List Key} {ds : List D} (rs : RS K T W st H) (r : RV K W d v) (e : asDc st d = some (ks, ds)) : ∃ a xs, v = .ref a ∧ Rd H a (.dK (ks.zip xs)) ∧ ks.length = xs.length ∧ RVs K W ds xs := by
  cases r with
  | dct h l q => cases e; exact ⟨_, _, rfl, .inl (rs.f _ _ h), l, q⟩
  | ref h =>
    simp only [asDc] at e
    split at e
    · rename_i ks' ds' hs
      cases e
      obtain ⟨xs, h1, h2, h3⟩ := rs.cell _ _ _ hs h
      exact ⟨_, xs, rfl, .inl h1, h2, h3⟩
    · rename_i ks' ds' hs
      cases e
      obtain ⟨xs, ob, h1, h2, h3⟩ := rs.cell _ _ _ hs h
      exact ⟨_, xs, rfl, .inr ⟨ob, h1⟩, h2, h3⟩
    · cases e
  | _ => cases e
theorem kyD_ok {d : D} {v : V} {k : Key} (r : RV K W d v) (e : kyD d = some k) : v = kV k := by
  cases r <;> simp only [kyD] at e <;> cases e <;> rfl
def gIxD (st : Store) (d e : D) : Option D := (asDc st d).bind fun q => (kyD e).bind fun k => valP q.1 q.2 k
def gInD (st : Store) (e d : D) : Option D := (asDc st d).bind fun q => (kyD e).map fun k => .bl (valP q.1 q.2 k).isSome
def gNinD (st : Store) (e d : D) : Option D := (asDc st d).bind fun q => (kyD e).map fun k => .bl (!(valP q.1 q.2 k).isSome)
variable {a b : Expr} {ma mb : Ev D} {pos : Pos}
theorem so_dget (hu : X.A.units + 1 < cLine) (ha : SE T Wx X a ma) (hb : SE T Wx X b mb) (hs : NoSl b := by first | exact nosl _ | (intro _ _ h; cases h) | skip) : SE T Wx X (.Subscript a b pos) (mBin gIxD ma mb) :=
  PE.imp (pe_dget hu ha hb hs) fun σ H Q q => by
    obtain ⟨W, env, st, re, rs, p⟩ := q
    refine ⟨W, env, st, re, rs, PostG.step p fun d st1 W1 x H1 _ l1 r1 rs1 p1 => ?_⟩
    refine ⟨W1, env, st1, re.mono l1, rs1, PostG.step p1 fun e st2 W2 y H2 _ l2 r2 rs2 p2 => ?_⟩
    cases hz : gIxD st2 d e with
    | none => rw [hz] at p2; exact p2.elim
    | some z =>
      rw [hz] at p2
      simp only [gIxD, Option.bind_eq_some_iff] at hz
      obtain ⟨⟨ks, ds⟩, h1, k, h2, h3⟩ := hz
      obtain ⟨a', xs, rfl, g1, g2, g3⟩ := asDc_ok rs2 (r1.mono l2) h1
      obtain ⟨v, g4, g5⟩ := valP_ok g3 h3
      obtain rfl := kyD_ok r2 h2
      refine ⟨a', v, rfl, ?_, p2 W2 v H2 (Wd.le.refl _) g5 rs2⟩
      rw [← g4]
      exact .inl ⟨_, _, g1, rfl, rfl⟩
theorem din_read {neg : Bool} {g : Store → D → D → Option D} (hg : ∀ st e d z, g st e d = some z → ∃ ks ds k, asDc st d = some (ks, ds) ∧ kyD e = some k ∧ z = .bl (if neg = true then !(valP ks ds k).isSome else (valP ks ds k).isSome)) {σ : St} {H : Hp} {Q : VK} (q : tE K T Wx (mBin g ma mb) σ H Q) :
    tE K T Wx ma σ H fun y H1 => tE K T Wx mb σ H1 fun x H2 => ∃ a o, x = .ref a ∧ DGet H2 a y o ∧ Q (.bl (if neg = true then !o.isSome else o.isSome)) H2 := by
  obtain ⟨W, env, st, re, rs, p⟩ := q
  refine ⟨W, env, st, re, rs, PostG.step p fun e st1 W1 y H1 _ l1 r1 rs1 p1 => ?_⟩
  refine ⟨W1, env, st1, re.mono l1, rs1, PostG.step p1 fun d st2 W2 x H2 _ l2 r2 rs2 p2 => ?_⟩
  cases hz : g st2 e d with
  | none => rw [hz] at p2; exact p2.elim
  | some z =>
    rw [hz] at p2
    obtain ⟨ks, ds, k, h1, h2, rfl⟩ := hg _ _ _ _ hz
    obtain ⟨a', xs, rfl, g1, g2, g3⟩ := asDc_ok rs2 r2 h1
    obtain rfl := kyD_ok r1 h2
    have e : (valV (ks.zip xs) k).isSome = (valP ks ds k).isSome := by
      cases hv : valP ks ds k with
      | none => rw [valP_no g3 g2 hv]; rfl
      | some v => obtain ⟨w, h3, _⟩ := valP_ok g3 hv; rw [h3]; rfl
    refine ⟨a', _, rfl, .inl ⟨_, _, g1, rfl, rfl⟩, ?_⟩
    rw [e]
    exact p2 W2 _ H2 (Wd.le.refl _) (.bl _) rs2
theorem gInD_some {st : Store} {e d z : D} (h : gInD st e d = some z) : ∃ ks ds k, asDc st d = some (ks, ds) ∧ kyD e = some k ∧ z = .bl (if false = true then !(valP ks ds k).isSome else (valP ks ds k).isSome) := by
  simp only [gInD, Option.bind_eq_some_iff, Option.map_eq_some_iff] at h
  obtain ⟨⟨ks, ds⟩, h1, k, h2, rfl⟩ := h
  exact ⟨ks, ds, k, h1, h2, rfl⟩
theorem gNinD_some {st : Store} {e d z : D} (h : gNinD st e d = some z) : ∃ ks ds k, asDc st d = some (ks, ds) ∧ kyD e = some k ∧ z = .bl (if true = true then !(valP ks ds k).isSome else (valP ks ds k).isSome) := by
  simp only [gNinD, Option.bind_eq_some_iff, Option.map_eq_some_iff] at h
  obtain ⟨⟨ks, ds⟩, h1, k, h2, rfl⟩ := h
  exact ⟨ks, ds, k, h1, h2, rfl⟩
theorem so_din (hu : X.A.units + 1 < cLine) (ha : SE T Wx X a ma) (hb : SE T Wx X b mb) (hm : behindInMarks .In b = false := by rfl) : SE T Wx X (.Compare a [.In] [b] pos) (mBin gInD ma mb) :=
  PE.imp (pe_cmp (pc_din hu ha hb) hm) fun σ H Q q => din_read (K := X.K) (neg := false) (fun _ _ _ _ h => gInD_some h) q
theorem so_dnin (hu : X.A.units + 1 < cLine) (ha : SE T Wx X a ma) (hb : SE T Wx X b mb) (hm : behindInMarks .NotIn b = false := by rfl) : SE T Wx X (.Compare a [.NotIn] [b] pos) (mBin gNinD ma mb) :=
  PE.imp (pe_cmp (pc_dnotin hu ha hb) hm) fun σ H Q q => din_read (K := X.K) (neg := true) (fun _ _ _ _ h => gNinD_some h) q
theorem sx_din (hu : X.A.units + 1 < cLine) (ha : SE T Wx X a ma) (hb : SE T Wx X b mb) (hm : behindInMarks .In b = false := by rfl) : SX T Wx X (.Compare a [.In] [b] pos) (mTest (mBin gInD ma mb)) :=
  PT.imp (pt_cmp (pc_din hu ha hb) hm) fun σ H Q q => din_read (K := X.K) (neg := false) (fun _ _ _ _ h => gInD_some h) (test_read σ H Q q)
theorem sx_dnin (hu : X.A.units + 1 < cLine) (ha : SE T Wx X a ma) (hb : SE T Wx X b mb) (hm : behindInMarks .NotIn b = false := by rfl) : SX T Wx X (.Compare a [.NotIn] [b] pos) (mTest (mBin gNinD ma mb)) :=
  PT.imp (pt_cmp (pc_dnotin hu ha hb) hm) fun σ H Q q => din_read (K := X.K) (neg := true) (fun _ _ _ _ h => gNinD_some h) (test_read σ H Q q)
/-- d[k] = v -/
def sSetD (mo mi mv : Ev D) : Sv := fun env st => (mv env st).bind fun v st => (mo env st).bind fun d st => (mi env st).bind fun i st => match d, kyD i with
  | .ref n, some k => match st[n]? with
    | some (.dct ks ds) => if ks.length < 1000000 then .ok (.nx, env) (st.set n (.dct (putKs ks k) (putVs ks ds k v))) else .no
    | _ => .no
  | _, _ => .no
theorem ss_setD {o i v : Expr} {mo mi mv : Ev D} {p2 : Pos} (hu : X.A.units + 1 < cLine) (ho : SE T Wx X o mo) (hi : SE T Wx X i mi) (hv : SE T Wx X v mv)
    (ha : ∀ v, assign (.Subscript o i p2) X.env v = (do
      let ov ← holding [v] (eval o X.env)
      let iv ← holding [v, ov] (eval i X.env)
      standAt p2
      holding [v, ov, iv] (setItem ov iv v)
      release [v, ov, iv] []) := by intro _; rfl)
    (hs : swapsWithSole [.Subscript o i p2] v pos.line X.env = pure false := by rfl) (hw : swappedStores [.Subscript o i p2] v X.env = pure none := by rfl)
    (h1 : (assignEach [.Subscript o i p2] X.env).map (·.2) = [assign (.Subscript o i p2) X.env] := by rfl) : SS T Wx X (.Assign [.Subscript o i p2] v pos) (sSetD mo mi mv) :=
  PS.imp (ps_asg hv (pg_sub ho hi (set_dict hu) ha) hs hw h1) fun D σ H q => by
    obtain ⟨W, env, st, re, rs, p⟩ := q
    refine ⟨W, env, st, re, rs, PostS.step p fun z st1 W1 y H1 _ l1 r1 rs1 p1 => ?_⟩
    refine ⟨W1, env, st1, re.mono l1, rs1, PostS.step p1 fun d st2 W2 w H2 eq1 l2 r2 rs2 p2 => ?_⟩
    clear eq1
    refine ⟨W2, env, st2, (re.mono l1).mono l2, rs2, PostS.step p2 fun i st3 W3 u H3 eq0 l3 r3 rs3 p3 => ?_⟩
    clear eq0
    split at p3
    · rename_i n k hk
      split at p3
      · rename_i ks ds hs
        split at p3
        · rename_i hl
          have r2' := r2.mono l3
          obtain rfl := kyD_ok r3 hk
          cases r2' with
          | ref h =>
            obtain ⟨xs, g1, g2, g3⟩ := rs3.cell _ _ _ hs h
            refine ⟨_, _, rfl, DPut.k g1 (by rw [List.length_zip, ← g2, Nat.min_self, size_eq]; omega), ?_⟩
            rw [put_zip g2]
            exact p3 W3 σ _ (Wd.le.refl _) (((re.mono l1).mono l2).mono l3) (rs3.setC h ⟨_, rfl, put_len g2, put_ok ((r1.mono l2).mono l3) g3⟩ hs)
        · exact p3.elim
      · exact p3.elim
    · exact p3.elim
/-! new dicts -/
theorem new_dct {ks : List Key} {ds : List D} {xs : List V} {p : Addr} (rs : RS K T W st H) (h : H p = none) (hl : ks.length = xs.length) (r : RVs K W ds xs) :
    W.le (W.addF p (.dK (ks.zip xs))) ∧ RV K (W.addF p (.dK (ks.zip xs))) (.dct ks ds) (.ref p) ∧ RS K T (W.addF p (.dK (ks.zip xs))) st (upd H p (.dK (ks.zip xs))) :=
  ⟨rs.le_addF h, .dct upd_same hl (r.mono (rs.le_addF h)), rs.newF h (fok_dK _)⟩
theorem new_dctC {ks : List Key} {ds : List D} {xs : List V} {p : Addr} (rs : RS K T W st H) (h : H p = none) (hl : ks.length = xs.length) (r : RVs K W ds xs) :
    W.le (W.addC p) ∧ RV K (W.addC p) (.ref st.length) (.ref p) ∧ RS K T (W.addC p) (st ++ [.dct ks ds]) (upd H p (.dK (ks.zip xs))) :=
  ⟨W.le_addC p, .ref (by show (W.rh ++ [p])[st.length]? = some p; rw [← rs.len, List.getElem?_append_right (Nat.le_refl _)]; simp), rs.newC h ⟨xs, rfl, hl, r.mono (W.le_addC p)⟩⟩
def mDict0 : Ev D := fun _ st => .ok (.dct [] []) st
def mDict0C : Ev D := fun _ st => .ok (.ref st.length) (st ++ [.dct [] []])
theorem so_dict0 : SE T Wx X (.Dict [] [] pos) mDict0 := PE.imp pe_dnewK fun σ H Q q => by
  obtain ⟨W, env, st, re, rs, p⟩ := q
  intro b hb
  obtain ⟨l1, l2, l3⟩ := new_dct (ks := []) (ds := []) (xs := []) rs hb rfl .nil
  exact p _ _ _ l1 l2 l3
theorem so_dict0C : SE T Wx X (.Dict [] [] pos) mDict0C := PE.imp pe_dnewK fun σ H Q q => by
  obtain ⟨W, env, st, re, rs, p⟩ := q
  intro b hb
  obtain ⟨l1, l2, l3⟩ := new_dctC (ks := []) (ds := []) (xs := []) rs hb rfl .nil
  exact p _ _ _ l1 l2 l3
/-- the pairs of a list of pairs -/
def prsD : List D → Option (List Key × List D)
  | [] => some ([], [])
  | .tup [k, v] :: r => (kyD k).bind fun k => (prsD r).map fun q => (k :: q.1, v :: q.2)
  | _ => none
theorem prsD_ok (rs : RS K T W st H) : ∀ {ds : List D} {ks : List Key} {vs : List D} {xs : List V}, prsD ds = some (ks, vs) → RVs K W ds xs → ∃ (ps : List Addr) (us : List V), xs = ps.map V.ref ∧ ks.length = us.length ∧ RVs K W vs us ∧ Paired (fun p kv => SqT K H p [kV kv.1, kv.2]) ps (ks.zip us)
  | [], ks, vs, xs, h, r => by
    cases h; cases r
    exact ⟨[], [], rfl, rfl, .nil, .nil⟩
  | d :: ds, ks, vs, xs, h, r => by
    cases r with
    | cons r1 r2 =>
      unfold prsD at h
      split at h
      · rename_i _ hd; cases hd
      · rename_i k v r' hd
        cases hd
        simp only [Option.bind_eq_some_iff, Option.map_eq_some_iff, Prod.mk.injEq] at h
        obtain ⟨k', h1, ⟨kr, vr⟩, h2, rfl, rfl⟩ := h
        obtain ⟨ps, us, rfl, g1, g2, g3⟩ := prsD_ok rs h2 r2
        obtain ⟨p, ys, rfl, g4, g5⟩ := asT_ok rs r1 rfl
        obtain ⟨x, y, rfl, q1, q2⟩ := g5.two
        obtain rfl := kyD_ok q1 h1
        exact ⟨p :: ps, y :: us, rfl, by simp [g1], .cons q2 g2, .cons g4 g3⟩
      · cases h
def dictOf (st : Store) : List D → Option (List Key × List D)
  | [d] => (asL st d).bind fun xs => (prsD xs).map fun q => mergeD [] [] q.1 q.2
  | _ => none
def cDict (st : Store) (ds : List D) : Option D := (dictOf st ds).map fun q => .dct q.1 q.2
def cDictC (st : Store) (ds : List D) : Option (D × Store) := (dictOf st ds).map fun q => (.ref st.length, st ++ [.dct q.1 q.2])
theorem dictOf_ok {ds : List D} {xs : List V} {ks : List Key} {vs : List D} (rs : RS K T W st H) (r : RVs K W ds xs) (h : dictOf st ds = some (ks, vs)) : ∃ (a : Addr) (ps : List Addr) (kvs : List (Key × V)) (ys : List V), xs = [.ref a] ∧ SqL K H a (ps.map V.ref) ∧ Paired (fun p kv => SqT K H p [kV kv.1, kv.2]) ps kvs ∧ mergeK [] kvs = ks.zip ys ∧ ks.length = ys.length ∧ RVs K W vs ys := by
  unfold dictOf at h
  split at h
  · simp only [Option.bind_eq_some_iff, Option.map_eq_some_iff] at h
    obtain ⟨zs, e1, ⟨kr, vr⟩, e2, e3⟩ := h
    obtain ⟨v, rfl, r0⟩ := r.one
    obtain ⟨a, ws, rfl, h1, q1⟩ := asL_ok rs r0 e1
    obtain ⟨ps, us, rfl, g1, g2, g3⟩ := prsD_ok rs e2 q1
    obtain ⟨ys, m1, m2, m3⟩ := merge_ok (ks := []) (ds := []) (xs := []) g2 .nil rfl g1
    have e3' : mergeD [] [] kr vr = (ks, vs) := e3
    rw [e3'] at m1 m2 m3
    exact ⟨a, ps, kr.zip us, ys, rfl, h1, g3, m3, m1, m2⟩
  · cases h
theorem c_dict (hc : X.calm = true) : CallR X (.type "dict") (rC X.K T cDict) := by
  intro pins s σ H xs us Q I r q
  obtain ⟨W, st, ds, z, r1, rs, hz, k⟩ := q
  simp only [cDict, Option.map_eq_some_iff] at hz
  obtain ⟨⟨ks, vs⟩, h1, rfl⟩ := hz
  obtain ⟨a, ps, kvs, ys, rfl, g1, g2, g3, g4, g5⟩ := dictOf_ok rs r1 h1
  refine call_dictP hc pins s σ H _ us Q I r ⟨a, ps, kvs, rfl, g1, g2, fun p hp => ?_⟩
  rw [g3]
  obtain ⟨l1, l2, l3⟩ := new_dct rs hp g4 g5
  exact k _ _ _ l1 l2 l3
theorem c_dictC (hc : X.calm = true) : CallR X (.type "dict") (rCS X.K T cDictC) := by
  intro pins s σ H xs us Q I r q
  obtain ⟨W, st, ds, z, st', r1, rs, hz, k⟩ := q
  simp only [cDictC, Option.map_eq_some_iff, Prod.mk.injEq] at hz
  obtain ⟨⟨ks, vs⟩, h1, rfl, rfl⟩ := hz
  obtain ⟨a, ps, kvs, ys, rfl, g1, g2, g3, g4, g5⟩ := dictOf_ok rs r1 h1
  refine call_dictP hc pins s σ H _ us Q I r ⟨a, ps, kvs, rfl, g1, g2, fun p hp => ?_⟩
  rw [g3]
  obtain ⟨l1, l2, l3⟩ := new_dctC rs hp g4 g5
  exact k _ _ _ l1 l2 l3
/-- list(d) -/
def kvD : Key → D
  | .inl i => .int i
  | .inr x => .str x
def cListD (st : Store) : List D → Option D
  | [d] => (asDc st d).map fun q => .lst (q.1.map kvD)
  | _ => none
theorem RDs.keys {F : Hp} {rh : List Addr} : ∀ (ks : List Key), RDs K F rh (ks.map kvD) (ks.map kV)
  | [] => .nil
  | .inl i :: ks => .cons (.int i) (RDs.keys ks)
  | .inr x :: ks => .cons (.str x) (RDs.keys ks)
theorem zip_keys : ∀ {ks : List Key} {xs : List V}, ks.length = xs.length → (ks.zip xs).map (fun kv => kV kv.1) = ks.map kV
  | [], _, _ => rfl
  | _ :: _, [], h => by simp at h
  | k :: ks, x :: xs, h => by rw [List.zip_cons_cons, List.map_cons, List.map_cons, zip_keys (by simpa using h)]
theorem c_listD (hc : X.calm = true) : CallR X (.type "list") (rC X.K T cListD) := by
  intro pins s σ H xs us Q I r q
  obtain ⟨W, st, ds, z, r1, rs, hz, k⟩ := q
  unfold cListD at hz
  split at hz
  · simp only [Option.map_eq_some_iff] at hz
    obtain ⟨⟨ks, vs⟩, h1, rfl⟩ := hz
    obtain ⟨v, rfl, r0⟩ := r1.one
    obtain ⟨a, ys, rfl, g1, g2, g3⟩ := asDc_ok rs r0 h1
    refine call_listD hc pins s σ H _ us Q I r ⟨a, _, rfl, g1, fun p hp => ?_⟩
    rw [zip_keys g2]
    obtain ⟨l1, l2, l3⟩ := new_lst rs hp (RDs.keys ks)
    exact k _ _ _ l1 l2 l3
  · cases hz
end
end Mr
namespace Mr
open PySem PySem.Spec L2
/-! ### written dicts -/
def evP : List (Ev D × Ev D) → Ev (List D × List D)
  | [] => fun _ st => .ok ([], []) st
  | q :: r => fun env st => (q.1 env st).bind fun k st => (q.2 env st).bind fun v st => (evP r env st).bind fun z st => .ok (k :: z.1, v :: z.2) st
abbrev RPs (K : PySem.W.Frag) (W : Wd) (q : List D × List D) (ps : List (V × V)) : Prop := ∃ xs ys, xs.length = ys.length ∧ ps = xs.zip ys ∧ RVs K W q.1 xs ∧ RVs K W q.2 ys
def trsOf (K : PySem.W.Frag) (T : Tb) (Wx : WX) (mps : List (Ev D × Ev D)) : List (TE × TE) := mps.map fun q => (tE K T Wx q.1, tE K T Wx q.2)
def SDs (T : Tb) (Wx : WX) (X : Cx) (pos : Pos) (keys : List (Option Expr)) (values : List Expr) (mps : List (Ev D × Ev D)) : Prop := PPs X pos keys values (trsOf X.K T Wx mps)
section
variable {K : PySem.W.Frag} {T : Tb} {Wx : WX} {X : Cx} {W : Wd} {st : Store} {H : Hp}
theorem sd_nil {pos : Pos} : SDs T Wx X pos [] [] [] := pps_nil
theorem sd_cons {pos : Pos} {k v : Expr} {ks : List (Option Expr)} {vs : List Expr} {mk mv : Ev D} {mps : List (Ev D × Ev D)} (hk : SE T Wx X k mk) (hv : SE T Wx X v mv) (hr : SDs T Wx X pos ks vs mps) : SDs T Wx X pos (some k :: ks) (v :: vs) ((mk, mv) :: mps) := pps_cons hk hv hr
theorem pairs_read {σ : St} : ∀ {mps : List (Ev D × Ev D)} {W : Wd} {env : Env'} {st : Store} {H : Hp} {Q : List (V × V) → Hp → Prop}, RE K W env σ → RS K T W st H → (∃ q st', evP mps env st = .ok q st' ∧ ∀ W' ps H', W.le W' → RPs K W' q ps → RS K T W' st' H' → Q ps H') → tPairs (trsOf K T Wx mps) σ H Q
  | [], W, env, st, H, Q, re, rs, ⟨q, st', h, k⟩ => by
    cases h
    exact k W [] H (Wd.le.refl _) ⟨[], [], rfl, rfl, .nil, .nil⟩ rs
  | (mk, mv) :: r, W, env, st, H, Q, re, rs, ⟨q, st', h, k⟩ => by
    simp only [evP] at h
    obtain ⟨d, st1, h1, h⟩ := bind_ok h
    obtain ⟨e, st2, h2, h⟩ := bind_ok h
    obtain ⟨z, st3, h3, h⟩ := bind_ok h
    cases h
    refine ⟨W, env, st, re, rs, ?_⟩
    dsimp only
    rw [h1]
    intro W1 x H1 l1 r1 rs1
    refine ⟨W1, env, st1, re.mono l1, rs1, ?_⟩
    rw [h2]
    intro W2 y H2 l2 r2 rs2
    refine pairs_read ((re.mono l1).mono l2) rs2 ⟨z, st', h3, fun W3 ps H3 l3 rp rs3 => ?_⟩
    obtain ⟨xs, ys, hl, rfl, q1, q2⟩ := rp
    exact k W3 _ H3 ((l1.trans l2).trans l3) ⟨x :: xs, y :: ys, by simp [hl], rfl, .cons ((r1.mono l2).mono l3) q1, .cons (r2.mono l3) q2⟩ rs3
theorem RS.rehideG (R : RS K T W st H) {p : Addr} {o o' : HO} (h : W.U p = some o) (hl : ∀ c q, o ≠ LamX.CodeO c q) (ho : FOk o') : RS K T (W.hid p o') st (upd H p o') := by
  obtain ⟨f0, f1, f3⟩ := R.hidden h
  have ne : ∀ a ∈ W.rh, a ≠ p := fun a ha z => f3 (z ▸ ha)
  refine ⟨fun b u e => ?_, fun b u e => ?_, R.len, R.nd, R.nf, fun a ha => ?_, fun a u e => ?_, fun n c a h1 h2 => ?_, tabs_upd R.tb (fun u e => by rw [f0] at e; cases e; exact (R.ntU p o h).1) (fun c q e => ?_), R.ntF, fun a u e => ?_⟩
  · rw [upd_ne (fun z => by rw [z] at e; exact absurd (show W.F p = some u from e) (by rw [f1]; simp))]; exact R.f b u e
  · by_cases hb : b = p
    · subst hb; simp only [Wd.hid, upd_same] at e ⊢; exact e
    · simp only [Wd.hid] at e; rw [upd_ne hb] at e ⊢; exact R.u b u e
  · show upd W.U p o' a = none
    rw [upd_ne (ne a ha)]; exact R.nu a ha
  · by_cases hb : a = p
    · subst hb; exact f1
    · simp only [Wd.hid] at e; rw [upd_ne hb] at e; exact R.fu a u e
  · rw [upd_ne (ne a (List.mem_of_getElem? h2))]
    exact CellR.same (W := W) (W' := W.hid p o') rfl rfl (R.cell n c a h1 h2)
  · rw [f0] at e
    exact hl c q (Option.some.inj e)
  · by_cases hb : a = p
    · subst hb; simp only [Wd.hid, upd_same] at e; cases e; exact ho
    · simp only [Wd.hid] at e; rw [upd_ne hb] at e; exact R.ntU a u e
def dispOf (q : List D × List D) : Option (List Key × List D) := (kysD q.1).bind fun ks => if ks.length ≤ 15 then some (mergeD [] [] ks q.2) else none
def mDict (mps : List (Ev D × Ev D)) : Ev D := fun env st => ((evP mps env st).nox).bind fun q st => match dispOf q with
  | some m => .ok (.dct m.1 m.2) st
  | none => .no
def mDictC (mps : List (Ev D × Ev D)) : Ev D := fun env st => ((evP mps env st).nox).bind fun q st => match dispOf q with
  | some m => .ok (.ref st.length) (st ++ [.dct m.1 m.2])
  | none => .no
theorem kysD_kV {F : Hp} {rh : List Addr} : ∀ {ds : List D} {ks : List Key} {xs : List V}, kysD ds = some ks → RDs K F rh ds xs → xs = ks.map kV
  | [], ks, xs, h, r => by cases h; cases r; rfl
  | d :: ds, ks, xs, h, r => by
    simp only [kysD, Option.bind_eq_some_iff, Option.map_eq_some_iff] at h
    obtain ⟨k, h1, kr, h2, rfl⟩ := h
    cases r with
    | cons r1 r2 =>
      rw [kysD_kV h2 r2, List.map_cons]
      congr 1
      cases r1 <;> simp only [kyD] at h1 <;> cases h1 <;> rfl
theorem zip_kV : ∀ {ks : List Key} {ys : List V}, (ks.map kV).zip ys = (ks.zip ys).map fun kv => (kV kv.1, kv.2)
  | [], _ => rfl
  | _ :: _, [] => rfl
  | k :: ks, y :: ys => by rw [List.map_cons, List.zip_cons_cons, List.zip_cons_cons, List.map_cons, zip_kV]
theorem disp_read {mps : List (Ev D × Ev D)} {env : Env'} {σ : St} {Q : VK} {q : List D × List D} {st' : Store} {m : List Key × List D} (re : RE K W env σ) (rs : RS K T W st H) (h1 : evP mps env st = .ok q st') (h2 : dispOf q = some m)
    (fin : ∀ (W2 : Wd) (p : Addr) (ys : List V) (H2 : Hp), (W.hid p (.dK [])).le2 W2 → W2.U = upd W.U p (.dK (m.1.zip ys)) → W.U p = none → m.1.length = ys.length → RVs K W2 m.2 ys → RS K T W2 st' H2 → Q (.ref p) H2) : tDisp (trsOf K T Wx mps) σ H Q := by
  intro p hp
  have hU : W.U p = none := (rs.fresh hp).2.1
  have rs1 := rs.hide hp (o := .dK []) (fok_dK _)
  have re1 : RE K (W.hid p (.dK [])) env σ := ⟨re.len, fun i d e => let ⟨v, a, b⟩ := re.at_ i d e; ⟨v, a, RV.mono2 (W' := W.hid p (.dK [])) ⟨fun _ _ h => h, [], by simp [Wd.hid]⟩ b⟩⟩
  refine pairs_read re1 rs1 ⟨q, st', h1, fun W2 ps H2 l2 rp rs2 => ?_⟩
  obtain ⟨xs, ys, hl, rfl, q1, q2⟩ := rp
  have hU2 : W2.U p = some (.dK []) := by rw [l2.2.2]; exact upd_same
  refine ⟨(rs2.hidden hU2).1, ?_⟩
  simp only [dispOf, Option.bind_eq_some_iff] at h2
  obtain ⟨ks, e1, h2⟩ := h2
  split at h2
  · rename_i h15
    cases h2
    have ex := kysD_kV e1 q1
    subst ex
    have hk : ks.length = ys.length := by simpa using hl
    obtain ⟨zs, m1, m2, m3⟩ := merge_ok (ks := []) (ds := []) (xs := []) q2 .nil rfl hk
    refine ⟨ks.zip ys, zip_kV, by rw [List.length_zip, ← hk, Nat.min_self]; exact h15, ?_⟩
    have m3' : mergeK [] (ks.zip ys) = _ := m3
    rw [m3']
    have rs3 := rs2.rehideG hU2 (o' := .dK ((mergeD [] [] ks q.2).1.zip zs)) (fun c q z => by unfold LamX.CodeO at z; cases z) (fok_dK _)
    refine fin (W2.hid p (.dK ((mergeD [] [] ks q.2).1.zip zs))) p zs _ ⟨l2.1, l2.2.1⟩ ?_ hU m1 (RVs.mono2 (W' := W2.hid p _) ⟨fun _ _ h => h, [], by simp [Wd.hid]⟩ m2) rs3
    show upd W2.U p _ = _
    rw [l2.2.2]
    show upd (upd W.U p _) p _ = _
    rw [upd_upd]
  · cases h2
theorem so_dict {pos : Pos} {keys : List (Option Expr)} {values : List Expr} {mps : List (Ev D × Ev D)} (h : SDs T Wx X pos keys values mps) (hall : keys.all (·.isSome) = true := by rfl) (hl : keys.length = values.length := by rfl) (h0 : keys ≠ [] := by simp) (h15 : keys.length ≤ 15 := by decide) : SE T Wx X (.Dict keys values pos) (mDict mps) :=
  PE.imp (pe_disp h hall hl h0 h15) fun σ H Q q => by
    obtain ⟨W, env, st, re, rs, p⟩ := q
    unfold mDict at p
    cases he : evP mps env st with
    | no => rw [he] at p; exact p.elim
    | ex c st' => rw [he] at p; exact p.elim
    | ok z st' =>
      rw [he] at p
      have p : PostG X.K T (fun c d H => Wx c d σ H) W (RV X.K) (match dispOf z with | some m => Res.ok (.dct m.1 m.2) st' | none => .no) Q := p
      cases hd : dispOf z with
      | none => rw [hd] at p; exact p.elim
      | some m =>
        rw [hd] at p
        refine disp_read re rs he hd fun W2 b ys H2 l2 hU2 hU hm ry rs2 => ?_
        obtain ⟨g1, g2⟩ := unU hU2 hU
        have f1 := (rs2.hidden g1).2.1
        refine p ⟨upd W2.F b (.dK (m.1.zip ys)), W2.rh, W.U⟩ _ H2 ⟨fun c o e => same_upd f1 c o (l2.1 c o e), l2.2, rfl⟩ ?_ (rs2.unhide g1 g2)
        have l3 : W2.le2 ⟨upd W2.F b (.dK (m.1.zip ys)), W2.rh, W.U⟩ := ⟨same_upd f1, [], by simp⟩
        exact .dct upd_same hm (RVs.mono2 l3 ry)
theorem so_dictC {pos : Pos} {keys : List (Option Expr)} {values : List Expr} {mps : List (Ev D × Ev D)} (h : SDs T Wx X pos keys values mps) (hall : keys.all (·.isSome) = true := by rfl) (hl : keys.length = values.length := by rfl) (h0 : keys ≠ [] := by simp) (h15 : keys.length ≤ 15 := by decide) : SE T Wx X (.Dict keys values pos) (mDictC mps) :=
  PE.imp (pe_disp h hall hl h0 h15) fun σ H Q q => by
    obtain ⟨W, env, st, re, rs, p⟩ := q
    unfold mDictC at p
    cases he : evP mps env st with
    | no => rw [he] at p; exact p.elim
    | ex c st' => rw [he] at p; exact p.elim
    | ok z st' =>
      rw [he] at p
      have p : PostG X.K T (fun c d H => Wx c d σ H) W (RV X.K) (match dispOf z with | some m => Res.ok (.ref st'.length) (st' ++ [.dct m.1 m.2]) | none => .no) Q := p
      cases hd : dispOf z with
      | none => rw [hd] at p; exact p.elim
      | some m =>
        rw [hd] at p
        refine disp_read re rs he hd fun W2 b ys H2 l2 hU2 hU hm ry rs2 => ?_
        obtain ⟨g1, g2⟩ := unU hU2 hU
        have l3 : W2.le2 ⟨W2.F, W2.rh ++ [b], W.U⟩ := ⟨fun _ _ h => h, [b], rfl⟩
        have l4 : W.le2 W2 := ⟨l2.1, l2.2⟩
        refine p ⟨W2.F, W2.rh ++ [b], W.U⟩ _ H2 ⟨l2.1, (l4.trans l3).2, rfl⟩ ?_ (rs2.uncell g1 g2 ⟨ys, rfl, hm, RVs.mono2 l3 ry⟩)
        refine .ref ?_
        show (W2.rh ++ [b])[st'.length]? = some b
        rw [← rs2.len, List.getElem?_append_right (Nat.le_refl _)]; simp
end
theorem u1 {k : Nat} {A : Around} (hr : Room k A) : A.units + 1 < cLine := by have := hr.un; omega
end Mr
namespace Mr
open PySem PySem.Spec L2
/-! ### a dict walked by a comprehension: locked meanwhile -/
section
variable {K : PySem.W.Frag} {T : Tb} {W : Wd} {st : Store} {H : Hp}
def Wd.lock (W : Wd) (a : Addr) (o : HO) : Wd := ⟨upd W.F a o, W.rh, W.U⟩
def offF (F : Hp) (a : Addr) : Hp := fun b => if b = a then none else F b
def Wd.unlock (W : Wd) (a : Addr) : Wd := ⟨offF W.F a, W.rh, W.U⟩
theorem offF_ne {F : Hp} {a b : Addr} (h : b ≠ a) : offF F a b = F b := if_neg h
theorem RS.lock (R : RS K T W st H) {n : Nat} {a : Addr} {ks : List Key} {ds : List D} {xs : List V} (hs : st[n]? = some (.dct ks ds)) (hp : W.rh[n]? = some a) (hH : H a = some (.dK (ks.zip xs))) (hl : ks.length = xs.length) (r : RVs K W ds xs) (ob : Obj) :
    W.le (W.lock a (.frz ob (.dK (ks.zip xs)))) ∧ RS K T (W.lock a (.frz ob (.dK (ks.zip xs)))) (st.set n (.dcf ks ds)) (upd H a (.frz ob (.dK (ks.zip xs)))) := by
  have hFa : W.F a = none := by
    have := R.nf n _ a hs hp
    simpa [Cell.isF] using this
  have hm : a ∈ W.rh := List.mem_of_getElem? hp
  have le : W.le (W.lock a (.frz ob (.dK (ks.zip xs)))) := ⟨same_upd hFa, ⟨[], by simp [Wd.lock]⟩, rfl⟩
  have hlt : n < st.length := (List.getElem?_eq_some_iff.mp hs).1
  have ne : ∀ (m : Nat) (b : Addr), m ≠ n → W.rh[m]? = some b → b ≠ a := fun m b hmn h2 z => hmn ((List.getElem?_inj (by exact (List.getElem?_eq_some_iff.mp h2).1) R.nd).mp (by rw [h2, hp, z]))
  have neU : ∀ b u, W.U b = some u → b ≠ a := fun b u e z => by
    rw [z, R.nu a hm] at e
    cases e
  refine ⟨le, fun b u e => ?_, fun b u e => ?_, by simp [Wd.lock, R.len], R.nd, fun m c b h1 h2 => ?_, R.nu, fun b u e => ?_, fun m c b h1 h2 => ?_, tabs_upd R.tb (fun u e => by rw [hH] at e; cases e; exact fun ps z => nomatch z) (fun c q e => by rw [hH] at e; unfold LamX.CodeO at e; cases e), fun b u e => ?_, R.ntU⟩
  · have e : upd W.F a (.frz ob (.dK (ks.zip xs))) b = some u := e
    by_cases hb : b = a
    · subst hb; rw [upd_same] at e ⊢; exact e
    · rw [upd_ne hb] at e ⊢; exact R.f b u e
  · rw [upd_ne (neU b u e)]; exact R.u b u e
  · show (upd W.F a (.frz ob (.dK (ks.zip xs))) b).isSome = _
    by_cases hmn : m = n
    · subst hmn
      have h2 : W.rh[m]? = some b := h2
      rw [hp] at h2; cases h2
      rw [List.getElem?_set_self hlt] at h1
      cases h1
      rw [upd_same]; rfl
    · rw [List.getElem?_set_ne (Ne.symm hmn)] at h1
      rw [upd_ne (ne m b hmn h2)]
      exact R.nf m c b h1 h2
  · show upd W.F a (.frz ob (.dK (ks.zip xs))) b = none
    rw [upd_ne (neU b u e)]; exact R.fu b u e
  · by_cases hmn : m = n
    · subst hmn
      have h2 : W.rh[m]? = some b := h2
      rw [hp] at h2; cases h2
      rw [List.getElem?_set_self hlt] at h1
      cases h1
      rw [upd_same]
      exact ⟨xs, ob, rfl, hl, r.mono le⟩
    · rw [List.getElem?_set_ne (Ne.symm hmn)] at h1
      rw [upd_ne (ne m b hmn h2)]
      exact (R.cell m c b h1 h2).mono le
  · have e : upd W.F a (.frz ob (.dK (ks.zip xs))) b = some u := e
    by_cases hb : b = a
    · subst hb; rw [upd_same] at e; cases e; exact fok_frzD _ _
    · rw [upd_ne hb] at e; exact R.ntF b u e
mutual
theorem RD.unl {F : Hp} {ρ : List Addr} {a : Addr} {ob : Obj} {kvs : List (Key × V)} (hF : F a = some (.frz ob (.dK kvs))) : ∀ {d : D} {v : V}, RD K F ρ d v → RD K (offF F a) ρ d v
  | _, _, .non => .non
  | _, _, .bl b => .bl b
  | _, _, .int i => .int i
  | _, _, .str x => .str x
  | _, _, .ty n => .ty n
  | _, _, .lst h r => .lst (by rw [offF_ne (fun z => by rw [z, hF] at h; cases h)]; exact h) (RDs.unl hF r)
  | _, _, .fix h r => .fix (by
      rcases h with (h | ⟨o, h⟩) | h
      · exact .inl (.inl (by rw [offF_ne (fun z => by rw [z, hF] at h; cases h)]; exact h))
      · exact .inl (.inr ⟨o, by rw [offF_ne (fun z => by rw [z, hF] at h; cases h)]; exact h⟩)
      · exact .inr h) (RDs.unl hF r)
  | _, _, .tup h r => .tup (by
      rcases h with (h | ⟨o, h⟩) | h
      · exact .inl (.inl (by rw [offF_ne (fun z => by rw [z, hF] at h; cases h)]; exact h))
      · exact .inl (.inr ⟨o, by rw [offF_ne (fun z => by rw [z, hF] at h; cases h)]; exact h⟩)
      · exact .inr h) (RDs.unl hF r)
  | _, _, .dct h l r => .dct (by rw [offF_ne (fun z => by rw [z, hF] at h; cases h)]; exact h) l (RDs.unl hF r)
  | _, _, .ref h => .ref h
theorem RDs.unl {F : Hp} {ρ : List Addr} {a : Addr} {ob : Obj} {kvs : List (Key × V)} (hF : F a = some (.frz ob (.dK kvs))) : ∀ {ds : List D} {vs : List V}, RDs K F ρ ds vs → RDs K (offF F a) ρ ds vs
  | _, _, .nil => .nil
  | _, _, .cons h r => .cons (RD.unl hF h) (RDs.unl hF r)
end
theorem FsR.unl {a : Addr} {ob : Obj} {kvs : List (Key × V)} (hF : W.F a = some (.frz ob (.dK kvs))) : ∀ {fs : List (Str × D)} {gs : List (Str × V)}, FsR K W fs gs → FsR K (W.unlock a) fs gs
  | _, _, .nil => .nil
  | _, _, .cons r t => .cons (RD.unl hF r) (FsR.unl hF t)
theorem CellR.unl {a : Addr} {ob : Obj} {kvs : List (Key × V)} (hF : W.F a = some (.frz ob (.dK kvs))) {c : Cell} {o : Option HO} (r : CellR K W c o) : CellR K (W.unlock a) c o := by
  cases c with
  | lst ds => obtain ⟨xs, e, r⟩ := r; exact ⟨xs, e, RDs.unl hF r⟩
  | dct ks ds => obtain ⟨xs, e, l, r⟩ := r; exact ⟨xs, e, l, RDs.unl hF r⟩
  | ins c fs => obtain ⟨dx, gs, e, r⟩ := r; exact ⟨dx, gs, e, FsR.unl hF r⟩
  | dcf ks ds => obtain ⟨xs, ob, e, l, r⟩ := r; exact ⟨xs, ob, e, l, RDs.unl hF r⟩
theorem RS.unlock (R : RS K T W st H) {n : Nat} {a : Addr} {ob : Obj} {kvs : List (Key × V)} {ks : List Key} {ds : List D} (hF : W.F a = some (.frz ob (.dK kvs))) (hs : st[n]? = some (.dcf ks ds)) (hp : W.rh[n]? = some a) :
    RS K T (W.unlock a) (st.set n (.dct ks ds)) (upd H a (.dK kvs)) := by
  have hH := R.f a _ hF
  have hm : a ∈ W.rh := List.mem_of_getElem? hp
  have hlt : n < st.length := (List.getElem?_eq_some_iff.mp hs).1
  have ne : ∀ (m : Nat) (b : Addr), m ≠ n → W.rh[m]? = some b → b ≠ a := fun m b hmn h2 z => hmn ((List.getElem?_inj (by exact (List.getElem?_eq_some_iff.mp h2).1) R.nd).mp (by rw [h2, hp, z]))
  have neU : ∀ b u, W.U b = some u → b ≠ a := fun b u e z => by
    rw [z, R.nu a hm] at e
    cases e
  obtain ⟨xs, ob', h1, h2, h3⟩ := R.cell n _ a hs hp
  rw [hH] at h1
  cases h1
  refine ⟨fun b u e => ?_, fun b u e => ?_, by simp [Wd.unlock, R.len], R.nd, fun m c b h1 h2 => ?_, R.nu, fun b u e => ?_, fun m c b h1 h2 => ?_, tabs_upd R.tb (fun u e => by rw [hH] at e; cases e; exact fun ps z => nomatch z) (fun c q e => by rw [hH] at e; unfold LamX.CodeO at e; cases e), fun b u e => ?_, R.ntU⟩
  · have e : offF W.F a b = some u := e
    by_cases hb : b = a
    · subst hb; simp [offF] at e
    · rw [offF_ne hb] at e; rw [upd_ne hb]; exact R.f b u e
  · rw [upd_ne (neU b u e)]; exact R.u b u e
  · show (offF W.F a b).isSome = _
    by_cases hmn : m = n
    · subst hmn
      have h2 : W.rh[m]? = some b := h2
      rw [hp] at h2; cases h2
      rw [List.getElem?_set_self hlt] at h1
      cases h1
      simp [offF, Cell.isF]
    · rw [List.getElem?_set_ne (Ne.symm hmn)] at h1
      rw [offF_ne (ne m b hmn h2)]
      exact R.nf m c b h1 h2
  · show offF W.F a b = none
    rw [offF_ne (neU b u e)]; exact R.fu b u e
  · by_cases hmn : m = n
    · subst hmn
      have h2' : W.rh[m]? = some b := h2
      rw [hp] at h2'; cases h2'
      rw [List.getElem?_set_self hlt] at h1
      cases h1
      rw [upd_same]
      exact ⟨xs, rfl, by assumption, RDs.unl hF h3⟩
    · rw [List.getElem?_set_ne (Ne.symm hmn)] at h1
      rw [upd_ne (ne m b hmn h2)]
      exact CellR.unl hF (R.cell m c b h1 h2)
  · have e : offF W.F a b = some u := e
    by_cases hb : b = a
    · subst hb; simp [offF] at e
    · rw [offF_ne hb] at e; exact R.ntF b u e
end
/-- for k in d, the dict locked -/
def mIK (m : Ev D) : Ev Src := fun env st => (m env st).bind fun d st => match d with
  | .ref n => match st[n]? with
    | some (.dcf ks _) => .ok ⟨ks.map kvD, yes⟩ st
    | _ => .no
  | _ => .no
theorem kvD_rel {K : PySem.W.Frag} {W : Wd} (k : Key) : RV K W (kvD k) (kV k) := by
  cases k with
  | inl i => exact .int i
  | inr x => exact .str x
section
variable {K : PySem.W.Frag} {T : Tb} {Wx : WX} {X : Cx} {elt tgx iter tg0 a : Expr} {ifs : List Expr} {scope : Scope} {own : List (Str × Nat)} {pos : Pos} {ma : Ev D} {tg : Tg} {mt : Ev Bool} {me : Ev D}
theorem si_keys (h : SE T Wx X a ma) : SI T Wx X tg0 a (mIK ma) := PI.imp (pi_keys h) fun σ H Q q => by
  obtain ⟨W, env, st, re, rs, p⟩ := q
  refine ⟨W, env, st, re, rs, PostG.step p fun d st1 W1 x H1 _ l1 r1 rs1 p1 => ?_⟩
  cases d with
  | ref n =>
    simp only at p1
    split at p1
    · rename_i ks ds hs
      cases r1 with
      | ref hr =>
        rename_i ad
        obtain ⟨xs, ob, h1, h2, h3⟩ := rs1.cell _ _ _ hs hr
        have hF : W1.F ad = some (.frz ob (.dK (ks.zip xs))) := by
          have := rs1.nf n _ ad hs hr
          cases e : W1.F ad with
          | none => rw [e] at this; cases this
          | some o => rw [rs1.f ad o e] at h1; exact h1
        refine ⟨ad, ob, rfl, .inl ⟨ks.zip xs, h1, p1 W1 _ H1 (Wd.le.refl _) (fun W2 st2 H2 l2 rs2 _ => ?_) rs1⟩⟩
        have hH2 : H2 ad = some (.frz ob (.dK (ks.zip xs))) := rs2.f _ _ (l2.1 _ _ hF)
        have hz : (ks.zip xs).length = ks.length := by rw [List.length_zip, ← h2, Nat.min_self]
        refine ⟨fun i hi => ⟨hH2, by rw [hz]; simpa using hi⟩, fun i d hd => ?_⟩
        have hi : i < ks.length := by
          have := (List.getElem?_eq_some_iff.mp hd).1
          simpa using this
        refine ⟨⟨hH2, by rw [hz]; exact hi⟩, fun x H' y => ?_⟩
        obtain ⟨rfl, k, v, y1, rfl⟩ := y
        have hk : ks[i]? = some k := by
          rw [List.getElem?_zip_eq_some] at y1
          exact y1.1
        rw [List.getElem?_map, hk] at hd
        cases hd
        exact ⟨W2, Wd.le.refl _, kvD_rel k, rs2⟩
    · exact p1.elim
  | _ => exact p1.elim
def mCompK (ma : Ev D) (tg : Tg) (own : List Nat) (mt : Ev Bool) (me : Ev D) : Ev D := fun env st => match ma env st with
  | .ok (.ref n) _ => match st[n]? with
    | some (.dct ks ds) => match mComp (mIK ma) tg own mt me env (st.set n (.dcf ks ds)) with
      | .ok z st2 => match st2[n]? with
        | some (.dcf ks' ds') => .ok z (st2.set n (.dct ks' ds'))
        | _ => .no
      | _ => .no
    | _ => .no
  | _ => .no
theorem compK_read {σ : St} {H : Hp} {Q : VK} {ow : List Nat} (hown : ∀ i ∈ tg.slots, i ∈ ow) (q : tE K T Wx (mCompK ma tg ow mt me) σ H Q) : tLockE (tLc (tI K T Wx (mIK ma)) (gOf K tg) (tT K T W0 mt) (tE K T W0 me) ow) σ H Q := by
  obtain ⟨W, env, st, re, rs, p⟩ := q
  unfold mCompK at p
  split at p
  · rename_i n st0 _
    split at p
    · rename_i ks ds hs
      have hlt : n < W.rh.length := by rw [rs.len]; exact (List.getElem?_eq_some_iff.mp hs).1
      have hp : W.rh[n]? = some W.rh[n] := List.getElem?_eq_getElem hlt
      generalize W.rh[n] = a at hp
      obtain ⟨xs, h1, h2, h3⟩ := rs.cell _ _ _ hs hp
      refine ⟨a, .dK (ks.zip xs), h1, trivial, fun od => ?_⟩
      obtain ⟨l1, rs1⟩ := rs.lock hs hp h1 h2 h3 od
      refine comp_frozen hown ⟨_, env, _, re.mono l1, rs1, ?_⟩
      cases hc : mComp (mIK ma) tg ow mt me env (st.set n (.dcf ks ds)) with
      | ok z st2 =>
        simp only [hc] at p
        split at p
        · rename_i ks' ds' hs2
          intro W2 v H2 l2 rv rs2
          have hF2 : W2.F a = some (.frz od (.dK (ks.zip xs))) := l2.1 _ _ (by show upd _ _ _ _ = _; rw [upd_same])
          have hp2 : W2.rh[n]? = some a := by
            obtain ⟨t, e⟩ := l2.2.1
            exact pre_get e n a hp
          refine ⟨rs2.f _ _ hF2, p (W2.unlock a) v _ ⟨fun b o e => ?_, l2.2.1, l2.2.2⟩ (RD.unl hF2 rv) (rs2.unlock hF2 hs2 hp2)⟩
          have hb : b ≠ a := fun z => by
            have := rs.nf n _ a hs hp
            rw [z] at e
            rw [e] at this
            cases this
          show offF W2.F a b = some o
          rw [offF_ne hb]
          exact l2.1 b o (l1.1 b o e)
        · exact p.elim
      | ex c st => simp only [hc] at p; exact p.elim
      | no => simp only [hc] at p; exact p.elim
    · exact p.elim
  · exact p.elim
theorem so_compK (hc : X.calm = true) (hN : X.N.Nodup) (hi : SE T Wx X iter ma) (ok : BlkOk X.N X.env.scope scope own)
    (hg : ∀ (s : Shared) (H : Hp) (C : Addr) (cl : List (Str × Addr)) (fp : List Addr), SG (X.blk s H scope (compEnvC scope cl C X.env) fp) tgx tg) (ht : ∀ (s : Shared) (H : Hp) (C : Addr) (cl : List (Str × Addr)) (fp : List Addr), ST T (X.blk s H scope (compEnvC scope cl C X.env) fp) ifs mt)
    (he : ∀ (s : Shared) (H : Hp) (C : Addr) (cl : List (Str × Addr)) (fp : List Addr), SE T W0 (X.blk s H scope (compEnvC scope cl C X.env) fp) elt me) (hown : ∀ i ∈ tg.slots, i ∈ own.map (·.2) := by decide) (hs : ∀ x, foldedSetIterable iter X.env x = pure x := by intro _; rfl) :
    SE T Wx X (.ListComp elt [⟨tgx, iter, ifs, 0⟩] scope pos) (mCompK ma tg (own.map (·.2)) mt me) :=
  PE.imp (pe_lock (pe_lc (g := gOf X.K tg) (tt := tT X.K T W0 mt) (te := tE X.K T W0 me) hc hN (si_keys hi) ok hg ht he hs)) fun σ H Q q => compK_read hown q
theorem ss_asgLcK {i : Nat} {y : Str} {py spos : Pos} (hc : X.calm = true) (hN : X.N.Nodup) (hy : X.N[i]? = some y) (hyl : X.env.scope.names.lookup y = some .local)
    (hsw : swapsWith (.ListComp elt [⟨tgx, iter, ifs, 0⟩] scope pos) (some (.Name y py)) spos.line X.env = pure true) (hi : SE T Wx X iter ma) (ok : BlkOk X.N X.env.scope scope own)
    (hg : ∀ (s : Shared) (H : Hp) (C : Addr) (cl : List (Str × Addr)) (fp : List Addr), SG (X.blk s H scope (compEnvC scope cl C X.env) fp) tgx tg) (ht : ∀ (s : Shared) (H : Hp) (C : Addr) (cl : List (Str × Addr)) (fp : List Addr), ST T (X.blk s H scope (compEnvC scope cl C X.env) fp) ifs mt)
    (he : ∀ (s : Shared) (H : Hp) (C : Addr) (cl : List (Str × Addr)) (fp : List Addr), SE T W0 (X.blk s H scope (compEnvC scope cl C X.env) fp) elt me) (hown : ∀ i ∈ tg.slots, i ∈ own.map (·.2) := by decide) (hs : ∀ x, foldedSetIterable iter X.env x = pure x := by intro _; rfl) :
    SS T Wx X (.Assign [.Name y py] (.ListComp elt [⟨tgx, iter, ifs, 0⟩] scope pos) spos) (sAsg (mCompK ma tg (own.map (·.2)) mt me) (.one i)) :=
  PS.imp (ps_lock (ps_setLc (g := gOf X.K tg) (tt := tT X.K T W0 mt) (te := tE X.K T W0 me) hc hN hy hyl hsw (si_keys hi) ok hg ht he hs)) fun D σ H q => by
    have h := compK_read hown (asg_read q)
    exact h
end
/-! ### what is never reached -/
def mNo : Ev D := fun _ _ => .no
theorem so_no {T : Tb} {Wx : WX} {X : Cx} {e : Expr} : SE T Wx X e mNo := ⟨fun pins s σ H Q I q => by
  obtain ⟨W, env, st, re, rs, p⟩ := q
  exact p.elim⟩
def sNo : Sv := fun _ _ => .no
theorem ss_no {T : Tb} {Wx : WX} {X : Cx} {s : Stmt} : SS T Wx X s sNo := ⟨fun pins s σ H Q I q => by
  obtain ⟨W, env, st, re, rs, p⟩ := q
  exact p.elim⟩
end Mr
namespace Mr
open PySem PySem.Spec L2
/-! ### text * int -/
def gMulS (_ : Store) : D → D → Option D
  | .str x, .int k => if 0 ≤ k ∧ k ≤ 1000 ∧ x.length ≤ 1000 then some (.str (Txt.mul x k)) else none
  | _, _ => none
section
variable {T : Tb} {X : Cx}
theorem o_mulS : OpR X (binaryOp .Mult) (rO X.K T gMulS) := by
  intro pins s σ H x y v u Q I rx ry q
  obtain ⟨W, st, d, e, z, r1, r2, rs, hz, k⟩ := q
  unfold gMulS at hz
  split at hz
  · rename_i a j
    split at hz
    · rename_i hc
      cases hz
      cases r1; cases r2
      obtain ⟨t1, rfl⟩ := rx
      obtain ⟨t2, rfl⟩ := ry
      obtain ⟨h0, h1, h2⟩ := hc
      have hok : MulOk a j := by
        refine ⟨by rw [decide_eq_false (by omega), decide_eq_false (by omega)]; rfl, fun g1 g2 g3 => ?_, fun g1 g2 => ?_⟩
        · have : (2 ^ 63 - 1 : Int) / j ≥ (2 ^ 63 - 1 : Int) / 1000 := by
            apply Int.le_ediv_of_mul_le (by omega)
            have : (2 ^ 63 - 1 : Int) / 1000 * j ≤ (2 ^ 63 - 1 : Int) / 1000 * 1000 := Int.mul_le_mul_of_nonneg_left h1 (by decide)
            exact Int.le_trans this (by decide)
          have h5 : (2 ^ 63 - 1 : Int) / 1000 ≥ 1000 := by decide
          omega
        · unfold PySem.Builtin.Str.tooLong
          have h3 : a.length * j.toNat ≤ 1000 * 1000 := Nat.mul_le_mul h2 (by omega)
          have e : sizeLine = 16777216 := rfl
          rw [e]
          exact decide_eq_false (by omega)
      exact SB.mul hok fun t' tk => ⟨.str (Txt.mul a j), H, I.tok tk, ⟨t', rfl⟩, k W _ H (Wd.le.refl _) (.str _) rs⟩
    · cases hz
  · cases hz
end
end Mr
namespace Mr
open PySem PySem.Spec L2
/-! ### sorted(d), the keys texts -/
def insS (x : Str) : List Str → List Str
  | [] => [x]
  | y :: r => if sltL y x then y :: insS x r else x :: y :: r
def sortS : List Str → List Str
  | [] => []
  | x :: r => insS x (sortS r)
abbrev leS (x y : Str) : Prop := sltL y x = false
theorem str_ext {x y : Str} (h : x.cps.toList = y.cps.toList) : x = y := by
  cases x; cases y
  simp only at h
  congr 1
  exact Array.toList_inj.mp h
theorem slt_trans {x y z : Str} (h : sltL x y = true) (g : sltL y z = true) : sltL x z = true := by
  simp only [sltL, decide_eq_true_eq] at h g ⊢
  exact List.lt_trans h g
theorem slt_tri {x y : Str} (h : sltL x y = false) (g : sltL y x = false) : x = y := by
  simp only [sltL, decide_eq_false_iff_not] at h g
  exact str_ext (List.le_antisymm (List.not_lt.mp g) (List.not_lt.mp h))
theorem slt_irr (x : Str) : sltL x x = false := by
  simp only [sltL, decide_eq_false_iff_not]
  exact List.lt_irrefl _
theorem slt_asym {x y : Str} (h : sltL x y = true) : sltL y x = false := by
  cases e : sltL y x with
  | false => rfl
  | true => exact absurd (slt_trans h e) (by rw [slt_irr]; decide)
theorem leS_trans {x y z : Str} (h : leS x y) (g : leS y z) : leS x z := by
  cases e : sltL z x with
  | false => exact e
  | true =>
    by_cases hxy : x = y
    · subst hxy; rw [g] at e; cases e
    · have h1 : sltL x y = true := by
        cases e1 : sltL x y with
        | true => rfl
        | false => exact absurd (slt_tri e1 h) hxy
      have := slt_trans e h1
      rw [g] at this
      cases this
theorem insS_perm (x : Str) : ∀ l : List Str, (insS x l).Perm (x :: l)
  | [] => .refl _
  | y :: r => by
    unfold insS
    split
    · exact ((insS_perm x r).cons y).trans (.swap ..)
    · exact .refl _
theorem sortS_perm : ∀ l : List Str, (sortS l).Perm l
  | [] => .refl _
  | x :: r => (insS_perm x _).trans ((sortS_perm r).cons x)
theorem insS_sorted (x : Str) : ∀ l : List Str, l.Pairwise leS → (insS x l).Pairwise leS
  | [], _ => by simp [insS]
  | y :: r, h => by
    obtain ⟨h1, h2⟩ := List.pairwise_cons.mp h
    unfold insS
    split
    · rename_i hyx
      refine List.pairwise_cons.mpr ⟨fun z hz => ?_, insS_sorted x r h2⟩
      rcases List.mem_cons.mp ((insS_perm x r).mem_iff.mp hz) with rfl | hz
      · exact slt_asym hyx
      · exact h1 z hz
    · rename_i hyx
      have hyx : leS x y := by simpa using hyx
      refine List.pairwise_cons.mpr ⟨fun z hz => ?_, h⟩
      rcases List.mem_cons.mp hz with rfl | hz
      · exact hyx
      · exact leS_trans hyx (h1 z hz)
theorem sortS_sorted : ∀ l : List Str, (sortS l).Pairwise leS
  | [] => .nil
  | x :: r => insS_sorted x _ (sortS_sorted r)
theorem sorted_one : ∀ {l1 l2 : List Str}, l1.Perm l2 → l1.Pairwise leS → l2.Pairwise leS → l1 = l2
  | [], l2, h, _, _ => by rw [List.nil_perm.mp h]
  | a :: r1, [], h, _, _ => absurd h.length_eq (by simp)
  | a :: r1, b :: r2, h, h1, h2 => by
    obtain ⟨g1, g2⟩ := List.pairwise_cons.mp h1
    obtain ⟨g3, g4⟩ := List.pairwise_cons.mp h2
    have e : a = b := by
      have ha : a ∈ b :: r2 := h.mem_iff.mp List.mem_cons_self
      have hb : b ∈ a :: r1 := h.mem_iff.mpr List.mem_cons_self
      rcases List.mem_cons.mp ha with e | ha
      · exact e
      · rcases List.mem_cons.mp hb with e | hb
        · exact e.symm
        · exact slt_tri (g3 a ha) (g1 b hb)
    subst e
    rw [sorted_one (List.perm_cons a |>.mp h) g2 g4]
theorem rising_pair : ∀ (l : List Str) (p : Str), PyProof.Rows.risingS p l = true → (p :: l).Pairwise leS
  | [], p, _ => by simp
  | x :: r, p, h => by
    simp only [PyProof.Rows.risingS, Bool.and_eq_true, Bool.not_eq_true'] at h
    have h1 := rising_pair r x h.2
    have h2 : leS p x := by
      have := h.1
      rw [PyProof.Rows.ltCps_eq] at this
      exact this
    refine List.pairwise_cons.mpr ⟨fun z hz => ?_, h1⟩
    rcases List.mem_cons.mp hz with rfl | hz
    · exact h2
    · exact leS_trans h2 ((List.pairwise_cons.mp h1).1 z hz)
theorem sortedS_pair {l : List Str} (h : PyProof.Rows.sortedS l = true) : l.Pairwise leS := by
  cases l with
  | nil => exact .nil
  | cons x r => exact rising_pair r x h
def strK : List Key → Option (List Str)
  | [] => some []
  | .inr x :: r => (strK r).map fun l => x :: l
  | .inl _ :: _ => none
theorem strK_ok : ∀ {ks : List Key} {l : List Str}, strK ks = some l → ks = l.map Sum.inr
  | [], l, h => by cases h; rfl
  | .inr x :: r, l, h => by
    simp only [strK, Option.map_eq_some_iff] at h
    obtain ⟨l', h1, rfl⟩ := h
    rw [strK_ok h1]; rfl
  | .inl _ :: _, l, h => by cases h
def cSortD (st : Store) : List D → Option D
  | [d] => (asDc st d).bind fun q => (strK q.1).bind fun l => if l.length < 64 then some (.lst ((sortS l).map .str)) else none
  | _ => none
section
variable {T : Tb} {X : Cx}
theorem zip_fst : ∀ {ks : List Key} {xs : List V}, ks.length = xs.length → (ks.zip xs).map (·.1) = ks
  | [], _, _ => rfl
  | _ :: _, [], h => by simp at h
  | k :: ks, x :: xs, h => by rw [List.zip_cons_cons, List.map_cons, zip_fst (by simpa using h)]
theorem c_sortD (hc : X.calm = true) : CallR X (.builtin "sorted") (rC X.K T cSortD) := by
  intro pins s σ H xs us Q I r q
  obtain ⟨W, st, ds, z, r1, rs, hz, k⟩ := q
  unfold cSortD at hz
  split at hz
  · simp only [Option.bind_eq_some_iff] at hz
    obtain ⟨⟨ks, vs⟩, h1, l, h2, hz⟩ := hz
    split at hz
    · rename_i hl
      cases hz
      obtain ⟨v, rfl, r0⟩ := r1.one
      obtain ⟨a, ys, rfl, g1, g2, g3⟩ := asDc_ok rs r0 h1
      refine call_sortedD hc pins s σ H _ us Q I r ⟨a, _, l, rfl, g1, by rw [zip_fst g2]; exact strK_ok h2, hl, fun zs p hp hs hn => ?_⟩
      have e : zs = sortS l := sorted_one (hp.trans (sortS_perm l).symm) (sortedS_pair hs) (sortS_sorted l)
      subst e
      obtain ⟨l1, l2, l3⟩ := new_lst rs hn (RDs.strs (sortS l))
      exact k _ _ _ l1 l2 l3
    · cases hz
  · cases hz
end
/-! ### min(rows, default=e) of simple data -/
mutual
def simD : D → Bool
  | .non => true
  | .bl _ => true
  | .int _ => true
  | .str x => strB x
  | .tup xs => simDs xs
  | _ => false
def simDs : List D → Bool
  | [] => true
  | d :: ds => simD d && simDs ds
end
mutual
theorem toPy_inj : ∀ {d e : D}, simD d = true → simD e = true → toPy d = toPy e → d = e
  | .non, e, _, he, h => by cases e <;> simp_all [toPy, simD]
  | .bl b, e, _, he, h => by cases e <;> simp_all [toPy, simD]
  | .int i, e, _, he, h => by cases e <;> simp_all [toPy, simD]
  | .str x, e, _, he, h => by cases e <;> simp_all [toPy, simD]
  | .tup xs, e, hd, he, h => by
    cases e with
    | tup ys =>
      simp only [toPy, PyData.tuple.injEq] at h
      simp only [simD] at hd he
      rw [toPys_inj hd he h]
    | _ => simp [toPy, simD] at h he
  | .lst _, _, hd, _, _ => by simp [simD] at hd
  | .fix _, _, hd, _, _ => by simp [simD] at hd
  | .dct _ _, _, hd, _, _ => by simp [simD] at hd
  | .ref _, _, hd, _, _ => by simp [simD] at hd
  | .ty _, _, hd, _, _ => by simp [simD] at hd
theorem toPys_inj : ∀ {ds es : List D}, simDs ds = true → simDs es = true → toPys ds = toPys es → ds = es
  | [], es, _, _, h => by cases es <;> simp_all [toPys]
  | d :: ds, es, hd, he, h => by
    cases es with
    | nil => simp [toPys] at h
    | cons e es =>
      simp only [toPys, List.cons.injEq] at h
      simp only [simDs, Bool.and_eq_true] at hd he
      rw [toPy_inj hd.1 he.1 h.1, toPys_inj hd.2 he.2 h.2]
end
mutual
theorem sim_py {f : Nat → Option PyData} : ∀ {d : D}, simD d = true → pyF f d = some (toPy d)
  | .non, _ => by simp [pyF, toPy]
  | .bl b, _ => by simp [pyF, toPy]
  | .int i, _ => by simp [pyF, toPy]
  | .str x, _ => by simp [pyF, toPy]
  | .tup xs, h => by
    simp only [simD] at h
    simp only [pyF, sims_py h, Option.map_some, toPy]
  | .lst _, hd => by simp [simD] at hd
  | .fix _, hd => by simp [simD] at hd
  | .dct _ _, hd => by simp [simD] at hd
  | .ref _, hd => by simp [simD] at hd
  | .ty _, hd => by simp [simD] at hd
theorem sims_py {f : Nat → Option PyData} : ∀ {ds : List D}, simDs ds = true → pysF f ds = some (toPys ds)
  | [], _ => by simp [pysF, toPys]
  | d :: ds, h => by
    simp only [simDs, Bool.and_eq_true] at h
    simp only [pysF, sim_py h.1, sims_py h.2, Option.bind_some, Option.map_some, toPys]
end
theorem simDs_all : ∀ {ds : List D}, simDs ds = true → ∀ d ∈ ds, simD d = true
  | [], _, d, hd => by cases hd
  | x :: ds, h, d, hd => by
    simp only [simDs, Bool.and_eq_true] at h
    rcases List.mem_cons.mp hd with rfl | hd
    · exact h.1
    · exact simDs_all h.2 d hd
theorem toPys_map : ∀ ds : List D, toPys ds = ds.map toPy
  | [] => by simp [toPys]
  | d :: ds => by simp [toPys, toPys_map ds]
def minDD (y : D) (ys : List D) : D := ys.foldl (fun a x => if PySem.W.dataLt (toPy x) (toPy a) then x else a) y
theorem minDD_py : ∀ (ys : List D) (y : D), toPy (minDD y ys) = PySem.W.minD (toPy y) (ys.map toPy)
  | [], y => rfl
  | x :: ys, y => by
    have ih := minDD_py ys (if PySem.W.dataLt (toPy x) (toPy y) then x else y)
    refine (show toPy (minDD y (x :: ys)) = toPy (minDD (if PySem.W.dataLt (toPy x) (toPy y) then x else y) ys) from rfl).trans (ih.trans ?_)
    show PySem.W.minD _ _ = PySem.W.minD (if PySem.W.dataLt (toPy x) (toPy y) then toPy x else toPy y) (ys.map toPy)
    congr 1
    split <;> rfl
theorem minDD_mem : ∀ (ys : List D) (y : D), minDD y ys ∈ y :: ys
  | [], y => by simp [minDD]
  | x :: ys, y => by
    have ih := minDD_mem ys (if PySem.W.dataLt (toPy x) (toPy y) then x else y)
    have e : minDD y (x :: ys) = minDD (if PySem.W.dataLt (toPy x) (toPy y) then x else y) ys := rfl
    rw [e]
    rcases List.mem_cons.mp ih with h | h
    · rw [h]
      split <;> simp
    · exact List.mem_cons_of_mem _ (List.mem_cons_of_mem _ h)
def likeB (xs : List PyData) : Bool := (xs.all fun x => xs.all fun y => PySem.W.alike x y) && (xs.all fun x => !isNoneP x) && decide (PyData.depthAll xs ≤ 60)
theorem likeB_ok {xs : List PyData} (h : likeB xs = true) : PySem.W.AlikeAll xs ∧ PyData.depthAll xs ≤ 60 := by
  simp only [likeB, Bool.and_eq_true, List.all_eq_true, Bool.not_eq_true', decide_eq_true_eq] at h
  refine ⟨⟨h.1.1, fun x hx z => ?_⟩, h.2⟩
  have := h.1.2 x hx
  rw [z] at this
  cases this
def gMinD (st : Store) (d e : D) : Option D := (asL st d).bind fun xs => match xs with
  | [] => some e
  | y :: ys => if (simDs (y :: ys) && likeB (toPys (y :: ys))) = true then some (minDD y ys) else none
section
variable {K : PySem.W.Frag} {T : Tb} {X : Cx}
theorem rvs_dp {W : Wd} {st : Store} {H : Hp} (rs : RS K T W st H) : ∀ {ds : List D} {vs : List V}, simDs ds = true → RVs K W ds vs → DpAll K H vs (toPys ds) := by
  intro ds
  induction ds with
  | nil => intro vs _ r; cases r; simp only [toPys]; exact .nil
  | cons d ds ih =>
    intro vs h r
    cases r with
    | cons r t =>
      simp only [simDs, Bool.and_eq_true] at h
      simp only [toPys]
      exact .cons (py_ok rs 0 _ _ _ (by simp only [py]; exact sim_py h.1) r) (ih h.2 t)
theorem vals_getV : ∀ {xs : List V} {us : List Value} {i : Nat} {u : Value}, Vals xs us → us[i]? = some u → ∃ x, xs[i]? = some x ∧ RelV x u
  | _, _, _, _, .nil, e => by simp at e
  | _, _, 0, _, .cons r _, e => by simp at e; subst e; exact ⟨_, rfl, r⟩
  | _, _, i + 1, u, .cons _ t, e => by
    obtain ⟨x, h1, h2⟩ := vals_getV (i := i) (u := u) t (by simpa using e)
    exact ⟨x, by simpa using h1, h2⟩
theorem k_min (hc : X.calm = true) (hu : X.A.units + 65 < cLine) : Kw1R X "min" "default" (rO X.K T gMinD) := by
  intro pins s σ H x y v u Q I rx ry q
  obtain ⟨W, st, d, e, z, r1, r2, rs, hz, k⟩ := q
  unfold gMinD at hz
  simp only [Option.bind_eq_some_iff] at hz
  obtain ⟨xs, e1, hz⟩ := hz
  obtain ⟨a, ws, rfl, h1, q1⟩ := asL_ok rs r1 e1
  obtain ⟨its, rv, hl, _⟩ := I.list h1
  cases rx
  cases xs with
  | nil =>
    cases hz
    cases q1
    cases rv
    refine PySem.W.min_list_default (xs := []) (as := []) (I.ok.hd hc) hl.isList .nil ⟨by simp, by simp⟩ (by simp only [PyData.depthAll]; omega) (fun _ h' tk hk => ?_) (fun _ _ _ _ _ _ _ e => by cases e)
    exact ⟨y, H, I.kept hk, ry, k W y H (Wd.le.refl _) r2 rs⟩
  | cons m ms =>
    simp only at hz
    split at hz
    · rename_i hs
      cases hz
      rw [Bool.and_eq_true] at hs
      obtain ⟨hs, hlk⟩ := hs
      obtain ⟨ha, hd⟩ := likeB_ok hlk
      obtain ⟨as, hr⟩ := Dp.readsAll I _ _ _ (rvs_dp rs hs q1) rv
      refine PySem.W.min_list_default (xs := toPys (m :: ms)) (as := as) (I.ok.hd hc) hl.isList hr ha (by omega) (fun e0 => by simp [toPys] at e0) (fun y0 ys0 i v h' tk bs e0 hv hh hk => ?_)
      simp only [toPys, List.cons.injEq] at e0
      obtain ⟨rfl, rfl⟩ := e0
      rw [toPys_map, ← minDD_py] at hh
      have hv' : its[i]? = some v := by simpa using hv
      obtain ⟨vi, hvi, rvi⟩ := vals_getV rv hv'
      obtain ⟨di, hdi, rdi⟩ := q1.getV hvi
      have hmem : di ∈ m :: ms := List.mem_of_getElem? hdi
      have sdi := simDs_all hs di hmem
      have szi := simDs_all hs (minDD m ms) (minDD_mem ms m)
      obtain ⟨as', hr'⟩ := Dp.reads I _ _ _ (py_ok rs 0 di _ _ (by simp only [py]; exact sim_py sdi) rdi) rvi
      have eq : toPy di = toPy (minDD m ms) := by
        refine (PyProof.Rows.reads_det (h := s.heap) (h' := h') (fun b o e _ => hk b o e) hr' hh).1.symm
      have : di = minDD m ms := toPy_inj sdi szi eq
      subst this
      exact ⟨vi, H, I.kept hk, rvi, k W _ H (Wd.le.refl _) rdi rs⟩
    · cases hz
end
theorem bt_min2 : bootBuiltins "min" = some (.builtin "min") := by decide +kernel
/-! ### try: e / except c: suite -/
def sTryE (c : Str) (me : Ev D) (mh : Sv) : Sv := fun env st => match me env st with
  | .ok _ st' => .ok (.nx, env) st'
  | .ex c' st' => if c' = c then (mh env st').nox else .no
  | .no => .no
section
variable {T : Tb} {Wx : WX} {X : Cx} {x c : Str} {e : Expr} {b0 : Stmt} {suite : List Stmt} {me : Ev D} {mh : Sv} {p np pos pos' : Pos}
theorem ss_tryE (hs : X.stack = X.env :: X.outer) (hf : X.env.frame = some X.env.locals) (tk : L2N.Takes X Wx) (hc : Names X x (.ref (He.ga X.K c))) (hx : PySem.W.exmOne X.K (.ref (He.ga X.K c)) (.ref (He.ga X.K c)) = some true)
    (he : ∀ (W : WX) (pn : List (Addr × Obj)) (xe : Value → Shared → Prop), L2N.Takes (X.tr pn xe) W → SE T W (X.tr pn xe) e me)
    (hh : ∀ (a : Addr) (oe : Obj) (pn : List (Addr × Obj)), SSs T (fun _ _ _ _ => False) (X.suite a ((a, oe) :: pn)) (b0 :: suite) mh) (hsw : swapsWith e none p.line X.env = pure false := by rfl) :
    SS T Wx X (.Try [.Expr e p] [.ExceptHandler (some (.Name x np)) none (b0 :: suite) pos'] [] [] pos) (sTryE c me mh) := by
  have tr := L2N.ps_try_many (X := X) (body := [.Expr e p]) (h₀ := .ExceptHandler (some (.Name x np)) none (b0 :: suite) pos') (hds := []) (pos := pos) (Wout := Wx)
    (l := [(.ref (He.ga X.K c), fun _ _ _ => tS X.K T (fun _ _ _ _ => False) mh)]) (tb := fun W => tDrop (tE X.K T W me)) hs hf tk
    (fun W pn xe tk2 _ => pss_one (ps_expr (he W pn xe tk2) hsw)) (.cons hc (fun a oe cls d pn _ _ => hh a oe pn) .nil)
  refine PS.imp tr fun D σ H q => ?_
  obtain ⟨W, env, st, re, rs, p⟩ := q
  refine ⟨W, env, st, re, rs, ?_⟩
  unfold sTryE at p
  cases hm : me env st with
  | ok d st' =>
    rw [hm] at p
    exact fun W' b H' l' r' rs' => p W' σ H' l' (re.mono l') rs'
  | no => rw [hm] at p; exact p.elim
  | ex c' st' =>
    rw [hm] at p
    simp only at p
    split at p
    · rename_i hcc
      subst hcc
      intro W' H' l' rs'
      refine ⟨true, hx, fun _ a _ => ⟨W', env, st', re.mono l', rs', ?_⟩, fun z => by cases z⟩
      have p' := PostS.mono l' p
      cases hz : mh env st' with
      | ok q st2 =>
        rw [hz] at p'
        obtain ⟨f, e2⟩ := q
        cases f <;> exact p'
      | ex c2 st2 => rw [hz] at p'; exact p'.elim
      | no => rw [hz] at p'; exact p'.elim
    · exact p.elim
end
end Mr
namespace Mr
open PySem PySem.Spec L2
section
variable {K : PySem.W.Frag} {T : Tb} {Wx : WX} {X : Cx} {a b : Expr} {ms : Ev (List D)} {p2 pos tpos : Pos}
/-! ### zip of two tuples -/
def srcZT (_ : Store) : List D → Option Src
  | [.tup xs, .tup ys] => some ⟨zipD xs ys, yes⟩
  | _ => none
theorem si_zipT {elts : List Expr} {kk : Nat} (hg : Gl X "zip") (hm : X.mg "zip" = none) (ha : SA T Wx X [a, b] ms)
    (hs : starEach [a, b] X.env = (false, eval a X.env) :: starEach [b] X.env := by rfl) (hs2 : (backTo pos (starEach [b] X.env)).any (·.1) = false := by rfl) :
    SI T Wx X (.Tuple elts kk tpos) (.Call (.Name "zip" p2) [a, b] [] pos) (mIA srcZT ms) := PI.imp (RZ.pi_zipA hg hm ha hs hs2) fun σ H Q q => by
  obtain ⟨W, env, st, re, rs, p⟩ := q
  refine ⟨W, env, st, re, rs, PostG.step p fun ds st1 W1 vs0 H1 eq0 l1 r1 rs1 p1 => ?_⟩
  clear eq0
  cases hz : srcZT st1 ds with
  | none => simp only [hz] at p1; exact p1.elim
  | some z =>
    simp only [hz] at p1
    unfold srcZT at hz
    split at hz
    · rename_i xs ys
      cases hz
      obtain ⟨v, u, rfl, r0, r2⟩ := r1.two
      obtain ⟨a, us, rfl, h1, q1⟩ := asT_ok rs1 r0 rfl
      obtain ⟨b, ws, rfl, h1', q1'⟩ := asT_ok rs1 r2 rfl
      refine ⟨a, b, us, ws, rfl, .inr ⟨h1, h1', p1 W1 _ H1 (Wd.le.refl _) (fun W2 st2 H2 l2 rs2 _ => ?_) rs1⟩⟩
      obtain ⟨a', vs, e, h2, q2⟩ := asT_ok rs2 (RV.mono2 l2 r0) rfl
      cases e
      obtain ⟨b', vs', e, h2', q2'⟩ := asT_ok rs2 (RV.mono2 l2 r2) rfl
      cases e
      refine ⟨fun i hi => ⟨vs, vs', h2, h2', ?_⟩, fun i d hd => ?_⟩
      · rw [zipD_length] at hi
        rw [← q2.length, ← q2'.length]
        omega
      · obtain ⟨x, y, e1, e2, rfl⟩ := zipD_get i xs ys d hd
        obtain ⟨v1, hv1, rv1⟩ := q2.get e1
        obtain ⟨v2, hv2, rv2⟩ := q2'.get e2
        refine ⟨⟨vs, vs', v1, v2, h2, h2', hv1, hv2⟩, fun w H' y => ?_⟩
        obtain ⟨Tt, x', y', rfl, hT, rfl, y1, y2⟩ := y
        have := y1 vs h2
        rw [hv1] at this
        cases this
        have := y2 vs' h2'
        rw [hv2] at this
        cases this
        obtain ⟨g1, g2, g3⟩ := new_tup rs2 hT (ds := [x, _]) (xs := [v1, v2]) (.cons rv1 (.cons rv2 .nil)) rfl
        exact ⟨_, g1, g2, g3⟩
    · cases hz
/-- list(d), to be changed -/
def cListDC (st : Store) : List D → Option (D × Store)
  | [d] => (asDc st d).map fun q => (.ref st.length, st ++ [.lst (q.1.map kvD)])
  | _ => none
theorem c_listDC (hc : X.calm = true) : CallR X (.type "list") (rCS X.K T cListDC) := by
  intro pins s σ H xs us Q I r q
  obtain ⟨W, st, ds, z, st', r1, rs, hz, k⟩ := q
  unfold cListDC at hz
  split at hz
  · simp only [Option.map_eq_some_iff, Prod.mk.injEq] at hz
    obtain ⟨⟨ks, vs⟩, h1, rfl, rfl⟩ := hz
    obtain ⟨v, rfl, r0⟩ := r1.one
    obtain ⟨a, ys, rfl, g1, g2, g3⟩ := asDc_ok rs r0 h1
    refine call_listD hc pins s σ H _ us Q I r ⟨a, _, rfl, g1, fun p hp => ?_⟩
    rw [zip_keys g2]
    obtain ⟨l1, l2, l3⟩ := new_lstC rs hp (RDs.keys ks)
    exact k _ _ _ l1 l2 l3
  · cases hz
end
end Mr
namespace Mr
open PySem PySem.Spec L2
/-! ### xs + ys, the new list to be changed -/
def rOS (K : PySem.W.Frag) (T : Tb) (g : Store → D → D → Option (D × Store)) : R2 := fun x y H Q =>
  ∃ W st d e z st', RV K W d x ∧ RV K W e y ∧ RS K T W st H ∧ g st d e = some (z, st') ∧ ∀ W' v H', W.le W' → RV K W' z v → RS K T W' st' H' → Q v H'
def mBinS (g : Store → D → D → Option (D × Store)) (ma mb : Ev D) : Ev D := fun env st => (ma env st).bind fun d st => (mb env st).bind fun e st => match g st d e with
  | some (z, st) => .ok z st
  | none => .no
section
variable {K : PySem.W.Frag} {T : Tb} {Wx : WX} {X : Cx} {a b : Expr} {ma mb : Ev D} {pos : Pos}
theorem binS_read {g : Store → D → D → Option (D × Store)} (σ : St) (H : Hp) (Q : VK) (q : tE K T Wx (mBinS g ma mb) σ H Q) : tOp (rOS K T g) (tE K T Wx ma) (tE K T Wx mb) σ H Q := by
  obtain ⟨W, env, st, re, rs, p⟩ := q
  refine ⟨W, env, st, re, rs, PostG.step p fun d st1 W1 x H1 _ l1 r1 rs1 p1 => ?_⟩
  refine ⟨W1, env, st1, re.mono l1, rs1, PostG.step p1 fun e st2 W2 y H2 _ l2 r2 rs2 p2 => ?_⟩
  cases hz : g st2 d e with
  | none => rw [hz] at p2; exact p2.elim
  | some z =>
    obtain ⟨z, st3⟩ := z
    rw [hz] at p2
    exact ⟨W2, st2, d, e, z, st3, r1.mono l2, r2, rs2, hz, p2⟩
theorem so_binS {op : Operator} {g : Store → D → D → Option (D × Store)} (ho : OpR X (binaryOp op) (rOS X.K T g)) (ha : SE T Wx X a ma) (hb : SE T Wx X b mb) : SE T Wx X (.BinOp a op b pos) (mBinS g ma mb) :=
  PE.imp (pe_op ho ha hb) (binS_read (K := X.K))
def gAddC (st : Store) (d e : D) : Option (D × Store) := match asLs st d, asLs st e with
  | some xs, some ys => if xs.length + ys.length ≤ sizeLine then some (.ref st.length, st ++ [.lst (xs ++ ys)]) else none
  | _, _ => none
theorem o_addC : OpR X (binaryOp .Add) (rOS X.K T gAddC) := by
  intro pins s σ H x y v u Q I rx ry q
  obtain ⟨W, st, d, e, z, st', r1, r2, rs, hz, k⟩ := q
  unfold gAddC at hz
  split at hz
  · rename_i xs ys e1 e2
    split at hz
    · rename_i hl
      cases hz
      obtain ⟨a, us, rfl, h1, q1⟩ := asLs_ok rs r1 e1
      obtain ⟨b, ws, rfl, h2, q2⟩ := asLs_ok rs r2 e2
      refine op_cat pins s σ H _ _ v u Q I rx ry ⟨a, b, us, ws, rfl, rfl, h1, h2, by rw [← q1.length, ← q2.length]; exact hl, fun p hp => ?_⟩
      obtain ⟨l1, l2, l3⟩ := new_lstC rs hp (q1.append q2)
      exact k _ _ _ l1 l2 l3
    · cases hz
  · cases hz
/-! ### list(range(..)) -/
def mListR1 (m : Ev D) : Ev D := fun env st => (m env st).bind fun d st => match d with
  | .int n => if 0 ≤ n ∧ n ≤ 1000000 then .ok (.lst (rngD 0 n.toNat)) st else .no
  | _ => .no
def mListR2 (ma mb : Ev D) : Ev D := fun env st => (ma env st).bind fun d st => (mb env st).bind fun e st => match d, e with
  | .int a, .int b => if 0 ≤ a ∧ a ≤ 1000000 ∧ 0 ≤ b ∧ b ≤ 1000000 then .ok (.lst (rngD a (b - a).toNat)) st else .no
  | _, _ => .no
theorem rgD_rel {W : Wd} (a b : Int) : RVs K W (rngD a (b - a).toNat) (rgV a b) := by
  unfold rngD rgV
  generalize (List.range (b - a).toNat) = l
  induction l with
  | nil => exact .nil
  | cons i l ih => exact .cons (.int _) ih
theorem so_listR1 {p p2 pos2 : Pos} (hc : X.calm = true) (hg : Gl X "list") (hm : X.mg "list" = none) (hg2 : Gl X "range") (hm2 : X.mg "range" = none) (ha : SE T Wx X a ma) (na : starEach [a] X.env = (false, eval a X.env) :: starEach [] X.env := by rfl)
    (nb : starEach [.Call (.Name "range" p2) [a] [] pos2] X.env = (false, eval (.Call (.Name "range" p2) [a] [] pos2) X.env) :: starEach [] X.env := by rfl) :
    SE T Wx X (.Call (.Name "list" p) [.Call (.Name "range" p2) [a] [] pos2] [] pos) (mListR1 ma) := PE.imp (pe_listRg hc hg hm (prg_1 hg2 hm2 ha na) nb) fun σ H Q q => by
  obtain ⟨W, env, st, re, rs, p⟩ := q
  refine ⟨W, env, st, re, rs, PostG.step p fun d st1 W1 x H1 _ l1 r1 rs1 p1 => ?_⟩
  cases d with
  | int n =>
    cases r1
    simp only at p1
    split at p1
    · rename_i h
      refine ⟨n, rfl, RgOk.of_le (by omega) (by omega) (by omega) h.1, fun q hq => ?_⟩
      have e : rngD 0 n.toNat = rngD 0 (n - 0).toNat := by rw [Int.sub_zero]
      rw [e] at p1
      obtain ⟨g1, g2, g3⟩ := new_lst rs1 hq (rgD_rel (K := X.K) (W := W1) 0 n)
      exact p1 _ _ _ g1 g2 g3
    · exact p1.elim
  | _ => exact p1.elim
theorem so_listR2 {p p2 pos2 : Pos} (hc : X.calm = true) (hg : Gl X "list") (hm : X.mg "list" = none) (hg2 : Gl X "range") (hm2 : X.mg "range" = none) (ha : SE T Wx X a ma) (hb : SE T Wx X b mb) (na : starEach [a, b] X.env = (false, eval a X.env) :: starEach [b] X.env := by rfl)
    (nb : starEach [b] X.env = (false, eval b X.env) :: starEach [] X.env := by rfl) (hp : (backTo pos2 (starEach [b] X.env)).any (·.1) = false := by rfl)
    (nc : starEach [.Call (.Name "range" p2) [a, b] [] pos2] X.env = (false, eval (.Call (.Name "range" p2) [a, b] [] pos2) X.env) :: starEach [] X.env := by rfl) :
    SE T Wx X (.Call (.Name "list" p) [.Call (.Name "range" p2) [a, b] [] pos2] [] pos) (mListR2 ma mb) := PE.imp (pe_listRg hc hg hm (prg_2 hg2 hm2 ha hb na nb hp) nc) fun σ H Q q => by
  obtain ⟨W, env, st, re, rs, p⟩ := q
  refine ⟨W, env, st, re, rs, PostG.step p fun d st1 W1 x H1 _ l1 r1 rs1 p1 => ?_⟩
  refine ⟨W1, env, st1, re.mono l1, rs1, PostG.step p1 fun e st2 W2 y H2 _ l2 r2 rs2 p2 => ?_⟩
  cases d with
  | int i =>
    cases e with
    | int j =>
      cases r1
      cases r2
      simp only at p2
      split at p2
      · rename_i h
        refine ⟨i, j, rfl, rfl, RgOk.of_le h.1 (by omega) (by omega) h.2.2.1, fun q hq => ?_⟩
        obtain ⟨g1, g2, g3⟩ := new_lst rs2 hq (rgD_rel (K := X.K) (W := W2) i j)
        exact p2 _ _ _ g1 g2 g3
      · exact p2.elim
    | _ => exact p2.elim
  | _ => exact p2.elim
/-! ### xs.count(x) -/
def gCount (st : Store) (d : D) : List D → Option D
  | [e] => match py 3 st d, py 3 st e with
    | some (.list zs), some x => if PyData.plainAll zs && x.plain && decide (x.depth ≤ 60) then some (.int ((zs.countP fun z => PyData.eqv z x : Nat) : Int)) else none
    | _, _ => none
  | _ => none
theorem m_count (hu : X.A.units + 65 < cLine) : MtR X "list.count" (rMt X.K T (pureM gCount)) := by
  intro pins s σ H x xs v us Q I rx rxs q
  obtain ⟨W, st, d, ds, z, st', r1, r2, rs, hz, k⟩ := q
  replace hz := pureM_some hz
  obtain ⟨hz, rfl⟩ := hz
  unfold gCount at hz
  split at hz
  · rename_i e
    obtain ⟨w, rfl, r3⟩ := r2.one
    split at hz
    · rename_i zs y e1 e2
      split at hz
      · rename_i hs
        simp only [Bool.and_eq_true, decide_eq_true_eq] at hs
        cases hz
        have h1 := py_ok rs _ _ _ _ e1 r1
        have h2 := py_ok rs _ _ _ _ e2 r3
        cases h1 with
        | lst hq hd =>
          obtain ⟨its, rv, hl, _⟩ := I.list hq
          obtain ⟨u, rfl, ru⟩ : ∃ u, us = [u] ∧ RelV w u := by
            cases rxs with
            | cons r t => cases t; exact ⟨_, rfl, r⟩
          obtain ⟨as, hr⟩ := Dp.readsAll I _ _ _ hd rv
          obtain ⟨bs, hr2⟩ := Dp.reads I _ _ _ h2 ru
          cases rx
          refine PySem.SeqAt.count_list_data hl.isList (by simpa using hr) hr2 hs.1.1 hs.1.2 ?_ ?_
          · have := Nat.min_le_right (PyData.depthAll zs) y.depth
            omega
          · exact ⟨.int _, H, I.tok _, ⟨_, rfl⟩, k W _ H (Wd.le.refl _) (.int _) rs⟩
      · cases hz
    · cases hz
  · cases hz
end
end Mr
namespace Mr
open PySem PySem.Spec L2
/-! ### reckoning: in, index, == over lists of data -/
theorem inD_lst (st : Store) (d : D) (ys : List D) : inD st d (.lst ys) = match py 3 st d, py 3 st (.lst ys) with
    | some x, some (.list zs) => if (shp x && shp (.list zs)) = true then some (zs.any fun z => PyData.eqv z x) else none
    | _, _ => none := by
  cases d <;> rfl
section
variable {α : Type} [DecidableEq α] {st : Store} {n : Nat}
theorem map_py (f : α → D) {l : List α} (hok : ∀ b ∈ l, okD n (f b) = true) : py 3 st (.lst (l.map f)) = some (.list (l.map fun b => toPy (f b))) ∧ (n ≤ 60 → shp (.list (l.map fun b => toPy (f b))) = true) := by
  have h1 : okD (n + 1) (.lst (l.map f)) = true := by
    simp only [okD]
    exact okDs_map n f l hok
  have e : toPy (.lst (l.map f)) = .list (l.map fun b => toPy (f b)) := by
    simp only [toPy, toPys_map, List.map_map]
    rfl
  refine ⟨by rw [py_toPy h1, e], fun hn => ?_⟩
  rw [← e]
  exact shp_toPy (by omega) h1
theorem in_map (f : α → D) {a : α} {l : List α} (hn : n ≤ 60) (ha : okD n (f a) = true) (hok : ∀ b ∈ l, okD n (f b) = true) (inj : ∀ b ∈ l, nz (f b) = nz (f a) → b = a) : gIn st (f a) (.lst (l.map f)) = some (.bl (decide (a ∈ l))) := by
  obtain ⟨h1, h2⟩ := map_py (st := st) f hok
  unfold gIn
  rw [inD_lst, py_toPy ha, h1]
  simp only [shp_toPy (by omega) ha, h2 hn, Bool.and_self, if_true, Option.map_some, Option.some.injEq, D.bl.injEq, List.any_map]
  rw [Bool.eq_iff_iff, List.any_eq_true, decide_eq_true_eq]
  constructor
  · rintro ⟨b, hb, e⟩
    rw [← inj b hb ((eqv_nz n n _ _ (hok b hb) ha).mp e)]
    exact hb
  · intro h
    exact ⟨a, h, (eqv_nz n n _ _ (hok a h) ha).mpr rfl⟩
theorem in_mapT (f : α → D) {a : α} {l : List α} (hn : n ≤ 60) (ha : okD n (f a) = true) (hok : ∀ b ∈ l, okD n (f b) = true) (inj : ∀ b ∈ l, nz (f b) = nz (f a) → b = a) (h : a ∈ l) : gIn st (f a) (.lst (l.map f)) = some (.bl true) := by
  rw [in_map f hn ha hok inj, decide_eq_true h]
theorem in_mapF (f : α → D) {a : α} {l : List α} (hn : n ≤ 60) (ha : okD n (f a) = true) (hok : ∀ b ∈ l, okD n (f b) = true) (inj : ∀ b ∈ l, nz (f b) = nz (f a) → b = a) (h : ¬ a ∈ l) : gIn st (f a) (.lst (l.map f)) = some (.bl false) := by
  rw [in_map f hn ha hok inj, decide_eq_false h]
theorem nin_map (f : α → D) {a : α} {l : List α} (hn : n ≤ 60) (ha : okD n (f a) = true) (hok : ∀ b ∈ l, okD n (f b) = true) (inj : ∀ b ∈ l, nz (f b) = nz (f a) → b = a) : gNin st (f a) (.lst (l.map f)) = some (.bl (!decide (a ∈ l))) := by
  have h := in_map (st := st) f hn ha hok inj
  unfold gIn at h
  unfold gNin
  simp only [Option.map_eq_some_iff, D.bl.injEq] at h
  obtain ⟨b, h1, rfl⟩ := h
  rw [h1]
  rfl
theorem nin_mapF (f : α → D) {a : α} {l : List α} (hn : n ≤ 60) (ha : okD n (f a) = true) (hok : ∀ b ∈ l, okD n (f b) = true) (inj : ∀ b ∈ l, nz (f b) = nz (f a) → b = a) (h : ¬ a ∈ l) : gNin st (f a) (.lst (l.map f)) = some (.bl true) := by
  rw [nin_map f hn ha hok inj, decide_eq_false h]
  rfl
theorem nin_mapT (f : α → D) {a : α} {l : List α} (hn : n ≤ 60) (ha : okD n (f a) = true) (hok : ∀ b ∈ l, okD n (f b) = true) (inj : ∀ b ∈ l, nz (f b) = nz (f a) → b = a) (h : a ∈ l) : gNin st (f a) (.lst (l.map f)) = some (.bl false) := by
  rw [nin_map f hn ha hok inj, decide_eq_true h]
  rfl
theorem index_map (f : α → D) {a : α} {l : List α} (hn : n ≤ 60) (ha : okD n (f a) = true) (hok : ∀ b ∈ l, okD n (f b) = true) (inj : ∀ b ∈ l, nz (f b) = nz (f a) → b = a) : gIndex st (.lst (l.map f)) [f a] = (l.findIdx? fun b => decide (b = a)).map fun j => .int (j : Nat) := by
  obtain ⟨h1, h2⟩ := map_py (st := st) f hok
  have h0 := py_toPy (st := st) (m := 3) ha
  simp only [gIndex, h0, h1, shp_toPy (by omega) ha, h2 hn, Bool.and_self, if_true, List.findIdx?_map]
  congr 1
  have : ∀ (r : List α), (∀ b ∈ r, b ∈ l) → r.findIdx? ((fun z => PyData.eqv z (toPy (f a))) ∘ fun b => toPy (f b)) = r.findIdx? fun b => decide (b = a) := by
    intro r
    induction r with
    | nil => intro _; rfl
    | cons b r ih =>
      intro hr
      have hb := hr b List.mem_cons_self
      have e : PyData.eqv (toPy (f b)) (toPy (f a)) = decide (b = a) := by
        rw [Bool.eq_iff_iff, decide_eq_true_eq]
        constructor
        · intro e
          exact inj b hb ((eqv_nz n n _ _ (hok b hb) ha).mp e)
        · rintro rfl
          exact (eqv_nz n n _ _ ha ha).mpr rfl
      simp only [List.findIdx?_cons, Function.comp, e]
      rw [← ih fun c hc => hr c (List.mem_cons_of_mem _ hc)]
  exact this l fun _ h => h
theorem count_map (f : α → D) {a : α} {l : List α} (hn : n ≤ 60) (ha : okD n (f a) = true) (hok : ∀ b ∈ l, okD n (f b) = true) (inj : ∀ b ∈ l, nz (f b) = nz (f a) → b = a) (hp : ∀ b, (toPy (f b)).plain = true) : gCount st (.lst (l.map f)) [f a] = some (.int ((l.countP fun b => decide (b = a) : Nat) : Int)) := by
  obtain ⟨h1, h2⟩ := map_py (st := st) f hok
  have h0 := py_toPy (st := st) (m := 3) ha
  have hd : (toPy (f a)).depth ≤ 60 := Nat.le_trans (pyF_toPy (f := fun _ => none) n (f a) ha).2.2 hn
  have hpl : PyData.plainAll (l.map fun b => toPy (f b)) = true := by
    clear h1 h2 inj hok
    induction l with
    | nil => rfl
    | cons b r ih =>
      simp only [List.map_cons, PyData.plainAll, hp b, ih, Bool.and_self]
  simp only [gCount, h0, h1, hpl, hp a, decide_eq_true hd, Bool.and_self, if_true, List.countP_map, Option.some.injEq, D.int.injEq, Int.ofNat_inj]
  refine List.countP_congr fun b hb => ?_
  show PyData.eqv (toPy (f b)) (toPy (f a)) = true ↔ decide (b = a) = true
  rw [decide_eq_true_eq]
  constructor
  · intro e
    exact inj b hb ((eqv_nz n n _ _ (hok b hb) ha).mp e)
  · rintro rfl
    exact (eqv_nz n n _ _ ha ha).mpr rfl
end
/-- == and != by a key -/
theorem eq_key {st : Store} {n m : Nat} {d e : D} {b : Bool} (hn : n ≤ 64) (hm : m ≤ 64) (hd : okD n d = true) (he : okD m e = true) (h : decide (nz d = nz e) = b) : gEq st d e = some (.bl b) := by
  unfold gEq
  rw [eqD_ok hn hm hd he, h]
  rfl
theorem ne_key {st : Store} {n m : Nat} {d e : D} {b : Bool} (hn : n ≤ 64) (hm : m ≤ 64) (hd : okD n d = true) (he : okD m e = true) (h : decide (nz d = nz e) = b) : gNe st d e = some (.bl (!b)) := by
  unfold gNe
  rw [eqD_ok hn hm hd he, h]
  rfl
mutual
theorem okD_mono : ∀ {n m : Nat} {d : D}, n ≤ m → okD n d = true → okD m d = true
  | _, _, .non, _, _ => by simp [okD]
  | _, _, .bl b, _, _ => by simp [okD]
  | _, _, .int i, _, _ => by simp [okD]
  | _, _, .str x, _, h => by simp only [okD] at h ⊢; exact h
  | 0, _, .lst xs, _, h => by simp [okD] at h
  | n + 1, 0, .lst xs, hn, _ => absurd hn (by omega)
  | n + 1, m + 1, .lst xs, hn, h => by simp only [okD] at h ⊢; exact okDs_mono (by omega) h
  | 0, _, .fix xs, _, h => by simp [okD] at h
  | n + 1, 0, .fix xs, hn, _ => absurd hn (by omega)
  | n + 1, m + 1, .fix xs, hn, h => by simp only [okD] at h ⊢; exact okDs_mono (by omega) h
  | 0, _, .tup xs, _, h => by simp [okD] at h
  | n + 1, 0, .tup xs, hn, _ => absurd hn (by omega)
  | n + 1, m + 1, .tup xs, hn, h => by simp only [okD] at h ⊢; exact okDs_mono (by omega) h
  | _, _, .ty _, _, h => by simp [okD] at h
  | _, _, .dct _ _, _, h => by simp [okD] at h
  | _, _, .ref _, _, h => by simp [okD] at h
theorem okDs_mono : ∀ {n m : Nat} {ds : List D}, n ≤ m → okDs n ds = true → okDs m ds = true
  | _, _, [], _, _ => by simp [okDs]
  | n, m, d :: ds, hn, h => by
    simp only [okDs, Bool.and_eq_true] at h ⊢
    exact ⟨okD_mono hn h.1, okDs_mono hn h.2⟩
end
/-! ### a list, by value or as a cell -/
structure IsL (st : Store) (d : D) (xs : List D) : Prop where
  as : asL st d = some xs
  kp : keepL d xs st = true
  ty : tyD st d = some "list"
theorem IsL.lst (st : Store) (xs : List D) : IsL st (.lst xs) xs := ⟨rfl, rfl, rfl⟩
theorem IsL.cell {st : Store} {n : Nat} {xs : List D} (h : st[n]? = some (.lst xs)) : IsL st (.ref n) xs := by
  refine ⟨by simp only [asL, h], ?_, by simp only [tyD, h]⟩
  simp only [keepL, h]
  exact D.beqs_refl xs
theorem IsL.len {st : Store} {d : D} {xs : List D} (h : IsL st d xs) : cLen st [d] = some (.int xs.length) := by
  cases d with
  | lst ys => cases h.as; rfl
  | fix ys => cases h.as; rfl
  | ref n =>
    have e := h.as
    simp only [cLen, e, Option.map_some]
  | _ => have e := h.as; cases e
theorem IsL.isi {st : Store} {d : D} {xs : List D} (h : IsL st d xs) : cIsi st [d, .ty "list"] = some (.bl true) := by
  simp only [cIsi, h.ty, Option.bind_some]
  rfl
theorem IsL.list {st : Store} {d : D} {xs : List D} (h : IsL st d xs) : cList st [d] = some (.lst xs) := by
  cases d with
  | lst ys => cases h.as; rfl
  | fix ys => cases h.as; rfl
  | ref n =>
    have e := h.as
    simp only [cList, e, Option.map_some]
  | _ => have e := h.as; cases e
theorem IsL.il {st : Store} {d : D} {xs : List D} (h : IsL st d xs) {m : Ev D} {env : Env'} (hm : m env st = .ok d st) : mIL m env st = .ok ⟨xs, keepL d xs⟩ st := by
  simp only [mIL, hm, Res.ok_bind, srcL, h.as, Option.map_some, Res.of_some]
end Mr
namespace Mr
open PySem PySem.Spec L2
/-! ### max(xs, key=lambda y: y[:2]) -/
/-- the lambda y: y[:2], called with a tuple of more than two -/
theorem lam_cut2 {prog : Program} {w : World} {A : Around} {s : Shared} {f c' t : Addr} {q y : Str} {params : Arguments} {scope : Scope} {cl : List (Str × Addr)} {pm ctv a b : Value} {rest : List Value} {j : Nat} {p1 p2 p3 p4 : Pos} {Q : Value → Shared → Prop} {E : Value → Shared → Prop}
    (hf : s.heap.get? f = some (PySem.W.kla_obj "<lambda>" q params (.Subscript (.Name y p1) (.Slice none (some (.Constant (.int 2) j p2)) none p3) p4) scope cl pm c' ctv))
    (hc : ∃ (oc : Obj) (vs : Array Value) (t : Tok), s.heap.get? c' = some oc ∧ oc.data = .fields vs ∧ vs[1]? = some (.str q t))
    (hbind : bindArgs (PySem.W.kla_fn "<lambda>" q params (.Subscript (.Name y p1) (.Slice none (some (.Constant (.int 2) j p2)) none p3) p4) scope cl pm (.ref c') ctv) ⟨[.ref t], []⟩ = pure [(y, .ref t)])
    (hk : scope.kind = .function) (hco : scope.isCoroutine = false) (hgen : scope.isGenerator = false) (hnc : ∀ x ∈ scope.names, x.2 ≠ .cell) (hl : scope.names.lookup y = some .local) (hd : (y == ("__debug__" : Str)) = false)
    (hroom : A.depth < recursionLimit) (lim : s.heap.NoLimit) (ht : PyProof.Rows.IsTup s.heap t (a :: b :: rest).toArray) (hr : rest ≠ []) (hsz : rest.length + 2 ≤ sizeLine)
    (h : ∀ h' tk p, s.toks ≤ tk → (∀ b o, s.heap.get? b = some o → h'.get? b = some o) → PyProof.Rows.IsTup h' p #[a, b] → s.heap.objs.size ≤ p → Q (.ref p) { s with heap := h', toks := tk }) :
    wpAny (model prog w) A (call (.ref f) [.ref t]) Q E s := by
  obtain ⟨oc, vs, tq, hoc, hdc, hvc⟩ := hc
  refine wpAny_call ?_
  refine PySem.W.kla_callFunE hroom hf rfl hco hgen rfl ⟨c', oc, vs, tq, rfl, hoc, hdc, hvc⟩ ?_
  rw [hbind]
  refine wpAny_pure (wpAny_newFunctionEnv hnc (fun x hx => by cases List.mem_singleton.mp hx; exact hl) (fun h₁ hns hsb => ⟨lim.fresh _ hsb, ?_⟩) hk)
  have kp : ∀ b o, s.heap.get? b = some o → h₁.get? b = some o := fun b o e => hsb.extBut b o (Nat.ne_of_lt (Heap.lt_size e)) (Heap.get?_push_of_some _ e)
  refine PySem.W.kla_codeExpr ?_
  refine PyProof.Rows.Subscript_ (wpAny_Name (wpAny_loadName_local hk hl hns (v := .ref t) (by simp) ?_) hd)
  refine wpAny_Slice ?_
  rw [evalPart_none]
  refine wpAny_pure ?_
  rw [evalPart_some]
  refine wpAny_Constant_int ?_
  refine wpAny_pure ?_
  have ht1 : PyProof.Rows.IsTup (h₁.push { cls := .type "slice", data := .fields #[.none, .int 2 (s.toks + 1), .none] }) t (a :: b :: rest).toArray := (ht.keeps kp).push _
  refine PyProof.Rows.tail_any (ops := [.ref h₁.objs.size, .ref t]) ht1.typeIs PyProof.Rows.slot_tuple_getitem.lookup ?_ (by with_unfolding_all rfl)
  refine HT.getItem_tuple_cut ht1 (Heap.IsSliceOf.new ..) .none (.int 2 _) ?_ ?_ (by simpa using hsz)
  · have : 0 < rest.length := List.length_pos_iff.mpr hr
    simp [HT.sIx]
    omega
  · have e2 : (((a :: b :: rest).toArray.toList.drop (HT.sIx (a :: b :: rest).toArray.size 0 none)).take (HT.sIx (a :: b :: rest).toArray.size (a :: b :: rest).toArray.size (some 2) - HT.sIx (a :: b :: rest).toArray.size 0 none)).toArray = #[a, b] := by
      simp [HT.sIx]
    rw [e2]
    have hge : s.heap.objs.size ≤ (h₁.push { cls := .type "slice", data := .fields #[.none, .int 2 (s.toks + 1), .none] }).objs.size := by
      have h0 : s.heap.objs.size < h₁.objs.size := hns.lt
      rw [Heap.size_push]
      omega
    exact h _ _ _ (by simp; omega) (fun b o e => Heap.get?_push_of_some _ (Heap.get?_push_of_some _ (kp b o e))) (PyProof.Rows.IsTup.new _ _) hge
/-- the key of a tuple -/
def keyT : D → Option (Int × Str)
  | .tup (.int n :: .str x :: _ :: _) => some (n, x)
  | _ => none
def keysT : List D → Option (List (Int × Str))
  | [] => some []
  | d :: ds => (keyT d).bind fun k => (keysT ds).map fun ks => k :: ks
def kLt (a b : Int × Str) : Bool := pairLt a.1 a.2 b.1 b.2
def gtK (ks : List (Int × Str)) (i j : Nat) : Bool := kLt (ks.getD j (0, "")) (ks.getD i (0, ""))
def gMaxK (st : Store) (d : D) : Option D := (asL st d).bind fun xs => (keysT xs).bind fun ks => xs[argBest (gtK ks) (xs.length - 1)]?
theorem keysT_at : ∀ {xs : List D} {ks : List (Int × Str)}, keysT xs = some ks → ks.length = xs.length ∧ ∀ i d, xs[i]? = some d → keyT d = some (ks.getD i (0, ""))
  | [], ks, h => by cases h; exact ⟨rfl, fun i d e => by simp at e⟩
  | x :: xs, ks, h => by
    unfold keysT at h
    simp only [Option.bind_eq_some_iff, Option.map_eq_some_iff] at h
    obtain ⟨k, hk, l, hl, rfl⟩ := h
    obtain ⟨h1, h2⟩ := keysT_at hl
    refine ⟨by simp [h1], fun i d e => ?_⟩
    cases i with
    | zero => simp only [List.getElem?_cons_zero, Option.some.injEq] at e; subst e; exact hk
    | succ i => exact h2 i d (by simpa using e)
theorem keyT_some {d : D} {k : Int × Str} (h : keyT d = some k) : ∃ e r, d = .tup (.int k.1 :: .str k.2 :: e :: r) := by
  unfold keyT at h
  split at h
  · cases h; exact ⟨_, _, rfl⟩
  · cases h
theorem nm_lt {b n : Addr} (h : Nat.lt b n) : b ∉ [n + 1, n] := fun z => by
  rcases List.mem_cons.mp z with e | e
  · exact Nat.lt_irrefl _ (Nat.lt_of_lt_of_le h (by rw [e]; exact Nat.le_succ _))
  · exact Nat.ne_of_lt h (List.mem_singleton.mp e)
theorem nm_ge {p n m : Addr} (h : Nat.lt (n + 1) m) (hp : Nat.le m p) : p ∉ [n + 1, n] := fun z => by
  have h2 : Nat.lt (n + 1) p := Nat.lt_of_lt_of_le h hp
  rcases List.mem_cons.mp z with e | e
  · exact Nat.ne_of_gt h2 e
  · exact Nat.ne_of_gt (Nat.lt_trans (Nat.lt_succ_self n) h2) (List.mem_singleton.mp e)
theorem max_cut2 {prog : Program} {w : World} {A : Around} {s : Shared} {f c' l : Addr} {q y : Str} {params : Arguments} {scope : Scope} {cl : List (Str × Addr)} {pm ctv : Value} {its : List Value} {ks : List (Int × Str)} {j : Nat} {p1 p2 p3 p4 : Pos} {Q : Value → Shared → Prop} {E : Value → Shared → Prop}
    (hf : s.heap.get? f = some (PySem.W.kla_obj "<lambda>" q params (.Subscript (.Name y p1) (.Slice none (some (.Constant (.int 2) j p2)) none p3) p4) scope cl pm c' ctv))
    (hc : ∃ (oc : Obj) (vs : Array Value) (t : Tok), s.heap.get? c' = some oc ∧ oc.data = .fields vs ∧ vs[1]? = some (.str q t))
    (hbind : ∀ v, bindArgs (PySem.W.kla_fn "<lambda>" q params (.Subscript (.Name y p1) (.Slice none (some (.Constant (.int 2) j p2)) none p3) p4) scope cl pm (.ref c') ctv) ⟨[v], []⟩ = pure [(y, v)])
    (hk : scope.kind = .function) (hco : scope.isCoroutine = false) (hgen : scope.isGenerator = false) (hnc : ∀ x ∈ scope.names, x.2 ≠ .cell) (hl : scope.names.lookup y = some .local) (hd : (y == ("__debug__" : Str)) = false)
    (hroom : A.depth < recursionLimit) (lim : s.heap.NoLimit) (hh : A.handled = none) (hu : A.units + 65 < cLine) (hL : s.heap.IsList l its.toArray) (hn : its ≠ [])
    (hitem : ∀ i v, its[i]? = some v → ∃ t u u' rest, v = .ref t ∧ PyProof.Rows.IsTup s.heap t (.int (ks.getD i (0, "")).1 u :: .str (ks.getD i (0, "")).2 u' :: rest).toArray ∧ rest ≠ [] ∧ rest.length + 2 ≤ sizeLine)
    (h : ∀ v h' tk, its[argBest (gtK ks) (its.length - 1)]? = some v → (∀ b o, s.heap.get? b = some o → h'.get? b = some o) → Q v { s with heap := h', toks := tk }) :
    wpAny (model prog w) A (call (.builtin "max") [.ref l] [(Str.ofString "key", .ref f)]) Q E s := by
  refine call_max_walkK (PySem.W.iter_listW (A := A.in1) hh hL fun s₂ e W st hfp hw hk2 => ?_)
  have hsz : its.toArray.size = its.length := by simp
  have hpos : 0 < its.length := List.length_pos_iff.mpr hn
  have sz2 : s₂.heap.objs.size = s.heap.objs.size + 1 := by rw [e]; exact Heap.size_push ..
  refine ⟨s.heap.objs.size, _, _, _, _, _, _, fun s' => Moved [s₂.heap.objs.size, s.heap.objs.size] (fun a b => b = a) s₂ s',
    fun i k s' => ∃ p u u', k = .ref p ∧ p ∉ [s₂.heap.objs.size, s.heap.objs.size] ∧ PyProof.Rows.IsTup s'.heap p #[.int (ks.getD i (0, "")).1 u, .str (ks.getD i (0, "")).2 u'], gtK ks, rfl, W, st, hfp, by rw [hsz]; exact hpos, ?_, Moved.refl (fun _ => rfl), ?_⟩
  · refine ⟨fun a b h1 h2 => Moved.trans W.gtrans h1 h2, fun i k a b h1 h2 => ?_, ?_, ?_⟩
    · obtain ⟨p, u, u', rfl, hp, o, ho, hr⟩ := h1
      exact ⟨p, u, u', rfl, hp, o, h2.heap p o hp ho, hr⟩
    · intro i v s1 o Q1 E1 hi hP hJ hst hS hQ
      have old : ∀ b o, s.heap.get? b = some o → s1.heap.get? b = some o := fun b o eb => hJ.heap b o (by rw [sz2]; exact nm_lt (Heap.lt_size eb)) (hk2 b o eb)
      obtain ⟨t, u, u', rest, rfl, ht, hr, hz⟩ := hitem i v (by simpa using hP)
      refine lam_cut2 (old _ _ hf) ?_ (hbind _) hk hco hgen hnc hl hd hroom (lim.keeps old) (ht.keeps old) hr hz fun h' tk p htk hkp hp hge => ?_
      · obtain ⟨oc, vs, t, h1, h2, h3⟩ := hc
        exact ⟨oc, vs, t, old _ _ h1, h2, h3⟩
      · have hS1 := Heap.lt_size hS
        rw [sz2] at hS1
        have hpn : p ∉ [s₂.heap.objs.size, s.heap.objs.size] := by
          rw [sz2]
          exact nm_ge hS1 hge
        refine hQ (.ref p) _ (hJ.then_heap htk fun b o _ eb => hkp b o eb) (W.frame _ _ _ _ hst htk fun b _ o eb => hkp b o eb) (hkp _ _ hS) ⟨p, u, u', rfl, hpn, hp⟩ fun i k ⟨p2, a, a', e1, e2, e3⟩ => ⟨p2, a, a', e1, e2, e3.keeps hkp⟩
    · intro i k ki kj s1 Q1 E1 hJ hi hj hq
      obtain ⟨p, a, a', rfl, _, o, ho, hc1, n1, hd1⟩ := hi
      obtain ⟨p2, b, b', rfl, _, o2, ho2, hc2, n2, hd2⟩ := hj
      have r1 : Reads s1.heap (.ref p) (.tuple [.int (ks.getD i (0, "")).1, .str (ks.getD i (0, "")).2]) _ := .tuple ho hc1 hd1 (.cons (.int _ _) (.cons (.str _ _) .nil))
      have r2 : Reads s1.heap (.ref p2) (.tuple [.int (ks.getD k (0, "")).1, .str (ks.getD k (0, "")).2]) _ := .tuple ho2 hc2 hd2 (.cons (.int _ _) (.cons (.str _ _) .nil))
      refine PySem.W.gt_data r1 r2 rfl (by simp) ?_ ?_
      · show A.units + 1 + _ < _
        simp [PyData.depth, PyData.depthAll]
        omega
      · rw [dataLt_pair]
        exact hq
  · intro v s' hP hJ
    rw [hsz] at hP
    have kp : ∀ b o, s.heap.get? b = some o → s'.heap.get? b = some o := fun b o eb => hJ.heap b o (by rw [sz2]; exact nm_lt (Heap.lt_size eb)) (hk2 b o eb)
    have e3 : s' = { s with heap := s'.heap, toks := s'.toks } := by
      obtain ⟨hp, g, d, tk, os⟩ := s'
      have h1 := hJ.gens
      have h2 := hJ.drawn
      have h3 := hJ.os
      subst e
      simp only at h1 h2 h3
      subst h1 h2 h3
      rfl
    rw [e3]
    exact h v _ _ (by simpa using hP) kp
def mMaxK (m : Ev D) : Ev D := fun env st => (m env st).bind fun d st => Res.of (gMaxK st d) st
section
variable {X : Cx} {T : Tb} {Wx : WX} {a : Expr} {ma : Ev D}
theorem so_maxK {k j : Nat} {y : Str} {params : Arguments} {scope : Scope} {p lpos kp pos p1 p2 p3 p4 : Pos} {at_ : Str × Option Str} {nme : Str} (tb : TbF X.K X.mg X.base T at_ nme) (hq : X.env.qual ++ "<lambda>" = nme) (hcode : X.env.code = .ref (He.cT X.K at_).1) (hg : Gl X "max") (hm : X.mg "max" = none) (hr : Room (k + 1) X.A) (hdef : defaultsOf params X.env = ([], []))
    (hbind : ∀ (q : Str) (cl : List (Str × Addr)) (pm cv ctv v : Value), bindArgs (PySem.W.kla_fn "<lambda>" q params (.Subscript (.Name y p1) (.Slice none (some (.Constant (.int 2) j p2)) none p3) p4) scope cl pm cv ctv) ⟨[v], []⟩ = pure [(y, v)])
    (hk : scope.kind = .function) (hco : scope.isCoroutine = false) (hgen : scope.isGenerator = false) (hnc : ∀ x ∈ scope.names, x.2 ≠ .cell) (hnf : ∀ x ∈ scope.names, x.2 ≠ .free) (hl : scope.names.lookup y = some .local) (hd : (y == ("__debug__" : Str)) = false)
    (ha : SE T Wx X a ma) (he : starEach [a] X.env = [(false, eval a X.env)] := by rfl) :
    SE T Wx X (.Call (.Name "max" p) [a] [⟨some "key", .Lambda params (.Subscript (.Name y p1) (.Slice none (some (.Constant (.int 2) j p2)) none p3) p4) scope lpos, kp⟩] pos) (mMaxK ma) := by
  subst hq
  refine ⟨fun pins s σ H Q I h => ?_⟩
  obtain ⟨W, env, st, re, rs, pp⟩ := h
  have hv : bootBuiltins "max" = some (.builtin "max") := by kernel_rfl
  refine wpAny_Call_Name_kw (ld_blt I hg hm hv ?_ (by decide) (by decide))
  have he2 : backTo pos (starEach [a] X.env) = (false, eval a X.env) :: [] := by rw [he]; rfl
  refine PyProof.Rows.callWith_kw ?_ he2 (by rw [he2]; rfl)
  rw [he2]
  refine Calls.spliced_cons (thn (ha.run pins s σ H (fun x H1 => ∃ W d st z, RV X.K W d x ∧ RS X.K T W st H1 ∧ gMaxK st d = some z ∧ ∀ W' v H', W.le W' → RV X.K W' z v → RS X.K T W' st H' → Q v H') I ⟨W, env, st, re, rs, PostG.step pp fun d st1 W1 x H1 _ l1 r1 rs1 p1 => ?_⟩) fun v s1 ⟨x1, H1, I1, r1, q1⟩ => ?_)
  · cases hz : gMaxK st1 d with
    | none => rw [hz] at p1; exact p1.elim
    | some z => rw [hz] at p1; exact ⟨W1, d, st1, z, r1, rs1, hz, p1⟩
  clear pp
  refine Calls.spliced_nil ?_
  obtain ⟨W, d, st, z, rd, rs, hz, hQ⟩ := q1
  have rv := r1
  refine PyProof.Rows.kws_cons (LamX.lam_make2 I1 tb.tb hcode tb.mem tb.un rs.tb hdef (fun y hy e => absurd e (hnf y hy)) fun f c' pm' ctv H2 s2 I2 eN T2 hf hfn hfr hco2 => ?_)
  refine PyProof.Rows.kws_nil ?_
  have rs2 := rs.extN eN T2
  unfold gMaxK at hz
  simp only [Option.bind_eq_some_iff] at hz
  obtain ⟨xs, e1, ks, e2, hz⟩ := hz
  obtain ⟨l, ws, rfl, h1, q1⟩ := asL_ok rs2 rd e1
  obtain ⟨its, vv, hL, _⟩ := I2.list h1
  obtain rfl : v = Value.ref l := r1
  obtain ⟨hkl, hka⟩ := keysT_at e2
  have hlen : its.length = xs.length := by rw [← vv.length, ← q1.length]
  have hne : its ≠ [] := fun e0 => by
    rw [e0] at hlen
    have : xs = [] := List.eq_nil_of_length_eq_zero hlen.symm
    rw [this] at hz
    simp at hz
  obtain ⟨⟨oc, vs, t, hoc, hdc, hvc⟩, _, _⟩ := I2.hok c' _ hco2
  refine max_cut2 (ks := ks) hf ⟨oc, vs, t, hoc, hdc, hvc⟩ (fun v => hbind _ _ _ _ _ v) hk hco hgen hnc hl hd (by have := hr.dp; omega) I2.nolimit hr.hd (by have := hr.un; omega) hL.isList hne (fun i u hi => ?_) fun u h' tk hi hkp => ?_
  · obtain ⟨dx, hdx⟩ : ∃ dx, xs[i]? = some dx := by
      have : i < xs.length := by
        rw [← hlen]
        exact (List.getElem?_eq_some_iff.mp hi).1
      exact ⟨_, List.getElem?_eq_getElem this⟩
    obtain ⟨vx, hvx, rvx⟩ := q1.get hdx
    obtain ⟨u2, hu2, ru⟩ := vv.get hvx
    obtain rfl : u = u2 := by rw [hi] at hu2; exact Option.some.inj hu2
    obtain ⟨e3, r3, rfl⟩ := keyT_some (hka i dx hdx)
    obtain ⟨b, us, rfl, hb, qb⟩ := asT_ok rs2 rvx rfl
    obtain ⟨tits, tv, ht, htz⟩ := I2.tuple hb
    obtain rfl : u = Value.ref b := ru
    cases qb with
    | cons z1 qb => cases qb with
      | cons z2 qb => cases qb with
        | cons z3 qb =>
          cases z1
          cases z2
          cases tv with
          | cons t1 tv => cases tv with
            | cons t2 tv => cases tv with
              | cons t3 tv =>
                obtain ⟨u1, rfl⟩ := t1
                obtain ⟨u2, rfl⟩ := t2
                refine ⟨b, u1, u2, _, rfl, ht, by simp, ?_⟩
                have := tv.length
                simp only [List.length_cons] at htz ⊢
                omega
  · rw [hlen] at hi
    obtain ⟨vx, hvx, rvx⟩ := q1.get hz
    obtain ⟨u2, hu2, ru⟩ := vv.get hvx
    obtain rfl : u = u2 := by rw [hi] at hu2; exact Option.some.inj hu2
    exact ⟨vx, H2, I2.kept hkp, ru, hQ W vx H2 (Wd.le.refl _) rvx rs2⟩
end
end Mr
namespace Mr
open PySem PySem.Spec L2
/-! ### sorted(rows) of simple data, all alike -/
def isTupNE : PyData → Bool
  | .tuple (_ :: _) => true
  | _ => false
def isTupP : PyData → Bool
  | .tuple _ => true
  | _ => false
def sortD (ds : List D) : List D := ds.mergeSort (PySem.W.dataLe false toPy)
theorem sortD_perm (ds : List D) : (sortD ds).Perm ds := List.mergeSort_perm _ _
def sortB (ds : List D) : Bool := simDs ds && likeB (toPys ds) && ((ds.all fun d => isTupNE (toPy d)) || ds.all fun d => !isTupP (toPy d)) && decide (ds.length ≤ 10000)
def cSortL (st : Store) : List D → Option D
  | [d] => (asL st d).bind fun ds => if sortB ds = true then some (.lst (sortD ds)) else none
  | _ => none
section
variable {K : PySem.W.Frag} {T : Tb} {X : Cx}
def RDV (K : PySem.W.Frag) (W : Wd) (v : Value) (d : D) : Prop := ∃ x, RV K W d x ∧ RelV x v
theorem each_in {W : Wd} : ∀ {ds : List D} {xs : List V} {vs : List Value}, RVs K W ds xs → Vals xs vs → PySem.W.EachIs (RDV K W) vs ds
  | _, _, _, .nil, .nil => .nil
  | _, _, _, .cons r t, .cons r' t' => .cons ⟨_, r, r'⟩ (each_in t t')
theorem each_out {W : Wd} : ∀ {ds : List D} {vs : List Value}, PySem.W.EachIs (RDV K W) vs ds → ∃ xs, RVs K W ds xs ∧ Vals xs vs
  | _, _, .nil => ⟨[], .nil, .nil⟩
  | _, _, .cons ⟨x, r, r'⟩ t => by
    obtain ⟨xs, h1, h2⟩ := each_out t
    exact ⟨x :: xs, .cons r h1, .cons r' h2⟩
theorem each_rd {h : Heap} : ∀ {ds : List D} {vs : List Value} {as : List Addr}, ReadsAll h vs (toPys ds) as → PySem.W.EachIs (fun v b => ∃ as, Reads h v (toPy b) as) vs ds
  | [], vs, as, r => by simp only [toPys] at r; cases r; exact .nil
  | d :: ds, vs, as, r => by
    simp only [toPys] at r
    cases r with
    | cons r t => exact .cons ⟨_, r⟩ (each_rd t)
theorem depth_le : ∀ {ds : List D} {d : D}, d ∈ ds → (toPy d).depth ≤ PyData.depthAll (toPys ds)
  | x :: ds, d, h => by
    simp only [toPys, PyData.depthAll]
    rcases List.mem_cons.mp h with rfl | h
    · omega
    · have := depth_le h
      omega
theorem c_sortL (hc : X.calm = true) (hu : X.A.units + 65 < cLine) : CallR X (.builtin "sorted") (rC X.K T cSortL) := by
  intro pins s σ H xs us Q I r q
  obtain ⟨W, st, ds, z, r1, rs, hz, k⟩ := q
  unfold cSortL at hz
  split at hz
  · simp only [Option.bind_eq_some_iff] at hz
    obtain ⟨ds, h1, hz⟩ := hz
    split at hz
    · rename_i hl
      cases hz
      simp only [sortB, Bool.and_eq_true, decide_eq_true_eq] at hl
      obtain ⟨⟨⟨hs, hk⟩, ht⟩, hn⟩ := hl
      obtain ⟨hal, hd⟩ := likeB_ok hk
      obtain ⟨v, rfl, r0⟩ := r1.one
      obtain ⟨a, ws, rfl, g1, q1⟩ := asL_ok rs r0 h1
      obtain ⟨u, eu, rx⟩ := vals1 r
      subst eu
      cases rx
      obtain ⟨its, rv, hl, _⟩ := I.list g1
      obtain ⟨as, hr⟩ := Dp.readsAll I _ _ _ (rvs_dp rs hs q1) rv
      have hmap : ds.map toPy = toPys ds := (toPys_map ds).symm
      have hsz : ds.length ≤ sizeLine := Nat.le_trans hn (by rw [sizeLine_eq]; omega)
      refine PySem.W.sorted_data (enc := toPy) (R := RDV X.K W) (bs := ds) hl.isList (each_in q1 rv) (each_rd hr) ?_ ?_ hsz ?_ ?_
      · rw [hmap]; exact hal.1
      · rw [Bool.or_eq_true] at ht
        rcases ht with ht | ht
        · refine .inl fun d hd' => ?_
          obtain ⟨b, hb, rfl⟩ := List.mem_map.mp hd'
          have := List.all_eq_true.mp ht b hb
          generalize toPy b = p at this
          cases p with
          | tuple l => cases l with
            | nil => cases this
            | cons x r => exact ⟨x, r, rfl⟩
          | _ => cases this
        · refine .inr fun d hd' => ?_
          obtain ⟨b, hb, rfl⟩ := List.mem_map.mp hd'
          have := List.all_eq_true.mp ht b hb
          refine ⟨hal.2 _ (by rw [← hmap]; exact hd'), fun xs z => ?_⟩
          rw [z] at this
          cases this
      · intro b hb
        have := depth_le hb
        omega
      · intro out ho eo
        obtain ⟨ys, e1, e2⟩ := each_out eo
        obtain ⟨e', he'⟩ := PyProof.Rows.sortedAll_at s.heap its out.toArray
        have hf : H (s.heap.objs.size + 1) = none := I.hok.fresh (Nat.le_succ _)
        obtain ⟨l1, l2, l3⟩ := new_lst rs hf e1
        have hlen : ys.length ≤ sizeLine := by
          have : ys.length = ds.length := by rw [← e1.length, List.length_mergeSort]
          omega
        refine ⟨.ref (s.heap.objs.size + 1), upd H (s.heap.objs.size + 1) (.lst ys), I.laid (t' := s.toks) (fun b u e => PyProof.Rows.sortedAll_old e) (Nat.le_succ _)
          (show ObjOk X.prog X.w _ _ _ (.lst ys) from ⟨hlen, out, e', e2, he'⟩), rfl, k _ _ _ l1 l2 l3⟩
    · cases hz
  · cases hz
end
end Mr
namespace Mr
open PySem PySem.Spec L2 PyProof.Rows
/-! ### ("swap", A[i], B[j]): a tuple whose texts' marks are known -/
def ixS (A : Str) : D → Option Str
  | .int i => if A.length ≤ sizeLine then (atI A.cps.toList i).map fun c => ⟨#[c]⟩ else none
  | _ => none
def mSwp (A B : Str) (m1 m2 : Ev D) : Ev D := fun env st => (m1 env st).bind fun d st => match ixS A d with
  | none => .no
  | some y => (m2 env st).bind fun e st => match ixS B e with
    | none => .no
    | some z => .ok (.tup [.str "swap", .str y, .str z]) st
section
variable {T : Tb} {Wx : WX} {X : Cx} {i1 i2 : Expr} {m1 m2 : Ev D}
theorem raw_strix {A : Around} {E : Value → Shared → Prop} {s : Shared} {value slice : Expr} {z : Str} {i : Int} {c : Nat} {t t' : Tok} {Q : Value → Shared → Prop} {prog : Program} {w : World} (hz : z.length ≤ sizeLine) (he : atI z.cps.toList i = some c)
    (h : Q (.str ⟨#[c]⟩ s.toks) { s with toks := s.toks + 1 }) (hs : subscripted slice false (.str z t) (.int i t') = operate [.str z t, .int i t'] (getItem (.str z t) (.int i t'))) : wpAny (model prog w) A (subscriptTail value slice (.str z t) (.int i t')) Q E s := by
  obtain ⟨j, h1, h2, h3, h4, h5⟩ := L2.atI_get he
  have hl : z.cps.toList.length = z.length := by simp [Str.length]
  rw [hl] at h1 h4 h5
  have hn := line63
  exact tail_any (typeIs_str s z t) slot_str_getitem.lookup (PySem.P.getItem_str (c := c) (by
    have e1 : decide (i < -(2 ^ 63 : Int)) = false := decide_eq_false (by omega)
    have e2 : decide (i ≥ 2 ^ 63) = false := decide_eq_false (by omega)
    rw [e1, e2, Bool.or_false]) (by rw [h1]; simpa using h2) h) hs
theorem ixS_some {A : Str} {d : D} {y : Str} (h : ixS A d = some y) : ∃ i c, d = .int i ∧ A.length ≤ sizeLine ∧ atI A.cps.toList i = some c ∧ y = ⟨#[c]⟩ := by
  cases d with
  | int i =>
    simp only [ixS] at h
    split at h
    · rename_i hl
      simp only [Option.map_eq_some_iff] at h
      obtain ⟨c, h1, h2⟩ := h
      exact ⟨i, c, rfl, hl, h1, h2.symm⟩
    · cases h
  | _ => cases h
theorem so_swap {A B : Str} {j0 j1 j2 x1 : Nat} {p0 p1 p2 q1 q2 pos : Pos} (h1 : SE T Wx X i1 m1) (h2 : SE T Wx X i2 m2) (s1 : PlainIx i1) (s2 : PlainIx i2)
    (hst : starEach [.Constant (.str "swap") j0 p0, .Subscript (.Constant (.str A) j1 p1) i1 q1, .Subscript (.Constant (.str B) j2 p2) i2 q2] X.env =
      [(false, eval (.Constant (.str "swap") j0 p0) X.env), (false, eval (.Subscript (.Constant (.str A) j1 p1) i1 q1) X.env), (false, eval (.Subscript (.Constant (.str B) j2 p2) i2 q2) X.env)] := by rfl) :
    SE T Wx X (.Tuple [.Constant (.str "swap") j0 p0, .Subscript (.Constant (.str A) j1 p1) i1 q1, .Subscript (.Constant (.str B) j2 p2) i2 q2] x1 pos) (mSwp A B m1 m2) := by
  refine ⟨fun pins s σ H Q I q => ?_⟩
  obtain ⟨W, env, st, re, rs, p⟩ := q
  refine wpAny_Tuple_spliced ?_
  rw [hst]
  show wpAny _ _ (spliced ((false, eval (.Constant (.str "swap") j0 p0) X.env) :: (backTo pos [(false, eval (.Subscript (.Constant (.str A) j1 p1) i1 q1) X.env), (false, eval (.Subscript (.Constant (.str B) j2 p2) i2 q2) X.env)]))) _ _ _
  refine Calls.spliced_cons (wpAny_Constant_str ?_)
  show wpAny _ _ (spliced ((false, eval (.Subscript (.Constant (.str A) j1 p1) i1 q1) X.env) :: (backTo pos [(false, eval (.Subscript (.Constant (.str B) j2 p2) i2 q2) X.env)]))) _ _ _
  refine Calls.spliced_cons (Subscript_ (wpAny_Constant_str ?_))
  refine wpAny_with_toks (n := s.toks + 1 + 1) (Nat.le_refl _) (wpAny_mono (h1.run pins _ σ H (fun x H1 => ∃ d st1 W1, W.le W1 ∧ RV X.K W1 d x ∧ RS X.K T W1 st1 H1 ∧ PostG X.K T (fun c d H => Wx c d σ H) W1 (RV X.K) (match ixS A d with
    | none => .no
    | some y => (m2 env st1).bind fun e st => match ixS B e with
      | none => .no
      | some z => .ok (.tup [.str "swap", .str y, .str z]) st : Res D) Q) (I.tok _) ⟨W, env, st, re, rs, PostG.step p fun d st1 W1 x H1 _ l1 r1 rs1 p1 => ⟨d, st1, W1, l1, r1, rs1, p1⟩⟩) (fun v s3 h3 hk => ?_) fun _ _ z _ => z)
  obtain ⟨x, H1, I1, rx, d, st1, W1, l1, r1, rs1, p1⟩ := h3
  cases hy : ixS A d with
  | none => rw [hy] at p1; exact p1.elim
  | some y =>
    rw [hy] at p1
    obtain ⟨i, c, rfl, hl, hc, rfl⟩ := ixS_some hy
    cases r1
    obtain ⟨t', rfl⟩ := rx
    refine raw_strix hl hc ?_ (s1 _ _)
    show wpAny _ _ (spliced ((false, eval (.Subscript (.Constant (.str B) j2 p2) i2 q2) X.env) :: (backTo pos []))) _ _ _
    refine Calls.spliced_cons (Subscript_ (wpAny_Constant_str ?_))
    refine wpAny_with_toks (n := s3.toks + 1 + 1) (Nat.le_refl _) (wpAny_mono (h2.run pins _ σ H1 (fun x H2 => ∃ e st2 W2, W1.le W2 ∧ RV X.K W2 e x ∧ RS X.K T W2 st2 H2 ∧ PostG X.K T (fun c d H => Wx c d σ H) W2 (RV X.K) (match ixS B e with
      | none => .no
      | some z => .ok (.tup [.str "swap", .str ⟨#[c]⟩, .str z]) st2 : Res D) Q) (I1.tok _) ⟨W1, env, st1, re.mono l1, rs1, PostG.step p1 fun e st2 W2 x H2 _ l2 r2 rs2 p2 => ⟨e, st2, W2, l2, r2, rs2, p2⟩⟩) (fun v s5 h5 hk5 => ?_) fun _ _ z _ => z)
    obtain ⟨x2, H2, I2, rx2, e, st2, W2, l2, r2, rs2, p2⟩ := h5
    cases hz : ixS B e with
    | none => rw [hz] at p2; exact p2.elim
    | some z =>
      rw [hz] at p2
      obtain ⟨i', c', rfl, hl', hc', rfl⟩ := ixS_some hz
      cases r2
      obtain ⟨t2, rfl⟩ := rx2
      refine raw_strix hl' hc' ?_ (s2 _ _)
      refine Calls.spliced_nil ?_
      have hf : H2 s5.heap.objs.size = none := I2.hok.fresh (Nat.le_refl _)
      generalize hob : ({ cls := .type "tuple", data := .seq [Value.str "swap" s.toks, .str ⟨#[c]⟩ s3.toks, .str ⟨#[c']⟩ s5.toks].toArray } : Obj) = ob
      have fo : FOk (.frz ob (.tup [.str "swap", .str ⟨#[c]⟩, .str ⟨#[c']⟩])) := by
        refine ⟨(fun ps z => by cases z), fun y z _ => ⟨(fun h => by cases h), fun ob' h => ?_⟩⟩
        cases h
        subst hob
        have a1 : 0 < s3.toks := by omega
        have a2 : 0 < s5.toks := by omega
        have a3 : s3.toks < s5.toks := by omega
        exact ⟨_, s3.toks, s5.toks, _, rfl, rfl, Nat.ne_of_gt a1, Nat.ne_of_gt a2, Nat.ne_of_lt a3⟩
      refine ⟨by show 3 ≤ sizeLine; decide, .ref s5.heap.objs.size, upd H2 s5.heap.objs.size (.frz ob (.tup [.str "swap", .str ⟨#[c]⟩, .str ⟨#[c']⟩])), (I2.tok (s5.toks + 1)).laid (t' := s5.toks + 1) (fun b u e => Heap.get?_push_of_some _ e) (Nat.le_refl _) ?_, rfl, ?_⟩
      · subst hob
        exact ⟨Heap.get?_push_size _ rfl, by show 3 ≤ sizeLine; decide, _, .cons ⟨_, rfl⟩ (.cons ⟨_, rfl⟩ (.cons ⟨_, rfl⟩ .nil)), ⟨_, Heap.get?_push_size _ rfl, rfl, _, rfl⟩⟩
      · exact p2 (W2.addF _ _) _ _ (rs2.le_addF hf) (.tup (.inl (.inr ⟨ob, upd_same⟩)) (.cons (.str _) (.cons (.str _) (.cons (.str _) .nil)))) (rs2.newF hf fo)
/-! ### text.replace(deed[1], deed[2]) -/
def mRepl (ik ip : Nat) : Ev D := fun env st => match env[ik]?, env[ip]? with
  | some (some (.str x)), some (some (.tup [.str w, .str y, .str z])) => if w = "swap" ∧ isSwp y z = true ∧ x.length + (x.length + 1) * z.length ≤ 16777216 then .ok (.str (Txt.replace x y z)) st else .no
  | _, _ => .no
def kRow (o : Obj) : Bool := match o.data with
  | .seq its _ => match its.toList with
    | [.str w _, .str _ _, .str _ _] => decide (w = "swap")
    | _ => false
  | _ => false
def kNoSw (K : PySem.W.Frag) : Bool := K.all fun p => !kRow p.2
theorem lookup_mem {α β : Type} [BEq α] [LawfulBEq α] : ∀ {l : List (α × β)} {a : α} {b : β}, l.lookup a = some b → (a, b) ∈ l
  | [], _, _, h => by cases h
  | (x, y) :: l, a, b, h => by
    rw [List.lookup_cons] at h
    split at h
    · rename_i hb
      have := eq_of_beq hb
      subst this
      cases h
      exact List.mem_cons_self
    · exact List.mem_cons_of_mem _ (lookup_mem h)
theorem raw_ixT {pins : List (Addr × Obj)} {σ : L2.St} {H : Hp} {s : Shared} {i : Nat} {x : Str} {a : Addr} {its : Array Value} {k : Int} {j : Nat} {w : Value} {p1 cp pos : Pos} {Q E : Value → Shared → Prop} (hN : X.N[i]? = some x) (hv : Vis X.env.scope x) (I : Inv X pins σ H s)
    (hσ : σ[i]? = some (some (.ref a))) (hl : IsTup s.heap a its) (h0 : 0 ≤ k) (hfit : k < 2 ^ 63) (hk : k.toNat < its.size) (hx : its[k.toNat]? = some w) (fin : ∀ tk, Q w { s with toks := tk }) (hs : PlainIx (.Constant (.int k) j cp))
    (hd : (x == ("__debug__" : Str)) = false := by decide) (hcd : (x == ("__classdict__" : Str)) = false := by decide) :
    wpAny (model X.prog X.w) X.A (eval (.Subscript (.Name x p1) (.Constant (.int k) j cp) pos) X.env) Q E s := by
  refine Subscript_ (raw_name hN hv I hσ (fun v r => ?_) hd hcd)
  have e : v = Value.ref a := r
  subst e
  refine wpAny_Constant_int ?_
  refine item_tuple (s := { s with toks := s.toks + 1 }) (j := k.toNat) hl (by omega) (by omega) ?_ hx (fin _) (hs _ _)
  unfold seqIndex?
  simp only [if_neg (show ¬ k < 0 by omega)]
  rw [if_pos (by simp only [Bool.and_eq_true, decide_eq_true_eq]; omega)]
theorem none_booked_of {pins : List (Addr × Obj)} {σ : L2.St} {H : Hp} {s : Shared} (I : Inv X pins σ H s) (hK : PySem.W.nsIn X.K cStatics sharingNotToldKey = some none) : NoneBooked s.heap := by
  obtain ⟨mc, ⟨o, es, ep, ho, hd, hk, hf⟩, _⟩ := I.nolimit
  refine ⟨mc, ⟨o, es, ep, ho, hd, hk, hf⟩, ?_⟩
  rw [← hf]
  unfold PySem.W.nsIn at hK
  cases hl : X.K.lookup cStatics with
  | none => rw [hl] at hK; cases hK
  | some o' =>
    have h2 := I.kIn _ _ hl
    rw [ho] at h2
    cases h2
    rw [hl] at hK
    obtain ⟨c1, c2, c3, c4⟩ := o
    cases hd
    simp only at hK
    split at hK
    · cases hK
    · rename_i hn
      unfold nsFind findBy
      simp_all
def kStat (K : PySem.W.Frag) : Bool := match PySem.W.nsIn K cStatics sharingNotToldKey with
  | some none => true
  | _ => false
theorem kStat_ok {K : PySem.W.Frag} (h : kStat K = true) : PySem.W.nsIn K cStatics sharingNotToldKey = some none := by
  unfold kStat at h
  split at h
  · assumption
  · cases h
def kRepl (K : PySem.W.Frag) : Bool := kStat K && kNoSw K
theorem so_repl {ik ip : Nat} {kx px : Str} {j1 j2 : Nat} {p1 p2 p3 c1 c2 q1 q2 apos pos : Pos} (hNk : X.N[ik]? = some kx) (hvk : Vis X.env.scope kx) (hNp : X.N[ip]? = some px) (hvp : Vis X.env.scope px) (hK0 : kRepl X.K = true)
    (hdk : (kx == ("__debug__" : Str)) = false := by decide) (hck : (kx == ("__classdict__" : Str)) = false := by decide) (hdp : (px == ("__debug__" : Str)) = false := by decide) (hcp : (px == ("__classdict__" : Str)) = false := by decide)
    (hst : starEach [.Subscript (.Name px p2) (.Constant (.int 1) j1 c1) q1, .Subscript (.Name px p3) (.Constant (.int 2) j2 c2) q2] X.env =
      [(false, eval (.Subscript (.Name px p2) (.Constant (.int 1) j1 c1) q1) X.env), (false, eval (.Subscript (.Name px p3) (.Constant (.int 2) j2 c2) q2) X.env)] := by rfl)
    (hbase : attributeBase (.Name kx p1) "replace" X.env (eval (.Name kx p1) X.env) = eval (.Name kx p1) X.env := by rfl) (hline : (apos.endLine == pos.line) = true := by rfl) :
    SE T Wx X (.Call (.Attribute (.Name kx p1) "replace" apos) [.Subscript (.Name px p2) (.Constant (.int 1) j1 c1) q1, .Subscript (.Name px p3) (.Constant (.int 2) j2 c2) q2] [] pos) (mRepl ik ip) := by
  have hK1 := hK0
  unfold kRepl at hK1
  rw [Bool.and_eq_true] at hK1
  have hK := kStat_ok hK1.1
  have hKs := hK1.2
  refine ⟨fun pins s σ H Q I q => ?_⟩
  obtain ⟨W, env, st, re, rs, p⟩ := q
  unfold mRepl at p
  split at p
  · rename_i x w y z e1 e2
    split at p
    · rename_i hc
      obtain ⟨rfl, hsw, hb⟩ := hc
      obtain ⟨v1, hx, r1⟩ := re.at_ ik _ e1
      obtain ⟨v2, hp, r2⟩ := re.at_ ip _ e2
      cases r1
      cases r2 with
      | tup hsq rds =>
        rename_i a xs
        have hxs : xs = [.str "swap", .str y, .str z] := by
          cases rds with
          | cons r1 r => cases r with
            | cons r2 r => cases r with
              | cons r3 r => cases r with
                | nil => cases r1; cases r2; cases r3; rfl
        subst hxs
        have htok : ∃ (its : Array Value) (u v : Tok) (w : Value), IsTup s.heap a its ∧ its = #[w, .str y u, .str z v] ∧ u ≠ 0 ∧ v ≠ 0 ∧ u ≠ v := by
          rcases hsq with (h | ⟨o, h⟩) | ⟨o, its, n, g1, g2, g3, g4, g5⟩
          · exact absurd rfl ((rs.ntF _ _ h).2 y z hsw).1
          · obtain ⟨w, u, v, n, t1, t2, t3, t4, t5⟩ := ((rs.ntF _ _ h).2 y z hsw).2 o rfl
            obtain ⟨h5, _⟩ := I.hok a _ (rs.f _ _ h)
            exact ⟨_, u, v, w, ⟨o, h5, t1, n, t2⟩, rfl, t3, t4, t5⟩
          · exfalso
            have hm := List.all_eq_true.mp hKs _ (lookup_mem g1)
            have : kRow o = true := by
              simp only [kRow, g3]
              generalize its.toList = l at g5 ⊢
              cases g5 with
              | cons r1 r => cases r with
                | cons r2 r => cases r with
                  | cons r3 r => cases r with
                    | nil =>
                      obtain ⟨_, rfl⟩ := r1
                      obtain ⟨_, rfl⟩ := r2
                      obtain ⟨_, rfl⟩ := r3
                      show decide (("swap" : Str) = ("swap" : Str)) = true
                      decide
            simp [this] at hm
        obtain ⟨its, u, v, w0, hl, rfl, hu, hv, huv⟩ := htok
        refine PySem.Call_method2 hbase hst hline (raw_name hNk hvk I hx (fun v r => ?_) hdk hck)
        obtain ⟨tx, e⟩ := r
        subst e
        refine ⟨"str", _, F.plainAttrs_str, F.slot_str_replace, F.type_str_replace, typeIs_str _ _ _, (fun _ e => nomatch e), Calls.callWith_builtin rfl (Calls.evalArgs_plain (Calls.spliced_cons ?_))⟩
        refine raw_ixT hNp hvp I hp hl (by omega) (by omega) (by show 1 < 3; decide) rfl (fun k1 => ?_) (fun _ _ => rfl) hdp hcp
        refine Calls.spliced_cons (raw_ixT hNp hvp (I.tok k1) hp hl (by omega) (by omega) (by show 2 < 3; decide) rfl (fun k2 => ?_) (fun _ _ => rfl) hdp hcp)
        refine Calls.spliced_nil ?_
        exact PySem.SC.replaceA hu hv huv hb (fun t' k => ⟨.str (Txt.replace x y z), H, I.tok k, ⟨t', rfl⟩, p W _ H (Wd.le.refl _) (.str _) rs⟩) (none_booked_of (I.tok k2) hK)
    · exact p.elim
  · exact p.elim
/-! ### ("swap", "a", "b") written -/
def mSwpC (A B : Str) : Ev D := fun _ st => .ok (.tup [.str "swap", .str A, .str B]) st
theorem so_swapC {A B : Str} {j0 j1 j2 x1 : Nat} {p0 p1 p2 pos : Pos}
    (hst : starEach [.Constant (.str "swap") j0 p0, .Constant (.str A) j1 p1, .Constant (.str B) j2 p2] X.env =
      [(false, eval (.Constant (.str "swap") j0 p0) X.env), (false, eval (.Constant (.str A) j1 p1) X.env), (false, eval (.Constant (.str B) j2 p2) X.env)] := by rfl) :
    SE T Wx X (.Tuple [.Constant (.str "swap") j0 p0, .Constant (.str A) j1 p1, .Constant (.str B) j2 p2] x1 pos) (mSwpC A B) := by
  refine ⟨fun pins s σ H Q I q => ?_⟩
  obtain ⟨W, env, st, re, rs, p⟩ := q
  refine wpAny_Tuple_spliced ?_
  rw [hst]
  show wpAny _ _ (spliced ((false, eval (.Constant (.str "swap") j0 p0) X.env) :: (backTo pos [(false, eval (.Constant (.str A) j1 p1) X.env), (false, eval (.Constant (.str B) j2 p2) X.env)]))) _ _ _
  refine Calls.spliced_cons (wpAny_Constant_str ?_)
  show wpAny _ _ (spliced ((false, eval (.Constant (.str A) j1 p1) X.env) :: (backTo pos [(false, eval (.Constant (.str B) j2 p2) X.env)]))) _ _ _
  refine Calls.spliced_cons (wpAny_Constant_str ?_)
  show wpAny _ _ (spliced ((false, eval (.Constant (.str B) j2 p2) X.env) :: (backTo pos []))) _ _ _
  refine Calls.spliced_cons (wpAny_Constant_str ?_)
  refine Calls.spliced_nil ?_
  have hf : H s.heap.objs.size = none := I.hok.fresh (Nat.le_refl _)
  generalize hob : ({ cls := .type "tuple", data := .seq [Value.str "swap" s.toks, .str A (s.toks + 1), .str B (s.toks + 1 + 1)].toArray } : Obj) = ob
  have fo : FOk (.frz ob (.tup [.str "swap", .str A, .str B])) := by
    refine ⟨(fun ps z => by cases z), fun y z _ => ⟨(fun h => by cases h), fun ob' h => ?_⟩⟩
    cases h
    subst hob
    have a1 : 0 < s.toks + 1 := by omega
    have a2 : 0 < s.toks + 1 + 1 := by omega
    have a3 : s.toks + 1 < s.toks + 1 + 1 := by omega
    exact ⟨_, s.toks + 1, s.toks + 1 + 1, _, rfl, rfl, Nat.ne_of_gt a1, Nat.ne_of_gt a2, Nat.ne_of_lt a3⟩
  refine ⟨by show 3 ≤ sizeLine; decide, .ref s.heap.objs.size, upd H s.heap.objs.size (.frz ob (.tup [.str "swap", .str A, .str B])), (I.tok (s.toks + 1 + 1 + 1)).laid (t' := s.toks + 1 + 1 + 1) (fun b u e => Heap.get?_push_of_some _ e) (Nat.le_refl _) ?_, rfl, ?_⟩
  · subst hob
    exact ⟨Heap.get?_push_size _ rfl, by show 3 ≤ sizeLine; decide, _, .cons ⟨_, rfl⟩ (.cons ⟨_, rfl⟩ (.cons ⟨_, rfl⟩ .nil)), ⟨_, Heap.get?_push_size _ rfl, rfl, _, rfl⟩⟩
  · exact p (W.addF _ _) _ _ (rs.le_addF hf) (.tup (.inl (.inr ⟨ob, upd_same⟩)) (.cons (.str _) (.cons (.str _) (.cons (.str _) .nil)))) (rs.newF hf fo)
end
/-! ### the head's hook, the statics too -/
def asC (g : Addr → Option Obj) (n : Nat) : List Addr := He.asD g n ++ [cStatics]
def obsY (n : Nat) (fa : List He.Fa) (fn : List He.DefD) (ts : List He.Tab) (tf : List (Str × Option Str)) (ex : PySem.W.Frag → Bool) (g : Addr → Option Obj) : He.AlX := (He.obsT fa fn ts (He.frT g (asC g n)), ex (He.frT g (asC g n)) && He.tabsB g tf (He.frT g (asC g n)))
theorem saysY_of {n : Nat} {fa : List He.Fa} {fn : List He.DefD} {ts : List He.Tab} {tf : List (Str × Option Str)} {ex : PySem.W.Frag → Bool} {w : World} {h : Heap} (e : obsY n fa fn ts tf ex h.get? = He.valX fn ts w) : He.SaysX fa fn ts tf ex w h (He.frT h.get? (asC h.get? n)) := by
  have e1 : He.obsT fa fn ts (He.frT h.get? (asC h.get? n)) = He.valT fn ts w := congrArg (fun z : He.AlX => z.1) e
  have e2 : (ex (He.frT h.get? (asC h.get? n)) && He.tabsB h.get? tf (He.frT h.get? (asC h.get? n))) = true := congrArg (fun z : He.AlX => z.2) e
  obtain ⟨h1, h2⟩ := He.ba e2
  have key : ∀ p ∈ tf, PySem.W.codeHdIn (He.frT h.get? (asC h.get? n)) (He.cT (He.frT h.get? (asC h.get? n)) p).1 (He.cT (He.frT h.get? (asC h.get? n)) p).2 = true ∧ ∃ o, h.get? (He.cT (He.frT h.get? (asC h.get? n)) p).2 = some o ∧ He.emptyTab o = true := fun p hp => by
    obtain ⟨h3, h4⟩ := He.ba (List.all_eq_true.mp h2 p hp)
    refine ⟨h3, ?_⟩
    cases q : h.get? (He.cT (He.frT h.get? (asC h.get? n)) p).2 with
    | none => rw [q] at h4; cases h4
    | some o => rw [q] at h4; exact ⟨o, rfl, h4⟩
  refine ⟨e1, h1, fun p hp => (key p hp).1, fun p hp => ?_, fun p hp => ?_⟩
  · obtain ⟨_, o, q, z⟩ := key p hp
    exact He.frT_none q z
  · obtain ⟨_, o, q, z⟩ := key p hp
    rw [q, He.emptyTab_eq z]
def hookY (n : Nat) (fa : List He.Fa) (fn : List He.DefD) (ts : List He.Tab) (tf : List (Str × Option Str)) (ex : PySem.W.Frag → Bool) : PySem.W.Hook where
  α := He.AlX
  obs := fun s => obsY n fa fn ts tf ex s.heap.get?
  val := fun w => He.valX fn ts w
  says := fun w h => ∃ K : PySem.W.Frag, K.In h ∧ He.SaysX fa fn ts tf ex w h K
  of := fun _ _ e => ⟨_, He.frT_in, saysY_of e⟩
  keeps := fun _ _ _ ⟨K, hK, c⟩ k => ⟨K, PySem.W.Frag.In.keeps hK k, ⟨c.t, c.more, c.hd, c.out, fun p hp => k _ _ (c.empty p hp)⟩⟩
theorem obsY_eq {n : Nat} {fa : List He.Fa} {fn : List He.DefD} {ts : List He.Tab} {tf : List (Str × Option Str)} {ex : PySem.W.Frag → Bool} {g : Addr → Option Obj} {s : Shared} (h : ∀ a, g a = s.heap.get? a) : obsY n fa fn ts tf ex g = (hookY n fa fn ts tf ex).obs s := by
  have e : g = s.heap.get? := funext h
  rw [e] <;> rfl
end Mr
namespace Mr
open PySem PySem.Spec L2
/-! ### enumerate(text) -/
def IteS (x : Str) : It :=
  ⟨fun i _ => ∃ c, x.cps[i]? = some c, fun i H v H' => ∃ T c, v = .ref T ∧ H T = none ∧ H' = upd H T (.tup [.int (i : Nat), .str ⟨#[c]⟩]) ∧ x.cps[i]? = some c, fun i _ => x.cps.size ≤ i⟩
theorem draws_str {prog : Program} {w : World} {A : Around} (hh : A.handled = none) (it : Addr) (x : Str) (t : Tok) :
    Draws prog w A it [it] x.cps.size (fun i v => ∃ c u, x.cps[i]? = some c ∧ v = .str ⟨#[c]⟩ u) (fun i h => h.IsStrIter it (strIterType x) x t i) := by
  unfold strIterType
  cases x.cps.all (· < 128)
  · exact Draws.strWide hh it x t
  · exact Draws.strAscii hh it x t
theorem enumS_end {prog : Program} {w : World} {A : Around} {E : Value → Shared → Prop} {s : Shared} {e it : Addr} {x : Str} {t : Tok} {k : Nat} {i : Int} {old : Value} {Q : Option Value → Shared → Prop} (hh : A.handled = none)
    (he : IsEnum s.heap e it i old) (hst : s.heap.IsStrIter it (strIterType x) x t k) (hk : x.cps.size ≤ k)
    (hQ : ∀ h', Heap.ExtBut it s.heap h' → Q none { s with heap := h' }) : wpAny (model prog w) A (pyNext (.ref e)) Q E s := by
  have hT : s.TypeIs (.ref e) "enumerate" := ⟨_, he, rfl⟩
  unfold pyNext
  refine wpAny_bind (wpAny_attempt (wpAny_callSpecial?_slot (name := Str.ofString "__next__") hT F.slot_enumerate_next
    (wpAny_call_entry F.slot_enumerate_next hT F.entry_enumerate_next ?_ (F.args_enumerate_next_1 _))))
  show wpAny _ _ (field (.ref e) 2 >>= _) _ _ _
  refine wpAny_bind (wpAny_field he rfl (x := .ref it) rfl ?_)
  have hE : ∀ h' y, Heap.ExtBut it s.heap h' → (∃ o, h'.get? y = some o ∧ o.cls = .type "StopIteration") → Q none { s with heap := h' } := fun h' y he' _ => hQ h' he'
  have go : wpAny (model prog w) A.in1 (Builtin.SmallTypes.nextOf (.ref it)) (fun _ _ => False) (fun y s' => ∃ h', s' = { s with heap := h' } ∧ ∃ a, y = .ref a ∧ Heap.ExtBut it s.heap h' ∧ ∃ o, h'.get? a = some o ∧ o.cls = .type "StopIteration") s := by
    unfold strIterType at hst
    cases hx : x.cps.all (· < 128)
    · rw [hx] at hst
      exact wpAny_nextOf_wide_end hh hst (by simp; omega) fun h' a z1 z2 => ⟨h', rfl, a, rfl, z1, z2⟩
    · rw [hx] at hst
      exact wpAny_nextOf_ascii_end hh hst (by simp; omega) fun h' a z1 z2 => ⟨h', rfl, a, rfl, z1, z2⟩
  refine wpAny_bind (wpAny_mono go (fun _ _ z => z.elim) fun y s' z => ?_)
  obtain ⟨h', rfl, a, rfl, z1, o, ho, hc⟩ := z
  refine wpAny_bind (wpAny_isInstance (T := "StopIteration") (b := true) ⟨o, ho, hc⟩ isSubtype_stop ?_)
  exact wpAny_pure (hQ _ z1)
theorem turn_enumS {P : Program} {w : World} {K : PySem.W.Frag} {elts : List Expr} {kk : Nat} {tpos : Pos} (x : Str) (t : Tok) (e it : Addr) :
    Turn P w K (.Tuple elts kk tpos) (IteS x) [e, it] e (fun i h => (∃ old, IsEnum h e it ((i : Nat) : Int) old) ∧ h.IsStrIter it (strIterType x) x t i ∧ e ≠ it) where
  mem := by simp
  obj := fun i h st b hb => by
    obtain ⟨⟨old, he⟩, ⟨o, ho, hc, hd⟩, _⟩ := st
    have e' : b = e ∨ b = it := by simpa using hb
    rcases e' with z | z
    · rw [z]; exact ⟨_, he, fun v q => nomatch q⟩
    · rw [z]; exact ⟨o, ho, fun v q => by rw [hd] at q; cases q⟩
  keep := fun i h h' st k => by
    obtain ⟨⟨old, he⟩, ⟨o, ho, r⟩, hne⟩ := st
    exact ⟨⟨old, k e (by simp) _ he⟩, ⟨o, k it (by simp) _ ho, r⟩, hne⟩
  item := by
    intro X hP hw hK hc i pins s σ H E I hf st hg
    subst hP hw hK
    obtain ⟨⟨old, he⟩, hit, hne⟩ := st
    obtain ⟨c, hcx⟩ := hg
    have hi : i < x.cps.size := (Array.getElem?_eq_some_iff.mp hcx).1
    have hel : e < s.heap.objs.size := Heap.lt_size he
    have hil : it < s.heap.objs.size := by obtain ⟨_, q, _⟩ := hit; exact Heap.lt_size q
    refine wpAny_pyNext_enum_itemD (draws_str (A := X.A.in1) (I.ok.hd hc) it x t) he hit hi hne (by simpa using hne) fun u h' tk hP ho hit' hT hsz hk => ?_
    obtain ⟨c', ut, hc', rfl⟩ := hP
    rw [hcx] at hc'
    cases hc'
    refine ⟨_, rfl, wpAny_letOwnedTupleGo_enum (s := { s with heap := h', toks := tk + 1 }) ho fun h'' he' sb => ?_⟩
    have hT2 : h''.get? s.heap.objs.size = some { cls := .type "tuple", data := .seq #[.int i tk, .str ⟨#[c]⟩ ut] } := (sb.2 _ (Nat.ne_of_gt hel)).trans hT
    have new : ObjOk X.prog X.w (upd H s.heap.objs.size (.tup [.int (i : Nat), .str ⟨#[c]⟩])) h'' s.heap.objs.size (.tup [.int (i : Nat), .str ⟨#[c]⟩]) :=
      ⟨by show 2 ≤ sizeLine; decide, [.int i tk, .str ⟨#[c]⟩ ut], .cons ⟨_, rfl⟩ (.cons ⟨_, rfl⟩ .nil), ⟨_, hT2, rfl, _, rfl⟩⟩
    have I1 : Inv X pins σ (upd H s.heap.objs.size (.tup [.int (i : Nat), .str ⟨#[c]⟩])) { s with heap := h'', toks := tk + 1 } :=
      I.turnedNew (ch := [e, it]) (fun b ob hb q => (sb.2 b (fun z => hb (by simp [z]))).trans (hk b ob (fun z => hb (by simp [z])) (fun z => hb (by simp [z])) q)) hf (Nat.le_refl _) new
    refine ⟨.ref s.heap.objs.size, _, I1, rfl, ⟨_, c, rfl, I.hok.fresh (Nat.le_refl _), rfl, hcx⟩, ⟨⟨.str ⟨#[c]⟩ ut, ?_⟩, ?_, hne⟩, fun b hb => ?_⟩
    · have e1 : ((i + 1 : Nat) : Int) = (i : Int) + 1 := by omega
      rw [e1]; exact he'
    · obtain ⟨o, q, r⟩ := hit'
      exact ⟨o, (sb.2 it (Ne.symm hne)).trans q, r⟩
    · have hb' : b < s.heap.objs.size := by
        have e' : b = e ∨ b = it := by simpa using hb
        rcases e' with z | z
        · rw [z]; exact hel
        · rw [z]; exact hil
      rw [upd_ne (Nat.ne_of_lt hb')]
      exact (hf b hb).1
  done := by
    intro X hP hw hK hc i pins s σ H E I hf st hg
    subst hP hw hK
    obtain ⟨⟨old, he⟩, hit, hne⟩ := st
    obtain ⟨f0, f1, f2, f3, f4, f5⟩ := hf it (by simp)
    exact enumS_end (I.ok.hd hc) he hit hg fun h' eb => ⟨rfl, I.turned (t' := s.toks) (fun b o hb q => eb b o hb q) f0 f1 f3 f4 f5⟩
  self := fun A i s Q E st h => let ⟨⟨_, he⟩, _⟩ := st; wpAny_pyIter_enum he h
def iEnumS (ta : TA) : TI := fun σ H R => ta σ H fun vs H1 => ∃ x, vs = [.str x] ∧ R (IteS x) H1
theorem pi_enumS {X : Cx} {e : Expr} {ta : TA} {p pos tpos : Pos} {elts : List Expr} {kk : Nat} (hg : Gl X "enumerate") (hm : X.mg "enumerate" = none) (ha : PA X [e] ta) (hs : starEach [e] X.env = [(false, eval e X.env)] := by rfl) :
    PI X (.Tuple elts kk tpos) (.Call (.Name "enumerate" p) [e] [] pos) (iEnumS ta) := by
  refine ⟨fun pins s σ H R I h => ?_⟩
  refine PyProof.Rows.Call_ (ld_blt I hg hm PyProof.Rows.boot_enumerate (PyProof.Rows.callWith_type1 (thn (ha.run pos pins s σ H _ I h) fun us s1 ⟨vs, H1, I1, r1, q1⟩ => ?_) hs rfl))
  obtain ⟨x, ex, q⟩ := q1
  subst ex
  cases r1 with
  | cons r rr =>
    cases rr
    obtain ⟨t, rfl⟩ := r
    refine call_enumerate_str fun h' he hit hsz hk => wpAny_pyIter_enum he ?_
    have I2 : Inv X pins σ H1 { s1 with heap := h' } := I1.kept (t' := s1.toks) hk
    refine ⟨s1.heap.objs.size + 1, [s1.heap.objs.size + 1, s1.heap.objs.size], _, _, H1, rfl, I2, turn_enumS x t (s1.heap.objs.size + 1) s1.heap.objs.size, ⟨⟨.none, he⟩, hit, Nat.succ_ne_self _⟩, fun b hb => ?_, q⟩
    have e' : b = s1.heap.objs.size + 1 ∨ b = s1.heap.objs.size := by simpa using hb
    have hle : s1.heap.objs.size ≤ b := by
      rcases e' with z | z
      · rw [z]; exact Nat.le_add_right _ _
      · rw [z]; exact Nat.le_refl _
    exact I1.fpOk hle (I1.hok.fresh hle)
def srcES (_ : Store) : List D → Option Src
  | [.str x] => some ⟨enumD 0 (chrs x), yes⟩
  | _ => none
section
variable {T : Tb} {Wx : WX} {X : Cx} {a : Expr} {ms : Ev (List D)} {p2 pos tpos : Pos}
theorem si_enumS {elts : List Expr} {kk : Nat} (hg : Gl X "enumerate") (hm : X.mg "enumerate" = none) (ha : SA T Wx X [a] ms) (hs : starEach [a] X.env = [(false, eval a X.env)] := by rfl) :
    SI T Wx X (.Tuple elts kk tpos) (.Call (.Name "enumerate" p2) [a] [] pos) (mIA srcES ms) := PI.imp (pi_enumS hg hm ha hs) fun σ H Q q => by
  obtain ⟨W, env, st, re, rs, p⟩ := q
  refine ⟨W, env, st, re, rs, PostG.step p fun ds st1 W1 xs H1 _ l1 r1 rs1 p1 => ?_⟩
  cases hz : srcES st1 ds with
  | none => simp only [hz] at p1; exact p1.elim
  | some z =>
    simp only [hz] at p1
    have hx : ∃ x, ds = [.str x] ∧ z = ⟨enumD 0 (chrs x), yes⟩ := by
      unfold srcES at hz
      split at hz
      · exact ⟨_, rfl, (Option.some.inj hz).symm⟩
      · cases hz
    obtain ⟨x, rfl, rfl⟩ := hx
    · obtain ⟨v, rfl, r0⟩ := r1.one
      cases r0
      refine ⟨x, rfl, p1 W1 _ H1 (Wd.le.refl _) (fun W2 st2 H2 l2 rs2 hk => ⟨fun i hi => ?_, fun i d' hd => ?_⟩) rs1⟩
      · have hi : (enumD 0 (chrs x)).length ≤ i := hi
        rw [enumD_length] at hi
        have e : (chrs x).length = x.cps.size := by simp [chrs]
        rw [e] at hi
        exact hi
      · obtain ⟨e, he, rfl⟩ := enumD_get 0 i (chrs x) d' hd
        simp only [chrs, List.getElem?_map, Option.map_eq_some_iff, Array.getElem?_toList] at he
        obtain ⟨c, hc, rfl⟩ := he
        refine ⟨⟨c, hc⟩, fun v H' y => ?_⟩
        obtain ⟨Tt, c', rfl, hT, rfl, hc'⟩ := y
        rw [hc] at hc'
        cases hc'
        rw [Nat.zero_add]
        obtain ⟨g1, g2, g3⟩ := new_tup rs2 hT (ds := [.int ((i : Nat) : Int), .str ⟨#[c]⟩]) (xs := [.int ((i : Nat) : Int), .str ⟨#[c]⟩]) (.cons (.int _) (.cons (.str _) .nil)) rfl
        exact ⟨_, g1, g2, g3⟩
end
end Mr
namespace Mr
open PySem PySem.Spec L2
/-! ### texts as lists of signs -/
abbrev sS (l : List Nat) : Str := ⟨l.toArray⟩
theorem sS_tl (l : List Nat) : TL.tl (sS l) = l := rfl
theorem tl_sS (x : Str) : sS (TL.tl x) = x := SX.S_tl x
theorem sS_len (l : List Nat) : (sS l).length = l.length := SX.S_len l
theorem sS_cat (a b : List Nat) : sS a ++ sS b = sS (a ++ b) := SX.S_cat a b
def swp1 (a b c : Nat) : Nat := if c = a then b else c
theorem repl_one (a b : Nat) : ∀ l : List Nat, StrLaws.replL [a] [b] l = l.map (swp1 a b)
  | [] => StrLaws.replL_nil
  | c :: r => by
    have ih := repl_one a b r
    by_cases h : c = a
    · subst h
      rw [StrLaws.replL_hit (by simp) (by simp)]
      show [b] ++ StrLaws.replL [c] [b] r = _
      rw [ih, List.map_cons]
      unfold swp1
      rw [if_pos rfl]
      rfl
    · rw [StrLaws.replL_miss (by simp [h]), ih, List.map_cons]
      unfold swp1
      rw [if_neg h]
theorem replace_map (a b : Nat) (l : List Nat) : Txt.replace (sS l) ⟨#[a]⟩ ⟨#[b]⟩ = sS (l.map (swp1 a b)) := by
  refine TL.ext_tl ?_
  have e := StrLaws.replace_list (x := sS l) (y := ⟨#[a]⟩) (z := ⟨#[b]⟩) (Nat.le_refl 1)
  exact e.trans (repl_one a b l)
theorem joinL_signs : ∀ l : List Nat, TL.joinL [] (l.map fun c => [c]) = l
  | [] => rfl
  | [c] => rfl
  | c :: d :: r => by
    have ih := joinL_signs (d :: r)
    rw [List.map_cons, List.map_cons]
    rw [List.map_cons] at ih
    show [c] ++ ([] ++ TL.joinL [] ([d] :: r.map fun c => [c])) = _
    rw [ih]
    rfl
theorem join_signs (l : List Nat) : Txt.join "" (l.map fun c => (⟨#[c]⟩ : Str)) = sS l := by
  have e := SX.join_S [] (l.map fun c => [c])
  rw [List.map_map, joinL_signs] at e
  exact e
theorem up_S {l : List Nat} (h : ∀ c ∈ l, c < 128) : Txt.upper (sS l) = sS (l.map PyProof.Rows.up1) := by
  rw [PyProof.Rows.upper_ascii (x := sS l) h]
  simp [sS]
theorem lo_S {l : List Nat} (h : ∀ c ∈ l, c < 128) : Txt.lower (sS l) = sS (l.map PyProof.Rows.lo1) := by
  rw [PyProof.Rows.lower_ascii (x := sS l) h]
  simp [sS]
theorem fold_rep (a : Array Nat) : ∀ (n : Nat) (acc : Array Nat), ((List.replicate n a).foldl (· ++ ·) acc).toList = acc.toList ++ (List.replicate n a.toList).flatten
  | 0, acc => by simp
  | n + 1, acc => by
    rw [List.replicate_succ, List.foldl_cons, fold_rep a n, List.replicate_succ, List.flatten_cons, Array.toList_append, List.append_assoc]
theorem mul_sign (c : Nat) (n : Nat) : Txt.mul ⟨#[c]⟩ (n : Int) = sS (List.replicate n c) := by
  refine TL.ext_tl ?_
  unfold Txt.mul
  by_cases h0 : (n : Int) < 1
  · rw [if_pos h0]
    have : n = 0 := by omega
    subst this
    rfl
  · rw [if_neg h0]
    by_cases h1 : n = 1
    · subst h1
      rfl
    · rw [if_neg (by
        have e : ((n : Int) == 1) = false := by rw [beq_eq_false_iff_ne]; omega
        rw [e]
        show ¬ (false || ((1 : Nat) == 0)) = true
        decide)]
      show ((List.replicate (n : Int).toNat #[c]).foldl (· ++ ·) #[]).toList = List.replicate n c
      rw [fold_rep, Int.toNat_natCast]
      show [] ++ (List.replicate n [c]).flatten = _
      rw [List.nil_append]
      clear h0 h1
      induction n with
      | zero => rfl
      | succ n ih => rw [List.replicate_succ, List.flatten_cons, ih]; rfl
end Mr
namespace Mr
open PySem PySem.Spec L2
/-! ### list(text) -/
def cListS (_ : Store) : List D → Option D
  | [.str x] => if x.length ≤ 1000000 then some (.lst (chrs x)) else none
  | _ => none
section
variable {T : Tb} {X : Cx}
theorem c_listS (hc : X.calm = true) : CallR X (.type "list") (rC X.K T cListS) := by
  intro pins s σ H xs us Q I r q
  obtain ⟨W, st, ds, z, r1, rs, hz, k⟩ := q
  have hx : ∃ x, ds = [.str x] ∧ x.length ≤ 1000000 ∧ z = .lst (chrs x) := by
    unfold cListS at hz
    split at hz
    · rename_i x
      split at hz
      · rename_i hl
        exact ⟨x, rfl, hl, (Option.some.inj hz).symm⟩
      · cases hz
    · cases hz
  obtain ⟨x, rfl, hl, rfl⟩ := hx
  obtain ⟨v, rfl, r0⟩ := r1.one
  cases r0
  obtain ⟨u, eu, rx⟩ := vals1 r
  subst eu
  obtain ⟨t, rfl⟩ := rx
  have hsz : x.cps.size ≤ sizeLine := by
    have : x.cps.size = x.length := rfl
    rw [this, sizeLine_eq]; omega
  refine call_list_str (I.ok.hd hc) x t (fun h' tk acc c' hk e hi => ?_) hsz
  have hf : H s.heap.objs.size = none := I.hok.fresh (Nat.le_refl _)
  have hr : RVs X.K W (chrs x) (x.cps.toList.map fun c => V.str ⟨#[c]⟩) := by
    have := RDs.strs (K := X.K) (F := W.F) (ρ := W.rh) (x.cps.toList.map fun c => (⟨#[c]⟩ : Str))
    rw [List.map_map, List.map_map] at this
    exact this
  obtain ⟨l1, l2, l3⟩ := new_lst rs hf hr
  refine ⟨.ref s.heap.objs.size, upd H s.heap.objs.size (.lst (x.cps.toList.map fun c => V.str ⟨#[c]⟩)), I.laid (t' := tk) hk (Nat.le_refl _) (show ObjOk X.prog X.w _ _ _ (.lst (x.cps.toList.map fun c => V.str ⟨#[c]⟩)) from ⟨by rw [List.length_map, Array.length_toList]; exact hsz, acc.toList, c', ?_, by rw [Array.toArray_toList]; exact e⟩), rfl, k _ _ _ l1 l2 l3⟩
  refine vals_of_idx _ _ (by rw [List.length_map, Array.length_toList, Array.length_toList]; exact hi.1) fun j u hj => ?_
  obtain ⟨c, t', hc, rfl⟩ := hi.2 j u (by rw [← Array.getElem?_toList]; exact hj)
  exact ⟨.str ⟨#[c]⟩, by simp [hc], ⟨_, rfl⟩⟩
end
end Mr
namespace Mr
open PySem PySem.Spec L2
/-! ### d.get(k, x); dicts compared -/
def mGetD (mo mk mx : Ev D) : Ev D := fun env st => (mo env st).bind fun d st => match asDc st d with
  | none => .no
  | some _ => (mk env st).bind fun k st => (mx env st).bind fun z st => match asDc st d, kyD k with
    | some q, some k => .ok ((valP q.1 q.2 k).getD z) st
    | _, _ => .no
section
variable {K : PySem.W.Frag} {T : Tb} {Wx : WX} {X : Cx} {W : Wd} {st : Store} {H : Hp}
theorem so_getD {o e f : Expr} {mo mk mx : Ev D} {apos cpos : Pos} (hu : X.A.units + 1 < cLine) (ho : SE T Wx X o mo) (he : SE T Wx X e mk) (hf : SE T Wx X f mx)
    (m : M2 X o "get" apos e f cpos := by exact ⟨rfl, rfl, rfl, rfl⟩) : SE T Wx X (.Call (.Attribute o "get" apos) [e, f] [] cpos) (mGetD mo mk mx) :=
  PE.imp (pe_dget2 hu ho he hf m) fun σ H Q q => by
    obtain ⟨W, env, st, re, rs, p⟩ := q
    refine ⟨W, env, st, re, rs, PostG.step p fun d st1 W1 x H1 _ l1 r1 rs1 p1 => ?_⟩
    cases hd : asDc st1 d with
    | none => simp only [hd] at p1; exact p1.elim
    | some q0 =>
      obtain ⟨ks0, ds0⟩ := q0
      simp only [hd] at p1
      obtain ⟨a, xs0, rfl, g1, g2, g3⟩ := asDc_ok rs1 r1 hd
      refine ⟨a, rfl, .inl ⟨_, g1⟩, ?_⟩
      refine ⟨W1, env, st1, re.mono l1, rs1, PostG.step p1 fun k st2 W2 y H2 eq2 l2 r2 rs2 p2 => ?_⟩
      clear eq2
      refine ⟨W2, env, st2, (re.mono l1).mono l2, rs2, PostG.step p2 fun z st3 W3 w H3 eq3 l3 r3 rs3 p3 => ?_⟩
      clear eq3
      split at p3
      · rename_i q3 k3 h1 h2
        obtain ⟨ks, ds⟩ := q3
        obtain ⟨a', xs, ea, f1, f2, f3⟩ := asDc_ok rs3 ((r1.mono l2).mono l3) h1
        cases ea
        obtain rfl := kyD_ok (r2.mono l3) h2
        refine ⟨_, .inl ⟨_, _, f1, rfl, rfl⟩, ?_⟩
        cases hv : valP ks ds k3 with
        | none =>
          rw [valP_no f3 f2 hv]
          rw [hv] at p3
          exact p3 W3 w H3 (Wd.le.refl _) r3 rs3
        | some v =>
          obtain ⟨v', h3, h4⟩ := valP_ok f3 hv
          rw [h3]
          rw [hv] at p3
          exact p3 W3 v' H3 (Wd.le.refl _) h4 rs3
      · exact p3.elim
def asDu (st : Store) : D → Option (List Key × List D)
  | .dct ks ds => some (ks, ds)
  | .ref n => match st[n]? with
    | some (.dct ks ds) => some (ks, ds)
    | _ => none
  | _ => none
theorem asDu_ok {d : D} {v : V} {ks : List Key} {ds : List D} (rs : RS K T W st H) (r : RV K W d v) (e : asDu st d = some (ks, ds)) : ∃ a xs, v = .ref a ∧ H a = some (.dK (ks.zip xs)) ∧ ks.length = xs.length ∧ RVs K W ds xs := by
  cases r with
  | dct h l q => cases e; exact ⟨_, _, rfl, rs.f _ _ h, l, q⟩
  | ref h =>
    simp only [asDu] at e
    split at e
    · rename_i ks' ds' hs
      cases e
      obtain ⟨xs, h1, h2, h3⟩ := rs.cell _ _ _ hs h
      exact ⟨_, xs, rfl, h1, h2, h3⟩
    · cases e
  | _ => cases e
/-- the same plain value -/
def sameF : D → D → Bool
  | .int i, .int j => decide (i = j)
  | .str x, .str y => decide (x = y)
  | .bl x, .bl y => decide (x = y)
  | .non, .non => true
  | _, _ => false
theorem sameF_ok {F : Hp} {rh : List Addr} {d e : D} {v u : V} (h : sameF d e = true) (r1 : RD K F rh d v) (r2 : RD K F rh e u) : u = v ∧ flatB v = true := by
  cases r1 <;> cases r2 <;> simp only [sameF, Bool.false_eq_true, decide_eq_true_eq] at h <;> first | (subst h; exact ⟨rfl, rfl⟩) | exact ⟨rfl, rfl⟩
def hitsD (ls : List Key) (es : List D) : List Key → List D → Bool
  | k :: ks, d :: ds => (match valP ls es k with | some e => sameF d e | none => false) && hitsD ls es ks ds
  | _, _ => true
theorem hitsD_ok {F : Hp} {rh : List Addr} {ls : List Key} {es : List D} {ys : List V} (re : RDs K F rh es ys) : ∀ {ks : List Key} {ds : List D} {xs : List V}, RDs K F rh ds xs → hitsD ls es ks ds = true → ∀ p ∈ ks.zip xs, valV (ls.zip ys) p.1 = some p.2 ∧ flatB p.2 = true
  | [], _, _, _, _, p, hp => by simp at hp
  | _ :: _, _, _, .nil, _, p, hp => by simp at hp
  | k :: ks, _, _, .cons (v := v) r1 r2, h, p, hp => by
    simp only [hitsD, Bool.and_eq_true] at h
    rw [List.zip_cons_cons, List.mem_cons] at hp
    rcases hp with rfl | hp
    · split at h
      · rename_i e he
        obtain ⟨u, h1, h2⟩ := valP_ok re he
        obtain ⟨rfl, h3⟩ := sameF_ok h.1 r1 h2
        exact ⟨h1, h3⟩
      · simp at h
    · exact hitsD_ok re r2 h.2 p hp
/-- dicts that are equal -/
def eqDu (st : Store) (d e : D) : Bool := match asDu st d, asDu st e with
  | some (ks, ds), some (ls, es) => decide (ks.length = ls.length) && hitsD ls es ks ds
  | _, _ => false
def gEqDA (st : Store) (d e : D) : Option D := if eqDu st d e = true then some (.bl true) else none
def gNeDA (st : Store) (d e : D) : Option D := if eqDu st d e = true then some (.bl false) else none
theorem eqDu_ok {d e : D} {v u : V} (rs : RS K T W st H) (r1 : RV K W d v) (r2 : RV K W e u) (h : eqDu st d e = true) : ∃ a b ks ls, v = .ref a ∧ u = .ref b ∧ H a = some (.dK ks) ∧ H b = some (.dK ls) ∧ ks.length = ls.length ∧ ∀ p ∈ ks, valV ls p.1 = some p.2 ∧ flatB p.2 = true := by
  unfold eqDu at h
  split at h
  · rename_i ks ds ls es h1 h2
    simp only [Bool.and_eq_true, decide_eq_true_eq] at h
    obtain ⟨a, xs, rfl, a1, a2, a3⟩ := asDu_ok rs r1 h1
    obtain ⟨b, ys, rfl, b1, b2, b3⟩ := asDu_ok rs r2 h2
    refine ⟨a, b, _, _, rfl, rfl, a1, b1, ?_, hitsD_ok b3 a3 h.2⟩
    rw [List.length_zip, List.length_zip, ← a2, ← b2, Nat.min_self, Nat.min_self]
    exact h.1
  · cases h
theorem o_eqDA (hu : X.A.units < cLine) : OpR X (compareOp .Eq) (rO X.K T gEqDA) := by
  intro pins s σ H x y v u Q I rx ry q
  obtain ⟨W, st, d, e, z, r1, r2, rs, hz, k⟩ := q
  unfold gEqDA at hz
  split at hz
  · rename_i h
    cases hz
    obtain ⟨a, b, ks, ls, h1, h2, h3, h4, h5, h6⟩ := eqDu_ok rs r1 r2 h
    exact op_eq_dictA hu pins s σ H x y v u Q I rx ry ⟨a, b, ks, ls, h1, h2, h3, h4, h5, h6, k W _ H (Wd.le.refl _) (.bl _) rs⟩
  · cases hz
theorem o_neDA (hu : X.A.units < cLine) : OpR X (compareOp .NotEq) (rO X.K T gNeDA) := by
  intro pins s σ H x y v u Q I rx ry q
  obtain ⟨W, st, d, e, z, r1, r2, rs, hz, k⟩ := q
  unfold gNeDA at hz
  split at hz
  · rename_i h
    cases hz
    obtain ⟨a, b, ks, ls, h1, h2, h3, h4, h5, h6⟩ := eqDu_ok rs r1 r2 h
    exact op_ne_dictA hu pins s σ H x y v u Q I rx ry ⟨a, b, ks, ls, h1, h2, h3, h4, h5, h6, k W _ H (Wd.le.refl _) (.bl _) rs⟩
  · cases hz
/-! ### for k in d: a statement while a dict is locked -/
def sLockK (ma : Ev D) (m : Sv) : Sv := fun env st => match ma env st with
  | .ok (.ref n) _ => match st[n]? with
    | some (.dct ks ds) => match m env (st.set n (.dcf ks ds)) with
      | .ok z st2 => match st2[n]? with
        | some (.dcf ks' ds') => .ok z (st2.set n (.dct ks' ds'))
        | _ => .no
      | _ => .no
    | _ => .no
  | _ => .no
theorem RE.unl {a : Addr} {ob : Obj} {kvs : List (Key × V)} {env : Env'} {σ : St} (hF : W.F a = some (.frz ob (.dK kvs))) (r : RE K W env σ) : RE K (W.unlock a) env σ :=
  ⟨r.len, fun i d e => let ⟨v, h1, h2⟩ := r.at_ i d e; ⟨v, h1, RD.unl hF h2⟩⟩
theorem ss_lockK {s : Stmt} {ma : Ev D} {m : Sv} (h : SS T Wx X s m) : SS T Wx X s (sLockK ma m) := PS.imp (ps_lock h) fun D σ H q => by
  obtain ⟨W, env, st, re, rs, p⟩ := q
  unfold sLockK at p
  split at p
  · rename_i n st0 _
    split at p
    · rename_i ks ds hs
      have hlt : n < W.rh.length := by rw [rs.len]; exact (List.getElem?_eq_some_iff.mp hs).1
      have hp : W.rh[n]? = some W.rh[n] := List.getElem?_eq_getElem hlt
      generalize W.rh[n] = a at hp
      obtain ⟨xs, h1, h2, h3⟩ := rs.cell _ _ _ hs hp
      refine ⟨a, .dK (ks.zip xs), h1, trivial, fun od => ?_⟩
      obtain ⟨l1, rs1⟩ := rs.lock hs hp h1 h2 h3 od
      refine ⟨_, env, _, re.mono l1, rs1, ?_⟩
      cases hc : m env (st.set n (.dcf ks ds)) with
      | ok z st2 =>
        simp only [hc] at p
        split at p
        · rename_i ks' ds' hs2
          have key : ∀ {W2 : Wd} {H2 : Hp}, (W.lock a (.frz od (.dK (ks.zip xs)))).le W2 → RS X.K T W2 st2 H2 → W2.F a = some (.frz od (.dK (ks.zip xs))) ∧ H2 a = some (.frz od (.dK (ks.zip xs))) ∧ W.le (W2.unlock a) ∧ RS X.K T (W2.unlock a) (st2.set n (.dct ks' ds')) (upd H2 a (.dK (ks.zip xs))) := fun {W2 H2} l2 rs2 => by
            have hF2 : W2.F a = some (.frz od (.dK (ks.zip xs))) := l2.1 _ _ (by show upd _ _ _ _ = _; rw [upd_same])
            have hp2 : W2.rh[n]? = some a := by
              obtain ⟨t, e⟩ := l2.2.1
              exact pre_get e n a hp
            refine ⟨hF2, rs2.f _ _ hF2, ⟨fun b o e => ?_, l2.2.1, l2.2.2⟩, rs2.unlock hF2 hs2 hp2⟩
            have hb : b ≠ a := fun z => by
              have := rs.nf n _ a hs hp
              rw [z] at e
              rw [e] at this
              cases this
            show offF W2.F a b = some o
            rw [offF_ne hb]
            exact l2.1 b o (l1.1 b o e)
          obtain ⟨f, env2⟩ := z
          cases f with
          | nx => exact fun W2 σ2 H2 l2 re2 rs2 => let ⟨k1, k2, k3, k4⟩ := key l2 rs2; ⟨k2, p _ _ _ k3 (RE.unl k1 re2) k4⟩
          | rt d => exact fun W2 v H2 l2 rv rs2 => let ⟨k1, k2, k3, k4⟩ := key l2 rs2; ⟨k2, p _ _ _ k3 (RD.unl k1 rv) k4⟩
          | bk => exact fun W2 σ2 H2 l2 re2 rs2 => let ⟨k1, k2, k3, k4⟩ := key l2 rs2; ⟨k2, p _ _ _ k3 (RE.unl k1 re2) k4⟩
          | ct => exact fun W2 σ2 H2 l2 re2 rs2 => let ⟨k1, k2, k3, k4⟩ := key l2 rs2; ⟨k2, p _ _ _ k3 (RE.unl k1 re2) k4⟩
        · exact p.elim
      | ex c st => simp only [hc] at p; exact p.elim
      | no => simp only [hc] at p; exact p.elim
    · exact p.elim
  · exact p.elim
theorem sss_no {b : List Stmt} : SSs T Wx X b sNo := ⟨fun pins s σ H Q I q => by
  obtain ⟨W, env, st, re, rs, p⟩ := q
  exact p.elim⟩
theorem u0 {k : Nat} {A : Around} (hr : Room k A) : A.units < cLine := by have := hr.un; omega
end
end Mr
namespace Mr
open PySem PySem.Spec L2
/-! ### d[a], d[b], .. = x, y, .. -/
def putAllD : List (Ev D × Ev D) → List D → Sv
  | [], [] => fun env st => .ok (.nx, env) st
  | q :: r, d :: ds => fun env st => (q.1 env st).bind fun o st => (q.2 env st).bind fun i st => match o, kyD i with
    | .ref n, some k => match st[n]? with
      | some (.dct ks vs) => if ks.length < 1000000 then putAllD r ds env (st.set n (.dct (putKs ks k) (putVs ks vs k d))) else .no
      | _ => .no
    | _, _ => .no
  | _, _ => fun _ _ => .no
def sParD (m : Ev D) (tgs : List (Ev D × Ev D)) : Sv := fun env st => (m env st).bind fun t st => match t with
  | .tup ds => if ds.length = tgs.length then putAllD tgs ds env st else .no
  | _ => .no
def gsD (K : PySem.W.Frag) (T : Tb) (Wx : WX) : List (Ev D × Ev D) → TGs
  | [] => gNil
  | q :: r => gCons (L2.gSub (tE K T Wx q.1) (tE K T Wx q.2) rSetD) (gsD K T Wx r)
section
variable {K : PySem.W.Frag} {T : Tb} {Wx : WX}
theorem putAll_run {σ : St} {D : Ends} : ∀ {tgs : List (Ev Mr.D × Ev Mr.D)} {ds : List Mr.D} {xs : List V} {W : Wd} {env : Env'} {st : Store} {H : Hp}, RE K W env σ → RVs K W ds xs → RS K T W st H → PostS K T Wx W (putAllD tgs ds env st) D → gsD K T Wx tgs xs σ H D.nx
  | [], [], xs, W, env, st, H, re, r, rs, p => by
    cases r
    exact ⟨rfl, p W σ H (Wd.le.refl W) re rs⟩
  | [], d :: ds, xs, W, env, st, H, re, r, rs, p => p.elim
  | q :: tgs, [], xs, W, env, st, H, re, r, rs, p => p.elim
  | q :: tgs, d :: ds, xs, W, env, st, H, re, r, rs, p => by
    cases r with
    | cons r1 r =>
      refine ⟨_, _, rfl, ?_⟩
      refine ⟨W, env, st, re, rs, PostS.step p fun o st2 W2 w H2 eq1 l2 r2 rs2 p2 => ?_⟩
      clear eq1
      refine ⟨W2, env, st2, re.mono l2, rs2, PostS.step p2 fun i st3 W3 u H3 eq0 l3 r3 rs3 p3 => ?_⟩
      clear eq0
      split at p3
      · rename_i n k hk
        split at p3
        · rename_i ks vs hs
          split at p3
          · rename_i hl
            have r2' := r2.mono l3
            obtain rfl := kyD_ok r3 hk
            cases r2' with
            | ref h =>
              obtain ⟨ys, g1, g2, g3⟩ := rs3.cell _ _ _ hs h
              refine ⟨_, _, rfl, DPut.k g1 (by rw [List.length_zip, ← g2, Nat.min_self, size_eq]; omega), ?_⟩
              rw [put_zip g2]
              have r1' : RV K W3 d _ := RV.mono l3 (RV.mono l2 r1)
              have rs' : RVs K W3 ds _ := RVs.mono l3 (RVs.mono l2 r)
              exact putAll_run ((re.mono l2).mono l3) rs' (rs3.setC (c := .dct (putKs ks k) (putVs ks vs k d)) h ⟨_, rfl, put_len g2, put_ok r1' g3⟩ hs) p3
          · exact p3.elim
        · exact p3.elim
      · exact p3.elim
end
section
variable {T : Tb} {Wx : WX} {X : Cx} {pos : Pos}
theorem sgd_nil : PGs X [] (gsD X.K T Wx []) := pgs_nil
theorem sgd_cons {o i : Expr} {p2 : Pos} {es : List Expr} {mo mi : Ev D} {r : List (Ev D × Ev D)} (hu : X.A.units + 1 < cLine) (ho : SE T Wx X o mo) (hi : SE T Wx X i mi) (h2 : PGs X es (gsD X.K T Wx r))
    (ha : ∀ v, assign (.Subscript o i p2) X.env v = (do
      let ov ← holding [v] (eval o X.env)
      let iv ← holding [v, ov] (eval i X.env)
      standAt p2
      holding [v, ov, iv] (setItem ov iv v)
      release [v, ov, iv] []) := by intro _; rfl)
    (hs : (assignEach (.Subscript o i p2 :: es) X.env).map (·.2) = assign (.Subscript o i p2) X.env :: (assignEach es X.env).map (·.2) := by rfl) : PGs X (.Subscript o i p2 :: es) (gsD X.K T Wx ((mo, mi) :: r)) :=
  pgs_cons (pg_sub ho hi (set_dict hu) ha) h2 hs
theorem ss_parD {es : List Expr} {e : Expr} {k : Nat} {p2 : Pos} {m : Ev D} {tgs : List (Ev D × Ev D)} (hc : X.calm = true) (he : SE T Wx X e m) (hg : PGs X es (gsD X.K T Wx tgs)) (hl : tgs.length = es.length := by rfl)
    (hn : (assignEach es X.env).length = es.length := by rfl) (hst : (assignEach es X.env).findIdx? (·.1) = none := by rfl)
    (hs : swapsWithSole [.Tuple es k p2] e pos.line X.env = pure false := by rfl) (hw : swappedStores [.Tuple es k p2] e X.env = pure none := by rfl)
    (h1 : (assignEach [.Tuple es k p2] X.env).map (·.2) = [assign (.Tuple es k p2) X.env] := by rfl) : SS T Wx X (.Assign [.Tuple es k p2] e pos) (sParD m tgs) :=
  PS.imp (ps_asg he (pg_tup hc hg hn hst) hs hw h1) fun D σ H q => by
    obtain ⟨W, env, st, re, rs, p⟩ := q
    refine ⟨W, env, st, re, rs, PostS.step p fun t st1 W1 x H1 _ l1 r1 rs1 p1 => ?_⟩
    cases t with
    | tup ds =>
      obtain ⟨a, xs, rfl, h1, h2⟩ := asT_ok rs1 r1 rfl
      have p1 : PostS X.K T Wx W1 (if ds.length = tgs.length then putAllD tgs ds env st1 else .no) D := p1
      by_cases hlen : ds.length = tgs.length
      · rw [if_pos hlen] at p1
        exact ⟨a, xs, rfl, h1, by rw [← h2.length, hlen, hl], putAll_run (re.mono l1) h2 rs1 p1⟩
      · rw [if_neg hlen] at p1
        exact p1.elim
    | _ => exact p1.elim
end
end Mr
namespace Mr
open PySem PySem.Spec L2
/-! ### min(rows) of alike data -/
def cMinR (st : Store) : List D → Option D
  | [d] => (asL st d).bind fun xs => match xs with
    | [] => none
    | y :: ys => if (simDs (y :: ys) && likeB (toPys (y :: ys))) = true then some (minDD y ys) else none
  | _ => none
section
variable {K : PySem.W.Frag} {T : Tb} {X : Cx}
theorem c_minR (hc : X.calm = true) (hu : X.A.units + 65 < cLine) : CallR X (.builtin "min") (rC X.K T cMinR) := by
  intro pins s σ H xs us Q I r q
  obtain ⟨W, st, ds, z, r1, rs, hz, k⟩ := q
  unfold cMinR at hz
  split at hz
  · simp only [Option.bind_eq_some_iff] at hz
    obtain ⟨ds, h1, hz⟩ := hz
    cases ds with
    | nil => cases hz
    | cons m ms =>
      simp only at hz
      split at hz
      · rename_i hs
        cases hz
        rw [Bool.and_eq_true] at hs
        obtain ⟨hs, hlk⟩ := hs
        obtain ⟨ha, hd⟩ := likeB_ok hlk
        obtain ⟨v, rfl, r0⟩ := r1.one
        obtain ⟨a, ws, rfl, g1, q1⟩ := asL_ok rs r0 h1
        obtain ⟨u, eu, rx⟩ := vals1 r
        subst eu
        cases rx
        obtain ⟨its, rv, hl, _⟩ := I.list g1
        obtain ⟨as, hr⟩ := Dp.readsAll I _ _ _ (rvs_dp rs hs q1) rv
        have hr' := hr
        simp only [toPys] at hr' ha
        refine PySem.W.min_list_data (x := toPy m) (xs := toPys ms) (as := as) (I.ok.hd hc) hl.isList hr' ha (by simp only [toPys] at hd; omega) (fun i v h' tk bs hv hh hk => ?_)
        rw [toPys_map, ← minDD_py] at hh
        have hv' : its[i]? = some v := by simpa using hv
        obtain ⟨vi, hvi, rvi⟩ := vals_getV rv hv'
        obtain ⟨di, hdi, rdi⟩ := q1.getV hvi
        have hmem : di ∈ m :: ms := List.mem_of_getElem? hdi
        have sdi := simDs_all hs di hmem
        have szi := simDs_all hs (minDD m ms) (minDD_mem ms m)
        obtain ⟨as', hr2⟩ := Dp.reads I _ _ _ (py_ok rs 0 di _ _ (by simp only [py]; exact sim_py sdi) rdi) rvi
        have eq : toPy di = toPy (minDD m ms) := by
          refine (PyProof.Rows.reads_det (h := s.heap) (h' := h') (fun b o e _ => hk b o e) hr2 hh).1.symm
        have : di = minDD m ms := toPy_inj sdi szi eq
        subst this
        exact ⟨vi, H, I.kept hk, rvi, k W _ H (Wd.le.refl _) rdi rs⟩
      · cases hz
  · cases hz
end
end Mr
namespace Mr
open PySem PySem.Spec L2
/-! ### an object of one class or another -/
def mEither (c : Str) (mo m1 m2 : Ev D) : Ev D := fun env st => match mo env st with
  | .ok (.ref i) st1 => match st1[i]? with
    | some (.ins c' _) => if c' = c then m1 env st else m2 env st
    | _ => m2 env st
  | _ => m2 env st
section
variable {T : Tb} {Wx : WX} {X : Cx} {e : Expr} {c : Str} {mo m1 m2 : Ev D}
theorem mEither_or (env : Env') (st : Store) : mEither c mo m1 m2 env st = m1 env st ∨ mEither c mo m1 m2 env st = m2 env st := by
  unfold mEither
  split
  · split
    · split
      · exact .inl rfl
      · exact .inr rfl
    · exact .inr rfl
  · exact .inr rfl
theorem so_either (h1 : SE T Wx X e m1) (h2 : SE T Wx X e m2) : SE T Wx X e (mEither c mo m1 m2) := ⟨fun pins s σ H Q I q => by
  obtain ⟨W, env, st, re, rs, p⟩ := q
  rcases mEither_or (c := c) (mo := mo) (m1 := m1) (m2 := m2) env st with e | e
  · rw [e] at p
    exact h1.run pins s σ H Q I ⟨W, env, st, re, rs, p⟩
  · rw [e] at p
    exact h2.run pins s σ H Q I ⟨W, env, st, re, rs, p⟩⟩
theorem either_1 {env : Env'} {st st1 : Store} {i : Nat} {fs : List (Str × D)} (h : mo env st = .ok (.ref i) st1) (hi : st1[i]? = some (.ins c fs)) : mEither c mo m1 m2 env st = m1 env st := by
  unfold mEither
  simp only [h, hi, if_true]
theorem either_2 {env : Env'} {st st1 : Store} {i : Nat} {c' : Str} {fs : List (Str × D)} (h : mo env st = .ok (.ref i) st1) (hi : st1[i]? = some (.ins c' fs)) (hc : c' ≠ c) : mEither c mo m1 m2 env st = m2 env st := by
  unfold mEither
  simp only [h, hi, if_neg hc]
end
end Mr
namespace Mr
open PySem PySem.Spec L2
/-! ### sorted(xs, key=lambda y: y[i]), y[i] a whole number -/
/-- the lambda y: y[i], called with a tuple -/
theorem lam_ix {prog : Program} {w : World} {A : Around} {s : Shared} {f c' t : Addr} {q y : Str} {params : Arguments} {scope : Scope} {cl : List (Str × Addr)} {pm ctv x : Value} {its : List Value} {i : Nat} {j : Nat} {p1 p2 p4 : Pos} {Q : Value → Shared → Prop} {E : Value → Shared → Prop}
    (hf : s.heap.get? f = some (PySem.W.kla_obj "<lambda>" q params (.Subscript (.Name y p1) (.Constant (.int (i : Int)) j p2) p4) scope cl pm c' ctv))
    (hc : ∃ (oc : Obj) (vs : Array Value) (t : Tok), s.heap.get? c' = some oc ∧ oc.data = .fields vs ∧ vs[1]? = some (.str q t))
    (hbind : bindArgs (PySem.W.kla_fn "<lambda>" q params (.Subscript (.Name y p1) (.Constant (.int (i : Int)) j p2) p4) scope cl pm (.ref c') ctv) ⟨[.ref t], []⟩ = pure [(y, .ref t)])
    (hk : scope.kind = .function) (hco : scope.isCoroutine = false) (hgen : scope.isGenerator = false) (hnc : ∀ x ∈ scope.names, x.2 ≠ .cell) (hl : scope.names.lookup y = some .local) (hd : (y == ("__debug__" : Str)) = false)
    (hroom : A.depth < recursionLimit) (lim : s.heap.NoLimit) (ht : PyProof.Rows.IsTup s.heap t its.toArray) (hx : its[i]? = some x) (hi : i < 1000)
    (h : ∀ h' tk, s.toks ≤ tk → (∀ b o, s.heap.get? b = some o → h'.get? b = some o) → Q x { s with heap := h', toks := tk }) :
    wpAny (model prog w) A (call (.ref f) [.ref t]) Q E s := by
  obtain ⟨oc, vs, tq, hoc, hdc, hvc⟩ := hc
  refine wpAny_call ?_
  refine PySem.W.kla_callFunE hroom hf rfl hco hgen rfl ⟨c', oc, vs, tq, rfl, hoc, hdc, hvc⟩ ?_
  rw [hbind]
  refine wpAny_pure (wpAny_newFunctionEnv hnc (fun x hx => by cases List.mem_singleton.mp hx; exact hl) (fun h₁ hns hsb => ⟨lim.fresh _ hsb, ?_⟩) hk)
  have kp : ∀ b o, s.heap.get? b = some o → h₁.get? b = some o := fun b o e => hsb.extBut b o (Nat.ne_of_lt (Heap.lt_size e)) (Heap.get?_push_of_some _ e)
  refine PySem.W.kla_codeExpr ?_
  refine PyProof.Rows.Subscript_ (wpAny_Name (wpAny_loadName_local hk hl hns (v := .ref t) (by simp) ?_) hd)
  refine wpAny_Constant_int ?_
  have hlt : i < its.length := (List.getElem?_eq_some_iff.mp hx).1
  refine PyProof.Rows.item_tupleL (j := i) (x := x) (ht.keeps kp) (by omega) (by omega) ?_ hx ?_
  · unfold seqIndex?
    have e1 : (if (i : Int) < 0 then (i : Int) + (its.length : Nat) else (i : Int)) = (i : Int) := if_neg (by omega)
    simp only [e1]
    have e2 : (decide (0 ≤ (i : Int)) && decide ((i : Int) < ((its.length : Nat) : Int))) = true := by
      rw [decide_eq_true (by omega), decide_eq_true (by omega)]; rfl
    rw [if_pos e2]
    rfl
  · exact h _ _ (by show s.toks ≤ s.toks + 1 + 1; omega) kp
def keyI (i : Nat) : D → Option Int
  | .tup xs => match xs[i]? with
    | some (.int n) => some n
    | _ => none
  | _ => none
def keyV (i : Nat) (d : D) : Int := (keyI i d).getD 0
def sortI (i : Nat) (ds : List D) : List D := ds.mergeSort (PySem.W.dataLe false fun d => .int (keyV i d))
theorem sortI_perm (i : Nat) (ds : List D) : (sortI i ds).Perm ds := List.mergeSort_perm _ _
theorem sortI_sorted (i : Nat) (ds : List D) : (sortI i ds).Pairwise fun a b => keyV i a ≤ keyV i b := by
  unfold sortI
  rw [PySem.W.dataLe_int]
  refine (List.pairwise_mergeSort (le := fun a b => decide (keyV i a ≤ keyV i b)) (fun a b c h g => ?_) (fun a b => ?_) ds).imp fun h => by simpa using h
  · simp only [decide_eq_true_eq] at h g ⊢; omega
  · simp only [Bool.or_eq_true, decide_eq_true_eq]; omega
def gSortK (i : Nat) (st : Store) (d : D) : Option D := (asL st d).bind fun ds => if (ds.all fun d => (keyI i d).isSome) = true ∧ ds.length ≤ 10000 then some (.lst (sortI i ds)) else none
def mSortK (i : Nat) (m : Ev D) : Ev D := fun env st => (m env st).bind fun d st => Res.of (gSortK i st d) st
section
variable {X : Cx} {T : Tb} {Wx : WX} {a : Expr} {ma : Ev D}
theorem so_sortK {k j i : Nat} {y : Str} {params : Arguments} {scope : Scope} {p lpos kp pos p1 p2 p4 : Pos} {at_ : Str × Option Str} {nme : Str} (tb : TbF X.K X.mg X.base T at_ nme) (hq : X.env.qual ++ "<lambda>" = nme) (hcode : X.env.code = .ref (He.cT X.K at_).1) (hg : Gl X "sorted") (hm : X.mg "sorted" = none) (hr : Room (k + 1) X.A) (hdef : defaultsOf params X.env = ([], []))
    (hbind : ∀ (q : Str) (cl : List (Str × Addr)) (pm cv ctv v : Value), bindArgs (PySem.W.kla_fn "<lambda>" q params (.Subscript (.Name y p1) (.Constant (.int (i : Int)) j p2) p4) scope cl pm cv ctv) ⟨[v], []⟩ = pure [(y, v)])
    (hk : scope.kind = .function) (hco : scope.isCoroutine = false) (hgen : scope.isGenerator = false) (hnc : ∀ x ∈ scope.names, x.2 ≠ .cell) (hnf : ∀ x ∈ scope.names, x.2 ≠ .free) (hl : scope.names.lookup y = some .local) (hd : (y == ("__debug__" : Str)) = false) (hi : i < 1000)
    (ha : SE T Wx X a ma) (he : starEach [a] X.env = [(false, eval a X.env)] := by rfl) :
    SE T Wx X (.Call (.Name "sorted" p) [a] [⟨some "key", .Lambda params (.Subscript (.Name y p1) (.Constant (.int (i : Int)) j p2) p4) scope lpos, kp⟩] pos) (mSortK i ma) := by
  subst hq
  refine ⟨fun pins s σ H Q I h => ?_⟩
  obtain ⟨W, env, st, re, rs, pp⟩ := h
  have hv : bootBuiltins "sorted" = some (.builtin "sorted") := by kernel_rfl
  refine wpAny_Call_Name_kw (ld_blt I hg hm hv ?_ (by decide) (by decide))
  have he2 : backTo pos (starEach [a] X.env) = (false, eval a X.env) :: [] := by rw [he]; rfl
  refine PyProof.Rows.callWith_kw ?_ he2 (by rw [he2]; rfl)
  rw [he2]
  refine Calls.spliced_cons (thn (ha.run pins s σ H (fun x H1 => ∃ W d st z, RV X.K W d x ∧ RS X.K T W st H1 ∧ gSortK i st d = some z ∧ ∀ W' v H', W.le W' → RV X.K W' z v → RS X.K T W' st H' → Q v H') I ⟨W, env, st, re, rs, PostG.step pp fun d st1 W1 x H1 _ l1 r1 rs1 p1 => ?_⟩) fun v s1 ⟨x1, H1, I1, r1, q1⟩ => ?_)
  · cases hz : gSortK i st1 d with
    | none => rw [hz] at p1; exact p1.elim
    | some z => rw [hz] at p1; exact ⟨W1, d, st1, z, r1, rs1, hz, p1⟩
  clear pp
  refine Calls.spliced_nil ?_
  obtain ⟨W, d, st, z, rd, rs, hz, hQ⟩ := q1
  refine PyProof.Rows.kws_cons (LamX.lam_make2 I1 tb.tb hcode tb.mem tb.un rs.tb hdef (fun y hy e => absurd e (hnf y hy)) fun f c' pm' ctv H2 s2 I2 eN T2 hf hfn hfr hco2 => ?_)
  refine PyProof.Rows.kws_nil ?_
  have rs2 := rs.extN eN T2
  unfold gSortK at hz
  simp only [Option.bind_eq_some_iff] at hz
  obtain ⟨ds, e1, hz⟩ := hz
  split at hz
  · rename_i hall
    cases hz
    obtain ⟨hall, hlen⟩ := hall
    obtain ⟨l, ws, rfl, h1, q1⟩ := asL_ok rs2 rd e1
    obtain ⟨its, vv, hL, _⟩ := I2.list h1
    obtain rfl : v = Value.ref l := r1
    obtain ⟨⟨oc, vs, t, hoc, hdc, hvc⟩, _, _⟩ := I2.hok c' _ hco2
    have hsz : ds.length ≤ sizeLine := Nat.le_trans hlen (by rw [sizeLine_eq]; omega)
    refine PySem.W.sorted_key_data (b := false) (R := RDV X.K W) (bs := ds) (fun d => .int (keyV i d)) hL.isList (each_in q1 vv) (PySem.W.AllAlike.of fun _ _ => by simp [PySem.W.alike]) (PySem.W.Sortable.others fun _ => ⟨(by simp), (by simp)⟩) hsz
      (fun d _ => by simp only [PyData.depth]; have := hr.un; omega) (PyProof.Rows.ksk_s1 _ _) (fun _ => PyProof.Rows.ksk_l1 _ _) (fun _ => PyProof.Rows.ksk_t1 _ _) (fun u d hR hd' h tk hkp => ?_) fun out c h' tk hkp hnone hD hlo eo => ?_
    · obtain ⟨xv, rx, rxu⟩ := hR
      obtain ⟨n, hn⟩ := Option.isSome_iff_exists.mp (List.all_eq_true.mp hall d hd')
      have hkv : keyV i d = n := by unfold keyV; rw [hn]; rfl
      unfold keyI at hn
      split at hn
      · rename_i xs
        split at hn
        · rename_i m hxi
          cases hn
          obtain ⟨b, us, rfl, hb, qb⟩ := asT_ok rs2 rx rfl
          obtain ⟨tits, tv, ht, htz⟩ := I2.tuple hb
          obtain rfl : u = Value.ref b := rxu
          obtain ⟨vx, hvx, rvx⟩ := qb.get hxi
          obtain ⟨u2, hu2, ru⟩ := tv.get hvx
          cases rvx
          obtain ⟨t2, rfl⟩ := ru
          have lim2 : h.NoLimit := I2.nolimit.keeps hkp
          refine lam_ix (s := { s2 with heap := h, toks := tk }) (hkp _ _ hf) ⟨oc, vs, t, hkp _ _ hoc, hdc, hvc⟩ (hbind _ _ _ _ _ _) hk hco hgen hnc hl hd (by have := hr.dp; show X.A.depth < _; omega) lim2 (ht.keeps hkp) hu2 hi fun h3 tk3 _ hk3 => ?_
          refine ⟨h3, tk3, rfl, hk3, ?_⟩
          rw [hkv]
          exact .int _ _
        · cases hn
      · cases hn
    · obtain ⟨ys, g1, g2⟩ := each_out eo
      have hfr2 : H2 (s2.heap.objs.size + 1) = none := I2.hok.fresh (Nat.le_succ _)
      obtain ⟨l1, l2, l3⟩ := new_lst rs2 hfr2 g1
      have hly : ys.length ≤ sizeLine := by
        have : ys.length = ds.length := by rw [← g1.length, List.length_mergeSort]
        omega
      refine ⟨.ref (s2.heap.objs.size + 1), upd H2 (s2.heap.objs.size + 1) (.lst ys), I2.laid (t' := tk) hkp (Nat.le_succ _)
        (show ObjOk X.prog X.w _ _ _ (.lst ys) from ⟨hly, out, c, g2, hD⟩), rfl, hQ _ _ _ l1 l2 l3⟩
  · cases hz
end
end Mr
namespace Mr
open PySem PySem.Spec L2
/-! ### d.pop(k, x) -/
def dropKs (ks : List Key) (k : Key) : List Key := ks.filter fun k0 => decide (k0 ≠ k)
def dropVs {α : Type} : List Key → List α → Key → List α
  | k0 :: ks, x :: xs, k => if k0 = k then dropVs ks xs k else x :: dropVs ks xs k
  | _, _, _ => []
theorem drop_zip {α : Type} : ∀ {ks : List Key} {xs : List α} {k : Key}, ks.length = xs.length → (ks.zip xs).filter (fun kv => decide (kv.1 ≠ k)) = (dropKs ks k).zip (dropVs ks xs k) ∧ (dropKs ks k).length = (dropVs ks xs k).length
  | [], [], _, _ => ⟨rfl, rfl⟩
  | [], _ :: _, _, h => by simp at h
  | _ :: _, [], _, h => by simp at h
  | k0 :: ks, x :: xs, k, h => by
    obtain ⟨h1, h2⟩ := drop_zip (ks := ks) (xs := xs) (k := k) (by simpa using h)
    unfold dropKs at *
    rw [List.zip_cons_cons, List.filter_cons, List.filter_cons, dropVs]
    by_cases e : k0 = k
    · simp only [e, ne_eq, not_true_eq_false, decide_false, Bool.false_eq_true, if_false, if_true]
      exact ⟨h1, h2⟩
    · simp only [ne_eq, e, not_false_eq_true, decide_true, if_true, if_false, List.zip_cons_cons, List.length_cons]
      exact ⟨by rw [h1], by rw [h2]⟩
section
variable {K : PySem.W.Frag} {F : Hp} {rh : List Addr}
theorem drop_ok : ∀ {ks : List Key} {ds : List D} {xs : List V} {k : Key}, RDs K F rh ds xs → RDs K F rh (dropVs ks ds k) (dropVs ks xs k)
  | [], _, _, _, _ => .nil
  | _ :: _, _, _, _, .nil => .nil
  | k0 :: ks, _, _, k, .cons r1 r2 => by
    rw [dropVs, dropVs]
    split
    · exact drop_ok r2
    · exact .cons r1 (drop_ok r2)
end
def mPopD (mo mk mx : Ev D) : Ev D := fun env st => (mo env st).bind fun d st => match asDu st d with
  | none => .no
  | some _ => (mk env st).bind fun k st => (mx env st).bind fun z st => match d, kyD k with
    | .ref n, some k => match st[n]? with
      | some (.dct ks ds) => match valP ks ds k with
        | some v => .ok v (st.set n (.dct (dropKs ks k) (dropVs ks ds k)))
        | none => .ok z st
      | _ => .no
    | _, _ => .no
section
variable {K : PySem.W.Frag} {T : Tb} {Wx : WX} {X : Cx} {W : Wd} {st : Store} {H : Hp}
theorem so_popD {o e f : Expr} {mo mk mx : Ev D} {apos cpos : Pos} (ho : SE T Wx X o mo) (he : SE T Wx X e mk) (hf : SE T Wx X f mx)
    (m : M2 X o "pop" apos e f cpos := by exact ⟨rfl, rfl, rfl, rfl⟩) : SE T Wx X (.Call (.Attribute o "pop" apos) [e, f] [] cpos) (mPopD mo mk mx) :=
  PE.imp (pe_dpop2 ho he hf m) fun σ H Q q => by
    obtain ⟨W, env, st, re, rs, p⟩ := q
    refine ⟨W, env, st, re, rs, PostG.step p fun d st1 W1 x H1 eq1 l1 r1 rs1 p1 => ?_⟩
    clear eq1
    cases hd : asDu st1 d with
    | none => simp only [hd] at p1; exact p1.elim
    | some q0 =>
      obtain ⟨ks0, ds0⟩ := q0
      simp only [hd] at p1
      obtain ⟨a, xs0, rfl, g1, g2, g3⟩ := asDu_ok rs1 r1 hd
      refine ⟨a, rfl, .inl ⟨_, .inl g1⟩, ?_⟩
      refine ⟨W1, env, st1, re.mono l1, rs1, PostG.step p1 fun k st2 W2 y H2 eq2 l2 r2 rs2 p2 => ?_⟩
      clear eq2
      refine ⟨W2, env, st2, (re.mono l1).mono l2, rs2, PostG.step p2 fun z st3 W3 w H3 eq3 l3 r3 rs3 p3 => ?_⟩
      clear eq3
      split at p3
      · rename_i n k3 h2
        split at p3
        · rename_i ks ds hs
          have r1' := (r1.mono l2).mono l3
          obtain rfl := kyD_ok (r2.mono l3) h2
          cases r1' with
          | ref h =>
            obtain ⟨xs, f1, f2, f3⟩ := rs3.cell _ _ _ hs h
            refine ⟨_, k3, f1, rfl, fun v hv => ?_, fun hv => ?_⟩
            · split at p3
              · rename_i v0 h0
                obtain ⟨v', h3, h4⟩ := valP_ok f3 h0
                rw [hv] at h3
                cases h3
                have hz := drop_zip (k := k3) f2
                refine p3 W3 v _ (Wd.le.refl _) h4 (rs3.setC h ⟨_, ?_, hz.2, drop_ok f3⟩ hs)
                rw [← hz.1]
                rfl
              · rename_i h0
                rw [valP_no f3 f2 h0] at hv
                cases hv
            · split at p3
              · rename_i v0 h0
                obtain ⟨v', h3, h4⟩ := valP_ok f3 h0
                rw [hv] at h3
                cases h3
              · exact p3 W3 w H3 (Wd.le.refl _) r3 rs3
        · exact p3.elim
      · exact p3.elim
end
/-! ### sorted(d), the keys whole numbers -/
def insI (x : Int) : List Int → List Int
  | [] => [x]
  | y :: r => if y < x then y :: insI x r else x :: y :: r
def sortZ : List Int → List Int
  | [] => []
  | x :: r => insI x (sortZ r)
theorem insI_perm (x : Int) : ∀ l : List Int, (insI x l).Perm (x :: l)
  | [] => .refl _
  | y :: r => by
    unfold insI
    split
    · exact ((insI_perm x r).cons y).trans (.swap ..)
    · exact .refl _
theorem sortZ_perm : ∀ l : List Int, (sortZ l).Perm l
  | [] => .refl _
  | x :: r => (insI_perm x _).trans ((sortZ_perm r).cons x)
theorem insI_sorted (x : Int) : ∀ l : List Int, l.Pairwise (· ≤ ·) → (insI x l).Pairwise (· ≤ ·)
  | [], _ => by simp [insI]
  | y :: r, h => by
    obtain ⟨h1, h2⟩ := List.pairwise_cons.mp h
    unfold insI
    split
    · rename_i hyx
      refine List.pairwise_cons.mpr ⟨fun z hz => ?_, insI_sorted x r h2⟩
      rcases List.mem_cons.mp ((insI_perm x r).mem_iff.mp hz) with rfl | hz
      · omega
      · exact h1 z hz
    · rename_i hyx
      refine List.pairwise_cons.mpr ⟨fun z hz => ?_, h⟩
      rcases List.mem_cons.mp hz with rfl | hz
      · omega
      · have := h1 z hz
        omega
theorem sortZ_sorted : ∀ l : List Int, (sortZ l).Pairwise (· ≤ ·)
  | [] => .nil
  | x :: r => insI_sorted x _ (sortZ_sorted r)
/-- numbers that rise are in one order alone -/
theorem ints_oneZ : ∀ {a b : List Int}, a.Perm b → a.Pairwise (· ≤ ·) → b.Pairwise (· ≤ ·) → a = b
  | [], b, hp, _, _ => by rw [List.nil_perm.mp hp]
  | x :: a, [], hp, _, _ => absurd hp.length_eq (by simp)
  | x :: a, y :: b, hp, ha, hb => by
    rw [List.pairwise_cons] at ha hb
    have e : x = y := by
      rcases List.mem_cons.mp (hp.subset List.mem_cons_self) with e | hx
      · exact e
      · rcases List.mem_cons.mp (hp.symm.subset List.mem_cons_self) with e | hy
        · exact e.symm
        · have h1 := ha.1 y hy
          have h2 := hb.1 x hx
          omega
    subst e
    rw [ints_oneZ (List.perm_cons x |>.mp hp) ha.2 hb.2]
def intK : List Key → Option (List Int)
  | [] => some []
  | .inl x :: r => (intK r).map fun l => x :: l
  | .inr _ :: _ => none
theorem intK_ok : ∀ {ks : List Key} {l : List Int}, intK ks = some l → ks = l.map Sum.inl
  | [], l, h => by cases h; rfl
  | .inl x :: r, l, h => by
    simp only [intK, Option.map_eq_some_iff] at h
    obtain ⟨l', h1, rfl⟩ := h
    rw [intK_ok h1]; rfl
  | .inr _ :: _, l, h => by cases h
theorem intK_map : ∀ l : List Int, intK (l.map Sum.inl) = some l
  | [] => rfl
  | x :: l => by rw [List.map_cons, intK, intK_map l]; rfl
def cSortDI (st : Store) : List D → Option D
  | [d] => (asDc st d).bind fun q => (intK q.1).bind fun l => if l.length < 64 then some (.lst ((sortZ l).map .int)) else none
  | _ => none
section
variable {T : Tb} {X : Cx}
theorem c_sortDI (hc : X.calm = true) : CallR X (.builtin "sorted") (rC X.K T cSortDI) := by
  intro pins s σ H xs us Q I r q
  obtain ⟨W, st, ds, z, r1, rs, hz, k⟩ := q
  unfold cSortDI at hz
  split at hz
  · simp only [Option.bind_eq_some_iff] at hz
    obtain ⟨⟨ks, vs⟩, h1, l, h2, hz⟩ := hz
    split at hz
    · rename_i hl
      cases hz
      obtain ⟨v, rfl, r0⟩ := r1.one
      obtain ⟨a, ys, rfl, g1, g2, g3⟩ := asDc_ok rs r0 h1
      refine call_sortedDI hc pins s σ H _ us Q I r ⟨a, _, l, rfl, g1, by rw [zip_fst g2]; exact intK_ok h2, hl, fun zs p hp hs hn => ?_⟩
      have e : zs = sortZ l := ints_oneZ (hp.trans (sortZ_perm l).symm) hs (sortZ_sorted l)
      subst e
      obtain ⟨l1, l2, l3⟩ := new_lst rs hn (RDs.ints (sortZ l))
      exact k _ _ _ l1 l2 l3
    · cases hz
  · cases hz
end
end Mr
namespace Mr
open PySem PySem.Spec L2
/-! ### xs[:] = ys -/
theorem setItem_whole {prog : Program} {w : World} {A : Around} {E : Value → Shared → Prop} {s : Shared} {l sl a : Addr} {items new : Array Value} {Q : Unit → Shared → Prop} (hl : s.heap.IsList l items) (hs : s.heap.IsSliceOf sl .none .none .none) (ha : s.heap.IsList a new) (hz : items.size + new.size ≤ sizeLine)
    (hQ : ∀ f : Array Value → Array Value, f items = new → Q () { s with heap := s.heap.update l (Obj.mapSeq f) }) : wpAny (model prog w) A (setItem (.ref l) (.ref sl) (.ref a)) Q E s := by
  obtain ⟨o, ho, hc, ne, hd⟩ := id hl
  obtain ⟨oa, hoa, hca, na, hda⟩ := id ha
  obtain ⟨os, hos, hcs, hds⟩ := id hs
  have hTs : s.TypeIs (.ref sl) "slice" := ⟨os, hos, hcs⟩
  unfold setItem
  try with_reducible refine wpAny_holding ?_
  first | refine wpAny_bind (wpAny_pure ?_) | skip
  refine wpAny_bind (wpAny_sequenceKey hl.typeIs (by decide) ?_)
  refine wpAny_bind (wpAny_callSpecial?_slot (name := Str.ofString "__setitem__") hl.typeIs PySem.slot_list_setitem
    (wpAny_call_entry PySem.slot_list_setitem hl.typeIs PySem.entry_list_setitem ?_ (PySem.args_list_setitem _ _ _)))
  show wpAny _ _ (Builtin.List.listSubscript? (.ref sl) >>= _) _ _ s
  unfold Builtin.List.listSubscript?
  refine wpAny_bind (wpAny_bind (wpAny_specialOf hTs slice_no_index ?_))
  simp only [Option.isNone_none, if_true]
  refine wpAny_pure ?_
  show wpAny _ _ (typeOf (.ref sl) >>= _) _ _ s
  refine wpAny_bind (wpAny_typeOf hTs ?_)
  rw [if_neg (by decide)]
  rw [listSliceParts_eq]
  refine wpAny_bind (wpAny_bind (wpAny_field hos hds (x := .none) rfl (wpAny_bind (wpAny_listPart .none ?_))))
  rw [if_neg (by exact Bool.false_ne_true)]
  refine wpAny_bind (wpAny_field hos hds (x := .none) rfl (wpAny_bind (wpAny_listPart .none ?_)))
  refine wpAny_bind (wpAny_field hos hds (x := .none) rfl (wpAny_bind (wpAny_listPart .none (wpAny_pure ?_))))
  have hb : sliceBounds none none none items.size = (0, ((items.size : Nat) : Int), 1) := by simp [sliceBounds]
  have hf : (fun xs : Array Value => xs.extract 0 (0 : Int).toNat ++ new ++ xs.extract (max (0 : Int) ((items.size : Nat) : Int)).toNat) items = new := by
    have e : (max (0 : Int) ((items.size : Nat) : Int)).toNat = items.size := by omega
    simp only [e]
    apply Array.ext'
    simp
  have hd2 : ∀ m : Nat, m ≤ sizeLine → m ≤ sizeLine + 1 := fun m h => Nat.le_succ_of_le h
  have hI : ∀ {b : Addr} {ob : Obj} {xs : Array Value} {n : Nat} {Q' : Array Value → Shared → Prop}, s.heap.get? b = some ob → ob.data = .seq xs n → Q' xs s → wpAny (model prog w) A.in1 (Builtin.List.listItems (.ref b)) Q' E s := fun h1 h2 h3 => by
    unfold Builtin.List.listItems
    exact wpAny_bind (wpAny_seqItems h1 h2 (wpAny_pure h3))
  split
  · refine wpAny_bind (hI hoa hda ?_)
    refine wpAny_bind (hI ho hd ?_)
    refine wpAny_bind (wpAny_of_eq (sliceIndices_raw none none none items.size (by simp)) ?_)
    rw [hb]
    rw [if_pos (by rfl)]
    refine wpAny_bind (wpAny_rule ?_)
    rw [if_neg (by rw [notLongL hz]; decide)]
    refine wpAny_bind (PyProof.Rows.listUpdate_at ho hd ?_ (by omega) (Nat.le_trans (Nat.le_of_eq (congrArg Array.size hf)) (by omega)))
    refine wpAny_bind (wpAny_letGo ?_)
    exact wpAny_pure ⟨_, rfl, wpAny_pure (hQ _ hf)⟩
  · refine wpAny_bind (m := Builtin.List.listAllItems (.ref a) _) ?_
    unfold Builtin.List.listAllItems
    refine wpAny_bind (wpAny_typeOf ha.typeIs ?_)
    rw [if_pos (by decide)]
    refine hI hoa hda ?_
    refine wpAny_bind (hI ho hd ?_)
    refine wpAny_bind (wpAny_of_eq (sliceIndices_raw none none none items.size (by simp)) ?_)
    rw [hb]
    rw [if_pos (by rfl)]
    refine wpAny_bind (wpAny_rule ?_)
    rw [if_neg (by rw [notLongL hz]; decide)]
    refine wpAny_bind (PyProof.Rows.listUpdate_at ho hd ?_ (by omega) (Nat.le_trans (Nat.le_of_eq (congrArg Array.size hf)) (by omega)))
    refine wpAny_bind (wpAny_letGo ?_)
    exact wpAny_pure ⟨_, rfl, wpAny_pure (hQ _ hf)⟩
section
variable {X : Cx} {T : Tb} {Wx : WX} {o v : Expr} {p2 p3 pos : Pos}
/-- target xs[:] -/
def gWhole (to : TE) : TG := fun v σ H Q => to σ H fun x H1 => ∃ l a xs ys, x = .ref l ∧ v = .ref a ∧ H1 l = some (.lst xs) ∧ H1 a = some (.lst ys) ∧ xs.length + ys.length ≤ sizeLine ∧ Q σ (upd H1 l (.lst ys))
theorem pg_whole {to : TE} (ho : PE X o to)
    (ha : ∀ v, assign (.Subscript o (.Slice none none none p3) p2) X.env v = (do
      let ov ← holding [v] (eval o X.env)
      let iv ← holding [v, ov] (eval (.Slice none none none p3) X.env)
      standAt p2
      holding [v, ov, iv] (setItem ov iv v)
      release [iv, v, ov] []) := by intro _; rfl) : PG X (.Subscript o (.Slice none none none p3) p2) (gWhole to) := by
  refine ⟨fun pins s σ H v u Q I r h => ?_⟩
  rw [ha]
  refine wpAny_bind (wpAny_holding (thn (ho.run pins s σ H _ I h) fun ov s1 ⟨x, H1, I1, r1, l, a, xs, ys, ex, ev, h1, h2, hz, q⟩ => ?_))
  subst ex
  subst ev
  obtain rfl : ov = Value.ref l := r1
  obtain rfl : u = Value.ref a := r
  refine wpAny_bind (wpAny_holding (wpAny_Slice ?_))
  rw [evalPart_none]
  refine wpAny_pure (wpAny_pure (wpAny_pure ?_))
  have I2 : Inv X pins σ H1 { s1 with heap := s1.heap.push { cls := .type "slice", data := .fields #[.none, .none, .none] } } := I1.kept (t' := s1.toks) fun b ob q => Heap.get?_push_of_some _ q
  obtain ⟨z, its, n, r2, hl, e⟩ := I2.lstM h1
  obtain ⟨z', its', n', r', hl', e'⟩ := I2.lstM h2
  have L1 : (s1.heap.push { cls := .type "slice", data := .fields #[.none, .none, .none] }).IsList l its.toArray := ⟨_, e, rfl, n, rfl⟩
  have L2' : (s1.heap.push { cls := .type "slice", data := .fields #[.none, .none, .none] }).IsList a its'.toArray := ⟨_, e', rfl, n', rfl⟩
  refine wpAny_bind (wpAny_standAt (wpAny_bind (wpAny_holding (setItem_whole (s := { s1 with heap := s1.heap.push { cls := .type "slice", data := .fields #[.none, .none, .none] } }) L1 (Heap.IsSliceOf.new ..) L2' (by rw [List.size_toArray, List.size_toArray]; omega) fun f hf => ?_))))
  exact wpAny_release ⟨σ, _, I2.lset (t' := s1.toks) h1 e hf r' z', q⟩
def sSetW (mo mv : Ev D) : Sv := fun env st => (mv env st).bind fun v st => (mo env st).bind fun d st => match d, v with
  | .ref n, .lst ys => match st[n]? with
    | some (.lst xs) => if xs.length + ys.length ≤ sizeLine then .ok (.nx, env) (st.set n (.lst ys)) else .no
    | _ => .no
  | _, _ => .no
theorem ss_setW {mo mv : Ev D} (ho : SE T Wx X o mo) (hv : SE T Wx X v mv)
    (ha : ∀ v, assign (.Subscript o (.Slice none none none p3) p2) X.env v = (do
      let ov ← holding [v] (eval o X.env)
      let iv ← holding [v, ov] (eval (.Slice none none none p3) X.env)
      standAt p2
      holding [v, ov, iv] (setItem ov iv v)
      release [iv, v, ov] []) := by intro _; rfl)
    (hs : swapsWithSole [.Subscript o (.Slice none none none p3) p2] v pos.line X.env = pure false := by rfl) (hw : swappedStores [.Subscript o (.Slice none none none p3) p2] v X.env = pure none := by rfl)
    (h1 : (assignEach [.Subscript o (.Slice none none none p3) p2] X.env).map (·.2) = [assign (.Subscript o (.Slice none none none p3) p2) X.env] := by rfl) : SS T Wx X (.Assign [.Subscript o (.Slice none none none p3) p2] v pos) (sSetW mo mv) :=
  PS.imp (ps_asg hv (pg_whole ho ha) hs hw h1) fun D σ H q => by
    obtain ⟨W, env, st, re, rs, p⟩ := q
    refine ⟨W, env, st, re, rs, PostS.step p fun z st1 W1 y H1 _ l1 r1 rs1 p1 => ?_⟩
    refine ⟨W1, env, st1, re.mono l1, rs1, PostS.step p1 fun d st2 W2 w H2 eq1 l2 r2 rs2 p2 => ?_⟩
    clear eq1
    split at p2
    · rename_i n ys
      split at p2
      · rename_i xs hs
        split at p2
        · rename_i hz
          have r1' := r1.mono l2
          cases r1' with
          | lst hF qy =>
            cases r2 with
            | ref h =>
              obtain ⟨ws, h1, q1⟩ := rs2.cell _ _ _ hs h
              exact ⟨_, _, ws, _, rfl, rfl, h1, rs2.f _ _ hF, by rw [← q1.length, ← qy.length]; exact hz, p2 W2 σ _ (Wd.le.refl _) ((re.mono l1).mono l2) (rs2.setC h ⟨_, rfl, qy⟩ hs)⟩
        · exact p2.elim
      · exact p2.elim
    · exact p2.elim
end
/-! ### xs.remove(x), x there -/
def gRemove (st : Store) : D → List D → Option (D × Store)
  | .ref n, [e] => match st[n]?, py 3 st (.ref n), py 3 st e with
    | some (.lst xs), some (.list zs), some x => if PyData.plainAll zs && x.plain && decide (x.depth ≤ 60) then (PySem.SeqAt.dataPlace zs x).map fun j => (.non, st.set n (.lst (xs.eraseIdx j))) else none
    | _, _, _ => none
  | _, _ => none
section
variable {X : Cx} {T : Tb}
theorem rvs_erase {K : PySem.W.Frag} {F : Hp} {rh : List Addr} : ∀ {ds : List D} {vs : List V} (j : Nat), RDs K F rh ds vs → RDs K F rh (ds.eraseIdx j) (vs.eraseIdx j)
  | _, _, _, .nil => by simpa using RDs.nil
  | _, _, 0, .cons r q => by simpa using q
  | _, _, j + 1, .cons r q => by simpa using RDs.cons r (rvs_erase j q)
theorem m_remove (hu : X.A.units + 65 < cLine) : MtR X "list.remove" (rMt X.K T gRemove) := by
  intro pins s σ H x xs v us Q I rx rxs q
  obtain ⟨W, st, d, ds, z, st', r1, r2, rs, hz, k⟩ := q
  unfold gRemove at hz
  split at hz
  · rename_i n e
    obtain ⟨w, rfl, r3⟩ := r2.one
    split at hz
    · rename_i xs0 zs y e0 e1 e2
      split at hz
      · rename_i hs
        simp only [Bool.and_eq_true, decide_eq_true_eq] at hs
        simp only [Option.map_eq_some_iff, Prod.mk.injEq] at hz
        obtain ⟨j, hj, rfl, rfl⟩ := hz
        have h1 := py_ok rs _ _ _ _ e1 r1
        have h2 := py_ok rs _ _ _ _ e2 r3
        obtain ⟨u, rfl, ru⟩ : ∃ u, us = [u] ∧ RelV w u := by
          cases rxs with
          | cons r t => cases t; exact ⟨_, rfl, r⟩
        cases r1 with
        | ref hρ =>
          obtain ⟨ws, hH, q1⟩ := rs.cell _ _ _ e0 hρ
          obtain ⟨zz, its, nn, rv, hlen, eo⟩ := I.lstM hH
          cases h1 with
          | lst hq hd =>
            obtain ⟨its2, rv2, hl2, _⟩ := I.list hq
            obtain ⟨as, hr⟩ := Dp.readsAll I _ _ _ hd rv2
            obtain ⟨bs, hr2⟩ := Dp.reads I _ _ _ h2 ru
            have hit : its2 = its := by
              obtain ⟨o2, ho2, _, n2, hd2⟩ := hl2.isList
              rw [eo] at ho2
              have := Option.some.inj ho2
              subst this
              simp only [Data.seq.injEq] at hd2
              exact (Array.toList_inj.mpr hd2.1).symm
            subst hit
            cases rx
            refine PySem.SeqAt.remove_list_data (vs := its2.toArray) hl2.isList (by simpa using hr) hr2 hs.1.1 hs.1.2 ?_ hj (by rw [List.size_toArray]; omega) ?_
            · have := Nat.min_le_right (PyData.depthAll zs) y.depth
              omega
            · have hle : (ws.eraseIdx j).length ≤ ws.length := by rw [List.length_eraseIdx]; split <;> omega
              refine ⟨.non, _, I.lset (its' := its2.eraseIdx j) (t' := s.toks) hH eo ?_ (rv.eraseIdx j) (by omega), rfl, k W _ _ (Wd.le.refl _) .non (rs.setC hρ ⟨_, rfl, rvs_erase j q1⟩ e0)⟩
              show its2.toArray.eraseIdxIfInBounds j = (its2.eraseIdx j).toArray
              rw [List.eraseIdxIfInBounds_toArray]
      · cases hz
    · cases hz
  · cases hz
end
/-! ### comprehensions whose items, lists, are unpacked -/
def setU (st : Store) (is : List Nat) (d : D) (env : Env') : Option Env' := (asL st d).bind fun ds => setAll is ds env
def compLU (chk : Store → Bool) (is : List Nat) (mt : Ev Bool) (me : Ev D) (env : Env') : List D → Store → Res (List D)
  | [], st => if chk st = true then .ok [] st else .no
  | d :: r, st => if chk st = true then match setU st is d env with
      | none => .no
      | some env1 => (mt env1 st).nox.bind fun k st => if k = true then (me env1 st).nox.bind fun y st => (compLU chk is mt me env r st).bind fun ys st => .ok (y :: ys) st else compLU chk is mt me env r st
    else .no
def mCompU (mi : Ev Src) (is : List Nat) (own : List Nat) (mt : Ev Bool) (me : Ev D) : Ev D := fun env st => (mi env st).bind fun s st => (compLU s.chk is mt me (wipeE env own) s.items st).nox.bind fun ds st => if ds.length ≤ sizeLine then .ok (.lst ds) st else .no
section
variable {K : PySem.W.Frag} {T : Tb}
theorem setU_run {W : Wd} {st : Store} {H : Hp} {is : List Nat} {d : D} {v : V} {env env' : Env'} {σ : St} {Q : St → Hp → Prop} (rs : RS K T W st H) (re : RE K W env σ) (r : RV K W d v) (e : setU st is d env = some env')
    (k : ∀ σ', RE K W env' σ' → (∀ ws, (∀ i ∈ is, i ∈ ws) → wipe σ' ws = wipe σ ws) → Q σ' H) : gLst K is.length (gsOf is) v σ H Q := by
  unfold setU at e
  simp only [Option.bind_eq_some_iff] at e
  obtain ⟨ds, e1, e2⟩ := e
  obtain ⟨a, us, rfl, h1, q1⟩ := asL_ok rs r e1
  exact ⟨a, us, rfl, h1, by rw [← q1.length, setAll_len e2], setAll_run re q1 e2 k⟩
/-- the reading of a comprehension, its items lists unpacked -/
theorem comp_readU {mi : Ev Src} {is : List Nat} {own : List Nat} {mt : Ev Bool} {me : Ev D} {Wx : WX} {σ : St} {H : Hp} {Q : VK} (hown : ∀ i ∈ is, i ∈ own)
    (q : ∃ (W : Wd) (env : Env') (st : Store), RE K W env σ ∧ RS K T W st H ∧ PostG K T (fun c d H => Wx c d σ H) W (RI K T) (mi env st) fun J H1 => ∃ (W1 : Wd) (s : Src) (st1 : Store) (total : List D) (stF : Store), W.le W1 ∧ RI K T W1 s J ∧ RS K T W1 st1 H1 ∧
      compLU s.chk is mt me (wipeE env own) s.items st1 = .ok total stF ∧ total.length ≤ sizeLine ∧
      ∀ (W2 : Wd) (D : Addr) (accV : List V) (H2 : Hp), W1.le2 W2 → W2.U = upd W1.U D (.lst accV) → W1.U D = none → RVs K W2 total accV → RS K T W2 stF H2 → Q (.ref D) H2) :
    tLc (tI K T Wx mi) (gLst K is.length (gsOf is)) (tT K T W0 mt) (tE K T W0 me) own σ H Q := by
  obtain ⟨W, env, st, re, rs, p⟩ := q
  refine ⟨W, env, st, re, rs, PostG.imp p fun J H1 h => ?_⟩
  obtain ⟨W1, s, st1, total, stF, l1, ri, rs1, hc, hz, fin⟩ := h
  intro D hD
  have hU : W1.U D = none := (rs1.fresh hD).2.1
  have re0 := ((re.mono l1).wipe own)
  refine ⟨fun i m Hn => m = s.items.length - i ∧ i ≤ s.items.length ∧ ∃ (W2 : Wd) (st2 : Store) (acc ys : List Mr.D) (accV : List V), W1.le2 W2 ∧ W2.U = upd W1.U D (.lst accV) ∧ RVs K W2 acc accV ∧ RS K T W2 st2 Hn ∧
      compLU s.chk is mt me (wipeE env own) (s.items.drop i) st2 = .ok ys stF ∧ acc ++ ys = total,
    ⟨s.items.length, by simp, Nat.zero_le _, W1.hid D (.lst []), st1, [], total, [], ⟨fun _ _ h => h, [], by simp [Wd.hid]⟩, rfl, .nil, rs1.hide hD (fok_lst _), by rw [List.drop_zero]; exact hc, rfl⟩, ?_⟩
  rintro i m Hn ⟨rfl, hi, W2, st2, acc, ys, accV, l2, hU2, ra, rs2, hl, ht⟩
  by_cases hlt : i < s.items.length
  · have hd : s.items.drop i = s.items[i] :: s.items.drop (i + 1) := List.drop_eq_getElem_cons hlt
    rw [hd] at hl
    unfold compLU at hl
    split at hl
    · rename_i hk
      obtain ⟨_, hgo⟩ := ri W2 st2 Hn l2 rs2 hk
      obtain ⟨go, yl⟩ := hgo i s.items[i] (by simp [hlt])
      refine .inr ⟨go, _, fun H' h => ⟨s.items.length - (i + 1), by omega, rfl, hlt, h⟩, fun x H' hy => ?_⟩
      obtain ⟨W3, l3, r3, rs3⟩ := yl x H' hy
      split at hl
      · cases hl
      · rename_i env1 he
        have re3 : RE K W3 (wipeE env own) (L2.wipe σ own) := ⟨re0.len, fun j d e => let ⟨v, a, b⟩ := re0.at_ j d e; ⟨v, a, (RV.mono2 l2 b).mono l3⟩⟩
        refine setU_run rs3 re3 r3 he fun σ2 re4 hw => ⟨by rw [hw own hown]; clear hw; apply List.ext_getElem?; intro j; rw [wipe_get, wipe_get, wipe_length]; split <;> simp_all, ?_⟩
        obtain ⟨k, st3, hk1, hl⟩ := bind_ok hl
        have hk1 := nox_ok hk1
        refine ⟨W3, env1, st2, re4, rs3, ?_⟩
        rw [hk1]
        intro W4 b H4 l4 rb rs4
        cases rb
        cases k with
        | true =>
          simp only [if_true] at hl ⊢
          obtain ⟨y, st4, hy1, hl⟩ := bind_ok hl
          have hy1 := nox_ok hy1
          obtain ⟨zs, st5, hz1, hl⟩ := bind_ok hl
          cases hl
          refine ⟨W4, env1, st3, re4.mono l4, rs4, ?_⟩
          rw [hy1]
          intro W5 v H5 l5 rv rs5
          have hU5 : W5.U = upd W1.U D (.lst accV) := by rw [l5.2.2, l4.2.2, l3.2.2, hU2]
          have hD5 : W5.U D = some (.lst accV) := by rw [hU5, upd_same]
          have ra5 : RVs K W5 acc accV := ((ra.mono l3).mono l4).mono l5
          refine ⟨accV, (rs5.hidden hD5).1, ?_, W5.hid D (.lst (accV ++ [v])), st4, acc ++ [y], zs, accV ++ [v], ?_, ?_, ?_, rs5.rehide hD5 ⟨_, rfl⟩ (fok_lst _), hz1, by rw [← ht, List.append_assoc]; rfl⟩
          · have : acc.length + (zs.length + 1) ≤ sizeLine := by rw [← ht] at hz; simpa using hz
            rw [← ra.length]; omega
          · exact ((l2.trans l3.two).trans l4.two).trans l5.two
          · show upd W5.U D _ = _
            rw [hU5, upd_upd]
          · exact (ra5.append (.cons rv .nil))
        | false =>
          simp only [Bool.false_eq_true, if_false] at hl ⊢
          exact ⟨W4, st3, acc, ys, accV, (l2.trans l3.two).trans l4.two, by rw [l4.2.2, l3.2.2, hU2], (ra.mono l3).mono l4, rs4, hl, ht⟩
    · cases hl
  · have e : i = s.items.length := by omega
    subst e
    rw [List.drop_length] at hl
    unfold compLU at hl
    split at hl
    · rename_i hk
      cases hl
      rw [List.append_nil] at ht
      subst ht
      exact .inl ⟨(ri W2 stF Hn l2 rs2 hk).1 _ (Nat.le_refl _), fin W2 D accV Hn l2 hU2 hU ra rs2⟩
    · cases hl
variable {Wx : WX} {X : Cx} {elt tgx iter : Expr} {ifs : List Expr} {scope : Scope} {own : List (Str × Nat)} {pos : Pos} {mi : Ev Src} {is : List Nat} {mt : Ev Bool} {me : Ev D}
theorem comp_frozenU {σ : St} {H : Hp} {Q : VK} {ow : List Nat} (hown : ∀ i ∈ is, i ∈ ow) (q : tE K T Wx (mCompU mi is ow mt me) σ H Q) : tLc (tI K T Wx mi) (gLst K is.length (gsOf is)) (tT K T W0 mt) (tE K T W0 me) ow σ H Q := by
  obtain ⟨W, env, st, re, rs, p⟩ := q
  refine comp_readU hown ⟨W, env, st, re, rs, PostG.step p fun s st1 W1 J H1 _ l1 ri rs1 p1 => ?_⟩
  cases hc : compLU s.chk is mt me (wipeE env ow) s.items st1 with
  | ok total stF =>
    simp only [hc, Res.bind, Res.nox] at p1
    by_cases hz : total.length ≤ sizeLine
    · simp only [hz, if_true] at p1
      refine ⟨W1, s, st1, total, stF, l1, ri, rs1, hc, hz, fun W2 D accV H2 l2 hU2 hU ra rs2 => ?_⟩
      obtain ⟨g1, g2⟩ := unU hU2 hU
      have f1 := (rs2.hidden g1).2.1
      refine p1 ⟨upd W2.F D (.lst accV), W2.rh, W1.U⟩ _ H2 ⟨fun b o e => ?_, l2.2, rfl⟩ ?_ (rs2.unhide g1 g2)
      · exact same_upd f1 b o (l2.1 b o e)
      · have l3 : W2.le2 ⟨upd W2.F D (.lst accV), W2.rh, W1.U⟩ := ⟨same_upd f1, [], by simp⟩
        exact .lst upd_same (RVs.mono2 l3 ra)
    · simp only [hz, if_false] at p1; exact p1.elim
  | ex c st => simp only [hc, Res.bind, Res.nox] at p1; exact p1.elim
  | no => simp only [hc, Res.bind, Res.nox] at p1; exact p1.elim
theorem so_compU (hc : X.calm = true) (hN : X.N.Nodup) (hi : SI T Wx X tgx iter mi) (ok : BlkOk X.N X.env.scope scope own)
    (hg : ∀ (s : Shared) (H : Hp) (C : Addr) (cl : List (Str × Addr)) (fp : List Addr), PG (X.blk s H scope (compEnvC scope cl C X.env) fp) tgx (gLst X.K is.length (gsOf is))) (ht : ∀ (s : Shared) (H : Hp) (C : Addr) (cl : List (Str × Addr)) (fp : List Addr), ST T (X.blk s H scope (compEnvC scope cl C X.env) fp) ifs mt)
    (he : ∀ (s : Shared) (H : Hp) (C : Addr) (cl : List (Str × Addr)) (fp : List Addr), SE T W0 (X.blk s H scope (compEnvC scope cl C X.env) fp) elt me) (hown : ∀ i ∈ is, i ∈ own.map (·.2) := by decide) (hs : ∀ x, foldedSetIterable iter X.env x = pure x := by intro _; rfl) :
    SE T Wx X (.ListComp elt [⟨tgx, iter, ifs, 0⟩] scope pos) (mCompU mi is (own.map (·.2)) mt me) :=
  PE.imp (pe_lc (g := gLst X.K is.length (gsOf is)) (tt := tT X.K T W0 mt) (te := tE X.K T W0 me) hc hN hi ok hg ht he hs) fun σ H Q q => comp_frozenU hown q
theorem sg_lst {X : Cx} {es : List Expr} {k : Nat} {is : List Nat} {pos : Pos} (hc : X.calm = true) (h : PGs X es (gsOf is)) (hn : (assignEach es X.env).length = is.length := by rfl) (hst : (assignEach es X.env).findIdx? (·.1) = none := by rfl) : PG X (.Tuple es k pos) (gLst X.K is.length (gsOf is)) := pg_lst hc h hn hst
end
end Mr
namespace Mr
open PySem PySem.Spec L2 PyProof.Rows
/-! ### behind a written text a mark is out: texts with marks of their own -/
def SEt (T : Tb) (Wx : WX) (X : Cx) (e : Expr) (m : Ev D) : Prop := PET X e (tE X.K T Wx m)
def SSt (T : Tb) (Wx : WX) (X : Cx) (s : Stmt) (m : Sv) : Prop := PST X s (tS X.K T Wx m)
def SSst (T : Tb) (Wx : WX) (X : Cx) (s : List Stmt) (m : Sv) : Prop := PSsT X s (tS X.K T Wx m)
def SEr (T : Tb) (Wx : WX) (X : Cx) (e : Expr) (m : Ev D) : Prop :=
  ∀ (pins : List (Addr × Obj)) (s : Shared) (σ : L2.St) (H : Hp) (Q : VK), Inv X pins σ H s → tE X.K T Wx m σ H Q → wpAny (model X.prog X.w) X.A (eval e X.env) (fun v s' => 1 ≤ s'.toks ∧ EP X pins σ Q v s') X.xe s
section
variable {T : Tb} {Wx : WX} {X : Cx} {e : Expr} {m : Ev D} {pos : Pos}
theorem set_of (h : SE T Wx X e m) : SEt T Wx X e m := fun pins s σ H Q _ I q => h.run pins s σ H Q I q
theorem sst_of {s : Stmt} {m : Sv} (h : SS T Wx X s m) : SSt T Wx X s m := fun pins s σ H D _ I q => h.run pins s σ H D I q
theorem ssst_of {s : List Stmt} {m : Sv} (h : SSs T Wx X s m) : SSst T Wx X s m := fun pins s σ H D _ I q => h.run pins s σ H D I q
theorem seq_read {K : PySem.W.Frag} {m n : Sv} {D : Ends} {σ : L2.St} {H : Hp} (q : tS K T Wx (sSeq m n) D σ H) : tSeq (tS K T Wx m) (tS K T Wx n) D σ H := by
  obtain ⟨W, env, st, re, rs, p⟩ := q
  refine ⟨W, env, st, re, rs, ?_⟩
  unfold sSeq at p
  cases hm : m env st with
  | ok a st1 =>
    rw [hm] at p
    obtain ⟨f, env1⟩ := a
    cases f with
    | nx => exact fun W' σ' H' l r s => ⟨W', env1, st1, r, s, PostS.mono l p⟩
    | rt d => exact p
    | bk => exact p
    | ct => exact p
  | ex c st1 => rw [hm] at p; exact p
  | no => rw [hm] at p; exact p
theorem ssst_cons {s : Stmt} {r : List Stmt} {m n : Sv} (h : SSt T Wx X s m) (g : SSst T Wx X r n) : SSst T Wx X (s :: r) (sSeq m n) :=
  fun pins s σ H D h0 I q => psst_cons h g pins s σ H D h0 I (seq_read q)
theorem sst_asg {tge : Expr} {tg : Tg} (he : SEt T Wx X e m) (hg : SG X tge tg) (hs : swapsWithSole [tge] e pos.line X.env = pure false := by rfl) (hw : swappedStores [tge] e X.env = pure none := by rfl)
    (h1 : (assignEach [tge] X.env).map (·.2) = [assign tge X.env] := by rfl) : SSt T Wx X (.Assign [tge] e pos) (sAsg m tg) := by
  intro pins s σ H D h0 I q
  have h := asg_read q
  refine wpAny_Assign_stores (thn (he pins s σ H _ h0 I h) fun v s1 ⟨x, H1, I1, r1, q1⟩ => ?_) hs hw
  rw [h1]
  exact thn (hg.run pins s1 σ H1 x v _ I1 r1 q1) fun _ s2 q => q
theorem sss_asgT {tge : Expr} {tg : Tg} {rest : List Stmt} {n : Sv} (he : SEr T Wx X e m) (hg : SG X tge tg) (hr : SSst T Wx X rest n) (hs : swapsWithSole [tge] e pos.line X.env = pure false := by rfl) (hw : swappedStores [tge] e X.env = pure none := by rfl)
    (h1 : (assignEach [tge] X.env).map (·.2) = [assign tge X.env] := by rfl) : SSs T Wx X (.Assign [tge] e pos :: rest) (sSeq (sAsg m tg) n) := by
  refine ⟨fun pins s σ H D I q => ?_⟩
  have h := asg_read (seq_read q)
  refine wpAny_execs_cons (wpAny_Assign_stores (thn (he pins s σ H _ I h) fun v s1 ⟨hk, x, H1, I1, r1, q1⟩ => ?_) hs hw)
  rw [h1]
  refine wpAny_mono (PySem.wpAny_toks (hg.run pins s1 σ H1 x v _ I1 r1 q1)) (fun _ s2 q => ?_) fun _ _ z => z.2
  obtain ⟨hk2, σ', H', I', q2⟩ := q
  exact hr pins s2 σ' H' D (Nat.le_trans hk hk2) I' q2
variable {es : List Expr} {ms : Ev (List D)} {name : Str} {apos cpos p1 : Pos} {ty id : String} {g : Store → D → List D → Option (D × Store)} {c : Str} {j : Nat}
theorem ser_mt (pa : PlainAttrs ty) (slot : Slot ty name id) (hty : typeOf (.builtin id) = pure (.type "method_descriptor")) (hm : MtR X id (rMt X.K T g)) (ha : SA T Wx X (e :: es) ms)
    (hbase : attributeBase (.Constant (.str c) j p1) name X.env (eval (.Constant (.str c) j p1) X.env) = eval (.Constant (.str c) j p1) X.env := by rfl)
    (hfew : ((backTo cpos (starEach (e :: es) X.env)).all (fun x => !x.1) && (backToKw cpos (keywordEach [] X.env)).all (fun x => x.1.isSome)
      && decide ((e :: es).length + ([] : List Keyword).length + (if ([] : List Keyword).isEmpty then 0 else 1) < 30)) = true := by rfl)
    (hline : (apos.endLine == cpos.line) = true := by rfl) (hs : starEach (e :: es) X.env = (false, eval e X.env) :: starEach es X.env := by rfl) (hplain : (backTo cpos (starEach es X.env)).any (·.1) = false := by rfl) :
    SEr T Wx X (.Call (.Attribute (.Constant (.str c) j p1) name apos) (e :: es) [] cpos) (mMt ty g (mC (.str c)) ms) := by
  intro pins s σ H Q I q
  obtain ⟨W, env, st, re, rs, p⟩ := mt_read (K := X.K) σ H Q q
  have h := p W (.str c) H (Wd.le.refl W) (.str c) rs
  obtain ⟨hty1, q1⟩ := h
  refine wpAny_Call_method_late hbase hfew hline rfl (Calls.Constant_str ?_)
  have I1 : Inv X pins σ H { s with toks := s.toks + 1 } := I.tok _
  have r1 : RelV (V.str c) (Value.str c s.toks) := ⟨s.toks, rfl⟩
  obtain ⟨h1, h2⟩ := tyV_is I1 r1 hty1
  refine ⟨ty, id, pa, slot, hty, h1, h2, ?_⟩
  have hA := ha.run cpos pins _ σ H _ I1 q1
  rw [hs] at hA ⊢
  refine Calls.callWith_builtin (by show (false || (backTo cpos (starEach es X.env)).any (·.1)) = false; rw [hplain] <;> rfl) (Calls.evalArgs_plain ?_)
  refine wpAny_mono (PySem.wpAny_toks hA) (fun us s2 q => ?_) fun _ _ z => z.2
  obtain ⟨hk, vs, H2, I2, r2, q2⟩ := q
  refine wpAny_mono (PySem.wpAny_toks (hm pins s2 σ H2 _ vs _ us Q I2 r1 r2 q2)) (fun v s3 q => ⟨?_, q.2⟩) fun _ _ z => z.2
  have hk' : s.toks + 1 ≤ s2.toks := hk
  have := q.1
  omega
end
/-! ### o.replace(y, [z0, z1, z2][i]) -/
def ixZ (zs : List Str) : D → Option Str
  | .int i => if 0 ≤ i ∧ i < 2 ^ 63 then zs[i.toNat]? else none
  | _ => none
def mReplL (y : Str) (zs : List Str) (mo mi : Ev D) : Ev D := fun env st => (mo env st).bind fun d st => match d with
  | .str x => (mi env st).bind fun e st => match ixZ zs e with
    | some z => if x.length + (x.length + 1) * z.length ≤ 16777216 then .ok (.str (Txt.replace x y z)) st else .no
    | none => .no
  | _ => .no
/-- a written list of texts -/
def cs3 (l : List (Str × Nat × Pos)) : List Expr := l.map fun p => Expr.Constant (.str p.1) p.2.1 p.2.2
def ItsOf (n : Nat) : List Str → List Value → Prop
  | [], us => us = []
  | y :: r, us => ∃ v t, us = .str y v :: t ∧ n ≤ v ∧ ItsOf n r t
theorem ItsOf.mono {n m : Nat} (h : n ≤ m) : ∀ {zs : List Str} {us : List Value}, ItsOf m zs us → ItsOf n zs us
  | [], _, q => q
  | _ :: _, _, ⟨v, t, a, b, c⟩ => ⟨v, t, a, Nat.le_trans h b, ItsOf.mono h c⟩
theorem ItsOf.get {n : Nat} : ∀ {zs : List Str} {us : List Value} {i : Nat} {z : Str}, ItsOf n zs us → zs[i]? = some z → ∃ v, us[i]? = some (.str z v) ∧ n ≤ v
  | [], _, i, _, _, e => by cases i <;> cases e
  | y :: r, us, 0, z, ⟨v, t, a, b, c⟩, e => by cases e; subst a; exact ⟨v, rfl, b⟩
  | y :: r, us, i + 1, z, ⟨v, t, a, b, c⟩, e => by subst a; exact ItsOf.get (us := t) c e
theorem ItsOf.vals {n : Nat} : ∀ {zs : List Str} {us : List Value}, ItsOf n zs us → Vals (zs.map V.str) us
  | [], _, q => by cases q; exact .nil
  | y :: r, us, ⟨v, t, a, b, c⟩ => by subst a; exact .cons ⟨v, rfl⟩ (ItsOf.vals c)
theorem ItsOf.len {n : Nat} : ∀ {zs : List Str} {us : List Value}, ItsOf n zs us → us.length = zs.length
  | [], _, q => by cases q; rfl
  | y :: r, us, ⟨v, t, a, b, c⟩ => by subst a; simp [ItsOf.len c]
section
variable {T : Tb} {Wx : WX} {X : Cx} {o i1 : Expr} {mo mi : Ev D}
theorem raw_consts {M : Program} {w : World} {A : Around} {E : Value → Shared → Prop} {pos : Pos} {env : Env} : ∀ (l : List (Str × Nat × Pos)) (s : Shared) (Q : List Value → Shared → Prop),
    (∀ us k, ItsOf s.toks (l.map (·.1)) us → s.toks ≤ k → Q us { s with toks := k }) → wpAny (model M w) A (spliced (backTo pos ((cs3 l).map fun e => (false, eval e env)))) Q E s
  | [], s, Q, h => Calls.spliced_nil (h [] s.toks rfl (Nat.le_refl _))
  | (y, j, p) :: r, s, Q, h => by
    show wpAny _ _ (spliced ((false, eval (.Constant (.str y) j p) env) :: backTo pos ((cs3 r).map fun e => (false, eval e env)))) _ _ s
    refine Calls.spliced_cons (Calls.Constant_str ?_)
    refine raw_consts r _ _ fun us k hu hk => ?_
    have hk' : s.toks + 1 ≤ k := hk
    exact h (.str y s.toks :: us) k ⟨s.toks, us, rfl, Nat.le_refl _, hu.mono (Nat.le_succ _)⟩ (by omega)
theorem set_replL {y : Str} {l : List (Str × Nat × Pos)} {j : Nat} {c0 lp sp apos pos : Pos} (ho : SEt T Wx X o mo) (hi : SE T Wx X i1 mi) (s1 : PlainIx i1) (hK0 : kRepl X.K = true) (hl : l.length ≤ 1000)
    (hst : starEach [.Constant (.str y) j c0, .Subscript (.List (cs3 l) lp) i1 sp] X.env = [(false, eval (.Constant (.str y) j c0) X.env), (false, eval (.Subscript (.List (cs3 l) lp) i1 sp) X.env)])
    (hsl : starEach (cs3 l) X.env = (cs3 l).map fun e => (false, eval e X.env))
    (hbase : attributeBase o "replace" X.env (eval o X.env) = eval o X.env) (hline : (apos.endLine == pos.line) = true) :
    SEt T Wx X (.Call (.Attribute o "replace" apos) [.Constant (.str y) j c0, .Subscript (.List (cs3 l) lp) i1 sp] [] pos) (mReplL y (l.map (·.1)) mo mi) := by
  have hK1 := hK0
  unfold kRepl at hK1
  rw [Bool.and_eq_true] at hK1
  have hK := kStat_ok hK1.1
  intro pins s σ H Q h0 I q
  obtain ⟨W, env, st, re, rs, p⟩ := q
  refine PySem.Call_method2 hbase hst hline (wpAny_mono (PySem.wpAny_toks (ho pins s σ H (fun x H1 => ∃ d st1 W1, W.le W1 ∧ RV X.K W1 d x ∧ RS X.K T W1 st1 H1 ∧ PostG X.K T (fun c d H => Wx c d σ H) W1 (RV X.K) (match d with
    | .str x => (mi env st1).bind fun e st => match ixZ (l.map (·.1)) e with
      | some z => if x.length + (x.length + 1) * z.length ≤ 16777216 then .ok (.str (Txt.replace x y z)) st else .no
      | none => .no
    | _ => .no : Res D) Q) h0 I ⟨W, env, st, re, rs, PostG.step p fun d st1 W1 x H1 _ l1 r1 rs1 p1 => ⟨d, st1, W1, l1, r1, rs1, p1⟩⟩)) (fun v s1' q => ?_) fun _ _ z => z.2)
  obtain ⟨hk, xv, H1, I1, rx, d, st1, W1, l1, r1, rs1, p1⟩ := q
  cases d with
  | str x =>
    cases r1
    obtain ⟨tx, e2⟩ := rx
    subst e2
    refine ⟨"str", _, PySem.F.plainAttrs_str, PySem.F.slot_str_replace, PySem.F.type_str_replace, typeIs_str _ _ _, (fun _ e => nomatch e), Calls.callWith_builtin rfl (Calls.evalArgs_plain (Calls.spliced_cons ?_))⟩
    refine Calls.Constant_str (Calls.spliced_cons (Subscript_ ?_))
    refine wpAny_List_spliced ?_
    rw [hsl]
    refine raw_consts l _ _ fun us k hu hk2 => ?_
    have hlen := hu.len
    rw [List.length_map] at hlen
    refine ⟨by show us.length ≤ sizeLine; unfold sizeLine; omega, ?_⟩
    have hk2' : s1'.toks + 1 ≤ k := hk2
    have hf : H1 s1'.heap.objs.size = none := I1.hok.fresh (Nat.le_refl _)
    generalize hob : ({ cls := .type "list", data := .seq us.toArray } : Obj) = ob
    have hvs : Vals (l.map fun p => V.str p.1) us := by
      have := hu.vals
      rw [List.map_map] at this
      exact this
    have I2 : Inv X pins σ (upd H1 s1'.heap.objs.size (.frz ob (.lst (l.map fun p => V.str p.1)))) { s1' with heap := s1'.heap.push ob, toks := k } := (I1.tok k).laid (t' := k) (fun b u e => Heap.get?_push_of_some _ e) (Nat.le_refl _) (by
      subst hob
      exact ⟨Heap.get?_push_size _ rfl, by rw [List.length_map]; show l.length ≤ sizeLine; unfold sizeLine; omega, us, 0, hvs, Heap.get?_push_size _ rfl⟩)
    have l2 := rs1.le_addF (o := .frz ob (.lst (l.map fun p => V.str p.1))) hf
    have p1 := PostG.mono l2 p1
    refine thn (hi.run pins _ σ _ (fun e3 H3 => ∃ e st2 W2, (W1.addF s1'.heap.objs.size (.frz ob (.lst (l.map fun p => V.str p.1)))).le W2 ∧ RV X.K W2 e e3 ∧ RS X.K T W2 st2 H3 ∧ PostG X.K T (fun c d H => Wx c d σ H) W2 (RV X.K) (match ixZ (l.map (·.1)) e with
      | some z => if x.length + (x.length + 1) * z.length ≤ 16777216 then .ok (.str (Txt.replace x y z)) st2 else .no
      | none => .no : Res D) Q) I2 ⟨_, env, st1, re.mono (l1.trans l2), rs1.newF hf (fok_frzL _ _), PostG.step p1 fun e st2 W2 x H2 _ l2 r2 rs2 p2 => ⟨e, st2, W2, l2, r2, rs2, p2⟩⟩) fun v3 s3 q3 => ?_
    obtain ⟨e3, H3, I3, r3, e, st2, W2, l3, re3, rs3, p3⟩ := q3
    cases hz : ixZ (l.map (·.1)) e with
    | none => rw [hz] at p3; exact p3.elim
    | some z =>
      rw [hz] at p3
      dsimp only at p3
      split at p3
      · rename_i hb
        cases e with
        | int i =>
          cases re3
          obtain ⟨ti, rfl⟩ := r3
          simp only [ixZ] at hz
          split at hz
          · rename_i hi
            obtain ⟨v, hv, hnv⟩ := hu.get hz
            have hF : H3 s1'.heap.objs.size = some (.frz ob (.lst (l.map fun p => V.str p.1))) := rs3.f _ _ (l3.1 _ _ upd_same)
            obtain ⟨hg, _⟩ := I3.hok _ _ hF
            have hL : s3.heap.IsList s1'.heap.objs.size us.toArray := by
              subst hob
              exact ⟨_, hg, rfl, 0, rfl⟩
            refine item_listR hL hi.1 hi.2 (by simpa using hv) ?_ (s1 _ _)
            refine Calls.spliced_nil ?_
            have hk0 : s.toks ≤ s1'.toks := hk
            have hnv' : s1'.toks + 1 ≤ v := hnv
            have a1 : 0 < s1'.toks := by omega
            have a3 : s1'.toks < v := hnv'
            have a2 : 0 < v := Nat.lt_trans a1 a3
            exact PySem.SC.replaceA (Nat.ne_of_gt a1) (Nat.ne_of_gt a2) (Nat.ne_of_lt a3) hb (fun t' k => ⟨.str (Txt.replace x y z), H3, I3.tok k, ⟨t', rfl⟩, p3 W2 _ H3 (Wd.le.refl _) (.str _) rs3⟩) (none_booked_of I3 hK)
          · cases hz
        | _ => cases hz
      · exact p3.elim
  | _ => exact p1.elim
theorem set_repl2 {y z0 z1 : Str} {j j0 j1 : Nat} {c0 q0 q1 lp sp apos pos : Pos} (ho : SEt T Wx X o mo) (hi : SE T Wx X i1 mi) (s1 : PlainIx i1) (hK0 : kRepl X.K = true)
    (hst : starEach [.Constant (.str y) j c0, .Subscript (.List [.Constant (.str z0) j0 q0, .Constant (.str z1) j1 q1] lp) i1 sp] X.env = [(false, eval (.Constant (.str y) j c0) X.env), (false, eval (.Subscript (.List [.Constant (.str z0) j0 q0, .Constant (.str z1) j1 q1] lp) i1 sp) X.env)] := by rfl)
    (hsl : starEach [.Constant (.str z0) j0 q0, .Constant (.str z1) j1 q1] X.env = [(false, eval (.Constant (.str z0) j0 q0) X.env), (false, eval (.Constant (.str z1) j1 q1) X.env)] := by rfl)
    (hbase : attributeBase o "replace" X.env (eval o X.env) = eval o X.env := by rfl) (hline : (apos.endLine == pos.line) = true := by rfl) :
    SEt T Wx X (.Call (.Attribute o "replace" apos) [.Constant (.str y) j c0, .Subscript (.List [.Constant (.str z0) j0 q0, .Constant (.str z1) j1 q1] lp) i1 sp] [] pos) (mReplL y [z0, z1] mo mi) :=
  set_replL (l := [(z0, j0, q0), (z1, j1, q1)]) ho hi s1 hK0 (by show 2 ≤ 1000; decide) hst hsl hbase hline
theorem set_repl3 {y z0 z1 z2 : Str} {j j0 j1 j2 : Nat} {c0 q0 q1 q2 lp sp apos pos : Pos} (ho : SEt T Wx X o mo) (hi : SE T Wx X i1 mi) (s1 : PlainIx i1) (hK0 : kRepl X.K = true)
    (hst : starEach [.Constant (.str y) j c0, .Subscript (.List [.Constant (.str z0) j0 q0, .Constant (.str z1) j1 q1, .Constant (.str z2) j2 q2] lp) i1 sp] X.env = [(false, eval (.Constant (.str y) j c0) X.env), (false, eval (.Subscript (.List [.Constant (.str z0) j0 q0, .Constant (.str z1) j1 q1, .Constant (.str z2) j2 q2] lp) i1 sp) X.env)] := by rfl)
    (hsl : starEach [.Constant (.str z0) j0 q0, .Constant (.str z1) j1 q1, .Constant (.str z2) j2 q2] X.env = [(false, eval (.Constant (.str z0) j0 q0) X.env), (false, eval (.Constant (.str z1) j1 q1) X.env), (false, eval (.Constant (.str z2) j2 q2) X.env)] := by rfl)
    (hbase : attributeBase o "replace" X.env (eval o X.env) = eval o X.env := by rfl) (hline : (apos.endLine == pos.line) = true := by rfl) :
    SEt T Wx X (.Call (.Attribute o "replace" apos) [.Constant (.str y) j c0, .Subscript (.List [.Constant (.str z0) j0 q0, .Constant (.str z1) j1 q1, .Constant (.str z2) j2 q2] lp) i1 sp] [] pos) (mReplL y [z0, z1, z2] mo mi) :=
  set_replL (l := [(z0, j0, q0), (z1, j1, q1), (z2, j2, q2)]) ho hi s1 hK0 (by show 3 ≤ 1000; decide) hst hsl hbase hline
end
end Mr
namespace K10
open PySem PySem.Spec L2 Mr
def top (i : Nat) : Stmt := PySem.Challenge.pw_lendboard_k10_makes_and_wishes.main.body.getD i (.Pass ⟨0, 0, 0, 0⟩)
abbrev s_mk_need : Stmt := (top 13)
abbrev s_is_word : Stmt := (top 14)
abbrev s_sides_of : Stmt := (top 15)
abbrev s_parts_of : Stmt := (top 16)
abbrev s_need_make : Stmt := (top 17)
abbrev s_is_fit : Stmt := (top 18)
abbrev s_fits : Stmt := (top 19)
abbrev s_need_wishes : Stmt := (top 20)
abbrev s_written_wishes : Stmt := (top 21)
abbrev s_read_wishes : Stmt := (top 22)
abbrev s_closeness : Stmt := (top 23)
abbrev s_weight_for : Stmt := (top 24)
abbrev s_weight_of : Stmt := (top 25)
abbrev s_law_cell : Stmt := (top 27)
abbrev s_law_drawn : Stmt := (top 28)
abbrev s_law_make : Stmt := (top 31)
abbrev s_law_pattern : Stmt := (top 32)
abbrev s_law_wishes : Stmt := (top 33)
abbrev s_law_parted : Stmt := (top 34)
abbrev s_law_fits : Stmt := (top 35)
abbrev s_law_no_makes : Stmt := (top 36)
abbrev s_law_no_wishes : Stmt := (top 37)
abbrev s_law_wishes_right : Stmt := (top 38)
abbrev s_law : Stmt := (top 39)
abbrev s_law_word : Stmt := (top 29)
abbrev s_law_told : Stmt := (top 30)
/-! ### mirrors -/
def b_mk_need : Sv :=
  (sIf (mNotT (mTru (mVar 0))) (sRaise "BadMake") sNil)
def m_mk_need : List D → Store → Res D := mPure (mDef 1 b_mk_need)
def q_is_word_1 : Ev D :=
  (mComp (mIS (mVar 0)) (.one 1) [1] mYes (mBin gIn (mVar 1) (mC (.str "abcdefghijklmnopqrstuvwxyz0123456789"))))
def b_is_word : Sv :=
  (sRet (mAnd (mChain gLe gLe (mC (.int 1)) (mCall cLen (mCons (mVar 0) mNil)) (mC (.int 10))) (mCall cAll (mCons q_is_word_1 mNil))))
def m_is_word : List D → Store → Res D := mPure (mDef 2 b_is_word)
def q_sides_of_1 : Ev D :=
  (mComp (mIL (mVar 0)) (.one 3) [3] mYes (mCall cTuple (mCons (mMt "str" (pureM gSplit) (mVar 3) (mCons (mC (.str "=")) mNil)) mNil)))
def q_sides_of_2 : Ev D :=
  (mComp (mIL (mVar 1)) (.one 4) [4] mYes (mAnd (mBin gEq (mCall cLen (mCons (mVar 4) mNil)) (mC (.int 2))) (mAnd (mCallD 1 m_is_word (mCons (mBin gIx (mVar 4) (mC (.int 0))) mNil)) (mCallD 1 m_is_word (mCons (mBin gIx (mVar 4) (mC (.int 1))) mNil)))))
def q_sides_of_3 : Ev D :=
  (mComp (mIL (mVar 1)) (.one 4) [4] mYes (mBin gIx (mVar 4) (mC (.int 0))))
def q_sides_of_4 : Ev D :=
  (mComp (mIA srcZ (mCons (mVar 2) (mCons (mSl gSl (mVar 2) (mPart (mC (.int 1))) mNoP) mNil))) (.tup [5, 6]) [5, 6] mYes (mBin gLt (mVar 5) (mVar 6)))
def b_sides_of : Sv :=
  (sSeq (sAsg q_sides_of_1 (.one 1))
    (sSeq (sIf (mOrT (mTest (mBin gGt (mCall cLen (mCons (mVar 1) mNil)) (mC (.int 3)))) (mNotT (mTru (mCall cAll (mCons q_sides_of_2 mNil))))) (sRet (mC .non)) sNil)
    (sSeq (sAsg q_sides_of_3 (.one 2))
    (sRet (mIfE (mTru (mCall cAll (mCons q_sides_of_4 mNil))) (mVar 1) (mC .non))))))
def m_sides_of : List D → Store → Res D := mPure (mDef 7 b_sides_of)
def b_parts_of : Sv :=
  (sSeq (sDrop (mCallD 1 m_mk_need (mCons (mCall cIsi (mCons (mVar 0) (mCons (mC (.ty "str")) mNil))) mNil)))
    (sSeq (sAsg (mMt "str" (pureM gSplit) (mVar 0) (mCons (mC (.str ";")) mNil)) (.one 1))
    (sSeq (sAsg (mMt "str" (pureM gSplit) (mBin gIx (mVar 1) (mC (.int 0))) (mCons (mC (.str "/")) mNil)) (.one 2))
    (sSeq (sAsg (mCallD 1 m_sides_of (mCons (mSl gSl (mVar 1) (mPart (mC (.int 1))) mNoP) mNil)) (.one 3))
    (sSeq (sDrop (mCallD 1 m_mk_need (mCons (mAnd (mBin gEq (mCall cLen (mCons (mVar 2) mNil)) (mC (.int 2))) (mBin gIsn (mVar 3) (mC .non))) mNil)))
    (sSeq (sDrop (mCallD 1 m_mk_need (mCons (mOr (mCallD 1 m_is_word (mCons (mBin gIx (mVar 2) (mC (.int 0))) mNil)) (mBin gEq (mVar 0) (mC (.str "*/*")))) mNil)))
    (sSeq (sDrop (mCallD 1 m_mk_need (mCons (mOr (mCallD 1 m_is_word (mCons (mBin gIx (mVar 2) (mC (.int 1))) mNil)) (mAnd (mBin gEq (mBin gIx (mVar 2) (mC (.int 1))) (mC (.str "*"))) (mBin gEq (mVar 3) (mLst mNil)))) mNil)))
    (sRet (mTup (mCons (mBin gIx (mVar 2) (mC (.int 0))) (mCons (mBin gIx (mVar 2) (mC (.int 1))) (mCons (mVar 3) mNil))))))))))))
def m_parts_of : List D → Store → Res D := mPure (mDef 4 b_parts_of)
def b_need_make : Sv :=
  (sDrop (mCallD 1 m_mk_need (mCons (mBin gNin (mC (.str "*")) (mSl gSl (mCallD 1 m_parts_of (mCons (mVar 0) mNil)) mNoP (mPart (mC (.int 2))))) mNil)))
def m_need_make : List D → Store → Res D := mPure (mDef 1 b_need_make)
def q_is_fit_1 : Ev D :=
  (mComp (mIL (mVar 4)) (.one 6) [6] mYes (mBin gIn (mVar 6) (mBin gIx (mVar 5) (mC (.int 2)))))
def b_is_fit : Sv :=
  (sSeq (sAsg (mCallD 1 m_parts_of (mCons (mVar 0) mNil)) (.tup [2, 3, 4]))
    (sSeq (sAsg (mCallD 1 m_parts_of (mCons (mVar 1) mNil)) (.one 5))
    (sSeq (sIf (mOrT (mTest (mBin gNin (mVar 2) (mTup (mCons (mC (.str "*")) (mCons (mBin gIx (mVar 5) (mC (.int 0))) mNil))))) (mTest (mBin gNin (mVar 3) (mTup (mCons (mC (.str "*")) (mCons (mBin gIx (mVar 5) (mC (.int 1))) mNil)))))) (sRet (mC (.bl false))) sNil)
    (sRet (mCall cAll (mCons q_is_fit_1 mNil))))))
def m_is_fit : List D → Store → Res D := mPure (mDef 7 b_is_fit)
def b_fits : Sv :=
  (sSeq (sDrop (mCallD 1 m_parts_of (mCons (mVar 0) mNil)))
    (sSeq (sDrop (mCallD 1 m_need_make (mCons (mVar 1) mNil)))
    (sRet (mCallD 2 m_is_fit (mCons (mVar 0) (mCons (mVar 1) mNil))))))
def m_fits : List D → Store → Res D := mPure (mDef 2 b_fits)
def w_need_wishes_1 : Sv :=
  (sSeq (sDrop (mCallD 1 m_mk_need (mCons (mAnd (mCall cIsi (mCons (mVar 1) (mCons (mC (.ty "tuple")) mNil))) (mBin gEq (mCall cLen (mCons (mVar 1) mNil)) (mC (.int 2)))) mNil)))
    (sSeq (sDrop (mCallD 1 m_parts_of (mCons (mBin gIx (mVar 1) (mC (.int 0))) mNil)))
    (sDrop (mCallD 1 m_mk_need (mCons (mAnd (mCall cIsi (mCons (mBin gIx (mVar 1) (mC (.int 1))) (mCons (mC (.ty "int")) mNil))) (mAnd (mNot (mCall cIsi (mCons (mBin gIx (mVar 1) (mC (.int 1))) (mCons (mC (.ty "bool")) mNil)))) (mChain gLe gLe (mC (.int 0)) (mBin gIx (mVar 1) (mC (.int 1))) (mC (.int 9))))) mNil)))))
def b_need_wishes : Sv :=
  (sSeq (sDrop (mCallD 1 m_mk_need (mCons (mAnd (mCall cIsi (mCons (mVar 0) (mCons (mC (.ty "tuple")) mNil))) (mBin gLe (mCall cLen (mCons (mVar 0) mNil)) (mC (.int 8)))) mNil)))
    (sFor (mIT (mVar 0)) (.one 1) w_need_wishes_1))
def m_need_wishes : List D → Store → Res D := mPure (mDef 2 b_need_wishes)
def q_written_wishes_1 : Ev D :=
  (mComp (mIT (mVar 0)) (.tup [1, 2]) [1, 2] mYes (mBin gAdd (mBin gAdd (mVar 1) (mC (.str " "))) (mCall cStr (mCons (mVar 2) mNil))))
def b_written_wishes : Sv :=
  (sSeq (sDrop (mCallD 1 m_need_wishes (mCons (mVar 0) mNil)))
    (sRet (mMt "str" (pureM gJoin) (mC (.str ", ")) (mCons q_written_wishes_1 mNil))))
def m_written_wishes : List D → Store → Res D := mPure (mDef 3 b_written_wishes)
def q_read_wishes_1 : Ev D :=
  (mComp (mIL (mMt "str" (pureM gSplit) (mVar 2) (mCons (mC (.str " ")) mNil))) (.one 4) [4] (mTest (mBin gNe (mVar 4) (mC (.str "")))) (mVar 4))
def w_read_wishes_1 : Sv :=
  (sSeq (sAsg q_read_wishes_1 (.one 3))
    (sSeq (sDrop (mCallD 1 m_mk_need (mCons (mAnd (mBin gEq (mCall cLen (mCons (mVar 3) mNil)) (mC (.int 2))) (mAnd (mBin gEq (mCall cLen (mCons (mBin gIx (mVar 3) (mC (.int 1))) mNil)) (mC (.int 1))) (mBin gIn (mBin gIx (mVar 3) (mC (.int 1))) (mC (.str "0123456789"))))) mNil)))
    (sDrop (mMt "list" gAppend (mVar 1) (mCons (mTup (mCons (mBin gIx (mVar 3) (mC (.int 0))) (mCons (mCall cInt (mCons (mBin gIx (mVar 3) (mC (.int 1))) mNil)) mNil))) mNil)))))
def b_read_wishes : Sv :=
  (sSeq (sAsg (mLstC mNil) (.one 1))
    (sSeq (sFor (mIL (mIfE (mTest (mBin gNe (mMt "str" (pureM gStripC) (mVar 0) (mCons (mC (.str " ")) mNil)) (mC (.str "")))) (mMt "str" (pureM gSplit) (mVar 0) (mCons (mC (.str ",")) mNil)) (mLst mNil))) (.one 2) w_read_wishes_1)
    (sSeq (sDrop (mCallD 1 m_need_wishes (mCons (mCall cTuple (mCons (mVar 1) mNil)) mNil)))
    (sRet (mCall cTuple (mCons (mVar 1) mNil))))))
def m_read_wishes : List D → Store → Res D := mPure (mDef 5 b_read_wishes)
def b_closeness : Sv :=
  (sSeq (sAsg (mCallD 1 m_parts_of (mCons (mVar 0) mNil)) (.tup [1, 2, 3]))
    (sSeq (sIf (mTest (mBin gEq (mVar 2) (mC (.str "*")))) (sRet (mIfE (mTest (mBin gEq (mVar 1) (mC (.str "*")))) (mC (.int 0)) (mC (.int 1)))) sNil)
    (sRet (mBin gAdd (mC (.int 2)) (mCall cLen (mCons (mVar 3) mNil))))))
def m_closeness : List D → Store → Res D := mPure (mDef 4 b_closeness)
def q_weight_for_1 : Ev D :=
  (mComp (mIT (mVar 0)) (.one 4) [4] (mTru (mCallD 2 m_is_fit (mCons (mBin gIx (mVar 4) (mC (.int 0))) (mCons (mVar 1) mNil)))) (mVar 4))
def q_weight_for_2 : Ev D :=
  (mComp (mIL (mVar 2)) (.tup [5, 6]) [5, 6] mYes (mCallD 1 m_closeness (mCons (mVar 5) mNil)))
def q_weight_for_3 : Ev D :=
  (mComp (mIL (mVar 2)) (.tup [5, 6]) [5, 6] (mTest (mBin gEq (mCallD 1 m_closeness (mCons (mVar 5) mNil)) (mVar 3))) (mVar 6))
def b_weight_for : Sv :=
  (sSeq (sAsg q_weight_for_1 (.one 2))
    (sSeq (sIf (mTest (mBin gEq (mVar 2) (mLst mNil))) (sRet (mC (.int 0))) sNil)
    (sSeq (sAsg (mCall cMax (mCons q_weight_for_2 mNil)) (.one 3))
    (sRet (mBin gIx q_weight_for_3 (mC (.int 0)))))))
def m_weight_for : List D → Store → Res D := mPure (mDef 7 b_weight_for)
def b_weight_of : Sv :=
  (sSeq (sDrop (mCallD 1 m_need_wishes (mCons (mVar 0) mNil)))
    (sSeq (sDrop (mCallD 1 m_need_make (mCons (mVar 1) mNil)))
    (sRet (mCallD 2 m_weight_for (mCons (mVar 0) (mCons (mVar 1) mNil))))))
def m_weight_of : List D → Store → Res D := mPure (mDef 2 b_weight_of)
def b_law_cell : Sv :=
  (sSeq (sIf (mTest (mBin gEq (mVar 0) (mLst mNil))) (sRet (mBin gMul (mVar 1) (mC (.int 7919)))) sNil)
    (sRet (mBin gAdd (mBin gIx (mVar 0) (mBin gMod (mVar 1) (mCall cLen (mCons (mVar 0) mNil)))) (mBin gMul (mBin gDiv (mVar 1) (mCall cLen (mCons (mVar 0) mNil))) (mC (.int 104729))))))
def m_law_cell : List D → Store → Res D := mPure (mDef 2 b_law_cell)
def b_law_drawn : Sv :=
  (sSeq (sAsg (mBin gMod (mBin gAdd (mBin gMul (mVar 0) (mC (.int 6364136223846793005))) (mBin gMul (mBin gAdd (mVar 1) (mC (.int 1))) (mC (.int 1442695040888963407)))) (mC (.int 340282366920938463463374607431768211507))) (.one 2))
    (sSeq (sAsg (mBin gMod (mBin gMul (mVar 2) (mVar 2)) (mC (.int 340282366920938463463374607431768211297))) (.one 2))
    (sSeq (sAsg (mBin gMul (mBin gMul (mBin gAdd (mBin gMod (mVar 2) (mC (.int 18446744073709551557))) (mC (.int 1))) (mBin gAdd (mBin gDiv (mVar 2) (mC (.int 18446744073709551557))) (mC (.int 1)))) (mVar 2)) (.one 2))
    (sRet (mBin gMod (mVar 2) (mC (.int 340282366920938463463374607431768211507)))))))
def m_law_drawn : List D → Store → Res D := mPure (mDef 3 b_law_drawn)
def w_law_make_1 : Sv :=
  (sAsg (mBin gAdd (mBin gAdd (mBin gAdd (mBin gAdd (mVar 1) (mC (.str ";"))) (mVar 3)) (mC (.str "="))) (mVar 4)) (.one 1))
def b_law_make : Sv :=
  (sSeq (sAsg (mBin gAdd (mBin gAdd (mBin gIx (mLst (mCons (mC (.str "text")) (mCons (mC (.str "image")) (mCons (mC (.str "a")) (mCons (mC (.str "text")) mNil))))) (mBin gMod (mVar 0) (mC (.int 4)))) (mC (.str "/"))) (mBin gIx (mLst (mCons (mC (.str "plain")) (mCons (mC (.str "rich")) (mCons (mC (.str "a")) (mCons (mC (.str "9z")) mNil))))) (mBin gMod (mBin gDiv (mVar 0) (mC (.int 4))) (mC (.int 4))))) (.one 1))
    (sSeq (sAsg (mLstC (mCons (mLst mNil) (mCons (mLst mNil) (mCons (mLst (mCons (mTup (mCons (mC (.str "set")) (mCons (mC (.str "utf8")) mNil))) mNil)) (mCons (mLst (mCons (mTup (mCons (mC (.str "set")) (mCons (mC (.str "x")) mNil))) mNil)) (mCons (mLst (mCons (mTup (mCons (mC (.str "a")) (mCons (mC (.str "1")) mNil))) (mCons (mTup (mCons (mC (.str "set")) (mCons (mC (.str "utf8")) mNil))) mNil))) mNil)))))) (.one 2))
    (sSeq (sDrop (mMt "list" gAppend (mVar 2) (mCons (mLst (mCons (mTup (mCons (mC (.str "a")) (mCons (mC (.str "1")) mNil))) (mCons (mTup (mCons (mC (.str "b")) (mCons (mC (.str "2")) mNil))) (mCons (mTup (mCons (mC (.str "c")) (mCons (mC (.str "3")) mNil))) mNil)))) mNil)))
    (sSeq (sFor (mIL (mBin gIx (mVar 2) (mBin gMod (mBin gDiv (mVar 0) (mC (.int 16))) (mC (.int 6))))) (.tup [3, 4]) w_law_make_1)
    (sRet (mVar 1))))))
def m_law_make : List D → Store → Res D := mPure (mDef 5 b_law_make)
def b_law_pattern : Sv :=
  (sSeq (sAsg (mCallD 1 m_law_make (mCons (mBin gDiv (mVar 0) (mC (.int 8))) mNil)) (.one 1))
    (sSeq (sIf (mTest (mBin gEq (mBin gMod (mVar 0) (mC (.int 4))) (mC (.int 0)))) (sRet (mC (.str "*/*"))) sNil)
    (sSeq (sIf (mAndT (mTest (mBin gEq (mBin gMod (mVar 0) (mC (.int 4))) (mC (.int 2)))) (mTest (mBin gIn (mC (.str ";")) (mVar 1)))) (sRet (mBin gAdd (mBin gAdd (mBin gIx (mMt "str" (pureM gSplit) (mVar 1) (mCons (mC (.str ";")) mNil)) (mC (.int 0))) (mC (.str ";"))) (mBin gIx (mMt "str" (pureM gSplit) (mVar 1) (mCons (mC (.str ";")) mNil)) (mNeg (mC (.int 1)))))) sNil)
    (sRet (mIfE (mTest (mBin gEq (mBin gMod (mVar 0) (mC (.int 4))) (mC (.int 1)))) (mBin gAdd (mBin gIx (mMt "str" (pureM gSplit) (mVar 1) (mCons (mC (.str "/")) mNil)) (mC (.int 0))) (mC (.str "/*"))) (mVar 1))))))
def m_law_pattern : List D → Store → Res D := mPure (mDef 2 b_law_pattern)
def w_law_wishes_1 : Sv :=
  (sSeq (sAsg (mCallD 2 m_law_drawn (mCons (mVar 0) (mCons (mVar 2) mNil))) (.one 3))
    (sSeq (sAsg (mBin gDiv (mVar 3) (mC (.int 16))) (.one 4))
    (sSeq (sIf (mTest (mBin gEq (mBin gMod (mBin gDiv (mVar 3) (mC (.int 8))) (mC (.int 2))) (mC (.int 0)))) (sAsg (mBin gAdd (mBin gMul (mBin gDiv (mVar 0) (mBin gPow (mC (.int 2)) (mC (.int 20)))) (mC (.int 8))) (mBin gMod (mBin gDiv (mVar 3) (mC (.int 16))) (mC (.int 8)))) (.one 4)) sNil)
    (sDrop (mMt "list" gAppend (mVar 1) (mCons (mTup (mCons (mCallD 1 m_law_pattern (mCons (mVar 4) mNil)) (mCons (mBin gIx (mLst (mCons (mC (.int 0)) (mCons (mC (.int 1)) (mCons (mC (.int 5)) (mCons (mC (.int 9)) (mCons (mBin gMod (mBin gDiv (mVar 3) (mC (.int 64))) (mC (.int 10))) mNil)))))) (mBin gMod (mVar 3) (mC (.int 5)))) mNil))) mNil))))))
def b_law_wishes : Sv :=
  (sSeq (sAsg (mLstC mNil) (.one 1))
    (sSeq (sFor (mIA (fun _ => srcR1) (mCons (mBin gMod (mVar 0) (mC (.int 6))) mNil)) (.one 2) w_law_wishes_1)
    (sRet (mCall cTuple (mCons (mVar 1) mNil)))))
def m_law_wishes : List D → Store → Res D := mPure (mDef 5 b_law_wishes)
def b_law_parted : Sv :=
  (sSeq (sAsg (mMt "str" (pureM gSplit) (mBin gIx (mMt "str" (pureM gSplit) (mVar 0) (mCons (mC (.str ";")) mNil)) (mC (.int 0))) (mCons (mC (.str "/")) mNil)) (.one 1))
    (sRet (mTup (mCons (mBin gIx (mVar 1) (mC (.int 0))) (mCons (mBin gIx (mVar 1) (mC (.int 1))) (mCons (mSl gSl (mMt "str" (pureM gSplit) (mVar 0) (mCons (mC (.str ";")) mNil)) (mPart (mC (.int 1))) mNoP) mNil))))))
def m_law_parted : List D → Store → Res D := mPure (mDef 2 b_law_parted)
def q_law_fits_1 : Ev D :=
  (mComp (mIL (mVar 4)) (.one 8) [8] mYes (mBin gIn (mVar 8) (mVar 7)))
def b_law_fits : Sv :=
  (sSeq (sAsg (mCallD 1 m_law_parted (mCons (mVar 0) mNil)) (.tup [2, 3, 4]))
    (sSeq (sAsg (mCallD 1 m_law_parted (mCons (mVar 1) mNil)) (.tup [5, 6, 7]))
    (sSeq (sIf (mOrT (mAndT (mTest (mBin gNe (mVar 2) (mC (.str "*")))) (mTest (mBin gNe (mVar 2) (mVar 5)))) (mAndT (mTest (mBin gNe (mVar 3) (mC (.str "*")))) (mTest (mBin gNe (mVar 3) (mVar 6))))) (sRet (mC (.bl false))) sNil)
    (sRet (mCall cAll (mCons q_law_fits_1 mNil))))))
def m_law_fits : List D → Store → Res D := mPure (mDef 9 b_law_fits)
def b_law_no_makes : Sv :=
  (sSeq (sAsg (mLst (mCons (mC (.str "")) (mCons (mC (.str "/")) (mCons (mC (.str "a")) (mCons (mC (.str "a/")) (mCons (mC (.str "/a")) (mCons (mC (.str "a/b/c")) (mCons (mC (.str "A/b")) (mCons (mC (.str "a/b;")) (mCons (mC (.str "a/b;c")) (mCons (mC (.str "a/b;c=")) (mCons (mC (.str "a/b;=d")) mNil)))))))))))) (.one 0))
    (sSeq (sAsg (mBin gAdd (mVar 0) (mLst (mCons (mC (.str "a/b;c=d;")) (mCons (mC (.str "a/b;c=d;c=e")) (mCons (mC (.str "a b/c")) mNil))))) (.one 0))
    (sSeq (sAsg (mBin gAdd (mVar 0) (mLst (mCons (mC (.str "a/b;d=1;c=1")) (mCons (mC (.str "a/b;c=d=e")) (mCons (mC (.str "abcdefghijk/a")) (mCons (mC (.str "a/abcdefghijk")) mNil)))))) (.one 0))
    (sSeq (sAsg (mBin gAdd (mVar 0) (mLst (mCons (mC (.str "a/b;a=1;b=1;c=1;d=1")) (mCons (mC (.str "a/b; c=d")) (mCons (mC (.str "a/b;c=D")) mNil))))) (.one 0))
    (sRet (mBin gAdd (mVar 0) (mLst (mCons (mC .non) (mCons (mC (.int 5)) (mCons (mTup (mCons (mC (.str "a")) (mCons (mC (.str "b")) mNil))) (mCons (mC (.str "a/b\n")) (mCons (mC (.str "a-b/c")) (mCons (mC (.str "a/b;abcdefghijk=1")) mNil)))))))))))))
def m_law_no_makes : List D → Store → Res D := mPure (mDef 1 b_law_no_makes)
def b_law_no_wishes : Sv :=
  (sSeq (sAsg (mLst (mCons (mC .non) (mCons (mLst mNil) (mCons (mBin gMul (mTup (mCons (mTup (mCons (mC (.str "a/b")) (mCons (mC (.int 1)) mNil))) mNil)) (mC (.int 9))) (mCons (mTup (mCons (mTup (mCons (mC (.str "a/b")) mNil)) mNil)) (mCons (mTup (mCons (mTup (mCons (mC (.str "a/b")) (mCons (mC (.int 1)) (mCons (mC (.int 1)) mNil)))) mNil)) (mCons (mTup (mCons (mTup (mCons (mC (.str "a/b")) (mCons (mNeg (mC (.int 1))) mNil))) mNil)) mNil))))))) (.one 1))
    (sSeq (sAsg (mBin gAdd (mVar 1) (mLst (mCons (mTup (mCons (mTup (mCons (mC (.str "a/b")) (mCons (mC (.int 10)) mNil))) mNil)) (mCons (mTup (mCons (mTup (mCons (mC (.str "a/b")) (mCons (mC (.bl true)) mNil))) mNil)) mNil)))) (.one 1))
    (sSeq (sAsg (mBin gAdd (mVar 1) (mLst (mCons (mTup (mCons (mTup (mCons (mC (.str "a/b")) (mCons (mC .non) mNil))) mNil)) (mCons (mTup (mCons (mTup (mCons (mC (.str "*/b")) (mCons (mC (.int 1)) mNil))) mNil)) (mCons (mTup (mCons (mTup (mCons (mC (.str "a/*;c=d")) (mCons (mC (.int 1)) mNil))) mNil)) (mCons (mTup (mCons (mTup (mCons (mC (.str "*/*;c=d")) (mCons (mC (.int 1)) mNil))) mNil)) mNil)))))) (.one 1))
    (sSeq (sAsg (mBin gAdd (mVar 1) (mLst (mCons (mTup (mCons (mTup (mCons (mC (.str "*")) (mCons (mC (.int 1)) mNil))) mNil)) (mCons (mTup (mCons (mTup (mCons (mC (.str "")) (mCons (mC (.int 1)) mNil))) mNil)) (mCons (mTup (mCons (mC .non) mNil)) mNil))))) (.one 1))
    (sSeq (sAsg (mBin gAdd (mVar 1) (mLst (mCons (mTup (mCons (mLst (mCons (mC (.str "a/b")) (mCons (mC (.int 1)) mNil))) mNil)) (mCons (mTup (mCons (mTup (mCons (mC .non) (mCons (mC (.int 1)) mNil))) mNil)) (mCons (mTup (mCons (mC (.str "a/b 1")) mNil)) (mCons (mTup (mCons (mTup (mCons (mC (.str "a/b")) (mCons (mC (.str "1")) mNil))) mNil)) mNil)))))) (.one 1))
    (sRet (mBin gIx (mVar 1) (mBin gMod (mVar 0) (mCall cLen (mCons (mVar 1) mNil))))))))))
def m_law_no_wishes : List D → Store → Res D := mPure (mDef 2 b_law_no_wishes)
def q_law_wishes_right_1 : Ev D :=
  (mComp (mIT (mVar 0)) (.tup [4, 5]) [4, 5] mYes (mBin gAdd (mBin gAdd (mVar 4) (mC (.str " "))) (mCall cStr (mCons (mVar 5) mNil))))
def l_law_wishes_right_1 : Ev D :=
  (mCallD 1 m_read_wishes (mCons (mBin gAdd (mBin gAdd (mC (.str "  ")) (mVar 3)) (mC (.str " "))) mNil))
def b_law_wishes_right : Sv :=
  (sSeq (sAsg (mMt "str" (pureM gJoin) (mC (.str ", ")) (mCons q_law_wishes_right_1 mNil)) (.one 2))
    (sSeq (sIf (mOrT (mTest (mBin gIsn (mCallD 1 m_need_wishes (mCons (mVar 0) mNil)) (mC .non))) (mOrT (mTest (mBin gNe (mCallD 1 m_written_wishes (mCons (mVar 0) mNil)) (mVar 2))) (mTest (mBin gNe (mCallD 1 m_read_wishes (mCons (mVar 2) mNil)) (mVar 0))))) (sRet (mC (.bl false))) sNil)
    (sSeq (sAsg (mReplL " " [" ", "  "] (mReplL ", " [",", "  ,   ", " , "] (mVar 2) (mBin gMod (mVar 1) (mC (.int 3)))) (mBin gMod (mBin gDiv (mVar 1) (mC (.int 4))) (mC (.int 2)))) (.one 3))
    (sRet (mBin gEq (toldM l_law_wishes_right_1) (mVar 0))))))
def m_law_wishes_right : List D → Store → Res D := mPure (mDef 6 b_law_wishes_right)
def l_law_1 : Ev D :=
  (mCallD 1 m_need_make (mCons (mVar 5) mNil))
def l_law_2 : Ev D :=
  (mCallD 2 m_fits (mCons (mVar 6) (mCons (mVar 5) mNil)))
def l_law_3 : Ev D :=
  (mCallD 1 m_need_make (mCons (mVar 8) mNil))
def l_law_4 : Ev D :=
  (mCallD 2 m_fits (mCons (mC (.str "*/*")) (mCons (mVar 8) mNil)))
def l_law_5 : Ev D :=
  (mCallD 2 m_fits (mCons (mVar 8) (mCons (mVar 5) mNil)))
def l_law_6 : Ev D :=
  (mCallD 2 m_weight_of (mCons (mTup mNil) (mCons (mVar 8) mNil)))
def w_law_1 : Sv :=
  (sSeq (sAsg (mCallD 2 m_law_drawn (mCons (mVar 2) (mCons (mVar 3) mNil))) (.one 4))
    (sSeq (sAsg (mTup (mCons (mCallD 1 m_law_make (mCons (mBin gDiv (mVar 4) (mC (.int 8))) mNil)) (mCons (mCallD 1 m_law_pattern (mCons (mBin gDiv (mVar 4) (mC (.int 1024))) mNil)) mNil))) (.tup [5, 6]))
    (sSeq (sIf (mTest (mBin gIsn (toldM l_law_1) (mC .non))) (sRet (mC (.bl false))) sNil)
    (sSeq (sAsg (toldM l_law_2) (.one 7))
    (sSeq (sIf (mOrT (mNotT (mTru (mCall cIsi (mCons (mVar 7) (mCons (mC (.ty "bool")) mNil))))) (mTest (mBin gNe (mVar 7) (mCallD 2 m_law_fits (mCons (mVar 6) (mCons (mVar 5) mNil)))))) (sRet (mC (.bl false))) sNil)
    (sSeq (sAsg (mBin gIx (mCall0 m_law_no_makes) (mBin gMod (mBin gDiv (mVar 4) (mBin gPow (mC (.int 2)) (mC (.int 30)))) (mCall cLen (mCons (mCall0 m_law_no_makes) mNil)))) (.one 8))
    (sSeq (sAsg (mLstC (mCons (toldM l_law_3) mNil)) (.one 9))
    (sSeq (sDrop (mMt "list" gAppend (mVar 9) (mCons (toldM l_law_4) mNil)))
    (sSeq (sDrop (mMt "list" gAppend (mVar 9) (mCons (toldM l_law_5) mNil)))
    (sSeq (sDrop (mMt "list" gAppend (mVar 9) (mCons (toldM l_law_6) mNil)))
    (sIf (mTest (mBin gNe (mVar 9) (mBin gMul (mLst (mCons (mTup (mCons (mC (.str "refused")) (mCons (mC (.str "BadMake")) mNil))) mNil)) (mC (.int 4))))) (sRet (mC (.bl false))) sNil)))))))))))
def l_law_7 : Ev D :=
  (mCallD 1 m_need_make (mCons (mC (.str "*/*")) mNil))
def l_law_8 : Ev D :=
  (mCallD 1 m_need_wishes (mCons (mVar 8) mNil))
def l_law_9 : Ev D :=
  (mCallD 1 m_written_wishes (mCons (mVar 8) mNil))
def l_law_10 : Ev D :=
  (mCallD 1 m_read_wishes (mCons (mVar 11) mNil))
def w_law_2 : Sv :=
  (sIf (mTest (mBin gNe (toldM l_law_10) (mTup (mCons (mC (.str "refused")) (mCons (mC (.str "BadMake")) mNil))))) (sRet (mC (.bl false))) sNil)
def w_law_3 : Sv :=
  (sSeq (sAsg (mCallD 2 m_law_drawn (mCons (mCallD 2 m_law_cell (mCons (mVar 0) (mCons (mVar 1) mNil))) (mCons (mVar 1) mNil))) (.one 2))
    (sSeq (sPre [3, 4, 5, 6, 7, 8, 9] (sFor (mIA (fun _ => srcR1) (mCons (mC (.int 4)) mNil)) (.one 3) (sTrim [3, 4, 5, 6, 7, 8, 9] w_law_1)))
    (sSeq (sIf (mTest (mBin gNe (toldM l_law_7) (mTup (mCons (mC (.str "refused")) (mCons (mC (.str "BadMake")) mNil))))) (sRet (mC (.bl false))) sNil)
    (sSeq (sIf (mNotT (mTru (mCallD 2 m_law_wishes_right (mCons (mCallD 1 m_law_wishes (mCons (mCallD 2 m_law_drawn (mCons (mVar 2) (mCons (mC (.int 9)) mNil))) mNil)) (mCons (mVar 2) mNil))))) (sRet (mC (.bl false))) sNil)
    (sSeq (sAsg (mCallD 1 m_law_no_wishes (mCons (mCallD 2 m_law_drawn (mCons (mVar 2) (mCons (mC (.int 10)) mNil))) mNil)) (.one 8))
    (sSeq (sAsg (mLstC (mCons (toldM l_law_8) mNil)) (.one 9))
    (sSeq (sDrop (mMt "list" gAppend (mVar 9) (mCons (toldM l_law_9) mNil)))
    (sSeq (sIf (mTest (mBin gNe (mVar 9) (mBin gMul (mLst (mCons (mTup (mCons (mC (.str "refused")) (mCons (mC (.str "BadMake")) mNil))) mNil)) (mC (.int 2))))) (sRet (mC (.bl false))) sNil)
    (sSeq (sAsg (mLst (mCons (mC (.str "a/b")) (mCons (mC (.str "a/b 10")) (mCons (mC (.str "a/b x")) (mCons (mC (.str "a/b 1 1")) (mCons (mC (.str ",")) (mCons (mC (.str "a/b 1,")) (mCons (mC (.str "a/b 1, ,c/d 1")) (mCons (mC (.str "1")) (mCons (mC (.str "*/b 1")) (mCons (mC (.str "a/b -1")) mNil))))))))))) (.one 10))
    (sPre [11] (sFor (mIL (mBin gAdd (mVar 10) (mLst (mCons (mC (.str "a/b 1;c/d 1")) (mCons (mMt "str" (pureM gJoin) (mC (.str ", ")) (mCons (mBin gMul (mLst (mCons (mC (.str "a/b 1")) mNil)) (mC (.int 9))) mNil)) mNil))))) (.one 11) (sTrim [11] w_law_2))))))))))))
def b_law : Sv :=
  (sSeq (sPre [1, 2, 3, 4, 5, 6, 7, 8, 9, 10, 11] (sFor (mIA (fun _ => srcR1) (mCons (mCall cMax (mCons (mC (.int 1)) (mCons (mCall cMin (mCons (mC (.int 4)) (mCons (mCall cLen (mCons (mVar 0) mNil)) mNil))) mNil))) mNil)) (.one 1) (sTrim [1, 2, 3, 4, 5, 6, 7, 8, 9, 10, 11] w_law_3)))
    (sRet (mC (.bl true))))
def m_law : List D → Store → Res D := mPure (mDef 12 b_law)
/-! ### scopes -/
abbrev N_mk_need : List Str := ["good"]
theorem sc_mk_need : FnScope N_mk_need ["good"] (defScope s_mk_need) := ⟨rfl, rfl, rfl, by decide +kernel, rfl, by decide +kernel, by decide +kernel⟩
abbrev N_is_word : List Str := ["text", "sign"]
theorem sc_is_word : FnScope N_is_word ["text"] (defScope s_is_word) := ⟨rfl, rfl, rfl, by decide +kernel, rfl, by decide +kernel, by decide +kernel⟩
abbrev N_sides_of : List Str := ["parts", "pairs", "names", "part", "pair", "one", "other"]
theorem sc_sides_of : FnScope N_sides_of ["parts"] (defScope s_sides_of) := ⟨rfl, rfl, rfl, by decide +kernel, rfl, by decide +kernel, by decide +kernel⟩
abbrev N_parts_of : List Str := ["text", "parts", "head", "sides"]
theorem sc_parts_of : FnScope N_parts_of ["text"] (defScope s_parts_of) := ⟨rfl, rfl, rfl, by decide +kernel, rfl, by decide +kernel, by decide +kernel⟩
abbrev N_need_make : List Str := ["make"]
theorem sc_need_make : FnScope N_need_make ["make"] (defScope s_need_make) := ⟨rfl, rfl, rfl, by decide +kernel, rfl, by decide +kernel, by decide +kernel⟩
abbrev N_is_fit : List Str := ["pattern", "make", "kind", "form", "sides", "own", "pair"]
theorem sc_is_fit : FnScope N_is_fit ["pattern", "make"] (defScope s_is_fit) := ⟨rfl, rfl, rfl, by decide +kernel, rfl, by decide +kernel, by decide +kernel⟩
abbrev N_fits : List Str := ["pattern", "make"]
theorem sc_fits : FnScope N_fits ["pattern", "make"] (defScope s_fits) := ⟨rfl, rfl, rfl, by decide +kernel, rfl, by decide +kernel, by decide +kernel⟩
abbrev N_need_wishes : List Str := ["wishes", "wish"]
theorem sc_need_wishes : FnScope N_need_wishes ["wishes"] (defScope s_need_wishes) := ⟨rfl, rfl, rfl, by decide +kernel, rfl, by decide +kernel, by decide +kernel⟩
abbrev N_written_wishes : List Str := ["wishes", "pattern", "weight"]
theorem sc_written_wishes : FnScope N_written_wishes ["wishes"] (defScope s_written_wishes) := ⟨rfl, rfl, rfl, by decide +kernel, rfl, by decide +kernel, by decide +kernel⟩
abbrev N_read_wishes : List Str := ["text", "found", "part", "words", "word"]
theorem sc_read_wishes : FnScope N_read_wishes ["text"] (defScope s_read_wishes) := ⟨rfl, rfl, rfl, by decide +kernel, rfl, by decide +kernel, by decide +kernel⟩
abbrev N_closeness : List Str := ["pattern", "kind", "form", "sides"]
theorem sc_closeness : FnScope N_closeness ["pattern"] (defScope s_closeness) := ⟨rfl, rfl, rfl, by decide +kernel, rfl, by decide +kernel, by decide +kernel⟩
abbrev N_weight_for : List Str := ["wishes", "make", "told", "most", "wish", "pattern", "weight"]
theorem sc_weight_for : FnScope N_weight_for ["wishes", "make"] (defScope s_weight_for) := ⟨rfl, rfl, rfl, by decide +kernel, rfl, by decide +kernel, by decide +kernel⟩
abbrev N_weight_of : List Str := ["wishes", "make"]
theorem sc_weight_of : FnScope N_weight_of ["wishes", "make"] (defScope s_weight_of) := ⟨rfl, rfl, rfl, by decide +kernel, rfl, by decide +kernel, by decide +kernel⟩
abbrev N_law_cell : List Str := ["script", "k"]
theorem sc_law_cell : FnScope N_law_cell ["script", "k"] (defScope s_law_cell) := ⟨rfl, rfl, rfl, by decide +kernel, rfl, by decide +kernel, by decide +kernel⟩
abbrev N_law_drawn : List Str := ["cell", "k", "more"]
theorem sc_law_drawn : FnScope N_law_drawn ["cell", "k"] (defScope s_law_drawn) := ⟨rfl, rfl, rfl, by decide +kernel, rfl, by decide +kernel, by decide +kernel⟩
abbrev N_law_make : List Str := ["more", "found", "sides", "name", "word"]
theorem sc_law_make : FnScope N_law_make ["more"] (defScope s_law_make) := ⟨rfl, rfl, rfl, by decide +kernel, rfl, by decide +kernel, by decide +kernel⟩
abbrev N_law_pattern : List Str := ["more", "make"]
theorem sc_law_pattern : FnScope N_law_pattern ["more"] (defScope s_law_pattern) := ⟨rfl, rfl, rfl, by decide +kernel, rfl, by decide +kernel, by decide +kernel⟩
abbrev N_law_wishes : List Str := ["more", "found", "j", "here", "code"]
theorem sc_law_wishes : FnScope N_law_wishes ["more"] (defScope s_law_wishes) := ⟨rfl, rfl, rfl, by decide +kernel, rfl, by decide +kernel, by decide +kernel⟩
abbrev N_law_parted : List Str := ["pattern", "head"]
theorem sc_law_parted : FnScope N_law_parted ["pattern"] (defScope s_law_parted) := ⟨rfl, rfl, rfl, by decide +kernel, rfl, by decide +kernel, by decide +kernel⟩
abbrev N_law_fits : List Str := ["pattern", "make", "kind", "form", "sides", "first", "second", "own", "side"]
theorem sc_law_fits : FnScope N_law_fits ["pattern", "make"] (defScope s_law_fits) := ⟨rfl, rfl, rfl, by decide +kernel, rfl, by decide +kernel, by decide +kernel⟩
abbrev N_law_no_makes : List Str := ["found"]
theorem sc_law_no_makes : FnScope N_law_no_makes [] (defScope s_law_no_makes) := ⟨rfl, rfl, rfl, by decide +kernel, rfl, by decide +kernel, by decide +kernel⟩
abbrev N_law_no_wishes : List Str := ["more", "some"]
theorem sc_law_no_wishes : FnScope N_law_no_wishes ["more"] (defScope s_law_no_wishes) := ⟨rfl, rfl, rfl, by decide +kernel, rfl, by decide +kernel, by decide +kernel⟩
abbrev N_law_wishes_right : List Str := ["wishes", "more", "due", "other", "pattern", "weight"]
theorem sc_law_wishes_right : FnScope N_law_wishes_right ["wishes", "more"] (defScope s_law_wishes_right) := ⟨rfl, rfl, rfl, by decide +kernel, rfl, by decide +kernel, by decide +kernel⟩
abbrev N_law : List Str := ["script", "k", "more", "j", "here", "make", "pattern", "told", "none", "some", "bad", "text"]
theorem sc_law : FnScope N_law ["script"] (defScope s_law) := ⟨rfl, rfl, rfl, by decide +kernel, rfl, by decide +kernel, by decide +kernel⟩
abbrev N_law_word : List Str := ["e", "flags"]
theorem sc_law_word : FnScope N_law_word ["e"] (defScope s_law_word) := ⟨rfl, rfl, rfl, by decide +kernel, rfl, by decide +kernel, by decide +kernel⟩
abbrev N_law_told : List Str := ["deed", "e"]
theorem sc_law_told : FnScope N_law_told ["deed"] (defScope s_law_told) := ⟨rfl, rfl, rfl, by decide +kernel, rfl, by decide +kernel, by decide +kernel⟩
/-! ### facts -/
structure Fc (K : PySem.W.Frag) (mg : Str → Option Value) (base : Heap) (T : Tb) : Prop where
  g_mk_need : mg "need" = some (.ref (He.ga K "need"))
  g_is_word : mg "is_word" = some (.ref (He.ga K "is_word"))
  g_sides_of : mg "sides_of" = some (.ref (He.ga K "sides_of"))
  g_parts_of : mg "parts_of" = some (.ref (He.ga K "parts_of"))
  g_need_make : mg "need_make" = some (.ref (He.ga K "need_make"))
  g_is_fit : mg "is_fit" = some (.ref (He.ga K "is_fit"))
  g_fits : mg "fits" = some (.ref (He.ga K "fits"))
  g_need_wishes : mg "need_wishes" = some (.ref (He.ga K "need_wishes"))
  g_written_wishes : mg "written_wishes" = some (.ref (He.ga K "written_wishes"))
  g_read_wishes : mg "read_wishes" = some (.ref (He.ga K "read_wishes"))
  g_closeness : mg "closeness" = some (.ref (He.ga K "closeness"))
  g_weight_for : mg "weight_for" = some (.ref (He.ga K "weight_for"))
  g_weight_of : mg "weight_of" = some (.ref (He.ga K "weight_of"))
  g_law_cell : mg "_law_cell" = some (.ref (He.ga K "_law_cell"))
  g_law_drawn : mg "_law_drawn" = some (.ref (He.ga K "_law_drawn"))
  g_law_word : mg "_law_word" = some (.ref (He.ga K "_law_word"))
  g_law_told : mg "_law_told" = some (.ref (He.ga K "_law_told"))
  g_law_make : mg "_law_make" = some (.ref (He.ga K "_law_make"))
  g_law_pattern : mg "_law_pattern" = some (.ref (He.ga K "_law_pattern"))
  g_law_wishes : mg "_law_wishes" = some (.ref (He.ga K "_law_wishes"))
  g_law_parted : mg "_law_parted" = some (.ref (He.ga K "_law_parted"))
  g_law_fits : mg "_law_fits" = some (.ref (He.ga K "_law_fits"))
  g_law_no_makes : mg "_law_no_makes" = some (.ref (He.ga K "_law_no_makes"))
  g_law_no_wishes : mg "_law_no_wishes" = some (.ref (He.ga K "_law_no_wishes"))
  g_law_wishes_right : mg "_law_wishes_right" = some (.ref (He.ga K "_law_wishes_right"))
  g_law : mg "law" = some (.ref (He.ga K "law"))
  g_BadMake : mg "BadMake" = some (.ref (He.ga K "BadMake"))
  g_BadAnswer : mg "BadAnswer" = some (.ref (He.ga K "BadAnswer"))
  g_BadOffer : mg "BadOffer" = some (.ref (He.ga K "BadOffer"))
  g_BadStep : mg "BadStep" = some (.ref (He.ga K "BadStep"))
  g_BadTurn : mg "BadTurn" = some (.ref (He.ga K "BadTurn"))
  g_LendError : mg "LendError" = some (.ref (He.ga K "LendError"))
  z_len : mg "len" = none
  z_all : mg "all" = none
  z_tuple : mg "tuple" = none
  z_zip : mg "zip" = none
  z_isinstance : mg "isinstance" = none
  z_str : mg "str" = none
  z_int : mg "int" = none
  z_bool : mg "bool" = none
  z_max : mg "max" = none
  z_range : mg "range" = none
  z_min : mg "min" = none
  z_sum : mg "sum" = none
  z_ValueError : mg "ValueError" = none
  i_MOST_WORD : ∃ t, mg "MOST_WORD" = some (.int 10 t)
  i_MOST_SIDE : ∃ t, mg "MOST_SIDE" = some (.int 3 t)
  i_MOST_WISHES : ∃ t, mg "MOST_WISHES" = some (.int 8 t)
  i_MOST_WEIGHT : ∃ t, mg "MOST_WEIGHT" = some (.int 9 t)
  s_SMALL : ∃ t, mg "SMALL" = some (.str "abcdefghijklmnopqrstuvwxyz0123456789" t)
  x_BadMake : PySem.W.excIn K (He.ga K "BadMake") He.veBase "ValueError.__new__" = true ∧ PySem.W.keepIn K (.ref (He.ga K "BadMake")) = true ∧ PySem.W.subIn K (.ref (He.ga K "BadMake")) (.type "BaseException") = some true ∧ PySem.W.typeIn K (.ref (He.ga K "BadMake")) = some (.type "type")
  sw : kRepl K = true
  ex : ExF K
  l_law_wishes_right : TbF K mg base T ("_law_wishes_right", none) "_law_wishes_right.<locals>.<lambda>"
  l_law : TbF K mg base T ("law", none) "law.<locals>.<lambda>"
  d_mk_need : ∃ fd, FunD K "need" "need" (defArgs s_mk_need) (defBody s_mk_need) (defScope s_mk_need) [] [] (He.fAd K ("need", none)) fd
  d_is_word : ∃ fd, FunD K "is_word" "is_word" (defArgs s_is_word) (defBody s_is_word) (defScope s_is_word) [] [] (He.fAd K ("is_word", none)) fd
  d_sides_of : ∃ fd, FunD K "sides_of" "sides_of" (defArgs s_sides_of) (defBody s_sides_of) (defScope s_sides_of) [] [] (He.fAd K ("sides_of", none)) fd
  d_parts_of : ∃ fd, FunD K "parts_of" "parts_of" (defArgs s_parts_of) (defBody s_parts_of) (defScope s_parts_of) [] [] (He.fAd K ("parts_of", none)) fd
  d_need_make : ∃ fd, FunD K "need_make" "need_make" (defArgs s_need_make) (defBody s_need_make) (defScope s_need_make) [] [] (He.fAd K ("need_make", none)) fd
  d_is_fit : ∃ fd, FunD K "is_fit" "is_fit" (defArgs s_is_fit) (defBody s_is_fit) (defScope s_is_fit) [] [] (He.fAd K ("is_fit", none)) fd
  d_fits : ∃ fd, FunD K "fits" "fits" (defArgs s_fits) (defBody s_fits) (defScope s_fits) [] [] (He.fAd K ("fits", none)) fd
  d_need_wishes : ∃ fd, FunD K "need_wishes" "need_wishes" (defArgs s_need_wishes) (defBody s_need_wishes) (defScope s_need_wishes) [] [] (He.fAd K ("need_wishes", none)) fd
  d_written_wishes : ∃ fd, FunD K "written_wishes" "written_wishes" (defArgs s_written_wishes) (defBody s_written_wishes) (defScope s_written_wishes) [] [] (He.fAd K ("written_wishes", none)) fd
  d_read_wishes : ∃ fd, FunD K "read_wishes" "read_wishes" (defArgs s_read_wishes) (defBody s_read_wishes) (defScope s_read_wishes) [] [] (He.fAd K ("read_wishes", none)) fd
  d_closeness : ∃ fd, FunD K "closeness" "closeness" (defArgs s_closeness) (defBody s_closeness) (defScope s_closeness) [] [] (He.fAd K ("closeness", none)) fd
  d_weight_for : ∃ fd, FunD K "weight_for" "weight_for" (defArgs s_weight_for) (defBody s_weight_for) (defScope s_weight_for) [] [] (He.fAd K ("weight_for", none)) fd
  d_weight_of : ∃ fd, FunD K "weight_of" "weight_of" (defArgs s_weight_of) (defBody s_weight_of) (defScope s_weight_of) [] [] (He.fAd K ("weight_of", none)) fd
  d_law_cell : ∃ fd, FunD K "_law_cell" "_law_cell" (defArgs s_law_cell) (defBody s_law_cell) (defScope s_law_cell) [] [] (He.fAd K ("_law_cell", none)) fd
  d_law_drawn : ∃ fd, FunD K "_law_drawn" "_law_drawn" (defArgs s_law_drawn) (defBody s_law_drawn) (defScope s_law_drawn) [] [] (He.fAd K ("_law_drawn", none)) fd
  d_law_make : ∃ fd, FunD K "_law_make" "_law_make" (defArgs s_law_make) (defBody s_law_make) (defScope s_law_make) [] [] (He.fAd K ("_law_make", none)) fd
  d_law_pattern : ∃ fd, FunD K "_law_pattern" "_law_pattern" (defArgs s_law_pattern) (defBody s_law_pattern) (defScope s_law_pattern) [] [] (He.fAd K ("_law_pattern", none)) fd
  d_law_wishes : ∃ fd, FunD K "_law_wishes" "_law_wishes" (defArgs s_law_wishes) (defBody s_law_wishes) (defScope s_law_wishes) [] [] (He.fAd K ("_law_wishes", none)) fd
  d_law_parted : ∃ fd, FunD K "_law_parted" "_law_parted" (defArgs s_law_parted) (defBody s_law_parted) (defScope s_law_parted) [] [] (He.fAd K ("_law_parted", none)) fd
  d_law_fits : ∃ fd, FunD K "_law_fits" "_law_fits" (defArgs s_law_fits) (defBody s_law_fits) (defScope s_law_fits) [] [] (He.fAd K ("_law_fits", none)) fd
  d_law_no_makes : ∃ fd, FunD K "_law_no_makes" "_law_no_makes" (defArgs s_law_no_makes) (defBody s_law_no_makes) (defScope s_law_no_makes) [] [] (He.fAd K ("_law_no_makes", none)) fd
  d_law_no_wishes : ∃ fd, FunD K "_law_no_wishes" "_law_no_wishes" (defArgs s_law_no_wishes) (defBody s_law_no_wishes) (defScope s_law_no_wishes) [] [] (He.fAd K ("_law_no_wishes", none)) fd
  d_law_wishes_right : ∃ fd, FunD K "_law_wishes_right" "_law_wishes_right" (defArgs s_law_wishes_right) (defBody s_law_wishes_right) (defScope s_law_wishes_right) [] [] (He.fAd K ("_law_wishes_right", none)) fd
  d_law : ∃ fd, FunD K "law" "law" (defArgs s_law) (defBody s_law) (defScope s_law) [] [] (He.fAd K ("law", none)) fd
  d_law_word : ∃ fd, FunD K "_law_word" "_law_word" (defArgs s_law_word) (defBody s_law_word) (defScope s_law_word) [] [] (He.fAd K ("_law_word", none)) fd
  d_law_told : ∃ fd, FunD K "_law_told" "_law_told" (defArgs s_law_told) (defBody s_law_told) (defScope s_law_told) [] [] (He.fAd K ("_law_told", none)) fd
/-! ### derivations -/
section
variable {P : Program} {w : World} {K : PySem.W.Frag} {mg : Str → Option Value} {base : Heap} {T : Tb}
theorem told_ok {X : Cx} {T : Tb} {Wx : WX} {me : Ev D} {k : Nat} {params : Arguments} {body : Expr} {scope : Scope} {p lpos pos : Pos} {at_ : Str × Option Str} {nme : Str} (c : Fc X.K X.mg X.base T) (tb : TbF X.K X.mg X.base T at_ nme) (hq : X.env.qual ++ "<lambda>" = nme) (hcode : X.env.code = .ref (He.cT X.K at_).1) (hg : Gl X "_law_told") (hr : Room (k + 2) X.A) (L : LamX.LamS X.env.scope scope) (hdef : defaultsOf params X.env = ([], []))
    (hbind : ∀ (q : Str) (cl : List (Str × Addr)) (pm cv ctv : Value), bindArgs (PySem.W.kla_fn "<lambda>" q params body scope cl pm cv ctv) ⟨[], []⟩ = pure [])
    (hbody : ∀ (A : Around) (outer : List Env) (s : Shared) (H : Hp) (E : XK) (f c' : Addr), Room k (A.deeper (LamX.lamEnv X scope s.heap.objs.size f c')) → SE T (WS E) (lamN X A outer s H E scope f c') body me) :
    SE T Wx X (.Call (.Name "_law_told" p) [.Lambda params body scope lpos] [] pos) (toldM me) := by
  subst hq
  exact so_told (nm := nmW) (CS := He.ga X.K "LendError") (x := "_law_told") (wn := "_law_word") (ev := "e") (Ng := N_law_told) (Nw := N_law_word) c.d_law_told c.d_law_word rfl (fun _ _ _ _ _ _ us hl => match us, hl with | [_], _ => rfl) (fun _ _ _ _ _ _ us hl => match us, hl with | [_], _ => rfl)
    sc_law_told sc_law_word rfl rfl (.inl rfl) rfl rfl rfl rfl hg c.g_law_told c.g_law_word c.g_LendError
    (fun cn hc => by
      simp only [List.mem_cons, List.not_mem_nil, or_false] at hc
      rcases hc with rfl | rfl | rfl | rfl | rfl
      · exact c.ex.le 0 (by decide)
      · exact c.ex.le 1 (by decide)
      · exact c.ex.le 2 (by decide)
      · exact c.ex.le 3 (by decide)
      · exact c.ex.le 4 (by decide))
    (by decide) (by decide) (by decide) (by decide) (by decide) (by decide) (by decide)
    (fun A outer s H cdv b oe j hj hz hf hot hr => word_ok rfl rfl hj c.ex hz hf hot hr (fun i hi => match i, hi with
      | 0, _ => c.g_BadAnswer
      | 1, _ => c.g_BadMake
      | 2, _ => c.g_BadOffer
      | 3, _ => c.g_BadStep
      | 4, _ => c.g_BadTurn) c.z_isinstance c.z_sum c.z_int c.z_ValueError rfl rfl rfl rfl rfl (fun i hi => match i, hi with
      | 0, _ => rfl
      | 1, _ => rfl
      | 2, _ => rfl
      | 3, _ => rfl
      | 4, _ => rfl) (by decide +kernel) (by decide +kernel) rfl (by decide +kernel) rfl rfl)
    tb.tb hcode tb.mem tb.un hr L hdef hbind hbody
theorem ok_mk_need (c : Fc K mg base T) : DefOk P w K mg base T 1 ("need", none) ["good"] m_mk_need := DefOk.pure (
  def_ok (m := b_mk_need) (N := N_mk_need) c.d_mk_need sc_mk_need (fun _ _ _ _ _ _ us hl => match us, hl with | [_], _ => rfl) fun cdv A outer s H E hr tk hp =>
    (ss_one (ss_if (sx_not (sx_tru (so_var (pv 0)))) (ss_one (ss_raise rfl tk c.x_BadMake.1 c.g_BadMake c.x_BadMake.2.1 (raises_own c.x_BadMake.2.2.1 c.x_BadMake.2.2.2) rfl)) ss_nil)))
theorem ok_is_word (c : Fc K mg base T) : DefOk P w K mg base T 1 ("is_word", none) ["text"] m_is_word := DefOk.pure (
  def_ok (m := b_is_word) (N := N_is_word) c.d_is_word sc_is_word (fun _ _ _ _ _ _ us hl => match us, hl with | [_], _ => rfl) fun cdv A outer s H E hr tk hp =>
    (ss_one (ss_ret (so_and (so_chain o_le o_le so_int (so_callB c_len rfl c.z_len bt_len (sa_cons (so_var (pv 0)) sa_nil)) (so_globI rfl c.i_MOST_WORD)) (so_one (so_callB (c_all rfl) rfl c.z_all bt_all (sa_cons (so_comp (own := [("sign", 1)]) rfl sc_is_word.nd (si_str (so_var (pv 0))) (blkOk_by (N := N_is_word) (sc := defScope s_is_word) (own := [("sign", 1)]) (by decide +kernel)) (fun _ _ _ _ _ => (sg_one (i := 1) sc_is_word.nd rfl (by first | exact .inl rfl | exact .inr rfl))) (fun _ _ _ _ _ => st_nil) (fun _ _ _ _ _ => (so_cmp (o_in (u65 hr)) (so_var (pv 1)) (so_globS rfl c.s_SMALL) (by rfl)))) sa_nil)))))))
theorem ok_sides_of (c : Fc K mg base T) : DefOk P w K mg base T 2 ("sides_of", none) ["parts"] m_sides_of := DefOk.pure (
  def_ok (m := b_sides_of) (N := N_sides_of) c.d_sides_of sc_sides_of (fun _ _ _ _ _ _ us hl => match us, hl with | [_], _ => rfl) fun cdv A outer s H E hr tk hp =>
    (ss_cons (ss_asgLc (i := 1) (own := [("part", 3)]) rfl sc_sides_of.nd rfl rfl (sw_true rfl rfl rfl (by decide +kernel)) (si_list (so_var (pv 0))) (blkOk_by (N := N_sides_of) (sc := defScope s_sides_of) (own := [("part", 3)]) (by decide +kernel)) (fun _ _ _ _ _ => (sg_one (i := 3) sc_sides_of.nd rfl (by first | exact .inl rfl | exact .inr rfl))) (fun _ _ _ _ _ => st_nil) (fun _ _ _ _ _ => (so_callTy c_tuple rfl c.z_tuple bt_tuple (sa_cons (so_mt PySem.F.plainAttrs_str PySem.F.slot_str_split PySem.F.type_str_split m_split (so_var (pv 3)) (sa_cons so_str sa_nil)) sa_nil))))
    (ss_cons (ss_if (sx_bool (sw_or (sx_cmp o_gt (so_callB c_len rfl c.z_len bt_len (sa_cons (so_var (pv 1)) sa_nil)) (so_globI rfl c.i_MOST_SIDE) (by rfl)) (sw_or1 (sx_not (sx_tru (so_callB (c_all rfl) rfl c.z_all bt_all (sa_cons (so_comp (own := [("pair", 4)]) rfl sc_sides_of.nd (si_list (so_var (pv 1))) (blkOk_by (N := N_sides_of) (sc := defScope s_sides_of) (own := [("pair", 4)]) (by decide +kernel)) (fun _ _ _ _ _ => (sg_one (i := 4) sc_sides_of.nd rfl (by first | exact .inl rfl | exact .inr rfl))) (fun _ _ _ _ _ => st_nil) (fun _ _ _ _ _ => (so_and (so_cmp (o_eq (u64 hr)) (so_callB c_len rfl c.z_len bt_len (sa_cons (so_var (pv 4)) sa_nil)) so_int (by rfl)) (so_and (so_callD (ok_is_word c) (hr.mono (by decide)) rfl c.g_is_word takesN (sa_cons (so_ix ix_ok (so_var (pv 4)) so_int (fun _ _ => rfl)) sa_nil)) (so_one (so_callD (ok_is_word c) (hr.mono (by decide)) rfl c.g_is_word takesN (sa_cons (so_ix ix_ok (so_var (pv 4)) so_int (fun _ _ => rfl)) sa_nil))))))) sa_nil))))))) (ss_one (ss_ret so_non)) ss_nil)
    (ss_cons (ss_asgLc (i := 2) (own := [("pair", 4)]) rfl sc_sides_of.nd rfl rfl (sw_true rfl rfl rfl (by decide +kernel)) (si_list (so_var (pv 1))) (blkOk_by (N := N_sides_of) (sc := defScope s_sides_of) (own := [("pair", 4)]) (by decide +kernel)) (fun _ _ _ _ _ => (sg_one (i := 4) sc_sides_of.nd rfl (by first | exact .inl rfl | exact .inr rfl))) (fun _ _ _ _ _ => st_nil) (fun _ _ _ _ _ => (so_ix ix_ok (so_var (pv 4)) so_int (fun _ _ => rfl))))
    (ss_one (ss_ret (so_if (sx_tru (so_callB (c_all rfl) rfl c.z_all bt_all (sa_cons (so_comp (own := [("one", 5), ("other", 6)]) rfl sc_sides_of.nd (si_zip rfl c.z_zip (sa_cons (so_var (pv 2)) (sa_cons (so_slice sl_ok (so_var (pv 2)) (sp_some so_int) sp_none) sa_nil))) (blkOk_by (N := N_sides_of) (sc := defScope s_sides_of) (own := [("one", 5), ("other", 6)]) (by decide +kernel)) (fun _ _ _ _ _ => (sg_tup rfl (sgs_cons (sg_one (i := 5) sc_sides_of.nd rfl (by first | exact .inl rfl | exact .inr rfl)) (sgs_cons (sg_one (i := 6) sc_sides_of.nd rfl (by first | exact .inl rfl | exact .inr rfl)) sgs_nil)))) (fun _ _ _ _ _ => st_nil) (fun _ _ _ _ _ => (so_cmp o_lt (so_var (pv 5)) (so_var (pv 6)) (by rfl)))) sa_nil))) (so_var (pv 1)) so_non)))))))
theorem ok_parts_of (c : Fc K mg base T) : DefOk P w K mg base T 3 ("parts_of", none) ["text"] m_parts_of := DefOk.pure (
  def_ok (m := b_parts_of) (N := N_parts_of) c.d_parts_of sc_parts_of (fun _ _ _ _ _ _ us hl => match us, hl with | [_], _ => rfl) fun cdv A outer s H E hr tk hp =>
    (ss_cons (ss_expr (so_callD (ok_mk_need c) (hr.mono (by decide)) rfl c.g_mk_need tk (sa_cons (so_callB c_isi rfl c.z_isinstance bt_isinstance (sa_cons (so_var (pv 0)) (sa_cons (so_bty rfl c.z_str bt_str) sa_nil))) sa_nil)))
    (ss_cons (ss_asg (so_mt PySem.F.plainAttrs_str PySem.F.slot_str_split PySem.F.type_str_split m_split (so_var (pv 0)) (sa_cons so_str sa_nil)) (sg_one (i := 1) sc_parts_of.nd rfl (by first | exact .inl rfl | exact .inr rfl)))
    (ss_cons (ss_asg (so_mt PySem.F.plainAttrs_str PySem.F.slot_str_split PySem.F.type_str_split m_split (so_ix ix_ok (so_var (pv 1)) so_int (fun _ _ => rfl)) (sa_cons so_str sa_nil)) (sg_one (i := 2) sc_parts_of.nd rfl (by first | exact .inl rfl | exact .inr rfl)))
    (ss_cons (ss_asg (so_callD (ok_sides_of c) (hr.mono (by decide)) rfl c.g_sides_of tk (sa_cons (so_slice sl_ok (so_var (pv 1)) (sp_some so_int) sp_none) sa_nil)) (sg_one (i := 3) sc_parts_of.nd rfl (by first | exact .inl rfl | exact .inr rfl)))
    (ss_cons (ss_expr (so_callD (ok_mk_need c) (hr.mono (by decide)) rfl c.g_mk_need tk (sa_cons (so_and (so_cmp (o_eq (u64 hr)) (so_callB c_len rfl c.z_len bt_len (sa_cons (so_var (pv 2)) sa_nil)) so_int (by rfl)) (so_one (so_cmp o_isn (so_var (pv 3)) so_non (by rfl)))) sa_nil)))
    (ss_cons (ss_expr (so_callD (ok_mk_need c) (hr.mono (by decide)) rfl c.g_mk_need tk (sa_cons (so_or (so_callD (ok_is_word c) (hr.mono (by decide)) rfl c.g_is_word tk (sa_cons (so_ix ix_ok (so_var (pv 2)) so_int (fun _ _ => rfl)) sa_nil)) (so_one (so_cmp (o_eq (u64 hr)) (so_var (pv 0)) so_str (by rfl)))) sa_nil)))
    (ss_cons (ss_expr (so_callD (ok_mk_need c) (hr.mono (by decide)) rfl c.g_mk_need tk (sa_cons (so_or (so_callD (ok_is_word c) (hr.mono (by decide)) rfl c.g_is_word tk (sa_cons (so_ix ix_ok (so_var (pv 2)) so_int (fun _ _ => rfl)) sa_nil)) (so_one (so_and (so_cmp (o_eq (u64 hr)) (so_ix ix_ok (so_var (pv 2)) so_int (fun _ _ => rfl)) so_str (by rfl)) (so_one (so_cmp (o_eq (u64 hr)) (so_var (pv 3)) (so_lst sa_nil) (by rfl)))))) sa_nil)))
    (ss_one (ss_ret (so_tup (sa_cons (so_ix ix_ok (so_var (pv 2)) so_int (fun _ _ => rfl)) (sa_cons (so_ix ix_ok (so_var (pv 2)) so_int (fun _ _ => rfl)) (sa_cons (so_var (pv 3)) sa_nil))))))))))))))
theorem ok_need_make (c : Fc K mg base T) : DefOk P w K mg base T 4 ("need_make", none) ["make"] m_need_make := DefOk.pure (
  def_ok (m := b_need_make) (N := N_need_make) c.d_need_make sc_need_make (fun _ _ _ _ _ _ us hl => match us, hl with | [_], _ => rfl) fun cdv A outer s H E hr tk hp =>
    (ss_one (ss_expr (so_callD (ok_mk_need c) (hr.mono (by decide)) rfl c.g_mk_need tk (sa_cons (so_cmp (o_nin (u65 hr)) so_str (so_slice sl_ok (so_callD (ok_parts_of c) (hr.mono (by decide)) rfl c.g_parts_of tk (sa_cons (so_var (pv 0)) sa_nil)) sp_none (sp_some so_int)) (by rfl)) sa_nil)))))
theorem ok_is_fit (c : Fc K mg base T) : DefOk P w K mg base T 4 ("is_fit", none) ["pattern", "make"] m_is_fit := DefOk.pure (
  def_ok (m := b_is_fit) (N := N_is_fit) c.d_is_fit sc_is_fit (fun _ _ _ _ _ _ us hl => match us, hl with | [_, _], _ => rfl) fun cdv A outer s H E hr tk hp =>
    (ss_cons (ss_asg (so_callD (ok_parts_of c) (hr.mono (by decide)) rfl c.g_parts_of tk (sa_cons (so_var (pv 0)) sa_nil)) (sg_tup rfl (sgs_cons (sg_one (i := 2) sc_is_fit.nd rfl (by first | exact .inl rfl | exact .inr rfl)) (sgs_cons (sg_one (i := 3) sc_is_fit.nd rfl (by first | exact .inl rfl | exact .inr rfl)) (sgs_cons (sg_one (i := 4) sc_is_fit.nd rfl (by first | exact .inl rfl | exact .inr rfl)) sgs_nil)))))
    (ss_cons (ss_asg (so_callD (ok_parts_of c) (hr.mono (by decide)) rfl c.g_parts_of tk (sa_cons (so_var (pv 1)) sa_nil)) (sg_one (i := 5) sc_is_fit.nd rfl (by first | exact .inl rfl | exact .inr rfl)))
    (ss_cons (ss_if (sx_bool (sw_or (sx_cmp (o_nin (u65 hr)) (so_var (pv 2)) (so_tup (sa_cons so_str (sa_cons (so_ix ix_ok (so_var (pv 5)) so_int (fun _ _ => rfl)) sa_nil))) (by rfl)) (sw_or1 (sx_cmp (o_nin (u65 hr)) (so_var (pv 3)) (so_tup (sa_cons so_str (sa_cons (so_ix ix_ok (so_var (pv 5)) so_int (fun _ _ => rfl)) sa_nil))) (by rfl))))) (ss_one (ss_ret so_bl)) ss_nil)
    (ss_one (ss_ret (so_callB (c_all rfl) rfl c.z_all bt_all (sa_cons (so_comp (own := [("pair", 6)]) rfl sc_is_fit.nd (si_list (so_var (pv 4))) (blkOk_by (N := N_is_fit) (sc := defScope s_is_fit) (own := [("pair", 6)]) (by decide +kernel)) (fun _ _ _ _ _ => (sg_one (i := 6) sc_is_fit.nd rfl (by first | exact .inl rfl | exact .inr rfl))) (fun _ _ _ _ _ => st_nil) (fun _ _ _ _ _ => (so_cmp (o_in (u65 hr)) (so_var (pv 6)) (so_ix ix_ok (so_var (pv 5)) so_int (fun _ _ => rfl)) (by rfl)))) sa_nil))))))))
theorem ok_fits (c : Fc K mg base T) : DefOk P w K mg base T 5 ("fits", none) ["pattern", "make"] m_fits := DefOk.pure (
  def_ok (m := b_fits) (N := N_fits) c.d_fits sc_fits (fun _ _ _ _ _ _ us hl => match us, hl with | [_, _], _ => rfl) fun cdv A outer s H E hr tk hp =>
    (ss_cons (ss_expr (so_callD (ok_parts_of c) (hr.mono (by decide)) rfl c.g_parts_of tk (sa_cons (so_var (pv 0)) sa_nil)))
    (ss_cons (ss_expr (so_callD (ok_need_make c) (hr.mono (by decide)) rfl c.g_need_make tk (sa_cons (so_var (pv 1)) sa_nil)))
    (ss_one (ss_ret (so_callD (ok_is_fit c) (hr.mono (by decide)) rfl c.g_is_fit tk (sa_cons (so_var (pv 0)) (sa_cons (so_var (pv 1)) sa_nil))))))))
theorem ok_need_wishes (c : Fc K mg base T) : DefOk P w K mg base T 4 ("need_wishes", none) ["wishes"] m_need_wishes := DefOk.pure (
  def_ok (m := b_need_wishes) (N := N_need_wishes) c.d_need_wishes sc_need_wishes (fun _ _ _ _ _ _ us hl => match us, hl with | [_], _ => rfl) fun cdv A outer s H E hr tk hp =>
    (ss_cons (ss_expr (so_callD (ok_mk_need c) (hr.mono (by decide)) rfl c.g_mk_need tk (sa_cons (so_and (so_callB c_isi rfl c.z_isinstance bt_isinstance (sa_cons (so_var (pv 0)) (sa_cons (so_bty rfl c.z_tuple bt_tuple) sa_nil))) (so_one (so_cmp o_le (so_callB c_len rfl c.z_len bt_len (sa_cons (so_var (pv 0)) sa_nil)) (so_globI rfl c.i_MOST_WISHES) (by rfl)))) sa_nil)))
    (ss_one (ss_for hp rfl (si_tup (so_var (pv 0))) (sg_one (i := 1) sc_need_wishes.nd rfl (by first | exact .inl rfl | exact .inr rfl))
    (ss_cons (ss_expr (so_callD (ok_mk_need c) (hr.mono (by decide)) rfl c.g_mk_need tk (sa_cons (so_and (so_callB c_isi rfl c.z_isinstance bt_isinstance (sa_cons (so_var (pv 1)) (sa_cons (so_bty rfl c.z_tuple bt_tuple) sa_nil))) (so_one (so_cmp (o_eq (u64 hr)) (so_callB c_len rfl c.z_len bt_len (sa_cons (so_var (pv 1)) sa_nil)) so_int (by rfl)))) sa_nil)))
    (ss_cons (ss_expr (so_callD (ok_parts_of c) (hr.mono (by decide)) rfl c.g_parts_of tk (sa_cons (so_ix ix_ok (so_var (pv 1)) so_int (fun _ _ => rfl)) sa_nil)))
    (ss_one (ss_expr (so_callD (ok_mk_need c) (hr.mono (by decide)) rfl c.g_mk_need tk (sa_cons (so_and (so_callB c_isi rfl c.z_isinstance bt_isinstance (sa_cons (so_ix ix_ok (so_var (pv 1)) so_int (fun _ _ => rfl)) (sa_cons (so_bty rfl c.z_int bt_int) sa_nil))) (so_and (so_not (so_callB c_isi rfl c.z_isinstance bt_isinstance (sa_cons (so_ix ix_ok (so_var (pv 1)) so_int (fun _ _ => rfl)) (sa_cons (so_bty rfl c.z_bool bt_bool) sa_nil)))) (so_one (so_chain o_le o_le so_int (so_ix ix_ok (so_var (pv 1)) so_int (fun _ _ => rfl)) (so_globI rfl c.i_MOST_WEIGHT))))) sa_nil))))))))))
theorem ok_written_wishes (c : Fc K mg base T) : DefOk P w K mg base T 5 ("written_wishes", none) ["wishes"] m_written_wishes := DefOk.pure (
  def_ok (m := b_written_wishes) (N := N_written_wishes) c.d_written_wishes sc_written_wishes (fun _ _ _ _ _ _ us hl => match us, hl with | [_], _ => rfl) fun cdv A outer s H E hr tk hp =>
    (ss_cons (ss_expr (so_callD (ok_need_wishes c) (hr.mono (by decide)) rfl c.g_need_wishes tk (sa_cons (so_var (pv 0)) sa_nil)))
    (ss_one (ss_ret (so_mt PySem.F.plainAttrs_str PySem.F.slot_str_join PySem.F.type_str_join m_join so_str (sa_cons (so_comp (own := [("pattern", 1), ("weight", 2)]) rfl sc_written_wishes.nd (si_tup (so_var (pv 0))) (blkOk_by (N := N_written_wishes) (sc := defScope s_written_wishes) (own := [("pattern", 1), ("weight", 2)]) (by decide +kernel)) (fun _ _ _ _ _ => (sg_tup rfl (sgs_cons (sg_one (i := 1) sc_written_wishes.nd rfl (by first | exact .inl rfl | exact .inr rfl)) (sgs_cons (sg_one (i := 2) sc_written_wishes.nd rfl (by first | exact .inl rfl | exact .inr rfl)) sgs_nil)))) (fun _ _ _ _ _ => st_nil) (fun _ _ _ _ _ => (so_bin o_add (so_bin o_add (so_var (pv 1)) so_str) (so_callTy c_str rfl c.z_str bt_str (sa_cons (so_var (pv 2)) sa_nil))))) sa_nil))))))
theorem ok_read_wishes (c : Fc K mg base T) : DefOk P w K mg base T 5 ("read_wishes", none) ["text"] m_read_wishes := DefOk.pure (
  def_ok (m := b_read_wishes) (N := N_read_wishes) c.d_read_wishes sc_read_wishes (fun _ _ _ _ _ _ us hl => match us, hl with | [_], _ => rfl) fun cdv A outer s H E hr tk hp =>
    (ss_cons (ss_asg (so_lstC sa_nil) (sg_one (i := 1) sc_read_wishes.nd rfl (by first | exact .inl rfl | exact .inr rfl)))
    (ss_cons (ss_for hp rfl (si_list (so_if (sx_cmp (o_ne (u64 hr)) (so_mt PySem.F.plainAttrs_str PySem.F.slot_str_strip PySem.F.type_str_strip m_stripC (so_var (pv 0)) (sa_cons so_str sa_nil)) so_str (by rfl)) (so_mt PySem.F.plainAttrs_str PySem.F.slot_str_split PySem.F.type_str_split m_split (so_var (pv 0)) (sa_cons so_str sa_nil)) (so_lst sa_nil))) (sg_one (i := 2) sc_read_wishes.nd rfl (by first | exact .inl rfl | exact .inr rfl))
    (ss_cons (ss_asgLc (i := 3) (own := [("word", 4)]) rfl sc_read_wishes.nd rfl rfl (sw_true rfl rfl rfl (by decide +kernel)) (si_list (so_mt PySem.F.plainAttrs_str PySem.F.slot_str_split PySem.F.type_str_split m_split (so_var (pv 2)) (sa_cons so_str sa_nil))) (blkOk_by (N := N_read_wishes) (sc := defScope s_read_wishes) (own := [("word", 4)]) (by decide +kernel)) (fun _ _ _ _ _ => (sg_one (i := 4) sc_read_wishes.nd rfl (by first | exact .inl rfl | exact .inr rfl))) (fun _ _ _ _ _ => (st_one (sx_cmp (o_ne (u64 hr)) (so_var (pv 4)) so_str (by rfl)))) (fun _ _ _ _ _ => (so_var (pv 4))))
    (ss_cons (ss_expr (so_callD (ok_mk_need c) (hr.mono (by decide)) rfl c.g_mk_need tk (sa_cons (so_and (so_cmp (o_eq (u64 hr)) (so_callB c_len rfl c.z_len bt_len (sa_cons (so_var (pv 3)) sa_nil)) so_int (by rfl)) (so_and (so_cmp (o_eq (u64 hr)) (so_callB c_len rfl c.z_len bt_len (sa_cons (so_ix ix_ok (so_var (pv 3)) so_int (fun _ _ => rfl)) sa_nil)) so_int (by rfl)) (so_one (so_cmp (o_in (u65 hr)) (so_ix ix_ok (so_var (pv 3)) so_int (fun _ _ => rfl)) so_str (by rfl))))) sa_nil)))
    (ss_one (ss_expr (so_mt PySem.F.plainAttrs_list PySem.F.slot_list_append PySem.F.type_list_append m_append (so_var (pv 1)) (sa_cons (so_tup (sa_cons (so_ix ix_ok (so_var (pv 3)) so_int (fun _ _ => rfl)) (sa_cons (so_callTy c_int rfl c.z_int bt_int (sa_cons (so_ix ix_ok (so_var (pv 3)) so_int (fun _ _ => rfl)) sa_nil)) sa_nil))) sa_nil)))))))
    (ss_cons (ss_expr (so_callD (ok_need_wishes c) (hr.mono (by decide)) rfl c.g_need_wishes tk (sa_cons (so_callTy c_tuple rfl c.z_tuple bt_tuple (sa_cons (so_var (pv 1)) sa_nil)) sa_nil)))
    (ss_one (ss_ret (so_callTy c_tuple rfl c.z_tuple bt_tuple (sa_cons (so_var (pv 1)) sa_nil))))))))
theorem ok_closeness (c : Fc K mg base T) : DefOk P w K mg base T 4 ("closeness", none) ["pattern"] m_closeness := DefOk.pure (
  def_ok (m := b_closeness) (N := N_closeness) c.d_closeness sc_closeness (fun _ _ _ _ _ _ us hl => match us, hl with | [_], _ => rfl) fun cdv A outer s H E hr tk hp =>
    (ss_cons (ss_asg (so_callD (ok_parts_of c) (hr.mono (by decide)) rfl c.g_parts_of tk (sa_cons (so_var (pv 0)) sa_nil)) (sg_tup rfl (sgs_cons (sg_one (i := 1) sc_closeness.nd rfl (by first | exact .inl rfl | exact .inr rfl)) (sgs_cons (sg_one (i := 2) sc_closeness.nd rfl (by first | exact .inl rfl | exact .inr rfl)) (sgs_cons (sg_one (i := 3) sc_closeness.nd rfl (by first | exact .inl rfl | exact .inr rfl)) sgs_nil)))))
    (ss_cons (ss_if (sx_cmp (o_eq (u64 hr)) (so_var (pv 2)) so_str (by rfl)) (ss_one (ss_ret (so_if (sx_cmp (o_eq (u64 hr)) (so_var (pv 1)) so_str (by rfl)) so_int so_int))) ss_nil)
    (ss_one (ss_ret (so_bin o_add so_int (so_callB c_len rfl c.z_len bt_len (sa_cons (so_var (pv 3)) sa_nil))))))))
theorem ok_weight_for (c : Fc K mg base T) : DefOk P w K mg base T 5 ("weight_for", none) ["wishes", "make"] m_weight_for := DefOk.pure (
  def_ok (m := b_weight_for) (N := N_weight_for) c.d_weight_for sc_weight_for (fun _ _ _ _ _ _ us hl => match us, hl with | [_, _], _ => rfl) fun cdv A outer s H E hr tk hp =>
    (ss_cons (ss_asgLc (i := 2) (own := [("wish", 4)]) rfl sc_weight_for.nd rfl rfl (sw_true rfl rfl rfl (by decide +kernel)) (si_tup (so_var (pv 0))) (blkOk_by (N := N_weight_for) (sc := defScope s_weight_for) (own := [("wish", 4)]) (by decide +kernel)) (fun _ _ _ _ _ => (sg_one (i := 4) sc_weight_for.nd rfl (by first | exact .inl rfl | exact .inr rfl))) (fun _ _ _ _ _ => (st_one (sx_tru (so_callD (ok_is_fit c) (hr.mono (by decide)) rfl c.g_is_fit takesN (sa_cons (so_ix ix_ok (so_var (pv 4)) so_int (fun _ _ => rfl)) (sa_cons (so_var (pv 1)) sa_nil)))))) (fun _ _ _ _ _ => (so_var (pv 4))))
    (ss_cons (ss_if (sx_cmp (o_eq (u64 hr)) (so_var (pv 2)) (so_lst sa_nil) (by rfl)) (ss_one (ss_ret so_int)) ss_nil)
    (ss_cons (ss_asg (so_callB (c_max rfl) rfl c.z_max bt_max (sa_cons (so_comp (own := [("pattern", 5), ("weight", 6)]) rfl sc_weight_for.nd (si_list (so_var (pv 2))) (blkOk_by (N := N_weight_for) (sc := defScope s_weight_for) (own := [("pattern", 5), ("weight", 6)]) (by decide +kernel)) (fun _ _ _ _ _ => (sg_tup rfl (sgs_cons (sg_one (i := 5) sc_weight_for.nd rfl (by first | exact .inl rfl | exact .inr rfl)) (sgs_cons (sg_one (i := 6) sc_weight_for.nd rfl (by first | exact .inl rfl | exact .inr rfl)) sgs_nil)))) (fun _ _ _ _ _ => st_nil) (fun _ _ _ _ _ => (so_callD (ok_closeness c) (hr.mono (by decide)) rfl c.g_closeness takesN (sa_cons (so_var (pv 5)) sa_nil)))) sa_nil)) (sg_one (i := 3) sc_weight_for.nd rfl (by first | exact .inl rfl | exact .inr rfl)))
    (ss_one (ss_ret (so_ix ix_ok (so_comp (own := [("pattern", 5), ("weight", 6)]) rfl sc_weight_for.nd (si_list (so_var (pv 2))) (blkOk_by (N := N_weight_for) (sc := defScope s_weight_for) (own := [("pattern", 5), ("weight", 6)]) (by decide +kernel)) (fun _ _ _ _ _ => (sg_tup rfl (sgs_cons (sg_one (i := 5) sc_weight_for.nd rfl (by first | exact .inl rfl | exact .inr rfl)) (sgs_cons (sg_one (i := 6) sc_weight_for.nd rfl (by first | exact .inl rfl | exact .inr rfl)) sgs_nil)))) (fun _ _ _ _ _ => (st_one (sx_cmp (o_eq (u64 hr)) (so_callD (ok_closeness c) (hr.mono (by decide)) rfl c.g_closeness takesN (sa_cons (so_var (pv 5)) sa_nil)) (so_var (pv 3)) (by rfl)))) (fun _ _ _ _ _ => (so_var (pv 6)))) so_int (fun _ _ => rfl))))))))
theorem ok_weight_of (c : Fc K mg base T) : DefOk P w K mg base T 6 ("weight_of", none) ["wishes", "make"] m_weight_of := DefOk.pure (
  def_ok (m := b_weight_of) (N := N_weight_of) c.d_weight_of sc_weight_of (fun _ _ _ _ _ _ us hl => match us, hl with | [_, _], _ => rfl) fun cdv A outer s H E hr tk hp =>
    (ss_cons (ss_expr (so_callD (ok_need_wishes c) (hr.mono (by decide)) rfl c.g_need_wishes tk (sa_cons (so_var (pv 0)) sa_nil)))
    (ss_cons (ss_expr (so_callD (ok_need_make c) (hr.mono (by decide)) rfl c.g_need_make tk (sa_cons (so_var (pv 1)) sa_nil)))
    (ss_one (ss_ret (so_callD (ok_weight_for c) (hr.mono (by decide)) rfl c.g_weight_for tk (sa_cons (so_var (pv 0)) (sa_cons (so_var (pv 1)) sa_nil))))))))
theorem ok_law_cell (c : Fc K mg base T) : DefOk P w K mg base T 1 ("_law_cell", none) ["script", "k"] m_law_cell := DefOk.pure (
  def_ok (m := b_law_cell) (N := N_law_cell) c.d_law_cell sc_law_cell (fun _ _ _ _ _ _ us hl => match us, hl with | [_, _], _ => rfl) fun cdv A outer s H E hr tk hp =>
    (ss_cons (ss_if (sx_cmp (o_eq (u64 hr)) (so_var (pv 0)) (so_lst sa_nil) (by rfl)) (ss_one (ss_ret (so_bin o_mul (so_var (pv 1)) so_int))) ss_nil)
    (ss_one (ss_ret (so_bin o_add (so_ix ix_ok (so_var (pv 0)) (so_bin o_mod (so_var (pv 1)) (so_callB c_len rfl c.z_len bt_len (sa_cons (so_var (pv 0)) sa_nil))) (fun _ _ => rfl)) (so_bin o_mul (so_bin o_div (so_var (pv 1)) (so_callB c_len rfl c.z_len bt_len (sa_cons (so_var (pv 0)) sa_nil))) so_int))))))
theorem ok_law_drawn (c : Fc K mg base T) : DefOk P w K mg base T 1 ("_law_drawn", none) ["cell", "k"] m_law_drawn := DefOk.pure (
  def_ok (m := b_law_drawn) (N := N_law_drawn) c.d_law_drawn sc_law_drawn (fun _ _ _ _ _ _ us hl => match us, hl with | [_, _], _ => rfl) fun cdv A outer s H E hr tk hp =>
    (ss_cons (ss_asg (so_bin o_mod (so_bin o_add (so_bin o_mul (so_var (pv 0)) so_int) (so_bin o_mul (so_bin o_add (so_var (pv 1)) so_int) so_int)) so_int) (sg_one (i := 2) sc_law_drawn.nd rfl (by first | exact .inl rfl | exact .inr rfl)))
    (ss_cons (ss_asg (so_bin o_mod (so_bin o_mul (so_var (pv 2)) (so_var (pv 2))) so_int) (sg_one (i := 2) sc_law_drawn.nd rfl (by first | exact .inl rfl | exact .inr rfl)))
    (ss_cons (ss_asg (so_bin o_mul (so_bin o_mul (so_bin o_add (so_bin o_mod (so_var (pv 2)) so_int) so_int) (so_bin o_add (so_bin o_div (so_var (pv 2)) so_int) so_int)) (so_var (pv 2))) (sg_one (i := 2) sc_law_drawn.nd rfl (by first | exact .inl rfl | exact .inr rfl)))
    (ss_one (ss_ret (so_bin o_mod (so_var (pv 2)) so_int)))))))
theorem ok_law_make (c : Fc K mg base T) : DefOk P w K mg base T 1 ("_law_make", none) ["more"] m_law_make := DefOk.pure (
  def_ok (m := b_law_make) (N := N_law_make) c.d_law_make sc_law_make (fun _ _ _ _ _ _ us hl => match us, hl with | [_], _ => rfl) fun cdv A outer s H E hr tk hp =>
    (ss_cons (ss_asg (so_bin o_add (so_bin o_add (so_ix ix_ok (so_lst (sa_cons so_str (sa_cons so_str (sa_cons so_str (sa_cons so_str sa_nil))))) (so_bin o_mod (so_var (pv 0)) so_int) (fun _ _ => rfl)) so_str) (so_ix ix_ok (so_lst (sa_cons so_str (sa_cons so_str (sa_cons so_str (sa_cons so_str sa_nil))))) (so_bin o_mod (so_bin o_div (so_var (pv 0)) so_int) so_int) (fun _ _ => rfl))) (sg_one (i := 1) sc_law_make.nd rfl (by first | exact .inl rfl | exact .inr rfl)))
    (ss_cons (ss_asg (so_lstC (sa_cons (so_lst sa_nil) (sa_cons (so_lst sa_nil) (sa_cons (so_lst (sa_cons (so_tup (sa_cons so_str (sa_cons so_str sa_nil))) sa_nil)) (sa_cons (so_lst (sa_cons (so_tup (sa_cons so_str (sa_cons so_str sa_nil))) sa_nil)) (sa_cons (so_lst (sa_cons (so_tup (sa_cons so_str (sa_cons so_str sa_nil))) (sa_cons (so_tup (sa_cons so_str (sa_cons so_str sa_nil))) sa_nil))) sa_nil)))))) (sg_one (i := 2) sc_law_make.nd rfl (by first | exact .inl rfl | exact .inr rfl)))
    (ss_cons (ss_expr (so_mt PySem.F.plainAttrs_list PySem.F.slot_list_append PySem.F.type_list_append m_append (so_var (pv 2)) (sa_cons (so_lst (sa_cons (so_tup (sa_cons so_str (sa_cons so_str sa_nil))) (sa_cons (so_tup (sa_cons so_str (sa_cons so_str sa_nil))) (sa_cons (so_tup (sa_cons so_str (sa_cons so_str sa_nil))) sa_nil)))) sa_nil)))
    (ss_cons (ss_for hp rfl (si_list (so_ix ix_ok (so_var (pv 2)) (so_bin o_mod (so_bin o_div (so_var (pv 0)) so_int) so_int) (fun _ _ => rfl))) (sg_tup rfl (sgs_cons (sg_one (i := 3) sc_law_make.nd rfl (by first | exact .inl rfl | exact .inr rfl)) (sgs_cons (sg_one (i := 4) sc_law_make.nd rfl (by first | exact .inl rfl | exact .inr rfl)) sgs_nil)))
    (ss_one (ss_asg (so_bin o_add (so_bin o_add (so_bin o_add (so_bin o_add (so_var (pv 1)) so_str) (so_var (pv 3))) so_str) (so_var (pv 4))) (sg_one (i := 1) sc_law_make.nd rfl (by first | exact .inl rfl | exact .inr rfl)))))
    (ss_one (ss_ret (so_var (pv 1)))))))))
theorem ok_law_pattern (c : Fc K mg base T) : DefOk P w K mg base T 2 ("_law_pattern", none) ["more"] m_law_pattern := DefOk.pure (
  def_ok (m := b_law_pattern) (N := N_law_pattern) c.d_law_pattern sc_law_pattern (fun _ _ _ _ _ _ us hl => match us, hl with | [_], _ => rfl) fun cdv A outer s H E hr tk hp =>
    (ss_cons (ss_asg (so_callD (ok_law_make c) (hr.mono (by decide)) rfl c.g_law_make tk (sa_cons (so_bin o_div (so_var (pv 0)) so_int) sa_nil)) (sg_one (i := 1) sc_law_pattern.nd rfl (by first | exact .inl rfl | exact .inr rfl)))
    (ss_cons (ss_if (sx_cmp (o_eq (u64 hr)) (so_bin o_mod (so_var (pv 0)) so_int) so_int (by rfl)) (ss_one (ss_ret so_str)) ss_nil)
    (ss_cons (ss_if (sx_bool (sw_and (sx_cmp (o_eq (u64 hr)) (so_bin o_mod (so_var (pv 0)) so_int) so_int (by rfl)) (sw_and1 (sx_cmp (o_in (u65 hr)) so_str (so_var (pv 1)) (by rfl))))) (ss_one (ss_ret (so_bin o_add (so_bin o_add (so_ix ix_ok (so_mt PySem.F.plainAttrs_str PySem.F.slot_str_split PySem.F.type_str_split m_split (so_var (pv 1)) (sa_cons so_str sa_nil)) so_int (fun _ _ => rfl)) so_str) (so_ix ix_ok (so_mt PySem.F.plainAttrs_str PySem.F.slot_str_split PySem.F.type_str_split m_split (so_var (pv 1)) (sa_cons so_str sa_nil)) (so_neg so_int) (fun _ _ => rfl))))) ss_nil)
    (ss_one (ss_ret (so_if (sx_cmp (o_eq (u64 hr)) (so_bin o_mod (so_var (pv 0)) so_int) so_int (by rfl)) (so_bin o_add (so_ix ix_ok (so_mt PySem.F.plainAttrs_str PySem.F.slot_str_split PySem.F.type_str_split m_split (so_var (pv 1)) (sa_cons so_str sa_nil)) so_int (fun _ _ => rfl)) so_str) (so_var (pv 1)))))))))
theorem ok_law_wishes (c : Fc K mg base T) : DefOk P w K mg base T 3 ("_law_wishes", none) ["more"] m_law_wishes := DefOk.pure (
  def_ok (m := b_law_wishes) (N := N_law_wishes) c.d_law_wishes sc_law_wishes (fun _ _ _ _ _ _ us hl => match us, hl with | [_], _ => rfl) fun cdv A outer s H E hr tk hp =>
    (ss_cons (ss_asg (so_lstC sa_nil) (sg_one (i := 1) sc_law_wishes.nd rfl (by first | exact .inl rfl | exact .inr rfl)))
    (ss_cons (ss_for hp rfl (si_range1 rfl c.z_range (sa_cons (so_bin o_mod (so_var (pv 0)) so_int) sa_nil)) (sg_one (i := 2) sc_law_wishes.nd rfl (by first | exact .inl rfl | exact .inr rfl))
    (ss_cons (ss_asg (so_callD (ok_law_drawn c) (hr.mono (by decide)) rfl c.g_law_drawn tk (sa_cons (so_var (pv 0)) (sa_cons (so_var (pv 2)) sa_nil))) (sg_one (i := 3) sc_law_wishes.nd rfl (by first | exact .inl rfl | exact .inr rfl)))
    (ss_cons (ss_asg (so_bin o_div (so_var (pv 3)) so_int) (sg_one (i := 4) sc_law_wishes.nd rfl (by first | exact .inl rfl | exact .inr rfl)))
    (ss_cons (ss_if (sx_cmp (o_eq (u64 hr)) (so_bin o_mod (so_bin o_div (so_var (pv 3)) so_int) so_int) so_int (by rfl)) (ss_one (ss_asg (so_bin o_add (so_bin o_mul (so_bin o_div (so_var (pv 0)) (so_bin o_pow so_int so_int)) so_int) (so_bin o_mod (so_bin o_div (so_var (pv 3)) so_int) so_int)) (sg_one (i := 4) sc_law_wishes.nd rfl (by first | exact .inl rfl | exact .inr rfl)))) ss_nil)
    (ss_one (ss_expr (so_mt PySem.F.plainAttrs_list PySem.F.slot_list_append PySem.F.type_list_append m_append (so_var (pv 1)) (sa_cons (so_tup (sa_cons (so_callD (ok_law_pattern c) (hr.mono (by decide)) rfl c.g_law_pattern tk (sa_cons (so_var (pv 4)) sa_nil)) (sa_cons (so_ix ix_ok (so_lst (sa_cons so_int (sa_cons so_int (sa_cons so_int (sa_cons so_int (sa_cons (so_bin o_mod (so_bin o_div (so_var (pv 3)) so_int) so_int) sa_nil)))))) (so_bin o_mod (so_var (pv 3)) so_int) (fun _ _ => rfl)) sa_nil))) sa_nil))))))))
    (ss_one (ss_ret (so_callTy c_tuple rfl c.z_tuple bt_tuple (sa_cons (so_var (pv 1)) sa_nil)))))))
theorem ok_law_parted (c : Fc K mg base T) : DefOk P w K mg base T 1 ("_law_parted", none) ["pattern"] m_law_parted := DefOk.pure (
  def_ok (m := b_law_parted) (N := N_law_parted) c.d_law_parted sc_law_parted (fun _ _ _ _ _ _ us hl => match us, hl with | [_], _ => rfl) fun cdv A outer s H E hr tk hp =>
    (ss_cons (ss_asg (so_mt PySem.F.plainAttrs_str PySem.F.slot_str_split PySem.F.type_str_split m_split (so_ix ix_ok (so_mt PySem.F.plainAttrs_str PySem.F.slot_str_split PySem.F.type_str_split m_split (so_var (pv 0)) (sa_cons so_str sa_nil)) so_int (fun _ _ => rfl)) (sa_cons so_str sa_nil)) (sg_one (i := 1) sc_law_parted.nd rfl (by first | exact .inl rfl | exact .inr rfl)))
    (ss_one (ss_ret (so_tup (sa_cons (so_ix ix_ok (so_var (pv 1)) so_int (fun _ _ => rfl)) (sa_cons (so_ix ix_ok (so_var (pv 1)) so_int (fun _ _ => rfl)) (sa_cons (so_slice sl_ok (so_mt PySem.F.plainAttrs_str PySem.F.slot_str_split PySem.F.type_str_split m_split (so_var (pv 0)) (sa_cons so_str sa_nil)) (sp_some so_int) sp_none) sa_nil))))))))
theorem ok_law_fits (c : Fc K mg base T) : DefOk P w K mg base T 2 ("_law_fits", none) ["pattern", "make"] m_law_fits := DefOk.pure (
  def_ok (m := b_law_fits) (N := N_law_fits) c.d_law_fits sc_law_fits (fun _ _ _ _ _ _ us hl => match us, hl with | [_, _], _ => rfl) fun cdv A outer s H E hr tk hp =>
    (ss_cons (ss_asg (so_callD (ok_law_parted c) (hr.mono (by decide)) rfl c.g_law_parted tk (sa_cons (so_var (pv 0)) sa_nil)) (sg_tup rfl (sgs_cons (sg_one (i := 2) sc_law_fits.nd rfl (by first | exact .inl rfl | exact .inr rfl)) (sgs_cons (sg_one (i := 3) sc_law_fits.nd rfl (by first | exact .inl rfl | exact .inr rfl)) (sgs_cons (sg_one (i := 4) sc_law_fits.nd rfl (by first | exact .inl rfl | exact .inr rfl)) sgs_nil)))))
    (ss_cons (ss_asg (so_callD (ok_law_parted c) (hr.mono (by decide)) rfl c.g_law_parted tk (sa_cons (so_var (pv 1)) sa_nil)) (sg_tup rfl (sgs_cons (sg_one (i := 5) sc_law_fits.nd rfl (by first | exact .inl rfl | exact .inr rfl)) (sgs_cons (sg_one (i := 6) sc_law_fits.nd rfl (by first | exact .inl rfl | exact .inr rfl)) (sgs_cons (sg_one (i := 7) sc_law_fits.nd rfl (by first | exact .inl rfl | exact .inr rfl)) sgs_nil)))))
    (ss_cons (ss_if (sx_bool (sw_or (sx_bool (sw_and (sx_cmp (o_ne (u64 hr)) (so_var (pv 2)) so_str (by rfl)) (sw_and1 (sx_cmp (o_ne (u64 hr)) (so_var (pv 2)) (so_var (pv 5)) (by rfl))))) (sw_or1 (sx_bool (sw_and (sx_cmp (o_ne (u64 hr)) (so_var (pv 3)) so_str (by rfl)) (sw_and1 (sx_cmp (o_ne (u64 hr)) (so_var (pv 3)) (so_var (pv 6)) (by rfl)))))))) (ss_one (ss_ret so_bl)) ss_nil)
    (ss_one (ss_ret (so_callB (c_all rfl) rfl c.z_all bt_all (sa_cons (so_comp (own := [("side", 8)]) rfl sc_law_fits.nd (si_list (so_var (pv 4))) (blkOk_by (N := N_law_fits) (sc := defScope s_law_fits) (own := [("side", 8)]) (by decide +kernel)) (fun _ _ _ _ _ => (sg_one (i := 8) sc_law_fits.nd rfl (by first | exact .inl rfl | exact .inr rfl))) (fun _ _ _ _ _ => st_nil) (fun _ _ _ _ _ => (so_cmp (o_in (u65 hr)) (so_var (pv 8)) (so_var (pv 7)) (by rfl)))) sa_nil))))))))
theorem ok_law_no_makes (c : Fc K mg base T) : DefOk P w K mg base T 1 ("_law_no_makes", none) [] m_law_no_makes := DefOk.pure (
  def_ok (m := b_law_no_makes) (N := N_law_no_makes) c.d_law_no_makes sc_law_no_makes (fun _ _ _ _ _ _ us hl => match us, hl with | [], _ => rfl) fun cdv A outer s H E hr tk hp =>
    (ss_cons (ss_asg (so_lst (sa_cons so_str (sa_cons so_str (sa_cons so_str (sa_cons so_str (sa_cons so_str (sa_cons so_str (sa_cons so_str (sa_cons so_str (sa_cons so_str (sa_cons so_str (sa_cons so_str sa_nil)))))))))))) (sg_one (i := 0) sc_law_no_makes.nd rfl (by first | exact .inl rfl | exact .inr rfl)))
    (ss_cons (ss_asg (so_bin o_add (so_var (pv 0)) (so_lst (sa_cons so_str (sa_cons so_str (sa_cons so_str sa_nil))))) (sg_one (i := 0) sc_law_no_makes.nd rfl (by first | exact .inl rfl | exact .inr rfl)))
    (ss_cons (ss_asg (so_bin o_add (so_var (pv 0)) (so_lst (sa_cons so_str (sa_cons so_str (sa_cons so_str (sa_cons so_str sa_nil)))))) (sg_one (i := 0) sc_law_no_makes.nd rfl (by first | exact .inl rfl | exact .inr rfl)))
    (ss_cons (ss_asg (so_bin o_add (so_var (pv 0)) (so_lst (sa_cons so_str (sa_cons so_str (sa_cons so_str sa_nil))))) (sg_one (i := 0) sc_law_no_makes.nd rfl (by first | exact .inl rfl | exact .inr rfl)))
    (ss_one (ss_ret (so_bin o_add (so_var (pv 0)) (so_lst (sa_cons so_non (sa_cons so_int (sa_cons (so_tup (sa_cons so_str (sa_cons so_str sa_nil))) (sa_cons so_str (sa_cons so_str (sa_cons so_str sa_nil)))))))))))))))
theorem ok_law_no_wishes (c : Fc K mg base T) : DefOk P w K mg base T 1 ("_law_no_wishes", none) ["more"] m_law_no_wishes := DefOk.pure (
  def_ok (m := b_law_no_wishes) (N := N_law_no_wishes) c.d_law_no_wishes sc_law_no_wishes (fun _ _ _ _ _ _ us hl => match us, hl with | [_], _ => rfl) fun cdv A outer s H E hr tk hp =>
    (ss_cons (ss_asg (so_lst (sa_cons so_non (sa_cons (so_lst sa_nil) (sa_cons (so_bin o_mul (so_tup (sa_cons (so_tup (sa_cons so_str (sa_cons so_int sa_nil))) sa_nil)) so_int) (sa_cons (so_tup (sa_cons (so_tup (sa_cons so_str sa_nil)) sa_nil)) (sa_cons (so_tup (sa_cons (so_tup (sa_cons so_str (sa_cons so_int (sa_cons so_int sa_nil)))) sa_nil)) (sa_cons (so_tup (sa_cons (so_tup (sa_cons so_str (sa_cons (so_neg so_int) sa_nil))) sa_nil)) sa_nil))))))) (sg_one (i := 1) sc_law_no_wishes.nd rfl (by first | exact .inl rfl | exact .inr rfl)))
    (ss_cons (ss_asg (so_bin o_add (so_var (pv 1)) (so_lst (sa_cons (so_tup (sa_cons (so_tup (sa_cons so_str (sa_cons so_int sa_nil))) sa_nil)) (sa_cons (so_tup (sa_cons (so_tup (sa_cons so_str (sa_cons so_bl sa_nil))) sa_nil)) sa_nil)))) (sg_one (i := 1) sc_law_no_wishes.nd rfl (by first | exact .inl rfl | exact .inr rfl)))
    (ss_cons (ss_asg (so_bin o_add (so_var (pv 1)) (so_lst (sa_cons (so_tup (sa_cons (so_tup (sa_cons so_str (sa_cons so_non sa_nil))) sa_nil)) (sa_cons (so_tup (sa_cons (so_tup (sa_cons so_str (sa_cons so_int sa_nil))) sa_nil)) (sa_cons (so_tup (sa_cons (so_tup (sa_cons so_str (sa_cons so_int sa_nil))) sa_nil)) (sa_cons (so_tup (sa_cons (so_tup (sa_cons so_str (sa_cons so_int sa_nil))) sa_nil)) sa_nil)))))) (sg_one (i := 1) sc_law_no_wishes.nd rfl (by first | exact .inl rfl | exact .inr rfl)))
    (ss_cons (ss_asg (so_bin o_add (so_var (pv 1)) (so_lst (sa_cons (so_tup (sa_cons (so_tup (sa_cons so_str (sa_cons so_int sa_nil))) sa_nil)) (sa_cons (so_tup (sa_cons (so_tup (sa_cons so_str (sa_cons so_int sa_nil))) sa_nil)) (sa_cons (so_tup (sa_cons so_non sa_nil)) sa_nil))))) (sg_one (i := 1) sc_law_no_wishes.nd rfl (by first | exact .inl rfl | exact .inr rfl)))
    (ss_cons (ss_asg (so_bin o_add (so_var (pv 1)) (so_lst (sa_cons (so_tup (sa_cons (so_lst (sa_cons so_str (sa_cons so_int sa_nil))) sa_nil)) (sa_cons (so_tup (sa_cons (so_tup (sa_cons so_non (sa_cons so_int sa_nil))) sa_nil)) (sa_cons (so_tup (sa_cons so_str sa_nil)) (sa_cons (so_tup (sa_cons (so_tup (sa_cons so_str (sa_cons so_str sa_nil))) sa_nil)) sa_nil)))))) (sg_one (i := 1) sc_law_no_wishes.nd rfl (by first | exact .inl rfl | exact .inr rfl)))
    (ss_one (ss_ret (so_ix ix_ok (so_var (pv 1)) (so_bin o_mod (so_var (pv 0)) (so_callB c_len rfl c.z_len bt_len (sa_cons (so_var (pv 1)) sa_nil))) (fun _ _ => rfl))))))))))
theorem ok_law_wishes_right (c : Fc K mg base T) : DefOk P w K mg base T 8 ("_law_wishes_right", none) ["wishes", "more"] m_law_wishes_right := DefOk.pure (
  def_okL (m := b_law_wishes_right) (N := N_law_wishes_right) c.d_law_wishes_right sc_law_wishes_right (fun _ _ _ _ _ _ us hl => match us, hl with | [_, _], _ => rfl) fun cdv A outer s H E hcd hr tk hp =>
    (sss_asgT (ser_mt PySem.F.plainAttrs_str PySem.F.slot_str_join PySem.F.type_str_join m_join (sa_cons (so_comp (own := [("pattern", 4), ("weight", 5)]) rfl sc_law_wishes_right.nd (si_tup (so_var (pv 0))) (blkOk_by (N := N_law_wishes_right) (sc := defScope s_law_wishes_right) (own := [("pattern", 4), ("weight", 5)]) (by decide +kernel)) (fun _ _ _ _ _ => (sg_tup rfl (sgs_cons (sg_one (i := 4) sc_law_wishes_right.nd rfl (by first | exact .inl rfl | exact .inr rfl)) (sgs_cons (sg_one (i := 5) sc_law_wishes_right.nd rfl (by first | exact .inl rfl | exact .inr rfl)) sgs_nil)))) (fun _ _ _ _ _ => st_nil) (fun _ _ _ _ _ => (so_bin o_add (so_bin o_add (so_var (pv 4)) so_str) (so_callTy c_str rfl c.z_str bt_str (sa_cons (so_var (pv 5)) sa_nil))))) sa_nil)) (sg_one (i := 2) sc_law_wishes_right.nd rfl (by first | exact .inl rfl | exact .inr rfl))
    (ssst_cons (sst_of (ss_if (sx_bool (sw_or (sx_cmp o_isn (so_callD (ok_need_wishes c) (hr.mono (by decide)) rfl c.g_need_wishes tk (sa_cons (so_var (pv 0)) sa_nil)) so_non (by rfl)) (sw_or (sx_cmp (o_ne (u64 hr)) (so_callD (ok_written_wishes c) (hr.mono (by decide)) rfl c.g_written_wishes tk (sa_cons (so_var (pv 0)) sa_nil)) (so_var (pv 2)) (by rfl)) (sw_or1 (sx_cmp (o_ne (u64 hr)) (so_callD (ok_read_wishes c) (hr.mono (by decide)) rfl c.g_read_wishes tk (sa_cons (so_var (pv 2)) sa_nil)) (so_var (pv 0)) (by rfl)))))) (ss_one (ss_ret so_bl)) ss_nil))
    (ssst_cons (sst_asg (set_repl2 (set_repl3 (set_of (so_var (pv 2))) (so_bin o_mod (so_var (pv 1)) so_int) (fun _ _ => rfl) c.sw) (so_bin o_mod (so_bin o_div (so_var (pv 1)) so_int) so_int) (fun _ _ => rfl) c.sw) (sg_one (i := 3) sc_law_wishes_right.nd rfl (by first | exact .inl rfl | exact .inr rfl)))
    (ssst_of (ss_one (ss_ret (so_cmp (o_eq (u64 hr)) (told_ok (k := 5) c c.l_law_wishes_right rfl hcd rfl (hr.mono (by decide)) (LamX.lamS_by (sc := defScope s_law_wishes_right) (by decide +kernel)) rfl (fun _ _ _ _ _ => rfl) (fun A outer s H E f c2 hr => have tk := L2N.takes_of rfl rfl rfl rfl
    (so_callD (ok_read_wishes c) (hr.mono (by decide)) rfl c.g_read_wishes tk (sa_cons (so_bin o_add (so_bin o_add so_str (so_var (pv 3))) so_str) sa_nil)))) (so_var (pv 0)) (by rfl)))))))))
theorem ok_law (c : Fc K mg base T) : DefOk P w K mg base T 9 ("law", none) ["script"] m_law := DefOk.pure (
  def_okL (m := b_law) (N := N_law) c.d_law sc_law (fun _ _ _ _ _ _ us hl => match us, hl with | [_], _ => rfl) fun cdv A outer s H E hcd hr tk hp =>
    (ss_cons (ss_pre [1, 2, 3, 4, 5, 6, 7, 8, 9, 10, 11] (ss_for hp rfl (si_range1 rfl c.z_range (sa_cons (so_callB (c_max rfl) rfl c.z_max bt_max (sa_cons so_int (sa_cons (so_callB (c_min rfl) rfl c.z_min bt_min (sa_cons so_int (sa_cons (so_callB c_len rfl c.z_len bt_len (sa_cons (so_var (pv 0)) sa_nil)) sa_nil))) sa_nil))) sa_nil)) (sg_one (i := 1) sc_law.nd rfl (by first | exact .inl rfl | exact .inr rfl))
    (ss_trim [1, 2, 3, 4, 5, 6, 7, 8, 9, 10, 11] (ss_cons (ss_asg (so_callD (ok_law_drawn c) (hr.mono (by decide)) rfl c.g_law_drawn tk (sa_cons (so_callD (ok_law_cell c) (hr.mono (by decide)) rfl c.g_law_cell tk (sa_cons (so_var (pv 0)) (sa_cons (so_var (pv 1)) sa_nil))) (sa_cons (so_var (pv 1)) sa_nil))) (sg_one (i := 2) sc_law.nd rfl (by first | exact .inl rfl | exact .inr rfl)))
    (ss_cons (ss_pre [3, 4, 5, 6, 7, 8, 9] (ss_for hp rfl (si_range1 rfl c.z_range (sa_cons so_int sa_nil)) (sg_one (i := 3) sc_law.nd rfl (by first | exact .inl rfl | exact .inr rfl))
    (ss_trim [3, 4, 5, 6, 7, 8, 9] (ss_cons (ss_asg (so_callD (ok_law_drawn c) (hr.mono (by decide)) rfl c.g_law_drawn tk (sa_cons (so_var (pv 2)) (sa_cons (so_var (pv 3)) sa_nil))) (sg_one (i := 4) sc_law.nd rfl (by first | exact .inl rfl | exact .inr rfl)))
    (ss_cons (ss_asg (so_tup (sa_cons (so_callD (ok_law_make c) (hr.mono (by decide)) rfl c.g_law_make tk (sa_cons (so_bin o_div (so_var (pv 4)) so_int) sa_nil)) (sa_cons (so_callD (ok_law_pattern c) (hr.mono (by decide)) rfl c.g_law_pattern tk (sa_cons (so_bin o_div (so_var (pv 4)) so_int) sa_nil)) sa_nil))) (sg_tup rfl (sgs_cons (sg_one (i := 5) sc_law.nd rfl (by first | exact .inl rfl | exact .inr rfl)) (sgs_cons (sg_one (i := 6) sc_law.nd rfl (by first | exact .inl rfl | exact .inr rfl)) sgs_nil))))
    (ss_cons (ss_if (sx_cmp o_isn (told_ok (k := 4) c c.l_law rfl hcd rfl (hr.mono (by decide)) (LamX.lamS_by (sc := defScope s_law) (by decide +kernel)) rfl (fun _ _ _ _ _ => rfl) (fun A outer s H E f c2 hr => have tk := L2N.takes_of rfl rfl rfl rfl
    (so_callD (ok_need_make c) (hr.mono (by decide)) rfl c.g_need_make tk (sa_cons (so_var (pv 5)) sa_nil)))) so_non (by rfl)) (ss_one (ss_ret so_bl)) ss_nil)
    (ss_cons (ss_asg (told_ok (k := 5) c c.l_law rfl hcd rfl (hr.mono (by decide)) (LamX.lamS_by (sc := defScope s_law) (by decide +kernel)) rfl (fun _ _ _ _ _ => rfl) (fun A outer s H E f c2 hr => have tk := L2N.takes_of rfl rfl rfl rfl
    (so_callD (ok_fits c) (hr.mono (by decide)) rfl c.g_fits tk (sa_cons (so_var (pv 6)) (sa_cons (so_var (pv 5)) sa_nil))))) (sg_one (i := 7) sc_law.nd rfl (by first | exact .inl rfl | exact .inr rfl)))
    (ss_cons (ss_if (sx_bool (sw_or (sx_not (sx_tru (so_callB c_isi rfl c.z_isinstance bt_isinstance (sa_cons (so_var (pv 7)) (sa_cons (so_bty rfl c.z_bool bt_bool) sa_nil))))) (sw_or1 (sx_cmp (o_ne (u64 hr)) (so_var (pv 7)) (so_callD (ok_law_fits c) (hr.mono (by decide)) rfl c.g_law_fits tk (sa_cons (so_var (pv 6)) (sa_cons (so_var (pv 5)) sa_nil))) (by rfl))))) (ss_one (ss_ret so_bl)) ss_nil)
    (ss_cons (ss_asg (so_ix ix_ok (so_callD0 (ok_law_no_makes c) (hr.mono (by decide)) rfl c.g_law_no_makes) (so_bin o_mod (so_bin o_div (so_var (pv 4)) (so_bin o_pow so_int so_int)) (so_callB c_len rfl c.z_len bt_len (sa_cons (so_callD0 (ok_law_no_makes c) (hr.mono (by decide)) rfl c.g_law_no_makes) sa_nil))) (fun _ _ => rfl)) (sg_one (i := 8) sc_law.nd rfl (by first | exact .inl rfl | exact .inr rfl)))
    (ss_cons (ss_asg (so_lstC (sa_cons (told_ok (k := 4) c c.l_law rfl hcd rfl (hr.mono (by decide)) (LamX.lamS_by (sc := defScope s_law) (by decide +kernel)) rfl (fun _ _ _ _ _ => rfl) (fun A outer s H E f c2 hr => have tk := L2N.takes_of rfl rfl rfl rfl
    (so_callD (ok_need_make c) (hr.mono (by decide)) rfl c.g_need_make tk (sa_cons (so_var (pv 8)) sa_nil)))) sa_nil)) (sg_one (i := 9) sc_law.nd rfl (by first | exact .inl rfl | exact .inr rfl)))
    (ss_cons (ss_expr (so_mt PySem.F.plainAttrs_list PySem.F.slot_list_append PySem.F.type_list_append m_append (so_var (pv 9)) (sa_cons (told_ok (k := 5) c c.l_law rfl hcd rfl (hr.mono (by decide)) (LamX.lamS_by (sc := defScope s_law) (by decide +kernel)) rfl (fun _ _ _ _ _ => rfl) (fun A outer s H E f c2 hr => have tk := L2N.takes_of rfl rfl rfl rfl
    (so_callD (ok_fits c) (hr.mono (by decide)) rfl c.g_fits tk (sa_cons so_str (sa_cons (so_var (pv 8)) sa_nil))))) sa_nil)))
    (ss_cons (ss_expr (so_mt PySem.F.plainAttrs_list PySem.F.slot_list_append PySem.F.type_list_append m_append (so_var (pv 9)) (sa_cons (told_ok (k := 5) c c.l_law rfl hcd rfl (hr.mono (by decide)) (LamX.lamS_by (sc := defScope s_law) (by decide +kernel)) rfl (fun _ _ _ _ _ => rfl) (fun A outer s H E f c2 hr => have tk := L2N.takes_of rfl rfl rfl rfl
    (so_callD (ok_fits c) (hr.mono (by decide)) rfl c.g_fits tk (sa_cons (so_var (pv 8)) (sa_cons (so_var (pv 5)) sa_nil))))) sa_nil)))
    (ss_cons (ss_expr (so_mt PySem.F.plainAttrs_list PySem.F.slot_list_append PySem.F.type_list_append m_append (so_var (pv 9)) (sa_cons (told_ok (k := 6) c c.l_law rfl hcd rfl (hr.mono (by decide)) (LamX.lamS_by (sc := defScope s_law) (by decide +kernel)) rfl (fun _ _ _ _ _ => rfl) (fun A outer s H E f c2 hr => have tk := L2N.takes_of rfl rfl rfl rfl
    (so_callD (ok_weight_of c) (hr.mono (by decide)) rfl c.g_weight_of tk (sa_cons (so_tup sa_nil) (sa_cons (so_var (pv 8)) sa_nil))))) sa_nil)))
    (ss_one (ss_if (sx_cmp (o_ne (u64 hr)) (so_var (pv 9)) (so_bin o_mul (so_lst (sa_cons (so_tup (sa_cons so_str (sa_cons so_str sa_nil))) sa_nil)) so_int) (by rfl)) (ss_one (ss_ret so_bl)) ss_nil)))))))))))))))
    (ss_cons (ss_if (sx_cmp (o_ne (u64 hr)) (told_ok (k := 4) c c.l_law rfl hcd rfl (hr.mono (by decide)) (LamX.lamS_by (sc := defScope s_law) (by decide +kernel)) rfl (fun _ _ _ _ _ => rfl) (fun A outer s H E f c2 hr => have tk := L2N.takes_of rfl rfl rfl rfl
    (so_callD (ok_need_make c) (hr.mono (by decide)) rfl c.g_need_make tk (sa_cons so_str sa_nil)))) (so_tup (sa_cons so_str (sa_cons so_str sa_nil))) (by rfl)) (ss_one (ss_ret so_bl)) ss_nil)
    (ss_cons (ss_if (sx_not (sx_tru (so_callD (ok_law_wishes_right c) (hr.mono (by decide)) rfl c.g_law_wishes_right tk (sa_cons (so_callD (ok_law_wishes c) (hr.mono (by decide)) rfl c.g_law_wishes tk (sa_cons (so_callD (ok_law_drawn c) (hr.mono (by decide)) rfl c.g_law_drawn tk (sa_cons (so_var (pv 2)) (sa_cons so_int sa_nil))) sa_nil)) (sa_cons (so_var (pv 2)) sa_nil))))) (ss_one (ss_ret so_bl)) ss_nil)
    (ss_cons (ss_asg (so_callD (ok_law_no_wishes c) (hr.mono (by decide)) rfl c.g_law_no_wishes tk (sa_cons (so_callD (ok_law_drawn c) (hr.mono (by decide)) rfl c.g_law_drawn tk (sa_cons (so_var (pv 2)) (sa_cons so_int sa_nil))) sa_nil)) (sg_one (i := 8) sc_law.nd rfl (by first | exact .inl rfl | exact .inr rfl)))
    (ss_cons (ss_asg (so_lstC (sa_cons (told_ok (k := 4) c c.l_law rfl hcd rfl (hr.mono (by decide)) (LamX.lamS_by (sc := defScope s_law) (by decide +kernel)) rfl (fun _ _ _ _ _ => rfl) (fun A outer s H E f c2 hr => have tk := L2N.takes_of rfl rfl rfl rfl
    (so_callD (ok_need_wishes c) (hr.mono (by decide)) rfl c.g_need_wishes tk (sa_cons (so_var (pv 8)) sa_nil)))) sa_nil)) (sg_one (i := 9) sc_law.nd rfl (by first | exact .inl rfl | exact .inr rfl)))
    (ss_cons (ss_expr (so_mt PySem.F.plainAttrs_list PySem.F.slot_list_append PySem.F.type_list_append m_append (so_var (pv 9)) (sa_cons (told_ok (k := 5) c c.l_law rfl hcd rfl (hr.mono (by decide)) (LamX.lamS_by (sc := defScope s_law) (by decide +kernel)) rfl (fun _ _ _ _ _ => rfl) (fun A outer s H E f c2 hr => have tk := L2N.takes_of rfl rfl rfl rfl
    (so_callD (ok_written_wishes c) (hr.mono (by decide)) rfl c.g_written_wishes tk (sa_cons (so_var (pv 8)) sa_nil)))) sa_nil)))
    (ss_cons (ss_if (sx_cmp (o_ne (u64 hr)) (so_var (pv 9)) (so_bin o_mul (so_lst (sa_cons (so_tup (sa_cons so_str (sa_cons so_str sa_nil))) sa_nil)) so_int) (by rfl)) (ss_one (ss_ret so_bl)) ss_nil)
    (ss_cons (ss_asg (so_lst (sa_cons so_str (sa_cons so_str (sa_cons so_str (sa_cons so_str (sa_cons so_str (sa_cons so_str (sa_cons so_str (sa_cons so_str (sa_cons so_str (sa_cons so_str sa_nil))))))))))) (sg_one (i := 10) sc_law.nd rfl (by first | exact .inl rfl | exact .inr rfl)))
    (ss_one (ss_pre [11] (ss_for hp rfl (si_list (so_bin o_add (so_var (pv 10)) (so_lst (sa_cons so_str (sa_cons (so_mt PySem.F.plainAttrs_str PySem.F.slot_str_join PySem.F.type_str_join m_join so_str (sa_cons (so_bin o_mul (so_lst (sa_cons so_str sa_nil)) so_int) sa_nil)) sa_nil))))) (sg_one (i := 11) sc_law.nd rfl (by first | exact .inl rfl | exact .inr rfl))
    (ss_trim [11] (ss_one (ss_if (sx_cmp (o_ne (u64 hr)) (told_ok (k := 5) c c.l_law rfl hcd rfl (hr.mono (by decide)) (LamX.lamS_by (sc := defScope s_law) (by decide +kernel)) rfl (fun _ _ _ _ _ => rfl) (fun A outer s H E f c2 hr => have tk := L2N.takes_of rfl rfl rfl rfl
    (so_callD (ok_read_wishes c) (hr.mono (by decide)) rfl c.g_read_wishes tk (sa_cons (so_var (pv 11)) sa_nil)))) (so_tup (sa_cons so_str (sa_cons so_str sa_nil))) (by rfl)) (ss_one (ss_ret so_bl)) ss_nil))))))))))))))))))
    (ss_one (ss_ret so_bl))))
end
end K10
namespace K10
open PySem PySem.Spec L2 Mr
/-! ### words, patterns -/
open TL in
theorem subIn_one (c : Nat) (z : Str) : subIn ⟨#[c]⟩ z = decide (c ∈ tl z) := PySem.StrLaws.found_one z c
abbrev smallS : Str := "abcdefghijklmnopqrstuvwxyz0123456789"
def isSm (c : Nat) : Bool := decide (c ∈ TL.tl smallS)
def isW (x : Str) : Bool := decide (1 ≤ x.length) && decide (x.length ≤ 10) && (TL.tl x).all isSm
theorem isSm_iff : ∀ c, isSm c = true → (97 ≤ c ∧ c ≤ 122) ∨ (48 ≤ c ∧ c ≤ 57) := by
  have h : ∀ c ∈ TL.tl smallS, (97 ≤ c ∧ c ≤ 122) ∨ (48 ≤ c ∧ c ≤ 57) := by decide +kernel
  intro c hc
  exact h c (by simpa [isSm] using hc)
theorem isW_free {x : Str} {s : Nat} (h : isW x = true) (hs : isSm s = false) : s ∉ TL.tl x := fun hm => by
  unfold isW at h
  simp only [Bool.and_eq_true, List.all_eq_true] at h
  rw [h.2 s hm] at hs
  cases hs
theorem isW_len {x : Str} (h : isW x = true) : 1 ≤ x.length ∧ x.length ≤ 10 := by
  unfold isW at h
  simp only [Bool.and_eq_true, decide_eq_true_eq] at h
  exact h.1
theorem isW_ok {x : Str} (h : isW x = true) : strB x = true := by
  unfold isW at h
  simp only [Bool.and_eq_true, List.all_eq_true] at h
  unfold strB
  rw [Array.all_eq_true']
  intro c hc
  have := isSm_iff c (h.2 c (by simpa using hc))
  simp only [decide_eq_true_eq]; omega
/-! the one way down a body -/
theorem eq_int (st : Store) (i j : Int) : gEq st (.int i) (.int j) = some (.bl (i == j)) := rfl
theorem eq_str (st : Store) (i j : Str) : gEq st (.str i) (.str j) = some (.bl (i == j)) := rfl
theorem notSw2 (a b : D) : notSw [a, b] = true := rfl
local macro_rules | `(tactic| walk_at "ev") => `(tactic| simp only [sRet, sIf, sAsg, sDrop, sPar, sNil, sRaise, mBin, mCall, mCallD, mCons, mNil, mC, mVar, mTup, mLst, mIfE, mAnd, mOr, mNot, mAndT, mOrT, mNotT, mTest, mTru, mChain, mMt, rcv, pureM, mSl, mPart, mNoP, mNeg, setT, setAll, startE, Res.ok_bind, Res.ex_bind, Res.no_bind, Res.of_some, Res.of_none, Res.ok_nox, asB, tru, List.map_cons, List.map_nil, List.length_cons, List.length_nil, List.replicate, List.cons_append, List.nil_append, List.getElem?_cons_zero, List.getElem?_cons_succ, List.set_cons_zero, List.set_cons_succ, Nat.reduceAdd, Nat.reduceSub, Nat.reduceEqDiff, Nat.reduceLeDiff, if_true, if_false, and_self, Bool.false_eq_true, Bool.not_true, Bool.not_false, Option.map_some, Option.bind_some, asL, asLs, asT, wipeE, gIx, gSl, atI_0, atI_1, atI_2, atI_3, atI_n1, cut_d1, cut_t2, cLen, cTuple, cList, cAll, cAny, cIsi, tyD, isiT, gSplit, gLt, gLe, gGt, gGe, gIsn, gIs, isD, eq_int, eq_str, beq_two, notSw2, List.drop_succ_cons, List.drop_zero, size_eq, Nat.zero_le, true_and, and_true, decide_true, decide_false])
local macro_rules | `(tactic| walk_at "evh") => `(tactic| simp only [sRet, sIf, sAsg, sDrop, sPar, sNil, sRaise, mBin, mCall, mCallD, mCons, mNil, mC, mVar, mTup, mLst, mIfE, mAnd, mOr, mNot, mAndT, mOrT, mNotT, mTest, mTru, mChain, mMt, rcv, pureM, mSl, mPart, mNoP, mNeg, setT, setAll, startE, Res.ok_bind, Res.ex_bind, Res.no_bind, Res.of_some, Res.of_none, Res.ok_nox, asB, tru, List.map_cons, List.map_nil, List.length_cons, List.length_nil, List.replicate, List.cons_append, List.nil_append, List.getElem?_cons_zero, List.getElem?_cons_succ, List.set_cons_zero, List.set_cons_succ, Nat.reduceAdd, Nat.reduceSub, Nat.reduceEqDiff, Nat.reduceLeDiff, if_true, if_false, and_self, Bool.false_eq_true, Bool.not_true, Bool.not_false, Option.map_some, Option.bind_some, asL, asLs, asT, wipeE, gIx, gSl, atI_0, atI_1, atI_2, atI_3, atI_n1, cut_d1, cut_t2, cLen, cTuple, cList, cAll, cAny, cIsi, tyD, isiT, gSplit, gLt, gLe, gGt, gGe, gIsn, gIs, isD, eq_int, eq_str, beq_two, notSw2, List.drop_succ_cons, List.drop_zero, size_eq, Nat.zero_le, true_and, and_true, decide_true, decide_false, *])
local macro_rules | `(tactic| walk_at "nx") => `(tactic| (first | (apply fin_nx; (case h => (walk_at "evh"; try rfl))) | (apply seq_nx; (case h => (walk_at "evh"; try rfl)))))
theorem need_true (st : Store) : m_mk_need [.bl true] st = .ok .non st := pure_of (by simp [mDef, b_mk_need, sIf, mNotT, mTru, mVar, startE, tru, Res.of, Res.bind, sNil]) rfl
theorem need_false (st : Store) : m_mk_need [.bl false] st = .ex "BadMake" st := mPure_ex (by simp [mDef, b_mk_need, sIf, mNotT, mTru, mVar, startE, tru, Res.of, Res.bind, sRaise])
theorem need_eq (b : Bool) (st : Store) : m_mk_need [.bl b] st = if b = true then .ok .non st else .ex "BadMake" st := by
  cases b
  · exact need_false st
  · exact need_true st
theorem is_word_eq (x : Str) (st : Store) (h : x.length ≤ 16777216) : m_is_word [.str x] st = .ok (.bl (isW x)) st := by
  refine def_fin ?_ rfl
  have hc : q_is_word_1 [some (.str x), none] st = .ok (.lst ((TL.tl x).map fun c => D.bl (isSm c))) st := by
    refine mComp_eq (s := ⟨chrs x, yes⟩) rfl ?_ (by simpa [PySem.Str.length] using h)
    refine compL_map (fun c => D.str ⟨#[c]⟩) (fun c => D.bl (isSm c)) rfl (TL.tl x) fun c _ => ⟨_, rfl, ?_⟩
    walk_at "ev"
    simp only [gIn, inD, Option.map_some, Res.of_some, subIn_one, isSm]
  have h0 : decide ((1 : Int) ≤ (x.length : Int)) = decide (1 ≤ x.length) := by rw [decide_eq_decide]; omega
  have h1 : decide ((x.length : Int) ≤ 10) = decide (x.length ≤ 10) := by rw [decide_eq_decide]; omega
  have hch : mChain gLe gLe (mC (.int 1)) (mCall cLen (mCons (mVar 0) mNil)) (mC (.int 10)) [some (.str x), none] st = .ok (.bl (decide (1 ≤ x.length) && decide (x.length ≤ 10))) st := by
    walk_at "ev"
    simp only [h, h0, if_true, Res.ok_bind, Res.of_some]
    cases decide (1 ≤ x.length)
    · rfl
    · simp only [Res.ok_bind, Res.of_some, h1, Bool.true_and]
  have e : isW x = ((decide (1 ≤ x.length) && decide (x.length ≤ 10)) && (TL.tl x).all isSm) := rfl
  show fin (b_is_word [some (.str x), none] st) = _
  unfold b_is_word
  refine fin_ret ?_
  rw [e]
  simp only [mAnd, hch, Res.ok_bind]
  cases (decide (1 ≤ x.length) && decide (x.length ≤ 10))
  · rfl
  · simp only [mCall, mCons, mNil, hc, Res.ok_bind, cAll, asL, Option.bind_some, blD_map, Option.map_some, Res.of_some, Bool.true_and, List.all_map, Function.comp_def, id]
/-- a pattern's parts: kind, form, sides -/
structure Pt where
  kind : Str
  form : Str
  sides : List (Str × Str)
  deriving DecidableEq
def sdT (s : Str × Str) : Str := s.1 ++ ("=" : Str) ++ s.2
def hdT (P : Pt) : Str := P.kind ++ ("/" : Str) ++ P.form
def ptT (P : Pt) : Str := PySem.Str.join (";" : Str) (hdT P :: P.sides.map sdT)
def sdD (s : Str × Str) : D := .tup [.str s.1, .str s.2]
def ptD (P : Pt) : D := .tup [.str P.kind, .str P.form, .lst (P.sides.map sdD)]
def rising : List Str → Bool
  | a :: b :: r => sltL a b && rising (b :: r)
  | _ => true
def okSides (l : List (Str × Str)) : Bool := decide (l.length ≤ 3) && (l.all fun s => isW s.1 && isW s.2) && rising (l.map (·.1))
def isPt (P : Pt) : Bool := okSides P.sides && (isW P.kind || (decide (P.kind = "*") && decide (P.form = "*") && P.sides.isEmpty)) && (isW P.form || (decide (P.form = "*") && P.sides.isEmpty))
def isMk (P : Pt) : Bool := okSides P.sides && isW P.kind && isW P.form
theorem isMk_isPt {P : Pt} (h : isMk P = true) : isPt P = true := by
  unfold isMk at h; unfold isPt
  simp only [Bool.and_eq_true] at h
  simp [h.1.1, h.1.2, h.2]
theorem tl_len (x : Str) : x.length = (TL.tl x).length := TL.len_tl x
theorem split_two {a b sep : Str} {s : Nat} (es : TL.tl sep = [s]) (hk : sep.cps.all (· < 256) = true) (ha : s ∉ TL.tl a) (hb : s ∉ TL.tl b) : Txt.split (a ++ sep ++ b) sep = [a, b] := by
  have h := TL.split_join (y := sep) (S := []) es hk (parts := [a, b]) (by simp) (fun p hp => by
    simp only [List.mem_cons, List.not_mem_nil, or_false] at hp
    rcases hp with rfl | rfl
    · exact ha
    · exact hb)
  rw [TL.join_eq] at h
  exact h
theorem zip_rising : ∀ (l : List Str), (zipD (l.map .str) ((l.map D.str).drop 1)).all (fun d => match d with
    | .tup [.str a, .str b] => sltL a b
    | _ => false) = rising l
  | [] => rfl
  | [a] => rfl
  | a :: b :: r => by
    have ih := zip_rising (b :: r)
    simp only [List.map_cons, List.drop_succ_cons, List.drop_zero, size_eq, Nat.zero_le, true_and, and_true, decide_true, decide_false, zipD, List.all_cons, rising] at ih ⊢
    rw [ih]
theorem len_app (x y : Str) : (x ++ y).length = x.length + y.length := by rw [tl_len, tl_len, tl_len, TL.tl_append, List.length_append]
theorem isSm_eq : isSm 61 = false := by decide +kernel
theorem isSm_sl : isSm 47 = false := by decide +kernel
theorem isSm_se : isSm 59 = false := by decide +kernel
theorem all_true {α : Type} (l : List α) : (l.map fun _ => true).all id = true := by induction l <;> simp_all
theorem q_sides_1 (l : List (Str × Str)) (hw : ∀ s ∈ l, isW s.1 = true ∧ isW s.2 = true) (h3 : l.length ≤ 3) (st : Store) : q_sides_of_1 [some (.lst (l.map fun s => .str (sdT s))), none, none, none, none, none, none] st = .ok (.lst (l.map sdD)) st := by
  refine mComp_eq (s := ⟨l.map fun s => .str (sdT s), yes⟩) rfl ?_ (by rw [List.length_map]; omega)
  refine compL_map (fun s => .str (sdT s)) sdD rfl l fun s hs => ⟨_, rfl, ?_⟩
  have hw' := hw s hs
  have l1 := isW_len hw'.1
  have l2 := isW_len hw'.2
  have hl : (sdT s).length ≤ 16777214 := by
    unfold sdT
    rw [len_app, len_app]
    have : (("=" : Str)).length = 1 := by decide +kernel
    omega
  have hsp : Txt.split (sdT s) ("=" : Str) = [s.1, s.2] := split_two (s := 61) (by decide +kernel) (by decide +kernel) (isW_free hw'.1 isSm_eq) (isW_free hw'.2 isSm_eq)
  have h0 : ((("=" : Str)).length == 0) = false := by decide +kernel
  walk_at "evh"
  rfl
theorem q_sides_2 (l : List (Str × Str)) (hw : ∀ s ∈ l, isW s.1 = true ∧ isW s.2 = true) (h3 : l.length ≤ 3) (a : Option D) (st : Store) : q_sides_of_2 [a, some (.lst (l.map sdD)), none, none, none, none, none] st = .ok (.lst (l.map fun _ => .bl true)) st := by
  refine mComp_eq (s := ⟨l.map sdD, yes⟩) rfl ?_ (by rw [List.length_map]; omega)
  refine compL_map sdD (fun _ => .bl true) rfl l fun s hs => ⟨_, rfl, ?_⟩
  have hw' := hw s hs
  have l1 := isW_len hw'.1
  have l2 := isW_len hw'.2
  have e1 := is_word_eq s.1 st (by omega)
  have e2 := is_word_eq s.2 st (by omega)
  rw [hw'.1] at e1
  rw [hw'.2] at e2
  walk_at "ev"
  simp only [sdD, cLen, gEq, eqD, List.length_cons, List.length_nil, Option.map_some, List.getElem?_cons_zero, List.getElem?_cons_succ, e1, e2, Res.ok_bind, Res.of_some, atI_0, atI_1, beq_two, if_true, Nat.reduceAdd]
theorem q_sides_3 (l : List (Str × Str)) (h3 : l.length ≤ 3) (a : Option D) (st : Store) : q_sides_of_3 [a, some (.lst (l.map sdD)), none, none, none, none, none] st = .ok (.lst (l.map fun s => .str s.1)) st := by
  refine mComp_eq (s := ⟨l.map sdD, yes⟩) rfl ?_ (by rw [List.length_map]; omega)
  refine compL_map sdD (fun s => .str s.1) rfl l fun s hs => ⟨_, rfl, ?_⟩
  walk_at "ev"
  simp only [sdD, List.getElem?_cons_zero, List.getElem?_cons_succ, Res.of_some, atI_0]
def pairsOf : List Str → List (Str × Str)
  | a :: b :: r => (a, b) :: pairsOf (b :: r)
  | _ => []
theorem zip_pairs : ∀ (l : List Str), zipD (l.map .str) ((l.map D.str).drop 1) = (pairsOf l).map sdD
  | [] => rfl
  | [a] => rfl
  | a :: b :: r => by
    have ih := zip_pairs (b :: r)
    simp only [List.map_cons, List.drop_succ_cons, List.drop_zero, size_eq, Nat.zero_le, true_and, and_true, decide_true, decide_false, zipD, pairsOf] at ih ⊢
    rw [ih]
    rfl
theorem rising_pairs : ∀ (l : List Str), ((pairsOf l).map fun q => sltL q.1 q.2).all id = rising l
  | [] => rfl
  | [a] => rfl
  | a :: b :: r => by
    have ih := rising_pairs (b :: r)
    simp only [pairsOf, List.map_cons, List.all_cons, rising, id] at ih ⊢
    rw [ih]
theorem pairsOf_len : ∀ (l : List Str), (pairsOf l).length ≤ l.length
  | [] => by simp [pairsOf]
  | [a] => by simp [pairsOf]
  | a :: b :: r => by
    have := pairsOf_len (b :: r)
    simp only [pairsOf, List.length_cons] at this ⊢
    omega
theorem q_sides_4 (l : List Str) (h3 : l.length ≤ 3) (a b : Option D) (st : Store) : q_sides_of_4 [a, b, some (.lst (l.map .str)), none, none, none, none] st = .ok (.lst ((pairsOf l).map fun q => .bl (sltL q.1 q.2))) st := by
  have e : (zipD (l.map .str) ((l.map D.str).drop 1)) = (pairsOf l).map sdD := zip_pairs l
  refine mComp_eq (s := ⟨(pairsOf l).map sdD, fun st => keepL (.lst (l.map .str)) (l.map .str) st && keepL (.lst ((l.map D.str).drop 1)) ((l.map D.str).drop 1) st⟩) ?_ ?_ (by rw [List.length_map]; have := pairsOf_len l; omega)
  · rw [← e]
    unfold mIA
    walk_at "ev"
    rfl
  · refine compL_map sdD (fun q => .bl (sltL q.1 q.2)) rfl (pairsOf l) fun s hs => ⟨_, rfl, ?_⟩
    rfl
theorem sides_of_eq (l : List (Str × Str)) (h : okSides l = true) (st : Store) : m_sides_of [.lst (l.map fun s => .str (sdT s))] st = .ok (.lst (l.map sdD)) st := by
  unfold okSides at h
  simp only [Bool.and_eq_true, decide_eq_true_eq, List.all_eq_true] at h
  obtain ⟨⟨h3, hw⟩, hr⟩ := h
  refine def_fin ?_ (by simp only [noRef]; exact noRefs_map sdD (fun a => rfl) l)
  have hgt : decide ((3 : Int) < ((l.map sdD).length : Int)) = false := by rw [decide_eq_false_iff_not, List.length_map]; omega
  have h4 := q_sides_4 (l.map (·.1)) (by rw [List.length_map]; exact h3) (some (.lst (l.map fun s => .str (sdT s)))) (some (.lst (l.map sdD))) st
  have hm : (l.map (·.1)).map D.str = l.map fun s => .str s.1 := by rw [List.map_map]; rfl
  rw [hm] at h4
  have hr' : ((pairsOf (l.map (·.1))).map fun q => sltL q.1 q.2).all id = true := by rw [rising_pairs]; exact hr
  have e1 := q_sides_1 l hw h3 st
  have e2 := q_sides_2 l hw h3 (some (.lst (l.map fun s => .str (sdT s)))) st
  have e3 := q_sides_3 l h3 (some (.lst (l.map fun s => .str (sdT s)))) st
  have b1 := blD_map (fun _ : Str × Str => true) l
  have b2 := blD_map (fun q : Str × Str => sltL q.1 q.2) (pairsOf (l.map (·.1)))
  have b3 := all_true l
  unfold b_sides_of
  walk_at "nx"
  walk_at "nx"
  walk_at "nx"
  refine fin_ret ?_
  walk_at "evh"
theorem isSm_star : isSm 42 = false := by decide +kernel
theorem tl_star : TL.tl ("*" : Str) = [42] := by decide +kernel
theorem pt_free {P : Pt} (h : isPt P = true) {s : Nat} (hs : isSm s = false) (h42 : s ≠ 42) : s ∉ TL.tl P.kind ∧ s ∉ TL.tl P.form := by
  unfold isPt at h
  simp only [Bool.and_eq_true, Bool.or_eq_true, decide_eq_true_eq] at h
  obtain ⟨⟨_, h1⟩, h2⟩ := h
  constructor
  · rcases h1 with h1 | ⟨⟨h1, _⟩, _⟩
    · exact isW_free h1 hs
    · rw [h1, tl_star]; simpa using h42
  · rcases h2 with h2 | ⟨h2, _⟩
    · exact isW_free h2 hs
    · rw [h2, tl_star]; simpa using h42
theorem pt_len {P : Pt} (h : isPt P = true) : P.kind.length ≤ 10 ∧ P.form.length ≤ 10 := by
  unfold isPt at h
  simp only [Bool.and_eq_true, Bool.or_eq_true, decide_eq_true_eq] at h
  obtain ⟨⟨_, h1⟩, h2⟩ := h
  have hs : ("*" : Str).length = 1 := by decide +kernel
  constructor
  · rcases h1 with h1 | ⟨⟨h1, _⟩, _⟩
    · exact (isW_len h1).2
    · rw [h1, hs]; omega
  · rcases h2 with h2 | ⟨h2, _⟩
    · exact (isW_len h2).2
    · rw [h2, hs]; omega
theorem sides_ok {P : Pt} (h : isPt P = true) : P.sides.length ≤ 3 ∧ (∀ s ∈ P.sides, isW s.1 = true ∧ isW s.2 = true) ∧ okSides P.sides = true := by
  unfold isPt at h
  simp only [Bool.and_eq_true] at h
  have h0 := h.1.1
  unfold okSides at h0
  simp only [Bool.and_eq_true, decide_eq_true_eq, List.all_eq_true] at h0
  exact ⟨h0.1.1, h0.1.2, h.1.1⟩
theorem tl_sl : TL.tl ("/" : Str) = [47] := by decide +kernel
theorem tl_se : TL.tl (";" : Str) = [59] := by decide +kernel
theorem tl_eq : TL.tl ("=" : Str) = [61] := by decide +kernel
theorem split_pt {P : Pt} (h : isPt P = true) : Txt.split (ptT P) (";" : Str) = hdT P :: P.sides.map sdT := by
  obtain ⟨f1, f2⟩ := pt_free h isSm_se (by decide)
  obtain ⟨h3, hw, _⟩ := sides_ok h
  have e := TL.split_join (y := (";" : Str)) (s := 59) (S := []) tl_se (by decide +kernel) (parts := hdT P :: P.sides.map sdT) (by simp) (fun p hp => by
    rcases List.mem_cons.mp hp with rfl | hp
    · unfold hdT
      rw [TL.tl_append, TL.tl_append, tl_sl]
      simp only [List.mem_append, not_or]
      exact ⟨⟨f1, by simp⟩, f2⟩
    · obtain ⟨s, hs, rfl⟩ := List.mem_map.mp hp
      unfold sdT
      rw [TL.tl_append, TL.tl_append, tl_eq]
      simp only [List.mem_append, not_or]
      exact ⟨⟨isW_free (hw s hs).1 isSm_se, by simp⟩, isW_free (hw s hs).2 isSm_se⟩)
  rw [TL.join_eq] at e
  exact e
theorem split_hd {P : Pt} (h : isPt P = true) : Txt.split (hdT P) ("/" : Str) = [P.kind, P.form] := by
  obtain ⟨f1, f2⟩ := pt_free h isSm_sl (by decide)
  exact split_two (s := 47) tl_sl (by decide +kernel) f1 f2
theorem sdT_len {s : Str × Str} (h : isW s.1 = true ∧ isW s.2 = true) : (sdT s).length ≤ 21 := by
  have l1 := isW_len h.1
  have l2 := isW_len h.2
  unfold sdT
  rw [len_app, len_app]
  have : (("=" : Str)).length = 1 := by decide +kernel
  omega
theorem hdT_len {P : Pt} (h : isPt P = true) : (hdT P).length ≤ 21 := by
  obtain ⟨l1, l2⟩ := pt_len h
  unfold hdT
  rw [len_app, len_app]
  have : (("/" : Str)).length = 1 := by decide +kernel
  omega
theorem join_len (y : Str) : ∀ (l : List Str), (∀ x ∈ l, x.length ≤ 21) → (PySem.Str.join y l).length ≤ l.length * (21 + y.length)
  | [], _ => by show PySem.Str.empty.length ≤ _; exact Nat.le_trans (Nat.le_of_eq (by decide +kernel)) (Nat.zero_le _)
  | [a], h => by
    have := h a (by simp)
    simp only [PySem.Str.join, List.length_cons, List.length_nil]; omega
  | a :: b :: r, h => by
    have ih := join_len y (b :: r) fun x hx => h x (List.mem_cons_of_mem _ hx)
    have ha := h a (by simp)
    show (a ++ y ++ PySem.Str.join y (b :: r)).length ≤ _
    rw [len_app, len_app]
    simp only [List.length_cons] at ih ⊢
    have : (r.length + 1 + 1) * (21 + y.length) = (r.length + 1) * (21 + y.length) + (21 + y.length) := by rw [Nat.add_mul (r.length + 1) 1]; omega
    omega
theorem ptT_len {P : Pt} (h : isPt P = true) : (ptT P).length ≤ 100 := by
  obtain ⟨h3, hw, _⟩ := sides_ok h
  have e := join_len (";" : Str) (hdT P :: P.sides.map sdT) fun x hx => by
    rcases List.mem_cons.mp hx with rfl | hx
    · exact hdT_len h
    · obtain ⟨s, hs, rfl⟩ := List.mem_map.mp hx
      exact sdT_len (hw s hs)
  have hy : (";" : Str).length = 1 := by decide +kernel
  rw [hy] at e
  simp only [List.length_cons, List.length_map] at e
  unfold ptT
  omega
theorem star2 {P : Pt} (h : isPt P = true) : (isW P.kind || (ptT P == ("*/*" : Str))) = true := by
  unfold isPt at h
  simp only [Bool.and_eq_true, Bool.or_eq_true, decide_eq_true_eq] at h
  obtain ⟨⟨_, h1⟩, h2⟩ := h
  rcases h1 with h1 | ⟨⟨h1, h2⟩, h3⟩
  · rw [h1]; rfl
  · rw [Bool.or_eq_true]
    right
    have e : P = ⟨"*", "*", []⟩ := by
      cases P
      simp only at h1 h2 h3
      rw [List.isEmpty_iff] at h3
      rw [h1, h2, h3]
    rw [e]
    decide +kernel
theorem star3 {P : Pt} (h : isPt P = true) : (isW P.form || (P.form == ("*" : Str)) && P.sides.isEmpty) = true := by
  unfold isPt at h
  simp only [Bool.and_eq_true, Bool.or_eq_true, decide_eq_true_eq] at h
  rcases h.2 with h2 | ⟨h2, h3⟩
  · rw [h2]; rfl
  · rw [Bool.or_eq_true]; right; rw [h2, h3]; decide +kernel
theorem okDs_sides {l : List (Str × Str)} (h : ∀ s ∈ l, isW s.1 = true ∧ isW s.2 = true) : okDs 1 (l.map sdD) = true := by
  induction l with
  | nil => rfl
  | cons a r ih =>
    have ha := h a (by simp)
    simp only [List.map_cons, okDs, Bool.and_eq_true]
    exact ⟨by simp [sdD, okD, okDs, isW_ok ha.1, isW_ok ha.2], ih fun s hs => h s (List.mem_cons_of_mem _ hs)⟩
theorem nzs_len : ∀ l : List D, (nzs l).length = l.length
  | [] => rfl
  | a :: r => by simp [nzs, nzs_len r]
theorem eq_nil {l : List (Str × Str)} (h : ∀ s ∈ l, isW s.1 = true ∧ isW s.2 = true) (st : Store) : gEq st (.lst (l.map sdD)) (.lst []) = some (.bl l.isEmpty) := by
  unfold gEq
  rw [eqD_ok (n := 2) (m := 1) (by omega) (by omega) (by simp only [okD]; exact okDs_sides h) rfl]
  simp only [Option.map_some, Option.some.injEq, D.bl.injEq, nz]
  cases l with
  | nil => rfl
  | cons a r => simp [nzs]
theorem parts_of_eq (P : Pt) (h : isPt P = true) (st : Store) : m_parts_of [.str (ptT P)] st = .ok (ptD P) st := by
  obtain ⟨h3, hw, hs⟩ := sides_ok h
  have hl : (ptT P).length ≤ 16777214 := by have := ptT_len h; omega
  have hl2 : (hdT P).length ≤ 16777214 := by have := hdT_len h; omega
  have h0 : (((";" : Str)).length == 0) = false := by decide +kernel
  have h1 : ((("/" : Str)).length == 0) = false := by decide +kernel
  have w1 := is_word_eq P.kind st (by have := pt_len h; omega)
  have w2 := is_word_eq P.form st (by have := pt_len h; omega)
  have so := sides_of_eq P.sides hs st
  have e3 := eq_nil hw st
  refine def_fin ?_ (by simp only [ptD, noRef, noRefs, noRefs_map sdD (fun a => rfl), Bool.and_self])
  have s2 := star2 h
  have s3 := star3 h
  have e0 := split_pt h
  have e1 := split_hd h
  have hm : (P.sides.map sdT).map D.str = P.sides.map fun s => .str (sdT s) := by rw [List.map_map]; rfl
  have nt := need_true st
  unfold b_parts_of
  walk_at "nx"
  walk_at "nx"
  walk_at "nx"
  walk_at "nx"
  walk_at "nx"
  · refine fin_nx (drop_nx (d := .non) (st' := st) ?_) ?_
    · rw [call_1 rfl (mOr_bl (a := isW P.kind) (b := ptT P == ("*/*" : Str)) (by walk_at "evh") fun _ => (by walk_at "evh")), s2, nt]
    refine fin_nx (drop_nx (d := .non) (st' := st) ?_) ?_
    · rw [call_1 rfl (mOr_bl (a := isW P.form) (b := P.form == ("*" : Str) && P.sides.isEmpty) (by walk_at "evh") fun _ => mAnd_bl (by walk_at "evh") fun _ => (by walk_at "evh")), s3, nt]
    refine fin_ret ?_
    walk_at "evh"
    rfl
/-! ### makes let by, makes that fit -/
theorem okSides_of {P : Pt} (h : isMk P = true) : isW P.kind = true ∧ isW P.form = true := by
  unfold isMk at h
  simp only [Bool.and_eq_true] at h
  exact ⟨h.1.2, h.2⟩
theorem ne_star {x : Str} (h : isW x = true) : x ≠ ("*" : Str) := fun e => by
  rw [e] at h
  exact absurd h (by decide +kernel)
theorem nin_two (a b : Str) (st : Store) : gNin st (.str ("*" : Str)) (.tup [.str a, .str b]) = some (.bl (!(a == ("*" : Str) || b == ("*" : Str)))) := by
  simp only [gNin, inD, flatD, flatDs, Option.bind_some, Option.map_some, inV, List.any_cons, List.any_nil, eqV, Bool.or_false]
theorem need_make_eq (P : Pt) (h : isPt P = true) (st : Store) : m_need_make [.str (ptT P)] st = if (P.kind == ("*" : Str) || P.form == ("*" : Str)) = true then .ex "BadMake" st else .ok .non st := by
  have e := parts_of_eq P h st
  have hn := nin_two P.kind P.form st
  have key : mCallD 1 m_mk_need (mCons (mBin gNin (mC (.str "*")) (mSl gSl (mCallD 1 m_parts_of (mCons (mVar 0) mNil)) mNoP (mPart (mC (.int 2))))) mNil) [some (.str (ptT P))] st = m_mk_need [.bl (!(P.kind == ("*" : Str) || P.form == ("*" : Str)))] st := by
    refine call_1 rfl ?_
    walk_at "evh"
    have hns : notSw [D.str P.kind, D.str P.form] = true := rfl
    simp only [ptD, cut_t2, List.take, hns, if_true, hn, Res.of_some, Res.ok_bind]
  cases hk : (P.kind == ("*" : Str) || P.form == ("*" : Str)) with
  | true =>
    rw [hk] at key
    rw [if_pos rfl]
    refine def_ex ?_
    exact drop_ex (key.trans (need_false st))
  | false =>
    rw [hk] at key
    rw [if_neg (by simp)]
    exact def_nx ⟨_, drop_nx (key.trans (need_true st))⟩
theorem need_make_ok (P : Pt) (h : isMk P = true) (st : Store) : m_need_make [.str (ptT P)] st = .ok .non st := by
  rw [need_make_eq P (isMk_isPt h)]
  obtain ⟨h1, h2⟩ := okSides_of h
  rw [if_neg]
  simp [ne_star h1, ne_star h2]
/-- whether a make fits a pattern -/
def fitP (P Q : Pt) : Bool := (P.kind == ("*" : Str) || P.kind == Q.kind) && (P.form == ("*" : Str) || P.form == Q.form) && P.sides.all fun s => decide (s ∈ Q.sides)
theorem sdD_inj {a b : Str × Str} (h : sdD a = sdD b) : a = b := by
  simp only [sdD, D.tup.injEq, List.cons.injEq, D.str.injEq, and_true] at h
  exact Prod.ext h.1 h.2
theorem toPys_map {α : Type} (f : α → D) : ∀ l : List α, toPys (l.map f) = l.map fun a => toPy (f a)
  | [] => rfl
  | a :: r => by simp [toPys, toPys_map f r]
theorem in_sides {s : Str × Str} {l : List (Str × Str)} (hs : isW s.1 = true ∧ isW s.2 = true) (hl : ∀ s ∈ l, isW s.1 = true ∧ isW s.2 = true) (st : Store) : gIn st (sdD s) (.lst (l.map sdD)) = some (.bl (decide (s ∈ l))) := by
  have o1 : okD 1 (sdD s) = true := by simp [sdD, okD, okDs, isW_ok hs.1, isW_ok hs.2]
  have o2 : okD 2 (.lst (l.map sdD)) = true := by simp only [okD]; exact okDs_sides hl
  have e : inD st (sdD s) (.lst (l.map sdD)) = some (decide (s ∈ l)) := by
    have p1 := py_toPy (st := st) (m := 3) o1
    have p2 := py_toPy (st := st) (m := 3) o2
    have g1 := shp_toPy (by omega) o1
    have g2 := shp_toPy (by omega) o2
    simp only [toPy] at p2 g2
    unfold inD
    show (match py 3 st (sdD s), py 3 st (.lst (l.map sdD)) with
      | some x, some (.list zs) => if shp x && shp (.list zs) then some (zs.any fun z => PyData.eqv z x) else none
      | _, _ => none) = _
    rw [p1, p2]
    simp only [g1, g2, Bool.and_self, if_true, Option.some.injEq]
    rw [toPys_map, List.any_map]
    rw [Bool.eq_iff_iff, List.any_eq_true, decide_eq_true_eq]
    constructor
    · rintro ⟨t, ht, h⟩
      have hw := hl t ht
      have o3 : okD 1 (sdD t) = true := by simp [sdD, okD, okDs, isW_ok hw.1, isW_ok hw.2]
      have := (eqv_nz 1 1 (sdD t) (sdD s) o3 o1).mp h
      have e : t = s := sdD_inj (by simpa [sdD, nz, nzs] using this)
      rw [← e]; exact ht
    · intro h
      exact ⟨s, h, (eqv_nz 1 1 (sdD s) (sdD s) o1 o1).mpr rfl⟩
  unfold gIn
  rw [e]; rfl
theorem nin_tup (x a : Str) (st : Store) : gNin st (.str x) (.tup [.str ("*" : Str), .str a]) = some (.bl (!(x == ("*" : Str) || x == a))) := by
  simp only [gNin, inD, flatD, flatDs, Option.bind_some, Option.map_some, inV, List.any_cons, List.any_nil, eqV, Bool.or_false]
  rw [show (("*" : Str) == x) = (x == ("*" : Str)) from BEq.comm, show (a == x) = (x == a) from BEq.comm]
theorem q_is_fit (P Q : Pt) (hP : isPt P = true) (hQ : isPt Q = true) (a b c d : Option D) (st : Store) : q_is_fit_1 [a, b, c, d, some (.lst (P.sides.map sdD)), some (ptD Q), none] st = .ok (.lst (P.sides.map fun s => .bl (decide (s ∈ Q.sides)))) st := by
  obtain ⟨h3, hw, _⟩ := sides_ok hP
  obtain ⟨_, hw', _⟩ := sides_ok hQ
  refine mComp_eq (s := ⟨P.sides.map sdD, yes⟩) rfl ?_ (by rw [List.length_map]; omega)
  refine compL_map sdD (fun s => .bl (decide (s ∈ Q.sides))) rfl P.sides fun s hs => ⟨_, rfl, ?_⟩
  have e := in_sides (hw s hs) hw' st
  walk_at "ev"
  simp only [ptD, atI_2, List.getElem?_cons_succ, List.getElem?_cons_zero, Res.of_some, Res.ok_bind, e]
theorem is_fit_eq (P Q : Pt) (hP : isPt P = true) (hQ : isPt Q = true) (st : Store) : m_is_fit [.str (ptT P), .str (ptT Q)] st = .ok (.bl (fitP P Q)) st := by
  have e1 := parts_of_eq P hP st
  have e2 := parts_of_eq Q hQ st
  refine def_fin ?_ rfl
  unfold b_is_fit
  walk_at "nx"
  walk_at "nx"
  have q1 := q_is_fit P Q hP hQ (some (.str (ptT P))) (some (.str (ptT Q))) (some (.str P.kind)) (some (.str P.form)) st
  have n1 := nin_tup P.kind Q.kind st
  have n2 := nin_tup P.form Q.form st
  refine fin_if (!(P.kind == ("*" : Str) || P.kind == Q.kind) || !(P.form == ("*" : Str) || P.form == Q.form)) (mOrT_bl (by walk_at "ev"; simp only [ptD, atI_0, List.getElem?_cons_zero, Res.of_some, Res.ok_bind, List.length_cons, List.length_nil, Nat.reduceAdd, Nat.reduceLeDiff, notSw2, if_true, n1, asB]) fun _ => by walk_at "ev"; simp only [ptD, atI_1, List.getElem?_cons_zero, List.getElem?_cons_succ, Res.of_some, Res.ok_bind, List.length_cons, List.length_nil, Nat.reduceAdd, Nat.reduceLeDiff, notSw2, if_true, n2, asB]) ?_
  unfold fitP
  cases c1 : (P.kind == ("*" : Str) || P.kind == Q.kind) with
  | false => simp only [Bool.not_false, Bool.true_or, if_true, Bool.false_and]; exact fin_rets rfl
  | true =>
    cases c2 : (P.form == ("*" : Str) || P.form == Q.form) with
    | false => simp only [Bool.not_false, Bool.or_true, if_true, Bool.and_false, Bool.false_and]; exact fin_rets rfl
    | true =>
      simp only [Bool.not_true, Bool.or_self, Bool.false_eq_true, if_false, Bool.true_and, fin_nil]
      refine fin_ret ?_
      simp only [mCall, mCons, mNil, List.set_cons_zero, List.set_cons_succ, q1, Res.ok_bind, cAll, asL, Option.bind_some, blD_map, Option.map_some, Res.of_some, List.all_map, Function.comp_def, id]
theorem fits_eq (P Q : Pt) (hP : isPt P = true) (hQ : isMk Q = true) (st : Store) : m_fits [.str (ptT P), .str (ptT Q)] st = .ok (.bl (fitP P Q)) st := by
  have e1 := parts_of_eq P hP st
  have e2 := need_make_ok Q hQ st
  have e3 := is_fit_eq P Q hP (isMk_isPt hQ) st
  refine def_fin ?_ rfl
  unfold b_fits
  walk_at "nx"
  walk_at "nx"
  refine fin_ret ?_
  walk_at "evh"

end K10
namespace K10
open PySem PySem.Spec L2 Mr
local macro_rules | `(tactic| walk_at "ev") => `(tactic| simp only [sRet, sIf, sAsg, sDrop, sPar, sNil, sRaise, mBin, mCall, mCallD, mCons, mNil, mC, mVar, mTup, mLst, mIfE, mAnd, mOr, mNot, mAndT, mOrT, mNotT, mTest, mTru, mChain, mMt, rcv, pureM, mSl, mPart, mNoP, mNeg, setT, setAll, startE, Res.ok_bind, Res.ex_bind, Res.no_bind, Res.of_some, Res.of_none, Res.ok_nox, asB, tru, List.map_cons, List.map_nil, List.length_cons, List.length_nil, List.replicate, List.cons_append, List.nil_append, List.getElem?_cons_zero, List.getElem?_cons_succ, List.set_cons_zero, List.set_cons_succ, Nat.reduceAdd, Nat.reduceSub, Nat.reduceEqDiff, Nat.reduceLeDiff, if_true, if_false, and_self, Bool.false_eq_true, Bool.not_true, Bool.not_false, Option.map_some, Option.bind_some, asL, asLs, asT, wipeE, gIx, gSl, atI_0, atI_1, atI_2, atI_3, atI_n1, cut_d1, cut_t2, cLen, cTuple, cList, cAll, cAny, cIsi, tyD, isiT, gSplit, gLt, gLe, gGt, gGe, gIsn, gIs, isD, eq_int, eq_str, beq_two, notSw2, List.drop_succ_cons, List.drop_zero, size_eq, Nat.zero_le, true_and, and_true, decide_true, decide_false])
local macro_rules | `(tactic| walk_at "evh") => `(tactic| simp only [sRet, sIf, sAsg, sDrop, sPar, sNil, sRaise, mBin, mCall, mCallD, mCons, mNil, mC, mVar, mTup, mLst, mIfE, mAnd, mOr, mNot, mAndT, mOrT, mNotT, mTest, mTru, mChain, mMt, rcv, pureM, mSl, mPart, mNoP, mNeg, setT, setAll, startE, Res.ok_bind, Res.ex_bind, Res.no_bind, Res.of_some, Res.of_none, Res.ok_nox, asB, tru, List.map_cons, List.map_nil, List.length_cons, List.length_nil, List.replicate, List.cons_append, List.nil_append, List.getElem?_cons_zero, List.getElem?_cons_succ, List.set_cons_zero, List.set_cons_succ, Nat.reduceAdd, Nat.reduceSub, Nat.reduceEqDiff, Nat.reduceLeDiff, if_true, if_false, and_self, Bool.false_eq_true, Bool.not_true, Bool.not_false, Option.map_some, Option.bind_some, asL, asLs, asT, wipeE, gIx, gSl, atI_0, atI_1, atI_2, atI_3, atI_n1, cut_d1, cut_t2, cLen, cTuple, cList, cAll, cAny, cIsi, tyD, isiT, gSplit, gLt, gLe, gGt, gGe, gIsn, gIs, isD, eq_int, eq_str, beq_two, notSw2, List.drop_succ_cons, List.drop_zero, size_eq, Nat.zero_le, true_and, and_true, decide_true, decide_false, *])
local macro_rules | `(tactic| walk_at "nx") => `(tactic| (first | (apply fin_nx; (case h => (walk_at "evh"; try rfl))) | (apply seq_nx; (case h => (walk_at "evh"; try rfl)))))
/-! ### wishes -/
theorem strB_tl (x : Str) : strB x = (TL.tl x).all fun c => decide (c < 0x110000) := by
  unfold strB
  rw [Bool.eq_iff_iff, Array.all_eq_true', List.all_eq_true]
  simp
theorem strB_app {x y : Str} (hx : strB x = true) (hy : strB y = true) : strB (x ++ y) = true := by
  rw [strB_tl] at hx hy ⊢
  rw [TL.tl_append, List.all_append, hx, hy]; rfl
theorem strB_join {y : Str} (hy : strB y = true) : ∀ {l : List Str}, (∀ x ∈ l, strB x = true) → strB (PySem.Str.join y l) = true
  | [], _ => by show strB PySem.Str.empty = true; decide +kernel
  | [a], h => h a (by simp)
  | a :: b :: r, h => strB_app (strB_app (h a (by simp)) hy) (strB_join hy (l := b :: r) fun x hx => h x (List.mem_cons_of_mem _ hx))
theorem strB_sd {s : Str × Str} (h : isW s.1 = true ∧ isW s.2 = true) : strB (sdT s) = true := strB_app (strB_app (isW_ok h.1) (by decide +kernel)) (isW_ok h.2)
theorem strB_kf {P : Pt} (h : isPt P = true) : strB P.kind = true ∧ strB P.form = true := by
  unfold isPt at h
  simp only [Bool.and_eq_true, Bool.or_eq_true, decide_eq_true_eq] at h
  obtain ⟨⟨_, h1⟩, h2⟩ := h
  constructor
  · rcases h1 with h1 | ⟨⟨h1, _⟩, _⟩
    · exact isW_ok h1
    · rw [h1]; decide +kernel
  · rcases h2 with h2 | ⟨h2, _⟩
    · exact isW_ok h2
    · rw [h2]; decide +kernel
theorem strB_hd {P : Pt} (h : isPt P = true) : strB (hdT P) = true := strB_app (strB_app (strB_kf h).1 (by decide +kernel)) (strB_kf h).2
theorem strB_pt {P : Pt} (h : isPt P = true) : strB (ptT P) = true := strB_join (by decide +kernel) fun x hx => by
  rcases List.mem_cons.mp hx with rfl | hx
  · exact strB_hd h
  · obtain ⟨s, hs, rfl⟩ := List.mem_map.mp hx
    exact strB_sd ((sides_ok h).2.1 s hs)
def wiD (p : Pt × Int) : D := .tup [.str (ptT p.1), .int p.2]
def wsD (l : List (Pt × Int)) : D := .tup (l.map wiD)
def okWs (l : List (Pt × Int)) : Prop := l.length ≤ 8 ∧ ∀ p ∈ l, isPt p.1 = true ∧ 0 ≤ p.2 ∧ p.2 ≤ 9
theorem need_wishes_ok (l : List (Pt × Int)) (h : okWs l) (st : Store) : m_need_wishes [wsD l] st = .ok .non st := by
  obtain ⟨h8, hl⟩ := h
  have nt := need_true st
  have h8' : decide (((l.map wiD).length : Int) ≤ 8) = true := by rw [decide_eq_true_eq, List.length_map]; omega
  have h8'' : decide ((l.length : Int) ≤ 8) = true := by rw [decide_eq_true_eq]; omega
  refine def_nx ?_
  unfold b_need_wishes
  have hb : ∀ p : Pt × Int, p ∈ l → ∀ e : Option D, w_need_wishes_1 [some (wsD l), some (wiD p)] st = .ok (.nx, [some (wsD l), some (wiD p)]) st := fun p hp e => by
    obtain ⟨hP, h0, h9⟩ := hl p hp
    have e1 := parts_of_eq p.1 hP st
    have g0 : decide ((0 : Int) ≤ p.2) = true := decide_eq_true h0
    have g9 : decide (p.2 ≤ (9 : Int)) = true := decide_eq_true h9
    unfold w_need_wishes_1 wiD
    walk_at "nx"
    walk_at "nx"
    walk_at "evh"
  obtain ⟨env', st', h1, h2⟩ := forL_gen (chk := yes) (tg := .one 1) (body := w_need_wishes_1) wiD (fun r env s => (∀ p ∈ r, p ∈ l) ∧ s = st ∧ ∃ e, env = [some (wsD l), e])
    (fun a r env s hI => by
      obtain ⟨hr, rfl, e, rfl⟩ := hI
      exact ⟨rfl, _, _, _, rfl, hb a (hr a (by simp)) e, fun p hp => hr p (List.mem_cons_of_mem _ hp), rfl, _, rfl⟩)
    (fun _ _ _ => rfl) l [some (wsD l), none] st ⟨fun p hp => hp, rfl, none, rfl⟩
  obtain ⟨_, rfl, _⟩ := h2
  refine ⟨env', ?_⟩
  apply seq_nx
  case h =>
    unfold wsD
    walk_at "evh"
    rfl
  exact (sFor_eq (s := ⟨l.map wiD, yes⟩) rfl).trans h1
/-- how much a pattern tells -/
def clP (P : Pt) : Int := if P.form == ("*" : Str) then (if P.kind == ("*" : Str) then 0 else 1) else 2 + (P.sides.length : Int)
theorem closeness_eq (P : Pt) (h : isPt P = true) (st : Store) : m_closeness [.str (ptT P)] st = .ok (.int (clP P)) st := by
  have e1 := parts_of_eq P h st
  refine def_fin ?_ rfl
  unfold b_closeness
  walk_at "nx"
  refine fin_if (P.form == ("*" : Str)) (by walk_at "ev") ?_
  unfold clP
  cases c1 : P.form == ("*" : Str) with
  | true =>
    simp only [if_true]
    refine fin_rets ?_
    walk_at "ev"
    cases c2 : P.kind == ("*" : Str) <;> rfl
  | false =>
    simp only [Bool.false_eq_true, if_false, fin_nil]
    refine fin_ret ?_
    walk_at "ev"
    simp only [gAdd, List.length_map, Res.of_some, Res.ok_bind]
/-- how much a make is wished -/
def told (l : List (Pt × Int)) (Q : Pt) : List (Pt × Int) := l.filter fun p => fitP p.1 Q
def wtP (l : List (Pt × Int)) (Q : Pt) : Int := if (told l Q).isEmpty then 0 else (((told l Q).filter fun p => clP p.1 == maxI ((told l Q).map fun p => clP p.1)).map (·.2)).headD 0
theorem told_mem {l : List (Pt × Int)} {Q : Pt} {p : Pt × Int} (h : p ∈ told l Q) : p ∈ l := (List.mem_filter.mp h).1
theorem weight_for_eq (l : List (Pt × Int)) (Q : Pt) (h : okWs l) (hQ : isPt Q = true) (st : Store) : m_weight_for [wsD l, .str (ptT Q)] st = .ok (.int (wtP l Q)) st := by
  obtain ⟨h8, hl⟩ := h
  have ht : ∀ p ∈ told l Q, isPt p.1 = true := fun p hp => (hl p (told_mem hp)).1
  have hlen : (told l Q).length ≤ 8 := Nat.le_trans (List.length_filter_le _ _) h8
  have q1 : q_weight_for_1 [some (wsD l), some (.str (ptT Q)), none, none, none, none, none] st = .ok (.lst ((told l Q).map wiD)) st := by
    refine mComp_eq (s := ⟨l.map wiD, yes⟩) rfl ?_ (by rw [List.length_map]; omega)
    refine compL_filter wiD (fun p => fitP p.1 Q) wiD rfl l fun p hp => ⟨_, rfl, ?_, fun _ => ?_⟩
    · have e := is_fit_eq p.1 Q (hl p hp).1 hQ st
      unfold wiD
      walk_at "evh"
    · rfl
  have q2 : q_weight_for_2 [some (wsD l), some (.str (ptT Q)), some (.lst ((told l Q).map wiD)), none, none, none, none] st = .ok (.lst ((told l Q).map fun p => .int (clP p.1))) st := by
    refine mComp_eq (s := ⟨(told l Q).map wiD, yes⟩) rfl ?_ (by rw [List.length_map]; omega)
    refine compL_map wiD (fun p => .int (clP p.1)) rfl (told l Q) fun p hp => ⟨_, rfl, ?_⟩
    have e := closeness_eq p.1 (ht p hp) st
    walk_at "evh"
  have q3 : ∀ m : Int, q_weight_for_3 [some (wsD l), some (.str (ptT Q)), some (.lst ((told l Q).map wiD)), some (.int m), none, none, none] st = .ok (.lst (((told l Q).filter fun p => clP p.1 == m).map fun p => .int p.2)) st := fun m => by
    refine mComp_eq (s := ⟨(told l Q).map wiD, yes⟩) rfl ?_ (by rw [List.length_map]; exact Nat.le_trans (List.length_filter_le _ _) (by omega))
    refine compL_filter wiD (fun p => clP p.1 == m) (fun p => .int p.2) rfl (told l Q) fun p hp => ⟨_, rfl, ?_, fun _ => rfl⟩
    have e := closeness_eq p.1 (ht p hp) st
    walk_at "evh"
  have e0 : gEq st (.lst ((told l Q).map wiD)) (.lst []) = some (.bl (told l Q).isEmpty) := by
    rw [eq_nilD (n := 1) (by omega) (okDs_map 1 wiD (told l Q) fun p hp => by simp [wiD, okD, okDs, strB_pt (ht p hp)])]
    simp
  refine def_fin ?_ rfl
  unfold b_weight_for
  walk_at "nx"
  refine fin_if (told l Q).isEmpty (by walk_at "evh") ?_
  unfold wtP
  cases c : (told l Q).isEmpty with
  | true =>
    simp only [if_true]
    exact fin_rets rfl
  | false =>
    simp only [Bool.false_eq_true, if_false, fin_nil]
    have hne : (told l Q).map (fun p => clP p.1) ≠ [] := fun z => by
      rw [List.map_eq_nil_iff] at z
      rw [z] at c; cases c
    have b := itD_map (fun p : Pt × Int => clP p.1) (told l Q)
    apply fin_nx
    case h =>
      walk_at "evh"
      simp only [cMax, asL, Option.bind_some, b, hne, if_false, Res.of_some, Res.ok_bind, List.set_cons_zero, List.set_cons_succ]
      rfl
    have e3 := q3 (maxI ((told l Q).map fun p => clP p.1))
    refine fin_ret ?_
    walk_at "evh"
    obtain ⟨m1, m2⟩ := maxI_ok hne
    obtain ⟨p, hp, e⟩ := List.mem_map.mp m1
    have hm : p ∈ (told l Q).filter fun p => clP p.1 == maxI ((told l Q).map fun p => clP p.1) := List.mem_filter.mpr ⟨hp, by simp [e]⟩
    cases hf : (told l Q).filter fun p => clP p.1 == maxI ((told l Q).map fun p => clP p.1) with
    | nil => rw [hf] at hm; cases hm
    | cons a r => rfl
theorem weight_of_eq (l : List (Pt × Int)) (Q : Pt) (h : okWs l) (hQ : isMk Q = true) (st : Store) : m_weight_of [wsD l, .str (ptT Q)] st = .ok (.int (wtP l Q)) st := by
  have e1 := need_wishes_ok l h st
  have e2 := need_make_ok Q hQ st
  have e3 := weight_for_eq l Q h (isMk_isPt hQ) st
  refine def_fin ?_ rfl
  unfold b_weight_of
  walk_at "nx"
  walk_at "nx"
  refine fin_ret ?_
  walk_at "evh"

end K10
namespace K10
open PySem PySem.Spec L2 Mr
local macro_rules | `(tactic| walk_at "ev") => `(tactic| simp only [sRet, sIf, sAsg, sDrop, sPar, sNil, sRaise, mBin, mCall, mCallD, mCons, mNil, mC, mVar, mTup, mLst, mIfE, mAnd, mOr, mNot, mAndT, mOrT, mNotT, mTest, mTru, mChain, mMt, rcv, pureM, mSl, mPart, mNoP, mNeg, setT, setAll, startE, Res.ok_bind, Res.ex_bind, Res.no_bind, Res.of_some, Res.of_none, Res.ok_nox, asB, tru, List.map_cons, List.map_nil, List.length_cons, List.length_nil, List.replicate, List.cons_append, List.nil_append, List.getElem?_cons_zero, List.getElem?_cons_succ, List.set_cons_zero, List.set_cons_succ, Nat.reduceAdd, Nat.reduceSub, Nat.reduceEqDiff, Nat.reduceLeDiff, if_true, if_false, and_self, Bool.false_eq_true, Bool.not_true, Bool.not_false, Option.map_some, Option.bind_some, asL, asLs, asT, wipeE, gIx, gSl, atI_0, atI_1, atI_2, atI_3, atI_n1, cut_d1, cut_t2, cLen, cTuple, cList, cAll, cAny, cIsi, tyD, isiT, gSplit, gLt, gLe, gGt, gGe, gIsn, gIs, isD, eq_int, eq_str, beq_two, notSw2, List.drop_succ_cons, List.drop_zero, size_eq, Nat.zero_le, true_and, and_true, decide_true, decide_false])
local macro_rules | `(tactic| walk_at "evh") => `(tactic| simp only [sRet, sIf, sAsg, sDrop, sPar, sNil, sRaise, mBin, mCall, mCallD, mCons, mNil, mC, mVar, mTup, mLst, mIfE, mAnd, mOr, mNot, mAndT, mOrT, mNotT, mTest, mTru, mChain, mMt, rcv, pureM, mSl, mPart, mNoP, mNeg, setT, setAll, startE, Res.ok_bind, Res.ex_bind, Res.no_bind, Res.of_some, Res.of_none, Res.ok_nox, asB, tru, List.map_cons, List.map_nil, List.length_cons, List.length_nil, List.replicate, List.cons_append, List.nil_append, List.getElem?_cons_zero, List.getElem?_cons_succ, List.set_cons_zero, List.set_cons_succ, Nat.reduceAdd, Nat.reduceSub, Nat.reduceEqDiff, Nat.reduceLeDiff, if_true, if_false, and_self, Bool.false_eq_true, Bool.not_true, Bool.not_false, Option.map_some, Option.bind_some, asL, asLs, asT, wipeE, gIx, gSl, atI_0, atI_1, atI_2, atI_3, atI_n1, cut_d1, cut_t2, cLen, cTuple, cList, cAll, cAny, cIsi, tyD, isiT, gSplit, gLt, gLe, gGt, gGe, gIsn, gIs, isD, eq_int, eq_str, beq_two, notSw2, List.drop_succ_cons, List.drop_zero, size_eq, Nat.zero_le, true_and, and_true, decide_true, decide_false, *])
local macro_rules | `(tactic| walk_at "nx") => `(tactic| (first | (apply fin_nx; (case h => (walk_at "evh"; try rfl))) | (apply seq_nx; (case h => (walk_at "evh"; try rfl)))))
/-! ### the law's own drawing -/
theorem mulOk_r {i j : Int} (h : -(2 ^ 64) < j ∧ j < 2 ^ 64) : mulOk i j = true := by
  unfold mulOk
  rw [decide_eq_true (show CMul i j from .inr h)]; rfl
theorem mulOk_w {i j : Int} {a b : Nat} (ha : i.natAbs < 2 ^ a) (hb : j.natAbs < 2 ^ b) (h0 : 0 < a) (h1 : 0 < b) (h : a + b ≤ 1000000) : mulOk i j = true := by
  unfold mulOk
  rw [decide_eq_true (show CMulW i j from wide_mul ha hb h0 h1 h), Bool.or_true]
theorem gMul_ok {st : Store} {i j : Int} (h : mulOk i j = true) : gMul st (.int i) (.int j) = some (.int (i * j)) := by simp only [gMul, h, if_true]
theorem gMod_ok {st : Store} {i j : Int} (h : 0 < j) : gMod st (.int i) (.int j) = some (.int (i % j)) := by simp only [gMod, h, if_true]
theorem gDiv_ok {st : Store} {i j : Int} (h : CDivW i j) : gDiv st (.int i) (.int j) = some (.int (i / j)) := by simp only [gDiv, h, if_true]
theorem gDiv_ok' {st : Store} {i j : Int} (h : 0 < j) (h2 : j < 2 ^ 100) : gDiv st (.int i) (.int j) = some (.int (i / j)) := gDiv_ok (wide_div (b := 100) h (by omega) (by decide) (by decide))
theorem gAdd_int (st : Store) (i j : Int) : gAdd st (.int i) (.int j) = some (.int (i + j)) := rfl
theorem gSub_int (st : Store) (i j : Int) : gSub st (.int i) (.int j) = some (.int (i - j)) := rfl
theorem gAdd_str {st : Store} {x y : Str} (h : x.length + y.length ≤ 16777216) : gAdd st (.str x) (.str y) = some (.str (x ++ y)) := by
  have h' : x.length + y.length ≤ sizeLine := h
  simp only [gAdd, h', if_true]
abbrev bigP : Int := 340282366920938463463374607431768211507
abbrev bigQ : Int := 340282366920938463463374607431768211297
abbrev bigR : Int := 18446744073709551557
def dr1 (c k : Int) : Int := (c * 6364136223846793005 + (k + 1) * 1442695040888963407) % bigP
def dr2 (m : Int) : Int := m * m % bigQ
def dr3 (m : Int) : Int := (m % bigR + 1) * (m / bigR + 1) * m
def drawn (c k : Int) : Int := dr3 (dr2 (dr1 c k)) % bigP
theorem drawn_nn (c k : Int) : 0 ≤ drawn c k := Int.emod_nonneg _ (by decide)
theorem drawn_eq (c k : Int) (st : Store) : m_law_drawn [.int c, .int k] st = .ok (.int (drawn c k)) st := by
  have a1 := gMul_ok (st := st) (mulOk_r (i := c) (j := 6364136223846793005) (by decide))
  have a2 := gMul_ok (st := st) (mulOk_r (i := k + 1) (j := 1442695040888963407) (by decide))
  have a3 := gMod_ok (st := st) (i := c * 6364136223846793005 + (k + 1) * 1442695040888963407) (j := 340282366920938463463374607431768211507) (by decide)
  have n1 : 0 ≤ dr1 c k ∧ dr1 c k < 340282366920938463463374607431768211507 := ⟨Int.emod_nonneg _ (by decide), Int.emod_lt_of_pos _ (by decide)⟩
  have b1 : (dr1 c k).natAbs < 2 ^ 129 := by have := n1.1; have := n1.2; omega
  have a4 := gMul_ok (st := st) (mulOk_w b1 b1 (by decide) (by decide) (by decide))
  have a5 := gMod_ok (st := st) (i := dr1 c k * dr1 c k) (j := 340282366920938463463374607431768211297) (by decide)
  have n2 : 0 ≤ dr2 (dr1 c k) ∧ dr2 (dr1 c k) < 340282366920938463463374607431768211297 := ⟨Int.emod_nonneg _ (by decide), Int.emod_lt_of_pos _ (by decide)⟩
  refine def_fin ?_ rfl
  unfold b_law_drawn
  refine fin_nx (env' := [some (.int c), some (.int k), some (.int (dr1 c k))]) (st' := st) ?_ ?_
  · simp only [sAsg, mBin, mVar, mC, startE, List.map_cons, List.map_nil, List.length_cons, List.length_nil, List.replicate, List.cons_append, List.nil_append, List.getElem?_cons_zero, List.getElem?_cons_succ, Res.ok_bind, Res.of_some, gAdd_int, a1, a2, a3, setT, List.set_cons_zero, List.set_cons_succ, Nat.reduceAdd, Nat.reduceSub]
    rfl
  refine fin_nx (env' := [some (.int c), some (.int k), some (.int (dr2 (dr1 c k)))]) (st' := st) ?_ ?_
  · simp only [sAsg, mBin, mVar, mC, List.getElem?_cons_zero, List.getElem?_cons_succ, Res.ok_bind, Res.of_some, a4, a5, setT, List.set_cons_zero, List.set_cons_succ]
    rfl
  unfold drawn
  generalize dr2 (dr1 c k) = m at n2
  have b2 : m.natAbs < 2 ^ 129 := by have := n2.1; have := n2.2; omega
  have a6 := gMod_ok (st := st) (i := m) (j := 18446744073709551557) (by decide)
  have a7 := gDiv_ok' (st := st) (i := m) (j := 18446744073709551557) (by decide) (by decide)
  have n3 : 0 ≤ m % 18446744073709551557 ∧ m % 18446744073709551557 < 18446744073709551557 := ⟨Int.emod_nonneg _ (by decide), Int.emod_lt_of_pos _ (by decide)⟩
  have n4 : 0 ≤ m / 18446744073709551557 ∧ m / 18446744073709551557 ≤ m := ⟨Int.ediv_nonneg n2.1 (by decide), Int.ediv_le_self _ n2.1⟩
  have b3 : (m % 18446744073709551557 + 1).natAbs < 2 ^ 65 := by have := n3.1; have := n3.2; omega
  have b4 : (m / 18446744073709551557 + 1).natAbs < 2 ^ 130 := by have := n4.1; have := n4.2; have := n2.2; omega
  have a8 := gMul_ok (st := st) (mulOk_w b3 b4 (by decide) (by decide) (by decide))
  have b5 := wide_lt b3 b4
  have a9 := gMul_ok (st := st) (mulOk_w b5 b2 (by decide) (by decide) (by decide))
  refine fin_nx (env' := [some (.int c), some (.int k), some (.int (dr3 m))]) (st' := st) ?_ ?_
  · simp only [sAsg, mBin, mVar, mC, List.getElem?_cons_zero, List.getElem?_cons_succ, Res.ok_bind, Res.of_some, gAdd_int, a6, a7, a8, a9, setT, List.set_cons_zero, List.set_cons_succ]
    rfl
  have a10 := gMod_ok (st := st) (i := dr3 m) (j := 340282366920938463463374607431768211507) (by decide)
  refine fin_ret ?_
  simp only [mBin, mVar, mC, List.getElem?_cons_zero, List.getElem?_cons_succ, Res.ok_bind, Res.of_some, a10]
def cellOf (ns : List Int) (k : Int) : Int := if ns.isEmpty then k * 7919 else ns.getD (k % (ns.length : Int)).toNat 0 + k / (ns.length : Int) * 104729
theorem okDs_ints (ns : List Int) : okDs 0 (ns.map .int) = true := okDs_map 0 D.int ns fun _ _ => rfl
theorem cell_eq (ns : List Int) (hn : ns.length ≤ 63) (k : Int) (st : Store) : m_law_cell [.fix (ns.map .int), .int k] st = .ok (.int (cellOf ns k)) st := by
  have e0 : gEq st (.fix (ns.map .int)) (.lst []) = some (.bl ns.isEmpty) := by
    rw [eq_nilF (n := 0) (by omega) (okDs_ints ns)]; simp
  refine def_fin ?_ rfl
  unfold b_law_cell
  refine fin_if ns.isEmpty (by walk_at "evh") ?_
  unfold cellOf
  cases c : ns.isEmpty with
  | true =>
    simp only [if_true]
    have a1 := gMul_ok (st := st) (mulOk_r (i := k) (j := 7919) (by decide))
    refine fin_rets ?_
    walk_at "evh"
  | false =>
    simp only [Bool.false_eq_true, if_false, fin_nil]
    have hpos : 0 < ns.length := by cases ns <;> simp_all
    have hp : (0 : Int) < ((ns.map D.int).length : Int) := by rw [List.length_map]; omega
    have a1 := gMod_ok (st := st) (i := k) hp
    have a2 := gDiv_ok' (st := st) (i := k) (j := ((ns.map D.int).length : Int)) hp (by rw [List.length_map]; omega)
    have a3 := gMul_ok (st := st) (mulOk_r (i := k / ((ns.map D.int).length : Int)) (j := 104729) (by decide))
    have h1 := Int.emod_nonneg k (b := (ns.length : Int)) (by omega)
    have h2 := Int.emod_lt_of_pos k (b := (ns.length : Int)) (by omega)
    have a4 : atI (ns.map D.int) (k % ((ns.map D.int).length : Int)) = some (.int (ns.getD (k % (ns.length : Int)).toNat 0)) := by
      rw [List.length_map, atI_emod _ _ _ hpos, List.getElem?_map, List.getD_eq_getElem?_getD, List.getElem?_eq_getElem (by omega)]
      rfl
    refine fin_ret ?_
    walk_at "evh"
    simp only [gAdd_int, List.length_map, Res.of_some, Res.ok_bind]
/-! ### the law's makes -/
def kindsM : List Str := ["text", "image", "a", "text"]
def formsM : List Str := ["plain", "rich", "a", "9z"]
def sidesM : List (List (Str × Str)) := [[], [], [("set", "utf8")], [("set", "x")], [("a", "1"), ("set", "utf8")], [("a", "1"), ("b", "2"), ("c", "3")]]
def mkM (m : Int) : Pt := ⟨kindsM.getD (m % 4).toNat "", formsM.getD (m / 4 % 4).toNat "", sidesM.getD (m / 16 % 6).toNat []⟩
theorem menu_ok : (kindsM.all isW && formsM.all isW && sidesM.all okSides) = true := by decide +kernel
theorem getD_mem {α : Type} {l : List α} {n : Nat} {d : α} (h : n < l.length) : l.getD n d ∈ l := by
  rw [List.getD_eq_getElem?_getD, List.getElem?_eq_getElem h]
  exact List.getElem_mem h
theorem mod_lt (m : Int) (n : Nat) (h : 0 < n) : (m % (n : Int)).toNat < n := by
  have h1 := Int.emod_nonneg m (b := (n : Int)) (by omega)
  have h2 := Int.emod_lt_of_pos m (b := (n : Int)) (by omega)
  omega
theorem mkM_ok (m : Int) : isMk (mkM m) = true := by
  have h := menu_ok
  simp only [Bool.and_eq_true, List.all_eq_true] at h
  unfold isMk mkM
  simp only [Bool.and_eq_true]
  exact ⟨⟨h.2 _ (getD_mem (mod_lt (m / 16) 6 (by decide))), h.1.1 _ (getD_mem (mod_lt m 4 (by decide)))⟩, h.1.2 _ (getD_mem (mod_lt (m / 4) 4 (by decide)))⟩
theorem app_assoc (x y z : Str) : x ++ y ++ z = x ++ (y ++ z) := TL.ext_tl (by simp only [TL.tl_append, List.append_assoc])
theorem join_fold (y : Str) : ∀ (l : List Str) (h : Str), PySem.Str.join y (h :: l) = l.foldl (fun f x => f ++ y ++ x) h
  | [], h => rfl
  | a :: r, h => by
    rw [List.foldl_cons, ← join_fold y r (h ++ y ++ a)]
    show h ++ y ++ PySem.Str.join y (a :: r) = PySem.Str.join y ((h ++ y ++ a) :: r)
    cases r with
    | nil => rfl
    | cons b s =>
      show h ++ y ++ (a ++ y ++ PySem.Str.join y (b :: s)) = h ++ y ++ a ++ y ++ PySem.Str.join y (b :: s)
      simp only [app_assoc]
theorem atI_mod {α : Type} {l : List α} {d : α} (m : Int) (n : Nat) (hn : 0 < n) (hl : l.length = n) : atI l (m % (n : Int)) = some (l.getD (m % (n : Int)).toNat d) := by
  have h := mod_lt m n hn
  rw [atI_emod _ _ _ hn, List.getD_eq_getElem?_getD, List.getElem?_eq_getElem (by omega)]
  rfl
theorem atI_modm {α : Type} {l : List α} (f : α → D) (d : α) (m : Int) (n : Nat) (hn : 0 < n) (hl : l.length = n) : atI (l.map f) (m % (n : Int)) = some (f (l.getD (m % (n : Int)).toNat d)) := by
  have h := mod_lt m n hn
  rw [atI_emod _ _ _ hn, List.getElem?_map, List.getD_eq_getElem?_getD, List.getElem?_eq_getElem (by omega)]
  rfl
theorem get_last (st : Store) (c : Cell) : (st ++ [c])[st.length]? = some c := by simp
theorem set_last (st : Store) (c d : Cell) : (st ++ [c]).set st.length d = st ++ [d] := by simp
theorem isMk_len {P : Pt} (h : isMk P = true) : (∀ s ∈ P.sides, s.1.length ≤ 10 ∧ s.2.length ≤ 10) ∧ P.sides.length ≤ 3 := by
  obtain ⟨h3, hw, _⟩ := sides_ok (isMk_isPt h)
  exact ⟨fun s hs => ⟨(isW_len (hw s hs).1).2, (isW_len (hw s hs).2).2⟩, h3⟩
theorem len_se : (";" : Str).length = 1 := by decide +kernel
theorem len_eq1 : ("=" : Str).length = 1 := by decide +kernel
theorem len_sl : ("/" : Str).length = 1 := by decide +kernel
theorem law_make_loop (st st1 : Store) (m : Int) (n : D) (P : Pt) (hP : isMk P = true) : ∃ env', forL yes (.tup [3, 4]) w_law_make_1 (P.sides.map sdD) [some (.int m), some (.str (hdT P)), some n, none, none] st1 = .ok (.nx, env') st1 ∧ ∃ a b, env' = [some (.int m), some (.str (ptT P)), some n, a, b] := by
  obtain ⟨hl, h3⟩ := isMk_len hP
  have hd := hdT_len (isMk_isPt hP)
  obtain ⟨env', st', h1, h2, h3', d, h4, h5, a, b, h6⟩ := forL_gen (chk := yes) (tg := .tup [3, 4]) (body := w_law_make_1) sdD (fun r env s => s = st1 ∧ (∀ x ∈ r, x ∈ P.sides) ∧ ∃ d : List (Str × Str), d ++ r = P.sides ∧ ((d.map sdT).foldl (fun f x => f ++ (";" : Str) ++ x) (hdT P)).length ≤ 21 + 30 * d.length ∧ ∃ a b, env = [some (.int m), some (.str ((d.map sdT).foldl (fun f x => f ++ (";" : Str) ++ x) (hdT P))), some n, a, b])
    (fun x r env s hI => by
      obtain ⟨rfl, hr, d, hd1, hd2, a, b, rfl⟩ := hI
      have hx := hl x (hr x (by simp))
      have hdl : d.length ≤ 3 := by
        have := congrArg List.length hd1
        rw [List.length_append] at this
        omega
      generalize hf : (d.map sdT).foldl (fun f x => f ++ (";" : Str) ++ x) (hdT P) = f at hd2
      have g1 := gAdd_str (st := s) (x := f) (y := ";") (by rw [len_se]; omega)
      have g2 := gAdd_str (st := s) (x := f ++ (";" : Str)) (y := x.1) (by rw [len_app, len_se]; omega)
      have g3 := gAdd_str (st := s) (x := f ++ (";" : Str) ++ x.1) (y := "=") (by rw [len_app, len_app, len_se, len_eq1]; omega)
      have g4 := gAdd_str (st := s) (x := f ++ (";" : Str) ++ x.1 ++ ("=" : Str)) (y := x.2) (by rw [len_app, len_app, len_app, len_se, len_eq1]; omega)
      refine ⟨rfl, [some (.int m), some (.str f), some n, some (.str x.1), some (.str x.2)], [some (.int m), some (.str (f ++ (";" : Str) ++ x.1 ++ ("=" : Str) ++ x.2)), some n, some (.str x.1), some (.str x.2)], s, rfl, ?_, rfl, fun y hy => hr y (List.mem_cons_of_mem _ hy), d ++ [x], by simp [hd1], ?_, some (.str x.1), some (.str x.2), ?_⟩
      · unfold w_law_make_1
        walk_at "evh"
      · rw [List.map_append, List.foldl_append, hf]
        show (f ++ (";" : Str) ++ sdT x).length ≤ _
        unfold sdT
        rw [len_app, len_app, len_app, len_app, len_se, len_eq1, List.length_append, List.length_singleton]
        omega
      · rw [List.map_append, List.foldl_append, hf]
        show _ = [some (D.int m), some (D.str (f ++ (";" : Str) ++ sdT x)), some n, some (D.str x.1), some (D.str x.2)]
        unfold sdT
        simp only [app_assoc])
    (fun _ _ _ => rfl) P.sides [some (.int m), some (.str (hdT P)), some n, none, none] st1 ⟨rfl, fun x hx => hx, [], rfl, by simpa using hd, none, none, rfl⟩
  rw [List.append_nil] at h4
  subst h4 h2
  refine ⟨env', h1, a, b, ?_⟩
  rw [h6]
  unfold ptT
  rw [join_fold]
theorem law_make_eq (m : Int) (st : Store) : m_law_make [.int m] st = .ok (.str (ptT (mkM m))) st := by
  have hP := mkM_ok m
  have hpl := pt_len (isMk_isPt hP)
  have a1 := gMod_ok (st := st) (i := m) (j := 4) (by decide)
  have a2 := gDiv_ok' (st := st) (i := m) (j := 4) (by decide) (by decide)
  have a3 := gMod_ok (st := st) (i := m / 4) (j := 4) (by decide)
  have k1 : atI [D.str "text", D.str "image", D.str "a", D.str "text"] (m % 4) = some (.str (mkM m).kind) := by
    exact atI_modm (l := kindsM) D.str "" m 4 (by decide) rfl
  have k2 : atI [D.str "plain", D.str "rich", D.str "a", D.str "9z"] (m / 4 % 4) = some (.str (mkM m).form) := by
    exact atI_modm (l := formsM) D.str "" (m / 4) 4 (by decide) rfl
  have g1 := gAdd_str (st := st) (x := (mkM m).kind) (y := "/") (by rw [len_sl]; omega)
  have g2 := gAdd_str (st := st) (x := (mkM m).kind ++ ("/" : Str)) (y := (mkM m).form) (by rw [len_app, len_sl]; omega)
  have key : fin (b_law_make [some (.int m), none, none, none, none] st) = .ok (.str (ptT (mkM m))) (st ++ [.lst (sidesM.map fun l => .lst (l.map sdD))]) := by
    unfold b_law_make
    refine fin_nx (env' := [some (.int m), some (.str (hdT (mkM m))), none, none, none]) (st' := st) ?_ ?_
    · walk_at "evh"
      rfl
    refine fin_nx (env' := [some (.int m), some (.str (hdT (mkM m))), some (.ref st.length), none, none]) (st' := st ++ [.lst ((sidesM.take 5).map fun l => .lst (l.map sdD))]) ?_ ?_
    · simp only [sAsg, mLstC]
      walk_at "ev"
      rfl
    refine fin_nx (env' := [some (.int m), some (.str (hdT (mkM m))), some (.ref st.length), none, none]) (st' := st ++ [.lst (sidesM.map fun l => .lst (l.map sdD))]) ?_ ?_
    · refine drop_nx (d := .non) ?_
      walk_at "ev"
      try simp only [show notSw [D.str "a", D.str "1"] = true from rfl, show notSw [D.str "b", D.str "2"] = true from rfl, show notSw [D.str "c", D.str "3"] = true from rfl, if_true, Res.ok_bind, List.length_cons, List.length_nil, Nat.reduceAdd, Nat.reduceLeDiff]
      simp only [get_last, gAppend, set_last, Option.isSome_some, if_true]
      rfl
    have b2 := gDiv_ok' (st := st ++ [.lst (sidesM.map fun l => .lst (l.map sdD))]) (i := m) (j := 16) (by decide) (by decide)
    have b3 := gMod_ok (st := st ++ [.lst (sidesM.map fun l => .lst (l.map sdD))]) (i := m / 16) (j := 6) (by decide)
    have k3 : atI (sidesM.map fun l => D.lst (l.map sdD)) (m / 16 % 6) = some (.lst ((mkM m).sides.map sdD)) := by
      exact atI_modm (l := sidesM) (fun l => D.lst (l.map sdD)) [] (m / 16) 6 (by decide) rfl
    obtain ⟨env', h1, a, b, h2⟩ := law_make_loop st (st ++ [.lst (sidesM.map fun l => .lst (l.map sdD))]) m (.ref st.length) (mkM m) hP
    refine fin_nx (env' := env') (st' := st ++ [.lst (sidesM.map fun l => .lst (l.map sdD))]) ((sFor_eq (s := ⟨(mkM m).sides.map sdD, yes⟩) ?_).trans h1) ?_
    · unfold mIL
      walk_at "ev"
      simp only [b2, b3, Res.of_some, Res.ok_bind, get_last, Option.bind_some, k3, srcL, asL, Option.map_some, keepL]
    rw [h2]
    exact fin_ret rfl
  exact def_finC key rfl

end K10
namespace K10
open PySem PySem.Spec L2 Mr
local macro_rules | `(tactic| walk_at "ev") => `(tactic| simp only [sRet, sIf, sAsg, sDrop, sPar, sNil, sRaise, mBin, mCall, mCallD, mCons, mNil, mC, mVar, mTup, mLst, mIfE, mAnd, mOr, mNot, mAndT, mOrT, mNotT, mTest, mTru, mChain, mMt, rcv, pureM, mSl, mPart, mNoP, mNeg, setT, setAll, startE, Res.ok_bind, Res.ex_bind, Res.no_bind, Res.of_some, Res.of_none, Res.ok_nox, asB, tru, List.map_cons, List.map_nil, List.length_cons, List.length_nil, List.replicate, List.cons_append, List.nil_append, List.getElem?_cons_zero, List.getElem?_cons_succ, List.set_cons_zero, List.set_cons_succ, Nat.reduceAdd, Nat.reduceSub, Nat.reduceEqDiff, Nat.reduceLeDiff, if_true, if_false, and_self, Bool.false_eq_true, Bool.not_true, Bool.not_false, Option.map_some, Option.bind_some, asL, asLs, asT, wipeE, gIx, gSl, atI_0, atI_1, atI_2, atI_3, atI_n1, cut_d1, cut_t2, cLen, cTuple, cList, cAll, cAny, cIsi, tyD, isiT, gSplit, gLt, gLe, gGt, gGe, gIsn, gIs, isD, eq_int, eq_str, beq_two, notSw2, List.drop_succ_cons, List.drop_zero, size_eq, Nat.zero_le, true_and, and_true, decide_true, decide_false])
local macro_rules | `(tactic| walk_at "evh") => `(tactic| simp only [sRet, sIf, sAsg, sDrop, sPar, sNil, sRaise, mBin, mCall, mCallD, mCons, mNil, mC, mVar, mTup, mLst, mIfE, mAnd, mOr, mNot, mAndT, mOrT, mNotT, mTest, mTru, mChain, mMt, rcv, pureM, mSl, mPart, mNoP, mNeg, setT, setAll, startE, Res.ok_bind, Res.ex_bind, Res.no_bind, Res.of_some, Res.of_none, Res.ok_nox, asB, tru, List.map_cons, List.map_nil, List.length_cons, List.length_nil, List.replicate, List.cons_append, List.nil_append, List.getElem?_cons_zero, List.getElem?_cons_succ, List.set_cons_zero, List.set_cons_succ, Nat.reduceAdd, Nat.reduceSub, Nat.reduceEqDiff, Nat.reduceLeDiff, if_true, if_false, and_self, Bool.false_eq_true, Bool.not_true, Bool.not_false, Option.map_some, Option.bind_some, asL, asLs, asT, wipeE, gIx, gSl, atI_0, atI_1, atI_2, atI_3, atI_n1, cut_d1, cut_t2, cLen, cTuple, cList, cAll, cAny, cIsi, tyD, isiT, gSplit, gLt, gLe, gGt, gGe, gIsn, gIs, isD, eq_int, eq_str, beq_two, notSw2, List.drop_succ_cons, List.drop_zero, size_eq, Nat.zero_le, true_and, and_true, decide_true, decide_false, *])
local macro_rules | `(tactic| walk_at "nx") => `(tactic| (first | (apply fin_nx; (case h => (walk_at "evh"; try rfl))) | (apply seq_nx; (case h => (walk_at "evh"; try rfl)))))
/-! ### the law's patterns and partings -/
theorem join_app (y a b : Str) : ∀ (l : List Str), PySem.Str.join y ((a ++ b) :: l) = a ++ PySem.Str.join y (b :: l)
  | [] => rfl
  | c :: r => by
    show a ++ b ++ y ++ PySem.Str.join y (c :: r) = a ++ (b ++ y ++ PySem.Str.join y (c :: r))
    simp only [app_assoc]
def rsT (P : Pt) : Str := PySem.Str.join (";" : Str) (P.form :: P.sides.map sdT)
theorem ptT_rs (P : Pt) : ptT P = P.kind ++ ("/" : Str) ++ rsT P := by
  unfold ptT rsT hdT
  rw [join_app]
theorem free_join {s : Nat} {y : Str} (hy : s ∉ TL.tl y) : ∀ {l : List Str}, (∀ x ∈ l, s ∉ TL.tl x) → s ∉ TL.tl (PySem.Str.join y l)
  | [], _ => by show s ∉ TL.tl PySem.Str.empty; intro h; cases h
  | [a], h => h a (by simp)
  | a :: b :: r, h => by
    show s ∉ TL.tl (a ++ y ++ PySem.Str.join y (b :: r))
    rw [TL.tl_append, TL.tl_append]
    simp only [List.mem_append, not_or]
    exact ⟨⟨h a (by simp), hy⟩, free_join hy (l := b :: r) fun x hx => h x (List.mem_cons_of_mem _ hx)⟩
theorem rs_free {P : Pt} (h : isPt P = true) : 47 ∉ TL.tl (rsT P) := by
  obtain ⟨_, hw, _⟩ := sides_ok h
  refine free_join (by rw [tl_se]; decide) fun x hx => ?_
  rcases List.mem_cons.mp hx with rfl | hx
  · exact (pt_free h isSm_sl (by decide)).2
  · obtain ⟨s, hs, rfl⟩ := List.mem_map.mp hx
    unfold sdT
    rw [TL.tl_append, TL.tl_append, tl_eq]
    simp only [List.mem_append, not_or]
    exact ⟨⟨isW_free (hw s hs).1 isSm_sl, by decide⟩, isW_free (hw s hs).2 isSm_sl⟩
theorem split_sl {P : Pt} (h : isPt P = true) : Txt.split (ptT P) ("/" : Str) = [P.kind, rsT P] := by
  rw [ptT_rs]
  exact split_two (s := 47) tl_sl (by decide +kernel) (pt_free h isSm_sl (by decide)).1 (rs_free h)
theorem semi_in {P : Pt} (h : isPt P = true) : subIn (";" : Str) (ptT P) = !P.sides.isEmpty := by
  have e : (";" : Str) = ⟨#[59]⟩ := by decide +kernel
  rw [e, subIn_one]
  cases hs : P.sides with
  | nil =>
    rw [List.isEmpty_nil, Bool.not_true, decide_eq_false_iff_not]
    unfold ptT
    rw [hs]
    show 59 ∉ TL.tl (hdT P)
    unfold hdT
    obtain ⟨f1, f2⟩ := pt_free h isSm_se (by decide)
    rw [TL.tl_append, TL.tl_append, tl_sl]
    simp only [List.mem_append, not_or]
    exact ⟨⟨f1, by decide⟩, f2⟩
  | cons a r =>
    rw [List.isEmpty_cons, Bool.not_false, decide_eq_true_eq]
    unfold ptT
    rw [hs]
    show 59 ∈ TL.tl (hdT P ++ (";" : Str) ++ PySem.Str.join (";" : Str) (sdT a :: r.map sdT))
    rw [TL.tl_append, TL.tl_append, tl_se]
    simp
def patM (m : Int) : Pt := if m % 4 = 0 then ⟨"*", "*", []⟩ else if m % 4 = 2 ∧ (mkM (m / 8)).sides.isEmpty = false then ⟨(mkM (m / 8)).kind, (mkM (m / 8)).form, [(mkM (m / 8)).sides.getLastD ("", "")]⟩ else if m % 4 = 1 then ⟨(mkM (m / 8)).kind, "*", []⟩ else mkM (m / 8)
theorem star_pt : isPt ⟨"*", "*", []⟩ = true := by decide +kernel
theorem okSides_one {s : Str × Str} (h : isW s.1 = true ∧ isW s.2 = true) : okSides [s] = true := by
  unfold okSides
  simp [h.1, h.2, rising]
theorem lastD_mem {α : Type} {l : List α} {d : α} (h : l.isEmpty = false) : l.getLastD d ∈ l := by
  cases l with
  | nil => cases h
  | cons a r =>
    rw [List.getLastD_eq_getLast?, List.getLast?_eq_some_getLast (by simp)]
    exact List.getLast_mem _
theorem patM_ok (m : Int) : isPt (patM m) = true := by
  have hP := mkM_ok (m / 8)
  obtain ⟨h1, h2⟩ := okSides_of hP
  obtain ⟨_, hw, _⟩ := sides_ok (isMk_isPt hP)
  unfold patM
  split
  · exact star_pt
  · split
    · rename_i hc
      have := okSides_one (hw _ (lastD_mem (d := (("" : Str), ("" : Str))) hc.2))
      show (okSides [_] && (isW (mkM (m / 8)).kind || _) && (isW (mkM (m / 8)).form || _)) = true
      rw [this, h1, h2]; rfl
    · split
      · unfold isPt
        simp [h1, show okSides [] = true from rfl]
      · exact isMk_isPt hP
theorem getLast_map {α β : Type} (f : α → β) (d : α) : ∀ (l : List α), l.isEmpty = false → ∀ a, (a :: l.map f).getLast? = some (f (l.getLastD d))
  | [], h, _ => by cases h
  | [b], _, a => rfl
  | b :: c :: r, _, a => by
    have ih := getLast_map f d (c :: r) rfl (f b)
    rw [List.map_cons, List.getLast?_cons_cons]
    rw [ih]
    simp [List.getLastD_cons]
theorem gIn_semi {P : Pt} (h : isPt P = true) (st : Store) : gIn st (.str (";" : Str)) (.str (ptT P)) = some (.bl (!P.sides.isEmpty)) := by
  show (some (subIn (";" : Str) (ptT P))).map D.bl = _
  rw [semi_in h]; rfl
theorem law_pattern_eq (m : Int) (st : Store) : m_law_pattern [.int m] st = .ok (.str (ptT (patM m))) st := by
  have hP := mkM_ok (m / 8)
  have hPt := isMk_isPt hP
  have hlen := ptT_len hPt
  have hl2 : (ptT (mkM (m / 8))).length ≤ 16777214 := by omega
  have h0 : (((";" : Str)).length == 0) = false := by decide +kernel
  have h1 : ((("/" : Str)).length == 0) = false := by decide +kernel
  have a1 := gMod_ok (st := st) (i := m) (j := 4) (by decide)
  have a2 := gDiv_ok' (st := st) (i := m) (j := 8) (by decide) (by decide)
  have e1 := law_make_eq (m / 8) st
  have e2 := gIn_semi hPt st
  have s1 := split_pt hPt
  have s2 := split_sl hPt
  refine def_fin ?_ rfl
  unfold b_law_pattern
  walk_at "nx"
  refine fin_if (m % 4 == 0) (by walk_at "evh") ?_
  unfold patM
  by_cases c0 : m % 4 = 0
  · simp only [c0, beq_self_eq_true, if_true]
    exact fin_rets (by rfl)
  have c0' : (m % 4 == 0) = false := by simpa using c0
  simp only [c0', Bool.false_eq_true, if_false, fin_nil, c0]
  refine fin_if ((m % 4 == 2) && !(mkM (m / 8)).sides.isEmpty) (mAndT_bl (by walk_at "evh") fun _ => (by walk_at "evh")) ?_
  by_cases c2 : m % 4 = 2 ∧ (mkM (m / 8)).sides.isEmpty = false
  · have c2' : ((m % 4 == 2) && !(mkM (m / 8)).sides.isEmpty) = true := by simp [c2.1, c2.2]
    simp only [c2', if_true, if_pos c2]
    have hl := getLast_map (fun s => D.str (sdT s)) ("", "") (mkM (m / 8)).sides c2.2 (D.str (hdT (mkM (m / 8))))
    have hm : ((mkM (m / 8)).sides.map sdT).map D.str = (mkM (m / 8)).sides.map fun s => D.str (sdT s) := by rw [List.map_map]; rfl
    have hd := hdT_len hPt
    have hsl := sdT_len ((sides_ok hPt).2.1 _ (lastD_mem (d := (("" : Str), ("" : Str))) c2.2))
    have g1 := gAdd_str (st := st) (x := hdT (mkM (m / 8))) (y := ";") (by rw [len_se]; omega)
    have g2 := gAdd_str (st := st) (x := hdT (mkM (m / 8)) ++ (";" : Str)) (y := sdT ((mkM (m / 8)).sides.getLastD ("", ""))) (by rw [len_app, len_se]; omega)
    refine fin_rets ?_
    walk_at "evh"
    rfl
  · have c2' : ((m % 4 == 2) && !(mkM (m / 8)).sides.isEmpty) = false := by
      rw [Bool.and_eq_false_iff]
      by_cases hh : m % 4 = 2
      · right
        cases hb : (mkM (m / 8)).sides.isEmpty with
        | true => rfl
        | false => exact absurd ⟨hh, hb⟩ c2
      · left; simpa using hh
    simp only [c2', Bool.false_eq_true, if_false, fin_nil, if_neg c2]
    refine fin_ret ?_
    by_cases c1 : m % 4 = 1
    · have c1' : (m % 4 == 1) = true := by simpa using c1
      have g1 := gAdd_str (st := st) (x := (mkM (m / 8)).kind) (y := "/*") (by have := pt_len hPt; have e : ("/*" : Str).length = 2 := by decide +kernel
                                                                               rw [e]; omega)
      simp only [if_pos c1]
      walk_at "evh"
      show Res.ok (D.str _) st = Res.ok (D.str _) st
      refine congrArg (fun z => Res.ok (D.str z) st) (TL.ext_tl ?_)
      unfold ptT hdT
      show _ = TL.tl ((mkM (m / 8)).kind ++ ("/" : Str) ++ ("*" : Str))
      simp only [TL.tl_append]
      rw [show TL.tl ("/*" : Str) = [47, 42] by decide +kernel, tl_sl, tl_star]
      simp
    · have c1' : (m % 4 == 1) = false := by simpa using c1
      simp only [if_neg c1]
      walk_at "evh"
/-- what the law makes of a pattern -/
def lpD (P : Pt) : D := .tup [.str P.kind, .str P.form, .lst (P.sides.map fun s => .str (sdT s))]
theorem law_parted_eq (P : Pt) (h : isPt P = true) (st : Store) : m_law_parted [.str (ptT P)] st = .ok (lpD P) st := by
  have hl : (ptT P).length ≤ 16777214 := by have := ptT_len h; omega
  have hl2 : (hdT P).length ≤ 16777214 := by have := hdT_len h; omega
  have h0 : (((";" : Str)).length == 0) = false := by decide +kernel
  have h1 : ((("/" : Str)).length == 0) = false := by decide +kernel
  have e0 := split_pt h
  have e1 := split_hd h
  have hm : (P.sides.map sdT).map D.str = P.sides.map fun s => D.str (sdT s) := by rw [List.map_map]; rfl
  refine def_fin ?_ (by simp only [lpD, noRef, noRefs, noRefs_map (fun s : Str × Str => D.str (sdT s)) (fun a => rfl), Bool.and_self])
  unfold b_law_parted
  walk_at "nx"
  refine fin_ret ?_
  walk_at "evh"
  rfl
theorem in_strs {x : Str} {l : List Str} (hx : strB x = true) (hl : ∀ y ∈ l, strB y = true) (st : Store) : gIn st (.str x) (.lst (l.map D.str)) = some (.bl (decide (x ∈ l))) := by
  have o1 : okD 1 (.str x) = true := by simpa [okD] using hx
  have o2 : okD 1 (.lst (l.map D.str)) = true := by simp only [okD]; exact okDs_map 0 D.str l fun y hy => by simpa [okD] using hl y hy
  have p1 := py_toPy (st := st) (m := 3) o1
  have p2 := py_toPy (st := st) (m := 3) o2
  have g1 := shp_toPy (by omega) o1
  have g2 := shp_toPy (by omega) o2
  simp only [toPy] at p1 p2 g1 g2
  have e : inD st (.str x) (.lst (l.map D.str)) = some (decide (x ∈ l)) := by
    unfold inD
    show (match py 3 st (.str x), py 3 st (.lst (l.map D.str)) with
      | some x, some (.list zs) => if shp x && shp (.list zs) then some (zs.any fun z => PyData.eqv z x) else none
      | _, _ => none) = _
    rw [p1, p2]
    simp only [g1, g2, Bool.and_self, if_true, Option.some.injEq]
    rw [toPys_map, List.any_map, Bool.eq_iff_iff, List.any_eq_true, decide_eq_true_eq]
    constructor
    · rintro ⟨t, ht, h⟩
      have h : (t == x) = true := by simpa [toPy, PyData.eqv] using h
      rw [← eq_of_beq h]; exact ht
    · intro h
      exact ⟨x, h, by simp [toPy, PyData.eqv]⟩
  unfold gIn
  rw [e]; rfl
theorem sdT_inj {a b : Str × Str} (ha : isW a.1 = true ∧ isW a.2 = true) (hb : isW b.1 = true ∧ isW b.2 = true) (h : sdT a = sdT b) : a = b := by
  have h1 : Txt.split (sdT a) ("=" : Str) = [a.1, a.2] := split_two (s := 61) (by decide +kernel) (by decide +kernel) (isW_free ha.1 isSm_eq) (isW_free ha.2 isSm_eq)
  have h2 : Txt.split (sdT b) ("=" : Str) = [b.1, b.2] := split_two (s := 61) (by decide +kernel) (by decide +kernel) (isW_free hb.1 isSm_eq) (isW_free hb.2 isSm_eq)
  rw [h, h2] at h1
  simp only [List.cons.injEq, and_true] at h1
  exact Prod.ext h1.1.symm h1.2.symm
theorem ne_str (st : Store) (i j : Str) : gNe st (.str i) (.str j) = some (.bl (!(i == j))) := rfl
theorem ne_int (st : Store) (i j : Int) : gNe st (.int i) (.int j) = some (.bl (!(i == j))) := rfl
theorem law_fits_eq (P Q : Pt) (hP : isPt P = true) (hQ : isPt Q = true) (st : Store) : m_law_fits [.str (ptT P), .str (ptT Q)] st = .ok (.bl (fitP P Q)) st := by
  obtain ⟨h3, hw, _⟩ := sides_ok hP
  obtain ⟨h3', hw', _⟩ := sides_ok hQ
  have e1 := law_parted_eq P hP st
  have e2 := law_parted_eq Q hQ st
  have q1 : ∀ a b c d e f, q_law_fits_1 [a, b, c, d, some (.lst (P.sides.map fun s => .str (sdT s))), e, f, some (.lst (Q.sides.map fun s => .str (sdT s))), none] st = .ok (.lst (P.sides.map fun s => .bl (decide (s ∈ Q.sides)))) st := fun a b c d e f => by
    refine mComp_eq (s := ⟨P.sides.map fun s => .str (sdT s), yes⟩) rfl ?_ (by rw [List.length_map]; omega)
    refine compL_map (fun s => .str (sdT s)) (fun s => .bl (decide (s ∈ Q.sides))) rfl P.sides fun s hs => ⟨_, rfl, ?_⟩
    have g := in_strs (x := sdT s) (l := Q.sides.map sdT) (strB_sd (hw s hs)) (fun y hy => by obtain ⟨t, ht, rfl⟩ := List.mem_map.mp hy; exact strB_sd (hw' t ht)) st
    have hd : decide (sdT s ∈ Q.sides.map sdT) = decide (s ∈ Q.sides) := by
      rw [decide_eq_decide]
      constructor
      · intro h
        obtain ⟨t, ht, e⟩ := List.mem_map.mp h
        rw [← sdT_inj (hw' t ht) (hw s hs) e]; exact ht
      · intro h; exact List.mem_map.mpr ⟨s, h, rfl⟩
    have hm : (Q.sides.map sdT).map D.str = Q.sides.map fun s => D.str (sdT s) := by rw [List.map_map]; rfl
    rw [hm, hd] at g
    walk_at "evh"
  refine def_fin ?_ rfl
  unfold b_law_fits
  walk_at "nx"
  walk_at "nx"
  refine fin_if (((!(P.kind == ("*" : Str))) && !(P.kind == Q.kind)) || ((!(P.form == ("*" : Str))) && !(P.form == Q.form))) (mOrT_bl (mAndT_bl ?_ fun _ => ?_) fun _ => mAndT_bl ?_ fun _ => ?_) ?_
  · walk_at "ev"; simp only [ne_str, Res.of_some, Res.ok_bind, asB]
  · walk_at "ev"; simp only [ne_str, Res.of_some, Res.ok_bind, asB]
  · walk_at "ev"; simp only [ne_str, Res.of_some, Res.ok_bind, asB]
  · walk_at "ev"; simp only [ne_str, Res.of_some, Res.ok_bind, asB]
  have hb : (((!(P.kind == ("*" : Str))) && !(P.kind == Q.kind)) || ((!(P.form == ("*" : Str))) && !(P.form == Q.form))) = !((P.kind == ("*" : Str) || P.kind == Q.kind) && (P.form == ("*" : Str) || P.form == Q.form)) := by
    cases P.kind == ("*" : Str) <;> cases P.kind == Q.kind <;> cases P.form == ("*" : Str) <;> cases P.form == Q.form <;> rfl
  rw [hb]
  unfold fitP
  cases c : ((P.kind == ("*" : Str) || P.kind == Q.kind) && (P.form == ("*" : Str) || P.form == Q.form)) with
  | false => simp only [Bool.not_false, if_true, Bool.false_and]; exact fin_rets rfl
  | true =>
    simp only [Bool.not_true, Bool.false_eq_true, if_false, Bool.true_and, fin_nil]
    refine fin_ret ?_
    simp only [mCall, mCons, mNil, List.set_cons_zero, List.set_cons_succ, q1, Res.ok_bind, cAll, asL, Option.bind_some, blD_map, Option.map_some, Res.of_some, List.all_map, Function.comp_def, id]

end K10
namespace K10
open PySem PySem.Spec L2 Mr
local macro_rules | `(tactic| walk_at "ev") => `(tactic| simp only [sRet, sIf, sAsg, sDrop, sPar, sNil, sRaise, mBin, mCall, mCallD, mCons, mNil, mC, mVar, mTup, mLst, mIfE, mAnd, mOr, mNot, mAndT, mOrT, mNotT, mTest, mTru, mChain, mMt, rcv, pureM, mSl, mPart, mNoP, mNeg, setT, setAll, startE, Res.ok_bind, Res.ex_bind, Res.no_bind, Res.of_some, Res.of_none, Res.ok_nox, asB, tru, List.map_cons, List.map_nil, List.length_cons, List.length_nil, List.replicate, List.cons_append, List.nil_append, List.getElem?_cons_zero, List.getElem?_cons_succ, List.set_cons_zero, List.set_cons_succ, Nat.reduceAdd, Nat.reduceSub, Nat.reduceEqDiff, Nat.reduceLeDiff, if_true, if_false, and_self, Bool.false_eq_true, Bool.not_true, Bool.not_false, Option.map_some, Option.bind_some, asL, asLs, asT, wipeE, gIx, gSl, atI_0, atI_1, atI_2, atI_3, atI_n1, cut_d1, cut_t2, cLen, cTuple, cList, cAll, cAny, cIsi, tyD, isiT, gSplit, gLt, gLe, gGt, gGe, gIsn, gIs, isD, eq_int, eq_str, beq_two, notSw2, List.drop_succ_cons, List.drop_zero, size_eq, Nat.zero_le, true_and, and_true, decide_true, decide_false])
local macro_rules | `(tactic| walk_at "evh") => `(tactic| simp only [sRet, sIf, sAsg, sDrop, sPar, sNil, sRaise, mBin, mCall, mCallD, mCons, mNil, mC, mVar, mTup, mLst, mIfE, mAnd, mOr, mNot, mAndT, mOrT, mNotT, mTest, mTru, mChain, mMt, rcv, pureM, mSl, mPart, mNoP, mNeg, setT, setAll, startE, Res.ok_bind, Res.ex_bind, Res.no_bind, Res.of_some, Res.of_none, Res.ok_nox, asB, tru, List.map_cons, List.map_nil, List.length_cons, List.length_nil, List.replicate, List.cons_append, List.nil_append, List.getElem?_cons_zero, List.getElem?_cons_succ, List.set_cons_zero, List.set_cons_succ, Nat.reduceAdd, Nat.reduceSub, Nat.reduceEqDiff, Nat.reduceLeDiff, if_true, if_false, and_self, Bool.false_eq_true, Bool.not_true, Bool.not_false, Option.map_some, Option.bind_some, asL, asLs, asT, wipeE, gIx, gSl, atI_0, atI_1, atI_2, atI_3, atI_n1, cut_d1, cut_t2, cLen, cTuple, cList, cAll, cAny, cIsi, tyD, isiT, gSplit, gLt, gLe, gGt, gGe, gIsn, gIs, isD, eq_int, eq_str, beq_two, notSw2, List.drop_succ_cons, List.drop_zero, size_eq, Nat.zero_le, true_and, and_true, decide_true, decide_false, *])
local macro_rules | `(tactic| walk_at "nx") => `(tactic| (first | (apply fin_nx; (case h => (walk_at "evh"; try rfl))) | (apply seq_nx; (case h => (walk_at "evh"; try rfl)))))
/-! ### reckoning by rules -/
section
variable {ma mb mo m : Ev D} {ms : Ev (List D)} {t ta tb : Ev Bool} {env : Env'} {st st1 st2 st3 : Store} {d e z : D} {ds : List D} {n i : Nat} {c f mn : Str} {fs : List (Str × D)} {b b2 : Bool} {M : List D → Store → Res D}
theorem nil_st : mNil env st = .ok [] st := rfl
theorem cons_st (h : ma env st = .ok d st1) (g : ms env st1 = .ok ds st2) : mCons ma ms env st = .ok (d :: ds) st2 := by simp only [mCons, h, g, Res.ok_bind]
theorem callD_st (h : ms env st = .ok ds st1) (hn : ds.length = n) (g : M ds st1 = .ok d st2) : mCallD n M ms env st = .ok d st2 := by simp only [mCallD, h, Res.ok_bind, hn, if_true, g]
theorem callX_st (h : ms env st = .ok ds st1) (hn : ds.length = n) (g : M ds st1 = .ex c st2) : mCallD n M ms env st = .ex c st2 := by simp only [mCallD, h, Res.ok_bind, hn, if_true, g]
theorem fld_st (ho : mo env st = .ok (.ref n) st1) (h : st1[n]? = some (.ins c fs)) (hf : fs.lookup f = some d) : mFld c f mo env st = .ok d st1 := by
  simp only [mFld, ho, Res.ok_bind, h, hf, if_true, Res.of_some]
theorem meth_st (ho : mo env st = .ok (.ref i) st1) (h : st1[i]? = some (.ins c fs)) (hn : fs.lookup mn = none) (ha : ms env st1 = .ok ds st2) (hl : ds.length + 1 = n) (g : M (.ref i :: ds) st2 = .ok d st3) : mMeth c mn n M mo ms env st = .ok d st3 := by
  simp only [mMeth, ho, Res.ok_bind, h, hn, ha, hl, if_true, g, and_self]
theorem methX_st (ho : mo env st = .ok (.ref i) st1) (h : st1[i]? = some (.ins c fs)) (hn : fs.lookup mn = none) (ha : ms env st1 = .ok ds st2) (hl : ds.length + 1 = n) (g : M (.ref i :: ds) st2 = .ex f st3) : mMeth c mn n M mo ms env st = .ex f st3 := by
  simp only [mMeth, ho, Res.ok_bind, h, hn, ha, hl, if_true, g, and_self]
theorem not_st (h : t env st = .ok b st1) : mNotT t env st = .ok (!b) st1 := by simp only [mNotT, h, Res.ok_bind]
theorem tru_st (h : m env st = .ok d st1) (g : tru st1 d = some b) : mTru m env st = .ok b st1 := by simp only [mTru, h, Res.ok_bind, g, Res.of_some]
theorem sl_st {g : Store → D → Option Int → Option Int → Option D} {ml mh : Ev (Option Int)} {lo hi : Option Int} {st4 : Store} (h1 : ma env st = .ok d st1) (h2 : ml env st1 = .ok lo st2) (h3 : mh env st2 = .ok hi st3) (hg : g st3 d lo hi = some z) : mSl g ma ml mh env st = .ok z st3 := by
  simp only [mSl, h1, h2, h3, Res.ok_bind, hg, Res.of_some]
theorem part_st {i : Int} (h : m env st = .ok (.int i) st1) : mPart m env st = .ok (some i) st1 := by simp only [mPart, h, Res.ok_bind]
theorem nop_st : mNoP env st = .ok none st := rfl
theorem or_bl (h1 : ta env st = .ok b st1) (h2 : tb env st1 = .ok b2 st1) : mOrT ta tb env st = .ok (b || b2) st1 := by
  cases b <;> simp [mOrT, h1, h2, Res.ok_bind]
theorem and_bl (h1 : ta env st = .ok b st1) (h2 : tb env st1 = .ok b2 st1) : mAndT ta tb env st = .ok (b && b2) st1 := by
  cases b <;> simp [mAndT, h1, h2, Res.ok_bind]
theorem and_F (h1 : ta env st = .ok false st1) : mAndT ta tb env st = .ok false st1 := by simp [mAndT, h1, Res.ok_bind]
theorem or_T (h1 : ta env st = .ok true st1) : mOrT ta tb env st = .ok true st1 := by simp [mOrT, h1, Res.ok_bind]
theorem app_st {xs : List D} (ho : mo env st = .ok (.ref n) st1) (hr : st1[n]? = some (.lst xs)) (ha : ma env st1 = .ok d st1) (hl : xs.length < 16777216) : mMt "list" gAppend mo (mCons ma mNil) env st = .ok .non (st1.set n (.lst (xs ++ [d]))) := append_st ho hr ha hr hl
theorem goF {a r : Sv} {P : Env' → Store → Prop} (h : t env st = .ok false st1) (g : Goes r env st1 P) : Goes (sSeq (sIf t a sNil) r) env st P := go_skip' h g
theorem goF_E {a : Sv} {P : Env' → Store → Prop} (h : t env st = .ok false st1) (g : P env st1) : Goes (sIf t a sNil) env st P := go_skipE' h g
theorem go_if {a b' : Sv} {P : Env' → Store → Prop} (h : t env st = .ok b st1) (g1 : b = true → Goes a env st1 P) (g2 : b = false → Goes b' env st1 P) : Goes (sIf t a b') env st P := by
  cases b with
  | true =>
    obtain ⟨e, s, h1, h2⟩ := g1 rfl
    exact ⟨e, s, by rw [sIf_st h, if_pos rfl]; exact h1, h2⟩
  | false =>
    obtain ⟨e, s, h1, h2⟩ := g2 rfl
    exact ⟨e, s, by rw [sIf_st h, if_neg (by decide)]; exact h1, h2⟩
theorem go_nil {P : Env' → Store → Prop} (g : P env st) : Goes sNil env st P := ⟨env, st, rfl, g⟩
theorem setT_1 {i : Nat} : setT (.one i) d env = some (env.set i (some d)) := rfl
end
local macro_rules | `(tactic| walk_at "x") => `(tactic| fail)
local macro_rules | `(tactic| walk_at "lf") => `(tactic| first | walk_at "x" | with_reducible rfl | (with_reducible exact gMod_ok (by first | decide | omega)) | (with_reducible exact gDiv_ok' (by first | decide | omega) (by first | decide | omega)) | (with_reducible exact eq_int _ _ _) | rfl)
local macro_rules | `(tactic| walk_at "e1") => `(tactic| first | with_reducible assumption | walk_at "x" | (with_reducible apply bin_st) | (with_reducible exact nil_st) | (with_reducible apply cons_st) | (with_reducible apply test_eq) | (with_reducible apply callB_of) | (with_reducible apply callD_st) | (with_reducible apply fld_st) | (with_reducible apply meth_st) | (with_reducible apply tup_of) | (with_reducible apply lst_of) | (with_reducible apply toldM_ok) | (with_reducible apply not_st) | (with_reducible apply tru_st) | (with_reducible apply sl_st) | (with_reducible apply part_st) | (with_reducible exact nop_st) | (with_reducible apply app_st) | walk_at "lf")
local macro_rules | `(tactic| walk_at "e") => `(tactic| repeat' walk_at "e1")
local macro_rules | `(tactic| walk_at "ga") => `(tactic| ((with_reducible apply go_asg); (· walk_at "e")))
local macro_rules | `(tactic| walk_at "gd") => `(tactic| ((with_reducible apply go_drop); (· walk_at "e")))
local macro_rules | `(tactic| walk_at "gf") => `(tactic| ((with_reducible apply goF); (· walk_at "e")))
local macro_rules | `(tactic| walk_at "g") => `(tactic| first | walk_at "ga" | walk_at "gd" | walk_at "gf")

end K10
namespace K10
open PySem PySem.Spec L2 Mr
local macro_rules | `(tactic| walk_at "ev") => `(tactic| simp only [sRet, sIf, sAsg, sDrop, sPar, sNil, sRaise, mBin, mCall, mCallD, mCons, mNil, mC, mVar, mTup, mLst, mIfE, mAnd, mOr, mNot, mAndT, mOrT, mNotT, mTest, mTru, mChain, mMt, rcv, pureM, mSl, mPart, mNoP, mNeg, setT, setAll, startE, Res.ok_bind, Res.ex_bind, Res.no_bind, Res.of_some, Res.of_none, Res.ok_nox, asB, tru, List.map_cons, List.map_nil, List.length_cons, List.length_nil, List.replicate, List.cons_append, List.nil_append, List.getElem?_cons_zero, List.getElem?_cons_succ, List.set_cons_zero, List.set_cons_succ, Nat.reduceAdd, Nat.reduceSub, Nat.reduceEqDiff, Nat.reduceLeDiff, if_true, if_false, and_self, Bool.false_eq_true, Bool.not_true, Bool.not_false, Option.map_some, Option.bind_some, asL, asLs, asT, wipeE, gIx, gSl, atI_0, atI_1, atI_2, atI_3, atI_n1, cut_d1, cut_t2, cLen, cTuple, cList, cAll, cAny, cIsi, tyD, isiT, gSplit, gLt, gLe, gGt, gGe, gIsn, gIs, isD, eq_int, eq_str, beq_two, notSw2, List.drop_succ_cons, List.drop_zero, size_eq, Nat.zero_le, true_and, and_true, decide_true, decide_false])
local macro_rules | `(tactic| walk_at "evh") => `(tactic| simp only [sRet, sIf, sAsg, sDrop, sPar, sNil, sRaise, mBin, mCall, mCallD, mCons, mNil, mC, mVar, mTup, mLst, mIfE, mAnd, mOr, mNot, mAndT, mOrT, mNotT, mTest, mTru, mChain, mMt, rcv, pureM, mSl, mPart, mNoP, mNeg, setT, setAll, startE, Res.ok_bind, Res.ex_bind, Res.no_bind, Res.of_some, Res.of_none, Res.ok_nox, asB, tru, List.map_cons, List.map_nil, List.length_cons, List.length_nil, List.replicate, List.cons_append, List.nil_append, List.getElem?_cons_zero, List.getElem?_cons_succ, List.set_cons_zero, List.set_cons_succ, Nat.reduceAdd, Nat.reduceSub, Nat.reduceEqDiff, Nat.reduceLeDiff, if_true, if_false, and_self, Bool.false_eq_true, Bool.not_true, Bool.not_false, Option.map_some, Option.bind_some, asL, asLs, asT, wipeE, gIx, gSl, atI_0, atI_1, atI_2, atI_3, atI_n1, cut_d1, cut_t2, cLen, cTuple, cList, cAll, cAny, cIsi, tyD, isiT, gSplit, gLt, gLe, gGt, gGe, gIsn, gIs, isD, eq_int, eq_str, beq_two, notSw2, List.drop_succ_cons, List.drop_zero, size_eq, Nat.zero_le, true_and, and_true, decide_true, decide_false, *])
local macro_rules | `(tactic| walk_at "nx") => `(tactic| (first | (apply fin_nx; (case h => (walk_at "evh"; try rfl))) | (apply seq_nx; (case h => (walk_at "evh"; try rfl)))))
local macro_rules | `(tactic| walk_at "x") => `(tactic| fail)
local macro_rules | `(tactic| walk_at "lf") => `(tactic| first | walk_at "x" | with_reducible rfl | (with_reducible exact gMod_ok (by first | decide | omega)) | (with_reducible exact gDiv_ok' (by first | decide | omega) (by first | decide | omega)) | (with_reducible exact eq_int _ _ _) | rfl)
local macro_rules | `(tactic| walk_at "e1") => `(tactic| first | with_reducible assumption | walk_at "x" | (with_reducible apply bin_st) | (with_reducible exact nil_st) | (with_reducible apply cons_st) | (with_reducible apply test_eq) | (with_reducible apply callB_of) | (with_reducible apply callD_st) | (with_reducible apply fld_st) | (with_reducible apply meth_st) | (with_reducible apply tup_of) | (with_reducible apply lst_of) | (with_reducible apply toldM_ok) | (with_reducible apply not_st) | (with_reducible apply tru_st) | (with_reducible apply sl_st) | (with_reducible apply part_st) | (with_reducible exact nop_st) | (with_reducible apply app_st) | walk_at "lf")
local macro_rules | `(tactic| walk_at "e") => `(tactic| repeat' walk_at "e1")
local macro_rules | `(tactic| walk_at "ga") => `(tactic| ((with_reducible apply go_asg); (· walk_at "e")))
local macro_rules | `(tactic| walk_at "gd") => `(tactic| ((with_reducible apply go_drop); (· walk_at "e")))
local macro_rules | `(tactic| walk_at "gf") => `(tactic| ((with_reducible apply goF); (· walk_at "e")))
local macro_rules | `(tactic| walk_at "g") => `(tactic| first | walk_at "ga" | walk_at "gd" | walk_at "gf")
/-! ### the law's wishes, the law's makes -/
theorem frz_cell {st : Store} {xs : List D} {m : Nat} (h : noRefs xs = true) : frz st.length (st ++ [.lst xs]) (m + 1) (.ref st.length) = some (.lst xs) := by
  have e := frz_id (n := st.length) (st := st ++ [.lst xs]) (m := m) (d := .lst xs) (by simp only [noRef]; exact h)
  simp only [frz, frzF]
  rw [if_neg (Nat.lt_irrefl _), get_last]
  exact e
theorem py_ref {st : Store} {n m k : Nat} {xs : List D} (h : st[n]? = some (.lst xs)) (ho : okDs m xs = true) : py (k + 1) st (.ref n) = some (.list (toPys xs)) := by
  have : py k st (.lst xs) = some (toPy (.lst xs)) := py_toPy (n := m + 1) (by simp only [okD]; exact ho)
  simp only [py, pyF, h]
  rw [this]
  simp only [toPy]
theorem in_cell {st : Store} {n : Nat} {x : Str} {l : List Str} (h : st[n]? = some (.lst (l.map D.str))) (hx : strB x = true) (hl : ∀ y ∈ l, strB y = true) : gNin st (.str x) (.ref n) = some (.bl (!decide (x ∈ l))) := by
  have o1 : okD 1 (.str x) = true := by simpa [okD] using hx
  have o2 : okDs 0 (l.map D.str) = true := okDs_map 0 D.str l fun y hy => by simpa [okD] using hl y hy
  have p1 := py_toPy (st := st) (m := 3) o1
  have p2 := py_ref (k := 2) h o2
  have g1 := shp_toPy (by omega) o1
  have g2 := shp_toPy (n := 1) (d := .lst (l.map D.str)) (by omega) (by simp only [okD]; exact o2)
  simp only [toPy] at p1 g1 g2
  have e : inD st (.str x) (.ref n) = some (decide (x ∈ l)) := by
    show ((asL st (.ref n)).bind fun ys => match py 3 st (.str x), py 3 st (.ref n) with
      | some x, some (.list zs) => if shp x && shp (.list zs) then some (zs.any fun z => PyData.eqv z x) else none
      | _, _ => none) = _
    simp only [asL, h, Option.bind_some]
    rw [p1, p2]
    simp only [g1, g2, Bool.and_self, if_true, Option.some.injEq]
    rw [toPys_map, List.any_map, Bool.eq_iff_iff, List.any_eq_true, decide_eq_true_eq]
    constructor
    · rintro ⟨t, ht, h⟩
      have h : (t == x) = true := by simpa [toPy, PyData.eqv] using h
      rw [← eq_of_beq h]; exact ht
    · intro h
      exact ⟨x, h, by simp [toPy, PyData.eqv]⟩
  unfold gNin
  rw [e]; rfl
def wtsM (h : Int) : List Int := [0, 1, 5, 9, h / 64 % 10]
def codeM (m h : Int) : Int := if h / 8 % 2 = 0 then m / 1048576 * 8 + h / 16 % 8 else h / 16
def wishM (m j : Int) : Pt × Int := (patM (codeM m (drawn m j)), (wtsM (drawn m j)).getD (drawn m j % 5).toNat 0)
theorem getD5 (h : Int) : 0 ≤ (wtsM h).getD (h % 5).toNat 0 ∧ (wtsM h).getD (h % 5).toNat 0 ≤ 9 := by
  have hm : (wtsM h).getD (h % 5).toNat 0 ∈ wtsM h := getD_mem (mod_lt h 5 (by decide))
  simp only [wtsM, List.mem_cons, List.not_mem_nil, or_false] at hm ⊢
  rcases hm with e | e | e | e | e <;> rw [e] <;> omega
theorem wishM_ok (m j : Int) : isPt (wishM m j).1 = true ∧ 0 ≤ (wishM m j).2 ∧ (wishM m j).2 ≤ 9 := ⟨patM_ok _, getD5 _⟩
def wishesM (m : Int) : List (Pt × Int) := (List.range (m % 6).toNat).map fun j : Nat => wishM m (j : Int)
theorem wishesM_ok (m : Int) : okWs (wishesM m) ∧ (wishesM m).length ≤ 5 := by
  have h5 : (wishesM m).length ≤ 5 := by
    unfold wishesM
    rw [List.length_map, List.length_range]
    omega
  refine ⟨⟨by omega, fun p hp => ?_⟩, h5⟩
  obtain ⟨j, _, rfl⟩ := List.mem_map.mp hp
  exact wishM_ok m j
theorem lt_size {n : Nat} (h : n ≤ 1000) : n < sizeLine := by rw [size_eq]; omega
theorem append_last {st : Store} {xs : List D} {d : D} (h : xs.length ≤ 1000) : gAppend (st ++ [.lst xs]) (.ref st.length) [d] = some (.non, st ++ [.lst (xs ++ [d])]) := by
  unfold gAppend
  simp only [get_last, lt_size h, if_true, set_last]
theorem mt_append {st : Store} {xs : List D} {mo ma : Ev D} {env : Env'} {d : D} (h1 : mo env (st ++ [.lst xs]) = .ok (.ref st.length) (st ++ [.lst xs])) (h2 : ma env (st ++ [.lst xs]) = .ok d (st ++ [.lst xs])) (h : xs.length ≤ 1000) :
    mMt "list" gAppend mo (mCons ma mNil) env (st ++ [.lst xs]) = .ok .non (st ++ [.lst (xs ++ [d])]) := by
  have hr : rcv "list" (st ++ [.lst xs]) (.ref st.length) = true := by simp [rcv, get_last, asL]
  simp only [mMt, mCons, mNil, h1, h2, Res.ok_bind, hr, if_true, append_last h]
theorem range_cast (n : Nat) : rngD 0 n = (List.range n).map fun i : Nat => D.int (i : Int) := by
  unfold rngD
  refine List.map_congr_left fun i _ => ?_
  simp
theorem notSw_ws (l : List (Pt × Int)) : notSw (l.map wiD) = true := by
  unfold notSw
  split
  · rename_i a b c h
    cases l with
    | nil => simp at h
    | cons k r =>
      rw [List.map_cons] at h
      injection h with h1 h2
      subst h1
      rfl
  · rfl
theorem law_wishes_eq (m : Int) (st : Store) : m_law_wishes [.int m] st = .ok (wsD (wishesM m)) st := by
  have hpw : ∀ st, gPow st (.int 2) (.int 20) = some (.int 1048576) := fun st => by
    show (if CPow 2 20 then some (D.int ((2 : Int) ^ (20 : Int).toNat)) else none) = _
    rw [if_pos (by decide)]; rfl
  have key : fin (b_law_wishes (startE 5 [.int m]) st) = .ok (wsD (wishesM m)) (st ++ [.lst ((wishesM m).map wiD)]) := by
    unfold b_law_wishes
    refine fin_nx (env' := [some (.int m), some (.ref st.length), none, none, none]) (st' := st ++ [.lst []]) (by rfl) ?_
    have hn : (m % 6).toNat ≤ 5 := by omega
    obtain ⟨env', st', h1, d, hd, h2, b2, b3, b4, h3⟩ := forL_gen (chk := yes) (tg := .one 2) (body := w_law_wishes_1) (fun i : Nat => D.int (i : Int))
      (fun r env s => ∃ d : List Nat, d ++ r = List.range (m % 6).toNat ∧ s = st ++ [.lst ((d.map fun j : Nat => wishM m (j : Int)).map wiD)] ∧ ∃ b2 b3 b4, env = [some (.int m), some (.ref st.length), b2, b3, b4])
      (fun j r env s hI => by
        obtain ⟨d, hd, rfl, b2, b3, b4, rfl⟩ := hI
        have hdl : d.length ≤ 5 := by
          have := congrArg List.length hd
          rw [List.length_append, List.length_range] at this
          omega
        generalize hs : (d.map fun j : Nat => wishM m (j : Int)).map wiD = xs
        have hxl : xs.length ≤ 1000 := by rw [← hs, List.length_map, List.length_map]; omega
        have e1 := drawn_eq m j (st ++ [.lst xs])
        generalize hz : drawn m j = z at e1
        have v1 := gDiv_ok' (st := st ++ [.lst xs]) (i := z) (j := 16) (by decide) (by decide)
        have v2 := gDiv_ok' (st := st ++ [.lst xs]) (i := z) (j := 8) (by decide) (by decide)
        have v3 := gMod_ok (st := st ++ [.lst xs]) (i := z / 8) (j := 2) (by decide)
        have v4 := gDiv_ok' (st := st ++ [.lst xs]) (i := m) (j := 1048576) (by decide) (by decide)
        have v5 := gMod_ok (st := st ++ [.lst xs]) (i := z / 16) (j := 8) (by decide)
        have v6 := gMul_ok (st := st ++ [.lst xs]) (i := m / 1048576) (j := 8) (mulOk_r (by decide))
        have v7 := gDiv_ok' (st := st ++ [.lst xs]) (i := z) (j := 64) (by decide) (by decide)
        have v8 := gMod_ok (st := st ++ [.lst xs]) (i := z / 64) (j := 10) (by decide)
        have v9 := gMod_ok (st := st ++ [.lst xs]) (i := z) (j := 5) (by decide)
        have hp := hpw (st ++ [.lst xs])
        refine ⟨rfl, [some (.int m), some (.ref st.length), some (.int j), b3, b4], [some (.int m), some (.ref st.length), some (.int j), some (.int z), some (.int (codeM m z))], st ++ [.lst (xs ++ [wiD (wishM m j)])], rfl, ?_, d ++ [j], by simp [hd], by simp [hs], _, _, _, rfl⟩
        unfold w_law_wishes_1
        refine seq_nx (env' := [some (.int m), some (.ref st.length), some (.int j), some (.int z), b4]) (st' := st ++ [.lst xs]) (by walk_at "evh") ?_
        refine seq_nx (env' := [some (.int m), some (.ref st.length), some (.int j), some (.int z), some (.int (z / 16))]) (st' := st ++ [.lst xs]) (by walk_at "evh") ?_
        refine seq_nx (env' := [some (.int m), some (.ref st.length), some (.int j), some (.int z), some (.int (codeM m z))]) (st' := st ++ [.lst xs]) ?_ ?_
        · refine (sIf_eq (k := z / 8 % 2 == 0) (by walk_at "evh")).trans ?_
          unfold codeM
          by_cases hc : z / 8 % 2 = 0
          · simp only [hc, beq_self_eq_true, if_true]
            simp only [sAsg, mBin, mVar, mC, List.getElem?_cons_zero, List.getElem?_cons_succ, Res.ok_bind, Res.of_some, gAdd_int, hp, v1, v4, v5, v6, setT, List.set_cons_zero, List.set_cons_succ]
          · have hc' : (z / 8 % 2 == 0) = false := by simpa using hc
            simp only [hc', hc, Bool.false_eq_true, if_false]
            rfl
        · refine drop_nx (mt_append rfl ?_ hxl)
          have e2 := law_pattern_eq (codeM m z) (st ++ [.lst xs])
          have e3 : atI [D.int 0, D.int 1, D.int 5, D.int 9, D.int (z / 64 % 10)] (z % 5) = some (.int ((wtsM z).getD (z % 5).toNat 0)) := atI_modm (l := wtsM z) D.int 0 z 5 (by decide) rfl
          walk_at "evh"
          simp only [wishM, hz, wiD])
      (fun _ _ _ => rfl) (List.range (m % 6).toNat) [some (.int m), some (.ref st.length), none, none, none] (st ++ [.lst []]) ⟨[], rfl, rfl, none, none, none, rfl⟩
    rw [List.append_nil] at hd
    subst hd h2 h3
    have hs : mIA (fun _ => srcR1) (mCons (mBin gMod (mVar 0) (mC (.int 6))) mNil) [some (.int m), some (.ref st.length), none, none, none] (st ++ [.lst []]) = .ok ⟨(List.range (m % 6).toNat).map fun i : Nat => D.int (i : Int), yes⟩ (st ++ [.lst []]) := by
      have v := gMod_ok (st := st ++ [.lst []]) (i := m) (j := 6) (by decide)
      simp only [mIA, mCons, mNil, mBin, mVar, mC, List.getElem?_cons_zero, Res.ok_bind, Res.of_some, v, srcR1]
      rw [if_pos (by omega), range_cast]
      rfl
    refine fin_nx ((sFor_eq hs).trans h1) ?_
    refine fin_ret ?_
    simp only [mCall, mCons, mNil, mVar, List.getElem?_cons_zero, List.getElem?_cons_succ, Res.ok_bind, cTuple, asL, get_last, Option.map_some, Option.bind_some, notSw_ws, if_true, Res.of_some]
    rfl
  exact def_finC key (by simp only [wsD, noRef]; exact noRefs_map wiD (fun a => rfl) _)
/-- the law's makes: texts, each once -/
def addM (l : List Pt) (P : Pt) : List Pt := if (ptT P ∈ l.map ptT) then l else l ++ [P]
def makesM (m : Int) (k : Nat) : List Pt := (List.range (m % (k + 1 : Nat)).toNat).foldl (fun l j => addM l (mkM (drawn m (j : Nat)))) []
structure OkMs (k : Nat) (l : List Pt) : Prop where
  len : l.length ≤ k
  isM : ∀ P ∈ l, ∃ m, P = mkM m
  nd : (l.map ptT).Nodup
theorem addM_ok {k : Nat} {l : List Pt} (h : OkMs k l) (m : Int) : OkMs (k + 1) (addM l (mkM m)) := by
  unfold addM
  split
  · exact ⟨by have := h.len; omega, h.isM, h.nd⟩
  · rename_i hc
    refine ⟨by have := h.len; rw [List.length_append, List.length_singleton]; omega, fun P hP => ?_, ?_⟩
    · rcases List.mem_append.mp hP with hP | hP
      · exact h.isM P hP
      · rw [List.mem_singleton] at hP; exact ⟨m, hP⟩
    · rw [List.map_append]
      refine List.nodup_append.mpr ⟨h.nd, by simp, fun a ha b hb => ?_⟩
      simp only [List.map_cons, List.map_nil, List.mem_singleton] at hb
      rintro rfl
      exact hc (hb ▸ ha)
theorem makes_fold (m : Int) : ∀ (r : List Nat) (k : Nat) (l : List Pt), OkMs k l → OkMs (k + r.length) (r.foldl (fun l j => addM l (mkM (drawn m (j : Nat)))) l)
  | [], k, l, h => h
  | j :: r, k, l, h => by
    have := makes_fold m r (k + 1) _ (addM_ok h (drawn m j))
    rw [List.foldl_cons, List.length_cons]
    rw [show k + (r.length + 1) = k + 1 + r.length by omega]
    exact this
theorem makesM_ok (m : Int) (k : Nat) : OkMs k (makesM m k) := by
  have h := makes_fold m (List.range (m % (k + 1 : Nat)).toNat) 0 [] ⟨by simp, by simp, by simp⟩
  have hl : (m % ((k + 1 : Nat) : Int)).toNat < k + 1 := mod_lt m (k + 1) (by omega)
  exact ⟨Nat.le_trans h.len (by rw [List.length_range]; omega), h.isM, h.nd⟩
end K10
namespace K10
open PySem PySem.Spec L2 Mr
local macro_rules | `(tactic| walk_at "ev") => `(tactic| simp only [sRet, sIf, sAsg, sDrop, sPar, sNil, sRaise, mBin, mCall, mCallD, mCons, mNil, mC, mVar, mTup, mLst, mIfE, mAnd, mOr, mNot, mAndT, mOrT, mNotT, mTest, mTru, mChain, mMt, rcv, pureM, mSl, mPart, mNoP, mNeg, setT, setAll, startE, Res.ok_bind, Res.ex_bind, Res.no_bind, Res.of_some, Res.of_none, Res.ok_nox, asB, tru, List.map_cons, List.map_nil, List.length_cons, List.length_nil, List.replicate, List.cons_append, List.nil_append, List.getElem?_cons_zero, List.getElem?_cons_succ, List.set_cons_zero, List.set_cons_succ, Nat.reduceAdd, Nat.reduceSub, Nat.reduceEqDiff, Nat.reduceLeDiff, if_true, if_false, and_self, Bool.false_eq_true, Bool.not_true, Bool.not_false, Option.map_some, Option.bind_some, asL, asLs, asT, wipeE, gIx, gSl, atI_0, atI_1, atI_2, atI_3, atI_n1, cut_d1, cut_t2, cLen, cTuple, cList, cAll, cAny, cIsi, tyD, isiT, gSplit, gLt, gLe, gGt, gGe, gIsn, gIs, isD, eq_int, eq_str, beq_two, notSw2, List.drop_succ_cons, List.drop_zero, size_eq, Nat.zero_le, true_and, and_true, decide_true, decide_false])
local macro_rules | `(tactic| walk_at "evh") => `(tactic| simp only [sRet, sIf, sAsg, sDrop, sPar, sNil, sRaise, mBin, mCall, mCallD, mCons, mNil, mC, mVar, mTup, mLst, mIfE, mAnd, mOr, mNot, mAndT, mOrT, mNotT, mTest, mTru, mChain, mMt, rcv, pureM, mSl, mPart, mNoP, mNeg, setT, setAll, startE, Res.ok_bind, Res.ex_bind, Res.no_bind, Res.of_some, Res.of_none, Res.ok_nox, asB, tru, List.map_cons, List.map_nil, List.length_cons, List.length_nil, List.replicate, List.cons_append, List.nil_append, List.getElem?_cons_zero, List.getElem?_cons_succ, List.set_cons_zero, List.set_cons_succ, Nat.reduceAdd, Nat.reduceSub, Nat.reduceEqDiff, Nat.reduceLeDiff, if_true, if_false, and_self, Bool.false_eq_true, Bool.not_true, Bool.not_false, Option.map_some, Option.bind_some, asL, asLs, asT, wipeE, gIx, gSl, atI_0, atI_1, atI_2, atI_3, atI_n1, cut_d1, cut_t2, cLen, cTuple, cList, cAll, cAny, cIsi, tyD, isiT, gSplit, gLt, gLe, gGt, gGe, gIsn, gIs, isD, eq_int, eq_str, beq_two, notSw2, List.drop_succ_cons, List.drop_zero, size_eq, Nat.zero_le, true_and, and_true, decide_true, decide_false, *])
local macro_rules | `(tactic| walk_at "nx") => `(tactic| (first | (apply fin_nx; (case h => (walk_at "evh"; try rfl))) | (apply seq_nx; (case h => (walk_at "evh"; try rfl)))))
local macro_rules | `(tactic| walk_at "x") => `(tactic| fail)
local macro_rules | `(tactic| walk_at "lf") => `(tactic| first | walk_at "x" | with_reducible rfl | (with_reducible exact gMod_ok (by first | decide | omega)) | (with_reducible exact gDiv_ok' (by first | decide | omega) (by first | decide | omega)) | (with_reducible exact eq_int _ _ _) | rfl)
local macro_rules | `(tactic| walk_at "e1") => `(tactic| first | with_reducible assumption | walk_at "x" | (with_reducible apply bin_st) | (with_reducible exact nil_st) | (with_reducible apply cons_st) | (with_reducible apply test_eq) | (with_reducible apply callB_of) | (with_reducible apply callD_st) | (with_reducible apply fld_st) | (with_reducible apply meth_st) | (with_reducible apply tup_of) | (with_reducible apply lst_of) | (with_reducible apply toldM_ok) | (with_reducible apply not_st) | (with_reducible apply tru_st) | (with_reducible apply sl_st) | (with_reducible apply part_st) | (with_reducible exact nop_st) | (with_reducible apply app_st) | walk_at "lf")
local macro_rules | `(tactic| walk_at "e") => `(tactic| repeat' walk_at "e1")
local macro_rules | `(tactic| walk_at "ga") => `(tactic| ((with_reducible apply go_asg); (· walk_at "e")))
local macro_rules | `(tactic| walk_at "gd") => `(tactic| ((with_reducible apply go_drop); (· walk_at "e")))
local macro_rules | `(tactic| walk_at "gf") => `(tactic| ((with_reducible apply goF); (· walk_at "e")))
local macro_rules | `(tactic| walk_at "g") => `(tactic| first | walk_at "ga" | walk_at "gd" | walk_at "gf")
/-! ### wishes written and read -/
def dgT (i : Int) : Str := Str.ofString (toString i)
theorem dg_all : ∀ n : Fin 10, TL.tl (dgT (n.val : Int)) = [48 + n.val] ∧ PySem.intText? (dgT (n.val : Int)) = some (n.val : Int) ∧ subIn (dgT (n.val : Int)) ("0123456789" : Str) = true := by decide +kernel
theorem dg_ok {i : Int} (h0 : 0 ≤ i) (h9 : i ≤ 9) : (∃ c, TL.tl (dgT i) = [c] ∧ 48 ≤ c ∧ c ≤ 57) ∧ PySem.intText? (dgT i) = some i ∧ subIn (dgT i) ("0123456789" : Str) = true := by
  obtain ⟨a, b, c⟩ := dg_all ⟨i.toNat, by omega⟩
  have e : ((i.toNat : Nat) : Int) = i := by omega
  dsimp only at a b c
  rw [e] at a b c
  exact ⟨⟨_, a, by omega, by omega⟩, b, c⟩
def wrT (p : Pt × Int) : Str := ptT p.1 ++ (" " : Str) ++ dgT p.2
def wrP (l : List (Pt × Int)) : Str := PySem.Str.join (", " : Str) (l.map wrT)
theorem tl_sp : TL.tl (" " : Str) = [32] := by decide +kernel
theorem tl_co : TL.tl ("," : Str) = [44] := by decide +kernel
theorem len_sp : (" " : Str).length = 1 := by decide +kernel
theorem pt_none {P : Pt} (h : isPt P = true) {s : Nat} (hs : isSm s = false) (h42 : s ≠ 42) (h47 : s ≠ 47) (h59 : s ≠ 59) (h61 : s ≠ 61) : s ∉ TL.tl (ptT P) := by
  obtain ⟨f1, f2⟩ := pt_free h hs h42
  obtain ⟨_, hw, _⟩ := sides_ok h
  unfold ptT
  refine free_join (by rw [tl_se]; simpa using h59) fun x hx => ?_
  rcases List.mem_cons.mp hx with rfl | hx
  · unfold hdT
    rw [TL.tl_append, TL.tl_append, tl_sl]
    simp only [List.mem_append, not_or]
    exact ⟨⟨f1, by simpa using h47⟩, f2⟩
  · obtain ⟨t, ht, rfl⟩ := List.mem_map.mp hx
    unfold sdT
    rw [TL.tl_append, TL.tl_append, tl_eq]
    simp only [List.mem_append, not_or]
    exact ⟨⟨isW_free (hw t ht).1 hs, by simpa using h61⟩, isW_free (hw t ht).2 hs⟩
theorem isSm_sp : isSm 32 = false := by decide +kernel
theorem isSm_co : isSm 44 = false := by decide +kernel
theorem dg_free {i : Int} (h0 : 0 ≤ i) (h9 : i ≤ 9) {s : Nat} (hs : s < 48) : s ∉ TL.tl (dgT i) := by
  obtain ⟨⟨c, e, h1, h2⟩, _⟩ := dg_ok h0 h9
  rw [e]
  simp only [List.mem_singleton]
  omega
theorem dg_len {i : Int} (h0 : 0 ≤ i) (h9 : i ≤ 9) : (dgT i).length = 1 := by
  obtain ⟨⟨c, e, _⟩, _⟩ := dg_ok h0 h9
  rw [tl_len, e]; rfl
theorem ne_empty {x : Str} {c : Nat} {m : List Nat} (h : TL.tl x = c :: m) : x ≠ ("" : Str) := fun e => by
  have e0 : TL.tl ("" : Str) = [] := by decide +kernel
  rw [e, e0] at h
  cases h
theorem pt_head {P : Pt} (h : isPt P = true) : ∃ c m, TL.tl (ptT P) = c :: m ∧ c ≠ 32 := by
  have hk : 1 ≤ P.kind.length := by
    unfold isPt at h
    simp only [Bool.and_eq_true, Bool.or_eq_true, decide_eq_true_eq] at h
    rcases h.1.2 with z | z
    · exact (isW_len z).1
    · rw [z.1.1]; decide +kernel
  have hn := pt_none h isSm_sp (by decide) (by decide) (by decide) (by decide)
  have hs : ∃ t, TL.tl (ptT P) = TL.tl P.kind ++ t := by
    rw [ptT_rs, TL.tl_append, TL.tl_append]
    exact ⟨_, List.append_assoc _ _ _⟩
  obtain ⟨t, hs⟩ := hs
  rw [tl_len] at hk
  cases hc : TL.tl P.kind with
  | nil => rw [hc] at hk; simp at hk
  | cons c m =>
    refine ⟨c, m ++ t, by rw [hs, hc]; rfl, fun e => hn ?_⟩
    rw [hs, hc, e]; simp
theorem tl_nil {x : Str} (h : TL.tl x = []) : x = ("" : Str) := TL.ext_tl (by rw [h]; decide +kernel)
structure Ends (x : Str) : Prop where
  fst : ∃ c m, TL.tl x = c :: m ∧ c ≠ 32
  lst : ∃ m d, TL.tl x = m ++ [d] ∧ d ≠ 32
theorem wr_ends {p : Pt × Int} (h : isPt p.1 = true) (h0 : 0 ≤ p.2) (h9 : p.2 ≤ 9) : Ends (wrT p) := by
  obtain ⟨c, m, e, hc⟩ := pt_head h
  obtain ⟨⟨d, ed, hd, _⟩, _⟩ := dg_ok h0 h9
  unfold wrT
  refine ⟨⟨c, m ++ TL.tl (" " : Str) ++ TL.tl (dgT p.2), by rw [TL.tl_append, TL.tl_append, e]; simp, hc⟩, ⟨TL.tl (ptT p.1) ++ TL.tl (" " : Str), d, by rw [TL.tl_append, TL.tl_append, ed], by omega⟩⟩
theorem join_ends (y : Str) : ∀ {l : List Str}, l ≠ [] → (∀ x ∈ l, Ends x) → Ends (PySem.Str.join y l)
  | [], h, _ => absurd rfl h
  | [a], _, h => h a (by simp)
  | a :: b :: r, _, h => by
    obtain ⟨c, m, e, hc⟩ := (h a (by simp)).fst
    obtain ⟨m2, d, e2, hd⟩ := (join_ends y (l := b :: r) (by simp) fun x hx => h x (List.mem_cons_of_mem _ hx)).lst
    show Ends (a ++ y ++ PySem.Str.join y (b :: r))
    exact ⟨⟨c, m ++ TL.tl y ++ TL.tl (PySem.Str.join y (b :: r)), by rw [TL.tl_append, TL.tl_append, e]; simp, hc⟩, ⟨TL.tl a ++ TL.tl y ++ m2, d, by rw [TL.tl_append, TL.tl_append, e2]; simp, hd⟩⟩
theorem tw_nil {p : Nat → Bool} : ∀ l : List Nat, (∀ c, l.head? = some c → p c = false) → l.takeWhile p = []
  | [], _ => rfl
  | c :: r, h => by rw [List.takeWhile_cons, if_neg (by rw [h c rfl]; exact Bool.false_ne_true)]
theorem strip_ends {x : Str} (h : Ends x) : Txt.stripChars x (" " : Str) = x := by
  obtain ⟨⟨c, m, e, hc⟩, ⟨m2, d, e2, hd⟩⟩ := h
  have hp : ∀ c : Nat, c ≠ 32 → (" " : Str).cps.contains c = false := fun c hc => by
    have : (" " : Str).cps = #[32] := by decide +kernel
    rw [this]
    simp [hc]
  have e1 : x.cps.toList.takeWhile (" " : Str).cps.contains = [] := tw_nil _ fun z hz => by
    have hz : (TL.tl x).head? = some z := hz
    rw [e] at hz
    cases hz
    exact hp _ hc
  have e3 : (x.cps.toList.drop 0).reverse.takeWhile (" " : Str).cps.contains = [] := tw_nil _ fun z hz => by
    have hz : (TL.tl x).reverse.head? = some z := hz
    rw [e2] at hz
    simp only [List.reverse_append, List.reverse_cons, List.reverse_nil, List.nil_append, List.singleton_append, List.head?_cons, Option.some.injEq] at hz
    subst hz
    exact hp _ hd
  have f0 : PySem.stripLo (" " : Str).cps.contains true x = 0 := by
    unfold PySem.stripLo
    rw [if_pos rfl, e1]; rfl
  have f1 : PySem.stripHi (" " : Str).cps.contains true x 0 = x.length := by
    unfold PySem.stripHi
    rw [if_pos rfl, e3]; rfl
  unfold Txt.stripChars Txt.stripBy PySem.stripSame
  rw [f0, f1]
  exact if_pos (by simp)
theorem wr_len {p : Pt × Int} (h : isPt p.1 = true) (h0 : 0 ≤ p.2) (h9 : p.2 ≤ 9) : (wrT p).length ≤ 102 := by
  unfold wrT
  have := ptT_len h
  rw [len_app, len_app, len_sp, dg_len h0 h9]
  omega
theorem join_le (c : Nat) (y : Str) : ∀ (l : List Str), (∀ x ∈ l, x.length ≤ c) → (PySem.Str.join y l).length ≤ l.length * (c + y.length)
  | [], _ => by exact Nat.zero_le _
  | [a], h => by have := h a (by simp); show a.length ≤ _; simp; omega
  | a :: b :: r, h => by
    have h1 := h a (by simp)
    have h2 := join_le c y (b :: r) fun x hx => h x (List.mem_cons_of_mem _ hx)
    show (a ++ y ++ PySem.Str.join y (b :: r)).length ≤ _
    rw [len_app, len_app, List.length_cons, Nat.succ_mul]
    omega
theorem sum_le' (c : Nat) : ∀ (l : List Str), (∀ x ∈ l, x.length ≤ c) → (l.map (·.length)).sum ≤ l.length * c
  | [], _ => by simp
  | a :: r, h => by
    have h1 := h a (by simp)
    have h2 := sum_le' c r fun x hx => h x (List.mem_cons_of_mem _ hx)
    rw [List.map_cons, List.sum_cons, List.length_cons, Nat.succ_mul]
    omega
theorem written_eq (l : List (Pt × Int)) (h : okWs l) (st : Store) : m_written_wishes [wsD l] st = .ok (.str (wrP l)) st := by
  have hn := need_wishes_ok l h st
  obtain ⟨h8, hl⟩ := h
  have q1 : q_written_wishes_1 [some (wsD l), none, none] st = .ok (.lst (l.map fun p => .str (wrT p))) st := by
    refine mComp_eq (s := ⟨l.map wiD, yes⟩) rfl ?_ (by rw [List.length_map]; omega)
    refine compL_map wiD (fun p => .str (wrT p)) rfl l fun p hp => ⟨_, rfl, ?_⟩
    obtain ⟨hP, h0, h9⟩ := hl p hp
    have hpl := ptT_len hP
    have g1 := gAdd_str (st := st) (x := ptT p.1) (y := " ") (by rw [len_sp]; omega)
    have g2 := gAdd_str (st := st) (x := ptT p.1 ++ (" " : Str)) (y := dgT p.2) (by rw [len_app, len_sp, dg_len h0 h9]; omega)
    have g3 : cStr st [.int p.2] = some (.str (dgT p.2)) := by
      have : p.2.natAbs.log2 < 1920 := by
        have hb : p.2.natAbs < 10 := by omega
        generalize p.2.natAbs = n at hb
        rcases n with _ | _ | _ | _ | _ | _ | _ | _ | _ | _ | n
        all_goals first | decide +kernel | omega
      show (if p.2.natAbs.log2 < 1920 then some (D.str (toString p.2 : String)) else none) = _
      rw [if_pos this]; rfl
    walk_at "evh"
    rfl
  have hst := stD_map wrT l
  have hsm := sum_le' 102 (l.map wrT) (fun x hx => by
    obtain ⟨p, hp, rfl⟩ := List.mem_map.mp hx
    obtain ⟨hP, h0, h9⟩ := hl p hp
    exact wr_len hP h0 h9)
  have l2 : (", " : Str).length = 2 := by decide +kernel
  have hfit : ((l.map wrT).map (·.length)).sum + (l.map wrT).length * (", " : Str).length ≤ 16777216 := by
    rw [l2]
    rw [List.length_map] at hsm ⊢
    omega
  have hj : gJoin st (.str ", ") [.lst (l.map fun p => .str (wrT p))] = some (.str (wrP l)) := by
    show ((stD (l.map fun p => D.str (wrT p))).bind fun ys => if (ys.map (·.length)).sum + ys.length * (", " : Str).length ≤ 16777216 then some (D.str (Txt.join ", " ys)) else none) = _
    rw [hst, Option.bind_some, if_pos hfit, TL.join_eq]
    rfl
  refine def_fin ?_ rfl
  unfold b_written_wishes
  walk_at "nx"
  refine fin_ret ?_
  try simp only [startE, List.map_cons, List.map_nil, List.length_cons, List.length_nil, List.replicate, List.cons_append, List.nil_append, Nat.reduceAdd, Nat.reduceSub]
  simp only [mMt, mC, mCons, mNil, q1, Res.ok_bind, rcv, pureM, hj, Res.of_some]
  first | rfl | simp [rcv, pureM, hj, Res.of]
/-- the parts of the text -/
def paT (b : Bool × (Pt × Int)) : Str := if b.1 = true then (" " : Str) ++ wrT b.2 else wrT b.2
def parts : List (Pt × Int) → List (Bool × (Pt × Int))
  | [] => []
  | p :: r => (false, p) :: r.map fun q => (true, q)
theorem join_co : ∀ (r : List (Pt × Int)) (a : Str), PySem.Str.join (", " : Str) (a :: r.map wrT) = PySem.Str.join ("," : Str) (a :: r.map fun q => (" " : Str) ++ wrT q)
  | [], a => rfl
  | p :: r, a => by
    show a ++ (", " : Str) ++ PySem.Str.join (", " : Str) (wrT p :: r.map wrT) = a ++ ("," : Str) ++ PySem.Str.join ("," : Str) (((" " : Str) ++ wrT p) :: r.map fun q => (" " : Str) ++ wrT q)
    rw [join_co r (wrT p), join_app]
    have e : (", " : Str) = ("," : Str) ++ (" " : Str) := by decide +kernel
    rw [e]
    simp only [app_assoc]
theorem wr_free {p : Pt × Int} (h : isPt p.1 = true) (h0 : 0 ≤ p.2) (h9 : p.2 ≤ 9) : 44 ∉ TL.tl (wrT p) := by
  unfold wrT
  rw [TL.tl_append, TL.tl_append, tl_sp]
  simp only [List.mem_append, not_or]
  exact ⟨⟨pt_none h isSm_co (by decide) (by decide) (by decide) (by decide), by decide⟩, dg_free h0 h9 (by decide)⟩
theorem split_co {l : List (Pt × Int)} (hl : ∀ p ∈ l, isPt p.1 = true ∧ 0 ≤ p.2 ∧ p.2 ≤ 9) (hne : l ≠ []) : Txt.split (wrP l) ("," : Str) = (parts l).map paT := by
  cases l with
  | nil => exact absurd rfl hne
  | cons p r =>
    have e := TL.split_join (y := ("," : Str)) (s := 44) (S := []) tl_co (by decide +kernel) (parts := wrT p :: r.map fun q => (" " : Str) ++ wrT q) (by simp) (fun x hx => by
      rcases List.mem_cons.mp hx with rfl | hx
      · obtain ⟨a, b, c⟩ := hl p (by simp)
        exact wr_free a b c
      · obtain ⟨q, hq, rfl⟩ := List.mem_map.mp hx
        obtain ⟨a, b, c⟩ := hl q (List.mem_cons_of_mem _ hq)
        rw [TL.tl_append, tl_sp]
        simp only [List.mem_append, not_or]
        exact ⟨by decide, wr_free a b c⟩)
    rw [TL.join_eq, ← join_co] at e
    refine e.trans ?_
    show _ = wrT p :: (r.map fun q => (true, q)).map paT
    rw [List.map_map]
    rfl
theorem split_sp {p : Pt × Int} (h : isPt p.1 = true) (h0 : 0 ≤ p.2) (h9 : p.2 ≤ 9) : Txt.split (wrT p) (" " : Str) = [ptT p.1, dgT p.2] :=
  split_two (s := 32) tl_sp (by decide +kernel) (pt_none h isSm_sp (by decide) (by decide) (by decide) (by decide)) (dg_free h0 h9 (by decide))
theorem split_sp2 {p : Pt × Int} (h : isPt p.1 = true) (h0 : 0 ≤ p.2) (h9 : p.2 ≤ 9) : Txt.split ((" " : Str) ++ wrT p) (" " : Str) = [("" : Str), ptT p.1, dgT p.2] := by
  have e := TL.split_join (y := (" " : Str)) (s := 32) (S := []) tl_sp (by decide +kernel) (parts := [("" : Str), ptT p.1, dgT p.2]) (by simp) (fun x hx => by
    simp only [List.mem_cons, List.not_mem_nil, or_false] at hx
    rcases hx with rfl | rfl | rfl
    · decide +kernel
    · exact pt_none h isSm_sp (by decide) (by decide) (by decide) (by decide)
    · exact dg_free h0 h9 (by decide))
  rw [TL.join_eq] at e
  refine Eq.trans (congrArg (fun z => Txt.split z (" " : Str)) (TL.ext_tl ?_)) e
  show _ = TL.tl (("" : Str) ++ (" " : Str) ++ (ptT p.1 ++ (" " : Str) ++ dgT p.2))
  unfold wrT
  simp only [TL.tl_append]
  rw [show TL.tl ("" : Str) = [] by decide +kernel]
  simp
def pieces (b : Bool × (Pt × Int)) : List Str := if b.1 = true then [("" : Str), ptT b.2.1, dgT b.2.2] else [ptT b.2.1, dgT b.2.2]
theorem split_pa {b : Bool × (Pt × Int)} (h : isPt b.2.1 = true) (h0 : 0 ≤ b.2.2) (h9 : b.2.2 ≤ 9) : Txt.split (paT b) (" " : Str) = pieces b := by
  unfold paT pieces
  split
  · exact split_sp2 h h0 h9
  · exact split_sp h h0 h9
theorem pieces_filter {b : Bool × (Pt × Int)} (h : isPt b.2.1 = true) (h0 : 0 ≤ b.2.2) (h9 : b.2.2 ≤ 9) : (pieces b).filter (fun x => !(x == ("" : Str))) = [ptT b.2.1, dgT b.2.2] := by
  obtain ⟨c, m, e, _⟩ := pt_head h
  obtain ⟨⟨d, ed, _⟩, _⟩ := dg_ok h0 h9
  have n1 : (ptT b.2.1 == ("" : Str)) = false := beq_eq_false_iff_ne.mpr (ne_empty e)
  have n2 : (dgT b.2.2 == ("" : Str)) = false := beq_eq_false_iff_ne.mpr (ne_empty ed)
  unfold pieces
  split <;> simp [List.filter, n1, n2]
theorem paT_len {b : Bool × (Pt × Int)} (h : isPt b.2.1 = true) (h0 : 0 ≤ b.2.2) (h9 : b.2.2 ≤ 9) : (paT b).length ≤ 103 := by
  have := wr_len h h0 h9
  unfold paT
  split
  · rw [len_app, len_sp]; omega
  · omega
theorem parts_mem {l : List (Pt × Int)} {b : Bool × (Pt × Int)} (h : b ∈ parts l) : b.2 ∈ l := by
  cases l with
  | nil => simp [parts] at h
  | cons p r =>
    simp only [parts, List.mem_cons, List.mem_map] at h
    rcases h with rfl | ⟨q, hq, rfl⟩
    · simp
    · exact List.mem_cons_of_mem _ hq
theorem parts_snd (l : List (Pt × Int)) : (parts l).map (·.2) = l := by
  cases l with
  | nil => rfl
  | cons p r => simp [parts, Function.comp_def]
theorem parts_len (l : List (Pt × Int)) : (parts l).length = l.length := by
  rw [← List.length_map (f := (·.2)), parts_snd]
theorem read_eq (l : List (Pt × Int)) (h : okWs l) (st : Store) : m_read_wishes [.str (wrP l)] st = .ok (wsD l) st := by
  have hn := need_wishes_ok l h
  obtain ⟨h8, hl⟩ := h
  have key : fin (b_read_wishes (startE 5 [.str (wrP l)]) st) = .ok (wsD l) (st ++ [.lst (l.map wiD)]) := by
    unfold b_read_wishes
    refine fin_nx (env' := [some (.str (wrP l)), some (.ref st.length), none, none, none]) (st' := st ++ [.lst []]) (by rfl) ?_
    have hlen : (wrP l).length ≤ 16777214 := by
      have := join_le 102 (", " : Str) (l.map wrT) (fun x hx => by
        obtain ⟨p, hp, rfl⟩ := List.mem_map.mp hx
        obtain ⟨a, b, c⟩ := hl p hp
        exact wr_len a b c)
      have l2 : (", " : Str).length = 2 := by decide +kernel
      rw [l2, List.length_map] at this
      show (PySem.Str.join (", " : Str) (l.map wrT)).length ≤ _
      omega
    have hs : mIL (mIfE (mTest (mBin gNe (mMt "str" (pureM gStripC) (mVar 0) (mCons (mC (.str " ")) mNil)) (mC (.str "")))) (mMt "str" (pureM gSplit) (mVar 0) (mCons (mC (.str ",")) mNil)) (mLst mNil)) [some (.str (wrP l)), some (.ref st.length), none, none, none] (st ++ [.lst []]) = .ok ⟨(parts l).map fun b => .str (paT b), yes⟩ (st ++ [.lst []]) := by
      have hst : mMt "str" (pureM gStripC) (mVar 0) (mCons (mC (.str " ")) mNil) [some (.str (wrP l)), some (.ref st.length), none, none, none] (st ++ [.lst []]) = .ok (.str (Txt.stripChars (wrP l) (" " : Str))) (st ++ [.lst []]) := by
        have hle : (wrP l).length ≤ sizeLine := by rw [size_eq]; omega
        have e : gStripC (st ++ [.lst []]) (.str (wrP l)) [.str " "] = some (.str (Txt.stripChars (wrP l) (" " : Str))) := by
          show (if (wrP l).length ≤ sizeLine then some (D.str (Txt.stripChars (wrP l) (" " : Str))) else none) = _
          rw [if_pos hle]
        simp only [mMt, mVar, mC, mCons, mNil, List.getElem?_cons_zero, Res.ok_bind, rcv, pureM, e, if_true, Option.map_some]
      cases hc : l with
      | nil =>
        rw [hc] at hst
        have e : Txt.stripChars (wrP []) (" " : Str) = ("" : Str) := by decide +kernel
        rw [e] at hst
        simp only [mIL, mIfE, mTest, mBin, hst, mC, Res.ok_bind, ne_str, Res.of_some, asB, beq_self_eq_true, Bool.not_true, Bool.false_eq_true, if_false, mLst, mNil, srcL]
        rfl
      | cons p r =>
        rw [← hc]
        have hne : l ≠ [] := by rw [hc]; simp
        have he : Ends (wrP l) := join_ends _ (by rw [hc]; simp) fun x hx => by
          obtain ⟨q, hq, rfl⟩ := List.mem_map.mp hx
          obtain ⟨a, b, c⟩ := hl q hq
          exact wr_ends a b c
        clear hc
        obtain ⟨c, m, ec, _⟩ := he.fst
        have hb : (wrP l == ("" : Str)) = false := beq_eq_false_iff_ne.mpr (ne_empty ec)
        rw [strip_ends he] at hst
        have e1 := split_co hl hne
        have h0 : ((("," : Str)).length == 0) = false := by decide +kernel
        have hsp : mMt "str" (pureM gSplit) (mVar 0) (mCons (mC (.str ",")) mNil) [some (.str (wrP l)), some (.ref st.length), none, none, none] (st ++ [.lst []]) = .ok (.lst (((parts l).map paT).map D.str)) (st ++ [.lst []]) := by
          walk_at "evh"
        simp only [mIL, mIfE, mTest, mBin, hst, hsp, mC, Res.ok_bind, ne_str, Res.of_some, asB, hb, Bool.not_false, if_true, srcL, asL, Option.map_some]
        rw [List.map_map]
        rfl
    obtain ⟨env', st', h1, d, hd, h2, b2, b3, h3⟩ := forL_gen (chk := yes) (tg := .one 2) (body := w_read_wishes_1) (fun b : Bool × (Pt × Int) => D.str (paT b))
      (fun r env s => ∃ d : List (Bool × (Pt × Int)), d ++ r = parts l ∧ s = st ++ [.lst (d.map fun b => wiD b.2)] ∧ ∃ b2 b3, env = [some (.str (wrP l)), some (.ref st.length), b2, b3, none])
      (fun b r env s hI => by
        obtain ⟨d, hd, rfl, b2, b3, rfl⟩ := hI
        have hdl : d.length ≤ 8 := by
          have := congrArg List.length hd
          rw [List.length_append, parts_len] at this
          omega
        obtain ⟨hP, hz, h9⟩ := hl b.2 (parts_mem (by rw [← hd]; simp))
        generalize hs : d.map (fun b => wiD b.2) = xs
        have hxl : xs.length ≤ 1000 := by rw [← hs, List.length_map]; omega
        have e1 := split_pa hP hz h9
        have h0 : (((" " : Str)).length == 0) = false := by decide +kernel
        have hpl : (paT b).length ≤ 16777214 := by have := paT_len hP hz h9; omega
        have hsp : mMt "str" (pureM gSplit) (mVar 2) (mCons (mC (.str " ")) mNil) [some (.str (wrP l)), some (.ref st.length), some (.str (paT b)), b3, none] (st ++ [.lst xs]) = .ok (.lst ((pieces b).map D.str)) (st ++ [.lst xs]) := by
          walk_at "evh"
        have q1 : q_read_wishes_1 [some (.str (wrP l)), some (.ref st.length), some (.str (paT b)), b3, none] (st ++ [.lst xs]) = .ok (.lst [.str (ptT b.2.1), .str (dgT b.2.2)]) (st ++ [.lst xs]) := by
          refine (mComp_eq (s := ⟨(pieces b).map D.str, yes⟩) (ds := ((pieces b).filter fun x => !(x == ("" : Str))).map D.str) ?_ ?_ ?_).trans ?_
          · simp only [mIL, hsp, Res.ok_bind, srcL, asL, Option.map_some, Res.of_some]
            rfl
          · refine compL_filter D.str (fun x => !(x == ("" : Str))) D.str rfl (pieces b) fun x hx => ⟨_, rfl, ?_, fun _ => ?_⟩
            · walk_at "ev"
              simp only [ne_str, Res.of_some, Res.ok_bind, asB]
            · rfl
          · rw [pieces_filter hP hz h9]; exact (by decide : 2 ≤ 16777216)
          · rw [pieces_filter hP hz h9]; rfl
        have nt := need_true (st ++ [.lst xs])
        have dl := dg_len hz h9
        obtain ⟨_, di, din⟩ := dg_ok hz h9
        have gi : gIn (st ++ [.lst xs]) (.str (dgT b.2.2)) (.str "0123456789") = some (.bl true) := by
          show (some (subIn (dgT b.2.2) ("0123456789" : Str))).map D.bl = _
          rw [din]; rfl
        have gl : cLen (st ++ [.lst xs]) [.str (dgT b.2.2)] = some (.int 1) := by
          show (if (dgT b.2.2).length ≤ sizeLine then some (D.int (dgT b.2.2).length) else none) = _
          rw [dl, if_pos (by rw [size_eq]; omega)]; rfl
        have gc : cInt (st ++ [.lst xs]) [.str (dgT b.2.2)] = some (.int b.2.2) := by
          show (if (dgT b.2.2).length ≤ 640 then (PySem.intText? (dgT b.2.2)).map D.int else none) = _
          rw [dl, if_pos (by omega), di]; rfl
        refine ⟨rfl, [some (.str (wrP l)), some (.ref st.length), some (.str (paT b)), b3, none], [some (.str (wrP l)), some (.ref st.length), some (.str (paT b)), some (.lst [.str (ptT b.2.1), .str (dgT b.2.2)]), none], st ++ [.lst (xs ++ [wiD b.2])], rfl, ?_, d ++ [b], by simp [hd], by simp [hs], _, _, rfl⟩
        unfold w_read_wishes_1
        refine seq_nx (env' := [some (.str (wrP l)), some (.ref st.length), some (.str (paT b)), some (.lst [.str (ptT b.2.1), .str (dgT b.2.2)]), none]) (st' := st ++ [.lst xs]) ?_ ?_
        · unfold sAsg
          rw [q1]
          rfl
        refine seq_nx (env' := [some (.str (wrP l)), some (.ref st.length), some (.str (paT b)), some (.lst [.str (ptT b.2.1), .str (dgT b.2.2)]), none]) (st' := st ++ [.lst xs]) ?_ ?_
        · refine drop_nx (d := .non) ((call_1 (d := .bl true) rfl ?_).trans nt)
          refine mAnd_bl (a := true) (b := true) (by rfl) fun _ => mAnd_bl (a := true) (b := true) ?_ fun _ => ?_
          · simp only [mBin, mCall, mCons, mNil, mVar, mC, List.getElem?_cons_zero, List.getElem?_cons_succ, Res.ok_bind, gIx, asL, Option.bind_some, atI_1, Res.of_some, gl]
            rfl
          · simp only [mBin, mCall, mCons, mNil, mVar, mC, List.getElem?_cons_zero, List.getElem?_cons_succ, Res.ok_bind, gIx, asL, Option.bind_some, atI_1, Res.of_some, gi]
        · refine drop_nx (mt_append rfl ?_ hxl)
          simp only [mTup, mBin, mCall, mCons, mNil, mVar, mC, List.getElem?_cons_zero, List.getElem?_cons_succ, Res.ok_bind, gIx, asL, Option.bind_some, atI_0, atI_1, Res.of_some, gc]
          rfl)
      (fun _ _ _ => rfl) (parts l) [some (.str (wrP l)), some (.ref st.length), none, none, none] (st ++ [.lst []]) ⟨[], rfl, rfl, none, none, rfl⟩
    rw [List.append_nil] at hd
    subst hd h2 h3
    have hx : (parts l).map (fun b => wiD b.2) = l.map wiD := by
      have := congrArg (List.map wiD) (parts_snd l)
      rwa [List.map_map] at this
    rw [hx] at h1
    refine fin_nx ((sFor_eq hs).trans h1) ?_
    have ht : mCall cTuple (mCons (mVar 1) mNil) [some (.str (wrP l)), some (.ref st.length), b2, b3, none] (st ++ [.lst (l.map wiD)]) = .ok (wsD l) (st ++ [.lst (l.map wiD)]) := by
      simp only [mCall, mCons, mNil, mVar, List.getElem?_cons_zero, List.getElem?_cons_succ, Res.ok_bind, cTuple, asL, get_last, Option.bind_some, notSw_ws, if_true, Res.of_some]
      rfl
    refine fin_nx (drop_nx (d := .non) ((call_1 rfl ht).trans (hn _))) ?_
    exact fin_ret ht
  exact def_finC key (by simp only [wsD, noRef]; exact noRefs_map wiD (fun a => rfl) _)

end K10
namespace K10
open PySem PySem.Spec L2 Mr
local macro_rules | `(tactic| walk_at "ev") => `(tactic| simp only [sRet, sIf, sAsg, sDrop, sPar, sNil, sRaise, mBin, mCall, mCallD, mCons, mNil, mC, mVar, mTup, mLst, mIfE, mAnd, mOr, mNot, mAndT, mOrT, mNotT, mTest, mTru, mChain, mMt, rcv, pureM, mSl, mPart, mNoP, mNeg, setT, setAll, startE, Res.ok_bind, Res.ex_bind, Res.no_bind, Res.of_some, Res.of_none, Res.ok_nox, asB, tru, List.map_cons, List.map_nil, List.length_cons, List.length_nil, List.replicate, List.cons_append, List.nil_append, List.getElem?_cons_zero, List.getElem?_cons_succ, List.set_cons_zero, List.set_cons_succ, Nat.reduceAdd, Nat.reduceSub, Nat.reduceEqDiff, Nat.reduceLeDiff, if_true, if_false, and_self, Bool.false_eq_true, Bool.not_true, Bool.not_false, Option.map_some, Option.bind_some, asL, asLs, asT, wipeE, gIx, gSl, atI_0, atI_1, atI_2, atI_3, atI_n1, cut_d1, cut_t2, cLen, cTuple, cList, cAll, cAny, cIsi, tyD, isiT, gSplit, gLt, gLe, gGt, gGe, gIsn, gIs, isD, eq_int, eq_str, beq_two, notSw2, List.drop_succ_cons, List.drop_zero, size_eq, Nat.zero_le, true_and, and_true, decide_true, decide_false])
local macro_rules | `(tactic| walk_at "evh") => `(tactic| simp only [sRet, sIf, sAsg, sDrop, sPar, sNil, sRaise, mBin, mCall, mCallD, mCons, mNil, mC, mVar, mTup, mLst, mIfE, mAnd, mOr, mNot, mAndT, mOrT, mNotT, mTest, mTru, mChain, mMt, rcv, pureM, mSl, mPart, mNoP, mNeg, setT, setAll, startE, Res.ok_bind, Res.ex_bind, Res.no_bind, Res.of_some, Res.of_none, Res.ok_nox, asB, tru, List.map_cons, List.map_nil, List.length_cons, List.length_nil, List.replicate, List.cons_append, List.nil_append, List.getElem?_cons_zero, List.getElem?_cons_succ, List.set_cons_zero, List.set_cons_succ, Nat.reduceAdd, Nat.reduceSub, Nat.reduceEqDiff, Nat.reduceLeDiff, if_true, if_false, and_self, Bool.false_eq_true, Bool.not_true, Bool.not_false, Option.map_some, Option.bind_some, asL, asLs, asT, wipeE, gIx, gSl, atI_0, atI_1, atI_2, atI_3, atI_n1, cut_d1, cut_t2, cLen, cTuple, cList, cAll, cAny, cIsi, tyD, isiT, gSplit, gLt, gLe, gGt, gGe, gIsn, gIs, isD, eq_int, eq_str, beq_two, notSw2, List.drop_succ_cons, List.drop_zero, size_eq, Nat.zero_le, true_and, and_true, decide_true, decide_false, *])
local macro_rules | `(tactic| walk_at "nx") => `(tactic| (first | (apply fin_nx; (case h => (walk_at "evh"; try rfl))) | (apply seq_nx; (case h => (walk_at "evh"; try rfl)))))
local macro_rules | `(tactic| walk_at "x") => `(tactic| fail)
local macro_rules | `(tactic| walk_at "lf") => `(tactic| first | walk_at "x" | with_reducible rfl | (with_reducible exact gMod_ok (by first | decide | omega)) | (with_reducible exact gDiv_ok' (by first | decide | omega) (by first | decide | omega)) | (with_reducible exact eq_int _ _ _) | rfl)
local macro_rules | `(tactic| walk_at "e1") => `(tactic| first | with_reducible assumption | walk_at "x" | (with_reducible apply bin_st) | (with_reducible exact nil_st) | (with_reducible apply cons_st) | (with_reducible apply test_eq) | (with_reducible apply callB_of) | (with_reducible apply callD_st) | (with_reducible apply fld_st) | (with_reducible apply meth_st) | (with_reducible apply tup_of) | (with_reducible apply lst_of) | (with_reducible apply toldM_ok) | (with_reducible apply not_st) | (with_reducible apply tru_st) | (with_reducible apply sl_st) | (with_reducible apply part_st) | (with_reducible exact nop_st) | (with_reducible apply app_st) | walk_at "lf")
local macro_rules | `(tactic| walk_at "e") => `(tactic| repeat' walk_at "e1")
local macro_rules | `(tactic| walk_at "ga") => `(tactic| ((with_reducible apply go_asg); (· walk_at "e")))
local macro_rules | `(tactic| walk_at "gd") => `(tactic| ((with_reducible apply go_drop); (· walk_at "e")))
local macro_rules | `(tactic| walk_at "gf") => `(tactic| ((with_reducible apply goF); (· walk_at "e")))
local macro_rules | `(tactic| walk_at "g") => `(tactic| first | walk_at "ga" | walk_at "gd" | walk_at "gf")
/-! ### an item at a drawn place -/
theorem pick_ix {ma mb : Ev D} {env : Env'} {st : Store} {xs : List D} {i : Int} (n : Nat) (h1 : ma env st = .ok (.lst xs) st) (h2 : mb env st = .ok (.int (i % (n : Int))) st) (hn : xs.length = n) (h0 : 0 < n) : ∃ d ∈ xs, mBin gIx ma mb env st = .ok d st := by
  have hr := Int.emod_nonneg i (b := (n : Int)) (by omega)
  have hr2 := Int.emod_lt_of_pos i (b := (n : Int)) (by omega)
  have hlt : (i % (n : Int)).toNat < xs.length := by omega
  refine ⟨xs[(i % (n : Int)).toNat], List.getElem_mem hlt, bin_eq h1 h2 ?_⟩
  have e := atI_emod xs i n h0
  rw [List.getElem?_eq_getElem hlt] at e
  show (asL st (.lst xs)).bind (fun xs => atI xs (i % (n : Int))) = _
  exact e
theorem env_ints (n : Nat) (ns : List Int) : refsBb n (.fix (ns.map D.int)) = true := by
  have : refsBbs n (ns.map D.int) = true := refsBbs_map D.int fun _ _ => by simp only [refsBb]
  simp only [refsBb, this]

end K10
namespace K10
open PySem PySem.Spec L2 Mr
local macro_rules | `(tactic| walk_at "ev") => `(tactic| simp only [sRet, sIf, sAsg, sDrop, sPar, sNil, sRaise, mBin, mCall, mCallD, mCons, mNil, mC, mVar, mTup, mLst, mIfE, mAnd, mOr, mNot, mAndT, mOrT, mNotT, mTest, mTru, mChain, mMt, rcv, pureM, mSl, mPart, mNoP, mNeg, setT, setAll, startE, Res.ok_bind, Res.ex_bind, Res.no_bind, Res.of_some, Res.of_none, Res.ok_nox, asB, tru, List.map_cons, List.map_nil, List.length_cons, List.length_nil, List.replicate, List.cons_append, List.nil_append, List.getElem?_cons_zero, List.getElem?_cons_succ, List.set_cons_zero, List.set_cons_succ, Nat.reduceAdd, Nat.reduceSub, Nat.reduceEqDiff, Nat.reduceLeDiff, if_true, if_false, and_self, Bool.false_eq_true, Bool.not_true, Bool.not_false, Option.map_some, Option.bind_some, asL, asLs, asT, wipeE, gIx, gSl, atI_0, atI_1, atI_2, atI_3, atI_n1, cut_d1, cut_t2, cLen, cTuple, cList, cAll, cAny, cIsi, tyD, isiT, gSplit, gLt, gLe, gGt, gGe, gIsn, gIs, isD, eq_int, eq_str, beq_two, notSw2, List.drop_succ_cons, List.drop_zero, size_eq, Nat.zero_le, true_and, and_true, decide_true, decide_false])
local macro_rules | `(tactic| walk_at "evh") => `(tactic| simp only [sRet, sIf, sAsg, sDrop, sPar, sNil, sRaise, mBin, mCall, mCallD, mCons, mNil, mC, mVar, mTup, mLst, mIfE, mAnd, mOr, mNot, mAndT, mOrT, mNotT, mTest, mTru, mChain, mMt, rcv, pureM, mSl, mPart, mNoP, mNeg, setT, setAll, startE, Res.ok_bind, Res.ex_bind, Res.no_bind, Res.of_some, Res.of_none, Res.ok_nox, asB, tru, List.map_cons, List.map_nil, List.length_cons, List.length_nil, List.replicate, List.cons_append, List.nil_append, List.getElem?_cons_zero, List.getElem?_cons_succ, List.set_cons_zero, List.set_cons_succ, Nat.reduceAdd, Nat.reduceSub, Nat.reduceEqDiff, Nat.reduceLeDiff, if_true, if_false, and_self, Bool.false_eq_true, Bool.not_true, Bool.not_false, Option.map_some, Option.bind_some, asL, asLs, asT, wipeE, gIx, gSl, atI_0, atI_1, atI_2, atI_3, atI_n1, cut_d1, cut_t2, cLen, cTuple, cList, cAll, cAny, cIsi, tyD, isiT, gSplit, gLt, gLe, gGt, gGe, gIsn, gIs, isD, eq_int, eq_str, beq_two, notSw2, List.drop_succ_cons, List.drop_zero, size_eq, Nat.zero_le, true_and, and_true, decide_true, decide_false, *])
local macro_rules | `(tactic| walk_at "nx") => `(tactic| (first | (apply fin_nx; (case h => (walk_at "evh"; try rfl))) | (apply seq_nx; (case h => (walk_at "evh"; try rfl)))))
local macro_rules | `(tactic| walk_at "x") => `(tactic| fail)
local macro_rules | `(tactic| walk_at "lf") => `(tactic| first | walk_at "x" | with_reducible rfl | (with_reducible exact gMod_ok (by first | decide | omega)) | (with_reducible exact gDiv_ok' (by first | decide | omega) (by first | decide | omega)) | (with_reducible exact eq_int _ _ _) | rfl)
local macro_rules | `(tactic| walk_at "e1") => `(tactic| first | with_reducible assumption | walk_at "x" | (with_reducible apply bin_st) | (with_reducible exact nil_st) | (with_reducible apply cons_st) | (with_reducible apply test_eq) | (with_reducible apply callB_of) | (with_reducible apply callD_st) | (with_reducible apply fld_st) | (with_reducible apply meth_st) | (with_reducible apply tup_of) | (with_reducible apply lst_of) | (with_reducible apply toldM_ok) | (with_reducible apply not_st) | (with_reducible apply tru_st) | (with_reducible apply sl_st) | (with_reducible apply part_st) | (with_reducible exact nop_st) | (with_reducible apply app_st) | walk_at "lf")
local macro_rules | `(tactic| walk_at "e") => `(tactic| repeat' walk_at "e1")
local macro_rules | `(tactic| walk_at "ga") => `(tactic| ((with_reducible apply go_asg); (· walk_at "e")))
local macro_rules | `(tactic| walk_at "gd") => `(tactic| ((with_reducible apply go_drop); (· walk_at "e")))
local macro_rules | `(tactic| walk_at "gf") => `(tactic| ((with_reducible apply goF); (· walk_at "e")))
local macro_rules | `(tactic| walk_at "g") => `(tactic| first | walk_at "ga" | walk_at "gd" | walk_at "gf")
/-! ### k10: texts of wishes read -/
theorem read_gen {α : Type} (x : Str) (L : List α) (f : α → Str) (v : α → Pt × Int) (hlen : x.length ≤ 16777214) (hstr : (Txt.stripChars x (" " : Str) == ("" : Str)) = L.isEmpty) (hspl : L ≠ [] → Txt.split x ("," : Str) = L.map f)
    (hf : ∀ b ∈ L, (f b).length ≤ 16777214 ∧ (Txt.split (f b) (" " : Str)).filter (fun x => !(x == ("" : Str))) = [ptT (v b).1, dgT (v b).2]) (h : okWs (L.map v)) (st : Store) : m_read_wishes [.str x] st = .ok (wsD (L.map v)) st := by
  have hn := need_wishes_ok (L.map v) h
  obtain ⟨h8, hl⟩ := h
  rw [List.length_map] at h8
  have key : fin (b_read_wishes (startE 5 [.str x]) st) = .ok (wsD (L.map v)) (st ++ [.lst ((L.map v).map wiD)]) := by
    unfold b_read_wishes
    refine fin_nx (env' := [some (.str x), some (.ref st.length), none, none, none]) (st' := st ++ [.lst []]) (by rfl) ?_
    have hs : mIL (mIfE (mTest (mBin gNe (mMt "str" (pureM gStripC) (mVar 0) (mCons (mC (.str " ")) mNil)) (mC (.str "")))) (mMt "str" (pureM gSplit) (mVar 0) (mCons (mC (.str ",")) mNil)) (mLst mNil)) [some (.str x), some (.ref st.length), none, none, none] (st ++ [.lst []]) = .ok ⟨L.map fun b => .str (f b), yes⟩ (st ++ [.lst []]) := by
      have hst : mMt "str" (pureM gStripC) (mVar 0) (mCons (mC (.str " ")) mNil) [some (.str x), some (.ref st.length), none, none, none] (st ++ [.lst []]) = .ok (.str (Txt.stripChars x (" " : Str))) (st ++ [.lst []]) := by
        have hle : x.length ≤ sizeLine := by rw [size_eq]; omega
        have e : gStripC (st ++ [.lst []]) (.str x) [.str " "] = some (.str (Txt.stripChars x (" " : Str))) := by
          show (if x.length ≤ sizeLine then some (D.str (Txt.stripChars x (" " : Str))) else none) = _
          rw [if_pos hle]
        simp only [mMt, mVar, mC, mCons, mNil, List.getElem?_cons_zero, Res.ok_bind, rcv, pureM, e, if_true, Option.map_some]
      cases hc : L with
      | nil =>
        have hb : (Txt.stripChars x (" " : Str) == ("" : Str)) = true := by rw [hstr, hc]; rfl
        simp only [mIL, mIfE, mTest, mBin, hst, mC, Res.ok_bind, ne_str, Res.of_some, asB, hb, Bool.not_true, Bool.false_eq_true, if_false, mLst, mNil, srcL]
        rfl
      | cons p r =>
        rw [← hc]
        have hne : L ≠ [] := by rw [hc]; simp
        have hb : (Txt.stripChars x (" " : Str) == ("" : Str)) = false := by rw [hstr, hc]; rfl
        clear hc
        have e1 := hspl hne
        have h0 : ((("," : Str)).length == 0) = false := by decide +kernel
        have hsp : mMt "str" (pureM gSplit) (mVar 0) (mCons (mC (.str ",")) mNil) [some (.str x), some (.ref st.length), none, none, none] (st ++ [.lst []]) = .ok (.lst ((L.map f).map D.str)) (st ++ [.lst []]) := by
          walk_at "evh"
        simp only [mIL, mIfE, mTest, mBin, hst, hsp, mC, Res.ok_bind, ne_str, Res.of_some, asB, hb, Bool.not_false, if_true, srcL, asL, Option.map_some]
        rw [List.map_map]
        rfl
    obtain ⟨env', st', h1, d, hd, h2, b2, b3, h3⟩ := forL_gen (chk := yes) (tg := .one 2) (body := w_read_wishes_1) (fun b : α => D.str (f b))
      (fun r env s => ∃ d : List α, d ++ r = L ∧ s = st ++ [.lst (d.map fun b => wiD (v b))] ∧ ∃ b2 b3, env = [some (.str x), some (.ref st.length), b2, b3, none])
      (fun b r env s hI => by
        obtain ⟨d, hd, rfl, b2, b3, rfl⟩ := hI
        have hdl : d.length ≤ 8 := by
          have := congrArg List.length hd
          rw [List.length_append] at this
          omega
        obtain ⟨hP, hz, h9⟩ := hl (v b) (List.mem_map.mpr ⟨b, by rw [← hd]; simp, rfl⟩)
        obtain ⟨hpl, hfil⟩ := hf b (by rw [← hd]; simp)
        generalize hpc : Txt.split (f b) (" " : Str) = pcs at hfil
        generalize hs : d.map (fun b => wiD (v b)) = xs
        have hxl : xs.length ≤ 1000 := by rw [← hs, List.length_map]; omega
        have e1 := hpc
        have h0 : (((" " : Str)).length == 0) = false := by decide +kernel
        have hsp : mMt "str" (pureM gSplit) (mVar 2) (mCons (mC (.str " ")) mNil) [some (.str x), some (.ref st.length), some (.str (f b)), b3, none] (st ++ [.lst xs]) = .ok (.lst (pcs.map D.str)) (st ++ [.lst xs]) := by
          walk_at "evh"
        have q1 : q_read_wishes_1 [some (.str x), some (.ref st.length), some (.str (f b)), b3, none] (st ++ [.lst xs]) = .ok (.lst [.str (ptT (v b).1), .str (dgT (v b).2)]) (st ++ [.lst xs]) := by
          refine (mComp_eq (s := ⟨pcs.map D.str, yes⟩) (ds := (pcs.filter fun x => !(x == ("" : Str))).map D.str) ?_ ?_ ?_).trans ?_
          · simp only [mIL, hsp, Res.ok_bind, srcL, asL, Option.map_some, Res.of_some]
            rfl
          · refine compL_filter D.str (fun x => !(x == ("" : Str))) D.str rfl pcs fun x hx => ⟨_, rfl, ?_, fun _ => ?_⟩
            · walk_at "ev"
              simp only [ne_str, Res.of_some, Res.ok_bind, asB]
            · rfl
          · rw [hfil]; exact (by decide : 2 ≤ 16777216)
          · rw [hfil]; rfl
        have nt := need_true (st ++ [.lst xs])
        have dl := dg_len hz h9
        obtain ⟨_, di, din⟩ := dg_ok hz h9
        have gi : gIn (st ++ [.lst xs]) (.str (dgT (v b).2)) (.str "0123456789") = some (.bl true) := by
          show (some (subIn (dgT (v b).2) ("0123456789" : Str))).map D.bl = _
          rw [din]; rfl
        have gl : cLen (st ++ [.lst xs]) [.str (dgT (v b).2)] = some (.int 1) := by
          show (if (dgT (v b).2).length ≤ sizeLine then some (D.int (dgT (v b).2).length) else none) = _
          rw [dl, if_pos (by rw [size_eq]; omega)]; rfl
        have gc : cInt (st ++ [.lst xs]) [.str (dgT (v b).2)] = some (.int (v b).2) := by
          show (if (dgT (v b).2).length ≤ 640 then (PySem.intText? (dgT (v b).2)).map D.int else none) = _
          rw [dl, if_pos (by omega), di]; rfl
        refine ⟨rfl, [some (.str x), some (.ref st.length), some (.str (f b)), b3, none], [some (.str x), some (.ref st.length), some (.str (f b)), some (.lst [.str (ptT (v b).1), .str (dgT (v b).2)]), none], st ++ [.lst (xs ++ [wiD (v b)])], rfl, ?_, d ++ [b], by simp [hd], by simp [hs], _, _, rfl⟩
        unfold w_read_wishes_1
        refine seq_nx (env' := [some (.str x), some (.ref st.length), some (.str (f b)), some (.lst [.str (ptT (v b).1), .str (dgT (v b).2)]), none]) (st' := st ++ [.lst xs]) ?_ ?_
        · unfold sAsg
          rw [q1]
          rfl
        refine seq_nx (env' := [some (.str x), some (.ref st.length), some (.str (f b)), some (.lst [.str (ptT (v b).1), .str (dgT (v b).2)]), none]) (st' := st ++ [.lst xs]) ?_ ?_
        · refine drop_nx (d := .non) ((call_1 (d := .bl true) rfl ?_).trans nt)
          refine mAnd_bl (a := true) (b := true) (by rfl) fun _ => mAnd_bl (a := true) (b := true) ?_ fun _ => ?_
          · simp only [mBin, mCall, mCons, mNil, mVar, mC, List.getElem?_cons_zero, List.getElem?_cons_succ, Res.ok_bind, gIx, asL, Option.bind_some, atI_1, Res.of_some, gl]
            rfl
          · simp only [mBin, mCall, mCons, mNil, mVar, mC, List.getElem?_cons_zero, List.getElem?_cons_succ, Res.ok_bind, gIx, asL, Option.bind_some, atI_1, Res.of_some, gi]
        · refine drop_nx (mt_append rfl ?_ hxl)
          simp only [mTup, mBin, mCall, mCons, mNil, mVar, mC, List.getElem?_cons_zero, List.getElem?_cons_succ, Res.ok_bind, gIx, asL, Option.bind_some, atI_0, atI_1, Res.of_some, gc]
          rfl)
      (fun _ _ _ => rfl) L [some (.str x), some (.ref st.length), none, none, none] (st ++ [.lst []]) ⟨[], rfl, rfl, none, none, rfl⟩
    rw [List.append_nil] at hd
    have hd' := hd.symm
    subst hd' h2 h3
    have hx : L.map (fun b => wiD (v b)) = (L.map v).map wiD := by
      rw [List.map_map]
      rfl
    rw [hx] at h1
    refine fin_nx ((sFor_eq hs).trans h1) ?_
    have ht : mCall cTuple (mCons (mVar 1) mNil) [some (.str x), some (.ref st.length), b2, b3, none] (st ++ [.lst ((L.map v).map wiD)]) = .ok (wsD (L.map v)) (st ++ [.lst ((L.map v).map wiD)]) := by
      simp only [mCall, mCons, mNil, mVar, List.getElem?_cons_zero, List.getElem?_cons_succ, Res.ok_bind, cTuple, asL, get_last, Option.bind_some, notSw_ws, if_true, Res.of_some]
      rfl
    refine fin_nx (drop_nx (d := .non) ((call_1 rfl ht).trans (hn _))) ?_
    exact fin_ret ht
  exact def_finC key (by simp only [wsD, noRef]; exact noRefs_map wiD (fun a => rfl) _)

end K10
namespace K10
open PySem PySem.Spec L2 Mr
local macro_rules | `(tactic| walk_at "ev") => `(tactic| simp only [sRet, sIf, sAsg, sDrop, sPar, sNil, sRaise, mBin, mCall, mCallD, mCons, mNil, mC, mVar, mTup, mLst, mIfE, mAnd, mOr, mNot, mAndT, mOrT, mNotT, mTest, mTru, mChain, mMt, rcv, pureM, mSl, mPart, mNoP, mNeg, setT, setAll, startE, Res.ok_bind, Res.ex_bind, Res.no_bind, Res.of_some, Res.of_none, Res.ok_nox, asB, tru, List.map_cons, List.map_nil, List.length_cons, List.length_nil, List.replicate, List.cons_append, List.nil_append, List.getElem?_cons_zero, List.getElem?_cons_succ, List.set_cons_zero, List.set_cons_succ, Nat.reduceAdd, Nat.reduceSub, Nat.reduceEqDiff, Nat.reduceLeDiff, if_true, if_false, and_self, Bool.false_eq_true, Bool.not_true, Bool.not_false, Option.map_some, Option.bind_some, asL, asLs, asT, wipeE, gIx, gSl, atI_0, atI_1, atI_2, atI_3, atI_n1, cut_d1, cut_t2, cLen, cTuple, cList, cAll, cAny, cIsi, tyD, isiT, gSplit, gLt, gLe, gGt, gGe, gIsn, gIs, isD, eq_int, eq_str, beq_two, notSw2, List.drop_succ_cons, List.drop_zero, size_eq, Nat.zero_le, true_and, and_true, decide_true, decide_false])
local macro_rules | `(tactic| walk_at "evh") => `(tactic| simp only [sRet, sIf, sAsg, sDrop, sPar, sNil, sRaise, mBin, mCall, mCallD, mCons, mNil, mC, mVar, mTup, mLst, mIfE, mAnd, mOr, mNot, mAndT, mOrT, mNotT, mTest, mTru, mChain, mMt, rcv, pureM, mSl, mPart, mNoP, mNeg, setT, setAll, startE, Res.ok_bind, Res.ex_bind, Res.no_bind, Res.of_some, Res.of_none, Res.ok_nox, asB, tru, List.map_cons, List.map_nil, List.length_cons, List.length_nil, List.replicate, List.cons_append, List.nil_append, List.getElem?_cons_zero, List.getElem?_cons_succ, List.set_cons_zero, List.set_cons_succ, Nat.reduceAdd, Nat.reduceSub, Nat.reduceEqDiff, Nat.reduceLeDiff, if_true, if_false, and_self, Bool.false_eq_true, Bool.not_true, Bool.not_false, Option.map_some, Option.bind_some, asL, asLs, asT, wipeE, gIx, gSl, atI_0, atI_1, atI_2, atI_3, atI_n1, cut_d1, cut_t2, cLen, cTuple, cList, cAll, cAny, cIsi, tyD, isiT, gSplit, gLt, gLe, gGt, gGe, gIsn, gIs, isD, eq_int, eq_str, beq_two, notSw2, List.drop_succ_cons, List.drop_zero, size_eq, Nat.zero_le, true_and, and_true, decide_true, decide_false, *])
local macro_rules | `(tactic| walk_at "nx") => `(tactic| (first | (apply fin_nx; (case h => (walk_at "evh"; try rfl))) | (apply seq_nx; (case h => (walk_at "evh"; try rfl)))))
local macro_rules | `(tactic| walk_at "x") => `(tactic| fail)
local macro_rules | `(tactic| walk_at "lf") => `(tactic| first | walk_at "x" | with_reducible rfl | (with_reducible exact gMod_ok (by first | decide | omega)) | (with_reducible exact gDiv_ok' (by first | decide | omega) (by first | decide | omega)) | (with_reducible exact eq_int _ _ _) | rfl)
local macro_rules | `(tactic| walk_at "e1") => `(tactic| first | with_reducible assumption | walk_at "x" | (with_reducible apply bin_st) | (with_reducible exact nil_st) | (with_reducible apply cons_st) | (with_reducible apply test_eq) | (with_reducible apply callB_of) | (with_reducible apply callD_st) | (with_reducible apply fld_st) | (with_reducible apply meth_st) | (with_reducible apply tup_of) | (with_reducible apply lst_of) | (with_reducible apply toldM_ok) | (with_reducible apply not_st) | (with_reducible apply tru_st) | (with_reducible apply sl_st) | (with_reducible apply part_st) | (with_reducible exact nop_st) | (with_reducible apply app_st) | walk_at "lf")
local macro_rules | `(tactic| walk_at "e") => `(tactic| repeat' walk_at "e1")
local macro_rules | `(tactic| walk_at "ga") => `(tactic| ((with_reducible apply go_asg); (· walk_at "e")))
local macro_rules | `(tactic| walk_at "gd") => `(tactic| ((with_reducible apply go_drop); (· walk_at "e")))
local macro_rules | `(tactic| walk_at "gf") => `(tactic| ((with_reducible apply goF); (· walk_at "e")))
local macro_rules | `(tactic| walk_at "g") => `(tactic| first | walk_at "ga" | walk_at "gd" | walk_at "gf")
/-! ### k10: texts of wishes with blanks put in (plain) -/
section
variable {c : Nat} {S z : List Nat}
open PySem.StrLaws
theorem replL_free : ∀ (p m : List Nat), c ∉ p → replL (c :: S) z (p ++ m) = p ++ replL (c :: S) z m
  | [], m, _ => rfl
  | a :: p, m, h => by
    have ha : a ≠ c := fun e => h (by simp [e])
    have ih := replL_free p m (fun e => h (List.mem_cons_of_mem _ e))
    rw [List.cons_append, replL_miss (by
      intro e
      rw [List.length_cons, List.take_succ_cons] at e
      exact ha (List.cons.inj e).1), ih]
    rfl
theorem replL_at (m : List Nat) : replL (c :: S) z ((c :: S) ++ m) = z ++ replL (c :: S) z m := by
  have e := replL_hit (y := c :: S) (z := z) (c := c) (r := S ++ m) (by simp) (by
    have : c :: (S ++ m) = (c :: S) ++ m := rfl
    rw [this, List.take_left' rfl])
  have e2 : (c :: (S ++ m)).drop (c :: S).length = m := by
    have : c :: (S ++ m) = (c :: S) ++ m := rfl
    rw [this, List.drop_left' rfl]
  rw [e2] at e
  exact e
theorem replL_join : ∀ ps : List (List Nat), (∀ p ∈ ps, c ∉ p) → replL (c :: S) z (TL.joinL (c :: S) ps) = TL.joinL z ps
  | [], _ => replL_nil
  | [p], h => by
    have := replL_free (S := S) (z := z) p [] (h p (by simp))
    rw [List.append_nil, replL_nil, List.append_nil] at this
    exact this
  | p :: q :: r, h => by
    have ih := replL_join (q :: r) (fun x hx => h x (List.mem_cons_of_mem _ hx))
    show replL (c :: S) z (p ++ ((c :: S) ++ TL.joinL (c :: S) (q :: r))) = p ++ (z ++ TL.joinL z (q :: r))
    rw [replL_free p _ (h p (by simp)), replL_at, ih]
def fm (l : List Nat) : List Nat := l.flatMap fun a => if a = 32 then [32, 32] else [a]
theorem fm_app (a b : List Nat) : fm (a ++ b) = fm a ++ fm b := by unfold fm; rw [List.flatMap_append]
theorem fm_free : ∀ l : List Nat, 32 ∉ l → fm l = l
  | [], _ => rfl
  | a :: r, h => by
    have ha : a ≠ 32 := fun e => h (by simp [e])
    have ih := fm_free r (fun e => h (List.mem_cons_of_mem _ e))
    show (if a = 32 then [32, 32] else [a]) ++ fm r = _
    rw [if_neg ha, ih]
    rfl
theorem replL_fm : ∀ l : List Nat, replL [32] [32, 32] l = fm l
  | [] => replL_nil
  | a :: r => by
    have ih := replL_fm r
    show _ = (if a = 32 then [32, 32] else [a]) ++ fm r
    by_cases ha : a = 32
    · subst ha
      have e := replL_hit (y := [32]) (z := [32, 32]) (c := 32) (r := r) (by simp) rfl
      rw [e, if_pos rfl]
      show [32, 32] ++ replL [32] [32, 32] r = _
      rw [ih]
    · rw [replL_miss (y := [32]) (z := [32, 32]) (c := a) (r := r) (fun e => ha (List.cons.inj (show [a] = [32] from e)).1), if_neg ha, ih]
      rfl
theorem fm_join (Z : List Nat) : ∀ ps : List (List Nat), fm (TL.joinL Z ps) = TL.joinL (fm Z) (ps.map fm)
  | [] => rfl
  | [p] => rfl
  | p :: q :: r => by
    have ih := fm_join Z (q :: r)
    show fm (p ++ (Z ++ TL.joinL Z (q :: r))) = fm p ++ (fm Z ++ TL.joinL (fm Z) ((q :: r).map fm))
    rw [fm_app, fm_app, ih]
end
def core (s : Nat) (p : Pt × Int) : List Nat := TL.tl (ptT p.1) ++ List.replicate s 32 ++ TL.tl (dgT p.2)
theorem core_1 (p : Pt × Int) : TL.tl (wrT p) = core 1 p := by
  unfold wrT core
  rw [TL.tl_append, TL.tl_append, tl_sp]
  rfl
section
variable {p : Pt × Int} (h : isPt p.1 = true) (h0 : 0 ≤ p.2) (h9 : p.2 ≤ 9)
include h h0 h9
theorem core_fm : fm (core 1 p) = core 2 p := by
  unfold core
  rw [fm_app, fm_app, fm_free _ (pt_none h isSm_sp (by decide) (by decide) (by decide) (by decide)), fm_free _ (dg_free h0 h9 (by decide))]
  rfl
theorem core_44 (s : Nat) : 44 ∉ core s p := by
  unfold core
  simp only [List.mem_append, not_or]
  exact ⟨⟨pt_none h isSm_co (by decide) (by decide) (by decide) (by decide), fun e => by
    have := List.eq_of_mem_replicate e
    cases this⟩, dg_free h0 h9 (by decide)⟩
end
theorem tl_cs : TL.tl (", " : Str) = [44, 32] := by decide +kernel
theorem tl_ss : TL.tl ("  " : Str) = [32, 32] := by decide +kernel
def blk (a b : Nat) : List Nat := List.replicate a 32 ++ 44 :: List.replicate b 32
theorem tl_wrP (l : List (Pt × Int)) : TL.tl (wrP l) = TL.joinL [44, 32] (l.map (core 1)) := by
  unfold wrP
  rw [TL.tl_join, tl_cs, List.map_map]
  congr 1
  exact List.map_congr_left fun p _ => core_1 p
theorem repl_tl (x y z : Str) (hy : 1 ≤ y.length) : TL.tl (Txt.replace x y z) = StrLaws.replL (TL.tl y) (TL.tl z) (TL.tl x) := StrLaws.replace_list hy
theorem first_tl (l : List (Pt × Int)) (hl : ∀ p ∈ l, isPt p.1 = true ∧ 0 ≤ p.2 ∧ p.2 ≤ 9) (z : Str) : TL.tl (Txt.replace (wrP l) ", " z) = TL.joinL (TL.tl z) (l.map (core 1)) := by
  rw [repl_tl _ _ _ (by decide +kernel), tl_cs, tl_wrP]
  refine replL_join _ fun x hx => ?_
  obtain ⟨p, hp, rfl⟩ := List.mem_map.mp hx
  obtain ⟨a, b, c⟩ := hl p hp
  exact core_44 a b c 1
def otherT (l : List (Pt × Int)) (z1 z2 : Str) : Str := Txt.replace (Txt.replace (wrP l) ", " z1) " " z2
theorem other_eq (l : List (Pt × Int)) (hl : ∀ p ∈ l, isPt p.1 = true ∧ 0 ≤ p.2 ∧ p.2 ≤ 9) (z1 z2 : Str) (h1 : z1 ∈ ([",", "  ,   ", " , "] : List Str)) (h2 : z2 ∈ ([" ", "  "] : List Str)) :
    ∃ a b s, a ≤ 6 ∧ b ≤ 6 ∧ 1 ≤ s ∧ s ≤ 2 ∧ TL.tl (otherT l z1 z2) = TL.joinL (blk a b) (l.map (core s)) := by
  have k1 : ∃ a b, a ≤ 3 ∧ b ≤ 3 ∧ TL.tl z1 = blk a b := by
    simp only [List.mem_cons, List.not_mem_nil, or_false] at h1
    rcases h1 with rfl | rfl | rfl
    · exact ⟨0, 0, by decide, by decide, by decide +kernel⟩
    · exact ⟨2, 3, by decide, by decide, by decide +kernel⟩
    · exact ⟨1, 1, by decide, by decide, by decide +kernel⟩
  obtain ⟨a, b, ha, hb, k1⟩ := k1
  have f := first_tl l hl z1
  unfold otherT
  simp only [List.mem_cons, List.not_mem_nil, or_false] at h2
  rcases h2 with rfl | rfl
  · rw [Txt.replace_self]
    exact ⟨a, b, 1, by omega, by omega, by decide, by decide, by rw [f, k1]⟩
  · refine ⟨2 * a, 2 * b, 2, by omega, by omega, by decide, by decide, ?_⟩
    rw [repl_tl _ _ _ (by decide +kernel), tl_sp, tl_ss, f, k1, replL_fm, fm_join, List.map_map]
    have e1 : fm (blk a b) = blk (2 * a) (2 * b) := by
      have r : ∀ n : Nat, fm (List.replicate n 32) = List.replicate (2 * n) 32 := by
        intro n
        induction n with
        | zero => rfl
        | succ n ih =>
          rw [List.replicate_succ, show 2 * (n + 1) = 2 * n + 1 + 1 by omega, List.replicate_succ, List.replicate_succ, ← ih]
          rfl
      unfold blk
      rw [fm_app, r, ← r b]
      rfl
    rw [e1]
    congr 1
    refine List.map_congr_left fun p hp => ?_
    obtain ⟨a, b, c⟩ := hl p hp
    exact core_fm a b c
/-! the text's parts -/
abbrev Pc := Nat × Nat × Nat × (Pt × Int)
def pw (a b s : Nat) : Nat → List (Pt × Int) → List Pc
  | _, [] => []
  | i, [p] => [(i, s, 1, p)]
  | i, p :: q :: r => (i, s, a, p) :: pw a b s b (q :: r)
def pS (x : Pc) : List Nat := List.replicate x.1 32 ++ core x.2.1 x.2.2.2 ++ List.replicate x.2.2.1 32
theorem pw_v (a b s : Nat) : ∀ (l : List (Pt × Int)) (i : Nat), (pw a b s i l).map (fun x => x.2.2.2) = l
  | [], _ => rfl
  | [p], _ => rfl
  | p :: q :: r, i => by
    show p :: (pw a b s b (q :: r)).map (fun x => x.2.2.2) = _
    rw [pw_v a b s (q :: r) b]
theorem pw_mem {a b s : Nat} (ha : a ≤ 6) (hb : b ≤ 6) : ∀ (l : List (Pt × Int)) (i : Nat), i ≤ 6 → ∀ x ∈ pw a b s i l, x.1 ≤ 6 ∧ x.2.1 = s ∧ x.2.2.1 ≤ 6 ∧ x.2.2.2 ∈ l
  | [], _, _, x, h => by cases h
  | [p], i, hi, x, h => by
    simp only [pw, List.mem_singleton] at h
    subst h
    exact ⟨hi, rfl, by show 1 ≤ 6; decide, by simp⟩
  | p :: q :: r, i, hi, x, h => by
    rcases List.mem_cons.mp h with rfl | h
    · exact ⟨hi, rfl, ha, by simp⟩
    · obtain ⟨h1, h2, h3, h4⟩ := pw_mem ha hb (q :: r) b hb x h
      exact ⟨h1, h2, h3, List.mem_cons_of_mem _ h4⟩
theorem pw_join (a b s : Nat) : ∀ (l : List (Pt × Int)) (i : Nat), l ≠ [] → TL.joinL [44] ((pw a b s i l).map pS) = List.replicate i 32 ++ TL.joinL (blk a b) (l.map (core s)) ++ [32]
  | [], _, h => absurd rfl h
  | [p], i, _ => rfl
  | p :: q :: r, i, _ => by
    have ih := pw_join a b s (q :: r) b (by simp)
    obtain ⟨y, t, ey⟩ : ∃ y t, pw a b s b (q :: r) = y :: t := by
      cases r <;> exact ⟨_, _, rfl⟩
    show TL.joinL [44] (pS (i, s, a, p) :: (pw a b s b (q :: r)).map pS) = _
    rw [ey] at ih ⊢
    show pS (i, s, a, p) ++ ([44] ++ TL.joinL [44] ((y :: t).map pS)) = List.replicate i 32 ++ (core s p ++ (blk a b ++ TL.joinL (blk a b) ((q :: r).map (core s)))) ++ [32]
    rw [ih]
    unfold pS blk
    simp only [List.append_assoc, List.cons_append, List.nil_append]
section
theorem jl_lead (q : List Nat) (r : List (List Nat)) : ∀ i : Nat, TL.joinL [32] (List.replicate i [] ++ q :: r) = List.replicate i 32 ++ TL.joinL [32] (q :: r)
  | 0 => rfl
  | i + 1 => by
    have ih := jl_lead q r i
    rw [List.replicate_succ, List.cons_append]
    obtain ⟨y, t, ey⟩ : ∃ y t, List.replicate i ([] : List Nat) ++ q :: r = y :: t := by cases i <;> exact ⟨_, _, rfl⟩
    rw [ey] at ih ⊢
    show [] ++ ([32] ++ TL.joinL [32] (y :: t)) = _
    rw [ih]
    rfl
theorem jl_mid (x q : List Nat) (r : List (List Nat)) (k : Nat) : TL.joinL [32] (x :: (List.replicate k [] ++ q :: r)) = x ++ (List.replicate (k + 1) 32 ++ TL.joinL [32] (q :: r)) := by
  have ih := jl_lead q r k
  obtain ⟨y, t, ey⟩ : ∃ y t, List.replicate k ([] : List Nat) ++ q :: r = y :: t := by cases k <;> exact ⟨_, _, rfl⟩
  rw [ey] at ih ⊢
  show x ++ ([32] ++ TL.joinL [32] (y :: t)) = _
  rw [ih, List.replicate_succ]
  rfl
theorem jl_tail : ∀ (e : Nat) (q : List Nat), TL.joinL [32] (q :: List.replicate e []) = q ++ List.replicate e 32
  | 0, q => by show q = q ++ []; rw [List.append_nil]
  | e + 1, q => by
    have ih := jl_tail e []
    rw [List.replicate_succ]
    show q ++ ([32] ++ TL.joinL [32] ([] :: List.replicate e [])) = _
    rw [ih]
    rfl
end
def bits (x : Pc) : List Str := List.replicate x.1 ("" : Str) ++ ptT x.2.2.2.1 :: (List.replicate (x.2.1 - 1) ("" : Str) ++ dgT x.2.2.2.2 :: List.replicate x.2.2.1 ("" : Str))
theorem tl_e : TL.tl ("" : Str) = [] := by decide +kernel
theorem bits_tl (x : Pc) (hs : 1 ≤ x.2.1) : TL.joinL [32] ((bits x).map TL.tl) = pS x := by
  unfold bits pS core
  simp only [List.map_append, List.map_cons, List.map_replicate, tl_e]
  rw [jl_lead, jl_mid, jl_tail, show x.2.1 - 1 + 1 = x.2.1 by omega]
  simp only [List.append_assoc]
theorem bits_filter (x : Pc) (h1 : ptT x.2.2.2.1 ≠ ("" : Str)) (h2 : dgT x.2.2.2.2 ≠ ("" : Str)) : (bits x).filter (fun y => !(y == ("" : Str))) = [ptT x.2.2.2.1, dgT x.2.2.2.2] := by
  have r : ∀ n : Nat, (List.replicate n ("" : Str)).filter (fun y => !(y == ("" : Str))) = [] := by
    intro n
    rw [List.filter_eq_nil_iff]
    intro y hy
    rw [List.eq_of_mem_replicate hy]
    simp
  unfold bits
  rw [List.filter_append, r, List.filter_cons, if_pos (by simp [h1]), List.filter_append, r, List.filter_cons, if_pos (by simp [h2]), r]
  rfl
theorem split_bits (x : Pc) (h : isPt x.2.2.2.1 = true) (h0 : 0 ≤ x.2.2.2.2) (h9 : x.2.2.2.2 ≤ 9) (hs : 1 ≤ x.2.1) : Txt.split (sS (pS x)) (" " : Str) = bits x := by
  have e := TL.split_join (y := (" " : Str)) (s := 32) (S := []) tl_sp (by decide +kernel) (parts := bits x) (by unfold bits; simp) (fun y hy => by
    unfold bits at hy
    simp only [List.mem_append, List.mem_cons] at hy
    have em : ∀ n : Nat, y ∈ List.replicate n ("" : Str) → 32 ∉ TL.tl y := fun n hn => by
      rw [List.eq_of_mem_replicate hn, tl_e]; simp
    rcases hy with hy | rfl | hy | rfl | hy
    · exact em _ hy
    · exact pt_none h isSm_sp (by decide) (by decide) (by decide) (by decide)
    · exact em _ hy
    · exact dg_free h0 h9 (by decide)
    · exact em _ hy)
  rw [TL.join_eq] at e
  refine Eq.trans (congrArg (fun z => Txt.split z (" " : Str)) (TL.ext_tl ?_)) e
  rw [sS_tl, TL.tl_join, tl_sp, bits_tl x hs]
theorem tw_lt {p : Nat → Bool} : ∀ {l : List Nat}, (∃ c ∈ l, p c = false) → (l.takeWhile p).length < l.length
  | [], ⟨c, h, _⟩ => by cases h
  | a :: r, ⟨c, h, hc⟩ => by
    rw [List.takeWhile_cons]
    split
    · rename_i ha
      rcases List.mem_cons.mp h with rfl | h
      · rw [hc] at ha; cases ha
      · have := tw_lt (l := r) ⟨c, h, hc⟩
        simpa using this
    · simp
theorem tw_ex {p : Nat → Bool} : ∀ {l : List Nat}, (∃ c ∈ l, p c = false) → ∃ c ∈ l.drop (l.takeWhile p).length, p c = false
  | [], ⟨c, h, _⟩ => by cases h
  | a :: r, ⟨c, h, hc⟩ => by
    rw [List.takeWhile_cons]
    split
    · rename_i ha
      rcases List.mem_cons.mp h with rfl | h
      · rw [hc] at ha; cases ha
      · exact tw_ex (l := r) ⟨c, h, hc⟩
    · exact ⟨c, h, hc⟩
theorem strip_ne {x : Str} {c : Nat} (h : c ∈ TL.tl x) (hc : c ≠ 32) : (Txt.stripChars x (" " : Str) == ("" : Str)) = false := by
  have hp : (" " : Str).cps.contains c = false := by
    have : (" " : Str).cps = #[32] := by decide +kernel
    rw [this]
    simp [hc]
  have h1 : ∃ c ∈ x.cps.toList, (" " : Str).cps.contains c = false := ⟨c, h, hp⟩
  have h2 := tw_ex h1
  obtain ⟨d, hd1, hd2⟩ := h2
  have h3 := tw_lt (l := (x.cps.toList.drop (x.cps.toList.takeWhile (" " : Str).cps.contains).length).reverse) ⟨d, by rw [List.mem_reverse]; exact hd1, hd2⟩
  rw [List.length_reverse, List.length_drop] at h3
  have hx : x.cps.toList.length = x.length := by simp [Str.length]
  rw [hx] at h3
  refine beq_eq_false_iff_ne.mpr fun e => ?_
  have e2 := congrArg (fun y : Str => (TL.tl y).length) e
  rw [tl_e] at e2
  unfold Txt.stripChars Txt.stripBy at e2
  split at e2
  · have : (TL.tl x).length = 0 := e2
    rw [List.length_eq_zero_iff] at this
    rw [this] at h
    cases h
  · unfold PySem.stripped PySem.stripLo PySem.stripHi at e2
    simp only [if_true] at e2
    have hT : ∀ y : Str, TL.tl y = y.cps.toList := fun _ => rfl
    have e3 := e2
    rw [hT] at e3
    rw [StrLaws.strSub_toList, List.length_take, List.length_drop, hx] at e3
    have e4 : min (x.length - ((x.cps.toList.drop (x.cps.toList.takeWhile (" " : Str).cps.contains).length).reverse.takeWhile (" " : Str).cps.contains).length - (x.cps.toList.takeWhile (" " : Str).cps.contains).length) (x.length - (x.cps.toList.takeWhile (" " : Str).cps.contains).length) = 0 := e3
    omega
theorem jl_len (Z : List Nat) (C : Nat) : ∀ ps : List (List Nat), (∀ p ∈ ps, p.length ≤ C) → (TL.joinL Z ps).length ≤ ps.length * (C + Z.length)
  | [], _ => Nat.zero_le _
  | [p], h => by
    have := h p (by simp)
    show p.length ≤ 1 * _
    omega
  | p :: q :: r, h => by
    have h1 := h p (by simp)
    have h2 := jl_len Z C (q :: r) fun x hx => h x (List.mem_cons_of_mem _ hx)
    show (p ++ (Z ++ TL.joinL Z (q :: r))).length ≤ _
    rw [List.length_append, List.length_append, List.length_cons, Nat.succ_mul]
    omega
theorem core_len {p : Pt × Int} (h : isPt p.1 = true) (h0 : 0 ≤ p.2) (h9 : p.2 ≤ 9) (s : Nat) : (core s p).length ≤ 101 + s := by
  have h1 := ptT_len h
  have h2 := dg_len h0 h9
  rw [tl_len] at h1 h2
  unfold core
  rw [List.length_append, List.length_append, List.length_replicate]
  omega
theorem blk_len (a b : Nat) : (blk a b).length = a + b + 1 := by
  unfold blk
  rw [List.length_append, List.length_cons, List.length_replicate, List.length_replicate]
  omega
theorem text_tl {x : Str} {a b s : Nat} {l : List (Pt × Int)} (hl : l ≠ []) (h : TL.tl x = TL.joinL (blk a b) (l.map (core s))) : TL.tl (("  " : Str) ++ x ++ (" " : Str)) = TL.joinL [44] ((pw a b s 2 l).map pS) := by
  rw [pw_join a b s l 2 hl, TL.tl_append, TL.tl_append, h, tl_ss, tl_sp]
  rfl
theorem blank3 {x : Str} (h : TL.tl x = []) : (Txt.stripChars (("  " : Str) ++ x ++ (" " : Str)) (" " : Str) == ("" : Str)) = true := by
  rw [tl_nil h]
  decide +kernel
/-- what the law reads, is what was written -/
theorem read_other (l : List (Pt × Int)) (h : okWs l) (z1 z2 : Str) (h1 : z1 ∈ ([",", "  ,   ", " , "] : List Str)) (h2 : z2 ∈ ([" ", "  "] : List Str)) (st : Store) : m_read_wishes [.str (("  " : Str) ++ otherT l z1 z2 ++ (" " : Str))] st = .ok (wsD l) st := by
  obtain ⟨a, b, s, ha, hb, hs1, hs2, ho⟩ := other_eq l h.2 z1 z2 h1 h2
  generalize otherT l z1 z2 = x at ho
  have hlen : x.length ≤ 928 := by
    rw [tl_len, ho]
    have := jl_len (blk a b) 103 (l.map (core s)) fun y hy => by
      obtain ⟨p, hp, rfl⟩ := List.mem_map.mp hy
      obtain ⟨k1, k2, k3⟩ := h.2 p hp
      have := core_len k1 k2 k3 s
      omega
    rw [List.length_map, blk_len] at this
    have h8 := h.1
    have h9 : l.length * (103 + (a + b + 1)) ≤ 8 * 116 := Nat.mul_le_mul h8 (by omega)
    omega
  have l2 : ("  " : Str).length = 2 := by decide +kernel
  have key := read_gen (("  " : Str) ++ x ++ (" " : Str)) (pw a b s 2 l) (fun x => sS (pS x)) (fun x => x.2.2.2) ?_ ?_ ?_ ?_ (by rw [pw_v]; exact h) st
  · rw [pw_v] at key
    exact key
  · rw [len_app, len_app, l2, len_sp]; omega
  · cases l with
    | nil => exact blank3 ho
    | cons p r =>
      have e : (pw a b s 2 (p :: r)).isEmpty = false := by cases r <;> rfl
      rw [e]
      obtain ⟨c, m, ec, hc⟩ := pt_head (h.2 p (by simp)).1
      refine strip_ne (c := c) ?_ hc
      rw [text_tl (by simp) ho, pw_join a b s _ 2 (by simp)]
      have hm : c ∈ core s p := by
        unfold core
        rw [ec]
        simp
      have hj : c ∈ TL.joinL (blk a b) ((p :: r).map (core s)) := by
        cases r with
        | nil => exact hm
        | cons q t =>
          show c ∈ core s p ++ _
          exact List.mem_append_left _ hm
      exact List.mem_append_left _ (List.mem_append_right _ hj)
  · intro hne
    have hl : l ≠ [] := fun e => by subst e; exact hne rfl
    have e := TL.split_join (y := ("," : Str)) (s := 44) (S := []) tl_co (by decide +kernel) (parts := (pw a b s 2 l).map fun x => sS (pS x)) (by simpa using hne) (fun y hy => by
      obtain ⟨q, hq, rfl⟩ := List.mem_map.mp hy
      obtain ⟨_, q2, _, q4⟩ := pw_mem ha hb l 2 (by omega) q hq
      obtain ⟨k1, k2, k3⟩ := h.2 _ q4
      have r44 : ∀ n : Nat, 44 ∉ List.replicate n 32 := fun n e => by
        have := List.eq_of_mem_replicate e
        cases this
      rw [sS_tl]
      unfold pS
      simp only [List.mem_append, not_or]
      exact ⟨⟨r44 _, core_44 k1 k2 k3 _⟩, r44 _⟩)
    rw [TL.join_eq] at e
    refine Eq.trans (congrArg (fun z => Txt.split z ("," : Str)) (TL.ext_tl ?_)) e
    rw [text_tl hl ho, TL.tl_join, tl_co, List.map_map]
    rfl
  · intro q hq
    obtain ⟨q1, q2, q3, q4⟩ := pw_mem ha hb l 2 (by omega) q hq
    obtain ⟨k1, k2, k3⟩ := h.2 _ q4
    refine ⟨?_, ?_⟩
    · rw [sS_len]
      have := core_len k1 k2 k3 q.2.1
      unfold pS
      rw [List.length_append, List.length_append, List.length_replicate, List.length_replicate]
      omega
    · have e : Txt.split (sS (pS q)) (" " : Str) = bits q := split_bits q k1 k2 k3 (by omega)
      obtain ⟨c, m, ec, _⟩ := pt_head k1
      obtain ⟨⟨d, ed, _⟩, _⟩ := dg_ok k2 k3
      show (Txt.split (sS (pS q)) (" " : Str)).filter _ = _
      rw [e, bits_filter q (ne_empty ec) (ne_empty ed)]

end K10
namespace K10
open PySem PySem.Spec L2 Mr
local macro_rules | `(tactic| walk_at "ev") => `(tactic| simp only [sRet, sIf, sAsg, sDrop, sPar, sNil, sRaise, mBin, mCall, mCallD, mCons, mNil, mC, mVar, mTup, mLst, mIfE, mAnd, mOr, mNot, mAndT, mOrT, mNotT, mTest, mTru, mChain, mMt, rcv, pureM, mSl, mPart, mNoP, mNeg, setT, setAll, startE, Res.ok_bind, Res.ex_bind, Res.no_bind, Res.of_some, Res.of_none, Res.ok_nox, asB, tru, List.map_cons, List.map_nil, List.length_cons, List.length_nil, List.replicate, List.cons_append, List.nil_append, List.getElem?_cons_zero, List.getElem?_cons_succ, List.set_cons_zero, List.set_cons_succ, Nat.reduceAdd, Nat.reduceSub, Nat.reduceEqDiff, Nat.reduceLeDiff, if_true, if_false, and_self, Bool.false_eq_true, Bool.not_true, Bool.not_false, Option.map_some, Option.bind_some, asL, asLs, asT, wipeE, gIx, gSl, atI_0, atI_1, atI_2, atI_3, atI_n1, cut_d1, cut_t2, cLen, cTuple, cList, cAll, cAny, cIsi, tyD, isiT, gSplit, gLt, gLe, gGt, gGe, gIsn, gIs, isD, eq_int, eq_str, beq_two, notSw2, List.drop_succ_cons, List.drop_zero, size_eq, Nat.zero_le, true_and, and_true, decide_true, decide_false])
local macro_rules | `(tactic| walk_at "evh") => `(tactic| simp only [sRet, sIf, sAsg, sDrop, sPar, sNil, sRaise, mBin, mCall, mCallD, mCons, mNil, mC, mVar, mTup, mLst, mIfE, mAnd, mOr, mNot, mAndT, mOrT, mNotT, mTest, mTru, mChain, mMt, rcv, pureM, mSl, mPart, mNoP, mNeg, setT, setAll, startE, Res.ok_bind, Res.ex_bind, Res.no_bind, Res.of_some, Res.of_none, Res.ok_nox, asB, tru, List.map_cons, List.map_nil, List.length_cons, List.length_nil, List.replicate, List.cons_append, List.nil_append, List.getElem?_cons_zero, List.getElem?_cons_succ, List.set_cons_zero, List.set_cons_succ, Nat.reduceAdd, Nat.reduceSub, Nat.reduceEqDiff, Nat.reduceLeDiff, if_true, if_false, and_self, Bool.false_eq_true, Bool.not_true, Bool.not_false, Option.map_some, Option.bind_some, asL, asLs, asT, wipeE, gIx, gSl, atI_0, atI_1, atI_2, atI_3, atI_n1, cut_d1, cut_t2, cLen, cTuple, cList, cAll, cAny, cIsi, tyD, isiT, gSplit, gLt, gLe, gGt, gGe, gIsn, gIs, isD, eq_int, eq_str, beq_two, notSw2, List.drop_succ_cons, List.drop_zero, size_eq, Nat.zero_le, true_and, and_true, decide_true, decide_false, *])
local macro_rules | `(tactic| walk_at "nx") => `(tactic| (first | (apply fin_nx; (case h => (walk_at "evh"; try rfl))) | (apply seq_nx; (case h => (walk_at "evh"; try rfl)))))
local macro_rules | `(tactic| walk_at "x") => `(tactic| fail)
local macro_rules | `(tactic| walk_at "lf") => `(tactic| first | walk_at "x" | with_reducible rfl | (with_reducible exact gMod_ok (by first | decide | omega)) | (with_reducible exact gDiv_ok' (by first | decide | omega) (by first | decide | omega)) | (with_reducible exact eq_int _ _ _) | rfl)
local macro_rules | `(tactic| walk_at "e1") => `(tactic| first | with_reducible assumption | walk_at "x" | (with_reducible apply bin_st) | (with_reducible exact nil_st) | (with_reducible apply cons_st) | (with_reducible apply test_eq) | (with_reducible apply callB_of) | (with_reducible apply callD_st) | (with_reducible apply fld_st) | (with_reducible apply meth_st) | (with_reducible apply tup_of) | (with_reducible apply lst_of) | (with_reducible apply toldM_ok) | (with_reducible apply not_st) | (with_reducible apply tru_st) | (with_reducible apply sl_st) | (with_reducible apply part_st) | (with_reducible exact nop_st) | (with_reducible apply app_st) | walk_at "lf")
local macro_rules | `(tactic| walk_at "e") => `(tactic| repeat' walk_at "e1")
local macro_rules | `(tactic| walk_at "ga") => `(tactic| ((with_reducible apply go_asg); (· walk_at "e")))
local macro_rules | `(tactic| walk_at "gd") => `(tactic| ((with_reducible apply go_drop); (· walk_at "e")))
local macro_rules | `(tactic| walk_at "gf") => `(tactic| ((with_reducible apply goF); (· walk_at "e")))
local macro_rules | `(tactic| walk_at "g") => `(tactic| first | walk_at "ga" | walk_at "gd" | walk_at "gf")
/-! ### k10: wishes written and read, the law's test -/
theorem wsD_ok60 {l : List (Pt × Int)} (h : okWs l) : okD 60 (wsD l) = true := by
  have h1 : okD 2 (wsD l) = true := by
    show okDs 1 (l.map wiD) = true
    exact okDs_map 1 wiD l fun p hp => by simp [wiD, okD, okDs, strB_pt (h.2 p hp).1]
  exact okD_mono (by decide) h1
theorem repl_ok {y : Str} {zs : List Str} {mo mi : Ev D} {env : Env'} {st : Store} {x z : Str} {d : D} (ho : mo env st = .ok (.str x) st) (hi : mi env st = .ok d st) (hz : ixZ zs d = some z) (hl : x.length ≤ 2000) (hzl : z.length ≤ 10) : mReplL y zs mo mi env st = .ok (.str (Txt.replace x y z)) st := by
  have hb : x.length + (x.length + 1) * z.length ≤ 16777216 := by
    have : (x.length + 1) * z.length ≤ 2001 * 10 := Nat.mul_le_mul (by omega) hzl
    omega
  unfold mReplL
  rw [ho, Res.ok_bind]
  dsimp only
  rw [hi, Res.ok_bind, hz]
  dsimp only
  rw [if_pos hb]
theorem ixZ_mod (zs : List Str) (m : Int) (n : Nat) (hn : zs.length = n) (h0 : 0 < n) (h9 : n ≤ 100) : ∃ z ∈ zs, ixZ zs (.int (m % (n : Int))) = some z := by
  have h1 := Int.emod_nonneg m (b := (n : Int)) (by omega)
  have h2 := Int.emod_lt_of_pos m (b := (n : Int)) (by omega)
  have h3 : (m % (n : Int)).toNat < zs.length := by omega
  refine ⟨zs[(m % (n : Int)).toNat], List.getElem_mem h3, ?_⟩
  show (if 0 ≤ m % (n : Int) ∧ m % (n : Int) < 2 ^ 63 then zs[(m % (n : Int)).toNat]? else none) = _
  rw [if_pos (by omega), List.getElem?_eq_getElem h3]
theorem wrP_len {l : List (Pt × Int)} (h : okWs l) : (wrP l).length ≤ 928 := by
  rw [tl_len, tl_wrP]
  have := jl_len [44, 32] 102 (l.map (core 1)) fun y hy => by
    obtain ⟨p, hp, rfl⟩ := List.mem_map.mp hy
    obtain ⟨k1, k2, k3⟩ := h.2 p hp
    have := core_len k1 k2 k3 1
    omega
  rw [List.length_map] at this
  have h8 := h.1
  have h9 : l.length * (102 + [44, 32].length) ≤ 8 * 104 := Nat.mul_le_mul h8 (by decide)
  omega
theorem first_len {l : List (Pt × Int)} (h : okWs l) {z : Str} (hz : z.length ≤ 6) : (Txt.replace (wrP l) ", " z).length ≤ 928 := by
  rw [tl_len, first_tl l h.2]
  have := jl_len (TL.tl z) 102 (l.map (core 1)) fun y hy => by
    obtain ⟨p, hp, rfl⟩ := List.mem_map.mp hy
    obtain ⟨k1, k2, k3⟩ := h.2 p hp
    have := core_len k1 k2 k3 1
    omega
  rw [List.length_map] at this
  rw [tl_len] at hz
  have h8 := h.1
  have h9 : l.length * (102 + (TL.tl z).length) ≤ 8 * 108 := Nat.mul_le_mul h8 (by omega)
  omega
theorem other_len {l : List (Pt × Int)} (h : okWs l) {z1 z2 : Str} (h1 : z1 ∈ ([",", "  ,   ", " , "] : List Str)) (h2 : z2 ∈ ([" ", "  "] : List Str)) : (otherT l z1 z2).length ≤ 928 := by
  obtain ⟨a, b, s, ha, hb, hs1, hs2, ho⟩ := other_eq l h.2 z1 z2 h1 h2
  rw [tl_len, ho]
  have := jl_len (blk a b) 103 (l.map (core s)) fun y hy => by
    obtain ⟨p, hp, rfl⟩ := List.mem_map.mp hy
    obtain ⟨k1, k2, k3⟩ := h.2 p hp
    have := core_len k1 k2 k3 s
    omega
  rw [List.length_map, blk_len] at this
  have h8 := h.1
  have h9 : l.length * (103 + (a + b + 1)) ≤ 8 * 116 := Nat.mul_le_mul h8 (by omega)
  omega
theorem q_right (l : List (Pt × Int)) (h : okWs l) (a1 : Option D) (st : Store) : q_law_wishes_right_1 [some (wsD l), a1, none, none, none, none] st = .ok (.lst (l.map fun p => .str (wrT p))) st := by
  obtain ⟨h8, hl⟩ := h
  refine mComp_eq (s := ⟨l.map wiD, yes⟩) rfl ?_ (by rw [List.length_map]; omega)
  refine compL_map wiD (fun p => .str (wrT p)) rfl l fun p hp => ⟨_, rfl, ?_⟩
  obtain ⟨hP, h0, h9⟩ := hl p hp
  have hpl := ptT_len hP
  have g1 := gAdd_str (st := st) (x := ptT p.1) (y := " ") (by rw [len_sp]; omega)
  have g2 := gAdd_str (st := st) (x := ptT p.1 ++ (" " : Str)) (y := dgT p.2) (by rw [len_app, len_sp, dg_len h0 h9]; omega)
  have g3 : cStr st [.int p.2] = some (.str (dgT p.2)) := by
    have : p.2.natAbs.log2 < 1920 := by
      have hb : p.2.natAbs < 10 := by omega
      generalize p.2.natAbs = n at hb
      rcases n with _ | _ | _ | _ | _ | _ | _ | _ | _ | _ | n
      all_goals first | decide +kernel | omega
    show (if p.2.natAbs.log2 < 1920 then some (D.str (toString p.2 : String)) else none) = _
    rw [if_pos this]; rfl
  walk_at "evh"
  rfl
theorem due_eq (l : List (Pt × Int)) (h : okWs l) (a1 : Option D) (st : Store) : mMt "str" (pureM gJoin) (mC (.str ", ")) (mCons q_law_wishes_right_1 mNil) [some (wsD l), a1, none, none, none, none] st = .ok (.str (wrP l)) st := by
  have q1 := q_right l h a1 st
  obtain ⟨h8, hl⟩ := h
  have hst := stD_map wrT l
  have hsm := sum_le' 102 (l.map wrT) (fun x hx => by
    obtain ⟨p, hp, rfl⟩ := List.mem_map.mp hx
    obtain ⟨hP, h0, h9⟩ := hl p hp
    exact wr_len hP h0 h9)
  have l2 : (", " : Str).length = 2 := by decide +kernel
  have hfit : ((l.map wrT).map (·.length)).sum + (l.map wrT).length * (", " : Str).length ≤ 16777216 := by
    rw [l2]
    rw [List.length_map] at hsm ⊢
    omega
  have hj : gJoin st (.str ", ") [.lst (l.map fun p => .str (wrT p))] = some (.str (wrP l)) := by
    show ((stD (l.map fun p => D.str (wrT p))).bind fun ys => if (ys.map (·.length)).sum + ys.length * (", " : Str).length ≤ 16777216 then some (D.str (Txt.join ", " ys)) else none) = _
    rw [hst, Option.bind_some, if_pos hfit, TL.join_eq]
    rfl
  simp only [mMt, mC, mCons, mNil, q1, Res.ok_bind, rcv, pureM, hj, Res.of_some]
  first | rfl | simp [rcv, pureM, hj, Res.of]
theorem right_eq10 (l : List (Pt × Int)) (h : okWs l) (m : Int) (st : Store) : m_law_wishes_right [wsD l, .int m] st = .ok (.bl true) st := by
  have n1 := need_wishes_ok l h st
  have w1 := written_eq l h st
  have r1 := read_eq l h st
  have hok := wsD_ok60 h
  obtain ⟨z1, hz1, i1⟩ := ixZ_mod [",", "  ,   ", " , "] m 3 rfl (by decide) (by decide)
  obtain ⟨z2, hz2, i2⟩ := ixZ_mod [" ", "  "] (m / 4) 2 rfl (by decide) (by decide)
  have l1 : z1.length ≤ 6 := by
    simp only [List.mem_cons, List.not_mem_nil, or_false] at hz1
    rcases hz1 with rfl | rfl | rfl <;> decide +kernel
  have l2 : z2.length ≤ 6 := by
    simp only [List.mem_cons, List.not_mem_nil, or_false] at hz2
    rcases hz2 with rfl | rfl <;> decide +kernel
  have ro := read_other l h z1 z2 hz1 hz2 st
  have f1 := wrP_len h
  have f2 := first_len h l1
  have f3 := other_len h hz1 hz2
  have ls : ("  " : Str).length = 2 := by decide +kernel
  refine def_fin ?_ rfl
  let E1 : Env' := [some (wsD l), some (.int m), some (.str (wrP l)), none, none, none]
  refine fin_nx (env' := E1) (st' := st) ?_ ?_
  · show (mMt _ _ _ _ [some (wsD l), some (.int m), none, none, none, none] st).bind _ = _
    rw [due_eq l h]
    rfl
  refine fin_if false ?_ ?_
  · refine mOrT_bl (a := false) (b := false) (test_eq (bin_eq (d := .non) (e := .non) ((call_1 (d := wsD l) rfl rfl).trans n1) rfl rfl)) fun _ => mOrT_bl (a := false) (b := false) ?_ fun _ => ?_
    · exact test_eq (bin_eq (d := .str (wrP l)) (e := .str (wrP l)) ((call_1 (d := wsD l) rfl rfl).trans w1) rfl (by rw [ne_str]; simp))
    · exact ne_same (d := wsD l) ((call_1 (d := .str (wrP l)) rfl rfl).trans r1) rfl hok
  rw [if_neg (by decide), fin_nil]
  let E2 : Env' := [some (wsD l), some (.int m), some (.str (wrP l)), some (.str (otherT l z1 z2)), none, none]
  refine fin_nx (env' := E2) (st' := st) ?_ ?_
  · have k1 : mReplL ", " [",", "  ,   ", " , "] (mVar 2) (mBin gMod (mVar 1) (mC (.int 3))) E1 st = .ok (.str (Txt.replace (wrP l) ", " z1)) st :=
      repl_ok (d := .int (m % 3)) rfl (bin_eq rfl rfl (gMod_ok (by decide))) i1 (by omega) (by omega)
    have k2 : mReplL " " [" ", "  "] (mReplL ", " [",", "  ,   ", " , "] (mVar 2) (mBin gMod (mVar 1) (mC (.int 3)))) (mBin gMod (mBin gDiv (mVar 1) (mC (.int 4))) (mC (.int 2))) E1 st = .ok (.str (otherT l z1 z2)) st :=
      repl_ok (d := .int (m / 4 % 2)) k1 (bin_eq (bin_eq rfl rfl (gDiv_ok' (by decide) (by decide))) rfl (gMod_ok (by decide))) i2 (by omega) (by omega)
    show (mReplL _ _ _ _ E1 st).bind _ = _
    rw [k2]
    rfl
  refine fin_ret (bin_eq (d := wsD l) (e := wsD l) (toldM_ok ?_) rfl (eq_key (b := true) (by decide) (by decide) hok hok (by simp)))
  refine (call_1 (d := .str (("  " : Str) ++ otherT l z1 z2 ++ (" " : Str))) rfl ?_).trans ro
  exact bin_eq (bin_eq rfl rfl (gAdd_str (by rw [ls]; omega))) rfl (gAdd_str (by rw [len_app, ls, len_sp]; omega))

end K10
namespace K10
open PySem PySem.Spec L2 Mr
local macro_rules | `(tactic| walk_at "ev") => `(tactic| simp only [sRet, sIf, sAsg, sDrop, sPar, sNil, sRaise, mBin, mCall, mCallD, mCons, mNil, mC, mVar, mTup, mLst, mIfE, mAnd, mOr, mNot, mAndT, mOrT, mNotT, mTest, mTru, mChain, mMt, rcv, pureM, mSl, mPart, mNoP, mNeg, setT, setAll, startE, Res.ok_bind, Res.ex_bind, Res.no_bind, Res.of_some, Res.of_none, Res.ok_nox, asB, tru, List.map_cons, List.map_nil, List.length_cons, List.length_nil, List.replicate, List.cons_append, List.nil_append, List.getElem?_cons_zero, List.getElem?_cons_succ, List.set_cons_zero, List.set_cons_succ, Nat.reduceAdd, Nat.reduceSub, Nat.reduceEqDiff, Nat.reduceLeDiff, if_true, if_false, and_self, Bool.false_eq_true, Bool.not_true, Bool.not_false, Option.map_some, Option.bind_some, asL, asLs, asT, wipeE, gIx, gSl, atI_0, atI_1, atI_2, atI_3, atI_n1, cut_d1, cut_t2, cLen, cTuple, cList, cAll, cAny, cIsi, tyD, isiT, gSplit, gLt, gLe, gGt, gGe, gIsn, gIs, isD, eq_int, eq_str, beq_two, notSw2, List.drop_succ_cons, List.drop_zero, size_eq, Nat.zero_le, true_and, and_true, decide_true, decide_false])
local macro_rules | `(tactic| walk_at "evh") => `(tactic| simp only [sRet, sIf, sAsg, sDrop, sPar, sNil, sRaise, mBin, mCall, mCallD, mCons, mNil, mC, mVar, mTup, mLst, mIfE, mAnd, mOr, mNot, mAndT, mOrT, mNotT, mTest, mTru, mChain, mMt, rcv, pureM, mSl, mPart, mNoP, mNeg, setT, setAll, startE, Res.ok_bind, Res.ex_bind, Res.no_bind, Res.of_some, Res.of_none, Res.ok_nox, asB, tru, List.map_cons, List.map_nil, List.length_cons, List.length_nil, List.replicate, List.cons_append, List.nil_append, List.getElem?_cons_zero, List.getElem?_cons_succ, List.set_cons_zero, List.set_cons_succ, Nat.reduceAdd, Nat.reduceSub, Nat.reduceEqDiff, Nat.reduceLeDiff, if_true, if_false, and_self, Bool.false_eq_true, Bool.not_true, Bool.not_false, Option.map_some, Option.bind_some, asL, asLs, asT, wipeE, gIx, gSl, atI_0, atI_1, atI_2, atI_3, atI_n1, cut_d1, cut_t2, cLen, cTuple, cList, cAll, cAny, cIsi, tyD, isiT, gSplit, gLt, gLe, gGt, gGe, gIsn, gIs, isD, eq_int, eq_str, beq_two, notSw2, List.drop_succ_cons, List.drop_zero, size_eq, Nat.zero_le, true_and, and_true, decide_true, decide_false, *])
local macro_rules | `(tactic| walk_at "nx") => `(tactic| (first | (apply fin_nx; (case h => (walk_at "evh"; try rfl))) | (apply seq_nx; (case h => (walk_at "evh"; try rfl)))))
local macro_rules | `(tactic| walk_at "x") => `(tactic| fail)
local macro_rules | `(tactic| walk_at "lf") => `(tactic| first | walk_at "x" | with_reducible rfl | (with_reducible exact gMod_ok (by first | decide | omega)) | (with_reducible exact gDiv_ok' (by first | decide | omega) (by first | decide | omega)) | (with_reducible exact eq_int _ _ _) | rfl)
local macro_rules | `(tactic| walk_at "e1") => `(tactic| first | with_reducible assumption | walk_at "x" | (with_reducible apply bin_st) | (with_reducible exact nil_st) | (with_reducible apply cons_st) | (with_reducible apply test_eq) | (with_reducible apply callB_of) | (with_reducible apply callD_st) | (with_reducible apply fld_st) | (with_reducible apply meth_st) | (with_reducible apply tup_of) | (with_reducible apply lst_of) | (with_reducible apply toldM_ok) | (with_reducible apply not_st) | (with_reducible apply tru_st) | (with_reducible apply sl_st) | (with_reducible apply part_st) | (with_reducible exact nop_st) | (with_reducible apply app_st) | walk_at "lf")
local macro_rules | `(tactic| walk_at "e") => `(tactic| repeat' walk_at "e1")
local macro_rules | `(tactic| walk_at "ga") => `(tactic| ((with_reducible apply go_asg); (· walk_at "e")))
local macro_rules | `(tactic| walk_at "gd") => `(tactic| ((with_reducible apply go_drop); (· walk_at "e")))
local macro_rules | `(tactic| walk_at "gf") => `(tactic| ((with_reducible apply goF); (· walk_at "e")))
local macro_rules | `(tactic| walk_at "g") => `(tactic| first | walk_at "ga" | walk_at "gd" | walk_at "gf")
/-! ### k10: what is refused -/
def noMk : List D := [.str "", .str "/", .str "a", .str "a/", .str "/a", .str "a/b/c", .str "A/b", .str "a/b;", .str "a/b;c", .str "a/b;c=", .str "a/b;=d", .str "a/b;c=d;", .str "a/b;c=d;c=e", .str "a b/c", .str "a/b;d=1;c=1", .str "a/b;c=d=e", .str "abcdefghijk/a", .str "a/abcdefghijk",
  .str "a/b;a=1;b=1;c=1;d=1", .str "a/b; c=d", .str "a/b;c=D", .non, .int 5, .tup [.str "a", .str "b"], .str "a/b\n", .str "a-b/c", .str "a/b;abcdefghijk=1"]
abbrev R1 : D := refD "BadMake"
theorem no_makes_eq : m_law_no_makes [] [] = .ok (.lst noMk) [] := by kernel_rfl
theorem no_need : ∀ d ∈ noMk, m_need_make [d] [] = .ex "BadMake" [] := by
  intro d hd
  simp only [noMk, List.mem_cons, List.not_mem_nil, or_false] at hd
  rcases hd with rfl | rfl | rfl | rfl | rfl | rfl | rfl | rfl | rfl | rfl | rfl | rfl | rfl | rfl | rfl | rfl | rfl | rfl | rfl | rfl | rfl | rfl | rfl | rfl | rfl | rfl | rfl
  all_goals kernel_rfl
theorem no_fits : ∀ d ∈ noMk, m_fits [.str "*/*", d] [.lst [R1]] = .ex "BadMake" [.lst [R1]] := by
  intro d hd
  simp only [noMk, List.mem_cons, List.not_mem_nil, or_false] at hd
  rcases hd with rfl | rfl | rfl | rfl | rfl | rfl | rfl | rfl | rfl | rfl | rfl | rfl | rfl | rfl | rfl | rfl | rfl | rfl | rfl | rfl | rfl | rfl | rfl | rfl | rfl | rfl | rfl
  all_goals kernel_rfl
theorem no_fits2 (x : Str) : ∀ d ∈ noMk, m_fits [d, .str x] [.lst [R1, R1]] = .ex "BadMake" [.lst [R1, R1]] := by
  intro d hd
  simp only [noMk, List.mem_cons, List.not_mem_nil, or_false] at hd
  rcases hd with rfl | rfl | rfl | rfl | rfl | rfl | rfl | rfl | rfl | rfl | rfl | rfl | rfl | rfl | rfl | rfl | rfl | rfl | rfl | rfl | rfl | rfl | rfl | rfl | rfl | rfl | rfl
  all_goals kernel_rfl
theorem no_wt : ∀ d ∈ noMk, m_weight_of [.tup [], d] [.lst [R1, R1, R1]] = .ex "BadMake" [.lst [R1, R1, R1]] := by
  intro d hd
  simp only [noMk, List.mem_cons, List.not_mem_nil, or_false] at hd
  rcases hd with rfl | rfl | rfl | rfl | rfl | rfl | rfl | rfl | rfl | rfl | rfl | rfl | rfl | rfl | rfl | rfl | rfl | rfl | rfl | rfl | rfl | rfl | rfl | rfl | rfl | rfl | rfl
  all_goals kernel_rfl
def noW1 : List D := [.non, .lst [], .tup [.tup [.str "a/b", .int 1], .tup [.str "a/b", .int 1], .tup [.str "a/b", .int 1], .tup [.str "a/b", .int 1], .tup [.str "a/b", .int 1], .tup [.str "a/b", .int 1], .tup [.str "a/b", .int 1], .tup [.str "a/b", .int 1], .tup [.str "a/b", .int 1]], .tup [.tup [.str "a/b"]], .tup [.tup [.str "a/b", .int 1, .int 1]], .tup [.tup [.str "a/b", .int (-1)]]]
def noW2 : List D := noW1 ++ [.tup [.tup [.str "a/b", .int 10]], .tup [.tup [.str "a/b", .bl true]]]
def noW3 : List D := noW2 ++ [.tup [.tup [.str "a/b", .non]], .tup [.tup [.str "*/b", .int 1]], .tup [.tup [.str "a/*;c=d", .int 1]], .tup [.tup [.str "*/*;c=d", .int 1]]]
def noW4 : List D := noW3 ++ [.tup [.tup [.str "*", .int 1]], .tup [.tup [.str "", .int 1]], .tup [.non]]
def noWs : List D := noW4 ++ [.tup [.lst [.str "a/b", .int 1]], .tup [.tup [.non, .int 1]], .tup [.str "a/b 1"], .tup [.tup [.str "a/b", .str "1"]]]
theorem noWs_len : noWs.length = 19 := by decide
theorem no_wishes_eq (z : Int) : ∃ d ∈ noWs, m_law_no_wishes [.int z] [] = .ok d [] := by
  have hlt : (z % (19 : Nat)).toNat < noWs.length := by rw [noWs_len]; exact mod_lt z 19 (by decide)
  refine ⟨noWs.getD (z % (19 : Nat)).toNat .non, getD_mem hlt, ?_⟩
  have hat := atI_mod (d := D.non) z 19 (by decide) noWs_len
  generalize hd : noWs.getD (z % (19 : Nat)).toNat .non = d at hat
  have hnr : noRef d = true := by
    have h1 : noWs.all noRef = true := by kernel_rfl
    rw [← hd]
    exact List.all_eq_true.mp h1 _ (getD_mem hlt)
  refine def_fin ?_ hnr
  refine fin_nx (env' := [some (.int z), some (.lst noW1)]) (st' := []) (by kernel_rfl) ?_
  refine fin_nx (env' := [some (.int z), some (.lst noW2)]) (st' := []) (by kernel_rfl) ?_
  refine fin_nx (env' := [some (.int z), some (.lst noW3)]) (st' := []) (by kernel_rfl) ?_
  refine fin_nx (env' := [some (.int z), some (.lst noW4)]) (st' := []) (by kernel_rfl) ?_
  refine fin_nx (env' := [some (.int z), some (.lst noWs)]) (st' := []) (by kernel_rfl) ?_
  refine fin_ret (bin_eq (d := .lst noWs) (e := .int (z % 19)) rfl (bin_eq (d := .int z) (e := .int 19) rfl (by kernel_rfl) (gMod_ok (by decide))) ?_)
  exact hat
theorem no_wish : ∀ d ∈ noWs, m_need_wishes [d] [] = .ex "BadMake" [] := by
  intro d hd
  simp only [noWs, noW4, noW3, noW2, noW1, List.cons_append, List.nil_append, List.mem_cons, List.not_mem_nil, or_false] at hd
  rcases hd with rfl | rfl | rfl | rfl | rfl | rfl | rfl | rfl | rfl | rfl | rfl | rfl | rfl | rfl | rfl | rfl | rfl | rfl | rfl
  all_goals kernel_rfl
theorem no_written : ∀ d ∈ noWs, m_written_wishes [d] [.lst [R1]] = .ex "BadMake" [.lst [R1]] := by
  intro d hd
  simp only [noWs, noW4, noW3, noW2, noW1, List.cons_append, List.nil_append, List.mem_cons, List.not_mem_nil, or_false] at hd
  rcases hd with rfl | rfl | rfl | rfl | rfl | rfl | rfl | rfl | rfl | rfl | rfl | rfl | rfl | rfl | rfl | rfl | rfl | rfl | rfl
  all_goals kernel_rfl
def bad10 : List Str := ["a/b", "a/b 10", "a/b x", "a/b 1 1", ",", "a/b 1,", "a/b 1, ,c/d 1", "1", "*/b 1", "a/b -1"]
def txt10 : List Str := bad10 ++ (["a/b 1;c/d 1", "a/b 1, a/b 1, a/b 1, a/b 1, a/b 1, a/b 1, a/b 1, a/b 1, a/b 1"] : List Str)
theorem no_read : ∀ t ∈ txt10, m_read_wishes [.str t] [.lst [R1, R1]] = .ex "BadMake" [.lst [R1, R1]] := by
  intro d hd
  simp only [txt10, bad10, List.cons_append, List.nil_append, List.mem_cons, List.not_mem_nil, or_false] at hd
  rcases hd with rfl | rfl | rfl | rfl | rfl | rfl | rfl | rfl | rfl | rfl | rfl | rfl
  all_goals kernel_rfl

end K10
namespace K10
open PySem PySem.Spec L2 Mr
local macro_rules | `(tactic| walk_at "ev") => `(tactic| simp only [sRet, sIf, sAsg, sDrop, sPar, sNil, sRaise, mBin, mCall, mCallD, mCons, mNil, mC, mVar, mTup, mLst, mIfE, mAnd, mOr, mNot, mAndT, mOrT, mNotT, mTest, mTru, mChain, mMt, rcv, pureM, mSl, mPart, mNoP, mNeg, setT, setAll, startE, Res.ok_bind, Res.ex_bind, Res.no_bind, Res.of_some, Res.of_none, Res.ok_nox, asB, tru, List.map_cons, List.map_nil, List.length_cons, List.length_nil, List.replicate, List.cons_append, List.nil_append, List.getElem?_cons_zero, List.getElem?_cons_succ, List.set_cons_zero, List.set_cons_succ, Nat.reduceAdd, Nat.reduceSub, Nat.reduceEqDiff, Nat.reduceLeDiff, if_true, if_false, and_self, Bool.false_eq_true, Bool.not_true, Bool.not_false, Option.map_some, Option.bind_some, asL, asLs, asT, wipeE, gIx, gSl, atI_0, atI_1, atI_2, atI_3, atI_n1, cut_d1, cut_t2, cLen, cTuple, cList, cAll, cAny, cIsi, tyD, isiT, gSplit, gLt, gLe, gGt, gGe, gIsn, gIs, isD, eq_int, eq_str, beq_two, notSw2, List.drop_succ_cons, List.drop_zero, size_eq, Nat.zero_le, true_and, and_true, decide_true, decide_false])
local macro_rules | `(tactic| walk_at "evh") => `(tactic| simp only [sRet, sIf, sAsg, sDrop, sPar, sNil, sRaise, mBin, mCall, mCallD, mCons, mNil, mC, mVar, mTup, mLst, mIfE, mAnd, mOr, mNot, mAndT, mOrT, mNotT, mTest, mTru, mChain, mMt, rcv, pureM, mSl, mPart, mNoP, mNeg, setT, setAll, startE, Res.ok_bind, Res.ex_bind, Res.no_bind, Res.of_some, Res.of_none, Res.ok_nox, asB, tru, List.map_cons, List.map_nil, List.length_cons, List.length_nil, List.replicate, List.cons_append, List.nil_append, List.getElem?_cons_zero, List.getElem?_cons_succ, List.set_cons_zero, List.set_cons_succ, Nat.reduceAdd, Nat.reduceSub, Nat.reduceEqDiff, Nat.reduceLeDiff, if_true, if_false, and_self, Bool.false_eq_true, Bool.not_true, Bool.not_false, Option.map_some, Option.bind_some, asL, asLs, asT, wipeE, gIx, gSl, atI_0, atI_1, atI_2, atI_3, atI_n1, cut_d1, cut_t2, cLen, cTuple, cList, cAll, cAny, cIsi, tyD, isiT, gSplit, gLt, gLe, gGt, gGe, gIsn, gIs, isD, eq_int, eq_str, beq_two, notSw2, List.drop_succ_cons, List.drop_zero, size_eq, Nat.zero_le, true_and, and_true, decide_true, decide_false, *])
local macro_rules | `(tactic| walk_at "nx") => `(tactic| (first | (apply fin_nx; (case h => (walk_at "evh"; try rfl))) | (apply seq_nx; (case h => (walk_at "evh"; try rfl)))))
local macro_rules | `(tactic| walk_at "x") => `(tactic| fail)
local macro_rules | `(tactic| walk_at "lf") => `(tactic| first | walk_at "x" | with_reducible rfl | (with_reducible exact gMod_ok (by first | decide | omega)) | (with_reducible exact gDiv_ok' (by first | decide | omega) (by first | decide | omega)) | (with_reducible exact eq_int _ _ _) | rfl)
local macro_rules | `(tactic| walk_at "e1") => `(tactic| first | with_reducible assumption | walk_at "x" | (with_reducible apply bin_st) | (with_reducible exact nil_st) | (with_reducible apply cons_st) | (with_reducible apply test_eq) | (with_reducible apply callB_of) | (with_reducible apply callD_st) | (with_reducible apply fld_st) | (with_reducible apply meth_st) | (with_reducible apply tup_of) | (with_reducible apply lst_of) | (with_reducible apply toldM_ok) | (with_reducible apply not_st) | (with_reducible apply tru_st) | (with_reducible apply sl_st) | (with_reducible apply part_st) | (with_reducible exact nop_st) | (with_reducible apply app_st) | walk_at "lf")
local macro_rules | `(tactic| walk_at "e") => `(tactic| repeat' walk_at "e1")
local macro_rules | `(tactic| walk_at "ga") => `(tactic| ((with_reducible apply go_asg); (· walk_at "e")))
local macro_rules | `(tactic| walk_at "gd") => `(tactic| ((with_reducible apply go_drop); (· walk_at "e")))
local macro_rules | `(tactic| walk_at "gf") => `(tactic| ((with_reducible apply goF); (· walk_at "e")))
local macro_rules | `(tactic| walk_at "g") => `(tactic| first | walk_at "ga" | walk_at "gd" | walk_at "gf")
/-! ### k10: the law -/
theorem pw30 (st : Store) : gPow st (.int 2) (.int 30) = some (.int 1073741824) := by
  show (if CPow 2 30 then some (D.int ((2 : Int) ^ (30 : Int).toNat)) else none) = _
  rw [if_pos (by decide)]; rfl
theorem ref_ne {c : Str} (st : Store) (h : okD 2 (refD c) = true) : gNe st (refD c) (refD c) = some (.bl false) := by
  rw [ne_key (b := true) (n := 2) (m := 2) (by decide) (by decide) h h (by simp)]
  rfl
theorem ne_bl2 (st : Store) (a : Bool) : gNe st (.bl a) (.bl a) = some (.bl false) := by
  have h : okD 0 (.bl a) = true := by simp [okD]
  rw [ne_key (b := true) (n := 0) (m := 0) (by decide) (by decide) h h (by simp)]
  rfl
def env10 (a0 : D) (k z : Int) (e3 e4 e5 e6 e7 e8 e9 e10 e11 : Option D) : Env' := [some a0, some (.int k), some (.int z), e3, e4, e5, e6, e7, e8, e9, e10, e11]
section
variable {a0 : D} {k z : Int}
theorem body10 (ha : refsBb 0 a0 = true) (j : Int) : sTrim [3, 4, 5, 6, 7, 8, 9] w_law_1 (env10 a0 k z (some (.int j)) none none none none none none none none) [] = .ok (.nx, env10 a0 k z none none none none none none none none none) [] := by
  refine go_cut (st1 := []) ?_ rfl rfl (by simp [env10, envB, ha, refsBb])
  unfold w_law_1
  refine go_asg (d := .int (drawn z j)) (st1 := []) ((call_2 rfl rfl rfl).trans (drawn_eq z j [])) ?_
  generalize drawn z j = h
  have hM := mkM_ok (h / 8)
  have m1 := law_make_eq (h / 8) []
  have hT := patM_ok (h / 1024)
  have m2 := law_pattern_eq (h / 1024) []
  generalize mkM (h / 8) = M at m1 hM
  generalize patM (h / 1024) = T at m2 hT
  let E5 : Env' := env10 a0 k z (some (.int j)) (some (.int h)) none none none none none none none
  let E6 : Env' := env10 a0 k z (some (.int j)) (some (.int h)) (some (.str (ptT M))) (some (.str (ptT T))) none none none none none
  refine go_nx (e := E6) (st1 := []) ?_ ?_
  · have e1 : mTup (mCons (mCallD 1 m_law_make (mCons (mBin gDiv (mVar 4) (mC (.int 8))) mNil)) (mCons (mCallD 1 m_law_pattern (mCons (mBin gDiv (mVar 4) (mC (.int 1024))) mNil)) mNil)) E5 [] = .ok (.tup [.str (ptT M), .str (ptT T)]) [] :=
      tup_of (cons_st ((call_1 rfl (bin_eq rfl rfl (gDiv_ok' (by decide) (by decide)))).trans m1) (cons_st ((call_1 rfl (bin_eq rfl rfl (gDiv_ok' (by decide) (by decide)))).trans m2) nil_st)) (by show 2 ≤ 1000; decide) rfl
    show (mTup _ E5 []).bind _ = _
    rw [e1]
    rfl
  refine go_skip (test_eq (bin_eq (d := .non) (e := .non) (toldM_ok ((call_1 (d := .str (ptT M)) rfl rfl).trans (need_make_ok M hM []))) rfl rfl)) ?_
  refine go_asg (d := .bl (fitP T M)) (st1 := []) (toldM_ok ((call_2 rfl rfl rfl).trans (fits_eq T M hT hM []))) ?_
  refine go_skip (mOrT_bl (a := false) (b := false) ?_ fun _ => test_eq (bin_eq (d := .bl (fitP T M)) (e := .bl (fitP T M)) rfl ((call_2 rfl rfl rfl).trans (law_fits_eq T M hT (isMk_isPt hM) [])) (ne_bl2 _ _))) ?_
  · rfl
  have hlen : noMk.length = 27 := by decide
  have hlt : (h / 1073741824 % (27 : Nat)).toNat < noMk.length := by rw [hlen]; exact mod_lt (h / 1073741824) 27 (by decide)
  have hat := atI_mod (d := D.non) (h / 1073741824) 27 (by decide) hlen
  have hmem := getD_mem (d := D.non) hlt
  generalize noMk.getD (h / 1073741824 % (27 : Nat)).toNat .non = d at hat hmem
  let E7 : Env' := env10 a0 k z (some (.int j)) (some (.int h)) (some (.str (ptT M))) (some (.str (ptT T))) (some (.bl (fitP T M))) none none none none
  have c0 : mCall0 m_law_no_makes E7 [] = .ok (.lst noMk) [] := no_makes_eq
  refine go_asg (d := d) (st1 := []) ?_ ?_
  · show mBin gIx (mCall0 m_law_no_makes) _ E7 [] = _
    refine bin_eq (d := .lst noMk) (e := .int (h / 1073741824 % 27)) c0 (bin_eq (d := .int (h / 1073741824)) (e := .int 27) (bin_eq rfl (bin_eq rfl rfl (pw30 [])) (gDiv_ok' (by decide) (by decide))) ?_ (gMod_ok (by decide))) hat
    show (mCons (mCall0 m_law_no_makes) mNil E7 []).bind _ = _
    rw [cons_st c0 nil_st]
    rfl
  let E8 : Env' := env10 a0 k z (some (.int j)) (some (.int h)) (some (.str (ptT M))) (some (.str (ptT T))) (some (.bl (fitP T M))) (some d) none none none
  let E9 : Env' := env10 a0 k z (some (.int j)) (some (.int h)) (some (.str (ptT M))) (some (.str (ptT T))) (some (.bl (fitP T M))) (some d) (some (.ref 0)) none none
  refine go_asg (d := .ref 0) (st1 := [.lst [R1]]) ?_ ?_
  · have e1 : mCons (toldM l_law_3) mNil E8 [] = .ok [R1] [] := cons_st (toldM_ex ((call_1 (d := d) rfl rfl).trans (no_need d hmem))) nil_st
    show mLstC _ E8 [] = _
    unfold mLstC
    rw [e1, Res.ok_bind, if_pos (by decide)]
    rfl
  refine go_drop (d := .non) (st1 := [.lst [R1, R1]]) (append_st (n := 0) (st1 := [.lst [R1]]) (xs := [R1]) (d := R1) (ds := [R1]) (st2 := [.lst [R1]]) rfl rfl (toldM_ex ((call_2 (d := .str "*/*") (e := d) rfl rfl rfl).trans (no_fits d hmem))) rfl (by decide)) ?_
  refine go_drop (d := .non) (st1 := [.lst [R1, R1, R1]]) (append_st (n := 0) (st1 := [.lst [R1, R1]]) (d := R1) (xs := [R1, R1]) (ds := [R1, R1]) (st2 := [.lst [R1, R1]]) rfl rfl (toldM_ex ((call_2 (d := d) (e := .str (ptT M)) rfl rfl rfl).trans (no_fits2 _ d hmem))) rfl (by decide)) ?_
  refine go_drop (d := .non) (st1 := [.lst [R1, R1, R1, R1]]) (append_st (n := 0) (st1 := [.lst [R1, R1, R1]]) (d := R1) (xs := [R1, R1, R1]) (ds := [R1, R1, R1]) (st2 := [.lst [R1, R1, R1]]) rfl rfl (toldM_ex ((call_2 (d := .tup []) (e := d) rfl rfl rfl).trans (no_wt d hmem))) rfl (by decide)) ?_
  refine go_skipE ?_ ⟨by kernel_rfl, _, rfl⟩
  kernel_rfl
theorem text10 (e8 : Option D) (t : Str) (ht : t ∈ txt10) : sTrim [11] w_law_2 (env10 a0 k z none none none none none e8 (some (.ref 0)) (some (.lst (bad10.map .str))) (some (.str t))) [.lst [R1, R1]] = .ok (.nx, env10 a0 k z none none none none none e8 (some (.ref 0)) (some (.lst (bad10.map .str))) none) [.lst [R1, R1]] := by
  refine go_trim ?_
  unfold w_law_2
  refine go_skipE (test_eq (bin_eq (d := R1) (e := R1) (toldM_ex ((call_1 (d := .str t) rfl rfl).trans (no_read t ht))) (tup_2 rfl rfl) (ref_ne _ (by decide +kernel)))) ⟨?_, rfl⟩
  kernel_rfl
end
theorem law_ok (ns : List Int) (hn : ns.length ≤ 63) : ∃ st', m_law [.fix (ns.map .int)] [] = .ok (.bl true) st' := by
  refine ⟨[], law_of (N := 12) (c := 4) (l := [1, 2, 3, 4, 5, 6, 7, 8, 9, 10, 11]) ns (by kernel_rfl) (by decide) (by decide) fun k _ => ?_⟩
  have c1 := cell_eq ns hn k []
  have c2 := drawn_eq (cellOf ns k) k []
  generalize drawn (cellOf ns k) k = z at c2
  generalize ha0 : D.fix (ns.map .int) = a0
  have ha0b : refsBb 0 a0 = true := by rw [← ha0]; exact env_ints 0 ns
  rw [ha0] at c1
  refine go_cut (st1 := []) (env' := [some a0, none, none, none, none, none, none, none, none, none, none, none]) ?_ rfl rfl (by simp [envB, ha0b])
  show Goes w_law_3 [some a0, some (.int k), none, none, none, none, none, none, none, none, none, none] [] _
  unfold w_law_3
  refine go_asg (d := .int z) (st1 := []) ((call_2 rfl ((call_2 rfl rfl rfl).trans c1) rfl).trans c2) ?_
  let E0 : Env' := env10 a0 k z none none none none none none none none none
  refine go_nx (e := E0) (st1 := []) (for_pre (st1 := []) (s := ⟨rngD 0 4, yes⟩) (ds := ([0, 1, 2, 3] : List Int).map .int) rfl rfl (forL_same D.int [0, 1, 2, 3] rfl fun j _ => ⟨_, rfl, body10 ha0b j⟩)) ?_
  refine go_skip (t := mTest (mBin gNe (toldM l_law_7) (mTup (mCons (mC (.str "refused")) (mCons (mC (.str "BadMake")) mNil))))) (by kernel_rfl) ?_
  have w1 := law_wishes_eq (drawn z 9) []
  have hW := (wishesM_ok (drawn z 9)).1
  generalize wishesM (drawn z 9) = W at w1 hW
  refine go_skip' (st1 := []) (not_st (b := true) (tru_st (d := .bl true) ((call_2 (d := wsD W) (e := .int z) rfl ((call_1 (d := .int (drawn z 9)) rfl ((call_2 rfl rfl rfl).trans (drawn_eq z 9 []))).trans w1) rfl).trans (right_eq10 W hW z [])) rfl)) ?_
  obtain ⟨d, hmem, hd⟩ := no_wishes_eq (drawn z 10)
  refine go_asg (d := d) (st1 := []) ((call_1 (d := .int (drawn z 10)) rfl ((call_2 rfl rfl rfl).trans (drawn_eq z 10 []))).trans hd) ?_
  let E8 : Env' := env10 a0 k z none none none none none (some d) none none none
  refine go_asg (d := .ref 0) (st1 := [.lst [R1]]) ?_ ?_
  · have e1 : mCons (toldM l_law_8) mNil E8 [] = .ok [R1] [] := cons_st (toldM_ex ((call_1 (d := d) rfl rfl).trans (no_wish d hmem))) nil_st
    show mLstC _ E8 [] = _
    unfold mLstC
    rw [e1, Res.ok_bind, if_pos (by decide)]
    rfl
  refine go_drop (d := .non) (st1 := [.lst [R1, R1]]) (append_st (n := 0) (st1 := [.lst [R1]]) (d := R1) (xs := [R1]) (ds := [R1]) (st2 := [.lst [R1]]) rfl rfl (toldM_ex ((call_1 (d := d) rfl rfl).trans (no_written d hmem))) rfl (by decide)) ?_
  refine go_skip (by kernel_rfl) ?_
  refine go_asg (d := .lst (bad10.map .str)) (st1 := [.lst [R1, R1]]) (by kernel_rfl) ?_
  refine go_E (for_pre (st1 := [.lst [R1, R1]]) (s := ⟨txt10.map .str, yes⟩) (by kernel_rfl) rfl (forL_same D.str txt10 rfl fun t ht => ⟨_, rfl, text10 (some d) t ht⟩)) ⟨?_, _, rfl⟩
  kernel_rfl

end K10
namespace K10
open PySem PySem.Spec L2 Mr
def dd_mk_need : He.DefD := ⟨("need", none), "need", "need", defArgs s_mk_need, defBody s_mk_need, defScope s_mk_need, [], []⟩
def dd_is_word : He.DefD := ⟨("is_word", none), "is_word", "is_word", defArgs s_is_word, defBody s_is_word, defScope s_is_word, [], []⟩
def dd_sides_of : He.DefD := ⟨("sides_of", none), "sides_of", "sides_of", defArgs s_sides_of, defBody s_sides_of, defScope s_sides_of, [], []⟩
def dd_parts_of : He.DefD := ⟨("parts_of", none), "parts_of", "parts_of", defArgs s_parts_of, defBody s_parts_of, defScope s_parts_of, [], []⟩
def dd_need_make : He.DefD := ⟨("need_make", none), "need_make", "need_make", defArgs s_need_make, defBody s_need_make, defScope s_need_make, [], []⟩
def dd_is_fit : He.DefD := ⟨("is_fit", none), "is_fit", "is_fit", defArgs s_is_fit, defBody s_is_fit, defScope s_is_fit, [], []⟩
def dd_fits : He.DefD := ⟨("fits", none), "fits", "fits", defArgs s_fits, defBody s_fits, defScope s_fits, [], []⟩
def dd_need_wishes : He.DefD := ⟨("need_wishes", none), "need_wishes", "need_wishes", defArgs s_need_wishes, defBody s_need_wishes, defScope s_need_wishes, [], []⟩
def dd_written_wishes : He.DefD := ⟨("written_wishes", none), "written_wishes", "written_wishes", defArgs s_written_wishes, defBody s_written_wishes, defScope s_written_wishes, [], []⟩
def dd_read_wishes : He.DefD := ⟨("read_wishes", none), "read_wishes", "read_wishes", defArgs s_read_wishes, defBody s_read_wishes, defScope s_read_wishes, [], []⟩
def dd_closeness : He.DefD := ⟨("closeness", none), "closeness", "closeness", defArgs s_closeness, defBody s_closeness, defScope s_closeness, [], []⟩
def dd_weight_for : He.DefD := ⟨("weight_for", none), "weight_for", "weight_for", defArgs s_weight_for, defBody s_weight_for, defScope s_weight_for, [], []⟩
def dd_weight_of : He.DefD := ⟨("weight_of", none), "weight_of", "weight_of", defArgs s_weight_of, defBody s_weight_of, defScope s_weight_of, [], []⟩
def dd_law_cell : He.DefD := ⟨("_law_cell", none), "_law_cell", "_law_cell", defArgs s_law_cell, defBody s_law_cell, defScope s_law_cell, [], []⟩
def dd_law_drawn : He.DefD := ⟨("_law_drawn", none), "_law_drawn", "_law_drawn", defArgs s_law_drawn, defBody s_law_drawn, defScope s_law_drawn, [], []⟩
def dd_law_make : He.DefD := ⟨("_law_make", none), "_law_make", "_law_make", defArgs s_law_make, defBody s_law_make, defScope s_law_make, [], []⟩
def dd_law_pattern : He.DefD := ⟨("_law_pattern", none), "_law_pattern", "_law_pattern", defArgs s_law_pattern, defBody s_law_pattern, defScope s_law_pattern, [], []⟩
def dd_law_wishes : He.DefD := ⟨("_law_wishes", none), "_law_wishes", "_law_wishes", defArgs s_law_wishes, defBody s_law_wishes, defScope s_law_wishes, [], []⟩
def dd_law_parted : He.DefD := ⟨("_law_parted", none), "_law_parted", "_law_parted", defArgs s_law_parted, defBody s_law_parted, defScope s_law_parted, [], []⟩
def dd_law_fits : He.DefD := ⟨("_law_fits", none), "_law_fits", "_law_fits", defArgs s_law_fits, defBody s_law_fits, defScope s_law_fits, [], []⟩
def dd_law_no_makes : He.DefD := ⟨("_law_no_makes", none), "_law_no_makes", "_law_no_makes", defArgs s_law_no_makes, defBody s_law_no_makes, defScope s_law_no_makes, [], []⟩
def dd_law_no_wishes : He.DefD := ⟨("_law_no_wishes", none), "_law_no_wishes", "_law_no_wishes", defArgs s_law_no_wishes, defBody s_law_no_wishes, defScope s_law_no_wishes, [], []⟩
def dd_law_wishes_right : He.DefD := ⟨("_law_wishes_right", none), "_law_wishes_right", "_law_wishes_right", defArgs s_law_wishes_right, defBody s_law_wishes_right, defScope s_law_wishes_right, [], []⟩
def dd_law : He.DefD := ⟨("law", none), "law", "law", defArgs s_law, defBody s_law, defScope s_law, [], []⟩
def dd_law_word : He.DefD := ⟨("_law_word", none), "_law_word", "_law_word", defArgs s_law_word, defBody s_law_word, defScope s_law_word, [], []⟩
def dd_law_told : He.DefD := ⟨("_law_told", none), "_law_told", "_law_told", defArgs s_law_told, defBody s_law_told, defScope s_law_told, [], []⟩
def fnl : List He.DefD := [dd_mk_need, dd_is_word, dd_sides_of, dd_parts_of, dd_need_make, dd_is_fit, dd_fits, dd_need_wishes, dd_written_wishes, dd_read_wishes, dd_closeness, dd_weight_for, dd_weight_of, dd_law_cell, dd_law_drawn, dd_law_make, dd_law_pattern, dd_law_wishes, dd_law_parted, dd_law_fits, dd_law_no_makes, dd_law_no_wishes, dd_law_wishes_right, dd_law, dd_law_word, dd_law_told]
def fal : List He.Fa := [.glo "need", .glo "is_word", .glo "sides_of", .glo "parts_of", .glo "need_make", .glo "is_fit", .glo "fits", .glo "need_wishes", .glo "written_wishes", .glo "read_wishes", .glo "closeness", .glo "weight_for", .glo "weight_of", .glo "_law_cell", .glo "_law_drawn", .glo "_law_word", .glo "_law_told", .glo "_law_make", .glo "_law_pattern", .glo "_law_wishes", .glo "_law_parted", .glo "_law_fits", .glo "_law_no_makes", .glo "_law_no_wishes", .glo "_law_wishes_right", .glo "law", .glo "BadMake", .glo "BadAnswer", .glo "BadOffer", .glo "BadStep", .glo "BadTurn", .glo "LendError", .free "len", .free "all", .free "tuple", .free "zip", .free "isinstance", .free "str", .free "int", .free "bool", .free "max", .free "range", .free "min", .free "sum", .free "ValueError", .int "MOST_WORD" 10, .int "MOST_SIDE" 3, .int "MOST_WISHES" 8, .int "MOST_WEIGHT" 9, .str "SMALL" "abcdefghijklmnopqrstuvwxyz0123456789", .exc "BadMake"]
def tabs : List He.Tab := []
def tfx : List ((Str × Option Str) × Str) := [(("_law_wishes_right", none), "_law_wishes_right.<locals>.<lambda>"), (("law", none), "law.<locals>.<lambda>")]
def exx (K : PySem.W.Frag) : Bool := exFB K && (tbNd tfx K && (kRepl K && true))
theorem facts {K : PySem.W.Frag} {h : Heap} {mg : Str → Option Value} {base : Heap} {w : World} (X : K.In h) (G : h.Ns mainGlobals mg) (c0 : He.SaysX fal fnl tabs (tfx.map (·.1)) exx w h K) (TB : ∀ p ∈ tfx.map (fun p => He.cT K p.1), LamX.TabB base mg p.1 p.2) : Fc K mg base (tbsOf K tfx) :=
  have c := c0.t.d
  have h0 := He.ba c0.more
  have h1 := He.ba h0.2
  have h2 := He.ba h1.2
  {
  g_mk_need := He.glo_ok X G (c.fact 0)
  g_is_word := He.glo_ok X G (c.fact 1)
  g_sides_of := He.glo_ok X G (c.fact 2)
  g_parts_of := He.glo_ok X G (c.fact 3)
  g_need_make := He.glo_ok X G (c.fact 4)
  g_is_fit := He.glo_ok X G (c.fact 5)
  g_fits := He.glo_ok X G (c.fact 6)
  g_need_wishes := He.glo_ok X G (c.fact 7)
  g_written_wishes := He.glo_ok X G (c.fact 8)
  g_read_wishes := He.glo_ok X G (c.fact 9)
  g_closeness := He.glo_ok X G (c.fact 10)
  g_weight_for := He.glo_ok X G (c.fact 11)
  g_weight_of := He.glo_ok X G (c.fact 12)
  g_law_cell := He.glo_ok X G (c.fact 13)
  g_law_drawn := He.glo_ok X G (c.fact 14)
  g_law_word := He.glo_ok X G (c.fact 15)
  g_law_told := He.glo_ok X G (c.fact 16)
  g_law_make := He.glo_ok X G (c.fact 17)
  g_law_pattern := He.glo_ok X G (c.fact 18)
  g_law_wishes := He.glo_ok X G (c.fact 19)
  g_law_parted := He.glo_ok X G (c.fact 20)
  g_law_fits := He.glo_ok X G (c.fact 21)
  g_law_no_makes := He.glo_ok X G (c.fact 22)
  g_law_no_wishes := He.glo_ok X G (c.fact 23)
  g_law_wishes_right := He.glo_ok X G (c.fact 24)
  g_law := He.glo_ok X G (c.fact 25)
  g_BadMake := He.glo_ok X G (c.fact 26)
  g_BadAnswer := He.glo_ok X G (c.fact 27)
  g_BadOffer := He.glo_ok X G (c.fact 28)
  g_BadStep := He.glo_ok X G (c.fact 29)
  g_BadTurn := He.glo_ok X G (c.fact 30)
  g_LendError := He.glo_ok X G (c.fact 31)
  z_len := He.free_ok X G (c.fact 32)
  z_all := He.free_ok X G (c.fact 33)
  z_tuple := He.free_ok X G (c.fact 34)
  z_zip := He.free_ok X G (c.fact 35)
  z_isinstance := He.free_ok X G (c.fact 36)
  z_str := He.free_ok X G (c.fact 37)
  z_int := He.free_ok X G (c.fact 38)
  z_bool := He.free_ok X G (c.fact 39)
  z_max := He.free_ok X G (c.fact 40)
  z_range := He.free_ok X G (c.fact 41)
  z_min := He.free_ok X G (c.fact 42)
  z_sum := He.free_ok X G (c.fact 43)
  z_ValueError := He.free_ok X G (c.fact 44)
  i_MOST_WORD := He.int_ok X G (c.fact 45)
  i_MOST_SIDE := He.int_ok X G (c.fact 46)
  i_MOST_WISHES := He.int_ok X G (c.fact 47)
  i_MOST_WEIGHT := He.int_ok X G (c.fact 48)
  s_SMALL := He.str_ok X G (c.fact 49)
  x_BadMake := He.exc_ok (c.fact 50)
  ex := exFB_ok h0.1
  l_law_wishes_right := TbF.of h1.1 TB 0
  l_law := TbF.of h1.1 TB 1
  sw := h2.1
  d_mk_need := c.def_ 0 (d := dd_mk_need)
  d_is_word := c.def_ 1 (d := dd_is_word)
  d_sides_of := c.def_ 2 (d := dd_sides_of)
  d_parts_of := c.def_ 3 (d := dd_parts_of)
  d_need_make := c.def_ 4 (d := dd_need_make)
  d_is_fit := c.def_ 5 (d := dd_is_fit)
  d_fits := c.def_ 6 (d := dd_fits)
  d_need_wishes := c.def_ 7 (d := dd_need_wishes)
  d_written_wishes := c.def_ 8 (d := dd_written_wishes)
  d_read_wishes := c.def_ 9 (d := dd_read_wishes)
  d_closeness := c.def_ 10 (d := dd_closeness)
  d_weight_for := c.def_ 11 (d := dd_weight_for)
  d_weight_of := c.def_ 12 (d := dd_weight_of)
  d_law_cell := c.def_ 13 (d := dd_law_cell)
  d_law_drawn := c.def_ 14 (d := dd_law_drawn)
  d_law_make := c.def_ 15 (d := dd_law_make)
  d_law_pattern := c.def_ 16 (d := dd_law_pattern)
  d_law_wishes := c.def_ 17 (d := dd_law_wishes)
  d_law_parted := c.def_ 18 (d := dd_law_parted)
  d_law_fits := c.def_ 19 (d := dd_law_fits)
  d_law_no_makes := c.def_ 20 (d := dd_law_no_makes)
  d_law_no_wishes := c.def_ 21 (d := dd_law_no_wishes)
  d_law_wishes_right := c.def_ 22 (d := dd_law_wishes_right)
  d_law := c.def_ 23 (d := dd_law)
  d_law_word := c.def_ 24 (d := dd_law_word)
  d_law_told := c.def_ 25 (d := dd_law_told)
  }
abbrev hk : PySem.W.Hook := hookY 4 fal fnl tabs (tfx.map (·.1)) exx
def ob (s : PySem.W.SharedT) : He.AlX := obsY 4 fal fnl tabs (tfx.map (·.1)) exx (HandSHeadRun.getT s)
theorem ob_eq (s : PySem.W.SharedT) : ob s = hk.obs s.abs := obsY_eq (HandSHeadRun.getT_eq s)
def nm0 : List PySem.Str := ["__name__", "LendError", "BadMake", "BadTurn", "BadOffer", "BadAnswer", "BadStep", "SMALL", "MOST_WORD", "MOST_SIDE", "MOST_WISHES", "MOST_WEIGHT", "need", "is_word", "sides_of", "parts_of", "need_make", "is_fit", "fits", "need_wishes", "written_wishes", "read_wishes", "closeness", "weight_for", "weight_of", "_law_cell", "_law_drawn", "_law_word", "_law_told", "_law_make"]
def nm1 : List PySem.Str := ["_law_pattern", "_law_wishes", "_law_parted", "_law_fits", "_law_no_makes", "_law_no_wishes", "_law_wishes_right"]
def nml : List PySem.Str := nm0 ++ nm1
abbrev R : PySem.W.OpenRow := PySem.W.OpenLaw.row PySem.Challenge.rw_lendboard_k10_makes_and_wishes
theorem run (w : World) : HandSHeadRun.RunEq R (PySem.W.view R.prog [39]) hk ob 4000 nml w := by
  intro os
  kernel_rfl
theorem finish {w : World} {K : PySem.W.Frag} {h : Heap} {mg : Str → Option Value} {fa : Addr} (X : K.In h) (G : h.Ns mainGlobals mg) (hmg : mg "law" = some (.ref fa)) (c : He.SaysX fal fnl tabs (tfx.map (·.1)) exx w h K) :
    ∃ K : PySem.W.Frag, K.In h ∧ LamX.LawAtS PySem.Challenge.rw_lendboard_k10_makes_and_wishes w K (L2N.CX PySem.Challenge.rw_lendboard_k10_makes_and_wishes.prog w) 9 63 "script" mg fa h :=
  finish_atL (tf := tfx) X hmg (He.glo_ok X G (c.t.d.fact 25)) c.hd c.out c.empty (fd_of (c.t.d.def_ 23 (d := dd_law)) (fun _ _ _ _ _ _ us hl => match us, hl with | [_], _ => rfl)) (fun base TB => ok_law (facts X G c TB)) law_ok
end K10
open PySem PySem.W PySem.Calls PyProof.Rows in
set_option maxRecDepth 100000 in
set_option maxHeartbeats 0 in
theorem PySem.Challenge.cw_lendboard_k10_makes_and_wishes_holds : PySem.Challenge.rw_lendboard_k10_makes_and_wishes.Holds := by
  w_on; o_law
  refine HandSHeadRun.head_any (r := OpenLaw.row PySem.Challenge.rw_lendboard_k10_makes_and_wishes) (q := view (OpenLaw.row PySem.Challenge.rw_lendboard_k10_makes_and_wishes).prog [39]) (H := K10.hk) (ob := K10.ob) (M := 4000) (loose := K10.nml) (d := HandSHeadRun.topDef (OpenLaw.row PySem.Challenge.rw_lendboard_k10_makes_and_wishes).prog 39) (kwd := []) K10.ob_eq
    (by kernel_rfl) (fun s => by kernel_rfl) K10.run (by kernel_rfl) (by kernel_rfl) (by kernel_rfl) (by rfl) (by first | assumption | decide +kernel) (by decide +kernel) ⟨rfl, rfl, rfl, rfl, rfl, by decide +kernel⟩ ?hw ?hc
  case hw => w_witness2
  case hc =>
    refine LamX.walk_ofTsE (l := PySem.Challenge.rw_lendboard_k10_makes_and_wishes) (n := 63) (k := 9) (x := "script") (CX := L2N.CX PySem.Challenge.rw_lendboard_k10_makes_and_wishes.prog) rfl (by decide) (by kernel_rfl) ⟨rfl, by decide, by decide⟩ ?F ?G
    case G =>
      intro w H s e s' z
      obtain ⟨_, _, _, _, _, _, _, _, _, _, _, _, z⟩ := z
      exact z
    intro w mg fa h Y G hmg0
    obtain ⟨K, KX, c⟩ := Y
    have hmg : mg ("law" : PySem.Str) = some (.ref fa) := by
      have e : (HandSHeadRun.topDef (OpenLaw.row PySem.Challenge.rw_lendboard_k10_makes_and_wishes).prog 39).name = ("law" : PySem.Str) := by kernel_rfl
      rw [← e]
      exact hmg0
    exact K10.finish KX G hmg c
