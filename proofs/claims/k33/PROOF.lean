import PyProof.Rows.All
import Wide.All
import OpenK.AllK
import Wide.FinOn
import HandS.ForMost
import HandS.IsInst
import HandS.ExcField
import HandS.ExcInit
import KE.DataEq
import KE.KStateDown
import HandS.Head0
import HandS.Head1
import HandS.Head2
import HandS.HeadEnd
import HandS.HeadHook1
import HandS.HeadHook2
import HandS.HeadHook3
import KE.KExcInit
import PySem.Challenge.RW_readsfrom_k33_no_programs_at_any_door
import HandS.ForExc
import HandS.TupAny
import HandS.Style
import HandS.Wide
import HandS.Zip
import HandS.SortInts
import HandS.RaiseMore
import HandS.WordsDict
import PyProof.ReprRoads
import HandS.Small
import HandS.EndBits
import HandS.More
import HandS.Conv
import KE.KDictSum
import KE.KUnpackStar
import KE.GoesZip
import KE.GoesMore
import HandS.Words
import HandS.Exc
import KE.KExcIs
import HandS.ExcIs
import HandS.Text
import PyProof.StrOps2
import HandS.Set
import HandS.SetFor
import HandS.SetTxt0
import HandS.Strs
import HandS.Sort
import KE.DataCmp
import HandS.StrMore
import HandS.Defaults
set_option Elab.async false
set_option linter.all false
section
set_option Elab.async false
set_option linter.all false
set_option maxRecDepth 100000
set_option maxHeartbeats 4000000
/-! DL1: trees (what a slot holds), their standing in the abstract heap, the state. -/
namespace DL
open PySem L2

/-- what a slot holds: data that never changes, a known object, an own list, dict, instance -/
inductive T where
  | d (x : PyData)
  | fn (n : Str)
  | scr (ns : List Int)
  | ty (n : String)
  | lst (xs : List T)
  | dct (kvs : List (Key × T))
  | ins (n : Str) (fs : List (Str × T))
  | fin (n : Str) (fs : List (Str × PyData))
  | exc (n : Str) (fs : List (Str × PyData))
  | tup (xs : List T)
  | opq (n : Nat)
  | hole
  | fns (ns : List Str)

abbrev Rho := List (Option T)

mutual
inductive Dr (K : PySem.W.Frag) (I : Hp) : V → PyData → Prop
  | non : Dr K I .non .none
  | bl (b : Bool) : Dr K I (.bl b) (.bool b)
  | int (i : Int) : Dr K I (.int i) (.int i)
  | str (x : Str) : Dr K I (.str x) (.str x)
  | lst {a : Addr} {xs : List V} {ds : List PyData} : I a = some (.lst xs) → DrAll K I xs ds → Dr K I (.ref a) (.list ds)
  | tup {a : Addr} {xs : List V} {ds : List PyData} : SqT K I a xs → DrAll K I xs ds → Dr K I (.ref a) (.tuple ds)
  | dct0 {a : Addr} : I a = some (.dK []) → Dr K I (.ref a) (.dict [])
inductive DrAll (K : PySem.W.Frag) (I : Hp) : List V → List PyData → Prop
  | nil : DrAll K I [] []
  | cons {v : V} {vs : List V} {d : PyData} {ds : List PyData} : Dr K I v d → DrAll K I vs ds → DrAll K I (v :: vs) (d :: ds)
end

/-- an exception's object, as it stands -/
def exq (a : Addr) (oe : Obj) : HO := .ext fun h => h.get? a = some oe
/-- a caught exception of the class called n, its fields -/
structure ExcAt (K : PySem.W.Frag) (I : Hp) (a : Addr) (n : Str) (fs : List (Str × PyData)) : Prop where
  at_ : ∃ (oe : Obj) (C : Addr) (vs : List V), I a = some (exq a oe) ∧ oe.cls = .ref C ∧ (∃ ws, oe.data = .fields ws) ∧ (fs ≠ [] → ∃ d, oe.dict = some d ∧ I d = some (.xd ((fs.map (·.1)).zip vs))) ∧ (fs = [] → oe.dict = none) ∧ DrAll K I vs (fs.map (·.2)) ∧
    PySem.W.nsIn K mainGlobals n = some (some (.ref C))
/-- an instance that never changes any more -/
structure FinAt (K : PySem.W.Frag) (I : Hp) (a : Addr) (n : Str) (fs : List (Str × PyData)) : Prop where
  at_ : ∃ (C dx : Addr) (kvs : List (Str × V)), PySem.W.nsIn K mainGlobals n = some (some (.ref C)) ∧ I a = some (.ins C dx kvs) ∧ I dx = some (.own a) ∧ kvs.map (·.1) = fs.map (·.1) ∧ DrAll K I (kvs.map (·.2)) (fs.map (·.2))
/-- own defs, by their names -/
inductive FnVs (K : PySem.W.Frag) : List V → List Str → Prop
  | nil : FnVs K [] []
  | cons {a : Addr} {n : Str} {vs : List V} {ns : List Str} : PySem.W.nsIn K mainGlobals n = some (some (.ref a)) → FnVs K vs ns → FnVs K (.ref a :: vs) (n :: ns)
theorem FnVs.len {K : PySem.W.Frag} : ∀ {vs : List V} {ns : List Str}, FnVs K vs ns → vs.length = ns.length
  | _, _, .nil => rfl
  | _, _, .cons _ h => by rw [List.length_cons, List.length_cons, h.len]
theorem FnVs.append {K : PySem.W.Frag} {us : List V} {ms : List Str} (h' : FnVs K us ms) : ∀ {vs : List V} {ns : List Str}, FnVs K vs ns → FnVs K (vs ++ us) (ns ++ ms)
  | _, _, .nil => h'
  | _, _, .cons a h => .cons a (FnVs.append h' h)
theorem FnVs.get {K : PySem.W.Frag} : ∀ {vs : List V} {ns : List Str} {i : Nat} {n : Str}, FnVs K vs ns → ns[i]? = some n → ∃ a, vs[i]? = some (.ref a) ∧ PySem.W.nsIn K mainGlobals n = some (some (.ref a))
  | _, _, 0, _, .cons (a := a) h _, e => by cases e; exact ⟨a, rfl, h⟩
  | _, _, i + 1, n, .cons _ h, e => by
    obtain ⟨a, h1, h2⟩ := FnVs.get (i := i) (n := n) h (by simpa using e)
    exact ⟨a, by simpa using h1, h2⟩
  | _, _, _, _, .nil, e => by cases e
mutual
inductive RepT (K : PySem.W.Frag) (I H : Hp) : V → T → List Addr → Prop
  | fns {a : Addr} {vs : List V} {ns : List Str} : I a = some (.lst vs) → FnVs K vs ns → RepT K I H (.ref a) (.fns ns) []
  | d {v : V} {x : PyData} : Dr K I v x → RepT K I H v (.d x) []
  | fn {a : Addr} {n : Str} : PySem.W.nsIn K mainGlobals n = some (some (.ref a)) → RepT K I H (.ref a) (.fn n) []
  | scr {a : Addr} {ns : List Int} : SqL K I a (ns.map V.int) → RepT K I H (.ref a) (.scr ns) []
  | ty {n : String} : RepT K I H (.ty n) (.ty n) []
  | exc {a : Addr} {n : Str} {fs : List (Str × PyData)} : ExcAt K I a n fs → RepT K I H (.ref a) (.exc n fs) []
  | lst {a : Addr} {vs : List V} {xs : List T} {F : List Addr} : H a = some (.lst vs) → RepTs K I H vs xs F → RepT K I H (.ref a) (.lst xs) (a :: F)
  | tup {a : Addr} {vs : List V} {xs : List T} {F : List Addr} : SqT K I a vs → RepTs K I H vs xs F → RepT K I H (.ref a) (.tup xs) F
  | hole {v : V} : RepT K I H v .hole []
  | opq {a : Addr} {vs : List V} {n : Nat} : H a = some (.lst vs) → vs.length = n → RepT K I H (.ref a) (.opq n) [a]
  | dct {a : Addr} {kvs : List (Key × V)} {vs : List V} {xs : List T} {ts : List (Key × T)} {F : List Addr} : H a = some (.dK kvs) → kvs.map (·.1) = ts.map (·.1) → vs = kvs.map (·.2) → xs = ts.map (·.2) → RepTs K I H vs xs F →
      RepT K I H (.ref a) (.dct ts) (a :: F)
  | ins {a C dx : Addr} {n : Str} {kvs : List (Str × V)} {vs : List V} {xs : List T} {ts : List (Str × T)} {F : List Addr} : PySem.W.nsIn K mainGlobals n = some (some (.ref C)) → H a = some (.ins C dx kvs) → H dx = some (.own a) → kvs.map (·.1) = ts.map (·.1) → vs = kvs.map (·.2) → xs = ts.map (·.2) → RepTs K I H vs xs F →
      RepT K I H (.ref a) (.ins n ts) (a :: dx :: F)
  | fin {a : Addr} {n : Str} {fs : List (Str × PyData)} : FinAt K I a n fs → RepT K I H (.ref a) (.fin n fs) []
inductive RepTs (K : PySem.W.Frag) (I H : Hp) : List V → List T → List Addr → Prop
  | nil : RepTs K I H [] [] []
  | cons {v : V} {vs : List V} {t : T} {ts : List T} {F G : List Addr} : RepT K I H v t F → RepTs K I H vs ts G → RepTs K I H (v :: vs) (t :: ts) (F ++ G)
end

/-- the slots -/
inductive RepR (K : PySem.W.Frag) (I H : Hp) : St → Rho → List Addr → Prop
  | nil : RepR K I H [] [] []
  | hid {o : Option V} {σ : St} {ρ : Rho} {F : List Addr} : RepR K I H σ ρ F → RepR K I H (o :: σ) (none :: ρ) F
  | has {v : V} {t : T} {σ : St} {ρ : Rho} {F G : List Addr} : RepT K I H v t F → RepR K I H σ ρ G → RepR K I H (some v :: σ) (some t :: ρ) (F ++ G)

theorem rd_mono {I I' : Hp} (e : Same I I') {a : Addr} {u : HO} (h : Rd I a u) : Rd I' a u := by
  rcases h with h | ⟨o, h⟩
  · exact .inl (e _ _ h)
  · exact .inr ⟨o, e _ _ h⟩
theorem st_mono {K : PySem.W.Frag} {I I' : Hp} (e : Same I I') {a : Addr} {xs : List V} (h : SqT K I a xs) : SqT K I' a xs := by
  rcases h with h | h
  · exact .inl (rd_mono e h)
  · exact .inr h
mutual
theorem dr_mono {K : PySem.W.Frag} {I I' : Hp} (e : Same I I') : ∀ {x : PyData} {v : V}, Dr K I v x → Dr K I' v x
  | _, _, .non => .non
  | _, _, .bl b => .bl b
  | _, _, .int i => .int i
  | _, _, .str x => .str x
  | _, _, .lst h r => .lst (e _ _ h) (drAll_mono e r)
  | _, _, .tup h r => .tup (st_mono e h) (drAll_mono e r)
  | _, _, .dct0 h => .dct0 (e _ _ h)
theorem drAll_mono {K : PySem.W.Frag} {I I' : Hp} (e : Same I I') : ∀ {xs : List PyData} {vs : List V}, DrAll K I vs xs → DrAll K I' vs xs
  | _, _, .nil => .nil
  | _, _, .cons h t => .cons (dr_mono e h) (drAll_mono e t)
end
mutual
theorem Dr.dp {K : PySem.W.Frag} {I : Hp} : ∀ {x : PyData} {v : V}, Dr K I v x → x.plain = true → Dp K I v x
  | _, _, .non, _ => .non
  | _, _, .bl b, _ => .bl b
  | _, _, .int i, _ => .int i
  | _, _, .str x, _ => .str x
  | _, _, .lst h r, p => .lst (SqL.of h) (DrAll.dp r (by simpa [PyData.plain] using p))
  | _, _, .tup h r, p => .tup h (DrAll.dp r (by simpa [PyData.plain] using p))
  | _, _, .dct0 h, p => by simp [PyData.plain] at p
theorem DrAll.dp {K : PySem.W.Frag} {I : Hp} : ∀ {xs : List PyData} {vs : List V}, DrAll K I vs xs → PyData.plainAll xs = true → DpAll K I vs xs
  | _, _, .nil, _ => .nil
  | _, _, .cons h t, p => by
    have q := (Bool.and_eq_true _ _).mp (by simpa [PyData.plainAll] using p)
    exact .cons (Dr.dp h q.1) (DrAll.dp t q.2)
end

theorem ExcAt.mono {K : PySem.W.Frag} {I I' : Hp} (e : Same I I') {a : Addr} {n : Str} {fs : List (Str × PyData)} (h : ExcAt K I a n fs) : ExcAt K I' a n fs := by
  obtain ⟨oe, C, vs, h1, h2, h3, h4, h5, h6, h7⟩ := h.at_
  exact ⟨oe, C, vs, e _ _ h1, h2, h3, fun z => by obtain ⟨d, z1, z2⟩ := h4 z; exact ⟨d, z1, e _ _ z2⟩, h5, drAll_mono e h6, h7⟩
theorem FinAt.mono {K : PySem.W.Frag} {I I' : Hp} (e : Same I I') {a : Addr} {n : Str} {fs : List (Str × PyData)} (h : FinAt K I a n fs) : FinAt K I' a n fs := by
  obtain ⟨C, dx, kvs, h1, h2, h3, h4, h5⟩ := h.at_
  exact ⟨C, dx, kvs, h1, e _ _ h2, e _ _ h3, h4, drAll_mono e h5⟩
mutual
theorem RepT.mono {K : PySem.W.Frag} {I I' H H' : Hp} (e : Same I I') : ∀ {v : V} {t : T} {F : List Addr}, RepT K I H v t F → (∀ a ∈ F, H' a = H a) → RepT K I' H' v t F
  | _, _, _, .d h, _ => .d (dr_mono e h)
  | _, _, _, .fn h, _ => .fn h
  | _, _, _, .scr h, _ => .scr (e.seq h)
  | _, _, _, .fns h q, _ => .fns (e _ _ h) q
  | _, _, _, .ty, _ => .ty
  | _, _, _, .exc h, _ => .exc (h.mono e)
  | _, _, _, .lst h r, k => .lst (by rw [k _ (by simp)]; exact h) (RepTs.mono e r fun a m => k a (by simp [m]))
  | _, _, _, .tup h r, k => .tup (st_mono e h) (RepTs.mono e r k)
  | _, _, _, .hole, _ => .hole
  | _, _, _, .opq h z, k => .opq (by rw [k _ (by simp)]; exact h) z
  | _, _, _, .dct h a b c r, k => .dct (by rw [k _ (by simp)]; exact h) a b c (RepTs.mono e r fun a m => k a (by simp [m]))
  | _, _, _, .fin h, _ => .fin (h.mono e)
  | _, _, _, .ins n0 h o a b c r, k => .ins n0 (by rw [k _ (by simp)]; exact h) (by rw [k _ (by simp)]; exact o) a b c (RepTs.mono e r fun a m => k a (by simp [m]))
theorem RepTs.mono {K : PySem.W.Frag} {I I' H H' : Hp} (e : Same I I') : ∀ {vs : List V} {ts : List T} {F : List Addr}, RepTs K I H vs ts F → (∀ a ∈ F, H' a = H a) → RepTs K I' H' vs ts F
  | _, _, _, .nil, _ => .nil
  | _, _, _, .cons h r, k => .cons (RepT.mono e h fun a m => k a (by simp [m])) (RepTs.mono e r fun a m => k a (by simp [m]))
end
theorem RepR.mono {K : PySem.W.Frag} {I I' H H' : Hp} (e : Same I I') : ∀ {σ : St} {ρ : Rho} {F : List Addr}, RepR K I H σ ρ F → (∀ a ∈ F, H' a = H a) → RepR K I' H' σ ρ F
  | _, _, _, .nil, _ => .nil
  | _, _, _, .hid r, k => .hid (RepR.mono e r k)
  | _, _, _, .has h r, k => .has (RepT.mono e h fun a m => k a (by simp [m])) (RepR.mono e r fun a m => k a (by simp [m]))

/-- the entry: the data's heap, the heap, the own objects -/
structure Bs where
  I : Hp
  H : Hp
  F : List Addr
  s : St
/-- I is the data's part of the heap H, F the own objects -/
structure Sit (B : Bs) (I H : Hp) (F : List Addr) : Prop where
  sub : Same I H
  ext : Same B.I I
  keep : ∀ a o, a ∉ B.F → B.H a = some o → H a = some o
  new : ∀ a o, I a = some o → B.I a = some o ∨ B.H a = none ∨ a ∈ B.F
  fr : ∀ a ∈ F, a ∈ B.F ∨ B.H a = none
  own : ∀ a ∈ F, I a = none
  thr : ∀ a ∈ F, H a ≠ none
  nd : F.Nodup

section
variable {B : Bs} {I H : Hp} {F G : List Addr}
theorem Sit.fresh (s : Sit B I H F) {p : Addr} (h : H p = none) : p ∉ F ∧ I p = none ∧ (B.H p = none ∨ p ∈ B.F) := by
  refine ⟨fun m => s.thr p m h, ?_, ?_⟩
  · cases e : I p with
    | none => rfl
    | some o => rw [s.sub p o e] at h; cases h
  · by_cases m : p ∈ B.F
    · exact .inr m
    · cases e : B.H p with
      | none => exact .inl rfl
      | some o => rw [s.keep p o m e] at h; cases h
/-- a new object of the data -/
theorem Sit.newD (s : Sit B I H F) {p : Addr} {o : HO} (h : H p = none) : Sit B (upd I p o) (upd H p o) F := by
  obtain ⟨h1, h2, h3⟩ := s.fresh h
  refine ⟨fun a u e => ?_, fun a u e => ?_, fun a u m e => ?_, fun a u e => ?_, s.fr, fun a m => ?_, fun a m => ?_, s.nd⟩
  · by_cases q : a = p
    · subst q; rw [upd_same] at e ⊢; exact e
    · rw [upd_ne q] at e ⊢; exact s.sub a u e
  · rw [upd_ne (ne_of_none (s.ext a u e) h2)]; exact s.ext a u e
  · rw [upd_ne (ne_of_none (s.keep a u m e) h)]; exact s.keep a u m e
  · by_cases q : a = p
    · subst q; exact .inr h3
    · rw [upd_ne q] at e; exact s.new a u e
  · rw [upd_ne (show a ≠ p from fun q => h1 (by rw [← q]; exact m))]; exact s.own a m
  · rw [upd_ne (show a ≠ p from fun q => h1 (by rw [← q]; exact m))]; exact s.thr a m
/-- a new own object -/
theorem Sit.newO (s : Sit B I H F) {p : Addr} {o : HO} (h : H p = none) : Sit B I (upd H p o) (p :: F) := by
  obtain ⟨h1, h2, h3⟩ := s.fresh h
  refine ⟨fun a u e => ?_, s.ext, fun a u m e => ?_, s.new, fun a m => ?_, fun a m => ?_, fun a m => ?_, ?_⟩
  · rw [upd_ne (ne_of_none e h2)]; exact s.sub a u e
  · rw [upd_ne (ne_of_none (s.keep a u m e) h)]; exact s.keep a u m e
  · rcases List.mem_cons.mp m with q | q
    · rw [q]; exact h3.symm
    · exact s.fr a q
  · rcases List.mem_cons.mp m with q | q
    · rw [q]; exact h2
    · exact s.own a q
  · rcases List.mem_cons.mp m with q | q
    · rw [q, upd_same]; intro z; cases z
    · rw [upd_ne (show a ≠ p from fun z => h1 (by rw [← z]; exact q))]; exact s.thr a q
  · exact List.nodup_cons.mpr ⟨h1, s.nd⟩
/-- an own object is written -/
theorem Sit.write (s : Sit B I H F) {p : Addr} {o : HO} (m : p ∈ F) : Sit B I (upd H p o) F := by
  refine ⟨fun a u e => ?_, s.ext, fun a u n e => ?_, s.new, s.fr, s.own, fun a q => ?_, s.nd⟩
  · have : a ≠ p := fun q => by rw [q, s.own p m] at e; cases e
    rw [upd_ne this]; exact s.sub a u e
  · have : a ≠ p := fun q => by
      rcases s.fr p m with z | z
      · exact n (q ▸ z)
      · rw [q, z] at e; cases e
    rw [upd_ne this]; exact s.keep a u n e
  · by_cases z : a = p
    · rw [z, upd_same]; intro z; cases z
    · rw [upd_ne z]; exact s.thr a q
/-- fewer own objects -/
theorem Sit.less (s : Sit B I H F) (h : ∀ a ∈ G, a ∈ F) (nd : G.Nodup) : Sit B I H G :=
  ⟨s.sub, s.ext, s.keep, s.new, fun a m => s.fr a (h a m), fun a m => s.own a (h a m), fun a m => s.thr a (h a m), nd⟩
theorem Sit.perm (s : Sit B I H F) (h : List.Perm F G) : Sit B I H G := s.less (fun a m => h.mem_iff.mpr m) (h.nodup_iff.mp s.nd)
end

/-- the slots that are never stored to (m) are as at the entry -/
def Kept (m : List Bool) (B : Bs) (σ : St) : Prop := ∀ i : Nat, m[i]? = some true → σ[i]? = B.s[i]?
/-- the state: slots and what is pending -/
def Ok (K : PySem.W.Frag) (m : List Bool) (B : Bs) (σ : St) (H : Hp) (ρ : Rho) (ws : List V) (ts : List T) : Prop :=
  ∃ I Fr Fw, Sit B I H (Fr ++ Fw) ∧ RepR K I H σ ρ Fr ∧ RepTs K I H ws ts Fw ∧ Kept m B σ

section
variable {K : PySem.W.Frag} {m : List Bool} {B : Bs} {σ : St} {H : Hp} {ρ : Rho} {ws : List V} {ts : List T} {x y v : V} {t u : T} {d e : PyData}

theorem Ok.pop (h : Ok K m B σ H ρ (x :: ws) (t :: ts)) : Ok K m B σ H ρ ws ts := by
  obtain ⟨I, Fr, Fw, s, r, w, km⟩ := h
  cases w with
  | cons a b =>
    rename_i F G
    refine ⟨I, Fr, G, s.less (fun q m => ?_) ?_, r, b, km⟩
    · rcases List.mem_append.mp m with z | z
      · exact List.mem_append.mpr (.inl z)
      · exact List.mem_append.mpr (.inr (List.mem_append.mpr (.inr z)))
    · have := s.nd
      exact (List.Sublist.nodup (List.Sublist.append (List.Sublist.refl _) (List.sublist_append_right F G)) this)
theorem Ok.swap (h : Ok K m B σ H ρ (x :: y :: ws) (t :: u :: ts)) : Ok K m B σ H ρ (y :: x :: ws) (u :: t :: ts) := by
  obtain ⟨I, Fr, Fw, s, r, w, km⟩ := h
  cases w with
  | cons a b =>
    cases b with
    | cons b c =>
      refine ⟨I, Fr, _, s.perm ?_, r, .cons b (.cons a c), km⟩
      refine List.Perm.append_left _ ?_
      rw [← List.append_assoc, ← List.append_assoc]
      exact List.Perm.append_right _ List.perm_append_comm
theorem Ok.pop2 (h : Ok K m B σ H ρ (x :: y :: ws) (t :: u :: ts)) : Ok K m B σ H ρ (x :: ws) (t :: ts) := h.swap.pop
/-- something that every data's heap has -/
theorem Ok.push (h : Ok K m B σ H ρ ws ts) (q : ∀ I, Dr K I x d) : Ok K m B σ H ρ (x :: ws) (.d d :: ts) := by
  obtain ⟨I, Fr, Fw, s, r, w, km⟩ := h
  exact ⟨I, Fr, Fw, s, r, .cons (F := []) (.d (q I)) w, km⟩
theorem Ok.pushFn {a : Addr} {n : Str} (hn : PySem.W.nsIn K mainGlobals n = some (some (.ref a))) (h : Ok K m B σ H ρ ws ts) : Ok K m B σ H ρ (.ref a :: ws) (.fn n :: ts) := by
  obtain ⟨I, Fr, Fw, s, r, w, km⟩ := h
  exact ⟨I, Fr, Fw, s, r, .cons (F := []) (.fn hn) w, km⟩
theorem Ok.pushTy {n : String} (h : Ok K m B σ H ρ ws ts) : Ok K m B σ H ρ (.ty n :: ws) (.ty n :: ts) := by
  obtain ⟨I, Fr, Fw, s, r, w, km⟩ := h
  exact ⟨I, Fr, Fw, s, r, .cons (F := []) .ty w, km⟩
theorem Ok.topTy {n : String} (h : Ok K m B σ H ρ (x :: ws) (.ty n :: ts)) : x = .ty n := by
  obtain ⟨I, Fr, Fw, s, r, w, km⟩ := h
  cases w with
  | cons a b => cases a; rfl
theorem Ok.int {i : Int} (h : Ok K m B σ H ρ ws ts) : Ok K m B σ H ρ (.int i :: ws) (.d (.int i) :: ts) := h.push fun _ => .int i
theorem Ok.str {i : Str} (h : Ok K m B σ H ρ ws ts) : Ok K m B σ H ρ (.str i :: ws) (.d (.str i) :: ts) := h.push fun _ => .str i
theorem Ok.bl {i : Bool} (h : Ok K m B σ H ρ ws ts) : Ok K m B σ H ρ (.bl i :: ws) (.d (.bool i) :: ts) := h.push fun _ => .bl i
theorem Ok.non (h : Ok K m B σ H ρ ws ts) : Ok K m B σ H ρ (.non :: ws) (.d .none :: ts) := h.push fun _ => .non
/-- what stands on top -/
theorem Ok.topD (h : Ok K m B σ H ρ (x :: ws) (.d d :: ts)) : Dr K H x d := by
  obtain ⟨I, Fr, Fw, s, r, w, km⟩ := h
  cases w with
  | cons a b =>
    cases a with
    | d q => exact dr_mono s.sub q
theorem Ok.dup (h : Ok K m B σ H ρ (x :: ws) (.d d :: ts)) : Ok K m B σ H ρ (x :: x :: ws) (.d d :: .d d :: ts) := by
  obtain ⟨I, Fr, Fw, s, r, w, km⟩ := h
  cases w with
  | cons a b =>
    cases a with
    | d q => exact ⟨I, Fr, _, s, r, .cons (F := []) (.d q) (.cons (F := []) (.d q) b), km⟩
/-- a part of what stands on top, in its stead -/
theorem Ok.part (h : Ok K m B σ H ρ (x :: ws) (.d d :: ts)) (q : ∀ I, Same I H → Dr K I x d → Dr K I y e) : Ok K m B σ H ρ (y :: ws) (.d e :: ts) := by
  obtain ⟨I, Fr, Fw, s, r, w, km⟩ := h
  cases w with
  | cons a b =>
    cases a with
    | d z => exact ⟨I, Fr, _, s, r, .cons (F := []) (.d (q I s.sub z)) b, km⟩
theorem Ok.topInt {i : Int} (h : Ok K m B σ H ρ (x :: ws) (.d (.int i) :: ts)) : x = .int i := by
  have q := h.topD
  cases q
  rfl
theorem Ok.topStr {i : Str} (h : Ok K m B σ H ρ (x :: ws) (.d (.str i) :: ts)) : x = .str i := by
  have q := h.topD
  cases q
  rfl
theorem Ok.topBl {i : Bool} (h : Ok K m B σ H ρ (x :: ws) (.d (.bool i) :: ts)) : x = .bl i := by
  have q := h.topD
  cases q
  rfl
theorem Ok.topNon (h : Ok K m B σ H ρ (x :: ws) (.d .none :: ts)) : x = .non := by
  have q := h.topD
  cases q
  rfl
theorem Ok.topFn {n : Str} (h : Ok K m B σ H ρ (x :: ws) (.fn n :: ts)) : ∃ a, x = .ref a ∧ PySem.W.nsIn K mainGlobals n = some (some (.ref a)) := by
  obtain ⟨I, Fr, Fw, s, r, w, km⟩ := h
  cases w with
  | cons a b =>
    cases a with
    | fn h => exact ⟨_, rfl, h⟩

/-! pending data in a row -/
theorem RepTs.append {I : Hp} {F G : List Addr} : ∀ {vs ws : List V} {ts us : List T}, RepTs K I H vs ts F → RepTs K I H ws us G → ∃ E, RepTs K I H (vs ++ ws) (ts ++ us) E ∧ E = F ++ G
  | [], _, _, _, .nil, w => ⟨_, w, rfl⟩
  | _ :: _, _, _, _, .cons a b, w => by
    obtain ⟨E, q, e⟩ := RepTs.append b w
    exact ⟨_, .cons a q, by rw [e, List.append_assoc]⟩
theorem RepTs.split {I : Hp} : ∀ {vs ws : List V} {ts us : List T} {F : List Addr}, vs.length = ts.length → RepTs K I H (vs ++ ws) (ts ++ us) F → ∃ G E, F = G ++ E ∧ RepTs K I H vs ts G ∧ RepTs K I H ws us E
  | [], _, [], _, F, _, r => ⟨[], F, rfl, .nil, r⟩
  | [], _, _ :: _, _, _, l, _ => nomatch l
  | _ :: _, _, [], _, _, l, _ => nomatch l
  | _ :: vs, ws, _ :: ts, us, _, l, r => by
    cases r with
    | cons a b =>
      obtain ⟨G, E, e, p, q⟩ := RepTs.split (vs := vs) (ts := ts) (by simpa using l) b
      exact ⟨_, E, by rw [e, ← List.append_assoc], .cons a p, q⟩
theorem RepTs.len {I : Hp} : ∀ {vs : List V} {ts : List T} {F : List Addr}, RepTs K I H vs ts F → vs.length = ts.length
  | _, _, _, .nil => rfl
  | _, _, _, .cons _ r => by simp [RepTs.len r]
theorem RepTs.ofD {I : Hp} : ∀ {vs : List V} {ds : List PyData}, DrAll K I vs ds → RepTs K I H vs (ds.map T.d) []
  | _, _, .nil => .nil
  | _, _, .cons a b => .cons (F := []) (.d a) (RepTs.ofD b)
theorem RepTs.toD {I : Hp} : ∀ {vs : List V} {ds : List PyData} {F : List Addr}, RepTs K I H vs (ds.map T.d) F → DrAll K I vs ds ∧ F = []
  | _, [], _, .nil => ⟨.nil, rfl⟩
  | _, _ :: _, _, .cons (.d a) b => by
    obtain ⟨p, q⟩ := RepTs.toD b
    exact ⟨.cons a p, by rw [q]; rfl⟩
theorem DrAll.len {I : Hp} : ∀ {vs : List V} {ds : List PyData}, DrAll K I vs ds → vs.length = ds.length
  | _, _, .nil => rfl
  | _, _, .cons _ r => by simp [DrAll.len r]
theorem DrAll.get {I : Hp} : ∀ {vs : List V} {ds : List PyData} {i : Nat} {v : V}, DrAll K I vs ds → vs[i]? = some v → ∃ d, ds[i]? = some d ∧ Dr K I v d
  | _, _, _, _, .nil, e => by simp at e
  | _, _, 0, _, .cons a _, e => by simp at e; subst e; exact ⟨_, rfl, a⟩
  | _, _, i + 1, v, .cons _ b, e => by
    obtain ⟨d, p, q⟩ := DrAll.get (i := i) (v := v) b (by simpa using e)
    exact ⟨d, by simpa using p, q⟩
theorem DrAll.get' {I : Hp} : ∀ {vs : List V} {ds : List PyData} {i : Nat} {d : PyData}, DrAll K I vs ds → ds[i]? = some d → ∃ v, vs[i]? = some v ∧ Dr K I v d
  | _, _, _, _, .nil, e => by simp at e
  | _, _, 0, _, .cons a _, e => by simp at e; subst e; exact ⟨_, rfl, a⟩
  | _, _, i + 1, d, .cons _ b, e => by
    obtain ⟨v, p, q⟩ := DrAll.get' (i := i) (d := d) b (by simpa using e)
    exact ⟨v, by simpa using p, q⟩
theorem DrAll.append {I : Hp} : ∀ {vs ws : List V} {ds es : List PyData}, DrAll K I vs ds → DrAll K I ws es → DrAll K I (vs ++ ws) (ds ++ es)
  | _, _, _, _, .nil, w => w
  | _, _, _, _, .cons a b, w => .cons a (DrAll.append b w)
theorem DrAll.take {I : Hp} : ∀ {vs : List V} {ds : List PyData} (n : Nat), DrAll K I vs ds → DrAll K I (vs.take n) (ds.take n)
  | _, _, 0, _ => .nil
  | _, _, _ + 1, .nil => .nil
  | _, _, n + 1, .cons a b => .cons a (DrAll.take n b)
theorem DrAll.drop {I : Hp} : ∀ {vs : List V} {ds : List PyData} (n : Nat), DrAll K I vs ds → DrAll K I (vs.drop n) (ds.drop n)
  | _, _, 0, r => r
  | _, _, _ + 1, .nil => .nil
  | _, _, n + 1, .cons _ b => DrAll.drop n b
theorem DrAll.reverse {I : Hp} : ∀ {vs : List V} {ds : List PyData}, DrAll K I vs ds → DrAll K I vs.reverse ds.reverse
  | _, _, .nil => .nil
  | _, _, .cons a b => by
    rw [List.reverse_cons, List.reverse_cons]
    exact DrAll.append (DrAll.reverse b) (.cons a .nil)
theorem DrAll.rep {I : Hp} {vs : List V} {ds : List PyData} (h : DrAll K I vs ds) : ∀ n : Nat, DrAll K I (List.replicate n vs).flatten (List.replicate n ds).flatten
  | 0 => .nil
  | n + 1 => by
    rw [List.replicate_succ, List.replicate_succ, List.flatten_cons, List.flatten_cons]
    exact DrAll.append h (DrAll.rep h n)
theorem DrAll.erase {I : Hp} : ∀ {vs : List V} {ds : List PyData} (n : Nat), DrAll K I vs ds → DrAll K I (vs.eraseIdx n) (ds.eraseIdx n)
  | _, _, _, .nil => .nil
  | _, _, 0, .cons _ b => b
  | _, _, n + 1, .cons a b => .cons a (DrAll.erase n b)
end
end DL
end
section
set_option Elab.async false
set_option linter.all false
set_option maxRecDepth 100000
set_option maxHeartbeats 4000000
/-! DMO1: a head by facts: what is looked at. -/
namespace DL
open PySem L2 He PySem.Spec PyProof.Rows
/-- the objects at the addresses, each written out once -/
def frK {α : Type} (g : Addr → Option Obj) : List Addr → (PySem.W.Frag → α) → α
  | [], k => k []
  | a :: as, k => HandSHeadRun.frNat a fun a => match g a with
    | none => frK g as k
    | some o => frK g as fun K => k ((a, o) :: K)
/-- what the module's name x stands for -/
def nsG (g : Addr → Option Obj) (x : Str) : Addr := match g mainGlobals with
  | some ⟨_, _, .dict es _, _⟩ => (match es.toList.find? (fun e => e.key.isStr x) with
    | some ⟨_, _, .ref a⟩ => a
    | _ => 0)
  | _ => 0
def needs (g : Addr → Option Obj) : Nat → List Addr → List Addr
  | 0, as => as
  | n + 1, as => as.flatMap fun a => a :: (match g a with
    | some o => needs g n (refsD o)
    | none => [])
def needX (g : Addr → Option Obj) (xs : List Str) : List Addr := mainGlobals :: needs g 3 (xs.map fun x => nsG g x)
abbrev AlM : Type := AlT × Bool
def obsM (fn : List DefD) (ts : List Str) (eb : PySem.W.Frag → Bool) (K : PySem.W.Frag) : AlM := ((obsD [] fn K, ts.map fun x => dicW K (ga K x)), eb K)
def valM (fn : List DefD) (ts : List (Str × List Str)) (w : World) : AlM := ((valD fn, ts.map fun t => some (keysIn w.params t.2)), true)
abbrev SaysM (fn : List DefD) (ts : List (Str × List Str)) (eb : PySem.W.Frag → Bool) (w : World) (K : PySem.W.Frag) : Prop := obsM fn (ts.map Prod.fst) eb K = valM fn ts w
abbrev hookM (xs : List Str) (fn : List DefD) (ts : List (Str × List Str)) (eb : PySem.W.Frag → Bool) : PySem.W.Hook where
  α := AlM
  obs := fun s => obsM fn (ts.map Prod.fst) eb (frG s.heap.get? (needX s.heap.get? xs))
  val := fun w => valM fn ts w
  says := fun w h => ∃ K : PySem.W.Frag, K.In h ∧ SaysM fn ts eb w K
  of := fun _ _ e => ⟨_, frG_in, e⟩
  keeps := fun _ _ _ ⟨K, hK, c⟩ k => ⟨K, PySem.W.Frag.In.keeps hK k, c⟩
def obK {α : Type} (xs : List Str) (f : PySem.W.Frag → α) (s : PySem.W.SharedT) : α := frK (HandSHeadRun.getT s) (needX (HandSHeadRun.getT s) xs) f
def obM (xs : List Str) (fn : List DefD) (ts : List (Str × List Str)) (eb : PySem.W.Frag → Bool) (s : PySem.W.SharedT) : AlM := obK xs (obsM fn (ts.map Prod.fst) eb) s
def dFn (x : Str) (st : Stmt) : DefD := ⟨(x, none), x, x, defArgs st, defBody st, defScope st, [], []⟩
def dFk (x : Str) (st : Stmt) (kws : List (Str × Dv)) : DefD := ⟨(x, none), x, x, defArgs st, defBody st, defScope st, [], kws⟩
def dMt (cn m qual : Str) (st : Stmt) : DefD := ⟨(cn, some m), m, qual, defArgs st, defBody st, defScope st, [], []⟩
def dMk (cn m qual : Str) (st : Stmt) (kws : List (Str × Dv)) : DefD := ⟨(cn, some m), m, qual, defArgs st, defBody st, defScope st, [], kws⟩
mutual
def kdB (K : PySem.W.Frag) : PyData → Value → Bool
  | .none, u => (match u with
    | .none => true
    | _ => false)
  | .bool b, u => (match u with
    | .bool c => b == c
    | _ => false)
  | .int i, u => (match u with
    | .int j _ => decide (i = j)
    | _ => false)
  | .str x, u => (match u with
    | .str y _ => decide (x = y)
    | _ => false)
  | .tuple ds, u => (match u with
    | .ref a => (match K.lookup a with
      | some ⟨.type c, _, .seq its _, _⟩ => decide (c = "tuple") && (decide (its.size ≤ sizeLine) && kdsB K ds its.toList)
      | _ => false)
    | _ => false)
  | .list _, _ => false
  | .dict _, _ => false
def kdsB (K : PySem.W.Frag) : List PyData → List Value → Bool
  | [], us => us.isEmpty
  | d :: ds, us => (match us with
    | u :: us => kdB K d u && kdsB K ds us
    | [] => false)
end
def hdB (K : PySem.W.Frag) (x : Str) (d : PyData) : Bool := match PySem.W.nsIn K mainGlobals x with
  | some (some u) => kdB K d u
  | _ => false
def entB (K : PySem.W.Frag) : List (Str × T) → List DictEntry → Bool
  | [], es => es.isEmpty
  | (z, t) :: kvs, es => (match es with
    | e :: es => (match e.key with
      | .str y _ => decide (y = z)
      | _ => false) && ((match t with
      | .fn n => (Fa.glo n).ok K && (match e.val with
        | .ref a => decide (a = ga K n)
        | _ => false)
      | .d d => kdB K d e.val
      | _ => false) && entB K kvs es)
    | [] => false)
def tabB (K : PySem.W.Frag) (x : Str) (kvs : List (Str × T)) : Bool := (Fa.glo x).ok K && (match K.lookup (ga K x) with
  | some ⟨_, _, .dict es _, _⟩ => decide (es.size ≤ sizeLine) && entB K kvs es.toList
  | _ => false)
def oexB (K : PySem.W.Frag) (C : Addr) (bmB : List Value) (newId : String) : Bool := (match K.lookup C with
  | some ⟨.type c, _, .cls cd, sl⟩ => (match cd.mro, sl.toList with
    | .ref C' :: bm, [_, _, _, _, some (.builtin n), _] => decide (c = "type") && (decide (C' = C) && (decide (n = newId) && (!cd.hasDel && (cd.hasDict && PySem.W.excTail bmB bm))))
    | _, _ => false)
  | _ => false) && (eqO (PySem.W.findIn K (.ref C) "__setattr__") (some (some (.builtin "object.__setattr__"))) && (decide (PySem.W.subIn K (.ref C) (.type "BaseException") = some true) && (decide (PySem.W.typeIn K (.ref C) = some (.type "type")) && (PySem.W.keepIn K (.ref C) && PySem.W.hasDictIn K C))))
def e0B (K : PySem.W.Frag) (n : Str) (fs : List Str) (bmB : List Value) (newId : String) : Bool := (Fa.glo n).ok K && (oexB K (ga K n) bmB newId && (eqO (PySem.W.findIn K (.ref (ga K n)) "__init__") (some (some (.ref (ma K (ga K n) "__init__")))) && (decide (PySem.W.typeIn K (.ref (ma K (ga K n) "__init__")) = some (.type "function")) && fs.all fun f => eqO (PySem.W.findIn K (.ref (ga K n)) f) (some none))))
def biB (K : PySem.W.Frag) (B iid : String) : Bool := (match PySem.W.findCls K (.type B) (.type "type") "__init__" with
  | some (.val (.builtin i)) => decide (i = iid)
  | _ => false)
def exmB (K : PySem.W.Frag) (n : Str) : Bool := (Fa.glo n).ok K && (decide (PySem.W.subIn K (.ref (ga K n)) (.type "BaseException") = some true) && (PySem.W.hasDictIn K (ga K n) && (decide (PySem.W.typeIn K (.ref (ga K n)) = some (.type "type")) && decide (PySem.W.subIn K (.ref (ga K n)) (.ref (ga K n)) = some true))))
def xfB (K : PySem.W.Frag) (n f : Str) : Bool := (Fa.glo n).ok K && (eqO (PySem.W.findIn K (.ref (ga K n)) "__getattribute__") (some (some (.builtin "BaseException.__getattribute__"))) && (eqO (PySem.W.findIn K (.ref (ga K n)) "__getattr__") (some none) &&
  (decide (PySem.W.subIn K (.ref (ga K n)) (.type "BaseException") = some true) && (PySem.W.hasDictIn K (ga K n) && eqO (PySem.W.findIn K (.ref (ga K n)) f) (some none)))))
def excnB (K : PySem.W.Frag) (n : Str) : Bool := (Fa.glo n).ok K && (eqO (PySem.W.findIn K (.ref (ga K n)) "__getattribute__") (some (some (.builtin "BaseException.__getattribute__"))) && (eqO (PySem.W.findIn K (.ref (ga K n)) "__getattr__") (some none) &&
  (decide (PySem.W.subIn K (.ref (ga K n)) (.type "BaseException") = some true) && (PySem.W.hasDictIn K (ga K n) && (eqO (PySem.W.findIn K (.ref (ga K n)) "__class__") (some (some (.builtin "object.__class__"))) &&
  (eqO (PySem.W.specialIn K (.builtin "object.__class__") "__get__") (some (some (.builtin "getset_descriptor.__get__"))) && (decide (PySem.W.takesIn K (.builtin "object.__class__") = some true) && decide (PySem.W.mroIn K (ga K n) (.type "object") = some true))))))))
def isaB (K : PySem.W.Frag) (n m : Str) (b : Bool) : Bool := (Fa.glo n).ok K && ((Fa.glo m).ok K && (PySem.W.hasDictIn K (ga K m) && (decide (PySem.W.typeIn K (.ref (ga K m)) = some (.type "type")) && (decide (PySem.W.subIn K (.ref (ga K n)) (.ref (ga K m)) = some b) && !(Value.ref (ga K n) == Value.ref (ga K m))))))
def isaT (K : PySem.W.Frag) (n : Str) (m : String) (b : Bool) : Bool := (Fa.glo n).ok K && decide (PySem.W.subIn K (.ref (ga K n)) (.type m) = some b)
end DL
end
section
set_option Elab.async false
set_option linter.all false
set_option maxRecDepth 100000
set_option maxHeartbeats 4000000
namespace HQ
open PySem DL L2 He PySem.Spec PyProof.Rows
abbrev top (i : Nat) : Stmt := PySem.Challenge.pw_readsfrom_k33_no_programs_at_any_door.main.body.getD i (.Pass ⟨0, 0, 0, 0⟩)
def methQ (s : Stmt) (i : Nat) : Stmt := match s with
  | .ClassDef _ _ _ body _ _ _ _ _ _ _ => body.getD i (.Pass ⟨0, 0, 0, 0⟩)
  | _ => .Pass ⟨0, 0, 0, 0⟩
def D_LETTERS : PyData := .str ("abcdefghijklmnopqrstuvwxyz" : Str)
def D_LONGEST : PyData := .int 6
def D_MOST_NUMBER : PyData := .int 9
def D_MOST_BOXES : PyData := .int 4
def D_MOST_HANDS : PyData := .int 4
def D_MOST_DEEDS : PyData := .int 8
def D_MOST_TOGETHER : PyData := .int 16
def D_MOST_SKIPPED : PyData := .int 8
def D_KINDS : List (Str × T) := [("name", .fn "is_name"), ("number", .fn "is_number"), ("what", .fn "is_what"), ("many", .fn "is_many")]
def D_READING : PyData := .tuple [(.str ("plain" : Str)), (.str ("loose" : Str)), (.str ("taking" : Str))]
def D_WRITING : PyData := .tuple [(.str ("plain" : Str)), (.str ("loose" : Str)), (.str ("giving" : Str))]
def D_CHANGING : PyData := .tuple [(.str ("loose" : Str)), (.str ("giving" : Str)), (.str ("taking" : Str)), (.str ("both" : Str))]
def D_FENCING : PyData := .tuple [(.str ("giving" : Str)), (.str ("taking" : Str)), (.str ("both" : Str))]
def D_WORDS : List (Str × T) := [("reading", .d D_READING), ("writing", .d D_WRITING), ("changing", .d D_CHANGING), ("fencing", .d D_FENCING), ("how", .d (.tuple [(.str ("add" : Str)), (.str ("put" : Str))])), ("word", .d (.tuple [(.str ("is" : Str)), (.str ("isnt" : Str))]))]
def D_FORMS : List (Str × T) := [("read", .d (.tuple [(.str ("name" : Str)), (.str ("box" : Str)), (.str ("reading" : Str))])), ("write", .d (.tuple [(.str ("box" : Str)), (.str ("what" : Str)), (.str ("writing" : Str))])), ("change", .d (.tuple [(.str ("name" : Str)), (.str ("box" : Str)), (.str ("how" : Str)), (.str ("what" : Str)), (.str ("changing" : Str))])), ("swap", .d (.tuple [(.str ("name" : Str)), (.str ("box" : Str)), (.str ("number" : Str)), (.str ("what" : Str)), (.str ("changing" : Str))])), ("wait", .d (.tuple [(.str ("name" : Str)), (.str ("box" : Str)), (.str ("number" : Str)), (.str ("reading" : Str))])), ("grab", .d (.tuple [(.str ("name" : Str)), (.str ("box" : Str)), (.str ("number" : Str)), (.str ("what" : Str)), (.str ("changing" : Str))])), ("fence", .d (.tuple [(.str ("fencing" : Str))])), ("skip", .d (.tuple [(.str ("name" : Str)), (.str ("word" : Str)), (.str ("number" : Str)), (.str ("many" : Str))])), ("claim", .d (.tuple [(.str ("name" : Str)), (.str ("word" : Str)), (.str ("number" : Str))]))]
abbrev i_NoProgram : Stmt := methQ (top 2) 0
abbrev s__law_draw : Stmt := top 151
abbrev s__law_hand : Stmt := top 150
abbrev s_is_one_of : Stmt := top 49
abbrev s_is_name : Stmt := top 46
abbrev s_is_whole : Stmt := top 43
abbrev s_is_number : Stmt := top 45
abbrev s_is_what : Stmt := top 47
abbrev s_is_many : Stmt := top 48
abbrev s_is_of_kind : Stmt := top 53
abbrev s_is_deed : Stmt := top 54
abbrev s_look_at_boxes : Stmt := top 55
abbrev s_look_at_hands : Stmt := top 56
abbrev s_look_at : Stmt := top 57
abbrev s_Machine___init__ : Stmt := methQ (top 75) 0
abbrev s__law_machine : Stmt := top 152
abbrev s_Walk___init__ : Stmt := methQ (top 103) 0
abbrev s_first_graph : Stmt := top 104
abbrev s_count_of : Stmt := top 106
abbrev s_Goer___init__ : Stmt := methQ (top 113) 0
abbrev s__law_goer : Stmt := top 153
abbrev s_outcomes : Stmt := top 131
abbrev s_outcome_of : Stmt := top 119
abbrev s_turn_ends : Stmt := top 129
abbrev s_unlike_sorted : Stmt := top 130
abbrev s_turn_outcomes : Stmt := top 132
abbrev s_clash_of : Stmt := top 137
abbrev s_failing : Stmt := top 122
abbrev s_ledger_of : Stmt := top 123
abbrev s_picks_of : Stmt := top 141
abbrev s_paper_of : Stmt := top 146
abbrev s_is_drawing : Stmt := top 65
abbrev s_before : Stmt := top 86
abbrev s_breach : Stmt := top 91
abbrev s_is_graph : Stmt := top 92
abbrev s_is_run : Stmt := top 94
abbrev s_played : Stmt := top 95
abbrev s_graph_of : Stmt := top 96
abbrev s_look_at_graph : Stmt := top 97
abbrev s_run_of : Stmt := top 99
abbrev s_is_ended : Stmt := top 115
abbrev s_is_full : Stmt := top 117
abbrev s_next_graph : Stmt := top 105
abbrev s_clashing : Stmt := top 136
abbrev s_is_ledger : Stmt := top 126
abbrev s_by_picks : Stmt := top 143
abbrev s_is_paper : Stmt := top 148
abbrev s_state_of : Stmt := top 67
abbrev s__law_is_refused : Stmt := top 155
abbrev s__law_odd_ones : Stmt := top 154
abbrev s_law : Stmt := top 156
def hfn0 : List DefD := [dFn "_law_draw" s__law_draw, dFn "_law_hand" s__law_hand, dFn "is_one_of" s_is_one_of, dFn "is_name" s_is_name, dFn "is_whole" s_is_whole, dFn "is_number" s_is_number, dFn "is_what" s_is_what, dFn "is_many" s_is_many, dFn "is_of_kind" s_is_of_kind, dFn "is_deed" s_is_deed, dFn "look_at_boxes" s_look_at_boxes, dFn "look_at_hands" s_look_at_hands, dFn "look_at" s_look_at, dMt "Machine" "__init__" "Machine.__init__" s_Machine___init__, dFn "_law_machine" s__law_machine, dMt "Walk" "__init__" "Walk.__init__" s_Walk___init__, dFn "first_graph" s_first_graph, dFk "count_of" s_count_of [("most", Dv.int 100000)], dMk "Goer" "__init__" "Goer.__init__" s_Goer___init__ [("alike", Dv.bl false)], dFn "_law_goer" s__law_goer]
def hfn1 : List DefD := [dFn "outcomes" s_outcomes, dFn "outcome_of" s_outcome_of, dFn "turn_ends" s_turn_ends, dFn "unlike_sorted" s_unlike_sorted, dFn "turn_outcomes" s_turn_outcomes, dFn "clash_of" s_clash_of, dFn "failing" s_failing, dFn "ledger_of" s_ledger_of, dFn "picks_of" s_picks_of, dFn "paper_of" s_paper_of, dFn "is_drawing" s_is_drawing, dFn "before" s_before, dFn "breach" s_breach, dFn "is_graph" s_is_graph, dFn "is_run" s_is_run, dFn "played" s_played, dFn "graph_of" s_graph_of, dFn "look_at_graph" s_look_at_graph, dFk "run_of" s_run_of [("by", Dv.non)], dFn "is_ended" s_is_ended]
def hfn2 : List DefD := [dFn "is_full" s_is_full, dFn "next_graph" s_next_graph, dFn "clashing" s_clashing, dFn "is_ledger" s_is_ledger, dFn "by_picks" s_by_picks, dFn "is_paper" s_is_paper, dFn "state_of" s_state_of, dFn "_law_is_refused" s__law_is_refused, dFn "_law_odd_ones" s__law_odd_ones, dFn "law" s_law, dMt "NoProgram" "__init__" "NoProgram.__init__" i_NoProgram]
def hfn : List DefD := hfn0 ++ hfn1 ++ hfn2
def hts : List (Str × List Str) := [("FORMS", D_FORMS.map Prod.fst), ("KINDS", D_KINDS.map Prod.fst), ("WORDS", D_WORDS.map Prod.fst)]
def hb0 (K : PySem.W.Frag) : List Bool := [(Fa.glo "_law_draw").ok K, (Fa.glo "_law_hand").ok K, (Fa.glo "is_one_of").ok K, (Fa.glo "is_name").ok K, (Fa.glo "is_whole").ok K, (Fa.glo "is_number").ok K, (Fa.glo "is_what").ok K, (Fa.glo "is_many").ok K, (Fa.glo "is_of_kind").ok K, (Fa.glo "is_deed").ok K, (Fa.glo "look_at_boxes").ok K, (Fa.glo "look_at_hands").ok K, (Fa.glo "look_at").ok K, (Fa.glo "Machine").ok K, (Fa.mkr "Machine").ok K, (Fa.glo "_law_machine").ok K, (Fa.glo "Walk").ok K, (Fa.mkr "Walk").ok K, (Fa.glo "first_graph").ok K, (Fa.glo "count_of").ok K]
def hb1 (K : PySem.W.Frag) : List Bool := [(Fa.glo "Goer").ok K, (Fa.mkr "Goer").ok K, (Fa.glo "_law_goer").ok K, (Fa.glo "outcomes").ok K, (Fa.glo "outcome_of").ok K, (Fa.glo "turn_ends").ok K, (Fa.glo "unlike_sorted").ok K, (Fa.glo "turn_outcomes").ok K, (Fa.glo "clash_of").ok K, (Fa.glo "failing").ok K, (Fa.glo "ledger_of").ok K, (Fa.glo "picks_of").ok K, (Fa.glo "paper_of").ok K, (Fa.glo "is_drawing").ok K, (Fa.glo "before").ok K, (Fa.glo "breach").ok K, (Fa.glo "is_graph").ok K, (Fa.glo "is_run").ok K, (Fa.glo "played").ok K, (Fa.glo "graph_of").ok K]
def hb2 (K : PySem.W.Frag) : List Bool := [(Fa.glo "look_at_graph").ok K, (Fa.glo "run_of").ok K, (Fa.glo "is_ended").ok K, (Fa.glo "is_full").ok K, (Fa.glo "next_graph").ok K, (Fa.glo "clashing").ok K, (Fa.glo "is_ledger").ok K, (Fa.glo "by_picks").ok K, (Fa.glo "is_paper").ok K, (Fa.glo "state_of").ok K, (Fa.glo "_law_is_refused").ok K, (Fa.glo "_law_odd_ones").ok K, (Fa.glo "law").ok K, (Fa.free "ValueError").ok K, (Fa.free "all").ok K, (Fa.free "bool").ok K, (Fa.free "enumerate").ok K, (Fa.free "int").ok K, (Fa.free "isinstance").ok K, (Fa.free "len").ok K]
def hb3 (K : PySem.W.Frag) : List Bool := [(Fa.free "list").ok K, (Fa.free "repr").ok K, (Fa.free "str").ok K, (Fa.free "sum").ok K, (Fa.free "tuple").ok K, (Fa.free "zip").ok K, hdB K "LETTERS" D_LETTERS, hdB K "LONGEST" D_LONGEST, hdB K "MOST_BOXES" D_MOST_BOXES, hdB K "MOST_DEEDS" D_MOST_DEEDS, hdB K "MOST_HANDS" D_MOST_HANDS, hdB K "MOST_NUMBER" D_MOST_NUMBER, hdB K "MOST_SKIPPED" D_MOST_SKIPPED, hdB K "MOST_TOGETHER" D_MOST_TOGETHER, tabB K "FORMS" D_FORMS, tabB K "KINDS" D_KINDS, tabB K "WORDS" D_WORDS, biB K "ValueError" "ValueError.__init__", e0B K "NoProgram" ["part", "hand", "number"] [.type "ValueError", .type "Exception", .type "BaseException", .type "object"] "ValueError.__new__", exmB K "NoProgram"]
def hb4 (K : PySem.W.Frag) : List Bool := [xfB K "NoProgram" "hand", xfB K "NoProgram" "number", xfB K "NoProgram" "part", excnB K "NoProgram", isaT K "NoProgram" "ValueError" true, (Fa.cls "Walk").ok K, (Fa.noat "Walk" "engine").ok K]
def heb (K : PySem.W.Frag) : Bool := (hb0 K).all id && ((hb1 K).all id && ((hb2 K).all id && ((hb3 K).all id && ((hb4 K).all id))))
def hx0 : List Str := ["_law_draw", "_law_hand", "is_one_of", "is_name", "is_whole", "is_number", "is_what", "is_many", "is_of_kind", "is_deed", "look_at_boxes", "look_at_hands", "look_at", "Machine", "_law_machine", "Walk", "first_graph", "count_of", "Goer", "_law_goer"]
def hx1 : List Str := ["outcomes", "outcome_of", "turn_ends", "unlike_sorted", "turn_outcomes", "clash_of", "failing", "ledger_of", "picks_of", "paper_of", "is_drawing", "before", "breach", "is_graph", "is_run", "played", "graph_of", "look_at_graph", "run_of", "is_ended"]
def hx2 : List Str := ["is_full", "next_graph", "clashing", "is_ledger", "by_picks", "is_paper", "state_of", "_law_is_refused", "_law_odd_ones", "law", "LETTERS", "LONGEST", "MOST_BOXES", "MOST_DEEDS", "MOST_HANDS", "MOST_NUMBER", "MOST_SKIPPED", "MOST_TOGETHER", "FORMS", "KINDS"]
def hx3 : List Str := ["WORDS", "NoProgram"]
def hxs : List Str := hx0 ++ hx1 ++ hx2 ++ hx3
def names0 : List PySem.Str := ["_wall", "NoProgram", "NoGraph", "NoPicks", "NoHand", "NoNumber", "NoRun", "NoStep", "TooMany", "Bare", "copied_line", "Graph", "SILENT", "TAKING", "GIVING", "named_in", "registers_of", "worth_of", "holds", "Place"]
def names1 : List PySem.Str := ["begun", "written", "can_read", "read_mode", "note_of", "writes_to", "number_written", "LETTERS", "LONGEST", "MOST_NUMBER", "MOST_BOXES", "MOST_HANDS", "MOST_DEEDS", "MOST_TOGETHER", "MOST_SKIPPED", "READING", "WRITING", "CHANGING", "FENCING", "is_whole"]
def names2 : List PySem.Str := ["is_within", "is_number", "is_name", "is_what", "is_many", "is_one_of", "KINDS", "WORDS", "FORMS", "is_of_kind", "is_deed", "look_at_boxes", "look_at_hands", "look_at", "copied", "is_source", "what_is_read", "gone_along", "places_behind", "is_fed"]
def names3 : List PySem.Str := ["is_drawing", "look_at_hand", "state_of", "Message", "Shelf", "Mind", "box_of", "is_step", "Machine", "all_notes", "note_at", "source_of", "heads_of", "givers", "takers", "meetings", "steps_in_hands", "closed", "before", "has_ring"]
def names4 : List PySem.Str := ["place_in", "Looks", "breach", "is_graph", "is_run", "played", "graph_of", "look_at_graph", "Listing", "run_of", "MOST_GRAPHS", "position", "Walk", "first_graph", "next_graph", "count_of", "groups_of", "orders_of", "exchanges", "joined"]
def names5 : List PySem.Str := ["renamed_note", "exchanged", "Goer", "is_ended", "words_of", "is_full", "last_number", "outcome_of", "failed_within", "failing", "ledger_of", "fails_behind", "holds_in", "is_ledger", "turn_steps", "turn_ends", "unlike_sorted", "outcomes", "turn_outcomes", "writes"]
def names6 : List PySem.Str := ["are_of_one_box", "clashing", "clash_of", "MOST_PICKS", "STRONGEST", "picks_of", "are_picks", "by_picks", "choices", "fewer_than", "paper_of", "is_fail", "is_paper", "_law_hand", "_law_draw", "_law_machine", "_law_goer", "_law_odd_ones", "_law_is_refused"]
def names : List PySem.Str := names0 ++ names1 ++ names2 ++ names3 ++ names4 ++ names5 ++ names6
abbrev HRow : PySem.W.OpenRow := PySem.W.OpenLaw.row PySem.Challenge.rw_readsfrom_k33_no_programs_at_any_door
abbrev hview : Program := PySem.W.view HRow.prog [156]
abbrev hkM : PySem.W.Hook := hookM hxs hfn hts heb
abbrev wf (w : World) (b : Bool) : World := w.withFollow "special-get-raises" b
set_option maxHeartbeats 0 in
theorem rx_false (w : World) (os : OsState) : (HandSHeadRun.endF (HandSHeadRun.stepQ (HandSHeadRun.denQ HandSHeadRun.tabQ) HRow.prog (wf w false)) 10500 HRow.prog (wf w false) os).map (fun s => (HandSHeadRun.looksF HRow.prog (PySem.W.boot_heap (wf w false).params) s.abs, HandSHeadRun.seenQ hview names (importedModules HRow.prog.main.body) (fun s => PySem.W.xlAt hview [] s && PySem.W.recOk HRow.toRowW.records s) s.abs)) = some (true, PySem.W.openGood hview names) := by
  kernel_rfl
set_option maxHeartbeats 0 in
theorem ry_false (w : World) (os : OsState) : (HandSHeadRun.endF (HandSHeadRun.stepQ (HandSHeadRun.denQ HandSHeadRun.tabQ) HRow.prog (wf w false)) 10500 HRow.prog (wf w false) os).map (fun s => obM hxs hfn hts heb s) = some (hkM.val (wf w false)) := by
  kernel_rfl
set_option maxHeartbeats 0 in
theorem rx_true (w : World) (os : OsState) : (HandSHeadRun.endF (HandSHeadRun.stepQ (HandSHeadRun.denQ HandSHeadRun.tabQ) HRow.prog (wf w true)) 10500 HRow.prog (wf w true) os).map (fun s => (HandSHeadRun.looksF HRow.prog (PySem.W.boot_heap (wf w true).params) s.abs, HandSHeadRun.seenQ hview names (importedModules HRow.prog.main.body) (fun s => PySem.W.xlAt hview [] s && PySem.W.recOk HRow.toRowW.records s) s.abs)) = some (true, PySem.W.openGood hview names) := by
  kernel_rfl
set_option maxHeartbeats 0 in
theorem ry_true (w : World) (os : OsState) : (HandSHeadRun.endF (HandSHeadRun.stepQ (HandSHeadRun.denQ HandSHeadRun.tabQ) HRow.prog (wf w true)) 10500 HRow.prog (wf w true) os).map (fun s => obM hxs hfn hts heb s) = some (hkM.val (wf w true)) := by
  kernel_rfl
end HQ
end
section
set_option Elab.async false
set_option linter.all false
set_option maxRecDepth 100000
set_option maxHeartbeats 4000000
/-! DL2: what a piece of code computes over slots; expressions, tests, arguments, statements. -/
namespace DL
open PySem L2

structure Exn where
  C : Str
  fs : List (Str × PyData)
inductive R (α : Type) where
  | ok (a : α) (ρ : Rho) | ex (x : Exn) (ρ : Rho) | no
def M (α : Type) := Rho → R α
def mret {α : Type} (a : α) : M α := fun ρ => .ok a ρ
def mno {α : Type} : M α := fun _ => .no
def mbind {α β : Type} (f : M α) (g : α → M β) : M β := fun ρ => match f ρ with
  | .ok a ρ' => g a ρ'
  | .ex x ρ' => .ex x ρ'
  | .no => .no
def mopt {α : Type} : Option α → M α
  | some a => mret a
  | none => mno
inductive Fl where
  | nx | rt (t : T) | bk | ct
def mseq (F G : M Fl) : M Fl := mbind F fun fl => match fl with
  | .nx => G
  | .rt t => mret (.rt t)
  | .bk => mret .bk
  | .ct => mret .ct
def mset (i : Nat) (t : T) : M Unit := fun ρ => .ok () (ρ.set i (some t))
def mfor (set : T → M Unit) (body : M Fl) : List T → M Fl
  | [] => mret .nx
  | x :: xs => mbind (set x) fun _ => mbind body fun fl => match fl with
    | .nx => mfor set body xs
    | .ct => mfor set body xs
    | .bk => mret .nx
    | .rt t => mret (.rt t)

section
variable {K : PySem.W.Frag} {I H : Hp}
theorem RepR.len : ∀ {σ : St} {ρ : Rho} {F : List Addr}, RepR K I H σ ρ F → σ.length = ρ.length
  | _, _, _, .nil => rfl
  | _, _, _, .hid r => by simp [RepR.len r]
  | _, _, _, .has _ r => by simp [RepR.len r]
/-- a slot is taken out -/
theorem RepR.take : ∀ {σ : St} {ρ : Rho} {F : List Addr} {i : Nat} {t : T}, RepR K I H σ ρ F → ρ[i]? = some (some t) →
    ∃ v G R, σ[i]? = some (some v) ∧ RepT K I H v t G ∧ RepR K I H σ (ρ.set i none) R ∧ List.Perm (R ++ G) F
  | _, _, _, i, _, .nil, e => by simp at e
  | _, _, _, 0, _, .hid r, e => by simp at e
  | _, _, _, 0, t, .has (v := v) (F := F) (G := G) a r, e => by
    simp at e
    subst e
    exact ⟨v, F, G, rfl, a, .hid r, List.perm_append_comm⟩
  | _, _, _, i + 1, t, .hid r, e => by
    obtain ⟨v, G, R, h1, h2, h3, h4⟩ := RepR.take (i := i) r (by simpa using e)
    exact ⟨v, G, R, by simpa using h1, h2, .hid h3, h4⟩
  | _, _, _, i + 1, t, .has (v := u) (F := F) a r, e => by
    obtain ⟨v, G, R, h1, h2, h3, h4⟩ := RepR.take (i := i) r (by simpa using e)
    refine ⟨v, G, F ++ R, by simpa using h1, h2, .has a h3, ?_⟩
    rw [List.append_assoc]
    exact List.Perm.append_left _ h4
/-- a slot is stored to -/
theorem RepR.put : ∀ {σ : St} {ρ : Rho} {F G : List Addr} {i : Nat} {v : V} {t : T}, RepR K I H σ ρ F → RepT K I H v t G →
    ∃ F' R, RepR K I H (σ.set i (some v)) (ρ.set i (some t)) F' ∧ List.Perm (F' ++ R) (F ++ G)
  | _, _, _, G, i, v, t, .nil, _ => ⟨[], G, .nil, List.Perm.refl _⟩
  | _, _, _, G, 0, v, t, .hid (F := F) r, a => ⟨G ++ F, [], .has a r, by rw [List.append_nil]; exact List.perm_append_comm⟩
  | _, _, _, G, 0, v, t, .has (F := F1) (G := F2) b r, a => ⟨G ++ F2, F1, .has a r, by
      rw [List.append_assoc, List.append_assoc]
      exact (List.perm_append_comm (l₁ := G) (l₂ := F2 ++ F1)).trans (List.Perm.append_right _ List.perm_append_comm) |>.trans (by rw [List.append_assoc])⟩
  | _, _, _, G, i + 1, v, t, .hid r, a => by
    obtain ⟨F', R, h1, h2⟩ := RepR.put (i := i) r a
    exact ⟨F', R, .hid h1, h2⟩
  | _, _, _, G, i + 1, v, t, .has (F := F1) b r, a => by
    obtain ⟨F', R, h1, h2⟩ := RepR.put (i := i) r a
    refine ⟨F1 ++ F', R, .has b h1, ?_⟩
    rw [List.append_assoc, List.append_assoc]
    exact List.Perm.append_left _ h2
/-- .. to what stands there -/
theorem RepR.back {σ : St} {ρ : Rho} {F G : List Addr} {i : Nat} {v : V} {t : T} (r : RepR K I H σ ρ F) (e : σ[i]? = some (some v)) (a : RepT K I H v t G) :
    ∃ F' R, RepR K I H σ (ρ.set i (some t)) F' ∧ List.Perm (F' ++ R) (F ++ G) := by
  obtain ⟨F', R, h1, h2⟩ := RepR.put (i := i) r a
  have : σ.set i (some v) = σ := by
    apply List.ext_getElem?
    intro j
    by_cases q : i = j
    · subst q
      rw [List.getElem?_set_self (List.getElem?_eq_some_iff.mp e).1, e]
    · rw [List.getElem?_set_ne q]
  rw [this] at h1
  exact ⟨F', R, h1, h2⟩
theorem RepR.clear : ∀ {σ : St} {ρ : Rho} {F : List Addr} {i : Nat} {o : Option V}, RepR K I H σ ρ F →
    ∃ F' R, RepR K I H (σ.set i o) (ρ.set i none) F' ∧ List.Perm (F' ++ R) F
  | _, _, _, i, o, .nil => ⟨[], [], .nil, List.Perm.refl _⟩
  | _, _, _, 0, o, .hid (F := F) r => ⟨F, [], .hid r, by rw [List.append_nil]⟩
  | _, _, _, 0, o, .has (F := F1) (G := F2) b r => ⟨F2, F1, .hid r, List.perm_append_comm⟩
  | _, _, _, i + 1, o, .hid r => by
    obtain ⟨F', R, h1, h2⟩ := RepR.clear (i := i) (o := o) r
    exact ⟨F', R, .hid h1, h2⟩
  | _, _, _, i + 1, o, .has (F := F1) b r => by
    obtain ⟨F', R, h1, h2⟩ := RepR.clear (i := i) (o := o) r
    refine ⟨F1 ++ F', R, .has b h1, ?_⟩
    rw [List.append_assoc]
    exact List.Perm.append_left _ h2
end
theorem Sit.sub' {B : Bs} {I H : Hp} {F G R : List Addr} (s : Sit B I H F) (h : List.Perm (G ++ R) F) : Sit B I H G :=
  (s.perm h.symm).less (fun a m => List.mem_append_left _ m) (List.Nodup.sublist (List.sublist_append_left G R) (s.perm h.symm).nd)

/-- the wish of exceptions, and the mask -/
structure Wd where
  W : WX
  m : List Bool
  cl : Str → Option Value

section
variable {K : PySem.W.Frag} {m : List Bool} {B : Bs} {σ : St} {H : Hp} {ρ : Rho} {ws : List V} {ts : List T} {x y v : V} {t u : T} {d e : PyData} {i : Nat}
theorem Ok.store (h : Ok K m B σ H ρ (x :: ws) (t :: ts)) (hi : m[i]? ≠ some true) : Ok K m B (σ.set i (some x)) H (ρ.set i (some t)) ws ts := by
  obtain ⟨I, Fr, Fw, s, r, w, km⟩ := h
  cases w with
  | cons a b =>
    rename_i F G
    obtain ⟨F', R, h1, h2⟩ := RepR.put (i := i) r a
    refine ⟨I, F', G, s.sub' (R := R) ?_, h1, b, fun j hj => ?_⟩
    · have e1 : List.Perm (F' ++ G ++ R) (F' ++ R ++ G) := by
        rw [List.append_assoc, List.append_assoc]
        exact List.Perm.append_left _ List.perm_append_comm
      refine e1.trans ?_
      rw [← List.append_assoc]
      exact List.Perm.append_right _ h2
    · have : i ≠ j := fun q => hi (q ▸ hj)
      rw [List.getElem?_set_ne this]
      exact km j hj
/-- a slot is handed out -/
theorem Ok.take (h : Ok K m B σ H ρ ws ts) (e : ρ[i]? = some (some t)) : ∃ v, σ[i]? = some (some v) ∧ Ok K m B σ H (ρ.set i none) (v :: ws) (t :: ts) := by
  obtain ⟨I, Fr, Fw, s, r, w, km⟩ := h
  obtain ⟨v, G, R, h1, h2, h3, h4⟩ := r.take e
  refine ⟨v, h1, I, R, G ++ Fw, s.perm ?_, h3, .cons h2 w, km⟩
  rw [← List.append_assoc]
  exact (List.Perm.append_right _ h4).symm
/-- .. back -/
theorem Ok.back (h : Ok K m B σ H ρ (x :: ws) (t :: ts)) (e : σ[i]? = some (some x)) : Ok K m B σ H (ρ.set i (some t)) ws ts := by
  obtain ⟨I, Fr, Fw, s, r, w, km⟩ := h
  cases w with
  | cons a b =>
    rename_i F G
    obtain ⟨F', R, h1, h2⟩ := RepR.back (i := i) r e a
    refine ⟨I, F', G, s.sub' (R := R) ?_, h1, b, km⟩
    have e1 : List.Perm (F' ++ G ++ R) (F' ++ R ++ G) := by
      rw [List.append_assoc, List.append_assoc]
      exact List.Perm.append_left _ List.perm_append_comm
    refine e1.trans ?_
    rw [← List.append_assoc]
    exact List.Perm.append_right _ h2
theorem Ok.clear (h : Ok K m B σ H ρ ws ts) (hi : m[i]? ≠ some true) (o : Option V) : Ok K m B (σ.set i o) H (ρ.set i none) ws ts := by
  obtain ⟨I, Fr, Fw, s, r, w, km⟩ := h
  obtain ⟨F', R, h1, h2⟩ := RepR.clear (i := i) (o := o) r
  refine ⟨I, F', Fw, s.sub' (R := R) ?_, h1, w, fun j hj => ?_⟩
  · have e1 : List.Perm (F' ++ Fw ++ R) (F' ++ R ++ Fw) := by
      rw [List.append_assoc, List.append_assoc]
      exact List.Perm.append_left _ List.perm_append_comm
    exact e1.trans (List.Perm.append_right _ h2)
  · have : i ≠ j := fun q => hi (q ▸ hj)
    rw [List.getElem?_set_ne this]
    exact km j hj
/-- a datum in a slot is read -/
theorem Ok.read (h : Ok K m B σ H ρ ws ts) (e : ρ[i]? = some (some (.d d))) : ∃ v, σ[i]? = some (some v) ∧ Ok K m B σ H ρ (v :: ws) (.d d :: ts) := by
  obtain ⟨v, h1, h2⟩ := h.take e
  refine ⟨v, h1, ?_⟩
  have q := h2.dup.back (i := i) h1
  have : (ρ.set i none).set i (some (.d d)) = ρ := by
    rw [List.set_set]
    apply List.ext_getElem?
    intro j
    by_cases z : i = j
    · subst z
      rw [List.getElem?_set_self (List.getElem?_eq_some_iff.mp e).1, e]
    · rw [List.getElem?_set_ne z]
  rw [this] at q
  exact q
theorem Ok.readFn {n : Str} (h : Ok K m B σ H ρ ws ts) (e : ρ[i]? = some (some (.fn n))) : ∃ a, σ[i]? = some (some (.ref a)) ∧ PySem.W.nsIn K mainGlobals n = some (some (.ref a)) ∧ Ok K m B σ H ρ (.ref a :: ws) (.fn n :: ts) := by
  obtain ⟨v, h1, h2⟩ := h.take e
  obtain ⟨a, ev, hn⟩ := h2.topFn
  subst ev
  exact ⟨a, h1, hn, h.pushFn hn⟩
/-- .. the script -/
theorem Ok.readScr {ns : List Int} (h : Ok K m B σ H ρ ws ts) (e : ρ[i]? = some (some (.scr ns))) : ∃ v, σ[i]? = some (some v) ∧ Ok K m B σ H ρ (v :: ws) (.scr ns :: ts) := by
  obtain ⟨v, h1, h2⟩ := h.take e
  refine ⟨v, h1, ?_⟩
  have h3 : Ok K m B σ H (ρ.set i none) (v :: v :: ws) (.scr ns :: .scr ns :: ts) := by
    obtain ⟨I, Fr, Fw, s, r, w, km⟩ := h2
    cases w with
    | cons a b =>
      cases a with
      | scr q => exact ⟨I, Fr, _, s, r, .cons (F := []) (.scr q) (.cons (F := []) (.scr q) b), km⟩
  have q := h3.back (i := i) h1
  have : (ρ.set i none).set i (some (.scr ns)) = ρ := by
    rw [List.set_set]
    apply List.ext_getElem?
    intro j
    by_cases z : i = j
    · subst z
      rw [List.getElem?_set_self (List.getElem?_eq_some_iff.mp e).1, e]
    · rw [List.getElem?_set_ne z]
  rw [this] at q
  exact q
/-- .. a list of own defs -/
theorem Ok.readFns {ns : List Str} (h : Ok K m B σ H ρ ws ts) (e : ρ[i]? = some (some (.fns ns))) : ∃ v, σ[i]? = some (some v) ∧ Ok K m B σ H ρ (v :: ws) (.fns ns :: ts) := by
  obtain ⟨v, h1, h2⟩ := h.take e
  refine ⟨v, h1, ?_⟩
  have h3 : Ok K m B σ H (ρ.set i none) (v :: v :: ws) (.fns ns :: .fns ns :: ts) := by
    obtain ⟨I, Fr, Fw, s, r, w, km⟩ := h2
    cases w with
    | cons a b =>
      cases a with
      | fns q1 q => exact ⟨I, Fr, _, s, r, .cons (F := []) (.fns q1 q) (.cons (F := []) (.fns q1 q) b), km⟩
  have q := h3.back (i := i) h1
  have : (ρ.set i none).set i (some (.fns ns)) = ρ := by
    rw [List.set_set]
    apply List.ext_getElem?
    intro j
    by_cases z : i = j
    · subst z
      rw [List.getElem?_set_self (List.getElem?_eq_some_iff.mp e).1, e]
    · rw [List.getElem?_set_ne z]
  rw [this] at q
  exact q
theorem Ok.dupExc {n : Str} {fs : List (Str × PyData)} (h : Ok K m B σ H ρ (x :: ws) (.exc n fs :: ts)) : Ok K m B σ H ρ (x :: x :: ws) (.exc n fs :: .exc n fs :: ts) := by
  obtain ⟨I, Fr, Fw, s, r, w, km⟩ := h
  cases w with
  | cons a b =>
    cases a with
    | exc q => exact ⟨I, Fr, _, s, r, .cons (F := []) (.exc q) (.cons (F := []) (.exc q) b), km⟩
/-- .. a caught exception -/
theorem Ok.readExc {n : Str} {fs : List (Str × PyData)} (h : Ok K m B σ H ρ ws ts) (e : ρ[i]? = some (some (.exc n fs))) : ∃ v, σ[i]? = some (some v) ∧ Ok K m B σ H ρ (v :: ws) (.exc n fs :: ts) := by
  obtain ⟨v, h1, h2⟩ := h.take e
  have q := h2.dupExc.back (i := i) h1
  refine ⟨v, h1, ?_⟩
  have : (ρ.set i none).set i (some (.exc n fs)) = ρ := by
    rw [List.set_set]
    apply List.ext_getElem?
    intro j
    by_cases z : i = j
    · subst z
      rw [List.getElem?_set_self (List.getElem?_eq_some_iff.mp e).1, e]
    · rw [List.getElem?_set_ne z]
  rw [this] at q
  exact q
theorem Ok.dupFin {n : Str} {fs : List (Str × PyData)} (h : Ok K m B σ H ρ (x :: ws) (.fin n fs :: ts)) : Ok K m B σ H ρ (x :: x :: ws) (.fin n fs :: .fin n fs :: ts) := by
  obtain ⟨I, Fr, Fw, s, r, w, km⟩ := h
  cases w with
  | cons a b =>
    cases a with
    | fin q => exact ⟨I, Fr, _, s, r, .cons (F := []) (.fin q) (.cons (F := []) (.fin q) b), km⟩
/-- .. an instance that doesn't change -/
theorem Ok.readFin {n : Str} {fs : List (Str × PyData)} (h : Ok K m B σ H ρ ws ts) (e : ρ[i]? = some (some (.fin n fs))) : ∃ v, σ[i]? = some (some v) ∧ Ok K m B σ H ρ (v :: ws) (.fin n fs :: ts) := by
  obtain ⟨v, h1, h2⟩ := h.take e
  have q := h2.dupFin.back (i := i) h1
  refine ⟨v, h1, ?_⟩
  have : (ρ.set i none).set i (some (.fin n fs)) = ρ := by
    rw [List.set_set]
    apply List.ext_getElem?
    intro j
    by_cases z : i = j
    · subst z
      rw [List.getElem?_set_self (List.getElem?_eq_some_iff.mp e).1, e]
    · rw [List.getElem?_set_ne z]
  rw [this] at q
  exact q
theorem Ok.new {o : HO} {p : Addr} (h : Ok K m B σ H ρ ws ts) (hp : H p = none) (q : ∀ I, Same I H → Dr K (upd I p o) (.ref p) d) : Ok K m B σ (upd H p o) ρ (.ref p :: ws) (.d d :: ts) := by
  obtain ⟨I, Fr, Fw, s, r, w, km⟩ := h
  have hI := (s.fresh hp).2.1
  have sm : Same I (upd I p o) := fun a u e => by rw [upd_ne (ne_of_none e hI)]; exact e
  have nf : ∀ a ∈ Fr ++ Fw, (upd H p o) a = H a := fun a z => upd_ne (show a ≠ p from fun e => s.thr a z (by rw [e]; exact hp))
  exact ⟨_, Fr, Fw, s.newD hp, r.mono sm fun a z => nf a (List.mem_append_left _ z), .cons (F := []) (.d (q I s.sub)) (w.mono sm fun a z => nf a (List.mem_append_right _ z)), km⟩
theorem Ok.len (h : Ok K m B σ H ρ ws ts) : σ.length = ρ.length := by
  obtain ⟨I, Fr, Fw, s, r, w, km⟩ := h
  exact r.len

/-- an exception leaves -/
def OkX (K : PySem.W.Frag) (m : List Bool) (cl : Str → Option Value) (B : Bs) (σ : St) (H : Hp) (ρ : Rho) (e : Exn) (c : Value) (d : Option Addr) : Prop :=
  ∃ I Fr vs, Sit B I H Fr ∧ RepR K I H σ ρ Fr ∧ Kept m B σ ∧ cl e.C = some c ∧ ((e.fs ≠ [] → ∃ d', d = some d' ∧ I d' = some (.xd ((e.fs.map (·.1)).zip vs))) ∧ (e.fs = [] → d = none)) ∧ DrAll K I vs (e.fs.map (·.2))

def PostG {α : Type} (K : PySem.W.Frag) (w : Wd) (B : Bs) (r : R α) (P : α → Rho → Prop) : Prop := match r with
  | .ok a ρ' => P a ρ'
  | .ex e ρ' => ∀ c d σ' H', OkX K w.m w.cl B σ' H' ρ' e c d → w.W c d σ' H'
  | .no => False
theorem PostG.bind {α β : Type} {w : Wd} {f : M α} {g : α → M β} {P : β → Rho → Prop} (h : PostG K w B (mbind f g ρ) P) : PostG K w B (f ρ) fun a ρ' => PostG K w B (g a ρ') P := by
  unfold mbind at h
  cases e : f ρ with
  | ok a ρ' => rw [e] at h; exact h
  | ex x ρ' => rw [e] at h; exact h
  | no => rw [e] at h; exact h
theorem PostG.mono {α : Type} {w : Wd} {r : R α} {P P' : α → Rho → Prop} (h : PostG K w B r P) (k : ∀ a ρ', P a ρ' → P' a ρ') : PostG K w B r P' := by
  cases r with
  | ok a ρ' => exact k _ _ h
  | ex x ρ' => exact h
  | no => exact h
theorem PostG.opt {α : Type} {w : Wd} {o : Option α} {P : α → Rho → Prop} (h : PostG K w B (mopt o ρ) P) : ∃ a, o = some a ∧ P a ρ := by
  cases o with
  | none => exact h.elim
  | some a => exact ⟨a, rfl, h⟩
end

def DenE (K : PySem.W.Frag) (w : Wd) (t : TE) (f : M T) : Prop := ∀ B σ H ρ ws ts Q, Ok K w.m B σ H ρ ws ts →
  PostG K w B (f ρ) (fun v ρ' => ∀ x H', Ok K w.m B σ H' ρ' (x :: ws) (v :: ts) → Q x H') → t σ H Q
def DenT (K : PySem.W.Frag) (w : Wd) (t : TT) (f : M Bool) : Prop := ∀ B σ H ρ ws ts Q, Ok K w.m B σ H ρ ws ts →
  PostG K w B (f ρ) (fun v ρ' => ∀ H', Ok K w.m B σ H' ρ' ws ts → Q v H') → t σ H Q
/-- an argument list: those handed out of slots -/
def Orig (σ : St) (os : List (Option Nat)) (xs : List V) : Prop := ∀ k i : Nat, os[k]? = some (some i) → ∃ x, xs[k]? = some x ∧ σ[i]? = some (some x)
def DenA (K : PySem.W.Frag) (w : Wd) (t : TA) (os : List (Option Nat)) (f : M (List T)) : Prop := ∀ B σ H ρ ws ts Q, Ok K w.m B σ H ρ ws ts →
  PostG K w B (f ρ) (fun vs ρ' => ∀ xs H', xs.length = vs.length → Ok K w.m B σ H' ρ' (xs ++ ws) (vs ++ ts) → Orig σ os xs → Q xs H') → t σ H Q
def PostS (K : PySem.W.Frag) (w : Wd) (B : Bs) (ws : List V) (ts : List T) (D : Ends) (fl : Fl) (ρ' : Rho) : Prop := match fl with
  | .nx => ∀ σ' H', Ok K w.m B σ' H' ρ' ws ts → D.nx σ' H'
  | .rt v => ∀ x σ' H', Ok K w.m B σ' H' ρ' (x :: ws) (v :: ts) → D.rt x H'
  | .bk => ∀ σ' H', Ok K w.m B σ' H' ρ' ws ts → D.bk σ' H'
  | .ct => ∀ σ' H', Ok K w.m B σ' H' ρ' ws ts → D.ct σ' H'
def DenS (K : PySem.W.Frag) (w : Wd) (t : TS) (f : M Fl) : Prop := ∀ B σ H ρ ws ts D, Ok K w.m B σ H ρ ws ts →
  PostG K w B (f ρ) (PostS K w B ws ts D) → t D σ H
/-- two rows of slots that part at S alone -/
def SameOut (S : List Nat) (σ σ' : St) : Prop := σ'.length = σ.length ∧ ∀ j : Nat, j ∉ S → σ'[j]? = σ[j]?
def DenG (K : PySem.W.Frag) (w : Wd) (t : TG) (S : List Nat) (f : T → M Unit) : Prop := ∀ B σ H ρ ws ts x v Q, Ok K w.m B σ H ρ (x :: ws) (v :: ts) →
  PostG K w B (f v ρ) (fun _ ρ' => ∀ σ' H', SameOut S σ σ' → Ok K w.m B σ' H' ρ' ws ts → Q σ' H') → t x σ H Q

structure DE (X : Cx) (w : Wd) (e : Expr) (f : M T) : Prop where
  ex : ∃ t, PE X e t ∧ DenE X.K w t f
structure DT (X : Cx) (w : Wd) (e : Expr) (f : M Bool) : Prop where
  ex : ∃ t, PT X e t ∧ DenT X.K w t f
structure DA (X : Cx) (w : Wd) (es : List Expr) (os : List (Option Nat)) (f : M (List T)) : Prop where
  ex : ∃ t, PA X es t ∧ DenA X.K w t os f
  len : ∀ vs ρ ρ', f ρ = .ok vs ρ' → vs.length = es.length
structure DS (X : Cx) (w : Wd) (st : Stmt) (f : M Fl) : Prop where
  ex : ∃ t, PS X st t ∧ DenS X.K w t f
structure DSs (X : Cx) (w : Wd) (st : List Stmt) (f : M Fl) : Prop where
  ex : ∃ t, PSs X st t ∧ DenS X.K w t f
structure DG (X : Cx) (w : Wd) (tg : Expr) (S : List Nat) (f : T → M Unit) : Prop where
  ex : ∃ t, PG X tg t ∧ DenG X.K w t S f

section
variable {X : Cx} {w : Wd} {a b c e : Expr} {es : List Expr} {fa fb fc f : M T} {pos : Pos} {ga gb : M Bool}

/-! ### names, constants -/
def dget (i : Nat) : M T := fun ρ => match ρ[i]? with
  | some (some (.d x)) => .ok (.d x) ρ
  | some (some (.fn a)) => .ok (.fn a) ρ
  | some (some (.scr ns)) => .ok (.scr ns) ρ
  | some (some (.exc n fs)) => .ok (.exc n fs) ρ
  | some (some (.fin n fs)) => .ok (.fin n fs) ρ
  | some (some (.fns ns)) => .ok (.fns ns) ρ
  | _ => .no
theorem de_v {t : TE} (h : PE X e t) (hd : DenE X.K w t f) : DE X w e f := ⟨t, h, hd⟩
theorem den_get {K : PySem.W.Frag} {i : Nat} : DenE K w (tVar i) (dget i) := fun B σ H ρ ws ts Q ok p => by
  unfold dget at p
  cases e : ρ[i]? with
  | none => rw [e] at p; exact p.elim
  | some o =>
    cases o with
    | none => rw [e] at p; exact p.elim
    | some t =>
      cases t with
      | d x =>
        rw [e] at p
        obtain ⟨v, h1, h2⟩ := ok.read e
        exact ⟨v, h1, p v H h2⟩
      | fn a =>
        rw [e] at p
        obtain ⟨b, h1, _, h2⟩ := ok.readFn e
        exact ⟨_, h1, p _ H h2⟩
      | scr ns =>
        rw [e] at p
        obtain ⟨v, h1, h2⟩ := ok.readScr e
        exact ⟨v, h1, p v H h2⟩
      | exc n fs =>
        rw [e] at p
        obtain ⟨v, h1, h2⟩ := ok.readExc e
        exact ⟨v, h1, p v H h2⟩
      | fin n fs =>
        rw [e] at p
        obtain ⟨v, h1, h2⟩ := ok.readFin e
        exact ⟨v, h1, p v H h2⟩
      | fns ns =>
        rw [e] at p
        obtain ⟨v, h1, h2⟩ := ok.readFns e
        exact ⟨v, h1, p v H h2⟩
      | _ => rw [e] at p; exact p.elim
theorem dv (i : Nat) {x : Str} (hN : X.N[i]? = some x := by rfl) (hv : Vis X.env.scope x := by first | exact Or.inl rfl | exact Or.inr (Or.inl rfl) | exact Or.inr (Or.inr rfl)) (hd : (x == ("__debug__" : Str)) = false := by decide)
    (hcd : (x == ("__classdict__" : Str)) = false := by decide) : DE X w (.Name x pos) (dget i) := de_v (pe_var hN hv hd hcd) den_get
/-- an own one, handed out -/
def dtake (i : Nat) : M T := fun ρ => match ρ[i]? with
  | some (some t) => .ok t (ρ.set i none)
  | _ => .no
theorem den_take {K : PySem.W.Frag} {i : Nat} : DenE K w (tVar i) (dtake i) := fun B σ H ρ ws ts Q ok p => by
  unfold dtake at p
  cases e : ρ[i]? with
  | none => rw [e] at p; exact p.elim
  | some o =>
    cases o with
    | none => rw [e] at p; exact p.elim
    | some t =>
      rw [e] at p
      obtain ⟨v, h1, h2⟩ := ok.take e
      exact ⟨v, h1, p v H h2⟩
theorem dmv (i : Nat) {x : Str} (hN : X.N[i]? = some x := by rfl) (hv : Vis X.env.scope x := by first | exact Or.inl rfl | exact Or.inr (Or.inl rfl) | exact Or.inr (Or.inr rfl)) (hd : (x == ("__debug__" : Str)) = false := by decide)
    (hcd : (x == ("__classdict__" : Str)) = false := by decide) : DE X w (.Name x pos) (dtake i) := de_v (pe_var hN hv hd hcd) den_take
theorem den_c {K : PySem.W.Frag} {v : V} {d : PyData} (h : ∀ I, Dr K I v d) : DenE K w (tC v) (mret (.d d)) := fun B σ H ρ ws ts Q ok p => p v H (ok.push h)
theorem de_int {i : Int} {j} : DE X w (.Constant (.int i) j pos) (mret (.d (.int i))) := de_v pe_int (den_c fun _ => .int i)
theorem de_bl {i : Bool} {j} : DE X w (.Constant (.bool i) j pos) (mret (.d (.bool i))) := de_v pe_bl (den_c fun _ => .bl i)
theorem de_str {i : Str} {j} : DE X w (.Constant (.str i) j pos) (mret (.d (.str i))) := de_v pe_str (den_c fun _ => .str i)
theorem de_non {j} : DE X w (.Constant .none j pos) (mret (.d .none)) := de_v pe_non (den_c fun _ => .non)
/-- a constant of the module -/
structure GlobD (X : Cx) (x : Str) (d : PyData) : Prop where
  ex : ∃ v u, X.mg x = some u ∧ RelV v u ∧ ∀ I, Dr X.K I v d
theorem de_glob {x : Str} {d : PyData} (h : GlobD X x d) (hg : Gl X x) (hd : (x == ("__debug__" : Str)) = false := by decide) : DE X w (.Name x pos) (mret (.d d)) := by
  obtain ⟨v, u, h1, h2, h3⟩ := h.ex
  exact de_v (pe_glob hg h1 h2 hd) (den_c h3)

/-! ### operators -/
def OpD (K : PySem.W.Frag) (m : List Bool) (r : R2) (g : T → T → Option T) : Prop := ∀ B σ H ρ ws ts x y t u v (Q : VK), Ok K m B σ H ρ (y :: x :: ws) (u :: t :: ts) → g t u = some v →
  (∀ z H', Ok K m B σ H' ρ (z :: ws) (v :: ts) → Q z H') → r x y H Q
def dop (g : T → T → Option T) (fa fb : M T) : M T := mbind fa fun x => mbind fb fun y => mopt (g x y)
theorem den_op {K : PySem.W.Frag} {ta tb : TE} {r : R2} {g : T → T → Option T} (ha : DenE K w ta fa) (hb : DenE K w tb fb) (hg : OpD K w.m r g) : DenE K w (tOp r ta tb) (dop g fa fb) := fun B σ H ρ ws ts Q ok p => by
  refine ha B σ H ρ ws ts _ ok (p.bind.mono fun v ρ1 p1 x H1 ok1 => ?_)
  refine hb B σ H1 ρ1 _ _ _ ok1 (p1.bind.mono fun u ρ2 p2 y H2 ok2 => ?_)
  obtain ⟨z, e, q⟩ := p2.opt
  exact hg B σ H2 ρ2 ws ts x y v u z Q ok2 e q
theorem de_op {op : Operator} {r : R2} {g : T → T → Option T} (ho : OpR X (binaryOp op) r) (hg : OpD X.K w.m r g) (ha : DE X w a fa) (hb : DE X w b fb) : DE X w (.BinOp a op b pos) (dop g fa fb) := by
  obtain ⟨ta, pa, da⟩ := ha.ex
  obtain ⟨tb, pb, db⟩ := hb.ex
  exact de_v (pe_op ho pa pb) (den_op da db hg)
theorem de_cmp {op : CmpOp} {r : R2} {g : T → T → Option T} (ho : OpR X (compareOp op) r) (hg : OpD X.K w.m r g) (ha : DE X w a fa) (hb : DE X w b fb) (hm : behindInMarks op b = false) : DE X w (.Compare a [op] [b] pos) (dop g fa fb) := by
  obtain ⟨ta, pa, da⟩ := ha.ex
  obtain ⟨tb, pb, db⟩ := hb.ex
  exact de_v (pe_cmpR ho pa pb hm) (den_op da db hg)
theorem OpD.or {K : PySem.W.Frag} {m : List Bool} {r r' : R2} {g g' : T → T → Option T} (h : OpD K m r g) (h' : OpD K m r' g') : OpD K m (fun x y H Q => r x y H Q ∨ r' x y H Q) (fun t u => (g t u).or (g' t u)) :=
  fun B σ H ρ ws ts x y t u v Q ok e q => by
    have e : (g t u).or (g' t u) = some v := e
    cases e1 : g t u with
    | some z =>
      rw [e1] at e
      exact .inl (h B σ H ρ ws ts x y t u v Q ok (by rw [e1]; exact e) q)
    | none =>
      rw [e1] at e
      exact .inr (h' B σ H ρ ws ts x y t u v Q ok e q)
/-- on data -/
def onD (g : PyData → PyData → Option PyData) : T → T → Option T := fun t u => match t, u with
  | .d x, .d y => (g x y).map T.d
  | _, _ => none
theorem OpD.ofD {K : PySem.W.Frag} {m : List Bool} {r : R2} {g : PyData → PyData → Option PyData}
    (h : ∀ B σ H ρ ws ts x y t u v (Q : VK), Ok K m B σ H ρ (y :: x :: ws) (.d u :: .d t :: ts) → g t u = some v → (∀ z H', Ok K m B σ H' ρ (z :: ws) (.d v :: ts) → Q z H') → r x y H Q) : OpD K m r (onD g) :=
  fun B σ H ρ ws ts x y t u v Q ok e q => by
    cases t with
    | d t =>
      cases u with
      | d u =>
        unfold onD at e
        simp only at e
        cases e1 : g t u with
        | none => rw [e1] at e; cases e
        | some z =>
          rw [e1] at e
          cases e
          exact h B σ H ρ ws ts x y t u z Q ok e1 q
      | _ => cases e
    | _ => cases e

/-! ### and, or, not, if -/
def dandV (fa fb : M T) : M T := mbind fa fun x => match x with
  | .d (.bool true) => fb
  | .d (.bool false) => mret (.d (.bool false))
  | _ => mno
def dorV (fa fb : M T) : M T := mbind fa fun x => match x with
  | .d (.bool false) => fb
  | .d (.bool true) => mret (.d (.bool true))
  | _ => mno
def dnotV (fa : M T) : M T := mbind fa fun x => match x with
  | .d (.bool b) => mret (.d (.bool (!b)))
  | _ => mno
theorem de_one {op} (h : DE X w a fa) : DE X w (.BoolOp op [a] pos) fa := by
  obtain ⟨ta, pa, da⟩ := h.ex
  exact de_v (pe_one pa) da
theorem bool_of {B : Bs} {K : PySem.W.Frag} {P : T → Rho → Prop} {v : T} {ρ : Rho} {g : Bool → M T} (p : PostG K w B ((match v with | .d (.bool b) => g b | _ => mno : M T) ρ) P) : ∃ b, v = .d (.bool b) ∧ PostG K w B (g b ρ) P := by
  cases v with
  | d x =>
    cases x with
    | bool b => exact ⟨b, rfl, p⟩
    | _ => exact p.elim
  | _ => exact p.elim
theorem de_and {rest : List Expr} (ha : DE X w a fa) (hb : DE X w (.BoolOp .And (b :: rest) pos) fb) : DE X w (.BoolOp .And (a :: b :: rest) pos) (dandV fa fb) := by
  obtain ⟨ta, pa, da⟩ := ha.ex
  obtain ⟨tb, pb, db⟩ := hb.ex
  refine de_v (pe_and pa pb) fun B σ H ρ ws ts Q ok p => ?_
  refine da B σ H ρ ws ts _ ok (p.bind.mono fun v ρ1 p1 x H1 ok1 => ?_)
  cases v with
  | d x =>
    cases x with
    | bool b =>
      have ex := ok1.topBl
      subst ex
      refine ⟨b, rfl, ?_⟩
      cases b with
      | true =>
        rw [if_pos rfl]
        exact db B σ H1 ρ1 ws ts Q ok1.pop p1
      | false =>
        rw [if_neg Bool.false_ne_true]
        exact p1 _ _ ok1
    | _ => exact p1.elim
  | _ => exact p1.elim
theorem de_or {rest : List Expr} (ha : DE X w a fa) (hb : DE X w (.BoolOp .Or (b :: rest) pos) fb) : DE X w (.BoolOp .Or (a :: b :: rest) pos) (dorV fa fb) := by
  obtain ⟨ta, pa, da⟩ := ha.ex
  obtain ⟨tb, pb, db⟩ := hb.ex
  refine de_v (pe_or pa pb) fun B σ H ρ ws ts Q ok p => ?_
  refine da B σ H ρ ws ts _ ok (p.bind.mono fun v ρ1 p1 x H1 ok1 => ?_)
  cases v with
  | d x =>
    cases x with
    | bool b =>
      have ex := ok1.topBl
      subst ex
      refine ⟨b, rfl, ?_⟩
      cases b with
      | false =>
        rw [if_neg Bool.false_ne_true]
        exact db B σ H1 ρ1 ws ts Q ok1.pop p1
      | true =>
        rw [if_pos rfl]
        exact p1 _ _ ok1
    | _ => exact p1.elim
  | _ => exact p1.elim
theorem de_not (ha : DE X w a fa) : DE X w (.UnaryOp .Not a pos) (dnotV fa) := by
  obtain ⟨ta, pa, da⟩ := ha.ex
  refine de_v (pe_not pa) fun B σ H ρ ws ts Q ok p => ?_
  refine da B σ H ρ ws ts _ ok (p.bind.mono fun v ρ1 p1 x H1 ok1 => ?_)
  cases v with
  | d x =>
    cases x with
    | bool b =>
      have ex := ok1.topBl
      subst ex
      exact ⟨b, rfl, p1 _ _ ok1.pop.bl⟩
    | _ => exact p1.elim
  | _ => exact p1.elim
/-- a test by a bool's value -/
def dval (fa : M T) : M Bool := mbind fa fun x => match x with
  | .d (.bool b) => mret b
  | _ => mno
theorem dt_val (ha : DE X w a fa) (he : ∀ whole, isTrue a X.env whole = (do let v ← whole; standAt a.pos; holding [v] (truthy v)) := by intro _; rfl) : DT X w a (dval fa) := by
  obtain ⟨ta, pa, da⟩ := ha.ex
  refine ⟨_, pt_val pa he, fun B σ H ρ ws ts Q ok p => ?_⟩
  refine da B σ H ρ ws ts _ ok (p.bind.mono fun v ρ1 p1 x H1 ok1 => ?_)
  cases v with
  | d x =>
    cases x with
    | bool b =>
      have ex := ok1.topBl
      subst ex
      exact ⟨b, rfl, p1 _ ok1.pop⟩
    | _ => exact p1.elim
  | _ => exact p1.elim
theorem dt_cmp {op : CmpOp} {r : R2} {g : T → T → Option T} (ho : OpR X (compareOp op) r) (hg : OpD X.K w.m r g) (ha : DE X w a fa) (hb : DE X w b fb) (hm : behindInMarks op b = false) : DT X w (.Compare a [op] [b] pos) (dval (dop g fa fb)) := by
  obtain ⟨ta, pa, da⟩ := ha.ex
  obtain ⟨tb, pb, db⟩ := hb.ex
  refine ⟨_, pt_cmpR ho pa pb hm, fun B σ H ρ ws ts Q ok p => ?_⟩
  refine den_op da db hg B σ H ρ ws ts _ ok (p.bind.mono fun v ρ1 p1 x H1 ok1 => ?_)
  cases v with
  | d x =>
    cases x with
    | bool b =>
      have ex := ok1.topBl
      subst ex
      exact ⟨b, rfl, p1 _ ok1.pop⟩
    | _ => exact p1.elim
  | _ => exact p1.elim
structure DW (X : Cx) (w : Wd) (e : Expr) (f : M Bool) : Prop where
  ex : ∃ t, PW X e t ∧ DenT X.K w t f
def dand (fa fb : M Bool) : M Bool := mbind fa fun x => if x = true then fb else mret false
def dor (fa fb : M Bool) : M Bool := mbind fa fun x => if x = true then mret true else fb
def dnot (fa : M Bool) : M Bool := mbind fa fun x => mret (!x)
theorem DW.t (h : DW X w e ga) : DT X w e ga := by
  obtain ⟨t, p, d⟩ := h.ex
  exact ⟨t, p.pt, d⟩
theorem dw_and1 (h : DT X w a ga) : DW X w (.BoolOp .And [a] pos) ga := by
  obtain ⟨t, p, d⟩ := h.ex
  exact ⟨t, pw_and1 p, d⟩
theorem dw_or1 (h : DT X w a ga) : DW X w (.BoolOp .Or [a] pos) ga := by
  obtain ⟨t, p, d⟩ := h.ex
  exact ⟨t, pw_or1 p, d⟩
theorem dw_and {rest : List Expr} (ha : DT X w a ga) (hb : DW X w (.BoolOp .And (b :: rest) pos) gb) : DW X w (.BoolOp .And (a :: b :: rest) pos) (dand ga gb) := by
  obtain ⟨t, p, d⟩ := ha.ex
  obtain ⟨t', p', d'⟩ := hb.ex
  refine ⟨_, pw_and p p', fun B σ H ρ ws ts Q ok q => ?_⟩
  refine d B σ H ρ ws ts _ ok (q.bind.mono fun v ρ1 p1 H1 ok1 => ?_)
  cases v with
  | true => rw [if_pos rfl] at p1 ⊢; exact d' B σ H1 ρ1 ws ts Q ok1 p1
  | false => rw [if_neg Bool.false_ne_true] at p1 ⊢; exact p1 _ ok1
theorem dw_or {rest : List Expr} (ha : DT X w a ga) (hb : DW X w (.BoolOp .Or (b :: rest) pos) gb) : DW X w (.BoolOp .Or (a :: b :: rest) pos) (dor ga gb) := by
  obtain ⟨t, p, d⟩ := ha.ex
  obtain ⟨t', p', d'⟩ := hb.ex
  refine ⟨_, pw_or p p', fun B σ H ρ ws ts Q ok q => ?_⟩
  refine d B σ H ρ ws ts _ ok (q.bind.mono fun v ρ1 p1 H1 ok1 => ?_)
  cases v with
  | true => rw [if_pos rfl] at p1 ⊢; exact p1 _ ok1
  | false => rw [if_neg Bool.false_ne_true] at p1 ⊢; exact d' B σ H1 ρ1 ws ts Q ok1 p1
theorem dt_not (ha : DT X w a ga) : DT X w (.UnaryOp .Not a pos) (dnot ga) := by
  obtain ⟨t, p, d⟩ := ha.ex
  refine ⟨_, pt_not p, fun B σ H ρ ws ts Q ok q => ?_⟩
  exact d B σ H ρ ws ts _ ok (q.bind.mono fun v ρ1 p1 H1 ok1 => p1 _ ok1)
def dif (g : M Bool) (fa fb : M T) : M T := mbind g fun b => if b = true then fa else fb
theorem de_if (hc : DT X w c ga) (ha : DE X w a fa) (hb : DE X w b fb) : DE X w (.IfExp c a b pos) (dif ga fa fb) := by
  obtain ⟨t, p, d⟩ := hc.ex
  obtain ⟨ta, pa, da⟩ := ha.ex
  obtain ⟨tb, pb, db⟩ := hb.ex
  refine de_v (pe_ifExp p pa pb) fun B σ H ρ ws ts Q ok q => ?_
  refine d B σ H ρ ws ts _ ok (q.bind.mono fun v ρ1 p1 H1 ok1 => ?_)
  cases v with
  | true => rw [if_pos rfl] at p1 ⊢; exact da B σ H1 ρ1 ws ts Q ok1 p1
  | false => rw [if_neg Bool.false_ne_true] at p1 ⊢; exact db B σ H1 ρ1 ws ts Q ok1 p1

/-! ### statements -/
variable {st : Stmt} {rest : List Stmt} {F G : M Fl}
theorem dss_nil : DSs X w [] (mret .nx) := ⟨_, pss_nil, fun B σ H ρ ws ts D ok p => p σ H ok⟩
theorem den_seq {K : PySem.W.Frag} {t u : TS} (h1 : DenS K w t F) (h2 : DenS K w u G) : DenS K w (tSeq t u) (mseq F G) := fun B σ H ρ ws ts D ok p => by
  refine h1 B σ H ρ ws ts _ ok (p.bind.mono fun fl ρ1 p1 => ?_)
  cases fl with
  | nx => exact fun σ' H' ok' => h2 B σ' H' ρ1 ws ts D ok' p1
  | rt v => exact p1
  | bk => exact p1
  | ct => exact p1
theorem dss_cons (h1 : DS X w st F) (h2 : DSs X w rest G) : DSs X w (st :: rest) (mseq F G) := by
  obtain ⟨t, p, d⟩ := h1.ex
  obtain ⟨t', p', d'⟩ := h2.ex
  exact ⟨_, pss_cons p p', den_seq d d'⟩
theorem dss_one (h1 : DS X w st F) : DSs X w [st] F := by
  obtain ⟨t, p, d⟩ := h1.ex
  exact ⟨_, pss_one p, d⟩
theorem ds_pass : DS X w (.Pass pos) (mret .nx) := ⟨_, ps_pass, fun B σ H ρ ws ts D ok p => p σ H ok⟩
theorem ds_break : DS X w (.Break pos) (mret .bk) := ⟨_, ps_break, fun B σ H ρ ws ts D ok p => p σ H ok⟩
theorem ds_continue : DS X w (.Continue pos) (mret .ct) := ⟨_, ps_continue, fun B σ H ρ ws ts D ok p => p σ H ok⟩
def sdrop (f : M T) : M Fl := mbind f fun _ => mret .nx
theorem ds_expr (he : DE X w e f) (hs : swapsWith e none pos.line X.env = pure false := by rfl) : DS X w (.Expr e pos) (sdrop f) := by
  obtain ⟨t, p, d⟩ := he.ex
  refine ⟨_, ps_expr p hs, fun B σ H ρ ws ts D ok q => ?_⟩
  exact d B σ H ρ ws ts _ ok (q.bind.mono fun v ρ1 p1 x H1 ok1 => p1 σ H1 ok1.pop)
def sret (f : M T) : M Fl := mbind f fun v => mret (.rt v)
theorem ds_ret (he : DE X w e f) : DS X w (.Return (some e) pos) (sret f) := by
  obtain ⟨t, p, d⟩ := he.ex
  refine ⟨_, ps_ret p, fun B σ H ρ ws ts D ok q => ?_⟩
  exact d B σ H ρ ws ts _ ok (q.bind.mono fun v ρ1 p1 x H1 ok1 => p1 x σ H1 ok1)
theorem ds_retN : DS X w (.Return none pos) (mret (.rt (.d .none))) := ⟨_, ps_retN, fun B σ H ρ ws ts D ok p => p .non σ H ok.non⟩
def sif (g : M Bool) (F G : M Fl) : M Fl := mbind g fun b => if b = true then F else G
theorem ds_if {sa sb : List Stmt} (hc : DT X w c ga) (ha : DSs X w sa F) (hb : DSs X w sb G) : DS X w (.If c sa sb pos) (sif ga F G) := by
  obtain ⟨t, p, d⟩ := hc.ex
  obtain ⟨ta, pa, da⟩ := ha.ex
  obtain ⟨tb, pb, db⟩ := hb.ex
  refine ⟨_, ps_if p pa pb, fun B σ H ρ ws ts D ok q => ?_⟩
  refine d B σ H ρ ws ts _ ok (q.bind.mono fun v ρ1 p1 H1 ok1 => ?_)
  cases v with
  | true => rw [if_pos rfl] at p1 ⊢; exact da B σ H1 ρ1 ws ts D ok1 p1
  | false => rw [if_neg Bool.false_ne_true] at p1 ⊢; exact db B σ H1 ρ1 ws ts D ok1 p1
/-- a name's store -/
def NotM (w : Wd) (i : Nat) : Prop := w.m[i]? ≠ some true
theorem dg_name {i : Nat} {x : Str} (hN : X.N.Nodup) (hi : X.N[i]? = some x) (hx : Loc X.env.scope x) (hm : NotM w i) (hf : X.fn x = true ∨ X.env.scope.names.lookup x = some .local := by first | exact .inl rfl | exact .inr rfl | assumption) : DG X w (.Name x pos) [i] (mset i) :=
  ⟨_, pg_name hN hi hx hf, fun B σ H ρ ws ts x v Q ok p => p _ H ⟨by rw [List.length_set], fun j hj => List.getElem?_set_ne (fun e => hj (by rw [e]; exact List.mem_singleton_self _))⟩ (ok.store hm)⟩
def sset (i : Nat) (f : M T) : M Fl := mbind f fun v => mbind (mset i v) fun _ => mret .nx
theorem ds_set (i : Nat) {x : Str} {pos' : Pos} (hN : X.N.Nodup) (he : DE X w e f) (hm : NotM w i := by intro h; cases h) (hi : X.N[i]? = some x := by rfl) (hx : Loc X.env.scope x := by first | exact Or.inl rfl | exact Or.inr rfl)
    (hs : swapsWith e (some (.Name x pos')) pos.line X.env = pure false := by rfl) (hf : X.fn x = true ∨ X.env.scope.names.lookup x = some .local := by first | exact .inl rfl | exact .inr rfl | assumption) : DS X w (.Assign [.Name x pos'] e pos) (sset i f) := by
  obtain ⟨t, p, d⟩ := he.ex
  refine ⟨_, ps_set (i := i) hN hi hx p hs hf, fun B σ H ρ ws ts D ok q => ?_⟩
  exact d B σ H ρ ws ts _ ok (q.bind.mono fun v ρ1 p1 x H1 ok1 => p1 _ H1 (ok1.store hm))
end
end DL
end
section
set_option Elab.async false
set_option linter.all false
set_option maxRecDepth 100000
set_option maxHeartbeats 4000000
/-! DL3: operators on data, subscripts, slices, displays, arguments. -/
namespace DL
open PySem L2

def lim : Nat := 100000
theorem lim_le {n : Nat} (h : n ≤ lim) : n ≤ sizeLine := Nat.le_trans h (by decide)
theorem lim_lt {n : Nat} (h : n < lim) : n < sizeLine := Nat.lt_of_lt_of_le h (by decide)

section
variable {K : PySem.W.Frag} {m : List Bool} {B : Bs} {σ : St} {H : Hp} {ρ : Rho} {ws : List V} {ts : List T} {x y v : V} {t u : T} {d e : PyData}
theorem Ok.topList {ds : List PyData} (h : Ok K m B σ H ρ (x :: ws) (.d (.list ds) :: ts)) : ∃ a vs, x = .ref a ∧ H a = some (.lst vs) ∧ DrAll K H vs ds := by
  have q := h.topD
  cases q with
  | lst p r => exact ⟨_, _, rfl, p, r⟩
theorem Ok.topTup {ds : List PyData} (h : Ok K m B σ H ρ (x :: ws) (.d (.tuple ds) :: ts)) : ∃ a vs, x = .ref a ∧ SqT K H a vs ∧ DrAll K H vs ds := by
  have q := h.topD
  cases q with
  | tup p r => exact ⟨_, _, rfl, p, r⟩
theorem Ok.topScr {ns : List Int} (h : Ok K m B σ H ρ (x :: ws) (.scr ns :: ts)) : ∃ a, x = .ref a ∧ SqL K H a (ns.map V.int) := by
  obtain ⟨I, Fr, Fw, s, r, w, km⟩ := h
  cases w with
  | cons a b =>
    cases a with
    | scr q => exact ⟨_, rfl, s.sub.seq q⟩
/-- a new list, a new tuple made of what stands in data that is pending -/
theorem Ok.newList {vs : List V} {ds : List PyData} {p : Addr} (h : Ok K m B σ H ρ ws ts) (hp : H p = none)
    (q : ∀ I Fw, Same I H → RepTs K I H ws ts Fw → DrAll K I vs ds) : Ok K m B σ (upd H p (.lst vs)) ρ (.ref p :: ws) (.d (.list ds) :: ts) := by
  obtain ⟨I, Fr, Fw, s, r, w, km⟩ := id h
  have hI := (s.fresh hp).2.1
  have sm : Same I (upd I p (.lst vs)) := fun a u e => by rw [upd_ne (ne_of_none e hI)]; exact e
  have nf : ∀ a ∈ Fr ++ Fw, (upd H p (.lst vs)) a = H a := fun a z => upd_ne (show a ≠ p from fun e => s.thr a z (by rw [e]; exact hp))
  exact ⟨_, Fr, Fw, s.newD hp, r.mono sm fun a z => nf a (List.mem_append_left _ z), .cons (F := []) (.d (.lst upd_same (drAll_mono sm (q I Fw s.sub w)))) (w.mono sm fun a z => nf a (List.mem_append_right _ z)), km⟩
theorem Ok.newTup {vs : List V} {ds : List PyData} {p : Addr} (h : Ok K m B σ H ρ ws ts) (hp : H p = none)
    (q : ∀ I Fw, Same I H → RepTs K I H ws ts Fw → DrAll K I vs ds) : Ok K m B σ (upd H p (.tup vs)) ρ (.ref p :: ws) (.d (.tuple ds) :: ts) := by
  obtain ⟨I, Fr, Fw, s, r, w, km⟩ := id h
  have hI := (s.fresh hp).2.1
  have sm : Same I (upd I p (.tup vs)) := fun a u e => by rw [upd_ne (ne_of_none e hI)]; exact e
  have nf : ∀ a ∈ Fr ++ Fw, (upd H p (.tup vs)) a = H a := fun a z => upd_ne (show a ≠ p from fun e => s.thr a z (by rw [e]; exact hp))
  exact ⟨_, Fr, Fw, s.newD hp, r.mono sm fun a z => nf a (List.mem_append_left _ z), .cons (F := []) (.d (.tup (SqT.of upd_same) (drAll_mono sm (q I Fw s.sub w)))) (w.mono sm fun a z => nf a (List.mem_append_right _ z)), km⟩
/-- the parts of a list that is pending on top, whatever the data's heap -/
theorem parts_lst {I : Hp} {a : Addr} {vs : List V} {ds : List PyData} {Fw : List Addr} (sb : Same I H) (hv : H a = some (.lst vs)) (w : RepTs K I H (.ref a :: ws) (.d (.list ds) :: ts) Fw) : DrAll K I vs ds := by
  cases w with
  | cons q r =>
    cases q with
    | d q =>
      cases q with
      | lst p r =>
        have := sb _ _ p
        rw [hv] at this
        cases this
        exact r
theorem Ok.pop' (h : Ok K m B σ H ρ (x :: ws) (t :: ts)) (q : Ok K m B σ H ρ ws ts → Ok K m B σ H ρ (y :: ws) (u :: ts)) : Ok K m B σ H ρ (y :: ws) (u :: ts) := q h.pop
end

/-! ### + -/
def pAdd : PyData → PyData → Option PyData
  | .int i, .int j => some (.int (i + j))
  | .str a, .str b => if a.length + b.length ≤ lim then some (.str (a ++ b)) else none
  | .list a, .list b => if a.length + b.length ≤ lim then some (.list (a ++ b)) else none
  | .tuple a, .tuple b => if a.length + b.length ≤ lim then some (.tuple (a ++ b)) else none
  | _, _ => none
def rAdd4 (K : PySem.W.Frag) : R2 := fun x y H Q => (∃ i j, x = .int i ∧ y = .int j ∧ Q (.int (i + j)) H) ∨ (∃ i j, x = .str i ∧ y = .str j ∧ i.length + j.length ≤ sizeLine ∧ Q (.str (i ++ j)) H) ∨ rCat x y H Q ∨ rCatA K x y H Q
theorem op_add4 {X : Cx} : OpR X (binaryOp .Add) (rAdd4 X.K) := OpR.or op_add (OpR.or op_add_str (OpR.or op_cat op_catA))
theorem reqs {α : Type} {c : Prop} [Decidable c] {a b : α} (h : (if c then some a else none) = some b) : c ∧ a = b := by
  by_cases q : c
  · rw [if_pos q] at h; exact ⟨q, Option.some.inj h⟩
  · rw [if_neg q] at h; cases h
section
variable {K : PySem.W.Frag} {m : List Bool}
theorem SqT.inj' {B : Bs} {σ : St} {H : Hp} {ρ : Rho} {ws : List V} {ts : List T} (h : Ok K m B σ H ρ ws ts) : True := trivial
/-- the items of a pending tuple, in the data's heap -/
theorem tup_items {I H : Hp} {x : V} {ws : List V} {ts : List T} {ds : List PyData} {Fw : List Addr} (w : RepTs K I H (x :: ws) (.d (.tuple ds) :: ts) Fw) : ∃ a vs, x = .ref a ∧ SqT K I a vs ∧ DrAll K I vs ds := by
  cases w with
  | cons q r =>
    cases q with
    | d q =>
      cases q with
      | tup p r => exact ⟨_, _, rfl, p, r⟩
theorem lst_items {I H : Hp} {x : V} {ws : List V} {ts : List T} {ds : List PyData} {Fw : List Addr} (w : RepTs K I H (x :: ws) (.d (.list ds) :: ts) Fw) : ∃ a vs, x = .ref a ∧ I a = some (.lst vs) ∧ DrAll K I vs ds := by
  cases w with
  | cons q r =>
    cases q with
    | d q =>
      cases q with
      | lst p r => exact ⟨_, _, rfl, p, r⟩
theorem RepTs.tail {I H : Hp} {x : V} {t : T} {ws : List V} {ts : List T} {F : List Addr} (w : RepTs K I H (x :: ws) (t :: ts) F) : ∃ G, RepTs K I H ws ts G := by
  cases w with
  | cons _ r => exact ⟨_, r⟩
/-- two pending tuples: with the heap that the state has -/
theorem Ok.tup2 {B : Bs} {σ : St} {H : Hp} {ρ : Rho} {ws : List V} {ts : List T} {x y : V} {ds es : List PyData} (h : Ok K m B σ H ρ (y :: x :: ws) (.d (.tuple es) :: .d (.tuple ds) :: ts)) :
    ∃ a b vs us, x = .ref a ∧ y = .ref b ∧ SqT K H a vs ∧ SqT K H b us ∧ vs.length = ds.length ∧ us.length = es.length ∧
      ∀ p o, H p = none → (o = .tup (vs ++ us) → Ok K m B σ (upd H p o) ρ (.ref p :: ws) (.d (.tuple (ds ++ es)) :: ts)) := by
  obtain ⟨I, Fr, Fw, s, r, w, km⟩ := id h
  obtain ⟨b, us, rfl, hb, db⟩ := tup_items w
  obtain ⟨G, w'⟩ := w.tail
  obtain ⟨a, vs, rfl, ha, da⟩ := tup_items w'
  refine ⟨a, b, vs, us, rfl, rfl, st_mono s.sub ha, st_mono s.sub hb, da.len, db.len, fun p o hp ho => ?_⟩
  subst ho
  have hI := (s.fresh hp).2.1
  have sm : Same I (upd I p (.tup (vs ++ us))) := fun a u e => by rw [upd_ne (ne_of_none e hI)]; exact e
  have nf : ∀ a ∈ Fr ++ Fw, (upd H p (.tup (vs ++ us))) a = H a := fun a z => upd_ne (show a ≠ p from fun e => s.thr a z (by rw [e]; exact hp))
  exact Ok.pop2 (Ok.pop2 ⟨_, Fr, Fw, s.newD hp, r.mono sm fun a z => nf a (List.mem_append_left _ z), .cons (F := []) (.d (.tup (SqT.of upd_same) (drAll_mono sm (da.append db)))) (w.mono sm fun a z => nf a (List.mem_append_right _ z)), km⟩)
theorem Ok.lst2 {B : Bs} {σ : St} {H : Hp} {ρ : Rho} {ws : List V} {ts : List T} {x y : V} {ds es : List PyData} (h : Ok K m B σ H ρ (y :: x :: ws) (.d (.list es) :: .d (.list ds) :: ts)) :
    ∃ a b vs us, x = .ref a ∧ y = .ref b ∧ H a = some (.lst vs) ∧ H b = some (.lst us) ∧ vs.length = ds.length ∧ us.length = es.length ∧
      ∀ p o, H p = none → (o = .lst (vs ++ us) → Ok K m B σ (upd H p o) ρ (.ref p :: ws) (.d (.list (ds ++ es)) :: ts)) := by
  obtain ⟨I, Fr, Fw, s, r, w, km⟩ := id h
  obtain ⟨b, us, rfl, hb, db⟩ := lst_items w
  obtain ⟨G, w'⟩ := w.tail
  obtain ⟨a, vs, rfl, ha, da⟩ := lst_items w'
  refine ⟨a, b, vs, us, rfl, rfl, s.sub _ _ ha, s.sub _ _ hb, da.len, db.len, fun p o hp ho => ?_⟩
  subst ho
  have hI := (s.fresh hp).2.1
  have sm : Same I (upd I p (.lst (vs ++ us))) := fun a u e => by rw [upd_ne (ne_of_none e hI)]; exact e
  have nf : ∀ a ∈ Fr ++ Fw, (upd H p (.lst (vs ++ us))) a = H a := fun a z => upd_ne (show a ≠ p from fun e => s.thr a z (by rw [e]; exact hp))
  exact Ok.pop2 (Ok.pop2 ⟨_, Fr, Fw, s.newD hp, r.mono sm fun a z => nf a (List.mem_append_left _ z), .cons (F := []) (.d (.lst upd_same (drAll_mono sm (da.append db)))) (w.mono sm fun a z => nf a (List.mem_append_right _ z)), km⟩)
/-- the one that stands at a place below, in the stead of the one on top -/
theorem Ok.nil_tup {B : Bs} {σ : St} {H : Hp} {ρ : Rho} {ws : List V} {ts : List T} {x y : V} {t : T} (h : Ok K m B σ H ρ (y :: x :: ws) (.d d :: t :: ts)) : Ok K m B σ H ρ (y :: ws) (.d d :: ts) := h.swap.pop
theorem DrAll.nil' {I : Hp} {vs : List V} (h : DrAll K I vs []) : vs = [] := by cases h; rfl
theorem od_add : OpD K m (rAdd4 K) (onD pAdd) := OpD.ofD fun B σ H ρ ws ts x y t u v Q ok e q => by
  unfold pAdd at e
  split at e
  · cases e
    have hy := ok.topInt
    have hx := ok.pop.topInt
    subst hx hy
    exact .inl ⟨_, _, rfl, rfl, q _ _ ok.pop.pop.int⟩
  · obtain ⟨hl, e⟩ := reqs e
    subst e
    have hy := ok.topStr
    have hx := ok.pop.topStr
    subst hx hy
    exact .inr (.inl ⟨_, _, rfl, rfl, lim_le hl, q _ _ ok.pop.pop.str⟩)
  · obtain ⟨hl, e⟩ := reqs e
    subst e
    obtain ⟨a, b, vs, us, rfl, rfl, ha, hb, l1, l2, k⟩ := ok.lst2
    exact .inr (.inr (.inl ⟨a, b, vs, us, rfl, rfl, ha, hb, by rw [l1, l2]; exact lim_le hl, fun p hp => q _ _ (k p _ hp rfl)⟩))
  · obtain ⟨hl, e⟩ := reqs e
    subst e
    obtain ⟨a, b, vs, us, rfl, rfl, ha, hb, l1, l2, k⟩ := ok.tup2
    refine .inr (.inr (.inr ⟨a, b, vs, us, rfl, rfl, ha, hb, by rw [l1, l2]; exact lim_le hl, fun z => ?_, fun z1 z2 => ?_, fun z1 z2 p hp => q _ _ (k p _ hp rfl)⟩))
    · rename_i ds es
      have hd : ds = [] := List.eq_nil_of_length_eq_zero (by rw [← l1, z]; rfl)
      subst hd
      exact q _ _ ok.nil_tup
    · rename_i ds es
      have he : es = [] := List.eq_nil_of_length_eq_zero (by rw [← l2, z2]; rfl)
      subst he
      rw [List.append_nil] at q
      exact q _ _ ok.pop
  · cases e

/-! ### ints -/
def pII (g : Int → Int → Option PyData) : PyData → PyData → Option PyData
  | .int i, .int j => g i j
  | _, _ => none
theorem od_I0 {g : Int → Int → Int} : OpD K m (rI0 fun i j => .int (g i j)) (onD (pII fun i j => some (.int (g i j)))) := OpD.ofD fun B σ H ρ ws ts x y t u v Q ok e q => by
  unfold pII at e
  split at e
  · cases e
    have hy := ok.topInt
    have hx := ok.pop.topInt
    subst hx hy
    exact ⟨_, _, rfl, rfl, q _ _ ok.pop.pop.int⟩
  · cases e
theorem od_B0 {g : Int → Int → Bool} : OpD K m (rI0 fun i j => .bl (g i j)) (onD (pII fun i j => some (.bool (g i j)))) := OpD.ofD fun B σ H ρ ws ts x y t u v Q ok e q => by
  unfold pII at e
  split at e
  · cases e
    have hy := ok.topInt
    have hx := ok.pop.topInt
    subst hx hy
    exact ⟨_, _, rfl, rfl, q _ _ ok.pop.pop.bl⟩
  · cases e
theorem od_I {C : Int → Int → Prop} {g : Int → Int → Int} {c : Int → Int → Bool} (hc : ∀ i j, c i j = true → C i j) :
    OpD K m (rI C fun i j => .int (g i j)) (onD (pII fun i j => if c i j = true then some (.int (g i j)) else none)) := OpD.ofD fun B σ H ρ ws ts x y t u v Q ok e q => by
  unfold pII at e
  split at e
  · obtain ⟨h1, h2⟩ := reqs e
    subst h2
    have hy := ok.topInt
    have hx := ok.pop.topInt
    subst hx hy
    exact ⟨_, _, rfl, rfl, hc _ _ h1, q _ _ ok.pop.pop.int⟩
  · cases e
def pSub : PyData → PyData → Option PyData := pII fun i j => some (.int (i - j))
theorem od_sub : OpD K m (rI0 fun i j => .int (i - j)) (onD pSub) := od_I0
def cMod (_ j : Int) : Bool := decide (0 < j)
def pMod : PyData → PyData → Option PyData := pII fun i j => if cMod i j = true then some (.int (i % j)) else none
theorem od_mod : OpD K m (rI (fun _ j => 0 < j) fun i j => .int (i % j)) (onD pMod) := od_I fun i j h => of_decide_eq_true h
def cDiv (_ j : Int) : Bool := decide (0 < j) && decide (j < 1073741824)
def pDiv : PyData → PyData → Option PyData := pII fun i j => if cDiv i j = true then some (.int (i / j)) else none
theorem od_div : OpD K m (rI CDiv fun i j => .int (i / j)) (onD pDiv) := od_I fun i j h => by
  have h := (Bool.and_eq_true _ _).mp h
  exact ⟨of_decide_eq_true h.1, of_decide_eq_true h.2⟩
def cPow (i j : Int) : Bool := decide (0 ≤ j) && decide (j ≤ 1000) && decide (i.natAbs < 1000)
def pPow : PyData → PyData → Option PyData := pII fun i j => if cPow i j = true then some (.int (i ^ j.toNat)) else none
theorem od_pow : OpD K m (rI CPow fun i j => .int (i ^ j.toNat)) (onD pPow) := od_I fun i j h => by
  have h := (Bool.and_eq_true _ _).mp h
  have h1 := (Bool.and_eq_true _ _).mp h.1
  have a := of_decide_eq_true h1.1
  have b := of_decide_eq_true h1.2
  have c := of_decide_eq_true h.2
  exact ⟨a, by omega, by omega⟩

/-! ### order of ints and texts -/
def strLt (a b : Str) : Bool := decide (a.cps.toList < b.cps.toList)
def pLt : PyData → PyData → Option PyData
  | .int i, .int j => some (.bool (decide (i < j)))
  | .str a, .str b => some (.bool (strLt a b))
  | _, _ => none
theorem od_lt : OpD K m (fun x y H Q => (rI0 fun i j => .bl (decide (i < j))) x y H Q ∨ ∃ i j, x = .str i ∧ y = .str j ∧ Q (.bl (decide (i.cps.toList < j.cps.toList))) H) (onD pLt) := OpD.ofD fun B σ H ρ ws ts x y t u v Q ok e q => by
  unfold pLt at e
  split at e
  · cases e
    have hy := ok.topInt
    have hx := ok.pop.topInt
    subst hx hy
    exact .inl ⟨_, _, rfl, rfl, q _ _ ok.pop.pop.bl⟩
  · cases e
    have hy := ok.topStr
    have hx := ok.pop.topStr
    subst hx hy
    exact .inr ⟨_, _, rfl, rfl, q _ _ ok.pop.pop.bl⟩
  · cases e
def pLe : PyData → PyData → Option PyData
  | .int i, .int j => some (.bool (decide (i ≤ j)))
  | _, _ => none
def pGt : PyData → PyData → Option PyData
  | .int i, .int j => some (.bool (decide (j < i)))
  | _, _ => none
def pGe : PyData → PyData → Option PyData
  | .int i, .int j => some (.bool (decide (j ≤ i)))
  | _, _ => none
theorem od_cmpI {g : Int → Int → Bool} {p : PyData → PyData → Option PyData} (hp : p = pII fun i j => some (.bool (g i j))) : OpD K m (rI0 fun i j => .bl (g i j)) (onD p) := by
  subst hp
  exact od_B0
theorem od_le : OpD K m (rI0 fun i j => .bl (decide (i ≤ j))) (onD pLe) := od_cmpI (by funext a b; cases a <;> cases b <;> rfl)
theorem od_gt : OpD K m (rI0 fun i j => .bl (decide (j < i))) (onD pGt) := od_cmpI (by funext a b; cases a <;> cases b <;> rfl)
theorem od_ge : OpD K m (rI0 fun i j => .bl (decide (j ≤ i))) (onD pGe) := od_cmpI (by funext a b; cases a <;> cases b <;> rfl)
end

/-! ### ==, in: data without dicts -/
section
variable {X : Cx}
def okEq (d e : PyData) : Bool := d.plain && e.plain && decide (min d.depth e.depth ≤ 60)
def rEqP (K : PySem.W.Frag) (neg : Bool) : R2 := fun x y H Q => ∃ d e, Dr K H x d ∧ Dr K H y e ∧ okEq d e = true ∧ Q (.bl (if neg then !PyData.eqv d e else PyData.eqv d e)) H
theorem okEq_of {d e : PyData} (h : okEq d e = true) : d.plain = true ∧ e.plain = true ∧ min d.depth e.depth ≤ 60 := by
  have h := (Bool.and_eq_true _ _).mp h
  have h1 := (Bool.and_eq_true _ _).mp h.1
  exact ⟨h1.1, h1.2, of_decide_eq_true h.2⟩
theorem op_eqP (hu : X.A.units + 64 < cLine) : OpR X (compareOp .Eq) (rEqP X.K false) := by
  intro pins s σ H x y v u Q I rx ry ⟨d, e, hd, he, k, q⟩
  obtain ⟨p1, p2, p3⟩ := okEq_of k
  obtain ⟨as, r1⟩ := Dp.reads I d x v (hd.dp p1) rx
  obtain ⟨bs, r2⟩ := Dp.reads I e y u (he.dp p2) ry
  exact SeqAt.eq_plain r1 r2 p1 p2 (by omega) ⟨.bl _, H, I, rfl, q⟩
theorem op_neP (hu : X.A.units + 64 < cLine) : OpR X (compareOp .NotEq) (rEqP X.K true) := by
  intro pins s σ H x y v u Q I rx ry ⟨d, e, hd, he, k, q⟩
  obtain ⟨p1, p2, p3⟩ := okEq_of k
  obtain ⟨as, r1⟩ := Dp.reads I d x v (hd.dp p1) rx
  obtain ⟨bs, r2⟩ := Dp.reads I e y u (he.dp p2) ry
  exact SeqAt.ne_plain r1 r2 p1 p2 (by omega) ⟨.bl _, H, I, rfl, q⟩
def pEq (d e : PyData) : Option PyData := if okEq d e = true then some (.bool (PyData.eqv d e)) else none
def pNe (d e : PyData) : Option PyData := if okEq d e = true then some (.bool (!PyData.eqv d e)) else none
theorem od_eq {K : PySem.W.Frag} {m : List Bool} : OpD K m (rEqP K false) (onD pEq) := OpD.ofD fun B σ H ρ ws ts x y t u v Q ok e q => by
  obtain ⟨h, e⟩ := reqs e
  subst e
  exact ⟨t, u, ok.pop.topD, ok.topD, h, q _ _ ok.pop.pop.bl⟩
theorem od_ne {K : PySem.W.Frag} {m : List Bool} : OpD K m (rEqP K true) (onD pNe) := OpD.ofD fun B σ H ρ ws ts x y t u v Q ok e q => by
  obtain ⟨h, e⟩ := reqs e
  subst e
  exact ⟨t, u, ok.pop.topD, ok.topD, h, q _ _ ok.pop.pop.bl⟩
def okIn (d : PyData) (ds : List PyData) : Bool := d.plain && PyData.plainAll ds && decide (min (PyData.depthAll ds) d.depth ≤ 60)
def anyEq (d : PyData) (ds : List PyData) : Bool := ds.any fun y => PyData.eqv y d
def rInP (K : PySem.W.Frag) (neg : Bool) : R2 := fun x y H Q => (∃ d ds, Dr K H x d ∧ (Dr K H y (.list ds) ∨ Dr K H y (.tuple ds)) ∧ okIn d ds = true ∧ Q (.bl (if neg then !anyEq d ds else anyEq d ds)) H) ∨
  ∃ (a z : Str), x = .str a ∧ y = .str z ∧ Q (.bl (if neg then !(!(Builtin.Str.occurrences z a 0 z.length 1).isEmpty) else !(Builtin.Str.occurrences z a 0 z.length 1).isEmpty)) H
theorem op_inP (hu : X.A.units + 64 < cLine) : OpR X (compareOp .In) (rInP X.K false) := by
  intro pins s σ H x y v u Q I rx ry h
  rcases h with ⟨d, ds, hd, hy, k, q⟩ | ⟨a, z, rfl, rfl, q⟩
  · have k := (Bool.and_eq_true _ _).mp k
    have k1 := (Bool.and_eq_true _ _).mp k.1
    have k2 := of_decide_eq_true k.2
    obtain ⟨as, r1⟩ := Dp.reads I d x v (hd.dp k1.1) rx
    rcases hy with hy | hy
    · obtain ⟨bs, r2⟩ := Dp.reads I (.list ds) y u (hy.dp (by simpa [PyData.plain] using k1.2)) ry
      exact SeqAt.in_list_data r2 r1 k1.2 k1.1 (by omega) ⟨.bl _, H, I, rfl, q⟩
    · obtain ⟨bs, r2⟩ := Dp.reads I (.tuple ds) y u (hy.dp (by simpa [PyData.plain] using k1.2)) ry
      exact SeqAt.in_tuple_data r2 r1 k1.2 k1.1 (by omega) ⟨.bl _, H, I, rfl, q⟩
  · exact op_in_str pins s σ H _ _ v u Q I rx ry ⟨a, z, rfl, rfl, q⟩
theorem op_notInP (hu : X.A.units + 64 < cLine) : OpR X (compareOp .NotIn) (rInP X.K true) := by
  intro pins s σ H x y v u Q I rx ry h
  rcases h with ⟨d, ds, hd, hy, k, q⟩ | ⟨a, z, rfl, rfl, q⟩
  · have k := (Bool.and_eq_true _ _).mp k
    have k1 := (Bool.and_eq_true _ _).mp k.1
    have k2 := of_decide_eq_true k.2
    obtain ⟨as, r1⟩ := Dp.reads I d x v (hd.dp k1.1) rx
    rcases hy with hy | hy
    · obtain ⟨bs, r2⟩ := Dp.reads I (.list ds) y u (hy.dp (by simpa [PyData.plain] using k1.2)) ry
      exact SeqAt.notIn_list_data r2 r1 k1.2 k1.1 (by omega) ⟨.bl _, H, I, rfl, q⟩
    · obtain ⟨bs, r2⟩ := Dp.reads I (.tuple ds) y u (hy.dp (by simpa [PyData.plain] using k1.2)) ry
      exact SeqAt.notIn_tuple_data r2 r1 k1.2 k1.1 (by omega) ⟨.bl _, H, I, rfl, q⟩
  · exact op_notIn_str pins s σ H _ _ v u Q I rx ry ⟨a, z, rfl, rfl, q⟩
def strIn (a z : Str) : Bool := !(Builtin.Str.occurrences z a 0 z.length 1).isEmpty
def pIn : PyData → PyData → Option PyData
  | d, .list ds => if okIn d ds = true then some (.bool (anyEq d ds)) else none
  | d, .tuple ds => if okIn d ds = true then some (.bool (anyEq d ds)) else none
  | .str a, .str z => some (.bool (strIn a z))
  | _, _ => none
def pNotIn : PyData → PyData → Option PyData
  | d, .list ds => if okIn d ds = true then some (.bool (!anyEq d ds)) else none
  | d, .tuple ds => if okIn d ds = true then some (.bool (!anyEq d ds)) else none
  | .str a, .str z => some (.bool (!strIn a z))
  | _, _ => none
theorem od_in {K : PySem.W.Frag} {m : List Bool} : OpD K m (rInP K false) (onD pIn) := OpD.ofD fun B σ H ρ ws ts x y t u v Q ok e q => by
  unfold pIn at e
  split at e
  · obtain ⟨h, e⟩ := reqs e
    subst e
    exact .inl ⟨_, _, ok.pop.topD, .inl ok.topD, h, q _ _ ok.pop.pop.bl⟩
  · obtain ⟨h, e⟩ := reqs e
    subst e
    exact .inl ⟨_, _, ok.pop.topD, .inr ok.topD, h, q _ _ ok.pop.pop.bl⟩
  · cases e
    have hy := ok.topStr
    have hx := ok.pop.topStr
    subst hx hy
    exact .inr ⟨_, _, rfl, rfl, q _ _ ok.pop.pop.bl⟩
  · cases e
theorem od_notIn {K : PySem.W.Frag} {m : List Bool} : OpD K m (rInP K true) (onD pNotIn) := OpD.ofD fun B σ H ρ ws ts x y t u v Q ok e q => by
  unfold pNotIn at e
  split at e
  · obtain ⟨h, e⟩ := reqs e
    subst e
    exact .inl ⟨_, _, ok.pop.topD, .inl ok.topD, h, q _ _ ok.pop.pop.bl⟩
  · obtain ⟨h, e⟩ := reqs e
    subst e
    exact .inl ⟨_, _, ok.pop.topD, .inr ok.topD, h, q _ _ ok.pop.pop.bl⟩
  · cases e
    have hy := ok.topStr
    have hx := ok.pop.topStr
    subst hx hy
    exact .inr ⟨_, _, rfl, rfl, q _ _ ok.pop.pop.bl⟩
  · cases e
/-- is None, is not None; is of truths -/
def isNon : PyData → Bool
  | .none => true
  | _ => false
theorem isNon_iff {K : PySem.W.Frag} {I : Hp} {x : V} {d : PyData} (h : Dr K I x d) : decide (x = .non) = isNon d := by
  cases h <;> simp [isNon]
def pIs : PyData → PyData → Option PyData
  | d, .none => some (.bool (isNon d))
  | .bool a, .bool b => some (.bool (decide (a = b)))
  | _, _ => none
def pIsNot : PyData → PyData → Option PyData
  | d, .none => some (.bool (!isNon d))
  | .bool a, .bool b => some (.bool (!decide (a = b)))
  | _, _ => none
theorem op_isD : OpR X (compareOp .Is) (fun x y H Q => (y = .non ∧ Q (.bl (decide (x = .non))) H) ∨ rIsB x y H Q) := OpR.or op_isN op_isBl
theorem op_isNotD : OpR X (compareOp .IsNot) (fun x y H Q => (y = .non ∧ Q (.bl (!decide (x = .non))) H) ∨ rNotB x y H Q) := OpR.or op_notN op_notBl
theorem od_is {K : PySem.W.Frag} {m : List Bool} : OpD K m (fun x y H Q => (y = .non ∧ Q (.bl (decide (x = .non))) H) ∨ rIsB x y H Q) (onD pIs) := OpD.ofD fun B σ H ρ ws ts x y t u v Q ok e q => by
  unfold pIs at e
  split at e
  · cases e
    have hy := ok.topNon
    subst hy
    exact .inl ⟨rfl, by rw [isNon_iff ok.pop.topD]; exact q _ _ ok.pop.pop.bl⟩
  · cases e
    have hy := ok.topBl
    have hx := ok.pop.topBl
    subst hx hy
    exact .inr ⟨_, _, rfl, rfl, q _ _ ok.pop.pop.bl⟩
  · cases e
theorem od_isNot {K : PySem.W.Frag} {m : List Bool} : OpD K m (fun x y H Q => (y = .non ∧ Q (.bl (!decide (x = .non))) H) ∨ rNotB x y H Q) (onD pIsNot) := OpD.ofD fun B σ H ρ ws ts x y t u v Q ok e q => by
  unfold pIsNot at e
  split at e
  · cases e
    have hy := ok.topNon
    subst hy
    exact .inl ⟨rfl, by rw [isNon_iff ok.pop.topD]; exact q _ _ ok.pop.pop.bl⟩
  · cases e
    have hy := ok.topBl
    have hx := ok.pop.topBl
    subst hx hy
    exact .inr ⟨_, _, rfl, rfl, q _ _ ok.pop.pop.bl⟩
  · cases e
end

/-! ### subscripts -/
section
variable {K : PySem.W.Frag} {m : List Bool} {X : Cx} {w : Wd} {a b : Expr} {fa fb : M T} {pos : Pos}
theorem atI_all {I : Hp} {vs : List V} {ds : List PyData} {i : Int} {e : PyData} (h : DrAll K I vs ds) (q : atI ds i = some e) : ∃ v, atI vs i = some v ∧ Dr K I v e := by
  unfold atI at q ⊢
  rw [h.len]
  cases p : ixN ds.length i with
  | none => rw [p] at q; cases q
  | some j =>
    rw [p] at q
    exact DrAll.get' h q
def pIx : PyData → PyData → Option PyData
  | .list ds, .int i => atI ds i
  | .tuple ds, .int i => atI ds i
  | .str z, .int i => if z.length ≤ lim then (atI z.cps.toList i).map fun c => .str ⟨#[c]⟩ else none
  | _, _ => none
/-- an item of pending data, in its stead -/
theorem Ok.item {B : Bs} {σ : St} {H : Hp} {ρ : Rho} {ws : List V} {ts : List T} {x v : V} {d e : PyData} (h : Ok K m B σ H ρ (x :: ws) (.d d :: ts)) (q : ∀ I, Same I H → Dr K I x d → Dr K I v e) : Ok K m B σ H ρ (v :: ws) (.d e :: ts) := h.part q
theorem dr_list_inj {I H : Hp} {a : Addr} {vs : List V} {ds : List PyData} (s : Same I H) (hv : H a = some (.lst vs)) (h : Dr K I (.ref a) (.list ds)) : DrAll K I vs ds := by
  cases h with
  | lst p r =>
    have := s _ _ p
    rw [hv] at this
    cases this
    exact r
theorem od_ix : OpD K m (rIx K) (onD pIx) := OpD.ofD fun B σ H ρ ws ts x y t u v Q ok e q => by
  unfold pIx at e
  split at e
  · have hy := ok.topInt
    subst hy
    obtain ⟨I, Fr, Fw, s, r, w, km⟩ := id ok.pop
    obtain ⟨a, vs, rfl, ha, da⟩ := lst_items w
    obtain ⟨z, hz, dz⟩ := atI_all da e
    obtain ⟨G, w'⟩ := w.tail
    exact .inl ⟨a, vs, _, z, rfl, rfl, SqL.of (s.sub _ _ ha), hz, q _ _ (ok.pop.pop' fun _ => by
      cases w with
      | cons _ w'' => exact ⟨I, Fr, _, s.less (fun b m => by
          rcases List.mem_append.mp m with m | m
          · exact List.mem_append_left _ m
          · exact List.mem_append_right _ (List.mem_append_right _ m)) ((List.Sublist.append (List.Sublist.refl _) (List.sublist_append_right _ _)).nodup s.nd), r, .cons (F := []) (.d dz) w'', km⟩)⟩
  · have hy := ok.topInt
    subst hy
    obtain ⟨I, Fr, Fw, s, r, w, km⟩ := id ok.pop
    obtain ⟨a, vs, rfl, ha, da⟩ := tup_items w
    obtain ⟨z, hz, dz⟩ := atI_all da e
    exact .inr (.inl ⟨a, vs, _, z, rfl, rfl, st_mono s.sub ha, hz, q _ _ (ok.pop.pop' fun _ => by
      cases w with
      | cons _ w'' => exact ⟨I, Fr, _, s.less (fun b m => by
          rcases List.mem_append.mp m with m | m
          · exact List.mem_append_left _ m
          · exact List.mem_append_right _ (List.mem_append_right _ m)) ((List.Sublist.append (List.Sublist.refl _) (List.sublist_append_right _ _)).nodup s.nd), r, .cons (F := []) (.d dz) w'', km⟩)⟩)
  · rename_i z i
    by_cases hl : z.length ≤ lim
    · rw [if_pos hl] at e
      cases p : atI z.cps.toList i with
      | none => rw [p] at e; cases e
      | some c =>
        rw [p] at e
        cases e
        have hy := ok.topInt
        have hx := ok.pop.topStr
        subst hx hy
        exact .inr (.inr ⟨z, i, c, rfl, rfl, lim_le hl, p, q _ _ ok.pop.pop.str⟩)
    · rw [if_neg hl] at e; cases e
  · cases e
theorem de_ix (ha : DE X w a fa) (hb : DE X w b fb) (hs : PlainIx b := by exact fun _ _ => rfl) : DE X w (.Subscript a b pos) (dop (onD pIx) fa fb) := by
  obtain ⟨ta, pa, da⟩ := ha.ex
  obtain ⟨tb, pb, db⟩ := hb.ex
  exact de_v (pe_ix ix_seq pa pb hs) (den_op da db od_ix)
end
end DL
end
section
set_option Elab.async false
set_option linter.all false
set_option maxRecDepth 100000
set_option maxHeartbeats 4000000
/-! DL4: slices, argument lists, displays, own defs called. -/
namespace DL
open PySem L2

/-! ### slices -/
def cutG {α : Type} (xs : List α) (lo hi : Option Int) : List α := (xs.drop (HT.sIx xs.length 0 lo)).take (HT.sIx xs.length xs.length hi - HT.sIx xs.length 0 lo)
theorem cutG_len {α : Type} (xs : List α) (lo hi : Option Int) : (cutG xs lo hi).length ≤ xs.length := by
  unfold cutG
  rw [List.length_take, List.length_drop]
  omega
theorem DrAll.cut {K : PySem.W.Frag} {I : Hp} {vs : List V} {ds : List PyData} (h : DrAll K I vs ds) (lo hi : Option Int) : DrAll K I (cutV vs lo hi) (cutG ds lo hi) := by
  unfold cutV cutG
  rw [h.len]
  exact (h.drop _).take _
def tSlice : T → Option Int → Option Int → Option T
  | .d (.list ds), lo, hi => some (.d (.list (cutG ds lo hi)))
  | .d (.tuple ds), lo, hi => some (.d (.tuple (cutG ds lo hi)))
  | .d (.str z), lo, hi => if z.length ≤ lim then some (.d (.str (cutS z lo hi))) else none
  | .scr ns, lo, hi => some (.d (.list ((cutG ns lo hi).map PyData.int)))
  | _, _, _ => none
def rSl3 (K : PySem.W.Frag) : V → Option Int → Option Int → Hp → VK → Prop := fun x lo hi H Q => rSlL K x lo hi H Q ∨ rSlA K x lo hi H Q ∨ rSlS x lo hi H Q
theorem sl3 {X : Cx} : SlR X (rSl3 X.K) := SlR.or sl_list (SlR.or sl_tupA sl_str)
theorem cutG_whole {α : Type} (xs : List α) (lo hi : Option Int) (h : HT.sIx xs.length 0 lo = 0 ∧ HT.sIx xs.length xs.length hi = xs.length) : cutG xs lo hi = xs := by
  unfold cutG
  rw [h.1, h.2]
  simp
theorem drAll_ints {K : PySem.W.Frag} {I : Hp} : ∀ ns : List Int, DrAll K I (ns.map V.int) (ns.map PyData.int)
  | [] => .nil
  | n :: ns => .cons (.int n) (drAll_ints ns)
theorem cutV_map {α : Type} (f : α → V) (xs : List α) (lo hi : Option Int) : cutV (xs.map f) lo hi = (cutG xs lo hi).map f := by
  unfold cutV cutG
  rw [List.length_map, ← List.map_drop, ← List.map_take]
def DenO (K : PySem.W.Frag) (w : Wd) (t : TO) (f : M (Option Int)) : Prop := ∀ B σ H ρ ws ts Q, Ok K w.m B σ H ρ ws ts →
  PostG K w B (f ρ) (fun o ρ' => ∀ H', Ok K w.m B σ H' ρ' ws ts → Q o H') → t σ H Q
structure DO (X : Cx) (w : Wd) (e : Option Expr) (f : M (Option Int)) : Prop where
  ex : ∃ t, PO X e t ∧ DenO X.K w t f
section
variable {X : Cx} {w : Wd} {a b c e : Expr} {es : List Expr} {fa fb fc f : M T} {pos : Pos} {fo fo' : M (Option Int)} {lo hi : Option Expr}
theorem do_none : DO X w none (mret none) := ⟨_, po_none, fun B σ H ρ ws ts Q ok p => p H ok⟩
def dpart (f : M T) : M (Option Int) := mbind f fun x => match x with
  | .d (.int i) => mret (some i)
  | _ => mno
theorem do_some (h : DE X w e f) : DO X w (some e) (dpart f) := by
  obtain ⟨t, p, d⟩ := h.ex
  refine ⟨_, po_some p, fun B σ H ρ ws ts Q ok q => ?_⟩
  refine d B σ H ρ ws ts _ ok (q.bind.mono fun v ρ1 p1 x H1 ok1 => ?_)
  cases v with
  | d y =>
    cases y with
    | int i =>
      have ex := ok1.topInt
      subst ex
      exact ⟨i, rfl, p1 _ ok1.pop⟩
    | _ => exact p1.elim
  | _ => exact p1.elim
def dslice (fa : M T) (fo fo' : M (Option Int)) : M T := mbind fa fun x => mbind fo fun l => mbind fo' fun h => mopt (tSlice x l h)
theorem Ok.inStead {K : PySem.W.Frag} {m : List Bool} {B : Bs} {σ : St} {H : Hp} {ρ : Rho} {ws : List V} {ts : List T} {x y : V} {t u : T} (h : Ok K m B σ H ρ (y :: x :: ws) (u :: t :: ts)) : Ok K m B σ H ρ (y :: ws) (u :: ts) := h.swap.pop
theorem de_slice {p2 : Pos} (ha : DE X w a fa) (hl : DO X w lo fo) (hh : DO X w hi fo') : DE X w (.Subscript a (.Slice lo hi none p2) pos) (dslice fa fo fo') := by
  obtain ⟨ta, pa, da⟩ := ha.ex
  obtain ⟨tl, pl, dl⟩ := hl.ex
  obtain ⟨th, ph, dh⟩ := hh.ex
  refine de_v (pe_slice sl3 pa pl ph) fun B σ H ρ ws ts Q ok q => ?_
  refine da B σ H ρ ws ts _ ok (q.bind.mono fun v ρ1 p1 x H1 ok1 => ?_)
  refine dl B σ H1 ρ1 _ _ _ ok1 (p1.bind.mono fun l ρ2 p2 H2 ok2 => ?_)
  refine dh B σ H2 ρ2 _ _ _ ok2 (p2.bind.mono fun h ρ3 p3 H3 ok3 => ?_)
  obtain ⟨z, e, q3⟩ := p3.opt
  unfold tSlice at e
  split at e
  · cases e
    obtain ⟨I, Fr, Fw, s, r, wz, km⟩ := id ok3
    obtain ⟨a, vs, rfl, ha, dd⟩ := lst_items wz
    refine .inl ⟨a, vs, rfl, SqL.of (s.sub _ _ ha), fun p hp => q3 _ _ (Ok.inStead (ok3.newList hp fun I' Fw' sb w' => ?_))⟩
    obtain ⟨a', vs', e', ha', dd'⟩ := lst_items w'
    cases e'
    have := sb _ _ ha'
    rw [s.sub _ _ ha] at this
    cases this
    exact dd'.cut _ _
  · cases e
    obtain ⟨I, Fr, Fw, s, r, wz, km⟩ := id ok3
    obtain ⟨a, vs, rfl, ha, dd⟩ := tup_items wz
    rename_i _ _ ds
    refine .inr (.inl ⟨a, vs, rfl, st_mono s.sub ha, fun hw => ?_, fun hw p hp => ?_⟩)
    · rw [dd.len] at hw
      rw [cutG_whole ds _ _ hw] at q3
      exact q3 _ _ ok3
    · have hI := (s.fresh hp).2.1
      have sm : Same I (upd I p (.tup (cutV vs l h))) := fun a u e => by rw [upd_ne (ne_of_none e hI)]; exact e
      have nf : ∀ a ∈ Fr ++ Fw, (upd H3 p (.tup (cutV vs l h))) a = H3 a := fun a z => upd_ne (show a ≠ p from fun e => s.thr a z (by rw [e]; exact hp))
      exact q3 _ _ (Ok.inStead ⟨_, Fr, Fw, s.newD hp, r.mono sm fun a z => nf a (List.mem_append_left _ z), .cons (F := []) (.d (.tup (SqT.of upd_same) (drAll_mono sm (dd.cut l h)))) (wz.mono sm fun a z => nf a (List.mem_append_right _ z)), km⟩)
  · obtain ⟨hl, e⟩ := reqs e
    subst e
    have hx := ok3.topStr
    subst hx
    exact .inr (.inr ⟨_, rfl, lim_le hl, q3 _ _ ok3.pop.str⟩)
  · cases e
    obtain ⟨a, rfl, ha⟩ := ok3.topScr
    refine .inl ⟨a, _, rfl, ha, fun p hp => q3 _ _ (Ok.inStead (ok3.newList hp fun I' Fw' sb w' => ?_))⟩
    rw [cutV_map]
    exact drAll_ints _
  · cases e
/-- a list turned about -/
def tRev : T → Option T
  | .d (.list ds) => some (.d (.list ds.reverse))
  | _ => none
def drev (fa : M T) : M T := mbind fa fun x => mopt (tRev x)
theorem de_rev {k : Nat} {p1 p2 p3 : Pos} (ha : DE X w a fa) : DE X w (.Subscript a (.Slice none none (some (.UnaryOp .USub (.Constant (.int 1) k p1) p2)) p3) pos) (drev fa) := by
  obtain ⟨ta, pa, da⟩ := ha.ex
  refine de_v (pe_revL pa) fun B σ H ρ ws ts Q ok q => ?_
  refine da B σ H ρ ws ts _ ok (q.bind.mono fun v ρ1 p1 x H1 ok1 => ?_)
  obtain ⟨z, e, q3⟩ := p1.opt
  unfold tRev at e
  split at e
  · cases e
    obtain ⟨I, Fr, Fw, s, r, wz, km⟩ := id ok1
    obtain ⟨a, vs, rfl, ha, dd⟩ := lst_items wz
    refine ⟨a, vs, rfl, SqL.of (s.sub _ _ ha), fun p hp => q3 _ _ (Ok.inStead (ok1.newList hp fun I' Fw' sb w' => ?_))⟩
    obtain ⟨a', vs', e', ha', dd'⟩ := lst_items w'
    cases e'
    have := sb _ _ ha'
    rw [s.sub _ _ ha] at this
    cases this
    exact dd'.reverse
  · cases e

/-! ### argument lists -/
variable {os : List (Option Nat)} {fs : M (List T)}
theorem da_nil : DA X w [] [] (mret []) := ⟨⟨_, pa_nil, fun B σ H ρ ws ts Q ok p => p [] H rfl ok fun k i e => by simp at e⟩, fun vs ρ ρ' e => by cases e; rfl⟩
theorem Ok.perm3 {K : PySem.W.Frag} {m : List Bool} {B : Bs} {σ : St} {H : Hp} {ρ : Rho} {ws : List V} {ts : List T} {x : V} {t : T} {vs : List V} {us : List T} (hl : vs.length = us.length)
    (h : Ok K m B σ H ρ (vs ++ x :: ws) (us ++ t :: ts)) : Ok K m B σ H ρ (x :: (vs ++ ws)) (t :: (us ++ ts)) := by
  obtain ⟨I, Fr, Fw, s, r, w, km⟩ := h
  obtain ⟨G, E, rfl, g, e⟩ := RepTs.split hl w
  cases e with
  | cons a b =>
    rename_i F1 F2
    obtain ⟨E', q, hq⟩ := RepTs.append g b
    subst hq
    refine ⟨I, Fr, _, s.perm ?_, r, .cons a q, km⟩
    refine List.Perm.append_left _ ?_
    rw [← List.append_assoc, ← List.append_assoc]
    exact List.Perm.append_right _ List.perm_append_comm
def dcons (f : M T) (fs : M (List T)) : M (List T) := mbind f fun x => mbind fs fun xs => mret (x :: xs)
theorem dcons_len {f : M T} {fs : M (List T)} {n : Nat} (h : ∀ vs ρ ρ', fs ρ = .ok vs ρ' → vs.length = n) : ∀ vs ρ ρ', dcons f fs ρ = .ok vs ρ' → vs.length = n + 1 := fun vs ρ ρ' e => by
  unfold dcons mbind at e
  cases e1 : f ρ with
  | ok x ρ1 =>
    rw [e1] at e
    simp only at e
    cases e2 : fs ρ1 with
    | ok xs ρ2 =>
      rw [e2] at e
      cases e
      rw [List.length_cons, h _ _ _ e2]
    | ex a b => rw [e2] at e; cases e
    | no => rw [e2] at e; cases e
  | ex a b => rw [e1] at e; cases e
  | no => rw [e1] at e; cases e
theorem orig_cons {σ : St} {o : Option Nat} {os : List (Option Nat)} {x : V} {xs : List V} (h : ∀ i, o = some i → σ[i]? = some (some x)) (hs : Orig σ os xs) : Orig σ (o :: os) (x :: xs) := fun k i e => by
  cases k with
  | zero => exact ⟨x, rfl, h i (by simpa using e)⟩
  | succ k =>
    obtain ⟨y, h1, h2⟩ := hs k i (by simpa using e)
    exact ⟨y, by simpa using h1, h2⟩
theorem da_cons (h : DE X w e f) (hs : DA X w es os fs) (hst : starEach (e :: es) X.env = (false, eval e X.env) :: starEach es X.env := by rfl) : DA X w (e :: es) (none :: os) (dcons f fs) := by
  obtain ⟨t, p, d⟩ := h.ex
  obtain ⟨t', p', d'⟩ := hs.ex
  refine ⟨⟨_, pa_cons p p' hst, fun B σ H ρ ws ts Q ok q => ?_⟩, dcons_len hs.len⟩
  refine d B σ H ρ ws ts _ ok (q.bind.mono fun v ρ1 p1 x H1 ok1 => ?_)
  refine d' B σ H1 ρ1 _ _ _ ok1 (p1.bind.mono fun vs ρ2 p2 xs H2 hl ok2 ho => ?_)
  exact p2 (x :: xs) H2 (by simp [hl]) (Ok.perm3 hl ok2) (orig_cons (fun i e => nomatch e) ho)
/-- slot i holds something -/
def dhas (i : Nat) : M Unit := fun ρ => match ρ[i]? with
  | some (some _) => .ok () ρ
  | _ => .no
theorem dhas_of {K : PySem.W.Frag} {w : Wd} {B : Bs} {σ : St} {H : Hp} {ρ : Rho} {ws : List V} {ts : List T} {i : Nat} {P : Unit → Rho → Prop} (ok : Ok K w.m B σ H ρ ws ts) (q : PostG K w B (dhas i ρ) P) : (∃ v, σ[i]? = some (some v)) ∧ P () ρ := by
  unfold dhas at q
  cases e : ρ[i]? with
  | none => rw [e] at q; exact q.elim
  | some o =>
    cases o with
    | none => rw [e] at q; exact q.elim
    | some u =>
      rw [e] at q
      obtain ⟨v, h1, h2⟩ := ok.take e
      exact ⟨⟨v, h1⟩, q⟩
/-- an own one is lent: what stands there once the later arguments are made -/
def dlate (i : Nat) (fs : M (List T)) : M (List T) := mbind (dhas i) fun _ => mbind fs fun xs => mbind (dtake i) fun x => mret (x :: xs)
theorem dlate_len {i : Nat} {fs : M (List T)} {n : Nat} (h : ∀ vs ρ ρ', fs ρ = .ok vs ρ' → vs.length = n) : ∀ vs ρ ρ', dlate i fs ρ = .ok vs ρ' → vs.length = n + 1 := fun vs ρ ρ' e => by
  unfold dlate mbind at e
  cases e0 : dhas i ρ with
  | ok u ρ0 =>
    rw [e0] at e
    simp only at e
    cases e1 : fs ρ0 with
    | ok xs ρ1 =>
      rw [e1] at e
      simp only at e
      cases e2 : dtake i ρ1 with
      | ok x ρ2 =>
        rw [e2] at e
        cases e
        rw [List.length_cons, h _ _ _ e1]
      | ex a b => rw [e2] at e; cases e
      | no => rw [e2] at e; cases e
    | ex a b => rw [e1] at e; cases e
    | no => rw [e1] at e; cases e
  | ex a b => rw [e0] at e; cases e
  | no => rw [e0] at e; cases e
theorem da_own (i : Nat) {x : Str} {p0 : Pos} (hs : DA X w es os fs) (hN : X.N[i]? = some x := by rfl) (hv : Vis X.env.scope x := by first | exact Or.inl rfl | exact Or.inr (Or.inl rfl) | exact Or.inr (Or.inr rfl)) (hd : (x == ("__debug__" : Str)) = false := by decide)
    (hcd : (x == ("__classdict__" : Str)) = false := by decide) (hst : starEach (.Name x p0 :: es) X.env = (false, eval (.Name x p0) X.env) :: starEach es X.env := by rfl) : DA X w (.Name x p0 :: es) (some i :: os) (dlate i fs) := by
  obtain ⟨t', p', d'⟩ := hs.ex
  refine ⟨⟨_, pa_cons (pe_var hN hv hd hcd) p' hst, fun B σ H ρ ws ts Q ok q => ?_⟩, dlate_len hs.len⟩
  obtain ⟨⟨v, hv0⟩, q⟩ := dhas_of ok q.bind
  refine ⟨v, hv0, ?_⟩
  refine d' B σ H ρ ws ts _ ok (PostG.mono (PostG.bind q) fun vs ρ2 p2 xs H2 hl ok2 ho => ?_)
  have p3 := PostG.bind p2
  unfold dtake at p3
  cases e : ρ2[i]? with
  | none => rw [e] at p3; exact p3.elim
  | some o =>
    cases o with
    | none => rw [e] at p3; exact p3.elim
    | some t =>
      rw [e] at p3
      obtain ⟨v', h1, h2⟩ := ok2.take e
      have ev : v' = v := by
        rw [hv0] at h1
        exact (Option.some.inj (Option.some.inj h1)).symm
      subst ev
      exact (show ∀ ys H', ys.length = (t :: vs).length → Ok X.K w.m B σ H' (ρ2.set i none) (ys ++ ws) ((t :: vs) ++ ts) → Orig σ (some i :: os) ys → Q ys H' from p3) (v' :: xs) H2 (by simp [hl]) h2 (orig_cons (fun j e => by cases e; exact h1) ho)

/-! ### displays -/
def allD : List T → Option (List PyData)
  | [] => some []
  | .d x :: ts => (allD ts).map (x :: ·)
  | _ :: _ => none
theorem allD_eq : ∀ {ts : List T} {ds : List PyData}, allD ts = some ds → ts = ds.map T.d
  | [], _, e => by cases e; rfl
  | .d x :: ts, _, e => by
    unfold allD at e
    cases q : allD ts with
    | none => rw [q] at e; cases e
    | some es => rw [q] at e; cases e; rw [List.map_cons, allD_eq q]
  | .fn _ :: _, _, e => by cases e
  | .fns _ :: _, _, e => by cases e
  | .scr _ :: _, _, e => by cases e
  | .ty _ :: _, _, e => by cases e
  | .lst _ :: _, _, e => by cases e
  | .dct _ :: _, _, e => by cases e
  | .ins _ _ :: _, _, e => by cases e
def short {α : Type} (xs : List α) : Bool := decide (xs.length ≤ lim)
def mkTup (ts : List T) : Option T := match allD ts with
  | some ds => if short ds = true then some (.d (.tuple ds)) else none
  | none => none
def mkLst (ts : List T) : Option T := match allD ts with
  | some ds => if short ds = true then some (.d (.list ds)) else none
  | none => none
theorem Ok.popAll {K : PySem.W.Frag} {m : List Bool} {B : Bs} {σ : St} {H : Hp} {ρ : Rho} {ws : List V} {ts : List T} {x : V} {t : T} : ∀ {vs : List V} {us : List T}, vs.length = us.length → Ok K m B σ H ρ (x :: (vs ++ ws)) (t :: (us ++ ts)) → Ok K m B σ H ρ (x :: ws) (t :: ts)
  | [], [], _, h => h
  | [], _ :: _, l, _ => nomatch l
  | _ :: _, [], l, _ => nomatch l
  | _ :: vs, _ :: us, l, h => Ok.popAll (vs := vs) (us := us) (by simpa using l) (Ok.inStead h)
theorem drAll_pending {K : PySem.W.Frag} {I H : Hp} {ws : List V} {ts : List T} {vs : List V} {ds : List PyData} {Fw : List Addr} (hl : vs.length = ds.length) (w : RepTs K I H (vs ++ ws) (ds.map T.d ++ ts) Fw) : DrAll K I vs ds := by
  obtain ⟨G, E, _, g, _⟩ := RepTs.split (by rw [hl, List.length_map]) w
  exact g.toD.1
def dtup (fs : M (List T)) : M T := mbind fs fun ts => mopt (mkTup ts)
def dlst (fs : M (List T)) : M T := mbind fs fun ts => mopt (mkLst ts)
theorem de_tup {x1} (h : DA X w es os fs) : DE X w (.Tuple es x1 pos) (dtup fs) := by
  obtain ⟨t, p, d⟩ := h.ex
  refine de_v (pe_tup p) fun B σ H ρ ws ts Q ok q => ?_
  refine d B σ H ρ ws ts _ ok (q.bind.mono fun vs ρ1 p1 xs H1 hl ok1 _ => ?_)
  obtain ⟨z, e, q1⟩ := p1.opt
  unfold mkTup at e
  cases e1 : allD vs with
  | none => rw [e1] at e; cases e
  | some ds =>
    rw [e1] at e
    obtain ⟨hz, e⟩ := reqs e
    subst e
    have hv := allD_eq e1
    subst hv
    rw [List.length_map] at hl
    refine ⟨by rw [hl]; exact lim_le (of_decide_eq_true hz), fun p hp => q1 _ _ (Ok.popAll (by rw [hl, List.length_map]) (ok1.newTup hp fun I Fw _ w' => drAll_pending hl w'))⟩
theorem de_lst (h : DA X w es os fs) : DE X w (.List es pos) (dlst fs) := by
  obtain ⟨t, p, d⟩ := h.ex
  refine de_v (pe_lst p) fun B σ H ρ ws ts Q ok q => ?_
  refine d B σ H ρ ws ts _ ok (q.bind.mono fun vs ρ1 p1 xs H1 hl ok1 _ => ?_)
  obtain ⟨z, e, q1⟩ := p1.opt
  unfold mkLst at e
  cases e1 : allD vs with
  | none => rw [e1] at e; cases e
  | some ds =>
    rw [e1] at e
    obtain ⟨hz, e⟩ := reqs e
    subst e
    have hv := allD_eq e1
    subst hv
    rw [List.length_map] at hl
    refine ⟨by rw [hl]; exact lim_le (of_decide_eq_true hz), fun p hp => q1 _ _ (Ok.popAll (by rw [hl, List.length_map]) (ok1.newList hp fun I Fw _ w' => drAll_pending hl w'))⟩
/-- an own list -/
theorem Ok.newOwn {K : PySem.W.Frag} {m : List Bool} {B : Bs} {σ : St} {H : Hp} {ρ : Rho} {ws : List V} {ts : List T} {vs : List V} {us : List T} {p : Addr} (hl : vs.length = us.length) (h : Ok K m B σ H ρ (vs ++ ws) (us ++ ts)) (hp : H p = none) :
    Ok K m B σ (upd H p (.lst vs)) ρ (.ref p :: ws) (.lst us :: ts) := by
  obtain ⟨I, Fr, Fw, s, r, w, km⟩ := h
  obtain ⟨G, E, rfl, g, e⟩ := RepTs.split hl w
  have nf : ∀ a ∈ Fr ++ (G ++ E), (upd H p (.lst vs)) a = H a := fun a z => upd_ne (show a ≠ p from fun e => s.thr a z (by rw [e]; exact hp))
  have s' := s.newO (o := .lst vs) hp
  refine ⟨I, Fr, (p :: G) ++ E, s'.perm ?_, r.mono (Same.refl _) fun a z => nf a (List.mem_append_left _ z), .cons (.lst upd_same (g.mono (Same.refl _) fun a z => nf a (List.mem_append_right _ (List.mem_append_left _ z)))) (e.mono (Same.refl _) fun a z => nf a (List.mem_append_right _ (List.mem_append_right _ z))), km⟩
  rw [List.cons_append]
  exact List.perm_middle.symm
def dlstO (fs : M (List T)) : M T := mbind fs fun ts => if short ts = true then mret (.lst ts) else mno
theorem de_lstO (h : DA X w es os fs) : DE X w (.List es pos) (dlstO fs) := by
  obtain ⟨t, p, d⟩ := h.ex
  refine de_v (pe_lst p) fun B σ H ρ ws ts Q ok q => ?_
  refine d B σ H ρ ws ts _ ok (q.bind.mono fun vs ρ1 p1 xs H1 hl ok1 _ => ?_)
  by_cases hz : short vs = true
  · rw [if_pos hz] at p1
    exact ⟨by rw [hl]; exact lim_le (of_decide_eq_true hz), fun p hp => p1 _ _ (Ok.newOwn hl ok1 hp)⟩
  · rw [if_neg hz] at p1
    exact p1.elim
end
end DL
end
section
set_option Elab.async false
set_option linter.all false
set_option maxRecDepth 100000
set_option maxHeartbeats 4000000
/-! DL5: a def's contract where nothing is being written out around (guards), its call, its body; the end. -/
namespace DL
open PySem L2 PySem.Spec PyProof.Rows

/-- a def keeps sp, called where no repr runs around -/
structure FnG (P : Program) (w : World) (K : PySem.W.Frag) (mg : Str → Option Value) (base : Heap) (k : Nat) (f : Addr) (fd : FuncData) (ps : List Str) (sp : Sp) : Prop where
  len : ∀ vs H Q E, sp vs H Q E → vs.length = ps.length
  go : ∀ (A : Around) (outer : List Env) (s : Shared) (H : Hp) (args : Args) (us : List Value) (vs : List V) (Q : VK) (E : XK), A.guards = some [] → Room k A → Env0 P w K mg base A outer s H →
    BindsTo s fd args (ps.zip us) → Vals vs us → sp vs H Q E → codeAny (model P w) A (.call (.ref f) args) (CR (L2.CX P w) outer P w H s Q E) s
section
variable {P : Program} {w : World} {K : PySem.W.Frag} {mg : Str → Option Value} {base : Heap} {k : Nat} {f : Addr} {fd : FuncData} {ps : List Str} {sp : Sp}
theorem FnG.up {j : Nat} (F : FnG P w K mg base j f fd ps sp) (h : j ≤ k) : FnG P w K mg base k f fd ps sp :=
  ⟨F.len, fun A outer s H args us vs Q E g r => F.go A outer s H args us vs Q E g (r.mono h)⟩
theorem FnG.of (F : FnOk P w K mg base (L2.CX P w) k f fd ps sp) : FnG P w K mg base k f fd ps sp :=
  ⟨F.len, fun A outer s H args us vs Q E _ r => F.run A outer s H args us vs Q E r⟩
end

/-- what an exception that leaves a call comes to: the wish at the caller's slots -/
abbrev atSlots (W : WX) (σ : L2.St) : XK := fun c d H => W c d σ H
def tCallG (sp : Sp) (W : WX) (dvs : List V) (t : TA) : TE := fun σ H Q => t σ H fun vs H1 => sp (vs ++ dvs) H1 Q (atSlots W σ)
section
variable {X : Cx} {k : Nat} {f : Addr} {fd : FuncData} {ps : List Str} {sp : Sp} {W : WX} {dvs : List V} {ds : List Value} {x : Str} {p pos : Pos} {e : Expr} {es : List Expr} {t : TA}
/-- the callee runs -/
theorem goG {pins : List (Addr × Obj)} {σ : L2.St} {H : Hp} {s : Shared} {Q : VK} {us : List Value} {vs : List V} (F : FnG X.prog X.w X.K X.mg X.base k f fd ps sp) (g : X.A.guards = some []) (r : Room k X.A) (b : Binds X.K fd ps ds) (hd : Vals dvs ds)
    (tk : Takes X W) (I : Inv X pins σ H s) (rv : Vals vs us) (h : sp (vs ++ dvs) H Q (atSlots W σ)) : wpAny (model X.prog X.w) X.A (call (.ref f) us) (EP X pins σ Q) X.xe s := by
  have both := Vals.append rv hd
  have hl := (Vals.length both).symm.trans (F.len _ _ _ _ h)
  have code := F.go X.A X.stack s H ⟨us, []⟩ (us ++ ds) (vs ++ dvs) Q (atSlots W σ) g r I.env0 (b s us I.kIn hl) both h
  refine wpAny_call (codeAny_mono code fun res s' q => ?_)
  match res, q with
  | .error er, q => exact tk er s' (XE.of_call I (fun _ _ _ z => z) q)
  | .ok (.ret u), q => exact Inv.after I q
  | .ok .next, q => exact q.elim
  | .ok .brk, q => exact q.elim
  | .ok .cont, q => exact q.elim
theorem pe_callG (F : FnG X.prog X.w X.K X.mg X.base k f fd ps sp) (g : X.A.guards = some []) (r : Room k X.A) (hg : Gl X x) (hm : X.mg x = some (.ref f)) (kp : PySem.W.keepIn X.K (.ref f) = true) (b : Binds X.K fd ps ds) (hd : Vals dvs ds) (tk : Takes X W)
    (ha : PA X (e :: es) t) (dbg : (x == ("__debug__" : Str)) = false := by decide) (st : starEach (e :: es) X.env = (false, eval e X.env) :: starEach es X.env := by rfl) (pl : (backTo pos (starEach es X.env)).any (·.1) = false := by rfl) :
    PE X (.Call (.Name x p) (e :: es) [] pos) (tCallG sp W dvs t) := ⟨fun pins s σ H Q I h =>
  wpAny_Call_Name_kw (ld_glob I hg hm (PySem.W.callWith_K (h₀ := X.base) I.ok.mod.kin kp
    (thn (ha.run pos pins s σ H _ I h) fun us s1 a => by
      obtain ⟨vs, H1, I1, rv, q⟩ := a
      exact ⟨I1.kIn, goG F g r b hd tk I1 rv q⟩) st pl) dbg)⟩
theorem pe_callG0 (F : FnG X.prog X.w X.K X.mg X.base k f fd ps sp) (g : X.A.guards = some []) (r : Room k X.A) (hg : Gl X x) (hm : X.mg x = some (.ref f)) (kp : PySem.W.keepIn X.K (.ref f) = true) (b : Binds X.K fd ps ds) (hd : Vals dvs ds) (tk : Takes X W)
    (dbg : (x == ("__debug__" : Str)) = false := by decide) : PE X (.Call (.Name x p) [] [] pos) (tCallG sp W dvs tNil) := ⟨fun pins s σ H Q I h =>
  wpAny_Call_Name_kw (ld_glob I hg hm (PySem.W.callWith_K0 I.kIn kp (goG (us := []) F g r b hd tk I .nil h)) dbg)⟩
end

/-! ### .. with what it has of its own for the parameters behind -/
structure FnGd (P : Program) (w : World) (K : PySem.W.Frag) (mg : Str → Option Value) (base : Heap) (k : Nat) (f : Addr) (fd : FuncData) (ps : List Str) (ds : List Value) (sp : Sp) : Prop where
  len : ∀ vs H Q E, sp vs H Q E → vs.length + ds.length = ps.length
  go : ∀ (A : Around) (outer : List Env) (s : Shared) (H : Hp) (args : Args) (us : List Value) (vs : List V) (Q : VK) (E : XK), A.guards = some [] → Room k A → Env0 P w K mg base A outer s H →
    BindsTo s fd args (ps.zip (us ++ ds)) → Vals vs us → sp vs H Q E → codeAny (model P w) A (.call (.ref f) args) (CR (L2.CX P w) outer P w H s Q E) s
section
variable {P : Program} {w : World} {K : PySem.W.Frag} {mg : Str → Option Value} {base : Heap} {k : Nat} {f : Addr} {fd : FuncData} {ps : List Str} {sp : Sp}
theorem FnGd.of (F : FnG P w K mg base k f fd ps sp) : FnGd P w K mg base k f fd ps [] sp :=
  ⟨fun vs H Q E h => by rw [List.length_nil, Nat.add_zero]; exact F.len _ _ _ _ h, fun A outer s H args us vs Q E g r e b rv h => F.go A outer s H args us vs Q E g r e (by rw [List.append_nil] at b; exact b) rv h⟩
theorem FnGd.dflt {sp' : Sp} {dvs : List V} {ds : List Value} (F : FnG P w K mg base k f fd ps sp) (hd : Vals dvs ds) (h : ∀ vs H Q E, sp' vs H Q E → sp (vs ++ dvs) H Q E) : FnGd P w K mg base k f fd ps ds sp' :=
  ⟨fun vs H Q E z => by have := F.len _ _ _ _ (h _ _ _ _ z); rw [List.length_append] at this; rw [← hd.length]; exact this, fun A outer s H args us vs Q E g r e b rv z => F.go A outer s H args (us ++ ds) (vs ++ dvs) Q E g r e b (Vals.append rv hd) (h _ _ _ _ z)⟩
theorem FnGd.up {ds : List Value} {j : Nat} (F : FnGd P w K mg base j f fd ps ds sp) (h : j ≤ k) : FnGd P w K mg base k f fd ps ds sp :=
  ⟨F.len, fun A outer s H args us vs Q E g r => F.go A outer s H args us vs Q E g (r.mono h)⟩
end
section
variable {X : Cx} {k : Nat} {f : Addr} {fd : FuncData} {ps : List Str} {sp : Sp} {W : WX} {ds : List Value} {x : Str} {p pos : Pos} {e : Expr} {es : List Expr} {t : TA}
theorem goGd {pins : List (Addr × Obj)} {σ : L2.St} {H : Hp} {s : Shared} {Q : VK} {us : List Value} {vs : List V} (F : FnGd X.prog X.w X.K X.mg X.base k f fd ps ds sp) (g : X.A.guards = some []) (r : Room k X.A) (b : Binds X.K fd ps ds)
    (tk : Takes X W) (I : Inv X pins σ H s) (rv : Vals vs us) (h : sp vs H Q (atSlots W σ)) : wpAny (model X.prog X.w) X.A (call (.ref f) us) (EP X pins σ Q) X.xe s := by
  have hl : (us ++ ds).length = ps.length := by
    rw [List.length_append, ← rv.length]
    exact F.len _ _ _ _ h
  have code := F.go X.A X.stack s H ⟨us, []⟩ us vs Q (atSlots W σ) g r I.env0 (b s us I.kIn hl) rv h
  refine wpAny_call (codeAny_mono code fun res s' q => ?_)
  match res, q with
  | .error er, q => exact tk er s' (XE.of_call I (fun _ _ _ z => z) q)
  | .ok (.ret u), q => exact Inv.after I q
  | .ok .next, q => exact q.elim
  | .ok .brk, q => exact q.elim
  | .ok .cont, q => exact q.elim
theorem pe_callGd (F : FnGd X.prog X.w X.K X.mg X.base k f fd ps ds sp) (g : X.A.guards = some []) (r : Room k X.A) (hg : Gl X x) (hm : X.mg x = some (.ref f)) (kp : PySem.W.keepIn X.K (.ref f) = true) (b : Binds X.K fd ps ds) (tk : Takes X W)
    (ha : PA X (e :: es) t) (dbg : (x == ("__debug__" : Str)) = false := by decide) (st : starEach (e :: es) X.env = (false, eval e X.env) :: starEach es X.env := by rfl) (pl : (backTo pos (starEach es X.env)).any (·.1) = false := by rfl) :
    PE X (.Call (.Name x p) (e :: es) [] pos) (tCallG sp W [] t) := ⟨fun pins s σ H Q I h =>
  wpAny_Call_Name_kw (ld_glob I hg hm (PySem.W.callWith_K (h₀ := X.base) I.ok.mod.kin kp
    (thn (ha.run pos pins s σ H _ I h) fun us s1 a => by
      obtain ⟨vs, H1, I1, rv, q⟩ := a
      rw [List.append_nil] at q
      exact ⟨I1.kIn, goGd F g r b tk I1 rv q⟩) st pl) dbg)⟩
theorem pe_callGd0 (F : FnGd X.prog X.w X.K X.mg X.base k f fd ps ds sp) (g : X.A.guards = some []) (r : Room k X.A) (hg : Gl X x) (hm : X.mg x = some (.ref f)) (kp : PySem.W.keepIn X.K (.ref f) = true) (b : Binds X.K fd ps ds) (tk : Takes X W)
    (dbg : (x == ("__debug__" : Str)) = false := by decide) : PE X (.Call (.Name x p) [] [] pos) (tCallG sp W [] tNil) := ⟨fun pins s σ H Q I h =>
  wpAny_Call_Name_kw (ld_glob I hg hm (PySem.W.callWith_K0 I.kIn kp (goGd (us := []) F g r b tk I .nil h)) dbg)⟩
end

/-! ### what a def computes -/
/-- from its arguments a value, and what its parameters hold at the end -/
abbrev Fn := List T → R T
def OkR (K : PySem.W.Frag) (mg : Str → Option Value) (B : Bs) (vs : List V) (r : R T) (Q : VK) (E : XK) : Prop := match r with
  | .ok v ρ' => ∀ x H', Ok K [] B (vs.map some) H' ρ' [x] [v] → Q x H'
  | .ex e ρ' => ∀ c d H', OkX K [] mg B (vs.map some) H' ρ' e c d → E c d H'
  | .no => False
def FnD (K : PySem.W.Frag) (mg : Str → Option Value) (n : Nat) (g : Fn) : Sp := fun vs H Q E => vs.length = n ∧ ∃ I F ts, Sit ⟨I, H, F, vs.map some⟩ I H F ∧ RepTs K I H vs ts F ∧ OkR K mg ⟨I, H, F, vs.map some⟩ vs (g ts) Q E

theorem Kept.nil {B : Bs} {σ : L2.St} : Kept [] B σ := fun i h => by simp at h
/-- what was lent comes back -/
def restore : List (Option Nat) → Rho → Rho → Rho
  | some i :: os, some t :: ρa, ρ => restore os ρa (ρ.set i (some t))
  | some _ :: os, none :: ρa, ρ => restore os ρa ρ
  | none :: os, _ :: ρa, ρ => restore os ρa ρ
  | _, _, ρ => ρ
theorem RepR.restore {K : PySem.W.Frag} {B : Bs} {I H : Hp} {σ : L2.St} {Fw : List Addr} : ∀ {os : List (Option Nat)} {xs : List V} {ρa ρ : Rho} {Fr Fp : List Addr}, Orig σ os xs → RepR K I H (xs.map some) ρa Fp → RepR K I H σ ρ Fr → Sit B I H (Fr ++ (Fp ++ Fw)) →
    ∃ Fr', RepR K I H σ (restore os ρa ρ) Fr' ∧ Sit B I H (Fr' ++ Fw)
  | [], xs, ρa, ρ, Fr, Fp, _, _, r, s => ⟨Fr, r, s.less (fun a m => by
      rcases List.mem_append.mp m with m | m
      · exact List.mem_append_left _ m
      · exact List.mem_append_right _ (List.mem_append_right _ m)) ((List.Sublist.append (List.Sublist.refl _) (List.sublist_append_right _ _)).nodup s.nd)⟩
  | none :: os, [], ρa, ρ, Fr, Fp, o, p, r, s => by
    cases p
    exact ⟨Fr, r, s⟩
  | some j :: os, [], ρa, ρ, Fr, Fp, o, p, r, s => by
    cases p
    exact ⟨Fr, r, s⟩
  | o :: os, x :: xs, ρa, ρ, Fr, Fp, oo, p, r, s => by
    have tl : Orig σ os xs := fun k i e => by simpa using oo (k + 1) i (by simpa using e)
    cases p with
    | hid p =>
      cases o with
      | none => exact RepR.restore (os := os) (xs := xs) tl p r s
      | some i => exact RepR.restore (os := os) (xs := xs) tl p r s
    | has a p =>
      rename_i t ρ1 F G
      cases o with
      | none =>
        refine RepR.restore (os := os) (xs := xs) tl p r (s.less (fun a m => ?_) ?_)
        · rcases List.mem_append.mp m with m | m
          · exact List.mem_append_left _ m
          · rcases List.mem_append.mp m with m | m
            · exact List.mem_append_right _ (List.mem_append_left _ (List.mem_append_right _ m))
            · exact List.mem_append_right _ (List.mem_append_right _ m)
        · exact (List.Sublist.append (List.Sublist.refl _) (List.Sublist.append (List.sublist_append_right _ _) (List.Sublist.refl _))).nodup s.nd
      | some i =>
        obtain ⟨y, h1, h2⟩ := oo 0 i rfl
        have e1 : y = x := (Option.some.inj (show some x = some y from h1)).symm
        subst e1
        obtain ⟨F', R, h3, h4⟩ := RepR.back (i := i) r h2 a
        refine RepR.restore (os := os) (xs := xs) tl p h3 (s.sub' (R := R) ?_)
        have e2 : List.Perm (F' ++ (G ++ Fw) ++ R) (F' ++ R ++ (G ++ Fw)) := by
          rw [List.append_assoc (as := F') (bs := G ++ Fw), List.append_assoc (as := F') (bs := R)]
          exact List.Perm.append_left _ List.perm_append_comm
        refine e2.trans ((List.Perm.append_right _ h4).trans ?_)
        rw [List.append_assoc, List.append_assoc]
/-- a state behind a call -/
theorem Ok.called {K : PySem.W.Frag} {m : List Bool} {B : Bs} {σ : L2.St} {H H' : Hp} {ρ ρa : Rho} {ws : List V} {ts : List T} {xs : List V} {vs : List T} {os : List (Option Nat)} {v : V} {r : T} {I : Hp} {Fr Fa Fw : List Addr}
    (s : Sit B I H (Fr ++ (Fa ++ Fw))) (hr : RepR K I H σ ρ Fr) (hw : RepTs K I H ws ts Fw) (km : Kept m B σ) (ho : Orig σ os xs)
    (q : Ok K [] ⟨I, H, Fa, xs.map some⟩ (xs.map some) H' ρa [v] [r]) : Ok K m B σ H' (restore os ρa ρ) (v :: ws) (r :: ts) := by
  obtain ⟨I', Fp, Fv, s', hp, hv, _⟩ := q
  have nd := s.nd
  have inF : ∀ a ∈ Fr ++ Fw, a ∈ Fr ++ (Fa ++ Fw) := fun a z => by
    rcases List.mem_append.mp z with z | z
    · exact List.mem_append_left _ z
    · exact List.mem_append_right _ (List.mem_append_right _ z)
  have notA : ∀ a ∈ Fr ++ Fw, a ∉ Fa := fun a z zA => by
    rcases List.mem_append.mp z with z | z
    · exact (List.nodup_append.mp nd).2.2 a z a (List.mem_append_left _ zA) rfl
    · exact (List.nodup_append.mp (List.nodup_append.mp nd).2.1).2.2 a zA a z rfl
  have stay : ∀ a ∈ Fr ++ Fw, H' a = H a := fun a z => by
    cases e : H a with
    | none => exact absurd e (s.thr a (inF a z))
    | some o => exact s'.keep a o (notA a z) e
  have free : ∀ a ∈ Fr ++ Fw, I' a = none := fun a z => by
    cases e : I' a with
    | none => rfl
    | some o =>
      rcases s'.new a o e with h | h | h
      · have h' : I a = some o := h
        rw [s.own a (inF a z)] at h'; cases h'
      · exact absurd h (s.thr a (inF a z))
      · exact absurd h (notA a z)
  have far : ∀ a ∈ Fp ++ Fv, a ∉ Fr ++ Fw := fun a z z' => by
    rcases s'.fr a z with h | h
    · exact notA a z' h
    · exact s.thr a (inF a z') h
  have inA : ∀ a ∈ Fa, a ∈ Fr ++ (Fa ++ Fw) := fun a z => List.mem_append_right _ (List.mem_append_left _ z)
  have ndO : (Fr ++ Fw).Nodup := (List.Sublist.append (List.Sublist.refl _) (List.sublist_append_right _ _)).nodup nd
  have S : Sit B I' H' (Fr ++ (Fp ++ (Fv ++ Fw))) := by
    have pm : List.Perm (Fr ++ (Fp ++ (Fv ++ Fw))) ((Fp ++ Fv) ++ (Fr ++ Fw)) := by
      refine (List.perm_append_comm (l₁ := Fr) (l₂ := Fp ++ (Fv ++ Fw))).trans ?_
      rw [List.append_assoc, List.append_assoc, List.append_assoc]
      exact List.Perm.append_left _ (List.Perm.append_left _ List.perm_append_comm)
    have base : Sit B I' H' ((Fp ++ Fv) ++ (Fr ++ Fw)) := by
      refine ⟨s'.sub, fun a u z => s'.ext a u (s.ext a u z), fun a u n z => ?_, fun a u z => ?_, fun a z => ?_, fun a z => ?_, fun a z => ?_, ?_⟩
      · by_cases zA : a ∈ Fa
        · rcases s.fr a (inA a zA) with h | h
          · exact absurd h n
          · rw [h] at z; cases z
        · exact s'.keep a u zA (s.keep a u n z)
      · rcases s'.new a u z with h | h | h
        · exact s.new a u h
        · by_cases q1 : a ∈ B.F
          · exact .inr (.inr q1)
          · refine .inr (.inl ?_)
            cases e : B.H a with
            | none => rfl
            | some o =>
              have h' : H a = none := h
              rw [s.keep a o q1 e] at h'; cases h'
        · rcases s.fr a (inA a h) with h | h
          · exact .inr (.inr h)
          · exact .inr (.inl h)
      · rcases List.mem_append.mp z with z | z
        · rcases s'.fr a z with h | h
          · exact s.fr a (inA a h)
          · by_cases q1 : a ∈ B.F
            · exact .inl q1
            · refine .inr ?_
              cases e : B.H a with
              | none => rfl
              | some o =>
                have h' : H a = none := h
                rw [s.keep a o q1 e] at h'; cases h'
        · exact s.fr a (inF a z)
      · rcases List.mem_append.mp z with z | z
        · exact s'.own a z
        · exact free a z
      · rcases List.mem_append.mp z with z | z
        · exact s'.thr a z
        · rw [stay a z]; exact s.thr a (inF a z)
      · exact List.nodup_append.mpr ⟨s'.nd, ndO, fun a z b z' e => far a z (e ▸ z')⟩
    exact base.perm pm.symm
  obtain ⟨Fr', h1, h2⟩ := RepR.restore ho hp (hr.mono s'.ext fun a z => stay a (List.mem_append_left _ z)) S
  cases hv with
  | cons a b =>
    cases b
    refine ⟨I', Fr', _, h2.perm ?_, h1, .cons a (hw.mono s'.ext fun a z => stay a (List.mem_append_right _ z)), km⟩
    rw [List.append_nil]
theorem OkX.called {K : PySem.W.Frag} {m : List Bool} {mg : Str → Option Value} {B : Bs} {σ : L2.St} {H H' : Hp} {ρ ρa : Rho} {ws : List V} {ts : List T} {xs : List V} {vs : List T} {os : List (Option Nat)} {e : Exn} {c : Value} {d : Option Addr} {I : Hp} {Fr Fa Fw : List Addr}
    (s : Sit B I H (Fr ++ (Fa ++ Fw))) (hr : RepR K I H σ ρ Fr) (hw : RepTs K I H ws ts Fw) (km : Kept m B σ) (ho : Orig σ os xs)
    (q : OkX K [] mg ⟨I, H, Fa, xs.map some⟩ (xs.map some) H' ρa e c d) : OkX K m mg B σ H' (restore os ρa ρ) e c d := by
  obtain ⟨I', Fp, us, s', hp, _, hc, hd, hf⟩ := q
  have nd := s.nd
  have inF : ∀ a ∈ Fr, a ∈ Fr ++ (Fa ++ Fw) := fun a z => List.mem_append_left _ z
  have notA : ∀ a ∈ Fr, a ∉ Fa := fun a z zA => (List.nodup_append.mp nd).2.2 a z a (List.mem_append_left _ zA) rfl
  have stay : ∀ a ∈ Fr, H' a = H a := fun a z => by
    cases e : H a with
    | none => exact absurd e (s.thr a (inF a z))
    | some o => exact s'.keep a o (notA a z) e
  have free : ∀ a ∈ Fr, I' a = none := fun a z => by
    cases e : I' a with
    | none => rfl
    | some o =>
      rcases s'.new a o e with h | h | h
      · have h' : I a = some o := h
        rw [s.own a (inF a z)] at h'; cases h'
      · exact absurd h (s.thr a (inF a z))
      · exact absurd h (notA a z)
  have far : ∀ a ∈ Fp, a ∉ Fr := fun a z z' => by
    rcases s'.fr a z with h | h
    · exact notA a z' h
    · exact s.thr a (inF a z') h
  have inA : ∀ a ∈ Fa, a ∈ Fr ++ (Fa ++ Fw) := fun a z => List.mem_append_right _ (List.mem_append_left _ z)
  have S : Sit B I' H' (Fr ++ (Fp ++ [])) := by
    refine ⟨s'.sub, fun a u z => s'.ext a u (s.ext a u z), fun a u n z => ?_, fun a u z => ?_, fun a z => ?_, fun a z => ?_, fun a z => ?_, ?_⟩
    · by_cases zA : a ∈ Fa
      · rcases s.fr a (inA a zA) with h | h
        · exact absurd h n
        · rw [h] at z; cases z
      · exact s'.keep a u zA (s.keep a u n z)
    · rcases s'.new a u z with h | h | h
      · exact s.new a u h
      · by_cases q1 : a ∈ B.F
        · exact .inr (.inr q1)
        · refine .inr (.inl ?_)
          cases e : B.H a with
          | none => rfl
          | some o =>
            have h' : H a = none := h
            rw [s.keep a o q1 e] at h'; cases h'
      · rcases s.fr a (inA a h) with h | h
        · exact .inr (.inr h)
        · exact .inr (.inl h)
    · rw [List.append_nil] at z
      rcases List.mem_append.mp z with z | z
      · exact s.fr a (inF a z)
      · rcases s'.fr a z with h | h
        · exact s.fr a (inA a h)
        · by_cases q1 : a ∈ B.F
          · exact .inl q1
          · refine .inr ?_
            cases e : B.H a with
            | none => rfl
            | some o =>
              have h' : H a = none := h
              rw [s.keep a o q1 e] at h'; cases h'
    · rw [List.append_nil] at z
      rcases List.mem_append.mp z with z | z
      · exact free a z
      · exact s'.own a z
    · rw [List.append_nil] at z
      rcases List.mem_append.mp z with z | z
      · rw [stay a z]; exact s.thr a (inF a z)
      · exact s'.thr a z
    · rw [List.append_nil]
      exact List.nodup_append.mpr ⟨(List.nodup_append.mp nd).1, s'.nd, fun a z b z' e => far b z' (e ▸ z)⟩
  obtain ⟨Fr', h1, h2⟩ := RepR.restore ho hp (hr.mono s'.ext stay) S
  rw [List.append_nil] at h2
  exact ⟨I', Fr', us, h2, h1, km, hc, hd, hf⟩

/-- a call: what was lent is restored -/
def dcallF (g : Fn) (os : List (Option Nat)) (vs : List T) : M T := fun ρ => match g vs with
  | .ok r ρa => .ok r (restore os ρa ρ)
  | .ex e ρa => .ex e (restore os ρa ρ)
  | .no => .no
def dcall (g : Fn) (os : List (Option Nat)) (fs : M (List T)) : M T := mbind fs fun vs => dcallF g os vs
/-- an own def as the text has it -/
structure Def (P : Program) (w : World) (K : PySem.W.Frag) (mg : Str → Option Value) (base : Heap) (x : Str) (k n : Nat) (g : Fn) : Prop where
  ex : ∃ f fd ps ds, FnGd P w K mg base k f fd ps ds (FnD K mg n g) ∧ mg x = some (.ref f) ∧ PySem.W.keepIn K (.ref f) = true ∧ Binds K fd ps ds
/-- where one stands -/
structure At (X : Cx) (w : Wd) (k : Nat) : Prop where
  g : X.A.guards = some []
  r : Room k X.A
  tk : Takes X w.W
  cl : w.cl = X.mg
  ca : X.calm = true
  po : PassesOwn (model X.prog X.w) X.A X.env X.xe
theorem At.un {X : Cx} {w : Wd} {k : Nat} (h : At X w k) : X.A.units + 64 < cLine := h.r.units
section
variable {X : Cx} {w : Wd} {e : Expr} {es : List Expr} {fs : M (List T)} {os : List (Option Nat)} {g : Fn} {k n : Nat} {x : Str} {p pos : Pos}
theorem den_call {t : TA} {K : PySem.W.Frag} (hcl : w.cl = mg) (hn : ∀ vs : List T, ∀ ρ ρ', fs ρ = .ok vs ρ' → vs.length = n) (d : DenA K w t os fs) : DenE K w (tCallG (FnD K mg n g) w.W [] t) (dcall g os fs) := fun B σ H ρ ws ts Q ok q => by
  subst hcl
  refine d B σ H ρ ws ts _ ok ?_
  have q := q.bind
  cases e1 : fs ρ with
  | no => rw [e1] at q; exact q.elim
  | ex er ρ1 => rw [e1] at q; exact q
  | ok vs ρ1 =>
    rw [e1] at q
    intro xs H1 hl ok1 ho
    have q : PostG K w B (dcallF g os vs ρ1) _ := q
    unfold dcallF at q
    obtain ⟨I, Fr, F, s, hr, hw, km⟩ := id ok1
    obtain ⟨Fa, Fw, hF, ha, hw'⟩ := RepTs.split hl hw
    subst hF
    rw [List.append_nil]
    refine ⟨by rw [hl]; exact hn vs ρ ρ1 e1, I, Fa, vs, ⟨s.sub, Same.refl _, fun a o _ z => z, fun a o z => .inl z, fun a z => .inl z, fun a z => s.own a (List.mem_append_right _ (List.mem_append_left _ z)), fun a z => s.thr a (List.mem_append_right _ (List.mem_append_left _ z)), (List.nodup_append.mp (List.nodup_append.mp s.nd).2.1).1⟩, ha, ?_⟩
    cases e2 : g vs with
    | no => rw [e2] at q; exact q.elim
    | ok r ρa =>
      rw [e2] at q
      exact fun y H' ok2 => q y H' (Ok.called (vs := vs) s hr hw' km ho ok2)
    | ex er ρa =>
      rw [e2] at q
      exact fun c dd H' okx => q c dd σ H' (OkX.called (vs := vs) s hr hw' km ho okx)
theorem de_call {k' : Nat} (D : Def X.prog X.w X.K X.mg X.base x k n g) (at_ : At X w k') (ha : DA X w (e :: es) os fs) (hk : k ≤ k' := by decide) (hn : (e :: es).length = n := by rfl) (hg : Gl X x := by rfl) (dbg : (x == ("__debug__" : Str)) = false := by decide)
    (st : starEach (e :: es) X.env = (false, eval e X.env) :: starEach es X.env := by rfl) (pl : (backTo pos (starEach es X.env)).any (·.1) = false := by rfl) : DE X w (.Call (.Name x p) (e :: es) [] pos) (dcall g os fs) := by
  obtain ⟨f, fd, ps, ds, F, hm, kp, b⟩ := D.ex
  obtain ⟨t, pt, dt⟩ := ha.ex
  exact de_v (pe_callGd F at_.g (at_.r.mono hk) hg hm kp b at_.tk pt dbg st pl) (den_call at_.cl (fun vs ρ ρ' e => (ha.len vs ρ ρ' e).trans hn) dt)
theorem den_nil {K : PySem.W.Frag} : DenA K w tNil [] (mret []) := fun B σ H ρ ws ts Q ok p => p [] H rfl ok fun k i e => by simp at e
theorem de_call0 {k' : Nat} (D : Def X.prog X.w X.K X.mg X.base x k 0 g) (at_ : At X w k') (hk : k ≤ k' := by decide) (hg : Gl X x := by rfl) (dbg : (x == ("__debug__" : Str)) = false := by decide) : DE X w (.Call (.Name x p) [] [] pos) (dcall g [] (mret [])) := by
  obtain ⟨f, fd, ps, ds, F, hm, kp, b⟩ := D.ex
  exact de_v (pe_callGd0 F at_.g (at_.r.mono hk) hg hm kp b at_.tk dbg) (den_call at_.cl (fun vs ρ ρ' e => by cases e; rfl) den_nil)
end

/-! ### a def's body -/
def keepm : List Bool → Rho → Rho
  | [], _ => []
  | true :: m, o :: ρ => o :: keepm m ρ
  | false :: m, _ :: ρ => none :: keepm m ρ
  | _ :: m, [] => none :: keepm m []
theorem RepR.keepm {K : PySem.W.Frag} {I H : Hp} : ∀ {m : List Bool} {vs : List V} {σ : L2.St} {ρ : Rho} {F : List Addr}, vs.length = m.length → RepR K I H σ ρ F → (∀ i : Nat, m[i]? = some true → σ[i]? = (vs.map some)[i]?) →
    ∃ F' R, RepR K I H (vs.map some) (keepm m ρ) F' ∧ List.Perm (F' ++ R) F
  | [], [], σ, ρ, F, _, _, _ => ⟨[], F, .nil, List.Perm.refl _⟩
  | [], _ :: _, _, _, _, l, _, _ => nomatch l
  | _ :: _, [], _, _, _, l, _, _ => nomatch l
  | b :: m, v :: vs, _, _, _, l, .nil, k => by
    obtain ⟨F', R, h1, h2⟩ := RepR.keepm (m := m) (vs := vs) (σ := []) (ρ := []) (F := []) (K := K) (I := I) (H := H) (by simpa using l) .nil (fun i e => by simpa using k (i + 1) (by simpa using e))
    cases b <;> exact ⟨F', R, .hid h1, h2⟩
  | b :: m, v :: vs, _, _, _, l, .hid (F := F) r, k => by
    obtain ⟨F', R, h1, h2⟩ := RepR.keepm (m := m) (vs := vs) (by simpa using l) r (fun i e => by simpa using k (i + 1) (by simpa using e))
    cases b <;> exact ⟨F', R, .hid h1, h2⟩
  | b :: m, v :: vs, _, _, _, l, .has (v := u) (t := t) (F := F) (G := G) a r, k => by
    obtain ⟨F', R, h1, h2⟩ := RepR.keepm (m := m) (vs := vs) (by simpa using l) r (fun i e => by simpa using k (i + 1) (by simpa using e))
    cases b with
    | true =>
      have e : u = v := by simpa using k 0 rfl
      subst e
      exact ⟨F ++ F', R, .has a h1, by rw [List.append_assoc]; exact List.Perm.append_left _ h2⟩
    | false =>
      refine ⟨F', R ++ F, .hid h1, ?_⟩
      rw [← List.append_assoc]
      exact (List.Perm.append_right _ h2).trans List.perm_append_comm
def dfn (n : Nat) (m : List Bool) (F : M Fl) : Fn := fun ts => match F (ts.map some ++ List.replicate (n - ts.length) none) with
  | .ok fl ρ => match fl with
    | .rt v => .ok v (keepm m ρ)
    | .nx => .ok (.d .none) (keepm m ρ)
    | _ => .no
  | .ex e ρ => .ex e (keepm m ρ)
  | .no => .no
theorem RepR.start {K : PySem.W.Frag} {I H : Hp} (n : Nat) : ∀ {vs : List V} {ts : List T} {F : List Addr}, RepTs K I H vs ts F → RepR K I H (vs.map some ++ List.replicate n none) (ts.map some ++ List.replicate n none) F
  | _, _, _, .nil => by
    induction n with
    | zero => exact .nil
    | succ n ih => exact .hid ih
  | _, _, _, .cons a b => .has a (RepR.start n b)
theorem Sit.s {I0 H0 I H : Hp} {F0 F : List Addr} {s s' : L2.St} (h : Sit ⟨I0, H0, F0, s⟩ I H F) : Sit ⟨I0, H0, F0, s'⟩ I H F := ⟨h.sub, h.ext, h.keep, h.new, h.fr, h.own, h.thr, h.nd⟩
section
variable {P : Program} {w : World} {K : PySem.W.Frag} {mg : Str → Option Value} {base : Heap} {k : Nat} {f : Addr} {fd : FuncData} {N ps : List Str} {x qual : Str} {st : Stmt} {m : List Bool} {F : M Fl}
/-- the context in which a def's body runs -/
abbrev cxG (P : Program) (w : World) (K : PySem.W.Frag) (mg : Str → Option Value) (base : Heap) (N : List Str) (qual : Str) (st : Stmt) (f : Addr) (cd : Value) (A : Around) (outer : List Env) (s : Shared) (H : Hp) (E : XK) : Cx :=
  cxOf (L2.CX P w) P w K mg base N qual (defScope st) f cd A outer s H E
abbrev wdG (m : List Bool) (mg : Str → Option Value) (E : XK) : Wd := ⟨fun c d _ H => E c d H, m, mg⟩
/-- a body's derivation, in every context -/
def BodyOk (P : Program) (w : World) (K : PySem.W.Frag) (mg : Str → Option Value) (base : Heap) (k : Nat) (N : List Str) (qual : Str) (st : Stmt) (m : List Bool) (F : M Fl) : Prop :=
  ∀ (f : Addr) (cd : Value) (A : Around) (outer : List Env) (s : Shared) (H : Hp) (E : XK), At (cxG P w K mg base N qual st f cd A outer s H E) (wdG m mg E) k → DSs (cxG P w K mg base N qual st f cd A outer s H E) (wdG m mg E) (defBody st) F
theorem def_ok (U : Fun K x qual st f fd) (S : FnScope N ps (defScope st)) (hm : m.length = ps.length) (body : BodyOk P w K mg base k N qual st m F) : FnG P w K mg base (k + 1) f fd ps (FnD K mg ps.length (dfn N.length m F)) := by
  obtain ⟨oc, od, kV, doc, pm, an, cdv, ct, osl, rfl, lk, hcd⟩ := U.ex
  refine ⟨fun vs H Q E h => h.1, fun A outer s H args us vs Q E g r e0 hb rv hsp => ?_⟩
  obtain ⟨hl, I, Fa, ts, sit, rep, q⟩ := hsp
  have old : ∀ b o, base.get? b = some o → s.heap.get? b = some o := fun b o e => (e0.bs b o e).1
  have kin : K.In s.heap := e0.mod.kin.keeps old
  have names : ∀ y ∈ ps.zip us, (defScope st).names.lookup y.1 = some .local ∨ ((defScope st).names.lookup y.1 = some .cell ∧ ((cellsFrom (s.heap.objs.size + 1) (defScope st).names []).lookup y.1).isSome = true) := by
    rintro ⟨n, v⟩ hy
    exact (S.par n (List.of_mem_zip hy).1).imp id fun z => ⟨z, PySem.W.cellsFrom_some _ _ _ (.inl z)⟩
  refine codeAny_call_function r.depth (kin _ _ lk) rfl S.co S.gen rfl (PySem.W.codeRec_of kin hcd) (hb _ _ _ _ (wpAny_newFunctionEnv_cells S.kind names fun env he s1 inC => ?_))
  subst he
  refine ⟨(e0.mod.nolimit.keeps old).keeps inC.toInCall.keep, codeAny_func ?_⟩
  have cal : (cxG P w K mg base N qual st f cdv A outer s H E).calm = true := rfl
  have site : At (cxG P w K mg base N qual st f cdv A outer s H E) (wdG m mg E) k := ⟨g, r.deeper _, takes_of rfl rfl rfl rfl, rfl, rfl, passes_of rfl⟩
  obtain ⟨t, run, den⟩ := (body f cdv A outer s H E site).ex
  have I0 : Inv (cxG P w K mg base N qual st f cdv A outer s H E) [] (start N vs) H s1 := inv_start S r.hd e0 hl rv inC
  have lts : vs.length = ts.length := rep.len
  have ok0 : Ok K m ⟨I, H, Fa, start N vs⟩ (start N vs) H (ts.map some ++ List.replicate (N.length - ts.length) none) [] [] := by
    refine ⟨I, Fa, [], by rw [List.append_nil]; exact sit.s, ?_, .nil, fun i _ => rfl⟩
    unfold L2.start
    rw [lts]
    exact RepR.start _ rep
  have back : ∀ {σ' H' ρ' ws us'}, Ok K m ⟨I, H, Fa, start N vs⟩ σ' H' ρ' ws us' → Ok K [] ⟨I, H, Fa, vs.map some⟩ (vs.map some) H' (DL.keepm m ρ') ws us' := fun {σ' H' ρ' ws us'} z => by
    obtain ⟨I', Fr, Fw, s', r', w', km⟩ := z
    obtain ⟨F', R, h1, h2⟩ := RepR.keepm (vs := vs) (m := m) (by rw [hl, hm]) r' (fun i e => by
      rw [km i e]
      unfold L2.start
      have : i < vs.length := by
        have := (List.getElem?_eq_some_iff.mp e).1
        omega
      rw [List.getElem?_append_left (by simpa using this)])
    refine ⟨I', F', Fw, (s'.sub' (R := R) ?_).s, h1, w', Kept.nil⟩
    have e1 : List.Perm (F' ++ Fw ++ R) (F' ++ R ++ Fw) := by
      rw [List.append_assoc, List.append_assoc]
      exact List.Perm.append_left _ List.perm_append_comm
    exact e1.trans (List.Perm.append_right _ h2)
  have backX : ∀ {σ' H' ρ' er c d}, OkX K m mg ⟨I, H, Fa, start N vs⟩ σ' H' ρ' er c d → OkX K [] mg ⟨I, H, Fa, vs.map some⟩ (vs.map some) H' (DL.keepm m ρ') er c d := fun {σ' H' ρ' er c d} z => by
    obtain ⟨I', Fr, us', s', r', km, hc, hd, hf⟩ := z
    obtain ⟨F', R, h1, h2⟩ := RepR.keepm (vs := vs) (m := m) (by rw [hl, hm]) r' (fun i e => by
      rw [km i e]
      unfold L2.start
      have : i < vs.length := by
        have := (List.getElem?_eq_some_iff.mp e).1
        omega
      rw [List.getElem?_append_left (by simpa using this)])
    exact ⟨I', F', us', (s'.sub' (R := R) h2).s, h1, Kept.nil, hc, hd, hf⟩
  have goal : t { nx := fun _ H' => Q .non H', rt := Q } (start N vs) H := by
    refine den ⟨I, H, Fa, start N vs⟩ _ _ _ [] [] _ ok0 ?_
    unfold dfn at q
    cases e : F (ts.map some ++ List.replicate (N.length - ts.length) none) with
    | no => rw [e] at q; exact q.elim
    | ex er ρ' =>
      rw [e] at q
      exact fun c d σ' H' okx => q c d H' (backX okx)
    | ok fl ρ' =>
      rw [e] at q
      cases fl with
      | rt v => exact fun x σ' H' ok' => q x H' (back ok')
      | nx => exact fun σ' H' ok' => q .non H' (back ok').non
      | bk => exact q.elim
      | ct => exact q.elim
  refine wpAny_mono (run.run [] s1 (start N vs) H _ I0 goal) (fun fl s' hs => ?_) fun e s' hs => hs
  have fin : ∀ {σ' : L2.St} {H' : Hp} {v : V} {u : Value}, Inv (cxG P w K mg base N qual st f cdv A outer s H E) [] σ' H' s' → RelV v u → Q v H' → CE outer P w H s Q u s' :=
    fun {σ' H' v u} J rv q => ⟨v, H', J.os, J.bare, J.base, J.hok, rv, q⟩
  match fl, hs with
  | .ret u, ⟨v, σ', H', J, ru, z⟩ => exact fin J ru z
  | .next, ⟨σ', H', J, z⟩ => exact fin (v := V.non) (u := Value.none) J rfl z
  | .brk, ⟨_, _, _, z⟩ => exact z.elim
  | .cont, ⟨_, _, _, z⟩ => exact z.elim
theorem Def.of (U : Fun K x qual st f fd) (hm : mg x = some (.ref f)) (b : Binds K fd ps []) {n : Nat} {g : Fn} (h : FnG P w K mg base k f fd ps (FnD K mg n g)) : Def P w K mg base x k n g := ⟨f, fd, ps, [], .of h, hm, U.kp, b⟩
end
end DL
end
section
set_option Elab.async false
set_option linter.all false
set_option maxRecDepth 100000
set_option maxHeartbeats 4000000
/-! DL6: what is walked, loops, comprehensions. -/
namespace DL
open PySem L2

/-! ### what is walked -/
/-- with ws1, ts1 pending J walks the data ds -/
def JWalk (K : PySem.W.Frag) (J : It) (ws1 : List V) (ts1 : List T) (ds : List PyData) : Prop :=
  ∀ m B σ H ρ ws ts (i : Nat), Ok K m B σ H ρ (ws1 ++ ws) (ts1 ++ ts) → (ds.length = i → J.stop i H) ∧
    ∀ d, ds[i]? = some d → J.go i H ∧ ∀ x H', J.yld i H x H' → Ok K m B σ H' ρ (x :: (ws1 ++ ws)) (.d d :: (ts1 ++ ts))
def DenI (K : PySem.W.Frag) (w : Wd) (wi : TI) (f : M (List PyData)) : Prop := ∀ B σ H ρ ws ts R, Ok K w.m B σ H ρ ws ts →
  PostG K w B (f ρ) (fun ds ρ' => ∀ J H' ws1 ts1, ws1.length = ts1.length → Ok K w.m B σ H' ρ' (ws1 ++ ws) (ts1 ++ ts) → JWalk K J ws1 ts1 ds → R J H') → wi σ H R
structure DI (X : Cx) (w : Wd) (tg iter : Expr) (f : M (List PyData)) : Prop where
  ex : ∃ wi, PI X tg iter wi ∧ DenI X.K w wi f
theorem PI.or {X : Cx} {tg iter : Expr} {w1 w2 : TI} (h1 : PI X tg iter w1) (h2 : PI X tg iter w2) : PI X tg iter (fun σ H R => w1 σ H R ∨ w2 σ H R) :=
  ⟨fun pins s σ H R I h => h.elim (h1.run pins s σ H R I) (h2.run pins s σ H R I)⟩
section
variable {X : Cx} {w : Wd} {tg e : Expr} {f : M T} {pos p : Pos} {K : PySem.W.Frag}
def seqItems : T → Option (List PyData)
  | .d (.list ds) => some ds
  | .d (.tuple ds) => some ds
  | .d (.str z) => some (z.cps.toList.map fun c => .str ⟨#[c]⟩)
  | _ => none
def dseq (f : M T) : M (List PyData) := mbind f fun t => mopt (seqItems t)
theorem walk_list {a : Addr} {vs0 : List V} {ds : List PyData} : JWalk K (Itl K a) [.ref a] [.d (.list ds)] ds := fun m B σ H ρ ws ts i ok => by
  obtain ⟨I, Fr, Fw, s, r, wz, km⟩ := id ok
  obtain ⟨a', vs, e, ha, dd⟩ := lst_items wz
  cases e
  have hH := s.sub _ _ ha
  refine ⟨fun hi => ⟨vs, SqL.of hH, by rw [dd.len]; exact Nat.le_of_eq hi⟩, fun d hd => ?_⟩
  obtain ⟨v, hv, dv⟩ := dd.get' hd
  refine ⟨⟨vs, v, SqL.of hH, hv⟩, fun x H' y => ?_⟩
  obtain ⟨e, y⟩ := y
  subst e
  have hx := y vs (SqL.of hH)
  rw [hv] at hx
  cases hx
  exact ⟨I, Fr, _, s, r, .cons (F := []) (.d dv) wz, km⟩
theorem walk_tup {a : Addr} {vs : List V} {ds : List PyData} (hl : vs.length = ds.length) (hu : ∀ m B σ H ρ ws ts, Ok K m B σ H ρ (.ref a :: ws) (.d (.tuple ds) :: ts) → ∀ us, SqT K H a us → us = vs) : JWalk K (Itt K a) [.ref a] [.d (.tuple ds)] ds := fun m B σ H ρ ws ts i ok => by
  obtain ⟨I, Fr, Fw, s, r, wz, km⟩ := id ok
  obtain ⟨a', us, e, ha, dd⟩ := tup_items wz
  cases e
  have hH := st_mono s.sub ha
  refine ⟨fun hi => ⟨us, hH, by rw [dd.len]; exact Nat.le_of_eq hi⟩, fun d hd => ?_⟩
  obtain ⟨v, hv, dv⟩ := dd.get' hd
  refine ⟨⟨us, v, hH, hv⟩, fun x H' y => ?_⟩
  obtain ⟨e, y⟩ := y
  subst e
  have hx := y us hH
  rw [hv] at hx
  cases hx
  exact ⟨I, Fr, _, s, r, .cons (F := []) (.d dv) wz, km⟩
theorem walk_str {x : Str} : JWalk K (Its x) [] [] (x.cps.toList.map fun c => PyData.str ⟨#[c]⟩) := fun m B σ H ρ ws ts i ok => by
  refine ⟨fun hi => show x.cps.size ≤ i from (by have := Nat.le_of_eq hi; simpa using this), fun d hd => ?_⟩
  rw [List.getElem?_map] at hd
  cases e : x.cps.toList[i]? with
  | none => rw [e] at hd; cases hd
  | some c =>
    rw [e] at hd
    cases hd
    have hi : i < x.cps.size := by
      have := (List.getElem?_eq_some_iff.mp e).1
      simpa using this
    refine ⟨hi, fun v H' y => ?_⟩
    obtain ⟨e1, c', hc, ev⟩ := y
    subst e1 ev
    have : c' = c := by
      rw [← Array.getElem?_toList, e] at hc
      exact (Option.some.inj hc).symm
    subst this
    exact ok.str
theorem di_seq (h : DE X w e f) : DI X w tg e (dseq f) := by
  obtain ⟨t, pt, dt⟩ := h.ex
  refine ⟨_, PI.or (pi_list pt) (PI.or (pi_tup pt) (pi_str pt)), fun B σ H ρ ws ts R ok q => ?_⟩
  have q := q.bind
  cases e1 : f ρ with
  | no => rw [e1] at q; exact q.elim
  | ex er ρ1 => rw [e1] at q; exact .inl (dt B σ H ρ ws ts _ ok (by rw [e1]; exact q))
  | ok v ρ1 =>
    rw [e1] at q
    obtain ⟨ds, e2, q2⟩ := (show PostG X.K w B (mopt (seqItems v) ρ1) _ from q).opt
    unfold seqItems at e2
    split at e2
    · cases e2
      refine .inl (dt B σ H ρ ws ts _ ok ?_)
      rw [e1]
      intro x H1 ok1
      obtain ⟨a, vs, rfl, ha, dd⟩ := ok1.topList
      exact ⟨a, rfl, ⟨vs, SqL.of ha⟩, q2 _ H1 [.ref a] [.d (.list _)] rfl ok1 (walk_list (vs0 := vs))⟩
    · cases e2
      refine .inr (.inl (dt B σ H ρ ws ts _ ok ?_))
      rw [e1]
      intro x H1 ok1
      obtain ⟨a, vs, rfl, ha, dd⟩ := ok1.topTup
      refine ⟨a, rfl, ⟨vs, ha⟩, q2 _ H1 [.ref a] [.d (.tuple _)] rfl ok1 fun m B σ H ρ ws ts i ok => ?_⟩
      obtain ⟨I, Fr, Fw, s, r, wz, km⟩ := id ok
      obtain ⟨a', us, e, ha, dd⟩ := tup_items wz
      cases e
      have hH := st_mono s.sub ha
      refine ⟨fun hi => ⟨us, hH, by rw [dd.len]; exact Nat.le_of_eq hi⟩, fun d hd => ?_⟩
      obtain ⟨v, hv, dv⟩ := dd.get' hd
      refine ⟨⟨us, v, hH, hv⟩, fun x H' y => ?_⟩
      obtain ⟨e, y⟩ := y
      subst e
      have hx := y us hH
      rw [hv] at hx
      cases hx
      exact ⟨I, Fr, _, s, r, .cons (F := []) (.d dv) wz, km⟩
    · cases e2
      refine .inr (.inr (dt B σ H ρ ws ts _ ok ?_))
      rw [e1]
      intro x H1 ok1
      have hx := ok1.topStr
      subst hx
      exact ⟨_, rfl, q2 _ H1 [] [] rfl ok1.pop walk_str⟩
    · cases e2
/-- range -/
def intsFrom (lo : Int) (n : Nat) : List PyData := (List.range n).map fun i => .int (lo + (i : Nat))
theorem intsFrom_get (lo : Int) (n i : Nat) : (intsFrom lo n)[i]? = if i < n then some (.int (lo + i)) else none := by
  unfold intsFrom
  rw [List.getElem?_map]
  by_cases h : i < n
  · rw [if_pos h, List.getElem?_range h]; rfl
  · rw [if_neg h, List.getElem?_eq_none (by simpa using h)]; rfl
theorem walk_range {lo : Int} {n : Nat} : JWalk K (Itr lo n) [] [] (intsFrom lo n) := fun m B σ H ρ ws ts i ok => by
  refine ⟨fun hi => show n ≤ i from (by have := Nat.le_of_eq hi; simpa [intsFrom] using this), fun d hd => ?_⟩
  rw [intsFrom_get] at hd
  by_cases h : i < n
  · rw [if_pos h] at hd
    cases hd
    refine ⟨h, fun x H' y => ?_⟩
    obtain ⟨e, y⟩ := y
    subst e y
    exact ok.int
  · rw [if_neg h] at hd; cases hd
def okRange (i : Int) : Bool := decide (-1000000 ≤ i) && decide (i ≤ 1000000)
def rangeItems : List T → Option (List PyData)
  | [.d (.int j)] => if okRange j = true then some (intsFrom 0 j.toNat) else none
  | [.d (.int i), .d (.int j)] => if (okRange i && okRange j) = true then some (intsFrom i (j - i).toNat) else none
  | _ => none
theorem okRange_of {i : Int} (h : okRange i = true) : -(2 ^ 62) ≤ i ∧ i < 2 ^ 62 := by
  have h := (Bool.and_eq_true _ _).mp h
  have h1 := of_decide_eq_true h.1
  have h2 := of_decide_eq_true h.2
  omega
def drange (fs : M (List T)) : M (List PyData) := mbind fs fun ts => mopt (rangeItems ts)
/-- a name that the module leaves to the built-ins -/
abbrev NoG (X : Cx) (x : Str) : Prop := X.mg x = none
theorem di_range1 {a : Expr} {os : List (Option Nat)} {fs : M (List T)} (hm : NoG X "range") (ha : DA X w [a] os fs) (hg : Gl X "range" := by rfl) (hs : starEach [a] X.env = [(false, eval a X.env)] := by rfl) : DI X w tg (.Call (.Name "range" p) [a] [] pos) (drange fs) := by
  obtain ⟨t, pt, dt⟩ := ha.ex
  refine ⟨_, pi_range1 hg hm pt hs, fun B σ H ρ ws ts R ok q => ?_⟩
  refine dt B σ H ρ ws ts _ ok ?_
  have q := q.bind
  cases e1 : fs ρ with
  | no => rw [e1] at q; exact q.elim
  | ex er ρ1 => rw [e1] at q; exact q
  | ok vs ρ1 =>
    rw [e1] at q
    intro xs H1 hl ok1 _
    have hlen := ha.len vs ρ ρ1 e1
    obtain ⟨ds, e2, q2⟩ := (show PostG X.K w B (mopt (rangeItems vs) ρ1) _ from q).opt
    unfold rangeItems at e2
    split at e2
    · obtain ⟨h1, h2⟩ := reqs e2
      subst h2
      obtain ⟨x, rfl⟩ : ∃ x, xs = [x] := by
        cases xs with
        | nil => cases hl
        | cons x r => cases r with
          | nil => exact ⟨x, rfl⟩
          | cons _ _ => cases hl
      have hx := Ok.topInt (ws := ws) (ts := ts) ok1
      subst hx
      obtain ⟨b1, b2⟩ := okRange_of h1
      exact ⟨_, rfl, b1, b2, q2 _ H1 [] [] rfl (Ok.pop (ws := ws) (ts := ts) ok1) walk_range⟩
    · cases hlen
    · cases e2
theorem di_range2 {a b : Expr} {os : List (Option Nat)} {fs : M (List T)} (hm : NoG X "range") (ha : DA X w [a, b] os fs) (hg : Gl X "range" := by rfl) (hs : starEach [a, b] X.env = [(false, eval a X.env), (false, eval b X.env)] := by rfl) (hs2 : starEach [b] X.env = [(false, eval b X.env)] := by rfl) :
    DI X w tg (.Call (.Name "range" p) [a, b] [] pos) (drange fs) := by
  obtain ⟨t, pt, dt⟩ := ha.ex
  refine ⟨_, pi_range2 hg hm pt hs hs2, fun B σ H ρ ws ts R ok q => ?_⟩
  refine dt B σ H ρ ws ts _ ok ?_
  have q := q.bind
  cases e1 : fs ρ with
  | no => rw [e1] at q; exact q.elim
  | ex er ρ1 => rw [e1] at q; exact q
  | ok vs ρ1 =>
    rw [e1] at q
    intro xs H1 hl ok1 _
    have hlen := ha.len vs ρ ρ1 e1
    obtain ⟨ds, e2, q2⟩ := (show PostG X.K w B (mopt (rangeItems vs) ρ1) _ from q).opt
    unfold rangeItems at e2
    split at e2
    · cases hlen
    · obtain ⟨h1, h2⟩ := reqs e2
      subst h2
      obtain ⟨x, y, rfl⟩ : ∃ x y, xs = [x, y] := by
        cases xs with
        | nil => cases hl
        | cons x r => cases r with
          | nil => cases hl
          | cons y r => cases r with
            | nil => exact ⟨x, y, rfl⟩
            | cons _ _ => cases hl
      have hx := Ok.topInt (ws := _ :: ws) (ts := _ :: ts) ok1
      have ok2 := Ok.pop (ws := _ :: ws) (ts := _ :: ts) ok1
      have hy := ok2.topInt
      subst hx hy
      have h1 := (Bool.and_eq_true _ _).mp h1
      obtain ⟨b1, b2⟩ := okRange_of h1.1
      obtain ⟨b3, b4⟩ := okRange_of h1.2
      exact ⟨_, _, rfl, ⟨b1, b2, b3, b4⟩, q2 _ H1 [] [] rfl ok2.pop walk_range⟩
    · cases e2
/-- enumerate of a list -/
def numbered : Nat → List PyData → List PyData
  | _, [] => []
  | k, d :: ds => .tuple [.int k, d] :: numbered (k + 1) ds
theorem numbered_len : ∀ (k : Nat) (ds : List PyData), (numbered k ds).length = ds.length
  | _, [] => rfl
  | k, _ :: ds => by simp [numbered, numbered_len (k + 1) ds]
theorem numbered_get : ∀ (k : Nat) (ds : List PyData) (i : Nat) (e : PyData), (numbered k ds)[i]? = some e → ∃ d, ds[i]? = some d ∧ e = .tuple [.int ((k + i : Nat) : Int), d]
  | _, [], i, e, h => by simp [numbered] at h
  | k, d :: ds, 0, e, h => by
    simp [numbered] at h
    exact ⟨d, rfl, by rw [← h]; rfl⟩
  | k, d :: ds, i + 1, e, h => by
    obtain ⟨d', h1, h2⟩ := numbered_get (k + 1) ds i e (by simpa [numbered] using h)
    refine ⟨d', by simpa using h1, ?_⟩
    rw [h2]
    have : k + 1 + i = k + (i + 1) := by omega
    rw [this]
def enumItems : List T → Option (List PyData)
  | [.d (.list ds)] => some (numbered 0 ds)
  | _ => none
def denum (fs : M (List T)) : M (List PyData) := mbind fs fun ts => mopt (enumItems ts)
theorem walk_enum {a : Addr} {ds : List PyData} : JWalk K (Ite K a) [.ref a] [.d (.list ds)] (numbered 0 ds) := fun m B σ H ρ ws ts i ok => by
  obtain ⟨I, Fr, Fw, s, r, wz, km⟩ := id ok
  obtain ⟨a', vs, e, ha, dd⟩ := lst_items wz
  cases e
  have hH := s.sub _ _ ha
  refine ⟨fun hi => ⟨vs, SqL.of hH, by rw [dd.len]; rw [numbered_len] at hi; exact Nat.le_of_eq hi⟩, fun d hd => ?_⟩
  obtain ⟨d', hd', rfl⟩ := numbered_get 0 ds i d hd
  obtain ⟨v, hv, dv⟩ := dd.get' hd'
  refine ⟨⟨vs, v, SqL.of hH, hv⟩, fun x H' y => ?_⟩
  obtain ⟨t, z, rfl, ht, rfl, hz⟩ := y
  have hx := hz vs (SqL.of hH)
  rw [hv] at hx
  cases hx
  refine Ok.newTup ok ht fun I' Fw' sb w' => ?_
  obtain ⟨a', vs', e', ha', dd'⟩ := lst_items w'
  cases e'
  have := sb _ _ ha'
  rw [hH] at this
  cases this
  obtain ⟨d2, h2, dv2⟩ := dd'.get hv
  rw [hd'] at h2
  cases h2
  rw [Nat.zero_add]
  exact .cons (.int _) (.cons dv2 .nil)
theorem di_enum {a : Expr} {es : List Expr} {kk : Nat} {tpos : Pos} {os : List (Option Nat)} {fs : M (List T)} (hm : NoG X "enumerate") (ha : DA X w [a] os fs) (hg : Gl X "enumerate" := by rfl) (hs : starEach [a] X.env = [(false, eval a X.env)] := by rfl) :
    DI X w (.Tuple es kk tpos) (.Call (.Name "enumerate" p) [a] [] pos) (denum fs) := by
  obtain ⟨t, pt, dt⟩ := ha.ex
  refine ⟨_, pi_enum hg hm pt hs, fun B σ H ρ ws ts R ok q => ?_⟩
  refine dt B σ H ρ ws ts _ ok (q.bind.mono fun vs ρ1 p1 xs H1 hl ok1 _ => ?_)
  obtain ⟨ds, e2, q2⟩ := p1.opt
  unfold enumItems at e2
  split at e2
  · cases e2
    obtain ⟨x, rfl⟩ : ∃ x, xs = [x] := by
      cases xs with
      | nil => cases hl
      | cons x r => cases r with
        | nil => exact ⟨x, rfl⟩
        | cons _ _ => cases hl
    obtain ⟨a, vs, rfl, ha, dd⟩ := Ok.topList (ws := ws) (ts := ts) ok1
    exact ⟨a, vs, rfl, SqL.of ha, q2 _ H1 [.ref a] [.d (.list _)] rfl ok1 walk_enum⟩
  · cases e2
end

/-! ### for -/
section
variable {X : Cx} {w : Wd} {tg iter : Expr} {body : List Stmt} {fi : M (List PyData)} {g : T → M Unit} {S : List Nat} {F : M Fl} {pos : Pos} {k : Nat}
def sfor (fi : M (List PyData)) (g : T → M Unit) (F : M Fl) : M Fl := mbind fi fun ds => mfor g F (ds.map T.d)
theorem ds_for (at_ : At X w k) (hi : DI X w tg iter fi) (hg : DG X w tg S g) (hb : DSs X w body F) (hs : ∀ x, foldedSetIterable iter X.env x = pure x := by intro _; rfl) : DS X w (.For tg iter body [] pos) (sfor fi g F) := by
  obtain ⟨wi, pi, di⟩ := hi.ex
  obtain ⟨tg', pg, dg⟩ := hg.ex
  obtain ⟨tb, pb, db⟩ := hb.ex
  refine ⟨_, ps_for at_.po at_.ca pi pg pb hs, fun B σ H ρ ws ts D ok q => ?_⟩
  refine di B σ H ρ ws ts _ ok (q.bind.mono fun ds ρ1 p1 J H1 ws1 ts1 hl ok1 jw => ?_)
  refine ⟨fun i n σ H => n = ds.length - i ∧ i ≤ ds.length ∧ ∃ ρ, Ok X.K w.m B σ H ρ (ws1 ++ ws) (ts1 ++ ts) ∧ PostG X.K w B (mfor g F ((ds.drop i).map T.d) ρ) (PostS X.K w B ws ts D), ⟨ds.length, rfl, Nat.zero_le _, ρ1, ok1, p1⟩, ?_⟩
  rintro i n σ2 H2 ⟨rfl, hi, ρ2, ok2, p2⟩
  obtain ⟨j1, j2⟩ := jw w.m B σ2 H2 ρ2 ws ts i ok2
  by_cases hlt : i < ds.length
  · obtain ⟨go, yl⟩ := j2 ds[i] (by simp [hlt])
    refine .inr ⟨go, fun σ H => i + 1 ≤ ds.length ∧ ∃ ρ, Ok X.K w.m B σ H ρ (ws1 ++ ws) (ts1 ++ ts) ∧ PostG X.K w B (mfor g F ((ds.drop (i + 1)).map T.d) ρ) (PostS X.K w B ws ts D), fun σ' H' h => ⟨ds.length - (i + 1), by omega, rfl, h.1, h.2⟩, fun x H' y => ?_⟩
    have ok3 := yl x H' y
    rw [List.drop_eq_getElem_cons hlt, List.map_cons] at p2
    have p3 : PostG X.K w B (g (.d ds[i]) ρ2) _ := PostG.bind p2
    refine dg B σ2 H' ρ2 _ _ x _ _ ok3 (p3.mono fun _ ρ4 p4 σ4 H4 _ ok4 => ?_)
    refine db B σ4 H4 ρ4 _ _ _ ok4 ((PostG.bind p4).mono fun fl ρ5 p5 => ?_)
    cases fl with
    | nx => exact fun σ' H' ok' => ⟨hlt, ρ5, ok', p5⟩
    | ct => exact fun σ' H' ok' => ⟨hlt, ρ5, ok', p5⟩
    | bk => exact fun σ' H' ok' => (show ∀ σ' H', Ok X.K w.m B σ' H' ρ5 ws ts → D.nx σ' H' from p5) σ' H' ((Ok.popAll hl ok'.non).pop)
    | rt v => exact fun x σ' H' ok' => (show ∀ x σ' H', Ok X.K w.m B σ' H' ρ5 (x :: ws) (v :: ts) → D.rt x H' from p5) x σ' H' (Ok.popAll hl ok')
  · have e : i = ds.length := by omega
    subst e
    rw [List.drop_length, List.map_nil] at p2
    exact .inl ⟨j1 rfl, (show ∀ σ' H', Ok X.K w.m B σ' H' ρ2 ws ts → D.nx σ' H' from p2) σ2 H2 ((Ok.popAll hl ok2.non).pop)⟩
end
end DL
end
section
set_option Elab.async false
set_option linter.all false
set_option maxRecDepth 100000
set_option maxHeartbeats 4000000
/-! DL7: own lists grown, frozen; comprehensions. -/
namespace DL
open PySem L2

mutual
/-- a tree as data -/
def toD : T → Option PyData
  | .d x => some x
  | .lst xs => (toDs xs).map PyData.list
  | .fn _ => none
  | .scr _ => none
  | .fns _ => none
  | .ty _ => none
  | .dct _ => none
  | .ins _ _ => none
  | .exc _ _ => none
  | .fin _ _ => none
  | .tup xs => (toDs xs).map PyData.tuple
  | .opq _ => none
  | .hole => none
def toDs : List T → Option (List PyData)
  | [] => some []
  | t :: ts => match toD t, toDs ts with
    | some d, some ds => some (d :: ds)
    | _, _ => none
end
mutual
theorem frz_rep {K : PySem.W.Frag} {I I' H : Hp} (sm : Same I I') : ∀ {v : V} {t : T} {F : List Addr} {d : PyData}, RepT K I H v t F → toD t = some d → (∀ a ∈ F, I' a = H a) → Dr K I' v d
  | _, _, _, _, .d q, e, _ => by
    simp [toD] at e
    subst e
    exact dr_mono sm q
  | _, _, _, _, .fn _, e, _ => by simp [toD] at e
  | _, _, _, _, .scr _, e, _ => by simp [toD] at e
  | _, _, _, _, .fns _ _, e, _ => by simp [toD] at e
  | _, _, _, _, .ty, e, _ => by simp [toD] at e
  | _, _, _, _, .exc _, e, _ => by simp [toD] at e
  | _, _, _, _, .fin _, e, _ => by simp [toD] at e
  | _, _, _, d, .lst (xs := xs) h r, e, k => by
    simp only [toD] at e
    cases q : toDs xs with
    | none => rw [q] at e; cases e
    | some ds =>
      rw [q] at e
      cases e
      exact .lst (by rw [k _ (by simp)]; exact h) (frz_reps sm r q fun a m => k a (by simp [m]))
  | _, _, _, d, .tup (xs := xs) h r, e, k => by
    simp only [toD] at e
    cases q : toDs xs with
    | none => rw [q] at e; cases e
    | some ds =>
      rw [q] at e
      cases e
      exact .tup (st_mono sm h) (frz_reps sm r q k)
  | _, _, _, _, .opq _ _, e, _ => by simp [toD] at e
  | _, _, _, _, .hole, e, _ => by simp [toD] at e
  | _, _, _, _, .dct _ _ _ _ _, e, _ => by simp [toD] at e
  | _, _, _, _, .ins _ _ _ _ _ _ _, e, _ => by simp [toD] at e
theorem frz_reps {K : PySem.W.Frag} {I I' H : Hp} (sm : Same I I') : ∀ {vs : List V} {ts : List T} {F : List Addr} {ds : List PyData}, RepTs K I H vs ts F → toDs ts = some ds → (∀ a ∈ F, I' a = H a) → DrAll K I' vs ds
  | _, _, _, _, .nil, e, _ => by
    simp [toDs] at e
    subst e
    exact .nil
  | _, _, _, _, .cons (t := t) (ts := ts) a b, e, k => by
    simp only [toDs] at e
    cases q1 : toD t with
    | none => rw [q1] at e; cases e
    | some d =>
      cases q2 : toDs ts with
      | none => rw [q1, q2] at e; cases e
      | some ds =>
        rw [q1, q2] at e
        cases e
        exact .cons (frz_rep sm a q1 fun x m => k x (by simp [m])) (frz_reps sm b q2 fun x m => k x (by simp [m]))
end
section
variable {K : PySem.W.Frag} {m : List Bool} {B : Bs} {σ : St} {H : Hp} {ρ : Rho} {ws : List V} {ts : List T} {x y v : V} {t u : T} {d e : PyData} {i : Nat}
/-- an own tree becomes data -/
theorem Ok.freeze (h : Ok K m B σ H ρ (x :: ws) (t :: ts)) (e : toD t = some d) : Ok K m B σ H ρ (x :: ws) (.d d :: ts) := by
  obtain ⟨I, Fr, Fw, s, r, w, km⟩ := h
  cases w with
  | cons a b =>
    rename_i F G
    have nd := s.nd
    have inF : ∀ c ∈ F, c ∈ Fr ++ (F ++ G) := fun c m => List.mem_append_right _ (List.mem_append_left _ m)
    let I' : Hp := fun c => if c ∈ F then H c else I c
    have e1 : ∀ c, c ∈ F → I' c = H c := fun c m => if_pos m
    have e2 : ∀ c, c ∉ F → I' c = I c := fun c m => if_neg m
    have sm : Same I I' := fun c o q => by
      by_cases m : c ∈ F
      · rw [s.own c (inF c m)] at q; cases q
      · rw [e2 c m]; exact q
    have apart : ∀ c ∈ Fr ++ G, c ∉ F := fun c z zF => by
      rcases List.mem_append.mp z with z | z
      · exact (List.nodup_append.mp nd).2.2 c z c (List.mem_append_left _ zF) rfl
      · exact (List.nodup_append.mp (List.nodup_append.mp nd).2.1).2.2 c zF c z rfl
    have inR : ∀ c ∈ Fr ++ G, c ∈ Fr ++ (F ++ G) := fun c z => by
      rcases List.mem_append.mp z with z | z
      · exact List.mem_append_left _ z
      · exact List.mem_append_right _ (List.mem_append_right _ z)
    refine ⟨I', Fr, G, ⟨fun c o q => ?_, fun c o q => sm c o (s.ext c o q), s.keep, fun c o q => ?_, fun c z => s.fr c (inR c z), fun c z => ?_, fun c z => s.thr c (inR c z), (List.Sublist.append (List.Sublist.refl _) (List.sublist_append_right _ _)).nodup nd⟩,
      r.mono sm fun c z => rfl, .cons (F := []) (.d (frz_rep sm a e e1)) (b.mono sm fun c z => rfl), km⟩
    · by_cases m : c ∈ F
      · rw [e1 c m] at q; exact q
      · rw [e2 c m] at q; exact s.sub c o q
    · by_cases m : c ∈ F
      · rcases s.fr c (inF c m) with z | z
        · exact .inr (.inr z)
        · exact .inr (.inl z)
      · rw [e2 c m] at q; exact s.new c o q
    · rw [e2 c (apart c z)]
      exact s.own c (inR c z)
/-- one more to the own list below -/
theorem Ok.grow {p : Addr} {xs : List T} (h : Ok K m B σ H ρ (y :: .ref p :: ws) (u :: .lst xs :: ts)) : ∃ vs, H p = some (.lst vs) ∧ vs.length = xs.length ∧ Ok K m B σ (upd H p (.lst (vs ++ [y]))) ρ (.ref p :: ws) (.lst (xs ++ [u]) :: ts) := by
  obtain ⟨I, Fr, Fw, s, r, w, km⟩ := h
  cases w with
  | cons a b =>
    cases b with
    | cons l c =>
      cases l with
      | lst hp it =>
        rename_i F1 F2 vs F3
        have mem : p ∈ Fr ++ (F1 ++ (p :: F3 ++ F2)) := by simp
        have nd := s.nd
        have other : ∀ q ∈ Fr ++ (F1 ++ (F3 ++ F2)), q ≠ p := fun q z e => by
          subst e
          have : List.Perm (Fr ++ (F1 ++ (q :: F3 ++ F2))) (q :: (Fr ++ (F1 ++ (F3 ++ F2)))) := by
            have h1 : List.Perm (F1 ++ (q :: F3 ++ F2)) (q :: (F1 ++ (F3 ++ F2))) := List.perm_middle
            exact (List.Perm.append_left _ h1).trans List.perm_middle
          exact (List.nodup_cons.mp (this.nodup_iff.mp nd)).1 z
        have fx : ∀ q ∈ Fr ++ (F1 ++ (F3 ++ F2)), (upd H p (.lst (vs ++ [y]))) q = H q := fun q z => upd_ne (other q z)
        obtain ⟨E, r2, e2⟩ := RepTs.append (it.mono (Same.refl _) fun q z => fx q (by simp [z])) (RepTs.cons (a.mono (Same.refl _) fun q z => fx q (by simp [z])) .nil)
        rw [List.append_nil] at e2
        subst e2
        refine ⟨vs, hp, it.len, I, Fr, _, (s.write (o := .lst (vs ++ [y])) mem).perm ?_, r.mono (Same.refl _) fun q z => fx q (by simp [z]), .cons (.lst upd_same r2) (c.mono (Same.refl _) fun q z => fx q (by simp [z])), km⟩
        refine List.Perm.append_left _ ?_
        rw [List.cons_append, List.cons_append]
        refine List.perm_middle.trans (List.Perm.cons _ ?_)
        rw [← List.append_assoc]
        exact List.Perm.append_right _ List.perm_append_comm
/-- the own list is read where it stands -/
theorem Ok.ownList {p : V} {xs : List T} (h : Ok K m B σ H ρ (p :: ws) (.lst xs :: ts)) : ∃ a vs, p = .ref a ∧ H a = some (.lst vs) ∧ vs.length = xs.length := by
  obtain ⟨I, Fr, Fw, s, r, w, km⟩ := h
  cases w with
  | cons a b =>
    cases a with
    | lst hp it => exact ⟨_, _, rfl, hp, it.len⟩
end
/-- a name's tree, frozen -/
def dfrz (i : Nat) : M T := fun ρ => match ρ[i]? with
  | some (some t) => (match toD t with
    | some d => .ok (.d d) (ρ.set i (some (.d d)))
    | none => .no)
  | _ => .no
theorem den_frz {K : PySem.W.Frag} {w : Wd} {i : Nat} : DenE K w (tVar i) (dfrz i) := fun B σ H ρ ws ts Q ok p => by
  unfold dfrz at p
  cases e : ρ[i]? with
  | none => rw [e] at p; exact p.elim
  | some o =>
    cases o with
    | none => rw [e] at p; exact p.elim
    | some t =>
      rw [e] at p
      simp only at p
      cases q : toD t with
      | none => rw [q] at p; exact p.elim
      | some d =>
        rw [q] at p
        obtain ⟨v, h1, h2⟩ := ok.take e
        have h3 := (h2.freeze q).dup.back (i := i) h1
        rw [List.set_set] at h3
        exact ⟨v, h1, p v H h3⟩
section
variable {X : Cx} {w : Wd} {pos : Pos}
theorem dfz (i : Nat) {x : Str} (hN : X.N[i]? = some x := by rfl) (hv : Vis X.env.scope x := by first | exact Or.inl rfl | exact Or.inr (Or.inl rfl) | exact Or.inr (Or.inr rfl)) (hd : (x == ("__debug__" : Str)) = false := by decide)
    (hcd : (x == ("__classdict__" : Str)) = false := by decide) : DE X w (.Name x pos) (dfrz i) := de_v (pe_var hN hv hd hcd) den_frz
/-- a fresh own tree, frozen -/
def dthaw (f : M T) : M T := mbind f fun t => match toD t with
  | some d => mret (.d d)
  | none => mno
theorem de_frz {e : Expr} {f : M T} (h : DE X w e f) : DE X w e (dthaw f) := by
  obtain ⟨t, p, d⟩ := h.ex
  refine de_v p fun B σ H ρ ws ts Q ok q => d B σ H ρ ws ts _ ok (q.bind.mono fun v ρ1 p1 x H1 ok1 => ?_)
  cases e : toD v with
  | none => rw [e] at p1; exact p1.elim
  | some y => rw [e] at p1; exact p1 x H1 (ok1.freeze e)
end

/-! ### comprehensions -/
def wipeR (ρ : Rho) : List Nat → Rho
  | [] => ρ
  | v :: vs => (wipeR ρ vs).set v none
def mwipe (vs : List Nat) : M Unit := fun ρ => .ok () (wipeR ρ vs)
def mnoex {α : Type} (f : M α) : M α := fun ρ => match f ρ with
  | .ok a ρ' => .ok a ρ'
  | _ => .no
def lcGo (vs : List Nat) (g : T → M Unit) (tt : M Bool) (fe : M T) : List T → List T → M (List T)
  | [], acc => mret acc
  | d :: ds, acc => mbind (g d) fun _ => mbind tt fun b => if b = true then mbind fe fun t => mbind (mwipe vs) fun _ => if acc.length < lim then lcGo vs g tt fe ds (acc ++ [t]) else mno
    else mbind (mwipe vs) fun _ => lcGo vs g tt fe ds acc
def dlcO (fi : M (List PyData)) (vs : List Nat) (g : T → M Unit) (tt : M Bool) (fe : M T) : M T := mbind fi fun ds => mbind (mwipe vs) fun _ => mbind (mnoex (lcGo vs g tt fe (ds.map T.d) [])) fun acc => mret (.lst acc)
def dlc (fi : M (List PyData)) (vs : List Nat) (g : T → M Unit) (tt : M Bool) (fe : M T) : M T := dthaw (dlcO fi vs g tt fe)
abbrev Wd.nx (w : Wd) : Wd := { w with W := fun _ _ _ _ => False }
section
variable {K : PySem.W.Frag} {w : Wd} {B : Bs} {σ : St} {H : Hp} {ρ : Rho} {ws : List V} {ts : List T}
theorem PostG.noex {α : Type} {f : M α} {P : α → Rho → Prop} (h : PostG K w B (mnoex f ρ) P) : PostG K w.nx B (f ρ) P := by
  unfold mnoex at h
  cases e : f ρ with
  | ok a ρ' => rw [e] at h; exact h
  | ex x ρ' => rw [e] at h; exact h.elim
  | no => rw [e] at h; exact h
theorem Ok.wipe {m : List Bool} : ∀ {vs : List Nat}, (∀ i ∈ vs, m[i]? ≠ some true) → Ok K m B σ H ρ ws ts → Ok K m B (L2.wipe σ vs) H (wipeR ρ vs) ws ts
  | [], _, h => h
  | v :: vs, k, h => by
    unfold L2.wipe wipeR
    exact (Ok.wipe (vs := vs) (fun i m => k i (List.mem_cons_of_mem _ m)) h).clear (k v List.mem_cons_self) none
theorem wipe_get {σ : St} : ∀ {vs : List Nat} {i : Nat}, (wipe σ vs)[i]? = if i ∈ vs then (if i < σ.length then some none else none) else σ[i]?
  | [], i => by simp [wipe]
  | v :: vs, i => by
    unfold wipe
    by_cases h : v = i
    · subst h
      rw [if_pos List.mem_cons_self, List.getElem?_set]
      simp [wipe_length]
    · rw [List.getElem?_set_ne h, wipe_get (vs := vs)]
      have : (i ∈ v :: vs) = (i ∈ vs) := by
        rw [List.mem_cons]
        exact propext ⟨fun z => z.elim (fun e => absurd e.symm h) id, .inr⟩
      simp only [this]
theorem wipe_same {σ σ2 : St} {S vs : List Nat} (h : SameOut S (wipe σ vs) σ2) (hS : ∀ i ∈ S, i ∈ vs) : wipe σ2 vs = wipe σ vs := by
  apply List.ext_getElem?
  intro i
  have hl : σ2.length = σ.length := h.1.trans (wipe_length σ vs)
  rw [wipe_get, wipe_get, hl]
  by_cases m : i ∈ vs
  · rw [if_pos m, if_pos m]
  · rw [if_neg m, if_neg m, h.2 i fun z => m (hS i z), wipe_get, if_neg m]
/-- .. back to the slots around -/
theorem RepR.unwipe {I : Hp} : ∀ {σ : St} {ρ : Rho} {F : List Addr} {i : Nat} {o : Option V}, RepR K I H (σ.set i none) ρ F → σ[i]? = some o → RepR K I H σ ρ F
  | [], ρ, F, i, o, r, e => by simp at e
  | s :: σ, ρ, F, 0, o, r, e => by
    rw [List.set_cons_zero] at r
    cases r with
    | hid r => exact .hid r
  | s :: σ, ρ, F, i + 1, o, r, e => by
    rw [List.set_cons_succ] at r
    have e' : σ[i]? = some o := by simpa using e
    cases r with
    | hid r => exact .hid (RepR.unwipe r e')
    | has a r => exact .has a (RepR.unwipe r e')
theorem RepR.unwipes {I : Hp} : ∀ {vs : List Nat} {σ : St} {ρ : Rho} {F : List Addr}, RepR K I H (wipe σ vs) ρ F → RepR K I H σ ρ F
  | [], σ, ρ, F, r => r
  | v :: vs, σ, ρ, F, r => by
    unfold wipe at r
    cases e : (wipe σ vs)[v]? with
    | none =>
      rw [List.set_eq_of_length_le (List.getElem?_eq_none_iff.mp e)] at r
      exact RepR.unwipes r
    | some o => exact RepR.unwipes (RepR.unwipe r e)
theorem Ok.unwipe {m : List Bool} {vs : List Nat} (h : Ok K m B (L2.wipe σ vs) H ρ ws ts) (hk : Kept m B σ) : Ok K m B σ H ρ ws ts := by
  obtain ⟨I, Fr, Fw, s, r, w, km⟩ := h
  exact ⟨I, Fr, Fw, s, r.unwipes, w, hk⟩
end
section
variable {X : Cx} {w : Wd} {k : Nat} {tg iter elt : Expr} {ifs : List Expr} {fi : M (List PyData)} {g : T → M Unit} {S : List Nat} {tt : M Bool} {fe : M T} {scope : Scope} {own : List (Str × Nat)} {pos : Pos}
structure DTs (X : Cx) (w : Wd) (es : List Expr) (f : M Bool) : Prop where
  ex : ∃ t, PTs X es t ∧ DenT X.K w t f
theorem At.blk (h : At X w k) {s : Shared} {H : Hp} {sc : Scope} {env : Env} {fp : List Addr} : At (X.blk s H sc env fp) w.nx k := ⟨h.g, h.r, takes0, h.cl, h.ca, PassesOwn.never⟩
/-- a block's contexts -/
abbrev InBlk (X : Cx) (scope : Scope) (P : Cx → Prop) : Prop := ∀ (s : Shared) (H : Hp) (C : Addr) (cl : List (Str × Addr)) (fp : List Addr), P (X.blk s H scope (compEnvC scope cl C X.env) fp)
theorem dts_nil : DTs X w [] (mret true) := ⟨_, pts_nil, fun B σ H ρ ws ts Q ok p => p H ok⟩
theorem dts_one {c : Expr} {f : M Bool} (h : DT X w c f) : DTs X w [c] f := by
  obtain ⟨t, p, d⟩ := h.ex
  exact ⟨t, pts_one p, d⟩
theorem Ok.perm4 {K : PySem.W.Frag} {m : List Bool} {B : Bs} {σ : St} {H : Hp} {ρ : Rho} {ws : List V} {ts : List T} {x : V} {t : T} {vs : List V} {us : List T} (hl : vs.length = us.length)
    (h : Ok K m B σ H ρ (x :: (vs ++ ws)) (t :: (us ++ ts))) : Ok K m B σ H ρ (vs ++ x :: ws) (us ++ t :: ts) := by
  obtain ⟨I, Fr, Fw, s, r, w, km⟩ := h
  cases w with
  | cons a b =>
    obtain ⟨G, E, rfl, g, e⟩ := RepTs.split hl b
    rename_i F
    obtain ⟨E', q, hq⟩ := RepTs.append g (RepTs.cons a e)
    subst hq
    refine ⟨I, Fr, _, s.perm ?_, r, q, km⟩
    refine List.Perm.append_left _ ?_
    rw [← List.append_assoc, ← List.append_assoc]
    exact List.Perm.append_right _ List.perm_append_comm
/-- one reading for all contexts -/
theorem all_pe {ι : Type} {Y : ι → Cx} {e : Expr} {K : PySem.W.Frag} {w : Wd} {f : M T} (hK : ∀ i, (Y i).K = K) (h : ∀ i, DE (Y i) w e f) : ∃ t, (∀ i, PE (Y i) e t) ∧ (∀ _ : ι, DenE K w t f) := by
  have h' : ∀ i, ∃ t, PE (Y i) e t ∧ DenE K w t f := fun i => by
    obtain ⟨t, p, d⟩ := (h i).ex
    rw [hK i] at d
    exact ⟨t, p, d⟩
  exact ⟨fun σ H Q => ∀ i, Classical.choose (h' i) σ H Q, fun i => ⟨fun pins s σ H Q I q => (Classical.choose_spec (h' i)).1.run pins s σ H Q I (q i)⟩, fun _ B σ H ρ ws ts Q ok p i => (Classical.choose_spec (h' i)).2 B σ H ρ ws ts Q ok p⟩
theorem all_pts {ι : Type} {Y : ι → Cx} {e : List Expr} {K : PySem.W.Frag} {w : Wd} {f : M Bool} (hK : ∀ i, (Y i).K = K) (h : ∀ i, DTs (Y i) w e f) : ∃ t, (∀ i, PTs (Y i) e t) ∧ DenT K w t f := by
  have h' : ∀ i, ∃ t, PTs (Y i) e t ∧ DenT K w t f := fun i => by
    obtain ⟨t, p, d⟩ := (h i).ex
    rw [hK i] at d
    exact ⟨t, p, d⟩
  exact ⟨fun σ H Q => ∀ i, Classical.choose (h' i) σ H Q, fun i => ⟨fun pins s σ H Q I q => (Classical.choose_spec (h' i)).1.run pins s σ H Q I (q i)⟩, fun B σ H ρ ws ts Q ok p i => (Classical.choose_spec (h' i)).2 B σ H ρ ws ts Q ok p⟩
theorem all_pg {ι : Type} {Y : ι → Cx} {e : Expr} {K : PySem.W.Frag} {w : Wd} {S : List Nat} {f : T → M Unit} (hK : ∀ i, (Y i).K = K) (h : ∀ i, DG (Y i) w e S f) : ∃ t, (∀ i, PG (Y i) e t) ∧ DenG K w t S f := by
  have h' : ∀ i, ∃ t, PG (Y i) e t ∧ DenG K w t S f := fun i => by
    obtain ⟨t, p, d⟩ := (h i).ex
    rw [hK i] at d
    exact ⟨t, p, d⟩
  exact ⟨fun v σ H Q => ∀ i, Classical.choose (h' i) v σ H Q, fun i => ⟨fun pins s σ H v u Q I r q => (Classical.choose_spec (h' i)).1.run pins s σ H v u Q I r (q i)⟩, fun B σ H ρ ws ts x v Q ok p i => (Classical.choose_spec (h' i)).2 B σ H ρ ws ts x v Q ok p⟩
/-- where a block runs -/
structure Blk where
  s : Shared
  H : Hp
  C : Addr
  cl : List (Str × Addr)
  fp : List Addr
abbrev Blk.x (b : Blk) (X : Cx) (scope : Scope) : Cx := X.blk b.s b.H scope (compEnvC scope b.cl b.C X.env) b.fp
theorem den_lc {K : PySem.W.Frag} {wi : TI} {tG : TG} {tT : TT} {tE : TE} {vs : List Nat} (hv : ∀ i ∈ vs, NotM w i) (hS : ∀ i ∈ S, i ∈ vs) (di : DenI K w wi fi) (dg : DenG K w.nx tG S g) (dt : DenT K w.nx tT tt) (de : DenE K w.nx tE fe) :
    DenE K w (tLc wi tG tT tE vs) (dlcO fi vs g tt fe) := fun B σ H ρ ws ts Q ok q => by
  refine di B σ H ρ ws ts _ ok (q.bind.mono fun ds ρ1 p1 J H1 ws1 ts1 hl ok1 jw D hD => ?_)
  have p2 : PostG K w.nx B (lcGo vs g tt fe (ds.map T.d) [] (wipeR ρ1 vs)) (fun acc ρ' => ∀ x H', Ok K w.m B σ H' ρ' (x :: ws) (.lst acc :: ts) → Q x H') := PostG.noex (PostG.bind (f := mnoex (lcGo vs g tt fe (ds.map T.d) [])) (g := fun acc => mret (T.lst acc)) (ρ := wipeR ρ1 vs) p1)
  have km : Kept w.m B σ := by
    obtain ⟨_, _, _, _, _, _, k⟩ := ok
    exact k
  have ok2 : Ok K w.m B (L2.wipe σ vs) (upd H1 D (.lst [])) (wipeR ρ1 vs) (ws1 ++ .ref D :: ws) (ts1 ++ .lst [] :: ts) := (Ok.perm4 hl (Ok.newOwn (vs := []) (us := []) rfl ok1 hD)).wipe hv
  refine ⟨fun i n H => n = ds.length - i ∧ i ≤ ds.length ∧ ∃ ρ acc, Ok K w.m B (L2.wipe σ vs) H ρ (ws1 ++ .ref D :: ws) (ts1 ++ .lst acc :: ts) ∧
    PostG K w.nx B (lcGo vs g tt fe ((ds.drop i).map T.d) acc ρ) (fun acc ρ' => ∀ x H', Ok K w.m B σ H' ρ' (x :: ws) (.lst acc :: ts) → Q x H'), ⟨ds.length, rfl, Nat.zero_le _, _, [], ok2, p2⟩, ?_⟩
  rintro i n H3 ⟨rfl, hi, ρ3, acc, ok3, p3⟩
  obtain ⟨j1, j2⟩ := jw w.m B (L2.wipe σ vs) H3 ρ3 _ _ i ok3
  by_cases hlt : i < ds.length
  · obtain ⟨go, yl⟩ := j2 ds[i] (by simp [hlt])
    refine .inr ⟨go, fun H => i + 1 ≤ ds.length ∧ ∃ ρ acc, Ok K w.m B (L2.wipe σ vs) H ρ (ws1 ++ .ref D :: ws) (ts1 ++ .lst acc :: ts) ∧
      PostG K w.nx B (lcGo vs g tt fe ((ds.drop (i + 1)).map T.d) acc ρ) (fun acc ρ' => ∀ x H', Ok K w.m B σ H' ρ' (x :: ws) (.lst acc :: ts) → Q x H'), fun H' h => ⟨ds.length - (i + 1), by omega, rfl, h.1, h.2⟩, fun x H' y => ?_⟩
    have ok4 := yl x H' y
    rw [List.drop_eq_getElem_cons hlt, List.map_cons] at p3
    unfold lcGo at p3
    refine dg B (L2.wipe σ vs) H' ρ3 _ _ x _ _ ok4 (p3.bind.mono fun _ ρ4 p4 σ4 H4 so ok5 => ⟨wipe_same so hS, ?_⟩)
    have back : ∀ {H ρ ws' ts'}, Ok K w.m B σ4 H ρ ws' ts' → Ok K w.m B (L2.wipe σ vs) H (wipeR ρ vs) ws' ts' := fun {H ρ ws' ts'} o => by
      have := o.wipe hv
      rw [wipe_same so hS] at this
      exact this
    refine dt B σ4 H4 ρ4 _ _ _ ok5 ((PostG.bind p4).mono fun b ρ5 p5 H5 ok6 => ?_)
    cases b with
    | true =>
      rw [if_pos rfl] at p5 ⊢
      refine de B σ4 H5 ρ5 _ _ _ ok6 ((PostG.bind p5).mono fun t ρ6 p6 y H6 ok7 => ?_)
      have p7 : PostG K w.nx B ((if acc.length < lim then lcGo vs g tt fe ((ds.drop (i + 1)).map T.d) (acc ++ [t]) else mno) (wipeR ρ6 vs)) _ := p6
      by_cases hs : acc.length < lim
      · rw [if_pos hs] at p7
        have ok8 : Ok K w.m B σ4 H6 ρ6 (y :: .ref D :: (ws1 ++ ws)) (t :: .lst acc :: (ts1 ++ ts)) := (Ok.perm3 (vs := y :: ws1) (us := t :: ts1) (by simp [hl]) ok7).swap
        obtain ⟨us, h1, h2, ok9⟩ := ok8.grow
        exact ⟨us, h1, by rw [h2]; exact lim_lt hs, hlt, _, _, back (Ok.perm4 hl ok9), p7⟩
      · rw [if_neg hs] at p7
        exact p7.elim
    | false =>
      rw [if_neg Bool.false_ne_true] at p5 ⊢
      have p7 : PostG K w.nx B (lcGo vs g tt fe ((ds.drop (i + 1)).map T.d) acc (wipeR ρ5 vs)) _ := p5
      exact ⟨hlt, _, _, back ok6, p7⟩
  · have e : i = ds.length := by omega
    subst e
    rw [List.drop_length, List.map_nil] at p3
    refine .inl ⟨j1 rfl, ?_⟩
    have ok4 := (Ok.popAll hl (Ok.perm3 hl ok3)).unwipe km
    exact p3 _ _ ok4
theorem de_lcO (at_ : At X w k) (hN : X.N.Nodup) (hi : DI X w tg iter fi) (ok : blkC X.N X.env.scope scope own = true) (hg : ∀ b : Blk, At (b.x X scope) w.nx k → DG (b.x X scope) w.nx tg S g) (ht : ∀ b : Blk, At (b.x X scope) w.nx k → DTs (b.x X scope) w.nx ifs tt) (he : ∀ b : Blk, At (b.x X scope) w.nx k → DE (b.x X scope) w.nx elt fe)
    (hv : ∀ i ∈ own.map (·.2), NotM w i := by intro i h; simp at h; (first | subst h | rcases h with h | h <;> subst h | rcases h with h | h | h <;> subst h) <;> (intro z; cases z)) (hS : ∀ i ∈ S, i ∈ own.map (·.2) := by decide) (hs : ∀ x, foldedSetIterable iter X.env x = pure x := by intro _; rfl) :
    DE X w (.ListComp elt [⟨tg, iter, ifs, 0⟩] scope pos) (dlcO fi (own.map (·.2)) g tt fe) := by
  obtain ⟨wi, pi, di⟩ := hi.ex
  obtain ⟨tG, pg, dg⟩ := all_pg (Y := fun b : Blk => b.x X scope) (K := X.K) (fun _ => rfl) fun b => hg b at_.blk
  obtain ⟨tT, pt, dt⟩ := all_pts (Y := fun b : Blk => b.x X scope) (K := X.K) (fun _ => rfl) fun b => ht b at_.blk
  obtain ⟨tE, pe, de⟩ := all_pe (Y := fun b : Blk => b.x X scope) (K := X.K) (fun _ => rfl) fun b => he b at_.blk
  exact de_v (pe_lc at_.ca hN pi (blkOk_by ok) (fun s H C cl fp => pg ⟨s, H, C, cl, fp⟩) (fun s H C cl fp => pt ⟨s, H, C, cl, fp⟩) (fun s H C cl fp => pe ⟨s, H, C, cl, fp⟩) hs) (den_lc hv hS di dg dt (de ⟨X.s_0, X.H_0, 0, [], []⟩))
theorem de_lc (at_ : At X w k) (hN : X.N.Nodup) (hi : DI X w tg iter fi) (ok : blkC X.N X.env.scope scope own = true) (hg : ∀ b : Blk, At (b.x X scope) w.nx k → DG (b.x X scope) w.nx tg S g) (ht : ∀ b : Blk, At (b.x X scope) w.nx k → DTs (b.x X scope) w.nx ifs tt) (he : ∀ b : Blk, At (b.x X scope) w.nx k → DE (b.x X scope) w.nx elt fe)
    (hv : ∀ i ∈ own.map (·.2), NotM w i := by intro i h; simp at h; (first | subst h | rcases h with h | h <;> subst h | rcases h with h | h | h <;> subst h) <;> (intro z; cases z)) (hS : ∀ i ∈ S, i ∈ own.map (·.2) := by decide) (hs : ∀ x, foldedSetIterable iter X.env x = pure x := by intro _; rfl) :
    DE X w (.ListComp elt [⟨tg, iter, ifs, 0⟩] scope pos) (dlc fi (own.map (·.2)) g tt fe) := de_frz (de_lcO at_ hN hi ok hg ht he hv hS hs)
/-- name = [..] -/
theorem ds_setLcO (i : Nat) {y : Str} {py spos : Pos} (at_ : At X w k) (hN : X.N.Nodup) (hi : DI X w tg iter fi) (ok : blkC X.N X.env.scope scope own = true) (hg : ∀ b : Blk, At (b.x X scope) w.nx k → DG (b.x X scope) w.nx tg S g) (ht : ∀ b : Blk, At (b.x X scope) w.nx k → DTs (b.x X scope) w.nx ifs tt) (he : ∀ b : Blk, At (b.x X scope) w.nx k → DE (b.x X scope) w.nx elt fe)
    (hsw : swapsWith (.ListComp elt [⟨tg, iter, ifs, 0⟩] scope pos) (some (.Name y py)) spos.line X.env = pure true)
    (hv : ∀ i ∈ own.map (·.2), NotM w i := by intro i h; simp at h; (first | subst h | rcases h with h | h <;> subst h | rcases h with h | h | h <;> subst h) <;> (intro z; cases z)) (hS : ∀ i ∈ S, i ∈ own.map (·.2) := by decide) (hs : ∀ x, foldedSetIterable iter X.env x = pure x := by intro _; rfl)
    (hm : NotM w i := by intro h; cases h) (hy : X.N[i]? = some y := by rfl) (hyl : X.env.scope.names.lookup y = some .local := by rfl) :
    DS X w (.Assign [.Name y py] (.ListComp elt [⟨tg, iter, ifs, 0⟩] scope pos) spos) (sset i (dlcO fi (own.map (·.2)) g tt fe)) := by
  obtain ⟨wi, pi, di⟩ := hi.ex
  obtain ⟨tG, pg, dg⟩ := all_pg (Y := fun b : Blk => b.x X scope) (K := X.K) (fun _ => rfl) fun b => hg b at_.blk
  obtain ⟨tT, pt, dt⟩ := all_pts (Y := fun b : Blk => b.x X scope) (K := X.K) (fun _ => rfl) fun b => ht b at_.blk
  obtain ⟨tE, pe, de⟩ := all_pe (Y := fun b : Blk => b.x X scope) (K := X.K) (fun _ => rfl) fun b => he b at_.blk
  refine ⟨_, ps_setLc at_.ca hN hy hyl hsw pi (blkOk_by ok) (fun s H C cl fp => pg ⟨s, H, C, cl, fp⟩) (fun s H C cl fp => pt ⟨s, H, C, cl, fp⟩) (fun s H C cl fp => pe ⟨s, H, C, cl, fp⟩) hs, fun B σ H ρ ws ts D ok q => ?_⟩
  exact den_lc hv hS di dg dt (de ⟨X.s_0, X.H_0, 0, [], []⟩) B σ H ρ ws ts _ ok (q.bind.mono fun v ρ1 p1 x H1 ok1 => p1 _ H1 (ok1.store hm))
theorem ds_setLc (i : Nat) {y : Str} {py spos : Pos} (at_ : At X w k) (hN : X.N.Nodup) (hi : DI X w tg iter fi) (ok : blkC X.N X.env.scope scope own = true) (hg : ∀ b : Blk, At (b.x X scope) w.nx k → DG (b.x X scope) w.nx tg S g) (ht : ∀ b : Blk, At (b.x X scope) w.nx k → DTs (b.x X scope) w.nx ifs tt) (he : ∀ b : Blk, At (b.x X scope) w.nx k → DE (b.x X scope) w.nx elt fe)
    (hsw : swapsWith (.ListComp elt [⟨tg, iter, ifs, 0⟩] scope pos) (some (.Name y py)) spos.line X.env = pure true)
    (hv : ∀ i ∈ own.map (·.2), NotM w i := by intro i h; simp at h; (first | subst h | rcases h with h | h <;> subst h | rcases h with h | h | h <;> subst h) <;> (intro z; cases z)) (hS : ∀ i ∈ S, i ∈ own.map (·.2) := by decide) (hs : ∀ x, foldedSetIterable iter X.env x = pure x := by intro _; rfl)
    (hm : NotM w i := by intro h; cases h) (hy : X.N[i]? = some y := by rfl) (hyl : X.env.scope.names.lookup y = some .local := by rfl) :
    DS X w (.Assign [.Name y py] (.ListComp elt [⟨tg, iter, ifs, 0⟩] scope pos) spos) (sset i (dlc fi (own.map (·.2)) g tt fe)) := by
  obtain ⟨wi, pi, di⟩ := hi.ex
  obtain ⟨tG, pg, dg⟩ := all_pg (Y := fun b : Blk => b.x X scope) (K := X.K) (fun _ => rfl) fun b => hg b at_.blk
  obtain ⟨tT, pt, dt⟩ := all_pts (Y := fun b : Blk => b.x X scope) (K := X.K) (fun _ => rfl) fun b => ht b at_.blk
  obtain ⟨tE, pe, de⟩ := all_pe (Y := fun b : Blk => b.x X scope) (K := X.K) (fun _ => rfl) fun b => he b at_.blk
  refine ⟨_, ps_setLc at_.ca hN hy hyl hsw pi (blkOk_by ok) (fun s H C cl fp => pg ⟨s, H, C, cl, fp⟩) (fun s H C cl fp => pt ⟨s, H, C, cl, fp⟩) (fun s H C cl fp => pe ⟨s, H, C, cl, fp⟩) hs, fun B σ H ρ ws ts D ok q => ?_⟩
  refine den_lc hv hS di dg dt (de ⟨X.s_0, X.H_0, 0, [], []⟩) B σ H ρ ws ts _ ok ((PostG.bind q.bind).mono fun v ρ1 p1 x H1 ok1 => ?_)
  cases e : toD v with
  | none => rw [e] at p1; exact p1.elim
  | some y => rw [e] at p1; exact p1 _ H1 ((ok1.freeze e).store hm)
end
end DL
end
section
set_option Elab.async false
set_option linter.all false
set_option maxRecDepth 100000
set_option maxHeartbeats 4000000
/-! DL8: calls of built-ins. -/
namespace DL
open PySem L2

/-- a built-in's call that keeps what it is handed -/
def CallK (K : PySem.W.Frag) (m : List Bool) (r : List V → Hp → VK → Prop) (g : List T → Option T) : Prop :=
  ∀ B σ H ρ ws ts xs us v (Q : VK), xs.length = us.length → Ok K m B σ H ρ (xs ++ ws) (us ++ ts) → g us = some v → (∀ z H', Ok K m B σ H' ρ (z :: (xs ++ ws)) (v :: (us ++ ts)) → Q z H') → r xs H Q
def dbackT (os : List (Option Nat)) (vs : List T) (v : T) : M T := fun ρ => .ok v (restore os (vs.map some) ρ)
def dcallb (g : List T → Option T) (os : List (Option Nat)) (fs : M (List T)) : M T := mbind fs fun vs => mbind (mopt (g vs)) fun v => dbackT os vs v
section
variable {K : PySem.W.Frag} {m : List Bool} {B : Bs} {σ : St} {H : Hp} {ws : List V} {ts : List T}
/-- what was handed over goes back to its slots -/
theorem Ok.restoreAll : ∀ {os : List (Option Nat)} {xs : List V} {us : List T} {ρ : Rho} {z : V} {v : T}, xs.length = us.length → Orig σ os xs → Ok K m B σ H ρ (z :: (xs ++ ws)) (v :: (us ++ ts)) → Ok K m B σ H (restore os (us.map some) ρ) (z :: ws) (v :: ts)
  | os, [], [], ρ, z, v, _, _, h => by
    have : restore os (([] : List T).map some) ρ = ρ := by
      cases os with
      | nil => rfl
      | cons o os => cases o <;> rfl
    rw [this]
    exact h
  | _, [], _ :: _, _, _, _, l, _, _ => nomatch l
  | _, _ :: _, [], _, _, _, l, _, _ => nomatch l
  | [], x :: xs, u :: us, ρ, z, v, l, o, h => Ok.popAll (vs := x :: xs) (us := u :: us) l h
  | none :: os, x :: xs, u :: us, ρ, z, v, l, o, h => by
    have tl : Orig σ os xs := fun k i e => by simpa using o (k + 1) i (by simpa using e)
    exact Ok.restoreAll (os := os) (xs := xs) (us := us) (by simpa using l) tl (Ok.inStead h)
  | some i :: os, x :: xs, u :: us, ρ, z, v, l, o, h => by
    have tl : Orig σ os xs := fun k j e => by simpa using o (k + 1) j (by simpa using e)
    obtain ⟨y, h1, h2⟩ := o 0 i rfl
    have e1 : y = x := (Option.some.inj (show some x = some y from h1)).symm
    subst e1
    exact Ok.restoreAll (os := os) (xs := xs) (us := us) (by simpa using l) tl (Ok.back (Ok.swap h) h2)
end
theorem den_callb {K : PySem.W.Frag} {w : Wd} {t : TA} {os : List (Option Nat)} {fs : M (List T)} {r : List V → Hp → VK → Prop} {g : List T → Option T} (hg : CallK K w.m r g) (d : DenA K w t os fs) : DenE K w (tCB r t) (dcallb g os fs) := fun B σ H ρ ws ts Q ok q => by
  refine d B σ H ρ ws ts _ ok (q.bind.mono fun vs ρ1 p1 xs H1 hl ok1 ho => ?_)
  obtain ⟨v, e, p2⟩ := (PostG.bind p1).opt
  exact hg B σ H1 ρ1 ws ts xs vs v Q hl ok1 e fun z H' ok2 => p2 z H' (Ok.restoreAll hl ho ok2)
section
variable {X : Cx} {w : Wd} {x : Str} {p pos : Pos} {e : Expr} {es : List Expr} {os : List (Option Nat)} {fs : M (List T)} {id : String} {r : List V → Hp → VK → Prop} {g : List T → Option T}
theorem de_callB (hc : CallR X (.builtin id) r) (hg : CallK X.K w.m r g) (hm : NoG X x) (hv : bootBuiltins x = some (.builtin id)) (ha : DA X w (e :: es) os fs) (hgl : Gl X x := by rfl) (hn : x ≠ "__name__" := by decide) (hdb : (x == ("__debug__" : Str)) = false := by decide)
    (he : starEach (e :: es) X.env = (false, eval e X.env) :: starEach es X.env := by rfl) (hpl : (backTo pos (starEach es X.env)).any (·.1) = false := by rfl) : DE X w (.Call (.Name x p) (e :: es) [] pos) (dcallb g os fs) := by
  obtain ⟨t, pt, dt⟩ := ha.ex
  exact de_v (pe_callB hc hgl hm hv pt hn hdb he hpl) (den_callb hg dt)
theorem de_callTy {Ty : String} (hc : CallR X (.type Ty) r) (hg : CallK X.K w.m r g) (hm : NoG X x) (hv : bootBuiltins x = some (.type Ty)) (ha : DA X w (e :: es) os fs) (hgl : Gl X x := by rfl) (hn : x ≠ "__name__" := by decide) (hdb : (x == ("__debug__" : Str)) = false := by decide)
    (he : starEach (e :: es) X.env = (false, eval e X.env) :: starEach es X.env := by rfl) (hpl : (backTo pos (starEach es X.env)).any (·.1) = false := by rfl) : DE X w (.Call (.Name x p) (e :: es) [] pos) (dcallb g os fs) := by
  obtain ⟨t, pt, dt⟩ := ha.ex
  exact de_v (pe_callTy hc hgl hm hv pt hn hdb he hpl) (den_callb hg dt)
/-- a built-in type as a value -/
theorem den_ty {K : PySem.W.Frag} {n : String} : DenE K w (tC (.ty n)) (mret (.ty n)) := fun B σ H ρ ws ts Q ok q => q _ H ok.pushTy
theorem de_ty {n : String} (hm : NoG X x) (hv : bootBuiltins x = some (.type n)) (hg : Gl X x := by rfl) (hn : x ≠ "__name__" := by decide) (hd : (x == ("__debug__" : Str)) = false := by decide) : DE X w (.Name x pos) (mret (.ty n)) :=
  de_v (pe_bltn hg hm hv (show RelV (.ty n) (.type n) from rfl) hn hd) den_ty
end

section
variable {K : PySem.W.Frag} {m : List Bool}
theorem CallK.or {r r' : List V → Hp → VK → Prop} {g g' : List T → Option T} (h : CallK K m r g) (h' : CallK K m r' g') : CallK K m (fun xs H Q => r xs H Q ∨ r' xs H Q) (fun us => (g us).or (g' us)) := fun B σ H ρ ws ts xs us v Q hl ok e q => by
  cases e1 : g us with
  | some z =>
    have e2 : z = v := by
      have e' : (g us).or (g' us) = some v := e
      rw [e1] at e'
      exact Option.some.inj e'
    subst e2
    exact .inl (h B σ H ρ ws ts xs us z Q hl ok e1 q)
  | none =>
    have e' : (g us).or (g' us) = some v := e
    rw [e1] at e'
    exact .inr (h' B σ H ρ ws ts xs us v Q hl ok e' q)
theorem one_of {xs : List V} {t : T} (h : xs.length = [t].length) : ∃ x, xs = [x] := by
  cases xs with
  | nil => cases h
  | cons x r => cases r with
    | nil => exact ⟨x, rfl⟩
    | cons _ _ => cases h
theorem two_of {xs : List V} {t u : T} (h : xs.length = [t, u].length) : ∃ x y, xs = [x, y] := by
  cases xs with
  | nil => cases h
  | cons x r => cases r with
    | nil => cases h
    | cons y r => cases r with
      | nil => exact ⟨x, y, rfl⟩
      | cons _ _ => cases h

/-! ### len -/
def gLen : List T → Option T
  | [.d (.list ds)] => some (.d (.int ds.length))
  | [.d (.tuple ds)] => some (.d (.int ds.length))
  | [.d (.str z)] => if z.length ≤ lim then some (.d (.int z.length)) else none
  | [.d (.dict [])] => some (.d (.int 0))
  | [.lst xs] => some (.d (.int xs.length))
  | [.scr ns] => some (.d (.int ns.length))
  | [.dct kvs] => some (.d (.int kvs.length))
  | _ => none
def rLen2 (K : PySem.W.Frag) : List V → Hp → VK → Prop := fun xs H Q => (∃ x n, xs = [x] ∧ LenV K x H n ∧ Q (.int n) H) ∨ (∃ a kvs, xs = [V.ref a] ∧ H a = some (.dK kvs) ∧ Q (.int kvs.length) H)
theorem Ok.topDct {B : Bs} {σ : St} {H : Hp} {ρ : Rho} {ws : List V} {ts : List T} {x : V} {kvs : List (Key × T)} (h : Ok K m B σ H ρ (x :: ws) (.dct kvs :: ts)) : ∃ a ys, x = .ref a ∧ H a = some (.dK ys) ∧ ys.map (·.1) = kvs.map (·.1) := by
  obtain ⟨I, Fr, Fw, s, r, w, km⟩ := h
  cases w with
  | cons a b =>
    cases a with
    | dct hp k1 k2 k3 it => exact ⟨_, _, rfl, hp, k1⟩
theorem ck_len : CallK K m (rLen2 K) gLen := fun B σ H ρ ws ts xs us v Q hl ok e q => by
  unfold gLen at e
  split at e
  · cases e
    obtain ⟨x, rfl⟩ := one_of hl
    obtain ⟨a, vs, rfl, ha, da⟩ := Ok.topList (ws := ws) (ts := ts) ok
    exact .inl ⟨_, _, rfl, .inl ⟨vs, SqL.of ha, rfl⟩, q _ _ (by rw [da.len]; exact ok.int)⟩
  · cases e
    obtain ⟨x, rfl⟩ := one_of hl
    obtain ⟨a, vs, rfl, ha, da⟩ := Ok.topTup (ws := ws) (ts := ts) ok
    exact .inl ⟨_, _, rfl, .inr ⟨vs, ha, rfl⟩, q _ _ (by rw [da.len]; exact ok.int)⟩
  · obtain ⟨hz, e⟩ := reqs e
    subst e
    obtain ⟨x, rfl⟩ := one_of hl
    have hx := Ok.topStr (ws := ws) (ts := ts) ok
    subst hx
    exact .inl ⟨_, _, rfl, ⟨lim_le hz, rfl⟩, q _ _ ok.int⟩
  · cases e
    obtain ⟨x, rfl⟩ := one_of hl
    have d := Ok.topD (ws := ws) (ts := ts) ok
    cases d with
    | dct0 h => exact .inr ⟨_, [], rfl, h, q _ _ ok.int⟩
  · cases e
    obtain ⟨x, rfl⟩ := one_of hl
    obtain ⟨a, vs, rfl, ha, hlen⟩ := Ok.ownList (ws := ws) (ts := ts) ok
    exact .inl ⟨_, _, rfl, .inl ⟨vs, SqL.of ha, rfl⟩, q _ _ (by rw [hlen]; exact ok.int)⟩
  · cases e
    obtain ⟨x, rfl⟩ := one_of hl
    obtain ⟨a, rfl, ha⟩ := Ok.topScr (ws := ws) (ts := ts) ok
    refine .inl ⟨_, _, rfl, .inl ⟨_, ha, rfl⟩, q _ _ ?_⟩
    rw [List.length_map]
    exact ok.int
  · cases e
    obtain ⟨x, rfl⟩ := one_of hl
    obtain ⟨a, ys, rfl, ha, hk⟩ := Ok.topDct (ws := ws) (ts := ts) ok
    refine .inr ⟨a, ys, rfl, ha, q _ _ ?_⟩
    have := congrArg List.length hk
    rw [List.length_map, List.length_map] at this
    rw [this]
    exact ok.int
  · cases e
theorem cr_len2 {X : Cx} : CallR X (.builtin "len") (rLen2 X.K) := CallR.or call_len call_lenD

/-! ### isinstance -/
def isT (d : PyData) (n : String) : Option Bool :=
  if n = "int" then some (match d with
    | .int _ => true
    | .bool _ => true
    | _ => false)
  else if n = "bool" then some (match d with
    | .bool _ => true
    | _ => false)
  else if n = "str" then some (match d with
    | .str _ => true
    | _ => false)
  else if n = "list" then some (match d with
    | .list _ => true
    | _ => false)
  else if n = "tuple" then some (match d with
    | .tuple _ => true
    | _ => false)
  else Option.none
def tyD : PyData → String
  | .none => "NoneType"
  | .bool _ => "bool"
  | .int _ => "int"
  | .str _ => "str"
  | .list _ => "list"
  | .tuple _ => "tuple"
  | .dict _ => "dict"
def gIsi : List T → Option T
  | [.d x, .ty n] => (isT x n).map fun b => .d (.bool b)
  | _ => none
theorem dr_ty {H : Hp} {x : V} {d : PyData} (h : Dr K H x d) : TyX K H x (.type (tyD d)) := by
  cases h with
  | non => exact .base .non
  | bl b => exact .base (.bl b)
  | int i => exact .base (.int i)
  | str z => exact .base (.str z)
  | lst h _ => exact .base (.lst h)
  | tup h _ =>
    rcases h with h | ⟨o, its, n, h1, h2, _⟩
    · rcases h with h | ⟨o, h⟩
      · exact .base (.tup h)
      · exact .fTuple h
    · exact .kTuple h1 h2
  | dct0 h => exact .base (.dK h)
theorem kit_NoneType_int : kitB "NoneType" "int" = some false := by decide +kernel
theorem kit_NoneType_bool : kitB "NoneType" "bool" = some false := by decide +kernel
theorem kit_NoneType_str : kitB "NoneType" "str" = some false := by decide +kernel
theorem kit_NoneType_list : kitB "NoneType" "list" = some false := by decide +kernel
theorem kit_NoneType_tuple : kitB "NoneType" "tuple" = some false := by decide +kernel
theorem kit_bool_int : kitB "bool" "int" = some true := by decide +kernel
theorem kit_bool_bool : kitB "bool" "bool" = some true := by decide +kernel
theorem kit_bool_str : kitB "bool" "str" = some false := by decide +kernel
theorem kit_bool_list : kitB "bool" "list" = some false := by decide +kernel
theorem kit_bool_tuple : kitB "bool" "tuple" = some false := by decide +kernel
theorem kit_int_int : kitB "int" "int" = some true := by decide +kernel
theorem kit_int_bool : kitB "int" "bool" = some false := by decide +kernel
theorem kit_int_str : kitB "int" "str" = some false := by decide +kernel
theorem kit_int_list : kitB "int" "list" = some false := by decide +kernel
theorem kit_int_tuple : kitB "int" "tuple" = some false := by decide +kernel
theorem kit_str_int : kitB "str" "int" = some false := by decide +kernel
theorem kit_str_bool : kitB "str" "bool" = some false := by decide +kernel
theorem kit_str_str : kitB "str" "str" = some true := by decide +kernel
theorem kit_str_list : kitB "str" "list" = some false := by decide +kernel
theorem kit_str_tuple : kitB "str" "tuple" = some false := by decide +kernel
theorem kit_list_int : kitB "list" "int" = some false := by decide +kernel
theorem kit_list_bool : kitB "list" "bool" = some false := by decide +kernel
theorem kit_list_str : kitB "list" "str" = some false := by decide +kernel
theorem kit_list_list : kitB "list" "list" = some true := by decide +kernel
theorem kit_list_tuple : kitB "list" "tuple" = some false := by decide +kernel
theorem kit_tuple_int : kitB "tuple" "int" = some false := by decide +kernel
theorem kit_tuple_bool : kitB "tuple" "bool" = some false := by decide +kernel
theorem kit_tuple_str : kitB "tuple" "str" = some false := by decide +kernel
theorem kit_tuple_list : kitB "tuple" "list" = some false := by decide +kernel
theorem kit_tuple_tuple : kitB "tuple" "tuple" = some true := by decide +kernel
theorem kit_dict_int : kitB "dict" "int" = some false := by decide +kernel
theorem kit_dict_bool : kitB "dict" "bool" = some false := by decide +kernel
theorem kit_dict_str : kitB "dict" "str" = some false := by decide +kernel
theorem kit_dict_list : kitB "dict" "list" = some false := by decide +kernel
theorem kit_dict_tuple : kitB "dict" "tuple" = some false := by decide +kernel
theorem isT_kit {d : PyData} {n : String} {b : Bool} (h : isT d n = some b) : kitB (tyD d) n = some b := by
  unfold isT at h
  by_cases h_int : n = "int"
  · subst h_int
    rw [if_pos rfl] at h
    have h := Option.some.inj h
    subst h
    cases d with
    | none => exact kit_NoneType_int
    | bool _ => exact kit_bool_int
    | int _ => exact kit_int_int
    | str _ => exact kit_str_int
    | list _ => exact kit_list_int
    | tuple _ => exact kit_tuple_int
    | dict _ => exact kit_dict_int
  by_cases h_bool : n = "bool"
  · subst h_bool
    rw [if_neg (by decide)] at h
    rw [if_pos rfl] at h
    have h := Option.some.inj h
    subst h
    cases d with
    | none => exact kit_NoneType_bool
    | bool _ => exact kit_bool_bool
    | int _ => exact kit_int_bool
    | str _ => exact kit_str_bool
    | list _ => exact kit_list_bool
    | tuple _ => exact kit_tuple_bool
    | dict _ => exact kit_dict_bool
  by_cases h_str : n = "str"
  · subst h_str
    rw [if_neg (by decide)] at h
    rw [if_neg (by decide)] at h
    rw [if_pos rfl] at h
    have h := Option.some.inj h
    subst h
    cases d with
    | none => exact kit_NoneType_str
    | bool _ => exact kit_bool_str
    | int _ => exact kit_int_str
    | str _ => exact kit_str_str
    | list _ => exact kit_list_str
    | tuple _ => exact kit_tuple_str
    | dict _ => exact kit_dict_str
  by_cases h_list : n = "list"
  · subst h_list
    rw [if_neg (by decide)] at h
    rw [if_neg (by decide)] at h
    rw [if_neg (by decide)] at h
    rw [if_pos rfl] at h
    have h := Option.some.inj h
    subst h
    cases d with
    | none => exact kit_NoneType_list
    | bool _ => exact kit_bool_list
    | int _ => exact kit_int_list
    | str _ => exact kit_str_list
    | list _ => exact kit_list_list
    | tuple _ => exact kit_tuple_list
    | dict _ => exact kit_dict_list
  by_cases h_tuple : n = "tuple"
  · subst h_tuple
    rw [if_neg (by decide)] at h
    rw [if_neg (by decide)] at h
    rw [if_neg (by decide)] at h
    rw [if_neg (by decide)] at h
    rw [if_pos rfl] at h
    have h := Option.some.inj h
    subst h
    cases d with
    | none => exact kit_NoneType_tuple
    | bool _ => exact kit_bool_tuple
    | int _ => exact kit_int_tuple
    | str _ => exact kit_str_tuple
    | list _ => exact kit_list_tuple
    | tuple _ => exact kit_tuple_tuple
    | dict _ => exact kit_dict_tuple
  rw [if_neg h_int, if_neg h_bool, if_neg h_str, if_neg h_list, if_neg h_tuple] at h
  cases h
theorem ck_isi : CallK K m (rIsi K) gIsi := fun B σ H ρ ws ts xs us v Q hl ok e q => by
  unfold gIsi at e
  split at e
  · rename_i x n
    cases e1 : isT x n with
    | none => rw [e1] at e; cases e
    | some b =>
      rw [e1] at e
      cases e
      obtain ⟨y, c, rfl⟩ := two_of hl
      have hc := Ok.topTy (Ok.pop (ws := c :: ws) (ts := .ty n :: ts) ok)
      subst hc
      exact ⟨y, _, _, _, b, rfl, .ty n, dr_ty (Ok.topD (ws := .ty n :: ws) (ts := .ty n :: ts) ok), kit_ty (isT_kit e1), q _ _ ok.bl⟩
  · cases e

/-! ### min, max of two ints; int, bool, str -/
def gMin2 : List T → Option T
  | [.d (.int i), .d (.int j)] => some (.d (.int (if j < i then j else i)))
  | _ => none
def gMax2 : List T → Option T
  | [.d (.int i), .d (.int j)] => some (.d (.int (if j > i then j else i)))
  | _ => none
theorem ck_int2 {f : Int → Int → Int} {g : List T → Option T} (hg : ∀ us v, g us = some v → ∃ i j, us = [.d (.int i), .d (.int j)] ∧ v = .d (.int (f i j))) : CallK K m (fun xs H Q => ∃ i j, xs = [.int i, .int j] ∧ Q (.int (f i j)) H) g := fun B σ H ρ ws ts xs us v Q hl ok e q => by
  obtain ⟨i, j, rfl, rfl⟩ := hg us v e
  obtain ⟨y, c, rfl⟩ := two_of hl
  have hy := Ok.topInt (ws := c :: ws) (ts := .d (.int j) :: ts) ok
  have hc := Ok.topInt (Ok.pop (ws := c :: ws) (ts := .d (.int j) :: ts) ok)
  subst hy hc
  exact ⟨_, _, rfl, q _ _ ok.int⟩
theorem ck_min2 : CallK K m (fun xs H Q => ∃ i j, xs = [.int i, .int j] ∧ Q (.int (if j < i then j else i)) H) gMin2 := ck_int2 fun us v e => by
  unfold gMin2 at e
  split at e
  · cases e; exact ⟨_, _, rfl, rfl⟩
  · cases e
theorem ck_max2 : CallK K m (fun xs H Q => ∃ i j, xs = [.int i, .int j] ∧ Q (.int (if j > i then j else i)) H) gMax2 := ck_int2 fun us v e => by
  unfold gMax2 at e
  split at e
  · cases e; exact ⟨_, _, rfl, rfl⟩
  · cases e
def gInt : List T → Option T
  | [.d (.int i)] => some (.d (.int i))
  | [.d (.bool k)] => some (.d (.int (if k then 1 else 0)))
  | [.d (.str a)] => if a.length ≤ 640 then (PySem.intText? a).map fun n => .d (.int n) else none
  | _ => none
def rInt3 : List V → Hp → VK → Prop := fun xs H Q => ((∃ i, xs = [.int i] ∧ Q (.int i) H) ∨ ∃ k, xs = [.bl k] ∧ Q (.int (if k then 1 else 0)) H) ∨ (∃ a n, xs = [.str a] ∧ PySem.intText? a = some n ∧ a.length ≤ 640 ∧ Q (.int n) H)
theorem cr_int3 {X : Cx} : CallR X (.type "int") rInt3 := CallR.or call_int1 call_int_str
theorem ck_int : CallK K m rInt3 gInt := fun B σ H ρ ws ts xs us v Q hl ok e q => by
  unfold gInt at e
  split at e
  · cases e
    obtain ⟨x, rfl⟩ := one_of hl
    have hx := Ok.topInt (ws := ws) (ts := ts) ok
    subst hx
    exact .inl (.inl ⟨_, rfl, q _ _ ok.int⟩)
  · cases e
    obtain ⟨x, rfl⟩ := one_of hl
    have hx := Ok.topBl (ws := ws) (ts := ts) ok
    subst hx
    exact .inl (.inr ⟨_, rfl, q _ _ ok.int⟩)
  · rename_i a
    obtain ⟨x, rfl⟩ := one_of hl
    have hx := Ok.topStr (ws := ws) (ts := ts) ok
    subst hx
    by_cases h : a.length ≤ 640
    · rw [if_pos h] at e
      cases e1 : PySem.intText? a with
      | none => rw [e1] at e; cases e
      | some n =>
        rw [e1] at e
        cases e
        exact .inr ⟨a, n, rfl, e1, h, q _ _ ok.int⟩
    · rw [if_neg h] at e; cases e
  · cases e
def gStr : List T → Option T
  | [.d (.int i)] => if i.natAbs.log2 < 1920 then some (.d (.str (toString i))) else none
  | [.d (.str a)] => some (.d (.str a))
  | _ => none
def rStr2 : List V → Hp → VK → Prop := fun xs H Q => (∃ i, xs = [.int i] ∧ i.natAbs.log2 < 1920 ∧ Q (.str (toString i)) H) ∨ (∃ a, xs = [.str a] ∧ Q (.str a) H)
theorem cr_str2 {X : Cx} : CallR X (.type "str") rStr2 := CallR.or call_str_int SkE.call_str_str
theorem ck_str : CallK K m rStr2 gStr := fun B σ H ρ ws ts xs us v Q hl ok e q => by
  unfold gStr at e
  split at e
  · obtain ⟨h1, e⟩ := reqs e
    subst e
    obtain ⟨x, rfl⟩ := one_of hl
    have hx := Ok.topInt (ws := ws) (ts := ts) ok
    subst hx
    exact .inl ⟨_, rfl, h1, q _ _ ok.str⟩
  · cases e
    obtain ⟨x, rfl⟩ := one_of hl
    have hx := Ok.topStr (ws := ws) (ts := ts) ok
    subst hx
    exact .inr ⟨_, rfl, q _ _ ok.str⟩
  · cases e

/-! ### list, tuple -/
def gTuple : List T → Option T
  | [.d (.list ds)] => some (.d (.tuple ds))
  | [.d (.tuple ds)] => some (.d (.tuple ds))
  | _ => none
def rTuple (K : PySem.W.Frag) : List V → Hp → VK → Prop := fun xs H Q => ∃ p ys, xs = [.ref p] ∧ ((SqL K H p ys ∧ ∀ l, H l = none → Q (.ref l) (upd H l (.tup ys))) ∨ (SqT K H p ys ∧ Q (.ref p) H))
theorem ck_tuple : CallK K m (rTuple K) gTuple := fun B σ H ρ ws ts xs us v Q hl ok e q => by
  unfold gTuple at e
  split at e
  · cases e
    obtain ⟨x, rfl⟩ := one_of hl
    obtain ⟨a, vs, rfl, ha, da⟩ := Ok.topList (ws := ws) (ts := ts) ok
    refine ⟨a, vs, rfl, .inl ⟨SqL.of ha, fun l h => q _ _ (ok.newTup h fun I Fw sb w' => ?_)⟩⟩
    exact parts_lst sb ha w'
  · cases e
    obtain ⟨x, rfl⟩ := one_of hl
    obtain ⟨a, vs, rfl, ha, da⟩ := Ok.topTup (ws := ws) (ts := ts) ok
    exact ⟨a, vs, rfl, .inr ⟨ha, q _ _ (Ok.dup (ws := ws) (ts := ts) ok)⟩⟩
  · cases e
/-- a new list of what data hold: as an own one -/
def gListO : List T → Option T
  | [.d (.list ds)] => some (.lst (ds.map T.d))
  | [.d (.tuple ds)] => some (.lst (ds.map T.d))
  | [.scr ns] => some (.lst (ns.map fun n => T.d (.int n)))
  | _ => none
def gList : List T → Option T
  | [.d (.list ds)] => some (.d (.list ds))
  | [.d (.tuple ds)] => some (.d (.list ds))
  | [.scr ns] => some (.d (.list (ns.map PyData.int)))
  | _ => none
def rList (K : PySem.W.Frag) : List V → Hp → VK → Prop := fun xs H Q => ∃ p ys, xs = [.ref p] ∧ (SqL K H p ys ∨ SqT K H p ys) ∧ ∀ l, H l = none → Q (.ref l) (upd H l (.lst ys))
theorem Ok.newOwnD {B : Bs} {σ : St} {H : Hp} {ρ : Rho} {ws : List V} {ts : List T} {vs : List V} {ds : List PyData} {p : Addr} (h : Ok K m B σ H ρ ws ts) (hp : H p = none)
    (q : ∀ I Fw, Same I H → RepTs K I H ws ts Fw → DrAll K I vs ds) : Ok K m B σ (upd H p (.lst vs)) ρ (.ref p :: ws) (.lst (ds.map T.d) :: ts) := by
  obtain ⟨I, Fr, Fw, s, r, w, km⟩ := id h
  have nf : ∀ a ∈ Fr ++ Fw, (upd H p (.lst vs)) a = H a := fun a z => upd_ne (show a ≠ p from fun e => s.thr a z (by rw [e]; exact hp))
  refine ⟨I, Fr, p :: Fw, (s.newO hp).perm List.perm_middle.symm, r.mono (Same.refl _) fun a z => nf a (List.mem_append_left _ z), ?_, km⟩
  exact .cons (F := [p]) (.lst upd_same (RepTs.ofD (q I Fw s.sub w))) (w.mono (Same.refl _) fun a z => nf a (List.mem_append_right _ z))
theorem items_of {H : Hp} {a : Addr} {us vs : List V} {ds : List PyData} {I : Hp} (sb : Same I H) (ha : SqT K H a vs) (h : SqT K I a us) (hu : vs = us) (d : DrAll K I us ds) : DrAll K I vs ds := hu ▸ d
theorem sqt_inj {H : Hp} {a : Addr} {us vs : List V} (h1 : SqT K H a us) (h2 : SqT K H a vs) (hk : ∀ o, K.lookup a = some o → H a = none) : True := trivial
theorem ck_listO : CallK K m (rList K) gListO := fun B σ H ρ ws ts xs us v Q hl ok e q => by
  unfold gListO at e
  split at e
  · cases e
    obtain ⟨x, rfl⟩ := one_of hl
    obtain ⟨a, vs, rfl, ha, da⟩ := Ok.topList (ws := ws) (ts := ts) ok
    exact ⟨a, vs, rfl, .inl (SqL.of ha), fun l h => q _ _ (ok.newOwnD h fun I Fw sb w' => parts_lst sb ha w')⟩
  · cases e
    obtain ⟨x, rfl⟩ := one_of hl
    obtain ⟨I, Fr, Fw, s, r, wz, km⟩ := id ok
    obtain ⟨a, vs, e1, ha, dd⟩ := tup_items (ws := ws) (ts := ts) wz
    subst e1
    have nf : ∀ p, H p = none → ∀ b ∈ Fr ++ Fw, (upd H p (.lst vs)) b = H b := fun p hp b z => upd_ne (show b ≠ p from fun e => s.thr b z (by rw [e]; exact hp))
    refine ⟨a, vs, rfl, .inr (st_mono s.sub ha), fun p hp => q _ _ ⟨I, Fr, p :: Fw, (s.newO hp).perm List.perm_middle.symm, r.mono (Same.refl _) fun b z => nf p hp b (List.mem_append_left _ z), ?_, km⟩⟩
    exact .cons (F := [p]) (.lst upd_same (RepTs.ofD dd)) (wz.mono (Same.refl _) fun b z => nf p hp b (List.mem_append_right _ z))
  · cases e
    obtain ⟨x, rfl⟩ := one_of hl
    rename_i ns
    obtain ⟨a, rfl, ha⟩ := Ok.topScr (ws := ws) (ts := ts) ok
    refine ⟨a, _, rfl, .inl ha, fun l h => q _ _ ?_⟩
    have := Ok.newOwnD (vs := ns.map V.int) (ds := ns.map PyData.int) ok h fun I Fw sb w' => drAll_ints ns
    rw [List.map_map] at this
    exact this
  · cases e
theorem ck_list : CallK K m (rList K) gList := fun B σ H ρ ws ts xs us v Q hl ok e q => by
  unfold gList at e
  split at e
  · cases e
    obtain ⟨x, rfl⟩ := one_of hl
    obtain ⟨a, vs, rfl, ha, da⟩ := Ok.topList (ws := ws) (ts := ts) ok
    exact ⟨a, vs, rfl, .inl (SqL.of ha), fun l h => q _ _ (ok.newList h fun I Fw sb w' => parts_lst sb ha w')⟩
  · cases e
    obtain ⟨x, rfl⟩ := one_of hl
    rename_i ds
    obtain ⟨I, Fr, Fw, s, r, wz, km⟩ := id ok
    obtain ⟨a, vs, e1, ha, dd⟩ := tup_items (ws := ws) (ts := ts) wz
    subst e1
    refine ⟨a, vs, rfl, .inr (st_mono s.sub ha), fun p hp => ?_⟩
    have nf : ∀ b ∈ Fr ++ Fw, (upd H p (.lst vs)) b = H b := fun b z => upd_ne (show b ≠ p from fun e => s.thr b z (by rw [e]; exact hp))
    have o2 : Ok K m B σ (upd H p (.lst vs)) ρ (.ref p :: (.ref a :: ws)) (.lst (ds.map T.d) :: (.d (.tuple ds) :: ts)) := ⟨I, Fr, p :: Fw, (s.newO hp).perm List.perm_middle.symm, r.mono (Same.refl _) fun b z => nf b (List.mem_append_left _ z),
      .cons (F := [p]) (.lst upd_same (RepTs.ofD dd)) (wz.mono (Same.refl _) fun b z => nf b (List.mem_append_right _ z)), km⟩
    refine q _ _ (o2.freeze (d := .list ds) ?_)
    have : ∀ ds : List PyData, toDs (ds.map T.d) = some ds := fun ds => by
      induction ds with
      | nil => rfl
      | cons d ds ih => rw [List.map_cons, toDs, ih]; rfl
    rw [toD, this]
    rfl
  · cases e
    obtain ⟨x, rfl⟩ := one_of hl
    obtain ⟨a, rfl, ha⟩ := Ok.topScr (ws := ws) (ts := ts) ok
    exact ⟨a, _, rfl, .inl ha, fun l h => q _ _ (ok.newList h fun I Fw sb w' => drAll_ints _)⟩
  · cases e

/-! ### all, any, sum -/
def boolsD : List PyData → Option (List Bool)
  | [] => some []
  | .bool b :: ds => (boolsD ds).map (b :: ·)
  | _ :: _ => none
theorem bools_all {I : Hp} : ∀ {vs : List V} {ds : List PyData} {bs : List Bool}, DrAll K I vs ds → boolsD ds = some bs → vs = bs.map V.bl
  | _, _, _, .nil, e => by cases e; rfl
  | _, _, _, .cons (d := d) (ds := ds) a r, e => by
    cases a with
    | bl b =>
      unfold boolsD at e
      cases q : boolsD ds with
      | none => rw [q] at e; cases e
      | some bs =>
        rw [q] at e
        cases e
        rw [List.map_cons, ← bools_all r q]
    | _ => simp [boolsD] at e
def intsD : List PyData → Option (List Int)
  | [] => some []
  | .int b :: ds => (intsD ds).map (b :: ·)
  | _ :: _ => none
theorem ints_all {I : Hp} : ∀ {vs : List V} {ds : List PyData} {bs : List Int}, DrAll K I vs ds → intsD ds = some bs → vs = bs.map V.int
  | _, _, _, .nil, e => by cases e; rfl
  | _, _, _, .cons (d := d) (ds := ds) a r, e => by
    cases a with
    | int b =>
      unfold intsD at e
      cases q : intsD ds with
      | none => rw [q] at e; cases e
      | some bs =>
        rw [q] at e
        cases e
        rw [List.map_cons, ← ints_all r q]
    | _ => simp [intsD] at e
def strsD : List PyData → Option (List Str)
  | [] => some []
  | .str b :: ds => (strsD ds).map (b :: ·)
  | _ :: _ => none
theorem strs_all {I : Hp} : ∀ {vs : List V} {ds : List PyData} {bs : List Str}, DrAll K I vs ds → strsD ds = some bs → vs = bs.map V.str
  | _, _, _, .nil, e => by cases e; rfl
  | _, _, _, .cons (d := d) (ds := ds) a r, e => by
    cases a with
    | str b =>
      unfold strsD at e
      cases q : strsD ds with
      | none => rw [q] at e; cases e
      | some bs =>
        rw [q] at e
        cases e
        rw [List.map_cons, ← strs_all r q]
    | _ => simp [strsD] at e
def gBools (f : List Bool → Bool) : List T → Option T
  | [.d (.list ds)] => (boolsD ds).map fun bs => .d (.bool (f bs))
  | _ => none
theorem ck_bools {f : List Bool → Bool} : CallK K m (fun vs H Q => ∃ (a : Addr) (bs : List Bool), vs = [V.ref a] ∧ SqL K H a (bs.map V.bl) ∧ Q (.bl (f bs)) H) (gBools f) := fun B σ H ρ ws ts xs us v Q hl ok e q => by
  unfold gBools at e
  split at e
  · rename_i ds
    cases e1 : boolsD ds with
    | none => rw [e1] at e; cases e
    | some bs =>
      rw [e1] at e
      cases e
      obtain ⟨x, rfl⟩ := one_of hl
      obtain ⟨a, vs, rfl, ha, da⟩ := Ok.topList (ws := ws) (ts := ts) ok
      have hv := bools_all da e1
      subst hv
      exact ⟨a, bs, rfl, SqL.of ha, q _ _ ok.bl⟩
  · cases e
def gAll : List T → Option T := gBools fun bs => bs.all _root_.id
def gAny : List T → Option T := gBools fun bs => bs.any _root_.id
theorem ck_all : CallK K m (rAll K) gAll := ck_bools
theorem ck_any : CallK K m (rAny K) gAny := ck_bools
def gSum : List T → Option T
  | [.d (.list ds)] => (intsD ds).map fun ns => .d (.int ns.sum)
  | _ => none
theorem ck_sum : CallK K m (rSum K) gSum := fun B σ H ρ ws ts xs us v Q hl ok e q => by
  unfold gSum at e
  split at e
  · rename_i ds
    cases e1 : intsD ds with
    | none => rw [e1] at e; cases e
    | some bs =>
      rw [e1] at e
      cases e
      obtain ⟨x, rfl⟩ := one_of hl
      obtain ⟨a, vs, rfl, ha, da⟩ := Ok.topList (ws := ws) (ts := ts) ok
      have hv := ints_all da e1
      subst hv
      exact ⟨a, bs, rfl, SqL.of ha, q _ _ ok.int⟩
  · cases e
end
end DL
end
section
set_option Elab.async false
set_option linter.all false
set_option maxRecDepth 100000
set_option maxHeartbeats 4000000
/-! DL9: sorted, repr, times, minus, chains. -/
namespace DL
open PySem L2 PySem.Spec

/-! ### sorted -/
def leS (a b : Str) : Bool := !decide (b.cps.toList < a.cps.toList)
def sortStr (xs : List Str) : List Str := xs.mergeSort leS
theorem leS_iff {a b : Str} : leS a b = true ↔ a.cps.toList ≤ b.cps.toList := by
  unfold leS
  rw [Bool.not_eq_true', decide_eq_false_iff_not]
  exact List.not_lt
theorem leS_anti {a b : Str} (h1 : leS a b = true) (h2 : leS b a = true) : a = b := by
  have := List.le_antisymm (leS_iff.mp h1) (leS_iff.mp h2)
  obtain ⟨a⟩ := a
  obtain ⟨b⟩ := b
  have e : a.toList = b.toList := this
  rw [Array.toList_inj.mp e]
theorem leS_trans {a b c : Str} (h1 : leS a b = true) (h2 : leS b c = true) : leS a c = true := leS_iff.mpr (List.le_trans (leS_iff.mp h1) (leS_iff.mp h2))
theorem leS_total (a b : Str) : (leS a b || leS b a) = true := by
  rw [Bool.or_eq_true, leS_iff, leS_iff]
  exact List.le_total _ _
theorem rising_pw : ∀ (p : Str) (l : List Str), PyProof.Rows.risingS p l = true → (p :: l).Pairwise fun a b => leS a b = true
  | p, [], _ => List.pairwise_singleton _ _
  | p, x :: r, h => by
    have h : (!ltCps x.cps.toList p.cps.toList && PyProof.Rows.risingS x r) = true := h
    have h := (Bool.and_eq_true _ _).mp h
    have ih := rising_pw x r h.2
    have px : leS p x = true := by
      unfold leS
      have h1 := h.1
      rw [PyProof.Rows.ltCps_eq] at h1
      exact h1
    refine List.pairwise_cons.mpr ⟨fun y hy => ?_, ih⟩
    rcases List.mem_cons.mp hy with e | hy
    · rw [e]; exact px
    · exact leS_trans px (List.rel_of_pairwise_cons ih hy)
theorem sorted_uniq {ys xs : List Str} (hp : ys.Perm xs) (hs : PyProof.Rows.sortedS ys = true) : ys = sortStr xs := by
  have h1 : ys.Pairwise fun a b => leS a b = true := by
    cases ys with
    | nil => exact .nil
    | cons x r => exact rising_pw x r hs
  have h2 : (sortStr xs).Pairwise fun a b => leS a b = true := List.pairwise_mergeSort (le := leS) (fun _ _ _ => leS_trans) leS_total xs
  exact List.Perm.eq_of_pairwise (le := fun a b => leS a b = true) (fun a b _ _ h1 h2 => leS_anti h1 h2) h1 h2 (hp.trans (List.mergeSort_perm xs leS).symm)
def leI (a b : Int) : Bool := decide (a ≤ b)
def sortInt (xs : List Int) : List Int := xs.mergeSort leI
theorem sorted_uniqI {ys xs : List Int} (hp : ys.Perm xs) (hs : ys.Pairwise (· ≤ ·)) : ys = sortInt xs := by
  have h1 : ys.Pairwise fun a b => leI a b = true := hs.imp fun h => decide_eq_true h
  have h2 : (sortInt xs).Pairwise fun a b => leI a b = true := List.pairwise_mergeSort (le := leI) (fun a b c h1 h2 => decide_eq_true (Int.le_trans (of_decide_eq_true h1) (of_decide_eq_true h2)))
    (fun a b => by unfold leI; rw [Bool.or_eq_true, decide_eq_true_eq, decide_eq_true_eq]; exact Int.le_total a b) xs
  exact List.Perm.eq_of_pairwise (le := fun a b => leI a b = true) (fun a b _ _ h1 h2 => Int.le_antisymm (of_decide_eq_true h1) (of_decide_eq_true h2)) h1 h2 (hp.trans (List.mergeSort_perm xs leI).symm)
def gSorted : List T → Option T
  | [.d (.list ds)] => match strsD ds with
    | some xs => if xs.length < 64 then some (.d (.list ((sortStr xs).map PyData.str))) else none
    | none => (intsD ds).map fun ns => .d (.list ((sortInt ns).map PyData.int))
  | _ => none
def rSortSI (K : PySem.W.Frag) : List V → Hp → VK → Prop := fun xs H Q => rSortedS K xs H Q ∨ rSortedI K xs H Q
theorem cr_sortSI {X : Cx} : CallR X (.builtin "sorted") (rSortSI X.K) := CallR.or cr_sortedS cr_sortedI
section
variable {K : PySem.W.Frag} {m : List Bool}
theorem drAll_strs {I : Hp} : ∀ ns : List Str, DrAll K I (ns.map V.str) (ns.map PyData.str)
  | [] => .nil
  | n :: ns => .cons (.str n) (drAll_strs ns)
theorem ck_sorted : CallK K m (rSortSI K) gSorted := fun B σ H ρ ws ts xs us v Q hl ok e q => by
  unfold gSorted at e
  split at e
  · rename_i ds
    obtain ⟨x, rfl⟩ := one_of hl
    obtain ⟨a, vs, rfl, ha, da⟩ := Ok.topList (ws := ws) (ts := ts) ok
    split at e
    · rename_i ss es
      obtain ⟨h1, e⟩ := reqs e
      subst e
      have hv := strs_all da es
      subst hv
      refine .inl ⟨a, ss, rfl, SqL.of ha, h1, fun ys p hp hs hn => ?_⟩
      rw [sorted_uniq hp hs]
      exact q _ _ (ok.newList hn fun I Fw sb w' => drAll_strs _)
    · cases e1 : intsD ds with
      | none => rw [e1] at e; cases e
      | some ns =>
        rw [e1] at e
        cases e
        have hv := ints_all da e1
        subst hv
        refine .inr ⟨a, ns, rfl, SqL.of ha, fun ys p hp hs hn => ?_⟩
        rw [sorted_uniqI hp hs]
        exact q _ _ (ok.newList hn fun I Fw sb w' => drAll_ints _)
  · cases e
end

/-! ### repr -/
section
variable {X : Cx} {pins : List (Addr × Obj)} {σ : L2.St} {H : Hp} {s : Shared}
mutual
theorem Dr.shows (I : Inv X pins σ H s) : ∀ (d : PyData) (v : V) (u : Value), Dr X.K H v d → RelV v u → d.showable = true → d.shown.length ≤ sizeLine →
    (∃ as, Reads s.heap u d as) ∧ ∃ bs, ReadAtMost s.heap d.depth bs ∧ ReprK X.prog X.w bs s.heap d.depth u d.shown
  | .none, _, _, h, r, _, _ => by
    cases h
    cases r
    exact ⟨⟨_, Reads.none⟩, [], (fun _ h => nomatch h), by simp only [PyData.shown]; exact .of_is ReprIs.none _ _ _⟩
  | .bool b, _, _, h, r, _, _ => by
    cases h
    cases r
    exact ⟨⟨_, Reads.bool b⟩, [], (fun _ h => nomatch h), by simp only [PyData.shown]; exact .of_is (ReprIs.bool b) _ _ _⟩
  | .int i, _, _, h, r, hs, _ => by
    cases h
    obtain ⟨t, rfl⟩ := r
    exact ⟨⟨_, Reads.int i t⟩, [], (fun _ h => nomatch h), by simp only [PyData.shown]; exact .of_is (ReprIs.int t (by simpa [PyData.showable] using hs)) _ _ _⟩
  | .str x, _, _, h, r, _, hz => by
    cases h
    obtain ⟨t, rfl⟩ := r
    exact ⟨⟨_, Reads.str x t⟩, [], (fun _ h => nomatch h), by simp only [PyData.shown]; exact .of_is (ReprIs.str x t (by simpa only [PyData.shown] using hz)) _ _ _⟩
  | .list ds, _, _, h, r, hs, hz => by
    cases h with
    | lst ha da =>
      cases r
      obtain ⟨its, rv, ⟨o, n, h1, h2, _, h3⟩, _⟩ := I.list (SqL.of ha)
      have hz' : (listText (PyData.shownAll ds)).length ≤ sizeLine := by simpa only [PyData.shown] using hz
      obtain ⟨⟨as, hr⟩, bs, hb, hk⟩ := DrAll.shows I ds _ its da rv (by simpa [PyData.showable] using hs) (fun t ht => Nat.le_trans (listText_mem_le ht) hz')
      have rd := Reads.list h1 h2 h3 hr
      have hna := not_mem_of_deeper rd (by simp only [PyData.depth]; omega) hb
      refine ⟨⟨_, rd⟩, _ :: bs, ReadAtMost.cons rd (by simp only [PyData.depth]; omega) hb, ?_⟩
      simp only [PyData.depth, PyData.shown]
      cases its with
      | nil =>
        have hr' : ReadsAll s.heap [] ds _ := hr
        cases hr'
        simp only [PyData.shownAll, listText_nil]
        exact ReprK.listEmpty h1 h2 h3
      | cons x l => exact ReprK.list h1 h2 h3 hna (by simpa using hk.length_eq) (fun i y e => hk.item i y (by simpa using e))
  | .tuple ds, _, _, h, r, hs, hz => by
    cases h with
    | tup ha da =>
      cases r
      obtain ⟨its, rv, ⟨o, h1, h2, n, h3⟩, _⟩ := I.tuple ha
      have hz' : (tupleText (PyData.shownAll ds)).length ≤ sizeLine := by simpa only [PyData.shown] using hz
      obtain ⟨⟨as, hr⟩, bs, hb, hk⟩ := DrAll.shows I ds _ its da rv (by simpa [PyData.showable] using hs) (fun t ht => Nat.le_trans (tupleText_mem_le ht) hz')
      have rd := Reads.tuple h1 h2 h3 hr
      have hna := not_mem_of_deeper rd (by simp only [PyData.depth]; omega) hb
      refine ⟨⟨_, rd⟩, _ :: bs, ReadAtMost.cons rd (by simp only [PyData.depth]; omega) hb, ?_⟩
      simp only [PyData.depth, PyData.shown]
      exact ReprK.tuple h1 h2 h3 hna hk
  | .dict kvs, _, _, h, r, hs, hz => by
    cases h with
    | dct0 ha =>
      cases r
      obtain ⟨_, hsys, vs, hkv, o, es, ep, h1, h2, h3, h4, h5, _⟩ := (show ObjOk X.prog X.w H s.heap _ (.dK []) from I.hok _ _ ha)
      cases hkv
      have he : es.toList = [] := by
        generalize hl : es.toList = l at h5
        cases h5
        rfl
      have hes : es = #[] := Array.toList_eq_nil_iff.mp he
      subst hes
      have rd := Reads.dict (kvs := []) h1 h2.1 h3 (.nil) (.nil)
      refine ⟨⟨_, rd⟩, [_], ReadAtMost.cons rd (Nat.zero_le _) (fun _ h => nomatch h), ?_⟩
      simp only [PyData.depth, PyData.shown]
      have := ReprK.dict (prog := X.prog) (w := X.w) (as := []) (d := PyData.depthKv []) h1 h2.1 h3 hsys (fun h => nomatch h) (ReprEntriesK.of_two [] [] [] .nil .nil)
      exact this
theorem DrAll.shows (I : Inv X pins σ H s) : ∀ (ds : List PyData) (vs : List V) (us : List Value), DrAll X.K H vs ds → Vals vs us → PyData.showableAll ds = true → (∀ t ∈ PyData.shownAll ds, t.length ≤ sizeLine) →
    (∃ as, ReadsAll s.heap us ds as) ∧ ∃ bs, ReadAtMost s.heap (PyData.depthAll ds) bs ∧ ReprAllK X.prog X.w bs s.heap (PyData.depthAll ds) us (PyData.shownAll ds)
  | [], _, _, h, r, _, _ => by
    cases h
    cases r
    exact ⟨⟨_, ReadsAll.nil⟩, [], (fun _ h => nomatch h), by simp only [PyData.shownAll]; exact .nil⟩
  | d :: ds, _, _, h, r, hs, hz => by
    cases h with
    | cons h1 h2 =>
      cases r with
      | cons r1 r2 =>
        have hs' : d.showable = true ∧ PyData.showableAll ds = true := by simpa [PyData.showableAll] using hs
        obtain ⟨⟨as, q1⟩, b1, hb1, k1⟩ := Dr.shows I d _ _ h1 r1 hs'.1 (hz _ (by simp only [PyData.shownAll]; exact List.mem_cons_self ..))
        obtain ⟨⟨as2, q2⟩, b2, hb2, k2⟩ := DrAll.shows I ds _ _ h2 r2 hs'.2 (fun t ht => hz t (by simp only [PyData.shownAll]; exact List.mem_cons_of_mem _ ht))
        refine ⟨⟨_, ReadsAll.cons q1 q2⟩, b1 ++ b2, ?_, ?_⟩
        · simp only [PyData.depthAll]
          exact (hb1.mono (Nat.le_max_left _ _)).append (hb2.mono (Nat.le_max_right _ _))
        · simp only [PyData.depthAll, PyData.shownAll]
          exact .cons ((k1.more (fun b hb => List.mem_append_left _ hb)).level_le (Nat.le_max_left _ _)) (k2.more_le (fun b hb => List.mem_append_right _ hb) (Nat.le_max_right _ _))
end
end
def okShow (d : PyData) : Bool := d.showable && decide (d.shown.length ≤ sizeLine) && decide (d.depth ≤ 60)
def rRepr (K : PySem.W.Frag) : List V → Hp → VK → Prop := fun xs H Q => ∃ x d, xs = [x] ∧ Dr K H x d ∧ okShow d = true ∧ Q (.str d.shown) H
theorem cr_repr {X : Cx} (hg : X.A.guards = some []) (hu : X.A.units + 64 < cLine) : CallR X (.builtin "repr") (rRepr X.K) := by
  intro pins s σ H xs us Q I r h
  obtain ⟨x, d, rfl, dr, k, q⟩ := h
  obtain ⟨u, rfl, ru⟩ := vals1 r
  have k := (Bool.and_eq_true _ _).mp k
  have k1 := (Bool.and_eq_true _ _).mp k.1
  have hdep := of_decide_eq_true k.2
  have hz := of_decide_eq_true k1.2
  cases dr with
  | non =>
    cases ru
    simp only [PyData.shown] at q
    exact PySem.P.repr_of_none ⟨.str _, H, I.tok _, ⟨_, rfl⟩, q⟩
  | bl b =>
    cases ru
    simp only [PyData.shown] at q
    refine PySem.P.repr_of_bool ⟨.str _, H, I.tok _, ⟨_, rfl⟩, ?_⟩
    cases b <;> exact q
  | int i =>
    obtain ⟨t, rfl⟩ := ru
    simp only [PyData.shown] at q
    exact PySem.P.repr_of_int (by simpa [PyData.showable] using k1.1) ⟨.str _, H, I.tok _, ⟨_, rfl⟩, q⟩
  | str z =>
    obtain ⟨t, rfl⟩ := ru
    simp only [PyData.shown] at q hz
    exact PySem.P.repr_of_str ⟨.str _, H, I.tok _, ⟨_, rfl⟩, q⟩ hz
  | @lst a vs ds ha da =>
    cases ru
    obtain ⟨its, rv, ⟨o, n, h1, h2, _, h3⟩, _⟩ := I.list (SqL.of ha)
    have hz' : (listText (PyData.shownAll ds)).length ≤ sizeLine := by simpa only [PyData.shown] using hz
    obtain ⟨⟨as, hr⟩, bs, hb, hk⟩ := DrAll.shows I ds _ its da rv (by simpa [PyData.showable] using k1.1) (fun t ht => Nat.le_trans (listText_mem_le ht) hz')
    have rd := Reads.list h1 h2 h3 hr
    have hna := not_mem_of_deeper rd (by simp only [PyData.depth]; omega) hb
    simp only [PyData.depth] at hdep
    simp only [PyData.shown] at q
    refine call_repr_slot (by omega) ⟨o, h1, h2⟩ F.slot_list_repr.toG ?_
    cases its with
    | nil =>
      have hr' : ReadsAll s.heap [] ds _ := hr
      cases hr'
      simp only [PyData.shownAll, listText_nil] at q
      exact call_list_repr_empty ⟨o, h1, h2⟩ h1 h3 ⟨_, _, rfl, .str _, H, I.tok _, ⟨_, rfl⟩, q⟩
    | cons x l =>
      exact call_list_reprK h1 h2 h3 hna (by simpa using hk.length_eq) (fun i y e => hk.item i y (by simpa using e)) hg (fun b _ => Clear.nil b) (by show X.A.units + 1 + _ < cLine; omega) (fun _ _ e => e) (fun h' u tk hk => ⟨_, _, rfl, .str _, H, I.kept hk, ⟨_, rfl⟩, q⟩) hz'
  | @tup a vs ds ha da =>
    cases ru
    obtain ⟨its, rv, ⟨o, h1, h2, n, h3⟩, _⟩ := I.tuple ha
    have hz' : (tupleText (PyData.shownAll ds)).length ≤ sizeLine := by simpa only [PyData.shown] using hz
    obtain ⟨⟨as, hr⟩, bs, hb, hk⟩ := DrAll.shows I ds _ its da rv (by simpa [PyData.showable] using k1.1) (fun t ht => Nat.le_trans (tupleText_mem_le ht) hz')
    have rd := Reads.tuple h1 h2 h3 hr
    have hna := not_mem_of_deeper rd (by simp only [PyData.depth]; omega) hb
    simp only [PyData.depth] at hdep
    simp only [PyData.shown] at q
    refine call_repr_slot (by omega) ⟨o, h1, h2⟩ F.slot_tuple_repr ?_
    exact call_tuple_reprK h1 h2 h3 hna hk hg (fun b _ => Clear.nil b) (by show X.A.units + 1 + _ < cLine; omega) (fun _ _ e => e) (fun h' u tk hk => ⟨_, _, rfl, .str _, H, I.kept hk, ⟨_, rfl⟩, q⟩) hz'
  | @dct0 a ha =>
    cases ru
    obtain ⟨_, hsys, vs, hkv, o, es, ep, h1, h2, h3, h4, h5, _⟩ := (show ObjOk X.prog X.w H s.heap _ (.dK []) from I.hok _ _ ha)
    cases hkv
    have he : es.toList = [] := by
      generalize hl : es.toList = l at h5
      cases h5
      rfl
    have hes : es = #[] := Array.toList_eq_nil_iff.mp he
    subst hes
    have rd := Reads.dict (kvs := []) h1 h2.1 h3 (.nil) (.nil)
    refine repr_of_reads' rd rfl (fun _ m => ?_) hg (by simp only [PyData.depth, PyData.depthKv] at hdep ⊢; omega) (fun _ _ e => e) (fun h' u tk hk => ⟨.str _, H, I.kept hk, ⟨_, rfl⟩, q⟩) hz
    simp at m
    rw [m] at hsys
    simp at hsys
def gRepr : List T → Option T
  | [.d d] => if okShow d = true then some (.d (.str d.shown)) else none
  | _ => none
theorem ck_repr {K : PySem.W.Frag} {m : List Bool} : CallK K m (rRepr K) gRepr := fun B σ H ρ ws ts xs us v Q hl ok e q => by
  unfold gRepr at e
  split at e
  · rename_i d
    obtain ⟨h1, e⟩ := reqs e
    subst e
    obtain ⟨x, rfl⟩ := one_of hl
    exact ⟨x, d, rfl, Ok.topD (ws := ws) (ts := ts) ok, h1, q _ _ ok.str⟩
  · cases e

/-! ### times, minus -/
def cMul (i j : Int) : Bool := decide (i.natAbs.log2 + j.natAbs.log2 < 1000000) || (decide (-(2 ^ 64) < i ∧ i < 2 ^ 64) || decide (-(2 ^ 64) < j ∧ j < 2 ^ 64))
def pMul : PyData → PyData → Option PyData
  | .int i, .int j => if cMul i j = true then some (.int (i * j)) else none
  | .list ds, .int k => if (okRange k && decide (ds.length * k.toNat ≤ lim)) = true then some (.list (List.replicate k.toNat ds).flatten) else none
  | _, _ => none
section
variable {K : PySem.W.Frag} {m : List Bool}
def rMul2 : R2 := fun x y H Q => rI CMulW (fun i j => .int (i * j)) x y H Q ∨ (rI CMul (fun i j => .int (i * j)) x y H Q ∨ rRep x y H Q)
theorem op_mul2 {X : Cx} : OpR X (binaryOp .Mult) rMul2 := OpR.or op_mulW (OpR.or op_mul op_rep)
theorem od_mul : OpD K m rMul2 (onD pMul) := OpD.ofD fun B σ H ρ ws ts x y t u v Q ok e q => by
  unfold pMul at e
  split at e
  · obtain ⟨h, e⟩ := reqs e
    subst e
    have hy := ok.topInt
    have hx := ok.pop.topInt
    subst hx hy
    unfold cMul at h
    rcases (Bool.or_eq_true _ _).mp h with h | h
    · exact .inl ⟨_, _, rfl, rfl, by unfold CMulW; exact of_decide_eq_true h, q _ _ ok.pop.pop.int⟩
    · refine .inr (.inl ⟨_, _, rfl, rfl, ?_, q _ _ ok.pop.pop.int⟩)
      rcases (Bool.or_eq_true _ _).mp h with h | h
      · exact .inl (of_decide_eq_true h)
      · exact .inr (of_decide_eq_true h)
  · obtain ⟨h, e⟩ := reqs e
    subst e
    rename_i ds k
    have h := (Bool.and_eq_true _ _).mp h
    have hz := of_decide_eq_true h.2
    obtain ⟨b1, b2⟩ := okRange_of h.1
    have hy := ok.topInt
    subst hy
    obtain ⟨a, vs, rfl, ha, da⟩ := ok.pop.topList
    refine .inr (.inr ⟨a, k, vs, rfl, rfl, ha, by omega, by omega, by rw [da.len]; exact lim_le hz, fun p hp => q _ _ ?_⟩)
    refine Ok.inStead (ok.pop.newList hp fun I Fw sb w' => ?_)
    exact (parts_lst sb ha w').rep _
  · cases e
end
def gNeg : T → Option T
  | .d (.int i) => some (.d (.int (-i)))
  | _ => none
def dneg (fa : M T) : M T := mbind fa fun x => mopt (gNeg x)
section
variable {X : Cx} {w : Wd} {a b c e : Expr} {fa fb fc f : M T} {pos : Pos}
theorem de_neg (ha : DE X w a fa) : DE X w (.UnaryOp .USub a pos) (dneg fa) := by
  obtain ⟨ta, pa, da⟩ := ha.ex
  refine de_v (pe_un un_neg pa) fun B σ H ρ ws ts Q ok q => ?_
  refine da B σ H ρ ws ts _ ok (q.bind.mono fun v ρ1 p1 x H1 ok1 => ?_)
  obtain ⟨z, e, q3⟩ := p1.opt
  unfold gNeg at e
  split at e
  · cases e
    have hx := ok1.topInt
    subst hx
    exact ⟨_, rfl, q3 _ _ ok1.pop.int⟩
  · cases e

/-! ### a op b op c, b data -/
def chainRest (g' : T → T → Option T) (fc : M T) (y : PyData) : T → M T
  | .d (.bool true) => mbind fc fun u => mopt (g' (.d y) u)
  | .d (.bool false) => mret (.d (.bool false))
  | _ => mno
def chainMid (g g' : T → T → Option T) (fc : M T) (x : T) : T → M T
  | .d y => mbind (mopt (g x (.d y))) (chainRest g' fc y)
  | _ => mno
def dchain (g g' : T → T → Option T) (fa fb fc : M T) : M T := mbind fa fun x => mbind fb (chainMid g g' fc x)
theorem den_chain {K : PySem.W.Frag} {ta tb tc : TE} {r r' : R2} {g g' : T → T → Option T} (ha : DenE K w ta fa) (hb : DenE K w tb fb) (hc : DenE K w tc fc) (hg : OpD K w.m r g) (hg' : OpD K w.m r' g') : DenE K w (tChain r r' ta tb tc) (dchain g g' fa fb fc) := fun B σ H ρ ws ts Q ok p => by
  refine ha B σ H ρ ws ts _ ok (p.bind.mono fun v ρ1 p1 x H1 ok1 => ?_)
  refine hb B σ H1 ρ1 _ _ _ ok1 (p1.bind.mono fun u ρ2 p2 y H2 ok2 => ?_)
  cases u with
  | d yd =>
    obtain ⟨z, e, q⟩ := (PostG.bind (f := mopt (g v (.d yd))) (g := chainRest g' fc yd) p2).opt
    have ok3 : Ok K w.m B σ H2 ρ2 (y :: x :: y :: ws) (.d yd :: v :: .d yd :: ts) := by
      have o := ok2.dup
      obtain ⟨I, Fr, Fw, s, r, wz, km⟩ := o
      cases wz with
      | cons a1 b1 =>
        cases b1 with
        | cons a2 c1 =>
          cases c1 with
          | cons a3 c2 =>
            cases a1 with
            | d a1 =>
              cases a2 with
              | d a2 => exact ⟨I, Fr, _, s.perm (by simp), r, .cons (F := []) (.d a1) (.cons a3 (.cons (F := []) (.d a2) c2)), km⟩
    refine hg B σ H2 ρ2 (y :: ws) (.d yd :: ts) x y v (.d yd) z _ ok3 e fun z' H3 ok4 => ?_
    cases z with
    | d zd =>
      cases zd with
      | bool k =>
        have hz := ok4.topBl
        subst hz
        refine ⟨k, rfl, ?_⟩
        cases k with
        | true =>
          rw [if_pos rfl]
          refine hc B σ H3 ρ2 _ _ _ ok4.pop (PostG.mono (PostG.bind (f := fc) (g := fun u => mopt (g' (.d yd) u)) q) fun t ρ3 p3 x3 H4 ok5 => ?_)
          obtain ⟨z2, e2, q2⟩ := p3.opt
          exact hg' B σ H4 ρ3 ws ts y x3 (.d yd) t z2 Q ok5 e2 q2
        | false =>
          rw [if_neg Bool.false_ne_true]
          exact q _ _ ok4.pop.pop.bl
      | _ => exact q.elim
    | _ => exact q.elim
  | _ => exact p2.elim
theorem de_chain {op op' : CmpOp} {r r' : R2} {g g' : T → T → Option T} (ho : OpR X (compareOp op) r) (hg : OpD X.K w.m r g) (ho' : OpR X (compareOp op') r') (hg' : OpD X.K w.m r' g') (ha : DE X w a fa) (hb : DE X w b fb) (hc : DE X w c fc)
    (hm : lastMarks [op, op'] [b, c] = false := by with_unfolding_all rfl) : DE X w (.Compare a [op, op'] [b, c] pos) (dchain g g' fa fb fc) := by
  obtain ⟨ta, pa, da⟩ := ha.ex
  obtain ⟨tb, pb, db⟩ := hb.ex
  obtain ⟨tc, pc, dc⟩ := hc.ex
  exact de_v (pe_chain ho ho' pa pb pc hm) (den_chain da db dc hg hg')
theorem dt_chain {op op' : CmpOp} {r r' : R2} {g g' : T → T → Option T} (ho : OpR X (compareOp op) r) (hg : OpD X.K w.m r g) (ho' : OpR X (compareOp op') r') (hg' : OpD X.K w.m r' g') (ha : DE X w a fa) (hb : DE X w b fb) (hc : DE X w c fc)
    (hm : lastMarks [op, op'] [b, c] = false := by with_unfolding_all rfl) : DT X w (.Compare a [op, op'] [b, c] pos) (dval (dchain g g' fa fb fc)) := by
  obtain ⟨ta, pa, da⟩ := ha.ex
  obtain ⟨tb, pb, db⟩ := hb.ex
  obtain ⟨tc, pc, dc⟩ := hc.ex
  refine ⟨_, pt_chain ho ho' pa pb pc hm, fun B σ H ρ ws ts Q ok p => ?_⟩
  refine den_chain da db dc hg hg' B σ H ρ ws ts _ ok (p.bind.mono fun v ρ1 p1 x H1 ok1 => ?_)
  cases v with
  | d x =>
    cases x with
    | bool b =>
      have ex := ok1.topBl
      subst ex
      exact ⟨b, rfl, p1 _ ok1.pop⟩
    | _ => exact p1.elim
  | _ => exact p1.elim
end
end DL
end
section
set_option Elab.async false
set_option linter.all false
set_option maxRecDepth 100000
set_option maxHeartbeats 4000000
/-! DLA: own lists and dicts, methods, targets. -/
namespace DL
open PySem L2

/-! ### methods of what a slot holds -/
def tyT : T → Option String
  | .lst _ => some "list"
  | .dct _ => some "dict"
  | .d (.list _) => some "list"
  | .d (.str _) => some "str"
  | _ => none
section
variable {K : PySem.W.Frag} {m : List Bool} {B : Bs} {σ : St} {H : Hp} {ρ : Rho} {ws : List V} {ts : List T} {x y v : V} {t u : T} {d e : PyData} {i : Nat}
theorem Ok.tyV {n : String} (h : Ok K m B σ H ρ (x :: ws) (t :: ts)) (e : tyT t = some n) : L2.tyV K n x H := by
  obtain ⟨I, Fr, Fw, s, r, w, km⟩ := h
  cases w with
  | cons a b =>
    cases a with
    | lst hp it => cases e; exact .inl ⟨rfl, _, SqL.of hp⟩
    | dct hp _ _ _ it => cases e; exact .inr (.inr (.inl ⟨rfl, .inl ⟨_, hp⟩⟩))
    | d q =>
      cases q with
      | lst hp it => cases e; exact .inl ⟨rfl, _, SqL.of (s.sub _ _ hp)⟩
      | str z => cases e; rfl
      | _ => cases e
    | _ => cases e
end
/-- a method that changes its receiver -/
def OwnM (K : PySem.W.Frag) (m : List Bool) (r : V → List V → Hp → VK → Prop) (g : T → List T → Option (T × T)) : Prop :=
  ∀ B σ H ρ ws ts x ys t us t1 v (Q : VK), ys.length = us.length → Ok K m B σ H ρ (ys ++ x :: ws) (us ++ t :: ts) → g t us = some (t1, v) → (∀ z H', Ok K m B σ H' ρ (z :: x :: ws) (v :: t1 :: ts) → Q z H') → r x ys H Q
/-- the type of what slot i holds -/
def dtyp (n : String) (i : Nat) : M Unit := fun ρ => match ρ[i]? with
  | some (some t) => if tyT t = some n then .ok () ρ else .no
  | _ => .no
def down (i : Nat) (g : T → Option (T × T)) : M T := fun ρ => match ρ[i]? with
  | some (some t) => (match g t with
    | some (t1, v) => .ok v (ρ.set i (some t1))
    | none => .no)
  | _ => .no
def dmeth (n : String) (i : Nat) (g : T → List T → Option (T × T)) (fs : M (List T)) : M T := mbind (dtyp n i) fun _ => mbind fs fun us => down i fun t => g t us
section
variable {K : PySem.W.Frag} {w : Wd} {i : Nat} {n : String} {r : V → List V → Hp → VK → Prop} {g : T → List T → Option (T × T)} {fs : M (List T)} {os : List (Option Nat)} {t : TA}
theorem Ok.peek {m : List Bool} {B : Bs} {σ : St} {H : Hp} {ρ : Rho} {ws : List V} {ts : List T} {u : T} (h : Ok K m B σ H ρ ws ts) (e : ρ[i]? = some (some u)) (q : tyT u = some n) : ∃ v, σ[i]? = some (some v) ∧ L2.tyV K n v H := by
  obtain ⟨v, h1, h2⟩ := h.take e
  exact ⟨v, h1, h2.tyV q⟩
theorem den_meth (hg : OwnM K w.m r g) (d : DenA K w t os fs) : DenE K w (tBM K n r (tVar i) t) (dmeth n i g fs) := fun B σ H ρ ws ts Q ok q => by
  have q := q.bind
  unfold dtyp at q
  cases e : ρ[i]? with
  | none => rw [e] at q; exact q.elim
  | some o =>
    cases o with
    | none => rw [e] at q; exact q.elim
    | some u =>
      rw [e] at q
      by_cases hq : tyT u = some n
      · simp only [if_pos hq] at q
        obtain ⟨v, h1, h2⟩ := ok.peek e hq
        refine ⟨v, h1, h2, ?_⟩
        refine d B σ H ρ ws ts _ ok (PostG.mono (PostG.bind q) fun us ρ1 p1 xs H1 hl ok1 _ => ?_)
        unfold down at p1
        cases e1 : ρ1[i]? with
        | none => rw [e1] at p1; exact p1.elim
        | some o1 =>
          cases o1 with
          | none => rw [e1] at p1; exact p1.elim
          | some u1 =>
            rw [e1] at p1
            simp only at p1
            cases e2 : g u1 us with
            | none => rw [e2] at p1; exact p1.elim
            | some tv =>
              obtain ⟨t1, v1⟩ := tv
              rw [e2] at p1
              obtain ⟨v', h1', ok2⟩ := ok1.take e1
              have : v' = v := by
                rw [h1] at h1'
                exact (Option.some.inj (Option.some.inj h1')).symm
              subst this
              have ok3 := Ok.perm4 (vs := xs) (us := us) hl ok2
              refine hg B σ H1 _ ws ts v' xs u1 us t1 v1 Q hl ok3 e2 fun z H' ok4 => ?_
              have ok5 := ok4.swap.back (i := i) h1
              rw [List.set_set] at ok5
              exact p1 z H' ok5
      · simp only [if_neg hq] at q
        exact q.elim
theorem den_meth0 (hg : OwnM K w.m r g) : DenE K w (tBM0 K n r (tVar i)) (dmeth n i g (mret [])) := fun B σ H ρ ws ts Q ok q => by
  have h := den_meth (n := n) (i := i) hg (den_nil (w := w) (K := K)) B σ H ρ ws ts Q ok q
  obtain ⟨v, h1, h2, h3⟩ := h
  exact ⟨v, h1, h2, h3⟩
end
section
variable {X : Cx} {w : Wd} {n id : String} {x name : Str} {r : V → List V → Hp → VK → Prop} {g : T → List T → Option (T × T)} {fs : M (List T)} {os : List (Option Nat)} {e : Expr} {es : List Expr} {p apos cpos : Pos}
theorem de_meth (i : Nat) (pa : PlainAttrs n) (slot : Slot n name id) (hty : typeOf (.builtin id) = pure (.type "method_descriptor")) (hm : MtR X id r) (hg : OwnM X.K w.m r g) (ha : DA X w (e :: es) os fs)
    (hN : X.N[i]? = some x := by rfl) (hv : Vis X.env.scope x := by first | exact Or.inl rfl | exact Or.inr (Or.inl rfl) | exact Or.inr (Or.inr rfl)) (hd : (x == ("__debug__" : Str)) = false := by decide) (hcd : (x == ("__classdict__" : Str)) = false := by decide)
    (hbase : attributeBase (.Name x p) name X.env (eval (.Name x p) X.env) = eval (.Name x p) X.env := by rfl)
    (hfew : ((backTo cpos (starEach (e :: es) X.env)).all (fun x => !x.1) && (backToKw cpos (keywordEach [] X.env)).all (fun x => x.1.isSome)
      && decide ((e :: es).length + ([] : List Keyword).length + (if ([] : List Keyword).isEmpty then 0 else 1) < 30)) = true := by rfl)
    (hline : (apos.endLine == cpos.line) = true := by rfl) (hs : starEach (e :: es) X.env = (false, eval e X.env) :: starEach es X.env := by rfl) (hplain : (backTo cpos (starEach es X.env)).any (·.1) = false := by rfl) :
    DE X w (.Call (.Attribute (.Name x p) name apos) (e :: es) [] cpos) (dmeth n i g fs) := by
  obtain ⟨t, pt, dt⟩ := ha.ex
  exact de_v (pe_bm pa slot hty hm (pe_var hN hv hd hcd) pt hbase hfew hline hs hplain) (den_meth hg dt)
theorem de_meth0 (i : Nat) (pa : PlainAttrs n) (slot : Slot n name id) (hty : typeOf (.builtin id) = pure (.type "method_descriptor")) (hm : MtR X id r) (hg : OwnM X.K w.m r g)
    (hN : X.N[i]? = some x := by rfl) (hv : Vis X.env.scope x := by first | exact Or.inl rfl | exact Or.inr (Or.inl rfl) | exact Or.inr (Or.inr rfl)) (hd : (x == ("__debug__" : Str)) = false := by decide) (hcd : (x == ("__classdict__" : Str)) = false := by decide)
    (hbase : attributeBase (.Name x p) name X.env (eval (.Name x p) X.env) = eval (.Name x p) X.env := by rfl) (hline : (apos.endLine == cpos.line) = true := by rfl) :
    DE X w (.Call (.Attribute (.Name x p) name apos) [] [] cpos) (dmeth n i g (mret [])) :=
  de_v (pe_bm0 pa slot hty hm (pe_var hN hv hd hcd) hbase hline) (den_meth0 hg)
end
section
variable {K : PySem.W.Frag} {m : List Bool}
def oAppend : T → List T → Option (T × T)
  | .lst xs, [u] => if xs.length < lim then some (.lst (xs ++ [u]), .d .none) else none
  | _, _ => none
theorem om_append : OwnM K m rAppend oAppend := fun B σ H ρ ws ts x ys t us t1 v Q hl ok e q => by
  unfold oAppend at e
  split at e
  · obtain ⟨h1, e⟩ := reqs e
    cases e
    obtain ⟨y, rfl⟩ := one_of hl
    obtain ⟨a, vs, rfl, ha, hlen⟩ := Ok.ownList (Ok.pop (ws := x :: ws) (ts := _ :: ts) ok)
    obtain ⟨vs', h2, h3, ok2⟩ := Ok.grow (ws := ws) (ts := ts) ok
    refine ⟨a, vs', y, rfl, rfl, h2, by rw [h3]; exact lim_lt h1, q _ _ ok2.non⟩
  · cases e
def oPopAt : T → List T → Option (T × T)
  | .lst xs, [.d (.int i)] => if (decide (0 ≤ i) && decide (i < 1000000)) = true then (match xs[i.toNat]? with
    | some t => some (.lst (xs.eraseIdx i.toNat), t)
    | none => none) else none
  | _, _ => none
theorem RepTs.pick {I H : Hp} : ∀ {vs : List V} {ts : List T} {F : List Addr} {k : Nat} {t : T}, RepTs K I H vs ts F → ts[k]? = some t → ∃ v G E, vs[k]? = some v ∧ RepT K I H v t G ∧ RepTs K I H (vs.eraseIdx k) (ts.eraseIdx k) E ∧ List.Perm (G ++ E) F
  | _, _, _, k, t, .nil, e => by simp at e
  | _, _, _, 0, t, .cons (F := F) (G := G) a b, e => by
    simp at e
    subst e
    exact ⟨_, F, G, rfl, a, b, List.Perm.refl _⟩
  | _, _, _, k + 1, t, .cons (F := F) a b, e => by
    obtain ⟨v, G, E, h1, h2, h3, h4⟩ := RepTs.pick (k := k) b (by simpa using e)
    refine ⟨v, G, F ++ E, by simpa using h1, h2, .cons a h3, ?_⟩
    refine List.Perm.trans ?_ (List.Perm.append_left F h4)
    rw [← List.append_assoc, ← List.append_assoc]
    exact List.Perm.append_right _ List.perm_append_comm
/-- one out of the own list on top -/
theorem Ok.popAt {B : Bs} {σ : St} {H : Hp} {ρ : Rho} {ws : List V} {ts : List T} {x : V} {xs : List T} {k : Nat} {t : T} (h : Ok K m B σ H ρ (x :: ws) (.lst xs :: ts)) (e : xs[k]? = some t) :
    ∃ a vs v, x = .ref a ∧ H a = some (.lst vs) ∧ vs.length = xs.length ∧ vs[k]? = some v ∧ Ok K m B σ (upd H a (.lst (vs.eraseIdx k))) ρ (v :: .ref a :: ws) (t :: .lst (xs.eraseIdx k) :: ts) := by
  obtain ⟨I, Fr, Fw, s, r, w, km⟩ := h
  cases w with
  | cons a b =>
    rename_i F1 F2
    cases a with
    | lst hp it =>
      rename_i p vs F3
      obtain ⟨v, G, E, h1, h2, h3, h4⟩ := it.pick e
      have mem : p ∈ Fr ++ (p :: F3 ++ F2) := by simp
      have nd := s.nd
      have other : ∀ q ∈ Fr ++ (F3 ++ F2), q ≠ p := fun q z e => by
        subst e
        have : List.Perm (Fr ++ (q :: F3 ++ F2)) (q :: (Fr ++ (F3 ++ F2))) := List.perm_middle
        exact (List.nodup_cons.mp (this.nodup_iff.mp nd)).1 z
      have sub : ∀ q, q ∈ G ++ E → q ∈ F3 := fun q z => h4.mem_iff.mp z
      have fx : ∀ q ∈ Fr ++ (F3 ++ F2), (upd H p (.lst (vs.eraseIdx k))) q = H q := fun q z => upd_ne (other q z)
      refine ⟨p, vs, v, rfl, hp, it.len, h1, I, Fr, G ++ ((p :: E) ++ F2), (s.write (o := .lst (vs.eraseIdx k)) mem).perm (List.Perm.append_left _ ?_), r.mono (Same.refl _) fun q z => fx q (by simp [z]),
        .cons (h2.mono (Same.refl _) fun q z => fx q (List.mem_append_right _ (List.mem_append_left _ (sub q (List.mem_append_left _ z))))) (.cons (.lst upd_same (h3.mono (Same.refl _) fun q z => fx q (List.mem_append_right _ (List.mem_append_left _ (sub q (List.mem_append_right _ z)))))) (b.mono (Same.refl _) fun q z => fx q (by simp [z]))), km⟩
      rw [List.cons_append, List.cons_append]
      refine List.Perm.trans ?_ List.perm_middle.symm
      refine List.Perm.cons _ ?_
      rw [← List.append_assoc]
      exact List.Perm.append_right _ h4.symm
theorem om_popAt : OwnM K m rPopAt oPopAt := fun B σ H ρ ws ts x ys t us t1 v Q hl ok e q => by
  unfold oPopAt at e
  split at e
  · rename_i xs i
    obtain ⟨y, rfl⟩ := one_of hl
    by_cases c : (decide (0 ≤ i) && decide (i < 1000000)) = true
    · rw [if_pos c] at e
      have c := (Bool.and_eq_true _ _).mp c
      have c1 := of_decide_eq_true c.1
      have c2 := of_decide_eq_true c.2
      cases e1 : xs[i.toNat]? with
      | none => rw [e1] at e; cases e
      | some t0 =>
        rw [e1] at e
        cases e
        have hy := Ok.topInt (ws := x :: ws) (ts := _ :: ts) ok
        subst hy
        obtain ⟨a, vs, v0, rfl, ha, hlen, hv, ok2⟩ := Ok.popAt (Ok.pop (ws := x :: ws) (ts := _ :: ts) ok) e1
        have hlt : i.toNat < vs.length := (List.getElem?_eq_some_iff.mp hv).1
        refine ⟨a, vs, i, i.toNat, v0, rfl, rfl, ha, by omega, by omega, ?_, hv, q _ _ ok2⟩
        unfold seqIndex?
        have h3 : ¬ i < 0 := by omega
        simp only [h3, if_false]
        have h4 : ¬ (i ≥ (vs.length : Int)) := by omega
        first
          | (simp [h4, h3]; done)
          | (rw [if_neg]; simp; omega)
          | simp_all
    · rw [if_neg c] at e
      cases e
  · cases e
def oExtend : T → List T → Option (T × T)
  | .lst xs, [.d (.list ds)] => if xs.length + ds.length ≤ lim then some (.lst (xs ++ ds.map T.d), .d .none) else none
  | _, _ => none
theorem Ok.growAll {B : Bs} {σ : St} {H : Hp} {ρ : Rho} {ws : List V} {ts : List T} {y x : V} {xs : List T} {ds : List PyData} (h : Ok K m B σ H ρ (y :: x :: ws) (.d (.list ds) :: .lst xs :: ts)) :
    ∃ a b vs zs, x = .ref a ∧ y = .ref b ∧ H a = some (.lst vs) ∧ H b = some (.lst zs) ∧ vs.length = xs.length ∧ zs.length = ds.length ∧ Ok K m B σ (upd H a (.lst (vs ++ zs))) ρ (.ref a :: ws) (.lst (xs ++ ds.map T.d) :: ts) := by
  obtain ⟨I, Fr, Fw, s, r, w, km⟩ := h
  obtain ⟨b, zs, rfl, hb, dd⟩ := lst_items w
  cases w with
  | cons a0 w =>
    cases a0 with
    | d a0 =>
      cases w with
      | cons a1 w =>
        rename_i F1 F2
        cases a1 with
        | lst hp it =>
          rename_i p vs F3
          have mem : p ∈ Fr ++ ([] ++ (p :: F3 ++ F2)) := by simp
          have nd := s.nd
          have other : ∀ q ∈ Fr ++ (F3 ++ F2), q ≠ p := fun q z e => by
            subst e
            have : List.Perm (Fr ++ ([] ++ (q :: F3 ++ F2))) (q :: (Fr ++ (F3 ++ F2))) := List.perm_middle
            exact (List.nodup_cons.mp (this.nodup_iff.mp nd)).1 z
          have fx : ∀ q ∈ Fr ++ (F3 ++ F2), (upd H p (.lst (vs ++ zs))) q = H q := fun q z => upd_ne (other q z)
          obtain ⟨E, q1, q2⟩ := RepTs.append (it.mono (Same.refl _) fun q z => fx q (by simp [z])) (RepTs.ofD dd (H := upd H p (.lst (vs ++ zs))))
          rw [List.append_nil] at q2
          subst q2
          exact ⟨p, b, vs, zs, rfl, rfl, hp, s.sub _ _ hb, it.len, dd.len, I, Fr, (p :: E) ++ F2, (s.write (o := .lst (vs ++ zs)) mem), r.mono (Same.refl _) fun q z => fx q (by simp [z]), .cons (.lst upd_same q1) (w.mono (Same.refl _) fun q z => fx q (by simp [z])), km⟩
theorem om_extend : OwnM K m rExtend oExtend := fun B σ H ρ ws ts x ys t us t1 v Q hl ok e q => by
  unfold oExtend at e
  split at e
  · obtain ⟨h1, e⟩ := reqs e
    cases e
    obtain ⟨y, rfl⟩ := one_of hl
    obtain ⟨a, b, vs, zs, rfl, rfl, ha, hb, l1, l2, ok2⟩ := Ok.growAll (ws := ws) (ts := ts) ok
    exact ⟨a, b, vs, zs, rfl, rfl, ha, hb, by rw [l1, l2]; exact lim_le h1, q _ _ ok2.non⟩
  · cases e
end

/-! ### own[k], own[k] = v -/
def tItem : T → T → Option T
  | .lst xs, .d (.int k) => match atI xs k with
    | some (.d x) => some (.d x)
    | _ => none
  | .d x, .d y => (pIx x y).map T.d
  | _, _ => none
def dreadO (i : Nat) (g : T → Option T) : M T := fun ρ => match ρ[i]? with
  | some (some t) => (match g t with
    | some v => .ok v ρ
    | none => .no)
  | _ => .no
def dixO (i : Nat) (fb : M T) : M T := mbind (dhas i) fun _ => mbind fb fun k => dreadO i fun t => tItem t k
theorem atI_reps {K : PySem.W.Frag} {I H : Hp} {vs : List V} {ts : List T} {F : List Addr} {k : Int} {d : PyData} (h : RepTs K I H vs ts F) (q : atI ts k = some (.d d)) : ∃ v, atI vs k = some v ∧ Dr K I v d := by
  unfold atI at q ⊢
  rw [h.len]
  cases p : ixN ts.length k with
  | none => rw [p] at q; cases q
  | some j =>
    rw [p] at q
    obtain ⟨v, G, E, h1, h2, _, _⟩ := h.pick q
    cases h2 with
    | d h2 => exact ⟨v, h1, h2⟩
section
variable {X : Cx} {w : Wd} {b : Expr} {fb : M T} {p pos : Pos} {x : Str}
theorem set_get {ρ : Rho} {i : Nat} {t : T} (e : ρ[i]? = some (some t)) : (ρ.set i none).set i (some t) = ρ := by
  rw [List.set_set]
  apply List.ext_getElem?
  intro j
  by_cases z : i = j
  · subst z
    rw [List.getElem?_set_self (List.getElem?_eq_some_iff.mp e).1, e]
  · rw [List.getElem?_set_ne z]
theorem dread_of {K : PySem.W.Frag} {w : Wd} {B : Bs} {ρ : Rho} {i : Nat} {g : T → Option T} {P : T → Rho → Prop} (q : PostG K w B (dreadO i g ρ) P) : ∃ t v, ρ[i]? = some (some t) ∧ g t = some v ∧ P v ρ := by
  unfold dreadO at q
  cases e : ρ[i]? with
  | none => rw [e] at q; exact q.elim
  | some o =>
    cases o with
    | none => rw [e] at q; exact q.elim
    | some u =>
      rw [e] at q
      simp only at q
      cases e1 : g u with
      | none => rw [e1] at q; exact q.elim
      | some v => rw [e1] at q; exact ⟨u, v, rfl, e1, q⟩
theorem den_ixO {K : PySem.W.Frag} {i : Nat} {tb : TE} (d : DenE K w tb fb) : DenE K w (tOp (rIx K) (tVar i) tb) (dixO i fb) := fun B σ H ρ ws ts Q ok q => by
  obtain ⟨⟨v, hv⟩, q⟩ := dhas_of ok q.bind
  refine ⟨v, hv, ?_⟩
  refine d B σ H ρ ws ts _ ok (PostG.mono (PostG.bind q) fun k ρ1 p1 y H1 ok1 => ?_)
  obtain ⟨t, z, e1, e2, p2⟩ := dread_of p1
  obtain ⟨v', h1, ok2⟩ := ok1.take e1
  have ev : v' = v := by
    rw [hv] at h1
    exact (Option.some.inj (Option.some.inj h1)).symm
  subst ev
  unfold tItem at e2
  split at e2
  · rename_i xs k
    cases e3 : atI xs k with
    | none => rw [e3] at e2; cases e2
    | some t0 =>
      cases t0 with
      | d d0 =>
        rw [e3] at e2
        cases e2
        have hy := Ok.topInt ok1
        subst hy
        obtain ⟨I, Fr, Fw, s, r, wz, km⟩ := id ok2
        cases wz with
        | cons a b =>
          cases a with
          | lst hp it =>
            obtain ⟨z, hz, dz⟩ := atI_reps it e3
            refine .inl ⟨_, _, k, z, rfl, rfl, SqL.of hp, hz, p2 _ _ ?_⟩
            rename_i pa vsa Fa
            have ok3 : Ok K w.m B σ H1 (ρ1.set i none) (V.ref pa :: z :: ws) (.lst xs :: .d d0 :: ts) := by
              cases b with
              | cons b1 b2 => exact ⟨I, Fr, _, s.less (fun a m => by
                  rcases List.mem_append.mp m with m | m
                  · exact List.mem_append_left _ m
                  · rcases List.mem_append.mp m with m | m
                    · exact List.mem_append_right _ (List.mem_append_left _ m)
                    · exact List.mem_append_right _ (List.mem_append_right _ (List.mem_append_right _ m)))
                    ((List.Sublist.append (List.Sublist.refl _) (List.Sublist.append (List.Sublist.refl _) (List.sublist_append_right _ _))).nodup s.nd), r, .cons (.lst hp it) (.cons (F := []) (.d dz) b2), km⟩
            have ok4 := ok3.back (i := i) h1
            rw [set_get e1] at ok4
            exact ok4
      | _ => rw [e3] at e2; cases e2
  · rename_i d0 y0
    cases e3 : pIx d0 y0 with
    | none => rw [e3] at e2; cases e2
    | some z0 =>
      rw [e3] at e2
      cases e2
      have ok3 : Ok K w.m B σ H1 ρ1 (y :: v' :: ws) (.d y0 :: .d d0 :: ts) := by
        obtain ⟨v2, g1, g2⟩ := ok1.read e1
        have : v2 = v' := by
          rw [hv] at g1
          exact (Option.some.inj (Option.some.inj g1)).symm
        subst this
        exact g2.swap
      exact od_ix (m := w.m) B σ H1 ρ1 ws ts v' y (.d d0) (.d y0) (.d z0) Q ok3 (by show Option.map T.d (pIx d0 y0) = _; rw [e3]; rfl) fun z' H' ok5 => p2 z' H' ok5
  · cases e2
theorem de_ixO (i : Nat) (hb : DE X w b fb) (hs : PlainIx b := by exact fun _ _ => rfl) (hN : X.N[i]? = some x := by rfl) (hv : Vis X.env.scope x := by first | exact Or.inl rfl | exact Or.inr (Or.inl rfl) | exact Or.inr (Or.inr rfl)) (hd : (x == ("__debug__" : Str)) = false := by decide)
    (hcd : (x == ("__classdict__" : Str)) = false := by decide) : DE X w (.Subscript (.Name x p) b pos) (dixO i fb) := by
  obtain ⟨tb, pb, db⟩ := hb.ex
  exact de_v (pe_ix ix_seq (pe_var hN hv hd hcd) pb hs) (den_ixO db)
def tPut : T → T → T → Option T
  | .lst xs, .d (.int k), v => (ixN xs.length k).map fun j => .lst (xs.set j v)
  | _, _, _ => none
theorem RepTs.setAt {K : PySem.W.Frag} {I H : Hp} : ∀ {vs : List V} {ts : List T} {F G : List Addr} {k : Nat} {v : V} {t : T}, RepTs K I H vs ts F → RepT K I H v t G → ∃ E R, RepTs K I H (vs.set k v) (ts.set k t) E ∧ List.Perm (E ++ R) (F ++ G)
  | _, _, _, G, k, v, t, .nil, a => ⟨[], G, .nil, List.Perm.refl _⟩
  | _, _, _, G, 0, v, t, .cons (F := F1) (G := F2) b r, a => ⟨G ++ F2, F1, .cons a r, by
      rw [List.append_assoc, List.append_assoc]
      exact (List.perm_append_comm (l₁ := G) (l₂ := F2 ++ F1)).trans (List.Perm.append_right _ List.perm_append_comm) |>.trans (by rw [List.append_assoc])⟩
  | _, _, _, G, k + 1, v, t, .cons (F := F1) b r, a => by
    obtain ⟨E, R, h1, h2⟩ := RepTs.setAt (k := k) r a
    refine ⟨F1 ++ E, R, .cons b h1, ?_⟩
    rw [List.append_assoc, List.append_assoc]
    exact List.Perm.append_left _ h2
/-- what stands below is stored into the own list on top -/
theorem Ok.putAt {K : PySem.W.Frag} {m : List Bool} {B : Bs} {σ : St} {H : Hp} {ρ : Rho} {ws : List V} {ts : List T} {x v : V} {xs : List T} {t : T} (h : Ok K m B σ H ρ (x :: v :: ws) (.lst xs :: t :: ts)) :
    ∃ a vs, x = .ref a ∧ H a = some (.lst vs) ∧ vs.length = xs.length ∧ ∀ j, Ok K m B σ (upd H a (.lst (vs.set j v))) ρ (.ref a :: ws) (.lst (xs.set j t) :: ts) := by
  obtain ⟨I, Fr, Fw, s, r, w, km⟩ := h
  cases w with
  | cons a b =>
    rename_i F1 F2
    cases a with
    | lst hp it =>
      rename_i p vs F3
      cases b with
      | cons c d =>
        rename_i F4 F5
        refine ⟨p, vs, rfl, hp, it.len, fun j => ?_⟩
        have mem : p ∈ Fr ++ (p :: F3 ++ (F4 ++ F5)) := by simp
        have nd := s.nd
        have other : ∀ q ∈ Fr ++ (F3 ++ (F4 ++ F5)), q ≠ p := fun q z e => by
          subst e
          have : List.Perm (Fr ++ (q :: F3 ++ (F4 ++ F5))) (q :: (Fr ++ (F3 ++ (F4 ++ F5)))) := List.perm_middle
          exact (List.nodup_cons.mp (this.nodup_iff.mp nd)).1 z
        have fx : ∀ q ∈ Fr ++ (F3 ++ (F4 ++ F5)), (upd H p (.lst (vs.set j v))) q = H q := fun q z => upd_ne (other q z)
        obtain ⟨E, R, h1, h2⟩ := RepTs.setAt (k := j) (it.mono (Same.refl _) fun q z => fx q (by simp [z])) (c.mono (Same.refl _) fun q z => fx q (by simp [z]))
        refine ⟨I, Fr, (p :: E) ++ F5, (s.write (o := .lst (vs.set j v)) mem).sub' (R := R) ?_, r.mono (Same.refl _) fun q z => fx q (by simp [z]), .cons (.lst upd_same h1) (d.mono (Same.refl _) fun q z => fx q (by simp [z])), km⟩
        rw [List.append_assoc]
        refine List.Perm.append_left _ ?_
        rw [List.cons_append, List.cons_append, List.cons_append]
        refine List.Perm.cons _ ?_
        rw [← List.append_assoc (as := F3)]
        refine List.Perm.trans ?_ (List.Perm.append_right F5 h2)
        rw [List.append_assoc, List.append_assoc]
        exact List.Perm.append_left _ List.perm_append_comm
def dput (i : Nat) (k v : T) : M Unit := fun ρ => match ρ[i]? with
  | some (some t) => (match tPut t k v with
    | some t1 => .ok () (ρ.set i (some t1))
    | none => .no)
  | _ => .no
def gput (i : Nat) (fk : M T) (v : T) : M Unit := mbind (dhas i) fun _ => mbind fk fun k => dput i k v
theorem dg_sub (i : Nat) {k : Expr} {fk : M T} (hk : DE X w k fk) (hN : X.N[i]? = some x := by rfl) (hv : Vis X.env.scope x := by first | exact Or.inl rfl | exact Or.inr (Or.inl rfl) | exact Or.inr (Or.inr rfl)) (hd : (x == ("__debug__" : Str)) = false := by decide)
    (hcd : (x == ("__classdict__" : Str)) = false := by decide)
    (ha : ∀ v, assign (.Subscript (.Name x p) k pos) X.env v = (do
      let ov ← holding [v] (eval (.Name x p) X.env)
      let iv ← holding [v, ov] (eval k X.env)
      standAt pos
      holding [v, ov, iv] (setItem ov iv v)
      release [v, ov, iv] []) := by intro _; rfl) : DG X w (.Subscript (.Name x p) k pos) [] (gput i fk) := by
  obtain ⟨tk, pk, dk⟩ := hk.ex
  refine ⟨_, pg_sub (pe_var hN hv hd hcd) pk set_list ha, fun B σ H ρ ws ts y v Q ok q => ?_⟩
  obtain ⟨⟨ov, hov⟩, q⟩ := dhas_of ok q.bind
  refine ⟨ov, hov, ?_⟩
  refine dk B σ H ρ _ _ _ ok (PostG.mono (PostG.bind q) fun kk ρ1 p1 ky H1 ok1 => ?_)
  unfold dput at p1
  cases e : ρ1[i]? with
  | none => rw [e] at p1; exact p1.elim
  | some o =>
    cases o with
    | none => rw [e] at p1; exact p1.elim
    | some t =>
      rw [e] at p1
      simp only at p1
      cases e1 : tPut t kk v with
      | none => rw [e1] at p1; exact p1.elim
      | some t1 =>
        rw [e1] at p1
        unfold tPut at e1
        split at e1
        · rename_i xs k
          cases e2 : ixN xs.length k with
          | none => rw [e2] at e1; cases e1
          | some j =>
            rw [e2] at e1
            cases e1
            have hy := ok1.topInt
            subst hy
            obtain ⟨v', h1, ok2⟩ := ok1.pop.take e
            have ev : v' = ov := by
              rw [hov] at h1
              exact (Option.some.inj (Option.some.inj h1)).symm
            subst ev
            obtain ⟨a, vs, rfl, ha, hl, ok3⟩ := ok2.putAt
            refine ⟨a, vs, k, j, rfl, rfl, ha, by rw [hl]; exact e2, ?_⟩
            have ok4 := (ok3 j).back (i := i) h1
            rw [List.set_set] at ok4
            exact (show ∀ σ' H', SameOut [] σ σ' → Ok X.K w.m B σ' H' (ρ1.set i (some (.lst (xs.set j v)))) ws ts → Q σ' H' from p1) σ _ ⟨rfl, fun _ _ => rfl⟩ ok4
        · cases e1
/-- target = e -/
def sasg (f : M T) (g : T → M Unit) : M Fl := mbind f fun v => mbind (g v) fun _ => mret .nx
theorem ds_asg {tg e : Expr} {f : M T} {S : List Nat} {g : T → M Unit} (he : DE X w e f) (hg : DG X w tg S g) (hs : swapsWithSole [tg] e pos.line X.env = pure false := by rfl) (hw : swappedStores [tg] e X.env = pure none := by rfl) (h1 : (assignEach [tg] X.env).map (·.2) = [assign tg X.env] := by rfl) : DS X w (.Assign [tg] e pos) (sasg f g) := by
  obtain ⟨t, p, d⟩ := he.ex
  obtain ⟨t', p', d'⟩ := hg.ex
  refine ⟨_, ps_asg p p' hs hw h1, fun B σ H ρ ws ts D ok q => ?_⟩
  refine d B σ H ρ ws ts _ ok (q.bind.mono fun v ρ1 p1 x H1 ok1 => ?_)
  exact d' B σ H1 ρ1 ws ts x v _ ok1 (PostG.mono (PostG.bind p1) fun _ ρ2 p2 σ2 H2 _ ok2 => p2 σ2 H2 ok2)

/-! ### targets a, b -/
def mgs : List (T → M Unit) → List PyData → M Unit
  | [], _ => mret ()
  | g :: gs, d :: ds => mbind (g (.d d)) fun _ => mgs gs ds
  | _ :: _, [] => mno
def mtup (gs : List (T → M Unit)) : T → M Unit
  | .d (.tuple ds) => if ds.length = gs.length then mgs gs ds else mno
  | _ => mno
structure DGs (X : Cx) (w : Wd) (es : List Expr) (S : List Nat) (gs : List (T → M Unit)) : Prop where
  ex : ∃ t, PGs X es t ∧ ∀ B σ H ρ ws ts xs ds (Q : St → Hp → Prop), xs.length = ds.length → ds.length = gs.length → Ok X.K w.m B σ H ρ (xs ++ ws) ((ds : List PyData).map T.d ++ ts) →
    PostG X.K w B (mgs gs ds ρ) (fun _ ρ' => ∀ σ' H', SameOut S σ σ' → Ok X.K w.m B σ' H' ρ' ws ts → Q σ' H') → t xs σ H Q
theorem dgs_nil : DGs X w [] [] [] := ⟨_, pgs_nil, fun B σ H ρ ws ts xs ds Q l1 l2 ok q => by
  have : ds = [] := List.eq_nil_of_length_eq_zero l2
  subst this
  have : xs = [] := List.eq_nil_of_length_eq_zero l1
  subst this
  exact ⟨rfl, (show ∀ σ' H', SameOut [] σ σ' → Ok X.K w.m B σ' H' ρ ws ts → Q σ' H' from q) σ H ⟨rfl, fun _ _ => rfl⟩ ok⟩⟩
theorem SameOut.trans {S S' : List Nat} {σ σ1 σ2 : St} (h : SameOut S σ σ1) (h' : SameOut S' σ1 σ2) : SameOut (S ++ S') σ σ2 :=
  ⟨h'.1.trans h.1, fun j hj => (h'.2 j fun m => hj (List.mem_append_right _ m)).trans (h.2 j fun m => hj (List.mem_append_left _ m))⟩
theorem dgs_cons {e : Expr} {es : List Expr} {S S' : List Nat} {g : T → M Unit} {gs : List (T → M Unit)} (h : DG X w e S g) (h' : DGs X w es S' gs) (hs : (assignEach (e :: es) X.env).map (·.2) = assign e X.env :: (assignEach es X.env).map (·.2) := by rfl) : DGs X w (e :: es) (S ++ S') (g :: gs) := by
  obtain ⟨t, p, d⟩ := h.ex
  obtain ⟨t', p', d'⟩ := h'.ex
  refine ⟨_, pgs_cons p p' hs, fun B σ H ρ ws ts xs ds Q l1 l2 ok q => ?_⟩
  cases ds with
  | nil => cases l2
  | cons d0 ds =>
    cases xs with
    | nil => cases l1
    | cons x xs =>
      refine ⟨x, xs, rfl, ?_⟩
      refine d B σ H ρ (xs ++ ws) (ds.map T.d ++ ts) x (.d d0) _ ok (PostG.mono (PostG.bind q) fun _ ρ1 p1 σ1 H1 so ok1 => ?_)
      exact d' B σ1 H1 ρ1 ws ts xs ds Q (by simpa using l1) (by simpa using l2) ok1 (PostG.mono p1 fun _ ρ2 p2 σ2 H2 so2 ok2 => p2 σ2 H2 (so.trans so2) ok2)
theorem dg_tup {es : List Expr} {k n : Nat} {S : List Nat} {gs : List (T → M Unit)} (hc : X.calm = true) (h : DGs X w es S gs) (hn : (assignEach es X.env).length = n := by rfl) (hgn : gs.length = n := by rfl) (hst : (assignEach es X.env).findIdx? (·.1) = none := by rfl) : DG X w (.Tuple es k pos) S (mtup gs) := by
  obtain ⟨t, p, d⟩ := h.ex
  refine ⟨_, pg_tup hc p hn hst, fun B σ H ρ ws ts x v Q ok q => ?_⟩
  unfold mtup at q
  split at q
  · rename_i ds
    by_cases hl : ds.length = gs.length
    · rw [if_pos hl] at q
      obtain ⟨I, Fr, Fw, s, r, wz, km⟩ := id ok
      obtain ⟨a, vs, rfl, ha, dd⟩ := tup_items wz
      refine ⟨a, vs, rfl, st_mono s.sub ha, by rw [dd.len, hl, hgn], ?_⟩
      refine d B σ H ρ ws ts vs ds Q dd.len hl ?_ q
      obtain ⟨I', Fr', Fw', s', r', w', km'⟩ := ok
      cases wz with
      | cons a1 b1 =>
        rename_i F1 F2
        obtain ⟨E, q1, q2⟩ := RepTs.append (RepTs.ofD dd (H := H)) b1
        subst q2
        refine ⟨I, Fr, _, s.less (fun a m => ?_) ?_, r, q1, km⟩
        · rcases List.mem_append.mp m with m | m
          · exact List.mem_append_left _ m
          · exact List.mem_append_right _ (List.mem_append_right _ m)
        · exact (List.Sublist.append (List.Sublist.refl _) (List.sublist_append_right _ _)).nodup s.nd
    · rw [if_neg hl] at q
      exact q.elim
  · exact q.elim
end
end DL
end
section
set_option Elab.async false
set_option linter.all false
set_option maxRecDepth 100000
set_option maxHeartbeats 4000000
/-! DLB: the law's own call. -/
namespace DL
open PySem L2 PySem.Spec PyProof.Rows

/-- what the law's def computes of a script is True -/
def Good (g : Fn) (ns : List Int) : Prop := ∃ ρ, g [.scr ns] = .ok (.d (.bool true)) ρ
section
variable {P : Program} {w : World} {K : PySem.W.Frag} {mg mb : Str → Option Value} {k : Nat} {fa a : Addr} {fd : FuncData} {x : Str} {g : Fn} {s : Shared} {us : List Value} {ns : List Int}
abbrev Wish (s : Shared) : Result → Shared → Prop := fun r t => r = .ok (.ret (.bool true)) ∧ OldK s.heap t.heap ∧ t.os = s.os ∧ AllBare t.gens
theorem fnd_script {H : Hp} (hS : SqL K H a (ns.map V.int)) (hgood : Good g ns) : FnD K mg 1 g [.ref a] H (fun v _ => v = .bl true) (fun _ _ _ => False) := by
  obtain ⟨ρ, e⟩ := hgood
  refine ⟨rfl, H, [], [.scr ns], ⟨Same.refl _, Same.refl _, fun b o _ z => z, fun b o z => .inl z, fun b z => (nomatch z), fun b z => (nomatch z), fun b z => (nomatch z), List.nodup_nil⟩, .cons (F := []) (.scr hS) .nil, ?_⟩
  rw [e]
  exact fun y H' ok => Ok.topBl ok
/-- the call, from an abstract heap that has at most the script -/
theorem enter_at (FK : K.In s.heap) (gl : s.heap.Ns mainGlobals mg) (bl : s.heap.Ns builtinsNs mb) (bb : ∀ y : Str, y ≠ "__name__" → mb y = bootBuiltins y) (nl : s.heap.NoLimit) (ng : s.gens = #[])
    (at_ : s.heap.get? a = some { cls := .type "list", data := .seq us.toArray }) (room : Room k callerA)
    (F : ∀ base : Heap, K.In base → base.Ns mainGlobals mg → FnG P w K mg base k fa fd [x] (FnD K mg 1 g)) (bd : ∀ (t : Shared) (u : Value), BindsTo t fd ⟨[u], []⟩ [(x, u)]) (hgood : Good g ns)
    {H : Hp} (only : Only H) (hS : SqL K H a (ns.map V.int)) (hok : HOk P w H s.heap) (hA : ∀ b, H b ≠ none → b = a) (hKa : H a ≠ none → K.lookup a = none) :
    codeAny (model P w) callerA (.call (.ref fa) ⟨[.ref a], []⟩) (Wish s) s := by
  have free : ∀ {b : Addr} {o : Obj}, s.heap.get? b = some o → b ≠ a → (hidT s.heap H).get? b = some o := fun {b o} e n => hidT_get e (by
    cases q : H b with
    | none => rfl
    | some u => exact absurd (hA b (by rw [q]; intro z; cases z)) n)
  have ns_of : ∀ {b : Addr} {mp : Str → Option Value}, s.heap.Ns b mp → (hidT s.heap H).Ns b mp := fun {b mp} z => by
    obtain ⟨o, es, ep, e, d, r⟩ := z
    refine ⟨o, es, ep, free e fun q => ?_, d, r⟩
    subst q
    rw [at_] at e
    cases e
    exact nomatch (show Data.seq us.toArray _ = Data.dict es ep from d)
  have kin' : K.In (hidT s.heap H) := fun b o e => by
    cases q : H b with
    | none => exact hidT_get (FK b o e) q
    | some u =>
      have := hA b (by rw [q]; intro z; cases z)
      subst this
      have z := hKa (by rw [q]; intro z; cases z)
      rw [z] at e
      cases e
  obtain ⟨mc, l1, l2⟩ := nl
  have env : Env0 P w K mg (hidT s.heap H) callerA [] s H := ⟨rfl, ⟨kin', ns_of gl, ⟨mb, ns_of bl, bb⟩, ⟨mc, ns_of l1, l2⟩⟩, fun b o e => of_hidT e, Nat.le_of_eq (hidT_size _ _), trivial, fun b hb => (nomatch (show b ∈ ([] : List Addr) from hb)), hok, .of_eq ng⟩
  have run := (F _ kin' (ns_of gl)).go callerA [] s H ⟨[.ref a], []⟩ [.ref a] [.ref a] (fun v _ => v = .bl true) (fun _ _ _ => False) rfl room env (bd s (.ref a)) (.cons rfl .nil) (fnd_script hS hgood)
  refine codeAny_mono run fun r t h => ?_
  match r, h with
  | .error er, h =>
    have h : L2.CX P w [] H s (fun _ _ _ => False) er t := h
    obtain ⟨_, _, _, _, _, _, _, _, _, _, _, _, z⟩ := h
    exact (show False from z).elim
  | .ok .next, h => exact (show False from h).elim
  | .ok .brk, h => exact (show False from h).elim
  | .ok .cont, h => exact (show False from h).elim
  | .ok (.ret u), h =>
    obtain ⟨v, H', hos, bare, un, ok', ru, q⟩ := h
    have q : v = .bl true := q
    subst q
    cases (show u = Value.bool true from ru)
    refine ⟨rfl, OldK.of_keep fun b o e => ?_, hos, bare⟩
    cases q : H b with
    | none => exact un.keep b o e q (fun z => (nomatch (show b ∈ ([] : List Addr) from z))) (by simp)
    | some u =>
      rcases only b with z | ⟨_, zs, z⟩
      · rw [q] at z
        cases z
      · obtain ⟨e1, _⟩ := hok b _ z
        rw [e] at e1
        cases e1
        exact (ok' b _ (un.frzs b _ _ z)).1
/-- .. of any script -/
theorem enterG (FK : K.In s.heap) (gl : s.heap.Ns mainGlobals mg) (bl : s.heap.Ns builtinsNs mb) (bb : ∀ y : Str, y ≠ "__name__" → mb y = bootBuiltins y) (nl : s.heap.NoLimit) (ng : s.gens = #[])
    (at_ : s.heap.get? a = some { cls := .type "list", data := .seq us.toArray }) (hi : IntsAre us ns) (hl : ns.length ≤ sizeLine) (room : Room k callerA)
    (F : ∀ base : Heap, K.In base → base.Ns mainGlobals mg → FnG P w K mg base k fa fd [x] (FnD K mg 1 g)) (bd : ∀ (t : Shared) (u : Value), BindsTo t fd ⟨[u], []⟩ [(x, u)]) (hgood : Good g ns) :
    codeAny (model P w) callerA (.call (.ref fa) ⟨[.ref a], []⟩) (Wish s) s := by
  have rv := vals_ints hi
  by_cases hk : K.lookup a = none
  · let H : Hp := fun b => if b = a then some (.frz { cls := .type "list", data := .seq us.toArray } (.lst (ns.map V.int))) else none
    have h1 : H a = some (.frz { cls := .type "list", data := .seq us.toArray } (.lst (ns.map V.int))) := if_pos rfl
    have h2 : ∀ b, b ≠ a → H b = none := fun b n => if_neg n
    refine enter_at FK gl bl bb nl ng at_ room F bd hgood (H := H) (fun b => ?_) (.inl (.inr ⟨_, h1⟩)) (fun b u z => ?_) (fun b z => Classical.byContradiction fun n => z (h2 b n)) fun _ => hk
    · by_cases q : b = a
      · subst q
        exact .inr ⟨_, _, h1⟩
      · exact .inl (h2 b q)
    · by_cases q : b = a
      · subst q
        rw [h1] at z
        cases z
        exact ⟨at_, by rw [List.length_map]; exact hl, us, _, rv, at_⟩
      · rw [h2 b q] at z
        cases z
  · obtain ⟨o, e⟩ := Option.ne_none_iff_exists'.mp hk
    have z := FK a o e
    rw [at_] at z
    cases z
    refine enter_at FK gl bl bb nl ng at_ room F bd hgood (H := fun _ => none) (fun _ => .inl rfl) (.inr ⟨_, us.toArray, _, e, rfl, rfl, rfl, ?_, ?_⟩) (fun b u q => ?_) (fun b q => (q rfl).elim) fun q => (q rfl).elim
    · rw [List.size_toArray, hi.length]
      exact hl
    · simpa using rv
    · exact nomatch (show (none : Option HO) = some u from q)
end
/-- the goal behind k_head -/
theorem walkG {l : PySem.W.OpenLaw} {n k : Nat} {q : Program} {loose : List Str} {XP : (Str → Option Value) → Heap → Prop} {YP : World → Heap → Prop} {d : DefRec} {K : Params → PySem.W.Frag} {x : Str} {g : Fn}
    (hn : l.most = some n) (hn2 : n ≤ sizeLine) (hdf : d.params.defaults = []) (room : Room k callerA) (hY : ∀ (w : World) (h : Heap), YP w h → (K w.params).In h)
    (F : ∀ (w : World) (mg : Str → Option Value) (fa : Addr) (h : Heap), (K w.params).In h → h.Ns mainGlobals mg → mg d.name = some (.ref fa) →
      ∃ fd : FuncData, (∀ (s : Shared) (u : Value), BindsTo s fd ⟨[u], []⟩ [(x, u)]) ∧ ∀ base : Heap, (K w.params).In base → base.Ns mainGlobals mg → FnG l.prog w (K w.params) mg base k fa fd [x] (FnD (K w.params) mg 1 g))
    (law : ∀ ns : List Int, ns.length ≤ n → (∀ z ∈ ns, Builtin.Int.intBits z ≤ 1048576) → Good g ns) : PySem.W.WalkO q loose XP YP l.row.toRowW d [] (fun f vs => PySem.call f vs) := by
  refine Att.attach_callB hn hdf fun w s₀ s mg mb fa o pm cd doc a us ns G Y ho hd hcd hmg hobj hi hlen hbits hg => ?_
  obtain ⟨fd, hb, hF⟩ := F w mg fa _ (hY w _ Y) G.T.g hmg
  exact enterG (hY w _ Y) G.T.g G.T.b G.T.builtins G.T.nolimit hg hobj hi (Nat.le_trans hlen hn2) room hF hb (law ns hlen hbits)
end DL
end
section
set_option Elab.async false
set_option linter.all false
set_option maxRecDepth 100000
set_option maxHeartbeats 4000000
/-! DLC: the module's written dicts. -/
namespace DL
open PySem L2

/-! ### tuple(d), d a dict of the text -/
section
variable {prog : Program} {w : World} {A : Around} {E : Value → Shared → Prop} {s : Shared} {o : Obj} {es : Array DictEntry} {ep : Nat} {d : Addr}
theorem new_tuple_raw {Q₁ : Value → Shared → Prop} (hh : A.handled = none) (lo : (d == sysModules) = false) (ho : s.heap.get? d = some o) (hx : o.ExactDict) (hd : o.data = .dict es ep) (hn : es.size ≤ sizeLine)
    (h : ∀ (hp : Heap) (tk : Nat) (acc : Array Value), (∀ b u, s.heap.get? b = some u → hp.get? b = some u) → acc.toList = es.toList.map (·.key) → Q₁ (.ref hp.objs.size) { s with heap := hp.push { cls := .type "tuple", data := .seq acc }, toks := tk }) :
    codeAny (model prog w) A (.call (.builtin "tuple.__new__") ⟨[.type "tuple", .ref d], []⟩) (wants Q₁ E) s := by
  refine codeAny_of_tree ?_
  show wpAny _ A.in1 (checkBuiltinCall "tuple.__new__" ⟨[.type "tuple", .ref d], []⟩ >>= fun _ => again (.builtin "tuple.__new__" ⟨[.type "tuple", .ref d], []⟩)) _ _ s
  refine wpAny_bind (wpAny_of_eq (PySem.F.newCall_tuple_1 _) (wpAny_pure ⟨plainId_quiet PySem.F.plain_tuple_new _, codeAny_builtin PySem.F.entry_tuple_new ?_⟩))
  rw [Around.under_plainId PySem.F.plain_tuple_new _]
  have t1 := sub_tuple_self
  have t2 := init_tuple_lookup
  have t3 := madeHere_tuple
  have t4 : s.TypeIs (.ref d) "dict" := ⟨o, ho, hx.1⟩
  have t5 : A.in1.handled = none := hh
  wp_walk using wpAny_typeOf t4, PySem.W.kdu_collect (A := A.in1) (kdl_raw lo hx hd) t5 ho hn
  intro hp tk acc hk hacc
  show wpAny _ _ (Builtin.Tuple.tupleExact acc.toList.toArray >>= fun v => ret v) _ _ _
  unfold Builtin.Tuple.tupleExact
  have e : acc.toList.toArray = acc := by simp
  rw [e]
  refine wpAny_bind (wpAny_newObj_type (wpAny_pure (h hp tk acc hk ?_)) (by show acc.size ≤ sizeLine; rw [hacc.1]; exact hn))
  apply List.ext_getElem?
  intro i
  rw [List.getElem?_map]
  by_cases hi : i < es.size
  · have hi' : i < acc.size := by rw [hacc.1]; exact hi
    have e1 : acc.toList[i]? = some acc[i] := by simp [hi']
    obtain ⟨en, g1, g2⟩ := hacc.2 i acc[i] (by simp [hi'])
    have e2 : es.toList[i]? = some en := by rw [Array.getElem?_toList]; exact g1
    rw [e1, e2, g2]
    rfl
  · have h1 : acc.toList[i]? = none := by simp [hacc.1]; omega
    have h2 : es.toList[i]? = none := by simp; omega
    rw [h1, h2]
    rfl
end
/-- the keys of a dict of the text, as texts -/
def rKeysT (K : PySem.W.Frag) : List V → Hp → VK → Prop := fun xs H Q => ∃ (d : Addr) (es : Array DictEntry) (n : Nat) (ks : List Str), xs = [.ref d] ∧ K.lookup d = some ⟨.type "dict", none, .dict es n, #[]⟩ ∧ (d == sysModules) = false ∧ es.size ≤ sizeLine ∧
  Vals (ks.map V.str) (es.toList.map (·.key)) ∧ ∀ p, H p = none → Q (.ref p) (upd H p (.tup (ks.map V.str)))
theorem cr_keysT {X : Cx} (hc : X.calm = true) : CallR X (.type "tuple") (rKeysT X.K) := by
  intro pins s σ H xs us Q I r h
  obtain ⟨d, es, n, ks, rfl, hk, lo, hz, hv, q⟩ := h
  obtain rfl := Vals.ref1 r
  have ho := I.kIn d _ hk
  refine callType_codes (Q₁ := fun obj t => t.TypeIs obj "tuple" ∧ EP X pins σ Q obj t) PySem.F.called_tuple (PySem.F.typeCall_tuple_1 _) PySem.F.entry_object_init
    (new_tuple_raw (A := X.A.in1) (I.ok.hd hc) lo ho ⟨rfl, rfl, rfl⟩ rfl hz fun hp tk acc keep hacc => ⟨⟨_, Heap.get?_push_size _ rfl, rfl⟩, ?_⟩) fun obj t ht => ?_
  · have I1 : Inv X pins σ H { s with heap := hp } := I.kept (t' := s.toks) keep
    have hv' : Vals (ks.map V.str) acc.toList := by rw [hacc]; exact hv
    refine ⟨.ref hp.objs.size, _, I1.laid (t' := tk) (o := .tup (ks.map V.str)) (fun b u e => Heap.get?_push_of_some _ e) (Nat.le_refl _) ?_, rfl, q _ (I1.hok.fresh (Nat.le_refl _))⟩
    refine ⟨?_, acc.toList, hv', ?_⟩
    · rw [hv'.length, hacc, List.length_map, Array.length_toList]
      exact hz
    · rw [Array.toArray_toList]
      exact PyProof.Rows.IsTup.new hp acc
  · exact ⟨ht.1, PySem.F.args_object_init_2 obj _, object_init_meets PySem.F.called_tuple.init.lookup PySem.F.called_tuple.made (by decide) X.prog X.w X.A.in1 _ t ⟨ht.1, rfl, ht.2⟩⟩

/-! ### a dict of the text by its table -/
def tlook (kvs : List (Str × T)) (z : Str) : Option T := (kvs.find? fun p => decide (p.1 = z)).map (·.2)
/-- the entries are the table's -/
inductive TabIs (K : PySem.W.Frag) : List DictEntry → List (Str × T) → Prop
  | nil : TabIs K [] []
  | cons {e : DictEntry} {es : List DictEntry} {z : Str} {t : T} {kvs : List (Str × T)} (k : Tok) (v : V) : e.key = .str z k → RelV v e.val → (∀ I H, RepT K I H v t []) → TabIs K es kvs → TabIs K (e :: es) ((z, t) :: kvs)
theorem TabIs.look {K : PySem.W.Frag} {z : Str} : ∀ {es : List DictEntry} {kvs : List (Str × T)}, TabIs K es kvs → (∀ t, tlook kvs z = some t → ∃ e v, es.find? (·.key.isStr z) = some e ∧ RelV v e.val ∧ ∀ I H, RepT K I H v t []) ∧ (tlook kvs z = none → es.find? (·.key.isStr z) = none) ∧ es.any (·.refKey) = false
  | _, _, .nil => ⟨fun t e => (nomatch e), fun _ => rfl, rfl⟩
  | _, _, .cons (e := en) (z := y) (t := u) k v h1 h2 h3 r => by
    obtain ⟨a, b, c⟩ := TabIs.look (z := z) r
    have hk : en.key.isStr z = decide (y = z) := by
      rw [h1]
      show (y == z) = _
      by_cases q : y = z
      · subst q
        simp
      · rw [decide_eq_false q]
        simpa using q
    by_cases q : y = z
    · have q1 : decide (y = z) = true := decide_eq_true q
      refine ⟨fun t e => ?_, fun e => ?_, ?_⟩
      · have : u = t := by
          simpa [tlook, List.find?_cons, q1] using e
        subst this
        exact ⟨en, v, by rw [List.find?_cons, hk, q1], h2, h3⟩
      · simp [tlook, List.find?_cons, q1] at e
      · rw [List.any_cons, c]
        simp [DictEntry.refKey, h1]
    · have q1 : decide (y = z) = false := decide_eq_false q
      refine ⟨fun t e => ?_, fun e => ?_, ?_⟩
      · obtain ⟨e', v', g1, g2, g3⟩ := a t (by simpa [tlook, List.find?_cons, q1] using e)
        exact ⟨e', v', by rw [List.find?_cons, hk, q1]; exact g1, g2, g3⟩
      · rw [List.find?_cons, hk, q1]
        exact b (by simpa [tlook, List.find?_cons, q1] using e)
      · rw [List.any_cons, c]
        simp [DictEntry.refKey, h1]
theorem TabIs.keys {K : PySem.W.Frag} : ∀ {es : List DictEntry} {kvs : List (Str × T)}, TabIs K es kvs → Vals ((kvs.map (·.1)).map V.str) (es.map (·.key))
  | _, _, .nil => .nil
  | _, _, .cons k v h1 h2 h3 r => .cons ⟨k, h1⟩ (TabIs.keys r)
/-- x names, in the module, the dict of that table -/
structure KTab (X : Cx) (x : Str) (kvs : List (Str × T)) : Prop where
  ex : ∃ (d : Addr) (es : Array DictEntry) (n : Nat), X.mg x = some (.ref d) ∧ KDict X.K X.w d es n ∧ TabIs X.K es.toList kvs ∧ es.size ≤ sizeLine
theorem ns_some {K : PySem.W.Frag} {w : World} {d : Addr} {es : Array DictEntry} {n : Nat} {kvs : List (Str × T)} {z : Str} {t : T} (D : KDict K w d es n) (T0 : TabIs K es.toList kvs) (h : tlook kvs z = some t) : ∃ u v, PySem.W.nsIn K d z = some (some u) ∧ RelV v u ∧ ∀ I H, RepT K I H v t [] := by
  obtain ⟨e, v, g1, g2, g3⟩ := (T0.look (z := z)).1 t h
  refine ⟨e.val, v, ?_, g2, g3⟩
  unfold PySem.W.nsIn
  rw [D.at_]
  simp only [g1]
theorem ns_none {K : PySem.W.Frag} {w : World} {d : Addr} {es : Array DictEntry} {n : Nat} {kvs : List (Str × T)} {z : Str} (D : KDict K w d es n) (T0 : TabIs K es.toList kvs) (h : tlook kvs z = none) : PySem.W.nsIn K d z = some none := by
  obtain ⟨_, g, c⟩ := T0.look (z := z)
  unfold PySem.W.nsIn
  rw [D.at_]
  simp only [g h, c]
  rfl
section
variable {X : Cx} {w : Wd} {x : Str} {kvs : List (Str × T)} {e : Expr} {fe : M T} {p p2 pos : Pos}
def gKin (kvs : List (Str × T)) (neg : Bool) : T → Option T
  | .d (.str z) => some (.d (.bool (if neg then !(tlook kvs z).isSome else (tlook kvs z).isSome)))
  | _ => none
def dkin (kvs : List (Str × T)) (neg : Bool) (fe : M T) : M T := mbind fe fun t => mopt (gKin kvs neg t)
theorem kin_val {K : PySem.W.Frag} {w : World} {d : Addr} {es : Array DictEntry} {n : Nat} {z : Str} (D : KDict K w d es n) (T0 : TabIs K es.toList kvs) : ∃ r, PySem.W.nsIn K d z = some r ∧ r.isSome = (tlook kvs z).isSome := by
  cases h : tlook kvs z with
  | some t =>
    obtain ⟨u, v, g, _⟩ := ns_some D T0 h
    exact ⟨_, g, rfl⟩
  | none => exact ⟨_, ns_none D T0 h, rfl⟩
theorem de_kin (D : KTab X x kvs) (he : DE X w e fe) (hg : Gl X x := by rfl) (hd : (x == ("__debug__" : Str)) = false := by decide) (hm : behindInMarks .In (.Name x p) = false := by with_unfolding_all rfl) : DE X w (.Compare e [.In] [.Name x p] pos) (dkin kvs false fe) := by
  obtain ⟨t, pt, dt⟩ := he.ex
  obtain ⟨d, es, n, m1, m2, m3, m4⟩ := D.ex
  refine de_v (pe_cmpR (op_in_kd m2) pt (pe_glob (v := .ref d) hg m1 rfl hd) hm) fun B σ H ρ ws ts Q ok q => ?_
  refine dt B σ H ρ ws ts _ ok (q.bind.mono fun v ρ1 p1 y H1 ok1 => ?_)
  obtain ⟨z, e1, p2⟩ := p1.opt
  unfold gKin at e1
  split at e1
  · cases e1
    have hy := ok1.topStr
    subst hy
    rename_i z
    obtain ⟨r, r1, r2⟩ := kin_val (z := z) m2 m3
    refine ⟨z, r, rfl, rfl, r1, ?_⟩
    rw [r2]
    exact p2 _ _ ok1.pop.bl
  · cases e1
theorem de_knotin (D : KTab X x kvs) (he : DE X w e fe) (hg : Gl X x := by rfl) (hd : (x == ("__debug__" : Str)) = false := by decide) (hm : behindInMarks .NotIn (.Name x p) = false := by with_unfolding_all rfl) : DE X w (.Compare e [.NotIn] [.Name x p] pos) (dkin kvs true fe) := by
  obtain ⟨t, pt, dt⟩ := he.ex
  obtain ⟨d, es, n, m1, m2, m3, m4⟩ := D.ex
  refine de_v (pe_cmpR (op_notIn_kd m2) pt (pe_glob (v := .ref d) hg m1 rfl hd) hm) fun B σ H ρ ws ts Q ok q => ?_
  refine dt B σ H ρ ws ts _ ok (q.bind.mono fun v ρ1 p1 y H1 ok1 => ?_)
  obtain ⟨z, e1, p2⟩ := p1.opt
  unfold gKin at e1
  split at e1
  · cases e1
    have hy := ok1.topStr
    subst hy
    rename_i z
    obtain ⟨r, r1, r2⟩ := kin_val (z := z) m2 m3
    refine ⟨z, r, rfl, rfl, r1, ?_⟩
    rw [r2]
    exact p2 _ _ ok1.pop.bl
  · cases e1
theorem dt_cmpV {a : Expr} {f : M T} {ops : List CmpOp} {bs : List Expr} (he : DE X w (.Compare a ops bs pos) f) (h : ∀ {t : TE}, PE X (.Compare a ops bs pos) t → PT X (.Compare a ops bs pos) (tTest t)) : DT X w (.Compare a ops bs pos) (dval f) := by
  obtain ⟨ta, pa, da⟩ := he.ex
  refine ⟨_, h pa, fun B σ H ρ ws ts Q ok p => ?_⟩
  refine da B σ H ρ ws ts _ ok (p.bind.mono fun v ρ1 p1 x H1 ok1 => ?_)
  cases v with
  | d x =>
    cases x with
    | bool b =>
      have ex := ok1.topBl
      subst ex
      exact ⟨b, rfl, p1 _ ok1.pop⟩
    | _ => exact p1.elim
  | _ => exact p1.elim
theorem dt_kin (D : KTab X x kvs) (he : DE X w e fe) (hg : Gl X x := by rfl) (hd : (x == ("__debug__" : Str)) = false := by decide) (hm : behindInMarks .In (.Name x p) = false := by with_unfolding_all rfl) : DT X w (.Compare e [.In] [.Name x p] pos) (dval (dkin kvs false fe)) := by
  obtain ⟨t, pt, dt⟩ := he.ex
  obtain ⟨d, es, n, m1, m2, m3, m4⟩ := D.ex
  refine ⟨_, pt_cmpR (op_in_kd m2) pt (pe_glob (v := .ref d) hg m1 rfl hd) hm, fun B σ H ρ ws ts Q ok q => ?_⟩
  refine dt B σ H ρ ws ts _ ok ((PostG.bind (PostG.bind q)).mono fun v ρ1 p1 y H1 ok1 => ?_)
  obtain ⟨z, e1, p2⟩ := p1.opt
  unfold gKin at e1
  split at e1
  · cases e1
    have hy := ok1.topStr
    subst hy
    rename_i z
    obtain ⟨r, r1, r2⟩ := kin_val (z := z) m2 m3
    exact ⟨z, r, rfl, rfl, r1, _, rfl, by rw [r2]; exact p2 _ ok1.pop⟩
  · cases e1
/-- NAME[e] -/
def gKix (kvs : List (Str × T)) : T → Option T
  | .d (.str z) => tlook kvs z
  | _ => none
def dkix (kvs : List (Str × T)) (fe : M T) : M T := mbind fe fun t => mopt (gKix kvs t)
theorem de_kix (D : KTab X x kvs) (he : DE X w e fe) (hs : PlainIx e := by exact fun _ _ => rfl) (hg : Gl X x := by rfl) (hd : (x == ("__debug__" : Str)) = false := by decide) : DE X w (.Subscript (.Name x p) e pos) (dkix kvs fe) := by
  obtain ⟨t, pt, dt⟩ := he.ex
  obtain ⟨d, es, n, m1, m2, m3, m4⟩ := D.ex
  refine de_v (pe_ix ix_kdict (pe_glob (v := .ref d) hg m1 rfl hd) pt hs) fun B σ H ρ ws ts Q ok q => ?_
  show t σ H _
  refine dt B σ H ρ ws ts _ ok (q.bind.mono fun v ρ1 p1 y H1 ok1 => ?_)
  obtain ⟨z, e1, p2⟩ := p1.opt
  unfold gKix at e1
  split at e1
  · have hy := ok1.topStr
    subst hy
    rename_i z0
    obtain ⟨u, v0, g1, g2, g3⟩ := ns_some m2 m3 e1
    refine ⟨d, z0, v0, rfl, rfl, ⟨es, n, u, m2.at_, m2.lit, g1, g2⟩, p2 _ _ ?_⟩
    obtain ⟨I, Fr, Fw, s, r, wz, km⟩ := ok1.pop
    exact ⟨I, Fr, Fw, s, r, .cons (F := []) (g3 _ _) wz, km⟩
  · cases e1
/-- tuple(NAME) -/
theorem de_ktup (at_ : X.calm = true) (D : KTab X x kvs) (hm : NoG X "tuple") (hg : Gl X x := by rfl) (hgt : Gl X "tuple" := by rfl) (hd : (x == ("__debug__" : Str)) = false := by decide)
    (he : starEach [.Name x p2] X.env = (false, eval (.Name x p2) X.env) :: starEach [] X.env := by rfl) (hpl : (backTo pos (starEach [] X.env)).any (·.1) = false := by rfl) :
    DE X w (.Call (.Name "tuple" p) [.Name x p2] [] pos) (mret (.d (.tuple (kvs.map fun q => .str q.1)))) := by
  obtain ⟨d, es, n, m1, m2, m3, m4⟩ := D.ex
  refine de_v (pe_callTy (cr_keysT at_) hgt hm (by first | exact PySem.boot_tuple | decide +kernel) (pa_cons (pe_glob (v := .ref d) hg m1 rfl hd) pa_nil he) (by decide) (by decide) he hpl) fun B σ H ρ ws ts Q ok q => ?_
  refine ⟨d, es, n, kvs.map (·.1), rfl, m2.at_, m2.low, m4, m3.keys, fun l hl => q _ _ (ok.newTup hl fun I Fw sb w' => ?_)⟩
  have := drAll_strs (K := X.K) (I := I) (kvs.map (·.1))
  rw [List.map_map (g := PyData.str)] at this
  exact this
end
end DL
end
section
set_option Elab.async false
set_option linter.all false
set_option maxRecDepth 100000
set_option maxHeartbeats 4000000
/-! DLD: a, *b = t; zip; a function that a slot holds. -/
namespace DL
open PySem L2 PySem.W

/-! ### a, *rest = t -/
section
variable {prog : Program} {w : World} {A : Around} {E : Value → Shared → Prop} {s : Shared} {l : Addr} {its : Array Value} {k : Nat} {Q : List Value → Shared → Prop}
abbrev pushL (h : Heap) (vs : List Value) : Heap := h.push { cls := .type "list", data := .seq vs.toArray }
theorem new_rest {vs : List Value} {h : Heap} {tk : Nat} {fst : List Value} (hz : vs.length ≤ sizeLine) (q : Q (fst ++ [.ref h.objs.size]) { s with heap := pushL h vs, toks := tk }) :
    wpAny (model prog w) A (newList vs >>= fun d => pure (fst ++ [d] ++ [])) Q E { s with heap := h, toks := tk } := by
  refine wpAny_bind (wpAny_newObj_type (wpAny_pure ?_) (by show vs.toArray.size ≤ sizeLine; simpa using hz))
  rw [List.append_nil]
  exact q
theorem star_fin {fst rest : List Value} {h : Heap} {tk : Nat} (hz : rest.length ≤ sizeLine) (q : Q (fst ++ [.ref h.objs.size]) { s with heap := pushL h rest, toks := tk }) (n : Nat) (hn : n = 0) :
    wpAny (model prog w) A (newList (rest.take (rest.length - n)) >>= fun d => pure (fst ++ [d] ++ rest.drop (rest.length - n))) Q E { s with heap := h, toks := tk } := by
  subst hn
  have e1 : rest.take (rest.length - 0) = rest := by simp
  have e2 : rest.drop (rest.length - 0) = [] := by simp
  rw [e1, e2]
  exact new_rest hz q
theorem star_tup (ht : PyProof.Rows.IsTup s.heap l its) (hh : A.handled = none) (hk : k ≤ its.size) (hz : its.size ≤ sizeLine)
    (q : ∀ h tk, (∀ b o, s.heap.get? b = some o → h.get? b = some o) → Q (its.toList.take k ++ [.ref h.objs.size]) { s with heap := pushL h (its.toList.drop k), toks := tk }) : wpAny (model prog w) A (unpackItems (.ref l) (k + 1) (some k)) Q E s := by
  obtain ⟨o, ho, ho2⟩ := id ht
  have lt : l < s.heap.objs.size := Heap.lt_size ho
  have ne : l ≠ s.heap.objs.size := Nat.ne_of_lt lt
  unfold unpackItems notIterableAtAll
  refine wpAny_bind (wpAny_bind (wpAny_specialOf ht.typeIs PyProof.Rows.slot_tuple_iter.lookup (wpAny_pure ?_)))
  simp only [Bool.false_eq_true, if_false]
  refine wpAny_bind (wpAny_holding (PyProof.Rows.iter_tuple ht ?_))
  refine wpAny_bind (wpAny_holding (PyProof.Rows.draw_tuple ne k 0 _ _ ⟨_, Heap.get?_push_size _ rfl, rfl, rfl⟩ (ht.push _) (by omega) fun h1 it1 sb => ?_))
  have ht1 : PyProof.Rows.IsTup h1 l its := (ht.push _).extBut sb.extBut ne
  rw [Nat.zero_add] at it1
  obtain ⟨oi, g1, _⟩ := id it1
  obtain ⟨ol, g2, _⟩ := id ht1
  have e0 : (its.toList.drop 0).take k = its.toList.take k := by rw [List.drop_zero]
  rw [e0]
  have e1 : ¬ (its.toList.take k).length < k := by rw [List.length_take, Array.length_toList]; omega
  rw [if_neg e1]
  refine wpAny_bind (wpAny_holding (kun_collect (s := { s with heap := h1 }) (T := "tuple_iterator") (.inr (.inr (.inr rfl))) (Walks.tuple (A := A.in1) hh s.heap.objs.size l ne its) (fun j u st => st.1.typeIs) hk ⟨it1, ht1⟩ (Heap.lt_size g1) (Heap.lt_size g2) (fun h2 tk kp => ?_) hz))
  have e2 : ¬ (its.toList.drop k).length < k + 1 - 1 - k := by omega
  show wpAny _ _ (if (its.toList.drop k).length < k + 1 - 1 - k then _ else _) _ _ _
  rw [if_neg e2]
  refine star_fin (n := k + 1 - 1 - k) (s := s) (by rw [List.length_drop, Array.length_toList]; omega) (q h2 tk fun b ob e => ?_) (by omega)
  exact kp b ob (Nat.ne_of_lt (Heap.lt_size e)) (sb.extBut b ob (Nat.ne_of_lt (Heap.lt_size e)) (Heap.get?_push_of_some _ e))
theorem star_lst (ht : s.heap.IsList l its) (hh : A.handled = none) (hk : k ≤ its.size) (hz : its.size ≤ sizeLine)
    (q : ∀ h tk, (∀ b o, s.heap.get? b = some o → h.get? b = some o) → Q (its.toList.take k ++ [.ref h.objs.size]) { s with heap := pushL h (its.toList.drop k), toks := tk }) : wpAny (model prog w) A (unpackItems (.ref l) (k + 1) (some k)) Q E s := by
  obtain ⟨o, ho, ho2⟩ := id ht
  have lt : l < s.heap.objs.size := Heap.lt_size ho
  have ne : l ≠ s.heap.objs.size := Nat.ne_of_lt lt
  unfold unpackItems notIterableAtAll
  refine wpAny_bind (wpAny_bind (wpAny_specialOf ht.typeIs slot_list_iter.lookup (wpAny_pure ?_)))
  simp only [Bool.false_eq_true, if_false]
  refine wpAny_bind (wpAny_holding (wpAny_pyIter_list ht ?_))
  refine wpAny_bind (wpAny_holding (kun_draw ne k 0 _ _ ⟨_, Heap.get?_push_size _ rfl, rfl, rfl⟩ (ht.push _) (by omega) fun h1 it1 sb => ?_))
  have ht1 : h1.IsList l its := (ht.push _).extBut sb.extBut ne
  rw [Nat.zero_add] at it1
  obtain ⟨oi, g1, _⟩ := id it1
  obtain ⟨ol, g2, _⟩ := id ht1
  have e0 : (its.toList.drop 0).take k = its.toList.take k := by rw [List.drop_zero]
  rw [e0]
  have e1 : ¬ (its.toList.take k).length < k := by rw [List.length_take, Array.length_toList]; omega
  rw [if_neg e1]
  refine wpAny_bind (wpAny_holding (kun_collect (s := { s with heap := h1 }) (T := "list_iterator") (.inr (.inr (.inl rfl))) (Walks.list (A := A.in1) hh s.heap.objs.size l ne its) (fun j u st => st.1.typeIs) hk ⟨it1, ht1⟩ (Heap.lt_size g1) (Heap.lt_size g2) (fun h2 tk kp => ?_) hz))
  have e2 : ¬ (its.toList.drop k).length < k + 1 - 1 - k := by omega
  show wpAny _ _ (if (its.toList.drop k).length < k + 1 - 1 - k then _ else _) _ _ _
  rw [if_neg e2]
  refine star_fin (n := k + 1 - 1 - k) (s := s) (by rw [List.length_drop, Array.length_toList]; omega) (q h2 tk fun b ob e => ?_) (by omega)
  exact kp b ob (Nat.ne_of_lt (Heap.lt_size e)) (sb.extBut b ob (Nat.ne_of_lt (Heap.lt_size e)) (Heap.get?_push_of_some _ e))
end
def gStar (K : PySem.W.Frag) (k : Nat) (t : TGs) : TG := fun v σ H Q => ∃ a xs, v = .ref a ∧ (SqL K H a xs ∨ SqT K H a xs) ∧ k ≤ xs.length ∧ ∀ p, H p = none → t (xs.take k ++ [.ref p]) σ (upd H p (.lst (xs.drop k))) Q
section
variable {X : Cx} {w : Wd} {pos : Pos}
theorem pg_star {es : List Expr} {k kk : Nat} {t : TGs} (hc : X.calm = true) (h : PGs X es t) (hn : (assignEach es X.env).length = k + 1 := by rfl) (hst : (assignEach es X.env).findIdx? (·.1) = some k := by rfl) : PG X (.Tuple es kk pos) (gStar X.K k t) := by
  refine ⟨fun pins s σ H v u Q I r hw => ?_⟩
  obtain ⟨a, xs, rfl, hq, hl, hw⟩ := hw
  cases r
  have goal : ∀ its : List Value, Vals xs its → ∀ h' tk, (∀ b o, s.heap.get? b = some o → h'.get? b = some o) → xs.length ≤ sizeLine →
      wpAny (model X.prog X.w) X.A (assignInOrder ((assignEach es X.env).map (·.2)) (its.take k ++ [.ref h'.objs.size])) (fun _ s' => ∃ σ' H', Inv X pins σ' H' s' ∧ Q σ' H') X.xe { s with heap := pushL h' (its.drop k), toks := tk } := fun its rv h' tk kp hz => by
    have I1 : Inv X pins σ H { s with heap := h' } := I.kept (t' := s.toks) kp
    have I2 : Inv X pins σ (upd H h'.objs.size (.lst (xs.drop k))) { s with heap := pushL h' (its.drop k), toks := tk } := I1.lnew (t' := tk) (Vals.drop k rv) (by rw [List.length_drop]; omega)
    exact h.run pins _ σ _ _ _ Q I2 (Vals.append (Vals.take k rv) (.cons (show RelV (.ref h'.objs.size) (.ref h'.objs.size) from rfl) .nil)) (hw _ (I1.hok.fresh (Nat.le_refl _)))
  rw [PyProof.Rows.assign_Tuple]
  refine wpAny_bind (wpAny_standAt ?_)
  unfold unpack
  rw [hn, hst]
  rcases hq with hq | hq
  · obtain ⟨its, rv, pl, hz⟩ := I.list hq
    have hle := rv.length
    exact wpAny_bind (wpAny_holding (star_lst pl.isList (I.ok.hd hc) (by simp only [List.size_toArray]; omega) (by simp only [List.size_toArray]; omega) fun h' tk kp => goal its rv h' tk kp hz))
  · obtain ⟨its, rv, pl, hz⟩ := I.tuple hq
    have hle := rv.length
    exact wpAny_bind (wpAny_holding (star_tup pl (I.ok.hd hc) (by simp only [List.size_toArray]; omega) (by simp only [List.size_toArray]; omega) fun h' tk kp => goal its rv h' tk kp hz))
theorem pgs_star {e : Expr} {es : List Expr} {p : Pos} {t : TG} {u : TGs} (h1 : PG X e t) (h2 : PGs X es u) (hs : (assignEach (.Starred e p :: es) X.env).map (·.2) = assign e X.env :: (assignEach es X.env).map (·.2) := by rfl) : PGs X (.Starred e p :: es) (gCons t u) := by
  refine ⟨fun pins s σ H vs us Q I r h => ?_⟩
  obtain ⟨v, vr, rfl, h⟩ := h
  cases r with
  | cons r0 rr =>
    rw [hs]
    exact PyProof.Rows.assignInOrder_cons (thn (h1.run pins s σ H v _ _ I r0 h) fun _ s1 ⟨σ1, H1, I1, q1⟩ => h2.run pins s1 σ1 H1 vr _ Q I1 rr q1)
theorem dgs_star {e : Expr} {es : List Expr} {p : Pos} {S S' : List Nat} {g : T → M Unit} {gs : List (T → M Unit)} (h : DG X w e S g) (h' : DGs X w es S' gs) (hs : (assignEach (.Starred e p :: es) X.env).map (·.2) = assign e X.env :: (assignEach es X.env).map (·.2) := by rfl) : DGs X w (.Starred e p :: es) (S ++ S') (g :: gs) := by
  obtain ⟨t, p, d⟩ := h.ex
  obtain ⟨t', p', d'⟩ := h'.ex
  refine ⟨_, pgs_star p p' hs, fun B σ H ρ ws ts xs ds Q l1 l2 ok q => ?_⟩
  cases ds with
  | nil => cases l2
  | cons d0 ds =>
    cases xs with
    | nil => cases l1
    | cons x xs =>
      refine ⟨x, xs, rfl, ?_⟩
      refine d B σ H ρ (xs ++ ws) (ds.map T.d ++ ts) x (.d d0) _ ok (PostG.mono (PostG.bind q) fun _ ρ1 p1 σ1 H1 so ok1 => ?_)
      exact d' B σ1 H1 ρ1 ws ts xs ds Q (by simpa using l1) (by simpa using l2) ok1 (PostG.mono p1 fun _ ρ2 p2 σ2 H2 so2 ok2 => p2 σ2 H2 (so.trans so2) ok2)
def starItems (k : Nat) (ds : List PyData) : List PyData := ds.take k ++ [.list (ds.drop k)]
def mstar (k : Nat) (gs : List (T → M Unit)) : T → M Unit
  | .d (.tuple ds) => if k ≤ ds.length then mgs gs (starItems k ds) else mno
  | .d (.list ds) => if k ≤ ds.length then mgs gs (starItems k ds) else mno
  | _ => mno
theorem Ok.star {K : PySem.W.Frag} {m : List Bool} {B : Bs} {σ : L2.St} {H : Hp} {ρ : Rho} {ws : List V} {ts : List T} {x : V} {t : T} {vs : List V} {ds : List PyData} {k : Nat} {p : Addr} {I : Hp} {Fr Fw : List Addr}
    (s : Sit B I H (Fr ++ Fw)) (r : RepR K I H σ ρ Fr) (wz : RepTs K I H (x :: ws) (.d t0 :: ts) Fw) (km : Kept m B σ) (dd : DrAll K I vs ds) (hp : H p = none) :
    Ok K m B σ (upd H p (.lst (vs.drop k))) ρ ((vs.take k ++ [.ref p]) ++ ws) ((starItems k ds).map T.d ++ ts) := by
  have hI := (s.fresh hp).2.1
  have sm : Same I (upd I p (.lst (vs.drop k))) := fun a u e => by rw [upd_ne (ne_of_none e hI)]; exact e
  have nf : ∀ a ∈ Fr ++ Fw, (upd H p (.lst (vs.drop k))) a = H a := fun a z => upd_ne (show a ≠ p from fun e => s.thr a z (by rw [e]; exact hp))
  have dd' := drAll_mono sm dd
  have all : DrAll K (upd I p (.lst (vs.drop k))) (vs.take k ++ [.ref p]) (starItems k ds) := (dd'.take k).append (.cons (.lst upd_same (dd'.drop k)) .nil)
  have w' := wz.mono (H' := upd H p (.lst (vs.drop k))) sm fun a z => nf a (List.mem_append_right _ z)
  cases w' with
  | cons a1 b1 =>
    cases a1 with
    | d a1 =>
      obtain ⟨E, q1, q2⟩ := RepTs.append (RepTs.ofD all (H := upd H p (.lst (vs.drop k)))) b1
      subst q2
      exact ⟨_, Fr, _, s.newD hp, r.mono sm fun a z => nf a (List.mem_append_left _ z), q1, km⟩
theorem dg_star {es : List Expr} {k kk : Nat} {S : List Nat} {gs : List (T → M Unit)} (hc : X.calm = true) (h : DGs X w es S gs) (hn : (assignEach es X.env).length = k + 1 := by rfl) (hgn : gs.length = k + 1 := by rfl) (hst : (assignEach es X.env).findIdx? (·.1) = some k := by rfl) : DG X w (.Tuple es kk pos) S (mstar k gs) := by
  obtain ⟨t, p, d⟩ := h.ex
  refine ⟨_, pg_star hc p hn hst, fun B σ H ρ ws ts x v Q ok q => ?_⟩
  have len : ∀ ds : List PyData, k ≤ ds.length → (starItems k ds).length = k + 1 := fun ds hl => by
    unfold starItems
    rw [List.length_append, List.length_take]
    simp
    omega
  unfold mstar at q
  split at q
  · rename_i ds
    by_cases hl : k ≤ ds.length
    · rw [if_pos hl] at q
      obtain ⟨I, Fr, Fw, s, r, wz, km⟩ := ok
      obtain ⟨a, vs, rfl, ha, dd⟩ := tup_items wz
      have hv := dd.len
      refine ⟨a, vs, rfl, .inr (st_mono s.sub ha), by omega, fun p hp => ?_⟩
      refine d B σ _ ρ ws ts _ (starItems k ds) Q ?_ (by rw [len ds hl, hgn]) (Ok.star (t := .d .none) s r wz km dd hp) q
      rw [len ds hl, List.length_append, List.length_take]
      simp
      omega
    · rw [if_neg hl] at q
      exact q.elim
  · rename_i ds
    by_cases hl : k ≤ ds.length
    · rw [if_pos hl] at q
      obtain ⟨I, Fr, Fw, s, r, wz, km⟩ := ok
      obtain ⟨a, vs, rfl, ha, dd⟩ := lst_items wz
      have hv := dd.len
      refine ⟨a, vs, rfl, .inl (SqL.of (s.sub _ _ ha)), by omega, fun p hp => ?_⟩
      refine d B σ _ ρ ws ts _ (starItems k ds) Q ?_ (by rw [len ds hl, hgn]) (Ok.star (t := .d .none) s r wz km dd hp) q
      rw [len ds hl, List.length_append, List.length_take]
      simp
      omega
    · rw [if_neg hl] at q
      exact q.elim
  · exact q.elim
end
end DL
end
section
set_option Elab.async false
set_option linter.all false
set_option maxRecDepth 100000
set_option maxHeartbeats 4000000
/-! DLE: zip of a tuple and a list; zip as what is walked. -/
namespace DL
open PySem L2 PySem.Spec

/-! ### the iterator of zip(t, l) -/
abbrev zmH1 (h : Heap) (a : Addr) : Heap := h.push { cls := .type "tuple_iterator", data := .fields #[.ref a, .int 0 0] }
abbrev zmH2 (h : Heap) (a b : Addr) : Heap := (zmH1 h a).push { cls := .type "list_iterator", data := .fields #[.ref b, .int 0 0] }
abbrev zmH3 (h : Heap) (a b : Addr) : Heap := (zmH2 h a b).push { cls := .type "tuple", data := .seq #[.ref h.objs.size, .ref (zmH1 h a).objs.size] }
abbrev zmH4 (h : Heap) (a b : Addr) : Heap := (zmH3 h a b).push { cls := .type "tuple", data := .seq #[.none, .none] }
abbrev zmH5 (h : Heap) (a b : Addr) : Heap := (zmH4 h a b).push { cls := .type "zip", data := .fields #[.none, .bool false, .bool false, .ref (zmH2 h a b).objs.size, .ref (zmH3 h a b).objs.size] }
theorem zm_new (a b : Addr) (xs ys : Array Value) : Meets (Builtin.«zip.__new__» ⟨[.type "zip", .ref a, .ref b], []⟩)
    (fun _ R s => s.heap.IsTuple a xs ∧ s.heap.IsList b ys ∧ R (.ok (.ret (.ref (zmH4 s.heap a b).objs.size))) { s with heap := zmH5 s.heap a b }) :=
  .of_wp fun prog w A R s h => by
    obtain ⟨hp, g, d, tk, os⟩ := s
    obtain ⟨ha, hb, h⟩ := h
    have z0 := sub_zip
    have z1 : Heap.IsTuple (Shared.heap ⟨hp, g, d, tk, os⟩) a xs := ha
    have z2 : Heap.IsList (Shared.heap ⟨hp.push { cls := .type "tuple_iterator", data := .fields #[.ref a, .int 0 0] }, g, d, tk, os⟩) b ys := Heap.IsList.push hb _
    wp_walk using wpAny_pyIter_tuple z1, wpAny_pyIter_list z2
    exact ⟨_, rfl, h⟩
section
variable {prog : Program} {w : World} {A : Around} {E : Value → Shared → Prop} {s : Shared}
/-- what zip(t, l) has laid at n, n + 1, .. -/
structure ZmAt (h : Heap) (n a b : Addr) : Prop where
  z : IsZip h (n + 4) (n + 2) (n + 3) .none
  ti : IsPair h (n + 2) (.ref n) (.ref (n + 1))
  to : IsPair h (n + 3) .none .none
  i1 : h.IsTupleIter n a 0
  i2 : h.IsListIter (n + 1) b 0
theorem call_zm {a b : Addr} {xs ys : Array Value} {Q : Value → Shared → Prop} (ha : s.heap.IsTuple a xs) (hb : s.heap.IsList b ys)
    (q : ∀ h, ZmAt h s.heap.objs.size a b → (∀ c o, s.heap.get? c = some o → h.get? c = some o) → Q (.ref (s.heap.objs.size + 4)) { s with heap := h }) : wpAny (model prog w) A (call (.type "zip") [.ref a, .ref b]) Q E s := by
  refine callType_new PySem.F.called_zip (by decide) (PySem.F.typeCall_zip_2 _ _) (PySem.F.newCall_zip_2 _ _) (fun obj => PySem.F.args_object_init_3 obj _ _) PySem.F.entry_zip_new (zm_new a b xs ys) ⟨ha, hb, ?_⟩
  have e1 : (zmH1 s.heap a).objs.size = s.heap.objs.size + 1 := Heap.size_push ..
  have e2 : (zmH2 s.heap a b).objs.size = s.heap.objs.size + 2 := by rw [Heap.size_push, e1]
  have e3 : (zmH3 s.heap a b).objs.size = s.heap.objs.size + 3 := by rw [Heap.size_push, e2]
  have e4 : (zmH4 s.heap a b).objs.size = s.heap.objs.size + 4 := by rw [Heap.size_push, e3]
  have up : ∀ c o, (zmH4 s.heap a b).get? c = some o → (zmH5 s.heap a b).get? c = some o := fun c o x => Heap.get?_push_of_some _ x
  have up3 : ∀ c o, (zmH3 s.heap a b).get? c = some o → (zmH5 s.heap a b).get? c = some o := fun c o x => up c o (Heap.get?_push_of_some _ x)
  have up2 : ∀ c o, (zmH2 s.heap a b).get? c = some o → (zmH5 s.heap a b).get? c = some o := fun c o x => up3 c o (Heap.get?_push_of_some _ x)
  have up1 : ∀ c o, (zmH1 s.heap a).get? c = some o → (zmH5 s.heap a b).get? c = some o := fun c o x => up2 c o (Heap.get?_push_of_some _ x)
  have k5 : (zmH5 s.heap a b).get? (zmH4 s.heap a b).objs.size = some _ := Heap.get?_push_size _ rfl
  have k4 := up _ _ (Heap.get?_push_size (zmH3 s.heap a b) (o := { cls := .type "tuple", data := .seq #[.none, .none] }) rfl)
  have k3 := up3 _ _ (Heap.get?_push_size (zmH2 s.heap a b) (o := { cls := .type "tuple", data := .seq #[.ref s.heap.objs.size, .ref (zmH1 s.heap a).objs.size] }) rfl)
  have k2 := up2 _ _ (Heap.get?_push_size (zmH1 s.heap a) (o := { cls := .type "list_iterator", data := .fields #[.ref b, .int 0 0] }) rfl)
  have k1 := up1 _ _ (Heap.get?_push_size s.heap (o := { cls := .type "tuple_iterator", data := .fields #[.ref a, .int 0 0] }) rfl)
  rw [e2, e3, e4] at k5
  rw [e3] at k4
  rw [e1, e2] at k3
  rw [e1] at k2
  show _ ∧ _
  rw [e4]
  exact ⟨⟨_, k5, rfl⟩, q _ ⟨k5, k3, k4, ⟨_, k1, rfl, rfl⟩, ⟨_, k2, rfl, rfl⟩⟩ fun c o x => up1 c o (Heap.get?_push_of_some _ x)⟩
end
/-- the turns: a tuple's item, a list's item, in a new pair -/
def ItzM (K : PySem.W.Frag) (a b : Addr) : It where
  go := fun i H => ∃ xs ys x y, SqT K H a xs ∧ SqL K H b ys ∧ xs[i]? = some x ∧ ys[i]? = some y
  yld := fun i H v H' => ∃ p x y, v = .ref p ∧ H p = none ∧ H' = upd H p (.tup [x, y]) ∧ (∀ xs, SqT K H a xs → xs[i]? = some x) ∧ ∀ ys, SqL K H b ys → ys[i]? = some y
  stop := fun i H => ∃ xs ys, SqT K H a xs ∧ SqL K H b ys ∧ i ≤ xs.length ∧ i ≤ ys.length ∧ (i = xs.length ∨ i = ys.length)
theorem five {c z q1 q2 q3 q4 : Addr} (h : c ∈ [z, q1, q2, q3, q4]) : c = z ∨ c = q1 ∨ c = q2 ∨ c = q3 ∨ c = q4 := by simpa using h
structure Apart5 (z q1 q2 i1 i2 a b : Addr) : Prop where
  sep : ZipSep2 z q1 q2 i1 i2 [i1, a] [i2, b]
  na : a ≠ i1
  nb : b ≠ i2
theorem turn_zm {P : Program} {w : World} {K : PySem.W.Frag} {elts : List Expr} {kk : Nat} {tpos : Pos} {a b z q1 q2 i1 i2 : Addr} (D : Apart5 z q1 q2 i1 i2 a b) :
    Turn P w K (.Tuple elts kk tpos) (ItzM K a b) [z, q1, q2, i1, i2] z (fun i h => IsZip h z q1 q2 .none ∧ IsPair h q1 (.ref i1) (.ref i2) ∧ (∃ x y, IsPair h q2 x y) ∧ h.IsTupleIter i1 a i ∧ h.IsListIter i2 b i) := by
  have S := D.sep
  have nz1 : i1 ≠ z := fun e => S.zf1 (by rw [← e]; exact List.mem_cons_self)
  have nz2 : i2 ≠ z := fun e => S.zf2 (by rw [← e]; exact List.mem_cons_self)
  refine ⟨List.mem_cons_self, fun i h st c hc => ?_, fun i h h' st kp => ?_, ?_, ?_, fun A i s Q E st h => wpAny_pyIter_zip st.1 h⟩
  · obtain ⟨y1, y2, ⟨u, v, y3⟩, ⟨o1, y4, _, d1⟩, ⟨o2, y5, _, d2⟩⟩ := st
    rcases five hc with e | e | e | e | e <;> subst e
    · exact ⟨_, y1, fun v q => (nomatch q)⟩
    · exact ⟨_, y2, fun v q => (nomatch q)⟩
    · exact ⟨_, y3, fun v q => (nomatch q)⟩
    · exact ⟨o1, y4, fun v q => by rw [d1] at q; cases q⟩
    · exact ⟨o2, y5, fun v q => by rw [d2] at q; cases q⟩
  · obtain ⟨y1, y2, ⟨u, v, y3⟩, y4, y5⟩ := st
    exact ⟨kp _ (by simp) _ y1, kp _ (by simp) _ y2, ⟨u, v, kp _ (by simp) _ y3⟩, y4.at fun o q => kp _ (by simp) o q, y5.at fun o q => kp _ (by simp) o q⟩
  · intro X e1 e2 e3 hc i pins s σ H E I hf st hgo
    subst e1 e2 e3
    obtain ⟨y1, y2, ⟨u0, v0, y3⟩, y4, y5⟩ := st
    obtain ⟨xs, ys, x, y, hx, hy, gx, gy⟩ := hgo
    obtain ⟨as, ra, pa, _⟩ := I.tuple hx
    obtain ⟨bs, rb, pb, _⟩ := I.list hy
    obtain ⟨u, gu, ru⟩ := ra.get gx
    obtain ⟨v, gv, rv⟩ := rb.get gy
    have hh : X.A.in1.handled = none := I.ok.hd hc
    have la : i < as.toArray.size := by simpa using (List.getElem?_eq_some_iff.mp gu).1
    have lb : i < bs.toArray.size := by simpa using (List.getElem?_eq_some_iff.mp gv).1
    have zl : z < s.heap.objs.size := Heap.lt_size y1
    refine wpAny_pyNext_zipD2_item S (Draws.tuple hh i1 a D.na as.toArray) (Draws.list hh i2 b D.nb bs.toArray) y1 y2 y3 ⟨y4, pa⟩ ⟨y5, pb.isList⟩ la lb fun u' v' h' tk p1 p2 hz ho s1 s2 hT hsz kp => ?_
    have eu : u' = u := by
      have z : as.toArray[i]? = some u := by simpa using gu
      exact Option.some.inj (p1.symm.trans z)
    have ev : v' = v := by
      have z : bs.toArray[i]? = some v := by simpa using gv
      exact Option.some.inj (p2.symm.trans z)
    subst eu ev
    refine ⟨_, rfl, wpAny_letOwnedTupleGo_zip (s := { s with heap := h', toks := tk }) hz fun h2 hz2 sb => ?_⟩
    have nT : s.heap.objs.size ≠ z := Nat.ne_of_gt zl
    have oT : h2.get? s.heap.objs.size = some { cls := .type "tuple", data := .seq #[u', v'] } := (sb.2 _ nT).trans hT
    have kept : ∀ c o, c ∉ [z, q1, q2, i1, i2] → s.heap.get? c = some o → h2.get? c = some o := fun c o nm g => by
      simp only [List.mem_cons, List.not_mem_nil, or_false, not_or] at nm
      exact (sb.2 c nm.1).trans (kp c o nm.1 nm.2.2.1 nm.2.2.2.1 nm.2.2.2.2 g)
    have I1 : Inv X pins σ (upd H s.heap.objs.size (.tup [x, y])) { s with heap := h2, toks := tk } := I.turnedNew (t' := tk) kept hf (Nat.le_refl _) ⟨by show 2 ≤ sizeLine; decide, [u', v'], .cons ru (.cons rv .nil), ⟨_, oT, rfl, _, rfl⟩⟩
    refine ⟨.ref s.heap.objs.size, _, I1, rfl, ⟨_, x, y, rfl, I.hok.fresh (Nat.le_refl _), rfl, fun l hl => by rw [I.tuple_inj hl hx]; exact gx, fun l hl => by rw [I.list_inj hl hy]; exact gy⟩, ⟨hz2, ?_, ⟨u', v', (sb.2 _ S.TOz).trans ho⟩, s1.1.at fun o q => (sb.2 _ nz1).trans q, s2.1.at fun o q => (sb.2 _ nz2).trans q⟩, fun c hc => ?_⟩
    · exact (sb.2 _ S.TIz).trans (kp _ _ S.TIz S.TITO S.TIi1 S.TIi2 y2)
    · have lt : c < s.heap.objs.size := by
        obtain ⟨o1, y4, _⟩ := y4
        obtain ⟨o2, y5, _⟩ := y5
        rcases five hc with e | e | e | e | e <;> rw [e]
        · exact zl
        · exact Heap.lt_size y2
        · exact Heap.lt_size y3
        · exact Heap.lt_size y4
        · exact Heap.lt_size y5
      rw [upd_ne (Nat.ne_of_lt lt)]
      exact (hf c hc).1
  · intro X e1 e2 e3 hc i pins s σ H E I hf st hst
    subst e1 e2 e3
    obtain ⟨y1, y2, ⟨u0, v0, y3⟩, y4, y5⟩ := st
    obtain ⟨xs, ys, hx, hy, l1, l2, l3⟩ := hst
    obtain ⟨as, ra, pa, _⟩ := I.tuple hx
    obtain ⟨bs, rb, pb, _⟩ := I.list hy
    have hh : X.A.in1.handled = none := I.ok.hd hc
    have m1 := ra.length
    have m2 := rb.length
    refine wpAny_pyNext_zipD2_end S (Draws.tuple hh i1 a D.na as.toArray) (Draws.list hh i2 b D.nb bs.toArray) y1 y2 y3 ⟨y4, pa⟩ ⟨y5, pb.isList⟩ (by simp only [List.size_toArray]; omega) (by simp only [List.size_toArray]; omega) (by simp only [List.size_toArray]; omega) fun h' tk kp => ⟨rfl, ?_⟩
    exact I.turnedL (t' := tk) (fun c o nm g => by
      simp only [List.mem_cons, List.not_mem_nil, or_false, not_or] at nm
      exact kp c o nm.1 nm.2.2.1 nm.2.2.2.1 nm.2.2.2.2 g) hf
theorem nin {x a b : Addr} (h1 : x ≠ a) (h2 : x ≠ b) : x ∉ [a, b] := by simp [h1, h2]
theorem add_ne {n i j : Nat} (h : i ≠ j) : n + i ≠ n + j := fun e => h (Nat.add_left_cancel e)
theorem add_ne0 {n i : Nat} (h : i ≠ 0) : n + i ≠ n := fun e => h (Nat.add_left_cancel (show n + i = n + 0 from e))
theorem above_ne {n a i : Nat} (h : a < n) : n + i ≠ a := Nat.ne_of_gt (Nat.lt_of_lt_of_le h (Nat.le_add_right n i))
theorem apart5 {n a b : Nat} (la : a < n) (lb : b < n) : Apart5 (n + 4) (n + 2) (n + 3) n (n + 1) a b :=
  ⟨⟨add_ne (by decide), add_ne (by decide), add_ne (by decide), add_ne0 (by decide), List.mem_cons_self, nin (add_ne0 (by decide)) (above_ne la), nin (add_ne0 (by decide)) (above_ne la), add_ne (by decide), List.mem_cons_self,
    nin (add_ne (by decide)) (above_ne lb), nin (add_ne (by decide)) (above_ne lb), nin (fun e => add_ne0 (n := n) (i := 1) (by decide) e.symm) (above_ne (i := 0) lb), nin (add_ne0 (by decide)) (above_ne la)⟩, Nat.ne_of_lt la, fun e => above_ne lb e.symm⟩
def iZipM (K : PySem.W.Frag) (ta : TA) : TI := fun σ H R => ta σ H fun vs H1 => ∃ a b xs ys, vs = [.ref a, .ref b] ∧ SqT K H1 a xs ∧ SqL K H1 b ys ∧ R (ItzM K a b) H1
theorem pi_zipM {X : Cx} {e e2 : Expr} {ta : TA} {p pos tpos : Pos} {elts : List Expr} {kk : Nat} (hg : Gl X "zip") (hm : X.mg "zip" = none) (ha : PA X [e, e2] ta)
    (hs : starEach [e, e2] X.env = (false, eval e X.env) :: starEach [e2] X.env := by rfl) (hpl : (backTo pos (starEach [e2] X.env)).any (·.1) = false := by rfl) : PI X (.Tuple elts kk tpos) (.Call (.Name "zip" p) [e, e2] [] pos) (iZipM X.K ta) := by
  refine ⟨fun pins s σ H R I h => PyProof.Rows.Call_ (ld_blt I hg hm PyProof.Rows.boot_zip (PyProof.Rows.callWith_type1 (thn (ha.run pos pins s σ H _ I h) fun us t z => ?_) hs hpl))⟩
  obtain ⟨vs, H1, I1, r1, a, b, xs, ys, rfl, hx, hy, q⟩ := z
  obtain ⟨u, v, rfl, ru, rv⟩ := r1.two
  cases ru
  cases rv
  obtain ⟨as, ra, pa, _⟩ := I1.tuple hx
  obtain ⟨bs, rb, pb, _⟩ := I1.list hy
  obtain ⟨o1, ho1, _⟩ := id pa
  have la : a < t.heap.objs.size := Heap.lt_size ho1
  have lb : b < t.heap.objs.size := pb.lt
  refine call_zm (show t.heap.IsTuple a as.toArray from pa) pb.isList fun h' hz kp => wpAny_pyIter_zip hz.z ?_
  have I2 : Inv X pins σ H1 { t with heap := h' } := I1.kept (t' := t.toks) kp
  have ap : Apart5 (t.heap.objs.size + 4) (t.heap.objs.size + 2) (t.heap.objs.size + 3) t.heap.objs.size (t.heap.objs.size + 1) a b := by
    exact apart5 la lb
  refine ⟨t.heap.objs.size + 4, [t.heap.objs.size + 4, t.heap.objs.size + 2, t.heap.objs.size + 3, t.heap.objs.size, t.heap.objs.size + 1], _, _, H1, rfl, I2, turn_zm ap, ⟨hz.z, hz.ti, ⟨_, _, hz.to⟩, hz.i1, hz.i2⟩, fun c hc => ?_, q⟩
  have le : t.heap.objs.size ≤ c := by rcases five hc with e | e | e | e | e <;> rw [e] <;> first | exact Nat.le_refl _ | exact Nat.le_add_right _ _
  exact I1.fpOk le (I1.hok.fresh le)
/-! ### zip as what is walked -/
def pairsD : List PyData → List PyData → List PyData
  | a :: as, b :: bs => .tuple [a, b] :: pairsD as bs
  | _, _ => []
theorem pairsD_len : ∀ as bs : List PyData, (pairsD as bs).length = min as.length bs.length
  | [], bs => by simp [pairsD]
  | _ :: _, [] => by simp [pairsD]
  | a :: as, b :: bs => by simp [pairsD, pairsD_len as bs]
theorem pairsD_get : ∀ (as bs : List PyData) (i : Nat) (d : PyData), (pairsD as bs)[i]? = some d → ∃ a b, as[i]? = some a ∧ bs[i]? = some b ∧ d = .tuple [a, b]
  | [], bs, i, d, h => by simp [pairsD] at h
  | _ :: _, [], i, d, h => by simp [pairsD] at h
  | a :: as, b :: bs, 0, d, h => by
    simp [pairsD] at h
    exact ⟨a, b, rfl, rfl, h.symm⟩
  | a :: as, b :: bs, i + 1, d, h => by
    obtain ⟨x, y, h1, h2, h3⟩ := pairsD_get as bs i d (by simpa [pairsD] using h)
    exact ⟨x, y, by simpa using h1, by simpa using h2, h3⟩
def zipItems : List T → Option (List PyData)
  | [.d (.list as), .d (.list bs)] => some (pairsD as bs)
  | [.d (.tuple as), .d (.tuple bs)] => some (pairsD as bs)
  | [.d (.tuple as), .d (.list bs)] => some (pairsD as bs)
  | _ => none
def dzip (fs : M (List T)) : M (List PyData) := mbind fs fun ts => mopt (zipItems ts)
section
variable {K : PySem.W.Frag}
/-- a pair out of two pending ones -/
theorem Ok.pairUp {m : List Bool} {B : Bs} {σ : L2.St} {H : Hp} {ρ : Rho} {ws : List V} {ts : List T} {x y : V} {da db : PyData} {I : Hp} {Fr Fw : List Addr} {p : Addr}
    (s : Sit B I H (Fr ++ Fw)) (r : RepR K I H σ ρ Fr) (w : RepTs K I H ws ts Fw) (km : Kept m B σ) (ha : Dr K I x da) (hb : Dr K I y db) (hp : H p = none) : Ok K m B σ (upd H p (.tup [x, y])) ρ (.ref p :: ws) (.d (.tuple [da, db]) :: ts) := by
  have hI := (s.fresh hp).2.1
  have sm : Same I (upd I p (.tup [x, y])) := fun a u e => by rw [upd_ne (ne_of_none e hI)]; exact e
  have nf : ∀ a ∈ Fr ++ Fw, (upd H p (.tup [x, y])) a = H a := fun a z => upd_ne (show a ≠ p from fun e => s.thr a z (by rw [e]; exact hp))
  exact ⟨_, Fr, Fw, s.newD hp, r.mono sm fun a z => nf a (List.mem_append_left _ z), .cons (F := []) (.d (.tup (SqT.of upd_same) (.cons (dr_mono sm ha) (.cons (dr_mono sm hb) .nil)))) (w.mono sm fun a z => nf a (List.mem_append_right _ z)), km⟩
theorem zip_two {I H : Hp} {x y : V} {da db : PyData} {ws : List V} {ts : List T} {F : List Addr} (w : RepTs K I H (x :: y :: ws) (.d da :: .d db :: ts) F) : Dr K I x da ∧ Dr K I y db := by
  cases w with
  | cons a w =>
    cases a with
    | d a =>
      cases w with
      | cons b w =>
        cases b with
        | d b => exact ⟨a, b⟩
theorem walk_zll {a b : Addr} {as bs : List PyData} : JWalk K (Itz K a b) [.ref a, .ref b] [.d (.list as), .d (.list bs)] (pairsD as bs) := fun m B σ H ρ ws ts i ok => by
  obtain ⟨I, Fr, Fw, s, r, wz, km⟩ := id ok
  obtain ⟨d1, d2⟩ := zip_two (ws := ws) (ts := ts) wz
  cases d1 with
  | lst h1 q1 =>
    cases d2 with
    | lst h2 q2 =>
      rename_i xs ys
      have g1 := s.sub _ _ h1
      have g2 := s.sub _ _ h2
      refine ⟨fun hi => ⟨xs, ys, SqL.of g1, SqL.of g2, by rw [q1.len, q2.len]; rw [pairsD_len] at hi; omega⟩, fun d hd => ?_⟩
      obtain ⟨da, db, e1, e2, rfl⟩ := pairsD_get as bs i d hd
      obtain ⟨x, hx, rx⟩ := q1.get' e1
      obtain ⟨y, hy, ry⟩ := q2.get' e2
      refine ⟨⟨xs, ys, x, y, SqL.of g1, SqL.of g2, hx, hy⟩, fun v H' yl => ?_⟩
      obtain ⟨p, x', y', rfl, hp, rfl, f1, f2⟩ := yl
      have e3 := (f1 xs (SqL.of g1)).symm.trans hx
      have e4 := (f2 ys (SqL.of g2)).symm.trans hy
      cases e3
      cases e4
      exact Ok.pairUp s r wz km rx ry hp
theorem walk_ztt {a b : Addr} {as bs : List PyData} : JWalk K (RZ.ItzT K a b) [.ref a, .ref b] [.d (.tuple as), .d (.tuple bs)] (pairsD as bs) := fun m B σ H ρ ws ts i ok => by
  obtain ⟨I, Fr, Fw, s, r, wz, km⟩ := id ok
  obtain ⟨d1, d2⟩ := zip_two (ws := ws) (ts := ts) wz
  cases d1 with
  | tup h1 q1 =>
    cases d2 with
    | tup h2 q2 =>
      rename_i xs ys
      have g1 := st_mono s.sub h1
      have g2 := st_mono s.sub h2
      refine ⟨fun hi => ⟨xs, ys, g1, g2, by rw [q1.len, q2.len]; rw [pairsD_len] at hi; omega⟩, fun d hd => ?_⟩
      obtain ⟨da, db, e1, e2, rfl⟩ := pairsD_get as bs i d hd
      obtain ⟨x, hx, rx⟩ := q1.get' e1
      obtain ⟨y, hy, ry⟩ := q2.get' e2
      refine ⟨⟨xs, ys, x, y, g1, g2, hx, hy⟩, fun v H' yl => ?_⟩
      obtain ⟨p, x', y', rfl, hp, rfl, f1, f2⟩ := yl
      have e3 := (f1 xs g1).symm.trans hx
      have e4 := (f2 ys g2).symm.trans hy
      cases e3
      cases e4
      exact Ok.pairUp s r wz km rx ry hp
theorem walk_ztl {a b : Addr} {as bs : List PyData} : JWalk K (ItzM K a b) [.ref a, .ref b] [.d (.tuple as), .d (.list bs)] (pairsD as bs) := fun m B σ H ρ ws ts i ok => by
  obtain ⟨I, Fr, Fw, s, r, wz, km⟩ := id ok
  obtain ⟨d1, d2⟩ := zip_two (ws := ws) (ts := ts) wz
  cases d1 with
  | tup h1 q1 =>
    cases d2 with
    | lst h2 q2 =>
      rename_i xs ys
      have g1 := st_mono s.sub h1
      have g2 := s.sub _ _ h2
      refine ⟨fun hi => ⟨xs, ys, g1, SqL.of g2, by rw [q1.len]; rw [pairsD_len] at hi; omega, by rw [q2.len]; rw [pairsD_len] at hi; omega, by rw [q1.len, q2.len]; rw [pairsD_len] at hi; omega⟩, fun d hd => ?_⟩
      obtain ⟨da, db, e1, e2, rfl⟩ := pairsD_get as bs i d hd
      obtain ⟨x, hx, rx⟩ := q1.get' e1
      obtain ⟨y, hy, ry⟩ := q2.get' e2
      refine ⟨⟨xs, ys, x, y, g1, SqL.of g2, hx, hy⟩, fun v H' yl => ?_⟩
      obtain ⟨p, x', y', rfl, hp, rfl, f1, f2⟩ := yl
      have e3 := (f1 xs g1).symm.trans hx
      have e4 := (f2 ys (SqL.of g2)).symm.trans hy
      cases e3
      cases e4
      exact Ok.pairUp s r wz km rx ry hp
end
section
variable {X : Cx} {w : Wd} {e e2 : Expr} {elts : List Expr} {kk : Nat} {p pos tpos : Pos} {os : List (Option Nat)} {fs : M (List T)}
theorem di_zip (hm : NoG X "zip") (ha : DA X w [e, e2] os fs) (hg : Gl X "zip" := by rfl) (hs : starEach [e, e2] X.env = (false, eval e X.env) :: starEach [e2] X.env := by rfl) (hpl : (backTo pos (starEach [e2] X.env)).any (·.1) = false := by rfl) :
    DI X w (.Tuple elts kk tpos) (.Call (.Name "zip" p) [e, e2] [] pos) (dzip fs) := by
  obtain ⟨t, pt, dt⟩ := ha.ex
  refine ⟨_, PI.or (RZ.pi_zipA hg hm pt hs hpl) (pi_zipM hg hm pt hs hpl), fun B σ H ρ ws ts R ok q => ?_⟩
  have q := q.bind
  cases e1 : fs ρ with
  | no => rw [e1] at q; exact q.elim
  | ex er ρ1 => rw [e1] at q; exact .inl (dt B σ H ρ ws ts _ ok (by rw [e1]; exact q))
  | ok vs ρ1 =>
    rw [e1] at q
    obtain ⟨ds, e2, q2⟩ := (show PostG X.K w B (mopt (zipItems vs) ρ1) _ from q).opt
    unfold zipItems at e2
    split at e2
    · cases e2
      refine .inl (dt B σ H ρ ws ts _ ok ?_)
      rw [e1]
      intro xs H1 hl ok1 _
      obtain ⟨x, y, rfl⟩ := two_of hl
      obtain ⟨a, us, rfl, ha, _⟩ := Ok.topList (ws := y :: ws) (ts := _ :: ts) ok1
      obtain ⟨b, zs, rfl, hb, _⟩ := Ok.topList (Ok.pop (ws := y :: ws) (ts := _ :: ts) ok1)
      exact ⟨a, b, us, zs, rfl, .inl ⟨SqL.of ha, SqL.of hb, q2 _ H1 [.ref a, .ref b] [.d (.list _), .d (.list _)] rfl ok1 walk_zll⟩⟩
    · cases e2
      refine .inl (dt B σ H ρ ws ts _ ok ?_)
      rw [e1]
      intro xs H1 hl ok1 _
      obtain ⟨x, y, rfl⟩ := two_of hl
      obtain ⟨a, us, rfl, ha, _⟩ := Ok.topTup (ws := y :: ws) (ts := _ :: ts) ok1
      obtain ⟨b, zs, rfl, hb, _⟩ := Ok.topTup (Ok.pop (ws := y :: ws) (ts := _ :: ts) ok1)
      exact ⟨a, b, us, zs, rfl, .inr ⟨ha, hb, q2 _ H1 [.ref a, .ref b] [.d (.tuple _), .d (.tuple _)] rfl ok1 walk_ztt⟩⟩
    · cases e2
      refine .inr (dt B σ H ρ ws ts _ ok ?_)
      rw [e1]
      intro xs H1 hl ok1 _
      obtain ⟨x, y, rfl⟩ := two_of hl
      obtain ⟨a, us, rfl, ha, _⟩ := Ok.topTup (ws := y :: ws) (ts := _ :: ts) ok1
      obtain ⟨b, zs, rfl, hb, _⟩ := Ok.topList (Ok.pop (ws := y :: ws) (ts := _ :: ts) ok1)
      exact ⟨a, b, us, zs, rfl, ha, SqL.of hb, q2 _ H1 [.ref a, .ref b] [.d (.tuple _), .d (.list _)] rfl ok1 walk_ztl⟩
    · cases e2
end
end DL
end
section
set_option Elab.async false
set_option linter.all false
set_option maxRecDepth 100000
set_option maxHeartbeats 4000000
/-! DLF: own dicts; a function that a slot holds. -/
namespace DL
open PySem L2

/-! ### own dicts -/
def tget (kvs : List (Key × T)) (k : Key) : Option T := (kvs.find? fun kv => decide (kv.1 = k)).map (·.2)
def tputK (kvs : List (Key × T)) (k : Key) (v : T) : List (Key × T) := if (kvs.any fun kv => decide (kv.1 = k)) = true then kvs.map (fun kv => if kv.1 = k then (kv.1, v) else kv) else kvs ++ [(k, v)]
def keyT : T → Option Key
  | .d (.str z) => some (.inr z)
  | .d (.int i) => some (.inl i)
  | _ => none
section
variable {K : PySem.W.Frag} {m : List Bool} {B : Bs} {σ : St} {H : Hp} {ρ : Rho} {ws : List V} {ts : List T} {x y v : V} {t u : T}
theorem Ok.topKey {k : Key} (h : Ok K m B σ H ρ (x :: ws) (t :: ts)) (e : keyT t = some k) : x = kV k := by
  unfold keyT at e
  split at e
  · cases e; exact h.topStr
  · cases e; exact h.topInt
  · cases e
theorem val_of {I : Hp} : ∀ {vs : List (Key × V)} {kvs : List (Key × T)} {F : List Addr} {k : Key}, vs.map (·.1) = kvs.map (·.1) → RepTs K I H (vs.map (·.2)) (kvs.map (·.2)) F →
    (∀ d, tget kvs k = some (.d d) → ∃ v, valV vs k = some v ∧ Dr K I v d) ∧ (tget kvs k = none → valV vs k = none)
  | [], [], _, _, _, _ => ⟨fun d e => (nomatch e), fun _ => rfl⟩
  | [], _ :: _, _, _, e, _ => nomatch e
  | _ :: _, [], _, _, e, _ => nomatch e
  | (a, v) :: vs, (b, t) :: kvs, F, k, e, r => by
    rw [List.map_cons, List.map_cons] at e
    obtain ⟨e1, e2⟩ := List.cons.inj e
    have e1 : a = b := e1
    subst e1
    cases r with
    | cons r1 r2 =>
      obtain ⟨h1, h2⟩ := val_of (k := k) e2 r2
      by_cases q : a = k
      · refine ⟨fun d z => ?_, fun z => ?_⟩
        · have : t = .d d := by simpa [tget, List.find?_cons, q] using z
          subst this
          cases r1 with
          | d r1 => exact ⟨v, valV_pos q, r1⟩
        · simp [tget, List.find?_cons, q] at z
      · refine ⟨fun d z => ?_, fun z => ?_⟩
        · obtain ⟨v', g1, g2⟩ := h1 d (by simpa [tget, List.find?_cons, q] using z)
          exact ⟨v', by rw [valV_neg q]; exact g1, g2⟩
        · rw [valV_neg q]
          exact h2 (by simpa [tget, List.find?_cons, q] using z)
/-- the own dict on top is read -/
theorem Ok.dctGet {kvs : List (Key × T)} {k : Key} (h : Ok K m B σ H ρ (x :: ws) (.dct kvs :: ts)) : ∃ a vs, x = .ref a ∧ H a = some (.dK vs) ∧ (tget kvs k = none → valV vs k = none) ∧ ∀ d, tget kvs k = some (.d d) → ∃ v, valV vs k = some v ∧ Ok K m B σ H ρ (v :: x :: ws) (.d d :: .dct kvs :: ts) := by
  obtain ⟨I, Fr, Fw, s, r, w, km⟩ := h
  cases w with
  | cons a b =>
    cases a with
    | dct hp k1 k2 k3 it =>
      rename_i p vs us xs F
      subst k2 k3
      obtain ⟨h1, h2⟩ := val_of (k := k) k1 it
      refine ⟨p, vs, rfl, hp, h2, fun d e => ?_⟩
      obtain ⟨v, g1, g2⟩ := h1 d e
      exact ⟨v, g1, I, Fr, _, s, r, .cons (F := []) (.d g2) (.cons (.dct hp k1 rfl rfl it) b), km⟩
theorem put_keys {κ α β : Type} [DecidableEq κ] (k : κ) : ∀ {vs : List (κ × α)} {kvs : List (κ × β)}, vs.map (·.1) = kvs.map (·.1) → (vs.any fun kv => decide (kv.1 = k)) = (kvs.any fun kv => decide (kv.1 = k))
  | [], [], _ => rfl
  | [], _ :: _, e => nomatch e
  | _ :: _, [], e => nomatch e
  | a :: vs, b :: kvs, e => by
    rw [List.map_cons, List.map_cons] at e
    obtain ⟨e1, e2⟩ := List.cons.inj e
    rw [List.any_cons, List.any_cons, put_keys k e2, e1]
theorem put_rep {I : Hp} {k : Key} {v : V} {d : PyData} (hd : Dr K I v d) : ∀ {vs : List (Key × V)} {kvs : List (Key × T)} {F : List Addr}, vs.map (·.1) = kvs.map (·.1) → RepTs K I H (vs.map (·.2)) (kvs.map (·.2)) F →
    ∃ G, RepTs K I H ((vs.map fun kv => if kv.1 = k then (kv.1, v) else kv).map (·.2)) ((kvs.map fun kv => if kv.1 = k then (kv.1, T.d d) else kv).map (·.2)) G ∧ List.Sublist G F ∧
      (vs.map fun kv => if kv.1 = k then (kv.1, v) else kv).map (·.1) = (kvs.map fun kv => if kv.1 = k then (kv.1, T.d d) else kv).map (·.1)
  | [], [], _, _, .nil => ⟨[], .nil, List.Sublist.refl _, rfl⟩
  | [], _ :: _, _, e, _ => nomatch e
  | _ :: _, [], _, e, _ => nomatch e
  | (a, v0) :: vs, (b, t) :: kvs, F, e, r => by
    rw [List.map_cons, List.map_cons] at e
    obtain ⟨e1, e2⟩ := List.cons.inj e
    have e1 : a = b := e1
    subst e1
    cases r with
    | cons r1 r2 =>
      rename_i F1 F2
      obtain ⟨G, g1, g2, g3⟩ := put_rep hd e2 r2
      by_cases q : a = k
      · refine ⟨G, ?_, g2.trans (List.sublist_append_right _ _), ?_⟩
        · simp only [List.map_cons, q, if_true]
          exact .cons (F := []) (.d hd) g1
        · simp only [List.map_cons, q, if_true]
          exact congrArg _ g3
      · refine ⟨F1 ++ G, ?_, List.Sublist.append (List.Sublist.refl _) g2, ?_⟩
        · simp only [List.map_cons, q, if_false]
          exact .cons r1 g1
        · simp only [List.map_cons, q, if_false]
          exact congrArg _ g3
/-- data is stored into the own dict on top -/
theorem Ok.dctPut {kvs : List (Key × T)} {k : Key} {d : PyData} (h : Ok K m B σ H ρ (x :: v :: ws) (.dct kvs :: .d d :: ts)) : ∃ a vs, x = .ref a ∧ H a = some (.dK vs) ∧ vs.length = kvs.length ∧ Ok K m B σ (upd H a (.dK (putK vs k v))) ρ (.ref a :: ws) (.dct (tputK kvs k (.d d)) :: ts) := by
  obtain ⟨I, Fr, Fw, s, r, w, km⟩ := h
  cases w with
  | cons a b =>
    rename_i F1 F2
    cases a with
    | dct hp k1 k2 k3 it =>
      rename_i p vs us xs F
      subst k2 k3
      cases b with
      | cons c e =>
        rename_i F3 F4
        cases c with
        | d c =>
          refine ⟨p, vs, rfl, hp, by have := congrArg List.length k1; simpa using this, ?_⟩
          have mem : p ∈ Fr ++ (p :: F ++ ([] ++ F4)) := by simp
          have nd := s.nd
          have other : ∀ q ∈ Fr ++ (F ++ F4), q ≠ p := fun q z e => by
            subst e
            have : List.Perm (Fr ++ (q :: F ++ ([] ++ F4))) (q :: (Fr ++ (F ++ F4))) := by
              rw [List.nil_append]
              exact List.perm_middle
            exact (List.nodup_cons.mp (this.nodup_iff.mp nd)).1 z
          have fx : ∀ q ∈ Fr ++ (F ++ F4), (upd H p (.dK (putK vs k v))) q = H q := fun q z => upd_ne (other q z)
          have it' := it.mono (H' := upd H p (.dK (putK vs k v))) (Same.refl _) fun q z => fx q (by simp [z])
          have e' := e.mono (H' := upd H p (.dK (putK vs k v))) (Same.refl _) fun q z => fx q (by simp [z])
          have r' := r.mono (H' := upd H p (.dK (putK vs k v))) (Same.refl _) fun q z => fx q (by simp [z])
          have sw := s.write (o := .dK (putK vs k v)) mem
          have key := put_keys k k1
          unfold tputK
          unfold putK at it' e' r' sw ⊢
          by_cases q : (kvs.any fun kv => decide (kv.1 = k)) = true
          · rw [if_pos q]
            rw [key, if_pos q] at it' e' r' sw ⊢
            obtain ⟨G, g1, g2, g3⟩ := put_rep (k := k) c k1 it'
            refine ⟨I, Fr, (p :: G) ++ F4, sw.less (fun a z => ?_) ?_, r', .cons (.dct upd_same g3 rfl rfl g1) e', km⟩
            · rcases List.mem_append.mp z with z | z
              · exact List.mem_append_left _ z
              · refine List.mem_append_right _ ?_
                rcases List.mem_append.mp z with z | z
                · refine List.mem_append_left _ ?_
                  rcases List.mem_cons.mp z with z | z
                  · exact z ▸ List.mem_cons_self
                  · exact List.mem_cons_of_mem _ (g2.mem z)
                · exact List.mem_append_right _ (by simpa using z)
            · refine List.Sublist.nodup ?_ nd
              refine List.Sublist.append (List.Sublist.refl _) ?_
              rw [List.nil_append]
              exact List.Sublist.append (List.Sublist.cons₂ _ g2) (List.Sublist.refl _)
          · rw [if_neg q]
            rw [key, if_neg q] at it' e' r' sw ⊢
            have g1 : RepTs K I (upd H p (.dK (vs ++ [(k, v)]))) ((vs ++ [(k, v)]).map (·.2)) ((kvs ++ [(k, T.d d)]).map (·.2)) F := by
              obtain ⟨E, z1, z2⟩ := RepTs.append it' (RepTs.cons (F := []) (.d c) .nil)
              rw [List.append_nil, List.append_nil] at z2
              subst z2
              rw [List.map_append, List.map_append]
              exact z1
            refine ⟨I, Fr, (p :: F) ++ F4, sw.perm (by simp), r', .cons (.dct upd_same (by rw [List.map_append, List.map_append, k1]; rfl) rfl rfl g1) e', km⟩
end
section
variable {X : Cx} {w : Wd} {x : Str} {p pos : Pos} {e e1 e2 : Expr} {fk fd f1 f2 : M T}
def gDget (t k : T) : Option T := match t, keyT k with
  | .dct kvs, some q => (match tget kvs q with
    | some (.d d) => some (.d d)
    | _ => none)
  | _, _ => none
def ddget (i : Nat) (fk : M T) : M T := mbind (dhas i) fun _ => mbind fk fun k => dreadO i fun t => gDget t k
theorem slot_eq {σ : St} {i : Nat} {a b : V} (h1 : σ[i]? = some (some a)) (h2 : σ[i]? = some (some b)) : a = b := by
  rw [h1] at h2
  exact Option.some.inj (Option.some.inj h2)
theorem de_ddget (hu : X.A.units + 64 < cLine) (i : Nat) (hk : DE X w e fk) (hs : NoSl e := by exact fun _ _ => rfl) (hN : X.N[i]? = some x := by rfl) (hv : Vis X.env.scope x := by first | exact Or.inl rfl | exact Or.inr (Or.inl rfl) | exact Or.inr (Or.inr rfl)) (hd : (x == ("__debug__" : Str)) = false := by decide)
    (hcd : (x == ("__classdict__" : Str)) = false := by decide) : DE X w (.Subscript (.Name x p) e pos) (ddget i fk) := by
  obtain ⟨t, pt, dt⟩ := hk.ex
  refine de_v (pe_dget (by omega) (pe_var hN hv hd hcd) pt hs) fun B σ H ρ ws ts Q ok q => ?_
  obtain ⟨⟨v, hv0⟩, q⟩ := dhas_of ok q.bind
  refine ⟨v, hv0, ?_⟩
  refine dt B σ H ρ ws ts _ ok (PostG.mono (PostG.bind q) fun k ρ1 p1 y H1 ok1 => ?_)
  obtain ⟨t0, z, e1, e2, p2⟩ := dread_of p1
  obtain ⟨v', h1, ok2⟩ := ok1.take e1
  have ev := slot_eq h1 hv0
  subst ev
  unfold gDget at e2
  split at e2
  · rename_i kvs q0 hq
    obtain ⟨a, vs, rfl, ha, _, hg⟩ := Ok.dctGet (k := q0) ok2
    cases e3 : tget kvs q0 with
    | none => rw [e3] at e2; cases e2
    | some u =>
      rw [e3] at e2
      cases u with
      | d d0 =>
        cases e2
        obtain ⟨v1, g1, ok3⟩ := hg d0 e3
        have hy := ok1.topKey hq
        subst hy
        refine ⟨a, v1, rfl, ?_, p2 _ _ ?_⟩
        · have := DGet.k (k := q0) ha
          rw [g1] at this
          exact this
        · have ok4 := ok3.swap.back (i := i) h1
          rw [set_get e1] at ok4
          exact ok4.inStead
      | _ => cases e2
  · cases e2
/-- d.get(k, x), both data -/
def gDget2 (t k z : T) : Option T := match t, keyT k with
  | .dct kvs, some q => (match tget kvs q, z with
    | some (.d d), _ => some (.d d)
    | none, .d d => some (.d d)
    | _, _ => none)
  | _, _ => none
def ddget2 (i : Nat) (fk fz : M T) : M T := mbind (dtyp "dict" i) fun _ => mbind fk fun k => mbind fz fun z => dreadO i fun t => gDget2 t k z
theorem dtyp_of {K : PySem.W.Frag} {w : Wd} {B : Bs} {σ : St} {H : Hp} {ρ : Rho} {ws : List V} {ts : List T} {i : Nat} {n : String} {P : Unit → Rho → Prop} (ok : Ok K w.m B σ H ρ ws ts) (q : PostG K w B (dtyp n i ρ) P) : (∃ v, σ[i]? = some (some v) ∧ L2.tyV K n v H) ∧ (∃ t, ρ[i]? = some (some t) ∧ tyT t = some n) ∧ P () ρ := by
  unfold dtyp at q
  cases e : ρ[i]? with
  | none => rw [e] at q; exact q.elim
  | some o =>
    cases o with
    | none => rw [e] at q; exact q.elim
    | some u =>
      rw [e] at q
      by_cases hq : tyT u = some n
      · simp only [if_pos hq] at q
        exact ⟨ok.peek e hq, ⟨u, rfl, hq⟩, q⟩
      · simp only [if_neg hq] at q
        exact q.elim
theorem isD_of {K : PySem.W.Frag} {H : Hp} {v : V} (h : L2.tyV K "dict" v H) : ∃ a, v = .ref a ∧ IsD H a := by
  cases v with
  | ref a =>
    rcases h with ⟨e, _⟩ | ⟨e, _⟩ | ⟨_, h⟩ | ⟨e, _⟩
    · exact absurd e (by decide)
    · exact absurd e (by decide)
    · rcases h with ⟨kvs, h⟩ | ⟨kvs, h⟩
      · exact ⟨a, rfl, .inl ⟨kvs, .inl h⟩⟩
      · exact ⟨a, rfl, .inr ⟨kvs, .inl h⟩⟩
    · exact absurd e (by decide)
  | _ => exact absurd h (by first | (intro z; exact absurd (show "dict" = _ from z) (by decide)) | (intro z; exact z))
theorem de_ddget2 (hu : X.A.units + 64 < cLine) (i : Nat) {apos : Pos} (hk : DE X w e f1) (hz : DE X w e2 f2) (hN : X.N[i]? = some x := by rfl) (hv : Vis X.env.scope x := by first | exact Or.inl rfl | exact Or.inr (Or.inl rfl) | exact Or.inr (Or.inr rfl)) (hd : (x == ("__debug__" : Str)) = false := by decide)
    (hcd : (x == ("__classdict__" : Str)) = false := by decide) (mm : M2 X (.Name x p) "get" apos e e2 pos := by exact ⟨rfl, rfl, rfl, rfl⟩) : DE X w (.Call (.Attribute (.Name x p) "get" apos) [e, e2] [] pos) (ddget2 i f1 f2) := by
  obtain ⟨t, pt, dt⟩ := hk.ex
  obtain ⟨t', pt', dt'⟩ := hz.ex
  refine de_v (pe_dget2 (by omega) (pe_var hN hv hd hcd) pt pt' mm) fun B σ H ρ ws ts Q ok q => ?_
  obtain ⟨⟨v, hv0, ty⟩, _, q⟩ := dtyp_of ok q.bind
  refine ⟨v, hv0, ?_⟩
  obtain ⟨a0, rfl, isd⟩ := isD_of ty
  refine ⟨a0, rfl, isd, ?_⟩
  refine dt B σ H ρ ws ts _ ok (PostG.mono (PostG.bind q) fun k ρ1 p1 y H1 ok1 => ?_)
  refine dt' B σ H1 ρ1 _ _ _ ok1 (PostG.mono (PostG.bind p1) fun z ρ2 p2 y2 H2 ok2 => ?_)
  obtain ⟨t0, r0, e1, e2, p3⟩ := dread_of p2
  obtain ⟨v', h1, ok3⟩ := ok2.take e1
  have ev := slot_eq h1 hv0
  subst ev
  unfold gDget2 at e2
  split at e2
  · rename_i kvs q0 hq
    obtain ⟨a, vs, ea, ha, hnone, hg⟩ := Ok.dctGet (k := q0) ok3
    cases ea
    have hy := ok2.pop.topKey hq
    subst hy
    cases e3 : tget kvs q0 with
    | none =>
      rw [e3] at e2
      cases z with
      | d d0 =>
        cases e2
        refine ⟨none, ?_, p3 _ _ ok2.inStead⟩
        have := DGet.k (k := q0) ha
        rw [hnone e3] at this
        exact this
      | _ => cases e2
    | some u =>
      rw [e3] at e2
      cases u with
      | d d0 =>
        cases e2
        obtain ⟨v1, g1, ok4⟩ := hg d0 e3
        refine ⟨some v1, ?_, p3 _ _ ?_⟩
        · have := DGet.k (k := q0) ha
          rw [g1] at this
          exact this
        · have ok5 := ok4.swap.back (i := i) h1
          rw [set_get e1] at ok5
          exact ok5.inStead.inStead
      | _ => cases z <;> cases e2
  · cases e2
/-- d[k] = v -/
def gDput (t k v : T) : Option T := match t, keyT k, v with
  | .dct kvs, some q, .d d => if kvs.length < lim then some (.dct (tputK kvs q (.d d))) else none
  | _, _, _ => none
def ddput (i : Nat) (k v : T) : M Unit := fun ρ => match ρ[i]? with
  | some (some t) => (match gDput t k v with
    | some t1 => .ok () (ρ.set i (some t1))
    | none => .no)
  | _ => .no
def sdput (i : Nat) (fk fv : M T) : M Fl := mbind fv fun v => mbind (dhas i) fun _ => mbind fk fun k => mbind (ddput i k v) fun _ => mret .nx
theorem ds_dput (hu : X.A.units + 64 < cLine) (i : Nat) {pos' : Pos} (hk : DE X w e f1) (hz : DE X w e2 f2) (hN : X.N[i]? = some x := by rfl) (hv : Vis X.env.scope x := by first | exact Or.inl rfl | exact Or.inr (Or.inl rfl) | exact Or.inr (Or.inr rfl)) (hd : (x == ("__debug__" : Str)) = false := by decide)
    (hcd : (x == ("__classdict__" : Str)) = false := by decide) (hs : swapsWith e2 (some (.Subscript (.Name x p) e pos')) pos.line X.env = pure false := by rfl) : DS X w (.Assign [.Subscript (.Name x p) e pos'] e2 pos) (sdput i f1 f2) := by
  obtain ⟨t, pt, dt⟩ := hk.ex
  obtain ⟨t', pt', dt'⟩ := hz.ex
  refine ⟨_, ps_dput (by omega) (pe_var hN hv hd hcd) pt pt' hs, fun B σ H ρ ws ts D ok q => ?_⟩
  refine dt' B σ H ρ ws ts _ ok (PostG.mono (PostG.bind q) fun z ρ1 p1 y1 H1 ok1 => ?_)
  obtain ⟨⟨ov, hov⟩, p1⟩ := dhas_of ok1 (PostG.bind p1)
  refine ⟨ov, hov, ?_⟩
  refine dt B σ H1 ρ1 _ _ _ ok1 (PostG.mono (PostG.bind p1) fun k ρ2 p2 y2 H2 ok2 => ?_)
  have p2 := PostG.bind p2
  unfold ddput at p2
  cases e1 : ρ2[i]? with
  | none => rw [e1] at p2; exact p2.elim
  | some o =>
    cases o with
    | none => rw [e1] at p2; exact p2.elim
    | some t0 =>
      rw [e1] at p2
      simp only at p2
      cases e2 : gDput t0 k z with
      | none => rw [e2] at p2; exact p2.elim
      | some t1 =>
        rw [e2] at p2
        unfold gDput at e2
        split at e2
        · rename_i kvs q0 d0 hq _
          obtain ⟨hl, e2⟩ := reqs e2
          subst e2
          have hy := ok2.topKey hq
          subst hy
          obtain ⟨v', h1, ok3⟩ := ok2.pop.take e1
          have ev := slot_eq h1 hov
          subst ev
          obtain ⟨a, vs, rfl, ha, hlen, ok4⟩ := Ok.dctPut (k := q0) ok3
          refine ⟨a, _, rfl, DPut.k ha (by rw [hlen]; exact lim_lt hl), ?_⟩
          have ok5 := ok4.back (i := i) h1
          rw [List.set_set] at ok5
          exact (show ∀ σ' H', Ok X.K w.m B σ' H' _ ws ts → D.nx σ' H' from p2) σ _ ok5
        · cases e2
/-! displays -/
structure DPs (X : Cx) (w : Wd) (pos : Pos) (zs : List Str) (keys : List (Option Expr)) (vals : List Expr) (fs : M (List T)) : Prop where
  ex : ∃ trs, PPs X pos keys vals trs ∧ ∀ B σ H ρ ws ts Q, Ok X.K w.m B σ H ρ ws ts → PostG X.K w B (fs ρ) (fun us ρ' => ∀ ys H', ys.length = us.length → Ok X.K w.m B σ H' ρ' (ys ++ ws) (us ++ ts) → Q ((zs.map V.str).zip ys) H') → tPairs trs σ H Q
  len : ∀ us ρ ρ', fs ρ = .ok us ρ' → us.length = zs.length
theorem dps_nil : DPs X w pos [] [] [] (mret []) := ⟨⟨_, pps_nil, fun B σ H ρ ws ts Q ok q => q [] H rfl ok⟩, fun us ρ ρ' e => by cases e; rfl⟩
theorem dps_cons {z : Str} {zs : List Str} {j} {kp : Pos} {keys : List (Option Expr)} {vals : List Expr} {f : M T} {fs : M (List T)} (hv : DE X w e f) (h : DPs X w pos zs keys vals fs) : DPs X w pos (z :: zs) (some (.Constant (.str z) j kp) :: keys) (e :: vals) (dcons f fs) := by
  obtain ⟨t, pt, dt⟩ := hv.ex
  obtain ⟨trs, pp, dp⟩ := h.ex
  refine ⟨⟨_, pps_cons pe_str pt pp, fun B σ H ρ ws ts Q ok q => ?_⟩, dcons_len h.len⟩
  show t σ H _
  refine dt B σ H ρ ws ts _ ok (PostG.mono (PostG.bind q) fun u ρ1 p1 y H1 ok1 => ?_)
  refine dp B σ H1 ρ1 _ _ _ ok1 (PostG.mono (PostG.bind p1) fun us ρ2 p2 ys H2 hl ok2 => ?_)
  exact (show ∀ ys H', ys.length = (u :: us).length → Ok X.K w.m B σ H' ρ2 (ys ++ ws) ((u :: us) ++ ts) → Q (((z :: zs).map V.str).zip ys) H' from p2) (y :: ys) H2 (by simp [hl]) (Ok.perm3 hl ok2)
def gDisp (zs : List Str) (us : List T) : T := .dct ((zs.map Sum.inr).zip us)
def ddisp (zs : List Str) (fs : M (List T)) : M T := mbind fs fun us => mret (gDisp zs us)
theorem merge_nodup : ∀ {more acc : List (Key × V)}, ((acc ++ more).map (·.1)).Nodup → mergeK acc more = acc ++ more
  | [], acc, _ => by rw [List.append_nil]; rfl
  | kv :: more, acc, nd => by
    have h1 : (acc.any fun q => decide (q.1 = kv.1)) = false := by
      rw [List.any_eq_false]
      intro q hq
      have nd' : (acc.map (·.1) ++ (kv.1 :: more.map (·.1))).Nodup := by simpa using nd
      have := (List.nodup_append.mp nd').2.2 q.1 (List.mem_map_of_mem hq) kv.1 List.mem_cons_self
      simpa using this
    show mergeK (putK acc kv.1 kv.2) more = _
    have e : putK acc kv.1 kv.2 = acc ++ [kv] := by
      unfold putK
      rw [if_neg (by rw [h1]; decide)]
    rw [e, merge_nodup (by simpa using nd), List.append_assoc]
    rfl
theorem de_disp {zs : List Str} {keys : List (Option Expr)} {vals : List Expr} {fs : M (List T)} (h : DPs X w pos zs keys vals fs) (nd : zs.Nodup := by decide) (hall : keys.all (·.isSome) = true := by rfl) (hl : keys.length = vals.length := by rfl) (h0 : keys ≠ [] := by intro z; cases z) (h15 : keys.length ≤ 15 := by decide) (hz : zs.length = keys.length := by rfl) :
    DE X w (.Dict keys vals pos) (ddisp zs fs) := by
  obtain ⟨trs, pp, dp⟩ := h.ex
  refine de_v (pe_disp pp hall hl h0 h15) fun B σ H ρ ws ts Q ok q a ha => ?_
  obtain ⟨I, Fr, Fw, s, r, wz, km⟩ := id ok
  have nf : ∀ b ∈ Fr ++ Fw, (upd H a (.dK [])) b = H b := fun b z => upd_ne (show b ≠ a from fun e => s.thr b z (by rw [e]; exact ha))
  have ok0 : Ok X.K w.m B σ (upd H a (.dK [])) ρ (.ref a :: ws) (.dct [] :: ts) := ⟨I, Fr, a :: Fw, (s.newO ha).perm List.perm_middle.symm, r.mono (Same.refl _) fun b z => nf b (List.mem_append_left _ z),
    .cons (F := [a]) (.dct (kvs := []) upd_same rfl rfl rfl .nil) (wz.mono (Same.refl _) fun b z => nf b (List.mem_append_right _ z)), km⟩
  have q := q.bind
  cases e1 : fs ρ with
  | no => rw [e1] at q; exact q.elim
  | ex er ρ1 => exact dp B σ _ ρ _ _ _ ok0 (by rw [e1]; rw [e1] at q; exact q)
  | ok us ρ1 =>
    rw [e1] at q
    have lus := h.len us ρ ρ1 e1
    refine dp B σ _ ρ _ _ _ ok0 ?_
    rw [e1]
    intro ys H2 hy ok2
    obtain ⟨I2, Fr2, Fw2, s2, r2, w2, km2⟩ := id ok2
    obtain ⟨G, E, rfl, g, e⟩ := RepTs.split hy w2
    cases e with
    | cons a1 b1 =>
      rename_i F5 F6
      cases a1 with
      | dct hp k1 k2 k3 it =>
        rename_i vs us' xs F7
        have hvs : vs = [] := List.map_eq_nil_iff.mp k1
        subst hvs
        subst k2 k3
        cases it
        have ez : (zs.map V.str).zip ys = ((zs.map Sum.inr).zip ys).map fun kv : Key × V => (kV kv.1, kv.2) := by
          have gen : ∀ (zs : List Str) (ys : List V), (zs.map V.str).zip ys = ((zs.map Sum.inr).zip ys).map fun kv : Key × V => (kV kv.1, kv.2) := fun zs => by
            induction zs with
            | nil => intro ys; rfl
            | cons z zs ih =>
              intro ys
              cases ys with
              | nil => rfl
              | cons y ys => simp only [List.map_cons, List.zip_cons_cons, ih ys]; rfl
          exact gen zs ys
        have l1 : (zs.map (Sum.inr : Str → Key)).length = ys.length := by rw [List.length_map, hy, lus]
        have l2 : (zs.map (Sum.inr : Str → Key)).length = us.length := by rw [List.length_map, lus]
        refine ⟨hp, (zs.map Sum.inr).zip ys, ez, ?_, ?_⟩
        · rw [List.length_zip, List.length_map]
          omega
        · have em : mergeK [] ((zs.map Sum.inr).zip ys) = (zs.map Sum.inr).zip ys := by
            rw [merge_nodup]
            · rfl
            · rw [List.nil_append, List.map_fst_zip (by omega)]
              exact nd.map (f := Sum.inr) (fun a b h h' => h (Sum.inr.inj h'))
          rw [em]
          have mem : a ∈ Fr2 ++ (G ++ ([a] ++ F6)) := by simp
          have nd2 := s2.nd
          have other : ∀ c ∈ Fr2 ++ (G ++ F6), c ≠ a := fun c z e => by
            subst e
            have : List.Perm (Fr2 ++ (G ++ ([c] ++ F6))) (c :: (Fr2 ++ (G ++ F6))) := by
              refine List.Perm.trans (List.Perm.append_left _ ?_) List.perm_middle
              exact List.perm_middle
            exact (List.nodup_cons.mp (this.nodup_iff.mp nd2)).1 z
          have fx : ∀ c ∈ Fr2 ++ (G ++ F6), (upd H2 a (.dK ((zs.map Sum.inr).zip ys))) c = H2 c := fun c z => upd_ne (other c z)
          refine (show ∀ x H', Ok X.K w.m B σ H' ρ1 (x :: ws) (gDisp zs us :: ts) → Q x H' from q) _ _ ⟨I2, Fr2, (a :: G) ++ F6, (s2.write (o := .dK ((zs.map Sum.inr).zip ys)) mem).perm (List.Perm.append_left _ ?_), r2.mono (Same.refl _) fun c z => fx c (by simp [z]),
            .cons (.dct upd_same ?_ rfl rfl ?_) (b1.mono (Same.refl _) fun c z => fx c (by simp [z])), km2⟩
          · exact List.perm_middle
          · rw [List.map_fst_zip (by omega), List.map_fst_zip (by omega)]
          · rw [List.map_snd_zip (by omega), List.map_snd_zip (by omega)]
            exact g.mono (Same.refl _) fun c z => fx c (by simp [z])
end

/-! ### a function that a slot holds -/
/-- the functions of an address each have a meaning -/
structure FnTab (P : Program) (w : World) (K : PySem.W.Frag) (mg : Str → Option Value) (base : Heap) (k n : Nat) (tab : Str → Option Fn) : Prop where
  ex : ∀ z a g, tab z = some g → PySem.W.nsIn K mainGlobals z = some (some (.ref a)) → ∃ fd ps ds, FnGd P w K mg base k a fd ps ds (FnD K mg n g) ∧ PySem.W.keepIn K (.ref a) = true ∧ Binds K fd ps ds
def tabCons (x : Str) (g : Fn) (tab : Str → Option Fn) : Str → Option Fn := fun z => if z = x then some g else tab z
section
variable {P : Program} {w : World} {K : PySem.W.Frag} {mg : Str → Option Value} {base : Heap} {k j n : Nat} {tab : Str → Option Fn} {x : Str} {g : Fn}
theorem FnTab.nil : FnTab P w K mg base k n (fun _ => none) := ⟨fun z a g h _ => (nomatch h)⟩
theorem FnTab.cons (gl : ∀ z a, PySem.W.nsIn K mainGlobals z = some (some (.ref a)) → mg z = some (.ref a)) (D : Def P w K mg base x j n g) (T0 : FnTab P w K mg base k n tab) (hj : j ≤ k := by decide) : FnTab P w K mg base k n (tabCons x g tab) := by
  refine ⟨fun z a g' h hn => ?_⟩
  unfold tabCons at h
  by_cases q : z = x
  · rw [if_pos q] at h
    cases h
    subst q
    obtain ⟨f, fd, ps, ds, F, hm, kp, b⟩ := D.ex
    have e := (gl _ _ hn).symm.trans hm
    cases e
    exact ⟨fd, ps, ds, F.up hj, kp, b⟩
  · rw [if_neg q] at h
    exact T0.ex z a g' h hn
end
section
variable {X : Cx} {w : Wd} {x : Str} {p pos : Pos} {e : Expr} {es : List Expr} {os : List (Option Nat)} {fs : M (List T)} {k n : Nat} {tab : Str → Option Fn}
def dcallS (i : Nat) (tab : Str → Option Fn) (os : List (Option Nat)) (fs : M (List T)) : M T := fun ρ => match ρ[i]? with
  | some (some (.fn a)) => (match tab a with
    | some g => dcall g os fs ρ
    | none => .no)
  | _ => .no
theorem de_callS {k' : Nat} (i : Nat) (D : FnTab X.prog X.w X.K X.mg X.base k n tab) (at_ : At X w k') (ha : DA X w (e :: es) os fs) (hk : k ≤ k' := by decide) (hn : (e :: es).length = n := by rfl)
    (hN : X.N[i]? = some x := by rfl) (hv : Vis X.env.scope x := by first | exact Or.inl rfl | exact Or.inr (Or.inl rfl) | exact Or.inr (Or.inr rfl)) (hd : (x == ("__debug__" : Str)) = false := by decide) (hcd : (x == ("__classdict__" : Str)) = false := by decide)
    (st : starEach (e :: es) X.env = (false, eval e X.env) :: starEach es X.env := by rfl) (pl : (backTo pos (starEach es X.env)).any (·.1) = false := by rfl) : DE X w (.Call (.Name x p) (e :: es) [] pos) (dcallS i tab os fs) := by
  obtain ⟨t, pt, dt⟩ := ha.ex
  refine de_v (t := fun σ H Q => ∃ f z g, σ[i]? = some (some (.ref f)) ∧ tab z = some g ∧ PySem.W.nsIn X.K mainGlobals z = some (some (.ref f)) ∧ tCallG (FnD X.K X.mg n g) w.W [] t σ H Q) ⟨fun pins s σ H Q I h => ?_⟩ fun B σ H ρ ws ts Q ok q => ?_
  · obtain ⟨f, z, g, hs, hf, hz, ht⟩ := h
    obtain ⟨fd, ps, ds, F, kp, b⟩ := D.ex z f g hf hz
    refine wpAny_Call_Name_kw (thn ((pe_var (pos := p) hN hv hd hcd).run pins s σ H (fun v H1 => v = .ref f ∧ H1 = H) I ⟨.ref f, hs, rfl, rfl⟩) fun u s1 z => ?_)
    obtain ⟨v, H1, I1, r1, rfl, rfl⟩ := z
    cases r1
    refine PySem.W.callWith_K (h₀ := X.base) I.ok.mod.kin kp (thn (pt.run pos pins s1 σ _ _ I1 ht) fun us s2 z => ?_) st pl
    obtain ⟨vs, H2, I2, r2, q2⟩ := z
    rw [List.append_nil] at q2
    exact ⟨I2.kIn, goGd F at_.g (at_.r.mono hk) b at_.tk I2 r2 q2⟩
  · unfold dcallS at q
    cases e0 : ρ[i]? with
    | none => rw [e0] at q; exact q.elim
    | some o =>
      cases o with
      | none => rw [e0] at q; exact q.elim
      | some u =>
        cases u with
        | fn a =>
          rw [e0] at q
          simp only at q
          cases e1 : tab a with
          | none => rw [e1] at q; exact q.elim
          | some g =>
            rw [e1] at q
            obtain ⟨b, h1, hb, _⟩ := ok.readFn e0
            exact ⟨b, a, g, h1, e1, hb, den_call at_.cl (fun vs ρ ρ' e => (ha.len vs ρ ρ' e).trans hn) dt B σ H ρ ws ts Q ok q⟩
        | _ => rw [e0] at q; exact q.elim
end
end DL
end
section
set_option Elab.async false
set_option linter.all false
set_option maxRecDepth 100000
set_option maxHeartbeats 4000000
/-! DLG: a tuple turned about; <= of texts; the built-ins' names. -/
namespace DL
open PySem L2 PySem.Spec

section
variable {prog : Program} {w : World} {A : Around} {E : Value → Shared → Prop} {s : Shared} {t sl : Addr} {its : Array Value}
theorem rev_places (n : Nat) : Builtin.Slice.slicePlaces ((n : Int) - 1) (-1) (-1) = n := by
  unfold Builtin.Slice.slicePlaces
  have h1 : ¬ ((-1 : Int) > 0) := by decide
  rw [if_neg h1]
  by_cases h : (n : Int) - 1 > -1
  · rw [if_pos h]
    have e : ((n : Int) - 1 - -1 - 1) / (- -1) = (n : Int) - 1 := by
      rw [show (- -1 : Int) = 1 by decide, Int.ediv_one]
      omega
    rw [e]
    omega
  · rw [if_neg h]
    omega
theorem rev_pick (xs : Array Value) : ((List.range xs.size).filterMap fun (m : Nat) => xs[((xs.size : Int) - 1 + (m : Int) * -1).toNat]?).toArray = xs.toList.reverse.toArray := by
  congr 1
  have e : (List.range xs.size).filterMap (fun (m : Nat) => xs[((xs.size : Int) - 1 + (m : Int) * -1).toNat]?) = ((List.range xs.size).map fun k => xs.size - 1 - k).filterMap (xs[·]?) := by
    rw [List.filterMap_map]
    have gen : ∀ l : List Nat, l.filterMap (fun (m : Nat) => xs[((xs.size : Int) - 1 + (m : Int) * -1).toNat]?) = l.filterMap ((fun x => xs[x]?) ∘ fun k => xs.size - 1 - k) := fun l => by
      induction l with
      | nil => rfl
      | cons m l ih =>
        have e1 : ((xs.size : Int) - 1 + (m : Int) * -1).toNat = xs.size - 1 - m := by omega
        rw [List.filterMap_cons, List.filterMap_cons, ih, e1]
        rfl
    exact gen _
  rw [e, PySem.W.krv_range, List.filterMap_reverse, PySem.W.krv_all]
theorem getItem_tup_rev {one : Tok} {Q : Value → Shared → Prop} (ht : PyProof.Rows.IsTup s.heap t its) (hs : s.heap.IsSliceOf sl .none .none (.int (-1) one)) (hz : its.size ≤ sizeLine)
    (q : Q (.ref s.heap.objs.size) { s with heap := s.heap.push { cls := .type "tuple", data := .seq its.toList.reverse.toArray } }) : wpAny (model prog w) A (getItem (.ref t) (.ref sl)) Q E s := by
  have okz : sizeOk (.seq its.toList.reverse.toArray) := by
    show its.toList.reverse.toArray.size ≤ sizeLine
    rw [List.size_toArray, List.length_reverse, Array.length_toList]
    exact hz
  obtain ⟨os, g1, g2, g3⟩ := id hs
  have ts : s.TypeIs (.ref sl) "slice" := ⟨os, g1, g2⟩
  unfold getItem
  try with_reducible refine wpAny_holding ?_
  first | refine wpAny_bind (wpAny_pure ?_) | skip
  refine wpAny_bind (wpAny_sequenceKey ht.typeIs (by decide) ?_)
  refine wpAny_bind (wpAny_callSpecial?_slot (name := Str.ofString "__getitem__") ht.typeIs PyProof.Rows.slot_tuple_getitem (wpAny_call_entry PyProof.Rows.slot_tuple_getitem ht.typeIs PyProof.Rows.entry_tuple_getitem ?_ (PyProof.Rows.args_tuple_getitem _ _)))
  show wpAny _ _ (Builtin.Tuple.tupleItemsOf (.ref t) >>= _) _ _ s
  refine wpAny_bind (PyProof.Rows.tupleItemsOf_ ht ?_)
  refine wpAny_bind (wpAny_typeOf ts ?_)
  rw [if_pos (by decide)]
  have app : ∀ {Q' : Int × Int × Nat → Shared → Prop} {A' : Around} {E' : Value → Shared → Prop}, Q' ((its.size : Int) - 1, -1, its.size) s → wpAny (model prog w) A' (Builtin.Slice.sliceApplied (.ref sl) (pure (its.size : Int))) Q' E' s := fun {Q' A' E'} h => by
    unfold Builtin.Slice.sliceApplied Builtin.Slice.sliceFields
    refine wpAny_bind (wpAny_bind (wpAny_field g1 g3 (x := .none) rfl (wpAny_bind (wpAny_field g1 g3 (x := .none) rfl (wpAny_bind (wpAny_field g1 g3 (x := .int (-1) one) rfl (wpAny_pure ?_)))))))
    refine wpAny_bind (PyProof.Rows.slicePart_int ?_)
    show wpAny _ _ (if ((-1 : Int) == 0) = true then _ else _) _ _ s
    rw [if_neg (by decide)]
    refine wpAny_bind (PyProof.Rows.slicePart_none (wpAny_bind (PyProof.Rows.slicePart_none (wpAny_bind (wpAny_pure ?_)))))
    show wpAny _ _ (pure ((its.size : Int) - 1, (-1 : Int), Builtin.Slice.slicePlaces ((its.size : Int) - 1) (-1) (-1))) _ _ s
    rw [rev_places]
    exact wpAny_pure h
  refine wpAny_bind (app ?_)
  show wpAny _ _ (if (((its.size : Int) - 1) == 0 && (-1 : Int) == 1 && its.size == its.size) = true then _ else _) _ _ s
  have no : ¬ ((((its.size : Int) - 1) == 0 && (-1 : Int) == 1 && its.size == its.size) = true) := by
    have : ((-1 : Int) == 1) = false := by decide
    rw [this, Bool.and_false, Bool.false_and]
    decide
  rw [if_neg no, rev_pick]
  first
    | exact wpAny_bind (m := Builtin.Tuple.tupleExact _) (wpAny_newObj_type (wpAny_pure ⟨_, rfl, wpAny_pure q⟩) okz)
    | exact wpAny_bind (m := Builtin.Tuple.tupleExact _) (wpAny_newObj_type (wpAny_bind (wpAny_pure (wpAny_pure ⟨_, rfl, wpAny_pure q⟩))) okz)
    | exact wpAny_bind (wpAny_bind (m := Builtin.Tuple.tupleExact _) (wpAny_newObj_type (wpAny_pure (wpAny_pure ⟨_, rfl, wpAny_pure q⟩)) okz))
    | exact wpAny_bind (wpAny_bind (m := Builtin.Tuple.tupleExact _) (wpAny_newObj_type (wpAny_pure ⟨_, rfl, wpAny_pure q⟩) okz))
end
def tRevT (K : PySem.W.Frag) (te : TE) : TE := fun σ H Q => te σ H fun x H1 => ∃ a xs, x = .ref a ∧ SqT K H1 a xs ∧ ∀ p, H1 p = none → Q (.ref p) (upd H1 p (.tup xs.reverse))
section
variable {X : Cx} {w : Wd} {a : Expr} {fa : M T} {pos p1 p2 p3 : Pos} {k : Nat}
theorem pe_revT {te : TE} (he : PE X a te) : PE X (.Subscript a (.Slice none none (some (.UnaryOp .USub (.Constant (.int 1) k p1) p2)) p3) pos) (tRevT X.K te) := by
  refine ⟨fun pins s σ H Q I h => ?_⟩
  refine PyProof.Rows.Subscript_ (thn (he.run pins s σ H _ I h) fun v s1 z => ?_)
  obtain ⟨x, H1, I1, r1, b, xs, rfl, hx, q⟩ := z
  cases r1
  have hst : PO X (some (.UnaryOp .USub (.Constant (.int 1) k p1) p2)) (tPart (tUn (rU fun i => .int (-i)) (tC (.int 1)))) := po_some (pe_un un_neg pe_int)
  refine wpAny_Slice (thn (po_none.run pins s1 σ H1 (fun o H2 => o = none ∧ H2 = H1) I1 ⟨rfl, rfl⟩) fun vl s2 z => ?_)
  obtain ⟨l, H2, I2, pl, rfl, rfl⟩ := z
  refine thn (po_none.run pins s2 σ H2 (fun o H3 => o = none ∧ H3 = H2) I2 ⟨rfl, rfl⟩) fun vu s3 z => ?_
  obtain ⟨u, H3, I3, pu, rfl, rfl⟩ := z
  refine thn (hst.run pins s3 σ H3 (fun o H4 => o = some (-1) ∧ H4 = H3) I3 ⟨1, rfl, -1, rfl, rfl, rfl⟩) fun vs s4 z => ?_
  obtain ⟨o, H4, I4, ps, rfl, rfl⟩ := z
  cases pl
  cases pu
  cases ps
  rename_i tk
  have I5 : Inv X pins σ H4 { s4 with heap := s4.heap.push { cls := .type "slice", data := .fields #[.none, .none, .int (-1) tk] } } := I4.kept (t' := s4.toks) fun b ob q => Heap.get?_push_of_some _ q
  obtain ⟨its, r, ht, hz⟩ := I5.tuple hx
  have hl := r.length
  refine PyProof.Rows.tail_any (ops := [.ref b, .ref s4.heap.objs.size]) ht.typeIs PyProof.Rows.slot_tuple_getitem.lookup ?_ (by with_unfolding_all rfl)
  refine getItem_tup_rev ht (Heap.IsSliceOf.new _ .none .none (.int (-1) tk)) (by rw [List.size_toArray]; omega) ?_
  refine ⟨.ref _, _, I5.laid (t' := s4.toks) (o := .tup xs.reverse) (fun b ob q => Heap.get?_push_of_some _ q) (Nat.le_refl _) ?_, rfl, q _ (I5.hok.fresh (Nat.le_refl _))⟩
  exact ⟨by rw [List.length_reverse]; exact hz, _, by simpa using r.reverse, PyProof.Rows.IsTup.new _ _⟩
def gRevT : T → Option T
  | .d (.tuple ds) => some (.d (.tuple ds.reverse))
  | _ => none
def drevT (fa : M T) : M T := mbind fa fun x => mopt (gRevT x)
theorem de_revT (ha : DE X w a fa) : DE X w (.Subscript a (.Slice none none (some (.UnaryOp .USub (.Constant (.int 1) k p1) p2)) p3) pos) (drevT fa) := by
  obtain ⟨ta, pa, da⟩ := ha.ex
  refine de_v (pe_revT pa) fun B σ H ρ ws ts Q ok q => ?_
  refine da B σ H ρ ws ts _ ok (q.bind.mono fun v ρ1 p1 x H1 ok1 => ?_)
  obtain ⟨z, e, q3⟩ := p1.opt
  unfold gRevT at e
  split at e
  · cases e
    obtain ⟨I, Fr, Fw, s, r, wz, km⟩ := ok1
    obtain ⟨b, vs, rfl, hb, dd⟩ := tup_items wz
    rename_i ds
    refine ⟨b, vs, rfl, st_mono s.sub hb, fun p hp => q3 _ _ (Ok.inStead (x := .ref b) (t := .d (.tuple ds)) ?_)⟩
    have hI := (s.fresh hp).2.1
    have sm : Same I (upd I p (.tup vs.reverse)) := fun a u e => by rw [upd_ne (ne_of_none e hI)]; exact e
    have nf : ∀ a ∈ Fr ++ Fw, (upd H1 p (.tup vs.reverse)) a = H1 a := fun a z => upd_ne (show a ≠ p from fun e => s.thr a z (by rw [e]; exact hp))
    exact ⟨_, Fr, Fw, s.newD hp, r.mono sm fun a z => nf a (List.mem_append_left _ z), .cons (F := []) (.d (.tup (SqT.of upd_same) (drAll_mono sm dd.reverse))) (wz.mono sm fun a z => nf a (List.mem_append_right _ z)), km⟩
  · cases e
end
/-! ### <= of ints and texts -/
def pLe2 : PyData → PyData → Option PyData
  | .int i, .int j => some (.bool (decide (i ≤ j)))
  | .str a, .str b => some (.bool (leS a b))
  | _, _ => none
def rLe2 : R2 := fun x y H Q => (rI0 fun i j => .bl (decide (i ≤ j))) x y H Q ∨ ∃ i j, x = .str i ∧ y = .str j ∧ Q (.bl (!decide (j.cps.toList < i.cps.toList))) H
theorem op_le2 {X : Cx} : OpR X (compareOp .LtE) rLe2 := OpR.or op_le op_le_str
theorem od_le2 {K : PySem.W.Frag} {m : List Bool} : OpD K m rLe2 (onD pLe2) := OpD.ofD fun B σ H ρ ws ts x y t u v Q ok e q => by
  unfold pLe2 at e
  split at e
  · cases e
    have hy := ok.topInt
    have hx := ok.pop.topInt
    subst hx hy
    exact .inl ⟨_, _, rfl, rfl, q _ _ ok.pop.pop.bl⟩
  · cases e
    have hy := ok.topStr
    have hx := ok.pop.topStr
    subst hx hy
    exact .inr ⟨_, _, rfl, rfl, q _ _ ok.pop.pop.bl⟩
  · cases e
theorem op_lt2 {X : Cx} : OpR X (compareOp .Lt) (fun x y H Q => (rI0 fun i j => .bl (decide (i < j))) x y H Q ∨ ∃ i j, x = .str i ∧ y = .str j ∧ Q (.bl (decide (i.cps.toList < j.cps.toList))) H) := OpR.or op_lt op_lt_str

theorem de_dict0 {X : Cx} {w : Wd} {pos : Pos} : DE X w (.Dict [] [] pos) (mret (.d (.dict []))) := de_v pe_dnewK fun B σ H ρ ws ts Q ok q p hp => q _ _ (ok.new hp fun I _ => .dct0 upd_same)
/-! ### the names -/
theorem bt_len : bootBuiltins "len" = some (.builtin "len") := by decide +kernel
theorem bt_isinstance : bootBuiltins "isinstance" = some (.builtin "isinstance") := by decide +kernel
theorem bt_min : bootBuiltins "min" = some (.builtin "min") := by decide +kernel
theorem bt_max : bootBuiltins "max" = some (.builtin "max") := by decide +kernel
theorem bt_repr : bootBuiltins "repr" = some (.builtin "repr") := by decide +kernel
theorem bt_sorted : bootBuiltins "sorted" = some (.builtin "sorted") := by decide +kernel
theorem bt_all : bootBuiltins "all" = some (.builtin "all") := by decide +kernel
theorem bt_any : bootBuiltins "any" = some (.builtin "any") := by decide +kernel
theorem bt_sum : bootBuiltins "sum" = some (.builtin "sum") := by decide +kernel
theorem bt_int : bootBuiltins "int" = some (.type "int") := by decide +kernel
theorem bt_bool : bootBuiltins "bool" = some (.type "bool") := by decide +kernel
theorem bt_str : bootBuiltins "str" = some (.type "str") := by decide +kernel
theorem bt_list : bootBuiltins "list" = some (.type "list") := by decide +kernel
theorem bt_tuple : bootBuiltins "tuple" = some (.type "tuple") := by decide +kernel
end DL
end
section
set_option Elab.async false
set_option linter.all false
set_option maxRecDepth 100000
set_option maxHeartbeats 4000000
/-! DLH: what the head leaves, in short. -/
namespace DL
open PySem L2

/-- the def st stands under its name -/
structure HasFn (K : PySem.W.Frag) (x : Str) (st : Stmt) : Prop where
  ex : ∃ f fd, PySem.W.nsIn K mainGlobals x = some (some (.ref f)) ∧ Fun K x x st f fd
theorem HasFn.by_ {K : PySem.W.Frag} {x : Str} {st : Stmt} {f : Addr} {oc : Value} {od an : Option Addr} {osl : Array (Option Value)} {kV doc pm cdv ct : Value} (a : PySem.W.nsIn K mainGlobals x = some (some (.ref f)))
    (l : K.lookup f = some ⟨oc, od, .func (PySem.W.fnOf x x (defArgs st) (defBody st) (defScope st) .none kV doc pm an cdv ct), osl⟩) (c : PySem.W.codeIn K cdv x = true) (k : PySem.W.keepIn K (.ref f) = true) : HasFn K x st := ⟨f, _, a, fun_mk l c k⟩
/-- a datum under its name, in the written part -/
structure HasD (K : PySem.W.Frag) (x : Str) (d : PyData) : Prop where
  ex : ∃ u v, PySem.W.nsIn K mainGlobals x = some (some u) ∧ RelV v u ∧ ∀ I, Dr K I v d
theorem HasD.int {K : PySem.W.Frag} {x : Str} {i : Int} {t : Tok} (a : PySem.W.nsIn K mainGlobals x = some (some (.int i t))) : HasD K x (.int i) := ⟨_, .int i, a, ⟨t, rfl⟩, fun _ => .int i⟩
theorem HasD.str {K : PySem.W.Frag} {x : Str} {i : Str} {t : Tok} (a : PySem.W.nsIn K mainGlobals x = some (some (.str i t))) : HasD K x (.str i) := ⟨_, .str i, a, ⟨t, rfl⟩, fun _ => .str i⟩
mutual
/-- a value of the written part as data -/
inductive KD (K : PySem.W.Frag) : Value → PyData → Prop
  | none : KD K .none .none
  | bool (b : Bool) : KD K (.bool b) (.bool b)
  | int (i : Int) (t : Tok) : KD K (.int i t) (.int i)
  | str (x : Str) (t : Tok) : KD K (.str x t) (.str x)
  | tup {a : Addr} {dd : Option Addr} {its : Array Value} {n : Nat} {sl : Array (Option Value)} {ds : List PyData} : K.lookup a = some ⟨.type "tuple", dd, .seq its n, sl⟩ → its.size ≤ sizeLine → KDs K its.toList ds → KD K (.ref a) (.tuple ds)
inductive KDs (K : PySem.W.Frag) : List Value → List PyData → Prop
  | nil : KDs K [] []
  | cons {u : Value} {us : List Value} {d : PyData} {ds : List PyData} : KD K u d → KDs K us ds → KDs K (u :: us) (d :: ds)
end
mutual
theorem KD.dr {K : PySem.W.Frag} : ∀ {u : Value} {d : PyData}, KD K u d → ∃ v, RelV v u ∧ ∀ I, Dr K I v d
  | _, _, .none => ⟨.non, rfl, fun _ => .non⟩
  | _, _, .bool b => ⟨.bl b, rfl, fun _ => .bl b⟩
  | _, _, .int i t => ⟨.int i, ⟨t, rfl⟩, fun _ => .int i⟩
  | _, _, .str x t => ⟨.str x, ⟨t, rfl⟩, fun _ => .str x⟩
  | _, _, .tup e hz h => by
    obtain ⟨vs, rv, dv⟩ := KDs.dr h
    exact ⟨.ref _, rfl, fun I => .tup (.inr ⟨_, _, _, e, rfl, rfl, hz, rv⟩) (dv I)⟩
theorem KDs.dr {K : PySem.W.Frag} : ∀ {us : List Value} {ds : List PyData}, KDs K us ds → ∃ vs, Vals vs us ∧ ∀ I, DrAll K I vs ds
  | _, _, .nil => ⟨[], .nil, fun _ => .nil⟩
  | _, _, .cons h t => by
    obtain ⟨v, r, d⟩ := KD.dr h
    obtain ⟨vs, rs, ds⟩ := KDs.dr t
    exact ⟨v :: vs, .cons r rs, fun I => .cons (d I) (ds I)⟩
end
theorem HasD.kd {K : PySem.W.Frag} {x : Str} {u : Value} {d : PyData} (a : PySem.W.nsIn K mainGlobals x = some (some u)) (h : KD K u d) : HasD K x d := by
  obtain ⟨v, r, dr⟩ := h.dr
  exact ⟨u, v, a, r, dr⟩
theorem TabIs.consD {K : PySem.W.Frag} {e : DictEntry} {es : List DictEntry} {z : Str} {d : PyData} {kvs : List (Str × T)} {k : Tok} (hk : e.key = .str z k) (h : KD K e.val d) (r : TabIs K es kvs) : TabIs K (e :: es) ((z, .d d) :: kvs) := by
  obtain ⟨v, rv, dr⟩ := h.dr
  exact .cons k v hk rv (fun I H => .d (dr I)) r
theorem TabIs.consF {K : PySem.W.Frag} {e : DictEntry} {es : List DictEntry} {z n : Str} {a : Addr} {kvs : List (Str × T)} {k : Tok} (hk : e.key = .str z k) (hv : e.val = .ref a) (h : PySem.W.nsIn K mainGlobals n = some (some (.ref a))) (r : TabIs K es kvs) : TabIs K (e :: es) ((z, .fn n) :: kvs) :=
  .cons k (.ref a) hk hv (fun I H => .fn h) r
/-- a dict of the text under its name -/
structure HasTab (K : PySem.W.Frag) (w : World) (x : Str) (kvs : List (Str × T)) : Prop where
  ex : ∃ (d : Addr) (es : Array DictEntry) (n : Nat), PySem.W.nsIn K mainGlobals x = some (some (.ref d)) ∧ KDict K w d es n ∧ TabIs K es.toList kvs ∧ es.size ≤ sizeLine
theorem HasTab.by_ {K : PySem.W.Frag} {w : World} {x : Str} {kvs : List (Str × T)} {d : Addr} {es : Array DictEntry} {n : Nat} (a : PySem.W.nsIn K mainGlobals x = some (some (.ref d))) (l : K.lookup d = some ⟨.type "dict", none, .dict es n, #[]⟩)
    (kl : PySem.W.KeysLit w.params es.toList) (lo : (d == sysModules) = false) (t : TabIs K es.toList kvs) (hz : es.size ≤ sizeLine) : HasTab K w x kvs := ⟨d, es, n, a, ⟨l, kl, lo⟩, t, hz⟩
/-- a name that the module leaves free -/
structure HasNo (K : PySem.W.Frag) (x : Str) : Prop where
  ex : PySem.W.nsIn K mainGlobals x = some none
section
variable {K : PySem.W.Frag} {w : World} {h : Heap} {mg : Str → Option Value} {x : Str}
theorem HasNo.at (X : K.In h) (G : h.Ns mainGlobals mg) (a : HasNo K x) : mg x = none := PySem.W.mg_none_of X G a.ex
theorem HasD.at {d : PyData} (X : K.In h) (G : h.Ns mainGlobals mg) (a : HasD K x d) : ∃ v u, mg x = some u ∧ RelV v u ∧ ∀ I, Dr K I v d := by
  obtain ⟨u, v, e, r, dr⟩ := a.ex
  exact ⟨v, u, PySem.W.mg_of X G e, r, dr⟩
theorem HasTab.at {kvs : List (Str × T)} (X : K.In h) (G : h.Ns mainGlobals mg) (a : HasTab K w x kvs) : ∃ (d : Addr) (es : Array DictEntry) (n : Nat), mg x = some (.ref d) ∧ KDict K w d es n ∧ TabIs K es.toList kvs ∧ es.size ≤ sizeLine := by
  obtain ⟨d, es, n, e, r, t, z⟩ := a.ex
  exact ⟨d, es, n, PySem.W.mg_of X G e, r, t, z⟩
end
end DL
end
section
set_option Elab.async false
set_option linter.all false
set_option maxRecDepth 100000
set_option maxHeartbeats 4000000
/-! DLI: exceptions of the text: their making, raise. -/
namespace DL
open PySem L2

/-- what an own class's __init__ comes to: its arguments stand as fields -/
def InitSp (C : Addr) (fs : List Str) : Sp := fun vs H Q E => ∃ (a : Addr) (us : List V), vs = .ref a :: us ∧ us.length = fs.length ∧ H a = some (exo a C none) ∧
  ∀ dx, H dx = none → dx ≠ a → Q .non (upd (upd H dx (exd dx (fs.zip us).reverse)) a (exo a C (some dx)))

/-- the stores behind the first one -/
structure Ini (X : Cx) (C : Addr) (fs : List Str) (k : Nat) (sts : List Stmt) : Prop where
  ex : ∃ t, PSs X sts t ∧ ∀ (D : L2.Ends) (σ : L2.St) (H : Hp) (a dx : Addr) (us : List V), σ[0]? = some (some (.ref a)) → (∀ j, j < fs.length → ∃ u, us[j]? = some u ∧ σ[j + 1]? = some (some u)) → us.length = fs.length → a ≠ dx →
    H a = some (exo a C (some dx)) → H dx = some (exd dx ((fs.take k).zip (us.take k)).reverse) → D.nx σ (upd H dx (exd dx (fs.zip us).reverse)) → t D σ H
section
variable {X : Cx} {C : Addr} {fs : List Str} {k : Nat} {sts : List Stmt} {f : Str}
theorem take_all {α : Type} (l : List α) : l.take l.length = l := by rw [List.take_length]
theorem ini_nil (h : fs.length ≤ k) : Ini X C fs k [] := by
  refine ⟨_, pss_nil, fun D σ H a dx us h0 hs hl ne ea ed q => ?_⟩
  rw [List.take_of_length_le h, List.take_of_length_le (by rw [hl]; exact h)] at ed
  show D.nx σ H
  have e : upd H dx (exd dx (fs.zip us).reverse) = H := by
    funext b
    by_cases z : b = dx
    · rw [z, upd_same, ed]
    · rw [upd_ne z]
  rw [e] at q
  exact q
theorem zip_next {fs : List Str} {us : List V} {k : Nat} {f : Str} {u : V} (hf : fs[k]? = some f) (hu : us[k]? = some u) : ((fs.take (k + 1)).zip (us.take (k + 1))).reverse = (f, u) :: ((fs.take k).zip (us.take k)).reverse := by
  have hk := (List.getElem?_eq_some_iff.mp hf).1
  have hk2 := (List.getElem?_eq_some_iff.mp hu).1
  rw [List.take_add_one, List.take_add_one, hf, hu]
  show ((fs.take k ++ [f]).zip (us.take k ++ [u])).reverse = _
  rw [List.zip_append (by rw [List.length_take, List.length_take]; omega)]
  simp
theorem ini_cons (T : OexC X.K C) (hno : ∀ f ∈ fs, PySem.W.findIn X.K (.ref C) f = some none) (hsz : fs.length ≤ 900) (k : Nat) {p1 p2 p3 p4 : Pos} (r : Ini X C fs (k + 1) sts) (hk : fs[k]? = some f := by rfl) (h0 : X.N[0]? = some ("self" : Str) := by rfl) (h1 : X.N[k + 1]? = some f := by rfl)
    (v0 : Vis X.env.scope "self" := by first | exact Or.inl rfl | exact Or.inr (Or.inl rfl)) (v1 : Vis X.env.scope f := by first | exact Or.inl rfl | exact Or.inr (Or.inl rfl)) (n1 : (f == ("__debug__" : Str)) = false := by decide) (n2 : (f == ("__classdict__" : Str)) = false := by decide)
    (hs : swapsWith (.Name f p3) (some (.Attribute (.Name "self" p1) f p2)) p4.line X.env = pure false := by rfl) : Ini X C fs k (.Assign [.Attribute (.Name "self" p1) f p2] (.Name f p3) p4 :: sts) := by
  obtain ⟨t, pt, ht⟩ := r.ex
  refine ⟨_, pss_cons (ps_ost (pe_var (i := 0) h0 v0) (pe_var (i := k + 1) h1 v1 n1 n2) hs) pt, fun D σ H a dx us s0 ss hl ne ea ed q => ?_⟩
  have hkl := (List.getElem?_eq_some_iff.mp hk).1
  obtain ⟨u, hu, hσ⟩ := ss k hkl
  refine ⟨u, hσ, .ref a, s0, a, C, rfl, T, hno f (List.mem_of_getElem? hk), .inr ⟨dx, _, ea, ed, ?_, ?_⟩⟩
  · rw [List.length_reverse, List.length_zip, List.length_take, List.length_take]; omega
  · refine ht D σ _ a dx us s0 ss hl ne (by rw [upd_ne ne]; exact ea) (by rw [upd_same, zip_next hk hu]) ?_
    rw [upd_upd]
    exact q
end
/-- a class of the text whose instances are raised: C, its __init__ -/
structure ExcK (P : Program) (w : World) (K : PySem.W.Frag) (mg : Str → Option Value) (base : Heap) (n : Str) (k : Nat) (fs : List Str) : Prop where
  ex : ∃ (C fI : Addr) (fd : FuncData), mg n = some (.ref C) ∧ OexC K C ∧ PySem.W.findIn K (.ref C) "__init__" = some (some (.ref fI)) ∧ PySem.W.typeIn K (.ref fI) = some (.type "function") ∧
    FnOk P w K mg base (L2.CX P w) k fI fd ("self" :: fs) (InitSp C fs) ∧ Binds K fd ("self" :: fs) []
  ne : fs ≠ []
/-- __init__'s body: the base's own __init__, then the stores -/
structure IniB (X : Cx) (C : Addr) (fs : List Str) (sts : List Stmt) : Prop where
  ex : ∃ t, PSs X sts t ∧ ∀ (D : L2.Ends) (σ : L2.St) (H : Hp) (a : Addr) (us : List V), σ[0]? = some (some (.ref a)) → (∀ j, j < fs.length → ∃ u, us[j]? = some u ∧ σ[j + 1]? = some (some u)) → us.length = fs.length → H a = some (exo a C none) →
    (∀ dx, H dx = none → dx ≠ a → D.nx σ (upd (upd H dx (exd dx (fs.zip us).reverse)) a (exo a C (some dx)))) → t D σ H
section
variable {X : Cx} {C : Addr} {fs : List Str} {k : Nat} {sts : List Stmt} {f : Str} {msg : Str}
theorem upd_comm {H : Hp} {a b : Addr} {o u : HO} (h : a ≠ b) : upd (upd H a o) b u = upd (upd H b u) a o := by
  funext c
  by_cases x : c = a
  · rw [x, upd_ne h, upd_same, upd_same]
  · rw [upd_ne x]
    by_cases y : c = b
    · rw [y, upd_same, upd_same]
    · rw [upd_ne y, upd_ne y, upd_ne x]
theorem inib (T : OexC X.K C) (hno : ∀ f ∈ fs, PySem.W.findIn X.K (.ref C) f = some none) (hsz : fs.length ≤ 900) (hm : X.mg "ValueError" = none) (vV : PySem.W.findCls X.K (.type "ValueError") (.type "type") "__init__" = some (.val (.builtin "ValueError.__init__")))
    {j : Nat} {pl : Sem Bool} {q1 q2 q3 q4 q5 q6 p1 p2 p3 p4 : Pos} (r : Ini X C fs 1 sts) (hk : fs[0]? = some f := by rfl) (h0 : X.N[0]? = some ("self" : Str) := by rfl) (h1 : X.N[1]? = some f := by rfl) (hg : Gl X "ValueError" := by rfl)
    (v0 : Vis X.env.scope "self" := by first | exact Or.inl rfl | exact Or.inr (Or.inl rfl)) (v1 : Vis X.env.scope f := by first | exact Or.inl rfl | exact Or.inr (Or.inl rfl)) (n1 : (f == ("__debug__" : Str)) = false := by decide) (n2 : (f == ("__classdict__" : Str)) = false := by decide)
    (hs : swapsWith (.Name f p3) (some (.Attribute (.Name "self" p1) f p2)) p4.line X.env = pure false := by rfl)
    (hs0 : swapsWith (.Call (.Attribute (.Name "ValueError" q1) "__init__" q2) [.Name "self" q3, .Constant (.str msg) j q4] [] q5) none q6.line X.env = pure false := by rfl)
    (hc : eval (.Call (.Attribute (.Name "ValueError" q1) "__init__" q2) [.Name "self" q3, .Constant (.str msg) j q4] [] q5) X.env = (do
      let ov ← eval (.Name "ValueError" q1) X.env
      standAt q2.atName
      let (f, first) ← holding [ov] (getMethod ov "__init__" pl)
      callWith q5 f first (backTo q5 (starEach [.Name "self" q3, .Constant (.str msg) j q4] X.env)) (backToKw q5 (keywordEach [] X.env))) := by rfl) :
    IniB X C fs (.Expr (.Call (.Attribute (.Name "ValueError" q1) "__init__" q2) [.Name "self" q3, .Constant (.str msg) j q4] [] q5) q6 :: .Assign [.Attribute (.Name "self" p1) f p2] (.Name f p3) p4 :: sts) := by
  obtain ⟨t, pt, ht⟩ := r.ex
  refine ⟨_, pss_cons (ps_expr (pe_veinit hg hm vV (pa_cons (pe_var (i := 0) h0 v0) (pa_cons pe_str pa_nil)) hc) hs0) (pss_cons (ps_ost (pe_var (i := 0) h0 v0) (pe_var (i := 1) h1 v1 n1 n2) hs) pt), fun D σ H a us s0 ss hl ea q => ?_⟩
  have hkl := (List.getElem?_eq_some_iff.mp hk).1
  obtain ⟨u, hu, hσ⟩ := ss 0 hkl
  refine ⟨.ref a, s0, a, C, [.str msg], rfl, by simp, T, ea, ?_⟩
  refine ⟨u, hσ, .ref a, s0, a, C, rfl, T, hno f (List.mem_of_getElem? hk), .inl ⟨ea, fun dx hd ne => ?_⟩⟩
  refine ht D σ _ a dx us s0 ss hl (Ne.symm ne) upd_same ?_ ?_
  · rw [upd_ne ne, upd_same, show (1 : Nat) = 0 + 1 from rfl, zip_next hk hu]
    simp
  · rw [upd_comm (Ne.symm ne), upd_upd]
    exact q dx hd ne
end
section
variable {P : Program} {w : World} {K : PySem.W.Frag} {mg : Str → Option Value} {base : Heap} {k : Nat} {fI : Addr} {fd : FuncData} {fs : List Str} {qual : Str} {st : Stmt} {C : Addr} {CX : CXT}
theorem start_at {N : List Str} {vs : List V} {j : Nat} {v : V} (h : vs[j]? = some v) : (start N vs)[j]? = some (some v) := by
  unfold L2.start
  have hj := (List.getElem?_eq_some_iff.mp h).1
  rw [List.getElem?_append_left (by rw [List.length_map]; exact hj), List.getElem?_map, h]
  rfl
theorem init_ok (U : Fun K "__init__" qual st fI fd) (S : FnScope ("self" :: fs) ("self" :: fs) (defScope st))
    (body : ∀ (cd : Value) (A : Around) (outer : List Env) (s : Shared) (H : Hp) (E : XK), IniB (cxOf CX P w K mg base ("self" :: fs) qual (defScope st) fI cd A outer s H E) C fs (defBody st)) : FnOk P w K mg base CX (k + 1) fI fd ("self" :: fs) (InitSp C fs) := by
  obtain ⟨oc, od, kV, doc, pm, an, cdv, ct, osl, rfl, lk, hcd⟩ := U.ex
  refine fn_of lk hcd S (fun vs H Q E h => ?_) fun A outer s H vs Q E hr h => ?_
  · obtain ⟨a, us, rfl, hl, _⟩ := h
    simp [hl]
  · obtain ⟨a, us, rfl, hl, ea, q⟩ := h
    obtain ⟨t, pt, ht⟩ := (body cdv A outer s H E).ex
    refine ⟨t, pt, ht _ _ _ a us (start_at rfl) (fun j hj => ?_) hl ea fun dx hd ne => q dx hd ne⟩
    rw [← hl] at hj
    exact ⟨us[j], List.getElem?_eq_getElem hj, start_at (by rw [List.getElem?_cons_succ, List.getElem?_eq_getElem hj])⟩
end

/-! ### raise C(e, ..) -/
def xraise (n : Str) (fs : List Str) (o : Option (List PyData)) : M Fl := fun ρ => match o with
  | some ds => if ds.length = fs.length ∧ ds.length ≤ 900 then .ex ⟨n, (fs.zip ds).reverse⟩ ρ else .no
  | none => .no
def sraise (n : Str) (fs : List Str) (fa : M (List T)) : M Fl := mbind fa fun ts => xraise n fs (allD ts)
theorem rev_fst {α β : Type} {as : List α} {bs : List β} (h : bs.length = as.length) : ((as.zip bs).reverse.map (·.1)) = as.reverse := by
  rw [List.map_reverse]
  congr 1
  exact List.map_fst_zip (by omega)
theorem rev_snd {α β : Type} {as : List α} {bs : List β} (h : bs.length = as.length) : ((as.zip bs).reverse.map (·.2)) = bs.reverse := by
  rw [List.map_reverse]
  congr 1
  exact List.map_snd_zip (by omega)
section
variable {X : Cx} {w : Wd} {e : Expr} {es : List Expr} {fa : M (List T)} {os : List (Option Nat)} {k k' : Nat} {n : Str} {p pos pos' : Pos} {fs : List Str}
theorem zip_rev {α β : Type} : ∀ {as : List α} {bs : List β}, bs.length = as.length → (as.zip bs).reverse = as.reverse.zip bs.reverse
  | [], [], _ => rfl
  | [], _ :: _, h => nomatch h
  | _ :: _, [], h => nomatch h
  | a :: as, b :: bs, h => by
    rw [List.zip_cons_cons, List.reverse_cons, List.reverse_cons, List.reverse_cons, zip_rev (by simpa using h), List.zip_append (by simpa using (by simpa using h.symm : as.length = bs.length))]
    rfl
theorem rev_ne {α β : Type} {as : List α} {bs : List β} (h : bs.length = as.length) (h0 : as ≠ []) : (as.zip bs).reverse ≠ [] := fun z => by
  have e := congrArg List.length z
  rw [List.length_reverse, List.length_zip] at e
  apply h0
  apply List.eq_nil_of_length_eq_zero
  have : ([] : List (α × β)).length = 0 := rfl
  omega
theorem Ok.raised {K : PySem.W.Frag} {m : List Bool} {cl : Str → Option Value} {B : Bs} {σ : L2.St} {H : Hp} {ρ : Rho} {ws xs : List V} {ts : List T} {ds : List PyData} {d : Addr} {c : Value} (ok : Ok K m B σ H ρ (xs ++ ws) (ds.map T.d ++ ts)) (hl : xs.length = ds.length) (hf : ds.length = fs.length) (h0 : fs ≠ []) (hd : H d = none) (hc : cl n = some c) :
    OkX K m cl B σ (upd H d (.xd (fs.zip xs).reverse)) ρ ⟨n, (fs.zip ds).reverse⟩ c (some d) := by
  obtain ⟨I, Fr, Fw, s, r, w, km⟩ := ok
  have hI := (s.fresh hd).2.1
  have sm : Same I (upd I d (.xd (fs.zip xs).reverse)) := fun a u e => by rw [upd_ne (ne_of_none e hI)]; exact e
  have s2 := s.newD (o := .xd (fs.zip xs).reverse) hd
  refine ⟨_, Fr, xs.reverse, s2.less (fun a m => List.mem_append_left _ m) (List.nodup_append.mp s.nd).1, r.mono sm fun a z => upd_ne (show a ≠ d from fun e => s.thr a (List.mem_append_left _ z) (by rw [e]; exact hd)), km, hc, ⟨fun _ => ⟨d, rfl, ?_⟩, fun z => absurd z (rev_ne hf h0)⟩, ?_⟩
  · rw [upd_same, rev_fst hf, zip_rev (by omega)]
  · rw [rev_snd hf]
    exact (drAll_mono sm (drAll_pending hl w)).reverse
theorem ds_raise (D : ExcK X.prog X.w X.K X.mg X.base n k fs) (at_ : At X w k') (ha : DA X w (e :: es) os fa) (hk : k + 1 ≤ k' := by decide) (hg : Gl X n := by rfl) (hdb : (n == ("__debug__" : Str)) = false := by decide)
    (st : starEach (e :: es) X.env = (false, eval e X.env) :: starEach es X.env := by rfl) (pl : (backTo pos (starEach es X.env)).any (·.1) = false := by rfl) : DS X w (.Raise (some (.Call (.Name n p) (e :: es) [] pos)) none pos') (sraise n fs fa) := by
  obtain ⟨C, fI, fd, hm, T, iC, tI, F, b⟩ := D.ex
  obtain ⟨t, pt, dt⟩ := ha.ex
  refine ⟨_, ps_raise at_.ca at_.tk (pmk_oex T iC tI F (at_.r.mono hk) b .nil (fun _ _ _ _ _ _ _ h => ?_) hg hm pt hdb st pl), fun B σ H ρ ws ts D' ok q => ?_⟩
  · obtain ⟨_, _, _, _, _, _, _, _, _, _, _, _, z⟩ := h
    exact z.elim
  · refine dt B σ H ρ ws ts _ ok (PostG.mono (PostG.bind q) fun vs ρ1 q1 xs H1 hl ok1 _ => ?_)
    have q1 : PostG X.K w B (xraise n fs (allD vs) ρ1) (PostS X.K w B ws ts D') := q1
    unfold xraise at q1
    cases e1 : allD vs with
    | none => rw [e1] at q1; exact False.elim q1
    | some ds =>
      rw [e1] at q1
      by_cases hz : ds.length = fs.length ∧ ds.length ≤ 900
      · simp only [if_pos hz] at q1
        have qq : ∀ c d σ' H', OkX X.K w.m w.cl B σ' H' ρ1 ⟨n, (fs.zip ds).reverse⟩ c d → w.W c d σ' H' := q1
        have hv := allD_eq e1
        subst hv
        rw [List.length_map] at hl
        refine ⟨by omega, fun a na => ⟨a, xs, by rw [List.append_nil], by omega, upd_same, fun dx hd ne => ⟨rfl, dx, (fs.zip xs).reverse, upd_same, ?_, ?_, ?_⟩⟩⟩
        · rw [upd_ne ne, upd_same]
        · rw [upd_ne ne] at hd; exact hd
        · rw [upd_ne ne] at hd
          have e3 : upd (del (upd (upd (upd H1 a (exo a C none)) dx (exd dx (fs.zip xs).reverse)) a (exo a C (some dx))) a) dx (.xd (fs.zip xs).reverse) = upd H1 dx (.xd (fs.zip xs).reverse) := by
            funext c
            by_cases x : c = dx
            · rw [x, upd_same, upd_same]
            · rw [upd_ne x, upd_ne x]
              by_cases y : c = a
              · rw [y, del_same, na]
              · rw [del_ne y, upd_ne y, upd_ne x, upd_ne y]
          rw [e3]
          exact qq _ _ _ _ (ok1.raised hl hz.1 D.ne hd (by rw [at_.cl]; exact hm))
      · simp only [if_neg hz] at q1
        exact False.elim (show False from q1)
end
end DL
end
section
set_option Elab.async false
set_option linter.all false
set_option maxRecDepth 100000
set_option maxHeartbeats 4000000
/-! DLJ: try: .. except C as e: .., the caught exception a tree. -/
namespace DL
open PySem L2

section
variable {X : Cx} {pins : List (Addr × Obj)} {σ : L2.St} {H : Hp} {s : Shared}
theorem exq_ok {P : Program} {w : World} {h : Heap} {a : Addr} {oe : Obj} (e : h.get? a = some oe) : ObjOk P w H h a (exq a oe) := ⟨e, ⟨_, e⟩, fun _ _ z k => k _ z⟩
/-- an object that stands, new against the entry, is tracked as it is -/
theorem Inv.track (I : Inv X pins σ H s) {a : Addr} {oe : Obj} {vs : Array Value} (he : s.heap.get? a = some oe) (hd : oe.data = .fields vs) (na : H a = none) (nL : a ≠ X.env.locals) (n0 : X.s_0.heap.get? a = none) (np : ∀ p ∈ X.pn ++ pins, p.1 ≠ a) :
    Inv X pins σ (upd H a (exq a oe)) s := by
  have ne : ∀ {b : Addr} {u : HO}, H b = some u → b ≠ a := fun {b u} z e => by rw [e, na] at z; cases z
  refine ⟨I.ok, I.os, I.bare, ⟨I.base.keep, I.base.slot, fun b o z1 z2 z3 => ?_, I.base.there, fun b xs z => ?_, fun b o u z => ?_, fun b ps z => ?_⟩, I.loc, I.cell, ?_, fun x c z => ?_, fun p hp => ?_, fun b o z => ?_, I.len⟩
  · have : b ≠ a := fun e => by rw [e, n0] at z1; cases z1
    rw [upd_ne this]
    exact I.base.free b o z1 z2 z3
  · have q := I.base.tups b xs z
    rw [upd_ne (ne q)]; exact q
  · have q := I.base.frzs b o u z
    rw [upd_ne (ne q)]; exact q
  · obtain ⟨more, q⟩ := I.base.tbls b ps z
    exact ⟨more, by rw [upd_ne (ne q)]; exact q⟩
  · rw [upd_ne (Ne.symm nL)]; exact I.free
  · have : c ≠ a := fun e => by
      obtain ⟨v, ic⟩ := I.cell x c z
      obtain ⟨oc, h1, h2⟩ := ic
      rw [e, he] at h1
      cases h1
      rw [hd] at h2
      cases h2
    rw [upd_ne this]
    exact I.freeC x c z
  · obtain ⟨h1, h2, h3, h4, h5⟩ := I.pin p hp
    exact ⟨h1, by rw [upd_ne (np p hp)]; exact h2, h3, h4, h5⟩
  · by_cases q : b = a
    · subst q
      rw [upd_same] at z
      cases z
      exact exq_ok he
    · rw [upd_ne q] at z
      exact (I.hok b o z).stay (fun c u _ y => y) (fun c y => by rw [upd_ne (ne y)]; exact y) fun c xs y => by rw [upd_ne (ne y)]; exact y
theorem Inv.toSuite (I : Inv X pins σ H s) (a : Addr) : Inv (X.suite a (X.pn ++ pins)) [] σ H s :=
  ⟨I.ok.suite _ _, I.os, I.bare, I.base, I.loc, I.cell, I.free, I.freeC, fun p hp => I.pin p (by rwa [List.append_nil] at hp), I.hok, I.len⟩
theorem Inv.ofSuite {a : Addr} (I : Inv (X.suite a (X.pn ++ pins)) [] σ H s) (ok : X.Ok) : Inv X pins σ H s :=
  ⟨ok, I.os, I.bare, I.base, I.loc, I.cell, I.free, I.freeC, fun p hp => I.pin p (by rw [List.append_nil]; exact hp), I.hok, I.len⟩
end

/-- what is wanted behind a suite whose name goes -/
def clrE (D : L2.Ends) (i : Nat) : L2.Ends := { nx := fun σ H => D.nx (σ.set i none) H, rt := D.rt, bk := fun σ H => D.bk (σ.set i none) H, ct := fun σ H => D.ct (σ.set i none) H }
/-- what the clause wishes of the body's exceptions -/
def wTry (X : Cx) (c : Value) (i : Nat) (suite : List Stmt) (D : L2.Ends) : WX := fun cls d σ H => PySem.W.exmOne X.K cls c = some true ∧
  ∀ (a : Addr) (oe : Obj) (pn : List (Addr × Obj)), H a = none → Zc cls d oe → (∃ vs, oe.data = .fields vs) → ∃ ts, PSs (X.suite a pn) suite ts ∧ ts (clrE D i) (σ.set i (some (.ref a))) (upd H a (exq a oe))
def tTry (X : Cx) (c : Value) (i : Nat) (body suite : List Stmt) : TS := fun D σ H => ∀ (pn : List (Addr × Obj)) (xe : Value → Shared → Prop), Takes (X.tr pn xe) (wTry X c i suite D) → PassesOwn (model X.prog X.w) X.A X.env xe →
  ∃ t, PSs (X.tr pn xe) body t ∧ t D σ H
section
variable {X : Cx} {x n : Str} {c : Value} {i : Nat} {body suite : List Stmt} {b₀ : Stmt} {np pos pos' : Pos}
theorem try_body {E : Value → Shared → Prop} {pins : List (Addr × Obj)} {σ : L2.St} {H : Hp} {s : Shared} {D : L2.Ends} (I : Inv X pins σ H s) (h : tTry X c i body suite D σ H) (tk : Takes (X.tr (X.pn ++ pins) E) (wTry X c i suite D)) (po : PassesOwn (model X.prog X.w) X.A X.env E) :
    wpAny (model X.prog X.w) X.A (execs body X.env) (SP (X.tr (X.pn ++ pins) E) [] D) E s := by
  obtain ⟨t, pt, ht⟩ := h _ _ tk po
  exact pt.run [] s σ H D (I.toTry _) ht
theorem ps_tryE (hs : X.stack = X.env :: X.outer) (hf : X.env.frame = some X.env.locals) (hex : X.ex = []) (hN : X.N.Nodup) (hi : X.N[i]? = some n) (hln : X.env.kindOf n = some .local) (hc : Names X x c) :
    PS X (.Try body [.ExceptHandler (some (.Name x np)) (some n) (b₀ :: suite) pos'] [] [] pos) (tTry X c i body (b₀ :: suite)) := by
  refine ⟨fun pins s σ H D I h => ?_⟩
  have ok := I.ok
  have hfr : X.A.frames = some (X.env :: X.outer) := by rw [ok.frames, hs]
  refine wpAny_Try_except (thn (try_body I h (fun u s' xx => ?_) PassesOwn.looking) fun f s1 hsp => ?_)
  · obtain ⟨a, G, sI, pj, σ', H', cls, d, rfl, J', nb, up, sky, na, os, ag, hb1, hyes⟩ := xx
    have J : Inv X pins σ' H' sI := J'.ofTry ok
    have sky2 : Sky G (X.env :: X.outer) a (Zc cls d) X.env.locals s'.heap := by
      have z := sky
      rw [hs] at z
      exact z
    show wpAny (model X.prog X.w) X.A (noteFrame (.ref a) X.env) _ _ _
    refine Sky.land Zc.steady hfr hf sky2 fun h3 fl3 up3 => ?_
    have J3 : Inv X pins σ' H' { s' with heap := h3 } := J.landed nb fl3.1 (up.trans up3) os ag
    obtain ⟨o3, v3, g3, z3, d3⟩ := fl3.there
    have out : ∀ {h : Heap} {o : Obj} {vs : Array Value}, h.FunFrames G (X.env :: X.outer) → h.get? a = some o → o.data = .fields vs → a ∉ frs (X.env :: X.outer) := fun {h o vs} ff e dd hm => by
      obtain ⟨_, o2, e2, nd⟩ := ff.mem hm
      cases e.symm.trans e2
      exact nd _ dd
    have nfr := out fl3.2.2.1 g3 d3
    have nL : a ≠ X.env.locals := fun z => nfr (List.mem_filterMap.mpr ⟨X.env, List.mem_cons_self, by rw [hf, z]⟩)
    have nI : sI.heap.get? a = none := by
      cases e : sI.heap.get? a with
      | none => rfl
      | some o =>
        have := nb a o e (by show a ∉ frs X.stack; rw [hs]; exact nfr)
        rw [fl3.2.1] at this
        cases this
    have n0 : X.s_0.heap.get? a = none := by
      cases e : X.s_0.heap.get? a with
      | none => rfl
      | some o =>
        obtain ⟨o', e'⟩ := J.base.there a o e (by rw [hex]; simp)
        rw [nI] at e'
        cases e'
    have npin : ∀ p ∈ X.pn ++ pins, p.1 ≠ a := fun p hp e => by
      have := (J.pin p hp).1
      rw [e, nI] at this
      cases this
    refine wpAny_handleBy_cons (codeAny_handlers_test ?_) (by intro q; cases q)
    have LT : PySem.W.Looks (model X.prog X.w) h3 (typeOf (.ref a)) cls := fun A Q E s k q => wpAny_typeOf_ref (k _ _ g3) (by rw [z3.1]; exact q)
    have LM := PySem.W.exm_one (M := model X.prog X.w) J3.kIn LT hb1
    have S3 := Inv.toSuite J3 a
    have test : ∀ {Q : Value → Shared → Prop} {E : Value → Shared → Prop}, Q c { s' with heap := h3 } → wpAny (model X.prog X.w) (X.A.mark (some (.ref a))) (eval (.Name x np) X.env) Q E { s' with heap := h3 } := fun {Q E} q => by
      obtain ⟨hg, hdbg, hm | ⟨hm, hv, hnn⟩⟩ := hc
      · exact ld_glob (X := X.suite a (X.pn ++ pins)) S3 hg hm q hdbg
      · exact ld_blt (X := X.suite a (X.pn ++ pins)) S3 hg hm hv q hnn hdbg
    refine test (LM.here ?_)
    refine codeAny_handlers_suite_as (HandSPX.lands_againZ fl3 fun h4 fl4 up4 => ?_)
    have J4 : Inv X pins σ' H' { s' with heap := h4 } := J.landed nb fl4.1 ((up.trans up3).trans up4) os ag
    obtain ⟨o4, v4, g4, z4, d4⟩ := fl4.there
    have S4 := Inv.toSuite (Inv.track J4 g4 d4 na nL n0 npin) a
    obtain ⟨ts, pts, hts⟩ := hyes a o4 (X.pn ++ pins) na z4 ⟨_, d4⟩
    refine store_ok (X := X.suite a (X.pn ++ pins)) (v := .ref a) S4 hN hi (.inl hln) rfl (fun s5 S5 => ?_) (.inr hln)
    refine wpAny_mono (pts.run [] s5 _ _ _ S5 hts) (fun f s6 hsp => ?_) fun _ _ z => False.elim z
    cases f with
    | next =>
      obtain ⟨σ6, H6, S6, q6⟩ := hsp
      exact gone_ok (Inv.ofSuite S6 ok) hN hi hln fun s7 J7 => ⟨_, _, J7, q6⟩
    | brk =>
      obtain ⟨σ6, H6, S6, q6⟩ := hsp
      exact gone_ok (Inv.ofSuite S6 ok) hN hi hln fun s7 J7 => ⟨_, _, J7, q6⟩
    | cont =>
      obtain ⟨σ6, H6, S6, q6⟩ := hsp
      exact gone_ok (Inv.ofSuite S6 ok) hN hi hln fun s7 J7 => ⟨_, _, J7, q6⟩
    | ret u =>
      obtain ⟨v6, σ6, H6, S6, r6, q6⟩ := hsp
      exact gone_ok (Inv.ofSuite S6 ok) hN hi hln fun s7 J7 => ⟨_, _, _, J7, r6, q6⟩
  · cases f with
    | next =>
      obtain ⟨σ2, H2, J2, q⟩ := hsp
      exact wpAny_execs_nil ⟨σ2, H2, J2.ofTry ok, q⟩
    | brk =>
      obtain ⟨σ2, H2, J2, q⟩ := hsp
      exact ⟨σ2, H2, J2.ofTry ok, q⟩
    | cont =>
      obtain ⟨σ2, H2, J2, q⟩ := hsp
      exact ⟨σ2, H2, J2.ofTry ok, q⟩
    | ret u =>
      obtain ⟨v, σ2, H2, J2, r, q⟩ := hsp
      exact ⟨v, σ2, H2, J2.ofTry ok, r, q⟩
end
end DL
end
section
set_option Elab.async false
set_option linter.all false
set_option maxRecDepth 100000
set_option maxHeartbeats 4000000
/-! DLK: try as a denotation; what is asked of a caught exception. -/
namespace DL
open PySem L2

/-- what a part of the state's own objects comes to, joined to the rest -/
theorem Sit.join {B : Bs} {I H I' H' : Hp} {Fr Fw F' : List Addr} {z : L2.St} (s : Sit B I H (Fr ++ Fw)) (s' : Sit ⟨I, H, Fr, z⟩ I' H' F') : Sit B I' H' (F' ++ Fw) ∧ (∀ a ∈ Fw, H' a = H a) ∧ Same I I' := by
  have nd := s.nd
  have notA : ∀ a ∈ Fw, a ∉ Fr := fun a m mA => (List.nodup_append.mp nd).2.2 a mA a m rfl
  have inF : ∀ a ∈ Fw, a ∈ Fr ++ Fw := fun a m => List.mem_append_right _ m
  have inA : ∀ a ∈ Fr, a ∈ Fr ++ Fw := fun a m => List.mem_append_left _ m
  have stay : ∀ a ∈ Fw, H' a = H a := fun a m => by
    cases e : H a with
    | none => exact absurd e (s.thr a (inF a m))
    | some o => exact s'.keep a o (notA a m) e
  have free : ∀ a ∈ Fw, I' a = none := fun a m => by
    cases e : I' a with
    | none => rfl
    | some o =>
      rcases s'.new a o e with h | h | h
      · have h' : I a = some o := h
        rw [s.own a (inF a m)] at h'; cases h'
      · exact absurd h (s.thr a (inF a m))
      · exact absurd h (notA a m)
  have far : ∀ a ∈ F', a ∉ Fw := fun a m m' => by
    rcases s'.fr a m with h | h
    · exact notA a m' h
    · exact s.thr a (inF a m') h
  refine ⟨⟨s'.sub, fun a u e => s'.ext a u (s.ext a u e), fun a u n e => ?_, fun a u e => ?_, fun a m => ?_, fun a m => ?_, fun a m => ?_, List.nodup_append.mpr ⟨s'.nd, (List.nodup_append.mp nd).2.1, fun a m b m' e => far a m (e ▸ m')⟩⟩, stay, s'.ext⟩
  · by_cases mA : a ∈ Fr
    · rcases s.fr a (inA a mA) with h | h
      · exact absurd h n
      · rw [h] at e; cases e
    · exact s'.keep a u mA (s.keep a u n e)
  · rcases s'.new a u e with h | h | h
    · exact s.new a u h
    · by_cases q : a ∈ B.F
      · exact .inr (.inr q)
      · refine .inr (.inl ?_)
        cases e2 : B.H a with
        | none => rfl
        | some o =>
          have h' : H a = none := h
          rw [s.keep a o q e2] at h'; cases h'
    · rcases s.fr a (inA a h) with h | h
      · exact .inr (.inr h)
      · exact .inr (.inl h)
  · rcases List.mem_append.mp m with m | m
    · rcases s'.fr a m with h | h
      · exact s.fr a (inA a h)
      · by_cases q : a ∈ B.F
        · exact .inl q
        · refine .inr ?_
          cases e2 : B.H a with
          | none => rfl
          | some o =>
            have h' : H a = none := h
            rw [s.keep a o q e2] at h'; cases h'
    · exact s.fr a (inF a m)
  · rcases List.mem_append.mp m with m | m
    · exact s'.own a m
    · exact free a m
  · rcases List.mem_append.mp m with m | m
    · exact s'.thr a m
    · rw [stay a m]; exact s.thr a (inF a m)
section
variable {K : PySem.W.Frag} {m : List Bool} {B : Bs} {σ σ' : L2.St} {I H H' : Hp} {ρ ρ' : Rho} {ws vs : List V} {ts us : List T} {Fr Fw : List Addr}
/-- the entry without what is pending -/
theorem Ok.alone (s : Sit B I H (Fr ++ Fw)) (r : RepR K I H σ ρ Fr) (km : Kept m B σ) : Ok K m ⟨I, H, Fr, B.s⟩ σ H ρ [] [] :=
  ⟨I, Fr, [], by rw [List.append_nil]; exact ⟨s.sub, Same.refl _, fun a o _ z => z, fun a o z => .inl z, fun a z => .inl z, fun a z => s.own a (List.mem_append_left _ z), fun a z => s.thr a (List.mem_append_left _ z), (List.nodup_append.mp s.nd).1⟩, r, .nil, km⟩
theorem Ok.framed (s : Sit B I H (Fr ++ Fw)) (hw : RepTs K I H ws ts Fw) (q : Ok K m ⟨I, H, Fr, B.s⟩ σ' H' ρ' vs us) : Ok K m B σ' H' ρ' (vs ++ ws) (us ++ ts) := by
  obtain ⟨I', F1, F2, s', r', w', km⟩ := q
  obtain ⟨S, st, sm⟩ := s.join s'
  obtain ⟨E, q1, rfl⟩ := RepTs.append w' (hw.mono sm st)
  exact ⟨I', F1, _, by rw [← List.append_assoc]; exact S, r', q1, km⟩
end

/-- a class of the text, as an except clause and its instances ask of it -/
structure ClsX (K : PySem.W.Frag) (mg : Str → Option Value) (n : Str) : Prop where
  ex : ∃ C : Addr, PySem.W.nsIn K mainGlobals n = some (some (.ref C)) ∧ mg n = some (.ref C) ∧ PySem.W.exmOne K (.ref C) (.ref C) = some true
def stry (n : Str) (i : Nat) (F G : M Fl) : M Fl := fun ρ => match F ρ with
  | .ok fl ρ' => .ok fl ρ'
  | .ex e ρ' => if e.C = n then (match G (ρ'.set i (some (.exc e.C e.fs))) with
    | .ok fl ρ'' => .ok fl (ρ''.set i none)
    | _ => .no) else .no
  | .no => .no
section
variable {X : Cx} {w : Wd} {k : Nat} {x n : Str} {i : Nat} {body suite : List Stmt} {b₀ : Stmt} {np pos pos' : Pos} {F G : M Fl}
theorem ds_try (i : Nat) (at_ : At X w k) (hN : X.N.Nodup) (hcl : ClsX X.K X.mg x) (hb : ∀ (pn : List (Addr × Obj)) (xe : Value → Shared → Prop) (W : WX), At (X.tr pn xe) { w with W := W } k → DSs (X.tr pn xe) { w with W := W } body F)
    (hsu : ∀ (a : Addr) (pn : List (Addr × Obj)), DSs (X.suite a pn) w.nx (b₀ :: suite) G) (hm : NotM w i := by intro h; cases h) (hi : X.N[i]? = some n := by rfl) (hln : X.env.kindOf n = some .local := by rfl) (hg : Gl X x := by rfl)
    (hs : X.stack = X.env :: X.outer := by rfl) (hf : X.env.frame = some X.env.locals := by rfl) (hex : X.ex = [] := by rfl) (hdb : (x == ("__debug__" : Str)) = false := by decide) :
    DS X w (.Try body [.ExceptHandler (some (.Name x np)) (some n) (b₀ :: suite) pos'] [] [] pos) (stry x i F G) := by
  obtain ⟨C, hns, hmg, hex1⟩ := hcl.ex
  refine ⟨_, ps_tryE (c := .ref C) hs hf hex hN hi hln ⟨hg, hdb, .inl hmg⟩, fun B σ H ρ ws ts D ok p => ?_⟩
  obtain ⟨I, Fr, Fw, s, r, hw, km⟩ := ok
  intro pn xe tk po
  obtain ⟨t, pt, dt⟩ := (hb pn xe (wTry X (.ref C) i (b₀ :: suite) D) ⟨at_.g, at_.r, tk, at_.cl, at_.ca, po⟩).ex
  refine ⟨t, pt, dt ⟨I, H, Fr, B.s⟩ σ H ρ [] [] D (Ok.alone s r km) ?_⟩
  unfold stry at p
  cases eF : F ρ with
  | no => rw [eF] at p; exact False.elim p
  | ok fl ρ1 =>
    rw [eF] at p
    cases fl with
    | nx => exact fun σ1 H1 q => p σ1 H1 (Ok.framed s hw q)
    | rt v => exact fun x1 σ1 H1 q => p x1 σ1 H1 (Ok.framed s hw q)
    | bk => exact fun σ1 H1 q => p σ1 H1 (Ok.framed s hw q)
    | ct => exact fun σ1 H1 q => p σ1 H1 (Ok.framed s hw q)
  | ex e ρ1 =>
    rw [eF] at p
    intro c d σ1 H1 okx
    simp only at p
    by_cases hC : e.C = x
    · rw [if_pos hC] at p
      obtain ⟨I1, F1, us, s1, r1, km1, hc, hd, hf1⟩ := okx
      have ec : c = .ref C := by
        have z : w.cl e.C = some c := hc
        rw [at_.cl, hC, hmg] at z
        exact (Option.some.inj z).symm
      subst ec
      refine ⟨hex1, fun a oe pn2 na hz hfl => ?_⟩
      obtain ⟨ts2, pts, dts⟩ := (hsu a pn2).ex
      refine ⟨ts2, pts, ?_⟩
      obtain ⟨S, st, sm⟩ := s.join s1
      have hI := (S.fresh na).2.1
      have sm2 : Same I1 (upd I1 a (exq a oe)) := fun b u q => by rw [upd_ne (ne_of_none q hI)]; exact q
      have nf : ∀ b ∈ F1 ++ Fw, (upd H1 a (exq a oe)) b = H1 b := fun b z => upd_ne (show b ≠ a from fun q => S.thr b z (by rw [q]; exact na))
      have ea : ExcAt X.K (upd I1 a (exq a oe)) a e.C e.fs := by
        refine ⟨oe, C, us, upd_same, hz.1, hfl, fun z => ?_, fun z => ?_, drAll_mono sm2 hf1, by rw [hC]; exact hns⟩
        · obtain ⟨d', q1, q2⟩ := hd.1 z
          exact ⟨d', by rw [hz.2]; exact q1, sm2 _ _ q2⟩
        · rw [hz.2]; exact hd.2 z
      obtain ⟨F2, R2, r2, pm⟩ := RepR.put (i := i) (r1.mono sm2 fun b z => nf b (List.mem_append_left _ z)) (.exc (H := upd H1 a (exq a oe)) ea)
      rw [List.append_nil] at pm
      have ok2 : Ok X.K w.m B (σ1.set i (some (.ref a))) (upd H1 a (exq a oe)) (ρ1.set i (some (.exc e.C e.fs))) ws ts := by
        refine ⟨_, F2, Fw, (S.newD na).sub' (R := R2) ?_, r2, (hw.mono sm fun b z => st b z).mono sm2 fun b z => nf b (List.mem_append_right _ z), fun j hj => ?_⟩
        · have e1 : List.Perm (F2 ++ Fw ++ R2) (F2 ++ R2 ++ Fw) := by
            rw [List.append_assoc, List.append_assoc]
            exact List.Perm.append_left _ List.perm_append_comm
          exact e1.trans (List.Perm.append_right _ pm)
        · have : i ≠ j := fun q => hm (q ▸ hj)
          rw [List.getElem?_set_ne this]
          exact km1 j hj
      refine dts B _ _ _ ws ts _ ok2 ?_
      cases eG : G (ρ1.set i (some (.exc e.C e.fs))) with
      | no => rw [eG] at p; exact False.elim p
      | ex e2 ρ2 => rw [eG] at p; exact False.elim p
      | ok fl ρ2 =>
        rw [eG] at p
        cases fl with
        | nx => exact fun σ3 H3 q => p _ _ (q.clear hm none)
        | rt v => exact fun x3 σ3 H3 q => p x3 _ _ (q.clear hm none)
        | bk => exact fun σ3 H3 q => p _ _ (q.clear hm none)
        | ct => exact fun σ3 H3 q => p _ _ (q.clear hm none)
    · rw [if_neg hC] at p
      exact False.elim p
end

/-! ### x is None -/
def tIs : T → T → Option T
  | .exc _ _, .d .none => some (.d (.bool false))
  | t, u => onD pIs t u
def tIsNot : T → T → Option T
  | .exc _ _, .d .none => some (.d (.bool true))
  | t, u => onD pIsNot t u
section
variable {K : PySem.W.Frag} {m : List Bool}
theorem Ok.topExc {B : Bs} {σ : L2.St} {H : Hp} {ρ : Rho} {ws : List V} {ts : List T} {x : V} {n : Str} {fs : List (Str × PyData)} (h : Ok K m B σ H ρ (x :: ws) (.exc n fs :: ts)) : ∃ a, x = .ref a ∧ ExcAt K H a n fs := by
  obtain ⟨I, Fr, Fw, s, r, w, km⟩ := h
  cases w with
  | cons a b =>
    cases a with
    | exc q => exact ⟨_, rfl, q.mono s.sub⟩
theorem od_isX : OpD K m (fun x y H Q => (y = .non ∧ Q (.bl (decide (x = .non))) H) ∨ rIsB x y H Q) tIs := fun B σ H ρ ws ts x y t u v Q ok e q => by
  unfold tIs at e
  split at e
  · cases e
    have hy := ok.topNon
    obtain ⟨a, rfl, _⟩ := ok.pop.topExc
    exact .inl ⟨hy, q _ _ ok.pop.pop.bl⟩
  · exact od_is B σ H ρ ws ts x y t u v Q ok e q
theorem od_isNotX : OpD K m (fun x y H Q => (y = .non ∧ Q (.bl (!decide (x = .non))) H) ∨ rNotB x y H Q) tIsNot := fun B σ H ρ ws ts x y t u v Q ok e q => by
  unfold tIsNot at e
  split at e
  · cases e
    have hy := ok.topNon
    obtain ⟨a, rfl, _⟩ := ok.pop.topExc
    exact .inl ⟨hy, q _ _ ok.pop.pop.bl⟩
  · exact od_isNot B σ H ρ ws ts x y t u v Q ok e q
end

/-! ### isinstance(e, C) -/
/-- the classes of the text that stand under names, as isinstance asks of their instances -/
structure ExcN (K : PySem.W.Frag) (n : Str) : Prop where
  ex : ∃ D : Addr, PySem.W.nsIn K mainGlobals n = some (some (.ref D)) ∧ PySem.W.findIn K (.ref D) "__getattribute__" = some (some (.builtin "BaseException.__getattribute__")) ∧ (∃ gt, PySem.W.findIn K (.ref D) "__getattr__" = some gt) ∧
    PySem.W.subIn K (.ref D) (.type "BaseException") = some true ∧ (PySem.W.clsIn K D).isSome = true ∧ PySem.W.findIn K (.ref D) "__class__" = some (some (.builtin "object.__class__")) ∧
    PySem.W.specialIn K (.builtin "object.__class__") "__get__" = some (some (.builtin "getset_descriptor.__get__")) ∧ PySem.W.takesIn K (.builtin "object.__class__") = some true ∧ PySem.W.mroIn K D (.type "object") = some true
/-- what stands behind a class's name -/
def clsT (K : PySem.W.Frag) : T → V → Value → Prop
  | .fn m, v, u => ∃ C, PySem.W.nsIn K mainGlobals m = some (some (.ref C)) ∧ v = .ref C ∧ u = .ref C
  | .ty m, v, u => v = .ty m ∧ u = .type m
  | _, _, _ => False
/-- one answer: an instance of n, asked for the class t -/
def IsaOne (K : PySem.W.Frag) (n : Str) (t : T) (b : Bool) : Prop := ExcN K n ∧ ∃ D u v, PySem.W.nsIn K mainGlobals n = some (some (.ref D)) ∧ clsT K t v u ∧ PySem.W.kitOne K (.ref D) u = some b
def sameT : T → T → Bool
  | .fn a, .fn b => decide (a = b)
  | .ty a, .ty b => decide (a = b)
  | _, _ => false
def isaGet (tab : List (Str × T × Bool)) (n : Str) (t : T) : Option Bool := (tab.find? fun q => decide (q.1 = n) && sameT q.2.1 t).map fun q => q.2.2
def gIsiX (tab : List (Str × T × Bool)) : List T → Option T
  | [.exc n _, t] => (isaGet tab n t).map fun b => .d (.bool b)
  | us => gIsi us
def rIsiE (K : PySem.W.Frag) : List V → Hp → VK → Prop := fun xs H Q => ∃ (a D : Addr) (oe : Obj) (od : Option Addr) (c : V) (cv : Value) (b : Bool) (n : Str), xs = [.ref a, c] ∧ H a = some (exq a oe) ∧ oe.cls = .ref D ∧ (∃ ws, oe.data = .fields ws) ∧ oe.dict = od ∧
  (∀ d, od = some d → ∃ fs, H d = some (.xd fs)) ∧ ExcN K n ∧ PySem.W.nsIn K mainGlobals n = some (some (.ref D)) ∧ ClsV c cv ∧ PySem.W.kitOne K (.ref D) cv = some b ∧ Q (.bl b) H
theorem sameT_eq {t u : T} (h : sameT t u = true) : t = u := by
  cases t <;> cases u <;> simp [sameT] at h <;> rw [h]
section
variable {X : Cx} {K : PySem.W.Frag} {m : List Bool}
theorem exq_at {P : Program} {w : World} {H : Hp} {h : Heap} {a : Addr} {oe : Obj} (x : HOk P w H h) (e : H a = some (exq a oe)) : h.get? a = some oe := by
  have z : ObjOk P w H h a (.ext fun h => h.get? a = some oe) := x a _ e
  exact z.1
theorem call_isiE : CallR X (.builtin "isinstance") (rIsiE X.K) := by
  intro pins s σ H xs us Q I r h
  obtain ⟨a, D, oe, od, c, cv, b, n, rfl, ea, ec, ⟨ws, ew⟩, eo, hd, hn, hns, kc, e, q⟩ := h
  obtain ⟨u1, u2, rfl, r1, r2⟩ := vals2 r
  cases (show u1 = Value.ref a from r1)
  have e2 := kc.eq r2
  subst e2
  have hget := exq_at I.hok ea
  obtain ⟨D', z1, ga, ⟨gt, gg⟩, sb, cl, fc, sg, tk, mr⟩ := hn.ex
  rw [hns] at z1
  cases z1
  have J : ∃ od', PySem.W.InstAt s.heap a oe D od' := by
    cases od with
    | none =>
      refine ⟨none, hget, ec, by unfold PySem.W.notCls; rw [ew] <;> rfl, ?_⟩
      rw [eo]
      trivial
    | some d =>
      obtain ⟨fs, ed⟩ := hd d rfl
      have z : ObjOk X.prog X.w H s.heap d (.xd fs) := I.hok d _ ed
      obtain ⟨mA, hns2, _⟩ := z
      obtain ⟨o, _, _, ho, _⟩ := hns2
      refine ⟨some o, hget, ec, by unfold PySem.W.notCls; rw [ew] <;> rfl, ?_⟩
      rw [eo]
      exact ho
  obtain ⟨od', J⟩ := J
  exact PySem.W.kia_one (PySem.W.kitx_exc cl ga gg sb fc sg tk mr) I.kIn J e (fun z => nomatch z) fun tk => ⟨.bl b, H, I.tok tk, rfl, q⟩
def rIsiX (K : PySem.W.Frag) : List V → Hp → VK → Prop := fun xs H Q => rIsi K xs H Q ∨ rIsiE K xs H Q
theorem call_isiX : CallR X (.builtin "isinstance") (rIsiX X.K) := CallR.or call_isi call_isiE
theorem ck_isiX {tab : List (Str × T × Bool)} (ht : ∀ q ∈ tab, IsaOne K q.1 q.2.1 q.2.2) : CallK K m (rIsiX K) (gIsiX tab) := fun B σ H ρ ws ts xs us v Q hl ok e q => by
  unfold gIsiX at e
  split at e
  · rename_i n fs t
    unfold isaGet at e
    cases ef : tab.find? fun q => decide (q.1 = n) && sameT q.2.1 t with
    | none => rw [ef] at e; cases e
    | some g =>
      rw [ef] at e
      cases e
      have g0 := List.find?_some ef
      obtain ⟨g1, g2⟩ := (Bool.and_eq_true _ _).mp g0
      have g1 := of_decide_eq_true g1
      have g2 := sameT_eq g2
      obtain ⟨en, D, u, v', h1, h2, h3⟩ := ht g (List.mem_of_find?_eq_some ef)
      match xs, hl with
      | [x, y], _ =>
        have ok : Ok K m B σ H ρ (x :: y :: ws) (.exc n fs :: t :: ts) := ok
        obtain ⟨a, rfl, ex⟩ := ok.topExc
        obtain ⟨oe, C, vs, k1, k2, k3, k4, k5, k6, k7⟩ := ex.at_
        rw [g1] at h1 en
        rw [k7] at h1
        cases h1
        rw [g2] at h2
        have okt := ok.swap
        have hy : ClsV y u := by
          obtain ⟨I, Fr, Fw, s, r, w, km⟩ := okt
          cases w with
          | cons p _ =>
            cases t with
            | fn m' =>
              obtain ⟨C', c1, _, rfl⟩ := h2
              cases p with
              | fn z =>
                rw [c1] at z
                cases z
                exact .own _
            | ty m' =>
              obtain ⟨_, rfl⟩ := h2
              cases p
              exact .ty _
            | _ => exact h2.elim
        refine .inr ⟨a, _, oe, oe.dict, y, u, _, n, rfl, k1, k2, k3, rfl, fun d hd => ?_, en, k7, hy, h3, q _ _ (Ok.bl (ws := .ref a :: y :: ws) (ts := .exc n fs :: t :: ts) ok)⟩
        cases fs with
        | nil => rw [k5 rfl] at hd; cases hd
        | cons f fs =>
          obtain ⟨d', z1, z2⟩ := k4 (by simp)
          rw [z1] at hd
          cases hd
          exact ⟨_, z2⟩
  · exact .inl (ck_isi B σ H ρ ws ts xs us v Q hl ok e q)
end

/-! ### the class's name; e.f -/
structure ClsN (K : PySem.W.Frag) (mg : Str → Option Value) (x : Str) : Prop where
  ex : ∃ C : Addr, PySem.W.nsIn K mainGlobals x = some (some (.ref C)) ∧ mg x = some (.ref C)
structure XfOne (K : PySem.W.Frag) (n f : Str) : Prop where
  ex : ∃ C : Addr, PySem.W.nsIn K mainGlobals n = some (some (.ref C)) ∧ XfC K C ∧ PySem.W.findIn K (.ref C) f = some none
def dxf (ns : List Str) (f : Str) (fe : M T) : M T := mbind fe fun t => match t with
  | .exc n fs => if n ∈ ns then mopt ((fs.lookup f).map T.d) else mno
  | _ => mno
def tXfE (K : PySem.W.Frag) (f : Str) (te : TE) : TE := fun σ H Q => te σ H fun x H1 => ∃ (a C dd : Addr) (oe : Obj) (fs : List (Str × V)) (v : V), x = .ref a ∧ H1 a = some (exq a oe) ∧ oe.cls = .ref C ∧ (∃ ws, oe.data = .fields ws) ∧ oe.dict = some dd ∧ H1 dd = some (.xd fs) ∧
  XfC K C ∧ PySem.W.findIn K (.ref C) f = some none ∧ fs.lookup f = some v ∧ Q v H1
section
variable {X : Cx} {w : Wd} {e : Expr} {fe : M T} {pos : Pos} {x f : Str}
theorem de_cls (h : ClsN X.K X.mg x) (hg : Gl X x := by rfl) (hd : (x == ("__debug__" : Str)) = false := by decide) : DE X w (.Name x pos) (mret (.fn x)) := by
  obtain ⟨C, h1, h2⟩ := h.ex
  exact de_v (pe_glob (v := .ref C) hg h2 rfl hd) fun B σ H ρ ws ts Q ok p => p _ H (ok.pushFn h1)
theorem pe_xfE {te : TE} (he : PE X e te) (hb : attributeBase e f X.env (eval e X.env) = eval e X.env := by rfl) : PE X (.Attribute e f pos) (tXfE X.K f te) := by
  refine ⟨fun pins s σ H Q I h => attr_of hb (thn (he.run pins s σ H _ I h) fun u s1 hh => ?_)⟩
  obtain ⟨y, H1, I1, ry, a, C, dd, oe, fs, v, rfl, ea, ec, ⟨ws, ew⟩, ed, edd, T, hno, l, q⟩ := hh
  cases (show u = Value.ref a from ry)
  have z : ObjOk X.prog X.w H1 s1.heap dd (.xd fs) := I1.hok dd _ edd
  obtain ⟨mA, hns, hr⟩ := z
  obtain ⟨od, ho, hl⟩ := lookIn_ns hns
  obtain ⟨u2, hu, ru⟩ := RelO.some_of (v := v) (o := mA f) (by rw [← l]; exact hr f)
  have J : PySem.W.InstAt s1.heap a oe C (some od) := ⟨exq_at I1.hok ea, ec, by unfold PySem.W.notCls; rw [ew] <;> rfl, by rw [ed]; exact ho⟩
  refine HandSPX.exc_get I1.kIn J T.ga T.gg T.exC ?_ (handed_of ru) ⟨v, H1, I1.tok _, ru, q⟩
  exact PySem.W.findObj_own T.hdC hno rfl (by rw [hl, hu])
theorem lookup_any {α : Type} (f g : Str) (y : α) (fs : List (Str × α)) : ((g, y) :: fs).lookup f = if f = g then some y else fs.lookup f := by
  by_cases h : f = g
  · subst h
    simp [List.lookup]
  · have e : (f == g) = false := by simpa using h
    rw [if_neg h]
    simp [List.lookup, e]
theorem lookup_rep {K : PySem.W.Frag} {I : Hp} : ∀ {fs : List (Str × PyData)} {vs : List V} {d : PyData}, DrAll K I vs (fs.map (·.2)) → fs.lookup f = some d → ∃ v, ((fs.map (·.1)).zip vs).lookup f = some v ∧ Dr K I v d
  | [], _, _, _, h => nomatch h
  | (g, d0) :: fs, vs, d, r, h => by
    cases r with
    | cons a b =>
      rw [lookup_any] at h
      show ∃ v, (((g, _) :: (fs.map (·.1)).zip _) : List (Str × V)).lookup f = some v ∧ _
      rw [lookup_any]
      by_cases z : f = g
      · rw [if_pos z] at h ⊢
        cases h
        exact ⟨_, rfl, a⟩
      · rw [if_neg z] at h ⊢
        exact lookup_rep b h
theorem de_xf {ns : List Str} (h : ∀ n ∈ ns, XfOne X.K n f) (he : DE X w e fe) (hb : attributeBase e f X.env (eval e X.env) = eval e X.env := by rfl) : DE X w (.Attribute e f pos) (dxf ns f fe) := by
  obtain ⟨t, pt, dt⟩ := he.ex
  refine de_v (pe_xfE pt hb) fun B σ H ρ ws ts Q ok p => ?_
  refine dt B σ H ρ ws ts _ ok (p.bind.mono fun v ρ1 p1 x1 H1 ok1 => ?_)
  cases v with
  | exc n fs =>
    have p1 : PostG X.K w B ((if n ∈ ns then mopt ((fs.lookup f).map T.d) else mno) ρ1) (fun v ρ' => ∀ x H', Ok X.K w.m B σ H' ρ' (x :: ws) (v :: ts) → Q x H') := p1
    by_cases hn : n ∈ ns
    · rw [if_pos hn] at p1
      obtain ⟨z, e1, q1⟩ := p1.opt
      cases e2 : fs.lookup f with
      | none => rw [e2] at e1; cases e1
      | some d =>
        rw [e2] at e1
        cases e1
        obtain ⟨C, h1, T, h2⟩ := (h n hn).ex
        obtain ⟨I, Fr, Fw, s, r, w', km⟩ := id ok1
        cases w' with
        | cons pa pb =>
          cases pa with
          | exc q =>
            obtain ⟨oe, C', vs, k1, k2, k3, k4, k5, k6, k7⟩ := q.at_
            rw [h1] at k7
            cases k7
            obtain ⟨dd, k8, k9⟩ := k4 (by intro z; rw [z] at e2; cases e2)
            obtain ⟨v, l1, l2⟩ := lookup_rep k6 e2
            exact ⟨_, C, dd, oe, _, v, rfl, s.sub _ _ k1, k2, k3, k8, s.sub _ _ k9, T, h2, l1, q1 _ _ ⟨I, Fr, _, s, r, .cons (F := []) (.d l2) pb, km⟩⟩
    · rw [if_neg hn] at p1
      exact False.elim p1
  | _ => exact False.elim p1
end
end DL
end
section
set_option Elab.async false
set_option linter.all false
set_option maxRecDepth 100000
set_option maxHeartbeats 4000000
/-! DLL: methods of texts: join, split. -/
namespace DL
open PySem L2

/-- o.m(e), o a text -/
def dsm1 (g : Str → PyData → Option PyData) (fo fe : M T) : M T := mbind fo fun x => match x with
  | .d (.str a) => mbind fe fun y => match y with
    | .d d => mopt ((g a d).map T.d)
    | _ => mno
  | _ => mno
def gJoin (a : Str) : PyData → Option PyData
  | .list ds => match strsD ds with
    | some ys => if (ys.map (·.length)).sum + ys.length * a.length ≤ 16777216 then some (.str (Txt.join a ys)) else none
    | none => none
  | _ => none
def gSplit (a : Str) : PyData → Option PyData
  | .str b => if (b.length == 0) = false ∧ a.length ≤ lim then some (.list ((Txt.split a b).map PyData.str)) else none
  | _ => none
section
variable {X : Cx} {w : Wd} {o e : Expr} {fo fe : M T} {apos pos : Pos}
theorem den_sm1 {r : V → List V → Hp → VK → Prop} {g : Str → PyData → Option PyData} {to te : TE} {K : PySem.W.Frag} (dto : DenE K w to fo) (dte : DenE K w te fe)
    (h : ∀ B σ H ρ ws ts a y d z (Q : VK), Ok K w.m B σ H ρ (y :: .str a :: ws) (.d d :: .d (.str a) :: ts) → g a d = some z → (∀ u H', Ok K w.m B σ H' ρ (u :: ws) (.d z :: ts) → Q u H') → r (.str a) [y] H Q) : DenE K w (tM1 r to te) (dsm1 g fo fe) := fun B σ H ρ ws ts Q ok p => by
  refine dto B σ H ρ ws ts _ ok (p.bind.mono fun v ρ1 p1 x H1 ok1 => ?_)
  cases v with
  | d x1 =>
    cases x1 with
    | str a =>
      have ex := ok1.topStr
      subst ex
      have p1 : PostG K w B (mbind fe (fun y => match y with | .d d => mopt ((g a d).map T.d) | _ => (mno : M T)) ρ1) _ := p1
      refine ⟨⟨a, rfl⟩, dte B σ H1 ρ1 _ _ _ ok1 (p1.bind.mono fun v2 ρ2 p2 y H2 ok2 => ?_)⟩
      cases v2 with
      | d d =>
        obtain ⟨z, e1, q⟩ := PostG.opt p2
        cases e2 : g a d with
        | none => rw [e2] at e1; cases e1
        | some z' =>
          rw [e2] at e1
          cases e1
          exact h B σ H2 ρ2 ws ts a y d z' Q ok2 e2 q
      | _ => exact False.elim p2
    | _ => exact False.elim p1
  | _ => exact False.elim p1
theorem de_join (ho : DE X w o fo) (he : DE X w e fe) (hs : starEach [e] X.env = [(false, eval e X.env)] := by rfl) (hbase : attributeBase o "join" X.env (eval o X.env) = eval o X.env := by rfl) (hline : (apos.endLine == pos.line) = true := by rfl) :
    DE X w (.Call (.Attribute o "join" apos) [e] [] pos) (dsm1 gJoin fo fe) := by
  obtain ⟨to, po, dto⟩ := ho.ex
  obtain ⟨te, pt, dte⟩ := he.ex
  refine de_v (pe_join po pt hs hbase hline) (den_sm1 dto dte fun B σ H ρ ws ts a y d z Q ok e q => ?_)
  unfold gJoin at e
  split at e
  · rename_i ds
    split at e
    · rename_i ys es
      obtain ⟨hl, e⟩ := reqs e
      subst e
      obtain ⟨p, vs, rfl, hp, dv⟩ := ok.topList
      have hv := strs_all dv es
      subst hv
      exact ⟨a, p, ys, rfl, rfl, .inl (SqL.of hp), hl, q _ _ ok.pop.pop.str⟩
    · cases e
  · cases e
theorem de_split (ho : DE X w o fo) (he : DE X w e fe) (hs : starEach [e] X.env = [(false, eval e X.env)] := by rfl) (hbase : attributeBase o "split" X.env (eval o X.env) = eval o X.env := by rfl) (hline : (apos.endLine == pos.line) = true := by rfl) :
    DE X w (.Call (.Attribute o "split" apos) [e] [] pos) (dsm1 gSplit fo fe) := by
  obtain ⟨to, po, dto⟩ := ho.ex
  obtain ⟨te, pt, dte⟩ := he.ex
  refine de_v (pe_split po pt hs hbase hline) (den_sm1 dto dte fun B σ H ρ ws ts a y d z Q ok e q => ?_)
  unfold gSplit at e
  split at e
  · obtain ⟨hl, e⟩ := reqs e
    subst e
    have hy := ok.topStr
    subst hy
    refine ⟨a, _, rfl, rfl, hl.1, Nat.le_trans (Nat.add_le_add_right hl.2 2) (by decide), fun p hp => q _ _ (ok.pop.pop.newList hp fun I Fw _ _ => drAll_strs _)⟩
  · cases e
end
/-! ### >= of ints and texts -/
def pGe2 : PyData → PyData → Option PyData
  | .int i, .int j => some (.bool (decide (j ≤ i)))
  | .str a, .str b => some (.bool (!strLt a b))
  | _, _ => none
def rGe2 : R2 := fun x y H Q => (rI0 fun i j => .bl (decide (j ≤ i))) x y H Q ∨ ∃ i j, x = .str i ∧ y = .str j ∧ Q (.bl (!decide (i.cps.toList < j.cps.toList))) H
theorem op_ge2 {X : Cx} : OpR X (compareOp .GtE) rGe2 := OpR.or op_ge op_ge_str
theorem od_ge2 {K : PySem.W.Frag} {m : List Bool} : OpD K m rGe2 (onD pGe2) := OpD.ofD fun B σ H ρ ws ts x y t u v Q ok e q => by
  unfold pGe2 at e
  split at e
  · cases e
    have hy := ok.topInt
    have hx := ok.pop.topInt
    subst hx hy
    exact .inl ⟨_, _, rfl, rfl, q _ _ ok.pop.pop.bl⟩
  · cases e
    have hy := ok.topStr
    have hx := ok.pop.topStr
    subst hx hy
    exact .inr ⟨_, _, rfl, rfl, q _ _ ok.pop.pop.bl⟩
  · cases e
end DL
end
section
set_option Elab.async false
set_option linter.all false
set_option maxRecDepth 100000
set_option maxHeartbeats 4000000
/-! DLM: what the head leaves of the text's exception classes. -/
namespace DL
open PySem L2

def methOf (s : Stmt) (i : Nat) : Stmt := match s with
  | .ClassDef _ _ _ body _ _ _ _ _ _ _ => body.getD i (.Pass ⟨0, 0, 0, 0⟩)
  | _ => .Pass ⟨0, 0, 0, 0⟩
theorem mem_nil {α : Type} {P : α → Prop} : ∀ q ∈ ([] : List α), P q := fun _ h => nomatch h
theorem mem_cons {α : Type} {P : α → Prop} {a : α} {l : List α} (h : P a) (r : ∀ q ∈ l, P q) : ∀ q ∈ a :: l, P q := fun q m => by
  rcases List.mem_cons.mp m with e | e
  · rw [e]; exact h
  · exact r q e
/-- a class that is raised, its __init__ -/
structure HasC0 (K : PySem.W.Frag) (n qual : Str) (st : Stmt) (fs : List Str) : Prop where
  ex : ∃ (C fI : Addr) (fd : FuncData), PySem.W.nsIn K mainGlobals n = some (some (.ref C)) ∧ OexC K C ∧ PySem.W.findIn K (.ref C) "__init__" = some (some (.ref fI)) ∧ PySem.W.typeIn K (.ref fI) = some (.type "function") ∧ Fun K "__init__" qual st fI fd ∧
    (∀ f ∈ fs, PySem.W.findIn K (.ref C) f = some none) ∧ PySem.W.findCls K (.type "ValueError") (.type "type") "__init__" = some (.val (.builtin "ValueError.__init__"))
structure HasC (K : PySem.W.Frag) (mg : Str → Option Value) (n qual : Str) (st : Stmt) (fs : List Str) : Prop where
  ex : ∃ (C fI : Addr) (fd : FuncData), PySem.W.nsIn K mainGlobals n = some (some (.ref C)) ∧ mg n = some (.ref C) ∧ OexC K C ∧ PySem.W.findIn K (.ref C) "__init__" = some (some (.ref fI)) ∧ PySem.W.typeIn K (.ref fI) = some (.type "function") ∧ Fun K "__init__" qual st fI fd ∧
    (∀ f ∈ fs, PySem.W.findIn K (.ref C) f = some none) ∧ PySem.W.findCls K (.type "ValueError") (.type "type") "__init__" = some (.val (.builtin "ValueError.__init__"))
structure HasCls (K : PySem.W.Frag) (n : Str) : Prop where
  ex : ∃ C : Addr, PySem.W.nsIn K mainGlobals n = some (some (.ref C))
structure HasExm (K : PySem.W.Frag) (n : Str) : Prop where
  ex : ∃ C : Addr, PySem.W.nsIn K mainGlobals n = some (some (.ref C)) ∧ PySem.W.exmOne K (.ref C) (.ref C) = some true
structure IsaK (K : PySem.W.Frag) (n : Str) (t : T) (b : Bool) : Prop where
  ex : ∃ D u v, PySem.W.nsIn K mainGlobals n = some (some (.ref D)) ∧ clsT K t v u ∧ PySem.W.kitOne K (.ref D) u = some b
section
variable {K : PySem.W.Frag} {h : Heap} {mg : Str → Option Value} {n qual : Str} {st : Stmt} {fs : List Str} {C fI : Addr}
theorem HasC0.at (X : K.In h) (G : h.Ns mainGlobals mg) (a : HasC0 K n qual st fs) : HasC K mg n qual st fs := by
  obtain ⟨C, fI, fd, h1, h2⟩ := a.ex
  exact ⟨C, fI, fd, h1, PySem.W.mg_of X G h1, h2⟩
theorem HasCls.at (X : K.In h) (G : h.Ns mainGlobals mg) (a : HasCls K n) : ClsN K mg n := by
  obtain ⟨C, h1⟩ := a.ex
  exact ⟨C, h1, PySem.W.mg_of X G h1⟩
theorem HasExm.at (X : K.In h) (G : h.Ns mainGlobals mg) (a : HasExm K n) : ClsX K mg n := by
  obtain ⟨C, h1, h2⟩ := a.ex
  exact ⟨C, h1, PySem.W.mg_of X G h1, h2⟩
theorem HasC0.by_ {nm q : Str} {N : Addr} {bs bm : List Value} {sn : _} {sub ab col dd k0 k1 k2 k3 k5 : _} {oc : Value} {od an : Option Addr} {osl : Array (Option Value)} {kV doc pm cdv ct : Value} (a : PySem.W.nsIn K mainGlobals n = some (some (.ref C)))
    (l : K.lookup C = some (excClassObj nm q C N bs bm true sn sub ab col dd k0 k1 k2 k3 k5 "ValueError.__new__")) (hb : PySem.HandSPX.refsVE bm = true) (sa : PySem.W.findIn K (.ref C) "__setattr__" = some (some (.builtin "object.__setattr__")))
    (ex : PySem.W.subIn K (.ref C) (.type "BaseException") = some true) (ty : PySem.W.typeIn K (.ref C) = some (.type "type")) (kp : PySem.W.keepIn K (.ref C) = true) (i : PySem.W.findIn K (.ref C) "__init__" = some (some (.ref fI))) (ti : PySem.W.typeIn K (.ref fI) = some (.type "function"))
    (lf : K.lookup fI = some ⟨oc, od, .func (PySem.W.fnOf "__init__" qual (defArgs st) (defBody st) (defScope st) .none kV doc pm an cdv ct), osl⟩) (cf : PySem.W.codeIn K cdv qual = true) (kf : PySem.W.keepIn K (.ref fI) = true)
    (hno : ∀ f ∈ fs, PySem.W.findIn K (.ref C) f = some none) (v : PySem.W.findCls K (.type "ValueError") (.type "type") "__init__" = some (.val (.builtin "ValueError.__init__"))) : HasC0 K n qual st fs :=
  ⟨C, fI, _, a, ⟨⟨_, _, _, _, _, _, _, _, _, _, _, _, _, _, _, l, hb⟩, sa, ex, ty, kp⟩, i, ti, fun_mk lf cf kf, hno, v⟩
theorem HasCls.by_ (a : PySem.W.nsIn K mainGlobals n = some (some (.ref C))) : HasCls K n := ⟨C, a⟩
theorem cls_isSome (h : PySem.W.hasDictIn K C = true) : (PySem.W.clsIn K C).isSome = true := by
  unfold PySem.W.hasDictIn at h
  cases e : PySem.W.clsIn K C with
  | none => rw [e] at h; cases h
  | some c => rfl
theorem HasExm.by_ (a : PySem.W.nsIn K mainGlobals n = some (some (.ref C))) (b : PySem.W.subIn K (.ref C) (.type "BaseException") = some true) (d : PySem.W.hasDictIn K C = true) (t : PySem.W.typeIn K (.ref C) = some (.type "type")) (e : PySem.W.subIn K (.ref C) (.ref C) = some true) : HasExm K n :=
  ⟨C, a, PySem.W.exm_ref b d t e⟩
theorem XfOne.by_ {f : Str} (a : PySem.W.nsIn K mainGlobals n = some (some (.ref C))) (ga : PySem.W.findIn K (.ref C) "__getattribute__" = some (some (.builtin "BaseException.__getattribute__"))) (gg : PySem.W.findIn K (.ref C) "__getattr__" = some none)
    (b : PySem.W.subIn K (.ref C) (.type "BaseException") = some true) (d : PySem.W.hasDictIn K C = true) (y : PySem.W.findIn K (.ref C) f = some none) : XfOne K n f := ⟨C, a, ⟨ga, gg, b, d⟩, y⟩
theorem ExcN.by_ {gt : Option Value} (a : PySem.W.nsIn K mainGlobals n = some (some (.ref C))) (h1 : PySem.W.findIn K (.ref C) "__getattribute__" = some (some (.builtin "BaseException.__getattribute__"))) (h2 : PySem.W.findIn K (.ref C) "__getattr__" = some gt)
    (h3 : PySem.W.subIn K (.ref C) (.type "BaseException") = some true) (h4 : PySem.W.hasDictIn K C = true) (h5 : PySem.W.findIn K (.ref C) "__class__" = some (some (.builtin "object.__class__")))
    (h6 : PySem.W.specialIn K (.builtin "object.__class__") "__get__" = some (some (.builtin "getset_descriptor.__get__"))) (h7 : PySem.W.takesIn K (.builtin "object.__class__") = some true) (h8 : PySem.W.mroIn K C (.type "object") = some true) : ExcN K n := ⟨C, a, h1, ⟨gt, h2⟩, h3, cls_isSome h4, h5, h6, h7, h8⟩
theorem IsaOne.mk {t : T} {b : Bool} (e : ExcN K n) (k : IsaK K n t b) : IsaOne K n t b := ⟨e, k.ex⟩
theorem IsaK.same (a : PySem.W.nsIn K mainGlobals n = some (some (.ref C))) : IsaK K n (.fn n) true := ⟨C, _, _, a, ⟨C, a, rfl, rfl⟩, by unfold PySem.W.kitOne; rw [if_pos (by simp)]⟩
theorem IsaK.cls {m : Str} {D : Addr} {b : Bool} (a : PySem.W.nsIn K mainGlobals n = some (some (.ref C))) (c : PySem.W.nsIn K mainGlobals m = some (some (.ref D))) (d : PySem.W.hasDictIn K D = true) (t : PySem.W.typeIn K (.ref D) = some (.type "type")) (k : PySem.W.subIn K (.ref C) (.ref D) = some b)
    (ne : (Value.ref C == Value.ref D) = false) : IsaK K n (.fn m) b := by
  refine ⟨C, _, _, a, ⟨D, c, rfl, rfl⟩, ?_⟩
  unfold PySem.W.kitOne
  rw [if_neg (by rw [ne]; decide)]
  have e2 : ((PySem.W.clsIn K D).isSome && PySem.W.typeIn K (.ref D) == some (.type "type")) = true := by rw [cls_isSome d, t]; rfl
  show (if ((PySem.W.clsIn K D).isSome && PySem.W.typeIn K (.ref D) == some (.type "type")) = true then PySem.W.subIn K (.ref C) (.ref D) else none) = some b
  rw [if_pos e2]
  exact k
theorem IsaK.ty {m : String} {b : Bool} (a : PySem.W.nsIn K mainGlobals n = some (some (.ref C))) (mt : PySem.W.kitMeta m = true) (k : PySem.W.subIn K (.ref C) (.type m) = some b) : IsaK K n (.ty m) b := by
  refine ⟨C, _, _, a, ⟨rfl, rfl⟩, ?_⟩
  unfold PySem.W.kitOne
  rw [if_neg (by intro z; cases beq_iff_eq.mp z)]
  show (if PySem.W.kitMeta m = true then PySem.W.subIn K (.ref C) (.type m) else none) = some b
  rw [if_pos mt]
  exact k
end
theorem bt_ValueError : bootBuiltins "ValueError" = some (.type "ValueError") := by decide +kernel
theorem bt_IndexError : bootBuiltins "IndexError" = some (.type "IndexError") := by decide +kernel
theorem bt_KeyError : bootBuiltins "KeyError" = some (.type "KeyError") := by decide +kernel
theorem bt_LookupError : bootBuiltins "LookupError" = some (.type "LookupError") := by decide +kernel
theorem bt_OverflowError : bootBuiltins "OverflowError" = some (.type "OverflowError") := by decide +kernel
theorem bt_RuntimeError : bootBuiltins "RuntimeError" = some (.type "RuntimeError") := by decide +kernel
end DL
end
section
set_option Elab.async false
set_option linter.all false
set_option maxRecDepth 100000
set_option maxHeartbeats 4000000
/-! DLN: instances of the text's classes: made, their attributes, their methods. -/
namespace DL
open PySem L2

/-- the class called n has a plain attribute f -/
structure ClsF (K : PySem.W.Frag) (n f : Str) : Prop where
  ex : ∃ C : Addr, PySem.W.nsIn K mainGlobals n = some (some (.ref C)) ∧ Cls K C ∧ NoAttr K C f

/-! ### e.f, e an instance that doesn't change -/
def dfa (ns : List Str) (f : Str) (fe : M T) : M T := mbind fe fun t => match t with
  | .fin n fs => if n ∈ ns then mopt ((fs.lookup f).map T.d) else mno
  | _ => mno
section
variable {X : Cx} {w : Wd} {e : Expr} {fe fv : M T} {pos pos' : Pos} {x f : Str}
theorem lookup_kv {K : PySem.W.Frag} {I : Hp} : ∀ {kvs : List (Str × V)} {fs : List (Str × PyData)} {d : PyData}, kvs.map (·.1) = fs.map (·.1) → DrAll K I (kvs.map (·.2)) (fs.map (·.2)) → fs.lookup f = some d → ∃ v, kvs.lookup f = some v ∧ Dr K I v d
  | [], [], _, _, _, h => nomatch h
  | [], _ :: _, _, e, _, _ => nomatch e
  | _ :: _, [], _, e, _, _ => nomatch e
  | (g, v) :: kvs, (g', d0) :: fs, d, e, r, h => by
    rw [List.map_cons, List.map_cons] at e
    have e1 : g = g' := (List.cons.inj e).1
    have e2 := (List.cons.inj e).2
    subst e1
    cases r with
    | cons a b =>
      rw [lookup_any] at h
      rw [lookup_any]
      by_cases z : f = g
      · rw [if_pos z] at h ⊢
        cases h
        exact ⟨v, rfl, a⟩
      · rw [if_neg z] at h ⊢
        exact lookup_kv e2 b h
theorem de_fa {ns : List Str} (h : ∀ n ∈ ns, ClsF X.K n f) (he : DE X w e fe) (hb : attributeBase e f X.env (eval e X.env) = eval e X.env := by rfl) : DE X w (.Attribute e f pos) (dfa ns f fe) := by
  obtain ⟨t, pt, dt⟩ := he.ex
  refine de_v (pe_fld pt hb) fun B σ H ρ ws ts Q ok p => ?_
  refine dt B σ H ρ ws ts _ ok (p.bind.mono fun v ρ1 p1 x1 H1 ok1 => ?_)
  cases v with
  | fin n fs =>
    have p1 : PostG X.K w B ((if n ∈ ns then mopt ((fs.lookup f).map T.d) else mno) ρ1) (fun v ρ' => ∀ x H', Ok X.K w.m B σ H' ρ' (x :: ws) (v :: ts) → Q x H') := p1
    by_cases hn : n ∈ ns
    · rw [if_pos hn] at p1
      obtain ⟨z, e1, q1⟩ := p1.opt
      cases e2 : fs.lookup f with
      | none => rw [e2] at e1; cases e1
      | some d =>
        rw [e2] at e1
        cases e1
        obtain ⟨C, h1, T, h2⟩ := (h n hn).ex
        obtain ⟨I, Fr, Fw, s, r, w', km⟩ := id ok1
        cases w' with
        | cons pa pb =>
          cases pa with
          | fin q =>
            obtain ⟨C', dx, kvs, k1, k2, k3, k4, k5⟩ := q.at_
            rw [h1] at k1
            cases k1
            obtain ⟨v, l1, l2⟩ := lookup_kv k4 k5 e2
            exact ⟨_, C, dx, kvs, v, rfl, s.sub _ _ k2, T, h2, l1, q1 _ _ ⟨I, Fr, _, s, r, .cons (F := []) (.d l2) pb, km⟩⟩
    · rw [if_neg hn] at p1
      exact False.elim p1
  | _ => exact False.elim p1

/-! ### x.f = e, x an own instance -/
def putT (f : Str) (t : T) : List (Str × T) → List (Str × T)
  | [] => [(f, t)]
  | (g, u) :: r => if g = f then (g, t) :: r else (g, u) :: putT f t r
def gatt (ns : List Str) (i : Nat) (f : Str) (t : T) : M Unit := fun ρ => match ρ[i]? with
  | some (some (.ins n fs)) => if n ∈ ns ∧ fs.length ≤ 900 then .ok () (ρ.set i (some (.ins n (putT f t fs)))) else .no
  | _ => .no
def satt (ns : List Str) (i : Nat) (f : Str) (fv : M T) : M Fl := mbind fv fun t => mbind (gatt ns i f t) fun _ => mret .nx
theorem puts_rep {K : PySem.W.Frag} {I H : Hp} {y : V} {t : T} {G : List Addr} (ry : RepT K I H y t G) : ∀ {kvs : List (Str × V)} {fs : List (Str × T)} {F : List Addr}, kvs.map (·.1) = fs.map (·.1) → RepTs K I H (kvs.map (·.2)) (fs.map (·.2)) F →
    ∃ F' R, (putF f y kvs).map (·.1) = (putT f t fs).map (·.1) ∧ RepTs K I H ((putF f y kvs).map (·.2)) ((putT f t fs).map (·.2)) F' ∧ List.Perm (F' ++ R) (F ++ G)
  | [], [], F, _, r => by
    cases r
    exact ⟨G ++ [], [], rfl, .cons ry .nil, by simp⟩
  | [], _ :: _, _, e, _ => nomatch e
  | _ :: _, [], _, e, _ => nomatch e
  | (g, v) :: kvs, (g', u) :: fs, F, e, r => by
    rw [List.map_cons, List.map_cons] at e
    have e1 : g = g' := (List.cons.inj e).1
    have e2 := (List.cons.inj e).2
    subst e1
    cases r with
    | cons a b =>
      rename_i F1 F2
      by_cases z : g = f
      · refine ⟨G ++ F2, F1, ?_, ?_, ?_⟩
        · simp [putF, putT, z, e2]
        · simp only [putF, putT, if_pos z, List.map_cons]
          exact .cons ry b
        · rw [List.append_assoc, List.append_assoc]
          exact (List.perm_append_comm (l₁ := G) (l₂ := F2 ++ F1)).trans (List.Perm.append_right _ List.perm_append_comm) |>.trans (by rw [List.append_assoc])
      · obtain ⟨F', R, h1, h2, h3⟩ := puts_rep ry e2 b
        refine ⟨F1 ++ F', R, ?_, ?_, ?_⟩
        · simp [putF, putT, z, h1]
        · simp only [putF, putT, if_neg z, List.map_cons]
          exact .cons a h2
        · rw [List.append_assoc, List.append_assoc]
          exact List.Perm.append_left _ h3
theorem put_len {t : T} : ∀ {kvs : List (Str × V)} {fs : List (Str × T)}, kvs.map (·.1) = fs.map (·.1) → kvs.length = fs.length := fun {kvs fs} e => by
  have := congrArg List.length e
  simpa using this
theorem ds_att {ns : List Str} (i : Nat) {p0 p1 p2 : Pos} (h : ∀ n ∈ ns, ClsF X.K n f) (hv : DE X w e fv) (hN : X.N[i]? = some x := by rfl) (hvis : Vis X.env.scope x := by first | exact Or.inl rfl | exact Or.inr (Or.inl rfl) | exact Or.inr (Or.inr rfl)) (hd : (x == ("__debug__" : Str)) = false := by decide)
    (hcd : (x == ("__classdict__" : Str)) = false := by decide) (hs : swapsWith e (some (.Attribute (.Name x p0) f p1)) p2.line X.env = pure false := by rfl) : DS X w (.Assign [.Attribute (.Name x p0) f p1] e p2) (satt ns i f fv) := by
  obtain ⟨tv, pv, dv⟩ := hv.ex
  refine ⟨_, ps_fld (pe_var hN hvis hd hcd) pv hs, fun B σ H ρ ws ts D ok p => ?_⟩
  refine dv B σ H ρ ws ts _ ok (p.bind.mono fun t ρ1 q1 y H1 ok1 => ?_)
  have q1 := PostG.bind q1
  unfold gatt at q1
  cases e1 : ρ1[i]? with
  | none => rw [e1] at q1; exact False.elim q1
  | some o =>
    cases o with
    | none => rw [e1] at q1; exact False.elim q1
    | some u =>
      cases u with
      | ins n fs =>
        rw [e1] at q1
        simp only at q1
        by_cases hz : n ∈ ns ∧ fs.length ≤ 900
        · rw [if_pos hz] at q1
          have q1 : ∀ σ' H', Ok X.K w.m B σ' H' (ρ1.set i (some (.ins n (putT f t fs)))) ws ts → D.nx σ' H' := q1
          obtain ⟨v, hσ, ok2⟩ := ok1.take e1
          obtain ⟨C, k1, cl, no⟩ := (h n hz.1).ex
          obtain ⟨I, Fr, Fw, s, r, w', km⟩ := id ok2
          cases w' with
          | cons pa pb =>
            cases pb with
            | cons pc pd =>
              cases pa with
              | ins n0 ha ho en ev ex rr =>
                rename_i Fy Fws a C' dx kvs vs xs F0
                subst ev ex
                rw [k1] at n0
                cases n0
                refine ⟨_, hσ, a, C, dx, kvs, rfl, ha, cl, no, by rw [put_len (t := t) en]; omega, ?_⟩
                have mem : a ∈ Fr ++ ((a :: dx :: F0) ++ (Fy ++ Fws)) := by simp
                have S := s.write (o := .ins C dx (putF f y kvs)) mem
                have ndx : dx ≠ a := fun z => by
                  rw [z, ha] at ho
                  cases ho
                have other : ∀ q ∈ Fr ++ (F0 ++ (Fy ++ Fws)), q ≠ a := fun q z e => by
                  subst e
                  have nd := s.nd
                  have pm : List.Perm (Fr ++ ((q :: dx :: F0) ++ (Fy ++ Fws))) (q :: (Fr ++ (dx :: (F0 ++ (Fy ++ Fws))))) := List.perm_middle
                  refine (List.nodup_cons.mp (pm.nodup_iff.mp nd)).1 ?_
                  rcases List.mem_append.mp z with z | z
                  · exact List.mem_append_left _ z
                  · exact List.mem_append_right _ (List.mem_cons_of_mem _ z)
                have fx : ∀ q ∈ Fr ++ (F0 ++ (Fy ++ Fws)), (upd H1 a (.ins C dx (putF f y kvs))) q = H1 q := fun q z => upd_ne (other q z)
                obtain ⟨F', R, h1, h2, h3⟩ := puts_rep (f := f) (pc.mono (Same.refl _) fun q z => fx q (by simp [z])) en (rr.mono (Same.refl _) fun q z => fx q (by simp [z]))
                have rep : RepT X.K I (upd H1 a (.ins C dx (putF f y kvs))) (.ref a) (.ins n (putT f t fs)) (a :: dx :: F') := .ins k1 upd_same (by rw [upd_ne ndx]; exact ho) h1 rfl rfl h2
                refine q1 _ _ (Ok.back (x := .ref a) (t := .ins n (putT f t fs)) (ρ := ρ1.set i none) (i := i) ⟨I, Fr, (a :: dx :: F') ++ Fws, ?_, r.mono (Same.refl _) fun q z => fx q (by simp [z]), .cons rep (pd.mono (Same.refl _) fun q z => fx q (by simp [z])), km⟩ hσ |> fun z => by rwa [List.set_set] at z)
                refine S.sub' (R := R) ?_
                have p0 : List.Perm (Fr ++ ((a :: dx :: F') ++ Fws) ++ R) (Fr ++ ((a :: dx :: (F' ++ R)) ++ Fws)) := by
                  rw [List.append_assoc]
                  refine List.Perm.append_left _ ?_
                  simp only [List.cons_append, List.append_assoc]
                  exact List.Perm.cons _ (List.Perm.cons _ (List.Perm.append_left _ List.perm_append_comm))
                refine p0.trans (List.Perm.append_left _ ?_)
                simp only [List.cons_append]
                refine List.Perm.cons _ (List.Perm.cons _ ?_)
                rw [← List.append_assoc]
                exact List.Perm.append_right _ h3
        · rw [if_neg hz] at q1
          exact False.elim q1
      | _ => rw [e1] at q1; exact False.elim q1
end
end DL
end
section
set_option Elab.async false
set_option linter.all false
set_option maxRecDepth 100000
set_option maxHeartbeats 4000000
/-! DLO: methods of own instances, making them. -/
namespace DL
open PySem L2 PySem.Spec PyProof.Rows

/-- a method as the text has it -/
structure DefM (P : Program) (w : World) (K : PySem.W.Frag) (mg : Str → Option Value) (base : Heap) (cn m : Str) (k n : Nat) (g : Fn) : Prop where
  ex : ∃ C f fd ps, PySem.W.nsIn K mainGlobals cn = some (some (.ref C)) ∧ Cls K C ∧ Meth K C m f ∧ FnG P w K mg base k f fd ps (FnD K mg n g) ∧ Binds K fd ps []
/-- a class that is made, with its __init__ -/
structure DefI (P : Program) (w : World) (K : PySem.W.Frag) (mg : Str → Option Value) (base : Heap) (cn : Str) (k n : Nat) (g : Fn) : Prop where
  ex : ∃ C f fd ps ds, PySem.W.nsIn K mainGlobals cn = some (some (.ref C)) ∧ mg cn = some (.ref C) ∧ Mk K C f ∧ FnGd P w K mg base k f fd ps ds (FnD K mg n g) ∧ Binds K fd ps ds
def tMethG (C : Addr) (m : Str) (sp : Sp) (W : WX) (ta : TE) (t : TA) : TE := fun σ H Q => ta σ H fun x H1 => (∃ a dx fs, x = .ref a ∧ H1 a = some (.ins C dx fs) ∧ fs.lookup m = none) ∧ t σ H1 fun vs H2 => sp (x :: (vs ++ [])) H2 Q (atSlots W σ)
def tMakeG (C : Addr) (sp : Sp) (W : WX) (t : TA) : TE := fun σ H Q => t σ H fun vs H1 => ∀ x dx, H1 x = none → H1 dx = none → dx ≠ x → sp (.ref x :: (vs ++ [])) (upd (upd H1 dx (.own x)) x (.ins C dx [])) (fun v H2 => v = .non ∧ Q (.ref x) H2) (atSlots W σ)
section
variable {X : Cx} {k : Nat} {f C : Addr} {fd : FuncData} {ps : List Str} {ds : List Value} {sp : Sp} {W : WX} {x m : Str} {p apos pos : Pos} {e o : Expr} {es : List Expr} {ta : TE} {t : TA}
theorem pe_methG {pl : Sem Bool} (he : PE X o ta) (c : Cls X.K C) (hm : Meth X.K C m f) (F : FnG X.prog X.w X.K X.mg X.base k f fd ps sp) (g : X.A.guards = some []) (r : Room k X.A) (b : Binds X.K fd ps []) (tk : Takes X W) (ha : PA X (e :: es) t)
    (st : starEach (e :: es) X.env = (false, eval e X.env) :: starEach es X.env) (pls : (backTo pos (starEach es X.env)).any (·.1) = false)
    (ht : eval (.Call (.Attribute o m apos) (e :: es) [] pos) X.env = (do
      let ov ← eval o X.env
      standAt apos.atName
      let (f, first) ← holding [ov] (getMethod ov m pl)
      callWith pos f first (backTo pos (starEach (e :: es) X.env)) (backToKw pos (keywordEach [] X.env)))) : PE X (.Call (.Attribute o m apos) (e :: es) [] pos) (tMethG C m sp W ta t) := ⟨fun pins s σ H Q I h => by
  refine PySem.W.methodCall_KW (pl := pl) (thn (he.run pins s σ H _ I h) fun u s1 ⟨y, H1, I1, ry, ⟨a, dx, fs, ey, ea, l⟩, q⟩ => ?_) ht
  subst ey
  cases (show u = Value.ref a from ry)
  exact getmeth_ok I1 ea c hm l (PySem.W.callWith_K (first := [.ref a]) (h₀ := X.base) I.ok.mod.kin hm.kp (thn (ha.run pos pins s1 σ H1 _ I1 q) fun us s2 ⟨vs, H2, I2, rv, q2⟩ =>
    ⟨I2.kIn, goG (us := .ref a :: us) (vs := .ref a :: vs) F g r b .nil tk I2 (.cons rfl rv) q2⟩) st pls)⟩
theorem pe_methG0 {pl : Sem Bool} (he : PE X o ta) (c : Cls X.K C) (hm : Meth X.K C m f) (F : FnG X.prog X.w X.K X.mg X.base k f fd ps sp) (g : X.A.guards = some []) (r : Room k X.A) (b : Binds X.K fd ps []) (tk : Takes X W)
    (ht : eval (.Call (.Attribute o m apos) [] [] pos) X.env = (do
      let ov ← eval o X.env
      standAt apos.atName
      let (f, first) ← holding [ov] (getMethod ov m pl)
      callWith pos f first (backTo pos (starEach [] X.env)) (backToKw pos (keywordEach [] X.env)))) : PE X (.Call (.Attribute o m apos) [] [] pos) (tMethG C m sp W ta tNil) := ⟨fun pins s σ H Q I h => by
  refine PySem.W.methodCall_KW (pl := pl) (thn (he.run pins s σ H _ I h) fun u s1 ⟨y, H1, I1, ry, ⟨a, dx, fs, ey, ea, l⟩, q⟩ => ?_) ht
  subst ey
  cases (show u = Value.ref a from ry)
  exact getmeth_ok I1 ea c hm l (PySem.W.callWith_K0 (first := [.ref a]) I1.kIn hm.kp (goG (us := [.ref a]) (vs := [.ref a]) F g r b .nil tk I1 (.cons rfl .nil) q))⟩
theorem made_guards {A : Around} {args : Args} (g : A.guards = some []) : (A.under (.builtin "type.__call__" args)).guards = some [] := by
  obtain ⟨hd, d, fr, gs, u⟩ := A
  have g : gs = some [] := g
  subst g
  rfl
theorem makeG {pins : List (Addr × Obj)} {σ : L2.St} {H : Hp} {s : Shared} {Q : VK} {us : List Value} {vs : List V} (M : Mk X.K C f) (F : FnGd X.prog X.w X.K X.mg X.base k f fd ps ds sp) (g : X.A.guards = some []) (r : Room (k + 1) X.A) (b : Binds X.K fd ps ds) (tk : Takes X W)
    (I : Inv X pins σ H s) (rv : Vals vs us) (h : ∀ x dx, H x = none → H dx = none → dx ≠ x → sp (.ref x :: (vs ++ [])) (upd (upd H dx (.own x)) x (.ins C dx [])) (fun v H2 => v = .non ∧ Q (.ref x) H2) (atSlots W σ)) :
    wpAny (model X.prog X.w) X.A (call (.ref C) us) (EP X pins σ Q) X.xe s := by
  have n0 : s.heap.objs.size ≤ s.heap.objs.size + 1 := Nat.le_succ _
  have q := h (s.heap.objs.size + 1) s.heap.objs.size (I.hok.fresh n0) (I.hok.fresh (Nat.le_refl _)) (Nat.ne_of_lt (Nat.lt_succ_self _))
  have J := Inv.made (C := C) I
  rw [List.append_nil] at q
  have r2 : Vals (V.ref (s.heap.objs.size + 1) :: vs) (Value.ref (s.heap.objs.size + 1) :: us) := .cons rfl rv
  have hl : (Value.ref (s.heap.objs.size + 1) :: us ++ ds).length = ps.length := by
    rw [List.length_append, ← r2.length]
    exact F.len _ _ _ _ q
  have run := F.go _ X.stack _ _ ⟨Value.ref (s.heap.objs.size + 1) :: us, []⟩ (Value.ref (s.heap.objs.size + 1) :: us) _ _ (atSlots W σ) (made_guards g) (r.make C us []) (J.env0.make C us []) (b _ (Value.ref (s.heap.objs.size + 1) :: us) J.kIn hl) r2 q
  refine wpAny_call (make_map (f := f) I.kIn M.makes M.init (beq_iff_eq.mp M.fn) (codeAny_mono run fun res s' z => ?_))
  match res, z with
  | .error er, z => exact tk er s' (XE.of_call J (fun _ _ _ y => y) z)
  | .ok (.ret u), z =>
    obtain ⟨v, H', I3, rv', ev, q3⟩ := Inv.after J z
    subst ev
    exact ⟨rv', V.ref (s.heap.objs.size + 1), H', I3, rfl, q3⟩
  | .ok .next, z => exact z.elim
  | .ok .brk, z => exact z.elim
  | .ok .cont, z => exact z.elim
theorem pe_makeG (M : Mk X.K C f) (F : FnGd X.prog X.w X.K X.mg X.base k f fd ps ds sp) (g : X.A.guards = some []) (r : Room (k + 1) X.A) (b : Binds X.K fd ps ds) (tk : Takes X W) (hg : Gl X x) (hm : X.mg x = some (.ref C)) (ha : PA X (e :: es) t)
    (dbg : (x == ("__debug__" : Str)) = false) (st : starEach (e :: es) X.env = (false, eval e X.env) :: starEach es X.env) (pl : (backTo pos (starEach es X.env)).any (·.1) = false) : PE X (.Call (.Name x p) (e :: es) [] pos) (tMakeG C sp W t) := ⟨fun pins s σ H Q I h =>
  wpAny_Call_Name_kw (ld_glob I hg hm (PySem.W.callWith_K (h₀ := X.base) I.ok.mod.kin M.kp (thn (ha.run pos pins s σ H _ I h) fun us s1 ⟨vs, H1, I1, rv, q⟩ => ⟨I1.kIn, makeG M F g r b tk I1 rv q⟩) st pl) dbg)⟩
theorem pe_makeG0 (M : Mk X.K C f) (F : FnGd X.prog X.w X.K X.mg X.base k f fd ps ds sp) (g : X.A.guards = some []) (r : Room (k + 1) X.A) (b : Binds X.K fd ps ds) (tk : Takes X W) (hg : Gl X x) (hm : X.mg x = some (.ref C))
    (dbg : (x == ("__debug__" : Str)) = false) : PE X (.Call (.Name x p) [] [] pos) (tMakeG C sp W tNil) := ⟨fun pins s σ H Q I h =>
  wpAny_Call_Name_kw (ld_glob I hg hm (PySem.W.callWith_K0 I.kIn M.kp (makeG (us := []) M F g r b tk I .nil h)) dbg)⟩
end

/-! ### what a method of an own instance comes to -/
def hasKey {α : Type} (m : Str) (fs : List (Str × α)) : Bool := fs.any fun p => decide (p.1 = m)
def dmeO (cn m : Str) (i : Nat) : M Unit := fun ρ => match ρ[i]? with
  | some (some (.ins n fs)) => if n = cn ∧ hasKey m fs = false then .ok () ρ else .no
  | _ => .no
def dmown (cn m : Str) (i : Nat) (g : Fn) (os : List (Option Nat)) (fs : M (List T)) : M T := mbind (dmeO cn m i) fun _ => dcall g (some i :: os) (dlate i fs)
theorem nokey : ∀ {kvs : List (Str × V)} {α : Type} {fs : List (Str × α)} {m : Str}, kvs.map (·.1) = fs.map (·.1) → hasKey m fs = false → kvs.lookup m = none
  | [], _, _, _, _, _ => rfl
  | _ :: _, _, [], _, e, _ => nomatch e
  | (g, v) :: kvs, _, (g', u) :: fs, m, e, h => by
    rw [List.map_cons, List.map_cons] at e
    have e1 : g = g' := (List.cons.inj e).1
    subst e1
    simp only [hasKey, List.any_cons, Bool.or_eq_false_iff, decide_eq_false_iff_not] at h
    rw [lookup_any, if_neg (fun z => h.1 z.symm)]
    exact nokey (List.cons.inj e).2 h.2
section
variable {X : Cx} {w : Wd} {e : Expr} {es : List Expr} {fs : M (List T)} {os : List (Option Nat)} {g : Fn} {k k' n i : Nat} {x cn m : Str} {p0 apos pos : Pos} {K : PySem.W.Frag} {t : TA}
theorem den_own (d : DenA K w t os fs) : DenA K w (tCons (tVar i) t) (some i :: os) (dlate i fs) := fun B σ H ρ ws ts Q ok q => by
  obtain ⟨⟨v, hv0⟩, q⟩ := dhas_of ok q.bind
  refine ⟨v, hv0, ?_⟩
  refine d B σ H ρ ws ts _ ok (PostG.mono (PostG.bind q) fun vs ρ2 p2 xs H2 hl ok2 ho => ?_)
  have p3 := PostG.bind p2
  unfold dtake at p3
  cases e : ρ2[i]? with
  | none => rw [e] at p3; exact p3.elim
  | some o =>
    cases o with
    | none => rw [e] at p3; exact p3.elim
    | some t =>
      rw [e] at p3
      obtain ⟨v', h1, h2⟩ := ok2.take e
      have ev : v' = v := by
        rw [hv0] at h1
        exact (Option.some.inj (Option.some.inj h1)).symm
      subst ev
      have p3 : ∀ ys H', ys.length = (t :: vs).length → Ok K w.m B σ H' (ρ2.set i none) (ys ++ ws) ((t :: vs) ++ ts) → Orig σ (some i :: os) ys → Q ys H' := p3
      exact p3 (v' :: xs) H2 (by simp [hl]) h2 (orig_cons (fun j e => by cases e; exact h1) ho)
theorem me_of {B : Bs} {σ : L2.St} {H : Hp} {ρ : Rho} {ws : List V} {ts : List T} {P : Unit → Rho → Prop} {C : Addr} (hC : PySem.W.nsIn K mainGlobals cn = some (some (.ref C))) (ok : Ok K w.m B σ H ρ ws ts) (q : PostG K w B (dmeO cn m i ρ) P) :
    (∃ v, σ[i]? = some (some v) ∧ ∃ a dx fs, v = .ref a ∧ H a = some (.ins C dx fs) ∧ fs.lookup m = none) ∧ P () ρ := by
  unfold dmeO at q
  cases e : ρ[i]? with
  | none => rw [e] at q; exact q.elim
  | some o =>
    cases o with
    | none => rw [e] at q; exact q.elim
    | some u =>
      cases u with
      | ins n fs =>
        rw [e] at q
        simp only at q
        by_cases hz : n = cn ∧ hasKey m fs = false
        · rw [if_pos hz] at q
          obtain ⟨v, h1, h2⟩ := ok.take e
          refine ⟨⟨v, h1, ?_⟩, q⟩
          obtain ⟨I, Fr, Fw, s, r, w', km⟩ := h2
          cases w' with
          | cons pa pb =>
            cases pa with
            | ins n0 ha ho en ev ex rr =>
              rw [hz.1, hC] at n0
              cases n0
              exact ⟨_, _, _, rfl, ha, nokey en hz.2⟩
        · rw [if_neg hz] at q
          exact q.elim
      | _ => rw [e] at q; exact q.elim
theorem dlate_len' {i : Nat} {fs : M (List T)} {n : Nat} (h : ∀ vs ρ ρ', fs ρ = .ok vs ρ' → vs.length = n) : ∀ vs ρ ρ', dlate i fs ρ = .ok vs ρ' → vs.length = n + 1 := dlate_len h
theorem de_methO (i : Nat) (D : DefM X.prog X.w X.K X.mg X.base cn m k n g) (at_ : At X w k') (ha : DA X w (e :: es) os fs) (hk : k ≤ k' := by decide) (hn : (e :: es).length + 1 = n := by rfl) {pl : Sem Bool} (hN : X.N[i]? = some x := by rfl)
    (hv : Vis X.env.scope x := by first | exact Or.inl rfl | exact Or.inr (Or.inl rfl) | exact Or.inr (Or.inr rfl)) (hd : (x == ("__debug__" : Str)) = false := by decide) (hcd : (x == ("__classdict__" : Str)) = false := by decide)
    (st : starEach (e :: es) X.env = (false, eval e X.env) :: starEach es X.env := by rfl) (pls : (backTo pos (starEach es X.env)).any (·.1) = false := by rfl)
    (ht : eval (.Call (.Attribute (.Name x p0) m apos) (e :: es) [] pos) X.env = (do
      let ov ← eval (.Name x p0) X.env
      standAt apos.atName
      let (f, first) ← holding [ov] (getMethod ov m pl)
      callWith pos f first (backTo pos (starEach (e :: es) X.env)) (backToKw pos (keywordEach [] X.env))) := by rfl) : DE X w (.Call (.Attribute (.Name x p0) m apos) (e :: es) [] pos) (dmown cn m i g os fs) := by
  obtain ⟨C, f, fd, ps, hC, c, hm, F, b⟩ := D.ex
  obtain ⟨t, pt, dt⟩ := ha.ex
  refine de_v (pe_methG (pe_var hN hv hd hcd) c hm F at_.g (at_.r.mono hk) b at_.tk pt st pls ht) fun B σ H ρ ws ts Q ok q => ?_
  obtain ⟨⟨v, h1, h2⟩, q⟩ := me_of hC ok q.bind
  obtain ⟨v', h1', h3⟩ := den_call (g := g) (t := tCons (tVar i) t) at_.cl (fun vs ρ ρ' e => (dlate_len ha.len vs ρ ρ' e).trans hn) (den_own dt) B σ H ρ ws ts Q ok q
  have e : v' = v := by
    rw [h1] at h1'
    exact (Option.some.inj (Option.some.inj h1')).symm
  subst e
  exact ⟨v', h1, h2, h3⟩
theorem de_methO0 (i : Nat) (D : DefM X.prog X.w X.K X.mg X.base cn m k n g) (at_ : At X w k') (hk : k ≤ k' := by decide) (hn : 1 = n := by rfl) {pl : Sem Bool} (hN : X.N[i]? = some x := by rfl)
    (hv : Vis X.env.scope x := by first | exact Or.inl rfl | exact Or.inr (Or.inl rfl) | exact Or.inr (Or.inr rfl)) (hd : (x == ("__debug__" : Str)) = false := by decide) (hcd : (x == ("__classdict__" : Str)) = false := by decide)
    (ht : eval (.Call (.Attribute (.Name x p0) m apos) [] [] pos) X.env = (do
      let ov ← eval (.Name x p0) X.env
      standAt apos.atName
      let (f, first) ← holding [ov] (getMethod ov m pl)
      callWith pos f first (backTo pos (starEach [] X.env)) (backToKw pos (keywordEach [] X.env))) := by rfl) : DE X w (.Call (.Attribute (.Name x p0) m apos) [] [] pos) (dmown cn m i g [] (mret [])) := by
  obtain ⟨C, f, fd, ps, hC, c, hm, F, b⟩ := D.ex
  refine de_v (pe_methG0 (pe_var hN hv hd hcd) c hm F at_.g (at_.r.mono hk) b at_.tk ht) fun B σ H ρ ws ts Q ok q => ?_
  obtain ⟨⟨v, h1, h2⟩, q⟩ := me_of hC ok q.bind
  obtain ⟨v', h1', h3⟩ := den_call (g := g) (t := tCons (tVar i) tNil) at_.cl (fun vs ρ ρ' e => (dlate_len (n := 0) (fun vs ρ ρ' e => by cases e; rfl) vs ρ ρ' e).trans hn) (den_own den_nil) B σ H ρ ws ts Q ok q
  have e : v' = v := by
    rw [h1] at h1'
    exact (Option.some.inj (Option.some.inj h1')).symm
  subst e
  exact ⟨v', h1, h2, h3⟩
/-! ### making an instance -/
def dmakeF (n : Str) (g : Fn) (os : List (Option Nat)) (vs : List T) : M T := fun ρ => match g (.ins n [] :: vs) with
  | .ok (.d .none) (some t :: ρa) => .ok t (restore os ρa ρ)
  | .ex e (_ :: ρa) => .ex e (restore os ρa ρ)
  | _ => .no
def dmake (n : Str) (g : Fn) (os : List (Option Nat)) (fs : M (List T)) : M T := mbind fs fun vs => dmakeF n g os vs
theorem Ok.newIns {m : List Bool} {B : Bs} {σ : L2.St} {H : Hp} {ρ : Rho} {ws : List V} {ts : List T} {y dx C : Addr} (hC : PySem.W.nsIn K mainGlobals cn = some (some (.ref C))) (h : Ok K m B σ H ρ ws ts) (hy : H y = none) (hd : H dx = none) (ne : dx ≠ y) :
    Ok K m B σ (upd (upd H dx (.own y)) y (.ins C dx [])) ρ (.ref y :: ws) (.ins cn [] :: ts) := by
  obtain ⟨I, Fr, Fw, s, r, w', km⟩ := h
  have s1 := s.newO (o := .own y) hd
  have hy1 : (upd H dx (.own y)) y = none := by rw [upd_ne (Ne.symm ne)]; exact hy
  have s2 := s1.newO (o := .ins C dx []) hy1
  have nf : ∀ a ∈ Fr ++ Fw, (upd (upd H dx (.own y)) y (.ins C dx [])) a = H a := fun a z => by
    have : a ≠ y := fun e => s.thr a z (by rw [e]; exact hy)
    have : a ≠ dx := fun e => s.thr a z (by rw [e]; exact hd)
    rw [upd_ne ‹a ≠ y›, upd_ne this]
  refine ⟨I, Fr, (y :: dx :: []) ++ Fw, s2.perm ?_, r.mono (Same.refl _) fun a z => nf a (List.mem_append_left _ z), .cons (.ins (kvs := []) (ts := []) hC upd_same (by rw [upd_ne ne, upd_same]) rfl rfl rfl .nil) (w'.mono (Same.refl _) fun a z => nf a (List.mem_append_right _ z)), km⟩
  exact (List.Perm.trans (List.perm_middle (a := y) (l₁ := Fr) (l₂ := dx :: Fw)).symm.symm (List.Perm.cons _ List.perm_middle)).symm
end
end DL
end
section
set_option Elab.async false
set_option linter.all false
set_option maxRecDepth 100000
set_option maxHeartbeats 4000000
/-! DLP: making an instance; a look at own things as data. -/
namespace DL
open PySem L2 PySem.Spec PyProof.Rows

section
variable {X : Cx} {w : Wd} {e : Expr} {es : List Expr} {fs : M (List T)} {os : List (Option Nat)} {g : Fn} {k k' n i : Nat} {x cn m : Str} {p p0 apos pos : Pos} {K : PySem.W.Frag} {t : TA}
theorem Sit.here {B : Bs} {I H : Hp} {Fr Fa Fw : List Addr} {z : L2.St} (s : Sit B I H (Fr ++ (Fa ++ Fw))) : Sit ⟨I, H, Fa, z⟩ I H Fa :=
  ⟨s.sub, Same.refl _, fun a o _ z => z, fun a o z => .inl z, fun a z => .inl z, fun a z => s.own a (List.mem_append_right _ (List.mem_append_left _ z)), fun a z => s.thr a (List.mem_append_right _ (List.mem_append_left _ z)), (List.nodup_append.mp (List.nodup_append.mp s.nd).2.1).1⟩
theorem den_make {C : Addr} {mg : Str → Option Value} (hC : PySem.W.nsIn K mainGlobals cn = some (some (.ref C))) (hcl : w.cl = mg) (hn : ∀ vs : List T, ∀ ρ ρ', fs ρ = .ok vs ρ' → vs.length + 1 = n) (d : DenA K w t os fs) : DenE K w (tMakeG C (FnD K mg n g) w.W t) (dmake cn g os fs) := fun B σ H ρ ws ts Q ok q => by
  subst hcl
  refine d B σ H ρ ws ts _ ok ?_
  have q := q.bind
  cases e1 : fs ρ with
  | no => rw [e1] at q; exact q.elim
  | ex er ρ1 => rw [e1] at q; exact q
  | ok vs ρ1 =>
    rw [e1] at q
    intro xs H1 hl ok1 ho y dx hy hd ne
    have q : PostG K w B (dmakeF cn g os vs ρ1) _ := q
    unfold dmakeF at q
    have ok2 := Ok.newIns hC ok1 hy hd ne
    obtain ⟨I, Fr, F, s, hr, hw, km⟩ := id ok2
    have hw : RepTs K I (upd (upd H1 dx (.own y)) y (.ins C dx [])) ((.ref y :: xs) ++ ws) ((.ins cn [] :: vs) ++ ts) F := hw
    obtain ⟨Fa, Fw, hF, ha, hw'⟩ := RepTs.split (by simp [hl]) hw
    subst hF
    have oo : Orig σ (none :: os) (.ref y :: xs) := orig_cons (fun i e => nomatch e) ho
    rw [List.append_nil]
    refine ⟨by rw [List.length_cons, hl]; exact hn vs ρ ρ1 e1, I, Fa, .ins cn [] :: vs, s.here, ha, ?_⟩
    cases e2 : g (.ins cn [] :: vs) with
    | no => rw [e2] at q; exact q.elim
    | ok r ρa =>
      rw [e2] at q
      match r, ρa, q with
      | .d .none, some t0 :: ρa, q =>
        refine fun z H' ok3 => ⟨Ok.topNon ok3, ?_⟩
        obtain ⟨v0, h1, ok4⟩ := Ok.take (i := 0) (t := t0) ok3 rfl
        have ev : v0 = .ref y := (Option.some.inj (show some v0 = some (.ref y) from (Option.some.inj h1).symm))
        subst ev
        exact q _ H' (Ok.called (vs := .ins cn [] :: vs) (os := none :: os) (ρa := none :: ρa) s hr hw' km oo ok4.pop2)
      | .d .none, none :: _, q => exact q.elim
      | .d .none, [], q => exact q.elim
      | .d (.bool _), _, q => exact q.elim
      | .d (.int _), _, q => exact q.elim
      | .d (.str _), _, q => exact q.elim
      | .d (.list _), _, q => exact q.elim
      | .d (.tuple _), _, q => exact q.elim
      | .d (.dict _), _, q => exact q.elim
      | .fn _, _, q => exact q.elim
      | .scr _, _, q => exact q.elim
      | .fns _, _, q => exact q.elim
      | .ty _, _, q => exact q.elim
      | .exc _ _, _, q => exact q.elim
      | .fin _ _, _, q => exact q.elim
      | .lst _, _, q => exact q.elim
      | .tup _, _, q => exact q.elim
      | .opq _, _, q => exact q.elim
      | .hole, _, q => exact q.elim
      | .dct _, _, q => exact q.elim
      | .ins _ _, _, q => exact q.elim
    | ex er ρa =>
      rw [e2] at q
      cases ρa with
      | nil => exact q.elim
      | cons o ρa =>
        refine fun c dd H' okx => q c dd σ H' ?_
        have z := OkX.called (vs := .ins cn [] :: vs) (os := none :: os) (ρa := o :: ρa) s hr hw' km oo okx
        exact z
theorem de_make (D : DefI X.prog X.w X.K X.mg X.base cn k n g) (at_ : At X w k') (ha : DA X w (e :: es) os fs) (hk : k + 1 ≤ k' := by decide) (hn : (e :: es).length + 1 = n := by rfl) (hg : Gl X cn := by rfl) (dbg : (cn == ("__debug__" : Str)) = false := by decide)
    (st : starEach (e :: es) X.env = (false, eval e X.env) :: starEach es X.env := by rfl) (pl : (backTo pos (starEach es X.env)).any (·.1) = false := by rfl) : DE X w (.Call (.Name cn p) (e :: es) [] pos) (dmake cn g os fs) := by
  obtain ⟨C, f, fd, ps, ds, hC, hm, mk, F, b⟩ := D.ex
  obtain ⟨t, pt, dt⟩ := ha.ex
  exact de_v (pe_makeG mk F at_.g (at_.r.mono hk) b at_.tk hg hm pt dbg st pl) (den_make hC at_.cl (fun vs ρ ρ' e => by rw [ha.len vs ρ ρ' e]; exact hn) dt)
theorem de_make0 (D : DefI X.prog X.w X.K X.mg X.base cn k n g) (at_ : At X w k') (hk : k + 1 ≤ k' := by decide) (hn : 1 = n := by rfl) (hg : Gl X cn := by rfl) (dbg : (cn == ("__debug__" : Str)) = false := by decide) : DE X w (.Call (.Name cn p) [] [] pos) (dmake cn g [] (mret [])) := by
  obtain ⟨C, f, fd, ps, ds, hC, hm, mk, F, b⟩ := D.ex
  exact de_v (pe_makeG0 mk F at_.g (at_.r.mono hk) b at_.tk hg hm dbg) (den_make hC at_.cl (fun vs ρ ρ' e => by cases e; exact hn) den_nil)
end

/-! ### a look at what is own, as data -/
/-- a tree as something that doesn't change -/
def toF : T → Option T
  | .ins n fs => match toDs (fs.map (·.2)) with
    | some ds => some (.fin n ((fs.map (·.1)).zip ds))
    | none => none
  | .d x => some (.d x)
  | .fn n => some (.fn n)
  | .scr ns => some (.scr ns)
  | .exc n fs => some (.exc n fs)
  | .fin n fs => some (.fin n fs)
  | .lst xs => (toD (.lst xs)).map T.d
  | .tup xs => (toD (.tup xs)).map T.d
  | _ => none
/-- all slots as a look sees them: i's own things as data, the other own ones hidden -/
def seen (is : List Nat) (k : Nat) : Rho → Rho
  | [] => []
  | o :: ρ => (match o with
    | some (.d x) => some (.d x)
    | some (.fn n) => some (.fn n)
    | some (.scr ns) => some (.scr ns)
    | some (.exc n fs) => some (.exc n fs)
    | some (.fin n fs) => some (.fin n fs)
    | some t => if k ∈ is then toF t else none
    | none => none) :: seen is (k + 1) ρ
def flat : PyData → Bool
  | .none => true
  | .bool _ => true
  | .int _ => true
  | .str _ => true
  | _ => false
def dpeek (is : List Nat) (fe : M T) : M T := fun ρ => match fe (seen is 0 ρ) with
  | .ok (.d d) _ => if flat d = true then .ok (.d d) ρ else .no
  | _ => .no
theorem flat_dr {K : PySem.W.Frag} {I I' : Hp} {v : V} {d : PyData} (h : flat d = true) (r : Dr K I v d) : Dr K I' v d := by
  cases r with
  | non => exact .non
  | bl b => exact .bl b
  | int i => exact .int i
  | str x => exact .str x
  | lst _ _ => cases h
  | tup _ _ => cases h
  | dct0 _ => cases h
section
variable {K : PySem.W.Frag} {I I' H : Hp}
theorem toDs_len : ∀ {ts : List T} {ds : List PyData}, toDs ts = some ds → ds.length = ts.length
  | [], _, e => by cases e; rfl
  | t :: ts, _, e => by
    simp only [toDs] at e
    cases q1 : toD t with
    | none => rw [q1] at e; cases e
    | some d =>
      cases q2 : toDs ts with
      | none => rw [q1, q2] at e; cases e
      | some ds =>
        rw [q1, q2] at e
        cases e
        simp [toDs_len q2]
theorem frz_repT (sm : Same I I') {v : V} {t u : T} {F : List Addr} (r : RepT K I H v t F) (e : toF t = some u) (k : ∀ a ∈ F, I' a = H a) : RepT K I' H v u [] := by
  cases t with
  | d x => cases e; cases r with | d q => exact .d (dr_mono sm q)
  | fn n => cases e; cases r with | fn q => exact .fn q
  | scr ns => cases e; cases r with | scr q => exact .scr (sm.seq q)
  | exc n fs => cases e; cases r with | exc q => exact .exc (q.mono sm)
  | fin n fs => cases e; cases r with | fin q => exact .fin (q.mono sm)
  | lst xs =>
    cases q : toD (.lst xs) with
    | none => simp only [toF, q] at e; cases e
    | some d =>
      simp only [toF, q] at e
      cases e
      exact .d (frz_rep sm r q k)
  | ins n fs =>
    simp only [toF] at e
    cases q : toDs (fs.map (·.2)) with
    | none => rw [q] at e; cases e
    | some ds =>
      rw [q] at e
      cases e
      cases r with
      | ins n0 ha ho en ev ex rr =>
        rename_i a C dx kvs vs xs F0
        subst ev ex
        have hl : ds.length = fs.length := by rw [toDs_len q, List.length_map]
        have e1 : ((fs.map (·.1)).zip ds).map (·.1) = fs.map (·.1) := List.map_fst_zip (by rw [List.length_map]; omega)
        have e2 : ((fs.map (·.1)).zip ds).map (·.2) = ds := List.map_snd_zip (by rw [List.length_map]; omega)
        refine .fin ⟨C, dx, kvs, n0, by rw [k _ (by simp)]; exact ha, by rw [k _ (by simp)]; exact ho, by rw [e1]; exact en, ?_⟩
        rw [e2]
        exact frz_reps sm rr q fun c m => k c (by simp [m])
  | tup xs =>
    cases q : toD (.tup xs) with
    | none => simp only [toF, q] at e; cases e
    | some d =>
      simp only [toF, q] at e
      cases e
      exact .d (frz_rep sm r q k)
  | ty n => cases e
  | fns n => cases e
  | opq n => cases e
  | hole => cases e
  | dct kvs => cases e
theorem seen_rep (sm : Same I I') (is : List Nat) : ∀ {σ : L2.St} {ρ : Rho} {F : List Addr} (k : Nat), RepR K I H σ ρ F → (∀ a ∈ F, I' a = H a) → RepR K I' H σ (seen is k ρ) []
  | _, _, _, _, .nil, _ => .nil
  | _, _, _, k, .hid r, h => .hid (seen_rep sm is (k + 1) r h)
  | _, _, _, k, .has (t := t) (F := F) (G := G) a r, h => by
    have r' := seen_rep sm is (k + 1) r fun x m => h x (by simp [m])
    have go : ∀ {u : T}, toF t = some u → RepR K I' H (some _ :: _) (some u :: seen is (k + 1) _) [] := fun {u} e => .has (F := []) (G := []) (frz_repT sm a e fun x m => h x (by simp [m])) r'
    cases t with
    | d x => exact go rfl
    | fn n => exact go rfl
    | scr ns => exact go rfl
    | exc n fs => exact go rfl
    | fin n fs => exact go rfl
    | _ =>
      simp only [seen]
      split
      · cases e : toF _ with
        | none => exact .hid r'
        | some u => exact go e
      · exact .hid r'
end
section
variable {X : Cx} {w : Wd} {e : Expr} {fe : M T}
/-- the state as a look sees it; what a look leaves -/
theorem Ok.look {K : PySem.W.Frag} {m : List Bool} {B : Bs} {σ : L2.St} {H : Hp} {ρ : Rho} {ws : List V} {ts : List T} (is : List Nat) (ok : Ok K m B σ H ρ ws ts) :
    ∃ B' : Bs, Ok K m B' σ H (seen is 0 ρ) [] [] ∧ ∀ H' ρ' x d, Ok K m B' σ H' ρ' [x] [.d d] → flat d = true → Ok K m B σ H' ρ (x :: ws) (.d d :: ts) := by
  obtain ⟨I, Fr, Fw, s, r, w', km⟩ := ok
  let I' : Hp := fun c => if c ∈ Fr then H c else I c
  have e1 : ∀ c, c ∈ Fr → I' c = H c := fun c m => if_pos m
  have e2 : ∀ c, c ∉ Fr → I' c = I c := fun c m => if_neg m
  have sm : Same I I' := fun c o q => by
    by_cases m : c ∈ Fr
    · rw [s.own c (List.mem_append_left _ m)] at q; cases q
    · rw [e2 c m]; exact q
  have sub : Same I' H := fun c o q => by
    by_cases m : c ∈ Fr
    · rw [e1 c m] at q; exact q
    · rw [e2 c m] at q; exact s.sub c o q
  refine ⟨⟨I', H, [], B.s⟩, ⟨I', [], [], ⟨sub, Same.refl _, fun a o _ z => z, fun a o z => .inl z, (fun a z => nomatch z), (fun a z => nomatch z), (fun a z => nomatch z), List.Pairwise.nil⟩, seen_rep sm is 0 r e1, .nil, km⟩, fun H' ρ' x d q hf => ?_⟩
  obtain ⟨I2, F1, F2, s2, r2, w2, _⟩ := q
  have all : ∀ a o, H a = some o → H' a = some o := fun a o z => s2.keep a o (fun m => nomatch m) z
  have same : ∀ a ∈ Fr ++ Fw, H' a = H a := fun a z => by
    cases h : H a with
    | none => exact absurd h (s.thr a z)
    | some o => exact all a o h
  refine ⟨I, Fr, Fw, ⟨fun a o z => all a o (s.sub a o z), s.ext, fun a o n z => all a o (s.keep a o n z), s.new, s.fr, s.own, fun a z => by rw [same a z]; exact s.thr a z, s.nd⟩, r.mono (Same.refl _) fun a z => same a (List.mem_append_left _ z), ?_, km⟩
  have hw := w'.mono (Same.refl I) fun a z => same a (List.mem_append_right _ z)
  cases w2 with
  | cons pa pb =>
    cases pa with
    | d q => exact .cons (F := []) (.d (flat_dr hf q)) hw
theorem de_peek (is : List Nat) (h : DE X w.nx e fe) : DE X w e (dpeek is fe) := by
  obtain ⟨t, pt, dt⟩ := h.ex
  refine de_v pt fun B σ H ρ ws ts Q ok q => ?_
  obtain ⟨B', ok', back⟩ := ok.look is
  refine dt B' σ H _ [] [] Q ok' ?_
  unfold dpeek at q
  cases e1 : fe (seen is 0 ρ) with
  | no => rw [e1] at q; exact q.elim
  | ex er ρ1 => rw [e1] at q; exact q.elim
  | ok v ρ1 =>
    rw [e1] at q
    cases v with
    | d d =>
      simp only at q
      by_cases hf : flat d = true
      · rw [if_pos hf] at q
        exact fun x H' ok2 => q x H' (back H' ρ1 x d ok2 hf)
      · rw [if_neg hf] at q
        exact q.elim
    | _ => exact q.elim
end
end DL
end
section
set_option Elab.async false
set_option linter.all false
set_option maxRecDepth 100000
set_option maxHeartbeats 4000000
/-! DLQ: places within own things: x.f, x[-1], x.f[-1]; their methods. -/
namespace DL
open PySem L2 PySem.Spec PyProof.Rows

inductive Step | fld (f : Str) | idx (k : Int)
/-- what stands at a step below -/
def tStep : Step → T → Option T
  | .fld f, .ins _ fs => fs.lookup f
  | .idx k, .lst xs => atI xs k
  | .idx k, .tup xs => atI xs k
  | _, _ => none
def tPutS : Step → T → T → T
  | .fld f, x, .ins n fs => .ins n (putT f x fs)
  | .idx k, x, .lst xs => .lst (match ixN xs.length k with
    | some j => xs.set j x
    | none => xs)
  | .idx k, x, .tup xs => .tup (match ixN xs.length k with
    | some j => xs.set j x
    | none => xs)
  | _, _, t => t
def tGet : List Step → T → Option T
  | [], t => some t
  | s :: rp, t => (tGet rp t).bind (tStep s)
def tSet : List Step → T → T → T
  | [], x, _ => x
  | s :: rp, x, t => match tGet rp t with
    | some u => tSet rp (tPutS s x u) t
    | none => t
/-- the value at a step -/
inductive VStep (K : PySem.W.Frag) (ns : List Str) (H : Hp) : Step → V → V → Prop
  | fld {a C dx : Addr} {kvs : List (Str × V)} {f : Str} {v : V} {n : Str} : n ∈ ns → PySem.W.nsIn K mainGlobals n = some (some (.ref C)) → H a = some (.ins C dx kvs) → kvs.lookup f = some v → VStep K ns H (.fld f) (.ref a) v
  | idx {a : Addr} {vs : List V} {k : Int} {v : V} : H a = some (.lst vs) → atI vs k = some v → VStep K ns H (.idx k) (.ref a) v
  | tix {a : Addr} {vs : List V} {k : Int} {v : V} : SqT K H a vs → atI vs k = some v → VStep K ns H (.idx k) (.ref a) v
def VPath (K : PySem.W.Frag) (ns : List Str) (H : Hp) : List Step → V → V → Prop
  | [], v, v' => v = v'
  | s :: rp, v, v' => ∃ u, VPath K ns H rp v u ∧ VStep K ns H s u v'
/-- the instances on the way are of these classes -/
def nsOk (ns : List Str) : List Step → T → Bool
  | [], _ => true
  | .fld _ :: rp, t => nsOk ns rp t && (match tGet rp t with
    | some (.ins n _) => decide (n ∈ ns)
    | _ => false)
  | .idx _ :: rp, t => nsOk ns rp t
section
variable {K : PySem.W.Frag} {ns : List Str} {I I' H H' : Hp}
theorem lookup_focus {f : Str} : ∀ {kvs : List (Str × V)} {fs : List (Str × T)} {F : List Addr} {t : T}, kvs.map (·.1) = fs.map (·.1) → RepTs K I H (kvs.map (·.2)) (fs.map (·.2)) F → fs.lookup f = some t →
    ∃ v G R, kvs.lookup f = some v ∧ RepT K I H v t G ∧ List.Perm (G ++ R) F ∧ ∀ (I' H' : Hp) (x : T) (G' : List Addr), Same I I' → (∀ a ∈ R, H' a = H a) → RepT K I' H' v x G' →
      ∃ F', kvs.map (·.1) = (putT f x fs).map (·.1) ∧ RepTs K I' H' (kvs.map (·.2)) ((putT f x fs).map (·.2)) F' ∧ List.Perm F' (G' ++ R)
  | [], [], _, _, _, _, h => nomatch h
  | [], _ :: _, _, _, e, _, _ => nomatch e
  | _ :: _, [], _, _, e, _, _ => nomatch e
  | (g, v) :: kvs, (g', u) :: fs, F, t, e, r, h => by
    rw [List.map_cons, List.map_cons] at e
    have e1 : g = g' := (List.cons.inj e).1
    have e2 := (List.cons.inj e).2
    subst e1
    rw [lookup_any] at h
    cases r with
    | cons a b =>
      rename_i F1 F2
      by_cases z : f = g
      · rw [if_pos z] at h
        cases h
        refine ⟨v, F1, F2, by rw [lookup_any, if_pos z], a, List.Perm.refl _, fun I' H' x G' sm st rx => ⟨G' ++ F2, ?_, ?_, List.Perm.refl _⟩⟩
        · simp [putT, z, e2]
        · simp only [putT, if_pos z.symm, List.map_cons]
          exact .cons rx (b.mono sm st)
      · rw [if_neg z] at h
        obtain ⟨v', G, R, h1, h2, h3, h4⟩ := lookup_focus e2 b h
        refine ⟨v', G, F1 ++ R, by rw [lookup_any, if_neg z]; exact h1, h2, ?_, fun I' H' x G' sm st rx => ?_⟩
        · refine List.Perm.trans ?_ (List.Perm.append_left F1 h3)
          rw [← List.append_assoc, ← List.append_assoc]
          exact List.Perm.append_right _ List.perm_append_comm
        · obtain ⟨F', k1, k2, k3⟩ := h4 I' H' x G' sm (fun c m => st c (List.mem_append_right _ m)) rx
          refine ⟨F1 ++ F', ?_, ?_, ?_⟩
          · simp [putT, Ne.symm z, k1]
          · simp only [putT, if_neg (Ne.symm z), List.map_cons]
            exact .cons (a.mono sm fun c m => st c (List.mem_append_left _ m)) k2
          · refine (List.Perm.append_left F1 k3).trans ?_
            rw [← List.append_assoc, ← List.append_assoc]
            exact List.Perm.append_right _ List.perm_append_comm
theorem at_focus : ∀ {vs : List V} {ts : List T} {F : List Addr} {j : Nat} {t : T}, RepTs K I H vs ts F → ts[j]? = some t →
    ∃ v G R, vs[j]? = some v ∧ RepT K I H v t G ∧ List.Perm (G ++ R) F ∧ ∀ (I' H' : Hp) (x : T) (G' : List Addr), Same I I' → (∀ a ∈ R, H' a = H a) → RepT K I' H' v x G' →
      ∃ F', RepTs K I' H' vs (ts.set j x) F' ∧ List.Perm F' (G' ++ R)
  | _, _, _, j, t, .nil, e => by simp at e
  | _, _, _, 0, t, .cons (F := F1) (G := F2) a b, e => by
    simp at e
    subst e
    exact ⟨_, F1, F2, rfl, a, List.Perm.refl _, fun I' H' x G' sm st rx => ⟨G' ++ F2, .cons rx (b.mono sm st), List.Perm.refl _⟩⟩
  | _, _, _, j + 1, t, .cons (F := F1) (G := F2) a b, e => by
    obtain ⟨v', G, R, h1, h2, h3, h4⟩ := at_focus (j := j) b (by simpa using e)
    refine ⟨v', G, F1 ++ R, by simpa using h1, h2, ?_, fun I' H' x G' sm st rx => ?_⟩
    · refine List.Perm.trans ?_ (List.Perm.append_left F1 h3)
      rw [← List.append_assoc, ← List.append_assoc]
      exact List.Perm.append_right _ List.perm_append_comm
    · obtain ⟨F', k1, k3⟩ := h4 I' H' x G' sm (fun c m => st c (List.mem_append_right _ m)) rx
      refine ⟨F1 ++ F', .cons (a.mono sm fun c m => st c (List.mem_append_left _ m)) k1, ?_⟩
      refine (List.Perm.append_left F1 k3).trans ?_
      rw [← List.append_assoc, ← List.append_assoc]
      exact List.Perm.append_right _ List.perm_append_comm
/-- one step down, and back -/
theorem step_focus (sm0 : Same I H) {s : Step} {v : V} {t u : T} {F : List Addr} (r : RepT K I H v t F) (e : tStep s t = some u) (hn : ∀ f n fs, s = .fld f → t = .ins n fs → n ∈ ns) :
    ∃ v' G R, VStep K ns H s v v' ∧ RepT K I H v' u G ∧ List.Perm (G ++ R) F ∧ ∀ (I' H' : Hp) (x : T) (G' : List Addr), Same I I' → (∀ a ∈ R, H' a = H a) → RepT K I' H' v' x G' →
      ∃ F', RepT K I' H' v (tPutS s x t) F' ∧ List.Perm F' (G' ++ R) := by
  unfold tStep at e
  split at e
  · rename_i f n fs
    cases r with
    | ins n0 ha ho en ev ex rr =>
      rename_i a C dx kvs vs xs F0
      subst ev ex
      obtain ⟨v', G, R, h1, h2, h3, h4⟩ := lookup_focus en rr e
      refine ⟨v', G, a :: dx :: R, .fld (hn f n fs rfl rfl) n0 ha h1, h2, ?_, fun I' H' x G' sm st rx => ?_⟩
      · refine List.Perm.trans (List.perm_middle (a := a) (l₁ := G) (l₂ := dx :: R)) (List.Perm.cons _ ?_)
        exact List.Perm.trans (List.perm_middle (a := dx) (l₁ := G) (l₂ := R)) (List.Perm.cons _ h3)
      · obtain ⟨F', k1, k2, k3⟩ := h4 I' H' x G' sm (fun c m => st c (by simp [m])) rx
        refine ⟨a :: dx :: F', .ins n0 (by rw [st a (by simp)]; exact ha) (by rw [st dx (by simp)]; exact ho) k1 rfl rfl k2, ?_⟩
        refine List.Perm.symm (List.Perm.trans (List.perm_middle (a := a) (l₁ := G') (l₂ := dx :: R)) (List.Perm.cons _ ?_))
        exact List.Perm.trans (List.perm_middle (a := dx) (l₁ := G') (l₂ := R)) (List.Perm.cons _ k3.symm)
  · rename_i k xs
    cases r with
    | lst ha rr =>
      rename_i a vs F0
      have e0 := e
      unfold atI at e
      cases p : ixN xs.length k with
      | none => rw [p] at e; cases e
      | some j =>
        rw [p] at e
        obtain ⟨v', G, R, h1, h2, h3, h4⟩ := at_focus rr e
        refine ⟨v', G, a :: R, .idx ha (by unfold atI; rw [rr.len, p]; exact h1), h2, ?_, fun I' H' x G' sm st rx => ?_⟩
        · exact List.Perm.trans (List.perm_middle (a := a) (l₁ := G) (l₂ := R)) (List.Perm.cons _ h3)
        · obtain ⟨F', k1, k3⟩ := h4 I' H' x G' sm (fun c m => st c (by simp [m])) rx
          refine ⟨a :: F', ?_, ?_⟩
          · unfold tPutS
            simp only [p]
            exact .lst (by rw [st a (by simp)]; exact ha) k1
          · exact List.Perm.symm (List.Perm.trans (List.perm_middle (a := a) (l₁ := G') (l₂ := R)) (List.Perm.cons _ k3.symm))
  · rename_i k xs
    cases r with
    | tup ha rr =>
      rename_i a vs
      have e0 := e
      unfold atI at e
      cases p : ixN xs.length k with
      | none => rw [p] at e; cases e
      | some j =>
        rw [p] at e
        obtain ⟨v', G, R, h1, h2, h3, h4⟩ := at_focus rr e
        refine ⟨v', G, R, .tix (st_mono sm0 ha) (by unfold atI; rw [rr.len, p]; exact h1), h2, h3, fun I' H' x G' sm st rx => ?_⟩
        obtain ⟨F', k1, k3⟩ := h4 I' H' x G' sm st rx
        refine ⟨F', ?_, k3⟩
        unfold tPutS
        simp only [p]
        exact .tup (st_mono sm ha) k1
  · cases e
theorem path_focus (sm0 : Same I H) {v : V} {t : T} {F : List Addr} (r : RepT K I H v t F) : ∀ {rp : List Step} {u : T}, nsOk ns rp t = true → tGet rp t = some u →
    ∃ v' G R, VPath K ns H rp v v' ∧ RepT K I H v' u G ∧ List.Perm (G ++ R) F ∧ ∀ (I' H' : Hp) (x : T) (G' : List Addr), Same I I' → (∀ a ∈ R, H' a = H a) → RepT K I' H' v' x G' →
      ∃ F', RepT K I' H' v (tSet rp x t) F' ∧ List.Perm F' (G' ++ R)
  | [], u, _, e => by
    cases e
    exact ⟨v, F, [], rfl, r, by rw [List.append_nil], fun I' H' x G' sm st rx => ⟨G', rx, by rw [List.append_nil]⟩⟩
  | s :: rp, u, hn, e => by
    unfold tGet at e
    cases e1 : tGet rp t with
    | none => rw [e1] at e; cases e
    | some u1 =>
      rw [e1, Option.bind_some] at e
      have hn1 : nsOk ns rp t = true := by
        cases s with
        | fld f => exact ((Bool.and_eq_true _ _).mp hn).1
        | idx k => exact hn
      obtain ⟨v1, G1, R1, h1, h2, h3, h4⟩ := path_focus sm0 r hn1 e1
      obtain ⟨v2, G2, R2, k1, k2, k3, k4⟩ := step_focus (ns := ns) sm0 h2 e fun f n fs es et => by
        subst es et
        have := ((Bool.and_eq_true _ _).mp hn).2
        rw [e1] at this
        exact of_decide_eq_true this
      refine ⟨v2, G2, R2 ++ R1, ⟨v1, h1, k1⟩, k2, ?_, fun I' H' x G' sm st rx => ?_⟩
      · rw [← List.append_assoc]
        exact (List.Perm.append_right _ k3).trans h3
      · obtain ⟨F1, l1, l2⟩ := k4 I' H' x G' sm (fun c m => st c (List.mem_append_left _ m)) rx
        obtain ⟨F2, m1, m2⟩ := h4 I' H' (tPutS s x u1) F1 sm (fun c m => st c (List.mem_append_right _ m)) l1
        refine ⟨F2, ?_, ?_⟩
        · simp only [tSet, e1]
          exact m1
        · refine m2.trans ?_
          rw [← List.append_assoc]
          exact List.Perm.append_right _ l2
end

/-- an expression that names a place: slot i, the steps (the last one first) -/
structure DPl (X : Cx) (ns : List Str) (e : Expr) (i : Nat) (rp : List Step) : Prop where
  ex : ∃ t, PE X e t ∧ ∀ (σ : L2.St) (H : Hp) (v v' : V) (Q : VK), σ[i]? = some (some v) → VPath X.K ns H rp v v' → Q v' H → t σ H Q
section
variable {X : Cx} {w : Wd} {e : Expr} {i : Nat} {rp : List Step} {ns : List Str} {x f : Str} {pos pos' : Pos}
theorem dpl_var (i : Nat) (hN : X.N[i]? = some x := by rfl) (hv : Vis X.env.scope x := by first | exact Or.inl rfl | exact Or.inr (Or.inl rfl) | exact Or.inr (Or.inr rfl)) (hd : (x == ("__debug__" : Str)) = false := by decide)
    (hcd : (x == ("__classdict__" : Str)) = false := by decide) : DPl X ns (.Name x pos) i [] := ⟨_, pe_var hN hv hd hcd, fun σ H v v' Q h p q => by
  cases p
  exact ⟨v, h, q⟩⟩
theorem dpl_fld (h : ∀ n ∈ ns, ClsF X.K n f) (r : DPl X ns e i rp) (hb : attributeBase e f X.env (eval e X.env) = eval e X.env := by rfl) : DPl X ns (.Attribute e f pos) i (.fld f :: rp) := by
  obtain ⟨t, pt, ht⟩ := r.ex
  refine ⟨_, pe_fld pt hb, fun σ H v v' Q hσ p q => ?_⟩
  obtain ⟨u, p1, p2⟩ := p
  cases p2 with
  | fld hn hC ha hl =>
    obtain ⟨C', k1, cl, no⟩ := (h _ hn).ex
    rw [hC] at k1
    cases k1
    exact ht σ H v _ _ hσ p1 ⟨_, _, _, _, _, rfl, ha, cl, no, hl, q⟩
theorem dpl_idx {k : Int} {b : Expr} (r : DPl X ns e i rp) (hb : PE X b (tC (.int k))) (hs : PlainIx b := by exact fun _ _ => rfl) : DPl X ns (.Subscript e b pos) i (.idx k :: rp) := by
  obtain ⟨t, pt, ht⟩ := r.ex
  refine ⟨_, pe_ix ix_seq pt hb hs, fun σ H v v' Q hσ p q => ?_⟩
  obtain ⟨u, p1, p2⟩ := p
  cases p2 with
  | idx ha hl => exact ht σ H v _ _ hσ p1 (.inl ⟨_, _, k, v', rfl, rfl, SqL.of ha, hl, q⟩)
  | tix ha hl => exact ht σ H v _ _ hσ p1 (.inr (.inl ⟨_, _, k, v', rfl, rfl, ha, hl, q⟩))
end
end DL
end
section
set_option Elab.async false
set_option linter.all false
set_option maxRecDepth 100000
set_option maxHeartbeats 4000000
/-! DLR: methods of what stands at a place. -/
namespace DL
open PySem L2 PySem.Spec PyProof.Rows

/-- PLACE.m(..): the whole is out of sight while the arguments are made -/
def dmethP (n : String) (ns : List Str) (i : Nat) (rp : List Step) (g : T → List T → Option (T × T)) (fs : M (List T)) : M T := fun ρ => match ρ[i]? with
  | some (some t0) => (match tGet rp t0 with
    | some t1 => if tyT t1 = some n ∧ nsOk ns rp t0 = true then (match fs (ρ.set i none) with
      | .ok us ρ1 => (match g t1 us with
        | some (t2, v) => .ok v (ρ1.set i (some (tSet rp t2 t0)))
        | none => .no)
      | _ => .no) else .no
    | none => .no)
  | _ => .no
section
variable {K : PySem.W.Frag} {I H : Hp} {ns : List Str}
theorem rep_tyV {n : String} {x : V} {t : T} {F : List Addr} (sm : Same I H) (r : RepT K I H x t F) (e : tyT t = some n) : L2.tyV K n x H := by
  cases r with
  | lst hp it => cases e; exact .inl ⟨rfl, _, SqL.of hp⟩
  | dct hp _ _ _ it => cases e; exact .inr (.inr (.inl ⟨rfl, .inl ⟨_, hp⟩⟩))
  | d q =>
    cases q with
    | lst hp it => cases e; exact .inl ⟨rfl, _, SqL.of (sm _ _ hp)⟩
    | str z => cases e; rfl
    | _ => cases e
  | _ => cases e
theorem perm4 {α : Type} (a b c d : List α) : List.Perm (a ++ (b ++ (c ++ d))) ((a ++ c) ++ (b ++ d)) := by
  rw [List.append_assoc]
  refine List.Perm.append_left _ ?_
  rw [← List.append_assoc, ← List.append_assoc]
  exact List.Perm.append_right _ List.perm_append_comm
end
section
variable {X : Cx} {w : Wd} {n id : String} {name : Str} {r : V → List V → Hp → VK → Prop} {g : T → List T → Option (T × T)} {fs : M (List T)} {os : List (Option Nat)} {o e : Expr} {es : List Expr} {apos cpos : Pos} {i : Nat} {rp : List Step} {ns : List Str}
theorem den_methP {to : TE} {t : TA} (hto : ∀ (σ : L2.St) (H : Hp) (v v' : V) (Q : VK), σ[i]? = some (some v) → VPath X.K ns H rp v v' → Q v' H → to σ H Q) (hg : OwnM X.K w.m r g) (d : DenA X.K w t os fs) : DenE X.K w (tBM X.K n r to t) (dmethP n ns i rp g fs) := fun B σ H ρ ws ts Q ok q => by
  unfold dmethP at q
  cases e0 : ρ[i]? with
  | none => rw [e0] at q; exact q.elim
  | some o0 =>
    cases o0 with
    | none => rw [e0] at q; exact q.elim
    | some t0 =>
      rw [e0] at q
      simp only at q
      cases e1 : tGet rp t0 with
      | none => rw [e1] at q; exact q.elim
      | some t1 =>
        rw [e1] at q
        simp only at q
        by_cases hz : tyT t1 = some n ∧ nsOk ns rp t0 = true
        · rw [if_pos hz] at q
          obtain ⟨I, Fr, Fw, s, hr, hw, km⟩ := ok
          obtain ⟨v, G, R0, hσ, rt, hr0, pm0⟩ := hr.take e0
          obtain ⟨v', G1, R1, vp, r1, pm1, back⟩ := path_focus (ns := ns) s.sub rt hz.2 e1
          refine hto σ H v v' _ hσ vp ⟨rep_tyV s.sub r1 hz.1, ?_⟩
          have s0 : Sit B I H (R0 ++ (G ++ Fw)) := s.perm (by
            rw [← List.append_assoc]
            exact (List.Perm.append_right _ pm0).symm)
          refine d ⟨I, H, R0, B.s⟩ σ H (ρ.set i none) [] [] _ (Ok.alone s0 hr0 km) ?_
          cases e2 : fs (ρ.set i none) with
          | no => rw [e2] at q; exact q.elim
          | ex er ρ1 => rw [e2] at q; exact q.elim
          | ok us ρ1 =>
            rw [e2] at q
            simp only at q
            intro xs H1 hl ok1 _
            cases e3 : g t1 us with
            | none => rw [e3] at q; exact q.elim
            | some tv =>
              obtain ⟨t2, z0⟩ := tv
              rw [e3] at q
              have q : ∀ x H', Ok X.K w.m B σ H' (ρ1.set i (some (tSet rp t2 t0))) (x :: ws) (z0 :: ts) → Q x H' := q
              obtain ⟨I2, F1, F2, s2, hr2, hw2, km2⟩ := ok1
              obtain ⟨S, st, sm⟩ := s0.join s2
              rw [List.append_nil, List.append_nil] at hw2
              have r1' : RepT X.K I2 H1 v' t1 G1 := r1.mono sm fun a m => st a (List.mem_append_left _ (pm1.subset (List.mem_append_left _ m)))
              have S2 : Sit B I2 H1 ((F1 ++ (F2 ++ G1)) ++ (R1 ++ Fw)) := S.perm (by
                have p1 : List.Perm (F1 ++ F2 ++ (G ++ Fw)) (F1 ++ F2 ++ ((G1 ++ R1) ++ Fw)) := List.Perm.append_left _ (List.Perm.append_right _ pm1.symm)
                refine p1.trans ?_
                simp only [List.append_assoc]
                exact List.Perm.refl _)
              obtain ⟨E, hwE, rfl⟩ := RepTs.append hw2 (.cons (F := G1) (G := []) r1' .nil)
              rw [List.append_nil] at hwE
              have okB : Ok X.K w.m ⟨I2, H1, F1 ++ (F2 ++ G1), B.s⟩ σ H1 ρ1 (xs ++ v' :: []) (us ++ t1 :: []) :=
                ⟨I2, F1, F2 ++ G1, ⟨S2.sub, Same.refl _, fun a o _ z => z, fun a o z => .inl z, fun a z => .inl z, fun a z => S2.own a (List.mem_append_left _ z), fun a z => S2.thr a (List.mem_append_left _ z), (List.nodup_append.mp S2.nd).1⟩, hr2, hwE, km2⟩
              refine hg ⟨I2, H1, F1 ++ (F2 ++ G1), B.s⟩ σ H1 ρ1 [] [] v' xs t1 us t2 z0 Q hl okB e3 fun z H' ok3 => ?_
              obtain ⟨I3, F3, F4, s3, hr3, hw3, km3⟩ := ok3
              obtain ⟨S3, st3, sm3⟩ := S2.join s3
              cases hw3 with
              | cons pa pb =>
                rename_i Fz Fy
                cases pb with
                | cons pc pd =>
                  cases pd
                  rename_i Fx
                  obtain ⟨F5, k1, k2⟩ := back I3 H' t2 Fx (sm.trans sm3) (fun a m => (st3 a (List.mem_append_left _ m)).trans (st a (List.mem_append_left _ (pm1.subset (List.mem_append_right _ m))))) pc
                  have hw' : RepTs X.K I3 H' ws ts Fw := hw.mono (sm.trans sm3) fun a m => (st3 a (List.mem_append_right _ m)).trans (st a (List.mem_append_right _ m))
                  have okF : Ok X.K w.m B σ H' ρ1 (v :: z :: ws) (tSet rp t2 t0 :: z0 :: ts) := by
                    refine ⟨I3, F3, F5 ++ (Fz ++ Fw), S3.perm ?_, hr3, .cons k1 (.cons pa hw'), km3⟩
                    rw [List.append_nil, List.append_assoc, List.append_assoc]
                    refine List.Perm.append_left _ ?_
                    have p1 : List.Perm (F5 ++ (Fz ++ Fw)) ((Fx ++ R1) ++ (Fz ++ Fw)) := List.Perm.append_right _ k2
                    refine List.Perm.trans ?_ p1.symm
                    rw [← List.append_assoc, ← List.append_assoc]
                    rw [← List.append_assoc]
                    refine List.Perm.append_right _ ?_
                    rw [List.append_assoc]
                    exact List.perm_append_comm
                  exact q z H' (okF.back hσ)
        · rw [if_neg hz] at q
          exact q.elim
theorem de_methP (pl : DPl X ns o i rp) (pa : PlainAttrs n) (slot : Slot n name id) (hty : typeOf (.builtin id) = pure (.type "method_descriptor")) (hm : MtR X id r) (hg : OwnM X.K w.m r g) (ha : DA X w (e :: es) os fs)
    (hbase : attributeBase o name X.env (eval o X.env) = eval o X.env := by rfl)
    (hfew : ((backTo cpos (starEach (e :: es) X.env)).all (fun x => !x.1) && (backToKw cpos (keywordEach [] X.env)).all (fun x => x.1.isSome)
      && decide ((e :: es).length + ([] : List Keyword).length + (if ([] : List Keyword).isEmpty then 0 else 1) < 30)) = true := by rfl)
    (hline : (apos.endLine == cpos.line) = true := by rfl) (hs : starEach (e :: es) X.env = (false, eval e X.env) :: starEach es X.env := by rfl) (hplain : (backTo cpos (starEach es X.env)).any (·.1) = false := by rfl) :
    DE X w (.Call (.Attribute o name apos) (e :: es) [] cpos) (dmethP n ns i rp g fs) := by
  obtain ⟨to, po, hto⟩ := pl.ex
  obtain ⟨t, pt, dt⟩ := ha.ex
  exact de_v (pe_bm pa slot hty hm po pt hbase hfew hline hs hplain) (den_methP hto hg dt)
end
end DL
end
section
set_option Elab.async false
set_option linter.all false
set_option maxRecDepth 100000
set_option maxHeartbeats 4000000
/-! DLS: exceptions of the text over any built-in one, with or without fields: made. -/
namespace DL
open PySem L2 PySem.Spec PyProof.Rows

/-- a class over the built-in one called B -/
structure OexB (K : PySem.W.Frag) (C : Addr) (B initId : String) : Prop where
  cls : ∃ nm q N bs bm sn sub ab col dd k0 k1 k2 k3 k5 newId bmB, K.lookup C = some (excClassObj nm q C N bs bm true sn sub ab col dd k0 k1 k2 k3 k5 newId) ∧ PySem.W.excTail bmB bm = true ∧ ExcBaseFacts B newId initId bmB ∧ StoreFacts B bmB "object.__setattr__" "object"
  sat : PySem.W.findIn K (.ref C) "__setattr__" = some (some (.builtin "object.__setattr__"))
  exB : PySem.W.subIn K (.ref C) (.type "BaseException") = some true
  tyB : PySem.W.typeIn K (.ref C) = some (.type "type")
  kpB : PySem.W.keepIn K (.ref C) = true
  hdB : PySem.W.hasDictIn K C = true
section
variable {K : PySem.W.Frag} {C : Addr} {B initId : String} {f : Str}
theorem OexB.over (T : OexB K C B initId) : ∃ bmB, PySem.W.excOver K C bmB = true ∧ StoreFacts B bmB "object.__setattr__" "object" := by
  obtain ⟨nm, q, N, bs, bm, sn, sub, ab, col, dd, k0, k1, k2, k3, k5, newId, bmB, hC, ht, FB, SF⟩ := T.cls
  refine ⟨bmB, ?_, SF⟩
  unfold PySem.W.excOver PySem.W.clsIn
  rw [hC]
  show ((Option.some _).any _) = true
  simp [ht]
theorem taker_none (h : PySem.W.findIn K (.ref C) f = some none) : PySem.W.takerIn K C f = some none := by
  unfold PySem.W.takerIn
  rw [h]
  rfl
end

section
variable {X : Cx} {pins : List (Addr × Obj)} {σ : L2.St} {H : Hp} {s : Shared} {a C dx : Addr} {f : Str} {y : V} {u : Value} {fs : List (Str × V)} {Q : Unit → Shared → Prop} {E : Value → Shared → Prop} {A : Around} {B initId : String}
theorem upd_id {H : Hp} {a : Addr} {o : HO} (e : H a = some o) : upd H a o = H := by
  funext b
  by_cases z : b = a
  · rw [z, upd_same, e]
  · rw [upd_ne z]
/-- the first field: the dict is made, hung on, written -/
theorem put_first (T : OexB X.K C B initId) (I : Inv X pins σ H s) (e : H a = some (exo a C none)) (hno : PySem.W.findIn X.K (.ref C) f = some none) (ry : RelV y u)
    (then_ : ∀ dx s', H dx = none → dx ≠ a → Inv X pins σ (upd (upd H dx (exd dx [(f, y)])) a (exo a C (some dx))) s' → Q () s') : wpAny (model X.prog X.w) A (setAttr (.ref a) f u) Q E s := by
  obtain ⟨bmB, ov, SF⟩ := T.over
  obtain ⟨tz, hoo⟩ := exo_at I.hok e
  have hnd : H s.heap.objs.size = none := I.hok.fresh (Nat.le_refl _)
  have nea : s.heap.objs.size ≠ a := fun z => by rw [z, e] at hnd; cases hnd
  obtain ⟨cd, hc, hd'⟩ := PySem.W.any_some T.hdB
  obtain ⟨hp, g, d, t, os⟩ := s
  refine PySem.W.set_plain I.kIn (ox := PySem.W.excObj C tz none .none) (od := none) ⟨hoo, rfl, rfl, trivial⟩ T.sat ?_
  refine PySem.W.osa_openX (od := none) SF I.kIn ⟨hoo, rfl, rfl, trivial⟩ ov (taker_none hno) fun b => ?_
  refine wpAny_bind (wpAny_pure (wpAny_bind (PySem.W.instanceDict_exc hoo (PySem.W.looks_clsIn I.kIn hc) hd' ?_)))
  have e1 : (hp.push (PySem.W.dictOf [] 0)).get? hp.objs.size = some (PySem.W.dictOf [] 0) := Heap.get?_push_size hp rfl
  have I1 := I.laid (a := hp.objs.size) (o := exd hp.objs.size []) (h' := hp.push (PySem.W.dictOf [] 0)) (t' := t) (fun b u q => Heap.get?_push_of_some _ q) (Nat.le_refl _)
    (exd_ok (Heap.Ns1.of_empty (show (hp.push (PySem.W.dictOf [] 0)).Ns hp.objs.size (fun _ => none) from ⟨_, #[], _, e1, rfl, fun e he => absurd he (by simp), fun _ => rfl⟩)) fun _ => True.intro)
  have ha1 : (hp.push (PySem.W.dictOf [] 0)).get? a = some (PySem.W.excObj C tz none .none) := Heap.get?_push_of_some _ hoo
  have ha2 : ((hp.push (PySem.W.dictOf [] 0)).update a fun o => { o with dict := some hp.objs.size }).get? a = some (PySem.W.excObj C tz (some hp.objs.size) .none) := Heap.get?_update_self _ ha1 rfl
  have ea1 : (upd H hp.objs.size (exd hp.objs.size [])) a = some (exo a C none) := by rw [upd_ne (Ne.symm nea)]; exact e
  have I2 := I1.write (t' := t) (x := a) (e := a) (o := exo a C (some hp.objs.size)) (h' := (hp.push (PySem.W.dictOf [] 0)).update a fun o => { o with dict := some hp.objs.size }) (by rw [ea1]; exact True.intro) (.inl rfl)
    (fun b o hb q => (Heap.get?_update_ne _ _ _ _ hb).trans q) ⟨_, ha2⟩ (exo_ok ha2)
  have ed2 : (upd (upd H hp.objs.size (exd hp.objs.size [])) a (exo a C (some hp.objs.size))) hp.objs.size = some (exd hp.objs.size []) := by rw [upd_ne nea, upd_same]
  show wpAny _ _ (Builtin.ObjectAttr.storeInDict hp.objs.size (.str f (t)) f u) _ _ _
  refine PySem.HandSPX.store_in_new ?_ fun hz' tz' hn hs => ?_
  · exact ⟨_, #[], _, (Heap.get?_update_ne _ _ _ _ nea).trans e1, rfl, fun e he => absurd he (by simp), fun _ => rfl⟩
  · have I3 := I2.write (t' := tz') (x := hp.objs.size) (e := hp.objs.size) (o := exd hp.objs.size [(f, y)]) (h' := hz') (by rw [ed2]; exact True.intro) (.inl rfl) (fun b o hb q => (hs.2 b hb).trans q)
      (by obtain ⟨o, _, _, z, _⟩ := hn; exact ⟨o, z⟩) (exd_ok hn (relO_put (fs := []) ry fun g => True.intro))
    rw [upd_comm nea, upd_upd, upd_comm (Ne.symm nea)] at I3
    exact then_ _ _ hnd nea I3
/-- a further one -/
theorem put_next (T : OexB X.K C B initId) (I : Inv X pins σ H s) (e : H a = some (exo a C (some dx))) (ed : H dx = some (exd dx fs)) (hl : fs.length ≤ 900) (hno : PySem.W.findIn X.K (.ref C) f = some none) (ry : RelV y u)
    (then_ : ∀ s', Inv X pins σ (upd H dx (exd dx ((f, y) :: fs))) s' → Q () s') : wpAny (model X.prog X.w) A (setAttr (.ref a) f u) Q E s := by
  obtain ⟨bmB, ov, SF⟩ := T.over
  obtain ⟨tz, hoo⟩ := exo_at I.hok e
  obtain ⟨mz, nsx, rlx⟩ := exd_at I.hok ed
  obtain ⟨cd, hc, hd'⟩ := PySem.W.any_some T.hdB
  obtain ⟨hp, g, d, t, os⟩ := s
  obtain ⟨oD, _, _, hoD, _, _⟩ := id nsx
  refine PySem.W.set_plain I.kIn (ox := PySem.W.excObj C tz (some dx) .none) (od := some oD) ⟨hoo, rfl, rfl, hoD⟩ T.sat ?_
  refine PySem.W.osa_openX (od := some oD) SF I.kIn ⟨hoo, rfl, rfl, hoD⟩ ov (taker_none hno) fun b => ?_
  refine wpAny_bind (wpAny_pure (wpAny_bind (wpAny_bind (wpAny_loadPart hoo (wpAny_bind ((PySem.W.looks_clsIn I.kIn hc).at ?_))))))
  rw [hd']
  refine wpAny_pure (a := (some dx : Option Addr)) ?_
  refine PySem.OEX.store_in_old nsx (within_of rlx) (by rw [List.length_map]; omega) fun hz' tz' hn hs => ?_
  exact then_ _ (I.write (t' := tz') (x := dx) (e := dx) (o := exd dx ((f, y) :: fs)) (by rw [ed]; exact True.intro) (.inl rfl) (fun b o hb q => (hs.2 b hb).trans q)
    (by obtain ⟨o, _, _, z, _⟩ := hn; exact ⟨o, z⟩) (exd_ok hn (relO_put ry rlx)))
/-- B.__init__(self, ..): the args are laid anew -/
theorem base_init {us : List Value} {Q : Value → Shared → Prop} (T : OexB X.K C B initId) (I : Inv X pins σ H s) (e : H a = some (exo a C none)) (hl : us.length ≤ sizeLine) (h : ∀ s', Inv X pins σ H s' → Q .none s') :
    wpAny (model X.prog X.w) A (call (.builtin initId) (.ref a :: us)) Q E s := by
  obtain ⟨nm, q, N, bs, bm, sn, sub, ab, col, dd, k0, k1, k2, k3, k5, newId, bmB, hC, ht, FB, SF⟩ := T.cls
  obtain ⟨tz, hoo⟩ := exo_at I.hok e
  obtain ⟨hp, g, d, t, os⟩ := s
  refine wpAny_call (PySem.HandSPX.init_base FB (fun Y => PySem.W.excTail_contains Y _ ht) (I.kIn _ _ hC) hoo hl fun hz' t2 k hx => ?_)
  have J0 := I.write (t' := t) (x := a) (e := a) (o := exo a C none) (by rw [e]; exact True.intro) (.inl rfl) k ⟨_, hx⟩ (exo_ok hx)
  rw [upd_id e] at J0
  exact h _ J0
end

/-! ### readings and rules -/
def tBi (K : PySem.W.Frag) (B initId : String) (ta : TA) : TE := fun σ H Q => ta σ H fun vs H1 => ∃ (a C : Addr) (ws : List V), vs = .ref a :: ws ∧ ws.length ≤ 1000 ∧ OexB K C B initId ∧ H1 a = some (exo a C none) ∧ Q .non H1
def tOsb (K : PySem.W.Frag) (B initId : String) (f : Str) (to te : TE) : TS := fun D σ H => te σ H fun y H1 => to σ H1 fun x H2 => ∃ a C : Addr, x = .ref a ∧ OexB K C B initId ∧ PySem.W.findIn K (.ref C) f = some none ∧
  (((H2 a = some (exo a C none)) ∧ ∀ dx, H2 dx = none → dx ≠ a → D.nx σ (upd (upd H2 dx (exd dx [(f, y)])) a (exo a C (some dx)))) ∨
    ∃ (dx : Addr) (fs : List (Str × V)), (H2 a = some (exo a C (some dx))) ∧ H2 dx = some (exd dx fs) ∧ fs.length ≤ 900 ∧ D.nx σ (upd H2 dx (exd dx ((f, y) :: fs))))
section
variable {X : Cx} {o e : Expr} {es : List Expr} {to te : TE} {ta : TA} {f : Str} {p p' p1 p2 pos : Pos} {B initId : String}
theorem pe_binit {x : Str} {pl : Sem Bool} (hg : Gl X x) (hm : X.mg x = none) (bt : bootBuiltins x = some (.type B)) (tb : typeOf (.type B) = pure (.type "type")) (nst : Manifest.isStub B = false) (hh : PySem.W.handedIn (.builtin initId) = true) (vV : PySem.W.findCls X.K (.type B) (.type "type") "__init__" = some (.val (.builtin initId))) (ha : PA X (e :: es) ta) (hn : x ≠ "__name__") (hd : (x == ("__debug__" : Str)) = false)
    (hc : eval (.Call (.Attribute (.Name x p1) "__init__" p2) (e :: es) [] pos) X.env = (do
      let ov ← eval (.Name x p1) X.env
      standAt p2.atName
      let (f, first) ← (holding [ov] (getMethod ov "__init__" pl))
      callWith pos f first (backTo pos (starEach (e :: es) X.env)) (backToKw pos (keywordEach [] X.env))))
    (he : starEach (e :: es) X.env = (false, eval e X.env) :: starEach es X.env) (hpl : (backTo pos (starEach es X.env)).any (·.1) = false) :
    PE X (.Call (.Attribute (.Name x p1) "__init__" p2) (e :: es) [] pos) (tBi X.K B initId ta) := by
  refine ⟨fun pins s σ H Q I h => ?_⟩
  refine PySem.W.methodCall_KW (ld_blt I hg hm bt ?_ hn hd) hc
  obtain ⟨m, fr⟩ := I.fr
  refine PySem.W.method_type fr I.ok.mod.kin tb nst vV hh ?_
  show wpAny _ _ (callWith pos (Value.builtin initId) [] (backTo pos (starEach (e :: es) X.env)) []) _ _ _
  refine PyProof.Rows.callWith_method1 (thn (ha.run pos pins _ σ H _ (I.tok _) h) fun us s1 ⟨vs, H1, I1, r1, a, C, ws, ev, hl, T, ea, q⟩ => ?_) he hpl
  subst ev
  cases r1 with
  | @cons _ u0 _ uz ra rw' =>
    obtain rfl : u0 = (.ref a : Value) := ra
    have hln : uz.length ≤ sizeLine := by
      rw [← Paired.length rw', sizeLine_eq]
      omega
    exact base_init T I1 ea hln fun s' J => ⟨.non, H1, J, rfl, q⟩
theorem ps_osb (hoo : PE X o to) (he : PE X e te) (hs : swapsWith e (some (.Attribute o f p')) pos.line X.env = pure false) : PS X (.Assign [.Attribute o f p'] e pos) (tOsb X.K B initId f to te) := by
  refine ⟨fun pins s σ H D I h => ?_⟩
  refine plainObj_wpAny_Assign_Attribute (thn (he.run pins s σ H _ I h) fun v s1 ⟨y, H1, I1, r1, q1⟩ => thn (hoo.run pins s1 σ H1 _ I1 q1) fun u s2 ⟨x, H2, I2, r2, a, C, ex, T, hno, q⟩ => ?_) hs
  subst ex
  obtain rfl : u = (.ref a : Value) := r2
  rcases q with ⟨ea, q3⟩ | ⟨dx, fs, ea, ed, hl, q3⟩
  · exact put_first T I2 ea hno r1 fun dx s' n ne J => ⟨σ, _, J, q3 dx n ne⟩
  · exact put_next T I2 ea ed hl hno r1 fun s' J => ⟨σ, _, J, q3⟩
end

/-! ### __init__ -/
/-- what a class's __init__ comes to: its arguments stand as fields, if there are any -/
def InitS (C : Addr) (fs : List Str) : Sp := fun vs H Q E => ∃ (a : Addr) (us : List V), vs = .ref a :: us ∧ us.length = fs.length ∧ H a = some (exo a C none) ∧ (fs = [] → Q .non H) ∧
  (fs ≠ [] → ∀ dx, H dx = none → dx ≠ a → Q .non (upd (upd H dx (exd dx (fs.zip us).reverse)) a (exo a C (some dx))))
section
variable {X : Cx} {C : Addr} {fs : List Str} {k : Nat} {sts : List Stmt} {f msg x : Str} {B initId : String}
theorem inb_cons (T : OexB X.K C B initId) (hno : ∀ f ∈ fs, PySem.W.findIn X.K (.ref C) f = some none) (hsq : fs.length ≤ 900) (k : Nat) {p1 p2 p3 p4 : Pos} (r : Ini X C fs (k + 1) sts) (hk : fs[k]? = some f := by rfl) (h0 : X.N[0]? = some ("self" : Str) := by rfl) (h1 : X.N[k + 1]? = some f := by rfl)
    (v0 : Vis X.env.scope "self" := by first | exact Or.inl rfl | exact Or.inr (Or.inl rfl)) (v1 : Vis X.env.scope f := by first | exact Or.inl rfl | exact Or.inr (Or.inl rfl)) (n1 : (f == ("__debug__" : Str)) = false := by decide) (n2 : (f == ("__classdict__" : Str)) = false := by decide)
    (hs : swapsWith (.Name f p3) (some (.Attribute (.Name "self" p1) f p2)) p4.line X.env = pure false := by rfl) : Ini X C fs k (.Assign [.Attribute (.Name "self" p1) f p2] (.Name f p3) p4 :: sts) := by
  obtain ⟨t, pt, ht⟩ := r.ex
  refine ⟨_, pss_cons (ps_osb (B := B) (initId := initId) (pe_var (i := 0) h0 v0) (pe_var (i := k + 1) h1 v1 n1 n2) hs) pt, fun D σ H a dx us s0 ss hl ne ea ed q => ?_⟩
  have hkl := (List.getElem?_eq_some_iff.mp hk).1
  obtain ⟨u, hu, hσ⟩ := ss k hkl
  refine ⟨u, hσ, .ref a, s0, a, C, rfl, T, hno f (List.mem_of_getElem? hk), .inr ⟨dx, _, ea, ed, ?_, ?_⟩⟩
  · rw [List.length_reverse, List.length_zip, List.length_take, List.length_take]; omega
  · refine ht D σ _ a dx us s0 ss hl ne (by rw [upd_ne ne]; exact ea) (by rw [upd_same, zip_next hk hu]) ?_
    rw [upd_upd]
    exact q
/-- __init__'s body -/
structure InB (X : Cx) (C : Addr) (fs : List Str) (sts : List Stmt) : Prop where
  ex : ∃ t, PSs X sts t ∧ ∀ (D : L2.Ends) (σ : L2.St) (H : Hp) (a : Addr) (us : List V), σ[0]? = some (some (.ref a)) → (∀ j, j < fs.length → ∃ u, us[j]? = some u ∧ σ[j + 1]? = some (some u)) → us.length = fs.length → H a = some (exo a C none) → (fs = [] → D.nx σ H) →
    (fs ≠ [] → ∀ dx, H dx = none → dx ≠ a → D.nx σ (upd (upd H dx (exd dx (fs.zip us).reverse)) a (exo a C (some dx)))) → t D σ H
/-- a built-in class, as its __init__ is called -/
structure BaseOf (K : PySem.W.Frag) (mg : Str → Option Value) (x : Str) (B initId : String) : Prop where
  hm : mg x = none
  bt : bootBuiltins x = some (.type B)
  tb : typeOf (.type B) = pure (.type "type")
  nst : Manifest.isStub B = false
  hh : PySem.W.handedIn (.builtin initId) = true
  vV : PySem.W.findCls K (.type B) (.type "type") "__init__" = some (.val (.builtin initId))
theorem inb0 (T : OexB X.K C B initId) (b : BaseOf X.K X.mg x B initId) {j : Nat} {pl : Sem Bool} {q1 q2 q3 q4 q5 q6 : Pos} (h0 : X.N[0]? = some ("self" : Str) := by rfl) (hg : Gl X x := by rfl) (hn : x ≠ "__name__" := by decide) (hd : (x == ("__debug__" : Str)) = false := by decide)
    (v0 : Vis X.env.scope "self" := by first | exact Or.inl rfl | exact Or.inr (Or.inl rfl))
    (hs0 : swapsWith (.Call (.Attribute (.Name x q1) "__init__" q2) [.Name "self" q3, .Constant (.str msg) j q4] [] q5) none q6.line X.env = pure false := by rfl)
    (hc : eval (.Call (.Attribute (.Name x q1) "__init__" q2) [.Name "self" q3, .Constant (.str msg) j q4] [] q5) X.env = (do
      let ov ← eval (.Name x q1) X.env
      standAt q2.atName
      let (f, first) ← (holding [ov] (getMethod ov "__init__" pl))
      callWith q5 f first (backTo q5 (starEach [.Name "self" q3, .Constant (.str msg) j q4] X.env)) (backToKw q5 (keywordEach [] X.env))) := by rfl)
    (hpl : (backTo q5 (starEach [.Constant (.str msg) j q4] X.env)).any (·.1) = false := by rfl) :
    InB X C [] [.Expr (.Call (.Attribute (.Name x q1) "__init__" q2) [.Name "self" q3, .Constant (.str msg) j q4] [] q5) q6] := by
  refine ⟨_, pss_cons (ps_expr (pe_binit hg b.hm b.bt b.tb b.nst b.hh b.vV (pa_cons (pe_var (i := 0) h0 v0) (pa_cons pe_str pa_nil)) hn hd hc rfl hpl) hs0) pss_nil, fun D σ H a us s0 ss hl ea q _ => ?_⟩
  exact ⟨.ref a, s0, a, C, [.str msg], rfl, by simp, T, ea, q rfl⟩
theorem inb1 (T : OexB X.K C B initId) (hno : ∀ f ∈ fs, PySem.W.findIn X.K (.ref C) f = some none) (b : BaseOf X.K X.mg x B initId)
    {j : Nat} {pl : Sem Bool} {q1 q2 q3 q4 q5 q6 p1 p2 p3 p4 : Pos} (r : Ini X C fs 1 sts) (hk : fs[0]? = some f := by rfl) (h0 : X.N[0]? = some ("self" : Str) := by rfl) (h1 : X.N[1]? = some f := by rfl) (hg : Gl X x := by rfl) (hn : x ≠ "__name__" := by decide) (hd : (x == ("__debug__" : Str)) = false := by decide)
    (v0 : Vis X.env.scope "self" := by first | exact Or.inl rfl | exact Or.inr (Or.inl rfl)) (v1 : Vis X.env.scope f := by first | exact Or.inl rfl | exact Or.inr (Or.inl rfl)) (n1 : (f == ("__debug__" : Str)) = false := by decide) (n2 : (f == ("__classdict__" : Str)) = false := by decide)
    (hs : swapsWith (.Name f p3) (some (.Attribute (.Name "self" p1) f p2)) p4.line X.env = pure false := by rfl)
    (hs0 : swapsWith (.Call (.Attribute (.Name x q1) "__init__" q2) [.Name "self" q3, .Constant (.str msg) j q4] [] q5) none q6.line X.env = pure false := by rfl)
    (hc : eval (.Call (.Attribute (.Name x q1) "__init__" q2) [.Name "self" q3, .Constant (.str msg) j q4] [] q5) X.env = (do
      let ov ← eval (.Name x q1) X.env
      standAt q2.atName
      let (f, first) ← (holding [ov] (getMethod ov "__init__" pl))
      callWith q5 f first (backTo q5 (starEach [.Name "self" q3, .Constant (.str msg) j q4] X.env)) (backToKw q5 (keywordEach [] X.env))) := by rfl)
    (hpl : (backTo q5 (starEach [.Constant (.str msg) j q4] X.env)).any (·.1) = false := by rfl) :
    InB X C fs (.Expr (.Call (.Attribute (.Name x q1) "__init__" q2) [.Name "self" q3, .Constant (.str msg) j q4] [] q5) q6 :: .Assign [.Attribute (.Name "self" p1) f p2] (.Name f p3) p4 :: sts) := by
  obtain ⟨t, pt, ht⟩ := r.ex
  refine ⟨_, pss_cons (ps_expr (pe_binit hg b.hm b.bt b.tb b.nst b.hh b.vV (pa_cons (pe_var (i := 0) h0 v0) (pa_cons pe_str pa_nil)) hn hd hc rfl hpl) hs0)
    (pss_cons (ps_osb (B := B) (initId := initId) (pe_var (i := 0) h0 v0) (pe_var (i := 1) h1 v1 n1 n2) hs) pt), fun D σ H a us s0 ss hl ea _ q => ?_⟩
  have hkl := (List.getElem?_eq_some_iff.mp hk).1
  obtain ⟨u, hu, hσ⟩ := ss 0 hkl
  have hne : fs ≠ [] := fun z => by rw [z] at hkl; exact absurd hkl (Nat.not_lt_zero _)
  refine ⟨.ref a, s0, a, C, [.str msg], rfl, by simp, T, ea, ?_⟩
  refine ⟨u, hσ, .ref a, s0, a, C, rfl, T, hno f (List.mem_of_getElem? hk), .inl ⟨ea, fun dx hd ne => ?_⟩⟩
  refine ht D σ _ a dx us s0 ss hl (Ne.symm ne) upd_same ?_ ?_
  · rw [upd_ne ne, upd_same, show (1 : Nat) = 0 + 1 from rfl, zip_next hk hu]
    simp
  · rw [upd_comm (Ne.symm ne), upd_upd]
    exact q hne dx hd ne
end
section
variable {P : Program} {w : World} {K : PySem.W.Frag} {mg : Str → Option Value} {base : Heap} {k : Nat} {fI : Addr} {fd : FuncData} {fs : List Str} {qual : Str} {st : Stmt} {C : Addr} {CX : CXT}
theorem inits_ok (U : Fun K "__init__" qual st fI fd) (S : FnScope ("self" :: fs) ("self" :: fs) (defScope st))
    (body : ∀ (cd : Value) (A : Around) (outer : List Env) (s : Shared) (H : Hp) (E : XK), InB (cxOf CX P w K mg base ("self" :: fs) qual (defScope st) fI cd A outer s H E) C fs (defBody st)) : FnOk P w K mg base CX (k + 1) fI fd ("self" :: fs) (InitS C fs) := by
  obtain ⟨oc, od, kV, doc, pm, an, cdv, ct, osl, rfl, lk, hcd⟩ := U.ex
  refine fn_of lk hcd S (fun vs H Q E h => ?_) fun A outer s H vs Q E hr h => ?_
  · obtain ⟨a, us, rfl, hl, _⟩ := h
    simp [hl]
  · obtain ⟨a, us, rfl, hl, ea, q0, q⟩ := h
    obtain ⟨t, pt, ht⟩ := (body cdv A outer s H E).ex
    refine ⟨t, pt, ht _ _ _ a us (start_at rfl) (fun j hj => ?_) hl ea (fun z => q0 z) fun z dx hd ne => q z dx hd ne⟩
    rw [← hl] at hj
    exact ⟨us[j], List.getElem?_eq_getElem hj, start_at (by rw [List.getElem?_cons_succ, List.getElem?_eq_getElem hj])⟩
end

/-! ### C(e, ..), made and kept -/
/-- how a new one stands -/
def MadeE (C a : Addr) (od : Option Addr) (oe : Obj) : Prop := oe.cls = .ref C ∧ oe.dict = od ∧ ∃ ws, oe.data = .fields ws
def tMkE (C : Addr) (sp : Sp) (ta : TA) : TE := fun σ H Q => ta σ H fun vs H1 => vs.length ≤ 1000 ∧ ∀ a, H1 a = none → sp (.ref a :: (vs ++ [])) (upd H1 a (exo a C none))
  (fun v H2 => v = .non ∧ ((H2 a = some (exo a C none) ∧ ∀ oe, MadeE C a none oe → Q (.ref a) (upd H2 a (exq a oe))) ∨
    ∃ (d : Addr) (fs : List (Str × V)), H2 a = some (exo a C (some d)) ∧ H2 d = some (exd d fs) ∧ d ≠ a ∧ ∀ oe, MadeE C a (some d) oe → Q (.ref a) (upd (upd H2 d (.xd fs)) a (exq a oe)))) (fun _ _ _ => False)
section
variable {X : Cx} {e : Expr} {es : List Expr} {ta : TA} {p pos : Pos} {B initId x : String}
theorem mkE {pins : List (Addr × Obj)} {σ : L2.St} {H : Hp} {s : Shared} {Q : VK} {us : List Value} {vs : List V} {C fI : Addr} {k : Nat} {fd : FuncData} {ps : List Str} {sp : Sp} (T : OexB X.K C B initId) (iC : PySem.W.findIn X.K (.ref C) "__init__" = some (some (.ref fI))) (tI : PySem.W.typeIn X.K (.ref fI) = some (.type "function"))
    (F1 : FnOk X.prog X.w X.K X.mg X.base (L2.CX X.prog X.w) k fI fd ps sp) (hr : Room (k + 1) X.A) (hb : Binds X.K fd ps []) (I : Inv X pins σ H s) (rv : Vals vs us) (hz : vs.length ≤ 1000) (h : ∀ a, H a = none → sp (.ref a :: (vs ++ [])) (upd H a (exo a C none))
      (fun v H2 => v = .non ∧ ((H2 a = some (exo a C none) ∧ ∀ oe, MadeE C a none oe → Q (.ref a) (upd H2 a (exq a oe))) ∨
        ∃ (d : Addr) (fs : List (Str × V)), H2 a = some (exo a C (some d)) ∧ H2 d = some (exd d fs) ∧ d ≠ a ∧ ∀ oe, MadeE C a (some d) oe → Q (.ref a) (upd (upd H2 d (.xd fs)) a (exq a oe)))) (fun _ _ _ => False)) :
    wpAny (model X.prog X.w) X.A (call (.ref C) us) (EP X pins σ Q) X.xe s := by
  obtain ⟨nm, q, N, bs, bm, sn, sub, ab, col, dd, k0, k1, k2, k3, k5, newId, bmB, hC, ht, FB, SF⟩ := T.cls
  obtain ⟨hp, g, dr, tk, os⟩ := s
  have hsq : hp.objs.size ≤ hp.objs.size + 1 := Nat.le_succ _
  have hn : H (hp.objs.size + 1) = none := I.hok.fresh hsq
  have hq := h (hp.objs.size + 1) hn
  have kpz : ∀ b o, hp.get? b = some o → ((hp.push (PySem.W.kdv_tup us)).push (PySem.HandSPX.excO C hp.objs.size)).get? b = some o := fun b o e => Heap.get?_push_of_some _ (Heap.get?_push_of_some _ e)
  have hgt : ((hp.push (PySem.W.kdv_tup us)).push (PySem.HandSPX.excO C hp.objs.size)).get? (hp.objs.size + 1) = some (PySem.HandSPX.excO C hp.objs.size) := by heap_get
  have I2 : Inv X pins σ (upd H (hp.objs.size + 1) (exo (hp.objs.size + 1) C none)) ⟨(hp.push (PySem.W.kdv_tup us)).push (PySem.HandSPX.excO C hp.objs.size), g, dr, tk, os⟩ :=
    I.laid (t' := tk) (a := hp.objs.size + 1) (o := exo (hp.objs.size + 1) C none) (h' := (hp.push (PySem.W.kdv_tup us)).push (PySem.HandSPX.excO C hp.objs.size)) kpz hsq (exo_ok hgt)
  have r2 : Vals (V.ref (hp.objs.size + 1) :: (vs ++ [])) (Value.ref (hp.objs.size + 1) :: us ++ []) := by
    have e : Vals (vs ++ []) (us ++ []) := by rw [List.append_nil, List.append_nil]; exact rv
    exact .cons rfl e
  have hl : (Value.ref (hp.objs.size + 1) :: us ++ []).length = ps.length := ((F1.len _ _ _ _ hq).symm.trans r2.length).symm
  have huz : us.length ≤ sizeLine := by
    rw [← Paired.length rv, sizeLine_eq]
    omega
  refine wpAny_call (PySem.HandSPX.call_own FB (fun Y => PySem.W.excTail_contains Y _ ht) (I.kIn _ _ hC) (PySem.W.looks_findIn I.kIn iC) (fun self => PySem.W.bind_fn I.kIn self tI) huz
    (codeAny_mono (F1.run _ X.stack _ _ ⟨Value.ref (hp.objs.size + 1) :: us, []⟩ (Value.ref (hp.objs.size + 1) :: us ++ []) _ _ (fun _ _ _ => False) (hr.make C us []) (I2.env0.make C us []) (hb _ (Value.ref (hp.objs.size + 1) :: us) I2.kIn hl) r2 hq) fun r s' hq' => ?_))
  cases r with
  | error er =>
    obtain ⟨_, _, _, _, _, _, _, _, _, _, _, _, z⟩ := hq'
    exact z.elim
  | ok fl =>
    cases fl with
    | ret u =>
      obtain ⟨v, H2, J, rv', ev, q2⟩ := Inv.after I2 hq'
      subst ev
      refine ⟨rv', ?_⟩
      rcases q2 with ⟨ea, q2⟩ | ⟨d, fs, ea, ed, ne, q2⟩
      · obtain ⟨t0, hoo⟩ := exo_at J.hok ea
        have J2 := J.write (t' := s'.toks) (x := hp.objs.size + 1) (e := hp.objs.size + 1) (o := exq (hp.objs.size + 1) _) (h' := s'.heap) (by rw [ea]; exact True.intro) (.inl rfl) (fun _ _ _ z => z) ⟨_, hoo⟩ (exq_ok hoo)
        exact ⟨.ref (hp.objs.size + 1), _, J2, rfl, q2 _ ⟨rfl, rfl, _, rfl⟩⟩
      · obtain ⟨t0, hoo⟩ := exo_at J.hok ea
        obtain ⟨mz, nsx, rlx⟩ := exd_at J.hok ed
        have hd : ∃ o, s'.heap.get? d = some o := by
          obtain ⟨o, _, _, z, _⟩ := id nsx
          exact ⟨o, z⟩
        have J1 := J.write (t' := s'.toks) (x := d) (e := d) (o := .xd fs) (h' := s'.heap) (by rw [ed]; exact True.intro) (.inl rfl) (fun _ _ _ z => z) hd ⟨mz, nsx, rlx⟩
        have ea2 : (upd H2 d (.xd fs)) (hp.objs.size + 1) = some (exo (hp.objs.size + 1) C (some d)) := by rw [upd_ne (Ne.symm ne)]; exact ea
        have J2 := J1.write (t' := s'.toks) (x := hp.objs.size + 1) (e := hp.objs.size + 1) (o := exq (hp.objs.size + 1) _) (h' := s'.heap) (by rw [ea2]; exact True.intro) (.inl rfl) (fun _ _ _ z => z) ⟨_, hoo⟩ (exq_ok hoo)
        exact ⟨.ref (hp.objs.size + 1), _, J2, rfl, q2 _ ⟨rfl, rfl, _, rfl⟩⟩
    | next => exact False.elim hq'
    | brk => exact False.elim hq'
    | cont => exact False.elim hq'
end
end DL
end
section
set_option Elab.async false
set_option linter.all false
set_option maxRecDepth 100000
set_option maxHeartbeats 4000000
/-! DLT: .. as denotations; a list of such, looked into; what the head leaves. -/
namespace DL
open PySem L2 PySem.Spec PyProof.Rows

/-- a class of the text that is called, its __init__ -/
structure ExcB (P : Program) (w : World) (K : PySem.W.Frag) (mg : Str → Option Value) (base : Heap) (n : Str) (k : Nat) (fs : List Str) : Prop where
  ex : ∃ (C fI : Addr) (fd : FuncData) (B iid : String), PySem.W.nsIn K mainGlobals n = some (some (.ref C)) ∧ mg n = some (.ref C) ∧ OexB K C B iid ∧ PySem.W.findIn K (.ref C) "__init__" = some (some (.ref fI)) ∧ PySem.W.typeIn K (.ref fI) = some (.type "function") ∧
    FnOk P w K mg base (L2.CX P w) k fI fd ("self" :: fs) (InitS C fs) ∧ Binds K fd ("self" :: fs) []
def xmake (n : Str) (fs : List Str) (o : Option (List PyData)) : M T := fun ρ => match o with
  | some ds => if ds.length = fs.length ∧ ds.length ≤ 900 then .ok (.exc n (fs.zip ds).reverse) ρ else .no
  | none => .no
def dmkx (n : Str) (fs : List Str) (fa : M (List T)) : M T := mbind fa fun ts => xmake n fs (allD ts)
section
variable {K : PySem.W.Frag} {m : List Bool} {B : Bs} {σ : L2.St} {H : Hp} {ρ : Rho} {ws xs : List V} {ts : List T} {ds : List PyData} {n : Str} {fs : List Str} {C a dx : Addr} {oe : Obj}
theorem Ok.made (hC : PySem.W.nsIn K mainGlobals n = some (some (.ref C))) (ok : Ok K m B σ H ρ (xs ++ ws) (ds.map T.d ++ ts)) (hl : xs.length = ds.length) (hf : ds.length = fs.length) (h0 : fs ≠ []) (hd : H dx = none) (ha : H a = none) (ne : dx ≠ a) (me : MadeE C a (some dx) oe) :
    Ok K m B σ (upd (upd H dx (.xd (fs.zip xs).reverse)) a (exq a oe)) ρ (.ref a :: ws) (.exc n (fs.zip ds).reverse :: ts) := by
  obtain ⟨I, Fr, Fw, s, r, w, km⟩ := ok
  obtain ⟨G, E, hF, g, w'⟩ := RepTs.split (by rw [hl, List.length_map]) w
  subst hF
  have dd := drAll_pending hl w
  have s1 := s.newD (o := .xd (fs.zip xs).reverse) hd
  have ha1 : (upd H dx (.xd (fs.zip xs).reverse)) a = none := by rw [upd_ne (Ne.symm ne)]; exact ha
  have s2 := s1.newD (o := exq a oe) ha1
  have hI1 := (s.fresh hd).2.1
  have hI2 := (s1.fresh ha1).2.1
  have sm : Same I (upd (upd I dx (.xd (fs.zip xs).reverse)) a (exq a oe)) := fun b u e => by
    rw [upd_ne (ne_of_none (by rw [upd_ne (ne_of_none e hI1)]; exact e) hI2), upd_ne (ne_of_none e hI1)]; exact e
  have nf : ∀ b ∈ Fr ++ (G ++ E), (upd (upd H dx (.xd (fs.zip xs).reverse)) a (exq a oe)) b = H b := fun b z => by
    rw [upd_ne (show b ≠ a from fun e => s.thr b z (by rw [e]; exact ha)), upd_ne (show b ≠ dx from fun e => s.thr b z (by rw [e]; exact hd))]
  have ea : ExcAt K (upd (upd I dx (.xd (fs.zip xs).reverse)) a (exq a oe)) a n (fs.zip ds).reverse := by
    refine ⟨oe, C, xs.reverse, upd_same, me.1, me.2.2, fun _ => ⟨dx, me.2.1, ?_⟩, fun z => absurd z (rev_ne hf h0), ?_, hC⟩
    · rw [upd_ne ne, upd_same, rev_fst hf, zip_rev (by omega)]
    · rw [rev_snd hf]
      exact (drAll_mono sm dd).reverse
  refine ⟨_, Fr, E, s2.less (fun b z => ?_) ?_, r.mono sm fun b z => nf b (List.mem_append_left _ z), .cons (F := []) (.exc ea) (w'.mono sm fun b z => nf b (by simp [z])), km⟩
  · rcases List.mem_append.mp z with z | z
    · exact List.mem_append_left _ z
    · exact List.mem_append_right _ (List.mem_append_right _ z)
  · exact (List.Sublist.append (List.Sublist.refl _) (List.sublist_append_right _ _)).nodup s.nd
theorem Ok.made0 (hC : PySem.W.nsIn K mainGlobals n = some (some (.ref C))) (ok : Ok K m B σ H ρ ws ts) (ha : H a = none) (me : MadeE C a none oe) : Ok K m B σ (upd H a (exq a oe)) ρ (.ref a :: ws) (.exc n [] :: ts) := by
  obtain ⟨I, Fr, Fw, s, r, w, km⟩ := ok
  have hI := (s.fresh ha).2.1
  have sm : Same I (upd I a (exq a oe)) := fun b u e => by rw [upd_ne (ne_of_none e hI)]; exact e
  have nf : ∀ b ∈ Fr ++ Fw, (upd H a (exq a oe)) b = H b := fun b z => upd_ne (show b ≠ a from fun e => s.thr b z (by rw [e]; exact ha))
  have ea : ExcAt K (upd I a (exq a oe)) a n [] := ⟨oe, C, [], upd_same, me.1, me.2.2, fun z => absurd rfl z, fun _ => me.2.1, .nil, hC⟩
  exact ⟨_, Fr, Fw, s.newD ha, r.mono sm fun b z => nf b (List.mem_append_left _ z), .cons (F := []) (.exc ea) (w.mono sm fun b z => nf b (List.mem_append_right _ z)), km⟩
end
section
variable {X : Cx} {w : Wd} {e : Expr} {es : List Expr} {fa : M (List T)} {os : List (Option Nat)} {k k' : Nat} {n : Str} {p pos : Pos} {fs : List Str} {K : PySem.W.Frag} {t : TA} {C : Addr}
theorem den_mkx (hC : PySem.W.nsIn K mainGlobals n = some (some (.ref C))) (d : DenA K w t os fa) : DenE K w (tMkE C (InitS C fs) t) (dmkx n fs fa) := fun B σ H ρ ws ts Q ok q => by
  refine d B σ H ρ ws ts _ ok (PostG.mono (PostG.bind q) fun vs ρ1 q1 xs H1 hl ok1 _ => ?_)
  have q1 : PostG K w B (xmake n fs (allD vs) ρ1) _ := q1
  unfold xmake at q1
  cases e1 : allD vs with
  | none => rw [e1] at q1; exact False.elim q1
  | some ds =>
    rw [e1] at q1
    by_cases hz : ds.length = fs.length ∧ ds.length ≤ 900
    · simp only [if_pos hz] at q1
      have q2 : ∀ x H', Ok K w.m B σ H' ρ1 (x :: ws) (.exc n (fs.zip ds).reverse :: ts) → Q x H' := q1
      have hv := allD_eq e1
      subst hv
      rw [List.length_map] at hl
      refine ⟨by omega, fun a na => ⟨a, xs, by rw [List.append_nil], by omega, upd_same, fun z => ⟨rfl, .inl ⟨upd_same, fun oe me => ?_⟩⟩, fun z dx hd ne => ⟨rfl, .inr ⟨dx, (fs.zip xs).reverse, upd_same, ?_, ne, fun oe me => ?_⟩⟩⟩⟩
      · subst z
        have hd0 : ds = [] := List.eq_nil_of_length_eq_zero hz.1
        subst hd0
        have hx0 : xs = [] := List.eq_nil_of_length_eq_zero hl
        subst hx0
        rw [upd_upd]
        exact q2 _ _ (ok1.made0 hC na me)
      · rw [upd_ne ne, upd_same]
      · have hd' : H1 dx = none := by rw [upd_ne ne] at hd; exact hd
        have e3 : upd (upd (upd (upd (upd H1 a (exo a C none)) dx (exd dx (fs.zip xs).reverse)) a (exo a C (some dx))) dx (.xd (fs.zip xs).reverse)) a (exq a oe) = upd (upd H1 dx (.xd (fs.zip xs).reverse)) a (exq a oe) := by
          funext c
          by_cases y : c = a
          · rw [y, upd_same, upd_same]
          · rw [upd_ne y, upd_ne y]
            by_cases x : c = dx
            · rw [x, upd_same, upd_same]
            · rw [upd_ne x, upd_ne x, upd_ne y, upd_ne x, upd_ne y]
        rw [e3]
        exact q2 _ _ (ok1.made hC hl hz.1 z hd' na ne me)
    · simp only [if_neg hz] at q1
      exact False.elim q1
theorem pe_mkx {ta : TA} {sp : Sp} {fI : Addr} {fd : FuncData} {ps : List Str} {B iid x : String} (T : OexB X.K C B iid) (iC : PySem.W.findIn X.K (.ref C) "__init__" = some (some (.ref fI))) (tI : PySem.W.typeIn X.K (.ref fI) = some (.type "function"))
    (F1 : FnOk X.prog X.w X.K X.mg X.base (L2.CX X.prog X.w) k fI fd ps sp) (hr : Room (k + 1) X.A) (hb : Binds X.K fd ps []) (hg : Gl X n) (hm : X.mg n = some (.ref C)) (ha : PA X (e :: es) ta) (dbg : (n == ("__debug__" : Str)) = false)
    (st : starEach (e :: es) X.env = (false, eval e X.env) :: starEach es X.env) (pl : (backTo pos (starEach es X.env)).any (·.1) = false) : PE X (.Call (.Name n p) (e :: es) [] pos) (tMkE C sp ta) := ⟨fun pins s σ H Q I h =>
  wpAny_Call_Name_kw (ld_glob I hg hm (PySem.W.callWith_K (h₀ := X.base) I.ok.mod.kin T.kpB (thn (ha.run pos pins s σ H _ I h) fun us s1 ⟨vs, H1, I1, rv, hz, q⟩ => ⟨I1.kIn, mkE T iC tI F1 hr hb I1 rv hz q⟩) st pl) dbg)⟩
theorem pe_mkx0 {sp : Sp} {fI : Addr} {fd : FuncData} {ps : List Str} {B iid x : String} (T : OexB X.K C B iid) (iC : PySem.W.findIn X.K (.ref C) "__init__" = some (some (.ref fI))) (tI : PySem.W.typeIn X.K (.ref fI) = some (.type "function"))
    (F1 : FnOk X.prog X.w X.K X.mg X.base (L2.CX X.prog X.w) k fI fd ps sp) (hr : Room (k + 1) X.A) (hb : Binds X.K fd ps []) (hg : Gl X n) (hm : X.mg n = some (.ref C)) (dbg : (n == ("__debug__" : Str)) = false) : PE X (.Call (.Name n p) [] [] pos) (tMkE C sp tNil) := ⟨fun pins s σ H Q I h =>
  wpAny_Call_Name_kw (ld_glob I hg hm (PySem.W.callWith_K0 I.kIn T.kpB (mkE (us := []) T iC tI F1 hr hb I .nil h.1 h.2)) dbg)⟩
theorem de_mkx (D : ExcB X.prog X.w X.K X.mg X.base n k fs) (at_ : At X w k') (ha : DA X w (e :: es) os fa) (hk : k + 1 ≤ k' := by decide) (hg : Gl X n := by rfl) (hdb : (n == ("__debug__" : Str)) = false := by decide)
    (st : starEach (e :: es) X.env = (false, eval e X.env) :: starEach es X.env := by rfl) (pl : (backTo pos (starEach es X.env)).any (·.1) = false := by rfl) : DE X w (.Call (.Name n p) (e :: es) [] pos) (dmkx n fs fa) := by
  obtain ⟨C, fI, fd, B, iid, hC, hm, T, iC, tI, F, b⟩ := D.ex
  obtain ⟨t, pt, dt⟩ := ha.ex
  exact de_v (pe_mkx (x := "") T iC tI F (at_.r.mono hk) b hg hm pt hdb st pl) (den_mkx hC dt)
theorem de_mkx0 (D : ExcB X.prog X.w X.K X.mg X.base n k fs) (at_ : At X w k') (hk : k + 1 ≤ k' := by decide) (hg : Gl X n := by rfl) (hdb : (n == ("__debug__" : Str)) = false := by decide) : DE X w (.Call (.Name n p) [] [] pos) (dmkx n fs (mret [])) := by
  obtain ⟨C, fI, fd, B, iid, hC, hm, T, iC, tI, F, b⟩ := D.ex
  exact de_v (pe_mkx0 (x := "") T iC tI F (at_.r.mono hk) b hg hm hdb) (den_mkx hC den_nil)
end

/-! ### a list of exceptions, looked into -/
def isE : T → Option T
  | .exc n fs => some (.exc n fs)
  | _ => none
def tIxX : T → T → Option T
  | .lst xs, .d (.int k) => (atI xs k).bind isE
  | t, u => onD pIx t u
section
variable {K : PySem.W.Frag} {m : List Bool}
theorem repTs_exc {I H : Hp} {n : Str} {fs : List (Str × PyData)} : ∀ {vs : List V} {xs : List T} {F : List Addr} {j : Nat}, RepTs K I H vs xs F → xs[j]? = some (.exc n fs) → ∃ v, vs[j]? = some v ∧ RepT K I H v (.exc n fs) []
  | _, _, _, _, .nil, e => nomatch e
  | _, _, _, 0, .cons a r, e => by
    cases e
    cases a with
    | exc q => exact ⟨_, rfl, .exc q⟩
  | _, _, _, j + 1, .cons a r, e => by
    obtain ⟨v, h1, h2⟩ := repTs_exc (j := j) r e
    exact ⟨v, h1, h2⟩
theorem od_ixX : OpD K m (rIx K) tIxX := fun B σ H ρ ws ts x y t u v Q ok e q => by
  unfold tIxX at e
  split at e
  · rename_i xs k
    cases e3 : atI xs k with
    | none => rw [e3] at e; cases e
    | some t0 =>
      cases t0 with
      | exc n fs =>
        rw [e3] at e
        cases e
        have hy := ok.topInt
        subst hy
        obtain ⟨I, Fr, Fw, s, r, w, km⟩ := id ok.pop
        cases w with
        | cons a b =>
          rename_i F1 F2
          cases a with
          | lst ha it =>
            rename_i a vs F3
            have hlen : vs.length = xs.length := it.len
            unfold atI at e3
            cases p : ixN xs.length k with
            | none => rw [p] at e3; cases e3
            | some j =>
              rw [p] at e3
              obtain ⟨v, hv, rv⟩ := repTs_exc it e3
              exact .inl ⟨a, vs, k, v, rfl, rfl, SqL.of ha, by unfold atI; rw [hlen, p]; exact hv, q _ _ ⟨I, Fr, _, s.less (fun b m => by
                rcases List.mem_append.mp m with m | m
                · exact List.mem_append_left _ m
                · exact List.mem_append_right _ (List.mem_append_right _ m)) ((List.Sublist.append (List.Sublist.refl _) (List.sublist_append_right _ _)).nodup s.nd), r, .cons (F := []) rv b, km⟩⟩
      | _ => rw [e3] at e; cases e
  · exact od_ix B σ H ρ ws ts x y t u v Q ok e q
end

/-! ### what the head leaves -/
structure HasB0 (K : PySem.W.Frag) (x B initId : String) : Prop where
  hm : PySem.W.nsIn K mainGlobals x = some none
structure HasE0 (K : PySem.W.Frag) (n qual : Str) (st : Stmt) (fs : List Str) (B iid : String) : Prop where
  ex : ∃ (C fI : Addr) (fd : FuncData), PySem.W.nsIn K mainGlobals n = some (some (.ref C)) ∧ OexB K C B iid ∧ PySem.W.findIn K (.ref C) "__init__" = some (some (.ref fI)) ∧ PySem.W.typeIn K (.ref fI) = some (.type "function") ∧ Fun K "__init__" qual st fI fd ∧ (∀ f ∈ fs, PySem.W.findIn K (.ref C) f = some none)
structure HasE (K : PySem.W.Frag) (mg : Str → Option Value) (n qual : Str) (st : Stmt) (fs : List Str) (B iid : String) : Prop where
  ex : ∃ (C fI : Addr) (fd : FuncData), PySem.W.nsIn K mainGlobals n = some (some (.ref C)) ∧ mg n = some (.ref C) ∧ OexB K C B iid ∧ PySem.W.findIn K (.ref C) "__init__" = some (some (.ref fI)) ∧ PySem.W.typeIn K (.ref fI) = some (.type "function") ∧ Fun K "__init__" qual st fI fd ∧ (∀ f ∈ fs, PySem.W.findIn K (.ref C) f = some none)
section
variable {K : PySem.W.Frag} {h : Heap} {mg : Str → Option Value} {n qual : Str} {st : Stmt} {fs : List Str} {C fI : Addr} {B iid newId : String} {bmB : List Value}
theorem HasE0.at (X : K.In h) (G : h.Ns mainGlobals mg) (a : HasE0 K n qual st fs B iid) : HasE K mg n qual st fs B iid := by
  obtain ⟨C, fI, fd, h1, h2⟩ := a.ex
  exact ⟨C, fI, fd, h1, PySem.W.mg_of X G h1, h2⟩
theorem HasE0.by_ {nm q : Str} {N : Addr} {bs bm : List Value} {sn : _} {sub ab col dd k0 k1 k2 k3 k5 : _} {oc : Value} {od an : Option Addr} {osl : Array (Option Value)} {kV doc pm cdv ct : Value} (FB : ExcBaseFacts B newId iid bmB) (SF : StoreFacts B bmB "object.__setattr__" "object") (a : PySem.W.nsIn K mainGlobals n = some (some (.ref C)))
    (l : K.lookup C = some (excClassObj nm q C N bs bm true sn sub ab col dd k0 k1 k2 k3 k5 newId)) (hb : PySem.W.excTail bmB bm = true) (sa : PySem.W.findIn K (.ref C) "__setattr__" = some (some (.builtin "object.__setattr__")))
    (ex : PySem.W.subIn K (.ref C) (.type "BaseException") = some true) (ty : PySem.W.typeIn K (.ref C) = some (.type "type")) (kp : PySem.W.keepIn K (.ref C) = true) (hd : PySem.W.hasDictIn K C = true) (i : PySem.W.findIn K (.ref C) "__init__" = some (some (.ref fI))) (ti : PySem.W.typeIn K (.ref fI) = some (.type "function"))
    (lf : K.lookup fI = some ⟨oc, od, .func (PySem.W.fnOf "__init__" qual (defArgs st) (defBody st) (defScope st) .none kV doc pm an cdv ct), osl⟩) (cf : PySem.W.codeIn K cdv qual = true) (kf : PySem.W.keepIn K (.ref fI) = true)
    (hno : ∀ f ∈ fs, PySem.W.findIn K (.ref C) f = some none) : HasE0 K n qual st fs B iid :=
  ⟨C, fI, _, a, ⟨⟨_, _, _, _, _, _, _, _, _, _, _, _, _, _, _, _, _, l, hb, FB, SF⟩, sa, ex, ty, kp, hd⟩, i, ti, fun_mk lf cf kf, hno⟩
/-- the built-in class B, as the module and the text have it -/
structure HasBI (K : PySem.W.Frag) (B iid : String) : Prop where
  vV : PySem.W.findCls K (.type B) (.type "type") "__init__" = some (.val (.builtin iid))
end
end DL
end
section
set_option Elab.async false
set_option linter.all false
set_option maxRecDepth 100000
set_option maxHeartbeats 4000000
/-! DLU: a text times a number; the five built-in classes; x[i] of a list of exceptions. -/
namespace DL
open PySem L2 PySem.Spec PyProof.Rows

def strRep (z : Str) (k : Int) : Str := if k < 1 then Str.empty else if (k == 1 || z.length == 0) = true then z else ⟨(List.replicate k.toNat z.cps).foldl (· ++ ·) #[]⟩
def rMulS : R2 := fun x y H Q => ∃ z k, x = .str z ∧ y = .int k ∧ 0 ≤ k ∧ k ≤ 1000 ∧ z.length ≤ 1000 ∧ Q (.str (strRep z k)) H
theorem rep_size (x : Array Nat) : ∀ (n : Nat) (a : Array Nat), ((List.replicate n x).foldl (· ++ ·) a).size = a.size + n * x.size
  | 0, a => by simp
  | n + 1, a => by
    rw [List.replicate_succ, List.foldl_cons, rep_size x n, Array.size_append, Nat.succ_mul]
    omega
theorem op_mulS {X : Cx} : OpR X (binaryOp .Mult) rMulS := by
  intro pins s σ H x y v u Q I rx ry h
  obtain ⟨z, k, rfl, rfl, h0, h1, hz, q⟩ := h
  obtain ⟨t, rfl⟩ := rx
  obtain ⟨t', rfl⟩ := ry
  have hl : ¬ k < 1 → (k == 1 || z.length == 0) = false → Builtin.Str.tooLong (z.length * k.toNat) = false := fun _ _ => by
    have : z.length * k.toNat ≤ 1000 * 1000 := Nat.mul_le_mul hz (by omega)
    exact decide_eq_false (by rw [sizeLine_eq]; omega)
  refine P.mul_str (by rw [decide_eq_false (by omega), decide_eq_false (by omega)]; rfl) (fun a _ => ?_) hl ?_
  · have : (1000 : Int) ≤ (2 ^ 63 - 1) / k := Int.le_ediv_of_mul_le (by omega) (by omega)
    omega
  · have key : ∀ s', Inv X pins σ H s' → ∀ tk, EP X pins σ Q (.str (strRep z k) tk) s' := fun s' J tk => ⟨.str (strRep z k), H, J, ⟨_, rfl⟩, q⟩
    unfold strRep at key
    by_cases a : k < 1
    · rw [if_pos a] at key ⊢
      exact ⟨by decide, key _ (I.tok _) _⟩
    · rw [if_neg a] at key ⊢
      by_cases b : (k == 1 || z.length == 0) = true
      · rw [if_pos b] at key ⊢
        exact key _ I _
      · rw [if_neg b] at key ⊢
        refine ⟨?_, key _ (I.tok _) _⟩
        have e : (⟨(List.replicate k.toNat z.cps).foldl (· ++ ·) #[]⟩ : Str).length = 0 + k.toNat * z.length := rep_size z.cps k.toNat #[]
        have : k.toNat * z.length ≤ 1000 * 1000 := Nat.mul_le_mul (by omega) hz
        rw [e, sizeLine_eq]
        omega
def pMulS : PyData → PyData → Option PyData
  | .str z, .int k => if (decide (0 ≤ k) && decide (k ≤ 1000) && decide (z.length ≤ 1000)) = true then some (.str (strRep z k)) else none
  | x, y => pMul x y
def rMul3 : R2 := fun x y H Q => rMulS x y H Q ∨ rMul2 x y H Q
theorem op_mul3 {X : Cx} : OpR X (binaryOp .Mult) rMul3 := OpR.or op_mulS op_mul2
section
variable {K : PySem.W.Frag} {m : List Bool} {X : Cx} {w : Wd} {a b : Expr} {fa fb : M T} {pos : Pos}
theorem od_mul3 : OpD K m rMul3 (onD pMulS) := fun B σ H ρ ws ts x y t u v Q ok e q => by
  cases t with
  | d t0 =>
    cases u with
    | d u0 =>
      have e : Option.map T.d (pMulS t0 u0) = some v := e
      unfold pMulS at e
      split at e
      · rename_i _ _ z k _
        by_cases h : (decide (0 ≤ k) && decide (k ≤ 1000) && decide (z.length ≤ 1000)) = true
        · rw [if_pos h] at e
          cases e
          simp only [Bool.and_eq_true, decide_eq_true_eq] at h
          have hy := ok.topInt
          have hx := ok.pop.topStr
          subst hx hy
          exact .inl ⟨z, k, rfl, rfl, h.1.1, h.1.2, h.2, q _ _ ok.pop.pop.str⟩
        · rw [if_neg h] at e
          cases e
      · exact .inr (od_mul B σ H ρ ws ts x y _ _ v Q ok e q)
    | _ => cases e
  | _ => cases u <;> cases e
theorem de_ixX (ha : DE X w a fa) (hb : DE X w b fb) (hs : PlainIx b := by exact fun _ _ => rfl) : DE X w (.Subscript a b pos) (dop tIxX fa fb) := by
  obtain ⟨ta, pa, da⟩ := ha.ex
  obtain ⟨tb, pb, db⟩ := hb.ex
  exact de_v (pe_ix ix_seq pa pb hs) (den_op da db od_ixX)
end
section
variable {K : PySem.W.Frag} {mg : Str → Option Value}
theorem base_ValueError (h : mg "ValueError" = none) (v : PySem.W.findCls K (.type "ValueError") (.type "type") "__init__" = some (.val (.builtin "ValueError.__init__"))) : BaseOf K mg "ValueError" "ValueError" "ValueError.__init__" := ⟨h, bt_ValueError, by kernel_rfl, by decide +kernel, by decide +kernel, v⟩
theorem base_IndexError (h : mg "IndexError" = none) (v : PySem.W.findCls K (.type "IndexError") (.type "type") "__init__" = some (.val (.builtin "IndexError.__init__"))) : BaseOf K mg "IndexError" "IndexError" "IndexError.__init__" := ⟨h, bt_IndexError, by kernel_rfl, by decide +kernel, by decide +kernel, v⟩
theorem base_LookupError (h : mg "LookupError" = none) (v : PySem.W.findCls K (.type "LookupError") (.type "type") "__init__" = some (.val (.builtin "LookupError.__init__"))) : BaseOf K mg "LookupError" "LookupError" "LookupError.__init__" := ⟨h, bt_LookupError, by kernel_rfl, by decide +kernel, by decide +kernel, v⟩
theorem base_OverflowError (h : mg "OverflowError" = none) (v : PySem.W.findCls K (.type "OverflowError") (.type "type") "__init__" = some (.val (.builtin "OverflowError.__init__"))) : BaseOf K mg "OverflowError" "OverflowError" "OverflowError.__init__" := ⟨h, bt_OverflowError, by kernel_rfl, by decide +kernel, by decide +kernel, v⟩
theorem base_RuntimeError (h : mg "RuntimeError" = none) (v : PySem.W.findCls K (.type "RuntimeError") (.type "type") "__init__" = some (.val (.builtin "RuntimeError.__init__"))) : BaseOf K mg "RuntimeError" "RuntimeError" "RuntimeError.__init__" := ⟨h, bt_RuntimeError, by kernel_rfl, by decide +kernel, by decide +kernel, v⟩
end
end DL
end
section
set_option Elab.async false
set_option linter.all false
set_option maxRecDepth 100000
set_option maxHeartbeats 4000000
/-! DLV: raise of exceptions over any built-in one, with or without fields. -/
namespace DL
open PySem L2 PySem.Spec PyProof.Rows

def tMkR (C : Addr) (sp : Sp) (ta : TA) : L2.St → Hp → XK → Prop := fun σ H Q => ta σ H fun vs H1 => vs.length ≤ 1000 ∧ ∀ a, H1 a = none → sp (.ref a :: (vs ++ [])) (upd H1 a (exo a C none))
  (fun v H2 => v = .non ∧ ((H2 = upd H1 a (exo a C none) ∧ Q (.ref C) none H1) ∨
    ∃ (d : Addr) (fs : List (Str × V)), H2 a = some (exo a C (some d)) ∧ H2 d = some (exd d fs) ∧ H1 d = none ∧ Q (.ref C) (some d) (upd (del H2 a) d (.xd fs)))) (fun _ _ _ => False)
section
variable {X : Cx} {pins : List (Addr × Obj)} {σ : L2.St}
/-- the end of C(): the exception is let go -/
theorem bare_end {H1 : Hp} {Q : XK} {hp hp2 h2 : Heap} {g1 g2 : Array GenState} {d1 d2 : Drawn} {n1 n2 : Nat} {os1 os2 : OsState} {a C : Addr} (T : Raises X (.ref C)) (I1 : Inv X pins σ H1 ⟨hp, g1, d1, n1, os1⟩) (ha : hp.objs.size ≤ a) (k : ∀ b o, hp.get? b = some o → hp2.get? b = some o)
    (un : Un (frs X.stack) [] (upd H1 a (exo a C none)) (upd H1 a (exo a C none)) hp2 h2) (hok : HOk X.prog X.w (upd H1 a (exo a C none)) h2) (he : os2 = os1) (hb : AllBare g2) (q : Q (.ref C) none H1) : MkP X pins σ Q (.ref a) ⟨h2, g2, d2, n2, os2⟩ := by
  obtain ⟨tx, hoe⟩ := exo_at hok upd_same
  have hn : H1 a = none := I1.hok.fresh ha
  obtain ⟨G, ga, gb⟩ := restrict h2 fun b => decide (b ≠ a)
  have gk : ∀ b, b ≠ a → G.get? b = h2.get? b := fun b z => ga b (decide_eq_true z)
  have ge : G.get? a = none := gb a (decide_eq_false fun z => z rfl)
  have away : ∀ {b : Addr} {o : Obj}, hp.get? b = some o → b ≠ a := fun {b o} z => Nat.ne_of_lt (Nat.lt_of_lt_of_le (Heap.lt_size z) ha)
  have none_ : ∀ {b : Addr}, b ≠ a → H1 b = none → (upd H1 a (exo a C none)) b = none := fun {b} z n => (upd_ne z).trans n
  have U : Un (frs X.stack) [] H1 H1 hp G := {
    keep := fun b o z n hf hx => (gk b (away z)).trans (un.keep b o (k b o z) (none_ (away z) n) hf hx)
    slot := fun b o z n hf hx => by
      have y := un.slot b o (k b o z) (none_ (away z) n) hf hx
      rw [← gk b (away z)] at y
      exact y
    free := fun b o z n hx => n
    there := fun b o z hx => by
      have y := un.there b o (k b o z) hx
      rw [← gk b (away z)] at y
      exact y
    tups := fun b xs z => z
    frzs := fun b o v z => z
    tbls := fun b ps z => by
      refine ⟨#[], ?_⟩
      rw [z]
      simp }
  have hok2 : HOk X.prog X.w H1 G := fun b o z => by
    have hba : b ≠ a := fun e => by rw [e, hn] at z; cases z
    have y := hok b o ((upd_ne hba).trans z)
    have hne : ∀ {c : Addr} {u : HO}, H1 c = some u → c ≠ a := fun {c u} e => ne_of_none e hn
    refine y.stay (fun c v hc e => ?_) (fun c hc => ?_) (fun c xs hc => ?_)
    · have hca : c ≠ a := by
        rcases hc with hc | hc
        · rw [hc]; exact hba
        · exact at_ne upd_same hc exo_own
      rw [gk c hca]
      exact e
    · rw [upd_ne (at_ne upd_same hc exo_own)] at hc; exact hc
    · rw [upd_ne (at_ne upd_same hc exo_tup)] at hc; exact hc
  have J : Inv X pins σ H1 ⟨G, g2, d2, n2, os2⟩ := I1.call' (ch := []) he U hok2 hb (fun b z => nomatch z)
  refine ⟨a, _, _, ⟨G, g2, d2, n2, os2⟩, H1, .ref C, none, rfl, J, fun b o z => ?_, ge, hoe, ⟨rfl, rfl⟩, rfl, rfl, hn, rfl, hb, T, q⟩
  by_cases hba : b = a
  · rw [hba, ge] at z
    cases z
  · exact (gk b hba).symm.trans z
end

section
variable {X : Cx} {e : Expr} {es : List Expr} {ta : TA} {p pos : Pos} {B initId n : String}
theorem mkR {pins : List (Addr × Obj)} {σ : L2.St} {H : Hp} {s : Shared} {Q : XK} {us : List Value} {vs : List V} {C fI : Addr} {k : Nat} {fd : FuncData} {ps : List Str} {sp : Sp} (T : OexB X.K C B initId) (iC : PySem.W.findIn X.K (.ref C) "__init__" = some (some (.ref fI))) (tI : PySem.W.typeIn X.K (.ref fI) = some (.type "function"))
    (F1 : FnOk X.prog X.w X.K X.mg X.base (L2.CX X.prog X.w) k fI fd ps sp) (hr : Room (k + 1) X.A) (hb : Binds X.K fd ps []) (I : Inv X pins σ H s) (rv : Vals vs us) (hz : vs.length ≤ 1000) (h : ∀ a, H a = none → sp (.ref a :: (vs ++ [])) (upd H a (exo a C none))
      (fun v H2 => v = .non ∧ ((H2 = upd H a (exo a C none) ∧ Q (.ref C) none H) ∨ ∃ (d : Addr) (fs : List (Str × V)), H2 a = some (exo a C (some d)) ∧ H2 d = some (exd d fs) ∧ H d = none ∧ Q (.ref C) (some d) (upd (del H2 a) d (.xd fs)))) (fun _ _ _ => False)) :
    wpAny (model X.prog X.w) X.A (call (.ref C) us) (MkP X pins σ Q) X.xe s := by
  obtain ⟨nm, q, N, bs, bm, sn, sub, ab, col, dd, k0, k1, k2, k3, k5, newId, bmB, hC, ht, FB, SF⟩ := T.cls
  obtain ⟨hp, g, dr, tk, os⟩ := s
  have old : hp.objs.size ≤ hp.objs.size + 1 := Nat.le_succ _
  have hq := h (hp.objs.size + 1) (I.hok.fresh old)
  have stays : ∀ b o, hp.get? b = some o → ((hp.push (PySem.W.kdv_tup us)).push (PySem.HandSPX.excO C hp.objs.size)).get? b = some o := fun b o e => Heap.get?_push_of_some _ (Heap.get?_push_of_some _ e)
  have there : ((hp.push (PySem.W.kdv_tup us)).push (PySem.HandSPX.excO C hp.objs.size)).get? (hp.objs.size + 1) = some (PySem.HandSPX.excO C hp.objs.size) := by heap_get
  have I2 : Inv X pins σ (upd H (hp.objs.size + 1) (exo (hp.objs.size + 1) C none)) ⟨(hp.push (PySem.W.kdv_tup us)).push (PySem.HandSPX.excO C hp.objs.size), g, dr, tk, os⟩ :=
    I.laid (t' := tk) (a := hp.objs.size + 1) (o := exo (hp.objs.size + 1) C none) (h' := (hp.push (PySem.W.kdv_tup us)).push (PySem.HandSPX.excO C hp.objs.size)) stays old (exo_ok there)
  have r2 : Vals (V.ref (hp.objs.size + 1) :: (vs ++ [])) (Value.ref (hp.objs.size + 1) :: us ++ []) := by
    have e : Vals (vs ++ []) (us ++ []) := by rw [List.append_nil, List.append_nil]; exact rv
    exact .cons rfl e
  have hl : (Value.ref (hp.objs.size + 1) :: us ++ []).length = ps.length := ((F1.len _ _ _ _ hq).symm.trans r2.length).symm
  have few : us.length ≤ sizeLine := by
    rw [← Paired.length rv, sizeLine_eq]
    omega
  refine wpAny_call (PySem.HandSPX.call_own FB (fun Y => PySem.W.excTail_contains Y _ ht) (I.kIn _ _ hC) (PySem.W.looks_findIn I.kIn iC) (fun self => PySem.W.bind_fn I.kIn self tI) few
    (codeAny_mono (F1.run _ X.stack _ _ ⟨Value.ref (hp.objs.size + 1) :: us, []⟩ (Value.ref (hp.objs.size + 1) :: us ++ []) _ _ (fun _ _ _ => False) (hr.make C us []) (I2.env0.make C us []) (hb _ (Value.ref (hp.objs.size + 1) :: us) I2.kIn hl) r2 hq) fun r s' z => ?_))
  match r, z with
  | .error er, z =>
    obtain ⟨_, _, _, _, _, _, _, _, _, _, _, _, z⟩ := z
    exact z.elim
  | .ok (.ret u), z =>
    obtain ⟨v, H2, os2, bare2, un2, hok2, rv', ev, q2⟩ := z
    subst ev
    obtain ⟨h2, g2, d2, t2, os'⟩ := s'
    rcases q2 with ⟨e2, q2⟩ | ⟨d, fs, ea, ed, hd, q2⟩
    · subst e2
      exact ⟨rv', bare_end (raises_own T.exB T.tyB) I old stays un2 hok2 os2 bare2 q2⟩
    · exact ⟨rv', mk_end (raises_own T.exB T.tyB) I old stays un2 hok2 os2 bare2 ea ed hd q2⟩
  | .ok .next, z => exact z.elim
  | .ok .brk, z => exact z.elim
  | .ok .cont, z => exact z.elim
end
section
variable {X : Cx} {w : Wd} {e : Expr} {es : List Expr} {fa : M (List T)} {os : List (Option Nat)} {k k' : Nat} {n : Str} {p pos pos' : Pos} {fs : List Str} {K : PySem.W.Frag} {t : TA} {C : Addr}
theorem okX_bare {K : PySem.W.Frag} {m : List Bool} {cl : Str → Option Value} {B : Bs} {σ : L2.St} {H : Hp} {ρ : Rho} {ws : List V} {ts : List T} {c : Value} (ok : Ok K m B σ H ρ ws ts) (hc : cl n = some c) : OkX K m cl B σ H ρ ⟨n, []⟩ c none := by
  obtain ⟨I, Fr, Fw, s, r, w, km⟩ := ok
  exact ⟨I, Fr, [], s.less (fun a m => List.mem_append_left _ m) (List.nodup_append.mp s.nd).1, r, km, hc, ⟨fun z => absurd rfl z, fun _ => rfl⟩, .nil⟩
/-- the wish of a raise, from what the arguments come to -/
theorem den_raise (hm : w.cl n = some (.ref C)) (d : DenA K w t os fa) (B : Bs) (σ : L2.St) (H : Hp) (ρ : Rho) (ws : List V) (ts : List T) (D : L2.Ends) (ok : Ok K w.m B σ H ρ ws ts) (q : PostG K w B (sraise n fs fa ρ) (PostS K w B ws ts D)) :
    tMkR C (InitS C fs) t σ H (fun c dd H' => w.W c dd σ H') := by
  refine d B σ H ρ ws ts _ ok (PostG.mono (PostG.bind q) fun vs ρ1 q1 xs H1 hl ok1 _ => ?_)
  have q1 : PostG K w B (xraise n fs (allD vs) ρ1) (PostS K w B ws ts D) := q1
  unfold xraise at q1
  cases e1 : allD vs with
  | none => rw [e1] at q1; exact False.elim q1
  | some ds =>
    rw [e1] at q1
    by_cases hz : ds.length = fs.length ∧ ds.length ≤ 900
    · simp only [if_pos hz] at q1
      have qq : ∀ c dd σ' H', OkX K w.m w.cl B σ' H' ρ1 ⟨n, (fs.zip ds).reverse⟩ c dd → w.W c dd σ' H' := q1
      have hv := allD_eq e1
      subst hv
      rw [List.length_map] at hl
      refine ⟨by omega, fun a na => ⟨a, xs, by rw [List.append_nil], by omega, upd_same, fun z => ⟨rfl, .inl ⟨rfl, ?_⟩⟩, fun z dx hd ne => ⟨rfl, .inr ⟨dx, (fs.zip xs).reverse, upd_same, ?_, ?_, ?_⟩⟩⟩⟩
      · subst z
        have hd0 : ds = [] := List.eq_nil_of_length_eq_zero hz.1
        subst hd0
        have hx0 : xs = [] := List.eq_nil_of_length_eq_zero hl
        subst hx0
        exact qq _ _ _ _ (okX_bare ok1 hm)
      · rw [upd_ne ne, upd_same]
      · rw [upd_ne ne] at hd; exact hd
      · rw [upd_ne ne] at hd
        have e3 : upd (del (upd (upd (upd H1 a (exo a C none)) dx (exd dx (fs.zip xs).reverse)) a (exo a C (some dx))) a) dx (.xd (fs.zip xs).reverse) = upd H1 dx (.xd (fs.zip xs).reverse) := by
          funext c
          by_cases x : c = dx
          · rw [x, upd_same, upd_same]
          · rw [upd_ne x, upd_ne x]
            by_cases y : c = a
            · rw [y, del_same, na]
            · rw [del_ne y, upd_ne y, upd_ne x, upd_ne y]
        rw [e3]
        exact qq _ _ _ _ (ok1.raised hl hz.1 z hd hm)
    · simp only [if_neg hz] at q1
      exact False.elim q1
theorem ds_raiseB (D : ExcB X.prog X.w X.K X.mg X.base n k fs) (at_ : At X w k') (ha : DA X w (e :: es) os fa) (hk : k + 1 ≤ k' := by decide) (hg : Gl X n := by rfl) (hdb : (n == ("__debug__" : Str)) = false := by decide)
    (st : starEach (e :: es) X.env = (false, eval e X.env) :: starEach es X.env := by rfl) (pl : (backTo pos (starEach es X.env)).any (·.1) = false := by rfl) : DS X w (.Raise (some (.Call (.Name n p) (e :: es) [] pos)) none pos') (sraise n fs fa) := by
  obtain ⟨C, fI, fd, Bn, iid, hC, hm, T, iC, tI, F, b⟩ := D.ex
  obtain ⟨t, pt, dt⟩ := ha.ex
  refine ⟨_, ps_raise (t := tMkR C (InitS C fs) t) at_.ca at_.tk (fun pins s σ H Q I h => ?_), fun B σ H ρ ws ts D' ok q => den_raise (by rw [at_.cl]; exact hm) dt B σ H ρ ws ts D' ok q⟩
  exact wpAny_Call_Name_kw (ld_glob I hg hm (PySem.W.callWith_K (h₀ := X.base) I.ok.mod.kin T.kpB (thn (pt.run pos pins s σ H _ I h) fun us s1 ⟨vs, H1, I1, rv, hz, q⟩ => ⟨I1.kIn, mkR T iC tI F (at_.r.mono hk) b I1 rv hz q⟩) st pl) hdb)
theorem ds_raiseB0 (D : ExcB X.prog X.w X.K X.mg X.base n k fs) (at_ : At X w k') (hk : k + 1 ≤ k' := by decide) (hg : Gl X n := by rfl) (hdb : (n == ("__debug__" : Str)) = false := by decide) : DS X w (.Raise (some (.Call (.Name n p) [] [] pos)) none pos') (sraise n fs (mret [])) := by
  obtain ⟨C, fI, fd, Bn, iid, hC, hm, T, iC, tI, F, b⟩ := D.ex
  refine ⟨_, ps_raise (t := tMkR C (InitS C fs) tNil) at_.ca at_.tk (fun pins s σ H Q I h => ?_), fun B σ H ρ ws ts D' ok q => den_raise (by rw [at_.cl]; exact hm) den_nil B σ H ρ ws ts D' ok q⟩
  exact wpAny_Call_Name_kw (ld_glob I hg hm (PySem.W.callWith_K0 I.kIn T.kpB (mkR (us := []) T iC tI F (at_.r.mono hk) b I .nil h.1 h.2)) hdb)
end
end DL
end
section
set_option Elab.async false
set_option linter.all false
set_option maxRecDepth 100000
set_option maxHeartbeats 4000000
/-! DLW: sets of texts, made of lists; sorted, counted. -/
namespace TX
open PySem PySem.Froz L2 PySem.Spec PyProof.Rows

/-- at a: a set of just the texts l, the table as it was laid -/
structure TxR (P : Program) (w : World) (h : Heap) (a : Addr) (l : List Str) : Prop where
  ex : ∃ D : SD, h.get? a = some (sObj "set" D) ∧ TxOk P w D l ∧ Ris D.2.2.place.toList ∧ (w.params.followText "set-order" = true ∨ D.2.2.led = true)
  nd : l.Nodup
section
variable {P : Program} {w : World} {h h' : Heap} {a : Addr} {l : List Str} {D : SD}
theorem TxR.at (R : TxR P w h a l) (k : ∀ o, h.get? a = some o → h'.get? a = some o) : TxR P w h' a l := by
  obtain ⟨D, e, r⟩ := R.ex
  exact ⟨⟨D, k _ e, r⟩, R.nd⟩
theorem ris_add (z : Int) (v : Value) (r : Ris D.2.2.place.toList) : Ris (addTx z v D).2.2.place.toList := by
  have q := layNew_ris D.2.2 D.1 z v r
  unfold addTx tailTx
  split <;> split <;> first | exact relayAll_ris _ _ _ | exact q
theorem led_add (z : Int) (v : Value) : (addTx z v D).2.2.led = D.2.2.led := by
  have q := layNew_led D.2.2 D.1 z v
  unfold addTx tailTx
  split <;> split <;> first | exact (relayAll_led _ _ _).trans q | exact q
variable {A : Around} {E : Value → Shared → Prop} {s : Shared}
/-- one text more -/
theorem put_tx {k : Str} {u : Tok} {Q : Bool → Shared → Prop} (R : TxR P w s.heap a l) (room : l.length + 1 < scanBound)
    (hq : ∀ b g l', Heap.SameBut a s.heap g → TxR P w g a l' → (∀ x, x ∈ l' ↔ x ∈ l ∨ x = k) → l'.length ≤ l.length + 1 → Q b { s with heap := g }) : wpAny (model P w) A (setAddHashed a (.str k u) (hashStr w k)) Q E s := by
  obtain ⟨D, e, T, r, o⟩ := R.ex
  by_cases hk : k ∈ l
  · have q := hq false s.heap l (Heap.SameBut.refl a s.heap) R (fun x => ⟨.inl, fun z => z.elim id fun y => by rw [y]; exact hk⟩) (Nat.le_succ _)
    obtain ⟨es, ep, t⟩ := D
    have hd : (sObj "set" (es, ep, t)).data = .set es ep t := rfl
    have hsz : es.size = l.length := T.sz
    have hf : t.fits es.size = true := T.fit
    have hel : ElemsOf (strKind P w) es.toList := T.el
    have hm : ∃ x ∈ es.toList, (strKind P w).is k x.2 = true := (T.mem k).mp hk
    unfold setAddHashed setAddHashedIn
    refine wpAny_holding (wpAny_bind (wpAny_setState_of e hd hf ?_))
    dsimp only
    rw [byScan_of rfl (by omega) hel]
    simp only [↓reduceIte]
    unfold setAddByScan
    refine wpAny_bind (wpAny_bind (wpAny_rule (wpAny_bind (wpAny_setScan_of (knd := strKind P w) (k := k) (is_str k u) e hd hf hel ?_))))
    cases hi : List.findIdx? (fun x => (strKind P w).is k x.2) es.toList with
    | none =>
      obtain ⟨x, hx, y⟩ := hm
      have c := List.findIdx?_eq_none_iff.mp hi x hx
      rw [y] at c
      cases c
    | some j =>
      dsimp only
      exact wpAny_pure (wpAny_pure q)
  · refine add_x e T hk room (hq true _ (k :: l) (Heap.SameBut.update s.heap a _) ⟨⟨_, get_upd _ e rfl, add_ok u T, ris_add _ _ r, o.imp id fun z => by rw [led_add]; exact z⟩, List.nodup_cons.mpr ⟨hk, R.nd⟩⟩ (fun x => ?_) (Nat.le_refl _))
    rw [List.mem_cons]
    exact Or.comm
/-- all of a walk's texts -/
theorem put_all {I : Addr} {fp wr : List Addr} {G : Array GenState → Array GenState → Prop} {Pv : Nat → Value → Prop} {St : Nat → Shared → Prop} {R : Result → Shared → Prop} (xs : List Str)
    (W : WalksS P w A.in1 I fp wr G xs.length Pv St) (S : Addr) (away : S ∉ fp) (hb : xs.length + 1 < scanBound) (hval : ∀ i v, Pv i v → ∃ k t, xs[i]? = some k ∧ v = .str k t) :
    ∀ (m i : Nat) (s : Shared), xs.length - i = m → i ≤ xs.length → St i s → (∃ l, TxR P w s.heap S l ∧ (∀ x, x ∈ l ↔ x ∈ xs.take i) ∧ l.length ≤ i) →
      (∀ s' l, Moved (S :: wr) G s s' → TxR P w s'.heap S l → (∀ x, x ∈ l ↔ x ∈ xs) → l.length ≤ xs.length → R (.ok (.ret .none)) s') →
      codeAny (model P w) A (.builtin "set.update.loop" ⟨[.ref S, .ref I], []⟩) R s := by
  have off : S ∉ wr := fun z => away (W.sub _ z)
  have more : ∀ b ∈ wr, b ∈ S :: wr := fun b z => List.mem_cons_of_mem _ z
  intro m
  induction m with
  | zero =>
    intro i s hm hi hst ⟨l, hS, hl, hz⟩ hR
    obtain rfl : i = xs.length := by omega
    refine codeAny_builtin F.entry_set_update_loop ?_
    rw [Around.under_plainId F.plain_set_update_loop _]
    refine wpAny_bind (W.done s _ _ hst fun s' mv => ?_)
    rw [List.take_length] at hl
    exact wpAny_pure (hR s' l (mv.mono more) (hS.at fun o e => mv.heap S o off e) hl hz)
  | succ m ih =>
    intro i s hm hi hst ⟨l, hS, hl, hz⟩ hR
    have lt : i < xs.length := by omega
    refine codeAny_builtin F.entry_set_update_loop ?_
    rw [Around.under_plainId F.plain_set_update_loop _]
    refine wpAny_bind (W.item i s _ _ lt hst fun v s' hP hst' mv => ?_)
    obtain ⟨z, t, ez, rfl⟩ := hval i v hP
    have hS' : TxR P w s'.heap S l := hS.at fun o e => mv.heap S o off e
    show wpAny _ A.in1 (holding [Value.str z t] (setAdd S (.str z t)) >>= _) _ _ s'
    refine wpAny_bind (wpAny_holding ?_)
    unfold setAdd
    refine wpAny_holding (wpAny_bind ((strKind P w).pyHash (k := z) (is_str z t) ?_))
    refine put_tx (s := { s' with toks := s'.toks + 1 }) hS' (by omega) fun b g l' sb hS2 hl2 hz2 => ?_
    have nxt : ∃ l, TxR P w g S l ∧ (∀ x, x ∈ l ↔ x ∈ xs.take (i + 1)) ∧ l.length ≤ i + 1 := ⟨l', hS2, fun x => by
      rw [hl2, hl, List.take_add_one, ez]
      simp [List.mem_append], by omega⟩
    refine wpAny_pure ⟨plainId_quiet F.plain_set_update_loop _, ih (i + 1) _ (by omega) lt (W.frame _ s' _ _ hst' (Nat.le_succ _) fun b hb o e => ?_) nxt fun s2 l2 mv2 q2 q3 q4 => ?_⟩
    · rw [sb.2 b (fun z : b = S => away (by rw [← z]; exact hb))]; exact e
    · refine hR s2 l2 (Moved.trans W.gtrans ((mv.mono more).then_heap (Nat.le_succ _) fun b o hb e => ?_) mv2) q2 q3 q4
      rw [sb.2 b (fun z : b = S => hb (by rw [z]; exact List.mem_cons_self))]; exact e
end

/-! ### lists without doubles -/
def uniq : List Str → List Str
  | [] => []
  | x :: r => if x ∈ r then uniq r else x :: uniq r
theorem uniq_mem {x : Str} : ∀ l : List Str, x ∈ uniq l ↔ x ∈ l
  | [] => Iff.rfl
  | y :: r => by
    have ih := uniq_mem (x := x) r
    unfold uniq
    by_cases h : y ∈ r
    · rw [if_pos h, ih, List.mem_cons]
      exact ⟨.inr, fun z => z.elim (fun e => by rw [e]; exact h) id⟩
    · rw [if_neg h, List.mem_cons, List.mem_cons, ih]
theorem uniq_nd : ∀ l : List Str, (uniq l).Nodup
  | [] => List.nodup_nil
  | y :: r => by
    unfold uniq
    by_cases h : y ∈ r
    · rw [if_pos h]; exact uniq_nd r
    · rw [if_neg h]; exact List.nodup_cons.mpr ⟨fun z => h ((uniq_mem r).mp z), uniq_nd r⟩
theorem perm_sub : ∀ {l m : List Str}, l.Nodup → (∀ x ∈ l, x ∈ m) → m.length ≤ l.length → m.Perm l
  | [], m, _, _, h => by
    rw [List.eq_nil_of_length_eq_zero (Nat.le_zero.mp h)]
  | x :: l, m, nd, s, h => by
    obtain ⟨n1, n2⟩ := List.nodup_cons.mp nd
    have hx := s x List.mem_cons_self
    have p := List.perm_cons_erase hx
    have hl := List.length_erase_of_mem hx
    have hp := List.length_pos_of_mem hx
    rw [List.length_cons] at h
    have ih := perm_sub (l := l) (m := m.erase x) n2 (fun y hy => (List.mem_erase_of_ne (fun e => n1 (by rw [← e]; exact hy))).mpr (s y (List.mem_cons_of_mem _ hy))) (by omega)
    exact p.trans (ih.cons x)
theorem len_sub : ∀ {l m : List Str}, l.Nodup → (∀ x ∈ l, x ∈ m) → l.length ≤ m.length
  | [], m, _, _ => Nat.zero_le _
  | x :: l, m, nd, s => by
    obtain ⟨n1, n2⟩ := List.nodup_cons.mp nd
    have hx := s x List.mem_cons_self
    have hl := List.length_erase_of_mem hx
    have hp := List.length_pos_of_mem hx
    have ih := len_sub (l := l) (m := m.erase x) n2 (fun y hy => (List.mem_erase_of_ne (fun e => n1 (by rw [← e]; exact hy))).mpr (s y (List.mem_cons_of_mem _ hy)))
    rw [List.length_cons]
    omega
theorem same_perm {l m : List Str} (hl : l.Nodup) (hm : m.Nodup) (h : ∀ x, x ∈ l ↔ x ∈ m) : m.Perm l := perm_sub hl (fun x z => (h x).mp z) (len_sub hm fun x z => (h x).mpr z)

/-! ### sorted(set) -/
section
variable {P : Program} {w : World} {A : Around} {E : Value → Shared → Prop} {s : Shared} {a : Addr} {l : List Str}
theorem strs_are : ∀ (vs : List Value), (∀ v ∈ vs, ∃ k u, v = Value.str k u) → ∃ ks : List Str, StrsAre vs ks ∧ ∀ k, (∃ u, Value.str k u ∈ vs) ↔ k ∈ ks
  | [], _ => ⟨[], .nil, fun k => ⟨fun ⟨u, z⟩ => (nomatch z), fun z => (nomatch z)⟩⟩
  | v :: vs, h => by
    obtain ⟨k, u, rfl⟩ := h v List.mem_cons_self
    obtain ⟨ks, h1, h2⟩ := strs_are vs fun x m => h x (List.mem_cons_of_mem _ m)
    refine ⟨k :: ks, .cons k u h1, fun x => ?_⟩
    rw [List.mem_cons, ← h2 x]
    constructor
    · rintro ⟨t, m⟩
      rcases List.mem_cons.mp m with e | m
      · cases e; exact .inl rfl
      · exact .inr ⟨t, m⟩
    · rintro (e | ⟨t, m⟩)
      · exact ⟨u, by rw [e]; exact List.mem_cons_self⟩
      · exact ⟨t, List.mem_cons_of_mem _ m⟩
theorem sorted_tx {Q : Value → Shared → Prop} (R : TxR P w s.heap a l) (hh : A.handled = none) (few : l.length < 64)
    (hq : ∀ s' p (out : Array Value) (c : Nat) (ys : List Str), (∀ b o, s.heap.get? b = some o → s'.heap.get? b = some o) → s'.gens = s.gens → s'.os = s.os → s.heap.objs.size ≤ p →
      s'.heap.get? p = some (seqObj "list" out c) → StrsAre out.toList ys → ys.Perm l → sortedS ys = true → Q (.ref p) s') : wpAny (model P w) A (call (.builtin "sorted") [.ref a]) Q E s := by
  obtain ⟨D, e, T, r, o⟩ := R.ex
  obtain ⟨es, ep, t⟩ := D
  have hd : (sObj "set" (es, ep, t)).data = .set es ep t := rfl
  have hsz : es.size = l.length := T.sz
  have hf : t.fits es.size = true := T.fit
  have hel : ElemsOf (strKind P w) es.toList := T.el
  refine Calls.call_function_entry kind_sorted plain_sorted entry_sorted (args_sorted1 _) ?_
  unfold Builtin.«sorted»
  refine wpAny_bind (m := checkCount "sorted" 1 1 _) (wpAny_pure ?_)
  refine wpAny_bind (collect_set (A := A.in1) hh ⟨_, e, rfl, hd⟩ hf (by unfold scanBound; omega) r o fun s1 vs k1 z1 g1 o1 pm => ?_)
  have hvl : vs.length = l.length := by rw [pm.length_eq, List.length_map, Array.length_toList]; exact hsz
  obtain ⟨ks, hks, hmem⟩ := strs_are vs fun v hv => by
    obtain ⟨x, hx, q⟩ := List.mem_map.mp (pm.mem_iff.mp hv)
    obtain ⟨⟨k, y, _⟩, _⟩ := hel x hx
    have y : Value.isStrOf k x.2 = true := y
    rw [q] at y
    cases v with
    | str z u => exact ⟨z, u, rfl⟩
    | _ => cases y
  have hkl : ks.length = l.length := by rw [← StrsAre.length hks]; exact hvl
  have pk : ks.Perm l := perm_sub R.nd (fun x hx => by
    obtain ⟨y, hy, q⟩ := (T.mem x).mp hx
    have q : Value.isStrOf x y.2 = true := q
    refine (hmem x).mp ?_
    have mv : y.2 ∈ vs := pm.mem_iff.mpr (List.mem_map.mpr ⟨y, hy, rfl⟩)
    cases hv : y.2 with
    | str z u =>
      rw [hv] at q mv
      have : z = x := by simpa [Value.isStrOf] using q
      rw [this] at mv
      exact ⟨u, mv⟩
    | _ => rw [hv] at q; cases q) (Nat.le_of_eq hkl)
  refine wpAny_bind (wpAny_newList ?_ (by rw [hvl, sizeLine_eq]; omega))
  have oL : (s1.heap.push (seqObj "list" vs.toArray 0)).get? s1.heap.objs.size = some (seqObj "list" vs.toArray 0) := Heap.get?_push_size _ rfl
  refine wpAny_bind (wpAny_holding (wpAny_call_entry slot_list_sort ⟨_, oL, rfl⟩ entry_list_sort (list_sort_treeK strKind_oneLt oL hks.keysOf (fun v₁ v₂ rest q => keyKind_strs (by rw [← q]; exact hks)) (by rw [hvl]; exact few) fun st hp hs => ⟨_, rfl, ?_⟩) (args_list_sort _)))
  obtain ⟨ys, y1, y2, y3⟩ := sorted_out_str hks hp hs
  obtain ⟨c, hc⟩ := sortedHeap_at (vs := vs) (out := (arrOf st).map (·.2)) oL
  refine wpAny_pure ⟨_, rfl, hq _ s1.heap.objs.size _ c ys (fun b u z => ?_) g1 o1 z1 hc y1 (y2.trans pk) y3⟩
  have q := k1 b u z
  have lt := Heap.lt_size q
  show (sortedHeap (s1.heap.push (seqObj "list" vs.toArray 0)) s1.heap.objs.size vs _).get? b = some u
  rw [sortedHeap_old (Nat.ne_of_lt lt) (by rw [size_push']; exact Nat.lt_succ_of_lt lt)]
  exact Heap.get?_push_of_some _ q
end
end TX
end
section
set_option Elab.async false
set_option linter.all false
set_option maxRecDepth 100000
set_option maxHeartbeats 4000000
/-! DLX: set(a list of texts); sorted(set(..)), len(set(..)). -/
namespace TX
open PySem PySem.Froz L2 PySem.Spec PyProof.Rows
section
variable {P : Program} {w : World} {A : Around} {E : Value → Shared → Prop} {s : Shared}
/-- a set as it is laid at first -/
abbrev newSet (w : World) : Obj := { cls := .type "set", dict := none, data := .set #[] 0 (.fresh 0 0 (!w.params.followText "set-order")) }
theorem fresh_tx {h : Heap} {a : Addr} (e : h.get? a = some (newSet w)) : TxR P w h a [] :=
  ⟨⟨(#[], 0, .fresh 0 0 (!w.params.followText "set-order")), e, TxOk.nil (by rfl), List.Pairwise.nil, by
    show _ ∨ (!w.params.followText "set-order") = true
    cases w.params.followText "set-order" <;> simp⟩, List.nodup_nil⟩
theorem str_at : ∀ {vs : List Value} {xs : List Str}, StrsAre vs xs → ∀ (i : Nat) (v : Value), vs[i]? = some v → ∃ k t, xs[i]? = some k ∧ v = .str k t
  | _, _, .nil, i, v, e => by simp at e
  | _, _, .cons x t r, 0, v, e => by
    simp at e
    exact ⟨x, t, rfl, e.symm⟩
  | _, _, .cons x t r, i + 1, v, e => str_at r i v (by simpa using e)
set_option maxRecDepth 100000 in
set_option maxHeartbeats 3200000 in
theorem set_of_list {l : Addr} {items : Array Value} (xs : List Str) {Q : Value → Shared → Prop} (hh : A.handled = none) (hl : s.heap.IsList l items) (hx : StrsAre items.toList xs) (hb : xs.length + 1 < scanBound)
    (h : ∀ (g : Heap) (tk : Nat) (m : List Str), TxR P w g s.heap.objs.size m → (∀ x, x ∈ m ↔ x ∈ xs) → m.length ≤ xs.length → (∀ b o, s.heap.get? b = some o → g.get? b = some o) → Q (.ref s.heap.objs.size) { s with heap := g, toks := tk }) :
    wpAny (model P w) A (call (.type "set") [.ref l]) Q E s := by
  have many : items.size = xs.length := by
    have q := StrsAre.length hx
    rw [Array.length_toList] at q
    exact q
  obtain ⟨c, tl, hmro⟩ := F.called_set.mro
  have f1 := F.called_set.made
  have f2 := F.called_set.sub
  refine wpAny_call (codeAny_of_tree ?_)
  show wpAny _ _ (callAny (.type "set") _) _ _ _
  refine wpAny_pure ⟨Code.quiet_builtin _ (by decide +kernel), codeAny_builtin F.entry_type_call ?_⟩
  rw [Around.under_plain (weight_type_call_type "set" [.ref l] []) rfl]
  have f3 := F.called_set.notType
  have f4 := F.called_set.canCreate
  have f5 := F.typeCall_set_1 (.ref l)
  repeat (any_goals (first | assumption | wp_step))
  refine codeAny_mono (code_set_led1 (.ref l) (E := E) (Q₁ := fun v s1 => v = .ref s.heap.objs.size ∧ s1 = { s with heap := s.heap.push (newSet w) }) ⟨rfl, rfl⟩) fun r s1 hr => ?_
  match r, hr with
  | .error e, hr => exact hr
  | .ok (.ret v), hr =>
    obtain ⟨rfl, rfl⟩ := hr
    have oS : (s.heap.push (newSet w)).get? s.heap.objs.size = some (newSet w) := Heap.get?_push_size _ rfl
    have tS : Shared.TypeIs { s with heap := s.heap.push (newSet w) } (.ref s.heap.objs.size) "set" := ⟨_, oS, rfl⟩
    have f6 := F.called_set.init.lookup
    have f7 := F.called_set.init.bind (.ref s.heap.objs.size)
    repeat (any_goals (first | assumption | wp_step))
    refine codeAny_mono (codeAny_call_builtin (R := wants (fun r s2 => r = .none ∧ ∃ g tk m, s2 = { s with heap := g, toks := tk } ∧ TxR P w g s.heap.objs.size m ∧ (∀ x, x ∈ m ↔ x ∈ xs) ∧ m.length ≤ xs.length ∧ (∀ b o, s.heap.get? b = some o → g.get? b = some o)) E)
      F.called_set.init.plain F.entry_set_init (check_set_init_1 tS ?_)) fun r2 s2 hr2 => ?_
    · obtain ⟨ol, hol, hcl, nl, hdl⟩ := hl
      obtain ⟨oc, od, odt, osl⟩ := ol
      simp only at hcl hdl
      subst hcl hdl
      have hol' : (s.heap.push (newSet w)).get? l = some { cls := .type "list", dict := od, data := .seq items nl, slots := osl } := Heap.get?_push_of_some _ hol
      have f8 := F.sub_list_set
      have f9 := F.sub_list_frozenset
      have f10 : (Value.type "list" == Value.type "dict") = false := by decide
      have isl : (s.heap.push (newSet w)).IsList l items := ⟨_, hol', rfl, nl, rfl⟩
      unfold Builtin.«set.__init__» noKeywords Builtin.Frozenset.updateFrom
      generalize hPI : pyIter = PI
      wp_walk
      subst hPI
      refine wpAny_pyIter_list isl ?_
      refine wpAny_bind (wpAny_runValue ?_)
      have lts : l < s.heap.objs.size := Heap.lt_size hol
      have calm : A.in1.in1.in1.handled = none := by simp [hh]
      have sz1 : (s.heap.push (newSet w)).objs.size = s.heap.objs.size + 1 := Heap.size_push ..
      have ne1 : l ≠ (s.heap.push (newSet w)).objs.size := by rw [sz1]; exact Nat.ne_of_lt (Nat.lt_succ_of_lt lts)
      have off : s.heap.objs.size ∉ [(s.heap.push (newSet w)).objs.size, l] := by
        rw [sz1]
        simp only [List.mem_cons, List.not_mem_nil, or_false, not_or]
        exact And.intro (Nat.ne_of_lt (Nat.lt_succ_self _)) (Nat.ne_of_gt lts)
      have W := (Walks.list (prog := P) (w := w) calm (s.heap.push (newSet w)).objs.size l ne1 items).toS
      rw [many] at W
      refine put_all xs W s.heap.objs.size off hb (fun i v hv => str_at hx i v (by rw [Array.getElem?_toList]; exact hv)) (xs.length - 0) 0 _ (by omega) (Nat.zero_le _) ⟨⟨_, Heap.get?_push_size _ rfl, rfl, rfl⟩, isl.push _⟩
        ⟨[], fresh_tx (Heap.get?_push_of_some _ oS), fun x => by simp, Nat.le_refl _⟩ fun s3 m mv hS hm hz => ?_
      obtain ⟨g, gs, dr, tk, os⟩ := s3
      have eg : gs = s.gens := mv.gens
      have ed : dr = s.drawn := mv.drawn
      have eo : os = s.os := mv.os
      subst eg ed eo
      show wpAny _ _ _ _ _ _
      refine wpAny_pure ?_
      show wpAny _ _ (ret Value.none) _ _ _
      refine wpAny_pure ⟨rfl, g, tk, m, rfl, hS, hm, hz, fun b o q => ?_⟩
      have hb0 : b < s.heap.objs.size := Heap.lt_size q
      refine mv.heap b o ?_ (Heap.get?_push_of_some _ (Heap.get?_push_of_some _ q))
      rw [sz1]
      simp only [List.mem_cons, List.not_mem_nil, or_false, not_or]
      exact And.intro (Nat.ne_of_lt hb0) (Nat.ne_of_lt (Nat.lt_succ_of_lt hb0))
    · match r2, hr2 with
      | .error e, hr2 => exact hr2
      | .ok (.ret r), hr2 =>
        obtain ⟨rfl, g, tk, m, rfl, q1, q2, q3, q4⟩ := hr2
        repeat (any_goals (first | assumption | wp_step))
        exact h _ _ _ q1 q2 q3 q4
      | .ok .next, hr2 => exact hr2.elim
      | .ok .brk, hr2 => exact hr2.elim
      | .ok .cont, hr2 => exact hr2.elim
  | .ok .next, hr => exact hr.elim
  | .ok .brk, hr => exact hr.elim
  | .ok .cont, hr => exact hr.elim
end
end TX
end
section
set_option Elab.async false
set_option linter.all false
set_option maxRecDepth 100000
set_option maxHeartbeats 4000000
/-! DLY: sorted(set(..)) and len(set(..)) of texts, as denotations. -/
namespace DL
open PySem L2 PySem.Spec PyProof.Rows TX

def tSortSet (K : PySem.W.Frag) (ta : TE) : TE := fun σ H Q => ta σ H fun x H1 => ∃ (l : Addr) (xs : List Str), x = .ref l ∧ SqL K H1 l (xs.map V.str) ∧ xs.length < 64 ∧ ∀ (ys : List Str) (p : Addr), ys.Perm (uniq xs) → sortedS ys = true → H1 p = none → Q (.ref p) (upd H1 p (.lst (ys.map V.str)))
def tLenTx (K : PySem.W.Frag) (ta : TE) : TE := fun σ H Q => ta σ H fun x H1 => ∃ (l : Addr) (xs : List Str), x = .ref l ∧ SqL K H1 l (xs.map V.str) ∧ xs.length < 64 ∧ Q (.int (uniq xs).length) H1
section
variable {X : Cx} {a : Expr} {ta : TE} {p p2 q pos : Pos}
theorem uniq_of {m xs : List Str} (nd : m.Nodup) (h : ∀ x, x ∈ m ↔ x ∈ xs) : m.Perm (uniq xs) := same_perm (uniq_nd xs) nd fun x => by rw [uniq_mem, h]
theorem pe_sortSet (hc : X.calm = true) (hg : Gl X "sorted") (hm : X.mg "sorted" = none) (hg2 : Gl X "set") (hm2 : X.mg "set" = none) (ha : PE X a ta)
    (na : starEach [a] X.env = (false, eval a X.env) :: starEach [] X.env := by rfl) : PE X (.Call (.Name "sorted" p) [.Call (.Name "set" p2) [a] [] q] [] pos) (tSortSet X.K ta) := by
  refine ⟨fun pins s σ H Q I h => ?_⟩
  refine Call_ (ld_blt I hg hm boot_sorted ?_)
  refine PyProof.Rows.callWith_builtin1 (PyProof.Rows.args_cons ?_ rfl) rfl rfl
  refine Call_ (ld_blt I hg2 hm2 boot_set ?_)
  refine PyProof.Rows.callWith_type1 (PyProof.Rows.args_cons (thn (ha.run pins s σ H _ I h) fun v s1 ⟨x, H1, I1, r1, q1⟩ => PyProof.Rows.args_nil ?_) na) na rfl
  obtain ⟨l, xs, rfl, hq, few, q1⟩ := q1
  cases r1
  obtain ⟨its, r, pl, hz⟩ := I1.list hq
  refine set_of_list xs (I1.ok.hd hc) pl.isList (by simpa using strsAre_of r) (by unfold scanBound; omega) fun g tk m R hm3 hl3 keep => ?_
  refine PyProof.Rows.args_nil ?_
  have I2 : Inv X pins σ H1 { s1 with heap := g, toks := tk } := I1.kept keep
  refine sorted_tx R (I2.ok.hd hc) (by omega) fun s' p' out c ys k eg eo hp hget hs hperm hso => ?_
  have hlen : (ys.map V.str).length ≤ sizeLine := by rw [List.length_map, hperm.length_eq, sizeLine_eq]; omega
  have hn : H1 p' = none := I2.hok.fresh hp
  have J := Inv.call (s := ⟨g, s1.gens, s1.drawn, tk, s1.os⟩) (H' := upd H1 p' (.lst (ys.map V.str))) (h' := s'.heap) (g' := s'.gens) (d' := s'.drawn) (t' := s'.toks) (ch := []) I2 (Un.laid k hp hn) (I2.hok.laid k hp ⟨hlen, out.toList, c, vals_of_strs hs, hget⟩) (by rw [eg]; exact I2.bare) (fun _ z => nomatch z)
  have e : s' = ⟨s'.heap, s'.gens, s'.drawn, s'.toks, s1.os⟩ := by
    cases s'
    cases s1
    cases eo
    rfl
  rw [e]
  exact ⟨.ref p', _, J, rfl, q1 ys p' (hperm.trans (uniq_of R.nd hm3)) hso hn⟩
theorem pe_lenTx (hc : X.calm = true) (hg : Gl X "len") (hm : X.mg "len" = none) (hg2 : Gl X "set") (hm2 : X.mg "set" = none) (ha : PE X a ta)
    (na : starEach [a] X.env = (false, eval a X.env) :: starEach [] X.env := by rfl) : PE X (.Call (.Name "len" p) [.Call (.Name "set" p2) [a] [] q] [] pos) (tLenTx X.K ta) := by
  refine ⟨fun pins s σ H Q I h => ?_⟩
  refine Call_ (ld_blt I hg hm boot_len ?_)
  refine PyProof.Rows.callWith_builtin1 (PyProof.Rows.args_cons ?_ rfl) rfl rfl
  refine Call_ (ld_blt I hg2 hm2 boot_set ?_)
  refine PyProof.Rows.callWith_type1 (PyProof.Rows.args_cons (thn (ha.run pins s σ H _ I h) fun v s1 ⟨x, H1, I1, r1, q1⟩ => PyProof.Rows.args_nil ?_) na) na rfl
  obtain ⟨l, xs, rfl, hq, few, q1⟩ := q1
  cases r1
  obtain ⟨its, r, pl, hz⟩ := I1.list hq
  refine set_of_list xs (I1.ok.hd hc) pl.isList (by simpa using strsAre_of r) (by unfold scanBound; omega) fun g tk m R hm3 hl3 keep => ?_
  refine PyProof.Rows.args_nil ?_
  have I2 : Inv X pins σ H1 { s1 with heap := g, toks := tk } := I1.kept keep
  obtain ⟨D, e, T, r2, o⟩ := R.ex
  obtain ⟨es, ep, t⟩ := D
  have hsz : es.size = m.length := T.sz
  have hum : m.length = (uniq xs).length := (uniq_of R.nd hm3).length_eq
  refine call_len_set e ⟨rfl, rfl, rfl⟩ rfl T.fit (by rw [hsz]; omega) ⟨.int (uniq xs).length, H1, I2.tok _, ⟨_, by rw [hsz, hum]⟩, q1⟩
end
/-! ### as denotations -/
def gSortSet : T → Option T
  | .d (.list ds) => match strsD ds with
    | some xs => if xs.length < 64 then some (.d (.list ((sortStr (uniq xs)).map PyData.str))) else none
    | none => none
  | _ => none
def gLenSet : T → Option T
  | .d (.list ds) => match strsD ds with
    | some xs => if xs.length < 64 then some (.d (.int (uniq xs).length)) else none
    | none => none
  | _ => none
def dap (g : T → Option T) (fa : M T) : M T := mbind fa fun t => mopt (g t)
section
variable {X : Cx} {w : Wd} {a : Expr} {fa : M T} {p p2 q pos : Pos} {k : Nat}
theorem de_sortSet (at_ : At X w k) (hm : X.mg "sorted" = none) (hm2 : X.mg "set" = none) (ha : DE X w a fa) (hg : Gl X "sorted" := by rfl) (hg2 : Gl X "set" := by rfl) (na : starEach [a] X.env = (false, eval a X.env) :: starEach [] X.env := by rfl) :
    DE X w (.Call (.Name "sorted" p) [.Call (.Name "set" p2) [a] [] q] [] pos) (dap gSortSet fa) := by
  obtain ⟨t, pt, dt⟩ := ha.ex
  refine de_v (pe_sortSet at_.ca hg hm hg2 hm2 pt na) fun B σ H ρ ws ts Q ok p => ?_
  refine dt B σ H ρ ws ts _ ok (p.bind.mono fun v ρ1 p1 x H1 ok1 => ?_)
  obtain ⟨z, e, q1⟩ := p1.opt
  unfold gSortSet at e
  split at e
  · rename_i ds
    split at e
    · rename_i xs es
      obtain ⟨h1, e⟩ := reqs e
      subst e
      obtain ⟨l, vs, rfl, hl, da⟩ := ok1.topList
      have hv := strs_all da es
      subst hv
      refine ⟨l, xs, rfl, SqL.of hl, h1, fun ys p hp hs hn => ?_⟩
      rw [sorted_uniq hp hs]
      exact q1 _ _ (Ok.inStead (ok1.newList hn fun I Fw sb w' => drAll_strs _))
    · cases e
  · cases e
theorem de_lenSet (at_ : At X w k) (hm : X.mg "len" = none) (hm2 : X.mg "set" = none) (ha : DE X w a fa) (hg : Gl X "len" := by rfl) (hg2 : Gl X "set" := by rfl) (na : starEach [a] X.env = (false, eval a X.env) :: starEach [] X.env := by rfl) :
    DE X w (.Call (.Name "len" p) [.Call (.Name "set" p2) [a] [] q] [] pos) (dap gLenSet fa) := by
  obtain ⟨t, pt, dt⟩ := ha.ex
  refine de_v (pe_lenTx at_.ca hg hm hg2 hm2 pt na) fun B σ H ρ ws ts Q ok p => ?_
  refine dt B σ H ρ ws ts _ ok (p.bind.mono fun v ρ1 p1 x H1 ok1 => ?_)
  obtain ⟨z, e, q1⟩ := p1.opt
  unfold gLenSet at e
  split at e
  · rename_i ds
    split at e
    · rename_i xs es
      obtain ⟨h1, e⟩ := reqs e
      subst e
      obtain ⟨l, vs, rfl, hl, da⟩ := ok1.topList
      have hv := strs_all da es
      subst hv
      exact ⟨l, xs, rfl, SqL.of hl, h1, q1 _ _ ok1.pop.int⟩
    · cases e
  · cases e
end
end DL
end
section
set_option Elab.async false
set_option linter.all false
set_option maxRecDepth 100000
set_option maxHeartbeats 4000000
/-! DLZ: tuples of own things; own lists of which only the length is known. -/
namespace DL
open PySem L2 PySem.Spec PyProof.Rows
section
variable {K : PySem.W.Frag} {m : List Bool} {B : Bs} {σ : L2.St} {H : Hp} {ρ : Rho} {ws : List V} {ts : List T}
theorem Ok.newTupO {vs : List V} {us : List T} {p : Addr} (hl : vs.length = us.length) (h : Ok K m B σ H ρ (vs ++ ws) (us ++ ts)) (hp : H p = none) : Ok K m B σ (upd H p (.tup vs)) ρ (.ref p :: ws) (.tup us :: ts) := by
  obtain ⟨I, Fr, Fw, s, r, w, km⟩ := h
  obtain ⟨G, E, rfl, g, e⟩ := RepTs.split hl w
  have hI := (s.fresh hp).2.1
  have sm : Same I (upd I p (.tup vs)) := fun a u z => by rw [upd_ne (ne_of_none z hI)]; exact z
  have nf : ∀ a ∈ Fr ++ (G ++ E), (upd H p (.tup vs)) a = H a := fun a z => upd_ne (show a ≠ p from fun y => s.thr a z (by rw [y]; exact hp))
  exact ⟨_, Fr, G ++ E, s.newD hp, r.mono sm fun a z => nf a (List.mem_append_left _ z), .cons (.tup (SqT.of upd_same) (g.mono sm fun a z => nf a (by simp [z]))) (e.mono sm fun a z => nf a (by simp [z])), km⟩
/-- an own tuple's things, in its stead -/
theorem Ok.untup {x : V} {us : List T} (h : Ok K m B σ H ρ (x :: ws) (.tup us :: ts)) : ∃ a vs, x = .ref a ∧ SqT K H a vs ∧ vs.length = us.length ∧ Ok K m B σ H ρ (vs ++ ws) (us ++ ts) := by
  obtain ⟨I, Fr, Fw, s, r, w, km⟩ := h
  cases w with
  | cons a b =>
    cases a with
    | tup q it =>
      obtain ⟨E, y, e⟩ := RepTs.append it b
      subst e
      exact ⟨_, _, rfl, st_mono s.sub q, it.len, I, Fr, _, s, r, y, km⟩
/-- an own list, of which only the length is kept -/
theorem RepT.opaque {I : Hp} {v : V} {xs : List T} {F : List Addr} (h : RepT K I H v (.lst xs) F) : ∃ a F', v = .ref a ∧ F = a :: F' ∧ RepT K I H v (.opq xs.length) [a] := by
  cases h with
  | lst q it => exact ⟨_, _, rfl, rfl, .opq q it.len⟩
end
def dtupO (fs : M (List T)) : M T := mbind fs fun ts => if short ts = true then mret (.tup ts) else mno
section
variable {X : Cx} {w : Wd} {es : List Expr} {fs : M (List T)} {os : List (Option Nat)} {pos : Pos}
theorem de_tupO {x1} (h : DA X w es os fs) : DE X w (.Tuple es x1 pos) (dtupO fs) := by
  obtain ⟨t, p, d⟩ := h.ex
  refine de_v (pe_tup p) fun B σ H ρ ws ts Q ok q => ?_
  refine d B σ H ρ ws ts _ ok (q.bind.mono fun vs ρ1 p1 xs H1 hl ok1 _ => ?_)
  by_cases hz : short vs = true
  · rw [if_pos hz] at p1
    exact ⟨by rw [hl]; exact lim_le (of_decide_eq_true hz), fun p hp => p1 _ _ (Ok.newTupO hl ok1 hp)⟩
  · rw [if_neg hz] at p1
    exact p1.elim
end

/-! ### targets a, b of an own tuple -/
def mgsO : List (T → M Unit) → List T → M Unit
  | [], _ => mret ()
  | g :: gs, u :: us => mbind (g u) fun _ => mgsO gs us
  | _ :: _, [] => mno
def mtupO (gs : List (T → M Unit)) : T → M Unit
  | .tup us => if us.length = gs.length then mgsO gs us else mno
  | _ => mno
structure DGo (X : Cx) (w : Wd) (es : List Expr) (S : List Nat) (gs : List (T → M Unit)) : Prop where
  ex : ∃ t, PGs X es t ∧ ∀ B σ H ρ ws ts xs us (Q : L2.St → Hp → Prop), xs.length = us.length → us.length = gs.length → Ok X.K w.m B σ H ρ (xs ++ ws) (us ++ ts) →
    PostG X.K w B (mgsO gs us ρ) (fun _ ρ' => ∀ σ' H', SameOut S σ σ' → Ok X.K w.m B σ' H' ρ' ws ts → Q σ' H') → t xs σ H Q
section
variable {X : Cx} {w : Wd} {e : Expr} {es : List Expr} {pos : Pos}
theorem dgo_nil : DGo X w [] [] [] := ⟨_, pgs_nil, fun B σ H ρ ws ts xs us Q l1 l2 ok q => by
  have : us = [] := List.eq_nil_of_length_eq_zero l2
  subst this
  have : xs = [] := List.eq_nil_of_length_eq_zero l1
  subst this
  exact ⟨rfl, (show ∀ σ' H', SameOut [] σ σ' → Ok X.K w.m B σ' H' ρ ws ts → Q σ' H' from q) σ H ⟨rfl, fun _ _ => rfl⟩ ok⟩⟩
theorem dgo_cons {S S' : List Nat} {g : T → M Unit} {gs : List (T → M Unit)} (h : DG X w e S g) (h' : DGo X w es S' gs) (hs : (assignEach (e :: es) X.env).map (·.2) = assign e X.env :: (assignEach es X.env).map (·.2) := by rfl) : DGo X w (e :: es) (S ++ S') (g :: gs) := by
  obtain ⟨t, p, d⟩ := h.ex
  obtain ⟨t', p', d'⟩ := h'.ex
  refine ⟨_, pgs_cons p p' hs, fun B σ H ρ ws ts xs us Q l1 l2 ok q => ?_⟩
  match us, xs with
  | [], _ => cases l2
  | _ :: _, [] => cases l1
  | u :: us, x :: xs =>
    refine ⟨x, xs, rfl, d B σ H ρ (xs ++ ws) (us ++ ts) x u _ ok (PostG.mono (PostG.bind q) fun _ ρ1 p1 σ1 H1 so ok1 => ?_)⟩
    exact d' B σ1 H1 ρ1 ws ts xs us Q (by simpa using l1) (by simpa using l2) ok1 (PostG.mono p1 fun _ ρ2 p2 σ2 H2 so2 ok2 => p2 σ2 H2 (so.trans so2) ok2)
theorem dg_tupO {k n : Nat} {S : List Nat} {gs : List (T → M Unit)} (hc : X.calm = true) (h : DGo X w es S gs) (hn : (assignEach es X.env).length = n := by rfl) (hgn : gs.length = n := by rfl) (hst : (assignEach es X.env).findIdx? (·.1) = none := by rfl) : DG X w (.Tuple es k pos) S (mtupO gs) := by
  obtain ⟨t, p, d⟩ := h.ex
  refine ⟨_, pg_tup hc p hn hst, fun B σ H ρ ws ts x v Q ok q => ?_⟩
  unfold mtupO at q
  split at q
  · rename_i us
    by_cases hl : us.length = gs.length
    · rw [if_pos hl] at q
      obtain ⟨a, vs, rfl, ha, hv, ok2⟩ := ok.untup
      exact ⟨a, vs, rfl, ha, by rw [hv, hl, hgn], d B σ H ρ ws ts vs us Q hv hl ok2 q⟩
    · rw [if_neg hl] at q
      exact q.elim
  · exact q.elim
end
end DL
end
section
set_option Elab.async false
set_option linter.all false
set_option maxRecDepth 100000
set_option maxHeartbeats 4000000
/-! DMA: own instances sealed; their fields that hold data. -/
namespace DL
open PySem L2 PySem.Spec PyProof.Rows
section
variable {K : PySem.W.Frag} {m : List Bool} {B : Bs} {σ : L2.St} {H : Hp} {ρ : Rho} {ws : List V} {ts : List T} {x : V} {t u : T} {i : Nat}
/-- an own tree becomes what never changes -/
theorem Ok.seal2 (h : Ok K m B σ H ρ (x :: ws) (t :: ts)) (e : toF t = some u) : Ok K m B σ H ρ (x :: x :: ws) (u :: u :: ts) := by
  obtain ⟨I, Fr, Fw, s, r, w, km⟩ := h
  cases w with
  | cons a b =>
    rename_i F G
    have nd := s.nd
    have inF : ∀ c ∈ F, c ∈ Fr ++ (F ++ G) := fun c z => List.mem_append_right _ (List.mem_append_left _ z)
    let J : Hp := fun c => if c ∈ F then H c else I c
    have e1 : ∀ c, c ∈ F → J c = H c := fun c z => if_pos z
    have e2 : ∀ c, c ∉ F → J c = I c := fun c z => if_neg z
    have sm : Same I J := fun c o q => by
      by_cases z : c ∈ F
      · rw [s.own c (inF c z)] at q; cases q
      · rw [e2 c z]; exact q
    have apart : ∀ c ∈ Fr ++ G, c ∉ F := fun c z y => by
      rcases List.mem_append.mp z with z | z
      · exact (List.nodup_append.mp nd).2.2 c z c (List.mem_append_left _ y) rfl
      · exact (List.nodup_append.mp (List.nodup_append.mp nd).2.1).2.2 c y c z rfl
    have inR : ∀ c ∈ Fr ++ G, c ∈ Fr ++ (F ++ G) := fun c z => by
      rcases List.mem_append.mp z with z | z
      · exact List.mem_append_left _ z
      · exact List.mem_append_right _ (List.mem_append_right _ z)
    refine ⟨J, Fr, G, ⟨fun c o q => ?_, fun c o q => sm c o (s.ext c o q), s.keep, fun c o q => ?_, fun c z => s.fr c (inR c z), fun c z => ?_, fun c z => s.thr c (inR c z), (List.Sublist.append (List.Sublist.refl _) (List.sublist_append_right _ _)).nodup nd⟩,
      r.mono sm fun c z => rfl, .cons (F := []) (frz_repT sm a e e1) (.cons (F := []) (frz_repT sm a e e1) (b.mono sm fun c z => rfl)), km⟩
    · by_cases z : c ∈ F
      · rw [e1 c z] at q; exact q
      · rw [e2 c z] at q; exact s.sub c o q
    · by_cases z : c ∈ F
      · rcases s.fr c (inF c z) with y | y
        · exact .inr (.inr y)
        · exact .inr (.inl y)
      · rw [e2 c z] at q; exact s.new c o q
    · rw [e2 c (apart c z)]
      exact s.own c (inR c z)
/-- a field of an own instance that holds data -/
theorem Ok.fieldD {n f : Str} {fs : List (Str × T)} {y : PyData} (h : Ok K m B σ H ρ ws ts) (e : ρ[i]? = some (some (.ins n fs))) (l : fs.lookup f = some (.d y)) :
    ∃ a C dx kvs v, σ[i]? = some (some (.ref a)) ∧ PySem.W.nsIn K mainGlobals n = some (some (.ref C)) ∧ H a = some (.ins C dx kvs) ∧ kvs.lookup f = some v ∧ Ok K m B σ H ρ (v :: ws) (.d y :: ts) := by
  obtain ⟨v0, h1, h2⟩ := h.take e
  obtain ⟨I, Fr, Fw, s, r, w, km⟩ := h2
  cases w with
  | cons a b =>
    have keep := a
    cases a with
    | ins n0 ha ho en ev ex rr =>
      rename_i a C dx kvs vs xs F0
      subst ev ex
      obtain ⟨v, G, R, l1, l2, _⟩ := lookup_focus en rr l
      cases l2 with
      | d dr =>
        have h3 : Ok K m B σ H (ρ.set i none) (.ref a :: v :: ws) (.ins n fs :: .d y :: ts) := ⟨I, Fr, _, s, r, .cons keep (.cons (F := []) (.d dr) b), km⟩
        have hb := h3.back (i := i) h1
        rw [List.set_set] at hb
        have er : ρ.set i (some (.ins n fs)) = ρ := by
          apply List.ext_getElem?
          intro j
          by_cases z : i = j
          · subst z
            rw [List.getElem?_set_self (List.getElem?_eq_some_iff.mp e).1, e]
          · rw [List.getElem?_set_ne z]
        rw [er] at hb
        exact ⟨a, C, dx, kvs, v, h1, n0, ha, l1, hb⟩
end
/-- a name's own instance, sealed -/
def dseal (i : Nat) : M T := fun ρ => match ρ[i]? with
  | some (some t) => (match toF t with
    | some u => .ok u (ρ.set i (some u))
    | none => .no)
  | _ => .no
section
variable {X : Cx} {w : Wd} {pos : Pos} {K : PySem.W.Frag}
theorem den_seal {i : Nat} : DenE K w (tVar i) (dseal i) := fun B σ H ρ ws ts Q ok p => by
  unfold dseal at p
  cases e : ρ[i]? with
  | none => rw [e] at p; exact p.elim
  | some o =>
    cases o with
    | none => rw [e] at p; exact p.elim
    | some t =>
      rw [e] at p
      simp only at p
      cases q : toF t with
      | none => rw [q] at p; exact p.elim
      | some u =>
        rw [q] at p
        obtain ⟨v, h1, h2⟩ := ok.take e
        have h3 := (h2.seal2 q).back (i := i) h1
        rw [List.set_set] at h3
        exact ⟨v, h1, p v H h3⟩
theorem de_seal (i : Nat) {x : Str} (hN : X.N[i]? = some x := by rfl) (hv : Vis X.env.scope x := by first | exact Or.inl rfl | exact Or.inr (Or.inl rfl) | exact Or.inr (Or.inr rfl)) (hd : (x == ("__debug__" : Str)) = false := by decide)
    (hcd : (x == ("__classdict__" : Str)) = false := by decide) : DE X w (.Name x pos) (dseal i) := de_v (pe_var hN hv hd hcd) den_seal
/-- x.f, x's own instance, f's thing data -/
def dfo (ns : List Str) (i : Nat) (f : Str) : M T := fun ρ => match ρ[i]? with
  | some (some (.ins n fs)) => if n ∈ ns then (match fs.lookup f with
    | some (.d y) => .ok (.d y) ρ
    | _ => .no) else .no
  | _ => .no
theorem de_fo {ns : List Str} (i : Nat) {x f : Str} {p : Pos} (h : ∀ n ∈ ns, ClsF X.K n f) (hN : X.N[i]? = some x := by rfl) (hv : Vis X.env.scope x := by first | exact Or.inl rfl | exact Or.inr (Or.inl rfl) | exact Or.inr (Or.inr rfl)) (hd : (x == ("__debug__" : Str)) = false := by decide)
    (hcd : (x == ("__classdict__" : Str)) = false := by decide) (hb : attributeBase (.Name x p) f X.env (eval (.Name x p) X.env) = eval (.Name x p) X.env := by rfl) : DE X w (.Attribute (.Name x p) f pos) (dfo ns i f) := by
  refine de_v (pe_fld (pe_var hN hv hd hcd) hb) fun B σ H ρ ws ts Q ok q => ?_
  unfold dfo at q
  cases e : ρ[i]? with
  | none => rw [e] at q; exact q.elim
  | some o =>
    cases o with
    | none => rw [e] at q; exact q.elim
    | some t =>
      cases t with
      | ins n fs =>
        rw [e] at q
        simp only at q
        by_cases hn : n ∈ ns
        · rw [if_pos hn] at q
          cases l : fs.lookup f with
          | none => rw [l] at q; exact q.elim
          | some u =>
            cases u with
            | d y =>
              rw [l] at q
              obtain ⟨C, c1, T, c2⟩ := (h n hn).ex
              obtain ⟨a, C', dx, kvs, v, h1, n0, ha, l1, ok2⟩ := ok.fieldD e l
              rw [c1] at n0
              cases n0
              exact ⟨_, h1, a, C, dx, kvs, v, rfl, ha, T, c2, l1, q v H ok2⟩
            | _ => rw [l] at q; exact q.elim
        · rw [if_neg hn] at q
          exact q.elim
      | _ => rw [e] at q; exact q.elim
end
end DL
end
section
set_option Elab.async false
set_option linter.all false
set_option maxRecDepth 100000
set_option maxHeartbeats 4000000
/-! DMB: what the head leaves of the text's own classes. -/
namespace DL
open PySem L2 PySem.Spec PyProof.Rows

/-- a method as the text has it -/
structure HasMt (K : PySem.W.Frag) (cn m qual : Str) (st : Stmt) : Prop where
  ex : ∃ C f fd, PySem.W.nsIn K mainGlobals cn = some (some (.ref C)) ∧ Cls K C ∧ Meth K C m f ∧ Fun K m qual st f fd
/-- a class with its __init__ -/
structure HasMk (K : PySem.W.Frag) (cn qual : Str) (st : Stmt) : Prop where
  ex : ∃ C f fd, PySem.W.nsIn K mainGlobals cn = some (some (.ref C)) ∧ Mk K C f ∧ Fun K "__init__" qual st f fd
section
variable {K : PySem.W.Frag} {cn m qual f : Str} {st : Stmt} {C fa : Addr} {oc : Value} {od an : Option Addr} {osl : Array (Option Value)} {kV doc pm cdv ct : Value}
theorem Cls.by_ (pg : PySem.W.plainGet K C Str.empty = true) (hd : PySem.W.hasDictIn K C = true) (po : PySem.W.plainOver K C = true) (sa : PySem.W.findIn K (.ref C) "__setattr__" = some (some (.builtin "object.__setattr__"))) : Cls K C := ⟨pg, hd, po, sa⟩
theorem HasMt.by_ (a : PySem.W.nsIn K mainGlobals cn = some (some (.ref C))) (pg : PySem.W.plainGet K C Str.empty = true) (hd : PySem.W.hasDictIn K C = true) (po : PySem.W.plainOver K C = true) (sa : PySem.W.findIn K (.ref C) "__setattr__" = some (some (.builtin "object.__setattr__")))
    (at_ : PySem.W.findIn K (.ref C) m = some (some (.ref fa))) (fn : PySem.W.isFn K (.ref fa) = true) (kp : PySem.W.keepIn K (.ref fa) = true)
    (l : K.lookup fa = some ⟨oc, od, .func (PySem.W.fnOf m qual (defArgs st) (defBody st) (defScope st) .none kV doc pm an cdv ct), osl⟩) (c : PySem.W.codeIn K cdv qual = true) : HasMt K cn m qual st := ⟨C, fa, _, a, ⟨pg, hd, po, sa⟩, ⟨at_, fn, kp⟩, fun_mk l c kp⟩
theorem HasMk.by_ (a : PySem.W.nsIn K mainGlobals cn = some (some (.ref C))) (mk : PySem.W.makesIn K C = true) (i : PySem.W.findIn K (.ref C) "__init__" = some (some (.ref fa))) (fn : PySem.W.isFn K (.ref fa) = true) (kc : PySem.W.keepIn K (.ref C) = true) (kf : PySem.W.keepIn K (.ref fa) = true)
    (l : K.lookup fa = some ⟨oc, od, .func (PySem.W.fnOf "__init__" qual (defArgs st) (defBody st) (defScope st) .none kV doc pm an cdv ct), osl⟩) (c : PySem.W.codeIn K cdv qual = true) : HasMk K cn qual st := ⟨C, fa, _, a, ⟨mk, i, fn, kc⟩, fun_mk l c kf⟩
theorem ClsF.by_ (a : PySem.W.nsIn K mainGlobals cn = some (some (.ref C))) (pg : PySem.W.plainGet K C Str.empty = true) (hd : PySem.W.hasDictIn K C = true) (po : PySem.W.plainOver K C = true) (sa : PySem.W.findIn K (.ref C) "__setattr__" = some (some (.builtin "object.__setattr__"))) (n : PySem.W.findIn K (.ref C) f = some none) : ClsF K cn f := ⟨C, a, ⟨pg, hd, po, sa⟩, n⟩
end
section
variable {P : Program} {w : World} {K : PySem.W.Frag} {mg : Str → Option Value} {base : Heap} {cn m : Str} {k n : Nat} {g : Fn} {C f : Addr} {fd : FuncData} {ps : List Str}
theorem DefM.of (hC : PySem.W.nsIn K mainGlobals cn = some (some (.ref C))) (c : Cls K C) (h : Meth K C m f) (F : FnG P w K mg base k f fd ps (FnD K mg n g)) (b : Binds K fd ps []) : DefM P w K mg base cn m k n g := ⟨⟨C, f, fd, ps, hC, c, h, F, b⟩⟩
theorem DefI.of (hC : PySem.W.nsIn K mainGlobals cn = some (some (.ref C))) (hm : mg cn = some (.ref C)) (M : Mk K C f) (F : FnG P w K mg base k f fd ps (FnD K mg n g)) (b : Binds K fd ps []) : DefI P w K mg base cn k n g := ⟨⟨C, f, fd, ps, [], hC, hm, M, .of F, b⟩⟩
end
/-- where one stands in a look -/
theorem At.nx {X : Cx} {w : Wd} {k : Nat} (a : At X w k) : At X w.nx k := ⟨a.g, a.r, a.tk.imp fun _ _ _ _ z => False.elim z, a.cl, a.ca, a.po⟩
end DL
end
section
set_option Elab.async false
set_option linter.all false
set_option maxRecDepth 100000
set_option maxHeartbeats 4000000
/-! DMC: an own list's things lent one by one, and given back: loops and comprehensions over own lists. -/
namespace DL
open PySem L2

section
variable {K : PySem.W.Frag} {I H : Hp}
theorem RepTs.lend : ∀ {vs : List V} {L : List T} {F : List Addr} {i : Nat} {t : T}, RepTs K I H vs L F → L[i]? = some t → ∃ v G E, vs[i]? = some v ∧ RepT K I H v t G ∧ RepTs K I H vs (L.set i .hole) E ∧ List.Perm (G ++ E) F
  | _, _, _, i, _, .nil, e => by simp at e
  | _, _, _, 0, _, .cons (v := v) (F := F) (G := G) a b, e => by
    simp at e
    subst e
    exact ⟨v, F, G, rfl, a, .cons (F := []) .hole b, List.Perm.refl _⟩
  | _, _, _, i + 1, t, .cons (F := F) a b, e => by
    obtain ⟨v, G, E, h1, h2, h3, h4⟩ := RepTs.lend (i := i) b (by simpa using e)
    refine ⟨v, G, F ++ E, by simpa using h1, h2, .cons a h3, ?_⟩
    rw [← List.append_assoc]
    refine (List.Perm.append_right _ List.perm_append_comm).trans ?_
    rw [List.append_assoc]
    exact List.Perm.append_left _ h4
theorem RepTs.give : ∀ {vs : List V} {L : List T} {F G : List Addr} {i : Nat} {v : V} {t : T}, RepTs K I H vs L F → vs[i]? = some v → L[i]? = some .hole → RepT K I H v t G → ∃ E, RepTs K I H vs (L.set i t) E ∧ List.Perm (G ++ F) E
  | _, _, _, _, i, _, _, .nil, e, _, _ => by simp at e
  | _, _, _, G, 0, v, t, .cons (F := F) a b, e, e2, r => by
    simp at e e2
    subst e
    subst e2
    cases a
    exact ⟨_, .cons r b, List.Perm.refl _⟩
  | _, _, _, G, i + 1, v, t, .cons (F := F) a b, e, e2, r => by
    obtain ⟨E, h1, h2⟩ := RepTs.give (i := i) b (by simpa using e) (by simpa using e2) r
    refine ⟨F ++ E, .cons a h1, ?_⟩
    rw [← List.append_assoc]
    refine (List.Perm.append_right _ List.perm_append_comm).trans ?_
    rw [List.append_assoc]
    exact List.Perm.append_left _ h2
end
theorem lend_perm {a : Addr} {F1 F2 G E Fr : List Addr} (h4 : List.Perm (G ++ E) F1) : List.Perm (Fr ++ (a :: F1 ++ F2)) (Fr ++ (G ++ (a :: E ++ F2))) := by
  refine List.Perm.append_left _ ?_
  have p1 : List.Perm (a :: F1 ++ F2) (a :: (G ++ E) ++ F2) := List.Perm.append_right _ (List.Perm.cons _ h4.symm)
  refine p1.trans ?_
  have p2 : List.Perm (a :: (G ++ E)) (G ++ (a :: E)) := List.perm_middle.symm
  have p3 := List.Perm.append_right F2 p2
  refine p3.trans ?_
  rw [List.append_assoc]
theorem give_perm {a : Addr} {F1 F2 G E Fr : List Addr} (h2 : List.Perm (G ++ F1) E) : List.Perm (Fr ++ (G ++ (a :: F1 ++ F2))) (Fr ++ (a :: E ++ F2)) := by
  refine List.Perm.append_left _ ?_
  have p2 : List.Perm (G ++ (a :: F1)) (a :: (G ++ F1)) := List.perm_middle
  have p3 : List.Perm (G ++ (a :: F1)) (a :: E) := p2.trans (List.Perm.cons _ h2)
  rw [← List.append_assoc]
  exact List.Perm.append_right _ p3
section
variable {K : PySem.W.Frag} {m : List Bool} {B : Bs} {σ : L2.St} {H : Hp} {ρ : Rho} {ws vs : List V} {ts L : List T} {a : Addr} {i : Nat} {t : T} {v : V}
theorem Ok.lend (h : Ok K m B σ H ρ (.ref a :: ws) (.lst L :: ts)) (e : L[i]? = some t) : ∃ vs v, H a = some (.lst vs) ∧ vs[i]? = some v ∧ vs.length = L.length ∧ Ok K m B σ H ρ (v :: .ref a :: ws) (t :: .lst (L.set i .hole) :: ts) := by
  obtain ⟨I, Fr, Fw, s, r, w, km⟩ := h
  cases w with
  | cons x y =>
    cases x with
    | lst ha it =>
      obtain ⟨v, G, E, h1, h2, h3, h4⟩ := it.lend e
      exact ⟨_, v, ha, h1, it.len, I, Fr, _, s.perm (lend_perm h4), r, .cons h2 (.cons (.lst ha h3) y), km⟩
theorem Ok.give (h : Ok K m B σ H ρ (v :: .ref a :: ws) (t :: .lst L :: ts)) (ha : H a = some (.lst vs)) (hv : vs[i]? = some v) (e : L[i]? = some .hole) : Ok K m B σ H ρ (.ref a :: ws) (.lst (L.set i t) :: ts) := by
  obtain ⟨I, Fr, Fw, s, r, w, km⟩ := h
  cases w with
  | cons x y =>
    cases y with
    | cons y z =>
      cases y with
      | lst hb it =>
        rw [ha] at hb
        cases hb
        obtain ⟨E, h1, h2⟩ := it.give hv e x
        exact ⟨I, Fr, _, s.perm (give_perm h2), r, .cons (.lst ha h1) z, km⟩
/-- what is pending aside -/
theorem Ok.shell (h : Ok K m B σ H ρ (.ref a :: ws) (.lst L :: ts)) : ∃ B', Ok K m B' σ H ρ [] [] ∧ ∀ {σ' : L2.St} {H' : Hp} {ρ' : Rho} {vs : List V} {us : List T}, Ok K m B' σ' H' ρ' vs us → H' a = H a ∧ Ok K m B σ' H' ρ' (vs ++ .ref a :: ws) (us ++ .lst L :: ts) := by
  obtain ⟨I, Fr, Fw, s, r, w, km⟩ := h
  refine ⟨_, Ok.alone s r km, fun {σ' H' ρ' vs us} q => ⟨?_, Ok.framed s w q⟩⟩
  obtain ⟨I', F1, F2, s', r', w', km'⟩ := q
  obtain ⟨S, st, sm⟩ := s.join s'
  cases w with
  | cons x y =>
    cases x with
    | lst ha it => exact st a (by simp)
theorem PostG.noexE {α : Type} {w : Wd} {f : M α} {P : α → Rho → Prop} (h : PostG K w B (mnoex f ρ) P) : ∃ x ρ', f ρ = .ok x ρ' ∧ P x ρ' := by
  unfold mnoex at h
  cases e : f ρ with
  | ok x ρ' => rw [e] at h; exact ⟨x, ρ', rfl, h⟩
  | ex e ρ' => rw [e] at h; exact h.elim
  | no => rw [e] at h; exact h.elim
theorem PostG.ok {α : Type} {w : Wd} {f : M α} {x : α} {ρ' : Rho} {P : α → Rho → Prop} (h : f ρ = .ok x ρ') (p : P x ρ') : PostG K w B (f ρ) P := by
  rw [h]
  exact p
end

/-! ### for x in xs: e -/
def mlend (j : Nat) (fe : M T) : List T → List T → M (List T)
  | done, [] => mret done
  | done, t :: ts => mbind (mset j t) fun _ => mbind (mnoex fe) fun _ => mbind (dtake j) fun t' => mlend j fe (done ++ [t']) ts
/-- the list is one that nobody else has -/
def sforT (j : Nat) (f fe : M T) : M Fl := mbind f fun t => match t with
  | .lst xs => mbind (mlend j fe [] xs) fun _ => mret .nx
  | _ => mno
def mput (i : Nat) (t : T) : M Unit := fun ρ => .ok () (ρ.set i (some t))
/-- the list stands in slot i -/
def sforE (i j : Nat) (fe : M T) : M Fl := mbind (dtake i) fun t => match t with
  | .lst xs => mbind (mlend j fe [] xs) fun ys => mbind (mput i (.lst ys)) fun _ => mret .nx
  | _ => mno
theorem set_app {α : Type} (done : List α) (t t' : α) (ts : List α) : (done ++ t :: ts).set done.length t' = done ++ t' :: ts := by
  induction done with
  | nil => rfl
  | cons d ds ih => simp [ih]
theorem get_app {α : Type} (done : List α) (t : α) (ts : List α) : (done ++ t :: ts)[done.length]? = some t := by
  simp
theorem take_of {K : PySem.W.Frag} {w : Wd} {B : Bs} {ρ : Rho} {i : Nat} {P : T → Rho → Prop} (q : PostG K w B (dtake i ρ) P) : ∃ t, ρ[i]? = some (some t) ∧ P t (ρ.set i none) := by
  unfold dtake at q
  split at q
  · rename_i t e
    exact ⟨t, e, q⟩
  · exact q.elim
section
variable {X : Cx} {w : Wd} {e iter : Expr} {f fe : M T} {pos npos epos pos' : Pos} {k i j : Nat} {x y : Str}
/-- the turns of such a loop -/
theorem lend_turns {K : PySem.W.Frag} {B : Bs} {te : TE} {a : Addr} {ws : List V} {ts xs : List T} {σ0 : L2.St} {Hs : Hp} {ρ1 : Rho} {P : List T → Rho → Prop} {N : L2.St → Hp → Prop} {D : L2.Ends} (hj : NotM w j) (de : DenE K w.nx te fe)
    (ok1 : Ok K w.m B σ0 Hs ρ1 (.ref a :: ws) (.lst xs :: ts)) (p1 : PostG K w B (mlend j fe [] xs ρ1) P) (fin : ∀ ys ρ' σ' H', P ys ρ' → SameOut [j] σ0 σ' → Ok K w.m B σ' H' ρ' (.ref a :: ws) (.lst ys :: ts) → N σ' H') :
    ∃ W : Nat → Nat → L2.St → Hp → Prop, (∃ m, W 0 m σ0 Hs) ∧ ∀ i m σ H, W i m σ H → ((Itl K a).stop i H ∧ N σ H) ∨ ((Itl K a).go i H ∧ ∃ W' : L2.St → Hp → Prop, (∀ σ' H', W' σ' H' → ∃ m', m' < m ∧ W (i + 1) m' σ' H') ∧
      ∀ z H', (Itl K a).yld i H z H' → te (σ.set j (some z)) H' fun _ H2 => W' (σ.set j (some z)) H2) := by
  refine ⟨fun i n σ H => n = xs.length - i ∧ ∃ done rest ρ, done.length = i ∧ done.length + rest.length = xs.length ∧ SameOut [j] σ0 σ ∧ Ok K w.m B σ H ρ (.ref a :: ws) (.lst (done ++ rest) :: ts) ∧ PostG K w B (mlend j fe done rest ρ) P, ⟨_, rfl, [], xs, ρ1, rfl, by simp, ⟨rfl, fun _ _ => rfl⟩, ok1, p1⟩, ?_⟩
  rintro i n σ H ⟨rfl, done, rest, ρ, rfl, hl, so, ok2, p2⟩
  cases rest with
  | nil =>
    rw [List.append_nil] at ok2
    refine .inl ⟨?_, fin done ρ σ H p2 so ok2⟩
    obtain ⟨b, vs, hb, hH, hL⟩ := ok2.ownList
    cases hb
    exact ⟨vs, SqL.of hH, by rw [hL]; exact Nat.le_refl _⟩
  | cons t rest =>
    obtain ⟨vs, v, ha, hv, hL, ok3⟩ := ok2.lend (get_app done t rest)
    refine .inr ⟨⟨vs, v, SqL.of ha, hv⟩, fun σ' H' => ∃ done' ρ', done'.length = done.length + 1 ∧ done'.length + rest.length = xs.length ∧ SameOut [j] σ0 σ' ∧ Ok K w.m B σ' H' ρ' (.ref a :: ws) (.lst (done' ++ rest) :: ts) ∧ PostG K w B (mlend j fe done' rest ρ') P,
      fun σ' H' ⟨done', ρ', h1, h2, h3, h4, h5⟩ => ⟨xs.length - (done.length + 1), by simp at hl; omega, rfl, done', rest, ρ', h1, h2, h3, h4, h5⟩, ?_⟩
    rintro z H' ⟨rfl, yz⟩
    have ez := yz vs (SqL.of ha)
    rw [hv] at ez
    cases ez
    have ok4 := ok3.store hj
    rw [set_app] at ok4
    obtain ⟨B', ok5, back⟩ := ok4.shell
    have p3 : PostG K w B (mbind (mnoex fe) (fun _ => mbind (dtake j) fun t' => mlend j fe (done ++ [t']) rest) (ρ.set j (some t))) P := p2
    obtain ⟨r, ρ3, e3, p4⟩ := PostG.noexE p3.bind
    refine de B' _ _ _ [] [] _ ok5 (PostG.ok e3 fun y H2 ok6 => ?_)
    obtain ⟨t', et, p5⟩ := take_of (PostG.bind p4)
    obtain ⟨v', ev, ok7⟩ := ok6.pop.take et
    have hjl : j < σ.length := by
      rcases Nat.lt_or_ge j σ.length with z | z
      · exact z
      · rw [List.set_eq_of_length_le z] at ev
        rw [List.getElem?_eq_none z] at ev
        cases ev
    rw [List.getElem?_set_self hjl] at ev
    cases ev
    obtain ⟨hH2, ok8⟩ := back ok7
    have ok9 := Ok.give (i := done.length) (vs := vs) ok8 (by rw [hH2]; exact ha) hv (get_app done .hole rest)
    rw [set_app] at ok9
    refine ⟨done ++ [t'], _, by simp, by simp at hl ⊢; omega, ⟨by rw [List.length_set]; exact so.1, fun q hq => ?_⟩, by rw [List.append_assoc]; exact ok9, p5⟩
    rw [List.getElem?_set_ne (fun z => hq (by rw [← z]; exact List.mem_singleton_self _))]
    exact so.2 q hq
theorem ds_forT (j : Nat) (at_ : At X w k) (hN : X.N.Nodup) (hi : DE X w iter f) (he : DE X w.nx e fe) (hm : NotM w j := by intro h; cases h) (hj : X.N[j]? = some y := by rfl) (hy : Loc X.env.scope y := by first | exact Or.inl rfl | exact Or.inr rfl) (hsw : swapsWith e none epos.line X.env = pure false := by rfl)
    (hs : ∀ x, foldedSetIterable iter X.env x = pure x := by intro _; rfl) (hf : X.fn y = true ∨ X.env.scope.names.lookup y = some .local := by first | exact .inl rfl | exact .inr rfl | assumption) : DS X w (.For (.Name y npos) iter [.Expr e epos] [] pos) (sforT j f fe) := by
  obtain ⟨ti, pi, di⟩ := hi.ex
  obtain ⟨te, pe, de⟩ := he.ex
  refine ⟨_, ps_for at_.po at_.ca (pi_list pi) (pg_name hN hj hy hf) (pss_one (ps_expr pe hsw)) hs, fun B σ H ρ ws ts D ok q => ?_⟩
  refine di B σ H ρ ws ts _ ok (q.bind.mono fun t ρ1 p1 x H1 ok1 => ?_)
  match t, p1 with
  | .lst xs, p1 =>
    have p1 : PostG X.K w B (mbind (mlend j fe [] xs) (fun _ => mret .nx) ρ1) (PostS X.K w B ws ts D) := p1
    obtain ⟨a, vs, rfl, ha, hl⟩ := ok1.ownList
    refine ⟨a, rfl, ⟨vs, SqL.of ha⟩, ?_⟩
    obtain ⟨W, w0, w1⟩ := lend_turns (D := D) (N := fun σ H => D.nx σ H) hm de ok1 p1.bind fun ys ρ' σ' H' p so o => (show ∀ σ' H', Ok X.K w.m B σ' H' ρ' ws ts → D.nx σ' H' from p) σ' H' o.pop
    refine ⟨W, w0, fun i m σ H hW => ?_⟩
    rcases w1 i m σ H hW with z | ⟨go, W', h1, h2⟩
    · exact .inl z
    · exact .inr ⟨go, W', h1, fun z H' y => h2 z H' y⟩
theorem ds_forE (i j : Nat) (at_ : At X w k) (hN : X.N.Nodup) (he : DE X w.nx e fe) (hij : i ≠ j := by decide) (hm : NotM w j := by intro h; cases h) (hi : X.N[i]? = some x := by rfl) (hv : Vis X.env.scope x := by first | exact Or.inl rfl | exact Or.inr (Or.inl rfl) | exact Or.inr (Or.inr rfl)) (hd : (x == ("__debug__" : Str)) = false := by decide)
    (hcd : (x == ("__classdict__" : Str)) = false := by decide) (hj : X.N[j]? = some y := by rfl) (hy : Loc X.env.scope y := by first | exact Or.inl rfl | exact Or.inr rfl) (hsw : swapsWith e none epos.line X.env = pure false := by rfl)
    (hs : ∀ z, foldedSetIterable (.Name x pos') X.env z = pure z := by intro _; rfl) (hf : X.fn y = true ∨ X.env.scope.names.lookup y = some .local := by first | exact .inl rfl | exact .inr rfl | assumption) : DS X w (.For (.Name y npos) (.Name x pos') [.Expr e epos] [] pos) (sforE i j fe) := by
  obtain ⟨te, pe, de⟩ := he.ex
  refine ⟨_, ps_for at_.po at_.ca (pi_list (pe_var hi hv hd hcd)) (pg_name hN hj hy hf) (pss_one (ps_expr pe hsw)) hs, fun B σ H ρ ws ts D ok q => ?_⟩
  obtain ⟨t, et, p1⟩ := take_of q.bind
  obtain ⟨v, ev, ok1⟩ := ok.take et
  match t, p1 with
  | .lst xs, p1 =>
    have p1 : PostG X.K w B (mbind (mlend j fe [] xs) (fun ys => mbind (mput i (.lst ys)) fun _ => mret .nx) (ρ.set i none)) (PostS X.K w B ws ts D) := p1
    obtain ⟨a, vs, rfl, ha, hl⟩ := ok1.ownList
    refine ⟨_, ev, a, rfl, ⟨vs, SqL.of ha⟩, ?_⟩
    obtain ⟨W, w0, w1⟩ := lend_turns (D := D) (N := fun σ H => D.nx σ H) hm de ok1 p1.bind fun ys ρ' σ' H' p so o => by
      have p : ∀ σ' H', Ok X.K w.m B σ' H' (ρ'.set i (some (.lst ys))) ws ts → D.nx σ' H' := p
      exact p σ' H' (o.back (i := i) (by rw [so.2 i (by simp [hij])]; exact ev))
    refine ⟨W, w0, fun i m σ H hW => ?_⟩
    rcases w1 i m σ H hW with z | ⟨go, W', h1, h2⟩
    · exact .inl z
    · exact .inr ⟨go, W', h1, fun z H' y => h2 z H' y⟩
end

/-! ### [e for x in xs], the things of xs lent -/
def lcGoE (j : Nat) (fe : M T) : List T → List T → List T → M (List T × List T)
  | done, [], acc => mret (done, acc)
  | done, t :: ts, acc => mbind (mset j t) fun _ => mbind fe fun r => mbind (dtake j) fun t' => mbind (mwipe [j]) fun _ => if acc.length < lim then lcGoE j fe (done ++ [t']) ts (acc ++ [r]) else mno
def dlcE (i j : Nat) (fe : M T) : M T := mbind (dtake i) fun t => match t with
  | .lst xs => mbind (mwipe [j]) fun _ => mbind (mnoex (lcGoE j fe [] xs [])) fun r => mbind (mput i (.lst r.1)) fun _ => mret (.lst r.2)
  | _ => mno
section
variable {X : Cx} {w : Wd} {e elt : Expr} {fe : M T} {pos npos pos' : Pos} {k i j : Nat} {x y : Str}
theorem PostG.okX {α : Type} {K : PySem.W.Frag} {B : Bs} {w : Wd} {f : M α} {ρ : Rho} {P : α → Rho → Prop} (h : PostG K w B (mnoex f ρ) P) : PostG K w.nx B (f ρ) P := h.noex
theorem mbind_ok {α β : Type} {f : M α} {g : α → M β} {ρ ρ2 : Rho} {b : β} (h : mbind f g ρ = .ok b ρ2) : ∃ a ρ1, f ρ = .ok a ρ1 ∧ g a ρ1 = .ok b ρ2 := by
  unfold mbind at h
  cases e : f ρ with
  | ok a ρ1 => rw [e] at h; exact ⟨a, ρ1, rfl, h⟩
  | ex x ρ1 => rw [e] at h; cases h
  | no => rw [e] at h; cases h
theorem dtake_ok {j : Nat} {ρ ρ1 : Rho} {t : T} (h : dtake j ρ = .ok t ρ1) : ρ[j]? = some (some t) ∧ ρ1 = ρ.set j none := by
  unfold dtake at h
  split at h
  · rename_i u e
    cases h
    exact ⟨e, rfl⟩
  · cases h
theorem den_lcE {K : PySem.W.Frag} {te : TE} (hij : i ≠ j) (hm : NotM w j) (de : DenE K w.nx te fe) : DenE K w (tLc (iList K (tVar i)) (gName j) tYes te [j]) (dlcE i j fe) := fun B σ H ρ ws ts Q ok q => by
  obtain ⟨t, et, p1⟩ := take_of q.bind
  obtain ⟨v, ev, ok1⟩ := ok.take et
  match t, p1 with
  | .lst xs, p1 =>
    have p2 : PostG K w B (mbind (mnoex (lcGoE j fe [] xs [])) (fun r => mbind (mput i (T.lst r.1)) fun _ => mret (T.lst r.2)) (wipeR (ρ.set i none) [j])) (fun v ρ' => ∀ (x : V) (H' : Hp), Ok K w.m B σ H' ρ' (x :: ws) (v :: ts) → Q x H') := p1
    obtain ⟨rr, ρe, ee, pe⟩ := PostG.noexE p2.bind
    obtain ⟨a, vs, rfl, ha, hl⟩ := ok1.ownList
    refine ⟨_, ev, a, rfl, ⟨vs, SqL.of ha⟩, fun D hD => ?_⟩
    have km : Kept w.m B σ := by
      obtain ⟨_, _, _, _, _, _, k⟩ := ok
      exact k
    have hv : ∀ i ∈ [j], w.m[i]? ≠ some true := fun i h => by
      simp at h
      subst h
      exact hm
    have ok2 : Ok K w.m B (L2.wipe σ [j]) (upd H D (.lst [])) (wipeR (ρ.set i none) [j]) (.ref a :: .ref D :: ws) (.lst xs :: .lst [] :: ts) := (Ok.newOwn (vs := []) (us := []) rfl ok1 hD).swap.wipe hv
    refine ⟨fun i n H => n = xs.length - i ∧ ∃ done rest acc ρ, done.length = i ∧ done.length + rest.length = xs.length ∧ Ok K w.m B (L2.wipe σ [j]) H ρ (.ref a :: .ref D :: ws) (.lst (done ++ rest) :: .lst acc :: ts) ∧ lcGoE j fe done rest acc ρ = .ok rr ρe,
      ⟨xs.length, rfl, [], xs, [], _, rfl, by simp, ok2, ee⟩, ?_⟩
    rintro n m H3 ⟨rfl, done, rest, acc, ρ3, rfl, hlen, ok3, e3⟩
    cases rest with
    | nil =>
      rw [List.append_nil] at ok3
      have e3 : R.ok (done, acc) ρ3 = R.ok rr ρe := e3
      cases e3
      refine .inl ⟨?_, ?_⟩
      · obtain ⟨b, us, hb, hH, hL⟩ := ok3.ownList
        cases hb
        exact ⟨us, SqL.of hH, by rw [hL]; exact Nat.le_refl _⟩
      · have ok4 := (ok3.unwipe km).back (i := i) ev
        exact (show ∀ x H', Ok K w.m B σ H' (ρe.set i (some (.lst done))) (x :: ws) (.lst acc :: ts) → Q x H' from pe) _ _ ok4
    | cons t rest =>
      obtain ⟨us, v, ha3, hv3, hL, ok4⟩ := ok3.lend (get_app done t rest)
      rw [set_app] at ok4
      refine .inr ⟨⟨us, v, SqL.of ha3, hv3⟩, fun H => ∃ done' acc ρ, done'.length = done.length + 1 ∧ done'.length + rest.length = xs.length ∧ Ok K w.m B (L2.wipe σ [j]) H ρ (.ref a :: .ref D :: ws) (.lst (done' ++ rest) :: .lst acc :: ts) ∧ lcGoE j fe done' rest acc ρ = .ok rr ρe,
        fun H' ⟨done', acc, ρ, h1, h2, h3, h4⟩ => ⟨xs.length - (done.length + 1), by simp at hlen; omega, rfl, done', rest, acc, ρ, h1, h2, h3, h4⟩, ?_⟩
      rintro z H' ⟨rfl, yz⟩
      have ez := yz us (SqL.of ha3)
      rw [hv3] at ez
      cases ez
      have so : SameOut [j] (L2.wipe σ [j]) ((L2.wipe σ [j]).set j (some v)) := ⟨by rw [List.length_set], fun q hq => List.getElem?_set_ne (fun e => hq (by rw [← e]; exact List.mem_singleton_self _))⟩
      refine ⟨wipe_same so (fun _ h => h), ?_⟩
      have ok5 := ok4.store hm
      obtain ⟨B', ok6, back⟩ := ok5.shell
      have e4 : mbind fe (fun r => mbind (dtake j) fun t' => mbind (mwipe [j]) fun _ => if acc.length < lim then lcGoE j fe (done ++ [t']) rest (acc ++ [r]) else mno) (ρ3.set j (some t)) = .ok rr ρe := e3
      obtain ⟨r, ρ5, ef, e5⟩ := mbind_ok e4
      obtain ⟨t', ρ6, eg, e6⟩ := mbind_ok e5
      obtain ⟨eg2, rfl⟩ := dtake_ok eg
      obtain ⟨u7, ρ7, ew, e7⟩ := mbind_ok e6
      cases ew
      dsimp only [tYes]
      rw [if_pos rfl]
      refine de B' _ _ _ [] [] _ ok6 (PostG.ok ef fun y H5 ok7 => ?_)
      by_cases hz : acc.length < lim
      · rw [if_pos hz] at e7
        obtain ⟨v', ev', ok8⟩ := ok7.take eg2
        have hjl : j < (L2.wipe σ [j]).length := by
          rcases Nat.lt_or_ge j (L2.wipe σ [j]).length with z | z
          · exact z
          · rw [List.set_eq_of_length_le z] at ev'
            rw [List.getElem?_eq_none z] at ev'
            cases ev'
        rw [List.getElem?_set_self hjl] at ev'
        cases ev'
        obtain ⟨hH5, ok9⟩ := back ok8.swap
        have ok10 : Ok K w.m B _ H5 _ (v :: .ref a :: y :: .ref D :: ws) (t' :: .lst (done ++ .hole :: rest) :: r :: .lst acc :: ts) := Ok.perm4 (vs := [v, .ref a]) (us := [t', .lst (done ++ .hole :: rest)]) rfl ok9
        have ok11 := Ok.give (i := done.length) (vs := us) ok10 (by rw [hH5]; exact ha3) hv3 (get_app done .hole rest)
        rw [set_app] at ok11
        have ok12 : Ok K w.m B _ H5 _ (y :: .ref D :: .ref a :: ws) (r :: .lst acc :: .lst (done ++ t' :: rest) :: ts) := Ok.perm4 (vs := [y, .ref D]) (us := [r, .lst acc]) rfl ok11
        obtain ⟨ys, g1, g2, ok13⟩ := ok12.grow
        refine ⟨ys, g1, by rw [g2]; exact lim_lt hz, done ++ [t'], acc ++ [r], _, by simp, by simp at hlen ⊢; omega, ?_, e7⟩
        have ok14 := ok13.swap.wipe hv
        rw [wipe_same so (fun _ h => h)] at ok14
        rw [List.append_assoc]
        exact ok14
      · rw [if_neg hz] at e7
        cases e7
theorem de_lcE (i j : Nat) {scope : Scope} (at_ : At X w k) (hN : X.N.Nodup) (ok : blkC X.N X.env.scope scope [(y, j)] = true) (hg : ∀ b : Blk, PG (b.x X scope) (.Name y npos) (gName j)) (he : ∀ b : Blk, At (b.x X scope) w.nx k → DE (b.x X scope) w.nx elt fe)
    (hij : i ≠ j := by decide) (hm : NotM w j := by intro h; cases h) (hi : X.N[i]? = some x := by rfl) (hv : Vis X.env.scope x := by first | exact Or.inl rfl | exact Or.inr (Or.inl rfl) | exact Or.inr (Or.inr rfl)) (hd : (x == ("__debug__" : Str)) = false := by decide)
    (hcd : (x == ("__classdict__" : Str)) = false := by decide) (hs : ∀ z, foldedSetIterable (.Name x pos') X.env z = pure z := by intro _; rfl) :
    DE X w (.ListComp elt [⟨.Name y npos, .Name x pos', [], 0⟩] scope pos) (dlcE i j fe) := by
  obtain ⟨tE, pe, de⟩ := all_pe (Y := fun b : Blk => b.x X scope) (K := X.K) (fun _ => rfl) fun b => he b at_.blk
  exact de_v (pe_lc at_.ca hN (pi_list (pe_var hi hv hd hcd)) (blkOk_by ok) (fun s H C cl fp => hg ⟨s, H, C, cl, fp⟩) (fun s H C cl fp => pts_nil) (fun s H C cl fp => pe ⟨s, H, C, cl, fp⟩) hs) (den_lcE hij hm (de ⟨X.s_0, X.H_0, 0, [], []⟩))
theorem ds_setLcE (n i j : Nat) {scope : Scope} {z : Str} {py spos : Pos} (at_ : At X w k) (hN : X.N.Nodup) (ok : blkC X.N X.env.scope scope [(y, j)] = true) (hg : ∀ b : Blk, PG (b.x X scope) (.Name y npos) (gName j)) (he : ∀ b : Blk, At (b.x X scope) w.nx k → DE (b.x X scope) w.nx elt fe)
    (hsw : swapsWith (.ListComp elt [⟨.Name y npos, .Name x pos', [], 0⟩] scope pos) (some (.Name z py)) spos.line X.env = pure true)
    (hij : i ≠ j := by decide) (hm : NotM w j := by intro h; cases h) (hi : X.N[i]? = some x := by rfl) (hv : Vis X.env.scope x := by first | exact Or.inl rfl | exact Or.inr (Or.inl rfl) | exact Or.inr (Or.inr rfl)) (hd : (x == ("__debug__" : Str)) = false := by decide)
    (hcd : (x == ("__classdict__" : Str)) = false := by decide) (hs : ∀ z, foldedSetIterable (.Name x pos') X.env z = pure z := by intro _; rfl)
    (hmn : NotM w n := by intro h; cases h) (hz : X.N[n]? = some z := by rfl) (hzl : X.env.scope.names.lookup z = some .local := by rfl) :
    DS X w (.Assign [.Name z py] (.ListComp elt [⟨.Name y npos, .Name x pos', [], 0⟩] scope pos) spos) (sset n (dthaw (dlcE i j fe))) := by
  obtain ⟨tE, pe, de⟩ := all_pe (Y := fun b : Blk => b.x X scope) (K := X.K) (fun _ => rfl) fun b => he b at_.blk
  refine ⟨_, ps_setLc at_.ca hN hz hzl hsw (pi_list (pe_var hi hv hd hcd)) (blkOk_by ok) (fun s H C cl fp => hg ⟨s, H, C, cl, fp⟩) (fun s H C cl fp => pts_nil) (fun s H C cl fp => pe ⟨s, H, C, cl, fp⟩) hs, fun B σ H ρ ws ts D ok q => ?_⟩
  refine den_lcE hij hm (de ⟨X.s_0, X.H_0, 0, [], []⟩) B σ H ρ ws ts _ ok ((PostG.bind q.bind).mono fun v ρ1 p1 x H1 ok1 => ?_)
  cases e : toD v with
  | none => rw [e] at p1; exact p1.elim
  | some y => rw [e] at p1; exact p1 _ H1 ((ok1.freeze e).store hmn)
end
end DL
end
section
set_option Elab.async false
set_option linter.all false
set_option maxRecDepth 100000
set_option maxHeartbeats 4000000
/-! DMD: places with an index that stands in a slot: read, written, called on. -/
namespace DL
open PySem L2 PySem.Spec PyProof.Rows

inductive PStep | fld (f : Str) | idx (k : Int) | var (j : Nat)
def resS (ρ : Rho) : PStep → Option Step
  | .fld f => some (.fld f)
  | .idx k => some (.idx k)
  | .var j => match ρ[j]? with
    | some (some (.d (.int k))) => some (.idx k)
    | _ => none
def res (ρ : Rho) : List PStep → Option (List Step)
  | [] => some []
  | p :: ps => match resS ρ p, res ρ ps with
    | some s, some r => some (s :: r)
    | _, _ => none
section
variable {K : PySem.W.Frag} {m : List Bool} {B : Bs} {σ : L2.St} {H : Hp} {ρ : Rho} {ws zs0 : List V} {ts us0 : List T} {ns : List Str} {i : Nat} {t0 t1 : T} {rp : List Step}
theorem Sit.cut {I : Hp} {F G : List Addr} {z : L2.St} (s : Sit B I H (F ++ G)) : Sit ⟨I, H, F, z⟩ I H F :=
  ⟨s.sub, Same.refl _, fun a o _ z => z, fun a o z => .inl z, fun a z => .inl z, fun a z => s.own a (List.mem_append_left _ z), fun a z => s.thr a (List.mem_append_left _ z), (List.nodup_append.mp s.nd).1⟩
/-- the thing at a place by itself, with some of what is pending -/
theorem Ok.focus (h : Ok K m B σ H ρ (zs0 ++ ws) (us0 ++ ts)) (hl : zs0.length = us0.length) (e0 : ρ[i]? = some (some t0)) (hn : nsOk ns rp t0 = true) (e1 : tGet rp t0 = some t1) :
    ∃ v v' B2, σ[i]? = some (some v) ∧ VPath K ns H rp v v' ∧ Ok K m B2 σ H (ρ.set i none) (v' :: zs0) (t1 :: us0) ∧
      ∀ {H' : Hp} {ρ' : Rho} {t2 : T} {zs : List V} {us : List T}, Ok K m B2 σ H' ρ' (v' :: zs) (t2 :: us) → Ok K m B σ H' (ρ'.set i (some (tSet rp t2 t0))) (zs ++ ws) (us ++ ts) := by
  obtain ⟨I, Fr, Fw, s, hr, hw, km⟩ := h
  obtain ⟨Fz, Fe, rfl, hz, he⟩ := RepTs.split hl hw
  obtain ⟨v, G, R0, hσ, rt, hr0, pm0⟩ := hr.take e0
  obtain ⟨v', G1, R1, vp, r1, pm1, back⟩ := path_focus (ns := ns) s.sub rt hn e1
  have S : Sit B I H ((R0 ++ (G1 ++ Fz)) ++ (R1 ++ Fe)) := s.perm (by
    have p1 : List.Perm (Fr ++ (Fz ++ Fe)) ((R0 ++ G) ++ (Fz ++ Fe)) := List.Perm.append_right _ pm0.symm
    have p2 : List.Perm ((R0 ++ G) ++ (Fz ++ Fe)) ((R0 ++ (G1 ++ R1)) ++ (Fz ++ Fe)) := List.Perm.append_right _ (List.Perm.append_left _ pm1.symm)
    refine p1.trans (p2.trans ?_)
    simp only [List.append_assoc]
    refine List.Perm.append_left _ (List.Perm.append_left _ ?_)
    rw [← List.append_assoc, ← List.append_assoc]
    exact List.Perm.append_right _ List.perm_append_comm)
  refine ⟨v, v', ⟨I, H, R0 ++ (G1 ++ Fz), B.s⟩, hσ, vp, ⟨I, R0, G1 ++ Fz, S.cut, hr0, .cons r1 hz, km⟩, fun {H' ρ' t2 zs us} q => ?_⟩
  obtain ⟨I3, F3, F4, s3, hr3, hw3, km3⟩ := q
  obtain ⟨S3, st3, sm3⟩ := S.join s3
  cases hw3 with
  | cons pc pd =>
    rename_i Fx Fy
    obtain ⟨F5, k1, k2⟩ := back I3 H' t2 Fx sm3 (fun a m => st3 a (List.mem_append_left _ m)) pc
    have hw' : RepTs K I3 H' ws ts Fe := he.mono sm3 fun a m => st3 a (List.mem_append_right _ m)
    obtain ⟨E, hE, rfl⟩ := RepTs.append pd hw'
    have okF : Ok K m B σ H' ρ' (v :: (zs ++ ws)) (tSet rp t2 t0 :: (us ++ ts)) := by
      refine ⟨I3, F3, F5 ++ (Fy ++ Fe), S3.perm ?_, hr3, .cons k1 hE, km3⟩
      rw [List.append_assoc]
      refine List.Perm.append_left _ ?_
      have p1 : List.Perm (F5 ++ (Fy ++ Fe)) ((Fx ++ R1) ++ (Fy ++ Fe)) := List.Perm.append_right _ k2
      refine List.Perm.trans ?_ p1.symm
      simp only [List.append_assoc]
      refine List.Perm.append_left _ ?_
      rw [← List.append_assoc, ← List.append_assoc]
      exact List.Perm.append_right _ List.perm_append_comm
    exact okF.back hσ
theorem tPutS_same {s : Step} {t u : T} (h : tStep s t = some u) : tPutS s u t = t := by
  unfold tStep at h
  split at h
  · rename_i f n fs
    show T.ins n (putT f u fs) = _
    congr 1
    induction fs with
    | nil => cases h
    | cons q fs ih =>
      obtain ⟨g, x⟩ := q
      rw [lookup_any] at h
      by_cases z : f = g
      · rw [if_pos z] at h
        cases h
        simp [putT, z]
      · rw [if_neg z] at h
        simp only [putT, if_neg (Ne.symm z)]
        rw [ih h]
  · rename_i k xs
    unfold atI at h
    cases p : ixN xs.length k with
    | none => rw [p] at h; cases h
    | some j =>
      rw [p] at h
      obtain ⟨hj, e⟩ := List.getElem?_eq_some_iff.mp (show xs[j]? = some u from h)
      have e2 : (match ixN xs.length k with
        | some j => xs.set j u
        | none => xs) = xs := by
        rw [p, ← e]
        exact List.set_getElem_self hj
      exact congrArg T.lst e2
  · rename_i k xs
    unfold atI at h
    cases p : ixN xs.length k with
    | none => rw [p] at h; cases h
    | some j =>
      rw [p] at h
      obtain ⟨hj, e⟩ := List.getElem?_eq_some_iff.mp (show xs[j]? = some u from h)
      have e2 : (match ixN xs.length k with
        | some j => xs.set j u
        | none => xs) = xs := by
        rw [p, ← e]
        exact List.set_getElem_self hj
      exact congrArg T.tup e2
  · cases h
theorem tSet_same : ∀ {rp : List Step} {t u : T}, tGet rp t = some u → tSet rp u t = t
  | [], t, u, h => by
    cases h
    rfl
  | s :: rp, t, u, h => by
    unfold tGet at h
    cases e : tGet rp t with
    | none => rw [e] at h; cases h
    | some x =>
      rw [e, Option.bind_some] at h
      simp only [tSet, e]
      rw [tPutS_same h]
      exact tSet_same e
theorem set_back {ρ : Rho} {i : Nat} {o : Option T} (e : ρ[i]? = some o) : (ρ.set i none).set i o = ρ := by
  rw [List.set_set]
  obtain ⟨hj, e⟩ := List.getElem?_eq_some_iff.mp e
  rw [← e]
  exact List.set_getElem_self hj
end

/-- an expression that names a place: slot i, the steps (the last one first) -/
structure DPv (X : Cx) (ns : List Str) (e : Expr) (i : Nat) (pp : List PStep) : Prop where
  ex : ∃ t, PE X e t ∧ ∀ (m : List Bool) (B : Bs) (σ : L2.St) (H : Hp) (ρ : Rho) (ws : List V) (ts : List T) (v v' : V) (rp : List Step) (Q : VK), Ok X.K m B σ H ρ ws ts → res ρ pp = some rp → σ[i]? = some (some v) → VPath X.K ns H rp v v' → Q v' H → t σ H Q
theorem pe_sub {X : Cx} {e : Expr} {t t' : TE} (h : PE X e t) (k : ∀ σ H Q, t' σ H Q → t σ H Q) : PE X e t' := ⟨fun pins s σ H Q I q => h.run pins s σ H Q I (k σ H Q q)⟩
theorem pe_negc {X : Cx} {i : Int} {j : Nat} {p p' : Pos} : PE X (.UnaryOp .USub (.Constant (.int i) j p) p') (tC (.int (-i))) := pe_sub (pe_un un_neg pe_int) fun σ H Q q => ⟨_, rfl, q⟩
section
variable {X : Cx} {w : Wd} {e : Expr} {i j : Nat} {pp : List PStep} {ns : List Str} {x y f : Str} {pos pos' : Pos}
theorem dpv_var (i : Nat) (hN : X.N[i]? = some x := by rfl) (hv : Vis X.env.scope x := by first | exact Or.inl rfl | exact Or.inr (Or.inl rfl) | exact Or.inr (Or.inr rfl)) (hd : (x == ("__debug__" : Str)) = false := by decide)
    (hcd : (x == ("__classdict__" : Str)) = false := by decide) : DPv X ns (.Name x pos) i [] := ⟨_, pe_var hN hv hd hcd, fun m B σ H ρ ws ts v v' rp Q _ hr h p q => by
  cases hr
  cases p
  exact ⟨v, h, q⟩⟩
theorem res_cons {ρ : Rho} {p : PStep} {pp : List PStep} {rp : List Step} (h : res ρ (p :: pp) = some rp) : ∃ s r, resS ρ p = some s ∧ res ρ pp = some r ∧ rp = s :: r := by
  unfold res at h
  split at h
  · rename_i s r e1 e2
    cases h
    exact ⟨s, r, e1, e2, rfl⟩
  · cases h
theorem dpv_fld (h : ∀ n ∈ ns, ClsF X.K n f) (r : DPv X ns e i pp) (hb : attributeBase e f X.env (eval e X.env) = eval e X.env := by rfl) : DPv X ns (.Attribute e f pos) i (.fld f :: pp) := by
  obtain ⟨t, pt, ht⟩ := r.ex
  refine ⟨_, pe_fld pt hb, fun m B σ H ρ ws ts v v' rp Q ok hr hσ p q => ?_⟩
  obtain ⟨s, r, e1, e2, rfl⟩ := res_cons hr
  cases e1
  obtain ⟨u, p1, p2⟩ := p
  cases p2 with
  | fld hn hC ha hl =>
    obtain ⟨C', k1, cl, no⟩ := (h _ hn).ex
    rw [hC] at k1
    cases k1
    exact ht m B σ H ρ ws ts v _ _ _ ok e2 hσ p1 ⟨_, _, _, _, _, rfl, ha, cl, no, hl, q⟩
theorem dpv_idx {k : Int} {b : Expr} (r : DPv X ns e i pp) (hb : PE X b (tC (.int k))) (hs : PlainIx b := by exact fun _ _ => rfl) : DPv X ns (.Subscript e b pos) i (.idx k :: pp) := by
  obtain ⟨t, pt, ht⟩ := r.ex
  refine ⟨_, pe_ix ix_seq pt hb hs, fun m B σ H ρ ws ts v v' rp Q ok hr hσ p q => ?_⟩
  obtain ⟨s, r, e1, e2, rfl⟩ := res_cons hr
  cases e1
  obtain ⟨u, p1, p2⟩ := p
  cases p2 with
  | idx ha hl => exact ht m B σ H ρ ws ts v _ _ _ ok e2 hσ p1 (.inl ⟨_, _, k, v', rfl, rfl, SqL.of ha, hl, q⟩)
  | tix ha hl => exact ht m B σ H ρ ws ts v _ _ _ ok e2 hσ p1 (.inr (.inl ⟨_, _, k, v', rfl, rfl, ha, hl, q⟩))
theorem resS_var {ρ : Rho} {j : Nat} {s : Step} (h : resS ρ (.var j) = some s) : ∃ k, ρ[j]? = some (some (.d (.int k))) ∧ s = .idx k := by
  have h : (match ρ[j]? with
    | some (some (.d (.int k))) => some (Step.idx k)
    | _ => none) = some s := h
  split at h
  · rename_i k e
    cases h
    exact ⟨k, e, rfl⟩
  · cases h
theorem dpv_ivar (j : Nat) {b : Pos} (r : DPv X ns e i pp) (hN : X.N[j]? = some y := by rfl) (hv : Vis X.env.scope y := by first | exact Or.inl rfl | exact Or.inr (Or.inl rfl) | exact Or.inr (Or.inr rfl)) (hd : (y == ("__debug__" : Str)) = false := by decide)
    (hcd : (y == ("__classdict__" : Str)) = false := by decide) : DPv X ns (.Subscript e (.Name y b) pos) i (.var j :: pp) := by
  obtain ⟨t, pt, ht⟩ := r.ex
  refine ⟨_, pe_ix ix_seq pt (pe_var hN hv hd hcd) (fun _ _ => rfl), fun m B σ H ρ ws ts v v' rp Q ok hr hσ p q => ?_⟩
  obtain ⟨s, r, e1, e2, rfl⟩ := res_cons hr
  obtain ⟨k, ek, rfl⟩ := resS_var e1
  obtain ⟨z, hz, okz⟩ := ok.read ek
  have ez := okz.topInt
  subst ez
  obtain ⟨u, p1, p2⟩ := p
  cases p2 with
  | idx ha hl => exact ht m B σ H ρ ws ts v _ _ _ ok e2 hσ p1 ⟨_, hz, .inl ⟨_, _, k, v', rfl, rfl, SqL.of ha, hl, q⟩⟩
  | tix ha hl => exact ht m B σ H ρ ws ts v _ _ _ ok e2 hσ p1 ⟨_, hz, .inr (.inl ⟨_, _, k, v', rfl, rfl, ha, hl, q⟩)⟩
end

/-! ### what stands at a place, where it is data -/
def dgetP (ns : List Str) (i : Nat) (pp : List PStep) : M T := fun ρ => match ρ[i]?, res ρ pp with
  | some (some t0), some rp => (match tGet rp t0 with
    | some (.d x) => if nsOk ns rp t0 = true then .ok (.d x) ρ else .no
    | _ => .no)
  | _, _ => .no
/-! ### PLACE.m(..) -/
def dmethV (n : String) (ns : List Str) (i : Nat) (pp : List PStep) (g : T → List T → Option (T × T)) (fs : M (List T)) : M T := fun ρ => match ρ[i]?, res ρ pp with
  | some (some t0), some rp => (match tGet rp t0 with
    | some t1 => if tyT t1 = some n ∧ nsOk ns rp t0 = true then (match fs (ρ.set i none) with
      | .ok us ρ1 => (match g t1 us with
        | some (t2, v) => .ok v (ρ1.set i (some (tSet rp t2 t0)))
        | none => .no)
      | _ => .no) else .no
    | none => .no)
  | _, _ => .no
/-! ### PLACE[k] = e -/
def gputV (ns : List Str) (i : Nat) (pp : List PStep) (p : PStep) (v : T) : M Unit := fun ρ => match ρ[i]?, res ρ pp, resS ρ p with
  | some (some t0), some rp, some (.idx k) => (match tGet rp t0 with
    | some (.lst xs) => if nsOk ns rp t0 = true then (match ixN xs.length k with
      | some j => .ok () (ρ.set i (some (tSet rp (.lst (xs.set j v)) t0)))
      | none => .no) else .no
    | _ => .no)
  | _, _, _ => .no
section
variable {X : Cx} {w : Wd} {n id : String} {name : Str} {r : V → List V → Hp → VK → Prop} {g : T → List T → Option (T × T)} {fs : M (List T)} {os : List (Option Nat)} {o e b : Expr} {es : List Expr} {apos cpos pos : Pos} {i : Nat} {pp : List PStep} {p : PStep} {ns : List Str}
theorem de_getP (pl : DPv X ns o i pp) : DE X w o (dgetP ns i pp) := by
  obtain ⟨to, po, hto⟩ := pl.ex
  refine de_v po fun B σ H ρ ws ts Q ok q => ?_
  unfold dgetP at q
  split at q
  · rename_i t0 rp e0 er
    split at q
    · rename_i x e1
      by_cases hn : nsOk ns rp t0 = true
      · rw [if_pos hn] at q
        obtain ⟨v, v', B2, hσ, vp, ok2, back⟩ := Ok.focus (zs0 := []) (us0 := []) ok rfl e0 hn e1
        have ok3 := back ok2.dup
        rw [tSet_same e1, set_back e0] at ok3
        exact hto w.m B σ H ρ ws ts v v' rp Q ok er hσ vp (q v' H ok3)
      · rw [if_neg hn] at q
        exact q.elim
    · exact q.elim
  · exact q.elim
theorem de_methV (pl : DPv X ns o i pp) (pa : PlainAttrs n) (slot : Slot n name id) (hty : typeOf (.builtin id) = pure (.type "method_descriptor")) (hm : MtR X id r) (hg : OwnM X.K w.m r g) (ha : DA X w (e :: es) os fs)
    (hbase : attributeBase o name X.env (eval o X.env) = eval o X.env := by rfl)
    (hfew : ((backTo cpos (starEach (e :: es) X.env)).all (fun x => !x.1) && (backToKw cpos (keywordEach [] X.env)).all (fun x => x.1.isSome)
      && decide ((e :: es).length + ([] : List Keyword).length + (if ([] : List Keyword).isEmpty then 0 else 1) < 30)) = true := by rfl)
    (hline : (apos.endLine == cpos.line) = true := by rfl) (hs : starEach (e :: es) X.env = (false, eval e X.env) :: starEach es X.env := by rfl) (hplain : (backTo cpos (starEach es X.env)).any (·.1) = false := by rfl) :
    DE X w (.Call (.Attribute o name apos) (e :: es) [] cpos) (dmethV n ns i pp g fs) := by
  obtain ⟨to, po, hto⟩ := pl.ex
  obtain ⟨t, pt, dt⟩ := ha.ex
  refine de_v (pe_bm pa slot hty hm po pt hbase hfew hline hs hplain) fun B σ H ρ ws ts Q ok q => ?_
  unfold dmethV at q
  split at q
  · rename_i t0 rp e0 er
    split at q
    · rename_i t1 e1
      by_cases hz : tyT t1 = some n ∧ nsOk ns rp t0 = true
      · rw [if_pos hz] at q
        obtain ⟨v, v', B2, hσ, vp, ok2, back⟩ := Ok.focus (zs0 := []) (us0 := []) ok rfl e0 hz.2 e1
        refine hto w.m B σ H ρ ws ts v v' rp _ ok er hσ vp ⟨ok2.tyV hz.1, ?_⟩
        refine dt B2 σ H (ρ.set i none) [v'] [t1] _ ok2 ?_
        cases e2 : fs (ρ.set i none) with
        | no => rw [e2] at q; exact q.elim
        | ex er ρ1 => rw [e2] at q; exact q.elim
        | ok us ρ1 =>
          rw [e2] at q
          simp only at q
          intro xs H1 hl ok3 _
          cases e3 : g t1 us with
          | none => rw [e3] at q; exact q.elim
          | some tv =>
            obtain ⟨t2, z0⟩ := tv
            rw [e3] at q
            have q : ∀ x H', Ok X.K w.m B σ H' (ρ1.set i (some (tSet rp t2 t0))) (x :: ws) (z0 :: ts) → Q x H' := q
            exact hg B2 σ H1 ρ1 [] [] v' xs t1 us t2 z0 Q hl ok3 e3 fun z H' ok4 => q z H' (back ok4.swap)
      · rw [if_neg hz] at q
        exact q.elim
    · exact q.elim
  · exact q.elim
/-- the last index of a place -/
structure DPi (X : Cx) (e : Expr) (p : PStep) : Prop where
  ex : ∃ t, PE X e t ∧ ∀ (m : List Bool) (B : Bs) (σ : L2.St) (H H' : Hp) (ρ : Rho) (ws : List V) (ts : List T) (k : Int) (Q : VK), Ok X.K m B σ H ρ ws ts → resS ρ p = some (.idx k) → Q (.int k) H' → t σ H' Q
theorem dpi_c {k : Int} (hb : PE X b (tC (.int k))) : DPi X b (.idx k) := ⟨_, hb, fun m B σ H H' ρ ws ts k' Q ok e q => by cases e; exact q⟩
theorem dpi_v (j : Nat) {y : Str} (hN : X.N[j]? = some y := by rfl) (hv : Vis X.env.scope y := by first | exact Or.inl rfl | exact Or.inr (Or.inl rfl) | exact Or.inr (Or.inr rfl)) (hd : (y == ("__debug__" : Str)) = false := by decide)
    (hcd : (y == ("__classdict__" : Str)) = false := by decide) : DPi X (.Name y pos) (.var j) := ⟨_, pe_var hN hv hd hcd, fun m B σ H H' ρ ws ts k' Q ok e q => by
  obtain ⟨k, ek, e2⟩ := resS_var e
  cases e2
  obtain ⟨z, hz, okz⟩ := ok.read ek
  have ez := okz.topInt
  subst ez
  exact ⟨_, hz, q⟩⟩
theorem dg_putV (pl : DPv X ns o i pp) (pi : DPi X b p)
    (ha : ∀ v, assign (.Subscript o b pos) X.env v = (do
      let ov ← holding [v] (eval o X.env)
      let iv ← holding [v, ov] (eval b X.env)
      standAt pos
      holding [v, ov, iv] (setItem ov iv v)
      release [v, ov, iv] []) := by intro _; rfl) : DG X w (.Subscript o b pos) [] (gputV ns i pp p) := by
  obtain ⟨to, po, hto⟩ := pl.ex
  obtain ⟨tb, pb, htb⟩ := pi.ex
  refine ⟨_, pg_sub po pb set_list ha, fun B σ H ρ ws ts y v Q ok q => ?_⟩
  unfold gputV at q
  split at q
  · rename_i t0 rp k e0 er ek
    split at q
    · rename_i xs e1
      by_cases hn : nsOk ns rp t0 = true
      · rw [if_pos hn] at q
        cases e2 : ixN xs.length k with
        | none => rw [e2] at q; exact q.elim
        | some j =>
          rw [e2] at q
          obtain ⟨z, v', B2, hσ, vp, ok2, back⟩ := Ok.focus (zs0 := [y]) (us0 := [v]) ok rfl e0 hn e1
          obtain ⟨a, vs, rfl, ha, hl, ok3⟩ := ok2.putAt
          refine hto w.m B σ H ρ _ _ z (.ref a) rp _ ok er hσ vp ?_
          refine htb w.m B σ H H ρ _ _ k _ ok ek ?_
          refine ⟨a, vs, k, j, rfl, rfl, ha, by rw [hl]; exact e2, ?_⟩
          have ok4 := back (ok3 j)
          rw [List.set_set] at ok4
          exact (show ∀ σ' H', SameOut [] σ σ' → Ok X.K w.m B σ' H' (ρ.set i (some (tSet rp (.lst (xs.set j v)) t0))) ws ts → Q σ' H' from q) σ _ ⟨rfl, fun _ _ => rfl⟩ ok4
      · rw [if_neg hn] at q
        exact q.elim
    · exact q.elim
  · exact q.elim
end

/-! ### a look at own things in a test -/
def dpeekT (is : List Nat) (fe : M Bool) : M Bool := fun ρ => match fe (seen is 0 ρ) with
  | .ok b _ => .ok b ρ
  | _ => .no
theorem dt_peek {X : Cx} {w : Wd} {e : Expr} {fe : M Bool} (is : List Nat) (h : DT X w.nx e fe) : DT X w e (dpeekT is fe) := by
  obtain ⟨t, pt, dt⟩ := h.ex
  refine ⟨t, pt, fun B σ H ρ ws ts Q ok q => ?_⟩
  obtain ⟨B', ok', back⟩ := ok.look is
  refine dt B' σ H _ [] [] Q ok' ?_
  unfold dpeekT at q
  cases e1 : fe (seen is 0 ρ) with
  | no => rw [e1] at q; exact q.elim
  | ex er ρ1 => rw [e1] at q; exact q.elim
  | ok v ρ1 =>
    rw [e1] at q
    exact fun H' ok2 => q H' (back H' ρ1 .non .none ok2.non rfl).pop
end DL
end
section
set_option Elab.async false
set_option linter.all false
set_option maxRecDepth 100000
set_option maxHeartbeats 4000000
/-! DME: comprehensions of two loops and of two tests; order of data; the parts of an own tuple in a list. -/
namespace DL
open PySem L2 PySem.Spec PyProof.Rows
open PySem.W (alike dataLt)

/-! ### two tests -/
def tTwo (t1 t2 : TT) : TT := fun σ H Q => t1 σ H fun b H1 => if b = true then t2 σ H1 Q else Q false H1
theorem pts_two {X : Cx} {c d : Expr} {t1 t2 : TT} (h1 : PT X c t1) (h2 : PT X d t2) : PTs X [c, d] (tTwo t1 t2) := ⟨fun pins s σ H Q I hw => by
  simp only [List.forIn_cons, List.forIn_nil, if_true]
  refine wpAny_bind (wpAny_bind (wpAny_mono (h1.run pins s σ H _ I hw) (fun b s1 hb => ?_) fun _ _ x => x))
  obtain ⟨H1, I1, q1⟩ := hb
  refine wpAny_pure ?_
  cases b with
  | true =>
    simp only [if_true] at q1 ⊢
    exact wpAny_bind (wpAny_bind (wpAny_mono (h2.run pins s1 σ H1 _ I1 q1) (fun b s2 hb => wpAny_pure (wpAny_pure hb)) fun _ _ x => x))
  | false =>
    simp only [Bool.false_eq_true, if_false] at q1 ⊢
    exact wpAny_bind (wpAny_pure (wpAny_pure ⟨H1, I1, q1⟩))⟩
def dtwo (f g : M Bool) : M Bool := mbind f fun b => if b = true then g else mret false
theorem dts_two {X : Cx} {w : Wd} {c d : Expr} {f g : M Bool} (h1 : DT X w c f) (h2 : DT X w d g) : DTs X w [c, d] (dtwo f g) := by
  obtain ⟨t1, p1, d1⟩ := h1
  obtain ⟨t2, p2, d2⟩ := h2
  refine ⟨_, pts_two p1 p2, fun B σ H ρ ws ts Q ok q => ?_⟩
  refine d1 B σ H ρ ws ts _ ok (q.bind.mono fun b ρ1 p1 H1 ok1 => ?_)
  cases b with
  | true => rw [if_pos rfl] at p1 ⊢; exact d2 B σ H1 ρ1 ws ts Q ok1 p1
  | false => rw [if_neg Bool.false_ne_true] at p1 ⊢; exact p1 _ ok1

/-! ### the order of data -/
def okCmp (d e : PyData) : Bool := d.plain && e.plain && alike d e && !isNon d && decide (min d.depth e.depth ≤ 60)
theorem okCmp_of {d e : PyData} (h : okCmp d e = true) : d.plain = true ∧ e.plain = true ∧ alike d e = true ∧ d ≠ .none ∧ min d.depth e.depth ≤ 60 := by
  unfold okCmp at h
  simp only [Bool.and_eq_true, decide_eq_true_eq, Bool.not_eq_true'] at h
  exact ⟨h.1.1.1.1, h.1.1.1.2, h.1.1.2, fun z => by rw [z] at h; exact absurd h.1.2 (by decide), h.2⟩
def rOrd (K : PySem.W.Frag) (f : PyData → PyData → Bool) : R2 := fun x y H Q => ∃ d e, Dr K H x d ∧ Dr K H y e ∧ okCmp d e = true ∧ Q (.bl (f d e)) H
def pOrd (f : PyData → PyData → Bool) (d e : PyData) : Option PyData := if okCmp d e = true then some (.bool (f d e)) else none
theorem od_ord {K : PySem.W.Frag} {m : List Bool} {f : PyData → PyData → Bool} : OpD K m (rOrd K f) (onD (pOrd f)) := OpD.ofD fun B σ H ρ ws ts x y t u v Q ok e q => by
  obtain ⟨h, e⟩ := reqs e
  subst e
  exact ⟨t, u, ok.pop.topD, ok.topD, h, q _ _ ok.pop.pop.bl⟩
section
variable {X : Cx}
theorem op_ltO (hu : X.A.units + 64 < cLine) : OpR X (compareOp .Lt) (rOrd X.K dataLt) := by
  intro pins s σ H x y v u Q I rx ry ⟨d, e, hd, he, k, q⟩
  obtain ⟨p1, p2, p3, p4, p5⟩ := okCmp_of k
  obtain ⟨as, r1⟩ := Dp.reads I d x v (hd.dp p1) rx
  obtain ⟨bs, r2⟩ := Dp.reads I e y u (he.dp p2) ry
  exact PySem.W.lt_data r1 r2 p3 p4 (by omega) ⟨.bl _, H, I, rfl, q⟩
theorem op_gtO (hu : X.A.units + 64 < cLine) : OpR X (compareOp .Gt) (rOrd X.K fun d e => dataLt e d) := by
  intro pins s σ H x y v u Q I rx ry ⟨d, e, hd, he, k, q⟩
  obtain ⟨p1, p2, p3, p4, p5⟩ := okCmp_of k
  obtain ⟨as, r1⟩ := Dp.reads I d x v (hd.dp p1) rx
  obtain ⟨bs, r2⟩ := Dp.reads I e y u (he.dp p2) ry
  exact PySem.W.gt_data r1 r2 p3 p4 (by omega) ⟨.bl _, H, I, rfl, q⟩
theorem op_leO (hu : X.A.units + 64 < cLine) : OpR X (compareOp .LtE) (rOrd X.K fun d e => !dataLt e d) := by
  intro pins s σ H x y v u Q I rx ry ⟨d, e, hd, he, k, q⟩
  obtain ⟨p1, p2, p3, p4, p5⟩ := okCmp_of k
  obtain ⟨as, r1⟩ := Dp.reads I d x v (hd.dp p1) rx
  obtain ⟨bs, r2⟩ := Dp.reads I e y u (he.dp p2) ry
  exact PySem.W.le_data r1 r2 p3 p4 (by omega) ⟨.bl _, H, I, rfl, q⟩
theorem op_geO (hu : X.A.units + 64 < cLine) : OpR X (compareOp .GtE) (rOrd X.K fun d e => !dataLt d e) := by
  intro pins s σ H x y v u Q I rx ry ⟨d, e, hd, he, k, q⟩
  obtain ⟨p1, p2, p3, p4, p5⟩ := okCmp_of k
  obtain ⟨as, r1⟩ := Dp.reads I d x v (hd.dp p1) rx
  obtain ⟨bs, r2⟩ := Dp.reads I e y u (he.dp p2) ry
  exact PySem.W.ge_data r1 r2 p3 p4 (by omega) ⟨.bl _, H, I, rfl, q⟩
end
theorem OpD.orD {K : PySem.W.Frag} {m : List Bool} {r r' : R2} {g g' : PyData → PyData → Option PyData} (h : OpD K m r (onD g)) (h' : OpD K m r' (onD g')) : OpD K m (fun x y H Q => r x y H Q ∨ r' x y H Q) (onD fun t u => (g t u).or (g' t u)) := OpD.ofD fun B σ H ρ ws ts x y t u v Q ok e q => by
  cases e1 : g t u with
  | some z =>
    rw [e1] at e
    cases e
    exact .inl (h B σ H ρ ws ts x y (.d t) (.d u) (.d v) Q ok (by show (g t u).map T.d = _; rw [e1]; rfl) q)
  | none =>
    rw [e1] at e
    exact .inr (h' B σ H ρ ws ts x y (.d t) (.d u) (.d v) Q ok (by show (g' t u).map T.d = _; rw [show g' t u = some v from e]; rfl) q)
def pLtD (d e : PyData) : Option PyData := (pLt d e).or (pOrd dataLt d e)
def pLeD (d e : PyData) : Option PyData := (pLe2 d e).or (pOrd (fun d e => !dataLt e d) d e)
def pGtD (d e : PyData) : Option PyData := (pGt d e).or (pOrd (fun d e => dataLt e d) d e)
def pGeD (d e : PyData) : Option PyData := (pGe2 d e).or (pOrd (fun d e => !dataLt d e) d e)
section
variable {X : Cx} {K : PySem.W.Frag} {m : List Bool}
theorem op_ltD (hu : X.A.units + 64 < cLine) : OpR X (compareOp .Lt) (fun x y H Q => ((rI0 fun i j => .bl (decide (i < j))) x y H Q ∨ ∃ i j, x = .str i ∧ y = .str j ∧ Q (.bl (decide (i.cps.toList < j.cps.toList))) H) ∨ rOrd X.K dataLt x y H Q) := OpR.or op_lt2 (op_ltO hu)
theorem op_leD (hu : X.A.units + 64 < cLine) : OpR X (compareOp .LtE) (fun x y H Q => rLe2 x y H Q ∨ rOrd X.K (fun d e => !dataLt e d) x y H Q) := OpR.or op_le2 (op_leO hu)
theorem op_gtD (hu : X.A.units + 64 < cLine) : OpR X (compareOp .Gt) (fun x y H Q => (rI0 fun i j => .bl (decide (j < i))) x y H Q ∨ rOrd X.K (fun d e => dataLt e d) x y H Q) := OpR.or op_gt (op_gtO hu)
theorem op_geD (hu : X.A.units + 64 < cLine) : OpR X (compareOp .GtE) (fun x y H Q => rGe2 x y H Q ∨ rOrd X.K (fun d e => !dataLt d e) x y H Q) := OpR.or op_ge2 (op_geO hu)
theorem od_ltD : OpD K m (fun x y H Q => ((rI0 fun i j => .bl (decide (i < j))) x y H Q ∨ ∃ i j, x = .str i ∧ y = .str j ∧ Q (.bl (decide (i.cps.toList < j.cps.toList))) H) ∨ rOrd K dataLt x y H Q) (onD pLtD) := od_lt.orD od_ord
theorem od_leD : OpD K m (fun x y H Q => rLe2 x y H Q ∨ rOrd K (fun d e => !dataLt e d) x y H Q) (onD pLeD) := od_le2.orD od_ord
theorem od_gtD : OpD K m (fun x y H Q => (rI0 fun i j => .bl (decide (j < i))) x y H Q ∨ rOrd K (fun d e => dataLt e d) x y H Q) (onD pGtD) := od_gt.orD od_ord
theorem od_geD : OpD K m (fun x y H Q => rGe2 x y H Q ∨ rOrd K (fun d e => !dataLt d e) x y H Q) (onD pGeD) := od_ge2.orD od_ord
end

/-! ### the parts of an own tuple -/
section
variable {K : PySem.W.Frag} {m : List Bool} {B : Bs} {σ : L2.St} {H : Hp} {ρ : Rho} {ws : List V} {ts : List T}
/-- an object that nobody knows of -/
theorem Ok.junk {o : HO} {p : Addr} (h : Ok K m B σ H ρ ws ts) (hp : H p = none) : Ok K m B σ (upd H p o) ρ ws ts := by
  obtain ⟨I, Fr, Fw, s, r, w, km⟩ := h
  have nf : ∀ a ∈ Fr ++ Fw, (upd H p o) a = H a := fun a z => upd_ne (show a ≠ p from fun y => s.thr a z (by rw [y]; exact hp))
  exact ⟨I, Fr, Fw, (s.newO (o := o) hp).less (fun a z => List.mem_cons_of_mem _ z) s.nd, r.mono (Same.refl _) fun a z => nf a (List.mem_append_left _ z), w.mono (Same.refl _) fun a z => nf a (List.mem_append_right _ z), km⟩
theorem Ok.gather1 {v0 : V} {q p : Addr} {t0 : T} {us : List T} {ys : List V} (h : Ok K m B σ H ρ (v0 :: .ref q :: ws) (t0 :: .lst us :: ts)) (hq : H q = some (.lst ys)) (hp : H p = none) :
    Ok K m B σ (upd H p (.lst (v0 :: ys))) ρ (.ref p :: ws) (.lst (t0 :: us) :: ts) := by
  obtain ⟨I, Fr, Fw, s, r, w, km⟩ := h
  have nf : ∀ a ∈ Fr ++ Fw, (upd H p (.lst (v0 :: ys))) a = H a := fun a z => upd_ne (show a ≠ p from fun y => s.thr a z (by rw [y]; exact hp))
  cases w with
  | cons a b =>
    cases b with
    | cons c d =>
      cases c with
      | lst hb it =>
        rw [hq] at hb
        cases hb
        rename_i F1 F2 F3
        refine ⟨I, Fr, (p :: (F1 ++ F3)) ++ F2, (s.newO (o := .lst (v0 :: ys)) hp).sub' (R := [q]) ?_, r.mono (Same.refl _) fun a z => nf a (List.mem_append_left _ z), .cons (.lst upd_same (.cons (a.mono (Same.refl _) fun a z => nf a (by simp [z])) (it.mono (Same.refl _) fun a z => nf a (by simp [z])))) (d.mono (Same.refl _) fun a z => nf a (by simp [z])), km⟩
        refine List.perm_iff_count.mpr fun a => ?_
        simp only [List.count_append, List.count_cons, List.count_nil]
        omega
theorem Ok.gather2 {v0 : V} {q p : Addr} {t0 : T} {us : List T} {ys : List V} (h : Ok K m B σ H ρ (v0 :: .ref q :: ws) (t0 :: .lst us :: ts)) (hq : H q = some (.lst ys)) (hp : H p = none) :
    Ok K m B σ (upd H p (.lst (v0 :: .ref q :: ys))) ρ (.ref p :: ws) (.lst (t0 :: .opq us.length :: us) :: ts) := by
  obtain ⟨I, Fr, Fw, s, r, w, km⟩ := h
  have nf : ∀ a ∈ Fr ++ Fw, (upd H p (.lst (v0 :: .ref q :: ys))) a = H a := fun a z => upd_ne (show a ≠ p from fun y => s.thr a z (by rw [y]; exact hp))
  cases w with
  | cons a b =>
    cases b with
    | cons c d =>
      cases c with
      | lst hb it =>
        rw [hq] at hb
        cases hb
        rename_i F1 F2 F3
        refine ⟨I, Fr, (p :: (F1 ++ ([q] ++ F3))) ++ F2, (s.newO (o := .lst (v0 :: .ref q :: ys)) hp).perm ?_, r.mono (Same.refl _) fun a z => nf a (List.mem_append_left _ z), .cons (.lst upd_same (.cons (a.mono (Same.refl _) fun a z => nf a (by simp [z])) (.cons (.opq (by rw [nf q (by simp)]; exact hq) it.len) (it.mono (Same.refl _) fun a z => nf a (by simp [z]))))) (d.mono (Same.refl _) fun a z => nf a (by simp [z])), km⟩
        refine List.perm_iff_count.mpr fun a => ?_
        simp only [List.count_append, List.count_cons, List.count_nil]
        omega
end
def dparts1 (i : Nat) : M T := fun ρ => match ρ[i]? with
  | some (some (.tup [t0, .lst us])) => if us.length < lim then .ok (.lst (t0 :: us)) (ρ.set i none) else .no
  | _ => .no
def dparts2 (i : Nat) : M T := fun ρ => match ρ[i]? with
  | some (some (.tup [t0, .lst us])) => if us.length < lim then .ok (.lst (t0 :: .opq us.length :: us)) (ρ.set i none) else .no
  | _ => .no
section
variable {X : Cx} {w : Wd} {x : Str} {p0 p1 p2 p3 p4 p5 p6 p7 p8 pos pos' : Pos} {i : Nat} {j0 j1 j2 : Nat}
theorem atI_two {α : Type} {a b : α} : atI [a, b] 0 = some a ∧ atI [a, b] 1 = some b := ⟨rfl, rfl⟩
theorem lim2 {n : Nat} (h : n < lim) : n + 2 ≤ sizeLine := Nat.le_trans (Nat.add_le_add_right (Nat.le_of_lt h) 2) (by decide)
/-- [x[0]] + x[1] -/
theorem de_parts1 (i : Nat) (hN : X.N[i]? = some x := by rfl) (hv : Vis X.env.scope x := by first | exact Or.inl rfl | exact Or.inr (Or.inl rfl) | exact Or.inr (Or.inr rfl)) (hd : (x == ("__debug__" : Str)) = false := by decide)
    (hcd : (x == ("__classdict__" : Str)) = false := by decide) : DE X w (.BinOp (.List [.Subscript (.Name x p0) (.Constant (.int 0) j0 p1) p2] p3) .Add (.Subscript (.Name x p4) (.Constant (.int 1) j1 p5) p6) pos) (dparts1 i) := by
  refine de_v (pe_op op_cat (pe_lst (pa_cons (pe_ix ix_tup (pe_var hN hv hd hcd) pe_int (fun _ _ => rfl)) pa_nil)) (pe_ix ix_tup (pe_var hN hv hd hcd) pe_int (fun _ _ => rfl))) fun B σ H ρ ws ts Q ok q => ?_
  unfold dparts1 at q
  split at q
  · rename_i t0 us e0
    by_cases hz : us.length < lim
    · rw [if_pos hz] at q
      obtain ⟨v, hσ, ok1⟩ := ok.take e0
      obtain ⟨a, vs, rfl, sq, hl, ok2⟩ := ok1.untup
      match vs, hl with
      | [v0, v1], _ =>
        have ok2 : Ok X.K w.m B σ H (ρ.set i none) (v0 :: v1 :: ws) (t0 :: .lst us :: ts) := ok2
        obtain ⟨b, ys, rfl, hb, hl2⟩ := ok2.swap.ownList
        refine ⟨_, hσ, a, _, 0, v0, rfl, rfl, sq, rfl, show 1 ≤ sizeLine by decide, fun l hl0 => ?_⟩
        have ok3 := ok2.junk (o := .lst [v0]) hl0
        have nb : b ≠ l := ne_of_none hb hl0
        have sq' : SqT X.K (upd H l (.lst [v0])) a [v0, .ref b] := st_mono (fun c u e => by rw [upd_ne (ne_of_none e hl0)]; exact e) sq
        refine ⟨_, hσ, a, _, 1, .ref b, rfl, rfl, sq', rfl, l, b, [v0], ys, rfl, rfl, upd_same, by rw [upd_ne nb]; exact hb, ?_, fun p hp => q _ _ (ok3.gather1 (by rw [upd_ne nb]; exact hb) hp)⟩
        rw [hl2, List.length_singleton]
        have := lim2 hz
        omega
    · rw [if_neg hz] at q
      exact q.elim
  · exact q.elim
/-- [x[0], x[1]] + x[1] -/
theorem de_parts2 (i : Nat) (hN : X.N[i]? = some x := by rfl) (hv : Vis X.env.scope x := by first | exact Or.inl rfl | exact Or.inr (Or.inl rfl) | exact Or.inr (Or.inr rfl)) (hd : (x == ("__debug__" : Str)) = false := by decide)
    (hcd : (x == ("__classdict__" : Str)) = false := by decide) : DE X w (.BinOp (.List [.Subscript (.Name x p0) (.Constant (.int 0) j0 p1) p2, .Subscript (.Name x p7) (.Constant (.int 1) j2 p8) pos'] p3) .Add (.Subscript (.Name x p4) (.Constant (.int 1) j1 p5) p6) pos) (dparts2 i) := by
  refine de_v (pe_op op_cat (pe_lst (pa_cons (pe_ix ix_tup (pe_var hN hv hd hcd) pe_int (fun _ _ => rfl)) (pa_cons (pe_ix ix_tup (pe_var hN hv hd hcd) pe_int (fun _ _ => rfl)) pa_nil))) (pe_ix ix_tup (pe_var hN hv hd hcd) pe_int (fun _ _ => rfl))) fun B σ H ρ ws ts Q ok q => ?_
  unfold dparts2 at q
  split at q
  · rename_i t0 us e0
    by_cases hz : us.length < lim
    · rw [if_pos hz] at q
      obtain ⟨v, hσ, ok1⟩ := ok.take e0
      obtain ⟨a, vs, rfl, sq, hl, ok2⟩ := ok1.untup
      match vs, hl with
      | [v0, v1], _ =>
        have ok2 : Ok X.K w.m B σ H (ρ.set i none) (v0 :: v1 :: ws) (t0 :: .lst us :: ts) := ok2
        obtain ⟨b, ys, rfl, hb, hl2⟩ := ok2.swap.ownList
        refine ⟨_, hσ, a, _, 0, v0, rfl, rfl, sq, rfl, _, hσ, a, _, 1, .ref b, rfl, rfl, sq, rfl, show 2 ≤ sizeLine by decide, fun l hl0 => ?_⟩
        have ok3 := ok2.junk (o := .lst [v0, .ref b]) hl0
        have nb : b ≠ l := ne_of_none hb hl0
        have sq' : SqT X.K (upd H l (.lst [v0, .ref b])) a [v0, .ref b] := st_mono (fun c u e => by rw [upd_ne (ne_of_none e hl0)]; exact e) sq
        refine ⟨_, hσ, a, _, 1, .ref b, rfl, rfl, sq', rfl, l, b, [v0, .ref b], ys, rfl, rfl, upd_same, by rw [upd_ne nb]; exact hb, ?_, fun p hp => q _ _ (ok3.gather2 (by rw [upd_ne nb]; exact hb) hp)⟩
        rw [hl2]
        have := lim2 hz
        show 2 + us.length ≤ sizeLine
        omega
    · rw [if_neg hz] at q
      exact q.elim
  · exact q.elim
end

/-! ### two loops -/
def lc2Go (vs : List Nat) (g : T → M Unit) (tt : M Bool) (fi1 : M (List PyData)) (vs1 : List Nat) (g1 : T → M Unit) (tt1 : M Bool) (fe : M T) : List T → List T → M (List T)
  | [], acc => mret acc
  | d :: ds, acc => mbind (g d) fun _ => mbind tt fun b => if b = true then mbind fi1 fun es => mbind (mwipe vs1) fun _ => mbind (lcGo vs1 g1 tt1 fe (es.map T.d) acc) fun acc' => mbind (mwipe vs) fun _ => lc2Go vs g tt fi1 vs1 g1 tt1 fe ds acc'
    else mbind (mwipe vs) fun _ => lc2Go vs g tt fi1 vs1 g1 tt1 fe ds acc
def dlc2O (fi : M (List PyData)) (vs : List Nat) (g : T → M Unit) (tt : M Bool) (fi1 : M (List PyData)) (vs1 : List Nat) (g1 : T → M Unit) (tt1 : M Bool) (fe : M T) : M T :=
  mbind fi fun ds => mbind (mwipe vs) fun _ => mbind (mnoex (lc2Go vs g tt fi1 vs1 g1 tt1 fe (ds.map T.d) [])) fun acc => mret (.lst acc)
def dlc2 (fi : M (List PyData)) (vs : List Nat) (g : T → M Unit) (tt : M Bool) (fi1 : M (List PyData)) (vs1 : List Nat) (g1 : T → M Unit) (tt1 : M Bool) (fe : M T) : M T := dthaw (dlc2O fi vs g tt fi1 vs1 g1 tt1 fe)

theorem all_pi {ι : Type} {Y : ι → Cx} {tg e : Expr} {K : PySem.W.Frag} {w : Wd} {f : M (List PyData)} (hK : ∀ i, (Y i).K = K) (h : ∀ i, DI (Y i) w tg e f) : ∃ t, (∀ i, PI (Y i) tg e t) ∧ DenI K w t f := by
  have h' : ∀ i, ∃ t, PI (Y i) tg e t ∧ DenI K w t f := fun i => by
    obtain ⟨t, p, d⟩ := (h i).ex
    rw [hK i] at d
    exact ⟨t, p, d⟩
  exact ⟨fun σ H Q => ∀ i, Classical.choose (h' i) σ H Q, fun i => ⟨fun pins s σ H Q I q => (Classical.choose_spec (h' i)).1.run pins s σ H Q I (q i)⟩, fun B σ H ρ ws ts Q ok p i => (Classical.choose_spec (h' i)).2 B σ H ρ ws ts Q ok p⟩
section
variable {X : Cx} {w : Wd} {tg iter tg1 iter1 elt : Expr} {ifs ifs1 : List Expr} {fi fi1 : M (List PyData)} {g g1 : T → M Unit} {tt tt1 : M Bool} {fe : M T} {S S1 : List Nat} {pos : Pos} {k : Nat} {scope : Scope} {own : List (Str × Nat)} {vs1 : List Nat}
theorem mwipe_ok {vs : List Nat} {ρ ρ1 : Rho} {u : Unit} (h : mwipe vs ρ = .ok u ρ1) : ρ1 = wipeR ρ vs := by
  cases h
  rfl
theorem den_lc2 {K : PySem.W.Frag} {wi wi1 : TI} {tG tG1 : TG} {tT tT1 : TT} {tE : TE} {vs : List Nat} (hv : ∀ i ∈ vs, NotM w i) (hv1 : ∀ i ∈ vs1, i ∈ vs) (hS : ∀ i ∈ S, i ∈ vs) (hS1 : ∀ i ∈ S1, i ∈ vs1) (di : DenI K w wi fi) (dg : DenG K w.nx tG S g) (dt : DenT K w.nx tT tt)
    (di1 : DenI K w.nx wi1 fi1) (dg1 : DenG K w.nx tG1 S1 g1) (dt1 : DenT K w.nx tT1 tt1) (de : DenE K w.nx tE fe) : DenE K w (tLc2 wi tG tT wi1 tG1 tT1 tE vs vs1) (dlc2O fi vs g tt fi1 vs1 g1 tt1 fe) := fun B σ H ρ ws ts Q ok q => by
  refine di B σ H ρ ws ts _ ok (q.bind.mono fun ds ρ1 p1 J H1 ws1 ts1 hl ok1 jw D hD => ?_)
  have p2 : PostG K w B (mbind (mnoex (lc2Go vs g tt fi1 vs1 g1 tt1 fe (ds.map T.d) [])) (fun acc => mret (T.lst acc)) (wipeR ρ1 vs)) (fun v ρ' => ∀ x H', Ok K w.m B σ H' ρ' (x :: ws) (v :: ts) → Q x H') := p1
  obtain ⟨rr, ρe, ee, pe⟩ := PostG.noexE p2.bind
  have hvm1 : ∀ i ∈ vs1, w.m[i]? ≠ some true := fun i h => hv i (hv1 i h)
  have km : Kept w.m B σ := by
    obtain ⟨_, _, _, _, _, _, k⟩ := ok
    exact k
  have ok2 : Ok K w.m B (L2.wipe σ vs) (upd H1 D (.lst [])) (wipeR ρ1 vs) (ws1 ++ .ref D :: ws) (ts1 ++ .lst [] :: ts) := (Ok.perm4 hl (Ok.newOwn (vs := []) (us := []) rfl ok1 hD)).wipe hv
  refine ⟨fun i n H => n = ds.length - i ∧ i ≤ ds.length ∧ ∃ ρ acc, Ok K w.m B (L2.wipe σ vs) H ρ (ws1 ++ .ref D :: ws) (ts1 ++ .lst acc :: ts) ∧ lc2Go vs g tt fi1 vs1 g1 tt1 fe ((ds.drop i).map T.d) acc ρ = .ok rr ρe,
    ⟨ds.length, rfl, Nat.zero_le _, _, [], ok2, ee⟩, ?_⟩
  rintro i n H3 ⟨rfl, hi, ρ3, acc, ok3, e3⟩
  obtain ⟨j1, j2⟩ := jw w.m B (L2.wipe σ vs) H3 ρ3 _ _ i ok3
  by_cases hlt : i < ds.length
  · obtain ⟨go, yl⟩ := j2 ds[i] (by simp [hlt])
    refine .inr ⟨go, fun H => i + 1 ≤ ds.length ∧ ∃ ρ acc, Ok K w.m B (L2.wipe σ vs) H ρ (ws1 ++ .ref D :: ws) (ts1 ++ .lst acc :: ts) ∧ lc2Go vs g tt fi1 vs1 g1 tt1 fe ((ds.drop (i + 1)).map T.d) acc ρ = .ok rr ρe,
      fun H' h => ⟨ds.length - (i + 1), by omega, rfl, h.1, h.2⟩, fun x H' y => ?_⟩
    have ok4 := yl x H' y
    rw [List.drop_eq_getElem_cons hlt, List.map_cons] at e3
    have e3 : mbind (g (.d ds[i])) (fun _ => mbind tt fun b => if b = true then mbind fi1 fun es => mbind (mwipe vs1) fun _ => mbind (lcGo vs1 g1 tt1 fe (es.map T.d) acc) fun acc' => mbind (mwipe vs) fun _ => lc2Go vs g tt fi1 vs1 g1 tt1 fe ((ds.drop (i + 1)).map T.d) acc'
      else mbind (mwipe vs) fun _ => lc2Go vs g tt fi1 vs1 g1 tt1 fe ((ds.drop (i + 1)).map T.d) acc) ρ3 = .ok rr ρe := e3
    obtain ⟨_, ρ4, g4, e4⟩ := mbind_ok e3
    refine dg B (L2.wipe σ vs) H' ρ3 _ _ x _ _ ok4 (PostG.ok g4 fun σ4 H4 so ok5 => ⟨wipe_same so hS, ?_⟩)
    have back : ∀ {H ρ ws' ts'}, Ok K w.m B σ4 H ρ ws' ts' → Ok K w.m B (L2.wipe σ vs) H (wipeR ρ vs) ws' ts' := fun {H ρ ws' ts'} o => by
      have := o.wipe hv
      rw [wipe_same so hS] at this
      exact this
    have km4 : Kept w.m B σ4 := by
      obtain ⟨_, _, _, _, _, _, k⟩ := ok5
      exact k
    obtain ⟨b, ρ5, g5, e5⟩ := mbind_ok e4
    refine dt B σ4 H4 ρ4 _ _ _ ok5 (PostG.ok g5 fun H5 ok6 => ?_)
    cases b with
    | false =>
      rw [if_neg Bool.false_ne_true] at e5 ⊢
      obtain ⟨_, ρ6, g6, e6⟩ := mbind_ok e5
      cases mwipe_ok g6
      exact ⟨hlt, _, _, back ok6, e6⟩
    | true =>
      rw [if_pos rfl] at e5 ⊢
      obtain ⟨es, ρ6, g6, e6⟩ := mbind_ok e5
      obtain ⟨_, ρ7, g7, e7⟩ := mbind_ok e6
      cases mwipe_ok g7
      obtain ⟨acc', ρ8, g8, e8⟩ := mbind_ok e7
      obtain ⟨_, ρ9, g9, e9⟩ := mbind_ok e8
      cases mwipe_ok g9
      refine di1 B σ4 H5 ρ5 _ _ _ ok6 (PostG.ok g6 fun J1 H6 ws2 ts2 hl2 ok7 jw1 => ?_)
      have hl3 : (ws2 ++ ws1).length = (ts2 ++ ts1).length := by simp [hl, hl2]
      refine ⟨fun j n H => n = es.length - j ∧ j ≤ es.length ∧ ∃ ρ acc, Ok K w.m B (L2.wipe σ4 vs1) H ρ (ws2 ++ (ws1 ++ .ref D :: ws)) (ts2 ++ (ts1 ++ .lst acc :: ts)) ∧ lcGo vs1 g1 tt1 fe ((es.drop j).map T.d) acc ρ = .ok acc' ρ8,
        ⟨es.length, rfl, Nat.zero_le _, _, acc, ok7.wipe hvm1, g8⟩, ?_⟩
      rintro j n H7 ⟨rfl, hj, ρj, accj, okj, ej⟩
      obtain ⟨l1, l2⟩ := jw1 w.m B (L2.wipe σ4 vs1) H7 ρj _ _ j okj
      by_cases hjt : j < es.length
      · obtain ⟨go1, yl1⟩ := l2 es[j] (by simp [hjt])
        refine .inr ⟨go1, fun H => j + 1 ≤ es.length ∧ ∃ ρ acc, Ok K w.m B (L2.wipe σ4 vs1) H ρ (ws2 ++ (ws1 ++ .ref D :: ws)) (ts2 ++ (ts1 ++ .lst acc :: ts)) ∧ lcGo vs1 g1 tt1 fe ((es.drop (j + 1)).map T.d) acc ρ = .ok acc' ρ8,
          fun H' h => ⟨es.length - (j + 1), by omega, rfl, h.1, h.2⟩, fun x H' y => ?_⟩
        have okA := yl1 x H' y
        rw [List.drop_eq_getElem_cons hjt, List.map_cons] at ej
        have ej : mbind (g1 (.d es[j])) (fun _ => mbind tt1 fun b => if b = true then mbind fe fun t => mbind (mwipe vs1) fun _ => if accj.length < lim then lcGo vs1 g1 tt1 fe ((es.drop (j + 1)).map T.d) (accj ++ [t]) else mno
          else mbind (mwipe vs1) fun _ => lcGo vs1 g1 tt1 fe ((es.drop (j + 1)).map T.d) accj) ρj = .ok acc' ρ8 := ej
        obtain ⟨_, ρa, ga, ea⟩ := mbind_ok ej
        refine dg1 B (L2.wipe σ4 vs1) H' ρj _ _ x _ _ okA (PostG.ok ga fun σ5 HA so1 okB => ⟨wipe_same so1 hS1, ?_⟩)
        have back1 : ∀ {H ρ ws' ts'}, Ok K w.m B σ5 H ρ ws' ts' → Ok K w.m B (L2.wipe σ4 vs1) H (wipeR ρ vs1) ws' ts' := fun {H ρ ws' ts'} o => by
          have := o.wipe hvm1
          rw [wipe_same so1 hS1] at this
          exact this
        obtain ⟨b, ρb, gb, eb⟩ := mbind_ok ea
        refine dt1 B σ5 HA ρa _ _ _ okB (PostG.ok gb fun HB okC => ?_)
        cases b with
        | false =>
          rw [if_neg Bool.false_ne_true] at eb ⊢
          obtain ⟨_, ρc, gc, ec⟩ := mbind_ok eb
          cases mwipe_ok gc
          exact ⟨hjt, _, _, back1 okC, ec⟩
        | true =>
          rw [if_pos rfl] at eb ⊢
          obtain ⟨t, ρc, gc, ec⟩ := mbind_ok eb
          obtain ⟨_, ρd, gd, ed⟩ := mbind_ok ec
          cases mwipe_ok gd
          refine de B σ5 HB ρb _ _ _ okC (PostG.ok gc fun y HC okD => ?_)
          by_cases hs : accj.length < lim
          · rw [if_pos hs] at ed
            have okD' : Ok K w.m B σ5 HC ρc ((y :: (ws2 ++ ws1)) ++ .ref D :: ws) ((t :: (ts2 ++ ts1)) ++ .lst accj :: ts) := by
              have := okD
              rw [← List.append_assoc, ← List.append_assoc] at this
              exact this
            have okE : Ok K w.m B σ5 HC ρc (y :: .ref D :: ((ws2 ++ ws1) ++ ws)) (t :: .lst accj :: ((ts2 ++ ts1) ++ ts)) := (Ok.perm3 (vs := y :: (ws2 ++ ws1)) (us := t :: (ts2 ++ ts1)) (by simp [hl, hl2]) okD').swap
            obtain ⟨us, h1, h2, okF⟩ := okE.grow
            have okG := back1 (Ok.perm4 hl3 okF)
            rw [List.append_assoc, List.append_assoc] at okG
            exact ⟨us, h1, by rw [h2]; exact lim_lt hs, hjt, _, _, okG, ed⟩
          · rw [if_neg hs] at ed
            cases ed
      · have e : j = es.length := by omega
        subst e
        rw [List.drop_length, List.map_nil] at ej
        have ej : R.ok accj ρj = R.ok acc' ρ8 := ej
        cases ej
        refine .inl ⟨l1 rfl, hlt, _, _, back (Ok.unwipe (Ok.popAll hl2 okj.non).pop km4), e9⟩
  · have e : i = ds.length := by omega
    subst e
    rw [List.drop_length, List.map_nil] at e3
    have e3 : R.ok acc ρ3 = R.ok rr ρe := e3
    cases e3
    refine .inl ⟨j1 rfl, ?_⟩
    have ok4 := (Ok.popAll hl (Ok.perm3 hl ok3)).unwipe km
    exact (show ∀ x H', Ok K w.m B σ H' ρe (x :: ws) (.lst rr :: ts) → Q x H' from pe) _ _ ok4
theorem de_lc2O (at_ : At X w k) (hN : X.N.Nodup) (hi : DI X w tg iter fi) (ok : blkC X.N X.env.scope scope own = true) (hg : ∀ b : Blk, At (b.x X scope) w.nx k → DG (b.x X scope) w.nx tg S g) (ht : ∀ b : Blk, At (b.x X scope) w.nx k → DTs (b.x X scope) w.nx ifs tt)
    (hi1 : ∀ b : Blk, At (b.x X scope) w.nx k → DI (b.x X scope) w.nx tg1 iter1 fi1) (hg1 : ∀ b : Blk, At (b.x X scope) w.nx k → DG (b.x X scope) w.nx tg1 S1 g1) (ht1 : ∀ b : Blk, At (b.x X scope) w.nx k → DTs (b.x X scope) w.nx ifs1 tt1) (he : ∀ b : Blk, At (b.x X scope) w.nx k → DE (b.x X scope) w.nx elt fe)
    (hv : ∀ i ∈ own.map (·.2), NotM w i) (hv1 : ∀ i ∈ vs1, i ∈ own.map (·.2)) (hS : ∀ i ∈ S, i ∈ own.map (·.2)) (hS1 : ∀ i ∈ S1, i ∈ vs1) (hs : ∀ x, foldedSetIterable iter X.env x = pure x := by intro _; rfl) (hs1 : ∀ env x, foldedSetIterable iter1 env x = pure x := by intro _ _; rfl) :
    DE X w (.ListComp elt [⟨tg, iter, ifs, 0⟩, ⟨tg1, iter1, ifs1, 0⟩] scope pos) (dlc2O fi (own.map (·.2)) g tt fi1 vs1 g1 tt1 fe) := by
  obtain ⟨wi, pi, di⟩ := hi.ex
  obtain ⟨tG, pg, dg⟩ := all_pg (Y := fun b : Blk => b.x X scope) (K := X.K) (fun _ => rfl) fun b => hg b at_.blk
  obtain ⟨tT, pt, dt⟩ := all_pts (Y := fun b : Blk => b.x X scope) (K := X.K) (fun _ => rfl) fun b => ht b at_.blk
  obtain ⟨wi1, pi1, di1⟩ := all_pi (Y := fun b : Blk => b.x X scope) (K := X.K) (fun _ => rfl) fun b => hi1 b at_.blk
  obtain ⟨tG1, pg1, dg1⟩ := all_pg (Y := fun b : Blk => b.x X scope) (K := X.K) (fun _ => rfl) fun b => hg1 b at_.blk
  obtain ⟨tT1, pt1, dt1⟩ := all_pts (Y := fun b : Blk => b.x X scope) (K := X.K) (fun _ => rfl) fun b => ht1 b at_.blk
  obtain ⟨tE, pe, de⟩ := all_pe (Y := fun b : Blk => b.x X scope) (K := X.K) (fun _ => rfl) fun b => he b at_.blk
  exact de_v (pe_lc2 at_.ca hN pi (blkOk_by ok) hv1 (fun s H C cl fp => pg ⟨s, H, C, cl, fp⟩) (fun s H C cl fp => pt ⟨s, H, C, cl, fp⟩) (fun s H C cl fp => pi1 ⟨s, H, C, cl, fp⟩) (fun s H C cl fp => pg1 ⟨s, H, C, cl, fp⟩) (fun s H C cl fp => pt1 ⟨s, H, C, cl, fp⟩) (fun s H C cl fp => pe ⟨s, H, C, cl, fp⟩) hs hs1)
    (den_lc2 hv hv1 hS hS1 di dg dt di1 dg1 dt1 (de ⟨X.s_0, X.H_0, 0, [], []⟩))
theorem de_lc2 (at_ : At X w k) (hN : X.N.Nodup) (hi : DI X w tg iter fi) (ok : blkC X.N X.env.scope scope own = true) (hg : ∀ b : Blk, At (b.x X scope) w.nx k → DG (b.x X scope) w.nx tg S g) (ht : ∀ b : Blk, At (b.x X scope) w.nx k → DTs (b.x X scope) w.nx ifs tt)
    (hi1 : ∀ b : Blk, At (b.x X scope) w.nx k → DI (b.x X scope) w.nx tg1 iter1 fi1) (hg1 : ∀ b : Blk, At (b.x X scope) w.nx k → DG (b.x X scope) w.nx tg1 S1 g1) (ht1 : ∀ b : Blk, At (b.x X scope) w.nx k → DTs (b.x X scope) w.nx ifs1 tt1) (he : ∀ b : Blk, At (b.x X scope) w.nx k → DE (b.x X scope) w.nx elt fe)
    (hv : ∀ i ∈ own.map (·.2), NotM w i) (hv1 : ∀ i ∈ vs1, i ∈ own.map (·.2)) (hS : ∀ i ∈ S, i ∈ own.map (·.2)) (hS1 : ∀ i ∈ S1, i ∈ vs1) (hs : ∀ x, foldedSetIterable iter X.env x = pure x := by intro _; rfl) (hs1 : ∀ env x, foldedSetIterable iter1 env x = pure x := by intro _ _; rfl) :
    DE X w (.ListComp elt [⟨tg, iter, ifs, 0⟩, ⟨tg1, iter1, ifs1, 0⟩] scope pos) (dlc2 fi (own.map (·.2)) g tt fi1 vs1 g1 tt1 fe) := de_frz (de_lc2O at_ hN hi ok hg ht hi1 hg1 ht1 he hv hv1 hS hS1 hs hs1)
theorem ds_setLc2O (i : Nat) {y : Str} {py spos : Pos} (at_ : At X w k) (hN : X.N.Nodup) (hi : DI X w tg iter fi) (ok : blkC X.N X.env.scope scope own = true) (hg : ∀ b : Blk, At (b.x X scope) w.nx k → DG (b.x X scope) w.nx tg S g) (ht : ∀ b : Blk, At (b.x X scope) w.nx k → DTs (b.x X scope) w.nx ifs tt)
    (hi1 : ∀ b : Blk, At (b.x X scope) w.nx k → DI (b.x X scope) w.nx tg1 iter1 fi1) (hg1 : ∀ b : Blk, At (b.x X scope) w.nx k → DG (b.x X scope) w.nx tg1 S1 g1) (ht1 : ∀ b : Blk, At (b.x X scope) w.nx k → DTs (b.x X scope) w.nx ifs1 tt1) (he : ∀ b : Blk, At (b.x X scope) w.nx k → DE (b.x X scope) w.nx elt fe)
    (hv : ∀ i ∈ own.map (·.2), NotM w i) (hv1 : ∀ i ∈ vs1, i ∈ own.map (·.2)) (hS : ∀ i ∈ S, i ∈ own.map (·.2)) (hS1 : ∀ i ∈ S1, i ∈ vs1)
    (hsw : swapsWith (.ListComp elt [⟨tg, iter, ifs, 0⟩, ⟨tg1, iter1, ifs1, 0⟩] scope pos) (some (.Name y py)) spos.line X.env = pure true) (hs : ∀ x, foldedSetIterable iter X.env x = pure x := by intro _; rfl) (hs1 : ∀ env x, foldedSetIterable iter1 env x = pure x := by intro _ _; rfl)
    (hm : NotM w i := by intro h; cases h) (hy : X.N[i]? = some y := by rfl) (hyl : X.env.scope.names.lookup y = some .local := by rfl) :
    DS X w (.Assign [.Name y py] (.ListComp elt [⟨tg, iter, ifs, 0⟩, ⟨tg1, iter1, ifs1, 0⟩] scope pos) spos) (sset i (dlc2O fi (own.map (·.2)) g tt fi1 vs1 g1 tt1 fe)) := by
  obtain ⟨wi, pi, di⟩ := hi.ex
  obtain ⟨tG, pg, dg⟩ := all_pg (Y := fun b : Blk => b.x X scope) (K := X.K) (fun _ => rfl) fun b => hg b at_.blk
  obtain ⟨tT, pt, dt⟩ := all_pts (Y := fun b : Blk => b.x X scope) (K := X.K) (fun _ => rfl) fun b => ht b at_.blk
  obtain ⟨wi1, pi1, di1⟩ := all_pi (Y := fun b : Blk => b.x X scope) (K := X.K) (fun _ => rfl) fun b => hi1 b at_.blk
  obtain ⟨tG1, pg1, dg1⟩ := all_pg (Y := fun b : Blk => b.x X scope) (K := X.K) (fun _ => rfl) fun b => hg1 b at_.blk
  obtain ⟨tT1, pt1, dt1⟩ := all_pts (Y := fun b : Blk => b.x X scope) (K := X.K) (fun _ => rfl) fun b => ht1 b at_.blk
  obtain ⟨tE, pe, de⟩ := all_pe (Y := fun b : Blk => b.x X scope) (K := X.K) (fun _ => rfl) fun b => he b at_.blk
  refine ⟨_, ps_setLc2 at_.ca hN hy hyl hsw pi (blkOk_by ok) hv1 (fun s H C cl fp => pg ⟨s, H, C, cl, fp⟩) (fun s H C cl fp => pt ⟨s, H, C, cl, fp⟩) (fun s H C cl fp => pi1 ⟨s, H, C, cl, fp⟩) (fun s H C cl fp => pg1 ⟨s, H, C, cl, fp⟩) (fun s H C cl fp => pt1 ⟨s, H, C, cl, fp⟩) (fun s H C cl fp => pe ⟨s, H, C, cl, fp⟩) hs hs1, fun B σ H ρ ws ts D ok q => ?_⟩
  exact den_lc2 hv hv1 hS hS1 di dg dt di1 dg1 dt1 (de ⟨X.s_0, X.H_0, 0, [], []⟩) B σ H ρ ws ts _ ok (q.bind.mono fun v ρ1 p1 x H1 ok1 => p1 _ H1 (ok1.store hm))
theorem ds_setLc2 (i : Nat) {y : Str} {py spos : Pos} (at_ : At X w k) (hN : X.N.Nodup) (hi : DI X w tg iter fi) (ok : blkC X.N X.env.scope scope own = true) (hg : ∀ b : Blk, At (b.x X scope) w.nx k → DG (b.x X scope) w.nx tg S g) (ht : ∀ b : Blk, At (b.x X scope) w.nx k → DTs (b.x X scope) w.nx ifs tt)
    (hi1 : ∀ b : Blk, At (b.x X scope) w.nx k → DI (b.x X scope) w.nx tg1 iter1 fi1) (hg1 : ∀ b : Blk, At (b.x X scope) w.nx k → DG (b.x X scope) w.nx tg1 S1 g1) (ht1 : ∀ b : Blk, At (b.x X scope) w.nx k → DTs (b.x X scope) w.nx ifs1 tt1) (he : ∀ b : Blk, At (b.x X scope) w.nx k → DE (b.x X scope) w.nx elt fe)
    (hv : ∀ i ∈ own.map (·.2), NotM w i) (hv1 : ∀ i ∈ vs1, i ∈ own.map (·.2)) (hS : ∀ i ∈ S, i ∈ own.map (·.2)) (hS1 : ∀ i ∈ S1, i ∈ vs1)
    (hsw : swapsWith (.ListComp elt [⟨tg, iter, ifs, 0⟩, ⟨tg1, iter1, ifs1, 0⟩] scope pos) (some (.Name y py)) spos.line X.env = pure true) (hs : ∀ x, foldedSetIterable iter X.env x = pure x := by intro _; rfl) (hs1 : ∀ env x, foldedSetIterable iter1 env x = pure x := by intro _ _; rfl)
    (hm : NotM w i := by intro h; cases h) (hy : X.N[i]? = some y := by rfl) (hyl : X.env.scope.names.lookup y = some .local := by rfl) :
    DS X w (.Assign [.Name y py] (.ListComp elt [⟨tg, iter, ifs, 0⟩, ⟨tg1, iter1, ifs1, 0⟩] scope pos) spos) (sset i (dlc2 fi (own.map (·.2)) g tt fi1 vs1 g1 tt1 fe)) := by
  obtain ⟨t, p, d⟩ := (ds_setLc2O i at_ hN hi ok hg ht hi1 hg1 ht1 he hv hv1 hS hS1 hsw hs hs1 hm hy hyl).ex
  obtain ⟨wi, pi, di⟩ := hi.ex
  obtain ⟨tG, pg, dg⟩ := all_pg (Y := fun b : Blk => b.x X scope) (K := X.K) (fun _ => rfl) fun b => hg b at_.blk
  obtain ⟨tT, pt, dt⟩ := all_pts (Y := fun b : Blk => b.x X scope) (K := X.K) (fun _ => rfl) fun b => ht b at_.blk
  obtain ⟨wi1, pi1, di1⟩ := all_pi (Y := fun b : Blk => b.x X scope) (K := X.K) (fun _ => rfl) fun b => hi1 b at_.blk
  obtain ⟨tG1, pg1, dg1⟩ := all_pg (Y := fun b : Blk => b.x X scope) (K := X.K) (fun _ => rfl) fun b => hg1 b at_.blk
  obtain ⟨tT1, pt1, dt1⟩ := all_pts (Y := fun b : Blk => b.x X scope) (K := X.K) (fun _ => rfl) fun b => ht1 b at_.blk
  obtain ⟨tE, pe, de⟩ := all_pe (Y := fun b : Blk => b.x X scope) (K := X.K) (fun _ => rfl) fun b => he b at_.blk
  refine ⟨_, ps_setLc2 at_.ca hN hy hyl hsw pi (blkOk_by ok) hv1 (fun s H C cl fp => pg ⟨s, H, C, cl, fp⟩) (fun s H C cl fp => pt ⟨s, H, C, cl, fp⟩) (fun s H C cl fp => pi1 ⟨s, H, C, cl, fp⟩) (fun s H C cl fp => pg1 ⟨s, H, C, cl, fp⟩) (fun s H C cl fp => pt1 ⟨s, H, C, cl, fp⟩) (fun s H C cl fp => pe ⟨s, H, C, cl, fp⟩) hs hs1, fun B σ H ρ ws ts D ok q => ?_⟩
  refine den_lc2 hv hv1 hS hS1 di dg dt di1 dg1 dt1 (de ⟨X.s_0, X.H_0, 0, [], []⟩) B σ H ρ ws ts _ ok ((PostG.bind q.bind).mono fun v ρ1 p1 x H1 ok1 => ?_)
  cases e : toD v with
  | none => rw [e] at p1; exact p1.elim
  | some y => rw [e] at p1; exact p1 _ H1 ((ok1.freeze e).store hm)
end
end DL
end
section
set_option Elab.async false
set_option linter.all false
set_option maxRecDepth 100000
set_option maxHeartbeats 4000000
/-! DMF: TABLE.get(k, z). -/
namespace DL
open PySem L2 PySem.Spec PyProof.Rows

def tKGet2 (K : PySem.W.Frag) (d : Addr) (ty tx : TE) : TE := fun σ H Q => ty σ H fun y H2 => tx σ H2 fun z H3 => ∃ (k : Str) (o : Option Value) (v : V), y = .str k ∧ PySem.W.nsIn K d k = some o ∧ (∀ r, RelV z r → RelV v (o.getD r)) ∧ Q v H3
section
variable {X : Cx} {w : Wd} {x : Str} {p pos apos : Pos} {e f : Expr} {ty tx : TE} {kvs : List (Str × T)} {fe ff : M T}
theorem pe_kget2 {d : Addr} {es : Array DictEntry} {n : Nat} {o : Expr} (D : KDict X.K X.w d es n) (ho : PE X o (tC (.ref d))) (he : PE X e ty) (hf : PE X f tx) (m : M2 X o "get" apos e f pos) : PE X (.Call (.Attribute o "get" apos) [e, f] [] pos) (tKGet2 X.K d ty tx) := by
  refine ⟨fun pins s σ H Q I h => ?_⟩
  refine wpAny_Call_method m.base m.few m.line PySem.F.plainAttrs_dict PySem.F.slot_dict_get PySem.F.type_dict_get (thn (ho.run pins s σ H (fun x H1 => x = .ref d ∧ tKGet2 X.K d ty tx σ H1 Q) I ⟨rfl, h⟩) fun u s1 ⟨x, H1, I1, rx, ex, q1⟩ => ?_)
  subst ex
  obtain rfl : u = Value.ref d := rx
  have hm := PySem.W.mapOf_K (prog := X.prog) (w := X.w) I1.kIn D.at_ D.lit
  refine ⟨hm.typeIs, fun b q => ?_, ?_⟩
  · cases q
    exact ⟨_, I1.kIn _ _ D.at_, rfl⟩
  · rw [m.trees]
    refine Calls.callWith_builtin rfl (Calls.evalArgs_plain (Calls.spliced_cons (thn (he.run pins s1 σ H1 _ I1 q1) fun iv s2 ⟨y, H2, I2, ry, q2⟩ =>
      Calls.spliced_cons (thn (hf.run pins s2 σ H2 _ I2 q2) fun fv s3 ⟨z, H3, I3, rz, k, o, v, ey, hn, hv, q3⟩ => Calls.spliced_nil ?_))))
    subst ey
    obtain ⟨t, rfl⟩ := ry
    have hm3 := PySem.W.mapOf_K (prog := X.prog) (w := X.w) I3.kIn D.at_ D.lit
    refine call_meetsIn PySem.F.slot_dict_get hm3.typeIs PySem.F.entry_dict_get (PySem.F.args_dict_get_3 _ _ _) (meets_dict_get_default (strKind X.prog X.w) d (strKind_is X.prog X.w k t) D.low fv) ⟨_, hm3, ⟨v, H3, I3.tok _, ?_, q3⟩⟩
    rw [PySem.W.find_K D.at_ hn]
    exact hv _ rz
def dkget (kvs : List (Str × T)) (fe ff : M T) : M T := mbind fe fun k => mbind ff fun z => match k with
  | .d (.str s) => (match tlook kvs s with
    | some t => mret t
    | none => mret z)
  | _ => mno
theorem de_kget (D : KTab X x kvs) (he : DE X w e fe) (hf : DE X w f ff) (mm : M2 X (.Name x p) "get" apos e f pos := by exact ⟨rfl, rfl, rfl, rfl⟩) (hg : Gl X x := by rfl) (hd : (x == ("__debug__" : Str)) = false := by decide) :
    DE X w (.Call (.Attribute (.Name x p) "get" apos) [e, f] [] pos) (dkget kvs fe ff) := by
  obtain ⟨t, pt, dt⟩ := he.ex
  obtain ⟨t2, pt2, dt2⟩ := hf.ex
  obtain ⟨d, es, n, m1, m2, m3, m4⟩ := D.ex
  refine de_v (pe_kget2 m2 (pe_glob (v := .ref d) hg m1 rfl hd) pt pt2 mm) fun B σ H ρ ws ts Q ok q => ?_
  refine dt B σ H ρ ws ts _ ok (q.bind.mono fun k ρ1 p1 y H1 ok1 => ?_)
  refine dt2 B σ H1 ρ1 _ _ _ ok1 (p1.bind.mono fun z ρ2 p2 y2 H2 ok2 => ?_)
  split at p2
  · rename_i s
    have hy := ok2.pop.topStr
    subst hy
    cases hl : tlook kvs s with
    | some t =>
      rw [hl] at p2
      obtain ⟨u, v0, g1, g2, g3⟩ := ns_some m2 m3 hl
      refine ⟨s, some u, v0, rfl, g1, fun _ _ => g2, ?_⟩
      have p2 : ∀ x H', Ok X.K w.m B σ H' ρ2 (x :: ws) (t :: ts) → Q x H' := p2
      refine p2 _ _ ?_
      obtain ⟨I, Fr, Fw, s, r, wz, km⟩ := ok2.pop.pop
      exact ⟨I, Fr, Fw, s, r, .cons (F := []) (g3 _ _) wz, km⟩
    | none =>
      rw [hl] at p2
      have p2 : ∀ x H', Ok X.K w.m B σ H' ρ2 (x :: ws) (z :: ts) → Q x H' := p2
      exact ⟨s, none, y2, rfl, ns_none m2 m3 hl, fun r hr => hr, p2 _ _ ok2.swap.pop⟩
  · exact p2.elim
end
end DL
end
section
set_option Elab.async false
set_option linter.all false
set_option maxRecDepth 100000
set_option maxHeartbeats 4000000
/-! DMG: a, *rest with an own rest; looks that give a new tuple of flat things. -/
namespace DL
open PySem L2 PySem.Spec PyProof.Rows

/-! ### a, *rest -/
def starItemsO (k : Nat) (ds : List PyData) : List T := (ds.take k).map T.d ++ [.lst ((ds.drop k).map T.d)]
def mstarO (k : Nat) (gs : List (T → M Unit)) : T → M Unit
  | .d (.tuple ds) => if k ≤ ds.length then mgsO gs (starItemsO k ds) else mno
  | .d (.list ds) => if k ≤ ds.length then mgsO gs (starItemsO k ds) else mno
  | _ => mno
section
variable {X : Cx} {w : Wd}
theorem dgo_star {e : Expr} {es : List Expr} {p : Pos} {S S' : List Nat} {g : T → M Unit} {gs : List (T → M Unit)} (h : DG X w e S g) (h' : DGo X w es S' gs) (hs : (assignEach (.Starred e p :: es) X.env).map (·.2) = assign e X.env :: (assignEach es X.env).map (·.2) := by rfl) : DGo X w (.Starred e p :: es) (S ++ S') (g :: gs) := by
  obtain ⟨t, p, d⟩ := h.ex
  obtain ⟨t', p', d'⟩ := h'.ex
  refine ⟨_, pgs_star p p' hs, fun B σ H ρ ws ts xs us Q l1 l2 ok q => ?_⟩
  match us, xs with
  | [], _ => cases l2
  | _ :: _, [] => cases l1
  | u :: us, x :: xs =>
    refine ⟨x, xs, rfl, d B σ H ρ (xs ++ ws) (us ++ ts) x u _ ok (PostG.mono (PostG.bind q) fun _ ρ1 p1 σ1 H1 so ok1 => ?_)⟩
    exact d' B σ1 H1 ρ1 ws ts xs us Q (by simpa using l1) (by simpa using l2) ok1 (PostG.mono p1 fun _ ρ2 p2 σ2 H2 so2 ok2 => p2 σ2 H2 (so.trans so2) ok2)
theorem Ok.starO {K : PySem.W.Frag} {m : List Bool} {B : Bs} {σ : L2.St} {H : Hp} {ρ : Rho} {ws : List V} {ts : List T} {x : V} {t0 : PyData} {vs : List V} {ds : List PyData} {k : Nat} {p : Addr} {I : Hp} {Fr Fw : List Addr}
    (s : Sit B I H (Fr ++ Fw)) (r : RepR K I H σ ρ Fr) (wz : RepTs K I H (x :: ws) (.d t0 :: ts) Fw) (km : Kept m B σ) (dd : DrAll K I vs ds) (hp : H p = none) :
    Ok K m B σ (upd H p (.lst (vs.drop k))) ρ ((vs.take k ++ [.ref p]) ++ ws) (starItemsO k ds ++ ts) := by
  have nf : ∀ a ∈ Fr ++ Fw, (upd H p (.lst (vs.drop k))) a = H a := fun a z => upd_ne (show a ≠ p from fun e => s.thr a z (by rw [e]; exact hp))
  have w' := wz.mono (H' := upd H p (.lst (vs.drop k))) (Same.refl I) fun a z => nf a (List.mem_append_right _ z)
  cases w' with
  | cons a1 b1 =>
    cases a1 with
    | d a1 =>
      rename_i Fb
      have q0 : RepTs K I (upd H p (.lst (vs.drop k))) [.ref p] [.lst ((ds.drop k).map T.d)] ((p :: []) ++ []) := .cons (.lst upd_same (RepTs.ofD (dd.drop k))) .nil
      obtain ⟨E1, q1, e1⟩ := RepTs.append (RepTs.ofD (dd.take k) (H := upd H p (.lst (vs.drop k)))) q0
      subst e1
      obtain ⟨E, q2, e2⟩ := RepTs.append q1 b1
      subst e2
      refine ⟨I, Fr, _, (s.newO (o := .lst (vs.drop k)) hp).perm ?_, r.mono (Same.refl _) fun a z => nf a (List.mem_append_left _ z), q2, km⟩
      refine List.perm_iff_count.mpr fun a => ?_
      simp only [List.count_append, List.count_cons, List.count_nil, List.nil_append, List.append_nil]
      omega
theorem dg_starO {es : List Expr} {k kk : Nat} {S : List Nat} {gs : List (T → M Unit)} {pos : Pos} (hc : X.calm = true) (h : DGo X w es S gs) (hn : (assignEach es X.env).length = k + 1 := by rfl) (hgn : gs.length = k + 1 := by rfl) (hst : (assignEach es X.env).findIdx? (·.1) = some k := by rfl) : DG X w (.Tuple es kk pos) S (mstarO k gs) := by
  obtain ⟨t, p, d⟩ := h.ex
  refine ⟨_, pg_star hc p hn hst, fun B σ H ρ ws ts x v Q ok q => ?_⟩
  have len : ∀ ds : List PyData, k ≤ ds.length → (starItemsO k ds).length = k + 1 := fun ds hl => by
    unfold starItemsO
    rw [List.length_append, List.length_map, List.length_take]
    simp
    omega
  unfold mstarO at q
  split at q
  · rename_i ds
    by_cases hl : k ≤ ds.length
    · rw [if_pos hl] at q
      obtain ⟨I, Fr, Fw, s, r, wz, km⟩ := ok
      obtain ⟨a, vs, rfl, ha, dd⟩ := tup_items wz
      have hv := dd.len
      refine ⟨a, vs, rfl, .inr (st_mono s.sub ha), by omega, fun p hp => ?_⟩
      refine d B σ _ ρ ws ts _ (starItemsO k ds) Q ?_ (by rw [len ds hl, hgn]) (Ok.starO s r wz km dd hp) q
      rw [len ds hl, List.length_append, List.length_take]
      simp
      omega
    · rw [if_neg hl] at q
      exact q.elim
  · rename_i ds
    by_cases hl : k ≤ ds.length
    · rw [if_pos hl] at q
      obtain ⟨I, Fr, Fw, s, r, wz, km⟩ := ok
      obtain ⟨a, vs, rfl, ha, dd⟩ := lst_items wz
      have hv := dd.len
      refine ⟨a, vs, rfl, .inl (SqL.of (s.sub _ _ ha)), by omega, fun p hp => ?_⟩
      refine d B σ _ ρ ws ts _ (starItemsO k ds) Q ?_ (by rw [len ds hl, hgn]) (Ok.starO s r wz km dd hp) q
      rw [len ds hl, List.length_append, List.length_take]
      simp
      omega
    · rw [if_neg hl] at q
      exact q.elim
  · exact q.elim
end

/-! ### looks -/
/-- no tuple -/
def noTup : HO → Prop
  | .tup _ => False
  | .frz _ _ => False
  | _ => True
section
variable {K : PySem.W.Frag} {I H : Hp}
mutual
theorem RepT.noTup : ∀ {v : V} {t : T} {F : List Addr}, RepT K I H v t F → ∀ a ∈ F, ∀ o, H a = some o → noTup o
  | _, _, _, .d _, a, m, _, _ => nomatch m
  | _, _, _, .fn _, a, m, _, _ => nomatch m
  | _, _, _, .scr _, a, m, _, _ => nomatch m
  | _, _, _, .fns _ _, a, m, _, _ => nomatch m
  | _, _, _, .ty, a, m, _, _ => nomatch m
  | _, _, _, .exc _, a, m, _, _ => nomatch m
  | _, _, _, .hole, a, m, _, _ => nomatch m
  | _, _, _, .fin _, a, m, _, _ => nomatch m
  | _, _, _, .opq h _, a, m, o, e => by
    rw [List.mem_singleton.mp m, h] at e
    cases e
    trivial
  | _, _, _, .lst h r, a, m, o, e => by
    rcases List.mem_cons.mp m with q | q
    · rw [q, h] at e
      cases e
      trivial
    · exact RepTs.noTup r a q o e
  | _, _, _, .tup _ r, a, m, o, e => RepTs.noTup r a m o e
  | _, _, _, .dct h _ _ _ r, a, m, o, e => by
    rcases List.mem_cons.mp m with q | q
    · rw [q, h] at e
      cases e
      trivial
    · exact RepTs.noTup r a q o e
  | _, _, _, .ins _ h h2 _ _ _ r, a, m, o, e => by
    rcases List.mem_cons.mp m with q | q
    · rw [q, h] at e
      cases e
      trivial
    · rcases List.mem_cons.mp q with q | q
      · rw [q, h2] at e
        cases e
        trivial
      · exact RepTs.noTup r a q o e
theorem RepTs.noTup : ∀ {vs : List V} {ts : List T} {F : List Addr}, RepTs K I H vs ts F → ∀ a ∈ F, ∀ o, H a = some o → noTup o
  | _, _, _, .nil, a, m, _, _ => nomatch m
  | _, _, _, .cons h r, a, m, o, e => by
    rcases List.mem_append.mp m with q | q
    · exact RepT.noTup h a q o e
    · exact RepTs.noTup r a q o e
end
theorem RepR.noTup : ∀ {σ : L2.St} {ρ : Rho} {F : List Addr}, RepR K I H σ ρ F → ∀ a ∈ F, ∀ o, H a = some o → noTup o
  | _, _, _, .nil, a, m, _, _ => nomatch m
  | _, _, _, .hid r, a, m, o, e => RepR.noTup r a m o e
  | _, _, _, .has h r, a, m, o, e => by
    rcases List.mem_append.mp m with q | q
    · exact RepT.noTup h a q o e
    · exact RepR.noTup r a q o e
theorem Sit.addD {B : Bs} {F : List Addr} {a : Addr} {o : HO} (s : Sit B I H F) (h : H a = some o) (hi : I a = none) (hf : a ∉ F) (hn : B.H a = none ∨ a ∈ B.F) : Sit B (upd I a o) H F := by
  refine ⟨fun c u e => ?_, fun c u e => ?_, s.keep, fun c u e => ?_, s.fr, fun c m => ?_, s.thr, s.nd⟩
  · by_cases q : c = a
    · subst q; rw [upd_same] at e; cases e; exact h
    · rw [upd_ne q] at e; exact s.sub c u e
  · rw [upd_ne (ne_of_none (s.ext c u e) hi)]; exact s.ext c u e
  · by_cases q : c = a
    · subst q; exact .inr hn
    · rw [upd_ne q] at e; exact s.new c u e
  · rw [upd_ne (show c ≠ a from fun q => hf (by rw [← q]; exact m))]; exact s.own c m
end
def flat2 : PyData → Bool
  | .tuple ds => ds.all flat
  | d => flat d
theorem flat_drs {K : PySem.W.Frag} {I I' : Hp} : ∀ {ds : List PyData} {vs : List V}, ds.all flat = true → DrAll K I vs ds → DrAll K I' vs ds
  | [], _, _, .nil => .nil
  | d :: ds, _, h, .cons a b => by
    rw [List.all_cons, Bool.and_eq_true] at h
    exact .cons (flat_dr h.1 a) (flat_drs h.2 b)
section
variable {X : Cx} {w : Wd} {e : Expr} {fe : M T}
theorem Ok.look2 {K : PySem.W.Frag} {m : List Bool} {B : Bs} {σ : L2.St} {H : Hp} {ρ : Rho} {ws : List V} {ts : List T} (is : List Nat) (ok : Ok K m B σ H ρ ws ts) :
    ∃ B' : Bs, Ok K m B' σ H (seen is 0 ρ) [] [] ∧ ∀ H' ρ' x d, Ok K m B' σ H' ρ' [x] [.d d] → flat2 d = true → Ok K m B σ H' ρ (x :: ws) (.d d :: ts) := by
  obtain ⟨I, Fr, Fw, s, r, w', km⟩ := ok
  let I' : Hp := fun c => if c ∈ Fr then H c else I c
  have e1 : ∀ c, c ∈ Fr → I' c = H c := fun c m => if_pos m
  have e2 : ∀ c, c ∉ Fr → I' c = I c := fun c m => if_neg m
  have sm : Same I I' := fun c o q => by
    by_cases m : c ∈ Fr
    · rw [s.own c (List.mem_append_left _ m)] at q; cases q
    · rw [e2 c m]; exact q
  have sub : Same I' H := fun c o q => by
    by_cases m : c ∈ Fr
    · rw [e1 c m] at q; exact q
    · rw [e2 c m] at q; exact s.sub c o q
  refine ⟨⟨I', H, [], B.s⟩, ⟨I', [], [], ⟨sub, Same.refl _, fun a o _ z => z, fun a o z => .inl z, (fun a z => nomatch z), (fun a z => nomatch z), (fun a z => nomatch z), List.Pairwise.nil⟩, seen_rep sm is 0 r e1, .nil, km⟩, fun H' ρ' x d q hf => ?_⟩
  obtain ⟨I2, F1, F2, s2, r2, w2, _⟩ := q
  have all : ∀ a o, H a = some o → H' a = some o := fun a o z => s2.keep a o (fun m => nomatch m) z
  have same : ∀ a ∈ Fr ++ Fw, H' a = H a := fun a z => by
    cases h : H a with
    | none => exact absurd h (s.thr a z)
    | some o => exact all a o h
  have S : Sit B I H' (Fr ++ Fw) := ⟨fun a o z => all a o (s.sub a o z), s.ext, fun a o n z => all a o (s.keep a o n z), s.new, s.fr, s.own, fun a z => by rw [same a z]; exact s.thr a z, s.nd⟩
  have R0 := r.mono (Same.refl _) fun a z => same a (List.mem_append_left _ z)
  have W0 := w'.mono (Same.refl I) fun a z => same a (List.mem_append_right _ z)
  cases w2 with
  | cons pa pb =>
    cases pa with
    | d q =>
      have plain : flat d = true → Ok K m B σ H' ρ (x :: ws) (.d d :: ts) := fun hf => ⟨I, Fr, Fw, S, R0, .cons (F := []) (.d (flat_dr hf q)) W0, km⟩
      cases q with
      | tup hq hr =>
        rename_i a xs ds
        have hf : ds.all flat = true := hf
        have add : ∀ o, I2 a = some o → (o = .tup xs ∨ ∃ u, o = .frz u (.tup xs)) → Ok K m B σ H' ρ (.ref a :: ws) (.d (.tuple ds) :: ts) := by
          intro o ho hk
          have hH : H' a = some o := s2.sub a o ho
          have nt : ¬ noTup o := by rcases hk with rfl | ⟨u, rfl⟩ <;> exact fun z => z
          have rd : ∀ J : Hp, J a = some o → SqT K J a xs := fun J hj => by
            rcases hk with rfl | ⟨u, rfl⟩
            · exact .inl (.inl hj)
            · exact .inl (.inr ⟨u, hj⟩)
          rcases s2.new a o ho with h | h | h
          · have h : I' a = some o := h
            by_cases ma : a ∈ Fr
            · rw [e1 a ma] at h
              exact absurd (r.noTup a ma o h) nt
            · rw [e2 a ma] at h
              exact ⟨I, Fr, Fw, S, R0, .cons (F := []) (.d (.tup (rd I h) (flat_drs hf hr))) W0, km⟩
          · have h : H a = none := h
            obtain ⟨f1, f2, f3⟩ := s.fresh h
            have sm2 : Same I (upd I a o) := fun b u z => by rw [upd_ne (ne_of_none z f2)]; exact z
            exact ⟨upd I a o, Fr, Fw, S.addD hH f2 f1 f3, R0.mono sm2 fun _ _ => rfl, .cons (F := []) (.d (.tup (rd _ upd_same) (flat_drs hf hr))) (W0.mono sm2 fun _ _ => rfl), km⟩
          · exact nomatch h
        rcases hq with (h | ⟨u, h⟩) | h
        · exact add _ h (.inl rfl)
        · exact add _ h (.inr ⟨u, rfl⟩)
        · exact ⟨I, Fr, Fw, S, R0, .cons (F := []) (.d (.tup (.inr h) (flat_drs hf hr))) W0, km⟩
      | non => exact plain rfl
      | bl b => exact plain rfl
      | int i => exact plain rfl
      | str z => exact plain rfl
      | lst _ _ => exact absurd hf (by simp [flat2, flat])
      | dct0 _ => exact absurd hf (by simp [flat2, flat])
def dpeek2 (is : List Nat) (fe : M T) : M T := fun ρ => match fe (seen is 0 ρ) with
  | .ok (.d d) _ => if flat2 d = true then .ok (.d d) ρ else .no
  | _ => .no
theorem de_peek2 (is : List Nat) (h : DE X w.nx e fe) : DE X w e (dpeek2 is fe) := by
  obtain ⟨t, pt, dt⟩ := h.ex
  refine de_v pt fun B σ H ρ ws ts Q ok q => ?_
  obtain ⟨B', ok', back⟩ := ok.look2 is
  refine dt B' σ H _ [] [] Q ok' ?_
  unfold dpeek2 at q
  cases e1 : fe (seen is 0 ρ) with
  | no => rw [e1] at q; exact q.elim
  | ex er ρ1 => rw [e1] at q; exact q.elim
  | ok v ρ1 =>
    rw [e1] at q
    cases v with
    | d d =>
      simp only at q
      by_cases hf : flat2 d = true
      · rw [if_pos hf] at q
        exact fun x H' ok2 => q x H' (back H' ρ1 x d ok2 hf)
      · rw [if_neg hf] at q
        exact q.elim
    | _ => exact q.elim
end

/-! ### what stands at a place is handed out -/
theorem Ok.pushHole {K : PySem.W.Frag} {m : List Bool} {B : Bs} {σ : L2.St} {H : Hp} {ρ : Rho} {ws : List V} {ts : List T} {x : V} (h : Ok K m B σ H ρ ws ts) : Ok K m B σ H ρ (x :: ws) (.hole :: ts) := by
  obtain ⟨I, Fr, Fw, s, r, w, km⟩ := h
  exact ⟨I, Fr, Fw, s, r, .cons (F := []) .hole w, km⟩
def dmvP (ns : List Str) (i : Nat) (pp : List PStep) : M T := fun ρ => match ρ[i]?, res ρ pp with
  | some (some t0), some rp => (match tGet rp t0 with
    | some t1 => if nsOk ns rp t0 = true then .ok t1 (ρ.set i (some (tSet rp .hole t0))) else .no
    | none => .no)
  | _, _ => .no
theorem de_mvP {X : Cx} {w : Wd} {ns : List Str} {o : Expr} {i : Nat} {pp : List PStep} (pl : DPv X ns o i pp) : DE X w o (dmvP ns i pp) := by
  obtain ⟨to, po, hto⟩ := pl.ex
  refine de_v po fun B σ H ρ ws ts Q ok q => ?_
  unfold dmvP at q
  split at q
  · rename_i t0 rp e0 er
    split at q
    · rename_i t1 e1
      by_cases hn : nsOk ns rp t0 = true
      · rw [if_pos hn] at q
        obtain ⟨v, v', B2, hσ, vp, ok2, back⟩ := Ok.focus (zs0 := []) (us0 := []) ok rfl e0 hn e1
        have ok3 := back (zs := [v']) (us := [t1]) (t2 := .hole) ok2.pushHole
        rw [List.set_set] at ok3
        exact hto w.m B σ H ρ ws ts v v' rp Q ok er hσ vp ((show ∀ x H', Ok X.K w.m B σ H' (ρ.set i (some (tSet rp .hole t0))) (x :: ws) (t1 :: ts) → Q x H' from q) v' H ok3)
      · rw [if_neg hn] at q
        exact q.elim
    · exact q.elim
  · exact q.elim
end DL
end
section
set_option Elab.async false
set_option linter.all false
set_option maxRecDepth 100000
set_option maxHeartbeats 4000000
/-! DMH: len and append of lists that are known by their length alone. -/
namespace DL
open PySem L2 PySem.Spec PyProof.Rows

section
variable {K : PySem.W.Frag} {m : List Bool}
theorem Ok.topOpq {B : Bs} {σ : L2.St} {H : Hp} {ρ : Rho} {ws : List V} {ts : List T} {x : V} {n : Nat} (h : Ok K m B σ H ρ (x :: ws) (.opq n :: ts)) : ∃ a vs, x = .ref a ∧ H a = some (.lst vs) ∧ vs.length = n := by
  obtain ⟨I, Fr, Fw, s, r, w, km⟩ := h
  cases w with
  | cons a b =>
    cases a with
    | opq hp e => exact ⟨_, _, rfl, hp, e⟩
def gLenQ : List T → Option T
  | [.opq n] => some (.d (.int n))
  | us => gLen us
theorem ck_lenQ : CallK K m (rLen2 K) gLenQ := fun B σ H ρ ws ts xs us v Q hl ok e q => by
  unfold gLenQ at e
  split at e
  · cases e
    obtain ⟨x, rfl⟩ := one_of hl
    obtain ⟨a, vs, rfl, ha, hn⟩ := Ok.topOpq (ws := ws) (ts := ts) ok
    exact .inl ⟨_, _, rfl, .inl ⟨vs, SqL.of ha, rfl⟩, q _ _ (by rw [hn]; exact ok.int)⟩
  · exact ck_len B σ H ρ ws ts xs us v Q hl ok e q
theorem Ok.growQ {B : Bs} {σ : L2.St} {H : Hp} {ρ : Rho} {ws : List V} {ts : List T} {y : V} {p : Addr} {d : PyData} {n : Nat} (h : Ok K m B σ H ρ (y :: .ref p :: ws) (.d d :: .opq n :: ts)) :
    ∃ vs, H p = some (.lst vs) ∧ vs.length = n ∧ Ok K m B σ (upd H p (.lst (vs ++ [y]))) ρ (.ref p :: ws) (.opq (n + 1) :: ts) := by
  obtain ⟨I, Fr, Fw, s, r, w, km⟩ := h
  cases w with
  | cons a b =>
    cases b with
    | cons l c =>
      cases l with
      | opq hp e =>
        rename_i F1 F2 vs
        cases a with
        | d a =>
          have mem : p ∈ Fr ++ ([] ++ ([p] ++ F2)) := by simp
          have nd := s.nd
          have other : ∀ q ∈ Fr ++ F2, q ≠ p := fun q z e => by
            subst e
            have : List.Perm (Fr ++ ([] ++ ([q] ++ F2))) (q :: (Fr ++ F2)) := List.perm_middle
            exact (List.nodup_cons.mp (this.nodup_iff.mp nd)).1 z
          have fx : ∀ q ∈ Fr ++ F2, (upd H p (.lst (vs ++ [y]))) q = H q := fun q z => upd_ne (other q z)
          exact ⟨vs, hp, e, I, Fr, [p] ++ F2, (s.write (o := .lst (vs ++ [y])) mem).perm (List.Perm.refl _), r.mono (Same.refl _) fun q z => fx q (by simp [z]),
            .cons (.opq upd_same (by rw [List.length_append, e]; rfl)) (c.mono (Same.refl _) fun q z => fx q (by simp [z])), km⟩
def oAppendQ : T → List T → Option (T × T)
  | .opq n, [.d d] => if n < lim then some (.opq (n + 1), .d .none) else none
  | t, us => oAppend t us
theorem om_appendQ : OwnM K m rAppend oAppendQ := fun B σ H ρ ws ts x ys t us t1 v Q hl ok e q => by
  unfold oAppendQ at e
  split at e
  · obtain ⟨h1, e⟩ := reqs e
    cases e
    obtain ⟨y, rfl⟩ := one_of hl
    obtain ⟨a, vs, rfl, ha, hlen⟩ := Ok.topOpq (Ok.pop (ws := x :: ws) (ts := _ :: ts) ok)
    obtain ⟨vs', h2, h3, ok2⟩ := Ok.growQ (ws := ws) (ts := ts) ok
    refine ⟨a, vs', y, rfl, rfl, h2, by rw [h3]; exact lim_lt h1, q _ _ ok2.non⟩
  · exact om_append B σ H ρ ws ts x ys _ us t1 v Q hl ok e q
def tyQ : T → Option String
  | .opq _ => some "list"
  | t => tyT t
theorem Ok.tyVQ {B : Bs} {σ : L2.St} {H : Hp} {ρ : Rho} {ws : List V} {ts : List T} {x : V} {t : T} {n : String} (h : Ok K m B σ H ρ (x :: ws) (t :: ts)) (e : tyQ t = some n) : L2.tyV K n x H := by
  unfold tyQ at e
  split at e
  · cases e
    obtain ⟨a, vs, rfl, ha, _⟩ := h.topOpq
    exact .inl ⟨rfl, _, SqL.of ha⟩
  · exact h.tyV e
end
def dtypQ (n : String) (i : Nat) : M Unit := fun ρ => match ρ[i]? with
  | some (some t) => if tyQ t = some n then .ok () ρ else .no
  | _ => .no
def dmethQ (n : String) (i : Nat) (g : T → List T → Option (T × T)) (fs : M (List T)) : M T := mbind (dtypQ n i) fun _ => mbind fs fun us => down i fun t => g t us
section
variable {K : PySem.W.Frag} {w : Wd} {i : Nat} {n : String} {r : V → List V → Hp → VK → Prop} {g : T → List T → Option (T × T)} {fs : M (List T)} {os : List (Option Nat)} {t : TA}
theorem den_methQ (hg : OwnM K w.m r g) (d : DenA K w t os fs) : DenE K w (tBM K n r (tVar i) t) (dmethQ n i g fs) := fun B σ H ρ ws ts Q ok q => by
  have q := q.bind
  unfold dtypQ at q
  cases e : ρ[i]? with
  | none => rw [e] at q; exact q.elim
  | some o =>
    cases o with
    | none => rw [e] at q; exact q.elim
    | some u =>
      rw [e] at q
      by_cases hq : tyQ u = some n
      · simp only [if_pos hq] at q
        obtain ⟨v, h1, h2⟩ := ok.take e
        have h2 := h2.tyVQ hq
        refine ⟨v, h1, h2, ?_⟩
        refine d B σ H ρ ws ts _ ok (PostG.mono (PostG.bind q) fun us ρ1 p1 xs H1 hl ok1 _ => ?_)
        unfold down at p1
        cases e1 : ρ1[i]? with
        | none => rw [e1] at p1; exact p1.elim
        | some o1 =>
          cases o1 with
          | none => rw [e1] at p1; exact p1.elim
          | some u1 =>
            rw [e1] at p1
            simp only at p1
            cases e2 : g u1 us with
            | none => rw [e2] at p1; exact p1.elim
            | some tv =>
              obtain ⟨t1, v1⟩ := tv
              rw [e2] at p1
              obtain ⟨v', h1', ok2⟩ := ok1.take e1
              have : v' = v := by
                rw [h1] at h1'
                exact (Option.some.inj (Option.some.inj h1')).symm
              subst this
              have ok3 := Ok.perm4 (vs := xs) (us := us) hl ok2
              refine hg B σ H1 _ ws ts v' xs u1 us t1 v1 Q hl ok3 e2 fun z H' ok4 => ?_
              have ok5 := ok4.swap.back (i := i) h1
              rw [List.set_set] at ok5
              exact p1 z H' ok5
      · simp only [if_neg hq] at q
        exact q.elim
end
section
variable {X : Cx} {w : Wd} {n id : String} {x name : Str} {r : V → List V → Hp → VK → Prop} {g : T → List T → Option (T × T)} {fs : M (List T)} {os : List (Option Nat)} {e : Expr} {es : List Expr} {p apos cpos : Pos}
theorem de_methQ (i : Nat) (pa : PlainAttrs n) (slot : Slot n name id) (hty : typeOf (.builtin id) = pure (.type "method_descriptor")) (hm : MtR X id r) (hg : OwnM X.K w.m r g) (ha : DA X w (e :: es) os fs)
    (hN : X.N[i]? = some x := by rfl) (hv : Vis X.env.scope x := by first | exact Or.inl rfl | exact Or.inr (Or.inl rfl) | exact Or.inr (Or.inr rfl)) (hd : (x == ("__debug__" : Str)) = false := by decide) (hcd : (x == ("__classdict__" : Str)) = false := by decide)
    (hbase : attributeBase (.Name x p) name X.env (eval (.Name x p) X.env) = eval (.Name x p) X.env := by rfl)
    (hfew : ((backTo cpos (starEach (e :: es) X.env)).all (fun x => !x.1) && (backToKw cpos (keywordEach [] X.env)).all (fun x => x.1.isSome)
      && decide ((e :: es).length + ([] : List Keyword).length + (if ([] : List Keyword).isEmpty then 0 else 1) < 30)) = true := by rfl)
    (hline : (apos.endLine == cpos.line) = true := by rfl) (hs : starEach (e :: es) X.env = (false, eval e X.env) :: starEach es X.env := by rfl) (hplain : (backTo cpos (starEach es X.env)).any (·.1) = false := by rfl) :
    DE X w (.Call (.Attribute (.Name x p) name apos) (e :: es) [] cpos) (dmethQ n i g fs) := by
  obtain ⟨t, pt, dt⟩ := ha.ex
  exact de_v (pe_bm pa slot hty hm (pe_var hN hv hd hcd) pt hbase hfew hline hs hplain) (den_methQ hg dt)
end
end DL
end
section
set_option Elab.async false
set_option linter.all false
set_option maxRecDepth 100000
set_option maxHeartbeats 4000000
/-! DMI: find of a text in a text. -/
namespace DL
open PySem L2 PySem.Spec PyProof.Rows

def gFind (a : Str) : PyData → Option PyData
  | .str b => some (.int (Txt.find a b))
  | _ => none
section
variable {X : Cx} {w : Wd} {o e : Expr} {fo fe : M T} {apos pos : Pos}
theorem de_find (ho : DE X w o fo) (he : DE X w e fe) (hs : starEach [e] X.env = [(false, eval e X.env)] := by rfl) (hbase : attributeBase o "find" X.env (eval o X.env) = eval o X.env := by rfl) (hline : (apos.endLine == pos.line) = true := by rfl) :
    DE X w (.Call (.Attribute o "find" apos) [e] [] pos) (dsm1 gFind fo fe) := by
  obtain ⟨to, po, dto⟩ := ho.ex
  obtain ⟨te, pt, dte⟩ := he.ex
  refine de_v (pe_m1 PySem.F.slot_str_find PySem.F.type_str_find mt_find po pt hs hbase hline) (den_sm1 dto dte fun B σ H ρ ws ts a y d z Q ok e q => ?_)
  unfold gFind at e
  split at e
  · cases e
    have hy := ok.topStr
    subst hy
    exact ⟨a, _, rfl, rfl, q _ _ ok.pop.pop.int⟩
  · cases e
end
end DL
end
section
set_option Elab.async false
set_option linter.all false
set_option maxRecDepth 100000
set_option maxHeartbeats 4000000
/-! DMJ: the parts of a text as an own list. -/
namespace DL
open PySem L2 PySem.Spec PyProof.Rows

def gSplitO (a : Str) : PyData → Option T
  | .str b => if (b.length == 0) = false ∧ a.length ≤ lim then some (.lst ((Txt.split a b).map fun z => T.d (.str z))) else none
  | _ => none
def dsplitO (fo fe : M T) : M T := mbind fo fun x => match x with
  | .d (.str a) => mbind fe fun y => match y with
    | .d d => mopt (gSplitO a d)
    | _ => mno
  | _ => mno
section
variable {X : Cx} {w : Wd} {o e : Expr} {fo fe : M T} {apos pos : Pos}
theorem de_splitO (ho : DE X w o fo) (he : DE X w e fe) (hs : starEach [e] X.env = [(false, eval e X.env)] := by rfl) (hbase : attributeBase o "split" X.env (eval o X.env) = eval o X.env := by rfl) (hline : (apos.endLine == pos.line) = true := by rfl) :
    DE X w (.Call (.Attribute o "split" apos) [e] [] pos) (dsplitO fo fe) := by
  obtain ⟨to, po, dto⟩ := ho.ex
  obtain ⟨te, pt, dte⟩ := he.ex
  refine de_v (pe_split po pt hs hbase hline) fun B σ H ρ ws ts Q ok p => ?_
  refine dto B σ H ρ ws ts _ ok (p.bind.mono fun v ρ1 p1 x H1 ok1 => ?_)
  cases v with
  | d x1 =>
    cases x1 with
    | str a =>
      have ex := ok1.topStr
      subst ex
      have p1 : PostG X.K w B (mbind fe (fun y => match y with | .d d => mopt (gSplitO a d) | _ => (mno : M T)) ρ1) _ := p1
      refine ⟨⟨a, rfl⟩, dte B σ H1 ρ1 _ _ _ ok1 (p1.bind.mono fun v2 ρ2 p2 y H2 ok2 => ?_)⟩
      cases v2 with
      | d d =>
        obtain ⟨z, e1, q⟩ := PostG.opt p2
        unfold gSplitO at e1
        split at e1
        · rename_i b
          obtain ⟨hl, e1⟩ := reqs e1
          subst e1
          have hy := ok2.topStr
          subst hy
          refine ⟨a, _, rfl, rfl, hl.1, Nat.le_trans (Nat.add_le_add_right hl.2 2) (by decide), fun p hp => q _ _ ?_⟩
          have := ok2.pop.pop.newOwnD (vs := (Txt.split a b).map V.str) (ds := (Txt.split a b).map PyData.str) hp fun I Fw _ _ => drAll_strs (Txt.split a b)
          rw [List.map_map] at this
          exact this
        · cases e1
      | _ => exact False.elim p2
    | _ => exact False.elim p1
  | _ => exact False.elim p1
/-- x + y as an own list -/
def gAddO : T → T → Option T
  | .d (.list a), .d (.list b) => if a.length + b.length ≤ lim then some (.lst ((a ++ b).map T.d)) else none
  | _, _ => none
theorem od_addO {K : PySem.W.Frag} {m : List Bool} : OpD K m (rAdd4 K) gAddO := fun B σ H ρ ws ts x y t u v Q ok e q => by
  unfold gAddO at e
  split at e
  · obtain ⟨hl, e⟩ := reqs e
    subst e
    obtain ⟨I, Fr, Fw, s, r, wz, km⟩ := id ok
    obtain ⟨b, us, e1, hb, db⟩ := lst_items wz
    subst e1
    obtain ⟨G, w'⟩ := wz.tail
    obtain ⟨a, vs, e2, ha, da⟩ := lst_items w'
    subst e2
    have nf : ∀ p, H p = none → ∀ c ∈ Fr ++ Fw, (upd H p (.lst (vs ++ us))) c = H c := fun p hp c z => upd_ne (show c ≠ p from fun e => s.thr c z (by rw [e]; exact hp))
    refine .inr (.inr (.inl ⟨a, b, vs, us, rfl, rfl, s.sub _ _ ha, s.sub _ _ hb, by rw [da.len, db.len]; exact lim_le hl, fun p hp => q _ _ ?_⟩))
    have z : Ok K m B σ (upd H p (.lst (vs ++ us))) ρ (.ref p :: .ref b :: .ref a :: ws) _ := ⟨I, Fr, p :: Fw, (s.newO hp).perm List.perm_middle.symm, r.mono (Same.refl _) fun c z => nf p hp c (List.mem_append_left _ z), .cons (F := [p]) (.lst upd_same (RepTs.ofD (da.append db))) (wz.mono (Same.refl _) fun c z => nf p hp c (List.mem_append_right _ z)), km⟩
    exact Ok.pop2 (Ok.pop2 z)
  · cases e
end
end DL
end
section
set_option Elab.async false
set_option linter.all false
set_option maxRecDepth 100000
set_option maxHeartbeats 4000000
/-! DMK: what is never reached; lists of own defs; defs with parameters by name alone. -/
namespace DL
open PySem L2 PySem.Spec PyProof.Rows

/-! ### what is never reached -/
section
variable {X : Cx} {w : Wd} {st : Stmt} {ss : List Stmt} {e o : Expr} {fo : M T} {name : Str} {apos pos : Pos}
theorem ds_dead : DS X w st (mno : M Fl) := ⟨fun _ _ _ => False, ⟨fun _ _ _ _ _ _ h => h.elim⟩, fun _ _ _ _ _ _ _ _ p => (show False from p)⟩
theorem dss_dead : DSs X w ss (mno : M Fl) := ⟨fun _ _ _ => False, ⟨fun _ _ _ _ _ _ h => h.elim⟩, fun _ _ _ _ _ _ _ _ p => (show False from p)⟩
theorem de_dead : DE X w e (mno : M T) := ⟨fun _ _ _ => False, ⟨fun _ _ _ _ _ _ h => h.elim⟩, fun _ _ _ _ _ _ _ _ p => (show False from p)⟩
/-- o.name(), o raises -/
theorem de_mdead (ho : DE X w o fo) (hbase : attributeBase o name X.env (eval o X.env) = eval o X.env := by rfl) (hline : (apos.endLine == pos.line) = true := by rfl) : DE X w (.Call (.Attribute o name apos) [] [] pos) (mbind fo fun _ => (mno : M T)) := by
  obtain ⟨t, pt, dt⟩ := ho.ex
  refine ⟨fun σ H Q => t σ H fun _ _ => False, ⟨fun pins s σ H Q I h => PySem.Call_method0 hbase hline (thn (pt.run pins s σ H _ I h) fun v s1 ⟨x, H1, I1, r1, q1⟩ => q1.elim)⟩, fun B σ H ρ ws ts Q ok p => ?_⟩
  exact dt B σ H ρ ws ts _ ok (p.bind.mono fun v ρ1 p1 x H1 ok1 => (show False from p1))
end

/-! ### lists of own defs -/
section
variable {K : PySem.W.Frag} {m : List Bool} {B : Bs} {σ : L2.St} {H : Hp} {ρ : Rho} {ws : List V} {ts : List T}
theorem Ok.topFns {x : V} {ns : List Str} (h : Ok K m B σ H ρ (x :: ws) (.fns ns :: ts)) : ∃ a vs, x = .ref a ∧ H a = some (.lst vs) ∧ FnVs K vs ns := by
  obtain ⟨I, Fr, Fw, s, r, w, km⟩ := h
  cases w with
  | cons a b =>
    cases a with
    | fns q1 q => exact ⟨_, _, rfl, s.sub _ _ q1, q⟩
theorem fnVs_pending : ∀ {vs : List V} {ns : List Str} {I : Hp} {ws : List V} {ts : List T} {F : List Addr}, vs.length = ns.length → RepTs K I H (vs ++ ws) (ns.map T.fn ++ ts) F → FnVs K vs ns
  | [], [], _, _, _, _, _, _ => .nil
  | [], _ :: _, _, _, _, _, e, _ => by cases e
  | _ :: _, [], _, _, _, _, e, _ => by cases e
  | v :: vs, n :: ns, I, ws, ts, F, e, h => by
    cases h with
    | cons a b =>
      cases a with
      | fn q => exact .cons q (fnVs_pending (by simpa using e) b)
theorem Ok.newFns {vs : List V} {ns : List Str} {p : Addr} (h : Ok K m B σ H ρ ws ts) (hp : H p = none) (q : FnVs K vs ns) : Ok K m B σ (upd H p (.lst vs)) ρ (.ref p :: ws) (.fns ns :: ts) := by
  obtain ⟨I, Fr, Fw, s, r, w, km⟩ := h
  have hI := (s.fresh hp).2.1
  have sm : Same I (upd I p (.lst vs)) := fun a u e => by rw [upd_ne (ne_of_none e hI)]; exact e
  have nf : ∀ a ∈ Fr ++ Fw, (upd H p (.lst vs)) a = H a := fun a z => upd_ne (show a ≠ p from fun e => s.thr a z (by rw [e]; exact hp))
  exact ⟨_, Fr, Fw, s.newD hp, r.mono sm fun a z => nf a (List.mem_append_left _ z), .cons (F := []) (.fns upd_same q) (w.mono sm fun a z => nf a (List.mem_append_right _ z)), km⟩
end
def allFn : List T → Option (List Str)
  | [] => some []
  | .fn n :: ts => (allFn ts).map (n :: ·)
  | _ :: _ => none
theorem allFn_eq : ∀ {ts : List T} {ns : List Str}, allFn ts = some ns → ts = ns.map T.fn
  | [], _, e => by cases e; rfl
  | .fn n :: ts, _, e => by
    unfold allFn at e
    cases q : allFn ts with
    | none => rw [q] at e; cases e
    | some es => rw [q] at e; cases e; rw [List.map_cons, allFn_eq q]
/-- [f, g, ..] -/
def dfns (fs : M (List T)) : M T := mbind fs fun ts => match allFn ts with
  | some ns => if short ns = true then mret (.fns ns) else mno
  | none => mno
section
variable {X : Cx} {w : Wd} {es : List Expr} {os : List (Option Nat)} {fs : M (List T)} {pos p : Pos} {e : Expr} {f : M T}
theorem de_fns (h : DA X w es os fs) : DE X w (.List es pos) (dfns fs) := by
  obtain ⟨t, p, d⟩ := h.ex
  refine de_v (pe_lst p) fun B σ H ρ ws ts Q ok q => ?_
  refine d B σ H ρ ws ts _ ok (q.bind.mono fun vs ρ1 p1 xs H1 hl ok1 _ => ?_)
  cases e1 : allFn vs with
  | none => rw [e1] at p1; exact p1.elim
  | some ns =>
    rw [e1] at p1
    simp only at p1
    have hv := allFn_eq e1
    subst hv
    by_cases hz : short ns = true
    · rw [if_pos hz] at p1
      rw [List.length_map] at hl
      have fv : FnVs X.K xs ns := by
        obtain ⟨I, Fr, Fw, s, r, wz, km⟩ := id ok1
        exact fnVs_pending hl wz
      exact ⟨by rw [hl]; exact lim_le (of_decide_eq_true hz), fun p hp => p1 _ _ (Ok.popAll (by rw [hl, List.length_map]) (ok1.newFns hp fv))⟩
    · rw [if_neg hz] at p1
      exact p1.elim
def gAddF : T → T → Option T
  | .fns a, .fns b => if a.length + b.length ≤ lim then some (.fns (a ++ b)) else none
  | _, _ => none
theorem od_addF {K : PySem.W.Frag} {m : List Bool} : OpD K m (rAdd4 K) gAddF := fun B σ H ρ ws ts x y t u v Q ok e q => by
  unfold gAddF at e
  split at e
  · obtain ⟨hl, e⟩ := reqs e
    subst e
    obtain ⟨b, us, e1, hb, db⟩ := ok.topFns
    obtain ⟨a, vs, e2, ha, da⟩ := ok.pop.topFns
    subst e1 e2
    refine .inr (.inr (.inl ⟨a, b, vs, us, rfl, rfl, ha, hb, by rw [da.len, db.len]; exact lim_le hl, fun p hp => q _ _ ?_⟩))
    exact Ok.pop2 (Ok.pop2 (ok.newFns hp (FnVs.append db da)))
  · cases e
/-- for x in a list of own defs -/
def sforF (f : M T) (g : T → M Unit) (F : M Fl) : M Fl := mbind f fun t => match t with
  | .fns ns => mfor g F (ns.map T.fn)
  | _ => mno
theorem dsf_for {tg iter : Expr} {body : List Stmt} {g : T → M Unit} {S : List Nat} {F : M Fl} {k : Nat} (at_ : At X w k) (hi : DE X w iter f) (hg : DG X w tg S g) (hb : DSs X w body F) (hs : ∀ x, foldedSetIterable iter X.env x = pure x := by intro _; rfl) : DS X w (.For tg iter body [] pos) (sforF f g F) := by
  obtain ⟨ti, pi, di⟩ := hi.ex
  obtain ⟨tg', pg, dg⟩ := hg.ex
  obtain ⟨tb, pb, db⟩ := hb.ex
  refine ⟨_, ps_for at_.po at_.ca (pi_list pi) pg pb hs, fun B σ H ρ ws ts D ok q => ?_⟩
  refine di B σ H ρ ws ts _ ok (q.bind.mono fun t ρ1 p1 x H1 ok1 => ?_)
  cases t with
  | fns ns =>
    obtain ⟨a, vs, e1, ha, dd⟩ := ok1.topFns
    subst e1
    have p1 : PostG X.K w B (mfor g F (ns.map T.fn) ρ1) (PostS X.K w B ws ts D) := p1
    refine ⟨a, rfl, ⟨vs, SqL.of ha⟩, ?_⟩
    refine ⟨fun i n σ H => n = ns.length - i ∧ i ≤ ns.length ∧ ∃ ρ, Ok X.K w.m B σ H ρ (.ref a :: ws) (.fns ns :: ts) ∧ PostG X.K w B (mfor g F ((ns.drop i).map T.fn) ρ) (PostS X.K w B ws ts D), ⟨ns.length, rfl, Nat.zero_le _, ρ1, ok1, p1⟩, ?_⟩
    rintro i n σ2 H2 ⟨rfl, hi, ρ2, ok2, p2⟩
    obtain ⟨a', vs2, e3, hH, fv⟩ := ok2.topFns
    cases e3
    by_cases hlt : i < ns.length
    · obtain ⟨b, hv, hn⟩ := fv.get (i := i) (n := ns[i]) (by simp [hlt])
      refine .inr ⟨⟨vs2, .ref b, SqL.of hH, hv⟩, fun σ H => i + 1 ≤ ns.length ∧ ∃ ρ, Ok X.K w.m B σ H ρ (.ref a :: ws) (.fns ns :: ts) ∧ PostG X.K w B (mfor g F ((ns.drop (i + 1)).map T.fn) ρ) (PostS X.K w B ws ts D), fun σ' H' h => ⟨ns.length - (i + 1), by omega, rfl, h.1, h.2⟩, fun x H' y => ?_⟩
      have ok3 : Ok X.K w.m B σ2 H' ρ2 (x :: .ref a :: ws) (.fn ns[i] :: .fns ns :: ts) := by
        obtain ⟨e, y⟩ := y
        subst e
        have hx := y vs2 (SqL.of hH)
        rw [hv] at hx
        cases hx
        exact ok2.pushFn hn
      rw [List.drop_eq_getElem_cons hlt, List.map_cons] at p2
      have p3 : PostG X.K w B (g (.fn ns[i]) ρ2) _ := PostG.bind p2
      refine dg B σ2 H' ρ2 _ _ x _ _ ok3 (p3.mono fun _ ρ4 p4 σ4 H4 _ ok4 => ?_)
      refine db B σ4 H4 ρ4 _ _ _ ok4 ((PostG.bind p4).mono fun fl ρ5 p5 => ?_)
      cases fl with
      | nx => exact fun σ' H' ok' => ⟨hlt, ρ5, ok', p5⟩
      | ct => exact fun σ' H' ok' => ⟨hlt, ρ5, ok', p5⟩
      | bk => exact fun σ' H' ok' => (show ∀ σ' H', Ok X.K w.m B σ' H' ρ5 ws ts → D.nx σ' H' from p5) σ' H' ok'.pop
      | rt v => exact fun x σ' H' ok' => (show ∀ x σ' H', Ok X.K w.m B σ' H' ρ5 (x :: ws) (v :: ts) → D.rt x H' from p5) x σ' H' ok'.pop2
    · have e : i = ns.length := by omega
      subst e
      rw [List.drop_length, List.map_nil] at p2
      exact .inl ⟨⟨vs2, SqL.of hH, by rw [fv.len]; exact Nat.le_refl _⟩, (show ∀ σ' H', Ok X.K w.m B σ' H' ρ2 ws ts → D.nx σ' H' from p2) σ2 H2 ok2.pop⟩
  | _ => exact (show False from p1).elim
end
/-! ### defs with parameters by name alone that are left out -/
structure HasFnK (K : PySem.W.Frag) (x : Str) (st : Stmt) (kws : List (Str × V)) : Prop where
  ex : ∃ f fd, PySem.W.nsIn K mainGlobals x = some (some (.ref f)) ∧ Fun K x x st f fd ∧ FunD K x x (defArgs st) (defBody st) (defScope st) [] kws f fd
theorem HasFnK.by_ {K : PySem.W.Frag} {x : Str} {st : Stmt} {kws : List (Str × V)} {f D : Addr} {oc : Value} {od an : Option Addr} {osl : Array (Option Value)} {doc pm cdv ct : Value} (a : PySem.W.nsIn K mainGlobals x = some (some (.ref f)))
    (l : K.lookup f = some ⟨oc, od, .func (PySem.W.fnOf x x (defArgs st) (defBody st) (defScope st) .none (.ref D) doc pm an cdv ct), osl⟩) (c : PySem.W.codeIn K cdv x = true) (k : PySem.W.keepIn K (.ref f) = true)
    (h : ∀ q ∈ kws, ∃ u, PySem.W.nsIn K D q.1 = some (some u) ∧ RelV q.2 u) : HasFnK K x st kws :=
  ⟨f, _, a, fun_mk l c k, ⟨⟨oc, od, .none, .ref D, doc, pm, an, cdv, ct, osl, rfl, l, c, .inl ⟨rfl, rfl⟩, .inr ⟨D, rfl, h⟩⟩, k⟩⟩
structure HasMkK (K : PySem.W.Frag) (cn qual : Str) (st : Stmt) (kws : List (Str × V)) : Prop where
  ex : ∃ C f fd, PySem.W.nsIn K mainGlobals cn = some (some (.ref C)) ∧ Mk K C f ∧ Fun K "__init__" qual st f fd ∧ FunD K "__init__" qual (defArgs st) (defBody st) (defScope st) [] kws f fd
theorem HasMkK.by_ {K : PySem.W.Frag} {cn qual : Str} {st : Stmt} {kws : List (Str × V)} {C fa D : Addr} {oc : Value} {od an : Option Addr} {osl : Array (Option Value)} {doc pm cdv ct : Value} (a : PySem.W.nsIn K mainGlobals cn = some (some (.ref C))) (mk : PySem.W.makesIn K C = true) (i : PySem.W.findIn K (.ref C) "__init__" = some (some (.ref fa))) (fn : PySem.W.isFn K (.ref fa) = true) (kc : PySem.W.keepIn K (.ref C) = true) (kf : PySem.W.keepIn K (.ref fa) = true)
    (l : K.lookup fa = some ⟨oc, od, .func (PySem.W.fnOf "__init__" qual (defArgs st) (defBody st) (defScope st) .none (.ref D) doc pm an cdv ct), osl⟩) (c : PySem.W.codeIn K cdv qual = true)
    (h : ∀ q ∈ kws, ∃ u, PySem.W.nsIn K D q.1 = some (some u) ∧ RelV q.2 u) : HasMkK K cn qual st kws :=
  ⟨C, fa, _, a, ⟨mk, i, fn, kc⟩, fun_mk l c kf, ⟨⟨oc, od, .none, .ref D, doc, pm, an, cdv, ct, osl, rfl, l, c, .inl ⟨rfl, rfl⟩, .inr ⟨D, rfl, h⟩⟩, kf⟩⟩
/-- its meaning with the last ones filled in -/
def cutFn (n : Nat) (dts : List PyData) (g : Fn) : Fn := fun ts => match g (ts ++ dts.map T.d) with
  | .ok v ρ => .ok v (ρ.take n)
  | .ex e ρ => .ex e (ρ.take n)
  | .no => .no
section
variable {P : Program} {w : World} {K : PySem.W.Frag} {mg : Str → Option Value} {base : Heap} {k n : Nat} {f : Addr} {fd : FuncData} {ps : List Str} {I H : Hp}
theorem repTs_app {us : List V} {xs : List T} {G : List Addr} (h' : RepTs K I H us xs G) : ∀ {vs : List V} {ts : List T} {F : List Addr}, RepTs K I H vs ts F → RepTs K I H (vs ++ us) (ts ++ xs) (F ++ G)
  | _, _, _, .nil => h'
  | _, _, _, .cons (F := F1) (G := G1) a r => by
    have := RepTs.cons a (repTs_app h' r)
    rw [List.append_assoc]
    exact this
theorem repR_take {dvs : List V} : ∀ {vs : List V} {ρ : Rho} {F : List Addr}, RepR K I H ((vs ++ dvs).map some) ρ F → ∃ F', RepR K I H (vs.map some) (ρ.take vs.length) F' ∧ F'.Sublist F
  | [], ρ, F, _ => ⟨[], by rw [List.length_nil, List.take_zero]; exact .nil, List.nil_sublist _⟩
  | v :: vs, ρ, F, h => by
    have h : RepR K I H (some v :: (vs ++ dvs).map some) ρ F := h
    cases h with
    | hid r =>
      obtain ⟨F', h1, h2⟩ := repR_take (vs := vs) r
      exact ⟨F', .hid h1, h2⟩
    | has a r =>
      obtain ⟨F', h1, h2⟩ := repR_take (vs := vs) r
      exact ⟨_, .has a h1, List.Sublist.append (List.Sublist.refl _) h2⟩
theorem Sit.slots {F Fr : List Addr} {z z' : L2.St} {I' H' : Hp} (s : Sit ⟨I, H, F, z⟩ I' H' Fr) : Sit ⟨I, H, F, z'⟩ I' H' Fr := ⟨s.sub, s.ext, s.keep, s.new, s.fr, s.own, s.thr, s.nd⟩
theorem FnGd.ofK {dvs : List V} {ds : List Value} {dts : List PyData} {g : Fn} (F : FnG P w K mg base k f fd ps (FnD K mg (n + dts.length) g)) (hd : Vals dvs ds) (hr : ∀ I, DrAll K I dvs dts) : FnGd P w K mg base k f fd ps ds (FnD K mg n (cutFn n dts g)) :=
  F |> fun F => FnGd.dflt F hd fun vs H Q E z => by
    obtain ⟨hl, I, Fa, ts, sit, rep, q⟩ := z
    refine ⟨by rw [List.length_append, hl, (hr I).len], I, Fa, ts ++ dts.map T.d, sit.slots, ?_, ?_⟩
    · have := repTs_app (RepTs.ofD (H := H) (hr I)) rep
      rw [List.append_nil] at this
      exact this
    · unfold cutFn at q
      cases e : g (ts ++ dts.map T.d) with
      | no => rw [e] at q; exact q.elim
      | ok v ρ' =>
        rw [e] at q
        intro x H' ok
        obtain ⟨I', Fr, Fw, s', r', w', km⟩ := ok
        obtain ⟨F', h1, h2⟩ := repR_take (vs := vs) r'
        rw [hl] at h1
        refine (show ∀ x H', Ok K [] ⟨I, H, Fa, vs.map some⟩ (vs.map some) H' (ρ'.take n) [x] [v] → Q x H' from q) x H' ⟨I', F', Fw, Sit.slots (s'.less (fun a m => ?_) ((List.Sublist.append h2 (List.Sublist.refl _)).nodup s'.nd)), h1, w', Kept.nil⟩
        rcases List.mem_append.mp m with m | m
        · exact List.mem_append_left _ (h2.subset m)
        · exact List.mem_append_right _ m
      | ex er ρ' =>
        rw [e] at q
        intro c d H' ok
        obtain ⟨I', Fr, us', s', r', km, hc, hd, hf⟩ := ok
        obtain ⟨F', h1, h2⟩ := repR_take (vs := vs) r'
        rw [hl] at h1
        exact (show ∀ c d H', OkX K [] mg ⟨I, H, Fa, vs.map some⟩ (vs.map some) H' (ρ'.take n) er c d → E c d H' from q) c d H' ⟨I', F', us', Sit.slots (s'.less (fun a m => h2.subset m) (h2.nodup s'.nd)), h1, Kept.nil, hc, hd, hf⟩
theorem Def.ofK {x qual : Str} {st : Stmt} {dvs : List V} {dts : List PyData} {g : Fn} (U : Fun K x qual st f fd) (hm : mg x = some (.ref f)) (F : FnG P w K mg base k f fd ps (FnD K mg (n + dts.length) g)) (b : ∃ ds, Vals dvs ds ∧ Binds K fd ps ds) (hr : ∀ I, DrAll K I dvs dts) : Def P w K mg base x k n (cutFn n dts g) := by
  obtain ⟨ds, hd, b⟩ := b
  exact ⟨f, fd, ps, ds, .ofK F hd hr, hm, U.kp, b⟩
theorem DefI.ofK {cn : Str} {C : Addr} {dvs : List V} {dts : List PyData} {g : Fn} (hC : PySem.W.nsIn K mainGlobals cn = some (some (.ref C))) (hm : mg cn = some (.ref C)) (M : Mk K C f) (F : FnG P w K mg base k f fd ps (FnD K mg (n + dts.length) g)) (b : ∃ ds, Vals dvs ds ∧ Binds K fd ps ds) (hr : ∀ I, DrAll K I dvs dts) : DefI P w K mg base cn k n (cutFn n dts g) := by
  obtain ⟨ds, hd, b⟩ := b
  exact ⟨⟨C, f, fd, ps, ds, hC, hm, M, .ofK F hd hr, b⟩⟩
end
end DL
end
section
set_option Elab.async false
set_option linter.all false
set_option maxRecDepth 100000
set_option maxHeartbeats 4000000
/-! PL1: what a piece of code comes to, in plain Lean. -/
namespace DL
open PySem L2

/-- it ends well, with P -/
def Ends {α : Type} (r : R α) (P : α → Rho → Prop) : Prop := match r with
  | .ok a ρ => P a ρ
  | _ => False
section
variable {α β : Type} {ρ ρ' : Rho} {P P' : α → Rho → Prop}
theorem Ends.ok {a : α} (h : P a ρ) : Ends (.ok a ρ) P := h
theorem Ends.eq {r : R α} {a : α} (e : r = .ok a ρ) (h : P a ρ) : Ends r P := by rw [e]; exact h
theorem Ends.get {r : R α} (h : Ends r P) : ∃ a ρ, r = .ok a ρ ∧ P a ρ := by
  cases r with
  | ok a ρ => exact ⟨a, ρ, rfl, h⟩
  | ex _ _ => exact h.elim
  | no => exact h.elim
theorem Ends.mono {r : R α} (h : Ends r P) (k : ∀ a ρ, P a ρ → P' a ρ) : Ends r P' := by
  obtain ⟨a, ρ, e, q⟩ := h.get
  rw [e]
  exact k a ρ q
theorem ends_bind {f : M α} {g : α → M β} {P : β → Rho → Prop} (h : Ends (f ρ) fun a ρ' => Ends (g a ρ') P) : Ends (mbind f g ρ) P := by
  obtain ⟨a, ρ', e, q⟩ := h.get
  unfold mbind
  rw [e]
  exact q
theorem ends_bind' {f : M α} {g : α → M β} {a : α} {P : β → Rho → Prop} (e : f ρ = .ok a ρ') (h : Ends (g a ρ') P) : Ends (mbind f g ρ) P := ends_bind (.eq e h)
/-- behind a statement -/
def AfterS (G : M Fl) (P : Fl → Rho → Prop) : Fl → Rho → Prop
  | .nx, ρ => Ends (G ρ) P
  | .rt t, ρ => P (.rt t) ρ
  | .bk, ρ => P .bk ρ
  | .ct, ρ => P .ct ρ
theorem ends_seq {F G : M Fl} {P : Fl → Rho → Prop} (h : Ends (F ρ) (AfterS G P)) : Ends (mseq F G ρ) P := by
  refine ends_bind (h.mono fun fl ρ' q => ?_)
  cases fl <;> exact q
theorem ends_nx {F G : M Fl} {P : Fl → Rho → Prop} (e : F ρ = .ok .nx ρ') (h : Ends (G ρ') P) : Ends (mseq F G ρ) P := ends_seq (.eq e h)
/-- a def's end -/
def OfFn (m : List Bool) (P : T → Rho → Prop) : Fl → Rho → Prop
  | .rt v, ρ => P v (keepm m ρ)
  | .nx, ρ => P (.d .none) (keepm m ρ)
  | _, _ => False
theorem ends_fn {n : Nat} {m : List Bool} {F : M Fl} {ts : List T} {P : T → Rho → Prop} (h : Ends (F (ts.map some ++ List.replicate (n - ts.length) none)) (OfFn m P)) : Ends (dfn n m F ts) P := by
  obtain ⟨fl, ρ', e, q⟩ := h.get
  unfold dfn
  rw [e]
  cases fl <;> first | exact q | exact q.elim
theorem Good.of {g : Fn} {ns : List Int} (h : Ends (g [.scr ns]) fun v _ => v = .d (.bool true)) : Good g ns := by
  obtain ⟨v, ρ, e, rfl⟩ := h.get
  exact ⟨ρ, e⟩
end
/-- a call -/
theorem ends_call {g : Fn} {os : List (Option Nat)} {fs : M (List T)} {vs : List T} {ρ ρ' : Rho} {P : T → Rho → Prop} (e : fs ρ = .ok vs ρ') (h : Ends (g vs) fun r ρa => P r (restore os ρa ρ')) : Ends (dcall g os fs ρ) P := by
  refine ends_bind' e ?_
  obtain ⟨r, ρa, e2, q⟩ := h.get
  unfold dcallF
  rw [e2]
  exact q
/-- the walks of a loop: J holds ahead of each turn -/
theorem ends_for {g : T → M Unit} {F : M Fl} {P : Fl → Rho → Prop} (J : List T → Rho → Prop) : ∀ {ts : List T} {ρ : Rho}, J ts ρ → (∀ ρ, J [] ρ → P .nx ρ) →
    (∀ t ts ρ, J (t :: ts) ρ → Ends (g t ρ) fun _ ρ1 => Ends (F ρ1) fun fl ρ2 => match fl with
      | .nx => J ts ρ2
      | .ct => J ts ρ2
      | .bk => P .nx ρ2
      | .rt v => P (.rt v) ρ2) → Ends (mfor g F ts ρ) P
  | [], ρ, h, h0, _ => h0 ρ h
  | t :: ts, ρ, h, h0, hs => by
    unfold mfor
    refine ends_bind ((hs t ts ρ h).mono fun _ ρ1 h1 => ends_bind (h1.mono fun fl ρ2 h2 => ?_))
    cases fl with
    | nx => exact ends_for J h2 h0 hs
    | ct => exact ends_for J h2 h0 hs
    | bk => exact h2
    | rt v => exact h2
/-! ### comprehensions whose parts compute -/
theorem toDs_map : ∀ ds : List PyData, toDs (ds.map T.d) = some ds
  | [] => rfl
  | d :: ds => by rw [List.map_cons, toDs, toDs_map ds]; rfl
theorem lc_pure {vs : List Nat} {g : T → M Unit} {fe : M T} {ρ : Rho} {F : PyData → PyData} : ∀ {ds acc : List PyData}, (∀ d ∈ ds, ∃ ρ1 ρ2, g (.d d) ρ = .ok () ρ1 ∧ fe ρ1 = .ok (.d (F d)) ρ2 ∧ wipeR ρ2 vs = ρ) → acc.length + ds.length ≤ lim →
    lcGo vs g (mret true) fe (ds.map T.d) (acc.map T.d) ρ = .ok ((acc ++ ds.map F).map T.d) ρ
  | [], acc, _, _ => by
    show R.ok (acc.map T.d) ρ = _
    rw [List.map_nil, List.append_nil]
  | d :: ds, acc, h, hl => by
    obtain ⟨ρ1, ρ2, e1, e2, e3⟩ := h d List.mem_cons_self
    have hlt : (acc.map T.d).length < lim := by rw [List.length_map]; rw [List.length_cons] at hl; omega
    have ih := lc_pure (vs := vs) (g := g) (fe := fe) (ρ := ρ) (F := F) (ds := ds) (acc := acc ++ [F d]) (fun d' m => h d' (List.mem_cons_of_mem _ m)) (by rw [List.length_append]; rw [List.length_cons] at hl; simp; omega)
    rw [List.map_append] at ih
    rw [List.map_cons]
    unfold lcGo
    simp only [mbind, e1, mret, if_true, e2, mwipe, e3, if_pos hlt]
    rw [List.map_cons, List.map_nil] at ih
    rw [ih, List.map_cons]
    simp
theorem dlc_pure {fi : M (List PyData)} {vs : List Nat} {g : T → M Unit} {fe : M T} {ρ0 ρ1 : Rho} {ds : List PyData} (F : PyData → PyData) (hi : fi ρ0 = .ok ds ρ1) (h : ∀ d ∈ ds, ∃ ρ2 ρ3, g (.d d) (wipeR ρ1 vs) = .ok () ρ2 ∧ fe ρ2 = .ok (.d (F d)) ρ3 ∧ wipeR ρ3 vs = wipeR ρ1 vs)
    (hl : ds.length ≤ lim) : dlc fi vs g (mret true) fe ρ0 = .ok (.d (.list (ds.map F))) (wipeR ρ1 vs) := by
  have := lc_pure (acc := []) h (by simpa using hl)
  unfold dlc dthaw dlcO
  simp only [mbind, hi, mwipe, mnoex]
  rw [List.map_nil, List.nil_append] at this
  rw [this]
  simp only [mret, toD, toDs_map]
  rfl
theorem lc_filter {vs : List Nat} {g : T → M Unit} {tt : M Bool} {fe : M T} {ρ : Rho} {c : PyData → Bool} {F : PyData → PyData} : ∀ {ds acc : List PyData}, (∀ d ∈ ds, ∃ ρ1 ρ2, g (.d d) ρ = .ok () ρ1 ∧ tt ρ1 = .ok (c d) ρ2 ∧ (c d = true → ∃ ρ3, fe ρ2 = .ok (.d (F d)) ρ3 ∧ wipeR ρ3 vs = ρ) ∧ (c d = false → wipeR ρ2 vs = ρ)) → acc.length + ds.length ≤ lim →
    lcGo vs g tt fe (ds.map T.d) (acc.map T.d) ρ = .ok ((acc ++ (ds.filter c).map F).map T.d) ρ
  | [], acc, _, _ => by
    show R.ok (acc.map T.d) ρ = _
    rw [List.filter_nil, List.map_nil, List.append_nil]
  | d :: ds, acc, h, hl => by
    obtain ⟨ρ1, ρ2, e1, e2, e3, e4⟩ := h d List.mem_cons_self
    have hlt : (acc.map T.d).length < lim := by rw [List.length_map]; rw [List.length_cons] at hl; omega
    cases hc : c d with
    | true =>
      obtain ⟨ρ3, e5, e6⟩ := e3 hc
      have ih := lc_filter (vs := vs) (g := g) (tt := tt) (fe := fe) (ρ := ρ) (c := c) (F := F) (ds := ds) (acc := acc ++ [F d]) (fun d' m => h d' (List.mem_cons_of_mem _ m)) (by rw [List.length_append]; rw [List.length_cons] at hl; simp; omega)
      rw [List.map_append, List.map_cons, List.map_nil] at ih
      rw [List.map_cons, List.filter_cons_of_pos hc]
      unfold lcGo
      rw [hc] at e2
      simp only [mbind, e1, e2, if_true, e5, mwipe, e6, if_pos hlt]
      rw [ih, List.map_cons]
      simp
    | false =>
      have ih := lc_filter (vs := vs) (g := g) (tt := tt) (fe := fe) (ρ := ρ) (c := c) (F := F) (ds := ds) (acc := acc) (fun d' m => h d' (List.mem_cons_of_mem _ m)) (by rw [List.length_cons] at hl; omega)
      rw [List.map_cons, List.filter_cons_of_neg (by rw [hc]; decide)]
      unfold lcGo
      rw [hc] at e2
      simp only [mbind, e1, e2]
      rw [if_neg Bool.false_ne_true]
      simp only [mbind, mwipe, e4 hc]
      exact ih
theorem dlc_filter {fi : M (List PyData)} {vs : List Nat} {g : T → M Unit} {tt : M Bool} {fe : M T} {ρ0 ρ1 : Rho} {ds : List PyData} (c : PyData → Bool) (F : PyData → PyData) (hi : fi ρ0 = .ok ds ρ1)
    (h : ∀ d ∈ ds, ∃ ρ2 ρ3, g (.d d) (wipeR ρ1 vs) = .ok () ρ2 ∧ tt ρ2 = .ok (c d) ρ3 ∧ (c d = true → ∃ ρ4, fe ρ3 = .ok (.d (F d)) ρ4 ∧ wipeR ρ4 vs = wipeR ρ1 vs) ∧ (c d = false → wipeR ρ3 vs = wipeR ρ1 vs))
    (hl : ds.length ≤ lim) : dlc fi vs g tt fe ρ0 = .ok (.d (.list ((ds.filter c).map F))) (wipeR ρ1 vs) := by
  have := lc_filter (acc := []) h (by simpa using hl)
  unfold dlc dthaw dlcO
  simp only [mbind, hi, mwipe, mnoex]
  rw [List.map_nil, List.nil_append] at this
  rw [this]
  simp only [mret, toD, toDs_map]
  rfl
end DL
end
section
set_option maxRecDepth 100000
set_option linter.all false
/-! PL2: .. also where an exception leaves. -/
namespace DL
open PySem L2
/-- it ends with P, or an exception leaves, with E -/
def Outs {α : Type} (r : R α) (P : α → Rho → Prop) (E : Exn → Rho → Prop) : Prop := match r with
  | .ok a ρ => P a ρ
  | .ex e ρ => E e ρ
  | .no => False
section
variable {α β : Type} {ρ ρ' : Rho} {P P' : α → Rho → Prop} {E E' : Exn → Rho → Prop}
theorem Outs.eq {r : R α} {a : α} (e : r = .ok a ρ) (h : P a ρ) : Outs r P E := by rw [e]; exact h
theorem Outs.eqX {r : R α} {x : Exn} (e : r = .ex x ρ) (h : E x ρ) : Outs r P E := by rw [e]; exact h
theorem Outs.mono {r : R α} (h : Outs r P E) (k : ∀ a ρ, P a ρ → P' a ρ) (k' : ∀ e ρ, E e ρ → E' e ρ) : Outs r P' E' := by
  cases r with
  | ok a ρ => exact k _ _ h
  | ex e ρ => exact k' _ _ h
  | no => exact h
theorem Outs.ends {r : R α} (h : Outs r P fun _ _ => False) : Ends r P := by
  cases r with
  | ok a ρ => exact h
  | ex e ρ => exact h
  | no => exact h
theorem Ends.outs {r : R α} (h : Ends r P) : Outs r P E := by
  cases r with
  | ok a ρ => exact h
  | ex e ρ => exact h.elim
  | no => exact h
theorem outs_bind {f : M α} {g : α → M β} {P : β → Rho → Prop} (h : Outs (f ρ) (fun a ρ' => Outs (g a ρ') P E) E) : Outs (mbind f g ρ) P E := by
  unfold mbind
  cases e : f ρ with
  | ok a ρ' => rw [e] at h; exact h
  | ex x ρ' => rw [e] at h; exact h
  | no => rw [e] at h; exact h
theorem outs_bind' {f : M α} {g : α → M β} {a : α} {P : β → Rho → Prop} (e : f ρ = .ok a ρ') (h : Outs (g a ρ') P E) : Outs (mbind f g ρ) P E := outs_bind (.eq e h)
def AfterX (G : M Fl) (P : Fl → Rho → Prop) (E : Exn → Rho → Prop) : Fl → Rho → Prop
  | .nx, ρ => Outs (G ρ) P E
  | .rt t, ρ => P (.rt t) ρ
  | .bk, ρ => P .bk ρ
  | .ct, ρ => P .ct ρ
theorem outs_seq {F G : M Fl} {P : Fl → Rho → Prop} (h : Outs (F ρ) (AfterX G P E) E) : Outs (mseq F G ρ) P E := by
  refine outs_bind (h.mono (fun fl ρ' q => ?_) fun _ _ q => q)
  cases fl <;> exact q
theorem outs_nx {F G : M Fl} {P : Fl → Rho → Prop} (e : F ρ = .ok .nx ρ') (h : Outs (G ρ') P E) : Outs (mseq F G ρ) P E := outs_seq (.eq e h)
theorem outs_for {g : T → M Unit} {F : M Fl} {P : Fl → Rho → Prop} (J : List T → Rho → Prop) : ∀ {ts : List T} {ρ : Rho}, J ts ρ → (∀ ρ, J [] ρ → P .nx ρ) →
    (∀ t ts ρ, J (t :: ts) ρ → Outs (g t ρ) (fun _ ρ1 => Outs (F ρ1) (fun fl ρ2 => match fl with
      | .nx => J ts ρ2
      | .ct => J ts ρ2
      | .bk => P .nx ρ2
      | .rt v => P (.rt v) ρ2) E) E) → Outs (mfor g F ts ρ) P E
  | [], ρ, h, h0, _ => h0 ρ h
  | t :: ts, ρ, h, h0, hs => by
    unfold mfor
    refine outs_bind ((hs t ts ρ h).mono (fun _ ρ1 h1 => outs_bind (h1.mono (fun fl ρ2 h2 => ?_) fun _ _ q => q)) fun _ _ q => q)
    cases fl with
    | nx => exact outs_for J h2 h0 hs
    | ct => exact outs_for J h2 h0 hs
    | bk => exact h2
    | rt v => exact h2
def OfFnX (m : List Bool) (P : T → Rho → Prop) : Fl → Rho → Prop
  | .rt v, ρ => P v (keepm m ρ)
  | .nx, ρ => P (.d .none) (keepm m ρ)
  | _, _ => False
theorem outs_fn {n : Nat} {m : List Bool} {F : M Fl} {ts : List T} {P : T → Rho → Prop} (h : Outs (F (ts.map some ++ List.replicate (n - ts.length) none)) (OfFnX m P) (fun e ρ => E e (keepm m ρ))) : Outs (dfn n m F ts) P E := by
  unfold dfn
  cases e : F (ts.map some ++ List.replicate (n - ts.length) none) with
  | no => rw [e] at h; exact h
  | ex x ρ' => rw [e] at h; exact h
  | ok fl ρ' =>
    rw [e] at h
    cases fl <;> first | exact h | exact False.elim h
theorem outs_call {g : Fn} {os : List (Option Nat)} {fs : M (List T)} {vs : List T} {ρ ρ' : Rho} {P : T → Rho → Prop} (e : fs ρ = .ok vs ρ') (h : Outs (g vs) (fun r ρa => P r (restore os ρa ρ')) (fun x ρa => E x (restore os ρa ρ'))) : Outs (dcall g os fs ρ) P E := by
  refine outs_bind' e ?_
  unfold dcallF
  cases e2 : g vs with
  | ok r ρa => rw [e2] at h; exact h
  | ex x ρa => rw [e2] at h; exact h
  | no => rw [e2] at h; exact h
/-- the first item that is bad ends a walk -/
theorem outs_find {γ : Type} {g : T → M Unit} {F : M Fl} (mk : γ → T) (bad : γ → Bool) (S : Rho → Prop) (PB : γ → Fl → Rho → Prop) (EB : γ → Exn → Rho → Prop) (all : List γ)
    (good : ∀ pre c post ρ, all = pre ++ c :: post → (∀ x ∈ pre, bad x = false) → S ρ → bad c = false → Outs (g (mk c) ρ) (fun _ ρ1 => Outs (F ρ1) (fun fl ρ2 => fl = .nx ∧ S ρ2) (fun _ _ => False)) (fun _ _ => False))
    (hbad : ∀ pre c post ρ, all = pre ++ c :: post → (∀ x ∈ pre, bad x = false) → S ρ → bad c = true → Outs (g (mk c) ρ) (fun _ ρ1 => Outs (F ρ1) (fun fl ρ2 => (∃ v, fl = .rt v) ∧ PB c fl ρ2) (EB c)) (fun _ _ => False)) :
    ∀ (cs pre : List γ) (ρ : Rho), all = pre ++ cs → (∀ x ∈ pre, bad x = false) → S ρ →
      Outs (mfor g F (cs.map mk) ρ) (fun fl ρ => (cs.find? bad = none ∧ fl = .nx ∧ S ρ) ∨ ∃ c, cs.find? bad = some c ∧ PB c fl ρ) (fun e ρ => ∃ c, cs.find? bad = some c ∧ EB c e ρ) := fun cs => by
  induction cs with
  | nil => exact fun pre ρ _ _ h => .inl ⟨rfl, rfl, h⟩
  | cons c cs ih =>
    intro pre ρ ha hp h
    rw [List.map_cons]
    unfold mfor
    cases hc : bad c with
    | true =>
      have hf : (c :: cs).find? bad = some c := by rw [List.find?_cons, hc]
      refine outs_bind ((hbad pre c cs ρ ha hp h hc).mono (fun _ ρ1 h1 => outs_bind (h1.mono (fun fl ρ2 h2 => ?_) fun e ρ q => ⟨c, hf, q⟩)) fun _ _ q => q.elim)
      obtain ⟨⟨v, rfl⟩, h2⟩ := h2
      exact .inr ⟨c, hf, h2⟩
    | false =>
      have hf : (c :: cs).find? bad = cs.find? bad := by rw [List.find?_cons, hc]
      rw [hf]
      refine outs_bind ((good pre c cs ρ ha hp h hc).mono (fun _ ρ1 h1 => outs_bind (h1.mono (fun fl ρ2 h2 => ?_) fun e ρ q => q.elim)) fun _ _ q => q.elim)
      obtain ⟨rfl, h2⟩ := h2
      exact ih (pre ++ [c]) ρ2 (by rw [ha, List.append_assoc]; rfl) (fun x m => by
        rcases List.mem_append.mp m with m | m
        · exact hp x m
        · rcases List.mem_singleton.mp m with rfl; exact hc) h2
/-- enumerate's pairs -/
def numD (p : PyData × Nat) : PyData := .tuple [.int p.2, p.1]
theorem numbered_zip : ∀ (ds : List PyData) (n : Nat), numbered n ds = (ds.zipIdx n).map numD
  | [], _ => rfl
  | d :: ds, n => by rw [List.zipIdx_cons, List.map_cons, ← numbered_zip ds (n + 1)]; rfl
end
end DL
end
section
set_option Elab.async false
set_option linter.all false
set_option maxRecDepth 100000
set_option maxHeartbeats 4000000
/-! PL3: comprehensions over described items, in plain Lean. -/
namespace DL
open PySem L2
theorem mbind_eq {α β : Type} {f : M α} {g : α → M β} {ρ ρ1 : Rho} {a : α} (h : f ρ = .ok a ρ1) : mbind f g ρ = g a ρ1 := by
  unfold mbind
  rw [h]
theorem lcG {γ : Type} {vs : List Nat} {g : T → M Unit} {tt : M Bool} {fe : M T} {ρ : Rho} {mk : γ → PyData} (c : γ → Bool) (F : γ → PyData) : ∀ {l : List γ} {acc : List PyData},
    (∀ x ∈ l, ∃ ρ1 ρ2, g (.d (mk x)) ρ = .ok () ρ1 ∧ tt ρ1 = .ok (c x) ρ2 ∧ (c x = true → ∃ ρ3, fe ρ2 = .ok (.d (F x)) ρ3 ∧ wipeR ρ3 vs = ρ) ∧ (c x = false → wipeR ρ2 vs = ρ)) → acc.length + l.length ≤ lim →
    lcGo vs g tt fe ((l.map mk).map T.d) (acc.map T.d) ρ = .ok ((acc ++ (l.filter c).map F).map T.d) ρ
  | [], acc, _, _ => by
    show R.ok (acc.map T.d) ρ = _
    simp
  | d :: ds, acc, h, hl => by
    obtain ⟨ρ1, ρ2, e1, e2, e3, e4⟩ := h d List.mem_cons_self
    have hlt : (acc.map T.d).length < lim := by rw [List.length_map]; rw [List.length_cons] at hl; omega
    cases hc : c d with
    | true =>
      obtain ⟨ρ3, e5, e6⟩ := e3 hc
      have ih := lcG (vs := vs) (g := g) (tt := tt) (fe := fe) (ρ := ρ) (mk := mk) c F (l := ds) (acc := acc ++ [F d]) (fun d' m => h d' (List.mem_cons_of_mem _ m)) (by rw [List.length_append]; rw [List.length_cons] at hl; simp; omega)
      rw [List.map_append, List.map_cons, List.map_nil] at ih
      rw [List.map_cons, List.map_cons, List.filter_cons_of_pos hc]
      unfold lcGo
      rw [hc] at e2
      simp only [mbind, e1, e2, if_true, e5, mwipe, e6, if_pos hlt]
      rw [ih, List.map_cons]
      simp
    | false =>
      have ih := lcG (vs := vs) (g := g) (tt := tt) (fe := fe) (ρ := ρ) (mk := mk) c F (l := ds) (acc := acc) (fun d' m => h d' (List.mem_cons_of_mem _ m)) (by rw [List.length_cons] at hl; omega)
      rw [List.map_cons, List.map_cons, List.filter_cons_of_neg (by rw [hc]; decide)]
      unfold lcGo
      rw [hc] at e2
      simp only [mbind, e1, e2]
      rw [if_neg Bool.false_ne_true]
      simp only [mbind, mwipe, e4 hc]
      exact ih
theorem dlcG {γ : Type} {fi : M (List PyData)} {vs : List Nat} {g : T → M Unit} {tt : M Bool} {fe : M T} {ρ0 ρ1 : Rho} {mk : γ → PyData} {l : List γ} (c : γ → Bool) (F : γ → PyData) (hi : fi ρ0 = .ok (l.map mk) ρ1)
    (h : ∀ x ∈ l, ∃ ρ2 ρ3, g (.d (mk x)) (wipeR ρ1 vs) = .ok () ρ2 ∧ tt ρ2 = .ok (c x) ρ3 ∧ (c x = true → ∃ ρ4, fe ρ3 = .ok (.d (F x)) ρ4 ∧ wipeR ρ4 vs = wipeR ρ1 vs) ∧ (c x = false → wipeR ρ3 vs = wipeR ρ1 vs))
    (hl : l.length ≤ lim) : dlc fi vs g tt fe ρ0 = .ok (.d (.list ((l.filter c).map F))) (wipeR ρ1 vs) := by
  have := lcG (acc := []) c F h (by simpa using hl)
  unfold dlc dthaw dlcO
  simp only [mbind, hi, mwipe, mnoex]
  rw [List.map_nil, List.nil_append] at this
  rw [this]
  simp only [mret, toD, toDs_map]
  rfl
/-- without a test -/
theorem dlcM {γ : Type} {fi : M (List PyData)} {vs : List Nat} {g : T → M Unit} {fe : M T} {ρ0 ρ1 : Rho} {mk : γ → PyData} {l : List γ} (F : γ → PyData) (hi : fi ρ0 = .ok (l.map mk) ρ1)
    (h : ∀ x ∈ l, ∃ ρ2 ρ4, g (.d (mk x)) (wipeR ρ1 vs) = .ok () ρ2 ∧ fe ρ2 = .ok (.d (F x)) ρ4 ∧ wipeR ρ4 vs = wipeR ρ1 vs)
    (hl : l.length ≤ lim) : dlc fi vs g (mret true) fe ρ0 = .ok (.d (.list (l.map F))) (wipeR ρ1 vs) := by
  have q := dlcG (fun _ => true) F hi (tt := mret true) (fun x hx => by
    obtain ⟨ρ2, ρ4, h1, h2, h3⟩ := h x hx
    exact ⟨ρ2, ρ2, h1, rfl, fun _ => ⟨ρ4, h2, h3⟩, fun z => nomatch z⟩) hl
  rw [q, List.filter_eq_self.mpr (fun _ _ => rfl)]
theorem lc2G {γ δ : Type} {vs vs1 : List Nat} {g g1 : T → M Unit} {fi1 : M (List PyData)} {tt1 : M Bool} {fe : M T} {ρ : Rho} {mk : γ → PyData} {E : γ → List δ} {mk1 : γ → δ → PyData} (c : γ → δ → Bool) (F : γ → δ → PyData) : ∀ {l : List γ} {acc : List PyData},
    (∀ x ∈ l, ∃ ρ1 ρ2, g (.d (mk x)) ρ = .ok () ρ1 ∧ fi1 ρ1 = .ok ((E x).map (mk1 x)) ρ2 ∧ wipeR (wipeR ρ2 vs1) vs = ρ ∧
      ∀ y ∈ E x, ∃ ρa ρb, g1 (.d (mk1 x y)) (wipeR ρ2 vs1) = .ok () ρa ∧ tt1 ρa = .ok (c x y) ρb ∧ (c x y = true → ∃ ρc, fe ρb = .ok (.d (F x y)) ρc ∧ wipeR ρc vs1 = wipeR ρ2 vs1) ∧ (c x y = false → wipeR ρb vs1 = wipeR ρ2 vs1)) →
    acc.length + (l.flatMap E).length ≤ lim →
    lc2Go vs g (mret true) fi1 vs1 g1 tt1 fe ((l.map mk).map T.d) (acc.map T.d) ρ = .ok ((acc ++ l.flatMap fun x => ((E x).filter (c x)).map (F x)).map T.d) ρ
  | [], acc, _, _ => by
    show R.ok (acc.map T.d) ρ = _
    simp
  | x :: l, acc, h, hl => by
    obtain ⟨ρ1, ρ2, e1, e2, e3, e4⟩ := h x List.mem_cons_self
    rw [List.flatMap_cons, List.length_append] at hl
    have q := lcG (c x) (F x) (l := E x) (acc := acc) e4 (by omega)
    have hf : ((E x).filter (c x)).length ≤ (E x).length := List.length_filter_le _ _
    have ih := lc2G (vs := vs) (vs1 := vs1) (g := g) (g1 := g1) (fi1 := fi1) (tt1 := tt1) (fe := fe) (ρ := ρ) (mk := mk) (E := E) (mk1 := mk1) c F (l := l) (acc := acc ++ ((E x).filter (c x)).map (F x)) (fun y m => h y (List.mem_cons_of_mem _ m)) (by rw [List.length_append, List.length_map]; omega)
    rw [List.map_cons, List.map_cons]
    unfold lc2Go
    refine (mbind_eq e1).trans ((mbind_eq (a := true) rfl).trans ?_)
    rw [if_pos rfl]
    refine (mbind_eq e2).trans ((mbind_eq (f := mwipe vs1) (a := ()) (ρ1 := wipeR ρ2 vs1) rfl).trans ((mbind_eq q).trans ((mbind_eq (f := mwipe vs) (a := ()) (ρ1 := ρ) (by show R.ok () (wipeR (wipeR ρ2 vs1) vs) = _; rw [e3])).trans ?_)))
    rw [ih, List.flatMap_cons, List.append_assoc]
theorem dlc2G {γ δ : Type} {fi fi1 : M (List PyData)} {vs vs1 : List Nat} {g g1 : T → M Unit} {tt1 : M Bool} {fe : M T} {ρ0 ρ' : Rho} {mk : γ → PyData} {l : List γ} {E : γ → List δ} {mk1 : γ → δ → PyData} (c : γ → δ → Bool) (F : γ → δ → PyData) (hi : fi ρ0 = .ok (l.map mk) ρ')
    (h : ∀ x ∈ l, ∃ ρ1 ρ2, g (.d (mk x)) (wipeR ρ' vs) = .ok () ρ1 ∧ fi1 ρ1 = .ok ((E x).map (mk1 x)) ρ2 ∧ wipeR (wipeR ρ2 vs1) vs = wipeR ρ' vs ∧
      ∀ y ∈ E x, ∃ ρa ρb, g1 (.d (mk1 x y)) (wipeR ρ2 vs1) = .ok () ρa ∧ tt1 ρa = .ok (c x y) ρb ∧ (c x y = true → ∃ ρc, fe ρb = .ok (.d (F x y)) ρc ∧ wipeR ρc vs1 = wipeR ρ2 vs1) ∧ (c x y = false → wipeR ρb vs1 = wipeR ρ2 vs1))
    (hl : (l.flatMap E).length ≤ lim) : dlc2 fi vs g (mret true) fi1 vs1 g1 tt1 fe ρ0 = .ok (.d (.list (l.flatMap fun x => ((E x).filter (c x)).map (F x)))) (wipeR ρ' vs) := by
  have q := lc2G (acc := []) c F h (by simpa using hl)
  rw [List.map_nil, List.nil_append] at q
  unfold dlc2 dthaw dlc2O
  simp only [mbind, hi, mwipe, mnoex]
  rw [q]
  simp only [mret, toD, toDs_map]
  rfl
theorem lcMO {γ : Type} {vs : List Nat} {g : T → M Unit} {fe : M T} {ρ : Rho} {mk : γ → PyData} (F : γ → T) : ∀ {l : List γ} {acc : List T},
    (∀ x ∈ l, ∃ ρ1 ρ3, g (.d (mk x)) ρ = .ok () ρ1 ∧ fe ρ1 = .ok (F x) ρ3 ∧ wipeR ρ3 vs = ρ) → acc.length + l.length ≤ lim →
    lcGo vs g (mret true) fe ((l.map mk).map T.d) acc ρ = .ok (acc ++ l.map F) ρ
  | [], acc, _, _ => by
    show R.ok acc ρ = _
    simp
  | d :: ds, acc, h, hl => by
    obtain ⟨ρ1, ρ3, e1, e2, e3⟩ := h d List.mem_cons_self
    have hlt : acc.length < lim := by rw [List.length_cons] at hl; omega
    have ih := lcMO (vs := vs) (g := g) (fe := fe) (ρ := ρ) (mk := mk) F (l := ds) (acc := acc ++ [F d]) (fun d' m => h d' (List.mem_cons_of_mem _ m)) (by rw [List.length_append]; rw [List.length_cons] at hl; simp; omega)
    rw [List.map_cons, List.map_cons]
    unfold lcGo
    simp only [mbind, e1, mret, if_true, e2, mwipe, e3, if_pos hlt]
    rw [ih, List.map_cons]
    simp
theorem dlcMO {γ : Type} {fi : M (List PyData)} {vs : List Nat} {g : T → M Unit} {fe : M T} {ρ0 ρ1 : Rho} {mk : γ → PyData} {l : List γ} (F : γ → T) (hi : fi ρ0 = .ok (l.map mk) ρ1)
    (h : ∀ x ∈ l, ∃ ρ2 ρ4, g (.d (mk x)) (wipeR ρ1 vs) = .ok () ρ2 ∧ fe ρ2 = .ok (F x) ρ4 ∧ wipeR ρ4 vs = wipeR ρ1 vs)
    (hl : l.length ≤ lim) : dlcO fi vs g (mret true) fe ρ0 = .ok (.lst (l.map F)) (wipeR ρ1 vs) := by
  have := lcMO (acc := []) F h (by simpa using hl)
  unfold dlcO
  simp only [mbind, hi, mwipe, mnoex]
  rw [this]
  rfl
/-! ### drawing in a comprehension -/
theorem ends_lc {vs : List Nat} {g : T → M Unit} {tt : M Bool} {fe : M T} {P : List T → Rho → Prop} (J : List T → List T → Rho → Prop) (hend : ∀ acc ρ, J [] acc ρ → P acc ρ)
    (step : ∀ t ts acc ρ, J (t :: ts) acc ρ → Ends (g t ρ) fun _ ρ1 => Ends (tt ρ1) fun b ρ2 => if b = true then Ends (fe ρ2) (fun u ρ3 => acc.length < lim ∧ J ts (acc ++ [u]) (wipeR ρ3 vs)) else J ts acc (wipeR ρ2 vs)) :
    ∀ {ts acc : List T} {ρ : Rho}, J ts acc ρ → Ends (lcGo vs g tt fe ts acc ρ) P
  | [], acc, ρ, h => hend acc ρ h
  | t :: ts, acc, ρ, h => by
    unfold lcGo
    refine ends_bind ((step t ts acc ρ h).mono fun _ ρ1 h1 => ends_bind (h1.mono fun b ρ2 h2 => ?_))
    cases b with
    | true =>
      rw [if_pos rfl] at h2 ⊢
      refine ends_bind (h2.mono fun u ρ3 h3 => ?_)
      refine ends_bind' (ρ' := wipeR ρ3 vs) (a := ()) rfl ?_
      rw [if_pos h3.1]
      exact ends_lc J hend step h3.2
    | false =>
      rw [if_neg Bool.false_ne_true] at h2 ⊢
      exact ends_bind' (ρ' := wipeR ρ2 vs) (a := ()) rfl (ends_lc J hend step h2)
theorem ends_dlcO {fi : M (List PyData)} {vs : List Nat} {g : T → M Unit} {tt : M Bool} {fe : M T} {ρ0 ρ1 : Rho} {ds : List PyData} {P : T → Rho → Prop} (hi : fi ρ0 = .ok ds ρ1) (h : Ends (lcGo vs g tt fe (ds.map T.d) [] (wipeR ρ1 vs)) fun acc ρ => P (.lst acc) ρ) : Ends (dlcO fi vs g tt fe ρ0) P := by
  refine ends_bind' hi (ends_bind' (ρ' := wipeR ρ1 vs) (a := ()) rfl ?_)
  obtain ⟨acc, ρ, e, q⟩ := h.get
  refine ends_bind' (ρ' := ρ) (a := acc) ?_ q
  unfold mnoex
  rw [e]
theorem ends_dlc {fi : M (List PyData)} {vs : List Nat} {g : T → M Unit} {tt : M Bool} {fe : M T} {ρ0 ρ1 : Rho} {ds : List PyData} {P : T → Rho → Prop} (hi : fi ρ0 = .ok ds ρ1) (h : Ends (lcGo vs g tt fe (ds.map T.d) [] (wipeR ρ1 vs)) fun acc ρ => ∃ out, acc = out.map T.d ∧ P (.d (.list out)) ρ) : Ends (dlc fi vs g tt fe ρ0) P := by
  unfold dlc dthaw
  refine ends_bind (ends_dlcO (P := fun t ρ => ∃ out, t = .lst (out.map T.d) ∧ P (.d (.list out)) ρ) hi (h.mono fun acc ρ q => ?_) |>.mono fun t ρ q => ?_)
  · obtain ⟨out, e, q⟩ := q
    exact ⟨out, by rw [e], q⟩
  · obtain ⟨out, rfl, q⟩ := q
    simp only [toD, toDs_map, Option.map_some]
    exact q
theorem mlend_app {j : Nat} : ∀ (ts done : List T) (ρ : Rho), (∀ t ∈ ts, ∃ xs, t = .lst xs ∧ xs.length < lim) → j < ρ.length →
    ∃ ys ρ', mlend j (dmeth "list" j oAppend (dcons (mret (.d .none)) (mret []))) done ts ρ = .ok ys ρ' ∧ (ts = [] ∧ ρ' = ρ ∨ ts ≠ [] ∧ ρ' = ρ.set j none)
  | [], done, ρ, _, _ => ⟨done, ρ, rfl, .inl ⟨rfl, rfl⟩⟩
  | t :: ts, done, ρ, h, hj => by
    obtain ⟨xs, rfl, hx⟩ := h t List.mem_cons_self
    have g1 : (ρ.set j (some (.lst xs)))[j]? = some (some (.lst xs)) := List.getElem?_set_self hj
    have hm : dmeth "list" j oAppend (dcons (mret (.d .none)) (mret [])) (ρ.set j (some (.lst xs))) = .ok (.d .none) (ρ.set j (some (.lst (xs ++ [.d .none])))) := by
      unfold dmeth
      refine (mbind_eq (a := ()) (ρ1 := ρ.set j (some (.lst xs))) (by unfold dtyp; rw [g1]; rfl)).trans ?_
      refine (mbind_eq (a := [T.d .none]) (ρ1 := ρ.set j (some (.lst xs))) rfl).trans ?_
      unfold down
      rw [g1]
      show (match (if xs.length < lim then some (T.lst (xs ++ [.d .none]), T.d .none) else none) with
        | some (t', v) => R.ok v ((ρ.set j (some (.lst xs))).set j (some t'))
        | none => R.no) = _
      rw [if_pos hx]
      show R.ok (T.d .none) ((List.set ρ j (some (T.lst xs))).set j (some (T.lst (xs ++ [T.d .none])))) = _
      rw [List.set_set]
    have hj2 : j < (ρ.set j none).length := by rw [List.length_set]; exact hj
    obtain ⟨ys, ρ', e, q⟩ := mlend_app ts (done ++ [.lst (xs ++ [.d .none])]) (ρ.set j none) (fun t m => h t (List.mem_cons_of_mem _ m)) hj2
    refine ⟨ys, ρ', ?_, .inr ⟨by simp, ?_⟩⟩
    · unfold mlend
      refine (mbind_eq (f := mset j (.lst xs)) (a := ()) (ρ1 := ρ.set j (some (.lst xs))) rfl).trans ?_
      refine (mbind_eq (a := .d .none) (ρ1 := ρ.set j (some (.lst (xs ++ [.d .none])))) (by unfold mnoex; rw [hm])).trans ?_
      refine (mbind_eq (a := .lst (xs ++ [.d .none])) (ρ1 := ρ.set j none) ?_).trans e
      unfold dtake
      rw [List.getElem?_set_self hj]
      show R.ok _ _ = _
      rw [List.set_set]
    · rcases q with ⟨_, rfl⟩ | ⟨_, rfl⟩
      · rfl
      · rw [List.set_set]
end DL
end
section
set_option Elab.async false
set_option linter.all false
set_option maxRecDepth 100000
set_option maxHeartbeats 4000000
namespace LW
open PySem L2 DL
abbrev top (i : Nat) : Stmt := PySem.Challenge.pw_readsfrom_k33_no_programs_at_any_door.main.body.getD i (.Pass ⟨0, 0, 0, 0⟩)
def D_LETTERS : PyData := .str ("abcdefghijklmnopqrstuvwxyz" : Str)
def D_LONGEST : PyData := .int 6
def D_MOST_NUMBER : PyData := .int 9
def D_MOST_BOXES : PyData := .int 4
def D_MOST_HANDS : PyData := .int 4
def D_MOST_DEEDS : PyData := .int 8
def D_MOST_TOGETHER : PyData := .int 16
def D_MOST_SKIPPED : PyData := .int 8
def D_KINDS : List (Str × T) := [("name", .fn "is_name"), ("number", .fn "is_number"), ("what", .fn "is_what"), ("many", .fn "is_many")]
def D_READING : PyData := .tuple [(.str ("plain" : Str)), (.str ("loose" : Str)), (.str ("taking" : Str))]
def D_WRITING : PyData := .tuple [(.str ("plain" : Str)), (.str ("loose" : Str)), (.str ("giving" : Str))]
def D_CHANGING : PyData := .tuple [(.str ("loose" : Str)), (.str ("giving" : Str)), (.str ("taking" : Str)), (.str ("both" : Str))]
def D_FENCING : PyData := .tuple [(.str ("giving" : Str)), (.str ("taking" : Str)), (.str ("both" : Str))]
def D_WORDS : List (Str × T) := [("reading", .d D_READING), ("writing", .d D_WRITING), ("changing", .d D_CHANGING), ("fencing", .d D_FENCING), ("how", .d (.tuple [(.str ("add" : Str)), (.str ("put" : Str))])), ("word", .d (.tuple [(.str ("is" : Str)), (.str ("isnt" : Str))]))]
def D_FORMS : List (Str × T) := [("read", .d (.tuple [(.str ("name" : Str)), (.str ("box" : Str)), (.str ("reading" : Str))])), ("write", .d (.tuple [(.str ("box" : Str)), (.str ("what" : Str)), (.str ("writing" : Str))])), ("change", .d (.tuple [(.str ("name" : Str)), (.str ("box" : Str)), (.str ("how" : Str)), (.str ("what" : Str)), (.str ("changing" : Str))])), ("swap", .d (.tuple [(.str ("name" : Str)), (.str ("box" : Str)), (.str ("number" : Str)), (.str ("what" : Str)), (.str ("changing" : Str))])), ("wait", .d (.tuple [(.str ("name" : Str)), (.str ("box" : Str)), (.str ("number" : Str)), (.str ("reading" : Str))])), ("grab", .d (.tuple [(.str ("name" : Str)), (.str ("box" : Str)), (.str ("number" : Str)), (.str ("what" : Str)), (.str ("changing" : Str))])), ("fence", .d (.tuple [(.str ("fencing" : Str))])), ("skip", .d (.tuple [(.str ("name" : Str)), (.str ("word" : Str)), (.str ("number" : Str)), (.str ("many" : Str))])), ("claim", .d (.tuple [(.str ("name" : Str)), (.str ("word" : Str)), (.str ("number" : Str))]))]
def xs_hand : List Str := ["NoProgram"]
def xs_number : List Str := ["NoProgram"]
def xs_part : List Str := ["NoProgram"]
def isaT_ValueError : List (Str × T × Bool) := [("NoProgram", .ty "ValueError", true)]
def cs_engine : List Str := ["Walk"]
abbrev i_NoProgram : Stmt := methOf (top 2) 0
theorem isc_NoProgram : FnScope (("self" : Str) :: ["part", "hand", "number"]) (("self" : Str) :: ["part", "hand", "number"]) (defScope i_NoProgram) := ⟨rfl, rfl, rfl, by decide +kernel, rfl, by decide +kernel, by decide +kernel⟩
theorem y_of_NoProgram {P : Program} {w : World} {K : PySem.W.Frag} {mg : Str → Option Value} {base : Heap} (b : BaseOf K mg "ValueError" "ValueError" "ValueError.__init__") (X : HasE K mg "NoProgram" "NoProgram.__init__" i_NoProgram ["part", "hand", "number"] "ValueError" "ValueError.__init__") : ExcB P w K mg base "NoProgram" 1 ["part", "hand", "number"] := by
  obtain ⟨C, fI, fd, hC, hm, T, iC, tI, U, hno⟩ := X.ex
  refine ⟨⟨C, fI, fd, _, _, hC, hm, T, iC, tI, inits_ok U isc_NoProgram (fun cd A outer s H E => inb1 T hno b (inb_cons T hno (by decide) 1 (inb_cons T hno (by decide) 2 (ini_nil (by decide))))), ?_⟩⟩
  exact U.binds (ps := ["self", "part", "hand", "number"]) fun _ _ _ _ _ _ us hl => match us, hl with | [_, _, _, _], _ => rfl
/-- what the module has at its names -/
structure Facts (w : World) (K : PySem.W.Frag) (mg : Str → Option Value) : Prop where
  gl : ∀ z a, PySem.W.nsIn K mainGlobals z = some (some (.ref a)) → mg z = some (.ref a)
  n_ValueError : mg "ValueError" = none
  n_all : mg "all" = none
  n_bool : mg "bool" = none
  n_enumerate : mg "enumerate" = none
  n_int : mg "int" = none
  n_isinstance : mg "isinstance" = none
  n_len : mg "len" = none
  n_list : mg "list" = none
  n_repr : mg "repr" = none
  n_str : mg "str" = none
  n_sum : mg "sum" = none
  n_tuple : mg "tuple" = none
  n_zip : mg "zip" = none
  g_LETTERS : ∃ v u, mg "LETTERS" = some u ∧ RelV v u ∧ ∀ I, Dr K I v D_LETTERS
  g_LONGEST : ∃ v u, mg "LONGEST" = some u ∧ RelV v u ∧ ∀ I, Dr K I v D_LONGEST
  g_MOST_BOXES : ∃ v u, mg "MOST_BOXES" = some u ∧ RelV v u ∧ ∀ I, Dr K I v D_MOST_BOXES
  g_MOST_DEEDS : ∃ v u, mg "MOST_DEEDS" = some u ∧ RelV v u ∧ ∀ I, Dr K I v D_MOST_DEEDS
  g_MOST_HANDS : ∃ v u, mg "MOST_HANDS" = some u ∧ RelV v u ∧ ∀ I, Dr K I v D_MOST_HANDS
  g_MOST_NUMBER : ∃ v u, mg "MOST_NUMBER" = some u ∧ RelV v u ∧ ∀ I, Dr K I v D_MOST_NUMBER
  g_MOST_SKIPPED : ∃ v u, mg "MOST_SKIPPED" = some u ∧ RelV v u ∧ ∀ I, Dr K I v D_MOST_SKIPPED
  g_MOST_TOGETHER : ∃ v u, mg "MOST_TOGETHER" = some u ∧ RelV v u ∧ ∀ I, Dr K I v D_MOST_TOGETHER
  t_FORMS : ∃ (d : Addr) (es : Array DictEntry) (n : Nat), mg "FORMS" = some (.ref d) ∧ KDict K w d es n ∧ TabIs K es.toList D_FORMS ∧ es.size ≤ sizeLine
  t_KINDS : ∃ (d : Addr) (es : Array DictEntry) (n : Nat), mg "KINDS" = some (.ref d) ∧ KDict K w d es n ∧ TabIs K es.toList D_KINDS ∧ es.size ≤ sizeLine
  t_WORDS : ∃ (d : Addr) (es : Array DictEntry) (n : Nat), mg "WORDS" = some (.ref d) ∧ KDict K w d es n ∧ TabIs K es.toList D_WORDS ∧ es.size ≤ sizeLine
  cn__law_goer : ClsN K mg "_law_goer"
  cn__law_machine : ClsN K mg "_law_machine"
  cn_before : ClsN K mg "before"
  cn_breach : ClsN K mg "breach"
  cn_by_picks : ClsN K mg "by_picks"
  cn_clash_of : ClsN K mg "clash_of"
  cn_clashing : ClsN K mg "clashing"
  cn_count_of : ClsN K mg "count_of"
  cn_failing : ClsN K mg "failing"
  cn_first_graph : ClsN K mg "first_graph"
  cn_graph_of : ClsN K mg "graph_of"
  cn_is_drawing : ClsN K mg "is_drawing"
  cn_is_ended : ClsN K mg "is_ended"
  cn_is_full : ClsN K mg "is_full"
  cn_is_graph : ClsN K mg "is_graph"
  cn_is_ledger : ClsN K mg "is_ledger"
  cn_is_paper : ClsN K mg "is_paper"
  cn_is_run : ClsN K mg "is_run"
  cn_ledger_of : ClsN K mg "ledger_of"
  cn_next_graph : ClsN K mg "next_graph"
  cn_outcome_of : ClsN K mg "outcome_of"
  cn_outcomes : ClsN K mg "outcomes"
  cn_paper_of : ClsN K mg "paper_of"
  cn_picks_of : ClsN K mg "picks_of"
  cn_run_of : ClsN K mg "run_of"
  cn_state_of : ClsN K mg "state_of"
  cn_turn_outcomes : ClsN K mg "turn_outcomes"
  ct_NoProgram : ClsX K mg "NoProgram"
  xf_hand : ∀ n ∈ xs_hand, XfOne K n "hand"
  xf_number : ∀ n ∈ xs_number, XfOne K n "number"
  xf_part : ∀ n ∈ xs_part, XfOne K n "part"
  isa_ValueError : ∀ q ∈ isaT_ValueError, IsaOne K q.1 q.2.1 q.2.2
  cf_engine : ∀ n ∈ cs_engine, ClsF K n "engine"
/-! ### _law_draw -/
abbrev s__law_draw : Stmt := top 151
def b__law_draw : M Fl :=
    mseq (sif (dval (dop (onD pGt) (dixO 0 (mret (.d (.int 0)))) (mret (.d (.int 0))))) (mseq (sset 2 (dop (onD pMod) (dixO 0 (mret (.d (.int 0)))) (dget 1))) <|
    mseq (sasg (dop (onD pDiv) (dixO 0 (mret (.d (.int 0)))) (dget 1)) (gput 0 (mret (.d (.int 0))))) <|
    sret (dget 2)) (mret .nx)) <|
    mseq (sasg (dop (onD pMod) (dop (onD pAdd) (dop (onD pMul) (dixO 0 (mret (.d (.int 1)))) (mret (.d (.int 48271)))) (mret (.d (.int 11)))) (mret (.d (.int 2147483647)))) (gput 0 (mret (.d (.int 1))))) <|
    sret (dop (onD pMod) (dop (onD pDiv) (dop (onD pMod) (dop (onD pMul) (dixO 0 (mret (.d (.int 1)))) (dixO 0 (mret (.d (.int 1))))) (mret (.d (.int 2147483629)))) (mret (.d (.int 64)))) (dget 1))
def f__law_draw : Fn := dfn 3 [true, true] b__law_draw
theorem nd__law_draw : (["_law_hand_here", "_law_size", "_law_found"] : List Str).Nodup := by decide +kernel
theorem sc__law_draw : FnScope ["_law_hand_here", "_law_size", "_law_found"] ["_law_hand_here", "_law_size"] (defScope s__law_draw) := ⟨rfl, rfl, rfl, nd__law_draw, rfl, by decide +kernel, by decide +kernel⟩
theorem k__law_draw {P : Program} {w : World} {K : PySem.W.Frag} {mg : Str → Option Value} {base : Heap} (c : Facts w K mg)  : BodyOk P w K mg base 0 ["_law_hand_here", "_law_size", "_law_found"] "_law_draw" s__law_draw [true, true] b__law_draw := fun f cd A outer s H E at_ =>
    dss_cons (ds_if (dt_cmp op_gt od_gt (de_ixO 0 de_int) de_int (by with_unfolding_all rfl)) (dss_cons (ds_set 2 nd__law_draw (de_op op_mod od_mod (de_ixO 0 de_int) (dv 1)))
    (dss_cons (ds_asg (de_op op_fdiv od_div (de_ixO 0 de_int) (dv 1)) (dg_sub 0 de_int))
    (dss_one (ds_ret (dv 2))))) dss_nil)
    (dss_cons (ds_asg (de_op op_mod od_mod (de_op op_add4 od_add (de_op op_mul2 od_mul (de_ixO 0 de_int) de_int) de_int) de_int) (dg_sub 0 de_int))
    (dss_one (ds_ret (de_op op_mod od_mod (de_op op_fdiv od_div (de_op op_mod od_mod (de_op op_mul2 od_mul (de_ixO 0 de_int) (de_ixO 0 de_int)) de_int) de_int) (dv 1)))))
theorem ok__law_draw {P : Program} {w : World} {K : PySem.W.Frag} {mg : Str → Option Value} {base : Heap} {f : Addr} {fd : FuncData} (U : Fun K "_law_draw" "_law_draw" s__law_draw f fd) (hm : mg "_law_draw" = some (.ref f)) (bi : Binds K fd ["_law_hand_here", "_law_size"] []) (c : Facts w K mg)  : Def P w K mg base "_law_draw" 1 2 f__law_draw :=
  Def.of U hm bi (def_ok U sc__law_draw rfl (k__law_draw c ))
/-! ### _law_hand -/
abbrev s__law_hand : Stmt := top 150
def b__law_hand : M Fl :=
    mseq (sset 2 (dop (onD pIx) (dop (onD pAdd) (dslice (dget 0) (dpart (dget 1)) (dpart (dop (onD pAdd) (dget 1) (mret (.d (.int 1)))))) (dlst (dcons (mret (.d (.int 0))) (mret [])))) (mret (.d (.int 0))))) <|
    mseq (sset 3 (dop (onD pMod) (dop (onD pMul) (dop (onD pAdd) (dop (onD pAdd) (dop (onD pMod) (dget 2) (mret (.d (.int 2147483647)))) (dop (onD pMul) (mret (.d (.int 7919))) (dget 1))) (mret (.d (.int 1)))) (mret (.d (.int 48271)))) (mret (.d (.int 2147483629))))) <|
    sret (dlstO (dcons (dop (onD pMul) (dcallb gInt [none] (dcons (dop (onD pGe) (dget 2) (dop (onD pPow) (mret (.d (.int 10))) (mret (.d (.int 18))))) (mret []))) (dget 2)) (dcons (dget 3) (mret []))))
def f__law_hand : Fn := dfn 4 [true, true] b__law_hand
theorem nd__law_hand : (["_law_script", "_law_k", "_law_cell", "_law_seed"] : List Str).Nodup := by decide +kernel
theorem sc__law_hand : FnScope ["_law_script", "_law_k", "_law_cell", "_law_seed"] ["_law_script", "_law_k"] (defScope s__law_hand) := ⟨rfl, rfl, rfl, nd__law_hand, rfl, by decide +kernel, by decide +kernel⟩
theorem k__law_hand {P : Program} {w : World} {K : PySem.W.Frag} {mg : Str → Option Value} {base : Heap} (c : Facts w K mg)  : BodyOk P w K mg base 0 ["_law_script", "_law_k", "_law_cell", "_law_seed"] "_law_hand" s__law_hand [true, true] b__law_hand := fun f cd A outer s H E at_ =>
    dss_cons (ds_set 2 nd__law_hand (de_ix (de_op op_add4 od_add (de_slice (dv 0) (do_some (dv 1)) (do_some (de_op op_add4 od_add (dv 1) de_int))) (de_lst (da_cons de_int da_nil))) de_int))
    (dss_cons (ds_set 3 nd__law_hand (de_op op_mod od_mod (de_op op_mul2 od_mul (de_op op_add4 od_add (de_op op_add4 od_add (de_op op_mod od_mod (dv 2) de_int) (de_op op_mul2 od_mul de_int (dv 1))) de_int) de_int) de_int))
    (dss_one (ds_ret (de_lstO (da_cons (de_op op_mul2 od_mul (de_callTy cr_int3 ck_int c.n_int bt_int (da_cons (de_cmp op_ge od_ge (dv 2) (de_op op_pow od_pow de_int de_int) (by with_unfolding_all rfl)) da_nil)) (dv 2)) (da_cons (dv 3) da_nil))))))
theorem ok__law_hand {P : Program} {w : World} {K : PySem.W.Frag} {mg : Str → Option Value} {base : Heap} {f : Addr} {fd : FuncData} (U : Fun K "_law_hand" "_law_hand" s__law_hand f fd) (hm : mg "_law_hand" = some (.ref f)) (bi : Binds K fd ["_law_script", "_law_k"] []) (c : Facts w K mg)  : Def P w K mg base "_law_hand" 1 2 f__law_hand :=
  Def.of U hm bi (def_ok U sc__law_hand rfl (k__law_hand c ))
/-! ### is_one_of -/
abbrev s_is_one_of : Stmt := top 49
def b_is_one_of : M Fl :=
    sret (dandV (dcallb gIsi [none, none] (dcons (dget 0) (dcons (mret (.ty "str")) (mret [])))) (dop (onD pIn) (dget 0) (dget 1)))
def f_is_one_of : Fn := dfn 2 [true, true] b_is_one_of
theorem nd_is_one_of : (["thing", "words"] : List Str).Nodup := by decide +kernel
theorem sc_is_one_of : FnScope ["thing", "words"] ["thing", "words"] (defScope s_is_one_of) := ⟨rfl, rfl, rfl, nd_is_one_of, rfl, by decide +kernel, by decide +kernel⟩
theorem k_is_one_of {P : Program} {w : World} {K : PySem.W.Frag} {mg : Str → Option Value} {base : Heap} (c : Facts w K mg)  : BodyOk P w K mg base 0 ["thing", "words"] "is_one_of" s_is_one_of [true, true] b_is_one_of := fun f cd A outer s H E at_ =>
    dss_one (ds_ret (de_and (de_callB call_isi ck_isi c.n_isinstance bt_isinstance (da_cons (dv 0) (da_cons (de_ty c.n_str bt_str) da_nil))) (de_one (de_cmp (op_inP at_.un) od_in (dv 0) (dv 1) (by with_unfolding_all rfl)))))
theorem ok_is_one_of {P : Program} {w : World} {K : PySem.W.Frag} {mg : Str → Option Value} {base : Heap} {f : Addr} {fd : FuncData} (U : Fun K "is_one_of" "is_one_of" s_is_one_of f fd) (hm : mg "is_one_of" = some (.ref f)) (bi : Binds K fd ["thing", "words"] []) (c : Facts w K mg)  : Def P w K mg base "is_one_of" 1 2 f_is_one_of :=
  Def.of U hm bi (def_ok U sc_is_one_of rfl (k_is_one_of c ))
/-! ### is_name -/
abbrev s_is_name : Stmt := top 46
def l_is_name_1 : M T :=
    dlc (dseq (dget 0)) [1] (mset 1) (mret true) (dop (onD pIn) (dget 1) (mret (.d D_LETTERS)))
def b_is_name : M Fl :=
    sret (dandV (dcallb gIsi [none, none] (dcons (dget 0) (dcons (mret (.ty "str")) (mret [])))) (dandV (dchain (onD pLe2) (onD pLe2) (mret (.d (.int 1))) (dcallb gLen [none] (dcons (dget 0) (mret []))) (mret (.d D_LONGEST))) (dcallb gAll [none] (dcons l_is_name_1 (mret [])))))
def f_is_name : Fn := dfn 2 [true] b_is_name
theorem nd_is_name : (["thing", "sign"] : List Str).Nodup := by decide +kernel
theorem sc_is_name : FnScope ["thing", "sign"] ["thing"] (defScope s_is_name) := ⟨rfl, rfl, rfl, nd_is_name, rfl, by decide +kernel, by decide +kernel⟩
theorem k_is_name {P : Program} {w : World} {K : PySem.W.Frag} {mg : Str → Option Value} {base : Heap} (c : Facts w K mg)  : BodyOk P w K mg base 0 ["thing", "sign"] "is_name" s_is_name [true] b_is_name := fun f cd A outer s H E at_ =>
    dss_one (ds_ret (de_and (de_callB call_isi ck_isi c.n_isinstance bt_isinstance (da_cons (dv 0) (da_cons (de_ty c.n_str bt_str) da_nil))) (de_and (de_chain op_le2 od_le2 op_le2 od_le2 de_int (de_callB cr_len2 ck_len c.n_len bt_len (da_cons (dv 0) da_nil)) (de_glob ⟨c.g_LONGEST⟩ rfl)) (de_one (de_callB (cr_all at_.ca) ck_all c.n_all bt_all (da_cons (de_lc at_ nd_is_name (di_seq (dv 0)) (own := [("sign", 1)]) (by first | (show blkC ["thing", "sign"] (defScope s_is_name) _ _ = true; decide +kernel) | (show blkC ["thing", "sign"] _ _ _ = true; decide +kernel) | kernel_rfl) (fun b a1 => dg_name nd_is_name rfl (by first | exact Or.inl rfl | exact Or.inr rfl) (by intro h; cases h)) (fun b a1 => dts_nil) (fun b a1 => de_cmp (op_inP a1.un) od_in (dv 1) (de_glob ⟨c.g_LETTERS⟩ rfl) (by with_unfolding_all rfl))) da_nil))))))
theorem ok_is_name {P : Program} {w : World} {K : PySem.W.Frag} {mg : Str → Option Value} {base : Heap} {f : Addr} {fd : FuncData} (U : Fun K "is_name" "is_name" s_is_name f fd) (hm : mg "is_name" = some (.ref f)) (bi : Binds K fd ["thing"] []) (c : Facts w K mg)  : Def P w K mg base "is_name" 1 1 f_is_name :=
  Def.of U hm bi (def_ok U sc_is_name rfl (k_is_name c ))
/-! ### is_whole -/
abbrev s_is_whole : Stmt := top 43
def b_is_whole : M Fl :=
    sret (dandV (dcallb gIsi [none, none] (dcons (dget 0) (dcons (mret (.ty "int")) (mret [])))) (dnotV (dcallb gIsi [none, none] (dcons (dget 0) (dcons (mret (.ty "bool")) (mret []))))))
def f_is_whole : Fn := dfn 1 [true] b_is_whole
theorem nd_is_whole : (["thing"] : List Str).Nodup := by decide +kernel
theorem sc_is_whole : FnScope ["thing"] ["thing"] (defScope s_is_whole) := ⟨rfl, rfl, rfl, nd_is_whole, rfl, by decide +kernel, by decide +kernel⟩
theorem k_is_whole {P : Program} {w : World} {K : PySem.W.Frag} {mg : Str → Option Value} {base : Heap} (c : Facts w K mg)  : BodyOk P w K mg base 0 ["thing"] "is_whole" s_is_whole [true] b_is_whole := fun f cd A outer s H E at_ =>
    dss_one (ds_ret (de_and (de_callB call_isi ck_isi c.n_isinstance bt_isinstance (da_cons (dv 0) (da_cons (de_ty c.n_int bt_int) da_nil))) (de_one (de_not (de_callB call_isi ck_isi c.n_isinstance bt_isinstance (da_cons (dv 0) (da_cons (de_ty c.n_bool bt_bool) da_nil)))))))
theorem ok_is_whole {P : Program} {w : World} {K : PySem.W.Frag} {mg : Str → Option Value} {base : Heap} {f : Addr} {fd : FuncData} (U : Fun K "is_whole" "is_whole" s_is_whole f fd) (hm : mg "is_whole" = some (.ref f)) (bi : Binds K fd ["thing"] []) (c : Facts w K mg)  : Def P w K mg base "is_whole" 1 1 f_is_whole :=
  Def.of U hm bi (def_ok U sc_is_whole rfl (k_is_whole c ))
/-! ### is_number -/
abbrev s_is_number : Stmt := top 45
def b_is_number : M Fl :=
    sret (dandV (dcall f_is_whole [none] (dcons (dget 0) (mret []))) (dchain (onD pLe2) (onD pLe2) (mret (.d (.int 0))) (dget 0) (mret (.d D_MOST_NUMBER))))
def f_is_number : Fn := dfn 1 [true] b_is_number
theorem nd_is_number : (["thing"] : List Str).Nodup := by decide +kernel
theorem sc_is_number : FnScope ["thing"] ["thing"] (defScope s_is_number) := ⟨rfl, rfl, rfl, nd_is_number, rfl, by decide +kernel, by decide +kernel⟩
theorem k_is_number {P : Program} {w : World} {K : PySem.W.Frag} {mg : Str → Option Value} {base : Heap} (c : Facts w K mg) (d_is_whole : Def P w K mg base "is_whole" 1 1 f_is_whole) : BodyOk P w K mg base 1 ["thing"] "is_number" s_is_number [true] b_is_number := fun f cd A outer s H E at_ =>
    dss_one (ds_ret (de_and (de_call d_is_whole at_ (da_cons (dv 0) da_nil)) (de_one (de_chain op_le2 od_le2 op_le2 od_le2 de_int (dv 0) (de_glob ⟨c.g_MOST_NUMBER⟩ rfl)))))
theorem ok_is_number {P : Program} {w : World} {K : PySem.W.Frag} {mg : Str → Option Value} {base : Heap} {f : Addr} {fd : FuncData} (U : Fun K "is_number" "is_number" s_is_number f fd) (hm : mg "is_number" = some (.ref f)) (bi : Binds K fd ["thing"] []) (c : Facts w K mg) (d_is_whole : Def P w K mg base "is_whole" 1 1 f_is_whole) : Def P w K mg base "is_number" 2 1 f_is_number :=
  Def.of U hm bi (def_ok U sc_is_number rfl (k_is_number c d_is_whole))
/-! ### is_what -/
abbrev s_is_what : Stmt := top 47
def b_is_what : M Fl :=
    sret (dorV (dcall f_is_number [none] (dcons (dget 0) (mret []))) (dcall f_is_name [none] (dcons (dget 0) (mret []))))
def f_is_what : Fn := dfn 1 [true] b_is_what
theorem nd_is_what : (["thing"] : List Str).Nodup := by decide +kernel
theorem sc_is_what : FnScope ["thing"] ["thing"] (defScope s_is_what) := ⟨rfl, rfl, rfl, nd_is_what, rfl, by decide +kernel, by decide +kernel⟩
theorem k_is_what {P : Program} {w : World} {K : PySem.W.Frag} {mg : Str → Option Value} {base : Heap} (c : Facts w K mg) (d_is_name : Def P w K mg base "is_name" 1 1 f_is_name) (d_is_number : Def P w K mg base "is_number" 2 1 f_is_number) : BodyOk P w K mg base 2 ["thing"] "is_what" s_is_what [true] b_is_what := fun f cd A outer s H E at_ =>
    dss_one (ds_ret (de_or (de_call d_is_number at_ (da_cons (dv 0) da_nil)) (de_one (de_call d_is_name at_ (da_cons (dv 0) da_nil)))))
theorem ok_is_what {P : Program} {w : World} {K : PySem.W.Frag} {mg : Str → Option Value} {base : Heap} {f : Addr} {fd : FuncData} (U : Fun K "is_what" "is_what" s_is_what f fd) (hm : mg "is_what" = some (.ref f)) (bi : Binds K fd ["thing"] []) (c : Facts w K mg) (d_is_name : Def P w K mg base "is_name" 1 1 f_is_name) (d_is_number : Def P w K mg base "is_number" 2 1 f_is_number) : Def P w K mg base "is_what" 3 1 f_is_what :=
  Def.of U hm bi (def_ok U sc_is_what rfl (k_is_what c d_is_name d_is_number))
/-! ### is_many -/
abbrev s_is_many : Stmt := top 48
def b_is_many : M Fl :=
    sret (dandV (dcall f_is_whole [none] (dcons (dget 0) (mret []))) (dchain (onD pLe2) (onD pLe2) (mret (.d (.int 1))) (dget 0) (mret (.d D_MOST_SKIPPED))))
def f_is_many : Fn := dfn 1 [true] b_is_many
theorem nd_is_many : (["thing"] : List Str).Nodup := by decide +kernel
theorem sc_is_many : FnScope ["thing"] ["thing"] (defScope s_is_many) := ⟨rfl, rfl, rfl, nd_is_many, rfl, by decide +kernel, by decide +kernel⟩
theorem k_is_many {P : Program} {w : World} {K : PySem.W.Frag} {mg : Str → Option Value} {base : Heap} (c : Facts w K mg) (d_is_whole : Def P w K mg base "is_whole" 1 1 f_is_whole) : BodyOk P w K mg base 1 ["thing"] "is_many" s_is_many [true] b_is_many := fun f cd A outer s H E at_ =>
    dss_one (ds_ret (de_and (de_call d_is_whole at_ (da_cons (dv 0) da_nil)) (de_one (de_chain op_le2 od_le2 op_le2 od_le2 de_int (dv 0) (de_glob ⟨c.g_MOST_SKIPPED⟩ rfl)))))
theorem ok_is_many {P : Program} {w : World} {K : PySem.W.Frag} {mg : Str → Option Value} {base : Heap} {f : Addr} {fd : FuncData} (U : Fun K "is_many" "is_many" s_is_many f fd) (hm : mg "is_many" = some (.ref f)) (bi : Binds K fd ["thing"] []) (c : Facts w K mg) (d_is_whole : Def P w K mg base "is_whole" 1 1 f_is_whole) : Def P w K mg base "is_many" 2 1 f_is_many :=
  Def.of U hm bi (def_ok U sc_is_many rfl (k_is_many c d_is_whole))
/-! ### is_of_kind -/
abbrev s_is_of_kind : Stmt := top 53
def tab_is_of_kind : Str → Option Fn := (tabCons "is_name" f_is_name (tabCons "is_number" f_is_number (tabCons "is_what" f_is_what (tabCons "is_many" f_is_many (fun _ => none)))))
def b_is_of_kind : M Fl :=
    mseq (sif (dval (dop (onD pEq) (dget 1) (mret (.d (.str ("box" : Str)))))) (sret (dandV (dcallb gIsi [none, none] (dcons (dget 2) (dcons (mret (.ty "str")) (mret [])))) (dop (onD pIn) (dget 2) (dget 0)))) (mret .nx)) <|
    mseq (sif (dval (dkin D_WORDS false (dget 1))) (sret (dcall f_is_one_of [none, none] (dcons (dget 2) (dcons (dkix D_WORDS (dget 1)) (mret []))))) (mret .nx)) <|
    mseq (sset 3 (dkix D_KINDS (dget 1))) <|
    sret (dcallS 3 tab_is_of_kind [none] (dcons (dget 2) (mret [])))
def f_is_of_kind : Fn := dfn 4 [true, true, true] b_is_of_kind
theorem nd_is_of_kind : (["boxes", "kind", "thing", "fits"] : List Str).Nodup := by decide +kernel
theorem sc_is_of_kind : FnScope ["boxes", "kind", "thing", "fits"] ["boxes", "kind", "thing"] (defScope s_is_of_kind) := ⟨rfl, rfl, rfl, nd_is_of_kind, rfl, by decide +kernel, by decide +kernel⟩
theorem k_is_of_kind {P : Program} {w : World} {K : PySem.W.Frag} {mg : Str → Option Value} {base : Heap} (c : Facts w K mg) (d_is_one_of : Def P w K mg base "is_one_of" 1 2 f_is_one_of) (d_is_name : Def P w K mg base "is_name" 1 1 f_is_name) (d_is_number : Def P w K mg base "is_number" 2 1 f_is_number) (d_is_what : Def P w K mg base "is_what" 3 1 f_is_what) (d_is_many : Def P w K mg base "is_many" 2 1 f_is_many) : BodyOk P w K mg base 3 ["boxes", "kind", "thing", "fits"] "is_of_kind" s_is_of_kind [true, true, true] b_is_of_kind := fun f cd A outer s H E at_ =>
    have ft_is_of_kind : FnTab P w K mg base 3 1 tab_is_of_kind := (FnTab.cons c.gl d_is_name (FnTab.cons c.gl d_is_number (FnTab.cons c.gl d_is_what (FnTab.cons c.gl d_is_many FnTab.nil))))
    dss_cons (ds_if (dt_cmp (op_eqP at_.un) od_eq (dv 1) de_str (by with_unfolding_all rfl)) (dss_one (ds_ret (de_and (de_callB call_isi ck_isi c.n_isinstance bt_isinstance (da_cons (dv 2) (da_cons (de_ty c.n_str bt_str) da_nil))) (de_one (de_cmp (op_inP at_.un) od_in (dv 2) (dv 0) (by with_unfolding_all rfl)))))) dss_nil)
    (dss_cons (ds_if (dt_kin ⟨c.t_WORDS⟩ (dv 1)) (dss_one (ds_ret (de_call d_is_one_of at_ (da_cons (dv 2) (da_cons (de_kix ⟨c.t_WORDS⟩ (dv 1)) da_nil))))) dss_nil)
    (dss_cons (ds_set 3 nd_is_of_kind (de_kix ⟨c.t_KINDS⟩ (dv 1)))
    (dss_one (ds_ret (de_callS 3 ft_is_of_kind at_ (da_cons (dv 2) da_nil))))))
theorem ok_is_of_kind {P : Program} {w : World} {K : PySem.W.Frag} {mg : Str → Option Value} {base : Heap} {f : Addr} {fd : FuncData} (U : Fun K "is_of_kind" "is_of_kind" s_is_of_kind f fd) (hm : mg "is_of_kind" = some (.ref f)) (bi : Binds K fd ["boxes", "kind", "thing"] []) (c : Facts w K mg) (d_is_one_of : Def P w K mg base "is_one_of" 1 2 f_is_one_of) (d_is_name : Def P w K mg base "is_name" 1 1 f_is_name) (d_is_number : Def P w K mg base "is_number" 2 1 f_is_number) (d_is_what : Def P w K mg base "is_what" 3 1 f_is_what) (d_is_many : Def P w K mg base "is_many" 2 1 f_is_many) : Def P w K mg base "is_of_kind" 4 3 f_is_of_kind :=
  Def.of U hm bi (def_ok U sc_is_of_kind rfl (k_is_of_kind c d_is_one_of d_is_name d_is_number d_is_what d_is_many))
/-! ### is_deed -/
abbrev s_is_deed : Stmt := top 54
def l_is_deed_1 : M T :=
    dlc (dzip (dcons (dkix D_FORMS (dget 2)) (dcons (dget 3) (mret [])))) [4, 5] (mtup [mset 4, mset 5]) (mret true) (dcall f_is_of_kind [none, none, none] (dcons (dget 0) (dcons (dget 4) (dcons (dget 5) (mret [])))))
def b_is_deed : M Fl :=
    mseq (sif (dor (dnot (dval (dcallb gIsi [none, none] (dcons (dget 1) (dcons (mret (.ty "tuple")) (mret [])))))) (dor (dval (dop (onD pEq) (dget 1) (dtup (mret [])))) (dnot (dval (dcall f_is_one_of [none, none] (dcons (dop (onD pIx) (dget 1) (mret (.d (.int 0)))) (dcons (mret (.d (.tuple (D_FORMS.map fun q => .str q.1)))) (mret [])))))))) (sret (mret (.d (.bool false)))) (mret .nx)) <|
    mseq (sasg (dget 1) (mstar 1 [mset 2, mset 3])) <|
    mseq (sif (dval (dop (onD pNe) (dcallb gLen [none] (dcons (dget 3) (mret []))) (dcallb gLen [none] (dcons (dkix D_FORMS (dget 2)) (mret []))))) (sret (mret (.d (.bool false)))) (mret .nx)) <|
    sret (dcallb gAll [none] (dcons l_is_deed_1 (mret [])))
def f_is_deed : Fn := dfn 6 [true, true] b_is_deed
theorem nd_is_deed : (["boxes", "thing", "word", "rest", "kind", "one"] : List Str).Nodup := by decide +kernel
theorem sc_is_deed : FnScope ["boxes", "thing", "word", "rest", "kind", "one"] ["boxes", "thing"] (defScope s_is_deed) := ⟨rfl, rfl, rfl, nd_is_deed, rfl, by decide +kernel, by decide +kernel⟩
theorem k_is_deed {P : Program} {w : World} {K : PySem.W.Frag} {mg : Str → Option Value} {base : Heap} (c : Facts w K mg) (d_is_of_kind : Def P w K mg base "is_of_kind" 4 3 f_is_of_kind) (d_is_one_of : Def P w K mg base "is_one_of" 1 2 f_is_one_of) : BodyOk P w K mg base 4 ["boxes", "thing", "word", "rest", "kind", "one"] "is_deed" s_is_deed [true, true] b_is_deed := fun f cd A outer s H E at_ =>
    dss_cons (ds_if (DW.t (dw_or (dt_not (dt_val (de_callB call_isi ck_isi c.n_isinstance bt_isinstance (da_cons (dv 1) (da_cons (de_ty c.n_tuple bt_tuple) da_nil))))) (dw_or (dt_cmp (op_eqP at_.un) od_eq (dv 1) (de_tup da_nil) (by with_unfolding_all rfl)) (dw_or1 (dt_not (dt_val (de_call d_is_one_of at_ (da_cons (de_ix (dv 1) de_int) (da_cons (de_ktup at_.ca ⟨c.t_FORMS⟩ c.n_tuple) da_nil))))))))) (dss_one (ds_ret de_bl)) dss_nil)
    (dss_cons (ds_asg (dv 1) (dg_star at_.ca (dgs_cons (dg_name nd_is_deed rfl (by first | exact Or.inl rfl | exact Or.inr rfl) (by intro h; cases h)) (dgs_star (dg_name nd_is_deed rfl (by first | exact Or.inl rfl | exact Or.inr rfl) (by intro h; cases h)) dgs_nil))))
    (dss_cons (ds_if (dt_cmp (op_neP at_.un) od_ne (de_callB cr_len2 ck_len c.n_len bt_len (da_cons (dv 3) da_nil)) (de_callB cr_len2 ck_len c.n_len bt_len (da_cons (de_kix ⟨c.t_FORMS⟩ (dv 2)) da_nil)) (by with_unfolding_all rfl)) (dss_one (ds_ret de_bl)) dss_nil)
    (dss_one (ds_ret (de_callB (cr_all at_.ca) ck_all c.n_all bt_all (da_cons (de_lc at_ nd_is_deed (di_zip c.n_zip (da_cons (de_kix ⟨c.t_FORMS⟩ (dv 2)) (da_cons (dv 3) da_nil))) (own := [("kind", 4), ("one", 5)]) (by first | (show blkC ["boxes", "thing", "word", "rest", "kind", "one"] (defScope s_is_deed) _ _ = true; decide +kernel) | (show blkC ["boxes", "thing", "word", "rest", "kind", "one"] _ _ _ = true; decide +kernel) | kernel_rfl) (fun b a1 => dg_tup a1.ca (dgs_cons (dg_name nd_is_deed rfl (by first | exact Or.inl rfl | exact Or.inr rfl) (by intro h; cases h)) (dgs_cons (dg_name nd_is_deed rfl (by first | exact Or.inl rfl | exact Or.inr rfl) (by intro h; cases h)) dgs_nil))) (fun b a1 => dts_nil) (fun b a1 => de_call d_is_of_kind a1 (da_cons (dv 0) (da_cons (dv 4) (da_cons (dv 5) da_nil))))) da_nil))))))
theorem ok_is_deed {P : Program} {w : World} {K : PySem.W.Frag} {mg : Str → Option Value} {base : Heap} {f : Addr} {fd : FuncData} (U : Fun K "is_deed" "is_deed" s_is_deed f fd) (hm : mg "is_deed" = some (.ref f)) (bi : Binds K fd ["boxes", "thing"] []) (c : Facts w K mg) (d_is_of_kind : Def P w K mg base "is_of_kind" 4 3 f_is_of_kind) (d_is_one_of : Def P w K mg base "is_one_of" 1 2 f_is_one_of) : Def P w K mg base "is_deed" 5 2 f_is_deed :=
  Def.of U hm bi (def_ok U sc_is_deed rfl (k_is_deed c d_is_of_kind d_is_one_of))
/-! ### look_at_boxes -/
abbrev s_look_at_boxes : Stmt := top 55
def y_look_at_boxes_1 : M Fl :=
    sif (dor (dnot (dval (dcall f_is_name [none] (dcons (dget 2) (mret []))))) (dand (dval (dop (onD pGt) (dget 1) (mret (.d (.int 0))))) (dval (dop (onD pLe2) (dget 2) (dop (onD pIx) (dget 0) (dop (onD pSub) (dget 1) (mret (.d (.int 1))))))))) (sraise "NoProgram" ["part", "hand", "number"] (dcons (mret (.d (.str ("boxes" : Str)))) (dcons (mret (.d .none)) (dcons (dget 1) (mret []))))) (mret .nx)
def b_look_at_boxes : M Fl :=
    mseq (sif (dor (dnot (dval (dcallb gIsi [none, none] (dcons (dget 0) (dcons (mret (.ty "list")) (mret [])))))) (dnot (dval (dchain (onD pLe2) (onD pLe2) (mret (.d (.int 1))) (dcallb gLen [none] (dcons (dget 0) (mret []))) (mret (.d D_MOST_BOXES)))))) (sraise "NoProgram" ["part", "hand", "number"] (dcons (mret (.d (.str ("boxes" : Str)))) (dcons (mret (.d .none)) (dcons (mret (.d .none)) (mret []))))) (mret .nx)) <|
    sfor (denum (dcons (dget 0) (mret []))) (mtup [mset 1, mset 2]) y_look_at_boxes_1
def f_look_at_boxes : Fn := dfn 3 [true] b_look_at_boxes
theorem nd_look_at_boxes : (["thing", "number", "name"] : List Str).Nodup := by decide +kernel
theorem sc_look_at_boxes : FnScope ["thing", "number", "name"] ["thing"] (defScope s_look_at_boxes) := ⟨rfl, rfl, rfl, nd_look_at_boxes, rfl, by decide +kernel, by decide +kernel⟩
theorem k_look_at_boxes {P : Program} {w : World} {K : PySem.W.Frag} {mg : Str → Option Value} {base : Heap} (c : Facts w K mg) (d_is_name : Def P w K mg base "is_name" 1 1 f_is_name) (y_NoProgram : ExcB P w K mg base "NoProgram" 1 ["part", "hand", "number"]) : BodyOk P w K mg base 2 ["thing", "number", "name"] "look_at_boxes" s_look_at_boxes [true] b_look_at_boxes := fun f cd A outer s H E at_ =>
    dss_cons (ds_if (DW.t (dw_or (dt_not (dt_val (de_callB call_isi ck_isi c.n_isinstance bt_isinstance (da_cons (dv 0) (da_cons (de_ty c.n_list bt_list) da_nil))))) (dw_or1 (dt_not (dt_chain op_le2 od_le2 op_le2 od_le2 de_int (de_callB cr_len2 ck_len c.n_len bt_len (da_cons (dv 0) da_nil)) (de_glob ⟨c.g_MOST_BOXES⟩ rfl)))))) (dss_one (ds_raiseB y_NoProgram at_ (da_cons de_str (da_cons de_non (da_cons de_non da_nil))))) dss_nil)
    (dss_one (ds_for at_ (di_enum c.n_enumerate (da_cons (dv 0) da_nil)) (dg_tup at_.ca (dgs_cons (dg_name nd_look_at_boxes rfl (by first | exact Or.inl rfl | exact Or.inr rfl) (by intro h; cases h)) (dgs_cons (dg_name nd_look_at_boxes rfl (by first | exact Or.inl rfl | exact Or.inr rfl) (by intro h; cases h)) dgs_nil))) (dss_one (ds_if (DW.t (dw_or (dt_not (dt_val (de_call d_is_name at_ (da_cons (dv 2) da_nil)))) (dw_or1 (DW.t (dw_and (dt_cmp op_gt od_gt (dv 1) de_int (by with_unfolding_all rfl)) (dw_and1 (dt_cmp op_le2 od_le2 (dv 2) (de_ix (dv 0) (de_op op_sub od_sub (dv 1) de_int)) (by with_unfolding_all rfl)))))))) (dss_one (ds_raiseB y_NoProgram at_ (da_cons de_str (da_cons de_non (da_cons (dv 1) da_nil))))) dss_nil))))
theorem ok_look_at_boxes {P : Program} {w : World} {K : PySem.W.Frag} {mg : Str → Option Value} {base : Heap} {f : Addr} {fd : FuncData} (U : Fun K "look_at_boxes" "look_at_boxes" s_look_at_boxes f fd) (hm : mg "look_at_boxes" = some (.ref f)) (bi : Binds K fd ["thing"] []) (c : Facts w K mg) (d_is_name : Def P w K mg base "is_name" 1 1 f_is_name) (y_NoProgram : ExcB P w K mg base "NoProgram" 1 ["part", "hand", "number"]) : Def P w K mg base "look_at_boxes" 3 1 f_look_at_boxes :=
  Def.of U hm bi (def_ok U sc_look_at_boxes rfl (k_look_at_boxes c d_is_name y_NoProgram))
/-! ### look_at_hands -/
abbrev s_look_at_hands : Stmt := top 56
def y_look_at_hands_1 : M Fl :=
    sif (dor (dnot (dval (dcallb gIsi [none, none] (dcons (dget 2) (dcons (mret (.ty "list")) (mret [])))))) (dval (dop (onD pGt) (dcallb gLen [none] (dcons (dget 2) (mret []))) (mret (.d D_MOST_DEEDS))))) (sraise "NoProgram" ["part", "hand", "number"] (dcons (mret (.d (.str ("hands" : Str)))) (dcons (dget 1) (dcons (mret (.d .none)) (mret []))))) (mret .nx)
def b_look_at_hands : M Fl :=
    mseq (sif (dor (dnot (dval (dcallb gIsi [none, none] (dcons (dget 0) (dcons (mret (.ty "list")) (mret [])))))) (dnot (dval (dchain (onD pLe2) (onD pLe2) (mret (.d (.int 1))) (dcallb gLen [none] (dcons (dget 0) (mret []))) (mret (.d D_MOST_HANDS)))))) (sraise "NoProgram" ["part", "hand", "number"] (dcons (mret (.d (.str ("hands" : Str)))) (dcons (mret (.d .none)) (dcons (mret (.d .none)) (mret []))))) (mret .nx)) <|
    sfor (denum (dcons (dget 0) (mret []))) (mtup [mset 1, mset 2]) y_look_at_hands_1
def f_look_at_hands : Fn := dfn 3 [true] b_look_at_hands
theorem nd_look_at_hands : (["thing", "hand", "deeds"] : List Str).Nodup := by decide +kernel
theorem sc_look_at_hands : FnScope ["thing", "hand", "deeds"] ["thing"] (defScope s_look_at_hands) := ⟨rfl, rfl, rfl, nd_look_at_hands, rfl, by decide +kernel, by decide +kernel⟩
theorem k_look_at_hands {P : Program} {w : World} {K : PySem.W.Frag} {mg : Str → Option Value} {base : Heap} (c : Facts w K mg) (y_NoProgram : ExcB P w K mg base "NoProgram" 1 ["part", "hand", "number"]) : BodyOk P w K mg base 2 ["thing", "hand", "deeds"] "look_at_hands" s_look_at_hands [true] b_look_at_hands := fun f cd A outer s H E at_ =>
    dss_cons (ds_if (DW.t (dw_or (dt_not (dt_val (de_callB call_isi ck_isi c.n_isinstance bt_isinstance (da_cons (dv 0) (da_cons (de_ty c.n_list bt_list) da_nil))))) (dw_or1 (dt_not (dt_chain op_le2 od_le2 op_le2 od_le2 de_int (de_callB cr_len2 ck_len c.n_len bt_len (da_cons (dv 0) da_nil)) (de_glob ⟨c.g_MOST_HANDS⟩ rfl)))))) (dss_one (ds_raiseB y_NoProgram at_ (da_cons de_str (da_cons de_non (da_cons de_non da_nil))))) dss_nil)
    (dss_one (ds_for at_ (di_enum c.n_enumerate (da_cons (dv 0) da_nil)) (dg_tup at_.ca (dgs_cons (dg_name nd_look_at_hands rfl (by first | exact Or.inl rfl | exact Or.inr rfl) (by intro h; cases h)) (dgs_cons (dg_name nd_look_at_hands rfl (by first | exact Or.inl rfl | exact Or.inr rfl) (by intro h; cases h)) dgs_nil))) (dss_one (ds_if (DW.t (dw_or (dt_not (dt_val (de_callB call_isi ck_isi c.n_isinstance bt_isinstance (da_cons (dv 2) (da_cons (de_ty c.n_list bt_list) da_nil))))) (dw_or1 (dt_cmp op_gt od_gt (de_callB cr_len2 ck_len c.n_len bt_len (da_cons (dv 2) da_nil)) (de_glob ⟨c.g_MOST_DEEDS⟩ rfl) (by with_unfolding_all rfl))))) (dss_one (ds_raiseB y_NoProgram at_ (da_cons de_str (da_cons (dv 1) (da_cons de_non da_nil))))) dss_nil))))
theorem ok_look_at_hands {P : Program} {w : World} {K : PySem.W.Frag} {mg : Str → Option Value} {base : Heap} {f : Addr} {fd : FuncData} (U : Fun K "look_at_hands" "look_at_hands" s_look_at_hands f fd) (hm : mg "look_at_hands" = some (.ref f)) (bi : Binds K fd ["thing"] []) (c : Facts w K mg) (y_NoProgram : ExcB P w K mg base "NoProgram" 1 ["part", "hand", "number"]) : Def P w K mg base "look_at_hands" 3 1 f_look_at_hands :=
  Def.of U hm bi (def_ok U sc_look_at_hands rfl (k_look_at_hands c y_NoProgram))
/-! ### look_at -/
abbrev s_look_at : Stmt := top 57
def y_look_at_1 : M Fl :=
    sif (dnot (dval (dcall f_is_deed [none, none] (dcons (dget 1) (dcons (dget 6) (mret [])))))) (sraise "NoProgram" ["part", "hand", "number"] (dcons (mret (.d (.str ("deeds" : Str)))) (dcons (dget 3) (dcons (dget 5) (mret []))))) (mret .nx)
def y_look_at_2 : M Fl :=
    sfor (denum (dcons (dget 4) (mret []))) (mtup [mset 5, mset 6]) y_look_at_1
def l_look_at_3 : M T :=
    dlc (dseq (dget 2)) [4] (mset 4) (mret true) (dcallb gLen [none] (dcons (dget 4) (mret [])))
def b_look_at : M Fl :=
    mseq (sif (dor (dnot (dval (dcallb gIsi [none, none] (dcons (dget 0) (dcons (mret (.ty "tuple")) (mret [])))))) (dval (dop (onD pNe) (dcallb gLen [none] (dcons (dget 0) (mret []))) (mret (.d (.int 2)))))) (sraise "NoProgram" ["part", "hand", "number"] (dcons (mret (.d (.str ("program" : Str)))) (dcons (mret (.d .none)) (dcons (mret (.d .none)) (mret []))))) (mret .nx)) <|
    mseq (sasg (dget 0) (mtup [mset 1, mset 2])) <|
    mseq (sdrop (dcall f_look_at_boxes [none] (dcons (dget 1) (mret [])))) <|
    mseq (sdrop (dcall f_look_at_hands [none] (dcons (dget 2) (mret [])))) <|
    mseq (sfor (denum (dcons (dget 2) (mret []))) (mtup [mset 3, mset 4]) y_look_at_2) <|
    sif (dval (dop (onD pGt) (dcallb gSum [none] (dcons l_look_at_3 (mret []))) (mret (.d D_MOST_TOGETHER)))) (sraise "NoProgram" ["part", "hand", "number"] (dcons (mret (.d (.str ("deeds" : Str)))) (dcons (mret (.d .none)) (dcons (mret (.d .none)) (mret []))))) (mret .nx)
def f_look_at : Fn := dfn 7 [true] b_look_at
theorem nd_look_at : (["thing", "boxes", "hands", "hand", "deeds", "number", "deed"] : List Str).Nodup := by decide +kernel
theorem sc_look_at : FnScope ["thing", "boxes", "hands", "hand", "deeds", "number", "deed"] ["thing"] (defScope s_look_at) := ⟨rfl, rfl, rfl, nd_look_at, rfl, by decide +kernel, by decide +kernel⟩
theorem k_look_at {P : Program} {w : World} {K : PySem.W.Frag} {mg : Str → Option Value} {base : Heap} (c : Facts w K mg) (d_is_deed : Def P w K mg base "is_deed" 5 2 f_is_deed) (d_look_at_boxes : Def P w K mg base "look_at_boxes" 3 1 f_look_at_boxes) (d_look_at_hands : Def P w K mg base "look_at_hands" 3 1 f_look_at_hands) (y_NoProgram : ExcB P w K mg base "NoProgram" 1 ["part", "hand", "number"]) : BodyOk P w K mg base 5 ["thing", "boxes", "hands", "hand", "deeds", "number", "deed"] "look_at" s_look_at [true] b_look_at := fun f cd A outer s H E at_ =>
    dss_cons (ds_if (DW.t (dw_or (dt_not (dt_val (de_callB call_isi ck_isi c.n_isinstance bt_isinstance (da_cons (dv 0) (da_cons (de_ty c.n_tuple bt_tuple) da_nil))))) (dw_or1 (dt_cmp (op_neP at_.un) od_ne (de_callB cr_len2 ck_len c.n_len bt_len (da_cons (dv 0) da_nil)) de_int (by with_unfolding_all rfl))))) (dss_one (ds_raiseB y_NoProgram at_ (da_cons de_str (da_cons de_non (da_cons de_non da_nil))))) dss_nil)
    (dss_cons (ds_asg (dv 0) (dg_tup at_.ca (dgs_cons (dg_name nd_look_at rfl (by first | exact Or.inl rfl | exact Or.inr rfl) (by intro h; cases h)) (dgs_cons (dg_name nd_look_at rfl (by first | exact Or.inl rfl | exact Or.inr rfl) (by intro h; cases h)) dgs_nil))))
    (dss_cons (ds_expr (de_call d_look_at_boxes at_ (da_cons (dv 1) da_nil)))
    (dss_cons (ds_expr (de_call d_look_at_hands at_ (da_cons (dv 2) da_nil)))
    (dss_cons (ds_for at_ (di_enum c.n_enumerate (da_cons (dv 2) da_nil)) (dg_tup at_.ca (dgs_cons (dg_name nd_look_at rfl (by first | exact Or.inl rfl | exact Or.inr rfl) (by intro h; cases h)) (dgs_cons (dg_name nd_look_at rfl (by first | exact Or.inl rfl | exact Or.inr rfl) (by intro h; cases h)) dgs_nil))) (dss_one (ds_for at_ (di_enum c.n_enumerate (da_cons (dv 4) da_nil)) (dg_tup at_.ca (dgs_cons (dg_name nd_look_at rfl (by first | exact Or.inl rfl | exact Or.inr rfl) (by intro h; cases h)) (dgs_cons (dg_name nd_look_at rfl (by first | exact Or.inl rfl | exact Or.inr rfl) (by intro h; cases h)) dgs_nil))) (dss_one (ds_if (dt_not (dt_val (de_call d_is_deed at_ (da_cons (dv 1) (da_cons (dv 6) da_nil))))) (dss_one (ds_raiseB y_NoProgram at_ (da_cons de_str (da_cons (dv 3) (da_cons (dv 5) da_nil))))) dss_nil)))))
    (dss_one (ds_if (dt_cmp op_gt od_gt (de_callB (cr_sum at_.ca) ck_sum c.n_sum bt_sum (da_cons (de_lc at_ nd_look_at (di_seq (dv 2)) (own := [("deeds", 4)]) (by first | (show blkC ["thing", "boxes", "hands", "hand", "deeds", "number", "deed"] (defScope s_look_at) _ _ = true; decide +kernel) | (show blkC ["thing", "boxes", "hands", "hand", "deeds", "number", "deed"] _ _ _ = true; decide +kernel) | kernel_rfl) (fun b a1 => dg_name nd_look_at rfl (by first | exact Or.inl rfl | exact Or.inr rfl) (by intro h; cases h)) (fun b a1 => dts_nil) (fun b a1 => de_callB cr_len2 ck_len c.n_len bt_len (da_cons (dv 4) da_nil))) da_nil)) (de_glob ⟨c.g_MOST_TOGETHER⟩ rfl) (by with_unfolding_all rfl)) (dss_one (ds_raiseB y_NoProgram at_ (da_cons de_str (da_cons de_non (da_cons de_non da_nil))))) dss_nil))))))
theorem ok_look_at {P : Program} {w : World} {K : PySem.W.Frag} {mg : Str → Option Value} {base : Heap} {f : Addr} {fd : FuncData} (U : Fun K "look_at" "look_at" s_look_at f fd) (hm : mg "look_at" = some (.ref f)) (bi : Binds K fd ["thing"] []) (c : Facts w K mg) (d_is_deed : Def P w K mg base "is_deed" 5 2 f_is_deed) (d_look_at_boxes : Def P w K mg base "look_at_boxes" 3 1 f_look_at_boxes) (d_look_at_hands : Def P w K mg base "look_at_hands" 3 1 f_look_at_hands) (y_NoProgram : ExcB P w K mg base "NoProgram" 1 ["part", "hand", "number"]) : Def P w K mg base "look_at" 6 1 f_look_at :=
  Def.of U hm bi (def_ok U sc_look_at rfl (k_look_at c d_is_deed d_look_at_boxes d_look_at_hands y_NoProgram))
/-! ### Machine___init__ -/
abbrev s_Machine___init__ : Stmt := methOf (top 75) 0
def b_Machine___init__ : M Fl :=
    mseq (sdrop (dcall f_look_at [none] (dcons (dget 1) (mret [])))) <|
    mno
def f_Machine___init__ : Fn := dfn 4 [true, true] b_Machine___init__
theorem nd_Machine___init__ : (["self", "program", "first", "deeds"] : List Str).Nodup := by decide +kernel
theorem sc_Machine___init__ : FnScope ["self", "program", "first", "deeds"] ["self", "program"] (defScope s_Machine___init__) := ⟨rfl, rfl, rfl, nd_Machine___init__, rfl, by decide +kernel, by decide +kernel⟩
theorem k_Machine___init__ {P : Program} {w : World} {K : PySem.W.Frag} {mg : Str → Option Value} {base : Heap} (c : Facts w K mg) (d_look_at : Def P w K mg base "look_at" 6 1 f_look_at) : BodyOk P w K mg base 6 ["self", "program", "first", "deeds"] "Machine.__init__" s_Machine___init__ [true, true] b_Machine___init__ := fun f cd A outer s H E at_ =>
    dss_cons (ds_expr (de_call d_look_at at_ (da_cons (dv 1) da_nil)))
    dss_dead
/-! ### _law_machine -/
abbrev s__law_machine : Stmt := top 152
def b__law_machine : M Fl :=
    sret (dmake "Machine" f_Machine___init__ [none] (dcons (dget 0) (mret [])))
def f__law_machine : Fn := dfn 1 [true] b__law_machine
theorem nd__law_machine : (["_law_program"] : List Str).Nodup := by decide +kernel
theorem sc__law_machine : FnScope ["_law_program"] ["_law_program"] (defScope s__law_machine) := ⟨rfl, rfl, rfl, nd__law_machine, rfl, by decide +kernel, by decide +kernel⟩
theorem k__law_machine {P : Program} {w : World} {K : PySem.W.Frag} {mg : Str → Option Value} {base : Heap} (c : Facts w K mg) (e_Machine___init__ : DefI P w K mg base "Machine" 7 2 f_Machine___init__) : BodyOk P w K mg base 8 ["_law_program"] "_law_machine" s__law_machine [true] b__law_machine := fun f cd A outer s H E at_ =>
    dss_one (ds_ret (de_make e_Machine___init__ at_ (da_cons (dv 0) da_nil)))
theorem ok__law_machine {P : Program} {w : World} {K : PySem.W.Frag} {mg : Str → Option Value} {base : Heap} {f : Addr} {fd : FuncData} (U : Fun K "_law_machine" "_law_machine" s__law_machine f fd) (hm : mg "_law_machine" = some (.ref f)) (bi : Binds K fd ["_law_program"] []) (c : Facts w K mg) (e_Machine___init__ : DefI P w K mg base "Machine" 7 2 f_Machine___init__) : Def P w K mg base "_law_machine" 9 1 f__law_machine :=
  Def.of U hm bi (def_ok U sc__law_machine rfl (k__law_machine c e_Machine___init__))
/-! ### Walk___init__ -/
abbrev s_Walk___init__ : Stmt := methOf (top 103) 0
def b_Walk___init__ : M Fl :=
    satt cs_engine 0 "engine" (dmake "Machine" f_Machine___init__ [none] (dcons (dget 1) (mret [])))
def f_Walk___init__ : Fn := dfn 2 [true, true] b_Walk___init__
theorem nd_Walk___init__ : (["self", "program"] : List Str).Nodup := by decide +kernel
theorem sc_Walk___init__ : FnScope ["self", "program"] ["self", "program"] (defScope s_Walk___init__) := ⟨rfl, rfl, rfl, nd_Walk___init__, rfl, by decide +kernel, by decide +kernel⟩
theorem k_Walk___init__ {P : Program} {w : World} {K : PySem.W.Frag} {mg : Str → Option Value} {base : Heap} (c : Facts w K mg) (e_Machine___init__ : DefI P w K mg base "Machine" 7 2 f_Machine___init__) : BodyOk P w K mg base 8 ["self", "program"] "Walk.__init__" s_Walk___init__ [true, true] b_Walk___init__ := fun f cd A outer s H E at_ =>
    dss_one (ds_att 0 c.cf_engine (de_make e_Machine___init__ at_ (da_cons (dv 1) da_nil)))
/-! ### first_graph -/
abbrev s_first_graph : Stmt := top 104
def b_first_graph : M Fl :=
    mseq (sset 1 (dmake "Walk" f_Walk___init__ [none] (dcons (dget 0) (mret [])))) <|
    mno
def f_first_graph : Fn := dfn 2 [true] b_first_graph
theorem nd_first_graph : (["program", "walk"] : List Str).Nodup := by decide +kernel
theorem sc_first_graph : FnScope ["program", "walk"] ["program"] (defScope s_first_graph) := ⟨rfl, rfl, rfl, nd_first_graph, rfl, by decide +kernel, by decide +kernel⟩
theorem k_first_graph {P : Program} {w : World} {K : PySem.W.Frag} {mg : Str → Option Value} {base : Heap} (c : Facts w K mg) (e_Walk___init__ : DefI P w K mg base "Walk" 9 2 f_Walk___init__) : BodyOk P w K mg base 10 ["program", "walk"] "first_graph" s_first_graph [true] b_first_graph := fun f cd A outer s H E at_ =>
    dss_cons (ds_set 1 nd_first_graph (de_make e_Walk___init__ at_ (da_cons (dv 0) da_nil)))
    dss_dead
theorem ok_first_graph {P : Program} {w : World} {K : PySem.W.Frag} {mg : Str → Option Value} {base : Heap} {f : Addr} {fd : FuncData} (U : Fun K "first_graph" "first_graph" s_first_graph f fd) (hm : mg "first_graph" = some (.ref f)) (bi : Binds K fd ["program"] []) (c : Facts w K mg) (e_Walk___init__ : DefI P w K mg base "Walk" 9 2 f_Walk___init__) : Def P w K mg base "first_graph" 11 1 f_first_graph :=
  Def.of U hm bi (def_ok U sc_first_graph rfl (k_first_graph c e_Walk___init__))
/-! ### count_of -/
abbrev s_count_of : Stmt := top 106
def b_count_of : M Fl :=
    mseq (sdrop (dcall f_look_at [none] (dcons (dget 0) (mret [])))) <|
    mno
def g_count_of : Fn := dfn 4 [true, true] b_count_of
def f_count_of : Fn := cutFn 1 [.int 100000] g_count_of
theorem nd_count_of : (["program", "most", "goer", "found"] : List Str).Nodup := by decide +kernel
theorem sc_count_of : FnScope ["program", "most", "goer", "found"] ["program", "most"] (defScope s_count_of) := ⟨rfl, rfl, rfl, nd_count_of, rfl, by decide +kernel, by decide +kernel⟩
theorem k_count_of {P : Program} {w : World} {K : PySem.W.Frag} {mg : Str → Option Value} {base : Heap} (c : Facts w K mg) (d_look_at : Def P w K mg base "look_at" 6 1 f_look_at) : BodyOk P w K mg base 6 ["program", "most", "goer", "found"] "count_of" s_count_of [true, true] b_count_of := fun f cd A outer s H E at_ =>
    dss_cons (ds_expr (de_call d_look_at at_ (da_cons (dv 0) da_nil)))
    dss_dead
theorem ok_count_of {P : Program} {w : World} {K : PySem.W.Frag} {mg : Str → Option Value} {base : Heap} {f : Addr} {fd : FuncData} (U : Fun K "count_of" "count_of" s_count_of f fd) (hm : mg "count_of" = some (.ref f)) (bi : ∃ ds, Vals ([("most", V.int 100000)].map (·.2)) ds ∧ Binds K fd ["program", "most"] ds) (c : Facts w K mg) (d_look_at : Def P w K mg base "look_at" 6 1 f_look_at) : Def P w K mg base "count_of" 7 1 f_count_of :=
  Def.ofK U hm (def_ok U sc_count_of rfl (k_count_of c d_look_at)) bi fun I => (.cons (.int _) .nil)
/-! ### Goer___init__ -/
abbrev s_Goer___init__ : Stmt := methOf (top 113) 0
def b_Goer___init__ : M Fl :=
    mseq (sdrop (dcall f_look_at [none] (dcons (dget 1) (mret [])))) <|
    mno
def g_Goer___init__ : Fn := dfn 3 [true, true, true] b_Goer___init__
def f_Goer___init__ : Fn := cutFn 2 [.bool false] g_Goer___init__
theorem nd_Goer___init__ : (["self", "program", "alike"] : List Str).Nodup := by decide +kernel
theorem sc_Goer___init__ : FnScope ["self", "program", "alike"] ["self", "program", "alike"] (defScope s_Goer___init__) := ⟨rfl, rfl, rfl, nd_Goer___init__, rfl, by decide +kernel, by decide +kernel⟩
theorem k_Goer___init__ {P : Program} {w : World} {K : PySem.W.Frag} {mg : Str → Option Value} {base : Heap} (c : Facts w K mg) (d_look_at : Def P w K mg base "look_at" 6 1 f_look_at) : BodyOk P w K mg base 6 ["self", "program", "alike"] "Goer.__init__" s_Goer___init__ [true, true, true] b_Goer___init__ := fun f cd A outer s H E at_ =>
    dss_cons (ds_expr (de_call d_look_at at_ (da_cons (dv 1) da_nil)))
    dss_dead
/-! ### _law_goer -/
abbrev s__law_goer : Stmt := top 153
def b__law_goer : M Fl :=
    sret (dmake "Goer" f_Goer___init__ [none] (dcons (dget 0) (mret [])))
def f__law_goer : Fn := dfn 1 [true] b__law_goer
theorem nd__law_goer : (["_law_program"] : List Str).Nodup := by decide +kernel
theorem sc__law_goer : FnScope ["_law_program"] ["_law_program"] (defScope s__law_goer) := ⟨rfl, rfl, rfl, nd__law_goer, rfl, by decide +kernel, by decide +kernel⟩
theorem k__law_goer {P : Program} {w : World} {K : PySem.W.Frag} {mg : Str → Option Value} {base : Heap} (c : Facts w K mg) (e_Goer___init__ : DefI P w K mg base "Goer" 7 2 f_Goer___init__) : BodyOk P w K mg base 8 ["_law_program"] "_law_goer" s__law_goer [true] b__law_goer := fun f cd A outer s H E at_ =>
    dss_one (ds_ret (de_make e_Goer___init__ at_ (da_cons (dv 0) da_nil)))
theorem ok__law_goer {P : Program} {w : World} {K : PySem.W.Frag} {mg : Str → Option Value} {base : Heap} {f : Addr} {fd : FuncData} (U : Fun K "_law_goer" "_law_goer" s__law_goer f fd) (hm : mg "_law_goer" = some (.ref f)) (bi : Binds K fd ["_law_program"] []) (c : Facts w K mg) (e_Goer___init__ : DefI P w K mg base "Goer" 7 2 f_Goer___init__) : Def P w K mg base "_law_goer" 9 1 f__law_goer :=
  Def.of U hm bi (def_ok U sc__law_goer rfl (k__law_goer c e_Goer___init__))
/-! ### outcomes -/
abbrev s_outcomes : Stmt := top 131
def b_outcomes : M Fl :=
    mseq (sdrop (dcall f_look_at [none] (dcons (dget 0) (mret [])))) <|
    mno
def f_outcomes : Fn := dfn 4 [true] b_outcomes
theorem nd_outcomes : (["program", "goer", "found", "graph"] : List Str).Nodup := by decide +kernel
theorem sc_outcomes : FnScope ["program", "goer", "found", "graph"] ["program"] (defScope s_outcomes) := ⟨rfl, rfl, rfl, nd_outcomes, rfl, by decide +kernel, by decide +kernel⟩
theorem k_outcomes {P : Program} {w : World} {K : PySem.W.Frag} {mg : Str → Option Value} {base : Heap} (c : Facts w K mg) (d_look_at : Def P w K mg base "look_at" 6 1 f_look_at) : BodyOk P w K mg base 6 ["program", "goer", "found", "graph"] "outcomes" s_outcomes [true] b_outcomes := fun f cd A outer s H E at_ =>
    dss_cons (ds_expr (de_call d_look_at at_ (da_cons (dv 0) da_nil)))
    dss_dead
theorem ok_outcomes {P : Program} {w : World} {K : PySem.W.Frag} {mg : Str → Option Value} {base : Heap} {f : Addr} {fd : FuncData} (U : Fun K "outcomes" "outcomes" s_outcomes f fd) (hm : mg "outcomes" = some (.ref f)) (bi : Binds K fd ["program"] []) (c : Facts w K mg) (d_look_at : Def P w K mg base "look_at" 6 1 f_look_at) : Def P w K mg base "outcomes" 7 1 f_outcomes :=
  Def.of U hm bi (def_ok U sc_outcomes rfl (k_outcomes c d_look_at))
/-! ### outcome_of -/
abbrev s_outcome_of : Stmt := top 119
def b_outcome_of : M Fl :=
    mseq (sdrop (dcall f_look_at [none] (dcons (dget 0) (mret [])))) <|
    mno
def f_outcome_of : Fn := dfn 7 [true, true] b_outcome_of
theorem nd_outcome_of : (["program", "graph", "words", "registers", "word", "hand", "row"] : List Str).Nodup := by decide +kernel
theorem sc_outcome_of : FnScope ["program", "graph", "words", "registers", "word", "hand", "row"] ["program", "graph"] (defScope s_outcome_of) := ⟨rfl, rfl, rfl, nd_outcome_of, rfl, by decide +kernel, by decide +kernel⟩
theorem k_outcome_of {P : Program} {w : World} {K : PySem.W.Frag} {mg : Str → Option Value} {base : Heap} (c : Facts w K mg) (d_look_at : Def P w K mg base "look_at" 6 1 f_look_at) : BodyOk P w K mg base 6 ["program", "graph", "words", "registers", "word", "hand", "row"] "outcome_of" s_outcome_of [true, true] b_outcome_of := fun f cd A outer s H E at_ =>
    dss_cons (ds_expr (de_call d_look_at at_ (da_cons (dv 0) da_nil)))
    dss_dead
theorem ok_outcome_of {P : Program} {w : World} {K : PySem.W.Frag} {mg : Str → Option Value} {base : Heap} {f : Addr} {fd : FuncData} (U : Fun K "outcome_of" "outcome_of" s_outcome_of f fd) (hm : mg "outcome_of" = some (.ref f)) (bi : Binds K fd ["program", "graph"] []) (c : Facts w K mg) (d_look_at : Def P w K mg base "look_at" 6 1 f_look_at) : Def P w K mg base "outcome_of" 7 2 f_outcome_of :=
  Def.of U hm bi (def_ok U sc_outcome_of rfl (k_outcome_of c d_look_at))
/-! ### turn_ends -/
abbrev s_turn_ends : Stmt := top 129
def b_turn_ends : M Fl :=
    mseq (sset 1 (dmake "Machine" f_Machine___init__ [none] (dcons (dget 0) (mret [])))) <|
    mno
def f_turn_ends : Fn := dfn 9 [true] b_turn_ends
theorem nd_turn_ends : (["program", "machine", "seen", "found", "left", "hand", "at", "graph", "some"] : List Str).Nodup := by decide +kernel
theorem sc_turn_ends : FnScope ["program", "machine", "seen", "found", "left", "hand", "at", "graph", "some"] ["program"] (defScope s_turn_ends) := ⟨rfl, rfl, rfl, nd_turn_ends, rfl, by decide +kernel, by decide +kernel⟩
theorem k_turn_ends {P : Program} {w : World} {K : PySem.W.Frag} {mg : Str → Option Value} {base : Heap} (c : Facts w K mg) (e_Machine___init__ : DefI P w K mg base "Machine" 7 2 f_Machine___init__) : BodyOk P w K mg base 8 ["program", "machine", "seen", "found", "left", "hand", "at", "graph", "some"] "turn_ends" s_turn_ends [true] b_turn_ends := fun f cd A outer s H E at_ =>
    dss_cons (ds_set 1 nd_turn_ends (de_make e_Machine___init__ at_ (da_cons (dv 0) da_nil)))
    dss_dead
theorem ok_turn_ends {P : Program} {w : World} {K : PySem.W.Frag} {mg : Str → Option Value} {base : Heap} {f : Addr} {fd : FuncData} (U : Fun K "turn_ends" "turn_ends" s_turn_ends f fd) (hm : mg "turn_ends" = some (.ref f)) (bi : Binds K fd ["program"] []) (c : Facts w K mg) (e_Machine___init__ : DefI P w K mg base "Machine" 7 2 f_Machine___init__) : Def P w K mg base "turn_ends" 9 1 f_turn_ends :=
  Def.of U hm bi (def_ok U sc_turn_ends rfl (k_turn_ends c e_Machine___init__))
/-! ### unlike_sorted -/
abbrev s_unlike_sorted : Stmt := top 130
def b_unlike_sorted : M Fl :=
    mno
def f_unlike_sorted : Fn := dfn 3 [true] b_unlike_sorted
theorem nd_unlike_sorted : (["some", "found", "one"] : List Str).Nodup := by decide +kernel
theorem sc_unlike_sorted : FnScope ["some", "found", "one"] ["some"] (defScope s_unlike_sorted) := ⟨rfl, rfl, rfl, nd_unlike_sorted, rfl, by decide +kernel, by decide +kernel⟩
theorem k_unlike_sorted {P : Program} {w : World} {K : PySem.W.Frag} {mg : Str → Option Value} {base : Heap} (c : Facts w K mg)  : BodyOk P w K mg base 0 ["some", "found", "one"] "unlike_sorted" s_unlike_sorted [true] b_unlike_sorted := fun f cd A outer s H E at_ =>
    dss_dead
theorem ok_unlike_sorted {P : Program} {w : World} {K : PySem.W.Frag} {mg : Str → Option Value} {base : Heap} {f : Addr} {fd : FuncData} (U : Fun K "unlike_sorted" "unlike_sorted" s_unlike_sorted f fd) (hm : mg "unlike_sorted" = some (.ref f)) (bi : Binds K fd ["some"] []) (c : Facts w K mg)  : Def P w K mg base "unlike_sorted" 1 1 f_unlike_sorted :=
  Def.of U hm bi (def_ok U sc_unlike_sorted rfl (k_unlike_sorted c ))
/-! ### turn_outcomes -/
abbrev s_turn_outcomes : Stmt := top 132
def l_turn_outcomes_1 : M T :=
    dlc (dseq (dcall f_turn_ends [none] (dcons (dget 0) (mret [])))) [1, 2] (mtup [mset 1, mset 2]) (mret true) (dcall f_outcome_of [none, none] (dcons (dget 0) (dcons (dget 2) (mret []))))
def b_turn_outcomes : M Fl :=
    sret (dcall f_unlike_sorted [none] (dcons l_turn_outcomes_1 (mret [])))
def f_turn_outcomes : Fn := dfn 3 [true] b_turn_outcomes
theorem nd_turn_outcomes : (["program", "run", "graph"] : List Str).Nodup := by decide +kernel
theorem sc_turn_outcomes : FnScope ["program", "run", "graph"] ["program"] (defScope s_turn_outcomes) := ⟨rfl, rfl, rfl, nd_turn_outcomes, rfl, by decide +kernel, by decide +kernel⟩
theorem k_turn_outcomes {P : Program} {w : World} {K : PySem.W.Frag} {mg : Str → Option Value} {base : Heap} (c : Facts w K mg) (d_outcome_of : Def P w K mg base "outcome_of" 7 2 f_outcome_of) (d_turn_ends : Def P w K mg base "turn_ends" 9 1 f_turn_ends) (d_unlike_sorted : Def P w K mg base "unlike_sorted" 1 1 f_unlike_sorted) : BodyOk P w K mg base 9 ["program", "run", "graph"] "turn_outcomes" s_turn_outcomes [true] b_turn_outcomes := fun f cd A outer s H E at_ =>
    dss_one (ds_ret (de_call d_unlike_sorted at_ (da_cons (de_lc at_ nd_turn_outcomes (di_seq (de_call d_turn_ends at_ (da_cons (dv 0) da_nil))) (own := [("run", 1), ("graph", 2)]) (by first | (show blkC ["program", "run", "graph"] (defScope s_turn_outcomes) _ _ = true; decide +kernel) | (show blkC ["program", "run", "graph"] _ _ _ = true; decide +kernel) | kernel_rfl) (fun b a1 => dg_tup a1.ca (dgs_cons (dg_name nd_turn_outcomes rfl (by first | exact Or.inl rfl | exact Or.inr rfl) (by intro h; cases h)) (dgs_cons (dg_name nd_turn_outcomes rfl (by first | exact Or.inl rfl | exact Or.inr rfl) (by intro h; cases h)) dgs_nil))) (fun b a1 => dts_nil) (fun b a1 => de_call d_outcome_of a1 (da_cons (dv 0) (da_cons (dv 2) da_nil)))) da_nil)))
theorem ok_turn_outcomes {P : Program} {w : World} {K : PySem.W.Frag} {mg : Str → Option Value} {base : Heap} {f : Addr} {fd : FuncData} (U : Fun K "turn_outcomes" "turn_outcomes" s_turn_outcomes f fd) (hm : mg "turn_outcomes" = some (.ref f)) (bi : Binds K fd ["program"] []) (c : Facts w K mg) (d_outcome_of : Def P w K mg base "outcome_of" 7 2 f_outcome_of) (d_turn_ends : Def P w K mg base "turn_ends" 9 1 f_turn_ends) (d_unlike_sorted : Def P w K mg base "unlike_sorted" 1 1 f_unlike_sorted) : Def P w K mg base "turn_outcomes" 10 1 f_turn_outcomes :=
  Def.of U hm bi (def_ok U sc_turn_outcomes rfl (k_turn_outcomes c d_outcome_of d_turn_ends d_unlike_sorted))
/-! ### clash_of -/
abbrev s_clash_of : Stmt := top 137
def b_clash_of : M Fl :=
    mseq (sdrop (dcall f_look_at [none] (dcons (dget 0) (mret [])))) <|
    mno
def f_clash_of : Fn := dfn 4 [true] b_clash_of
theorem nd_clash_of : (["program", "run", "graph", "some"] : List Str).Nodup := by decide +kernel
theorem sc_clash_of : FnScope ["program", "run", "graph", "some"] ["program"] (defScope s_clash_of) := ⟨rfl, rfl, rfl, nd_clash_of, rfl, by decide +kernel, by decide +kernel⟩
theorem k_clash_of {P : Program} {w : World} {K : PySem.W.Frag} {mg : Str → Option Value} {base : Heap} (c : Facts w K mg) (d_look_at : Def P w K mg base "look_at" 6 1 f_look_at) : BodyOk P w K mg base 6 ["program", "run", "graph", "some"] "clash_of" s_clash_of [true] b_clash_of := fun f cd A outer s H E at_ =>
    dss_cons (ds_expr (de_call d_look_at at_ (da_cons (dv 0) da_nil)))
    dss_dead
theorem ok_clash_of {P : Program} {w : World} {K : PySem.W.Frag} {mg : Str → Option Value} {base : Heap} {f : Addr} {fd : FuncData} (U : Fun K "clash_of" "clash_of" s_clash_of f fd) (hm : mg "clash_of" = some (.ref f)) (bi : Binds K fd ["program"] []) (c : Facts w K mg) (d_look_at : Def P w K mg base "look_at" 6 1 f_look_at) : Def P w K mg base "clash_of" 7 1 f_clash_of :=
  Def.of U hm bi (def_ok U sc_clash_of rfl (k_clash_of c d_look_at))
/-! ### failing -/
abbrev s_failing : Stmt := top 122
def b_failing : M Fl :=
    mseq (sdrop (dcall f_look_at [none] (dcons (dget 0) (mret [])))) <|
    mno
def f_failing : Fn := dfn 4 [true] b_failing
theorem nd_failing : (["program", "many", "walk", "deeds"] : List Str).Nodup := by decide +kernel
theorem sc_failing : FnScope ["program", "many", "walk", "deeds"] ["program"] (defScope s_failing) := ⟨rfl, rfl, rfl, nd_failing, rfl, by decide +kernel, by decide +kernel⟩
theorem k_failing {P : Program} {w : World} {K : PySem.W.Frag} {mg : Str → Option Value} {base : Heap} (c : Facts w K mg) (d_look_at : Def P w K mg base "look_at" 6 1 f_look_at) : BodyOk P w K mg base 6 ["program", "many", "walk", "deeds"] "failing" s_failing [true] b_failing := fun f cd A outer s H E at_ =>
    dss_cons (ds_expr (de_call d_look_at at_ (da_cons (dv 0) da_nil)))
    dss_dead
theorem ok_failing {P : Program} {w : World} {K : PySem.W.Frag} {mg : Str → Option Value} {base : Heap} {f : Addr} {fd : FuncData} (U : Fun K "failing" "failing" s_failing f fd) (hm : mg "failing" = some (.ref f)) (bi : Binds K fd ["program"] []) (c : Facts w K mg) (d_look_at : Def P w K mg base "look_at" 6 1 f_look_at) : Def P w K mg base "failing" 7 1 f_failing :=
  Def.of U hm bi (def_ok U sc_failing rfl (k_failing c d_look_at))
/-! ### ledger_of -/
abbrev s_ledger_of : Stmt := top 123
def b_ledger_of : M Fl :=
    mseq (sset 1 (dcall f_failing [none] (dcons (dget 0) (mret [])))) <|
    mno
def f_ledger_of : Fn := dfn 2 [true] b_ledger_of
theorem nd_ledger_of : (["program", "graph"] : List Str).Nodup := by decide +kernel
theorem sc_ledger_of : FnScope ["program", "graph"] ["program"] (defScope s_ledger_of) := ⟨rfl, rfl, rfl, nd_ledger_of, rfl, by decide +kernel, by decide +kernel⟩
theorem k_ledger_of {P : Program} {w : World} {K : PySem.W.Frag} {mg : Str → Option Value} {base : Heap} (c : Facts w K mg) (d_failing : Def P w K mg base "failing" 7 1 f_failing) : BodyOk P w K mg base 7 ["program", "graph"] "ledger_of" s_ledger_of [true] b_ledger_of := fun f cd A outer s H E at_ =>
    dss_cons (ds_set 1 nd_ledger_of (de_call d_failing at_ (da_cons (dv 0) da_nil)))
    dss_dead
theorem ok_ledger_of {P : Program} {w : World} {K : PySem.W.Frag} {mg : Str → Option Value} {base : Heap} {f : Addr} {fd : FuncData} (U : Fun K "ledger_of" "ledger_of" s_ledger_of f fd) (hm : mg "ledger_of" = some (.ref f)) (bi : Binds K fd ["program"] []) (c : Facts w K mg) (d_failing : Def P w K mg base "failing" 7 1 f_failing) : Def P w K mg base "ledger_of" 8 1 f_ledger_of :=
  Def.of U hm bi (def_ok U sc_ledger_of rfl (k_ledger_of c d_failing))
/-! ### picks_of -/
abbrev s_picks_of : Stmt := top 141
def b_picks_of : M Fl :=
    mseq (sdrop (dcall f_look_at [none] (dcons (dget 0) (mret [])))) <|
    mno
def f_picks_of : Fn := dfn 5 [true] b_picks_of
theorem nd_picks_of : (["program", "hand", "deeds", "number", "deed"] : List Str).Nodup := by decide +kernel
theorem sc_picks_of : FnScope ["program", "hand", "deeds", "number", "deed"] ["program"] (defScope s_picks_of) := ⟨rfl, rfl, rfl, nd_picks_of, rfl, by decide +kernel, by decide +kernel⟩
theorem k_picks_of {P : Program} {w : World} {K : PySem.W.Frag} {mg : Str → Option Value} {base : Heap} (c : Facts w K mg) (d_look_at : Def P w K mg base "look_at" 6 1 f_look_at) : BodyOk P w K mg base 6 ["program", "hand", "deeds", "number", "deed"] "picks_of" s_picks_of [true] b_picks_of := fun f cd A outer s H E at_ =>
    dss_cons (ds_expr (de_call d_look_at at_ (da_cons (dv 0) da_nil)))
    dss_dead
theorem ok_picks_of {P : Program} {w : World} {K : PySem.W.Frag} {mg : Str → Option Value} {base : Heap} {f : Addr} {fd : FuncData} (U : Fun K "picks_of" "picks_of" s_picks_of f fd) (hm : mg "picks_of" = some (.ref f)) (bi : Binds K fd ["program"] []) (c : Facts w K mg) (d_look_at : Def P w K mg base "look_at" 6 1 f_look_at) : Def P w K mg base "picks_of" 7 1 f_picks_of :=
  Def.of U hm bi (def_ok U sc_picks_of rfl (k_picks_of c d_look_at))
/-! ### paper_of -/
abbrev s_paper_of : Stmt := top 146
def b_paper_of : M Fl :=
    mseq (sset 1 (dcall f_picks_of [none] (dcons (dget 0) (mret [])))) <|
    mno
def f_paper_of : Fn := dfn 8 [true] b_paper_of
theorem nd_paper_of : (["program", "some", "fails", "many", "more", "choice", "word", "rest"] : List Str).Nodup := by decide +kernel
theorem sc_paper_of : FnScope ["program", "some", "fails", "many", "more", "choice", "word", "rest"] ["program"] (defScope s_paper_of) := ⟨rfl, rfl, rfl, nd_paper_of, rfl, by decide +kernel, by decide +kernel⟩
theorem k_paper_of {P : Program} {w : World} {K : PySem.W.Frag} {mg : Str → Option Value} {base : Heap} (c : Facts w K mg) (d_picks_of : Def P w K mg base "picks_of" 7 1 f_picks_of) : BodyOk P w K mg base 7 ["program", "some", "fails", "many", "more", "choice", "word", "rest"] "paper_of" s_paper_of [true] b_paper_of := fun f cd A outer s H E at_ =>
    dss_cons (ds_set 1 nd_paper_of (de_call d_picks_of at_ (da_cons (dv 0) da_nil)))
    dss_dead
theorem ok_paper_of {P : Program} {w : World} {K : PySem.W.Frag} {mg : Str → Option Value} {base : Heap} {f : Addr} {fd : FuncData} (U : Fun K "paper_of" "paper_of" s_paper_of f fd) (hm : mg "paper_of" = some (.ref f)) (bi : Binds K fd ["program"] []) (c : Facts w K mg) (d_picks_of : Def P w K mg base "picks_of" 7 1 f_picks_of) : Def P w K mg base "paper_of" 8 1 f_paper_of :=
  Def.of U hm bi (def_ok U sc_paper_of rfl (k_paper_of c d_picks_of))
/-! ### is_drawing -/
abbrev s_is_drawing : Stmt := top 65
def b_is_drawing : M Fl :=
    mseq (sdrop (dcall f_look_at [none] (dcons (dget 0) (mret [])))) <|
    mno
def f_is_drawing : Fn := dfn 12 [true, true] b_is_drawing
theorem nd_is_drawing : (["program", "thing", "lines", "rows", "box", "row", "due", "line", "note", "hand", "at", "one"] : List Str).Nodup := by decide +kernel
theorem sc_is_drawing : FnScope ["program", "thing", "lines", "rows", "box", "row", "due", "line", "note", "hand", "at", "one"] ["program", "thing"] (defScope s_is_drawing) := ⟨rfl, rfl, rfl, nd_is_drawing, rfl, by decide +kernel, by decide +kernel⟩
theorem k_is_drawing {P : Program} {w : World} {K : PySem.W.Frag} {mg : Str → Option Value} {base : Heap} (c : Facts w K mg) (d_look_at : Def P w K mg base "look_at" 6 1 f_look_at) : BodyOk P w K mg base 6 ["program", "thing", "lines", "rows", "box", "row", "due", "line", "note", "hand", "at", "one"] "is_drawing" s_is_drawing [true, true] b_is_drawing := fun f cd A outer s H E at_ =>
    dss_cons (ds_expr (de_call d_look_at at_ (da_cons (dv 0) da_nil)))
    dss_dead
theorem ok_is_drawing {P : Program} {w : World} {K : PySem.W.Frag} {mg : Str → Option Value} {base : Heap} {f : Addr} {fd : FuncData} (U : Fun K "is_drawing" "is_drawing" s_is_drawing f fd) (hm : mg "is_drawing" = some (.ref f)) (bi : Binds K fd ["program", "thing"] []) (c : Facts w K mg) (d_look_at : Def P w K mg base "look_at" 6 1 f_look_at) : Def P w K mg base "is_drawing" 7 2 f_is_drawing :=
  Def.of U hm bi (def_ok U sc_is_drawing rfl (k_is_drawing c d_look_at))
/-! ### before -/
abbrev s_before : Stmt := top 86
def b_before : M Fl :=
    mseq (sdrop (dcall f_look_at [none] (dcons (dget 0) (mret [])))) <|
    mno
def f_before : Fn := dfn 7 [true, true] b_before
theorem nd_before : (["program", "graph", "lines", "found", "one", "others", "other"] : List Str).Nodup := by decide +kernel
theorem sc_before : FnScope ["program", "graph", "lines", "found", "one", "others", "other"] ["program", "graph"] (defScope s_before) := ⟨rfl, rfl, rfl, nd_before, rfl, by decide +kernel, by decide +kernel⟩
theorem k_before {P : Program} {w : World} {K : PySem.W.Frag} {mg : Str → Option Value} {base : Heap} (c : Facts w K mg) (d_look_at : Def P w K mg base "look_at" 6 1 f_look_at) : BodyOk P w K mg base 6 ["program", "graph", "lines", "found", "one", "others", "other"] "before" s_before [true, true] b_before := fun f cd A outer s H E at_ =>
    dss_cons (ds_expr (de_call d_look_at at_ (da_cons (dv 0) da_nil)))
    dss_dead
theorem ok_before {P : Program} {w : World} {K : PySem.W.Frag} {mg : Str → Option Value} {base : Heap} {f : Addr} {fd : FuncData} (U : Fun K "before" "before" s_before f fd) (hm : mg "before" = some (.ref f)) (bi : Binds K fd ["program", "graph"] []) (c : Facts w K mg) (d_look_at : Def P w K mg base "look_at" 6 1 f_look_at) : Def P w K mg base "before" 7 2 f_before :=
  Def.of U hm bi (def_ok U sc_before rfl (k_before c d_look_at))
/-! ### breach -/
abbrev s_breach : Stmt := top 91
def b_breach : M Fl :=
    mseq (sdrop (dcall f_look_at [none] (dcons (dget 0) (mret [])))) <|
    mno
def f_breach : Fn := dfn 5 [true, true] b_breach
theorem nd_breach : (["program", "graph", "looks", "one", "other"] : List Str).Nodup := by decide +kernel
theorem sc_breach : FnScope ["program", "graph", "looks", "one", "other"] ["program", "graph"] (defScope s_breach) := ⟨rfl, rfl, rfl, nd_breach, rfl, by decide +kernel, by decide +kernel⟩
theorem k_breach {P : Program} {w : World} {K : PySem.W.Frag} {mg : Str → Option Value} {base : Heap} (c : Facts w K mg) (d_look_at : Def P w K mg base "look_at" 6 1 f_look_at) : BodyOk P w K mg base 6 ["program", "graph", "looks", "one", "other"] "breach" s_breach [true, true] b_breach := fun f cd A outer s H E at_ =>
    dss_cons (ds_expr (de_call d_look_at at_ (da_cons (dv 0) da_nil)))
    dss_dead
theorem ok_breach {P : Program} {w : World} {K : PySem.W.Frag} {mg : Str → Option Value} {base : Heap} {f : Addr} {fd : FuncData} (U : Fun K "breach" "breach" s_breach f fd) (hm : mg "breach" = some (.ref f)) (bi : Binds K fd ["program", "graph"] []) (c : Facts w K mg) (d_look_at : Def P w K mg base "look_at" 6 1 f_look_at) : Def P w K mg base "breach" 7 2 f_breach :=
  Def.of U hm bi (def_ok U sc_breach rfl (k_breach c d_look_at))
/-! ### is_graph -/
abbrev s_is_graph : Stmt := top 92
def b_is_graph : M Fl :=
    sret (dandV (dcall f_is_drawing [none, none] (dcons (dget 0) (dcons (dget 1) (mret [])))) (dop (onD pIs) (dcall f_breach [none, none] (dcons (dget 0) (dcons (dget 1) (mret [])))) (mret (.d .none))))
def f_is_graph : Fn := dfn 2 [true, true] b_is_graph
theorem nd_is_graph : (["program", "thing"] : List Str).Nodup := by decide +kernel
theorem sc_is_graph : FnScope ["program", "thing"] ["program", "thing"] (defScope s_is_graph) := ⟨rfl, rfl, rfl, nd_is_graph, rfl, by decide +kernel, by decide +kernel⟩
theorem k_is_graph {P : Program} {w : World} {K : PySem.W.Frag} {mg : Str → Option Value} {base : Heap} (c : Facts w K mg) (d_breach : Def P w K mg base "breach" 7 2 f_breach) (d_is_drawing : Def P w K mg base "is_drawing" 7 2 f_is_drawing) : BodyOk P w K mg base 7 ["program", "thing"] "is_graph" s_is_graph [true, true] b_is_graph := fun f cd A outer s H E at_ =>
    dss_one (ds_ret (de_and (de_call d_is_drawing at_ (da_cons (dv 0) (da_cons (dv 1) da_nil))) (de_one (de_cmp op_isD od_is (de_call d_breach at_ (da_cons (dv 0) (da_cons (dv 1) da_nil))) de_non (by with_unfolding_all rfl)))))
theorem ok_is_graph {P : Program} {w : World} {K : PySem.W.Frag} {mg : Str → Option Value} {base : Heap} {f : Addr} {fd : FuncData} (U : Fun K "is_graph" "is_graph" s_is_graph f fd) (hm : mg "is_graph" = some (.ref f)) (bi : Binds K fd ["program", "thing"] []) (c : Facts w K mg) (d_breach : Def P w K mg base "breach" 7 2 f_breach) (d_is_drawing : Def P w K mg base "is_drawing" 7 2 f_is_drawing) : Def P w K mg base "is_graph" 8 2 f_is_graph :=
  Def.of U hm bi (def_ok U sc_is_graph rfl (k_is_graph c d_breach d_is_drawing))
/-! ### is_run -/
abbrev s_is_run : Stmt := top 94
def b_is_run : M Fl :=
    mseq (sset 2 (dmake "Machine" f_Machine___init__ [none] (dcons (dget 0) (mret [])))) <|
    mno
def f_is_run : Fn := dfn 3 [true, true] b_is_run
theorem nd_is_run : (["program", "thing", "machine"] : List Str).Nodup := by decide +kernel
theorem sc_is_run : FnScope ["program", "thing", "machine"] ["program", "thing"] (defScope s_is_run) := ⟨rfl, rfl, rfl, nd_is_run, rfl, by decide +kernel, by decide +kernel⟩
theorem k_is_run {P : Program} {w : World} {K : PySem.W.Frag} {mg : Str → Option Value} {base : Heap} (c : Facts w K mg) (e_Machine___init__ : DefI P w K mg base "Machine" 7 2 f_Machine___init__) : BodyOk P w K mg base 8 ["program", "thing", "machine"] "is_run" s_is_run [true, true] b_is_run := fun f cd A outer s H E at_ =>
    dss_cons (ds_set 2 nd_is_run (de_make e_Machine___init__ at_ (da_cons (dv 0) da_nil)))
    dss_dead
theorem ok_is_run {P : Program} {w : World} {K : PySem.W.Frag} {mg : Str → Option Value} {base : Heap} {f : Addr} {fd : FuncData} (U : Fun K "is_run" "is_run" s_is_run f fd) (hm : mg "is_run" = some (.ref f)) (bi : Binds K fd ["program", "thing"] []) (c : Facts w K mg) (e_Machine___init__ : DefI P w K mg base "Machine" 7 2 f_Machine___init__) : Def P w K mg base "is_run" 9 2 f_is_run :=
  Def.of U hm bi (def_ok U sc_is_run rfl (k_is_run c e_Machine___init__))
/-! ### played -/
abbrev s_played : Stmt := top 95
def b_played : M Fl :=
    mseq (sset 2 (dmake "Machine" f_Machine___init__ [none] (dcons (dget 0) (mret [])))) <|
    mno
def f_played : Fn := dfn 3 [true, true] b_played
theorem nd_played : (["program", "run", "machine"] : List Str).Nodup := by decide +kernel
theorem sc_played : FnScope ["program", "run", "machine"] ["program", "run"] (defScope s_played) := ⟨rfl, rfl, rfl, nd_played, rfl, by decide +kernel, by decide +kernel⟩
theorem k_played {P : Program} {w : World} {K : PySem.W.Frag} {mg : Str → Option Value} {base : Heap} (c : Facts w K mg) (e_Machine___init__ : DefI P w K mg base "Machine" 7 2 f_Machine___init__) : BodyOk P w K mg base 8 ["program", "run", "machine"] "played" s_played [true, true] b_played := fun f cd A outer s H E at_ =>
    dss_cons (ds_set 2 nd_played (de_make e_Machine___init__ at_ (da_cons (dv 0) da_nil)))
    dss_dead
theorem ok_played {P : Program} {w : World} {K : PySem.W.Frag} {mg : Str → Option Value} {base : Heap} {f : Addr} {fd : FuncData} (U : Fun K "played" "played" s_played f fd) (hm : mg "played" = some (.ref f)) (bi : Binds K fd ["program", "run"] []) (c : Facts w K mg) (e_Machine___init__ : DefI P w K mg base "Machine" 7 2 f_Machine___init__) : Def P w K mg base "played" 9 2 f_played :=
  Def.of U hm bi (def_ok U sc_played rfl (k_played c e_Machine___init__))
/-! ### graph_of -/
abbrev s_graph_of : Stmt := top 96
def b_graph_of : M Fl :=
    sret (mbind (dcall f_played [none, none] (dcons (dget 0) (dcons (dget 1) (mret [])))) fun _ => (mno : M T))
def f_graph_of : Fn := dfn 2 [true, true] b_graph_of
theorem nd_graph_of : (["program", "run"] : List Str).Nodup := by decide +kernel
theorem sc_graph_of : FnScope ["program", "run"] ["program", "run"] (defScope s_graph_of) := ⟨rfl, rfl, rfl, nd_graph_of, rfl, by decide +kernel, by decide +kernel⟩
theorem k_graph_of {P : Program} {w : World} {K : PySem.W.Frag} {mg : Str → Option Value} {base : Heap} (c : Facts w K mg) (d_played : Def P w K mg base "played" 9 2 f_played) : BodyOk P w K mg base 9 ["program", "run"] "graph_of" s_graph_of [true, true] b_graph_of := fun f cd A outer s H E at_ =>
    dss_one (ds_ret (de_mdead (de_call d_played at_ (da_cons (dv 0) (da_cons (dv 1) da_nil)))))
theorem ok_graph_of {P : Program} {w : World} {K : PySem.W.Frag} {mg : Str → Option Value} {base : Heap} {f : Addr} {fd : FuncData} (U : Fun K "graph_of" "graph_of" s_graph_of f fd) (hm : mg "graph_of" = some (.ref f)) (bi : Binds K fd ["program", "run"] []) (c : Facts w K mg) (d_played : Def P w K mg base "played" 9 2 f_played) : Def P w K mg base "graph_of" 10 2 f_graph_of :=
  Def.of U hm bi (def_ok U sc_graph_of rfl (k_graph_of c d_played))
/-! ### look_at_graph -/
abbrev s_look_at_graph : Stmt := top 97
def b_look_at_graph : M Fl :=
    mseq (sdrop (dcall f_look_at [none] (dcons (dget 0) (mret [])))) <|
    mno
def f_look_at_graph : Fn := dfn 3 [true, true] b_look_at_graph
theorem nd_look_at_graph : (["program", "thing", "rule"] : List Str).Nodup := by decide +kernel
theorem sc_look_at_graph : FnScope ["program", "thing", "rule"] ["program", "thing"] (defScope s_look_at_graph) := ⟨rfl, rfl, rfl, nd_look_at_graph, rfl, by decide +kernel, by decide +kernel⟩
theorem k_look_at_graph {P : Program} {w : World} {K : PySem.W.Frag} {mg : Str → Option Value} {base : Heap} (c : Facts w K mg) (d_look_at : Def P w K mg base "look_at" 6 1 f_look_at) : BodyOk P w K mg base 6 ["program", "thing", "rule"] "look_at_graph" s_look_at_graph [true, true] b_look_at_graph := fun f cd A outer s H E at_ =>
    dss_cons (ds_expr (de_call d_look_at at_ (da_cons (dv 0) da_nil)))
    dss_dead
theorem ok_look_at_graph {P : Program} {w : World} {K : PySem.W.Frag} {mg : Str → Option Value} {base : Heap} {f : Addr} {fd : FuncData} (U : Fun K "look_at_graph" "look_at_graph" s_look_at_graph f fd) (hm : mg "look_at_graph" = some (.ref f)) (bi : Binds K fd ["program", "thing"] []) (c : Facts w K mg) (d_look_at : Def P w K mg base "look_at" 6 1 f_look_at) : Def P w K mg base "look_at_graph" 7 2 f_look_at_graph :=
  Def.of U hm bi (def_ok U sc_look_at_graph rfl (k_look_at_graph c d_look_at))
/-! ### run_of -/
abbrev s_run_of : Stmt := top 99
def b_run_of : M Fl :=
    mseq (sdrop (dcall f_look_at_graph [none, none] (dcons (dget 0) (dcons (dget 1) (mret []))))) <|
    mno
def g_run_of : Fn := dfn 8 [true, true, true] b_run_of
def f_run_of : Fn := cutFn 2 [.none] g_run_of
theorem nd_run_of : (["program", "graph", "by", "order", "listing", "found", "hand", "one"] : List Str).Nodup := by decide +kernel
theorem sc_run_of : FnScope ["program", "graph", "by", "order", "listing", "found", "hand", "one"] ["program", "graph", "by"] (defScope s_run_of) := ⟨rfl, rfl, rfl, nd_run_of, rfl, by decide +kernel, by decide +kernel⟩
theorem k_run_of {P : Program} {w : World} {K : PySem.W.Frag} {mg : Str → Option Value} {base : Heap} (c : Facts w K mg) (d_look_at_graph : Def P w K mg base "look_at_graph" 7 2 f_look_at_graph) : BodyOk P w K mg base 7 ["program", "graph", "by", "order", "listing", "found", "hand", "one"] "run_of" s_run_of [true, true, true] b_run_of := fun f cd A outer s H E at_ =>
    dss_cons (ds_expr (de_call d_look_at_graph at_ (da_cons (dv 0) (da_cons (dv 1) da_nil))))
    dss_dead
theorem ok_run_of {P : Program} {w : World} {K : PySem.W.Frag} {mg : Str → Option Value} {base : Heap} {f : Addr} {fd : FuncData} (U : Fun K "run_of" "run_of" s_run_of f fd) (hm : mg "run_of" = some (.ref f)) (bi : ∃ ds, Vals ([("by", V.non)].map (·.2)) ds ∧ Binds K fd ["program", "graph", "by"] ds) (c : Facts w K mg) (d_look_at_graph : Def P w K mg base "look_at_graph" 7 2 f_look_at_graph) : Def P w K mg base "run_of" 8 2 f_run_of :=
  Def.ofK U hm (def_ok U sc_run_of rfl (k_run_of c d_look_at_graph)) bi fun I => (.cons .non .nil)
/-! ### is_ended -/
abbrev s_is_ended : Stmt := top 115
def b_is_ended : M Fl :=
    sret (mbind (dcall f_played [none, none] (dcons (dget 0) (dcons (dcall f_run_of [none, none] (dcons (dget 0) (dcons (dget 1) (mret [])))) (mret [])))) fun _ => (mno : M T))
def f_is_ended : Fn := dfn 2 [true, true] b_is_ended
theorem nd_is_ended : (["program", "graph"] : List Str).Nodup := by decide +kernel
theorem sc_is_ended : FnScope ["program", "graph"] ["program", "graph"] (defScope s_is_ended) := ⟨rfl, rfl, rfl, nd_is_ended, rfl, by decide +kernel, by decide +kernel⟩
theorem k_is_ended {P : Program} {w : World} {K : PySem.W.Frag} {mg : Str → Option Value} {base : Heap} (c : Facts w K mg) (d_played : Def P w K mg base "played" 9 2 f_played) (d_run_of : Def P w K mg base "run_of" 8 2 f_run_of) : BodyOk P w K mg base 9 ["program", "graph"] "is_ended" s_is_ended [true, true] b_is_ended := fun f cd A outer s H E at_ =>
    dss_one (ds_ret (de_mdead (de_call d_played at_ (da_cons (dv 0) (da_cons (de_call d_run_of at_ (da_cons (dv 0) (da_cons (dv 1) da_nil))) da_nil)))))
theorem ok_is_ended {P : Program} {w : World} {K : PySem.W.Frag} {mg : Str → Option Value} {base : Heap} {f : Addr} {fd : FuncData} (U : Fun K "is_ended" "is_ended" s_is_ended f fd) (hm : mg "is_ended" = some (.ref f)) (bi : Binds K fd ["program", "graph"] []) (c : Facts w K mg) (d_played : Def P w K mg base "played" 9 2 f_played) (d_run_of : Def P w K mg base "run_of" 8 2 f_run_of) : Def P w K mg base "is_ended" 10 2 f_is_ended :=
  Def.of U hm bi (def_ok U sc_is_ended rfl (k_is_ended c d_played d_run_of))
/-! ### is_full -/
abbrev s_is_full : Stmt := top 117
def b_is_full : M Fl :=
    mseq (sdrop (dcall f_look_at [none] (dcons (dget 0) (mret [])))) <|
    mno
def f_is_full : Fn := dfn 2 [true, true] b_is_full
theorem nd_is_full : (["program", "graph"] : List Str).Nodup := by decide +kernel
theorem sc_is_full : FnScope ["program", "graph"] ["program", "graph"] (defScope s_is_full) := ⟨rfl, rfl, rfl, nd_is_full, rfl, by decide +kernel, by decide +kernel⟩
theorem k_is_full {P : Program} {w : World} {K : PySem.W.Frag} {mg : Str → Option Value} {base : Heap} (c : Facts w K mg) (d_look_at : Def P w K mg base "look_at" 6 1 f_look_at) : BodyOk P w K mg base 6 ["program", "graph"] "is_full" s_is_full [true, true] b_is_full := fun f cd A outer s H E at_ =>
    dss_cons (ds_expr (de_call d_look_at at_ (da_cons (dv 0) da_nil)))
    dss_dead
theorem ok_is_full {P : Program} {w : World} {K : PySem.W.Frag} {mg : Str → Option Value} {base : Heap} {f : Addr} {fd : FuncData} (U : Fun K "is_full" "is_full" s_is_full f fd) (hm : mg "is_full" = some (.ref f)) (bi : Binds K fd ["program", "graph"] []) (c : Facts w K mg) (d_look_at : Def P w K mg base "look_at" 6 1 f_look_at) : Def P w K mg base "is_full" 7 2 f_is_full :=
  Def.of U hm bi (def_ok U sc_is_full rfl (k_is_full c d_look_at))
/-! ### next_graph -/
abbrev s_next_graph : Stmt := top 105
def b_next_graph : M Fl :=
    mseq (sset 2 (dcall f_run_of [none, none] (dcons (dget 0) (dcons (dget 1) (mret []))))) <|
    mno
def f_next_graph : Fn := dfn 4 [true, true] b_next_graph
theorem nd_next_graph : (["program", "graph", "run", "walk"] : List Str).Nodup := by decide +kernel
theorem sc_next_graph : FnScope ["program", "graph", "run", "walk"] ["program", "graph"] (defScope s_next_graph) := ⟨rfl, rfl, rfl, nd_next_graph, rfl, by decide +kernel, by decide +kernel⟩
theorem k_next_graph {P : Program} {w : World} {K : PySem.W.Frag} {mg : Str → Option Value} {base : Heap} (c : Facts w K mg) (d_run_of : Def P w K mg base "run_of" 8 2 f_run_of) : BodyOk P w K mg base 8 ["program", "graph", "run", "walk"] "next_graph" s_next_graph [true, true] b_next_graph := fun f cd A outer s H E at_ =>
    dss_cons (ds_set 2 nd_next_graph (de_call d_run_of at_ (da_cons (dv 0) (da_cons (dv 1) da_nil))))
    dss_dead
theorem ok_next_graph {P : Program} {w : World} {K : PySem.W.Frag} {mg : Str → Option Value} {base : Heap} {f : Addr} {fd : FuncData} (U : Fun K "next_graph" "next_graph" s_next_graph f fd) (hm : mg "next_graph" = some (.ref f)) (bi : Binds K fd ["program", "graph"] []) (c : Facts w K mg) (d_run_of : Def P w K mg base "run_of" 8 2 f_run_of) : Def P w K mg base "next_graph" 9 2 f_next_graph :=
  Def.of U hm bi (def_ok U sc_next_graph rfl (k_next_graph c d_run_of))
/-! ### clashing -/
abbrev s_clashing : Stmt := top 136
def b_clashing : M Fl :=
    mseq (sdrop (dcall f_look_at [none] (dcons (dget 0) (mret [])))) <|
    mno
def f_clashing : Fn := dfn 8 [true, true] b_clashing
theorem nd_clashing : (["program", "graph", "lines", "ordered", "found", "one", "other", "pair"] : List Str).Nodup := by decide +kernel
theorem sc_clashing : FnScope ["program", "graph", "lines", "ordered", "found", "one", "other", "pair"] ["program", "graph"] (defScope s_clashing) := ⟨rfl, rfl, rfl, nd_clashing, rfl, by decide +kernel, by decide +kernel⟩
theorem k_clashing {P : Program} {w : World} {K : PySem.W.Frag} {mg : Str → Option Value} {base : Heap} (c : Facts w K mg) (d_look_at : Def P w K mg base "look_at" 6 1 f_look_at) : BodyOk P w K mg base 6 ["program", "graph", "lines", "ordered", "found", "one", "other", "pair"] "clashing" s_clashing [true, true] b_clashing := fun f cd A outer s H E at_ =>
    dss_cons (ds_expr (de_call d_look_at at_ (da_cons (dv 0) da_nil)))
    dss_dead
theorem ok_clashing {P : Program} {w : World} {K : PySem.W.Frag} {mg : Str → Option Value} {base : Heap} {f : Addr} {fd : FuncData} (U : Fun K "clashing" "clashing" s_clashing f fd) (hm : mg "clashing" = some (.ref f)) (bi : Binds K fd ["program", "graph"] []) (c : Facts w K mg) (d_look_at : Def P w K mg base "look_at" 6 1 f_look_at) : Def P w K mg base "clashing" 7 2 f_clashing :=
  Def.of U hm bi (def_ok U sc_clashing rfl (k_clashing c d_look_at))
/-! ### is_ledger -/
abbrev s_is_ledger : Stmt := top 126
def b_is_ledger : M Fl :=
    mseq (sdrop (dcall f_look_at [none] (dcons (dget 0) (mret [])))) <|
    mno
def f_is_ledger : Fn := dfn 2 [true, true] b_is_ledger
theorem nd_is_ledger : (["program", "thing"] : List Str).Nodup := by decide +kernel
theorem sc_is_ledger : FnScope ["program", "thing"] ["program", "thing"] (defScope s_is_ledger) := ⟨rfl, rfl, rfl, nd_is_ledger, rfl, by decide +kernel, by decide +kernel⟩
theorem k_is_ledger {P : Program} {w : World} {K : PySem.W.Frag} {mg : Str → Option Value} {base : Heap} (c : Facts w K mg) (d_look_at : Def P w K mg base "look_at" 6 1 f_look_at) : BodyOk P w K mg base 6 ["program", "thing"] "is_ledger" s_is_ledger [true, true] b_is_ledger := fun f cd A outer s H E at_ =>
    dss_cons (ds_expr (de_call d_look_at at_ (da_cons (dv 0) da_nil)))
    dss_dead
theorem ok_is_ledger {P : Program} {w : World} {K : PySem.W.Frag} {mg : Str → Option Value} {base : Heap} {f : Addr} {fd : FuncData} (U : Fun K "is_ledger" "is_ledger" s_is_ledger f fd) (hm : mg "is_ledger" = some (.ref f)) (bi : Binds K fd ["program", "thing"] []) (c : Facts w K mg) (d_look_at : Def P w K mg base "look_at" 6 1 f_look_at) : Def P w K mg base "is_ledger" 7 2 f_is_ledger :=
  Def.of U hm bi (def_ok U sc_is_ledger rfl (k_is_ledger c d_look_at))
/-! ### by_picks -/
abbrev s_by_picks : Stmt := top 143
def b_by_picks : M Fl :=
    mseq (sdrop (dcall f_look_at [none] (dcons (dget 0) (mret [])))) <|
    mno
def f_by_picks : Fn := dfn 7 [true, true] b_by_picks
theorem nd_by_picks : (["program", "picks", "boxes", "hands", "hand", "number", "deed"] : List Str).Nodup := by decide +kernel
theorem sc_by_picks : FnScope ["program", "picks", "boxes", "hands", "hand", "number", "deed"] ["program", "picks"] (defScope s_by_picks) := ⟨rfl, rfl, rfl, nd_by_picks, rfl, by decide +kernel, by decide +kernel⟩
theorem k_by_picks {P : Program} {w : World} {K : PySem.W.Frag} {mg : Str → Option Value} {base : Heap} (c : Facts w K mg) (d_look_at : Def P w K mg base "look_at" 6 1 f_look_at) : BodyOk P w K mg base 6 ["program", "picks", "boxes", "hands", "hand", "number", "deed"] "by_picks" s_by_picks [true, true] b_by_picks := fun f cd A outer s H E at_ =>
    dss_cons (ds_expr (de_call d_look_at at_ (da_cons (dv 0) da_nil)))
    dss_dead
theorem ok_by_picks {P : Program} {w : World} {K : PySem.W.Frag} {mg : Str → Option Value} {base : Heap} {f : Addr} {fd : FuncData} (U : Fun K "by_picks" "by_picks" s_by_picks f fd) (hm : mg "by_picks" = some (.ref f)) (bi : Binds K fd ["program", "picks"] []) (c : Facts w K mg) (d_look_at : Def P w K mg base "look_at" 6 1 f_look_at) : Def P w K mg base "by_picks" 7 2 f_by_picks :=
  Def.of U hm bi (def_ok U sc_by_picks rfl (k_by_picks c d_look_at))
/-! ### is_paper -/
abbrev s_is_paper : Stmt := top 148
def b_is_paper : M Fl :=
    mseq (sset 2 (dcall f_picks_of [none] (dcons (dget 0) (mret [])))) <|
    mno
def f_is_paper : Fn := dfn 9 [true, true] b_is_paper
theorem nd_is_paper : (["program", "thing", "some", "picks", "many", "fails", "due", "fewer", "one"] : List Str).Nodup := by decide +kernel
theorem sc_is_paper : FnScope ["program", "thing", "some", "picks", "many", "fails", "due", "fewer", "one"] ["program", "thing"] (defScope s_is_paper) := ⟨rfl, rfl, rfl, nd_is_paper, rfl, by decide +kernel, by decide +kernel⟩
theorem k_is_paper {P : Program} {w : World} {K : PySem.W.Frag} {mg : Str → Option Value} {base : Heap} (c : Facts w K mg) (d_picks_of : Def P w K mg base "picks_of" 7 1 f_picks_of) : BodyOk P w K mg base 7 ["program", "thing", "some", "picks", "many", "fails", "due", "fewer", "one"] "is_paper" s_is_paper [true, true] b_is_paper := fun f cd A outer s H E at_ =>
    dss_cons (ds_set 2 nd_is_paper (de_call d_picks_of at_ (da_cons (dv 0) da_nil)))
    dss_dead
theorem ok_is_paper {P : Program} {w : World} {K : PySem.W.Frag} {mg : Str → Option Value} {base : Heap} {f : Addr} {fd : FuncData} (U : Fun K "is_paper" "is_paper" s_is_paper f fd) (hm : mg "is_paper" = some (.ref f)) (bi : Binds K fd ["program", "thing"] []) (c : Facts w K mg) (d_picks_of : Def P w K mg base "picks_of" 7 1 f_picks_of) : Def P w K mg base "is_paper" 8 2 f_is_paper :=
  Def.of U hm bi (def_ok U sc_is_paper rfl (k_is_paper c d_picks_of))
/-! ### state_of -/
abbrev s_state_of : Stmt := top 67
def b_state_of : M Fl :=
    mseq (sdrop (dcall f_look_at [none] (dcons (dget 0) (mret [])))) <|
    mno
def f_state_of : Fn := dfn 3 [true, true, true] b_state_of
theorem nd_state_of : (["program", "graph", "hand"] : List Str).Nodup := by decide +kernel
theorem sc_state_of : FnScope ["program", "graph", "hand"] ["program", "graph", "hand"] (defScope s_state_of) := ⟨rfl, rfl, rfl, nd_state_of, rfl, by decide +kernel, by decide +kernel⟩
theorem k_state_of {P : Program} {w : World} {K : PySem.W.Frag} {mg : Str → Option Value} {base : Heap} (c : Facts w K mg) (d_look_at : Def P w K mg base "look_at" 6 1 f_look_at) : BodyOk P w K mg base 6 ["program", "graph", "hand"] "state_of" s_state_of [true, true, true] b_state_of := fun f cd A outer s H E at_ =>
    dss_cons (ds_expr (de_call d_look_at at_ (da_cons (dv 0) da_nil)))
    dss_dead
theorem ok_state_of {P : Program} {w : World} {K : PySem.W.Frag} {mg : Str → Option Value} {base : Heap} {f : Addr} {fd : FuncData} (U : Fun K "state_of" "state_of" s_state_of f fd) (hm : mg "state_of" = some (.ref f)) (bi : Binds K fd ["program", "graph", "hand"] []) (c : Facts w K mg) (d_look_at : Def P w K mg base "look_at" 6 1 f_look_at) : Def P w K mg base "state_of" 7 3 f_state_of :=
  Def.of U hm bi (def_ok U sc_state_of rfl (k_state_of c d_look_at))
/-! ### _law_is_refused -/
abbrev s__law_is_refused : Stmt := top 155
def tab__law_is_refused_1 : Str → Option Fn := (tabCons "_law_machine" f__law_machine (tabCons "first_graph" f_first_graph (tabCons "count_of" f_count_of (tabCons "_law_goer" f__law_goer (tabCons "outcomes" f_outcomes (tabCons "turn_outcomes" f_turn_outcomes (tabCons "clash_of" f_clash_of (tabCons "failing" f_failing (tabCons "ledger_of" f_ledger_of (tabCons "picks_of" f_picks_of (tabCons "paper_of" f_paper_of (fun _ => none))))))))))))
def tab__law_is_refused_2 : Str → Option Fn := (tabCons "is_drawing" f_is_drawing (tabCons "before" f_before (tabCons "breach" f_breach (tabCons "is_graph" f_is_graph (tabCons "is_run" f_is_run (tabCons "graph_of" f_graph_of (tabCons "run_of" f_run_of (tabCons "is_ended" f_is_ended (tabCons "is_full" f_is_full (tabCons "outcome_of" f_outcome_of (tabCons "next_graph" f_next_graph (tabCons "clashing" f_clashing (tabCons "is_ledger" f_is_ledger (tabCons "by_picks" f_by_picks (tabCons "is_paper" f_is_paper (fun _ => none))))))))))))))))
def tab__law_is_refused_3 : Str → Option Fn := (tabCons "state_of" f_state_of (fun _ => none))
def b__law_is_refused : M Fl :=
    mseq (sset 3 (mret (.d .none))) <|
    mseq (stry "NoProgram" 4 (sif (dval (dop (onD pEq) (dcallb gLen [none] (dcons (dget 1) (mret []))) (mret (.d (.int 1))))) (sdrop (dcallS 0 tab__law_is_refused_1 [none] (dcons (dop (onD pIx) (dget 1) (mret (.d (.int 0)))) (mret [])))) (sif (dval (dop (onD pEq) (dcallb gLen [none] (dcons (dget 1) (mret []))) (mret (.d (.int 2))))) (sdrop (dcallS 0 tab__law_is_refused_2 [none, none] (dcons (dop (onD pIx) (dget 1) (mret (.d (.int 0)))) (dcons (dop (onD pIx) (dget 1) (mret (.d (.int 1)))) (mret []))))) (sdrop (dcallS 0 tab__law_is_refused_3 [none, none, none] (dcons (dop (onD pIx) (dget 1) (mret (.d (.int 0)))) (dcons (dop (onD pIx) (dget 1) (mret (.d (.int 1)))) (dcons (dop (onD pIx) (dget 1) (mret (.d (.int 2)))) (mret [])))))))) (sset 3 (dget 4))) <|
    mseq (sif (dnot (dval (dcallb (gIsiX isaT_ValueError) [none, none] (dcons (dget 3) (dcons (mret (.ty "ValueError")) (mret [])))))) (sret (mret (.d (.bool false)))) (mret .nx)) <|
    sret (dop (onD pEq) (dcallb gRepr [none] (dcons (dtup (dcons (dxf xs_part "part" (dget 3)) (dcons (dxf xs_hand "hand" (dget 3)) (dcons (dxf xs_number "number" (dget 3)) (mret []))))) (mret []))) (dcallb gRepr [none] (dcons (dget 2) (mret []))))
def f__law_is_refused : Fn := dfn 5 [true, true, true] b__law_is_refused
theorem nd__law_is_refused : (["_law_door", "_law_given", "_law_due", "_law_kept", "e"] : List Str).Nodup := by decide +kernel
theorem sc__law_is_refused : FnScope ["_law_door", "_law_given", "_law_due", "_law_kept", "e"] ["_law_door", "_law_given", "_law_due"] (defScope s__law_is_refused) := ⟨rfl, rfl, rfl, nd__law_is_refused, rfl, by decide +kernel, by decide +kernel⟩
theorem k__law_is_refused {P : Program} {w : World} {K : PySem.W.Frag} {mg : Str → Option Value} {base : Heap} (c : Facts w K mg) (d__law_machine : Def P w K mg base "_law_machine" 9 1 f__law_machine) (d_first_graph : Def P w K mg base "first_graph" 11 1 f_first_graph) (d_count_of : Def P w K mg base "count_of" 7 1 f_count_of) (d__law_goer : Def P w K mg base "_law_goer" 9 1 f__law_goer) (d_outcomes : Def P w K mg base "outcomes" 7 1 f_outcomes) (d_turn_outcomes : Def P w K mg base "turn_outcomes" 10 1 f_turn_outcomes) (d_clash_of : Def P w K mg base "clash_of" 7 1 f_clash_of) (d_failing : Def P w K mg base "failing" 7 1 f_failing) (d_ledger_of : Def P w K mg base "ledger_of" 8 1 f_ledger_of) (d_picks_of : Def P w K mg base "picks_of" 7 1 f_picks_of) (d_paper_of : Def P w K mg base "paper_of" 8 1 f_paper_of) (d_is_drawing : Def P w K mg base "is_drawing" 7 2 f_is_drawing) (d_before : Def P w K mg base "before" 7 2 f_before) (d_breach : Def P w K mg base "breach" 7 2 f_breach) (d_is_graph : Def P w K mg base "is_graph" 8 2 f_is_graph) (d_is_run : Def P w K mg base "is_run" 9 2 f_is_run) (d_graph_of : Def P w K mg base "graph_of" 10 2 f_graph_of) (d_run_of : Def P w K mg base "run_of" 8 2 f_run_of) (d_is_ended : Def P w K mg base "is_ended" 10 2 f_is_ended) (d_is_full : Def P w K mg base "is_full" 7 2 f_is_full) (d_outcome_of : Def P w K mg base "outcome_of" 7 2 f_outcome_of) (d_next_graph : Def P w K mg base "next_graph" 9 2 f_next_graph) (d_clashing : Def P w K mg base "clashing" 7 2 f_clashing) (d_is_ledger : Def P w K mg base "is_ledger" 7 2 f_is_ledger) (d_by_picks : Def P w K mg base "by_picks" 7 2 f_by_picks) (d_is_paper : Def P w K mg base "is_paper" 8 2 f_is_paper) (d_state_of : Def P w K mg base "state_of" 7 3 f_state_of) : BodyOk P w K mg base 11 ["_law_door", "_law_given", "_law_due", "_law_kept", "e"] "_law_is_refused" s__law_is_refused [true, true, true] b__law_is_refused := fun f cd A outer s H E at_ =>
    have ft__law_is_refused_1 : FnTab P w K mg base 11 1 tab__law_is_refused_1 := (FnTab.cons c.gl d__law_machine (FnTab.cons c.gl d_first_graph (FnTab.cons c.gl d_count_of (FnTab.cons c.gl d__law_goer (FnTab.cons c.gl d_outcomes (FnTab.cons c.gl d_turn_outcomes (FnTab.cons c.gl d_clash_of (FnTab.cons c.gl d_failing (FnTab.cons c.gl d_ledger_of (FnTab.cons c.gl d_picks_of (FnTab.cons c.gl d_paper_of FnTab.nil)))))))))))
    have ft__law_is_refused_2 : FnTab P w K mg base 11 2 tab__law_is_refused_2 := (FnTab.cons c.gl d_is_drawing (FnTab.cons c.gl d_before (FnTab.cons c.gl d_breach (FnTab.cons c.gl d_is_graph (FnTab.cons c.gl d_is_run (FnTab.cons c.gl d_graph_of (FnTab.cons c.gl d_run_of (FnTab.cons c.gl d_is_ended (FnTab.cons c.gl d_is_full (FnTab.cons c.gl d_outcome_of (FnTab.cons c.gl d_next_graph (FnTab.cons c.gl d_clashing (FnTab.cons c.gl d_is_ledger (FnTab.cons c.gl d_by_picks (FnTab.cons c.gl d_is_paper FnTab.nil)))))))))))))))
    have ft__law_is_refused_3 : FnTab P w K mg base 11 3 tab__law_is_refused_3 := (FnTab.cons c.gl d_state_of FnTab.nil)
    dss_cons (ds_set 3 nd__law_is_refused de_non)
    (dss_cons (ds_try 4 at_ nd__law_is_refused c.ct_NoProgram (fun pn xe W a1 => dss_one (ds_if (dt_cmp (op_eqP a1.un) od_eq (de_callB cr_len2 ck_len c.n_len bt_len (da_cons (dv 1) da_nil)) de_int (by with_unfolding_all rfl)) (dss_one (ds_expr (de_callS 0 ft__law_is_refused_1 a1 (da_cons (de_ix (dv 1) de_int) da_nil)))) (dss_one (ds_if (dt_cmp (op_eqP a1.un) od_eq (de_callB cr_len2 ck_len c.n_len bt_len (da_cons (dv 1) da_nil)) de_int (by with_unfolding_all rfl)) (dss_one (ds_expr (de_callS 0 ft__law_is_refused_2 a1 (da_cons (de_ix (dv 1) de_int) (da_cons (de_ix (dv 1) de_int) da_nil))))) (dss_one (ds_expr (de_callS 0 ft__law_is_refused_3 a1 (da_cons (de_ix (dv 1) de_int) (da_cons (de_ix (dv 1) de_int) (da_cons (de_ix (dv 1) de_int) da_nil)))))))))) (fun a pn => dss_one (ds_set 3 nd__law_is_refused (dv 4))))
    (dss_cons (ds_if (dt_not (dt_val (de_callB call_isiX (ck_isiX c.isa_ValueError) c.n_isinstance bt_isinstance (da_cons (dv 3) (da_cons (de_ty c.n_ValueError bt_ValueError) da_nil))))) (dss_one (ds_ret de_bl)) dss_nil)
    (dss_one (ds_ret (de_cmp (op_eqP at_.un) od_eq (de_callB (cr_repr at_.g at_.un) ck_repr c.n_repr bt_repr (da_cons (de_tup (da_cons (de_xf c.xf_part (dv 3)) (da_cons (de_xf c.xf_hand (dv 3)) (da_cons (de_xf c.xf_number (dv 3)) da_nil)))) da_nil)) (de_callB (cr_repr at_.g at_.un) ck_repr c.n_repr bt_repr (da_cons (dv 2) da_nil)) (by with_unfolding_all rfl))))))
theorem ok__law_is_refused {P : Program} {w : World} {K : PySem.W.Frag} {mg : Str → Option Value} {base : Heap} {f : Addr} {fd : FuncData} (U : Fun K "_law_is_refused" "_law_is_refused" s__law_is_refused f fd) (hm : mg "_law_is_refused" = some (.ref f)) (bi : Binds K fd ["_law_door", "_law_given", "_law_due"] []) (c : Facts w K mg) (d__law_machine : Def P w K mg base "_law_machine" 9 1 f__law_machine) (d_first_graph : Def P w K mg base "first_graph" 11 1 f_first_graph) (d_count_of : Def P w K mg base "count_of" 7 1 f_count_of) (d__law_goer : Def P w K mg base "_law_goer" 9 1 f__law_goer) (d_outcomes : Def P w K mg base "outcomes" 7 1 f_outcomes) (d_turn_outcomes : Def P w K mg base "turn_outcomes" 10 1 f_turn_outcomes) (d_clash_of : Def P w K mg base "clash_of" 7 1 f_clash_of) (d_failing : Def P w K mg base "failing" 7 1 f_failing) (d_ledger_of : Def P w K mg base "ledger_of" 8 1 f_ledger_of) (d_picks_of : Def P w K mg base "picks_of" 7 1 f_picks_of) (d_paper_of : Def P w K mg base "paper_of" 8 1 f_paper_of) (d_is_drawing : Def P w K mg base "is_drawing" 7 2 f_is_drawing) (d_before : Def P w K mg base "before" 7 2 f_before) (d_breach : Def P w K mg base "breach" 7 2 f_breach) (d_is_graph : Def P w K mg base "is_graph" 8 2 f_is_graph) (d_is_run : Def P w K mg base "is_run" 9 2 f_is_run) (d_graph_of : Def P w K mg base "graph_of" 10 2 f_graph_of) (d_run_of : Def P w K mg base "run_of" 8 2 f_run_of) (d_is_ended : Def P w K mg base "is_ended" 10 2 f_is_ended) (d_is_full : Def P w K mg base "is_full" 7 2 f_is_full) (d_outcome_of : Def P w K mg base "outcome_of" 7 2 f_outcome_of) (d_next_graph : Def P w K mg base "next_graph" 9 2 f_next_graph) (d_clashing : Def P w K mg base "clashing" 7 2 f_clashing) (d_is_ledger : Def P w K mg base "is_ledger" 7 2 f_is_ledger) (d_by_picks : Def P w K mg base "by_picks" 7 2 f_by_picks) (d_is_paper : Def P w K mg base "is_paper" 8 2 f_is_paper) (d_state_of : Def P w K mg base "state_of" 7 3 f_state_of) : Def P w K mg base "_law_is_refused" 12 3 f__law_is_refused :=
  Def.of U hm bi (def_ok U sc__law_is_refused rfl (k__law_is_refused c d__law_machine d_first_graph d_count_of d__law_goer d_outcomes d_turn_outcomes d_clash_of d_failing d_ledger_of d_picks_of d_paper_of d_is_drawing d_before d_breach d_is_graph d_is_run d_graph_of d_run_of d_is_ended d_is_full d_outcome_of d_next_graph d_clashing d_is_ledger d_by_picks d_is_paper d_state_of))
/-! ### _law_odd_ones -/
abbrev s__law_odd_ones : Stmt := top 154
def b__law_odd_ones : M Fl :=
    mseq (sset 0 (dtup (dcons (mret (.d (.str ("read" : Str)))) (dcons (mret (.d (.str ("r" : Str)))) (dcons (mret (.d (.str ("x" : Str)))) (dcons (mret (.d (.str ("loose" : Str)))) (mret []))))))) <|
    mseq (sset 1 (dlst (dcons (dtup (dcons (mret (.d .none)) (dcons (dtup (dcons (mret (.d (.str ("program" : Str)))) (dcons (mret (.d .none)) (dcons (mret (.d .none)) (mret []))))) (mret [])))) (dcons (dtup (dcons (dlst (dcons (dlst (dcons (mret (.d (.str ("x" : Str)))) (mret []))) (dcons (dlst (dcons (dlst (mret [])) (mret []))) (mret [])))) (dcons (dtup (dcons (mret (.d (.str ("program" : Str)))) (dcons (mret (.d .none)) (dcons (mret (.d .none)) (mret []))))) (mret [])))) (mret []))))) <|
    mseq (sset 1 (dop (onD pAdd) (dget 1) (dlst (dcons (dtup (dcons (dtup (dcons (dlst (dcons (mret (.d (.str ("x" : Str)))) (mret []))) (dcons (dlst (dcons (dlst (mret [])) (mret []))) (dcons (mret (.d (.int 0))) (mret []))))) (dcons (dtup (dcons (mret (.d (.str ("program" : Str)))) (dcons (mret (.d .none)) (dcons (mret (.d .none)) (mret []))))) (mret [])))) (dcons (dtup (dcons (dtup (dcons (dlst (mret [])) (dcons (dlst (dcons (dlst (mret [])) (mret []))) (mret [])))) (dcons (dtup (dcons (mret (.d (.str ("boxes" : Str)))) (dcons (mret (.d .none)) (dcons (mret (.d .none)) (mret []))))) (mret [])))) (mret [])))))) <|
    mseq (sset 1 (dop (onD pAdd) (dget 1) (dlst (dcons (dtup (dcons (dtup (dcons (dlst (dcons (mret (.d (.str ("y" : Str)))) (dcons (mret (.d (.str ("x" : Str)))) (mret [])))) (dcons (dlst (dcons (dlst (mret [])) (mret []))) (mret [])))) (dcons (dtup (dcons (mret (.d (.str ("boxes" : Str)))) (dcons (mret (.d .none)) (dcons (mret (.d (.int 1))) (mret []))))) (mret [])))) (dcons (dtup (dcons (dtup (dcons (dlst (dcons (mret (.d (.str ("x" : Str)))) (dcons (mret (.d (.str ("x" : Str)))) (mret [])))) (dcons (dlst (dcons (dlst (mret [])) (mret []))) (mret [])))) (dcons (dtup (dcons (mret (.d (.str ("boxes" : Str)))) (dcons (mret (.d .none)) (dcons (mret (.d (.int 1))) (mret []))))) (mret [])))) (mret [])))))) <|
    mseq (sset 1 (dop (onD pAdd) (dget 1) (dlst (dcons (dtup (dcons (dtup (dcons (dlst (dcons (mret (.d (.str ("X" : Str)))) (mret []))) (dcons (dlst (dcons (dlst (mret [])) (mret []))) (mret [])))) (dcons (dtup (dcons (mret (.d (.str ("boxes" : Str)))) (dcons (mret (.d .none)) (dcons (mret (.d (.int 0))) (mret []))))) (mret [])))) (dcons (dtup (dcons (dtup (dcons (dtup (dcons (mret (.d (.str ("x" : Str)))) (mret []))) (dcons (dlst (dcons (dlst (mret [])) (mret []))) (mret [])))) (dcons (dtup (dcons (mret (.d (.str ("boxes" : Str)))) (dcons (mret (.d .none)) (dcons (mret (.d .none)) (mret []))))) (mret [])))) (mret [])))))) <|
    mseq (sset 1 (dop (onD pAdd) (dget 1) (dlst (dcons (dtup (dcons (dtup (dcons (dlst (dcons (mret (.d (.str ("x" : Str)))) (mret []))) (dcons (dlst (mret [])) (mret [])))) (dcons (dtup (dcons (mret (.d (.str ("hands" : Str)))) (dcons (mret (.d .none)) (dcons (mret (.d .none)) (mret []))))) (mret [])))) (dcons (dtup (dcons (dtup (dcons (dlst (dcons (mret (.d (.str ("x" : Str)))) (mret []))) (dcons (dop (onD pMul) (dlst (dcons (dlst (mret [])) (mret []))) (mret (.d (.int 5)))) (mret [])))) (dcons (dtup (dcons (mret (.d (.str ("hands" : Str)))) (dcons (mret (.d .none)) (dcons (mret (.d .none)) (mret []))))) (mret [])))) (mret [])))))) <|
    mseq (sset 1 (dop (onD pAdd) (dget 1) (dlst (dcons (dtup (dcons (dtup (dcons (dlst (dcons (mret (.d (.str ("x" : Str)))) (mret []))) (dcons (dlst (dcons (dlst (mret [])) (dcons (dtup (mret [])) (mret [])))) (mret [])))) (dcons (dtup (dcons (mret (.d (.str ("hands" : Str)))) (dcons (mret (.d (.int 1))) (dcons (mret (.d .none)) (mret []))))) (mret [])))) (dcons (dtup (dcons (dtup (dcons (dlst (dcons (mret (.d (.str ("x" : Str)))) (mret []))) (dcons (dlst (dcons (dop (onD pMul) (dlst (dcons (dget 0) (mret []))) (mret (.d (.int 9)))) (mret []))) (mret [])))) (dcons (dtup (dcons (mret (.d (.str ("hands" : Str)))) (dcons (mret (.d (.int 0))) (dcons (mret (.d .none)) (mret []))))) (mret [])))) (mret [])))))) <|
    mseq (sset 1 (dop (onD pAdd) (dget 1) (dlst (dcons (dtup (dcons (dtup (dcons (dlst (dcons (mret (.d (.str ("x" : Str)))) (mret []))) (dcons (dlst (dcons (dop (onD pMul) (dlst (dcons (dget 0) (mret []))) (mret (.d (.int 8)))) (dcons (dop (onD pMul) (dlst (dcons (dget 0) (mret []))) (mret (.d (.int 8)))) (dcons (dlst (dcons (dget 0) (mret []))) (mret []))))) (mret [])))) (dcons (dtup (dcons (mret (.d (.str ("deeds" : Str)))) (dcons (mret (.d .none)) (dcons (mret (.d .none)) (mret []))))) (mret [])))) (mret []))))) <|
    mseq (sset 1 (dop (onD pAdd) (dget 1) (dlst (dcons (dtup (dcons (dtup (dcons (dlst (dcons (mret (.d (.str ("x" : Str)))) (mret []))) (dcons (dlst (dcons (dlst (mret [])) (dcons (dlst (dcons (dget 0) (dcons (dtup (dcons (mret (.d (.str ("read" : Str)))) (dcons (mret (.d (.str ("r" : Str)))) (dcons (mret (.d (.str ("y" : Str)))) (dcons (mret (.d (.str ("loose" : Str)))) (mret [])))))) (mret [])))) (mret [])))) (mret [])))) (dcons (dtup (dcons (mret (.d (.str ("deeds" : Str)))) (dcons (mret (.d (.int 1))) (dcons (mret (.d (.int 1))) (mret []))))) (mret [])))) (mret []))))) <|
    sret (dop (onD pAdd) (dget 1) (dlst (dcons (dtup (dcons (dtup (dcons (dlst (dcons (mret (.d (.str ("x" : Str)))) (mret []))) (dcons (dlst (dcons (dlst (dcons (dslice (dget 0) (mret none) (dpart (mret (.d (.int 3))))) (mret []))) (mret []))) (mret [])))) (dcons (dtup (dcons (mret (.d (.str ("deeds" : Str)))) (dcons (mret (.d (.int 0))) (dcons (mret (.d (.int 0))) (mret []))))) (mret [])))) (dcons (dtup (dcons (mret (.d (.int 0))) (dcons (dtup (dcons (mret (.d (.str ("program" : Str)))) (dcons (mret (.d .none)) (dcons (mret (.d .none)) (mret []))))) (mret [])))) (mret [])))))
def f__law_odd_ones : Fn := dfn 2 [] b__law_odd_ones
theorem nd__law_odd_ones : (["_law_look", "_law_found"] : List Str).Nodup := by decide +kernel
theorem sc__law_odd_ones : FnScope ["_law_look", "_law_found"] [] (defScope s__law_odd_ones) := ⟨rfl, rfl, rfl, nd__law_odd_ones, rfl, by decide +kernel, by decide +kernel⟩
theorem k__law_odd_ones {P : Program} {w : World} {K : PySem.W.Frag} {mg : Str → Option Value} {base : Heap} (c : Facts w K mg)  : BodyOk P w K mg base 0 ["_law_look", "_law_found"] "_law_odd_ones" s__law_odd_ones [] b__law_odd_ones := fun f cd A outer s H E at_ =>
    dss_cons (ds_set 0 nd__law_odd_ones (de_tup (da_cons de_str (da_cons de_str (da_cons de_str (da_cons de_str da_nil))))))
    (dss_cons (ds_set 1 nd__law_odd_ones (de_lst (da_cons (de_tup (da_cons de_non (da_cons (de_tup (da_cons de_str (da_cons de_non (da_cons de_non da_nil)))) da_nil))) (da_cons (de_tup (da_cons (de_lst (da_cons (de_lst (da_cons de_str da_nil)) (da_cons (de_lst (da_cons (de_lst da_nil) da_nil)) da_nil))) (da_cons (de_tup (da_cons de_str (da_cons de_non (da_cons de_non da_nil)))) da_nil))) da_nil))))
    (dss_cons (ds_set 1 nd__law_odd_ones (de_op op_add4 od_add (dv 1) (de_lst (da_cons (de_tup (da_cons (de_tup (da_cons (de_lst (da_cons de_str da_nil)) (da_cons (de_lst (da_cons (de_lst da_nil) da_nil)) (da_cons de_int da_nil)))) (da_cons (de_tup (da_cons de_str (da_cons de_non (da_cons de_non da_nil)))) da_nil))) (da_cons (de_tup (da_cons (de_tup (da_cons (de_lst da_nil) (da_cons (de_lst (da_cons (de_lst da_nil) da_nil)) da_nil))) (da_cons (de_tup (da_cons de_str (da_cons de_non (da_cons de_non da_nil)))) da_nil))) da_nil)))))
    (dss_cons (ds_set 1 nd__law_odd_ones (de_op op_add4 od_add (dv 1) (de_lst (da_cons (de_tup (da_cons (de_tup (da_cons (de_lst (da_cons de_str (da_cons de_str da_nil))) (da_cons (de_lst (da_cons (de_lst da_nil) da_nil)) da_nil))) (da_cons (de_tup (da_cons de_str (da_cons de_non (da_cons de_int da_nil)))) da_nil))) (da_cons (de_tup (da_cons (de_tup (da_cons (de_lst (da_cons de_str (da_cons de_str da_nil))) (da_cons (de_lst (da_cons (de_lst da_nil) da_nil)) da_nil))) (da_cons (de_tup (da_cons de_str (da_cons de_non (da_cons de_int da_nil)))) da_nil))) da_nil)))))
    (dss_cons (ds_set 1 nd__law_odd_ones (de_op op_add4 od_add (dv 1) (de_lst (da_cons (de_tup (da_cons (de_tup (da_cons (de_lst (da_cons de_str da_nil)) (da_cons (de_lst (da_cons (de_lst da_nil) da_nil)) da_nil))) (da_cons (de_tup (da_cons de_str (da_cons de_non (da_cons de_int da_nil)))) da_nil))) (da_cons (de_tup (da_cons (de_tup (da_cons (de_tup (da_cons de_str da_nil)) (da_cons (de_lst (da_cons (de_lst da_nil) da_nil)) da_nil))) (da_cons (de_tup (da_cons de_str (da_cons de_non (da_cons de_non da_nil)))) da_nil))) da_nil)))))
    (dss_cons (ds_set 1 nd__law_odd_ones (de_op op_add4 od_add (dv 1) (de_lst (da_cons (de_tup (da_cons (de_tup (da_cons (de_lst (da_cons de_str da_nil)) (da_cons (de_lst da_nil) da_nil))) (da_cons (de_tup (da_cons de_str (da_cons de_non (da_cons de_non da_nil)))) da_nil))) (da_cons (de_tup (da_cons (de_tup (da_cons (de_lst (da_cons de_str da_nil)) (da_cons (de_op op_mul2 od_mul (de_lst (da_cons (de_lst da_nil) da_nil)) de_int) da_nil))) (da_cons (de_tup (da_cons de_str (da_cons de_non (da_cons de_non da_nil)))) da_nil))) da_nil)))))
    (dss_cons (ds_set 1 nd__law_odd_ones (de_op op_add4 od_add (dv 1) (de_lst (da_cons (de_tup (da_cons (de_tup (da_cons (de_lst (da_cons de_str da_nil)) (da_cons (de_lst (da_cons (de_lst da_nil) (da_cons (de_tup da_nil) da_nil))) da_nil))) (da_cons (de_tup (da_cons de_str (da_cons de_int (da_cons de_non da_nil)))) da_nil))) (da_cons (de_tup (da_cons (de_tup (da_cons (de_lst (da_cons de_str da_nil)) (da_cons (de_lst (da_cons (de_op op_mul2 od_mul (de_lst (da_cons (dv 0) da_nil)) de_int) da_nil)) da_nil))) (da_cons (de_tup (da_cons de_str (da_cons de_int (da_cons de_non da_nil)))) da_nil))) da_nil)))))
    (dss_cons (ds_set 1 nd__law_odd_ones (de_op op_add4 od_add (dv 1) (de_lst (da_cons (de_tup (da_cons (de_tup (da_cons (de_lst (da_cons de_str da_nil)) (da_cons (de_lst (da_cons (de_op op_mul2 od_mul (de_lst (da_cons (dv 0) da_nil)) de_int) (da_cons (de_op op_mul2 od_mul (de_lst (da_cons (dv 0) da_nil)) de_int) (da_cons (de_lst (da_cons (dv 0) da_nil)) da_nil)))) da_nil))) (da_cons (de_tup (da_cons de_str (da_cons de_non (da_cons de_non da_nil)))) da_nil))) da_nil))))
    (dss_cons (ds_set 1 nd__law_odd_ones (de_op op_add4 od_add (dv 1) (de_lst (da_cons (de_tup (da_cons (de_tup (da_cons (de_lst (da_cons de_str da_nil)) (da_cons (de_lst (da_cons (de_lst da_nil) (da_cons (de_lst (da_cons (dv 0) (da_cons (de_tup (da_cons de_str (da_cons de_str (da_cons de_str (da_cons de_str da_nil))))) da_nil))) da_nil))) da_nil))) (da_cons (de_tup (da_cons de_str (da_cons de_int (da_cons de_int da_nil)))) da_nil))) da_nil))))
    (dss_one (ds_ret (de_op op_add4 od_add (dv 1) (de_lst (da_cons (de_tup (da_cons (de_tup (da_cons (de_lst (da_cons de_str da_nil)) (da_cons (de_lst (da_cons (de_lst (da_cons (de_slice (dv 0) do_none (do_some de_int)) da_nil)) da_nil)) da_nil))) (da_cons (de_tup (da_cons de_str (da_cons de_int (da_cons de_int da_nil)))) da_nil))) (da_cons (de_tup (da_cons de_int (da_cons (de_tup (da_cons de_str (da_cons de_non (da_cons de_non da_nil)))) da_nil))) da_nil))))))))))))))
theorem ok__law_odd_ones {P : Program} {w : World} {K : PySem.W.Frag} {mg : Str → Option Value} {base : Heap} {f : Addr} {fd : FuncData} (U : Fun K "_law_odd_ones" "_law_odd_ones" s__law_odd_ones f fd) (hm : mg "_law_odd_ones" = some (.ref f)) (bi : Binds K fd [] []) (c : Facts w K mg)  : Def P w K mg base "_law_odd_ones" 1 0 f__law_odd_ones :=
  Def.of U hm bi (def_ok U sc__law_odd_ones rfl (k__law_odd_ones c ))
/-! ### law -/
abbrev s_law : Stmt := top 156
def y_law_1 : M Fl :=
    sif (dnot (dval (dcall f__law_is_refused [none, none, none] (dcons (dget 9) (dcons (dlst (dcons (dget 6) (mret []))) (dcons (dget 7) (mret []))))))) (sret (mret (.d (.bool false)))) (mret .nx)
def y_law_2 : M Fl :=
    sif (dnot (dval (dcall f__law_is_refused [none, none, none] (dcons (dget 9) (dcons (dlst (dcons (dget 6) (dcons (dget 8) (mret [])))) (dcons (dget 7) (mret []))))))) (sret (mret (.d (.bool false)))) (mret .nx)
def y_law_3 : M Fl :=
    mseq (sset 8 (dop (onD pIx) (dlst (dcons (mret (.d .none)) (dcons (dlst (mret [])) (dcons (mret (.d (.str ("0" : Str)))) (dcons (dtup (dcons (mret (.d (.int 0))) (dcons (mret (.d (.int 0))) (mret [])))) (mret [])))))) (dcall f__law_draw [some 1, none] (dlate 1 (dcons (mret (.d (.int 4))) (mret [])))))) <|
    mseq (sforF (dop gAddF (dget 2) (dfns (dcons (mret (.fn "paper_of")) (mret [])))) (mset 9) y_law_1) <|
    mseq (sforF (dget 3) (mset 9) y_law_2) <|
    sif (dnot (dval (dcall f__law_is_refused [none, none, none] (dcons (mret (.fn "state_of")) (dcons (dlst (dcons (dget 6) (dcons (dget 8) (dcons (mret (.d (.int 0))) (mret []))))) (dcons (dget 7) (mret []))))))) (sret (mret (.d (.bool false)))) (mret .nx)
def b_law : M Fl :=
    mseq (sset 1 (dcall f__law_hand [none, none] (dcons (dget 0) (dcons (mret (.d (.int 0))) (mret []))))) <|
    mseq (sset 2 (dfns (dcons (mret (.fn "_law_machine")) (dcons (mret (.fn "first_graph")) (dcons (mret (.fn "count_of")) (dcons (mret (.fn "_law_goer")) (dcons (mret (.fn "outcomes")) (dcons (mret (.fn "turn_outcomes")) (dcons (mret (.fn "clash_of")) (dcons (mret (.fn "failing")) (mret []))))))))))) <|
    mseq (sset 2 (dop gAddF (dget 2) (dfns (dcons (mret (.fn "ledger_of")) (dcons (mret (.fn "picks_of")) (mret [])))))) <|
    mseq (sset 3 (dfns (dcons (mret (.fn "is_drawing")) (dcons (mret (.fn "before")) (dcons (mret (.fn "breach")) (dcons (mret (.fn "is_graph")) (dcons (mret (.fn "is_run")) (dcons (mret (.fn "graph_of")) (dcons (mret (.fn "run_of")) (dcons (mret (.fn "is_ended")) (dcons (mret (.fn "is_full")) (dcons (mret (.fn "outcome_of")) (dcons (mret (.fn "next_graph")) (mret [])))))))))))))) <|
    mseq (sset 3 (dop gAddF (dget 3) (dfns (dcons (mret (.fn "clashing")) (dcons (mret (.fn "is_ledger")) (dcons (mret (.fn "by_picks")) (dcons (mret (.fn "is_paper")) (mret [])))))))) <|
    mseq (sset 4 (dcall f__law_odd_ones [] (mret []))) <|
    mseq (sset 5 (dcall f__law_draw [some 1, none] (dlate 1 (dcons (dcallb gLen [none] (dcons (dget 4) (mret []))) (mret []))))) <|
    mseq (sfor (dseq (dop (onD pAdd) (dslice (dget 4) (dpart (dget 5)) (mret none)) (dslice (dget 4) (mret none) (dpart (dget 5))))) (mtup [mset 6, mset 7]) y_law_3) <|
    sret (mret (.d (.bool true)))
def f_law : Fn := dfn 10 [true] b_law
theorem nd_law : (["_law_script", "_law_hand_here", "_law_ones", "_law_twos", "_law_some", "_law_at", "_law_odd", "_law_due", "_law_other", "_law_door"] : List Str).Nodup := by decide +kernel
theorem sc_law : FnScope ["_law_script", "_law_hand_here", "_law_ones", "_law_twos", "_law_some", "_law_at", "_law_odd", "_law_due", "_law_other", "_law_door"] ["_law_script"] (defScope s_law) := ⟨rfl, rfl, rfl, nd_law, rfl, by decide +kernel, by decide +kernel⟩
theorem k_law {P : Program} {w : World} {K : PySem.W.Frag} {mg : Str → Option Value} {base : Heap} (c : Facts w K mg) (d__law_draw : Def P w K mg base "_law_draw" 1 2 f__law_draw) (d__law_hand : Def P w K mg base "_law_hand" 1 2 f__law_hand) (d__law_is_refused : Def P w K mg base "_law_is_refused" 12 3 f__law_is_refused) (d__law_odd_ones : Def P w K mg base "_law_odd_ones" 1 0 f__law_odd_ones) : BodyOk P w K mg base 12 ["_law_script", "_law_hand_here", "_law_ones", "_law_twos", "_law_some", "_law_at", "_law_odd", "_law_due", "_law_other", "_law_door"] "law" s_law [true] b_law := fun f cd A outer s H E at_ =>
    dss_cons (ds_set 1 nd_law (de_call d__law_hand at_ (da_cons (dv 0) (da_cons de_int da_nil))))
    (dss_cons (ds_set 2 nd_law (de_fns (da_cons (de_cls c.cn__law_machine) (da_cons (de_cls c.cn_first_graph) (da_cons (de_cls c.cn_count_of) (da_cons (de_cls c.cn__law_goer) (da_cons (de_cls c.cn_outcomes) (da_cons (de_cls c.cn_turn_outcomes) (da_cons (de_cls c.cn_clash_of) (da_cons (de_cls c.cn_failing) da_nil))))))))))
    (dss_cons (ds_set 2 nd_law (de_op op_add4 od_addF (dv 2) (de_fns (da_cons (de_cls c.cn_ledger_of) (da_cons (de_cls c.cn_picks_of) da_nil)))))
    (dss_cons (ds_set 3 nd_law (de_fns (da_cons (de_cls c.cn_is_drawing) (da_cons (de_cls c.cn_before) (da_cons (de_cls c.cn_breach) (da_cons (de_cls c.cn_is_graph) (da_cons (de_cls c.cn_is_run) (da_cons (de_cls c.cn_graph_of) (da_cons (de_cls c.cn_run_of) (da_cons (de_cls c.cn_is_ended) (da_cons (de_cls c.cn_is_full) (da_cons (de_cls c.cn_outcome_of) (da_cons (de_cls c.cn_next_graph) da_nil)))))))))))))
    (dss_cons (ds_set 3 nd_law (de_op op_add4 od_addF (dv 3) (de_fns (da_cons (de_cls c.cn_clashing) (da_cons (de_cls c.cn_is_ledger) (da_cons (de_cls c.cn_by_picks) (da_cons (de_cls c.cn_is_paper) da_nil)))))))
    (dss_cons (ds_set 4 nd_law (de_call0 d__law_odd_ones at_))
    (dss_cons (ds_set 5 nd_law (de_call d__law_draw at_ (da_own 1 (da_cons (de_callB cr_len2 ck_len c.n_len bt_len (da_cons (dv 4) da_nil)) da_nil))))
    (dss_cons (ds_for at_ (di_seq (de_op op_add4 od_add (de_slice (dv 4) (do_some (dv 5)) do_none) (de_slice (dv 4) do_none (do_some (dv 5))))) (dg_tup at_.ca (dgs_cons (dg_name nd_law rfl (by first | exact Or.inl rfl | exact Or.inr rfl) (by intro h; cases h)) (dgs_cons (dg_name nd_law rfl (by first | exact Or.inl rfl | exact Or.inr rfl) (by intro h; cases h)) dgs_nil))) (dss_cons (ds_set 8 nd_law (de_ix (de_lst (da_cons de_non (da_cons (de_lst da_nil) (da_cons de_str (da_cons (de_tup (da_cons de_int (da_cons de_int da_nil))) da_nil))))) (de_call d__law_draw at_ (da_own 1 (da_cons de_int da_nil)))))
    (dss_cons (dsf_for at_ (de_op op_add4 od_addF (dv 2) (de_fns (da_cons (de_cls c.cn_paper_of) da_nil))) (dg_name nd_law rfl (by first | exact Or.inl rfl | exact Or.inr rfl) (by intro h; cases h)) (dss_one (ds_if (dt_not (dt_val (de_call d__law_is_refused at_ (da_cons (dv 9) (da_cons (de_lst (da_cons (dv 6) da_nil)) (da_cons (dv 7) da_nil)))))) (dss_one (ds_ret de_bl)) dss_nil)))
    (dss_cons (dsf_for at_ (dv 3) (dg_name nd_law rfl (by first | exact Or.inl rfl | exact Or.inr rfl) (by intro h; cases h)) (dss_one (ds_if (dt_not (dt_val (de_call d__law_is_refused at_ (da_cons (dv 9) (da_cons (de_lst (da_cons (dv 6) (da_cons (dv 8) da_nil))) (da_cons (dv 7) da_nil)))))) (dss_one (ds_ret de_bl)) dss_nil)))
    (dss_one (ds_if (dt_not (dt_val (de_call d__law_is_refused at_ (da_cons (de_cls c.cn_state_of) (da_cons (de_lst (da_cons (dv 6) (da_cons (dv 8) (da_cons de_int da_nil)))) (da_cons (dv 7) da_nil)))))) (dss_one (ds_ret de_bl)) dss_nil))))))
    (dss_one (ds_ret de_bl)))))))))
theorem ok_law {P : Program} {w : World} {K : PySem.W.Frag} {mg : Str → Option Value} {base : Heap} {f : Addr} {fd : FuncData} (U : Fun K "law" "law" s_law f fd) (hm : mg "law" = some (.ref f)) (bi : Binds K fd ["_law_script"] []) (c : Facts w K mg) (d__law_draw : Def P w K mg base "_law_draw" 1 2 f__law_draw) (d__law_hand : Def P w K mg base "_law_hand" 1 2 f__law_hand) (d__law_is_refused : Def P w K mg base "_law_is_refused" 12 3 f__law_is_refused) (d__law_odd_ones : Def P w K mg base "_law_odd_ones" 1 0 f__law_odd_ones) : Def P w K mg base "law" 13 1 f_law :=
  Def.of U hm bi (def_ok U sc_law rfl (k_law c d__law_draw d__law_hand d__law_is_refused d__law_odd_ones))
/-! ### the head -/
theorem all_mk {P : Program} {w : World} {K : PySem.W.Frag} {h : Heap} {mg : Str → Option Value} {fa : Addr} (X : K.In h) (G : h.Ns mainGlobals mg) (hfa : mg "law" = some (.ref fa))
    (F__law_draw : HasFn K "_law_draw" s__law_draw)
    (F__law_hand : HasFn K "_law_hand" s__law_hand)
    (F_is_one_of : HasFn K "is_one_of" s_is_one_of)
    (F_is_name : HasFn K "is_name" s_is_name)
    (F_is_whole : HasFn K "is_whole" s_is_whole)
    (F_is_number : HasFn K "is_number" s_is_number)
    (F_is_what : HasFn K "is_what" s_is_what)
    (F_is_many : HasFn K "is_many" s_is_many)
    (F_is_of_kind : HasFn K "is_of_kind" s_is_of_kind)
    (F_is_deed : HasFn K "is_deed" s_is_deed)
    (F_look_at_boxes : HasFn K "look_at_boxes" s_look_at_boxes)
    (F_look_at_hands : HasFn K "look_at_hands" s_look_at_hands)
    (F_look_at : HasFn K "look_at" s_look_at)
    (F_Machine___init__ : HasMk K "Machine" "Machine.__init__" s_Machine___init__)
    (F__law_machine : HasFn K "_law_machine" s__law_machine)
    (F_Walk___init__ : HasMk K "Walk" "Walk.__init__" s_Walk___init__)
    (F_first_graph : HasFn K "first_graph" s_first_graph)
    (F_count_of : HasFnK K "count_of" s_count_of [("most", V.int 100000)])
    (F_Goer___init__ : HasMkK K "Goer" "Goer.__init__" s_Goer___init__ [("alike", V.bl false)])
    (F__law_goer : HasFn K "_law_goer" s__law_goer)
    (F_outcomes : HasFn K "outcomes" s_outcomes)
    (F_outcome_of : HasFn K "outcome_of" s_outcome_of)
    (F_turn_ends : HasFn K "turn_ends" s_turn_ends)
    (F_unlike_sorted : HasFn K "unlike_sorted" s_unlike_sorted)
    (F_turn_outcomes : HasFn K "turn_outcomes" s_turn_outcomes)
    (F_clash_of : HasFn K "clash_of" s_clash_of)
    (F_failing : HasFn K "failing" s_failing)
    (F_ledger_of : HasFn K "ledger_of" s_ledger_of)
    (F_picks_of : HasFn K "picks_of" s_picks_of)
    (F_paper_of : HasFn K "paper_of" s_paper_of)
    (F_is_drawing : HasFn K "is_drawing" s_is_drawing)
    (F_before : HasFn K "before" s_before)
    (F_breach : HasFn K "breach" s_breach)
    (F_is_graph : HasFn K "is_graph" s_is_graph)
    (F_is_run : HasFn K "is_run" s_is_run)
    (F_played : HasFn K "played" s_played)
    (F_graph_of : HasFn K "graph_of" s_graph_of)
    (F_look_at_graph : HasFn K "look_at_graph" s_look_at_graph)
    (F_run_of : HasFnK K "run_of" s_run_of [("by", V.non)])
    (F_is_ended : HasFn K "is_ended" s_is_ended)
    (F_is_full : HasFn K "is_full" s_is_full)
    (F_next_graph : HasFn K "next_graph" s_next_graph)
    (F_clashing : HasFn K "clashing" s_clashing)
    (F_is_ledger : HasFn K "is_ledger" s_is_ledger)
    (F_by_picks : HasFn K "by_picks" s_by_picks)
    (F_is_paper : HasFn K "is_paper" s_is_paper)
    (F_state_of : HasFn K "state_of" s_state_of)
    (F__law_is_refused : HasFn K "_law_is_refused" s__law_is_refused)
    (F__law_odd_ones : HasFn K "_law_odd_ones" s__law_odd_ones)
    (F_law : HasFn K "law" s_law)
    (N_ValueError : HasNo K "ValueError")
    (N_all : HasNo K "all")
    (N_bool : HasNo K "bool")
    (N_enumerate : HasNo K "enumerate")
    (N_int : HasNo K "int")
    (N_isinstance : HasNo K "isinstance")
    (N_len : HasNo K "len")
    (N_list : HasNo K "list")
    (N_repr : HasNo K "repr")
    (N_str : HasNo K "str")
    (N_sum : HasNo K "sum")
    (N_tuple : HasNo K "tuple")
    (N_zip : HasNo K "zip")
    (G_LETTERS : HasD K "LETTERS" D_LETTERS)
    (G_LONGEST : HasD K "LONGEST" D_LONGEST)
    (G_MOST_BOXES : HasD K "MOST_BOXES" D_MOST_BOXES)
    (G_MOST_DEEDS : HasD K "MOST_DEEDS" D_MOST_DEEDS)
    (G_MOST_HANDS : HasD K "MOST_HANDS" D_MOST_HANDS)
    (G_MOST_NUMBER : HasD K "MOST_NUMBER" D_MOST_NUMBER)
    (G_MOST_SKIPPED : HasD K "MOST_SKIPPED" D_MOST_SKIPPED)
    (G_MOST_TOGETHER : HasD K "MOST_TOGETHER" D_MOST_TOGETHER)
    (T_FORMS : HasTab K w "FORMS" D_FORMS)
    (T_KINDS : HasTab K w "KINDS" D_KINDS)
    (T_WORDS : HasTab K w "WORDS" D_WORDS)
    (BI_ValueError : HasBI K "ValueError" "ValueError.__init__")
    (Y_NoProgram : HasE0 K "NoProgram" "NoProgram.__init__" i_NoProgram ["part", "hand", "number"] "ValueError" "ValueError.__init__")
    (CN__law_goer : HasCls K "_law_goer")
    (CN__law_machine : HasCls K "_law_machine")
    (CN_before : HasCls K "before")
    (CN_breach : HasCls K "breach")
    (CN_by_picks : HasCls K "by_picks")
    (CN_clash_of : HasCls K "clash_of")
    (CN_clashing : HasCls K "clashing")
    (CN_count_of : HasCls K "count_of")
    (CN_failing : HasCls K "failing")
    (CN_first_graph : HasCls K "first_graph")
    (CN_graph_of : HasCls K "graph_of")
    (CN_is_drawing : HasCls K "is_drawing")
    (CN_is_ended : HasCls K "is_ended")
    (CN_is_full : HasCls K "is_full")
    (CN_is_graph : HasCls K "is_graph")
    (CN_is_ledger : HasCls K "is_ledger")
    (CN_is_paper : HasCls K "is_paper")
    (CN_is_run : HasCls K "is_run")
    (CN_ledger_of : HasCls K "ledger_of")
    (CN_next_graph : HasCls K "next_graph")
    (CN_outcome_of : HasCls K "outcome_of")
    (CN_outcomes : HasCls K "outcomes")
    (CN_paper_of : HasCls K "paper_of")
    (CN_picks_of : HasCls K "picks_of")
    (CN_run_of : HasCls K "run_of")
    (CN_state_of : HasCls K "state_of")
    (CN_turn_outcomes : HasCls K "turn_outcomes")
    (CT_NoProgram : HasExm K "NoProgram")
    (XF_hand_NoProgram : XfOne K "NoProgram" "hand")
    (XF_number_NoProgram : XfOne K "NoProgram" "number")
    (XF_part_NoProgram : XfOne K "NoProgram" "part")
    (EN_NoProgram : ExcN K "NoProgram")
    (ISA_0 : IsaK K "NoProgram" (.ty "ValueError") true)
    (CF_engine_Walk : ClsF K "Walk" "engine") :
    ∃ fd : FuncData, (∀ (s : Shared) (u : Value), BindsTo s fd ⟨[u], []⟩ [("_law_script", u)]) ∧ ∀ base : Heap, K.In base → base.Ns mainGlobals mg → FnG P w K mg base 13 fa fd ["_law_script"] (FnD K mg 1 f_law) := by
  have c : Facts w K mg := ⟨fun z a e => PySem.W.mg_of X G e, N_ValueError.at X G, N_all.at X G, N_bool.at X G, N_enumerate.at X G, N_int.at X G, N_isinstance.at X G, N_len.at X G, N_list.at X G, N_repr.at X G, N_str.at X G, N_sum.at X G, N_tuple.at X G, N_zip.at X G, G_LETTERS.at X G, G_LONGEST.at X G, G_MOST_BOXES.at X G, G_MOST_DEEDS.at X G, G_MOST_HANDS.at X G, G_MOST_NUMBER.at X G, G_MOST_SKIPPED.at X G, G_MOST_TOGETHER.at X G, T_FORMS.at X G, T_KINDS.at X G, T_WORDS.at X G, CN__law_goer.at X G, CN__law_machine.at X G, CN_before.at X G, CN_breach.at X G, CN_by_picks.at X G, CN_clash_of.at X G, CN_clashing.at X G, CN_count_of.at X G, CN_failing.at X G, CN_first_graph.at X G, CN_graph_of.at X G, CN_is_drawing.at X G, CN_is_ended.at X G, CN_is_full.at X G, CN_is_graph.at X G, CN_is_ledger.at X G, CN_is_paper.at X G, CN_is_run.at X G, CN_ledger_of.at X G, CN_next_graph.at X G, CN_outcome_of.at X G, CN_outcomes.at X G, CN_paper_of.at X G, CN_picks_of.at X G, CN_run_of.at X G, CN_state_of.at X G, CN_turn_outcomes.at X G, CT_NoProgram.at X G, (mem_cons XF_hand_NoProgram mem_nil), (mem_cons XF_number_NoProgram mem_nil), (mem_cons XF_part_NoProgram mem_nil), (mem_cons (IsaOne.mk EN_NoProgram ISA_0) mem_nil), (mem_cons CF_engine_Walk mem_nil)⟩
  obtain ⟨a__law_draw, fd__law_draw, e__law_draw, U__law_draw⟩ := F__law_draw.ex
  have bi__law_draw := U__law_draw.binds (ps := ["_law_hand_here", "_law_size"]) fun _ _ _ _ _ _ us hl => match us, hl with | [_, _], _ => rfl
  obtain ⟨a__law_hand, fd__law_hand, e__law_hand, U__law_hand⟩ := F__law_hand.ex
  have bi__law_hand := U__law_hand.binds (ps := ["_law_script", "_law_k"]) fun _ _ _ _ _ _ us hl => match us, hl with | [_, _], _ => rfl
  obtain ⟨a_is_one_of, fd_is_one_of, e_is_one_of, U_is_one_of⟩ := F_is_one_of.ex
  have bi_is_one_of := U_is_one_of.binds (ps := ["thing", "words"]) fun _ _ _ _ _ _ us hl => match us, hl with | [_, _], _ => rfl
  obtain ⟨a_is_name, fd_is_name, e_is_name, U_is_name⟩ := F_is_name.ex
  have bi_is_name := U_is_name.binds (ps := ["thing"]) fun _ _ _ _ _ _ us hl => match us, hl with | [_], _ => rfl
  obtain ⟨a_is_whole, fd_is_whole, e_is_whole, U_is_whole⟩ := F_is_whole.ex
  have bi_is_whole := U_is_whole.binds (ps := ["thing"]) fun _ _ _ _ _ _ us hl => match us, hl with | [_], _ => rfl
  obtain ⟨a_is_number, fd_is_number, e_is_number, U_is_number⟩ := F_is_number.ex
  have bi_is_number := U_is_number.binds (ps := ["thing"]) fun _ _ _ _ _ _ us hl => match us, hl with | [_], _ => rfl
  obtain ⟨a_is_what, fd_is_what, e_is_what, U_is_what⟩ := F_is_what.ex
  have bi_is_what := U_is_what.binds (ps := ["thing"]) fun _ _ _ _ _ _ us hl => match us, hl with | [_], _ => rfl
  obtain ⟨a_is_many, fd_is_many, e_is_many, U_is_many⟩ := F_is_many.ex
  have bi_is_many := U_is_many.binds (ps := ["thing"]) fun _ _ _ _ _ _ us hl => match us, hl with | [_], _ => rfl
  obtain ⟨a_is_of_kind, fd_is_of_kind, e_is_of_kind, U_is_of_kind⟩ := F_is_of_kind.ex
  have bi_is_of_kind := U_is_of_kind.binds (ps := ["boxes", "kind", "thing"]) fun _ _ _ _ _ _ us hl => match us, hl with | [_, _, _], _ => rfl
  obtain ⟨a_is_deed, fd_is_deed, e_is_deed, U_is_deed⟩ := F_is_deed.ex
  have bi_is_deed := U_is_deed.binds (ps := ["boxes", "thing"]) fun _ _ _ _ _ _ us hl => match us, hl with | [_, _], _ => rfl
  obtain ⟨a_look_at_boxes, fd_look_at_boxes, e_look_at_boxes, U_look_at_boxes⟩ := F_look_at_boxes.ex
  have bi_look_at_boxes := U_look_at_boxes.binds (ps := ["thing"]) fun _ _ _ _ _ _ us hl => match us, hl with | [_], _ => rfl
  obtain ⟨a_look_at_hands, fd_look_at_hands, e_look_at_hands, U_look_at_hands⟩ := F_look_at_hands.ex
  have bi_look_at_hands := U_look_at_hands.binds (ps := ["thing"]) fun _ _ _ _ _ _ us hl => match us, hl with | [_], _ => rfl
  obtain ⟨a_look_at, fd_look_at, e_look_at, U_look_at⟩ := F_look_at.ex
  have bi_look_at := U_look_at.binds (ps := ["thing"]) fun _ _ _ _ _ _ us hl => match us, hl with | [_], _ => rfl
  obtain ⟨C_Machine___init__, a_Machine___init__, fd_Machine___init__, ec_Machine___init__, mk_Machine___init__, U_Machine___init__⟩ := F_Machine___init__.ex
  have bi_Machine___init__ := U_Machine___init__.binds (ps := ["self", "program"]) fun _ _ _ _ _ _ us hl => match us, hl with | [_, _], _ => rfl
  obtain ⟨a__law_machine, fd__law_machine, e__law_machine, U__law_machine⟩ := F__law_machine.ex
  have bi__law_machine := U__law_machine.binds (ps := ["_law_program"]) fun _ _ _ _ _ _ us hl => match us, hl with | [_], _ => rfl
  obtain ⟨C_Walk___init__, a_Walk___init__, fd_Walk___init__, ec_Walk___init__, mk_Walk___init__, U_Walk___init__⟩ := F_Walk___init__.ex
  have bi_Walk___init__ := U_Walk___init__.binds (ps := ["self", "program"]) fun _ _ _ _ _ _ us hl => match us, hl with | [_, _], _ => rfl
  obtain ⟨a_first_graph, fd_first_graph, e_first_graph, U_first_graph⟩ := F_first_graph.ex
  have bi_first_graph := U_first_graph.binds (ps := ["program"]) fun _ _ _ _ _ _ us hl => match us, hl with | [_], _ => rfl
  obtain ⟨a_count_of, fd_count_of, e_count_of, U_count_of, V_count_of⟩ := F_count_of.ex
  have bi_count_of := V_count_of.binds0 (ps := ["program", "most"]) 1 (by simp) rfl fun _ _ _ _ _ _ us ks hl hk => match us, hl, ks, hk with | [_], _, [_], _ => ⟨_, _, _, _, _, _, rfl, rfl, rfl⟩
  obtain ⟨C_Goer___init__, a_Goer___init__, fd_Goer___init__, ec_Goer___init__, mk_Goer___init__, U_Goer___init__, V_Goer___init__⟩ := F_Goer___init__.ex
  have bi_Goer___init__ := V_Goer___init__.binds0 (ps := ["self", "program", "alike"]) 2 (by simp) rfl fun _ _ _ _ _ _ us ks hl hk => match us, hl, ks, hk with | [_, _], _, [_], _ => ⟨_, _, _, _, _, _, rfl, rfl, rfl⟩
  obtain ⟨a__law_goer, fd__law_goer, e__law_goer, U__law_goer⟩ := F__law_goer.ex
  have bi__law_goer := U__law_goer.binds (ps := ["_law_program"]) fun _ _ _ _ _ _ us hl => match us, hl with | [_], _ => rfl
  obtain ⟨a_outcomes, fd_outcomes, e_outcomes, U_outcomes⟩ := F_outcomes.ex
  have bi_outcomes := U_outcomes.binds (ps := ["program"]) fun _ _ _ _ _ _ us hl => match us, hl with | [_], _ => rfl
  obtain ⟨a_outcome_of, fd_outcome_of, e_outcome_of, U_outcome_of⟩ := F_outcome_of.ex
  have bi_outcome_of := U_outcome_of.binds (ps := ["program", "graph"]) fun _ _ _ _ _ _ us hl => match us, hl with | [_, _], _ => rfl
  obtain ⟨a_turn_ends, fd_turn_ends, e_turn_ends, U_turn_ends⟩ := F_turn_ends.ex
  have bi_turn_ends := U_turn_ends.binds (ps := ["program"]) fun _ _ _ _ _ _ us hl => match us, hl with | [_], _ => rfl
  obtain ⟨a_unlike_sorted, fd_unlike_sorted, e_unlike_sorted, U_unlike_sorted⟩ := F_unlike_sorted.ex
  have bi_unlike_sorted := U_unlike_sorted.binds (ps := ["some"]) fun _ _ _ _ _ _ us hl => match us, hl with | [_], _ => rfl
  obtain ⟨a_turn_outcomes, fd_turn_outcomes, e_turn_outcomes, U_turn_outcomes⟩ := F_turn_outcomes.ex
  have bi_turn_outcomes := U_turn_outcomes.binds (ps := ["program"]) fun _ _ _ _ _ _ us hl => match us, hl with | [_], _ => rfl
  obtain ⟨a_clash_of, fd_clash_of, e_clash_of, U_clash_of⟩ := F_clash_of.ex
  have bi_clash_of := U_clash_of.binds (ps := ["program"]) fun _ _ _ _ _ _ us hl => match us, hl with | [_], _ => rfl
  obtain ⟨a_failing, fd_failing, e_failing, U_failing⟩ := F_failing.ex
  have bi_failing := U_failing.binds (ps := ["program"]) fun _ _ _ _ _ _ us hl => match us, hl with | [_], _ => rfl
  obtain ⟨a_ledger_of, fd_ledger_of, e_ledger_of, U_ledger_of⟩ := F_ledger_of.ex
  have bi_ledger_of := U_ledger_of.binds (ps := ["program"]) fun _ _ _ _ _ _ us hl => match us, hl with | [_], _ => rfl
  obtain ⟨a_picks_of, fd_picks_of, e_picks_of, U_picks_of⟩ := F_picks_of.ex
  have bi_picks_of := U_picks_of.binds (ps := ["program"]) fun _ _ _ _ _ _ us hl => match us, hl with | [_], _ => rfl
  obtain ⟨a_paper_of, fd_paper_of, e_paper_of, U_paper_of⟩ := F_paper_of.ex
  have bi_paper_of := U_paper_of.binds (ps := ["program"]) fun _ _ _ _ _ _ us hl => match us, hl with | [_], _ => rfl
  obtain ⟨a_is_drawing, fd_is_drawing, e_is_drawing, U_is_drawing⟩ := F_is_drawing.ex
  have bi_is_drawing := U_is_drawing.binds (ps := ["program", "thing"]) fun _ _ _ _ _ _ us hl => match us, hl with | [_, _], _ => rfl
  obtain ⟨a_before, fd_before, e_before, U_before⟩ := F_before.ex
  have bi_before := U_before.binds (ps := ["program", "graph"]) fun _ _ _ _ _ _ us hl => match us, hl with | [_, _], _ => rfl
  obtain ⟨a_breach, fd_breach, e_breach, U_breach⟩ := F_breach.ex
  have bi_breach := U_breach.binds (ps := ["program", "graph"]) fun _ _ _ _ _ _ us hl => match us, hl with | [_, _], _ => rfl
  obtain ⟨a_is_graph, fd_is_graph, e_is_graph, U_is_graph⟩ := F_is_graph.ex
  have bi_is_graph := U_is_graph.binds (ps := ["program", "thing"]) fun _ _ _ _ _ _ us hl => match us, hl with | [_, _], _ => rfl
  obtain ⟨a_is_run, fd_is_run, e_is_run, U_is_run⟩ := F_is_run.ex
  have bi_is_run := U_is_run.binds (ps := ["program", "thing"]) fun _ _ _ _ _ _ us hl => match us, hl with | [_, _], _ => rfl
  obtain ⟨a_played, fd_played, e_played, U_played⟩ := F_played.ex
  have bi_played := U_played.binds (ps := ["program", "run"]) fun _ _ _ _ _ _ us hl => match us, hl with | [_, _], _ => rfl
  obtain ⟨a_graph_of, fd_graph_of, e_graph_of, U_graph_of⟩ := F_graph_of.ex
  have bi_graph_of := U_graph_of.binds (ps := ["program", "run"]) fun _ _ _ _ _ _ us hl => match us, hl with | [_, _], _ => rfl
  obtain ⟨a_look_at_graph, fd_look_at_graph, e_look_at_graph, U_look_at_graph⟩ := F_look_at_graph.ex
  have bi_look_at_graph := U_look_at_graph.binds (ps := ["program", "thing"]) fun _ _ _ _ _ _ us hl => match us, hl with | [_, _], _ => rfl
  obtain ⟨a_run_of, fd_run_of, e_run_of, U_run_of, V_run_of⟩ := F_run_of.ex
  have bi_run_of := V_run_of.binds0 (ps := ["program", "graph", "by"]) 2 (by simp) rfl fun _ _ _ _ _ _ us ks hl hk => match us, hl, ks, hk with | [_, _], _, [_], _ => ⟨_, _, _, _, _, _, rfl, rfl, rfl⟩
  obtain ⟨a_is_ended, fd_is_ended, e_is_ended, U_is_ended⟩ := F_is_ended.ex
  have bi_is_ended := U_is_ended.binds (ps := ["program", "graph"]) fun _ _ _ _ _ _ us hl => match us, hl with | [_, _], _ => rfl
  obtain ⟨a_is_full, fd_is_full, e_is_full, U_is_full⟩ := F_is_full.ex
  have bi_is_full := U_is_full.binds (ps := ["program", "graph"]) fun _ _ _ _ _ _ us hl => match us, hl with | [_, _], _ => rfl
  obtain ⟨a_next_graph, fd_next_graph, e_next_graph, U_next_graph⟩ := F_next_graph.ex
  have bi_next_graph := U_next_graph.binds (ps := ["program", "graph"]) fun _ _ _ _ _ _ us hl => match us, hl with | [_, _], _ => rfl
  obtain ⟨a_clashing, fd_clashing, e_clashing, U_clashing⟩ := F_clashing.ex
  have bi_clashing := U_clashing.binds (ps := ["program", "graph"]) fun _ _ _ _ _ _ us hl => match us, hl with | [_, _], _ => rfl
  obtain ⟨a_is_ledger, fd_is_ledger, e_is_ledger, U_is_ledger⟩ := F_is_ledger.ex
  have bi_is_ledger := U_is_ledger.binds (ps := ["program", "thing"]) fun _ _ _ _ _ _ us hl => match us, hl with | [_, _], _ => rfl
  obtain ⟨a_by_picks, fd_by_picks, e_by_picks, U_by_picks⟩ := F_by_picks.ex
  have bi_by_picks := U_by_picks.binds (ps := ["program", "picks"]) fun _ _ _ _ _ _ us hl => match us, hl with | [_, _], _ => rfl
  obtain ⟨a_is_paper, fd_is_paper, e_is_paper, U_is_paper⟩ := F_is_paper.ex
  have bi_is_paper := U_is_paper.binds (ps := ["program", "thing"]) fun _ _ _ _ _ _ us hl => match us, hl with | [_, _], _ => rfl
  obtain ⟨a_state_of, fd_state_of, e_state_of, U_state_of⟩ := F_state_of.ex
  have bi_state_of := U_state_of.binds (ps := ["program", "graph", "hand"]) fun _ _ _ _ _ _ us hl => match us, hl with | [_, _, _], _ => rfl
  obtain ⟨a__law_is_refused, fd__law_is_refused, e__law_is_refused, U__law_is_refused⟩ := F__law_is_refused.ex
  have bi__law_is_refused := U__law_is_refused.binds (ps := ["_law_door", "_law_given", "_law_due"]) fun _ _ _ _ _ _ us hl => match us, hl with | [_, _, _], _ => rfl
  obtain ⟨a__law_odd_ones, fd__law_odd_ones, e__law_odd_ones, U__law_odd_ones⟩ := F__law_odd_ones.ex
  have bi__law_odd_ones := U__law_odd_ones.binds (ps := []) fun _ _ _ _ _ _ us hl => match us, hl with | [], _ => rfl
  obtain ⟨a_law, fd_law, e_law, U_law⟩ := F_law.ex
  have bi_law := U_law.binds (ps := ["_law_script"]) fun _ _ _ _ _ _ us hl => match us, hl with | [_], _ => rfl
  have y_NoProgram : ∀ {base : Heap}, ExcB P w K mg base "NoProgram" 1 ["part", "hand", "number"] := y_of_NoProgram (base_ValueError (N_ValueError.at X G) BI_ValueError.vV) (Y_NoProgram.at X G)
  have ea := hfa.symm.trans (PySem.W.mg_of X G e_law)
  cases ea
  refine ⟨fd_law, ?_, fun base kb nb => ?_⟩
  · obtain ⟨_, _, _, _, _, _, _, _, _, rfl, _, _⟩ := U_law.ex
    exact fun s v => .of_eq rfl
  have d__law_draw := ok__law_draw (P := P) (base := base) U__law_draw (PySem.W.mg_of X G e__law_draw) bi__law_draw c 
  have d__law_hand := ok__law_hand (P := P) (base := base) U__law_hand (PySem.W.mg_of X G e__law_hand) bi__law_hand c 
  have d_is_one_of := ok_is_one_of (P := P) (base := base) U_is_one_of (PySem.W.mg_of X G e_is_one_of) bi_is_one_of c 
  have d_is_name := ok_is_name (P := P) (base := base) U_is_name (PySem.W.mg_of X G e_is_name) bi_is_name c 
  have d_is_whole := ok_is_whole (P := P) (base := base) U_is_whole (PySem.W.mg_of X G e_is_whole) bi_is_whole c 
  have d_is_number := ok_is_number (P := P) (base := base) U_is_number (PySem.W.mg_of X G e_is_number) bi_is_number c d_is_whole
  have d_is_what := ok_is_what (P := P) (base := base) U_is_what (PySem.W.mg_of X G e_is_what) bi_is_what c d_is_name d_is_number
  have d_is_many := ok_is_many (P := P) (base := base) U_is_many (PySem.W.mg_of X G e_is_many) bi_is_many c d_is_whole
  have d_is_of_kind := ok_is_of_kind (P := P) (base := base) U_is_of_kind (PySem.W.mg_of X G e_is_of_kind) bi_is_of_kind c d_is_one_of d_is_name d_is_number d_is_what d_is_many
  have d_is_deed := ok_is_deed (P := P) (base := base) U_is_deed (PySem.W.mg_of X G e_is_deed) bi_is_deed c d_is_of_kind d_is_one_of
  have d_look_at_boxes := ok_look_at_boxes (P := P) (base := base) U_look_at_boxes (PySem.W.mg_of X G e_look_at_boxes) bi_look_at_boxes c d_is_name y_NoProgram
  have d_look_at_hands := ok_look_at_hands (P := P) (base := base) U_look_at_hands (PySem.W.mg_of X G e_look_at_hands) bi_look_at_hands c y_NoProgram
  have d_look_at := ok_look_at (P := P) (base := base) U_look_at (PySem.W.mg_of X G e_look_at) bi_look_at c d_is_deed d_look_at_boxes d_look_at_hands y_NoProgram
  have e_Machine___init__ := DefI.of (P := P) (base := base) (w := w) (mg := mg) ec_Machine___init__ (PySem.W.mg_of X G ec_Machine___init__) mk_Machine___init__ (def_ok U_Machine___init__ sc_Machine___init__ rfl (k_Machine___init__ c d_look_at)) bi_Machine___init__
  have d__law_machine := ok__law_machine (P := P) (base := base) U__law_machine (PySem.W.mg_of X G e__law_machine) bi__law_machine c e_Machine___init__
  have e_Walk___init__ := DefI.of (P := P) (base := base) (w := w) (mg := mg) ec_Walk___init__ (PySem.W.mg_of X G ec_Walk___init__) mk_Walk___init__ (def_ok U_Walk___init__ sc_Walk___init__ rfl (k_Walk___init__ c e_Machine___init__)) bi_Walk___init__
  have d_first_graph := ok_first_graph (P := P) (base := base) U_first_graph (PySem.W.mg_of X G e_first_graph) bi_first_graph c e_Walk___init__
  have d_count_of := ok_count_of (P := P) (base := base) U_count_of (PySem.W.mg_of X G e_count_of) bi_count_of c d_look_at
  have e_Goer___init__ := DefI.ofK (P := P) (base := base) (w := w) (mg := mg) ec_Goer___init__ (PySem.W.mg_of X G ec_Goer___init__) mk_Goer___init__ (n := 2) (dts := [.bool false]) (def_ok U_Goer___init__ sc_Goer___init__ rfl (k_Goer___init__ c d_look_at)) bi_Goer___init__ fun I => (.cons (.bl _) .nil)
  have d__law_goer := ok__law_goer (P := P) (base := base) U__law_goer (PySem.W.mg_of X G e__law_goer) bi__law_goer c e_Goer___init__
  have d_outcomes := ok_outcomes (P := P) (base := base) U_outcomes (PySem.W.mg_of X G e_outcomes) bi_outcomes c d_look_at
  have d_outcome_of := ok_outcome_of (P := P) (base := base) U_outcome_of (PySem.W.mg_of X G e_outcome_of) bi_outcome_of c d_look_at
  have d_turn_ends := ok_turn_ends (P := P) (base := base) U_turn_ends (PySem.W.mg_of X G e_turn_ends) bi_turn_ends c e_Machine___init__
  have d_unlike_sorted := ok_unlike_sorted (P := P) (base := base) U_unlike_sorted (PySem.W.mg_of X G e_unlike_sorted) bi_unlike_sorted c 
  have d_turn_outcomes := ok_turn_outcomes (P := P) (base := base) U_turn_outcomes (PySem.W.mg_of X G e_turn_outcomes) bi_turn_outcomes c d_outcome_of d_turn_ends d_unlike_sorted
  have d_clash_of := ok_clash_of (P := P) (base := base) U_clash_of (PySem.W.mg_of X G e_clash_of) bi_clash_of c d_look_at
  have d_failing := ok_failing (P := P) (base := base) U_failing (PySem.W.mg_of X G e_failing) bi_failing c d_look_at
  have d_ledger_of := ok_ledger_of (P := P) (base := base) U_ledger_of (PySem.W.mg_of X G e_ledger_of) bi_ledger_of c d_failing
  have d_picks_of := ok_picks_of (P := P) (base := base) U_picks_of (PySem.W.mg_of X G e_picks_of) bi_picks_of c d_look_at
  have d_paper_of := ok_paper_of (P := P) (base := base) U_paper_of (PySem.W.mg_of X G e_paper_of) bi_paper_of c d_picks_of
  have d_is_drawing := ok_is_drawing (P := P) (base := base) U_is_drawing (PySem.W.mg_of X G e_is_drawing) bi_is_drawing c d_look_at
  have d_before := ok_before (P := P) (base := base) U_before (PySem.W.mg_of X G e_before) bi_before c d_look_at
  have d_breach := ok_breach (P := P) (base := base) U_breach (PySem.W.mg_of X G e_breach) bi_breach c d_look_at
  have d_is_graph := ok_is_graph (P := P) (base := base) U_is_graph (PySem.W.mg_of X G e_is_graph) bi_is_graph c d_breach d_is_drawing
  have d_is_run := ok_is_run (P := P) (base := base) U_is_run (PySem.W.mg_of X G e_is_run) bi_is_run c e_Machine___init__
  have d_played := ok_played (P := P) (base := base) U_played (PySem.W.mg_of X G e_played) bi_played c e_Machine___init__
  have d_graph_of := ok_graph_of (P := P) (base := base) U_graph_of (PySem.W.mg_of X G e_graph_of) bi_graph_of c d_played
  have d_look_at_graph := ok_look_at_graph (P := P) (base := base) U_look_at_graph (PySem.W.mg_of X G e_look_at_graph) bi_look_at_graph c d_look_at
  have d_run_of := ok_run_of (P := P) (base := base) U_run_of (PySem.W.mg_of X G e_run_of) bi_run_of c d_look_at_graph
  have d_is_ended := ok_is_ended (P := P) (base := base) U_is_ended (PySem.W.mg_of X G e_is_ended) bi_is_ended c d_played d_run_of
  have d_is_full := ok_is_full (P := P) (base := base) U_is_full (PySem.W.mg_of X G e_is_full) bi_is_full c d_look_at
  have d_next_graph := ok_next_graph (P := P) (base := base) U_next_graph (PySem.W.mg_of X G e_next_graph) bi_next_graph c d_run_of
  have d_clashing := ok_clashing (P := P) (base := base) U_clashing (PySem.W.mg_of X G e_clashing) bi_clashing c d_look_at
  have d_is_ledger := ok_is_ledger (P := P) (base := base) U_is_ledger (PySem.W.mg_of X G e_is_ledger) bi_is_ledger c d_look_at
  have d_by_picks := ok_by_picks (P := P) (base := base) U_by_picks (PySem.W.mg_of X G e_by_picks) bi_by_picks c d_look_at
  have d_is_paper := ok_is_paper (P := P) (base := base) U_is_paper (PySem.W.mg_of X G e_is_paper) bi_is_paper c d_picks_of
  have d_state_of := ok_state_of (P := P) (base := base) U_state_of (PySem.W.mg_of X G e_state_of) bi_state_of c d_look_at
  have d__law_is_refused := ok__law_is_refused (P := P) (base := base) U__law_is_refused (PySem.W.mg_of X G e__law_is_refused) bi__law_is_refused c d__law_machine d_first_graph d_count_of d__law_goer d_outcomes d_turn_outcomes d_clash_of d_failing d_ledger_of d_picks_of d_paper_of d_is_drawing d_before d_breach d_is_graph d_is_run d_graph_of d_run_of d_is_ended d_is_full d_outcome_of d_next_graph d_clashing d_is_ledger d_by_picks d_is_paper d_state_of
  have d__law_odd_ones := ok__law_odd_ones (P := P) (base := base) U__law_odd_ones (PySem.W.mg_of X G e__law_odd_ones) bi__law_odd_ones c 
  exact def_ok U_law sc_law rfl (k_law c d__law_draw d__law_hand d__law_is_refused d__law_odd_ones)
end LW
end
section
set_option Elab.async false
set_option linter.all false
set_option maxRecDepth 100000
set_option maxHeartbeats 4000000
/-! DMO2: a head by facts, for large tops: the top is run once, the facts are read off the heap. -/
namespace DL
open PySem L2 He PySem.Spec PyProof.Rows PySem.Calls

theorem frK_eq {α : Type} (g : Addr → Option Obj) : ∀ (as : List Addr) (k : PySem.W.Frag → α), frK g as k = k (frG g as)
  | [], _ => rfl
  | a :: as, k => by
    unfold frK
    rw [HandSHeadRun.frNat_eq]
    unfold frG
    cases e : g a with
    | none =>
      simp only
      rw [frK_eq g as k, List.filterMap_cons_none (by rw [e]; rfl)]
      rfl
    | some o =>
      simp only
      rw [frK_eq g as, List.filterMap_cons_some (b := (a, o)) (by rw [e]; rfl)]
      rfl
theorem obM_eq (xs : List Str) (fn : List DefD) (ts : List (Str × List Str)) (eb : PySem.W.Frag → Bool) (s : PySem.W.SharedT) : obM xs fn ts eb s = (hookM xs fn ts eb).obs s.abs := by
  unfold obM obK
  rw [frK_eq]
  have e : HandSHeadRun.getT s = s.abs.heap.get? := funext (HandSHeadRun.getT_eq s)
  rw [e] <;> rfl
/-- the run's equation, put together of two -/
theorem run_two {r : PySem.W.OpenRow} {q : Program} {xs : List Str} {fn : List DefD} {ts : List (Str × List Str)} {eb : PySem.W.Frag → Bool} {M : Nat} {loose : List Str} {w : World}
    (a : ∀ os : OsState, (HandSHeadRun.endF (HandSHeadRun.stepQ (HandSHeadRun.denQ HandSHeadRun.tabQ) r.prog w) M r.prog w os).map (fun s => (HandSHeadRun.looksF r.prog (PySem.W.boot_heap w.params) s.abs, HandSHeadRun.seenQ q loose (importedModules r.prog.main.body) (fun s => PySem.W.xlAt q [] s && PySem.W.recOk r.toRowW.records s) s.abs)) = some (true, PySem.W.openGood q loose))
    (c : ∀ os : OsState, (HandSHeadRun.endF (HandSHeadRun.stepQ (HandSHeadRun.denQ HandSHeadRun.tabQ) r.prog w) M r.prog w os).map (fun s => obM xs fn ts eb s) = some ((hookM xs fn ts eb).val w)) :
    HandSHeadRun.RunEq r q (hookM xs fn ts eb) (obM xs fn ts eb) M loose w := fun os => by
  have ha := a os
  have hc := c os
  cases z : HandSHeadRun.endF (HandSHeadRun.stepQ (HandSHeadRun.denQ HandSHeadRun.tabQ) r.prog w) M r.prog w os with
  | none => rw [z] at ha; cases ha
  | some s =>
    rw [z] at ha hc
    have ha := Option.some.inj ha
    have hc : obM xs fn ts eb s = (hookM xs fn ts eb).val w := Option.some.inj hc
    have h1 : HandSHeadRun.looksF r.prog (PySem.W.boot_heap w.params) s.abs = true := congrArg (fun z : Bool × _ => z.1) ha
    have h2 : HandSHeadRun.seenQ q loose (importedModules r.prog.main.body) (fun s => PySem.W.xlAt q [] s && PySem.W.recOk r.toRowW.records s) s.abs = PySem.W.openGood q loose := congrArg (fun z : Bool × _ => z.2) ha
    show some (_, _, obM xs fn ts eb s) = _
    rw [h1, h2, hc] <;> rfl
section
variable {fn : List DefD} {ts : List (Str × List Str)} {eb : PySem.W.Frag → Bool} {w : World} {K : PySem.W.Frag}
theorem SaysM.d (c : SaysM fn ts eb w K) : SaysD [] fn K := congrArg (fun z : AlM => z.1.1) c
theorem SaysM.more (c : SaysM fn ts eb w K) : eb K = true := congrArg (fun z : AlM => z.2) c
theorem SaysM.tab (c : SaysM fn ts eb w K) (i : Nat) {t : Str × List Str} (h : ts[i]? = some t := by rfl) : dicW K (ga K t.1) = some (keysIn w.params t.2) := by
  have e : (ts.map Prod.fst).map (fun x => dicW K (ga K x)) = ts.map fun t => some (keysIn w.params t.2) := congrArg (fun z : AlM => z.1.2) c
  have e2 : ((ts.map Prod.fst).map fun x => dicW K (ga K x))[i]? = (ts.map fun t => some (keysIn w.params t.2))[i]? := by rw [e]
  rw [List.getElem?_map, List.getElem?_map, List.getElem?_map, h] at e2
  exact Option.some.inj e2
end

section
variable {K : PySem.W.Frag}
theorem glo_of {x : Str} (h : (Fa.glo x).ok K = true) : PySem.W.nsIn K mainGlobals x = some (some (.ref (ga K x))) := eqO_ok h
theorem HasNo.of {x : Str} (h : (Fa.free x).ok K = true) : HasNo K x := ⟨eqO_ok h⟩
theorem HasCls.of {x : Str} (h : (Fa.glo x).ok K = true) : HasCls K x := ⟨_, glo_of h⟩
theorem fun_of {x qual : Str} {st : Stmt} {kws : List (Str × V)} {f : Addr} {fd : FuncData} (F : FunD K x qual (defArgs st) (defBody st) (defScope st) [] kws f fd) : Fun K x qual st f fd := by
  obtain ⟨oc, od, dV, kV, doc, pm, an, cdv, ct, osl, rfl, lk, cd, dd, _⟩ := F.ex
  rcases dd with ⟨_, rfl⟩ | ⟨z, _⟩
  · exact ⟨⟨oc, od, kV, doc, pm, an, cdv, ct, osl, rfl, lk, cd⟩, F.kp⟩
  · exact absurd rfl z
theorem HasFn.of {x : Str} {st : Stmt} (g : (Fa.glo x).ok K = true) (h : ∃ fd, FunD K x x (defArgs st) (defBody st) (defScope st) [] [] (ga K x) fd) : HasFn K x st := by
  obtain ⟨fd, F⟩ := h
  exact ⟨_, fd, glo_of g, fun_of F⟩
theorem HasFnK.of {x : Str} {st : Stmt} {kws : List (Str × V)} (g : (Fa.glo x).ok K = true) (h : ∃ fd, FunD K x x (defArgs st) (defBody st) (defScope st) [] kws (ga K x) fd) : HasFnK K x st kws := by
  obtain ⟨fd, F⟩ := h
  exact ⟨_, fd, glo_of g, fun_of F, F⟩
theorem HasMk.of {cn qual : Str} {st : Stmt} (g : (Fa.glo cn).ok K = true) (m : (Fa.mkr cn).ok K = true) (h : ∃ fd, FunD K "__init__" qual (defArgs st) (defBody st) (defScope st) [] [] (ma K (ga K cn) "__init__") fd) : HasMk K cn qual st := by
  obtain ⟨fd, F⟩ := h
  exact ⟨_, _, fd, glo_of g, mkr_ok m, fun_of F⟩
theorem HasMkK.of {cn qual : Str} {st : Stmt} {kws : List (Str × V)} (g : (Fa.glo cn).ok K = true) (m : (Fa.mkr cn).ok K = true) (h : ∃ fd, FunD K "__init__" qual (defArgs st) (defBody st) (defScope st) [] kws (ma K (ga K cn) "__init__") fd) : HasMkK K cn qual st kws := by
  obtain ⟨fd, F⟩ := h
  exact ⟨_, _, fd, glo_of g, mkr_ok m, fun_of F, F⟩
theorem HasMt.of {cn m qual : Str} {st : Stmt} (g : (Fa.glo cn).ok K = true) (c : (Fa.cls cn).ok K = true) (mm : (Fa.meth cn m).ok K = true) (h : ∃ fd, FunD K m qual (defArgs st) (defBody st) (defScope st) [] [] (ma K (ga K cn) m) fd) : HasMt K cn m qual st := by
  obtain ⟨fd, F⟩ := h
  exact ⟨_, _, fd, glo_of g, cls_ok c, meth_ok mm, fun_of F⟩
theorem ClsF.of {cn f : Str} (g : (Fa.glo cn).ok K = true) (c : (Fa.cls cn).ok K = true) (n : (Fa.noat cn f).ok K = true) : ClsF K cn f := ⟨_, glo_of g, cls_ok c, noat_ok n⟩
mutual
theorem kdB_ok : ∀ {d : PyData} {u : Value}, kdB K d u = true → KD K u d
  | .none, u, h => by
    unfold kdB at h
    cases u <;> first | exact .none | cases h
  | .bool b, u, h => by
    unfold kdB at h
    cases u with
    | bool c => rw [eq_of_beq (show (b == c) = true from h)]; exact .bool c
    | _ => cases h
  | .int i, u, h => by
    unfold kdB at h
    cases u with
    | int j t => rw [show i = j from of_decide_eq_true h]; exact .int j t
    | _ => cases h
  | .str x, u, h => by
    unfold kdB at h
    cases u with
    | str y t => rw [show x = y from of_decide_eq_true h]; exact .str y t
    | _ => cases h
  | .tuple ds, u, h => by
    unfold kdB at h
    cases u with
    | ref a =>
      simp only at h
      cases q : K.lookup a with
      | none => rw [q] at h; cases h
      | some o =>
        obtain ⟨oc, od, dt, osl⟩ := o
        rw [q] at h
        cases oc with
        | type c =>
          cases dt with
          | seq its n =>
            obtain ⟨h1, h2⟩ := ba (show (decide (c = "tuple") && (decide (its.size ≤ sizeLine) && kdsB K ds its.toList)) = true from h)
            obtain ⟨h3, h4⟩ := ba h2
            have e : c = "tuple" := of_decide_eq_true h1
            subst e
            exact .tup q (of_decide_eq_true h3) (kdsB_ok h4)
          | _ => cases h
        | _ => cases dt <;> cases h
    | _ => cases h
  | .list _, u, h => by unfold kdB at h; cases h
  | .dict _, u, h => by unfold kdB at h; cases h
theorem kdsB_ok : ∀ {ds : List PyData} {us : List Value}, kdsB K ds us = true → KDs K us ds
  | [], us, h => by
    unfold kdsB at h
    cases us with
    | nil => exact .nil
    | cons a b => cases h
  | d :: ds, us, h => by
    unfold kdsB at h
    cases us with
    | nil => cases h
    | cons u us =>
      obtain ⟨h1, h2⟩ := ba (show (kdB K d u && kdsB K ds us) = true from h)
      exact .cons (kdB_ok h1) (kdsB_ok h2)
end
theorem HasD.of {x : Str} {d : PyData} (h : hdB K x d = true) : HasD K x d := by
  unfold hdB at h
  cases e : PySem.W.nsIn K mainGlobals x with
  | none => rw [e] at h; cases h
  | some o =>
    rw [e] at h
    cases o with
    | none => cases h
    | some u => exact .kd e (kdB_ok h)
theorem entB_ok : ∀ {kvs : List (Str × T)} {es : List DictEntry}, entB K kvs es = true → TabIs K es kvs
  | [], es, h => by
    unfold entB at h
    cases es with
    | nil => exact .nil
    | cons a b => cases h
  | (z, t) :: kvs, es, h => by
    unfold entB at h
    cases es with
    | nil => cases h
    | cons e es =>
      obtain ⟨h1, h2⟩ := ba h
      obtain ⟨h3, h4⟩ := ba h2
      have ih := entB_ok h4
      cases ek : e.key with
      | str y k =>
        rw [ek] at h1
        have ey : y = z := of_decide_eq_true h1
        subst ey
        cases t with
        | fn n =>
          obtain ⟨h5, h6⟩ := ba h3
          cases ev : e.val with
          | ref a =>
            rw [ev] at h6
            have ea : a = ga K n := of_decide_eq_true h6
            subst ea
            exact .consF ek ev (glo_of h5) ih
          | _ => rw [ev] at h6; cases h6
        | d d => exact .consD ek (kdB_ok h3) ih
        | _ => cases h3
      | _ => rw [ek] at h1; cases h1
theorem HasTab.of {w : World} {x : Str} {kvs : List (Str × T)} {ks : List Str} (h : tabB K x kvs = true) (hk : dicW K (ga K x) = some (keysIn w.params ks)) : HasTab K w x kvs := by
  obtain ⟨g, h2⟩ := ba h
  obtain ⟨es, n, D⟩ := dicW_ok hk
  have l := D.1
  rw [l] at h2
  obtain ⟨h3, h4⟩ := ba (show (decide (es.size ≤ sizeLine) && entB K kvs es.toList) = true from h2)
  exact ⟨_, es, n, glo_of g, D, entB_ok h4, of_decide_eq_true h3⟩
theorem oexB_ok {C : Addr} {B iid newId : String} {bmB : List Value} (FB : ExcBaseFacts B newId iid bmB) (SF : StoreFacts B bmB "object.__setattr__" "object") (h : oexB K C bmB newId = true) : OexB K C B iid := by
  obtain ⟨q, h⟩ := ba h
  obtain ⟨h1, h⟩ := ba h
  obtain ⟨h2, h⟩ := ba h
  obtain ⟨h3, h⟩ := ba h
  obtain ⟨h4, h5⟩ := ba h
  refine ⟨?_, eqO_ok h1, of_decide_eq_true h2, of_decide_eq_true h3, h4, h5⟩
  split at q
  · rename_i c dd cd sl ho
    split at q
    · rename_i C' bm k0 k1 k2 k3 n k5 hm hs
      obtain ⟨q1, q⟩ := ba q
      obtain ⟨q2, q⟩ := ba q
      obtain ⟨q3, q⟩ := ba q
      obtain ⟨q4, q⟩ := ba q
      obtain ⟨q5, q6⟩ := ba q
      have e1 : c = "type" := of_decide_eq_true q1
      have e2 : C' = C := of_decide_eq_true q2
      have e3 : n = newId := of_decide_eq_true q3
      have e4 : cd.hasDel = false := Bool.not_eq_true' _ |>.mp q4
      subst e1 e2 e3
      obtain ⟨nm, bs, mro, ns, qn, hd, sn, sub, ab, col, del⟩ := cd
      dsimp only at hm e4 q5
      subst hm e4 q5
      have hsl : sl = #[k0, k1, k2, k3, some (.builtin n), k5] := by
        obtain ⟨l⟩ := sl
        simp only at hs
        rw [hs]
      subst hsl
      exact ⟨_, _, _, _, _, _, _, _, _, _, _, _, _, _, _, _, _, ho, q6, FB, SF⟩
    · cases q
  · cases q
theorem HasE0.of {n qual : Str} {st : Stmt} {fs : List Str} {B iid newId : String} {bmB : List Value} (FB : ExcBaseFacts B newId iid bmB) (SF : StoreFacts B bmB "object.__setattr__" "object") (h : e0B K n fs bmB newId = true)
    (hf : ∃ fd, FunD K "__init__" qual (defArgs st) (defBody st) (defScope st) [] [] (ma K (ga K n) "__init__") fd) : HasE0 K n qual st fs B iid := by
  obtain ⟨h1, h⟩ := ba h
  obtain ⟨h2, h⟩ := ba h
  obtain ⟨h3, h⟩ := ba h
  obtain ⟨h4, h5⟩ := ba h
  obtain ⟨fd, F⟩ := hf
  exact ⟨_, _, fd, glo_of h1, oexB_ok FB SF h2, eqO_ok h3, of_decide_eq_true h4, fun_of F, fun f hf => eqO_ok (List.all_eq_true.mp h5 f hf)⟩
theorem HasBI.of {B iid : String} (h : biB K B iid = true) : HasBI K B iid := by
  unfold biB at h
  split at h
  · rename_i i e
    rw [show i = iid from of_decide_eq_true h] at e
    exact ⟨e⟩
  · cases h
theorem HasExm.of {n : Str} (h : exmB K n = true) : HasExm K n := by
  obtain ⟨h1, h⟩ := ba h
  obtain ⟨h2, h⟩ := ba h
  obtain ⟨h3, h⟩ := ba h
  obtain ⟨h4, h5⟩ := ba h
  exact HasExm.by_ (glo_of h1) (of_decide_eq_true h2) h3 (of_decide_eq_true h4) (of_decide_eq_true h5)
theorem XfOne.of {n f : Str} (h : xfB K n f = true) : XfOne K n f := by
  obtain ⟨h1, h⟩ := ba h
  obtain ⟨h2, h⟩ := ba h
  obtain ⟨h3, h⟩ := ba h
  obtain ⟨h4, h⟩ := ba h
  obtain ⟨h5, h6⟩ := ba h
  exact XfOne.by_ (glo_of h1) (eqO_ok h2) (eqO_ok h3) (of_decide_eq_true h4) h5 (eqO_ok h6)
theorem ExcN.of {n : Str} (h : excnB K n = true) : ExcN K n := by
  obtain ⟨h1, h⟩ := ba h
  obtain ⟨h2, h⟩ := ba h
  obtain ⟨h3, h⟩ := ba h
  obtain ⟨h4, h⟩ := ba h
  obtain ⟨h5, h⟩ := ba h
  obtain ⟨h6, h⟩ := ba h
  obtain ⟨h7, h⟩ := ba h
  obtain ⟨h8, h9⟩ := ba h
  exact ExcN.by_ (glo_of h1) (eqO_ok h2) (eqO_ok h3) (of_decide_eq_true h4) h5 (eqO_ok h6) (eqO_ok h7) (of_decide_eq_true h8) (of_decide_eq_true h9)
theorem IsaK.same_of {n : Str} (h : (Fa.glo n).ok K = true) : IsaK K n (.fn n) true := IsaK.same (glo_of h)
theorem IsaK.cls_of {n m : Str} {b : Bool} (h : isaB K n m b = true) : IsaK K n (.fn m) b := by
  obtain ⟨h1, h⟩ := ba h
  obtain ⟨h2, h⟩ := ba h
  obtain ⟨h3, h⟩ := ba h
  obtain ⟨h4, h⟩ := ba h
  obtain ⟨h5, h6⟩ := ba h
  exact IsaK.cls (glo_of h1) (glo_of h2) h3 (of_decide_eq_true h4) (of_decide_eq_true h5) (by cases e : (Value.ref (ga K n) == Value.ref (ga K m)) with
    | false => rfl
    | true => rw [e] at h6; cases h6)
theorem IsaK.ty_of {n : Str} {m : String} {b : Bool} (h : isaT K n m b = true) (mt : PySem.W.kitMeta m = true := by decide +kernel) : IsaK K n (.ty m) b := by
  obtain ⟨h1, h2⟩ := ba h
  exact IsaK.ty (glo_of h1) mt (of_decide_eq_true h2)
end
theorem walkM {l : PySem.W.OpenLaw} {n k : Nat} {q : Program} {loose : List Str} {XP : (Str → Option Value) → Heap → Prop} {YP : World → Heap → Prop} {d : DefRec} {x : Str} {g : Fn}
    (hn : l.most = some n) (hn2 : n ≤ sizeLine) (hdf : d.params.defaults = []) (room : Room k callerA)
    (F : ∀ (w : World) (mg : Str → Option Value) (fa : Addr) (h : Heap), YP w h → h.Ns mainGlobals mg → mg d.name = some (.ref fa) →
      ∃ (K : PySem.W.Frag) (fd : FuncData), K.In h ∧ (∀ (s : Shared) (u : Value), BindsTo s fd ⟨[u], []⟩ [(x, u)]) ∧ ∀ base : Heap, K.In base → base.Ns mainGlobals mg → FnG l.prog w K mg base k fa fd [x] (FnD K mg 1 g))
    (law : ∀ ns : List Int, ns.length ≤ n → (∀ z ∈ ns, PySem.Builtin.Int.intBits z ≤ 1048576) → Good g ns) : PySem.W.WalkO q loose XP YP l.row.toRowW d [] (fun f vs => PySem.call f vs) := by
  refine Att.attach_callB hn hdf fun w s₀ s mg mb fa o pm cd doc a us ns G Y ho hd hcd hmg hobj hi hlen hbits hg => ?_
  obtain ⟨K, fd, KX, hb, hF⟩ := F w mg fa _ Y G.T.g hmg
  exact enterG KX G.T.g G.T.b G.T.builtins G.T.nolimit hg hobj hi (Nat.le_trans hlen hn2) room hF hb (law ns hlen hbits)
end DL
end
section
set_option Elab.async false
set_option linter.all false
set_option maxRecDepth 100000
set_option maxHeartbeats 4000000
namespace HQ
open PySem DL L2 He PySem.Spec PyProof.Rows
theorem at_ {l : List Bool} (h : l.all id = true) (i : Nat) {b : Bool} (e : l[i]? = some b) : b = true := List.all_eq_true.mp h b (List.mem_of_getElem? e)
end HQ
namespace LW
open PySem DL L2 He PySem.Spec PyProof.Rows
theorem facts_mk {P : Program} {w : World} {K : PySem.W.Frag} {h : Heap} {mg : Str → Option Value} {fa : Addr} (X : K.In h) (G : h.Ns mainGlobals mg) (hfa : mg "law" = some (.ref fa)) (c : SaysM HQ.hfn HQ.hts HQ.heb w K) :
    ∃ fd : FuncData, (∀ (s : Shared) (u : Value), BindsTo s fd ⟨[u], []⟩ [("_law_script", u)]) ∧ ∀ base : Heap, K.In base → base.Ns mainGlobals mg → FnG P w K mg base 13 fa fd ["_law_script"] (FnD K mg 1 f_law) := by
  have q := c.more
  unfold HQ.heb at q
  obtain ⟨q0, q⟩ := ba q
  obtain ⟨q1, q⟩ := ba q
  obtain ⟨q2, q⟩ := ba q
  obtain ⟨q3, q⟩ := ba q
  have q4 := q
  have d_ : ∀ (i : Nat) {d : DefD} (h : HQ.hfn[i]? = some d := by rfl), ∃ fd, FunD K d.name d.qual d.params d.body d.scope (d.dvs K) (d.kws K) (fAd K d.at_) fd := fun i d h => c.d.def_ i h
  have F__law_draw : HasFn K "_law_draw" s__law_draw := HasFn.of (HQ.at_ q0 0 rfl) (d_ 0 (d := dFn "_law_draw" s__law_draw) rfl)
  have F__law_hand : HasFn K "_law_hand" s__law_hand := HasFn.of (HQ.at_ q0 1 rfl) (d_ 1 (d := dFn "_law_hand" s__law_hand) rfl)
  have F_is_one_of : HasFn K "is_one_of" s_is_one_of := HasFn.of (HQ.at_ q0 2 rfl) (d_ 2 (d := dFn "is_one_of" s_is_one_of) rfl)
  have F_is_name : HasFn K "is_name" s_is_name := HasFn.of (HQ.at_ q0 3 rfl) (d_ 3 (d := dFn "is_name" s_is_name) rfl)
  have F_is_whole : HasFn K "is_whole" s_is_whole := HasFn.of (HQ.at_ q0 4 rfl) (d_ 4 (d := dFn "is_whole" s_is_whole) rfl)
  have F_is_number : HasFn K "is_number" s_is_number := HasFn.of (HQ.at_ q0 5 rfl) (d_ 5 (d := dFn "is_number" s_is_number) rfl)
  have F_is_what : HasFn K "is_what" s_is_what := HasFn.of (HQ.at_ q0 6 rfl) (d_ 6 (d := dFn "is_what" s_is_what) rfl)
  have F_is_many : HasFn K "is_many" s_is_many := HasFn.of (HQ.at_ q0 7 rfl) (d_ 7 (d := dFn "is_many" s_is_many) rfl)
  have F_is_of_kind : HasFn K "is_of_kind" s_is_of_kind := HasFn.of (HQ.at_ q0 8 rfl) (d_ 8 (d := dFn "is_of_kind" s_is_of_kind) rfl)
  have F_is_deed : HasFn K "is_deed" s_is_deed := HasFn.of (HQ.at_ q0 9 rfl) (d_ 9 (d := dFn "is_deed" s_is_deed) rfl)
  have F_look_at_boxes : HasFn K "look_at_boxes" s_look_at_boxes := HasFn.of (HQ.at_ q0 10 rfl) (d_ 10 (d := dFn "look_at_boxes" s_look_at_boxes) rfl)
  have F_look_at_hands : HasFn K "look_at_hands" s_look_at_hands := HasFn.of (HQ.at_ q0 11 rfl) (d_ 11 (d := dFn "look_at_hands" s_look_at_hands) rfl)
  have F_look_at : HasFn K "look_at" s_look_at := HasFn.of (HQ.at_ q0 12 rfl) (d_ 12 (d := dFn "look_at" s_look_at) rfl)
  have F_Machine___init__ : HasMk K "Machine" "Machine.__init__" s_Machine___init__ := HasMk.of (HQ.at_ q0 13 rfl) (HQ.at_ q0 14 rfl) (d_ 13 (d := dMt "Machine" "__init__" "Machine.__init__" s_Machine___init__) rfl)
  have F__law_machine : HasFn K "_law_machine" s__law_machine := HasFn.of (HQ.at_ q0 15 rfl) (d_ 14 (d := dFn "_law_machine" s__law_machine) rfl)
  have F_Walk___init__ : HasMk K "Walk" "Walk.__init__" s_Walk___init__ := HasMk.of (HQ.at_ q0 16 rfl) (HQ.at_ q0 17 rfl) (d_ 15 (d := dMt "Walk" "__init__" "Walk.__init__" s_Walk___init__) rfl)
  have F_first_graph : HasFn K "first_graph" s_first_graph := HasFn.of (HQ.at_ q0 18 rfl) (d_ 16 (d := dFn "first_graph" s_first_graph) rfl)
  have F_count_of : HasFnK K "count_of" s_count_of [("most", V.int 100000)] := HasFnK.of (HQ.at_ q0 19 rfl) (d_ 17 (d := dFk "count_of" s_count_of [("most", Dv.int 100000)]) rfl)
  have F_Goer___init__ : HasMkK K "Goer" "Goer.__init__" s_Goer___init__ [("alike", V.bl false)] := HasMkK.of (HQ.at_ q1 0 rfl) (HQ.at_ q1 1 rfl) (d_ 18 (d := dMk "Goer" "__init__" "Goer.__init__" s_Goer___init__ [("alike", Dv.bl false)]) rfl)
  have F__law_goer : HasFn K "_law_goer" s__law_goer := HasFn.of (HQ.at_ q1 2 rfl) (d_ 19 (d := dFn "_law_goer" s__law_goer) rfl)
  have F_outcomes : HasFn K "outcomes" s_outcomes := HasFn.of (HQ.at_ q1 3 rfl) (d_ 20 (d := dFn "outcomes" s_outcomes) rfl)
  have F_outcome_of : HasFn K "outcome_of" s_outcome_of := HasFn.of (HQ.at_ q1 4 rfl) (d_ 21 (d := dFn "outcome_of" s_outcome_of) rfl)
  have F_turn_ends : HasFn K "turn_ends" s_turn_ends := HasFn.of (HQ.at_ q1 5 rfl) (d_ 22 (d := dFn "turn_ends" s_turn_ends) rfl)
  have F_unlike_sorted : HasFn K "unlike_sorted" s_unlike_sorted := HasFn.of (HQ.at_ q1 6 rfl) (d_ 23 (d := dFn "unlike_sorted" s_unlike_sorted) rfl)
  have F_turn_outcomes : HasFn K "turn_outcomes" s_turn_outcomes := HasFn.of (HQ.at_ q1 7 rfl) (d_ 24 (d := dFn "turn_outcomes" s_turn_outcomes) rfl)
  have F_clash_of : HasFn K "clash_of" s_clash_of := HasFn.of (HQ.at_ q1 8 rfl) (d_ 25 (d := dFn "clash_of" s_clash_of) rfl)
  have F_failing : HasFn K "failing" s_failing := HasFn.of (HQ.at_ q1 9 rfl) (d_ 26 (d := dFn "failing" s_failing) rfl)
  have F_ledger_of : HasFn K "ledger_of" s_ledger_of := HasFn.of (HQ.at_ q1 10 rfl) (d_ 27 (d := dFn "ledger_of" s_ledger_of) rfl)
  have F_picks_of : HasFn K "picks_of" s_picks_of := HasFn.of (HQ.at_ q1 11 rfl) (d_ 28 (d := dFn "picks_of" s_picks_of) rfl)
  have F_paper_of : HasFn K "paper_of" s_paper_of := HasFn.of (HQ.at_ q1 12 rfl) (d_ 29 (d := dFn "paper_of" s_paper_of) rfl)
  have F_is_drawing : HasFn K "is_drawing" s_is_drawing := HasFn.of (HQ.at_ q1 13 rfl) (d_ 30 (d := dFn "is_drawing" s_is_drawing) rfl)
  have F_before : HasFn K "before" s_before := HasFn.of (HQ.at_ q1 14 rfl) (d_ 31 (d := dFn "before" s_before) rfl)
  have F_breach : HasFn K "breach" s_breach := HasFn.of (HQ.at_ q1 15 rfl) (d_ 32 (d := dFn "breach" s_breach) rfl)
  have F_is_graph : HasFn K "is_graph" s_is_graph := HasFn.of (HQ.at_ q1 16 rfl) (d_ 33 (d := dFn "is_graph" s_is_graph) rfl)
  have F_is_run : HasFn K "is_run" s_is_run := HasFn.of (HQ.at_ q1 17 rfl) (d_ 34 (d := dFn "is_run" s_is_run) rfl)
  have F_played : HasFn K "played" s_played := HasFn.of (HQ.at_ q1 18 rfl) (d_ 35 (d := dFn "played" s_played) rfl)
  have F_graph_of : HasFn K "graph_of" s_graph_of := HasFn.of (HQ.at_ q1 19 rfl) (d_ 36 (d := dFn "graph_of" s_graph_of) rfl)
  have F_look_at_graph : HasFn K "look_at_graph" s_look_at_graph := HasFn.of (HQ.at_ q2 0 rfl) (d_ 37 (d := dFn "look_at_graph" s_look_at_graph) rfl)
  have F_run_of : HasFnK K "run_of" s_run_of [("by", V.non)] := HasFnK.of (HQ.at_ q2 1 rfl) (d_ 38 (d := dFk "run_of" s_run_of [("by", Dv.non)]) rfl)
  have F_is_ended : HasFn K "is_ended" s_is_ended := HasFn.of (HQ.at_ q2 2 rfl) (d_ 39 (d := dFn "is_ended" s_is_ended) rfl)
  have F_is_full : HasFn K "is_full" s_is_full := HasFn.of (HQ.at_ q2 3 rfl) (d_ 40 (d := dFn "is_full" s_is_full) rfl)
  have F_next_graph : HasFn K "next_graph" s_next_graph := HasFn.of (HQ.at_ q2 4 rfl) (d_ 41 (d := dFn "next_graph" s_next_graph) rfl)
  have F_clashing : HasFn K "clashing" s_clashing := HasFn.of (HQ.at_ q2 5 rfl) (d_ 42 (d := dFn "clashing" s_clashing) rfl)
  have F_is_ledger : HasFn K "is_ledger" s_is_ledger := HasFn.of (HQ.at_ q2 6 rfl) (d_ 43 (d := dFn "is_ledger" s_is_ledger) rfl)
  have F_by_picks : HasFn K "by_picks" s_by_picks := HasFn.of (HQ.at_ q2 7 rfl) (d_ 44 (d := dFn "by_picks" s_by_picks) rfl)
  have F_is_paper : HasFn K "is_paper" s_is_paper := HasFn.of (HQ.at_ q2 8 rfl) (d_ 45 (d := dFn "is_paper" s_is_paper) rfl)
  have F_state_of : HasFn K "state_of" s_state_of := HasFn.of (HQ.at_ q2 9 rfl) (d_ 46 (d := dFn "state_of" s_state_of) rfl)
  have F__law_is_refused : HasFn K "_law_is_refused" s__law_is_refused := HasFn.of (HQ.at_ q2 10 rfl) (d_ 47 (d := dFn "_law_is_refused" s__law_is_refused) rfl)
  have F__law_odd_ones : HasFn K "_law_odd_ones" s__law_odd_ones := HasFn.of (HQ.at_ q2 11 rfl) (d_ 48 (d := dFn "_law_odd_ones" s__law_odd_ones) rfl)
  have F_law : HasFn K "law" s_law := HasFn.of (HQ.at_ q2 12 rfl) (d_ 49 (d := dFn "law" s_law) rfl)
  have N_ValueError : HasNo K "ValueError" := HasNo.of (HQ.at_ q2 13 rfl)
  have N_all : HasNo K "all" := HasNo.of (HQ.at_ q2 14 rfl)
  have N_bool : HasNo K "bool" := HasNo.of (HQ.at_ q2 15 rfl)
  have N_enumerate : HasNo K "enumerate" := HasNo.of (HQ.at_ q2 16 rfl)
  have N_int : HasNo K "int" := HasNo.of (HQ.at_ q2 17 rfl)
  have N_isinstance : HasNo K "isinstance" := HasNo.of (HQ.at_ q2 18 rfl)
  have N_len : HasNo K "len" := HasNo.of (HQ.at_ q2 19 rfl)
  have N_list : HasNo K "list" := HasNo.of (HQ.at_ q3 0 rfl)
  have N_repr : HasNo K "repr" := HasNo.of (HQ.at_ q3 1 rfl)
  have N_str : HasNo K "str" := HasNo.of (HQ.at_ q3 2 rfl)
  have N_sum : HasNo K "sum" := HasNo.of (HQ.at_ q3 3 rfl)
  have N_tuple : HasNo K "tuple" := HasNo.of (HQ.at_ q3 4 rfl)
  have N_zip : HasNo K "zip" := HasNo.of (HQ.at_ q3 5 rfl)
  have G_LETTERS : HasD K "LETTERS" D_LETTERS := HasD.of (HQ.at_ q3 6 rfl)
  have G_LONGEST : HasD K "LONGEST" D_LONGEST := HasD.of (HQ.at_ q3 7 rfl)
  have G_MOST_BOXES : HasD K "MOST_BOXES" D_MOST_BOXES := HasD.of (HQ.at_ q3 8 rfl)
  have G_MOST_DEEDS : HasD K "MOST_DEEDS" D_MOST_DEEDS := HasD.of (HQ.at_ q3 9 rfl)
  have G_MOST_HANDS : HasD K "MOST_HANDS" D_MOST_HANDS := HasD.of (HQ.at_ q3 10 rfl)
  have G_MOST_NUMBER : HasD K "MOST_NUMBER" D_MOST_NUMBER := HasD.of (HQ.at_ q3 11 rfl)
  have G_MOST_SKIPPED : HasD K "MOST_SKIPPED" D_MOST_SKIPPED := HasD.of (HQ.at_ q3 12 rfl)
  have G_MOST_TOGETHER : HasD K "MOST_TOGETHER" D_MOST_TOGETHER := HasD.of (HQ.at_ q3 13 rfl)
  have T_FORMS : HasTab K w "FORMS" D_FORMS := HasTab.of (HQ.at_ q3 14 rfl) (c.tab 0 rfl)
  have T_KINDS : HasTab K w "KINDS" D_KINDS := HasTab.of (HQ.at_ q3 15 rfl) (c.tab 1 rfl)
  have T_WORDS : HasTab K w "WORDS" D_WORDS := HasTab.of (HQ.at_ q3 16 rfl) (c.tab 2 rfl)
  have BI_ValueError : HasBI K "ValueError" "ValueError.__init__" := HasBI.of (HQ.at_ q3 17 rfl)
  have Y_NoProgram : HasE0 K "NoProgram" "NoProgram.__init__" i_NoProgram ["part", "hand", "number"] "ValueError" "ValueError.__init__" := HasE0.of PySem.F.excBase_ValueError PySem.F.store_ValueError (HQ.at_ q3 18 rfl) (d_ 50 (d := dMt "NoProgram" "__init__" "NoProgram.__init__" i_NoProgram) rfl)
  have CN__law_goer : HasCls K "_law_goer" := HasCls.of (HQ.at_ q1 2 rfl)
  have CN__law_machine : HasCls K "_law_machine" := HasCls.of (HQ.at_ q0 15 rfl)
  have CN_before : HasCls K "before" := HasCls.of (HQ.at_ q1 14 rfl)
  have CN_breach : HasCls K "breach" := HasCls.of (HQ.at_ q1 15 rfl)
  have CN_by_picks : HasCls K "by_picks" := HasCls.of (HQ.at_ q2 7 rfl)
  have CN_clash_of : HasCls K "clash_of" := HasCls.of (HQ.at_ q1 8 rfl)
  have CN_clashing : HasCls K "clashing" := HasCls.of (HQ.at_ q2 5 rfl)
  have CN_count_of : HasCls K "count_of" := HasCls.of (HQ.at_ q0 19 rfl)
  have CN_failing : HasCls K "failing" := HasCls.of (HQ.at_ q1 9 rfl)
  have CN_first_graph : HasCls K "first_graph" := HasCls.of (HQ.at_ q0 18 rfl)
  have CN_graph_of : HasCls K "graph_of" := HasCls.of (HQ.at_ q1 19 rfl)
  have CN_is_drawing : HasCls K "is_drawing" := HasCls.of (HQ.at_ q1 13 rfl)
  have CN_is_ended : HasCls K "is_ended" := HasCls.of (HQ.at_ q2 2 rfl)
  have CN_is_full : HasCls K "is_full" := HasCls.of (HQ.at_ q2 3 rfl)
  have CN_is_graph : HasCls K "is_graph" := HasCls.of (HQ.at_ q1 16 rfl)
  have CN_is_ledger : HasCls K "is_ledger" := HasCls.of (HQ.at_ q2 6 rfl)
  have CN_is_paper : HasCls K "is_paper" := HasCls.of (HQ.at_ q2 8 rfl)
  have CN_is_run : HasCls K "is_run" := HasCls.of (HQ.at_ q1 17 rfl)
  have CN_ledger_of : HasCls K "ledger_of" := HasCls.of (HQ.at_ q1 10 rfl)
  have CN_next_graph : HasCls K "next_graph" := HasCls.of (HQ.at_ q2 4 rfl)
  have CN_outcome_of : HasCls K "outcome_of" := HasCls.of (HQ.at_ q1 4 rfl)
  have CN_outcomes : HasCls K "outcomes" := HasCls.of (HQ.at_ q1 3 rfl)
  have CN_paper_of : HasCls K "paper_of" := HasCls.of (HQ.at_ q1 12 rfl)
  have CN_picks_of : HasCls K "picks_of" := HasCls.of (HQ.at_ q1 11 rfl)
  have CN_run_of : HasCls K "run_of" := HasCls.of (HQ.at_ q2 1 rfl)
  have CN_state_of : HasCls K "state_of" := HasCls.of (HQ.at_ q2 9 rfl)
  have CN_turn_outcomes : HasCls K "turn_outcomes" := HasCls.of (HQ.at_ q1 7 rfl)
  have CT_NoProgram : HasExm K "NoProgram" := HasExm.of (HQ.at_ q3 19 rfl)
  have XF_hand_NoProgram : XfOne K "NoProgram" "hand" := XfOne.of (HQ.at_ q4 0 rfl)
  have XF_number_NoProgram : XfOne K "NoProgram" "number" := XfOne.of (HQ.at_ q4 1 rfl)
  have XF_part_NoProgram : XfOne K "NoProgram" "part" := XfOne.of (HQ.at_ q4 2 rfl)
  have EN_NoProgram : ExcN K "NoProgram" := ExcN.of (HQ.at_ q4 3 rfl)
  have ISA_0 : IsaK K "NoProgram" (.ty "ValueError") true := IsaK.ty_of (HQ.at_ q4 4 rfl)
  have CF_engine_Walk : ClsF K "Walk" "engine" := ClsF.of (HQ.at_ q0 16 rfl) (HQ.at_ q4 5 rfl) (HQ.at_ q4 6 rfl)
  exact all_mk X G hfa F__law_draw F__law_hand F_is_one_of F_is_name F_is_whole F_is_number F_is_what F_is_many F_is_of_kind F_is_deed F_look_at_boxes F_look_at_hands F_look_at F_Machine___init__ F__law_machine F_Walk___init__ F_first_graph F_count_of F_Goer___init__ F__law_goer F_outcomes F_outcome_of F_turn_ends F_unlike_sorted F_turn_outcomes F_clash_of F_failing F_ledger_of F_picks_of F_paper_of F_is_drawing F_before F_breach F_is_graph F_is_run F_played F_graph_of F_look_at_graph F_run_of F_is_ended F_is_full F_next_graph F_clashing F_is_ledger F_by_picks F_is_paper F_state_of F__law_is_refused F__law_odd_ones F_law N_ValueError N_all N_bool N_enumerate N_int N_isinstance N_len N_list N_repr N_str N_sum N_tuple N_zip G_LETTERS G_LONGEST G_MOST_BOXES G_MOST_DEEDS G_MOST_HANDS G_MOST_NUMBER G_MOST_SKIPPED G_MOST_TOGETHER T_FORMS T_KINDS T_WORDS BI_ValueError Y_NoProgram CN__law_goer CN__law_machine CN_before CN_breach CN_by_picks CN_clash_of CN_clashing CN_count_of CN_failing CN_first_graph CN_graph_of CN_is_drawing CN_is_ended CN_is_full CN_is_graph CN_is_ledger CN_is_paper CN_is_run CN_ledger_of CN_next_graph CN_outcome_of CN_outcomes CN_paper_of CN_picks_of CN_run_of CN_state_of CN_turn_outcomes CT_NoProgram XF_hand_NoProgram XF_number_NoProgram XF_part_NoProgram EN_NoProgram ISA_0 CF_engine_Walk
theorem run_ (w : World) : HandSHeadRun.RunEq HQ.HRow HQ.hview HQ.hkM (obM HQ.hxs HQ.hfn HQ.hts HQ.heb) 10500 HQ.names w :=
  PySem.W.byRow2 "special-get-raises" (fun w => run_two (HQ.rx_false w) (HQ.ry_false w)) (fun w => run_two (HQ.rx_true w) (HQ.ry_true w)) w
end LW
end
section
set_option maxRecDepth 100000
set_option linter.all false
open PySem L2 DL
namespace LW
/-! ### what is drawn -/
def pT (a b : Int) : T := .lst [.d (.int a), .d (.int b)]
def PoolOk (b : Int) : Prop := 0 ≤ b ∧ b < 2147483647
theorem atI_nat {α : Type} (xs : List α) (i : Nat) {x : α} (h : xs[i]? = some x) : atI xs (i : Int) = some x := by
  have hlt := (List.getElem?_eq_some_iff.mp h).1
  have e : ixN xs.length (i : Int) = some i := by
    unfold ixN
    simp
    omega
  unfold atI
  rw [e]
  exact h
theorem at_in {α : Type} {l : List α} {r : Int} (h0 : 0 ≤ r) (h1 : r < l.length) : ∃ x ∈ l, atI l r = some x := by
  obtain ⟨k, rfl⟩ : ∃ k : Nat, r = k := ⟨r.toNat, by omega⟩
  have hk : k < l.length := by omega
  exact ⟨l[k], List.getElem_mem hk, atI_nat l k (List.getElem?_eq_getElem hk)⟩
theorem t_draw (a b n : Int) (hb : PoolOk b) (h0 : 0 < n) (h1 : n < 1073741824) :
    ∃ r a' b', f__law_draw [pT a b, .d (.int n)] = .ok (.d (.int r)) [some (pT a' b'), some (.d (.int n))] ∧ 0 ≤ r ∧ r < n ∧ PoolOk b' := by
  obtain ⟨b0, b1⟩ := hb
  have m1 : cMod a n = true := by simp [cMod, h0]
  have d1 : cDiv a n = true := by simp [cDiv, h0, h1]
  have ix0 : ∀ u v : T, atI [u, v] 0 = some u := fun u v => rfl
  have ix1 : ∀ u v : T, atI [u, v] 1 = some v := fun u v => rfl
  have n0 : ixN 2 0 = some 0 := rfl
  have n1 : ixN 2 1 = some 1 := rfl
  by_cases ha : 0 < a
  · refine ⟨a % n, a / n, b, ?_, Int.emod_nonneg _ (by omega), Int.emod_lt_of_pos _ h0, b0, b1⟩
    have ga : decide (0 < a) = true := decide_eq_true ha
    simp [f__law_draw, b__law_draw, dfn, mseq, sif, sret, sset, sdrop, sasg, dandV, dorV, dnotV, dand, dor, dnot, dval, dop, dcallb, dcons, dget, mret, mno, mbind, mopt, gIsi, isT, dbackT, restore, dchain, chainMid, chainRest, onD, pLe2, pLt, pGt, pGe, keepm, dlst, dtup, mkLst, mkTup, allD, short, dcall, dcallF, mset, pT, dixO, dhas, dreadO, tItem, ix0, ix1, ga, pMod, pDiv, pII, m1, d1, gput, dput, tPut, n0, n1]
  · have ga : decide (0 < a) = false := decide_eq_false ha
    have c1 : cMul b 48271 = true := by
      unfold cMul
      rw [Bool.or_eq_true, Bool.or_eq_true]
      exact .inr (.inr (by decide))
    have m2 : ∀ i : Int, cMod i 2147483647 = true := fun i => by simp [cMod, cDiv]
    have m3 : ∀ i : Int, cMod i 2147483629 = true := fun i => by simp [cMod, cDiv]
    have m4 : ∀ i : Int, cMod i n = true := fun i => by simp [cMod, h0]
    have d2 : ∀ i : Int, cDiv i 64 = true := fun i => by simp [cMod, cDiv]
    have g0 : 0 ≤ (b * 48271 + 11) % 2147483647 := Int.emod_nonneg _ (by omega)
    have g1 : (b * 48271 + 11) % 2147483647 < 2147483647 := Int.emod_lt_of_pos _ (by omega)
    have c2 : ∀ x : Int, 0 ≤ x → x < 2147483647 → cMul x x = true := fun x z0 z1 => by
      unfold cMul
      rw [Bool.or_eq_true, Bool.or_eq_true]
      exact .inr (.inl (decide_eq_true ⟨by omega, by omega⟩))
    have c3 := c2 _ g0 g1
    refine ⟨((b * 48271 + 11) % 2147483647 * ((b * 48271 + 11) % 2147483647)) % 2147483629 / 64 % n, a, (b * 48271 + 11) % 2147483647, ?_, ?_, ?_, g0, g1⟩
    · simp [f__law_draw, b__law_draw, dfn, mseq, sif, sret, sset, sdrop, sasg, dandV, dorV, dnotV, dand, dor, dnot, dval, dop, dcallb, dcons, dget, mret, mno, mbind, mopt, gIsi, isT, dbackT, restore, dchain, chainMid, chainRest, onD, pLe2, pLt, pGt, pGe, keepm, dlst, dtup, mkLst, mkTup, allD, short, dcall, dcallF, mset, pT, dixO, dhas, dreadO, tItem, ix0, ix1, ga, pMod, pDiv, pMul, pAdd, pII, c1, m2, m3, m4, d2, c3, gput, dput, tPut, n0, n1]
    · exact Int.emod_nonneg _ (by omega)
    · exact Int.emod_lt_of_pos _ h0
theorem mul_small (i j : Int) (h : -(2 ^ 64) < j ∧ j < 2 ^ 64) : cMul i j = true := by
  unfold cMul
  rw [Bool.or_eq_true, Bool.or_eq_true]
  exact .inr (.inr (decide_eq_true h))
theorem mul_small' (i j : Int) (h : -(2 ^ 64) < i ∧ i < 2 ^ 64) : cMul i j = true := by
  unfold cMul
  rw [Bool.or_eq_true, Bool.or_eq_true]
  exact .inr (.inl (decide_eq_true h))
theorem t_hand (ns : List Int) (k : Nat) (hk : k ≤ 1000) (hn : ns.length ≤ 1000) : ∃ a b, f__law_hand [.scr ns, .d (.int k)] = .ok (pT a b) [some (.scr ns), some (.d (.int k))] ∧ PoolOk b := by
  have hl : ∀ lo hi : Option Int, (cutG ns lo hi).length + 1 ≤ lim := fun lo hi => by
    have := cutG_len ns lo hi
    have : (1001 : Nat) ≤ lim := by decide
    omega
  have hz : ∃ z, atI ((cutG ns (some (k : Int)) (some ((k : Int) + 1))).map PyData.int ++ [.int 0]) 0 = some (.int z) := by
    cases cutG ns (some (k : Int)) (some ((k : Int) + 1)) with
    | nil => exact ⟨0, rfl⟩
    | cons c l => exact ⟨c, atI_nat _ 0 rfl⟩
  obtain ⟨z, hz⟩ := hz
  have h1 := hl (some (k : Int)) (some ((k : Int) + 1))
  have m1 : cMod z 2147483647 = true := by simp [cMod]
  have m2 : ∀ i : Int, cMod i 2147483629 = true := fun i => by simp [cMod]
  have c1 : cMul 7919 (k : Int) = true := mul_small' _ _ (by decide)
  have c2 : ∀ i : Int, cMul i 48271 = true := fun i => mul_small _ _ (by decide)
  have c3 : cMul (if decide ((1000000000000000000 : Int) ≤ z) = true then 1 else 0) z = true := mul_small' _ _ (by split <;> decide)
  have p1 : cPow 10 18 = true := by decide
  have hlim : lim = 100000 := rfl
  rw [hlim] at h1
  refine ⟨(if decide ((1000000000000000000 : Int) ≤ z) = true then 1 else 0) * z, (z % 2147483647 + 7919 * k + 1) * 48271 % 2147483629, ?_, Int.emod_nonneg _ (by omega), by have := Int.emod_lt_of_pos ((z % 2147483647 + 7919 * k + 1) * 48271) (show (0 : Int) < 2147483629 by omega); omega⟩
  simp only [decide_eq_true_eq] at c3 ⊢
  simp [f__law_hand, b__law_hand, dfn, mseq, sif, sret, sset, sdrop, sasg, dandV, dorV, dnotV, dand, dor, dnot, dval, dop, dcallb, dcons, dget, mret, mno, mbind, mopt, gIsi, isT, dbackT, restore, dchain, chainMid, chainRest, onD, pLe2, pLt, pGt, pGe, keepm, dlst, dtup, mkLst, mkTup, allD, short, dcall, dcallF, mset, dslice, dpart, tSlice, pAdd, h1, pIx, hz, pMod, pMul, pII, m1, m2, c1, c2, hlim, dlstO, pPow, p1, gInt, c3, pT]
end LW
end
section
set_option maxRecDepth 100000
set_option linter.all false
open PySem L2 DL
namespace LW
def od0 : PyData := .none
def du0 : PyData := .tuple [.str "program", .none, .none]
def od1 : PyData := .list [.list [.str "x"], .list [.list []]]
def du1 : PyData := .tuple [.str "program", .none, .none]
def od2 : PyData := .tuple [.list [.str "x"], .list [.list []], .int 0]
def du2 : PyData := .tuple [.str "program", .none, .none]
def od3 : PyData := .tuple [.list [], .list [.list []]]
def du3 : PyData := .tuple [.str "boxes", .none, .none]
def od4 : PyData := .tuple [.list [.str "y", .str "x"], .list [.list []]]
def du4 : PyData := .tuple [.str "boxes", .none, .int 1]
def od5 : PyData := .tuple [.list [.str "x", .str "x"], .list [.list []]]
def du5 : PyData := .tuple [.str "boxes", .none, .int 1]
def od6 : PyData := .tuple [.list [.str "X"], .list [.list []]]
def du6 : PyData := .tuple [.str "boxes", .none, .int 0]
def od7 : PyData := .tuple [.tuple [.str "x"], .list [.list []]]
def du7 : PyData := .tuple [.str "boxes", .none, .none]
def od8 : PyData := .tuple [.list [.str "x"], .list []]
def du8 : PyData := .tuple [.str "hands", .none, .none]
def od9 : PyData := .tuple [.list [.str "x"], .list [.list [], .list [], .list [], .list [], .list []]]
def du9 : PyData := .tuple [.str "hands", .none, .none]
def od10 : PyData := .tuple [.list [.str "x"], .list [.list [], .tuple []]]
def du10 : PyData := .tuple [.str "hands", .int 1, .none]
def od11 : PyData := .tuple [.list [.str "x"], .list [.list [.tuple [.str "read", .str "r", .str "x", .str "loose"], .tuple [.str "read", .str "r", .str "x", .str "loose"], .tuple [.str "read", .str "r", .str "x", .str "loose"], .tuple [.str "read", .str "r", .str "x", .str "loose"], .tuple [.str "read", .str "r", .str "x", .str "loose"], .tuple [.str "read", .str "r", .str "x", .str "loose"], .tuple [.str "read", .str "r", .str "x", .str "loose"], .tuple [.str "read", .str "r", .str "x", .str "loose"], .tuple [.str "read", .str "r", .str "x", .str "loose"]]]]
def du11 : PyData := .tuple [.str "hands", .int 0, .none]
def od12 : PyData := .tuple [.list [.str "x"], .list [.list [.tuple [.str "read", .str "r", .str "x", .str "loose"], .tuple [.str "read", .str "r", .str "x", .str "loose"], .tuple [.str "read", .str "r", .str "x", .str "loose"], .tuple [.str "read", .str "r", .str "x", .str "loose"], .tuple [.str "read", .str "r", .str "x", .str "loose"], .tuple [.str "read", .str "r", .str "x", .str "loose"], .tuple [.str "read", .str "r", .str "x", .str "loose"], .tuple [.str "read", .str "r", .str "x", .str "loose"]], .list [.tuple [.str "read", .str "r", .str "x", .str "loose"], .tuple [.str "read", .str "r", .str "x", .str "loose"], .tuple [.str "read", .str "r", .str "x", .str "loose"], .tuple [.str "read", .str "r", .str "x", .str "loose"], .tuple [.str "read", .str "r", .str "x", .str "loose"], .tuple [.str "read", .str "r", .str "x", .str "loose"], .tuple [.str "read", .str "r", .str "x", .str "loose"], .tuple [.str "read", .str "r", .str "x", .str "loose"]], .list [.tuple [.str "read", .str "r", .str "x", .str "loose"]]]]
def du12 : PyData := .tuple [.str "deeds", .none, .none]
def od13 : PyData := .tuple [.list [.str "x"], .list [.list [], .list [.tuple [.str "read", .str "r", .str "x", .str "loose"], .tuple [.str "read", .str "r", .str "y", .str "loose"]]]]
def du13 : PyData := .tuple [.str "deeds", .int 1, .int 1]
def od14 : PyData := .tuple [.list [.str "x"], .list [.list [.tuple [.str "read", .str "r", .str "x"]]]]
def du14 : PyData := .tuple [.str "deeds", .int 0, .int 0]
def od15 : PyData := .int 0
def du15 : PyData := .tuple [.str "program", .none, .none]
def oddL : List PyData := [.tuple [od0, du0], .tuple [od1, du1], .tuple [od2, du2], .tuple [od3, du3], .tuple [od4, du4], .tuple [od5, du5], .tuple [od6, du6], .tuple [od7, du7], .tuple [od8, du8], .tuple [od9, du9], .tuple [od10, du10], .tuple [od11, du11], .tuple [od12, du12], .tuple [od13, du13], .tuple [od14, du14], .tuple [od15, du15]]
theorem t_odd : f__law_odd_ones [] = .ok (.d (.list oddL)) [] := by kernel_rfl
theorem odd_of {P : PyData → PyData → Prop} (h : P od0 du0 ∧ P od1 du1 ∧ P od2 du2 ∧ P od3 du3 ∧ P od4 du4 ∧ P od5 du5 ∧ P od6 du6 ∧ P od7 du7 ∧ P od8 du8 ∧ P od9 du9 ∧ P od10 du10 ∧ P od11 du11 ∧ P od12 du12 ∧ P od13 du13 ∧ P od14 du14 ∧ P od15 du15) : ∀ q ∈ oddL, ∃ x d, q = .tuple [x, d] ∧ P x d := by
  obtain ⟨h0, h1, h2, h3, h4, h5, h6, h7, h8, h9, h10, h11, h12, h13, h14, h15⟩ := h
  intro q m
  simp only [oddL, List.mem_cons, List.not_mem_nil, or_false] at m
  rcases m with rfl | rfl | rfl | rfl | rfl | rfl | rfl | rfl | rfl | rfl | rfl | rfl | rfl | rfl | rfl | rfl
  · exact ⟨_, _, rfl, h0⟩
  · exact ⟨_, _, rfl, h1⟩
  · exact ⟨_, _, rfl, h2⟩
  · exact ⟨_, _, rfl, h3⟩
  · exact ⟨_, _, rfl, h4⟩
  · exact ⟨_, _, rfl, h5⟩
  · exact ⟨_, _, rfl, h6⟩
  · exact ⟨_, _, rfl, h7⟩
  · exact ⟨_, _, rfl, h8⟩
  · exact ⟨_, _, rfl, h9⟩
  · exact ⟨_, _, rfl, h10⟩
  · exact ⟨_, _, rfl, h11⟩
  · exact ⟨_, _, rfl, h12⟩
  · exact ⟨_, _, rfl, h13⟩
  · exact ⟨_, _, rfl, h14⟩
  · exact ⟨_, _, rfl, h15⟩
def Ref1 (n : Str) (x d : PyData) : Prop := f__law_is_refused [.fn n, .d (.list [x]), .d d] = .ok (.d (.bool true)) [some (.fn n), some (.d (.list [x])), some (.d d)]
def Ref2 (n : Str) (x d : PyData) : Prop := ∀ o : PyData, f__law_is_refused [.fn n, .d (.list [x, o]), .d d] = .ok (.d (.bool true)) [some (.fn n), some (.d (.list [x, o])), some (.d d)]
def Ref3 (n : Str) (x d : PyData) : Prop := ∀ o p : PyData, f__law_is_refused [.fn n, .d (.list [x, o, p]), .d d] = .ok (.d (.bool true)) [some (.fn n), some (.d (.list [x, o, p])), some (.d d)]
theorem r__law_machine : ∀ q ∈ oddL, ∃ x d, q = .tuple [x, d] ∧ Ref1 "_law_machine" x d := odd_of ⟨by unfold Ref1; kernel_rfl, by unfold Ref1; kernel_rfl, by unfold Ref1; kernel_rfl, by unfold Ref1; kernel_rfl, by unfold Ref1; kernel_rfl, by unfold Ref1; kernel_rfl, by unfold Ref1; kernel_rfl, by unfold Ref1; kernel_rfl, by unfold Ref1; kernel_rfl, by unfold Ref1; kernel_rfl, by unfold Ref1; kernel_rfl, by unfold Ref1; kernel_rfl, by unfold Ref1; kernel_rfl, by unfold Ref1; kernel_rfl, by unfold Ref1; kernel_rfl, by unfold Ref1; kernel_rfl⟩
theorem r_first_graph : ∀ q ∈ oddL, ∃ x d, q = .tuple [x, d] ∧ Ref1 "first_graph" x d := odd_of ⟨by unfold Ref1; kernel_rfl, by unfold Ref1; kernel_rfl, by unfold Ref1; kernel_rfl, by unfold Ref1; kernel_rfl, by unfold Ref1; kernel_rfl, by unfold Ref1; kernel_rfl, by unfold Ref1; kernel_rfl, by unfold Ref1; kernel_rfl, by unfold Ref1; kernel_rfl, by unfold Ref1; kernel_rfl, by unfold Ref1; kernel_rfl, by unfold Ref1; kernel_rfl, by unfold Ref1; kernel_rfl, by unfold Ref1; kernel_rfl, by unfold Ref1; kernel_rfl, by unfold Ref1; kernel_rfl⟩
theorem r_count_of : ∀ q ∈ oddL, ∃ x d, q = .tuple [x, d] ∧ Ref1 "count_of" x d := odd_of ⟨by unfold Ref1; kernel_rfl, by unfold Ref1; kernel_rfl, by unfold Ref1; kernel_rfl, by unfold Ref1; kernel_rfl, by unfold Ref1; kernel_rfl, by unfold Ref1; kernel_rfl, by unfold Ref1; kernel_rfl, by unfold Ref1; kernel_rfl, by unfold Ref1; kernel_rfl, by unfold Ref1; kernel_rfl, by unfold Ref1; kernel_rfl, by unfold Ref1; kernel_rfl, by unfold Ref1; kernel_rfl, by unfold Ref1; kernel_rfl, by unfold Ref1; kernel_rfl, by unfold Ref1; kernel_rfl⟩
theorem r__law_goer : ∀ q ∈ oddL, ∃ x d, q = .tuple [x, d] ∧ Ref1 "_law_goer" x d := odd_of ⟨by unfold Ref1; kernel_rfl, by unfold Ref1; kernel_rfl, by unfold Ref1; kernel_rfl, by unfold Ref1; kernel_rfl, by unfold Ref1; kernel_rfl, by unfold Ref1; kernel_rfl, by unfold Ref1; kernel_rfl, by unfold Ref1; kernel_rfl, by unfold Ref1; kernel_rfl, by unfold Ref1; kernel_rfl, by unfold Ref1; kernel_rfl, by unfold Ref1; kernel_rfl, by unfold Ref1; kernel_rfl, by unfold Ref1; kernel_rfl, by unfold Ref1; kernel_rfl, by unfold Ref1; kernel_rfl⟩
theorem r_outcomes : ∀ q ∈ oddL, ∃ x d, q = .tuple [x, d] ∧ Ref1 "outcomes" x d := odd_of ⟨by unfold Ref1; kernel_rfl, by unfold Ref1; kernel_rfl, by unfold Ref1; kernel_rfl, by unfold Ref1; kernel_rfl, by unfold Ref1; kernel_rfl, by unfold Ref1; kernel_rfl, by unfold Ref1; kernel_rfl, by unfold Ref1; kernel_rfl, by unfold Ref1; kernel_rfl, by unfold Ref1; kernel_rfl, by unfold Ref1; kernel_rfl, by unfold Ref1; kernel_rfl, by unfold Ref1; kernel_rfl, by unfold Ref1; kernel_rfl, by unfold Ref1; kernel_rfl, by unfold Ref1; kernel_rfl⟩
theorem r_turn_outcomes : ∀ q ∈ oddL, ∃ x d, q = .tuple [x, d] ∧ Ref1 "turn_outcomes" x d := odd_of ⟨by unfold Ref1; kernel_rfl, by unfold Ref1; kernel_rfl, by unfold Ref1; kernel_rfl, by unfold Ref1; kernel_rfl, by unfold Ref1; kernel_rfl, by unfold Ref1; kernel_rfl, by unfold Ref1; kernel_rfl, by unfold Ref1; kernel_rfl, by unfold Ref1; kernel_rfl, by unfold Ref1; kernel_rfl, by unfold Ref1; kernel_rfl, by unfold Ref1; kernel_rfl, by unfold Ref1; kernel_rfl, by unfold Ref1; kernel_rfl, by unfold Ref1; kernel_rfl, by unfold Ref1; kernel_rfl⟩
theorem r_clash_of : ∀ q ∈ oddL, ∃ x d, q = .tuple [x, d] ∧ Ref1 "clash_of" x d := odd_of ⟨by unfold Ref1; kernel_rfl, by unfold Ref1; kernel_rfl, by unfold Ref1; kernel_rfl, by unfold Ref1; kernel_rfl, by unfold Ref1; kernel_rfl, by unfold Ref1; kernel_rfl, by unfold Ref1; kernel_rfl, by unfold Ref1; kernel_rfl, by unfold Ref1; kernel_rfl, by unfold Ref1; kernel_rfl, by unfold Ref1; kernel_rfl, by unfold Ref1; kernel_rfl, by unfold Ref1; kernel_rfl, by unfold Ref1; kernel_rfl, by unfold Ref1; kernel_rfl, by unfold Ref1; kernel_rfl⟩
theorem r_failing : ∀ q ∈ oddL, ∃ x d, q = .tuple [x, d] ∧ Ref1 "failing" x d := odd_of ⟨by unfold Ref1; kernel_rfl, by unfold Ref1; kernel_rfl, by unfold Ref1; kernel_rfl, by unfold Ref1; kernel_rfl, by unfold Ref1; kernel_rfl, by unfold Ref1; kernel_rfl, by unfold Ref1; kernel_rfl, by unfold Ref1; kernel_rfl, by unfold Ref1; kernel_rfl, by unfold Ref1; kernel_rfl, by unfold Ref1; kernel_rfl, by unfold Ref1; kernel_rfl, by unfold Ref1; kernel_rfl, by unfold Ref1; kernel_rfl, by unfold Ref1; kernel_rfl, by unfold Ref1; kernel_rfl⟩
theorem r_ledger_of : ∀ q ∈ oddL, ∃ x d, q = .tuple [x, d] ∧ Ref1 "ledger_of" x d := odd_of ⟨by unfold Ref1; kernel_rfl, by unfold Ref1; kernel_rfl, by unfold Ref1; kernel_rfl, by unfold Ref1; kernel_rfl, by unfold Ref1; kernel_rfl, by unfold Ref1; kernel_rfl, by unfold Ref1; kernel_rfl, by unfold Ref1; kernel_rfl, by unfold Ref1; kernel_rfl, by unfold Ref1; kernel_rfl, by unfold Ref1; kernel_rfl, by unfold Ref1; kernel_rfl, by unfold Ref1; kernel_rfl, by unfold Ref1; kernel_rfl, by unfold Ref1; kernel_rfl, by unfold Ref1; kernel_rfl⟩
theorem r_picks_of : ∀ q ∈ oddL, ∃ x d, q = .tuple [x, d] ∧ Ref1 "picks_of" x d := odd_of ⟨by unfold Ref1; kernel_rfl, by unfold Ref1; kernel_rfl, by unfold Ref1; kernel_rfl, by unfold Ref1; kernel_rfl, by unfold Ref1; kernel_rfl, by unfold Ref1; kernel_rfl, by unfold Ref1; kernel_rfl, by unfold Ref1; kernel_rfl, by unfold Ref1; kernel_rfl, by unfold Ref1; kernel_rfl, by unfold Ref1; kernel_rfl, by unfold Ref1; kernel_rfl, by unfold Ref1; kernel_rfl, by unfold Ref1; kernel_rfl, by unfold Ref1; kernel_rfl, by unfold Ref1; kernel_rfl⟩
theorem r_paper_of : ∀ q ∈ oddL, ∃ x d, q = .tuple [x, d] ∧ Ref1 "paper_of" x d := odd_of ⟨by unfold Ref1; kernel_rfl, by unfold Ref1; kernel_rfl, by unfold Ref1; kernel_rfl, by unfold Ref1; kernel_rfl, by unfold Ref1; kernel_rfl, by unfold Ref1; kernel_rfl, by unfold Ref1; kernel_rfl, by unfold Ref1; kernel_rfl, by unfold Ref1; kernel_rfl, by unfold Ref1; kernel_rfl, by unfold Ref1; kernel_rfl, by unfold Ref1; kernel_rfl, by unfold Ref1; kernel_rfl, by unfold Ref1; kernel_rfl, by unfold Ref1; kernel_rfl, by unfold Ref1; kernel_rfl⟩
theorem r_is_drawing : ∀ q ∈ oddL, ∃ x d, q = .tuple [x, d] ∧ Ref2 "is_drawing" x d := odd_of ⟨by intro o; kernel_rfl, by intro o; kernel_rfl, by intro o; kernel_rfl, by intro o; kernel_rfl, by intro o; kernel_rfl, by intro o; kernel_rfl, by intro o; kernel_rfl, by intro o; kernel_rfl, by intro o; kernel_rfl, by intro o; kernel_rfl, by intro o; kernel_rfl, by intro o; kernel_rfl, by intro o; kernel_rfl, by intro o; kernel_rfl, by intro o; kernel_rfl, by intro o; kernel_rfl⟩
theorem r_before : ∀ q ∈ oddL, ∃ x d, q = .tuple [x, d] ∧ Ref2 "before" x d := odd_of ⟨by intro o; kernel_rfl, by intro o; kernel_rfl, by intro o; kernel_rfl, by intro o; kernel_rfl, by intro o; kernel_rfl, by intro o; kernel_rfl, by intro o; kernel_rfl, by intro o; kernel_rfl, by intro o; kernel_rfl, by intro o; kernel_rfl, by intro o; kernel_rfl, by intro o; kernel_rfl, by intro o; kernel_rfl, by intro o; kernel_rfl, by intro o; kernel_rfl, by intro o; kernel_rfl⟩
theorem r_breach : ∀ q ∈ oddL, ∃ x d, q = .tuple [x, d] ∧ Ref2 "breach" x d := odd_of ⟨by intro o; kernel_rfl, by intro o; kernel_rfl, by intro o; kernel_rfl, by intro o; kernel_rfl, by intro o; kernel_rfl, by intro o; kernel_rfl, by intro o; kernel_rfl, by intro o; kernel_rfl, by intro o; kernel_rfl, by intro o; kernel_rfl, by intro o; kernel_rfl, by intro o; kernel_rfl, by intro o; kernel_rfl, by intro o; kernel_rfl, by intro o; kernel_rfl, by intro o; kernel_rfl⟩
theorem r_is_graph : ∀ q ∈ oddL, ∃ x d, q = .tuple [x, d] ∧ Ref2 "is_graph" x d := odd_of ⟨by intro o; kernel_rfl, by intro o; kernel_rfl, by intro o; kernel_rfl, by intro o; kernel_rfl, by intro o; kernel_rfl, by intro o; kernel_rfl, by intro o; kernel_rfl, by intro o; kernel_rfl, by intro o; kernel_rfl, by intro o; kernel_rfl, by intro o; kernel_rfl, by intro o; kernel_rfl, by intro o; kernel_rfl, by intro o; kernel_rfl, by intro o; kernel_rfl, by intro o; kernel_rfl⟩
theorem r_is_run : ∀ q ∈ oddL, ∃ x d, q = .tuple [x, d] ∧ Ref2 "is_run" x d := odd_of ⟨by intro o; kernel_rfl, by intro o; kernel_rfl, by intro o; kernel_rfl, by intro o; kernel_rfl, by intro o; kernel_rfl, by intro o; kernel_rfl, by intro o; kernel_rfl, by intro o; kernel_rfl, by intro o; kernel_rfl, by intro o; kernel_rfl, by intro o; kernel_rfl, by intro o; kernel_rfl, by intro o; kernel_rfl, by intro o; kernel_rfl, by intro o; kernel_rfl, by intro o; kernel_rfl⟩
theorem r_graph_of : ∀ q ∈ oddL, ∃ x d, q = .tuple [x, d] ∧ Ref2 "graph_of" x d := odd_of ⟨by intro o; kernel_rfl, by intro o; kernel_rfl, by intro o; kernel_rfl, by intro o; kernel_rfl, by intro o; kernel_rfl, by intro o; kernel_rfl, by intro o; kernel_rfl, by intro o; kernel_rfl, by intro o; kernel_rfl, by intro o; kernel_rfl, by intro o; kernel_rfl, by intro o; kernel_rfl, by intro o; kernel_rfl, by intro o; kernel_rfl, by intro o; kernel_rfl, by intro o; kernel_rfl⟩
theorem r_run_of : ∀ q ∈ oddL, ∃ x d, q = .tuple [x, d] ∧ Ref2 "run_of" x d := odd_of ⟨by intro o; kernel_rfl, by intro o; kernel_rfl, by intro o; kernel_rfl, by intro o; kernel_rfl, by intro o; kernel_rfl, by intro o; kernel_rfl, by intro o; kernel_rfl, by intro o; kernel_rfl, by intro o; kernel_rfl, by intro o; kernel_rfl, by intro o; kernel_rfl, by intro o; kernel_rfl, by intro o; kernel_rfl, by intro o; kernel_rfl, by intro o; kernel_rfl, by intro o; kernel_rfl⟩
theorem r_is_ended : ∀ q ∈ oddL, ∃ x d, q = .tuple [x, d] ∧ Ref2 "is_ended" x d := odd_of ⟨by intro o; kernel_rfl, by intro o; kernel_rfl, by intro o; kernel_rfl, by intro o; kernel_rfl, by intro o; kernel_rfl, by intro o; kernel_rfl, by intro o; kernel_rfl, by intro o; kernel_rfl, by intro o; kernel_rfl, by intro o; kernel_rfl, by intro o; kernel_rfl, by intro o; kernel_rfl, by intro o; kernel_rfl, by intro o; kernel_rfl, by intro o; kernel_rfl, by intro o; kernel_rfl⟩
theorem r_is_full : ∀ q ∈ oddL, ∃ x d, q = .tuple [x, d] ∧ Ref2 "is_full" x d := odd_of ⟨by intro o; kernel_rfl, by intro o; kernel_rfl, by intro o; kernel_rfl, by intro o; kernel_rfl, by intro o; kernel_rfl, by intro o; kernel_rfl, by intro o; kernel_rfl, by intro o; kernel_rfl, by intro o; kernel_rfl, by intro o; kernel_rfl, by intro o; kernel_rfl, by intro o; kernel_rfl, by intro o; kernel_rfl, by intro o; kernel_rfl, by intro o; kernel_rfl, by intro o; kernel_rfl⟩
theorem r_outcome_of : ∀ q ∈ oddL, ∃ x d, q = .tuple [x, d] ∧ Ref2 "outcome_of" x d := odd_of ⟨by intro o; kernel_rfl, by intro o; kernel_rfl, by intro o; kernel_rfl, by intro o; kernel_rfl, by intro o; kernel_rfl, by intro o; kernel_rfl, by intro o; kernel_rfl, by intro o; kernel_rfl, by intro o; kernel_rfl, by intro o; kernel_rfl, by intro o; kernel_rfl, by intro o; kernel_rfl, by intro o; kernel_rfl, by intro o; kernel_rfl, by intro o; kernel_rfl, by intro o; kernel_rfl⟩
theorem r_next_graph : ∀ q ∈ oddL, ∃ x d, q = .tuple [x, d] ∧ Ref2 "next_graph" x d := odd_of ⟨by intro o; kernel_rfl, by intro o; kernel_rfl, by intro o; kernel_rfl, by intro o; kernel_rfl, by intro o; kernel_rfl, by intro o; kernel_rfl, by intro o; kernel_rfl, by intro o; kernel_rfl, by intro o; kernel_rfl, by intro o; kernel_rfl, by intro o; kernel_rfl, by intro o; kernel_rfl, by intro o; kernel_rfl, by intro o; kernel_rfl, by intro o; kernel_rfl, by intro o; kernel_rfl⟩
theorem r_clashing : ∀ q ∈ oddL, ∃ x d, q = .tuple [x, d] ∧ Ref2 "clashing" x d := odd_of ⟨by intro o; kernel_rfl, by intro o; kernel_rfl, by intro o; kernel_rfl, by intro o; kernel_rfl, by intro o; kernel_rfl, by intro o; kernel_rfl, by intro o; kernel_rfl, by intro o; kernel_rfl, by intro o; kernel_rfl, by intro o; kernel_rfl, by intro o; kernel_rfl, by intro o; kernel_rfl, by intro o; kernel_rfl, by intro o; kernel_rfl, by intro o; kernel_rfl, by intro o; kernel_rfl⟩
theorem r_is_ledger : ∀ q ∈ oddL, ∃ x d, q = .tuple [x, d] ∧ Ref2 "is_ledger" x d := odd_of ⟨by intro o; kernel_rfl, by intro o; kernel_rfl, by intro o; kernel_rfl, by intro o; kernel_rfl, by intro o; kernel_rfl, by intro o; kernel_rfl, by intro o; kernel_rfl, by intro o; kernel_rfl, by intro o; kernel_rfl, by intro o; kernel_rfl, by intro o; kernel_rfl, by intro o; kernel_rfl, by intro o; kernel_rfl, by intro o; kernel_rfl, by intro o; kernel_rfl, by intro o; kernel_rfl⟩
theorem r_by_picks : ∀ q ∈ oddL, ∃ x d, q = .tuple [x, d] ∧ Ref2 "by_picks" x d := odd_of ⟨by intro o; kernel_rfl, by intro o; kernel_rfl, by intro o; kernel_rfl, by intro o; kernel_rfl, by intro o; kernel_rfl, by intro o; kernel_rfl, by intro o; kernel_rfl, by intro o; kernel_rfl, by intro o; kernel_rfl, by intro o; kernel_rfl, by intro o; kernel_rfl, by intro o; kernel_rfl, by intro o; kernel_rfl, by intro o; kernel_rfl, by intro o; kernel_rfl, by intro o; kernel_rfl⟩
theorem r_is_paper : ∀ q ∈ oddL, ∃ x d, q = .tuple [x, d] ∧ Ref2 "is_paper" x d := odd_of ⟨by intro o; kernel_rfl, by intro o; kernel_rfl, by intro o; kernel_rfl, by intro o; kernel_rfl, by intro o; kernel_rfl, by intro o; kernel_rfl, by intro o; kernel_rfl, by intro o; kernel_rfl, by intro o; kernel_rfl, by intro o; kernel_rfl, by intro o; kernel_rfl, by intro o; kernel_rfl, by intro o; kernel_rfl, by intro o; kernel_rfl, by intro o; kernel_rfl, by intro o; kernel_rfl⟩
theorem r_state_of : ∀ q ∈ oddL, ∃ x d, q = .tuple [x, d] ∧ Ref3 "state_of" x d := odd_of ⟨by intro o p; kernel_rfl, by intro o p; kernel_rfl, by intro o p; kernel_rfl, by intro o p; kernel_rfl, by intro o p; kernel_rfl, by intro o p; kernel_rfl, by intro o p; kernel_rfl, by intro o p; kernel_rfl, by intro o p; kernel_rfl, by intro o p; kernel_rfl, by intro o p; kernel_rfl, by intro o p; kernel_rfl, by intro o p; kernel_rfl, by intro o p; kernel_rfl, by intro o p; kernel_rfl, by intro o p; kernel_rfl⟩
def ones : List Str := ["_law_machine", "first_graph", "count_of", "_law_goer", "outcomes", "turn_outcomes", "clash_of", "failing", "ledger_of", "picks_of", "paper_of"]
def ones10 : List Str := ["_law_machine", "first_graph", "count_of", "_law_goer", "outcomes", "turn_outcomes", "clash_of", "failing", "ledger_of", "picks_of"]
def twos : List Str := ["is_drawing", "before", "breach", "is_graph", "is_run", "graph_of", "run_of", "is_ended", "is_full", "outcome_of", "next_graph", "clashing", "is_ledger", "by_picks", "is_paper"]
theorem r_ones {x d : PyData} (m : (.tuple [x, d] : PyData) ∈ oddL) : ∀ n ∈ ones, Ref1 n x d := by
  intro n h
  simp only [ones, List.mem_cons, List.not_mem_nil, or_false] at h
  rcases h with rfl | rfl | rfl | rfl | rfl | rfl | rfl | rfl | rfl | rfl | rfl
  · obtain ⟨_, _, e, h⟩ := r__law_machine _ m
    cases e
    exact h
  · obtain ⟨_, _, e, h⟩ := r_first_graph _ m
    cases e
    exact h
  · obtain ⟨_, _, e, h⟩ := r_count_of _ m
    cases e
    exact h
  · obtain ⟨_, _, e, h⟩ := r__law_goer _ m
    cases e
    exact h
  · obtain ⟨_, _, e, h⟩ := r_outcomes _ m
    cases e
    exact h
  · obtain ⟨_, _, e, h⟩ := r_turn_outcomes _ m
    cases e
    exact h
  · obtain ⟨_, _, e, h⟩ := r_clash_of _ m
    cases e
    exact h
  · obtain ⟨_, _, e, h⟩ := r_failing _ m
    cases e
    exact h
  · obtain ⟨_, _, e, h⟩ := r_ledger_of _ m
    cases e
    exact h
  · obtain ⟨_, _, e, h⟩ := r_picks_of _ m
    cases e
    exact h
  · obtain ⟨_, _, e, h⟩ := r_paper_of _ m
    cases e
    exact h
theorem r_twos {x d : PyData} (m : (.tuple [x, d] : PyData) ∈ oddL) : ∀ n ∈ twos, Ref2 n x d := by
  intro n h
  simp only [twos, List.mem_cons, List.not_mem_nil, or_false] at h
  rcases h with rfl | rfl | rfl | rfl | rfl | rfl | rfl | rfl | rfl | rfl | rfl | rfl | rfl | rfl | rfl
  · obtain ⟨_, _, e, h⟩ := r_is_drawing _ m
    cases e
    exact h
  · obtain ⟨_, _, e, h⟩ := r_before _ m
    cases e
    exact h
  · obtain ⟨_, _, e, h⟩ := r_breach _ m
    cases e
    exact h
  · obtain ⟨_, _, e, h⟩ := r_is_graph _ m
    cases e
    exact h
  · obtain ⟨_, _, e, h⟩ := r_is_run _ m
    cases e
    exact h
  · obtain ⟨_, _, e, h⟩ := r_graph_of _ m
    cases e
    exact h
  · obtain ⟨_, _, e, h⟩ := r_run_of _ m
    cases e
    exact h
  · obtain ⟨_, _, e, h⟩ := r_is_ended _ m
    cases e
    exact h
  · obtain ⟨_, _, e, h⟩ := r_is_full _ m
    cases e
    exact h
  · obtain ⟨_, _, e, h⟩ := r_outcome_of _ m
    cases e
    exact h
  · obtain ⟨_, _, e, h⟩ := r_next_graph _ m
    cases e
    exact h
  · obtain ⟨_, _, e, h⟩ := r_clashing _ m
    cases e
    exact h
  · obtain ⟨_, _, e, h⟩ := r_is_ledger _ m
    cases e
    exact h
  · obtain ⟨_, _, e, h⟩ := r_by_picks _ m
    cases e
    exact h
  · obtain ⟨_, _, e, h⟩ := r_is_paper _ m
    cases e
    exact h
theorem odd_shape : ∀ q ∈ oddL, ∃ x d, q = .tuple [x, d] := fun q m => by
  obtain ⟨x, d, e, _⟩ := r_state_of q m
  exact ⟨x, d, e⟩
end LW
end
section
set_option maxRecDepth 100000
set_option linter.all false
open PySem L2 DL
namespace LW
/-- an end that isn't looked into -/
structure EndsW (r : R Fl) (P : Fl → Rho → Prop) : Prop where
  h : Ends r P
theorem after_nx {G : M Fl} {P : Fl → Rho → Prop} {ρ : Rho} (h : Ends (G ρ) P) : AfterS G P .nx ρ := h
theorem w_nx {F G : M Fl} {P : Fl → Rho → Prop} {ρ ρ' : Rho} (e : F ρ = .ok .nx ρ') (h : EndsW (G ρ') P) : EndsW (mseq F G ρ) P := ⟨ends_nx e h.h⟩
theorem w_end {F : M Fl} {P : Fl → Rho → Prop} {ρ ρ' : Rho} {fl : Fl} (e : F ρ = .ok fl ρ') (h : P fl ρ') : EndsW (F ρ) P := ⟨Ends.eq e h⟩
theorem w_for {fi : M (List PyData)} {g : T → M Unit} {F G : M Fl} {P : Fl → Rho → Prop} {ds : List PyData} {ρ ρ1 : Rho} (e : fi ρ = .ok ds ρ1) (J : List T → Rho → Prop) (h0 : J (ds.map T.d) ρ1) (hend : ∀ ρ, J [] ρ → EndsW (G ρ) P)
    (step : ∀ t ts ρ, J (t :: ts) ρ → ∃ ρ1, g t ρ = .ok () ρ1 ∧ EndsW (F ρ1) fun fl ρ2 => fl = .nx ∧ J ts ρ2) : EndsW (mseq (sfor fi g F) G ρ) P := by
  refine ⟨ends_seq (ends_bind' e (ends_for J h0 (fun ρ h => after_nx (hend ρ h).h) fun t ts ρ h => ?_))⟩
  obtain ⟨ρ1, e1, q⟩ := step t ts ρ h
  refine Ends.eq e1 (q.h.mono ?_)
  rintro fl ρ2 ⟨rfl, z⟩
  exact z
theorem w_forF {f : M T} {g : T → M Unit} {F G : M Fl} {P : Fl → Rho → Prop} {ns : List Str} {ρ ρ1 : Rho} (e : f ρ = .ok (.fns ns) ρ1) (J : List T → Rho → Prop) (h0 : J (ns.map T.fn) ρ1) (hend : ∀ ρ, J [] ρ → EndsW (G ρ) P)
    (step : ∀ t ts ρ, J (t :: ts) ρ → ∃ ρ1 ρ2, g t ρ = .ok () ρ1 ∧ F ρ1 = .ok .nx ρ2 ∧ J ts ρ2) : EndsW (mseq (sforF f g F) G ρ) P := by
  have key : Ends (mfor g F (ns.map T.fn) ρ1) (AfterS G P) := by
    refine ends_for J h0 (fun ρ h => after_nx (hend ρ h).h) fun t ts ρ h => ?_
    obtain ⟨ρ1, ρ2, e1, e2, q⟩ := step t ts ρ h
    exact Ends.eq e1 (Ends.eq e2 q)
  refine ⟨ends_seq ?_⟩
  unfold sforF
  exact ends_bind' e key
theorem mem_fn {ns : List Str} {t : T} (h : t ∈ ns.map T.fn) : ∃ n ∈ ns, t = .fn n := by
  obtain ⟨n, hn, rfl⟩ := List.mem_map.mp h
  exact ⟨n, hn, rfl⟩
theorem d_one {n : Str} {x d : PyData} (h : Ref1 n x d) (a b c e f g i : Option T) : y_law_1 [a, b, c, e, f, g, some (.d x), some (.d d), i, some (.fn n)] = .ok .nx [a, b, c, e, f, g, some (.d x), some (.d d), i, some (.fn n)] := by
  unfold Ref1 at h
  have hlim : lim = 100000 := rfl
  simp [y_law_1, dfn, mseq, sif, sret, sset, sdrop, sasg, dandV, dorV, dnotV, dand, dor, dnot, dval, dop, dcallb, dcons, dget, mret, mno, mbind, mopt, gIsi, isT, dbackT, restore, dchain, chainMid, chainRest, onD, pLe2, pLt, pGt, pGe, keepm, dlst, dtup, mkLst, mkTup, allD, short, dcall, dcallF, mset, hlim, h]
theorem d_two {n : Str} {x d o : PyData} (h : Ref2 n x d) (a b c e f g : Option T) : y_law_2 [a, b, c, e, f, g, some (.d x), some (.d d), some (.d o), some (.fn n)] = .ok .nx [a, b, c, e, f, g, some (.d x), some (.d d), some (.d o), some (.fn n)] := by
  have h := h o
  have hlim : lim = 100000 := rfl
  simp [y_law_2, dfn, mseq, sif, sret, sset, sdrop, sasg, dandV, dorV, dnotV, dand, dor, dnot, dval, dop, dcallb, dcons, dget, mret, mno, mbind, mopt, gIsi, isT, dbackT, restore, dchain, chainMid, chainRest, onD, pLe2, pLt, pGt, pGe, keepm, dlst, dtup, mkLst, mkTup, allD, short, dcall, dcallF, mset, hlim, h]
theorem d_draw (a b : Int) (hb : PoolOk b) (o0 o2 o3 o4 o5 o6 o7 o8 o9 : Option T) : ∃ (o : PyData) (a' b' : Int), sset 8 (dop (onD pIx) (dlst (dcons (mret (.d .none)) (dcons (dlst (mret [])) (dcons (mret (.d (.str ("0" : Str)))) (dcons (dtup (dcons (mret (.d (.int 0))) (dcons (mret (.d (.int 0))) (mret [])))) (mret [])))))) (dcall f__law_draw [some 1, none] (dlate 1 (dcons (mret (.d (.int 4))) (mret []))))) [o0, some (pT a b), o2, o3, o4, o5, o6, o7, o8, o9] = .ok .nx [o0, some (pT a' b'), o2, o3, o4, o5, o6, o7, some (.d o), o9] ∧ PoolOk b' := by
  have hlim : lim = 100000 := rfl
  obtain ⟨r, a', b', e, r0, r1, p⟩ := t_draw a b 4 hb (by omega) (by omega)
  obtain ⟨o, _, eo⟩ := at_in (l := [PyData.none, .list [], .str "0", .tuple [.int 0, .int 0]]) r0 (by simpa using r1)
  have eo : pIx (.list [.none, .list [], .str "0", .tuple [.int 0, .int 0]]) (.int r) = some o := eo
  exact ⟨o, a', b', by simp [dfn, mseq, sif, sret, sset, sdrop, sasg, dandV, dorV, dnotV, dand, dor, dnot, dval, dop, dcallb, dcons, dget, mret, mno, mbind, mopt, gIsi, isT, dbackT, restore, dchain, chainMid, chainRest, onD, pLe2, pLt, pGt, pGe, keepm, dlst, dtup, mkLst, mkTup, allD, short, dcall, dcallF, mset, hlim, dlate, dhas, dtake, e, eo], p⟩
theorem t_last {x d o : PyData} (h : Ref3 "state_of" x d) (a b c e f g i : Option T) : sif (dnot (dval (dcall f__law_is_refused [none, none, none] (dcons (mret (.fn "state_of")) (dcons (dlst (dcons (dget 6) (dcons (dget 8) (dcons (mret (.d (.int 0))) (mret []))))) (dcons (dget 7) (mret []))))))) (sret (mret (.d (.bool false)))) (mret .nx) [a, b, c, e, f, g, some (.d x), some (.d d), some (.d o), i] = .ok .nx [a, b, c, e, f, g, some (.d x), some (.d d), some (.d o), i] := by
  have h := h o (.int 0)
  have hlim : lim = 100000 := rfl
  simp [dfn, mseq, sif, sret, sset, sdrop, sasg, dandV, dorV, dnotV, dand, dor, dnot, dval, dop, dcallb, dcons, dget, mret, mno, mbind, mopt, gIsi, isT, dbackT, restore, dchain, chainMid, chainRest, onD, pLe2, pLt, pGt, pGe, keepm, dlst, dtup, mkLst, mkTup, allD, short, dcall, dcallF, mset, hlim, h]
theorem t_turn {x d : PyData} (m : (.tuple [x, d] : PyData) ∈ oddL) (a b : Int) (hb : PoolOk b) (o0 o4 o5 o8 o9 : Option T) : EndsW (y_law_3 [o0, some (pT a b), some (.fns ones10), some (.fns twos), o4, o5, some (.d x), some (.d d), o8, o9]) fun fl ρ => fl = .nx ∧ ∃ a b o8 o9, PoolOk b ∧ ρ = [o0, some (pT a b), some (.fns ones10), some (.fns twos), o4, o5, some (.d x), some (.d d), o8, o9] := by
  have h1 := r_ones m
  have h2 := r_twos m
  have h3 : Ref3 "state_of" x d := by
    obtain ⟨_, _, e, h⟩ := r_state_of _ m
    cases e
    exact h
  have hc : gAddF (.fns ones10) (.fns ["paper_of"]) = some (.fns ones) := rfl
  generalize ones = L1 at h1 hc
  generalize ones10 = L0 at hc
  generalize twos = L2 at h2
  unfold y_law_3
  obtain ⟨o, a1, b1, e1, p1⟩ := d_draw a b hb o0 (some (.fns L0)) (some (.fns L2)) o4 o5 (some (.d x)) (some (.d d)) o8 o9
  refine w_nx e1 ?_
  have hlim : lim = 100000 := rfl
  have e2 : dop gAddF (dget 2) (dfns (dcons (mret (.fn "paper_of")) (mret []))) [o0, some (pT a1 b1), some (.fns L0), some (.fns L2), o4, o5, some (.d x), some (.d d), some (.d o), o9] = .ok (.fns L1) [o0, some (pT a1 b1), some (.fns L0), some (.fns L2), o4, o5, some (.d x), some (.d d), some (.d o), o9] := by
    simp [dop, dget, dfns, dcons, allFn, short, hlim, mbind, mret, mopt, hc]
  refine w_forF e2 (fun ts ρ => (∀ t ∈ ts, ∃ n ∈ L1, t = .fn n) ∧ ∃ o9, ρ = [o0, some (pT a1 b1), some (.fns L0), some (.fns L2), o4, o5, some (.d x), some (.d d), some (.d o), o9]) ⟨fun t m => mem_fn m, _, rfl⟩ ?_ ?_
  · rintro ρ ⟨_, o9, rfl⟩
    refine w_forF (ns := L2) (f := dget 3) rfl (fun ts ρ => (∀ t ∈ ts, ∃ n ∈ L2, t = .fn n) ∧ ∃ o9, ρ = [o0, some (pT a1 b1), some (.fns L0), some (.fns L2), o4, o5, some (.d x), some (.d d), some (.d o), o9]) ⟨fun t m => mem_fn m, _, rfl⟩ ?_ ?_
    · rintro ρ ⟨_, o9, rfl⟩
      exact w_end (t_last h3 _ _ _ _ _ _ _) ⟨rfl, _, _, _, _, p1, rfl⟩
    · rintro t ts ρ ⟨ht, o9, rfl⟩
      obtain ⟨n, hn, rfl⟩ := ht t List.mem_cons_self
      exact ⟨_, _, rfl, d_two (h2 n hn) _ _ _ _ _ _, fun t m => ht t (List.mem_cons_of_mem _ m), _, rfl⟩
  · rintro t ts ρ ⟨ht, o9, rfl⟩
    obtain ⟨n, hn, rfl⟩ := ht t List.mem_cons_self
    exact ⟨_, _, rfl, d_one (h1 n hn) _ _ _ _ _ _ _, fun t m => ht t (List.mem_cons_of_mem _ m), _, rfl⟩
theorem cut_mem {l : List PyData} {lo hi : Option Int} {x : PyData} (h : x ∈ cutG l lo hi) : x ∈ l := List.mem_of_mem_drop (List.mem_of_mem_take h)
theorem good_body (ns : List Int) (hn : ns.length ≤ 63) : EndsW (b_law [some (.scr ns), none, none, none, none, none, none, none, none, none]) (OfFn [true] fun v _ => v = .d (.bool true)) := by
  have hlim : lim = 100000 := rfl
  unfold b_law
  obtain ⟨a, b, e1, p1⟩ := t_hand ns 0 (by omega) (by omega)
  refine w_nx (ρ' := [some (.scr ns), some (pT a b), none, none, none, none, none, none, none, none]) (by have e1 : f__law_hand [.scr ns, .d (.int 0)] = _ := e1; simp [dfn, mseq, sif, sret, sset, sdrop, sasg, dandV, dorV, dnotV, dand, dor, dnot, dval, dop, dcallb, dcons, dget, mret, mno, mbind, mopt, gIsi, isT, dbackT, restore, dchain, chainMid, chainRest, onD, pLe2, pLt, pGt, pGe, keepm, dlst, dtup, mkLst, mkTup, allD, short, dcall, dcallF, mset, e1]) ?_
  refine w_nx (ρ' := [some (.scr ns), some (pT a b), some (.fns ["_law_machine", "first_graph", "count_of", "_law_goer", "outcomes", "turn_outcomes", "clash_of", "failing"]), none, none, none, none, none, none, none]) rfl ?_
  refine w_nx (ρ' := [some (.scr ns), some (pT a b), some (.fns ones10), none, none, none, none, none, none, none]) rfl ?_
  refine w_nx (ρ' := [some (.scr ns), some (pT a b), some (.fns ones10), some (.fns ["is_drawing", "before", "breach", "is_graph", "is_run", "graph_of", "run_of", "is_ended", "is_full", "outcome_of", "next_graph"]), none, none, none, none, none, none]) rfl ?_
  refine w_nx (ρ' := [some (.scr ns), some (pT a b), some (.fns ones10), some (.fns twos), none, none, none, none, none, none]) rfl ?_
  refine w_nx (ρ' := [some (.scr ns), some (pT a b), some (.fns ones10), some (.fns twos), some (.d (.list oddL)), none, none, none, none, none]) (by simp [dfn, mseq, sif, sret, sset, sdrop, sasg, dandV, dorV, dnotV, dand, dor, dnot, dval, dop, dcallb, dcons, dget, mret, mno, mbind, mopt, gIsi, isT, dbackT, restore, dchain, chainMid, chainRest, onD, pLe2, pLt, pGt, pGe, keepm, dlst, dtup, mkLst, mkTup, allD, short, dcall, dcallF, mset, t_odd]) ?_
  have hl : oddL.length = 16 := rfl
  have key : ∀ q ∈ oddL, ∃ x d, q = .tuple [x, d] ∧ (.tuple [x, d] : PyData) ∈ oddL := fun q m => by
    obtain ⟨x, d, e⟩ := odd_shape q m
    exact ⟨x, d, e, e ▸ m⟩
  have turn := @t_turn
  generalize oddL = L at hl key turn
  generalize ones10 = L0 at turn
  generalize twos = L2 at turn
  obtain ⟨r, a1, b1, e2, r0, r1, p2⟩ := t_draw a b 16 p1 (by omega) (by omega)
  refine w_nx (ρ' := [some (.scr ns), some (pT a1 b1), some (.fns L0), some (.fns L2), some (.d (.list L)), some (.d (.int r)), none, none, none, none]) (by simp [dfn, mseq, sif, sret, sset, sdrop, sasg, dandV, dorV, dnotV, dand, dor, dnot, dval, dop, dcallb, dcons, dget, mret, mno, mbind, mopt, gIsi, isT, dbackT, restore, dchain, chainMid, chainRest, onD, pLe2, pLt, pGt, pGe, keepm, dlst, dtup, mkLst, mkTup, allD, short, dcall, dcallF, mset, dlate, dhas, dtake, gLen, hl, e2]) ?_
  have h1 := cutG_len L (some r) none
  have h2 := cutG_len L none (some r)
  have hm : ∀ q ∈ cutG L (some r) none ++ cutG L none (some r), q ∈ L := fun q m => by
    rcases List.mem_append.mp m with m | m
    · exact cut_mem m
    · exact cut_mem m
  have ea : pAdd (.list (cutG L (some r) none)) (.list (cutG L none (some r))) = some (.list (cutG L (some r) none ++ cutG L none (some r))) := if_pos (by omega)
  have e3 : dseq (dop (onD pAdd) (dslice (dget 4) (dpart (dget 5)) (mret none)) (dslice (dget 4) (mret none) (dpart (dget 5)))) [some (.scr ns), some (pT a1 b1), some (.fns L0), some (.fns L2), some (.d (.list L)), some (.d (.int r)), none, none, none, none] = .ok (cutG L (some r) none ++ cutG L none (some r)) [some (.scr ns), some (pT a1 b1), some (.fns L0), some (.fns L2), some (.d (.list L)), some (.d (.int r)), none, none, none, none] := by
    simp [dfn, mseq, sif, sret, sset, sdrop, sasg, dandV, dorV, dnotV, dand, dor, dnot, dval, dop, dcallb, dcons, dget, mret, mno, mbind, mopt, gIsi, isT, dbackT, restore, dchain, chainMid, chainRest, onD, pLe2, pLt, pGt, pGe, keepm, dlst, dtup, mkLst, mkTup, allD, short, dcall, dcallF, mset, dseq, dslice, dpart, tSlice, ea, seqItems]
  generalize cutG L (some r) none ++ cutG L none (some r) = M at hm e3
  refine w_for e3 (fun ts ρ => (∀ t ∈ ts, ∃ q ∈ L, t = T.d q) ∧ ∃ a b o6 o7 o8 o9, PoolOk b ∧ ρ = [some (.scr ns), some (pT a b), some (.fns L0), some (.fns L2), some (.d (.list L)), some (.d (.int r)), o6, o7, o8, o9]) ⟨fun t m => ?_, _, _, _, _, _, _, p2, rfl⟩ ?_ ?_
  · obtain ⟨q, hq, rfl⟩ := List.mem_map.mp m
    exact ⟨q, hm q hq, rfl⟩
  · rintro ρ ⟨_, a, b, o6, o7, o8, o9, p, rfl⟩
    exact w_end (fl := .rt (.d (.bool true))) rfl rfl
  · rintro t ts ρ ⟨ht, a, b, o6, o7, o8, o9, p, rfl⟩
    obtain ⟨q, hq, rfl⟩ := ht t List.mem_cons_self
    obtain ⟨x, d, rfl, m⟩ := key q hq
    refine ⟨[some (.scr ns), some (pT a b), some (.fns L0), some (.fns L2), some (.d (.list L)), some (.d (.int r)), some (.d x), some (.d d), o8, o9], rfl, ⟨?_⟩⟩
    refine (turn m a b p _ _ _ _ _).h.mono ?_
    rintro fl ρ ⟨rfl, a, b, o8, o9, p, rfl⟩
    exact ⟨rfl, fun t m => ht t (List.mem_cons_of_mem _ m), _, _, _, _, _, _, p, rfl⟩
theorem good_fn {F : M Fl} {ns : List Int} {m : List Bool} {r : Rho} (h : EndsW (F r) (OfFn m fun v _ => v = .d (.bool true))) (n : Nat) (e : ([T.scr ns].map some ++ List.replicate (n - 1) none) = r) : Good (dfn n m F) ns := by
  subst e
  exact Good.of (ends_fn h.h)
theorem good (ns : List Int) (hn : ns.length ≤ 63) (_ : ∀ z ∈ ns, PySem.Builtin.Int.intBits z ≤ 1048576) : DL.Good f_law ns := good_fn (good_body ns hn) 10 rfl
end LW
end
open PySem PySem.W PySem.Calls PyProof.Rows
set_option maxRecDepth 100000 in
set_option maxHeartbeats 0 in
theorem PySem.Challenge.cw_readsfrom_k33_no_programs_at_any_door_holds : PySem.Challenge.rw_readsfrom_k33_no_programs_at_any_door.Holds := by
  w_on; o_law
  refine HandSHeadRun.head_any (r := HQ.HRow) (q := HQ.hview) (H := HQ.hkM) (ob := DL.obM HQ.hxs HQ.hfn HQ.hts HQ.heb) (M := 10500) (loose := HQ.names) (d := HandSHeadRun.topDef HQ.HRow.prog 156) (kwd := []) (fun s => DL.obM_eq HQ.hxs HQ.hfn HQ.hts HQ.heb s)
    (by kernel_rfl) (fun s => by kernel_rfl) LW.run_ (by kernel_rfl) (by kernel_rfl) (by kernel_rfl) (by rfl) (by first | assumption | decide +kernel) (by decide +kernel) ⟨rfl, rfl, rfl, rfl, rfl, by decide +kernel⟩ ?hw ?hc
  case hw => w_witness2
  case hc =>
    refine DL.walkM (l := PySem.Challenge.rw_readsfrom_k33_no_programs_at_any_door) (n := 63) (k := 13) (x := "_law_script") (g := LW.f_law) rfl (by decide) (by kernel_rfl) ⟨rfl, by decide, by decide⟩ ?F LW.good
    intro w mg fa h Y G hmg0
    obtain ⟨K, KX, c⟩ := Y
    have hmg : mg ("law" : PySem.Str) = some (.ref fa) := by
      have e : (HandSHeadRun.topDef HQ.HRow.prog 156).name = ("law" : PySem.Str) := by kernel_rfl
      rw [← e]
      exact hmg0
    obtain ⟨fd, hb, hF⟩ := LW.facts_mk (P := HQ.HRow.prog) (w := w) KX G hmg c
    exact ⟨K, fd, KX, hb, hF⟩
