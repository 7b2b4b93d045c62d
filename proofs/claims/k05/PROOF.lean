import PyProof.Rows.All
import Wide.All
import OpenK.AllK
import Wide.FinOn
import HandS.ForMost
import HandS.IsInst
import HandS.ExcField
import HandS.ExcInit
import KE.DataEq
import HandS.ForExc
import HandS.TupAny
import HandS.Style
import HandS.Wide
import HandS.Zip
import HandS.SortInts
import HandS.RaiseMore
import HandS.WordsDict
import PyProof.ReprRoads
import HandS.Small
import HandS.EndBits
import HandS.More
import HandS.Conv
import KE.KDictSum
import KE.KUnpackStar
import KE.GoesZip
import KE.GoesMore
import HandS.Words
import HandS.Exc
import KE.KExcIs
import HandS.ExcIs
import HandS.Text
import KE.KExcInit
import PyProof.StrOps2
import PySem.Challenge.RW_readsfrom_k05_refusals_apart
import PyProof.Rows.StrJoinMade
set_option Elab.async false
set_option linter.all false
section
set_option Elab.async false
set_option linter.all false
set_option maxRecDepth 100000
set_option maxHeartbeats 4000000
/-! DL1: trees (what a slot holds), their standing in the abstract heap, the state. -/
namespace DL
open PySem L2

/-- what a slot holds: data that never changes, a known object, an own list, dict, instance -/
inductive T where
  | d (x : PyData)
  | fn (n : Str)
  | scr (ns : List Int)
  | ty (n : String)
  | lst (xs : List T)
  | dct (kvs : List (Key × T))
  | ins (n : Str) (fs : List (Str × T))
  | fin (n : Str) (fs : List (Str × PyData))
  | exc (n : Str) (fs : List (Str × PyData))

abbrev Rho := List (Option T)

mutual
inductive Dr (K : PySem.W.Frag) (I : Hp) : V → PyData → Prop
  | non : Dr K I .non .none
  | bl (b : Bool) : Dr K I (.bl b) (.bool b)
  | int (i : Int) : Dr K I (.int i) (.int i)
  | str (x : Str) : Dr K I (.str x) (.str x)
  | lst {a : Addr} {xs : List V} {ds : List PyData} : I a = some (.lst xs) → DrAll K I xs ds → Dr K I (.ref a) (.list ds)
  | tup {a : Addr} {xs : List V} {ds : List PyData} : SqT K I a xs → DrAll K I xs ds → Dr K I (.ref a) (.tuple ds)
  | dct0 {a : Addr} : I a = some (.dK []) → Dr K I (.ref a) (.dict [])
inductive DrAll (K : PySem.W.Frag) (I : Hp) : List V → List PyData → Prop
  | nil : DrAll K I [] []
  | cons {v : V} {vs : List V} {d : PyData} {ds : List PyData} : Dr K I v d → DrAll K I vs ds → DrAll K I (v :: vs) (d :: ds)
end

/-- an exception's object, as it stands -/
def exq (a : Addr) (oe : Obj) : HO := .ext fun h => h.get? a = some oe
/-- a caught exception of the class called n, its fields -/
structure ExcAt (K : PySem.W.Frag) (I : Hp) (a : Addr) (n : Str) (fs : List (Str × PyData)) : Prop where
  at_ : ∃ (oe : Obj) (C : Addr) (vs : List V), I a = some (exq a oe) ∧ oe.cls = .ref C ∧ (∃ ws, oe.data = .fields ws) ∧ (fs ≠ [] → ∃ d, oe.dict = some d ∧ I d = some (.xd ((fs.map (·.1)).zip vs))) ∧ (fs = [] → oe.dict = none) ∧ DrAll K I vs (fs.map (·.2)) ∧
    PySem.W.nsIn K mainGlobals n = some (some (.ref C))
/-- an instance that never changes any more -/
structure FinAt (K : PySem.W.Frag) (I : Hp) (a : Addr) (n : Str) (fs : List (Str × PyData)) : Prop where
  at_ : ∃ (C dx : Addr) (kvs : List (Str × V)), PySem.W.nsIn K mainGlobals n = some (some (.ref C)) ∧ I a = some (.ins C dx kvs) ∧ I dx = some (.own a) ∧ kvs.map (·.1) = fs.map (·.1) ∧ DrAll K I (kvs.map (·.2)) (fs.map (·.2))
mutual
inductive RepT (K : PySem.W.Frag) (I H : Hp) : V → T → List Addr → Prop
  | d {v : V} {x : PyData} : Dr K I v x → RepT K I H v (.d x) []
  | fn {a : Addr} {n : Str} : PySem.W.nsIn K mainGlobals n = some (some (.ref a)) → RepT K I H (.ref a) (.fn n) []
  | scr {a : Addr} {ns : List Int} : SqL K I a (ns.map V.int) → RepT K I H (.ref a) (.scr ns) []
  | ty {n : String} : RepT K I H (.ty n) (.ty n) []
  | exc {a : Addr} {n : Str} {fs : List (Str × PyData)} : ExcAt K I a n fs → RepT K I H (.ref a) (.exc n fs) []
  | lst {a : Addr} {vs : List V} {xs : List T} {F : List Addr} : H a = some (.lst vs) → RepTs K I H vs xs F → RepT K I H (.ref a) (.lst xs) (a :: F)
  | dct {a : Addr} {kvs : List (Key × V)} {vs : List V} {xs : List T} {ts : List (Key × T)} {F : List Addr} : H a = some (.dK kvs) → kvs.map (·.1) = ts.map (·.1) → vs = kvs.map (·.2) → xs = ts.map (·.2) → RepTs K I H vs xs F →
      RepT K I H (.ref a) (.dct ts) (a :: F)
  | ins {a C dx : Addr} {n : Str} {kvs : List (Str × V)} {vs : List V} {xs : List T} {ts : List (Str × T)} {F : List Addr} : PySem.W.nsIn K mainGlobals n = some (some (.ref C)) → H a = some (.ins C dx kvs) → H dx = some (.own a) → kvs.map (·.1) = ts.map (·.1) → vs = kvs.map (·.2) → xs = ts.map (·.2) → RepTs K I H vs xs F →
      RepT K I H (.ref a) (.ins n ts) (a :: dx :: F)
  | fin {a : Addr} {n : Str} {fs : List (Str × PyData)} : FinAt K I a n fs → RepT K I H (.ref a) (.fin n fs) []
inductive RepTs (K : PySem.W.Frag) (I H : Hp) : List V → List T → List Addr → Prop
  | nil : RepTs K I H [] [] []
  | cons {v : V} {vs : List V} {t : T} {ts : List T} {F G : List Addr} : RepT K I H v t F → RepTs K I H vs ts G → RepTs K I H (v :: vs) (t :: ts) (F ++ G)
end

/-- the slots -/
inductive RepR (K : PySem.W.Frag) (I H : Hp) : St → Rho → List Addr → Prop
  | nil : RepR K I H [] [] []
  | hid {o : Option V} {σ : St} {ρ : Rho} {F : List Addr} : RepR K I H σ ρ F → RepR K I H (o :: σ) (none :: ρ) F
  | has {v : V} {t : T} {σ : St} {ρ : Rho} {F G : List Addr} : RepT K I H v t F → RepR K I H σ ρ G → RepR K I H (some v :: σ) (some t :: ρ) (F ++ G)

theorem rd_mono {I I' : Hp} (e : Same I I') {a : Addr} {u : HO} (h : Rd I a u) : Rd I' a u := by
  rcases h with h | ⟨o, h⟩
  · exact .inl (e _ _ h)
  · exact .inr ⟨o, e _ _ h⟩
theorem st_mono {K : PySem.W.Frag} {I I' : Hp} (e : Same I I') {a : Addr} {xs : List V} (h : SqT K I a xs) : SqT K I' a xs := by
  rcases h with h | h
  · exact .inl (rd_mono e h)
  · exact .inr h
mutual
theorem dr_mono {K : PySem.W.Frag} {I I' : Hp} (e : Same I I') : ∀ {x : PyData} {v : V}, Dr K I v x → Dr K I' v x
  | _, _, .non => .non
  | _, _, .bl b => .bl b
  | _, _, .int i => .int i
  | _, _, .str x => .str x
  | _, _, .lst h r => .lst (e _ _ h) (drAll_mono e r)
  | _, _, .tup h r => .tup (st_mono e h) (drAll_mono e r)
  | _, _, .dct0 h => .dct0 (e _ _ h)
theorem drAll_mono {K : PySem.W.Frag} {I I' : Hp} (e : Same I I') : ∀ {xs : List PyData} {vs : List V}, DrAll K I vs xs → DrAll K I' vs xs
  | _, _, .nil => .nil
  | _, _, .cons h t => .cons (dr_mono e h) (drAll_mono e t)
end
mutual
theorem Dr.dp {K : PySem.W.Frag} {I : Hp} : ∀ {x : PyData} {v : V}, Dr K I v x → x.plain = true → Dp K I v x
  | _, _, .non, _ => .non
  | _, _, .bl b, _ => .bl b
  | _, _, .int i, _ => .int i
  | _, _, .str x, _ => .str x
  | _, _, .lst h r, p => .lst (SqL.of h) (DrAll.dp r (by simpa [PyData.plain] using p))
  | _, _, .tup h r, p => .tup h (DrAll.dp r (by simpa [PyData.plain] using p))
  | _, _, .dct0 h, p => by simp [PyData.plain] at p
theorem DrAll.dp {K : PySem.W.Frag} {I : Hp} : ∀ {xs : List PyData} {vs : List V}, DrAll K I vs xs → PyData.plainAll xs = true → DpAll K I vs xs
  | _, _, .nil, _ => .nil
  | _, _, .cons h t, p => by
    have q := (Bool.and_eq_true _ _).mp (by simpa [PyData.plainAll] using p)
    exact .cons (Dr.dp h q.1) (DrAll.dp t q.2)
end

theorem ExcAt.mono {K : PySem.W.Frag} {I I' : Hp} (e : Same I I') {a : Addr} {n : Str} {fs : List (Str × PyData)} (h : ExcAt K I a n fs) : ExcAt K I' a n fs := by
  obtain ⟨oe, C, vs, h1, h2, h3, h4, h5, h6, h7⟩ := h.at_
  exact ⟨oe, C, vs, e _ _ h1, h2, h3, fun z => by obtain ⟨d, z1, z2⟩ := h4 z; exact ⟨d, z1, e _ _ z2⟩, h5, drAll_mono e h6, h7⟩
theorem FinAt.mono {K : PySem.W.Frag} {I I' : Hp} (e : Same I I') {a : Addr} {n : Str} {fs : List (Str × PyData)} (h : FinAt K I a n fs) : FinAt K I' a n fs := by
  obtain ⟨C, dx, kvs, h1, h2, h3, h4, h5⟩ := h.at_
  exact ⟨C, dx, kvs, h1, e _ _ h2, e _ _ h3, h4, drAll_mono e h5⟩
mutual
theorem RepT.mono {K : PySem.W.Frag} {I I' H H' : Hp} (e : Same I I') : ∀ {v : V} {t : T} {F : List Addr}, RepT K I H v t F → (∀ a ∈ F, H' a = H a) → RepT K I' H' v t F
  | _, _, _, .d h, _ => .d (dr_mono e h)
  | _, _, _, .fn h, _ => .fn h
  | _, _, _, .scr h, _ => .scr (e.seq h)
  | _, _, _, .ty, _ => .ty
  | _, _, _, .exc h, _ => .exc (h.mono e)
  | _, _, _, .lst h r, k => .lst (by rw [k _ (by simp)]; exact h) (RepTs.mono e r fun a m => k a (by simp [m]))
  | _, _, _, .dct h a b c r, k => .dct (by rw [k _ (by simp)]; exact h) a b c (RepTs.mono e r fun a m => k a (by simp [m]))
  | _, _, _, .fin h, _ => .fin (h.mono e)
  | _, _, _, .ins n0 h o a b c r, k => .ins n0 (by rw [k _ (by simp)]; exact h) (by rw [k _ (by simp)]; exact o) a b c (RepTs.mono e r fun a m => k a (by simp [m]))
theorem RepTs.mono {K : PySem.W.Frag} {I I' H H' : Hp} (e : Same I I') : ∀ {vs : List V} {ts : List T} {F : List Addr}, RepTs K I H vs ts F → (∀ a ∈ F, H' a = H a) → RepTs K I' H' vs ts F
  | _, _, _, .nil, _ => .nil
  | _, _, _, .cons h r, k => .cons (RepT.mono e h fun a m => k a (by simp [m])) (RepTs.mono e r fun a m => k a (by simp [m]))
end
theorem RepR.mono {K : PySem.W.Frag} {I I' H H' : Hp} (e : Same I I') : ∀ {σ : St} {ρ : Rho} {F : List Addr}, RepR K I H σ ρ F → (∀ a ∈ F, H' a = H a) → RepR K I' H' σ ρ F
  | _, _, _, .nil, _ => .nil
  | _, _, _, .hid r, k => .hid (RepR.mono e r k)
  | _, _, _, .has h r, k => .has (RepT.mono e h fun a m => k a (by simp [m])) (RepR.mono e r fun a m => k a (by simp [m]))

/-- the entry: the data's heap, the heap, the own objects -/
structure Bs where
  I : Hp
  H : Hp
  F : List Addr
  s : St
/-- I is the data's part of the heap H, F the own objects -/
structure Sit (B : Bs) (I H : Hp) (F : List Addr) : Prop where
  sub : Same I H
  ext : Same B.I I
  keep : ∀ a o, a ∉ B.F → B.H a = some o → H a = some o
  new : ∀ a o, I a = some o → B.I a = some o ∨ B.H a = none ∨ a ∈ B.F
  fr : ∀ a ∈ F, a ∈ B.F ∨ B.H a = none
  own : ∀ a ∈ F, I a = none
  thr : ∀ a ∈ F, H a ≠ none
  nd : F.Nodup

section
variable {B : Bs} {I H : Hp} {F G : List Addr}
theorem Sit.fresh (s : Sit B I H F) {p : Addr} (h : H p = none) : p ∉ F ∧ I p = none ∧ (B.H p = none ∨ p ∈ B.F) := by
  refine ⟨fun m => s.thr p m h, ?_, ?_⟩
  · cases e : I p with
    | none => rfl
    | some o => rw [s.sub p o e] at h; cases h
  · by_cases m : p ∈ B.F
    · exact .inr m
    · cases e : B.H p with
      | none => exact .inl rfl
      | some o => rw [s.keep p o m e] at h; cases h
/-- a new object of the data -/
theorem Sit.newD (s : Sit B I H F) {p : Addr} {o : HO} (h : H p = none) : Sit B (upd I p o) (upd H p o) F := by
  obtain ⟨h1, h2, h3⟩ := s.fresh h
  refine ⟨fun a u e => ?_, fun a u e => ?_, fun a u m e => ?_, fun a u e => ?_, s.fr, fun a m => ?_, fun a m => ?_, s.nd⟩
  · by_cases q : a = p
    · subst q; rw [upd_same] at e ⊢; exact e
    · rw [upd_ne q] at e ⊢; exact s.sub a u e
  · rw [upd_ne (ne_of_none (s.ext a u e) h2)]; exact s.ext a u e
  · rw [upd_ne (ne_of_none (s.keep a u m e) h)]; exact s.keep a u m e
  · by_cases q : a = p
    · subst q; exact .inr h3
    · rw [upd_ne q] at e; exact s.new a u e
  · rw [upd_ne (show a ≠ p from fun q => h1 (by rw [← q]; exact m))]; exact s.own a m
  · rw [upd_ne (show a ≠ p from fun q => h1 (by rw [← q]; exact m))]; exact s.thr a m
/-- a new own object -/
theorem Sit.newO (s : Sit B I H F) {p : Addr} {o : HO} (h : H p = none) : Sit B I (upd H p o) (p :: F) := by
  obtain ⟨h1, h2, h3⟩ := s.fresh h
  refine ⟨fun a u e => ?_, s.ext, fun a u m e => ?_, s.new, fun a m => ?_, fun a m => ?_, fun a m => ?_, ?_⟩
  · rw [upd_ne (ne_of_none e h2)]; exact s.sub a u e
  · rw [upd_ne (ne_of_none (s.keep a u m e) h)]; exact s.keep a u m e
  · rcases List.mem_cons.mp m with q | q
    · rw [q]; exact h3.symm
    · exact s.fr a q
  · rcases List.mem_cons.mp m with q | q
    · rw [q]; exact h2
    · exact s.own a q
  · rcases List.mem_cons.mp m with q | q
    · rw [q, upd_same]; intro z; cases z
    · rw [upd_ne (show a ≠ p from fun z => h1 (by rw [← z]; exact q))]; exact s.thr a q
  · exact List.nodup_cons.mpr ⟨h1, s.nd⟩
/-- an own object is written -/
theorem Sit.write (s : Sit B I H F) {p : Addr} {o : HO} (m : p ∈ F) : Sit B I (upd H p o) F := by
  refine ⟨fun a u e => ?_, s.ext, fun a u n e => ?_, s.new, s.fr, s.own, fun a q => ?_, s.nd⟩
  · have : a ≠ p := fun q => by rw [q, s.own p m] at e; cases e
    rw [upd_ne this]; exact s.sub a u e
  · have : a ≠ p := fun q => by
      rcases s.fr p m with z | z
      · exact n (q ▸ z)
      · rw [q, z] at e; cases e
    rw [upd_ne this]; exact s.keep a u n e
  · by_cases z : a = p
    · rw [z, upd_same]; intro z; cases z
    · rw [upd_ne z]; exact s.thr a q
/-- fewer own objects -/
theorem Sit.less (s : Sit B I H F) (h : ∀ a ∈ G, a ∈ F) (nd : G.Nodup) : Sit B I H G :=
  ⟨s.sub, s.ext, s.keep, s.new, fun a m => s.fr a (h a m), fun a m => s.own a (h a m), fun a m => s.thr a (h a m), nd⟩
theorem Sit.perm (s : Sit B I H F) (h : List.Perm F G) : Sit B I H G := s.less (fun a m => h.mem_iff.mpr m) (h.nodup_iff.mp s.nd)
end

/-- the slots that are never stored to (m) are as at the entry -/
def Kept (m : List Bool) (B : Bs) (σ : St) : Prop := ∀ i : Nat, m[i]? = some true → σ[i]? = B.s[i]?
/-- the state: slots and what is pending -/
def Ok (K : PySem.W.Frag) (m : List Bool) (B : Bs) (σ : St) (H : Hp) (ρ : Rho) (ws : List V) (ts : List T) : Prop :=
  ∃ I Fr Fw, Sit B I H (Fr ++ Fw) ∧ RepR K I H σ ρ Fr ∧ RepTs K I H ws ts Fw ∧ Kept m B σ

section
variable {K : PySem.W.Frag} {m : List Bool} {B : Bs} {σ : St} {H : Hp} {ρ : Rho} {ws : List V} {ts : List T} {x y v : V} {t u : T} {d e : PyData}

theorem Ok.pop (h : Ok K m B σ H ρ (x :: ws) (t :: ts)) : Ok K m B σ H ρ ws ts := by
  obtain ⟨I, Fr, Fw, s, r, w, km⟩ := h
  cases w with
  | cons a b =>
    rename_i F G
    refine ⟨I, Fr, G, s.less (fun q m => ?_) ?_, r, b, km⟩
    · rcases List.mem_append.mp m with z | z
      · exact List.mem_append.mpr (.inl z)
      · exact List.mem_append.mpr (.inr (List.mem_append.mpr (.inr z)))
    · have := s.nd
      exact (List.Sublist.nodup (List.Sublist.append (List.Sublist.refl _) (List.sublist_append_right F G)) this)
theorem Ok.swap (h : Ok K m B σ H ρ (x :: y :: ws) (t :: u :: ts)) : Ok K m B σ H ρ (y :: x :: ws) (u :: t :: ts) := by
  obtain ⟨I, Fr, Fw, s, r, w, km⟩ := h
  cases w with
  | cons a b =>
    cases b with
    | cons b c =>
      refine ⟨I, Fr, _, s.perm ?_, r, .cons b (.cons a c), km⟩
      refine List.Perm.append_left _ ?_
      rw [← List.append_assoc, ← List.append_assoc]
      exact List.Perm.append_right _ List.perm_append_comm
theorem Ok.pop2 (h : Ok K m B σ H ρ (x :: y :: ws) (t :: u :: ts)) : Ok K m B σ H ρ (x :: ws) (t :: ts) := h.swap.pop
/-- something that every data's heap has -/
theorem Ok.push (h : Ok K m B σ H ρ ws ts) (q : ∀ I, Dr K I x d) : Ok K m B σ H ρ (x :: ws) (.d d :: ts) := by
  obtain ⟨I, Fr, Fw, s, r, w, km⟩ := h
  exact ⟨I, Fr, Fw, s, r, .cons (F := []) (.d (q I)) w, km⟩
theorem Ok.pushFn {a : Addr} {n : Str} (hn : PySem.W.nsIn K mainGlobals n = some (some (.ref a))) (h : Ok K m B σ H ρ ws ts) : Ok K m B σ H ρ (.ref a :: ws) (.fn n :: ts) := by
  obtain ⟨I, Fr, Fw, s, r, w, km⟩ := h
  exact ⟨I, Fr, Fw, s, r, .cons (F := []) (.fn hn) w, km⟩
theorem Ok.pushTy {n : String} (h : Ok K m B σ H ρ ws ts) : Ok K m B σ H ρ (.ty n :: ws) (.ty n :: ts) := by
  obtain ⟨I, Fr, Fw, s, r, w, km⟩ := h
  exact ⟨I, Fr, Fw, s, r, .cons (F := []) .ty w, km⟩
theorem Ok.topTy {n : String} (h : Ok K m B σ H ρ (x :: ws) (.ty n :: ts)) : x = .ty n := by
  obtain ⟨I, Fr, Fw, s, r, w, km⟩ := h
  cases w with
  | cons a b => cases a; rfl
theorem Ok.int {i : Int} (h : Ok K m B σ H ρ ws ts) : Ok K m B σ H ρ (.int i :: ws) (.d (.int i) :: ts) := h.push fun _ => .int i
theorem Ok.str {i : Str} (h : Ok K m B σ H ρ ws ts) : Ok K m B σ H ρ (.str i :: ws) (.d (.str i) :: ts) := h.push fun _ => .str i
theorem Ok.bl {i : Bool} (h : Ok K m B σ H ρ ws ts) : Ok K m B σ H ρ (.bl i :: ws) (.d (.bool i) :: ts) := h.push fun _ => .bl i
theorem Ok.non (h : Ok K m B σ H ρ ws ts) : Ok K m B σ H ρ (.non :: ws) (.d .none :: ts) := h.push fun _ => .non
/-- what stands on top -/
theorem Ok.topD (h : Ok K m B σ H ρ (x :: ws) (.d d :: ts)) : Dr K H x d := by
  obtain ⟨I, Fr, Fw, s, r, w, km⟩ := h
  cases w with
  | cons a b =>
    cases a with
    | d q => exact dr_mono s.sub q
theorem Ok.dup (h : Ok K m B σ H ρ (x :: ws) (.d d :: ts)) : Ok K m B σ H ρ (x :: x :: ws) (.d d :: .d d :: ts) := by
  obtain ⟨I, Fr, Fw, s, r, w, km⟩ := h
  cases w with
  | cons a b =>
    cases a with
    | d q => exact ⟨I, Fr, _, s, r, .cons (F := []) (.d q) (.cons (F := []) (.d q) b), km⟩
/-- a part of what stands on top, in its stead -/
theorem Ok.part (h : Ok K m B σ H ρ (x :: ws) (.d d :: ts)) (q : ∀ I, Same I H → Dr K I x d → Dr K I y e) : Ok K m B σ H ρ (y :: ws) (.d e :: ts) := by
  obtain ⟨I, Fr, Fw, s, r, w, km⟩ := h
  cases w with
  | cons a b =>
    cases a with
    | d z => exact ⟨I, Fr, _, s, r, .cons (F := []) (.d (q I s.sub z)) b, km⟩
theorem Ok.topInt {i : Int} (h : Ok K m B σ H ρ (x :: ws) (.d (.int i) :: ts)) : x = .int i := by
  have q := h.topD
  cases q
  rfl
theorem Ok.topStr {i : Str} (h : Ok K m B σ H ρ (x :: ws) (.d (.str i) :: ts)) : x = .str i := by
  have q := h.topD
  cases q
  rfl
theorem Ok.topBl {i : Bool} (h : Ok K m B σ H ρ (x :: ws) (.d (.bool i) :: ts)) : x = .bl i := by
  have q := h.topD
  cases q
  rfl
theorem Ok.topNon (h : Ok K m B σ H ρ (x :: ws) (.d .none :: ts)) : x = .non := by
  have q := h.topD
  cases q
  rfl
theorem Ok.topFn {n : Str} (h : Ok K m B σ H ρ (x :: ws) (.fn n :: ts)) : ∃ a, x = .ref a ∧ PySem.W.nsIn K mainGlobals n = some (some (.ref a)) := by
  obtain ⟨I, Fr, Fw, s, r, w, km⟩ := h
  cases w with
  | cons a b =>
    cases a with
    | fn h => exact ⟨_, rfl, h⟩

/-! pending data in a row -/
theorem RepTs.append {I : Hp} {F G : List Addr} : ∀ {vs ws : List V} {ts us : List T}, RepTs K I H vs ts F → RepTs K I H ws us G → ∃ E, RepTs K I H (vs ++ ws) (ts ++ us) E ∧ E = F ++ G
  | [], _, _, _, .nil, w => ⟨_, w, rfl⟩
  | _ :: _, _, _, _, .cons a b, w => by
    obtain ⟨E, q, e⟩ := RepTs.append b w
    exact ⟨_, .cons a q, by rw [e, List.append_assoc]⟩
theorem RepTs.split {I : Hp} : ∀ {vs ws : List V} {ts us : List T} {F : List Addr}, vs.length = ts.length → RepTs K I H (vs ++ ws) (ts ++ us) F → ∃ G E, F = G ++ E ∧ RepTs K I H vs ts G ∧ RepTs K I H ws us E
  | [], _, [], _, F, _, r => ⟨[], F, rfl, .nil, r⟩
  | [], _, _ :: _, _, _, l, _ => nomatch l
  | _ :: _, _, [], _, _, l, _ => nomatch l
  | _ :: vs, ws, _ :: ts, us, _, l, r => by
    cases r with
    | cons a b =>
      obtain ⟨G, E, e, p, q⟩ := RepTs.split (vs := vs) (ts := ts) (by simpa using l) b
      exact ⟨_, E, by rw [e, ← List.append_assoc], .cons a p, q⟩
theorem RepTs.len {I : Hp} : ∀ {vs : List V} {ts : List T} {F : List Addr}, RepTs K I H vs ts F → vs.length = ts.length
  | _, _, _, .nil => rfl
  | _, _, _, .cons _ r => by simp [RepTs.len r]
theorem RepTs.ofD {I : Hp} : ∀ {vs : List V} {ds : List PyData}, DrAll K I vs ds → RepTs K I H vs (ds.map T.d) []
  | _, _, .nil => .nil
  | _, _, .cons a b => .cons (F := []) (.d a) (RepTs.ofD b)
theorem RepTs.toD {I : Hp} : ∀ {vs : List V} {ds : List PyData} {F : List Addr}, RepTs K I H vs (ds.map T.d) F → DrAll K I vs ds ∧ F = []
  | _, [], _, .nil => ⟨.nil, rfl⟩
  | _, _ :: _, _, .cons (.d a) b => by
    obtain ⟨p, q⟩ := RepTs.toD b
    exact ⟨.cons a p, by rw [q]; rfl⟩
theorem DrAll.len {I : Hp} : ∀ {vs : List V} {ds : List PyData}, DrAll K I vs ds → vs.length = ds.length
  | _, _, .nil => rfl
  | _, _, .cons _ r => by simp [DrAll.len r]
theorem DrAll.get {I : Hp} : ∀ {vs : List V} {ds : List PyData} {i : Nat} {v : V}, DrAll K I vs ds → vs[i]? = some v → ∃ d, ds[i]? = some d ∧ Dr K I v d
  | _, _, _, _, .nil, e => by simp at e
  | _, _, 0, _, .cons a _, e => by simp at e; subst e; exact ⟨_, rfl, a⟩
  | _, _, i + 1, v, .cons _ b, e => by
    obtain ⟨d, p, q⟩ := DrAll.get (i := i) (v := v) b (by simpa using e)
    exact ⟨d, by simpa using p, q⟩
theorem DrAll.get' {I : Hp} : ∀ {vs : List V} {ds : List PyData} {i : Nat} {d : PyData}, DrAll K I vs ds → ds[i]? = some d → ∃ v, vs[i]? = some v ∧ Dr K I v d
  | _, _, _, _, .nil, e => by simp at e
  | _, _, 0, _, .cons a _, e => by simp at e; subst e; exact ⟨_, rfl, a⟩
  | _, _, i + 1, d, .cons _ b, e => by
    obtain ⟨v, p, q⟩ := DrAll.get' (i := i) (d := d) b (by simpa using e)
    exact ⟨v, by simpa using p, q⟩
theorem DrAll.append {I : Hp} : ∀ {vs ws : List V} {ds es : List PyData}, DrAll K I vs ds → DrAll K I ws es → DrAll K I (vs ++ ws) (ds ++ es)
  | _, _, _, _, .nil, w => w
  | _, _, _, _, .cons a b, w => .cons a (DrAll.append b w)
theorem DrAll.take {I : Hp} : ∀ {vs : List V} {ds : List PyData} (n : Nat), DrAll K I vs ds → DrAll K I (vs.take n) (ds.take n)
  | _, _, 0, _ => .nil
  | _, _, _ + 1, .nil => .nil
  | _, _, n + 1, .cons a b => .cons a (DrAll.take n b)
theorem DrAll.drop {I : Hp} : ∀ {vs : List V} {ds : List PyData} (n : Nat), DrAll K I vs ds → DrAll K I (vs.drop n) (ds.drop n)
  | _, _, 0, r => r
  | _, _, _ + 1, .nil => .nil
  | _, _, n + 1, .cons _ b => DrAll.drop n b
theorem DrAll.reverse {I : Hp} : ∀ {vs : List V} {ds : List PyData}, DrAll K I vs ds → DrAll K I vs.reverse ds.reverse
  | _, _, .nil => .nil
  | _, _, .cons a b => by
    rw [List.reverse_cons, List.reverse_cons]
    exact DrAll.append (DrAll.reverse b) (.cons a .nil)
theorem DrAll.rep {I : Hp} {vs : List V} {ds : List PyData} (h : DrAll K I vs ds) : ∀ n : Nat, DrAll K I (List.replicate n vs).flatten (List.replicate n ds).flatten
  | 0 => .nil
  | n + 1 => by
    rw [List.replicate_succ, List.replicate_succ, List.flatten_cons, List.flatten_cons]
    exact DrAll.append h (DrAll.rep h n)
theorem DrAll.erase {I : Hp} : ∀ {vs : List V} {ds : List PyData} (n : Nat), DrAll K I vs ds → DrAll K I (vs.eraseIdx n) (ds.eraseIdx n)
  | _, _, _, .nil => .nil
  | _, _, 0, .cons _ b => b
  | _, _, n + 1, .cons a b => .cons a (DrAll.erase n b)
end
end DL
end
section
set_option Elab.async false
set_option linter.all false
set_option maxRecDepth 100000
set_option maxHeartbeats 4000000
/-! DL2: what a piece of code computes over slots; expressions, tests, arguments, statements. -/
namespace DL
open PySem L2

structure Exn where
  C : Str
  fs : List (Str × PyData)
inductive R (α : Type) where
  | ok (a : α) (ρ : Rho) | ex (x : Exn) (ρ : Rho) | no
def M (α : Type) := Rho → R α
def mret {α : Type} (a : α) : M α := fun ρ => .ok a ρ
def mno {α : Type} : M α := fun _ => .no
def mbind {α β : Type} (f : M α) (g : α → M β) : M β := fun ρ => match f ρ with
  | .ok a ρ' => g a ρ'
  | .ex x ρ' => .ex x ρ'
  | .no => .no
def mopt {α : Type} : Option α → M α
  | some a => mret a
  | none => mno
inductive Fl where
  | nx | rt (t : T) | bk | ct
def mseq (F G : M Fl) : M Fl := mbind F fun fl => match fl with
  | .nx => G
  | .rt t => mret (.rt t)
  | .bk => mret .bk
  | .ct => mret .ct
def mset (i : Nat) (t : T) : M Unit := fun ρ => .ok () (ρ.set i (some t))
def mfor (set : T → M Unit) (body : M Fl) : List T → M Fl
  | [] => mret .nx
  | x :: xs => mbind (set x) fun _ => mbind body fun fl => match fl with
    | .nx => mfor set body xs
    | .ct => mfor set body xs
    | .bk => mret .nx
    | .rt t => mret (.rt t)

section
variable {K : PySem.W.Frag} {I H : Hp}
theorem RepR.len : ∀ {σ : St} {ρ : Rho} {F : List Addr}, RepR K I H σ ρ F → σ.length = ρ.length
  | _, _, _, .nil => rfl
  | _, _, _, .hid r => by simp [RepR.len r]
  | _, _, _, .has _ r => by simp [RepR.len r]
/-- a slot is taken out -/
theorem RepR.take : ∀ {σ : St} {ρ : Rho} {F : List Addr} {i : Nat} {t : T}, RepR K I H σ ρ F → ρ[i]? = some (some t) →
    ∃ v G R, σ[i]? = some (some v) ∧ RepT K I H v t G ∧ RepR K I H σ (ρ.set i none) R ∧ List.Perm (R ++ G) F
  | _, _, _, i, _, .nil, e => by simp at e
  | _, _, _, 0, _, .hid r, e => by simp at e
  | _, _, _, 0, t, .has (v := v) (F := F) (G := G) a r, e => by
    simp at e
    subst e
    exact ⟨v, F, G, rfl, a, .hid r, List.perm_append_comm⟩
  | _, _, _, i + 1, t, .hid r, e => by
    obtain ⟨v, G, R, h1, h2, h3, h4⟩ := RepR.take (i := i) r (by simpa using e)
    exact ⟨v, G, R, by simpa using h1, h2, .hid h3, h4⟩
  | _, _, _, i + 1, t, .has (v := u) (F := F) a r, e => by
    obtain ⟨v, G, R, h1, h2, h3, h4⟩ := RepR.take (i := i) r (by simpa using e)
    refine ⟨v, G, F ++ R, by simpa using h1, h2, .has a h3, ?_⟩
    rw [List.append_assoc]
    exact List.Perm.append_left _ h4
/-- a slot is stored to -/
theorem RepR.put : ∀ {σ : St} {ρ : Rho} {F G : List Addr} {i : Nat} {v : V} {t : T}, RepR K I H σ ρ F → RepT K I H v t G →
    ∃ F' R, RepR K I H (σ.set i (some v)) (ρ.set i (some t)) F' ∧ List.Perm (F' ++ R) (F ++ G)
  | _, _, _, G, i, v, t, .nil, _ => ⟨[], G, .nil, List.Perm.refl _⟩
  | _, _, _, G, 0, v, t, .hid (F := F) r, a => ⟨G ++ F, [], .has a r, by rw [List.append_nil]; exact List.perm_append_comm⟩
  | _, _, _, G, 0, v, t, .has (F := F1) (G := F2) b r, a => ⟨G ++ F2, F1, .has a r, by
      rw [List.append_assoc, List.append_assoc]
      exact (List.perm_append_comm (l₁ := G) (l₂ := F2 ++ F1)).trans (List.Perm.append_right _ List.perm_append_comm) |>.trans (by rw [List.append_assoc])⟩
  | _, _, _, G, i + 1, v, t, .hid r, a => by
    obtain ⟨F', R, h1, h2⟩ := RepR.put (i := i) r a
    exact ⟨F', R, .hid h1, h2⟩
  | _, _, _, G, i + 1, v, t, .has (F := F1) b r, a => by
    obtain ⟨F', R, h1, h2⟩ := RepR.put (i := i) r a
    refine ⟨F1 ++ F', R, .has b h1, ?_⟩
    rw [List.append_assoc, List.append_assoc]
    exact List.Perm.append_left _ h2
/-- .. to what stands there -/
theorem RepR.back {σ : St} {ρ : Rho} {F G : List Addr} {i : Nat} {v : V} {t : T} (r : RepR K I H σ ρ F) (e : σ[i]? = some (some v)) (a : RepT K I H v t G) :
    ∃ F' R, RepR K I H σ (ρ.set i (some t)) F' ∧ List.Perm (F' ++ R) (F ++ G) := by
  obtain ⟨F', R, h1, h2⟩ := RepR.put (i := i) r a
  have : σ.set i (some v) = σ := by
    apply List.ext_getElem?
    intro j
    by_cases q : i = j
    · subst q
      rw [List.getElem?_set_self (List.getElem?_eq_some_iff.mp e).1, e]
    · rw [List.getElem?_set_ne q]
  rw [this] at h1
  exact ⟨F', R, h1, h2⟩
theorem RepR.clear : ∀ {σ : St} {ρ : Rho} {F : List Addr} {i : Nat} {o : Option V}, RepR K I H σ ρ F →
    ∃ F' R, RepR K I H (σ.set i o) (ρ.set i none) F' ∧ List.Perm (F' ++ R) F
  | _, _, _, i, o, .nil => ⟨[], [], .nil, List.Perm.refl _⟩
  | _, _, _, 0, o, .hid (F := F) r => ⟨F, [], .hid r, by rw [List.append_nil]⟩
  | _, _, _, 0, o, .has (F := F1) (G := F2) b r => ⟨F2, F1, .hid r, List.perm_append_comm⟩
  | _, _, _, i + 1, o, .hid r => by
    obtain ⟨F', R, h1, h2⟩ := RepR.clear (i := i) (o := o) r
    exact ⟨F', R, .hid h1, h2⟩
  | _, _, _, i + 1, o, .has (F := F1) b r => by
    obtain ⟨F', R, h1, h2⟩ := RepR.clear (i := i) (o := o) r
    refine ⟨F1 ++ F', R, .has b h1, ?_⟩
    rw [List.append_assoc]
    exact List.Perm.append_left _ h2
end
theorem Sit.sub' {B : Bs} {I H : Hp} {F G R : List Addr} (s : Sit B I H F) (h : List.Perm (G ++ R) F) : Sit B I H G :=
  (s.perm h.symm).less (fun a m => List.mem_append_left _ m) (List.Nodup.sublist (List.sublist_append_left G R) (s.perm h.symm).nd)

/-- the wish of exceptions, and the mask -/
structure Wd where
  W : WX
  m : List Bool
  cl : Str → Option Value

section
variable {K : PySem.W.Frag} {m : List Bool} {B : Bs} {σ : St} {H : Hp} {ρ : Rho} {ws : List V} {ts : List T} {x y v : V} {t u : T} {d e : PyData} {i : Nat}
theorem Ok.store (h : Ok K m B σ H ρ (x :: ws) (t :: ts)) (hi : m[i]? ≠ some true) : Ok K m B (σ.set i (some x)) H (ρ.set i (some t)) ws ts := by
  obtain ⟨I, Fr, Fw, s, r, w, km⟩ := h
  cases w with
  | cons a b =>
    rename_i F G
    obtain ⟨F', R, h1, h2⟩ := RepR.put (i := i) r a
    refine ⟨I, F', G, s.sub' (R := R) ?_, h1, b, fun j hj => ?_⟩
    · have e1 : List.Perm (F' ++ G ++ R) (F' ++ R ++ G) := by
        rw [List.append_assoc, List.append_assoc]
        exact List.Perm.append_left _ List.perm_append_comm
      refine e1.trans ?_
      rw [← List.append_assoc]
      exact List.Perm.append_right _ h2
    · have : i ≠ j := fun q => hi (q ▸ hj)
      rw [List.getElem?_set_ne this]
      exact km j hj
/-- a slot is handed out -/
theorem Ok.take (h : Ok K m B σ H ρ ws ts) (e : ρ[i]? = some (some t)) : ∃ v, σ[i]? = some (some v) ∧ Ok K m B σ H (ρ.set i none) (v :: ws) (t :: ts) := by
  obtain ⟨I, Fr, Fw, s, r, w, km⟩ := h
  obtain ⟨v, G, R, h1, h2, h3, h4⟩ := r.take e
  refine ⟨v, h1, I, R, G ++ Fw, s.perm ?_, h3, .cons h2 w, km⟩
  rw [← List.append_assoc]
  exact (List.Perm.append_right _ h4).symm
/-- .. back -/
theorem Ok.back (h : Ok K m B σ H ρ (x :: ws) (t :: ts)) (e : σ[i]? = some (some x)) : Ok K m B σ H (ρ.set i (some t)) ws ts := by
  obtain ⟨I, Fr, Fw, s, r, w, km⟩ := h
  cases w with
  | cons a b =>
    rename_i F G
    obtain ⟨F', R, h1, h2⟩ := RepR.back (i := i) r e a
    refine ⟨I, F', G, s.sub' (R := R) ?_, h1, b, km⟩
    have e1 : List.Perm (F' ++ G ++ R) (F' ++ R ++ G) := by
      rw [List.append_assoc, List.append_assoc]
      exact List.Perm.append_left _ List.perm_append_comm
    refine e1.trans ?_
    rw [← List.append_assoc]
    exact List.Perm.append_right _ h2
theorem Ok.clear (h : Ok K m B σ H ρ ws ts) (hi : m[i]? ≠ some true) (o : Option V) : Ok K m B (σ.set i o) H (ρ.set i none) ws ts := by
  obtain ⟨I, Fr, Fw, s, r, w, km⟩ := h
  obtain ⟨F', R, h1, h2⟩ := RepR.clear (i := i) (o := o) r
  refine ⟨I, F', Fw, s.sub' (R := R) ?_, h1, w, fun j hj => ?_⟩
  · have e1 : List.Perm (F' ++ Fw ++ R) (F' ++ R ++ Fw) := by
      rw [List.append_assoc, List.append_assoc]
      exact List.Perm.append_left _ List.perm_append_comm
    exact e1.trans (List.Perm.append_right _ h2)
  · have : i ≠ j := fun q => hi (q ▸ hj)
    rw [List.getElem?_set_ne this]
    exact km j hj
/-- a datum in a slot is read -/
theorem Ok.read (h : Ok K m B σ H ρ ws ts) (e : ρ[i]? = some (some (.d d))) : ∃ v, σ[i]? = some (some v) ∧ Ok K m B σ H ρ (v :: ws) (.d d :: ts) := by
  obtain ⟨v, h1, h2⟩ := h.take e
  refine ⟨v, h1, ?_⟩
  have q := h2.dup.back (i := i) h1
  have : (ρ.set i none).set i (some (.d d)) = ρ := by
    rw [List.set_set]
    apply List.ext_getElem?
    intro j
    by_cases z : i = j
    · subst z
      rw [List.getElem?_set_self (List.getElem?_eq_some_iff.mp e).1, e]
    · rw [List.getElem?_set_ne z]
  rw [this] at q
  exact q
theorem Ok.readFn {n : Str} (h : Ok K m B σ H ρ ws ts) (e : ρ[i]? = some (some (.fn n))) : ∃ a, σ[i]? = some (some (.ref a)) ∧ PySem.W.nsIn K mainGlobals n = some (some (.ref a)) ∧ Ok K m B σ H ρ (.ref a :: ws) (.fn n :: ts) := by
  obtain ⟨v, h1, h2⟩ := h.take e
  obtain ⟨a, ev, hn⟩ := h2.topFn
  subst ev
  exact ⟨a, h1, hn, h.pushFn hn⟩
/-- .. the script -/
theorem Ok.readScr {ns : List Int} (h : Ok K m B σ H ρ ws ts) (e : ρ[i]? = some (some (.scr ns))) : ∃ v, σ[i]? = some (some v) ∧ Ok K m B σ H ρ (v :: ws) (.scr ns :: ts) := by
  obtain ⟨v, h1, h2⟩ := h.take e
  refine ⟨v, h1, ?_⟩
  have h3 : Ok K m B σ H (ρ.set i none) (v :: v :: ws) (.scr ns :: .scr ns :: ts) := by
    obtain ⟨I, Fr, Fw, s, r, w, km⟩ := h2
    cases w with
    | cons a b =>
      cases a with
      | scr q => exact ⟨I, Fr, _, s, r, .cons (F := []) (.scr q) (.cons (F := []) (.scr q) b), km⟩
  have q := h3.back (i := i) h1
  have : (ρ.set i none).set i (some (.scr ns)) = ρ := by
    rw [List.set_set]
    apply List.ext_getElem?
    intro j
    by_cases z : i = j
    · subst z
      rw [List.getElem?_set_self (List.getElem?_eq_some_iff.mp e).1, e]
    · rw [List.getElem?_set_ne z]
  rw [this] at q
  exact q
theorem Ok.dupExc {n : Str} {fs : List (Str × PyData)} (h : Ok K m B σ H ρ (x :: ws) (.exc n fs :: ts)) : Ok K m B σ H ρ (x :: x :: ws) (.exc n fs :: .exc n fs :: ts) := by
  obtain ⟨I, Fr, Fw, s, r, w, km⟩ := h
  cases w with
  | cons a b =>
    cases a with
    | exc q => exact ⟨I, Fr, _, s, r, .cons (F := []) (.exc q) (.cons (F := []) (.exc q) b), km⟩
/-- .. a caught exception -/
theorem Ok.readExc {n : Str} {fs : List (Str × PyData)} (h : Ok K m B σ H ρ ws ts) (e : ρ[i]? = some (some (.exc n fs))) : ∃ v, σ[i]? = some (some v) ∧ Ok K m B σ H ρ (v :: ws) (.exc n fs :: ts) := by
  obtain ⟨v, h1, h2⟩ := h.take e
  have q := h2.dupExc.back (i := i) h1
  refine ⟨v, h1, ?_⟩
  have : (ρ.set i none).set i (some (.exc n fs)) = ρ := by
    rw [List.set_set]
    apply List.ext_getElem?
    intro j
    by_cases z : i = j
    · subst z
      rw [List.getElem?_set_self (List.getElem?_eq_some_iff.mp e).1, e]
    · rw [List.getElem?_set_ne z]
  rw [this] at q
  exact q
theorem Ok.dupFin {n : Str} {fs : List (Str × PyData)} (h : Ok K m B σ H ρ (x :: ws) (.fin n fs :: ts)) : Ok K m B σ H ρ (x :: x :: ws) (.fin n fs :: .fin n fs :: ts) := by
  obtain ⟨I, Fr, Fw, s, r, w, km⟩ := h
  cases w with
  | cons a b =>
    cases a with
    | fin q => exact ⟨I, Fr, _, s, r, .cons (F := []) (.fin q) (.cons (F := []) (.fin q) b), km⟩
/-- .. an instance that doesn't change -/
theorem Ok.readFin {n : Str} {fs : List (Str × PyData)} (h : Ok K m B σ H ρ ws ts) (e : ρ[i]? = some (some (.fin n fs))) : ∃ v, σ[i]? = some (some v) ∧ Ok K m B σ H ρ (v :: ws) (.fin n fs :: ts) := by
  obtain ⟨v, h1, h2⟩ := h.take e
  have q := h2.dupFin.back (i := i) h1
  refine ⟨v, h1, ?_⟩
  have : (ρ.set i none).set i (some (.fin n fs)) = ρ := by
    rw [List.set_set]
    apply List.ext_getElem?
    intro j
    by_cases z : i = j
    · subst z
      rw [List.getElem?_set_self (List.getElem?_eq_some_iff.mp e).1, e]
    · rw [List.getElem?_set_ne z]
  rw [this] at q
  exact q
theorem Ok.new {o : HO} {p : Addr} (h : Ok K m B σ H ρ ws ts) (hp : H p = none) (q : ∀ I, Same I H → Dr K (upd I p o) (.ref p) d) : Ok K m B σ (upd H p o) ρ (.ref p :: ws) (.d d :: ts) := by
  obtain ⟨I, Fr, Fw, s, r, w, km⟩ := h
  have hI := (s.fresh hp).2.1
  have sm : Same I (upd I p o) := fun a u e => by rw [upd_ne (ne_of_none e hI)]; exact e
  have nf : ∀ a ∈ Fr ++ Fw, (upd H p o) a = H a := fun a z => upd_ne (show a ≠ p from fun e => s.thr a z (by rw [e]; exact hp))
  exact ⟨_, Fr, Fw, s.newD hp, r.mono sm fun a z => nf a (List.mem_append_left _ z), .cons (F := []) (.d (q I s.sub)) (w.mono sm fun a z => nf a (List.mem_append_right _ z)), km⟩
theorem Ok.len (h : Ok K m B σ H ρ ws ts) : σ.length = ρ.length := by
  obtain ⟨I, Fr, Fw, s, r, w, km⟩ := h
  exact r.len

/-- an exception leaves -/
def OkX (K : PySem.W.Frag) (m : List Bool) (cl : Str → Option Value) (B : Bs) (σ : St) (H : Hp) (ρ : Rho) (e : Exn) (c : Value) (d : Option Addr) : Prop :=
  ∃ I Fr vs, Sit B I H Fr ∧ RepR K I H σ ρ Fr ∧ Kept m B σ ∧ cl e.C = some c ∧ ((e.fs ≠ [] → ∃ d', d = some d' ∧ I d' = some (.xd ((e.fs.map (·.1)).zip vs))) ∧ (e.fs = [] → d = none)) ∧ DrAll K I vs (e.fs.map (·.2))

def PostG {α : Type} (K : PySem.W.Frag) (w : Wd) (B : Bs) (r : R α) (P : α → Rho → Prop) : Prop := match r with
  | .ok a ρ' => P a ρ'
  | .ex e ρ' => ∀ c d σ' H', OkX K w.m w.cl B σ' H' ρ' e c d → w.W c d σ' H'
  | .no => False
theorem PostG.bind {α β : Type} {w : Wd} {f : M α} {g : α → M β} {P : β → Rho → Prop} (h : PostG K w B (mbind f g ρ) P) : PostG K w B (f ρ) fun a ρ' => PostG K w B (g a ρ') P := by
  unfold mbind at h
  cases e : f ρ with
  | ok a ρ' => rw [e] at h; exact h
  | ex x ρ' => rw [e] at h; exact h
  | no => rw [e] at h; exact h
theorem PostG.mono {α : Type} {w : Wd} {r : R α} {P P' : α → Rho → Prop} (h : PostG K w B r P) (k : ∀ a ρ', P a ρ' → P' a ρ') : PostG K w B r P' := by
  cases r with
  | ok a ρ' => exact k _ _ h
  | ex x ρ' => exact h
  | no => exact h
theorem PostG.opt {α : Type} {w : Wd} {o : Option α} {P : α → Rho → Prop} (h : PostG K w B (mopt o ρ) P) : ∃ a, o = some a ∧ P a ρ := by
  cases o with
  | none => exact h.elim
  | some a => exact ⟨a, rfl, h⟩
end

def DenE (K : PySem.W.Frag) (w : Wd) (t : TE) (f : M T) : Prop := ∀ B σ H ρ ws ts Q, Ok K w.m B σ H ρ ws ts →
  PostG K w B (f ρ) (fun v ρ' => ∀ x H', Ok K w.m B σ H' ρ' (x :: ws) (v :: ts) → Q x H') → t σ H Q
def DenT (K : PySem.W.Frag) (w : Wd) (t : TT) (f : M Bool) : Prop := ∀ B σ H ρ ws ts Q, Ok K w.m B σ H ρ ws ts →
  PostG K w B (f ρ) (fun v ρ' => ∀ H', Ok K w.m B σ H' ρ' ws ts → Q v H') → t σ H Q
/-- an argument list: those handed out of slots -/
def Orig (σ : St) (os : List (Option Nat)) (xs : List V) : Prop := ∀ k i : Nat, os[k]? = some (some i) → ∃ x, xs[k]? = some x ∧ σ[i]? = some (some x)
def DenA (K : PySem.W.Frag) (w : Wd) (t : TA) (os : List (Option Nat)) (f : M (List T)) : Prop := ∀ B σ H ρ ws ts Q, Ok K w.m B σ H ρ ws ts →
  PostG K w B (f ρ) (fun vs ρ' => ∀ xs H', xs.length = vs.length → Ok K w.m B σ H' ρ' (xs ++ ws) (vs ++ ts) → Orig σ os xs → Q xs H') → t σ H Q
def PostS (K : PySem.W.Frag) (w : Wd) (B : Bs) (ws : List V) (ts : List T) (D : Ends) (fl : Fl) (ρ' : Rho) : Prop := match fl with
  | .nx => ∀ σ' H', Ok K w.m B σ' H' ρ' ws ts → D.nx σ' H'
  | .rt v => ∀ x σ' H', Ok K w.m B σ' H' ρ' (x :: ws) (v :: ts) → D.rt x H'
  | .bk => ∀ σ' H', Ok K w.m B σ' H' ρ' ws ts → D.bk σ' H'
  | .ct => ∀ σ' H', Ok K w.m B σ' H' ρ' ws ts → D.ct σ' H'
def DenS (K : PySem.W.Frag) (w : Wd) (t : TS) (f : M Fl) : Prop := ∀ B σ H ρ ws ts D, Ok K w.m B σ H ρ ws ts →
  PostG K w B (f ρ) (PostS K w B ws ts D) → t D σ H
/-- two rows of slots that part at S alone -/
def SameOut (S : List Nat) (σ σ' : St) : Prop := σ'.length = σ.length ∧ ∀ j : Nat, j ∉ S → σ'[j]? = σ[j]?
def DenG (K : PySem.W.Frag) (w : Wd) (t : TG) (S : List Nat) (f : T → M Unit) : Prop := ∀ B σ H ρ ws ts x v Q, Ok K w.m B σ H ρ (x :: ws) (v :: ts) →
  PostG K w B (f v ρ) (fun _ ρ' => ∀ σ' H', SameOut S σ σ' → Ok K w.m B σ' H' ρ' ws ts → Q σ' H') → t x σ H Q

structure DE (X : Cx) (w : Wd) (e : Expr) (f : M T) : Prop where
  ex : ∃ t, PE X e t ∧ DenE X.K w t f
structure DT (X : Cx) (w : Wd) (e : Expr) (f : M Bool) : Prop where
  ex : ∃ t, PT X e t ∧ DenT X.K w t f
structure DA (X : Cx) (w : Wd) (es : List Expr) (os : List (Option Nat)) (f : M (List T)) : Prop where
  ex : ∃ t, PA X es t ∧ DenA X.K w t os f
  len : ∀ vs ρ ρ', f ρ = .ok vs ρ' → vs.length = es.length
structure DS (X : Cx) (w : Wd) (st : Stmt) (f : M Fl) : Prop where
  ex : ∃ t, PS X st t ∧ DenS X.K w t f
structure DSs (X : Cx) (w : Wd) (st : List Stmt) (f : M Fl) : Prop where
  ex : ∃ t, PSs X st t ∧ DenS X.K w t f
structure DG (X : Cx) (w : Wd) (tg : Expr) (S : List Nat) (f : T → M Unit) : Prop where
  ex : ∃ t, PG X tg t ∧ DenG X.K w t S f

section
variable {X : Cx} {w : Wd} {a b c e : Expr} {es : List Expr} {fa fb fc f : M T} {pos : Pos} {ga gb : M Bool}

/-! ### names, constants -/
def dget (i : Nat) : M T := fun ρ => match ρ[i]? with
  | some (some (.d x)) => .ok (.d x) ρ
  | some (some (.fn a)) => .ok (.fn a) ρ
  | some (some (.scr ns)) => .ok (.scr ns) ρ
  | some (some (.exc n fs)) => .ok (.exc n fs) ρ
  | some (some (.fin n fs)) => .ok (.fin n fs) ρ
  | _ => .no
theorem de_v {t : TE} (h : PE X e t) (hd : DenE X.K w t f) : DE X w e f := ⟨t, h, hd⟩
theorem den_get {K : PySem.W.Frag} {i : Nat} : DenE K w (tVar i) (dget i) := fun B σ H ρ ws ts Q ok p => by
  unfold dget at p
  cases e : ρ[i]? with
  | none => rw [e] at p; exact p.elim
  | some o =>
    cases o with
    | none => rw [e] at p; exact p.elim
    | some t =>
      cases t with
      | d x =>
        rw [e] at p
        obtain ⟨v, h1, h2⟩ := ok.read e
        exact ⟨v, h1, p v H h2⟩
      | fn a =>
        rw [e] at p
        obtain ⟨b, h1, _, h2⟩ := ok.readFn e
        exact ⟨_, h1, p _ H h2⟩
      | scr ns =>
        rw [e] at p
        obtain ⟨v, h1, h2⟩ := ok.readScr e
        exact ⟨v, h1, p v H h2⟩
      | exc n fs =>
        rw [e] at p
        obtain ⟨v, h1, h2⟩ := ok.readExc e
        exact ⟨v, h1, p v H h2⟩
      | fin n fs =>
        rw [e] at p
        obtain ⟨v, h1, h2⟩ := ok.readFin e
        exact ⟨v, h1, p v H h2⟩
      | _ => rw [e] at p; exact p.elim
theorem dv (i : Nat) {x : Str} (hN : X.N[i]? = some x := by rfl) (hv : Vis X.env.scope x := by first | exact Or.inl rfl | exact Or.inr (Or.inl rfl) | exact Or.inr (Or.inr rfl)) (hd : (x == ("__debug__" : Str)) = false := by decide)
    (hcd : (x == ("__classdict__" : Str)) = false := by decide) : DE X w (.Name x pos) (dget i) := de_v (pe_var hN hv hd hcd) den_get
/-- an own one, handed out -/
def dtake (i : Nat) : M T := fun ρ => match ρ[i]? with
  | some (some t) => .ok t (ρ.set i none)
  | _ => .no
theorem den_take {K : PySem.W.Frag} {i : Nat} : DenE K w (tVar i) (dtake i) := fun B σ H ρ ws ts Q ok p => by
  unfold dtake at p
  cases e : ρ[i]? with
  | none => rw [e] at p; exact p.elim
  | some o =>
    cases o with
    | none => rw [e] at p; exact p.elim
    | some t =>
      rw [e] at p
      obtain ⟨v, h1, h2⟩ := ok.take e
      exact ⟨v, h1, p v H h2⟩
theorem dmv (i : Nat) {x : Str} (hN : X.N[i]? = some x := by rfl) (hv : Vis X.env.scope x := by first | exact Or.inl rfl | exact Or.inr (Or.inl rfl) | exact Or.inr (Or.inr rfl)) (hd : (x == ("__debug__" : Str)) = false := by decide)
    (hcd : (x == ("__classdict__" : Str)) = false := by decide) : DE X w (.Name x pos) (dtake i) := de_v (pe_var hN hv hd hcd) den_take
theorem den_c {K : PySem.W.Frag} {v : V} {d : PyData} (h : ∀ I, Dr K I v d) : DenE K w (tC v) (mret (.d d)) := fun B σ H ρ ws ts Q ok p => p v H (ok.push h)
theorem de_int {i : Int} {j} : DE X w (.Constant (.int i) j pos) (mret (.d (.int i))) := de_v pe_int (den_c fun _ => .int i)
theorem de_bl {i : Bool} {j} : DE X w (.Constant (.bool i) j pos) (mret (.d (.bool i))) := de_v pe_bl (den_c fun _ => .bl i)
theorem de_str {i : Str} {j} : DE X w (.Constant (.str i) j pos) (mret (.d (.str i))) := de_v pe_str (den_c fun _ => .str i)
theorem de_non {j} : DE X w (.Constant .none j pos) (mret (.d .none)) := de_v pe_non (den_c fun _ => .non)
/-- a constant of the module -/
structure GlobD (X : Cx) (x : Str) (d : PyData) : Prop where
  ex : ∃ v u, X.mg x = some u ∧ RelV v u ∧ ∀ I, Dr X.K I v d
theorem de_glob {x : Str} {d : PyData} (h : GlobD X x d) (hg : Gl X x) (hd : (x == ("__debug__" : Str)) = false := by decide) : DE X w (.Name x pos) (mret (.d d)) := by
  obtain ⟨v, u, h1, h2, h3⟩ := h.ex
  exact de_v (pe_glob hg h1 h2 hd) (den_c h3)

/-! ### operators -/
def OpD (K : PySem.W.Frag) (m : List Bool) (r : R2) (g : T → T → Option T) : Prop := ∀ B σ H ρ ws ts x y t u v (Q : VK), Ok K m B σ H ρ (y :: x :: ws) (u :: t :: ts) → g t u = some v →
  (∀ z H', Ok K m B σ H' ρ (z :: ws) (v :: ts) → Q z H') → r x y H Q
def dop (g : T → T → Option T) (fa fb : M T) : M T := mbind fa fun x => mbind fb fun y => mopt (g x y)
theorem den_op {K : PySem.W.Frag} {ta tb : TE} {r : R2} {g : T → T → Option T} (ha : DenE K w ta fa) (hb : DenE K w tb fb) (hg : OpD K w.m r g) : DenE K w (tOp r ta tb) (dop g fa fb) := fun B σ H ρ ws ts Q ok p => by
  refine ha B σ H ρ ws ts _ ok (p.bind.mono fun v ρ1 p1 x H1 ok1 => ?_)
  refine hb B σ H1 ρ1 _ _ _ ok1 (p1.bind.mono fun u ρ2 p2 y H2 ok2 => ?_)
  obtain ⟨z, e, q⟩ := p2.opt
  exact hg B σ H2 ρ2 ws ts x y v u z Q ok2 e q
theorem de_op {op : Operator} {r : R2} {g : T → T → Option T} (ho : OpR X (binaryOp op) r) (hg : OpD X.K w.m r g) (ha : DE X w a fa) (hb : DE X w b fb) : DE X w (.BinOp a op b pos) (dop g fa fb) := by
  obtain ⟨ta, pa, da⟩ := ha.ex
  obtain ⟨tb, pb, db⟩ := hb.ex
  exact de_v (pe_op ho pa pb) (den_op da db hg)
theorem de_cmp {op : CmpOp} {r : R2} {g : T → T → Option T} (ho : OpR X (compareOp op) r) (hg : OpD X.K w.m r g) (ha : DE X w a fa) (hb : DE X w b fb) (hm : behindInMarks op b = false) : DE X w (.Compare a [op] [b] pos) (dop g fa fb) := by
  obtain ⟨ta, pa, da⟩ := ha.ex
  obtain ⟨tb, pb, db⟩ := hb.ex
  exact de_v (pe_cmpR ho pa pb hm) (den_op da db hg)
theorem OpD.or {K : PySem.W.Frag} {m : List Bool} {r r' : R2} {g g' : T → T → Option T} (h : OpD K m r g) (h' : OpD K m r' g') : OpD K m (fun x y H Q => r x y H Q ∨ r' x y H Q) (fun t u => (g t u).or (g' t u)) :=
  fun B σ H ρ ws ts x y t u v Q ok e q => by
    have e : (g t u).or (g' t u) = some v := e
    cases e1 : g t u with
    | some z =>
      rw [e1] at e
      exact .inl (h B σ H ρ ws ts x y t u v Q ok (by rw [e1]; exact e) q)
    | none =>
      rw [e1] at e
      exact .inr (h' B σ H ρ ws ts x y t u v Q ok e q)
/-- on data -/
def onD (g : PyData → PyData → Option PyData) : T → T → Option T := fun t u => match t, u with
  | .d x, .d y => (g x y).map T.d
  | _, _ => none
theorem OpD.ofD {K : PySem.W.Frag} {m : List Bool} {r : R2} {g : PyData → PyData → Option PyData}
    (h : ∀ B σ H ρ ws ts x y t u v (Q : VK), Ok K m B σ H ρ (y :: x :: ws) (.d u :: .d t :: ts) → g t u = some v → (∀ z H', Ok K m B σ H' ρ (z :: ws) (.d v :: ts) → Q z H') → r x y H Q) : OpD K m r (onD g) :=
  fun B σ H ρ ws ts x y t u v Q ok e q => by
    cases t with
    | d t =>
      cases u with
      | d u =>
        unfold onD at e
        simp only at e
        cases e1 : g t u with
        | none => rw [e1] at e; cases e
        | some z =>
          rw [e1] at e
          cases e
          exact h B σ H ρ ws ts x y t u z Q ok e1 q
      | _ => cases e
    | _ => cases e

/-! ### and, or, not, if -/
def dandV (fa fb : M T) : M T := mbind fa fun x => match x with
  | .d (.bool true) => fb
  | .d (.bool false) => mret (.d (.bool false))
  | _ => mno
def dorV (fa fb : M T) : M T := mbind fa fun x => match x with
  | .d (.bool false) => fb
  | .d (.bool true) => mret (.d (.bool true))
  | _ => mno
def dnotV (fa : M T) : M T := mbind fa fun x => match x with
  | .d (.bool b) => mret (.d (.bool (!b)))
  | _ => mno
theorem de_one {op} (h : DE X w a fa) : DE X w (.BoolOp op [a] pos) fa := by
  obtain ⟨ta, pa, da⟩ := h.ex
  exact de_v (pe_one pa) da
theorem bool_of {B : Bs} {K : PySem.W.Frag} {P : T → Rho → Prop} {v : T} {ρ : Rho} {g : Bool → M T} (p : PostG K w B ((match v with | .d (.bool b) => g b | _ => mno : M T) ρ) P) : ∃ b, v = .d (.bool b) ∧ PostG K w B (g b ρ) P := by
  cases v with
  | d x =>
    cases x with
    | bool b => exact ⟨b, rfl, p⟩
    | _ => exact p.elim
  | _ => exact p.elim
theorem de_and {rest : List Expr} (ha : DE X w a fa) (hb : DE X w (.BoolOp .And (b :: rest) pos) fb) : DE X w (.BoolOp .And (a :: b :: rest) pos) (dandV fa fb) := by
  obtain ⟨ta, pa, da⟩ := ha.ex
  obtain ⟨tb, pb, db⟩ := hb.ex
  refine de_v (pe_and pa pb) fun B σ H ρ ws ts Q ok p => ?_
  refine da B σ H ρ ws ts _ ok (p.bind.mono fun v ρ1 p1 x H1 ok1 => ?_)
  cases v with
  | d x =>
    cases x with
    | bool b =>
      have ex := ok1.topBl
      subst ex
      refine ⟨b, rfl, ?_⟩
      cases b with
      | true =>
        rw [if_pos rfl]
        exact db B σ H1 ρ1 ws ts Q ok1.pop p1
      | false =>
        rw [if_neg Bool.false_ne_true]
        exact p1 _ _ ok1
    | _ => exact p1.elim
  | _ => exact p1.elim
theorem de_or {rest : List Expr} (ha : DE X w a fa) (hb : DE X w (.BoolOp .Or (b :: rest) pos) fb) : DE X w (.BoolOp .Or (a :: b :: rest) pos) (dorV fa fb) := by
  obtain ⟨ta, pa, da⟩ := ha.ex
  obtain ⟨tb, pb, db⟩ := hb.ex
  refine de_v (pe_or pa pb) fun B σ H ρ ws ts Q ok p => ?_
  refine da B σ H ρ ws ts _ ok (p.bind.mono fun v ρ1 p1 x H1 ok1 => ?_)
  cases v with
  | d x =>
    cases x with
    | bool b =>
      have ex := ok1.topBl
      subst ex
      refine ⟨b, rfl, ?_⟩
      cases b with
      | false =>
        rw [if_neg Bool.false_ne_true]
        exact db B σ H1 ρ1 ws ts Q ok1.pop p1
      | true =>
        rw [if_pos rfl]
        exact p1 _ _ ok1
    | _ => exact p1.elim
  | _ => exact p1.elim
theorem de_not (ha : DE X w a fa) : DE X w (.UnaryOp .Not a pos) (dnotV fa) := by
  obtain ⟨ta, pa, da⟩ := ha.ex
  refine de_v (pe_not pa) fun B σ H ρ ws ts Q ok p => ?_
  refine da B σ H ρ ws ts _ ok (p.bind.mono fun v ρ1 p1 x H1 ok1 => ?_)
  cases v with
  | d x =>
    cases x with
    | bool b =>
      have ex := ok1.topBl
      subst ex
      exact ⟨b, rfl, p1 _ _ ok1.pop.bl⟩
    | _ => exact p1.elim
  | _ => exact p1.elim
/-- a test by a bool's value -/
def dval (fa : M T) : M Bool := mbind fa fun x => match x with
  | .d (.bool b) => mret b
  | _ => mno
theorem dt_val (ha : DE X w a fa) (he : ∀ whole, isTrue a X.env whole = (do let v ← whole; standAt a.pos; holding [v] (truthy v)) := by intro _; rfl) : DT X w a (dval fa) := by
  obtain ⟨ta, pa, da⟩ := ha.ex
  refine ⟨_, pt_val pa he, fun B σ H ρ ws ts Q ok p => ?_⟩
  refine da B σ H ρ ws ts _ ok (p.bind.mono fun v ρ1 p1 x H1 ok1 => ?_)
  cases v with
  | d x =>
    cases x with
    | bool b =>
      have ex := ok1.topBl
      subst ex
      exact ⟨b, rfl, p1 _ ok1.pop⟩
    | _ => exact p1.elim
  | _ => exact p1.elim
theorem dt_cmp {op : CmpOp} {r : R2} {g : T → T → Option T} (ho : OpR X (compareOp op) r) (hg : OpD X.K w.m r g) (ha : DE X w a fa) (hb : DE X w b fb) (hm : behindInMarks op b = false) : DT X w (.Compare a [op] [b] pos) (dval (dop g fa fb)) := by
  obtain ⟨ta, pa, da⟩ := ha.ex
  obtain ⟨tb, pb, db⟩ := hb.ex
  refine ⟨_, pt_cmpR ho pa pb hm, fun B σ H ρ ws ts Q ok p => ?_⟩
  refine den_op da db hg B σ H ρ ws ts _ ok (p.bind.mono fun v ρ1 p1 x H1 ok1 => ?_)
  cases v with
  | d x =>
    cases x with
    | bool b =>
      have ex := ok1.topBl
      subst ex
      exact ⟨b, rfl, p1 _ ok1.pop⟩
    | _ => exact p1.elim
  | _ => exact p1.elim
structure DW (X : Cx) (w : Wd) (e : Expr) (f : M Bool) : Prop where
  ex : ∃ t, PW X e t ∧ DenT X.K w t f
def dand (fa fb : M Bool) : M Bool := mbind fa fun x => if x = true then fb else mret false
def dor (fa fb : M Bool) : M Bool := mbind fa fun x => if x = true then mret true else fb
def dnot (fa : M Bool) : M Bool := mbind fa fun x => mret (!x)
theorem DW.t (h : DW X w e ga) : DT X w e ga := by
  obtain ⟨t, p, d⟩ := h.ex
  exact ⟨t, p.pt, d⟩
theorem dw_and1 (h : DT X w a ga) : DW X w (.BoolOp .And [a] pos) ga := by
  obtain ⟨t, p, d⟩ := h.ex
  exact ⟨t, pw_and1 p, d⟩
theorem dw_or1 (h : DT X w a ga) : DW X w (.BoolOp .Or [a] pos) ga := by
  obtain ⟨t, p, d⟩ := h.ex
  exact ⟨t, pw_or1 p, d⟩
theorem dw_and {rest : List Expr} (ha : DT X w a ga) (hb : DW X w (.BoolOp .And (b :: rest) pos) gb) : DW X w (.BoolOp .And (a :: b :: rest) pos) (dand ga gb) := by
  obtain ⟨t, p, d⟩ := ha.ex
  obtain ⟨t', p', d'⟩ := hb.ex
  refine ⟨_, pw_and p p', fun B σ H ρ ws ts Q ok q => ?_⟩
  refine d B σ H ρ ws ts _ ok (q.bind.mono fun v ρ1 p1 H1 ok1 => ?_)
  cases v with
  | true => rw [if_pos rfl] at p1 ⊢; exact d' B σ H1 ρ1 ws ts Q ok1 p1
  | false => rw [if_neg Bool.false_ne_true] at p1 ⊢; exact p1 _ ok1
theorem dw_or {rest : List Expr} (ha : DT X w a ga) (hb : DW X w (.BoolOp .Or (b :: rest) pos) gb) : DW X w (.BoolOp .Or (a :: b :: rest) pos) (dor ga gb) := by
  obtain ⟨t, p, d⟩ := ha.ex
  obtain ⟨t', p', d'⟩ := hb.ex
  refine ⟨_, pw_or p p', fun B σ H ρ ws ts Q ok q => ?_⟩
  refine d B σ H ρ ws ts _ ok (q.bind.mono fun v ρ1 p1 H1 ok1 => ?_)
  cases v with
  | true => rw [if_pos rfl] at p1 ⊢; exact p1 _ ok1
  | false => rw [if_neg Bool.false_ne_true] at p1 ⊢; exact d' B σ H1 ρ1 ws ts Q ok1 p1
theorem dt_not (ha : DT X w a ga) : DT X w (.UnaryOp .Not a pos) (dnot ga) := by
  obtain ⟨t, p, d⟩ := ha.ex
  refine ⟨_, pt_not p, fun B σ H ρ ws ts Q ok q => ?_⟩
  exact d B σ H ρ ws ts _ ok (q.bind.mono fun v ρ1 p1 H1 ok1 => p1 _ ok1)
def dif (g : M Bool) (fa fb : M T) : M T := mbind g fun b => if b = true then fa else fb
theorem de_if (hc : DT X w c ga) (ha : DE X w a fa) (hb : DE X w b fb) : DE X w (.IfExp c a b pos) (dif ga fa fb) := by
  obtain ⟨t, p, d⟩ := hc.ex
  obtain ⟨ta, pa, da⟩ := ha.ex
  obtain ⟨tb, pb, db⟩ := hb.ex
  refine de_v (pe_ifExp p pa pb) fun B σ H ρ ws ts Q ok q => ?_
  refine d B σ H ρ ws ts _ ok (q.bind.mono fun v ρ1 p1 H1 ok1 => ?_)
  cases v with
  | true => rw [if_pos rfl] at p1 ⊢; exact da B σ H1 ρ1 ws ts Q ok1 p1
  | false => rw [if_neg Bool.false_ne_true] at p1 ⊢; exact db B σ H1 ρ1 ws ts Q ok1 p1

/-! ### statements -/
variable {st : Stmt} {rest : List Stmt} {F G : M Fl}
theorem dss_nil : DSs X w [] (mret .nx) := ⟨_, pss_nil, fun B σ H ρ ws ts D ok p => p σ H ok⟩
theorem den_seq {K : PySem.W.Frag} {t u : TS} (h1 : DenS K w t F) (h2 : DenS K w u G) : DenS K w (tSeq t u) (mseq F G) := fun B σ H ρ ws ts D ok p => by
  refine h1 B σ H ρ ws ts _ ok (p.bind.mono fun fl ρ1 p1 => ?_)
  cases fl with
  | nx => exact fun σ' H' ok' => h2 B σ' H' ρ1 ws ts D ok' p1
  | rt v => exact p1
  | bk => exact p1
  | ct => exact p1
theorem dss_cons (h1 : DS X w st F) (h2 : DSs X w rest G) : DSs X w (st :: rest) (mseq F G) := by
  obtain ⟨t, p, d⟩ := h1.ex
  obtain ⟨t', p', d'⟩ := h2.ex
  exact ⟨_, pss_cons p p', den_seq d d'⟩
theorem dss_one (h1 : DS X w st F) : DSs X w [st] F := by
  obtain ⟨t, p, d⟩ := h1.ex
  exact ⟨_, pss_one p, d⟩
theorem ds_pass : DS X w (.Pass pos) (mret .nx) := ⟨_, ps_pass, fun B σ H ρ ws ts D ok p => p σ H ok⟩
theorem ds_break : DS X w (.Break pos) (mret .bk) := ⟨_, ps_break, fun B σ H ρ ws ts D ok p => p σ H ok⟩
theorem ds_continue : DS X w (.Continue pos) (mret .ct) := ⟨_, ps_continue, fun B σ H ρ ws ts D ok p => p σ H ok⟩
def sdrop (f : M T) : M Fl := mbind f fun _ => mret .nx
theorem ds_expr (he : DE X w e f) (hs : swapsWith e none pos.line X.env = pure false := by rfl) : DS X w (.Expr e pos) (sdrop f) := by
  obtain ⟨t, p, d⟩ := he.ex
  refine ⟨_, ps_expr p hs, fun B σ H ρ ws ts D ok q => ?_⟩
  exact d B σ H ρ ws ts _ ok (q.bind.mono fun v ρ1 p1 x H1 ok1 => p1 σ H1 ok1.pop)
def sret (f : M T) : M Fl := mbind f fun v => mret (.rt v)
theorem ds_ret (he : DE X w e f) : DS X w (.Return (some e) pos) (sret f) := by
  obtain ⟨t, p, d⟩ := he.ex
  refine ⟨_, ps_ret p, fun B σ H ρ ws ts D ok q => ?_⟩
  exact d B σ H ρ ws ts _ ok (q.bind.mono fun v ρ1 p1 x H1 ok1 => p1 x σ H1 ok1)
theorem ds_retN : DS X w (.Return none pos) (mret (.rt (.d .none))) := ⟨_, ps_retN, fun B σ H ρ ws ts D ok p => p .non σ H ok.non⟩
def sif (g : M Bool) (F G : M Fl) : M Fl := mbind g fun b => if b = true then F else G
theorem ds_if {sa sb : List Stmt} (hc : DT X w c ga) (ha : DSs X w sa F) (hb : DSs X w sb G) : DS X w (.If c sa sb pos) (sif ga F G) := by
  obtain ⟨t, p, d⟩ := hc.ex
  obtain ⟨ta, pa, da⟩ := ha.ex
  obtain ⟨tb, pb, db⟩ := hb.ex
  refine ⟨_, ps_if p pa pb, fun B σ H ρ ws ts D ok q => ?_⟩
  refine d B σ H ρ ws ts _ ok (q.bind.mono fun v ρ1 p1 H1 ok1 => ?_)
  cases v with
  | true => rw [if_pos rfl] at p1 ⊢; exact da B σ H1 ρ1 ws ts D ok1 p1
  | false => rw [if_neg Bool.false_ne_true] at p1 ⊢; exact db B σ H1 ρ1 ws ts D ok1 p1
/-- a name's store -/
def NotM (w : Wd) (i : Nat) : Prop := w.m[i]? ≠ some true
theorem dg_name {i : Nat} {x : Str} (hN : X.N.Nodup) (hi : X.N[i]? = some x) (hx : Loc X.env.scope x) (hm : NotM w i) (hf : X.fn x = true ∨ X.env.scope.names.lookup x = some .local := by first | exact .inl rfl | exact .inr rfl | assumption) : DG X w (.Name x pos) [i] (mset i) :=
  ⟨_, pg_name hN hi hx hf, fun B σ H ρ ws ts x v Q ok p => p _ H ⟨by rw [List.length_set], fun j hj => List.getElem?_set_ne (fun e => hj (by rw [e]; exact List.mem_singleton_self _))⟩ (ok.store hm)⟩
def sset (i : Nat) (f : M T) : M Fl := mbind f fun v => mbind (mset i v) fun _ => mret .nx
theorem ds_set (i : Nat) {x : Str} {pos' : Pos} (hN : X.N.Nodup) (he : DE X w e f) (hm : NotM w i := by intro h; cases h) (hi : X.N[i]? = some x := by rfl) (hx : Loc X.env.scope x := by first | exact Or.inl rfl | exact Or.inr rfl)
    (hs : swapsWith e (some (.Name x pos')) pos.line X.env = pure false := by rfl) (hf : X.fn x = true ∨ X.env.scope.names.lookup x = some .local := by first | exact .inl rfl | exact .inr rfl | assumption) : DS X w (.Assign [.Name x pos'] e pos) (sset i f) := by
  obtain ⟨t, p, d⟩ := he.ex
  refine ⟨_, ps_set (i := i) hN hi hx p hs hf, fun B σ H ρ ws ts D ok q => ?_⟩
  exact d B σ H ρ ws ts _ ok (q.bind.mono fun v ρ1 p1 x H1 ok1 => p1 _ H1 (ok1.store hm))
end
end DL
end
section
set_option Elab.async false
set_option linter.all false
set_option maxRecDepth 100000
set_option maxHeartbeats 4000000
/-! DL3: operators on data, subscripts, slices, displays, arguments. -/
namespace DL
open PySem L2

def lim : Nat := 100000
theorem lim_le {n : Nat} (h : n ≤ lim) : n ≤ sizeLine := Nat.le_trans h (by decide)
theorem lim_lt {n : Nat} (h : n < lim) : n < sizeLine := Nat.lt_of_lt_of_le h (by decide)

section
variable {K : PySem.W.Frag} {m : List Bool} {B : Bs} {σ : St} {H : Hp} {ρ : Rho} {ws : List V} {ts : List T} {x y v : V} {t u : T} {d e : PyData}
theorem Ok.topList {ds : List PyData} (h : Ok K m B σ H ρ (x :: ws) (.d (.list ds) :: ts)) : ∃ a vs, x = .ref a ∧ H a = some (.lst vs) ∧ DrAll K H vs ds := by
  have q := h.topD
  cases q with
  | lst p r => exact ⟨_, _, rfl, p, r⟩
theorem Ok.topTup {ds : List PyData} (h : Ok K m B σ H ρ (x :: ws) (.d (.tuple ds) :: ts)) : ∃ a vs, x = .ref a ∧ SqT K H a vs ∧ DrAll K H vs ds := by
  have q := h.topD
  cases q with
  | tup p r => exact ⟨_, _, rfl, p, r⟩
theorem Ok.topScr {ns : List Int} (h : Ok K m B σ H ρ (x :: ws) (.scr ns :: ts)) : ∃ a, x = .ref a ∧ SqL K H a (ns.map V.int) := by
  obtain ⟨I, Fr, Fw, s, r, w, km⟩ := h
  cases w with
  | cons a b =>
    cases a with
    | scr q => exact ⟨_, rfl, s.sub.seq q⟩
/-- a new list, a new tuple made of what stands in data that is pending -/
theorem Ok.newList {vs : List V} {ds : List PyData} {p : Addr} (h : Ok K m B σ H ρ ws ts) (hp : H p = none)
    (q : ∀ I Fw, Same I H → RepTs K I H ws ts Fw → DrAll K I vs ds) : Ok K m B σ (upd H p (.lst vs)) ρ (.ref p :: ws) (.d (.list ds) :: ts) := by
  obtain ⟨I, Fr, Fw, s, r, w, km⟩ := id h
  have hI := (s.fresh hp).2.1
  have sm : Same I (upd I p (.lst vs)) := fun a u e => by rw [upd_ne (ne_of_none e hI)]; exact e
  have nf : ∀ a ∈ Fr ++ Fw, (upd H p (.lst vs)) a = H a := fun a z => upd_ne (show a ≠ p from fun e => s.thr a z (by rw [e]; exact hp))
  exact ⟨_, Fr, Fw, s.newD hp, r.mono sm fun a z => nf a (List.mem_append_left _ z), .cons (F := []) (.d (.lst upd_same (drAll_mono sm (q I Fw s.sub w)))) (w.mono sm fun a z => nf a (List.mem_append_right _ z)), km⟩
theorem Ok.newTup {vs : List V} {ds : List PyData} {p : Addr} (h : Ok K m B σ H ρ ws ts) (hp : H p = none)
    (q : ∀ I Fw, Same I H → RepTs K I H ws ts Fw → DrAll K I vs ds) : Ok K m B σ (upd H p (.tup vs)) ρ (.ref p :: ws) (.d (.tuple ds) :: ts) := by
  obtain ⟨I, Fr, Fw, s, r, w, km⟩ := id h
  have hI := (s.fresh hp).2.1
  have sm : Same I (upd I p (.tup vs)) := fun a u e => by rw [upd_ne (ne_of_none e hI)]; exact e
  have nf : ∀ a ∈ Fr ++ Fw, (upd H p (.tup vs)) a = H a := fun a z => upd_ne (show a ≠ p from fun e => s.thr a z (by rw [e]; exact hp))
  exact ⟨_, Fr, Fw, s.newD hp, r.mono sm fun a z => nf a (List.mem_append_left _ z), .cons (F := []) (.d (.tup (SqT.of upd_same) (drAll_mono sm (q I Fw s.sub w)))) (w.mono sm fun a z => nf a (List.mem_append_right _ z)), km⟩
/-- the parts of a list that is pending on top, whatever the data's heap -/
theorem parts_lst {I : Hp} {a : Addr} {vs : List V} {ds : List PyData} {Fw : List Addr} (sb : Same I H) (hv : H a = some (.lst vs)) (w : RepTs K I H (.ref a :: ws) (.d (.list ds) :: ts) Fw) : DrAll K I vs ds := by
  cases w with
  | cons q r =>
    cases q with
    | d q =>
      cases q with
      | lst p r =>
        have := sb _ _ p
        rw [hv] at this
        cases this
        exact r
theorem Ok.pop' (h : Ok K m B σ H ρ (x :: ws) (t :: ts)) (q : Ok K m B σ H ρ ws ts → Ok K m B σ H ρ (y :: ws) (u :: ts)) : Ok K m B σ H ρ (y :: ws) (u :: ts) := q h.pop
end

/-! ### + -/
def pAdd : PyData → PyData → Option PyData
  | .int i, .int j => some (.int (i + j))
  | .str a, .str b => if a.length + b.length ≤ lim then some (.str (a ++ b)) else none
  | .list a, .list b => if a.length + b.length ≤ lim then some (.list (a ++ b)) else none
  | .tuple a, .tuple b => if a.length + b.length ≤ lim then some (.tuple (a ++ b)) else none
  | _, _ => none
def rAdd4 (K : PySem.W.Frag) : R2 := fun x y H Q => (∃ i j, x = .int i ∧ y = .int j ∧ Q (.int (i + j)) H) ∨ (∃ i j, x = .str i ∧ y = .str j ∧ i.length + j.length ≤ sizeLine ∧ Q (.str (i ++ j)) H) ∨ rCat x y H Q ∨ rCatA K x y H Q
theorem op_add4 {X : Cx} : OpR X (binaryOp .Add) (rAdd4 X.K) := OpR.or op_add (OpR.or op_add_str (OpR.or op_cat op_catA))
theorem reqs {α : Type} {c : Prop} [Decidable c] {a b : α} (h : (if c then some a else none) = some b) : c ∧ a = b := by
  by_cases q : c
  · rw [if_pos q] at h; exact ⟨q, Option.some.inj h⟩
  · rw [if_neg q] at h; cases h
section
variable {K : PySem.W.Frag} {m : List Bool}
theorem SqT.inj' {B : Bs} {σ : St} {H : Hp} {ρ : Rho} {ws : List V} {ts : List T} (h : Ok K m B σ H ρ ws ts) : True := trivial
/-- the items of a pending tuple, in the data's heap -/
theorem tup_items {I H : Hp} {x : V} {ws : List V} {ts : List T} {ds : List PyData} {Fw : List Addr} (w : RepTs K I H (x :: ws) (.d (.tuple ds) :: ts) Fw) : ∃ a vs, x = .ref a ∧ SqT K I a vs ∧ DrAll K I vs ds := by
  cases w with
  | cons q r =>
    cases q with
    | d q =>
      cases q with
      | tup p r => exact ⟨_, _, rfl, p, r⟩
theorem lst_items {I H : Hp} {x : V} {ws : List V} {ts : List T} {ds : List PyData} {Fw : List Addr} (w : RepTs K I H (x :: ws) (.d (.list ds) :: ts) Fw) : ∃ a vs, x = .ref a ∧ I a = some (.lst vs) ∧ DrAll K I vs ds := by
  cases w with
  | cons q r =>
    cases q with
    | d q =>
      cases q with
      | lst p r => exact ⟨_, _, rfl, p, r⟩
theorem RepTs.tail {I H : Hp} {x : V} {t : T} {ws : List V} {ts : List T} {F : List Addr} (w : RepTs K I H (x :: ws) (t :: ts) F) : ∃ G, RepTs K I H ws ts G := by
  cases w with
  | cons _ r => exact ⟨_, r⟩
/-- two pending tuples: with the heap that the state has -/
theorem Ok.tup2 {B : Bs} {σ : St} {H : Hp} {ρ : Rho} {ws : List V} {ts : List T} {x y : V} {ds es : List PyData} (h : Ok K m B σ H ρ (y :: x :: ws) (.d (.tuple es) :: .d (.tuple ds) :: ts)) :
    ∃ a b vs us, x = .ref a ∧ y = .ref b ∧ SqT K H a vs ∧ SqT K H b us ∧ vs.length = ds.length ∧ us.length = es.length ∧
      ∀ p o, H p = none → (o = .tup (vs ++ us) → Ok K m B σ (upd H p o) ρ (.ref p :: ws) (.d (.tuple (ds ++ es)) :: ts)) := by
  obtain ⟨I, Fr, Fw, s, r, w, km⟩ := id h
  obtain ⟨b, us, rfl, hb, db⟩ := tup_items w
  obtain ⟨G, w'⟩ := w.tail
  obtain ⟨a, vs, rfl, ha, da⟩ := tup_items w'
  refine ⟨a, b, vs, us, rfl, rfl, st_mono s.sub ha, st_mono s.sub hb, da.len, db.len, fun p o hp ho => ?_⟩
  subst ho
  have hI := (s.fresh hp).2.1
  have sm : Same I (upd I p (.tup (vs ++ us))) := fun a u e => by rw [upd_ne (ne_of_none e hI)]; exact e
  have nf : ∀ a ∈ Fr ++ Fw, (upd H p (.tup (vs ++ us))) a = H a := fun a z => upd_ne (show a ≠ p from fun e => s.thr a z (by rw [e]; exact hp))
  exact Ok.pop2 (Ok.pop2 ⟨_, Fr, Fw, s.newD hp, r.mono sm fun a z => nf a (List.mem_append_left _ z), .cons (F := []) (.d (.tup (SqT.of upd_same) (drAll_mono sm (da.append db)))) (w.mono sm fun a z => nf a (List.mem_append_right _ z)), km⟩)
theorem Ok.lst2 {B : Bs} {σ : St} {H : Hp} {ρ : Rho} {ws : List V} {ts : List T} {x y : V} {ds es : List PyData} (h : Ok K m B σ H ρ (y :: x :: ws) (.d (.list es) :: .d (.list ds) :: ts)) :
    ∃ a b vs us, x = .ref a ∧ y = .ref b ∧ H a = some (.lst vs) ∧ H b = some (.lst us) ∧ vs.length = ds.length ∧ us.length = es.length ∧
      ∀ p o, H p = none → (o = .lst (vs ++ us) → Ok K m B σ (upd H p o) ρ (.ref p :: ws) (.d (.list (ds ++ es)) :: ts)) := by
  obtain ⟨I, Fr, Fw, s, r, w, km⟩ := id h
  obtain ⟨b, us, rfl, hb, db⟩ := lst_items w
  obtain ⟨G, w'⟩ := w.tail
  obtain ⟨a, vs, rfl, ha, da⟩ := lst_items w'
  refine ⟨a, b, vs, us, rfl, rfl, s.sub _ _ ha, s.sub _ _ hb, da.len, db.len, fun p o hp ho => ?_⟩
  subst ho
  have hI := (s.fresh hp).2.1
  have sm : Same I (upd I p (.lst (vs ++ us))) := fun a u e => by rw [upd_ne (ne_of_none e hI)]; exact e
  have nf : ∀ a ∈ Fr ++ Fw, (upd H p (.lst (vs ++ us))) a = H a := fun a z => upd_ne (show a ≠ p from fun e => s.thr a z (by rw [e]; exact hp))
  exact Ok.pop2 (Ok.pop2 ⟨_, Fr, Fw, s.newD hp, r.mono sm fun a z => nf a (List.mem_append_left _ z), .cons (F := []) (.d (.lst upd_same (drAll_mono sm (da.append db)))) (w.mono sm fun a z => nf a (List.mem_append_right _ z)), km⟩)
/-- the one that stands at a place below, in the stead of the one on top -/
theorem Ok.nil_tup {B : Bs} {σ : St} {H : Hp} {ρ : Rho} {ws : List V} {ts : List T} {x y : V} {t : T} (h : Ok K m B σ H ρ (y :: x :: ws) (.d d :: t :: ts)) : Ok K m B σ H ρ (y :: ws) (.d d :: ts) := h.swap.pop
theorem DrAll.nil' {I : Hp} {vs : List V} (h : DrAll K I vs []) : vs = [] := by cases h; rfl
theorem od_add : OpD K m (rAdd4 K) (onD pAdd) := OpD.ofD fun B σ H ρ ws ts x y t u v Q ok e q => by
  unfold pAdd at e
  split at e
  · cases e
    have hy := ok.topInt
    have hx := ok.pop.topInt
    subst hx hy
    exact .inl ⟨_, _, rfl, rfl, q _ _ ok.pop.pop.int⟩
  · obtain ⟨hl, e⟩ := reqs e
    subst e
    have hy := ok.topStr
    have hx := ok.pop.topStr
    subst hx hy
    exact .inr (.inl ⟨_, _, rfl, rfl, lim_le hl, q _ _ ok.pop.pop.str⟩)
  · obtain ⟨hl, e⟩ := reqs e
    subst e
    obtain ⟨a, b, vs, us, rfl, rfl, ha, hb, l1, l2, k⟩ := ok.lst2
    exact .inr (.inr (.inl ⟨a, b, vs, us, rfl, rfl, ha, hb, by rw [l1, l2]; exact lim_le hl, fun p hp => q _ _ (k p _ hp rfl)⟩))
  · obtain ⟨hl, e⟩ := reqs e
    subst e
    obtain ⟨a, b, vs, us, rfl, rfl, ha, hb, l1, l2, k⟩ := ok.tup2
    refine .inr (.inr (.inr ⟨a, b, vs, us, rfl, rfl, ha, hb, by rw [l1, l2]; exact lim_le hl, fun z => ?_, fun z1 z2 => ?_, fun z1 z2 p hp => q _ _ (k p _ hp rfl)⟩))
    · rename_i ds es
      have hd : ds = [] := List.eq_nil_of_length_eq_zero (by rw [← l1, z]; rfl)
      subst hd
      exact q _ _ ok.nil_tup
    · rename_i ds es
      have he : es = [] := List.eq_nil_of_length_eq_zero (by rw [← l2, z2]; rfl)
      subst he
      rw [List.append_nil] at q
      exact q _ _ ok.pop
  · cases e

/-! ### ints -/
def pII (g : Int → Int → Option PyData) : PyData → PyData → Option PyData
  | .int i, .int j => g i j
  | _, _ => none
theorem od_I0 {g : Int → Int → Int} : OpD K m (rI0 fun i j => .int (g i j)) (onD (pII fun i j => some (.int (g i j)))) := OpD.ofD fun B σ H ρ ws ts x y t u v Q ok e q => by
  unfold pII at e
  split at e
  · cases e
    have hy := ok.topInt
    have hx := ok.pop.topInt
    subst hx hy
    exact ⟨_, _, rfl, rfl, q _ _ ok.pop.pop.int⟩
  · cases e
theorem od_B0 {g : Int → Int → Bool} : OpD K m (rI0 fun i j => .bl (g i j)) (onD (pII fun i j => some (.bool (g i j)))) := OpD.ofD fun B σ H ρ ws ts x y t u v Q ok e q => by
  unfold pII at e
  split at e
  · cases e
    have hy := ok.topInt
    have hx := ok.pop.topInt
    subst hx hy
    exact ⟨_, _, rfl, rfl, q _ _ ok.pop.pop.bl⟩
  · cases e
theorem od_I {C : Int → Int → Prop} {g : Int → Int → Int} {c : Int → Int → Bool} (hc : ∀ i j, c i j = true → C i j) :
    OpD K m (rI C fun i j => .int (g i j)) (onD (pII fun i j => if c i j = true then some (.int (g i j)) else none)) := OpD.ofD fun B σ H ρ ws ts x y t u v Q ok e q => by
  unfold pII at e
  split at e
  · obtain ⟨h1, h2⟩ := reqs e
    subst h2
    have hy := ok.topInt
    have hx := ok.pop.topInt
    subst hx hy
    exact ⟨_, _, rfl, rfl, hc _ _ h1, q _ _ ok.pop.pop.int⟩
  · cases e
def pSub : PyData → PyData → Option PyData := pII fun i j => some (.int (i - j))
theorem od_sub : OpD K m (rI0 fun i j => .int (i - j)) (onD pSub) := od_I0
def cMod (_ j : Int) : Bool := decide (0 < j)
def pMod : PyData → PyData → Option PyData := pII fun i j => if cMod i j = true then some (.int (i % j)) else none
theorem od_mod : OpD K m (rI (fun _ j => 0 < j) fun i j => .int (i % j)) (onD pMod) := od_I fun i j h => of_decide_eq_true h
def cDiv (_ j : Int) : Bool := decide (0 < j) && decide (j < 1073741824)
def pDiv : PyData → PyData → Option PyData := pII fun i j => if cDiv i j = true then some (.int (i / j)) else none
theorem od_div : OpD K m (rI CDiv fun i j => .int (i / j)) (onD pDiv) := od_I fun i j h => by
  have h := (Bool.and_eq_true _ _).mp h
  exact ⟨of_decide_eq_true h.1, of_decide_eq_true h.2⟩
def cPow (i j : Int) : Bool := decide (0 ≤ j) && decide (j ≤ 1000) && decide (i.natAbs < 1000)
def pPow : PyData → PyData → Option PyData := pII fun i j => if cPow i j = true then some (.int (i ^ j.toNat)) else none
theorem od_pow : OpD K m (rI CPow fun i j => .int (i ^ j.toNat)) (onD pPow) := od_I fun i j h => by
  have h := (Bool.and_eq_true _ _).mp h
  have h1 := (Bool.and_eq_true _ _).mp h.1
  have a := of_decide_eq_true h1.1
  have b := of_decide_eq_true h1.2
  have c := of_decide_eq_true h.2
  exact ⟨a, by omega, by omega⟩

/-! ### order of ints and texts -/
def strLt (a b : Str) : Bool := decide (a.cps.toList < b.cps.toList)
def pLt : PyData → PyData → Option PyData
  | .int i, .int j => some (.bool (decide (i < j)))
  | .str a, .str b => some (.bool (strLt a b))
  | _, _ => none
theorem od_lt : OpD K m (fun x y H Q => (rI0 fun i j => .bl (decide (i < j))) x y H Q ∨ ∃ i j, x = .str i ∧ y = .str j ∧ Q (.bl (decide (i.cps.toList < j.cps.toList))) H) (onD pLt) := OpD.ofD fun B σ H ρ ws ts x y t u v Q ok e q => by
  unfold pLt at e
  split at e
  · cases e
    have hy := ok.topInt
    have hx := ok.pop.topInt
    subst hx hy
    exact .inl ⟨_, _, rfl, rfl, q _ _ ok.pop.pop.bl⟩
  · cases e
    have hy := ok.topStr
    have hx := ok.pop.topStr
    subst hx hy
    exact .inr ⟨_, _, rfl, rfl, q _ _ ok.pop.pop.bl⟩
  · cases e
def pLe : PyData → PyData → Option PyData
  | .int i, .int j => some (.bool (decide (i ≤ j)))
  | _, _ => none
def pGt : PyData → PyData → Option PyData
  | .int i, .int j => some (.bool (decide (j < i)))
  | _, _ => none
def pGe : PyData → PyData → Option PyData
  | .int i, .int j => some (.bool (decide (j ≤ i)))
  | _, _ => none
theorem od_cmpI {g : Int → Int → Bool} {p : PyData → PyData → Option PyData} (hp : p = pII fun i j => some (.bool (g i j))) : OpD K m (rI0 fun i j => .bl (g i j)) (onD p) := by
  subst hp
  exact od_B0
theorem od_le : OpD K m (rI0 fun i j => .bl (decide (i ≤ j))) (onD pLe) := od_cmpI (by funext a b; cases a <;> cases b <;> rfl)
theorem od_gt : OpD K m (rI0 fun i j => .bl (decide (j < i))) (onD pGt) := od_cmpI (by funext a b; cases a <;> cases b <;> rfl)
theorem od_ge : OpD K m (rI0 fun i j => .bl (decide (j ≤ i))) (onD pGe) := od_cmpI (by funext a b; cases a <;> cases b <;> rfl)
end

/-! ### ==, in: data without dicts -/
section
variable {X : Cx}
def okEq (d e : PyData) : Bool := d.plain && e.plain && decide (min d.depth e.depth ≤ 60)
def rEqP (K : PySem.W.Frag) (neg : Bool) : R2 := fun x y H Q => ∃ d e, Dr K H x d ∧ Dr K H y e ∧ okEq d e = true ∧ Q (.bl (if neg then !PyData.eqv d e else PyData.eqv d e)) H
theorem okEq_of {d e : PyData} (h : okEq d e = true) : d.plain = true ∧ e.plain = true ∧ min d.depth e.depth ≤ 60 := by
  have h := (Bool.and_eq_true _ _).mp h
  have h1 := (Bool.and_eq_true _ _).mp h.1
  exact ⟨h1.1, h1.2, of_decide_eq_true h.2⟩
theorem op_eqP (hu : X.A.units + 64 < cLine) : OpR X (compareOp .Eq) (rEqP X.K false) := by
  intro pins s σ H x y v u Q I rx ry ⟨d, e, hd, he, k, q⟩
  obtain ⟨p1, p2, p3⟩ := okEq_of k
  obtain ⟨as, r1⟩ := Dp.reads I d x v (hd.dp p1) rx
  obtain ⟨bs, r2⟩ := Dp.reads I e y u (he.dp p2) ry
  exact SeqAt.eq_plain r1 r2 p1 p2 (by omega) ⟨.bl _, H, I, rfl, q⟩
theorem op_neP (hu : X.A.units + 64 < cLine) : OpR X (compareOp .NotEq) (rEqP X.K true) := by
  intro pins s σ H x y v u Q I rx ry ⟨d, e, hd, he, k, q⟩
  obtain ⟨p1, p2, p3⟩ := okEq_of k
  obtain ⟨as, r1⟩ := Dp.reads I d x v (hd.dp p1) rx
  obtain ⟨bs, r2⟩ := Dp.reads I e y u (he.dp p2) ry
  exact SeqAt.ne_plain r1 r2 p1 p2 (by omega) ⟨.bl _, H, I, rfl, q⟩
def pEq (d e : PyData) : Option PyData := if okEq d e = true then some (.bool (PyData.eqv d e)) else none
def pNe (d e : PyData) : Option PyData := if okEq d e = true then some (.bool (!PyData.eqv d e)) else none
theorem od_eq {K : PySem.W.Frag} {m : List Bool} : OpD K m (rEqP K false) (onD pEq) := OpD.ofD fun B σ H ρ ws ts x y t u v Q ok e q => by
  obtain ⟨h, e⟩ := reqs e
  subst e
  exact ⟨t, u, ok.pop.topD, ok.topD, h, q _ _ ok.pop.pop.bl⟩
theorem od_ne {K : PySem.W.Frag} {m : List Bool} : OpD K m (rEqP K true) (onD pNe) := OpD.ofD fun B σ H ρ ws ts x y t u v Q ok e q => by
  obtain ⟨h, e⟩ := reqs e
  subst e
  exact ⟨t, u, ok.pop.topD, ok.topD, h, q _ _ ok.pop.pop.bl⟩
def okIn (d : PyData) (ds : List PyData) : Bool := d.plain && PyData.plainAll ds && decide (min (PyData.depthAll ds) d.depth ≤ 60)
def anyEq (d : PyData) (ds : List PyData) : Bool := ds.any fun y => PyData.eqv y d
def rInP (K : PySem.W.Frag) (neg : Bool) : R2 := fun x y H Q => (∃ d ds, Dr K H x d ∧ (Dr K H y (.list ds) ∨ Dr K H y (.tuple ds)) ∧ okIn d ds = true ∧ Q (.bl (if neg then !anyEq d ds else anyEq d ds)) H) ∨
  ∃ (a z : Str), x = .str a ∧ y = .str z ∧ Q (.bl (if neg then !(!(Builtin.Str.occurrences z a 0 z.length 1).isEmpty) else !(Builtin.Str.occurrences z a 0 z.length 1).isEmpty)) H
theorem op_inP (hu : X.A.units + 64 < cLine) : OpR X (compareOp .In) (rInP X.K false) := by
  intro pins s σ H x y v u Q I rx ry h
  rcases h with ⟨d, ds, hd, hy, k, q⟩ | ⟨a, z, rfl, rfl, q⟩
  · have k := (Bool.and_eq_true _ _).mp k
    have k1 := (Bool.and_eq_true _ _).mp k.1
    have k2 := of_decide_eq_true k.2
    obtain ⟨as, r1⟩ := Dp.reads I d x v (hd.dp k1.1) rx
    rcases hy with hy | hy
    · obtain ⟨bs, r2⟩ := Dp.reads I (.list ds) y u (hy.dp (by simpa [PyData.plain] using k1.2)) ry
      exact SeqAt.in_list_data r2 r1 k1.2 k1.1 (by omega) ⟨.bl _, H, I, rfl, q⟩
    · obtain ⟨bs, r2⟩ := Dp.reads I (.tuple ds) y u (hy.dp (by simpa [PyData.plain] using k1.2)) ry
      exact SeqAt.in_tuple_data r2 r1 k1.2 k1.1 (by omega) ⟨.bl _, H, I, rfl, q⟩
  · exact op_in_str pins s σ H _ _ v u Q I rx ry ⟨a, z, rfl, rfl, q⟩
theorem op_notInP (hu : X.A.units + 64 < cLine) : OpR X (compareOp .NotIn) (rInP X.K true) := by
  intro pins s σ H x y v u Q I rx ry h
  rcases h with ⟨d, ds, hd, hy, k, q⟩ | ⟨a, z, rfl, rfl, q⟩
  · have k := (Bool.and_eq_true _ _).mp k
    have k1 := (Bool.and_eq_true _ _).mp k.1
    have k2 := of_decide_eq_true k.2
    obtain ⟨as, r1⟩ := Dp.reads I d x v (hd.dp k1.1) rx
    rcases hy with hy | hy
    · obtain ⟨bs, r2⟩ := Dp.reads I (.list ds) y u (hy.dp (by simpa [PyData.plain] using k1.2)) ry
      exact SeqAt.notIn_list_data r2 r1 k1.2 k1.1 (by omega) ⟨.bl _, H, I, rfl, q⟩
    · obtain ⟨bs, r2⟩ := Dp.reads I (.tuple ds) y u (hy.dp (by simpa [PyData.plain] using k1.2)) ry
      exact SeqAt.notIn_tuple_data r2 r1 k1.2 k1.1 (by omega) ⟨.bl _, H, I, rfl, q⟩
  · exact op_notIn_str pins s σ H _ _ v u Q I rx ry ⟨a, z, rfl, rfl, q⟩
def strIn (a z : Str) : Bool := !(Builtin.Str.occurrences z a 0 z.length 1).isEmpty
def pIn : PyData → PyData → Option PyData
  | d, .list ds => if okIn d ds = true then some (.bool (anyEq d ds)) else none
  | d, .tuple ds => if okIn d ds = true then some (.bool (anyEq d ds)) else none
  | .str a, .str z => some (.bool (strIn a z))
  | _, _ => none
def pNotIn : PyData → PyData → Option PyData
  | d, .list ds => if okIn d ds = true then some (.bool (!anyEq d ds)) else none
  | d, .tuple ds => if okIn d ds = true then some (.bool (!anyEq d ds)) else none
  | .str a, .str z => some (.bool (!strIn a z))
  | _, _ => none
theorem od_in {K : PySem.W.Frag} {m : List Bool} : OpD K m (rInP K false) (onD pIn) := OpD.ofD fun B σ H ρ ws ts x y t u v Q ok e q => by
  unfold pIn at e
  split at e
  · obtain ⟨h, e⟩ := reqs e
    subst e
    exact .inl ⟨_, _, ok.pop.topD, .inl ok.topD, h, q _ _ ok.pop.pop.bl⟩
  · obtain ⟨h, e⟩ := reqs e
    subst e
    exact .inl ⟨_, _, ok.pop.topD, .inr ok.topD, h, q _ _ ok.pop.pop.bl⟩
  · cases e
    have hy := ok.topStr
    have hx := ok.pop.topStr
    subst hx hy
    exact .inr ⟨_, _, rfl, rfl, q _ _ ok.pop.pop.bl⟩
  · cases e
theorem od_notIn {K : PySem.W.Frag} {m : List Bool} : OpD K m (rInP K true) (onD pNotIn) := OpD.ofD fun B σ H ρ ws ts x y t u v Q ok e q => by
  unfold pNotIn at e
  split at e
  · obtain ⟨h, e⟩ := reqs e
    subst e
    exact .inl ⟨_, _, ok.pop.topD, .inl ok.topD, h, q _ _ ok.pop.pop.bl⟩
  · obtain ⟨h, e⟩ := reqs e
    subst e
    exact .inl ⟨_, _, ok.pop.topD, .inr ok.topD, h, q _ _ ok.pop.pop.bl⟩
  · cases e
    have hy := ok.topStr
    have hx := ok.pop.topStr
    subst hx hy
    exact .inr ⟨_, _, rfl, rfl, q _ _ ok.pop.pop.bl⟩
  · cases e
/-- is None, is not None; is of truths -/
def isNon : PyData → Bool
  | .none => true
  | _ => false
theorem isNon_iff {K : PySem.W.Frag} {I : Hp} {x : V} {d : PyData} (h : Dr K I x d) : decide (x = .non) = isNon d := by
  cases h <;> simp [isNon]
def pIs : PyData → PyData → Option PyData
  | d, .none => some (.bool (isNon d))
  | .bool a, .bool b => some (.bool (decide (a = b)))
  | _, _ => none
def pIsNot : PyData → PyData → Option PyData
  | d, .none => some (.bool (!isNon d))
  | .bool a, .bool b => some (.bool (!decide (a = b)))
  | _, _ => none
theorem op_isD : OpR X (compareOp .Is) (fun x y H Q => (y = .non ∧ Q (.bl (decide (x = .non))) H) ∨ rIsB x y H Q) := OpR.or op_isN op_isBl
theorem op_isNotD : OpR X (compareOp .IsNot) (fun x y H Q => (y = .non ∧ Q (.bl (!decide (x = .non))) H) ∨ rNotB x y H Q) := OpR.or op_notN op_notBl
theorem od_is {K : PySem.W.Frag} {m : List Bool} : OpD K m (fun x y H Q => (y = .non ∧ Q (.bl (decide (x = .non))) H) ∨ rIsB x y H Q) (onD pIs) := OpD.ofD fun B σ H ρ ws ts x y t u v Q ok e q => by
  unfold pIs at e
  split at e
  · cases e
    have hy := ok.topNon
    subst hy
    exact .inl ⟨rfl, by rw [isNon_iff ok.pop.topD]; exact q _ _ ok.pop.pop.bl⟩
  · cases e
    have hy := ok.topBl
    have hx := ok.pop.topBl
    subst hx hy
    exact .inr ⟨_, _, rfl, rfl, q _ _ ok.pop.pop.bl⟩
  · cases e
theorem od_isNot {K : PySem.W.Frag} {m : List Bool} : OpD K m (fun x y H Q => (y = .non ∧ Q (.bl (!decide (x = .non))) H) ∨ rNotB x y H Q) (onD pIsNot) := OpD.ofD fun B σ H ρ ws ts x y t u v Q ok e q => by
  unfold pIsNot at e
  split at e
  · cases e
    have hy := ok.topNon
    subst hy
    exact .inl ⟨rfl, by rw [isNon_iff ok.pop.topD]; exact q _ _ ok.pop.pop.bl⟩
  · cases e
    have hy := ok.topBl
    have hx := ok.pop.topBl
    subst hx hy
    exact .inr ⟨_, _, rfl, rfl, q _ _ ok.pop.pop.bl⟩
  · cases e
end

/-! ### subscripts -/
section
variable {K : PySem.W.Frag} {m : List Bool} {X : Cx} {w : Wd} {a b : Expr} {fa fb : M T} {pos : Pos}
theorem atI_all {I : Hp} {vs : List V} {ds : List PyData} {i : Int} {e : PyData} (h : DrAll K I vs ds) (q : atI ds i = some e) : ∃ v, atI vs i = some v ∧ Dr K I v e := by
  unfold atI at q ⊢
  rw [h.len]
  cases p : ixN ds.length i with
  | none => rw [p] at q; cases q
  | some j =>
    rw [p] at q
    exact DrAll.get' h q
def pIx : PyData → PyData → Option PyData
  | .list ds, .int i => atI ds i
  | .tuple ds, .int i => atI ds i
  | .str z, .int i => if z.length ≤ lim then (atI z.cps.toList i).map fun c => .str ⟨#[c]⟩ else none
  | _, _ => none
/-- an item of pending data, in its stead -/
theorem Ok.item {B : Bs} {σ : St} {H : Hp} {ρ : Rho} {ws : List V} {ts : List T} {x v : V} {d e : PyData} (h : Ok K m B σ H ρ (x :: ws) (.d d :: ts)) (q : ∀ I, Same I H → Dr K I x d → Dr K I v e) : Ok K m B σ H ρ (v :: ws) (.d e :: ts) := h.part q
theorem dr_list_inj {I H : Hp} {a : Addr} {vs : List V} {ds : List PyData} (s : Same I H) (hv : H a = some (.lst vs)) (h : Dr K I (.ref a) (.list ds)) : DrAll K I vs ds := by
  cases h with
  | lst p r =>
    have := s _ _ p
    rw [hv] at this
    cases this
    exact r
theorem od_ix : OpD K m (rIx K) (onD pIx) := OpD.ofD fun B σ H ρ ws ts x y t u v Q ok e q => by
  unfold pIx at e
  split at e
  · have hy := ok.topInt
    subst hy
    obtain ⟨I, Fr, Fw, s, r, w, km⟩ := id ok.pop
    obtain ⟨a, vs, rfl, ha, da⟩ := lst_items w
    obtain ⟨z, hz, dz⟩ := atI_all da e
    obtain ⟨G, w'⟩ := w.tail
    exact .inl ⟨a, vs, _, z, rfl, rfl, SqL.of (s.sub _ _ ha), hz, q _ _ (ok.pop.pop' fun _ => by
      cases w with
      | cons _ w'' => exact ⟨I, Fr, _, s.less (fun b m => by
          rcases List.mem_append.mp m with m | m
          · exact List.mem_append_left _ m
          · exact List.mem_append_right _ (List.mem_append_right _ m)) ((List.Sublist.append (List.Sublist.refl _) (List.sublist_append_right _ _)).nodup s.nd), r, .cons (F := []) (.d dz) w'', km⟩)⟩
  · have hy := ok.topInt
    subst hy
    obtain ⟨I, Fr, Fw, s, r, w, km⟩ := id ok.pop
    obtain ⟨a, vs, rfl, ha, da⟩ := tup_items w
    obtain ⟨z, hz, dz⟩ := atI_all da e
    exact .inr (.inl ⟨a, vs, _, z, rfl, rfl, st_mono s.sub ha, hz, q _ _ (ok.pop.pop' fun _ => by
      cases w with
      | cons _ w'' => exact ⟨I, Fr, _, s.less (fun b m => by
          rcases List.mem_append.mp m with m | m
          · exact List.mem_append_left _ m
          · exact List.mem_append_right _ (List.mem_append_right _ m)) ((List.Sublist.append (List.Sublist.refl _) (List.sublist_append_right _ _)).nodup s.nd), r, .cons (F := []) (.d dz) w'', km⟩)⟩)
  · rename_i z i
    by_cases hl : z.length ≤ lim
    · rw [if_pos hl] at e
      cases p : atI z.cps.toList i with
      | none => rw [p] at e; cases e
      | some c =>
        rw [p] at e
        cases e
        have hy := ok.topInt
        have hx := ok.pop.topStr
        subst hx hy
        exact .inr (.inr ⟨z, i, c, rfl, rfl, lim_le hl, p, q _ _ ok.pop.pop.str⟩)
    · rw [if_neg hl] at e; cases e
  · cases e
theorem de_ix (ha : DE X w a fa) (hb : DE X w b fb) (hs : PlainIx b := by exact fun _ _ => rfl) : DE X w (.Subscript a b pos) (dop (onD pIx) fa fb) := by
  obtain ⟨ta, pa, da⟩ := ha.ex
  obtain ⟨tb, pb, db⟩ := hb.ex
  exact de_v (pe_ix ix_seq pa pb hs) (den_op da db od_ix)
end
end DL
end
section
set_option Elab.async false
set_option linter.all false
set_option maxRecDepth 100000
set_option maxHeartbeats 4000000
/-! DL4: slices, argument lists, displays, own defs called. -/
namespace DL
open PySem L2

/-! ### slices -/
def cutG {α : Type} (xs : List α) (lo hi : Option Int) : List α := (xs.drop (HT.sIx xs.length 0 lo)).take (HT.sIx xs.length xs.length hi - HT.sIx xs.length 0 lo)
theorem cutG_len {α : Type} (xs : List α) (lo hi : Option Int) : (cutG xs lo hi).length ≤ xs.length := by
  unfold cutG
  rw [List.length_take, List.length_drop]
  omega
theorem DrAll.cut {K : PySem.W.Frag} {I : Hp} {vs : List V} {ds : List PyData} (h : DrAll K I vs ds) (lo hi : Option Int) : DrAll K I (cutV vs lo hi) (cutG ds lo hi) := by
  unfold cutV cutG
  rw [h.len]
  exact (h.drop _).take _
def tSlice : T → Option Int → Option Int → Option T
  | .d (.list ds), lo, hi => some (.d (.list (cutG ds lo hi)))
  | .d (.tuple ds), lo, hi => some (.d (.tuple (cutG ds lo hi)))
  | .d (.str z), lo, hi => if z.length ≤ lim then some (.d (.str (cutS z lo hi))) else none
  | .scr ns, lo, hi => some (.d (.list ((cutG ns lo hi).map PyData.int)))
  | _, _, _ => none
def rSl3 (K : PySem.W.Frag) : V → Option Int → Option Int → Hp → VK → Prop := fun x lo hi H Q => rSlL K x lo hi H Q ∨ rSlA K x lo hi H Q ∨ rSlS x lo hi H Q
theorem sl3 {X : Cx} : SlR X (rSl3 X.K) := SlR.or sl_list (SlR.or sl_tupA sl_str)
theorem cutG_whole {α : Type} (xs : List α) (lo hi : Option Int) (h : HT.sIx xs.length 0 lo = 0 ∧ HT.sIx xs.length xs.length hi = xs.length) : cutG xs lo hi = xs := by
  unfold cutG
  rw [h.1, h.2]
  simp
theorem drAll_ints {K : PySem.W.Frag} {I : Hp} : ∀ ns : List Int, DrAll K I (ns.map V.int) (ns.map PyData.int)
  | [] => .nil
  | n :: ns => .cons (.int n) (drAll_ints ns)
theorem cutV_map {α : Type} (f : α → V) (xs : List α) (lo hi : Option Int) : cutV (xs.map f) lo hi = (cutG xs lo hi).map f := by
  unfold cutV cutG
  rw [List.length_map, ← List.map_drop, ← List.map_take]
def DenO (K : PySem.W.Frag) (w : Wd) (t : TO) (f : M (Option Int)) : Prop := ∀ B σ H ρ ws ts Q, Ok K w.m B σ H ρ ws ts →
  PostG K w B (f ρ) (fun o ρ' => ∀ H', Ok K w.m B σ H' ρ' ws ts → Q o H') → t σ H Q
structure DO (X : Cx) (w : Wd) (e : Option Expr) (f : M (Option Int)) : Prop where
  ex : ∃ t, PO X e t ∧ DenO X.K w t f
section
variable {X : Cx} {w : Wd} {a b c e : Expr} {es : List Expr} {fa fb fc f : M T} {pos : Pos} {fo fo' : M (Option Int)} {lo hi : Option Expr}
theorem do_none : DO X w none (mret none) := ⟨_, po_none, fun B σ H ρ ws ts Q ok p => p H ok⟩
def dpart (f : M T) : M (Option Int) := mbind f fun x => match x with
  | .d (.int i) => mret (some i)
  | _ => mno
theorem do_some (h : DE X w e f) : DO X w (some e) (dpart f) := by
  obtain ⟨t, p, d⟩ := h.ex
  refine ⟨_, po_some p, fun B σ H ρ ws ts Q ok q => ?_⟩
  refine d B σ H ρ ws ts _ ok (q.bind.mono fun v ρ1 p1 x H1 ok1 => ?_)
  cases v with
  | d y =>
    cases y with
    | int i =>
      have ex := ok1.topInt
      subst ex
      exact ⟨i, rfl, p1 _ ok1.pop⟩
    | _ => exact p1.elim
  | _ => exact p1.elim
def dslice (fa : M T) (fo fo' : M (Option Int)) : M T := mbind fa fun x => mbind fo fun l => mbind fo' fun h => mopt (tSlice x l h)
theorem Ok.inStead {K : PySem.W.Frag} {m : List Bool} {B : Bs} {σ : St} {H : Hp} {ρ : Rho} {ws : List V} {ts : List T} {x y : V} {t u : T} (h : Ok K m B σ H ρ (y :: x :: ws) (u :: t :: ts)) : Ok K m B σ H ρ (y :: ws) (u :: ts) := h.swap.pop
theorem de_slice {p2 : Pos} (ha : DE X w a fa) (hl : DO X w lo fo) (hh : DO X w hi fo') : DE X w (.Subscript a (.Slice lo hi none p2) pos) (dslice fa fo fo') := by
  obtain ⟨ta, pa, da⟩ := ha.ex
  obtain ⟨tl, pl, dl⟩ := hl.ex
  obtain ⟨th, ph, dh⟩ := hh.ex
  refine de_v (pe_slice sl3 pa pl ph) fun B σ H ρ ws ts Q ok q => ?_
  refine da B σ H ρ ws ts _ ok (q.bind.mono fun v ρ1 p1 x H1 ok1 => ?_)
  refine dl B σ H1 ρ1 _ _ _ ok1 (p1.bind.mono fun l ρ2 p2 H2 ok2 => ?_)
  refine dh B σ H2 ρ2 _ _ _ ok2 (p2.bind.mono fun h ρ3 p3 H3 ok3 => ?_)
  obtain ⟨z, e, q3⟩ := p3.opt
  unfold tSlice at e
  split at e
  · cases e
    obtain ⟨I, Fr, Fw, s, r, wz, km⟩ := id ok3
    obtain ⟨a, vs, rfl, ha, dd⟩ := lst_items wz
    refine .inl ⟨a, vs, rfl, SqL.of (s.sub _ _ ha), fun p hp => q3 _ _ (Ok.inStead (ok3.newList hp fun I' Fw' sb w' => ?_))⟩
    obtain ⟨a', vs', e', ha', dd'⟩ := lst_items w'
    cases e'
    have := sb _ _ ha'
    rw [s.sub _ _ ha] at this
    cases this
    exact dd'.cut _ _
  · cases e
    obtain ⟨I, Fr, Fw, s, r, wz, km⟩ := id ok3
    obtain ⟨a, vs, rfl, ha, dd⟩ := tup_items wz
    rename_i _ _ ds
    refine .inr (.inl ⟨a, vs, rfl, st_mono s.sub ha, fun hw => ?_, fun hw p hp => ?_⟩)
    · rw [dd.len] at hw
      rw [cutG_whole ds _ _ hw] at q3
      exact q3 _ _ ok3
    · have hI := (s.fresh hp).2.1
      have sm : Same I (upd I p (.tup (cutV vs l h))) := fun a u e => by rw [upd_ne (ne_of_none e hI)]; exact e
      have nf : ∀ a ∈ Fr ++ Fw, (upd H3 p (.tup (cutV vs l h))) a = H3 a := fun a z => upd_ne (show a ≠ p from fun e => s.thr a z (by rw [e]; exact hp))
      exact q3 _ _ (Ok.inStead ⟨_, Fr, Fw, s.newD hp, r.mono sm fun a z => nf a (List.mem_append_left _ z), .cons (F := []) (.d (.tup (SqT.of upd_same) (drAll_mono sm (dd.cut l h)))) (wz.mono sm fun a z => nf a (List.mem_append_right _ z)), km⟩)
  · obtain ⟨hl, e⟩ := reqs e
    subst e
    have hx := ok3.topStr
    subst hx
    exact .inr (.inr ⟨_, rfl, lim_le hl, q3 _ _ ok3.pop.str⟩)
  · cases e
    obtain ⟨a, rfl, ha⟩ := ok3.topScr
    refine .inl ⟨a, _, rfl, ha, fun p hp => q3 _ _ (Ok.inStead (ok3.newList hp fun I' Fw' sb w' => ?_))⟩
    rw [cutV_map]
    exact drAll_ints _
  · cases e
/-- a list turned about -/
def tRev : T → Option T
  | .d (.list ds) => some (.d (.list ds.reverse))
  | _ => none
def drev (fa : M T) : M T := mbind fa fun x => mopt (tRev x)
theorem de_rev {k : Nat} {p1 p2 p3 : Pos} (ha : DE X w a fa) : DE X w (.Subscript a (.Slice none none (some (.UnaryOp .USub (.Constant (.int 1) k p1) p2)) p3) pos) (drev fa) := by
  obtain ⟨ta, pa, da⟩ := ha.ex
  refine de_v (pe_revL pa) fun B σ H ρ ws ts Q ok q => ?_
  refine da B σ H ρ ws ts _ ok (q.bind.mono fun v ρ1 p1 x H1 ok1 => ?_)
  obtain ⟨z, e, q3⟩ := p1.opt
  unfold tRev at e
  split at e
  · cases e
    obtain ⟨I, Fr, Fw, s, r, wz, km⟩ := id ok1
    obtain ⟨a, vs, rfl, ha, dd⟩ := lst_items wz
    refine ⟨a, vs, rfl, SqL.of (s.sub _ _ ha), fun p hp => q3 _ _ (Ok.inStead (ok1.newList hp fun I' Fw' sb w' => ?_))⟩
    obtain ⟨a', vs', e', ha', dd'⟩ := lst_items w'
    cases e'
    have := sb _ _ ha'
    rw [s.sub _ _ ha] at this
    cases this
    exact dd'.reverse
  · cases e

/-! ### argument lists -/
variable {os : List (Option Nat)} {fs : M (List T)}
theorem da_nil : DA X w [] [] (mret []) := ⟨⟨_, pa_nil, fun B σ H ρ ws ts Q ok p => p [] H rfl ok fun k i e => by simp at e⟩, fun vs ρ ρ' e => by cases e; rfl⟩
theorem Ok.perm3 {K : PySem.W.Frag} {m : List Bool} {B : Bs} {σ : St} {H : Hp} {ρ : Rho} {ws : List V} {ts : List T} {x : V} {t : T} {vs : List V} {us : List T} (hl : vs.length = us.length)
    (h : Ok K m B σ H ρ (vs ++ x :: ws) (us ++ t :: ts)) : Ok K m B σ H ρ (x :: (vs ++ ws)) (t :: (us ++ ts)) := by
  obtain ⟨I, Fr, Fw, s, r, w, km⟩ := h
  obtain ⟨G, E, rfl, g, e⟩ := RepTs.split hl w
  cases e with
  | cons a b =>
    rename_i F1 F2
    obtain ⟨E', q, hq⟩ := RepTs.append g b
    subst hq
    refine ⟨I, Fr, _, s.perm ?_, r, .cons a q, km⟩
    refine List.Perm.append_left _ ?_
    rw [← List.append_assoc, ← List.append_assoc]
    exact List.Perm.append_right _ List.perm_append_comm
def dcons (f : M T) (fs : M (List T)) : M (List T) := mbind f fun x => mbind fs fun xs => mret (x :: xs)
theorem dcons_len {f : M T} {fs : M (List T)} {n : Nat} (h : ∀ vs ρ ρ', fs ρ = .ok vs ρ' → vs.length = n) : ∀ vs ρ ρ', dcons f fs ρ = .ok vs ρ' → vs.length = n + 1 := fun vs ρ ρ' e => by
  unfold dcons mbind at e
  cases e1 : f ρ with
  | ok x ρ1 =>
    rw [e1] at e
    simp only at e
    cases e2 : fs ρ1 with
    | ok xs ρ2 =>
      rw [e2] at e
      cases e
      rw [List.length_cons, h _ _ _ e2]
    | ex a b => rw [e2] at e; cases e
    | no => rw [e2] at e; cases e
  | ex a b => rw [e1] at e; cases e
  | no => rw [e1] at e; cases e
theorem orig_cons {σ : St} {o : Option Nat} {os : List (Option Nat)} {x : V} {xs : List V} (h : ∀ i, o = some i → σ[i]? = some (some x)) (hs : Orig σ os xs) : Orig σ (o :: os) (x :: xs) := fun k i e => by
  cases k with
  | zero => exact ⟨x, rfl, h i (by simpa using e)⟩
  | succ k =>
    obtain ⟨y, h1, h2⟩ := hs k i (by simpa using e)
    exact ⟨y, by simpa using h1, h2⟩
theorem da_cons (h : DE X w e f) (hs : DA X w es os fs) (hst : starEach (e :: es) X.env = (false, eval e X.env) :: starEach es X.env := by rfl) : DA X w (e :: es) (none :: os) (dcons f fs) := by
  obtain ⟨t, p, d⟩ := h.ex
  obtain ⟨t', p', d'⟩ := hs.ex
  refine ⟨⟨_, pa_cons p p' hst, fun B σ H ρ ws ts Q ok q => ?_⟩, dcons_len hs.len⟩
  refine d B σ H ρ ws ts _ ok (q.bind.mono fun v ρ1 p1 x H1 ok1 => ?_)
  refine d' B σ H1 ρ1 _ _ _ ok1 (p1.bind.mono fun vs ρ2 p2 xs H2 hl ok2 ho => ?_)
  exact p2 (x :: xs) H2 (by simp [hl]) (Ok.perm3 hl ok2) (orig_cons (fun i e => nomatch e) ho)
/-- slot i holds something -/
def dhas (i : Nat) : M Unit := fun ρ => match ρ[i]? with
  | some (some _) => .ok () ρ
  | _ => .no
theorem dhas_of {K : PySem.W.Frag} {w : Wd} {B : Bs} {σ : St} {H : Hp} {ρ : Rho} {ws : List V} {ts : List T} {i : Nat} {P : Unit → Rho → Prop} (ok : Ok K w.m B σ H ρ ws ts) (q : PostG K w B (dhas i ρ) P) : (∃ v, σ[i]? = some (some v)) ∧ P () ρ := by
  unfold dhas at q
  cases e : ρ[i]? with
  | none => rw [e] at q; exact q.elim
  | some o =>
    cases o with
    | none => rw [e] at q; exact q.elim
    | some u =>
      rw [e] at q
      obtain ⟨v, h1, h2⟩ := ok.take e
      exact ⟨⟨v, h1⟩, q⟩
/-- an own one is lent: what stands there once the later arguments are made -/
def dlate (i : Nat) (fs : M (List T)) : M (List T) := mbind (dhas i) fun _ => mbind fs fun xs => mbind (dtake i) fun x => mret (x :: xs)
theorem dlate_len {i : Nat} {fs : M (List T)} {n : Nat} (h : ∀ vs ρ ρ', fs ρ = .ok vs ρ' → vs.length = n) : ∀ vs ρ ρ', dlate i fs ρ = .ok vs ρ' → vs.length = n + 1 := fun vs ρ ρ' e => by
  unfold dlate mbind at e
  cases e0 : dhas i ρ with
  | ok u ρ0 =>
    rw [e0] at e
    simp only at e
    cases e1 : fs ρ0 with
    | ok xs ρ1 =>
      rw [e1] at e
      simp only at e
      cases e2 : dtake i ρ1 with
      | ok x ρ2 =>
        rw [e2] at e
        cases e
        rw [List.length_cons, h _ _ _ e1]
      | ex a b => rw [e2] at e; cases e
      | no => rw [e2] at e; cases e
    | ex a b => rw [e1] at e; cases e
    | no => rw [e1] at e; cases e
  | ex a b => rw [e0] at e; cases e
  | no => rw [e0] at e; cases e
theorem da_own (i : Nat) {x : Str} {p0 : Pos} (hs : DA X w es os fs) (hN : X.N[i]? = some x := by rfl) (hv : Vis X.env.scope x := by first | exact Or.inl rfl | exact Or.inr (Or.inl rfl) | exact Or.inr (Or.inr rfl)) (hd : (x == ("__debug__" : Str)) = false := by decide)
    (hcd : (x == ("__classdict__" : Str)) = false := by decide) (hst : starEach (.Name x p0 :: es) X.env = (false, eval (.Name x p0) X.env) :: starEach es X.env := by rfl) : DA X w (.Name x p0 :: es) (some i :: os) (dlate i fs) := by
  obtain ⟨t', p', d'⟩ := hs.ex
  refine ⟨⟨_, pa_cons (pe_var hN hv hd hcd) p' hst, fun B σ H ρ ws ts Q ok q => ?_⟩, dlate_len hs.len⟩
  obtain ⟨⟨v, hv0⟩, q⟩ := dhas_of ok q.bind
  refine ⟨v, hv0, ?_⟩
  refine d' B σ H ρ ws ts _ ok (PostG.mono (PostG.bind q) fun vs ρ2 p2 xs H2 hl ok2 ho => ?_)
  have p3 := PostG.bind p2
  unfold dtake at p3
  cases e : ρ2[i]? with
  | none => rw [e] at p3; exact p3.elim
  | some o =>
    cases o with
    | none => rw [e] at p3; exact p3.elim
    | some t =>
      rw [e] at p3
      obtain ⟨v', h1, h2⟩ := ok2.take e
      have ev : v' = v := by
        rw [hv0] at h1
        exact (Option.some.inj (Option.some.inj h1)).symm
      subst ev
      exact (show ∀ ys H', ys.length = (t :: vs).length → Ok X.K w.m B σ H' (ρ2.set i none) (ys ++ ws) ((t :: vs) ++ ts) → Orig σ (some i :: os) ys → Q ys H' from p3) (v' :: xs) H2 (by simp [hl]) h2 (orig_cons (fun j e => by cases e; exact h1) ho)

/-! ### displays -/
def allD : List T → Option (List PyData)
  | [] => some []
  | .d x :: ts => (allD ts).map (x :: ·)
  | _ :: _ => none
theorem allD_eq : ∀ {ts : List T} {ds : List PyData}, allD ts = some ds → ts = ds.map T.d
  | [], _, e => by cases e; rfl
  | .d x :: ts, _, e => by
    unfold allD at e
    cases q : allD ts with
    | none => rw [q] at e; cases e
    | some es => rw [q] at e; cases e; rw [List.map_cons, allD_eq q]
  | .fn _ :: _, _, e => by cases e
  | .scr _ :: _, _, e => by cases e
  | .ty _ :: _, _, e => by cases e
  | .lst _ :: _, _, e => by cases e
  | .dct _ :: _, _, e => by cases e
  | .ins _ _ :: _, _, e => by cases e
def short {α : Type} (xs : List α) : Bool := decide (xs.length ≤ lim)
def mkTup (ts : List T) : Option T := match allD ts with
  | some ds => if short ds = true then some (.d (.tuple ds)) else none
  | none => none
def mkLst (ts : List T) : Option T := match allD ts with
  | some ds => if short ds = true then some (.d (.list ds)) else none
  | none => none
theorem Ok.popAll {K : PySem.W.Frag} {m : List Bool} {B : Bs} {σ : St} {H : Hp} {ρ : Rho} {ws : List V} {ts : List T} {x : V} {t : T} : ∀ {vs : List V} {us : List T}, vs.length = us.length → Ok K m B σ H ρ (x :: (vs ++ ws)) (t :: (us ++ ts)) → Ok K m B σ H ρ (x :: ws) (t :: ts)
  | [], [], _, h => h
  | [], _ :: _, l, _ => nomatch l
  | _ :: _, [], l, _ => nomatch l
  | _ :: vs, _ :: us, l, h => Ok.popAll (vs := vs) (us := us) (by simpa using l) (Ok.inStead h)
theorem drAll_pending {K : PySem.W.Frag} {I H : Hp} {ws : List V} {ts : List T} {vs : List V} {ds : List PyData} {Fw : List Addr} (hl : vs.length = ds.length) (w : RepTs K I H (vs ++ ws) (ds.map T.d ++ ts) Fw) : DrAll K I vs ds := by
  obtain ⟨G, E, _, g, _⟩ := RepTs.split (by rw [hl, List.length_map]) w
  exact g.toD.1
def dtup (fs : M (List T)) : M T := mbind fs fun ts => mopt (mkTup ts)
def dlst (fs : M (List T)) : M T := mbind fs fun ts => mopt (mkLst ts)
theorem de_tup {x1} (h : DA X w es os fs) : DE X w (.Tuple es x1 pos) (dtup fs) := by
  obtain ⟨t, p, d⟩ := h.ex
  refine de_v (pe_tup p) fun B σ H ρ ws ts Q ok q => ?_
  refine d B σ H ρ ws ts _ ok (q.bind.mono fun vs ρ1 p1 xs H1 hl ok1 _ => ?_)
  obtain ⟨z, e, q1⟩ := p1.opt
  unfold mkTup at e
  cases e1 : allD vs with
  | none => rw [e1] at e; cases e
  | some ds =>
    rw [e1] at e
    obtain ⟨hz, e⟩ := reqs e
    subst e
    have hv := allD_eq e1
    subst hv
    rw [List.length_map] at hl
    refine ⟨by rw [hl]; exact lim_le (of_decide_eq_true hz), fun p hp => q1 _ _ (Ok.popAll (by rw [hl, List.length_map]) (ok1.newTup hp fun I Fw _ w' => drAll_pending hl w'))⟩
theorem de_lst (h : DA X w es os fs) : DE X w (.List es pos) (dlst fs) := by
  obtain ⟨t, p, d⟩ := h.ex
  refine de_v (pe_lst p) fun B σ H ρ ws ts Q ok q => ?_
  refine d B σ H ρ ws ts _ ok (q.bind.mono fun vs ρ1 p1 xs H1 hl ok1 _ => ?_)
  obtain ⟨z, e, q1⟩ := p1.opt
  unfold mkLst at e
  cases e1 : allD vs with
  | none => rw [e1] at e; cases e
  | some ds =>
    rw [e1] at e
    obtain ⟨hz, e⟩ := reqs e
    subst e
    have hv := allD_eq e1
    subst hv
    rw [List.length_map] at hl
    refine ⟨by rw [hl]; exact lim_le (of_decide_eq_true hz), fun p hp => q1 _ _ (Ok.popAll (by rw [hl, List.length_map]) (ok1.newList hp fun I Fw _ w' => drAll_pending hl w'))⟩
/-- an own list -/
theorem Ok.newOwn {K : PySem.W.Frag} {m : List Bool} {B : Bs} {σ : St} {H : Hp} {ρ : Rho} {ws : List V} {ts : List T} {vs : List V} {us : List T} {p : Addr} (hl : vs.length = us.length) (h : Ok K m B σ H ρ (vs ++ ws) (us ++ ts)) (hp : H p = none) :
    Ok K m B σ (upd H p (.lst vs)) ρ (.ref p :: ws) (.lst us :: ts) := by
  obtain ⟨I, Fr, Fw, s, r, w, km⟩ := h
  obtain ⟨G, E, rfl, g, e⟩ := RepTs.split hl w
  have nf : ∀ a ∈ Fr ++ (G ++ E), (upd H p (.lst vs)) a = H a := fun a z => upd_ne (show a ≠ p from fun e => s.thr a z (by rw [e]; exact hp))
  have s' := s.newO (o := .lst vs) hp
  refine ⟨I, Fr, (p :: G) ++ E, s'.perm ?_, r.mono (Same.refl _) fun a z => nf a (List.mem_append_left _ z), .cons (.lst upd_same (g.mono (Same.refl _) fun a z => nf a (List.mem_append_right _ (List.mem_append_left _ z)))) (e.mono (Same.refl _) fun a z => nf a (List.mem_append_right _ (List.mem_append_right _ z))), km⟩
  rw [List.cons_append]
  exact List.perm_middle.symm
def dlstO (fs : M (List T)) : M T := mbind fs fun ts => if short ts = true then mret (.lst ts) else mno
theorem de_lstO (h : DA X w es os fs) : DE X w (.List es pos) (dlstO fs) := by
  obtain ⟨t, p, d⟩ := h.ex
  refine de_v (pe_lst p) fun B σ H ρ ws ts Q ok q => ?_
  refine d B σ H ρ ws ts _ ok (q.bind.mono fun vs ρ1 p1 xs H1 hl ok1 _ => ?_)
  by_cases hz : short vs = true
  · rw [if_pos hz] at p1
    exact ⟨by rw [hl]; exact lim_le (of_decide_eq_true hz), fun p hp => p1 _ _ (Ok.newOwn hl ok1 hp)⟩
  · rw [if_neg hz] at p1
    exact p1.elim
end
end DL
end
section
set_option Elab.async false
set_option linter.all false
set_option maxRecDepth 100000
set_option maxHeartbeats 4000000
/-! DL5: a def's contract where nothing is being written out around (guards), its call, its body; the end. -/
namespace DL
open PySem L2 PySem.Spec PyProof.Rows

/-- a def keeps sp, called where no repr runs around -/
structure FnG (P : Program) (w : World) (K : PySem.W.Frag) (mg : Str → Option Value) (base : Heap) (k : Nat) (f : Addr) (fd : FuncData) (ps : List Str) (sp : Sp) : Prop where
  len : ∀ vs H Q E, sp vs H Q E → vs.length = ps.length
  go : ∀ (A : Around) (outer : List Env) (s : Shared) (H : Hp) (args : Args) (us : List Value) (vs : List V) (Q : VK) (E : XK), A.guards = some [] → Room k A → Env0 P w K mg base A outer s H →
    BindsTo s fd args (ps.zip us) → Vals vs us → sp vs H Q E → codeAny (model P w) A (.call (.ref f) args) (CR (L2.CX P w) outer P w H s Q E) s
section
variable {P : Program} {w : World} {K : PySem.W.Frag} {mg : Str → Option Value} {base : Heap} {k : Nat} {f : Addr} {fd : FuncData} {ps : List Str} {sp : Sp}
theorem FnG.up {j : Nat} (F : FnG P w K mg base j f fd ps sp) (h : j ≤ k) : FnG P w K mg base k f fd ps sp :=
  ⟨F.len, fun A outer s H args us vs Q E g r => F.go A outer s H args us vs Q E g (r.mono h)⟩
theorem FnG.of (F : FnOk P w K mg base (L2.CX P w) k f fd ps sp) : FnG P w K mg base k f fd ps sp :=
  ⟨F.len, fun A outer s H args us vs Q E _ r => F.run A outer s H args us vs Q E r⟩
end

/-- what an exception that leaves a call comes to: the wish at the caller's slots -/
abbrev atSlots (W : WX) (σ : L2.St) : XK := fun c d H => W c d σ H
def tCallG (sp : Sp) (W : WX) (dvs : List V) (t : TA) : TE := fun σ H Q => t σ H fun vs H1 => sp (vs ++ dvs) H1 Q (atSlots W σ)
section
variable {X : Cx} {k : Nat} {f : Addr} {fd : FuncData} {ps : List Str} {sp : Sp} {W : WX} {dvs : List V} {ds : List Value} {x : Str} {p pos : Pos} {e : Expr} {es : List Expr} {t : TA}
/-- the callee runs -/
theorem goG {pins : List (Addr × Obj)} {σ : L2.St} {H : Hp} {s : Shared} {Q : VK} {us : List Value} {vs : List V} (F : FnG X.prog X.w X.K X.mg X.base k f fd ps sp) (g : X.A.guards = some []) (r : Room k X.A) (b : Binds X.K fd ps ds) (hd : Vals dvs ds)
    (tk : Takes X W) (I : Inv X pins σ H s) (rv : Vals vs us) (h : sp (vs ++ dvs) H Q (atSlots W σ)) : wpAny (model X.prog X.w) X.A (call (.ref f) us) (EP X pins σ Q) X.xe s := by
  have both := Vals.append rv hd
  have hl := (Vals.length both).symm.trans (F.len _ _ _ _ h)
  have code := F.go X.A X.stack s H ⟨us, []⟩ (us ++ ds) (vs ++ dvs) Q (atSlots W σ) g r I.env0 (b s us I.kIn hl) both h
  refine wpAny_call (codeAny_mono code fun res s' q => ?_)
  match res, q with
  | .error er, q => exact tk er s' (XE.of_call I (fun _ _ _ z => z) q)
  | .ok (.ret u), q => exact Inv.after I q
  | .ok .next, q => exact q.elim
  | .ok .brk, q => exact q.elim
  | .ok .cont, q => exact q.elim
theorem pe_callG (F : FnG X.prog X.w X.K X.mg X.base k f fd ps sp) (g : X.A.guards = some []) (r : Room k X.A) (hg : Gl X x) (hm : X.mg x = some (.ref f)) (kp : PySem.W.keepIn X.K (.ref f) = true) (b : Binds X.K fd ps ds) (hd : Vals dvs ds) (tk : Takes X W)
    (ha : PA X (e :: es) t) (dbg : (x == ("__debug__" : Str)) = false := by decide) (st : starEach (e :: es) X.env = (false, eval e X.env) :: starEach es X.env := by rfl) (pl : (backTo pos (starEach es X.env)).any (·.1) = false := by rfl) :
    PE X (.Call (.Name x p) (e :: es) [] pos) (tCallG sp W dvs t) := ⟨fun pins s σ H Q I h =>
  wpAny_Call_Name_kw (ld_glob I hg hm (PySem.W.callWith_K (h₀ := X.base) I.ok.mod.kin kp
    (thn (ha.run pos pins s σ H _ I h) fun us s1 a => by
      obtain ⟨vs, H1, I1, rv, q⟩ := a
      exact ⟨I1.kIn, goG F g r b hd tk I1 rv q⟩) st pl) dbg)⟩
theorem pe_callG0 (F : FnG X.prog X.w X.K X.mg X.base k f fd ps sp) (g : X.A.guards = some []) (r : Room k X.A) (hg : Gl X x) (hm : X.mg x = some (.ref f)) (kp : PySem.W.keepIn X.K (.ref f) = true) (b : Binds X.K fd ps ds) (hd : Vals dvs ds) (tk : Takes X W)
    (dbg : (x == ("__debug__" : Str)) = false := by decide) : PE X (.Call (.Name x p) [] [] pos) (tCallG sp W dvs tNil) := ⟨fun pins s σ H Q I h =>
  wpAny_Call_Name_kw (ld_glob I hg hm (PySem.W.callWith_K0 I.kIn kp (goG (us := []) F g r b hd tk I .nil h)) dbg)⟩
end

/-! ### what a def computes -/
/-- from its arguments a value, and what its parameters hold at the end -/
abbrev Fn := List T → R T
def OkR (K : PySem.W.Frag) (mg : Str → Option Value) (B : Bs) (vs : List V) (r : R T) (Q : VK) (E : XK) : Prop := match r with
  | .ok v ρ' => ∀ x H', Ok K [] B (vs.map some) H' ρ' [x] [v] → Q x H'
  | .ex e ρ' => ∀ c d H', OkX K [] mg B (vs.map some) H' ρ' e c d → E c d H'
  | .no => False
def FnD (K : PySem.W.Frag) (mg : Str → Option Value) (n : Nat) (g : Fn) : Sp := fun vs H Q E => vs.length = n ∧ ∃ I F ts, Sit ⟨I, H, F, vs.map some⟩ I H F ∧ RepTs K I H vs ts F ∧ OkR K mg ⟨I, H, F, vs.map some⟩ vs (g ts) Q E

theorem Kept.nil {B : Bs} {σ : L2.St} : Kept [] B σ := fun i h => by simp at h
/-- what was lent comes back -/
def restore : List (Option Nat) → Rho → Rho → Rho
  | some i :: os, some t :: ρa, ρ => restore os ρa (ρ.set i (some t))
  | some _ :: os, none :: ρa, ρ => restore os ρa ρ
  | none :: os, _ :: ρa, ρ => restore os ρa ρ
  | _, _, ρ => ρ
theorem RepR.restore {K : PySem.W.Frag} {B : Bs} {I H : Hp} {σ : L2.St} {Fw : List Addr} : ∀ {os : List (Option Nat)} {xs : List V} {ρa ρ : Rho} {Fr Fp : List Addr}, Orig σ os xs → RepR K I H (xs.map some) ρa Fp → RepR K I H σ ρ Fr → Sit B I H (Fr ++ (Fp ++ Fw)) →
    ∃ Fr', RepR K I H σ (restore os ρa ρ) Fr' ∧ Sit B I H (Fr' ++ Fw)
  | [], xs, ρa, ρ, Fr, Fp, _, _, r, s => ⟨Fr, r, s.less (fun a m => by
      rcases List.mem_append.mp m with m | m
      · exact List.mem_append_left _ m
      · exact List.mem_append_right _ (List.mem_append_right _ m)) ((List.Sublist.append (List.Sublist.refl _) (List.sublist_append_right _ _)).nodup s.nd)⟩
  | none :: os, [], ρa, ρ, Fr, Fp, o, p, r, s => by
    cases p
    exact ⟨Fr, r, s⟩
  | some j :: os, [], ρa, ρ, Fr, Fp, o, p, r, s => by
    cases p
    exact ⟨Fr, r, s⟩
  | o :: os, x :: xs, ρa, ρ, Fr, Fp, oo, p, r, s => by
    have tl : Orig σ os xs := fun k i e => by simpa using oo (k + 1) i (by simpa using e)
    cases p with
    | hid p =>
      cases o with
      | none => exact RepR.restore (os := os) (xs := xs) tl p r s
      | some i => exact RepR.restore (os := os) (xs := xs) tl p r s
    | has a p =>
      rename_i t ρ1 F G
      cases o with
      | none =>
        refine RepR.restore (os := os) (xs := xs) tl p r (s.less (fun a m => ?_) ?_)
        · rcases List.mem_append.mp m with m | m
          · exact List.mem_append_left _ m
          · rcases List.mem_append.mp m with m | m
            · exact List.mem_append_right _ (List.mem_append_left _ (List.mem_append_right _ m))
            · exact List.mem_append_right _ (List.mem_append_right _ m)
        · exact (List.Sublist.append (List.Sublist.refl _) (List.Sublist.append (List.sublist_append_right _ _) (List.Sublist.refl _))).nodup s.nd
      | some i =>
        obtain ⟨y, h1, h2⟩ := oo 0 i rfl
        have e1 : y = x := (Option.some.inj (show some x = some y from h1)).symm
        subst e1
        obtain ⟨F', R, h3, h4⟩ := RepR.back (i := i) r h2 a
        refine RepR.restore (os := os) (xs := xs) tl p h3 (s.sub' (R := R) ?_)
        have e2 : List.Perm (F' ++ (G ++ Fw) ++ R) (F' ++ R ++ (G ++ Fw)) := by
          rw [List.append_assoc (as := F') (bs := G ++ Fw), List.append_assoc (as := F') (bs := R)]
          exact List.Perm.append_left _ List.perm_append_comm
        refine e2.trans ((List.Perm.append_right _ h4).trans ?_)
        rw [List.append_assoc, List.append_assoc]
/-- a state behind a call -/
theorem Ok.called {K : PySem.W.Frag} {m : List Bool} {B : Bs} {σ : L2.St} {H H' : Hp} {ρ ρa : Rho} {ws : List V} {ts : List T} {xs : List V} {vs : List T} {os : List (Option Nat)} {v : V} {r : T} {I : Hp} {Fr Fa Fw : List Addr}
    (s : Sit B I H (Fr ++ (Fa ++ Fw))) (hr : RepR K I H σ ρ Fr) (hw : RepTs K I H ws ts Fw) (km : Kept m B σ) (ho : Orig σ os xs)
    (q : Ok K [] ⟨I, H, Fa, xs.map some⟩ (xs.map some) H' ρa [v] [r]) : Ok K m B σ H' (restore os ρa ρ) (v :: ws) (r :: ts) := by
  obtain ⟨I', Fp, Fv, s', hp, hv, _⟩ := q
  have nd := s.nd
  have inF : ∀ a ∈ Fr ++ Fw, a ∈ Fr ++ (Fa ++ Fw) := fun a z => by
    rcases List.mem_append.mp z with z | z
    · exact List.mem_append_left _ z
    · exact List.mem_append_right _ (List.mem_append_right _ z)
  have notA : ∀ a ∈ Fr ++ Fw, a ∉ Fa := fun a z zA => by
    rcases List.mem_append.mp z with z | z
    · exact (List.nodup_append.mp nd).2.2 a z a (List.mem_append_left _ zA) rfl
    · exact (List.nodup_append.mp (List.nodup_append.mp nd).2.1).2.2 a zA a z rfl
  have stay : ∀ a ∈ Fr ++ Fw, H' a = H a := fun a z => by
    cases e : H a with
    | none => exact absurd e (s.thr a (inF a z))
    | some o => exact s'.keep a o (notA a z) e
  have free : ∀ a ∈ Fr ++ Fw, I' a = none := fun a z => by
    cases e : I' a with
    | none => rfl
    | some o =>
      rcases s'.new a o e with h | h | h
      · have h' : I a = some o := h
        rw [s.own a (inF a z)] at h'; cases h'
      · exact absurd h (s.thr a (inF a z))
      · exact absurd h (notA a z)
  have far : ∀ a ∈ Fp ++ Fv, a ∉ Fr ++ Fw := fun a z z' => by
    rcases s'.fr a z with h | h
    · exact notA a z' h
    · exact s.thr a (inF a z') h
  have inA : ∀ a ∈ Fa, a ∈ Fr ++ (Fa ++ Fw) := fun a z => List.mem_append_right _ (List.mem_append_left _ z)
  have ndO : (Fr ++ Fw).Nodup := (List.Sublist.append (List.Sublist.refl _) (List.sublist_append_right _ _)).nodup nd
  have S : Sit B I' H' (Fr ++ (Fp ++ (Fv ++ Fw))) := by
    have pm : List.Perm (Fr ++ (Fp ++ (Fv ++ Fw))) ((Fp ++ Fv) ++ (Fr ++ Fw)) := by
      refine (List.perm_append_comm (l₁ := Fr) (l₂ := Fp ++ (Fv ++ Fw))).trans ?_
      rw [List.append_assoc, List.append_assoc, List.append_assoc]
      exact List.Perm.append_left _ (List.Perm.append_left _ List.perm_append_comm)
    have base : Sit B I' H' ((Fp ++ Fv) ++ (Fr ++ Fw)) := by
      refine ⟨s'.sub, fun a u z => s'.ext a u (s.ext a u z), fun a u n z => ?_, fun a u z => ?_, fun a z => ?_, fun a z => ?_, fun a z => ?_, ?_⟩
      · by_cases zA : a ∈ Fa
        · rcases s.fr a (inA a zA) with h | h
          · exact absurd h n
          · rw [h] at z; cases z
        · exact s'.keep a u zA (s.keep a u n z)
      · rcases s'.new a u z with h | h | h
        · exact s.new a u h
        · by_cases q1 : a ∈ B.F
          · exact .inr (.inr q1)
          · refine .inr (.inl ?_)
            cases e : B.H a with
            | none => rfl
            | some o =>
              have h' : H a = none := h
              rw [s.keep a o q1 e] at h'; cases h'
        · rcases s.fr a (inA a h) with h | h
          · exact .inr (.inr h)
          · exact .inr (.inl h)
      · rcases List.mem_append.mp z with z | z
        · rcases s'.fr a z with h | h
          · exact s.fr a (inA a h)
          · by_cases q1 : a ∈ B.F
            · exact .inl q1
            · refine .inr ?_
              cases e : B.H a with
              | none => rfl
              | some o =>
                have h' : H a = none := h
                rw [s.keep a o q1 e] at h'; cases h'
        · exact s.fr a (inF a z)
      · rcases List.mem_append.mp z with z | z
        · exact s'.own a z
        · exact free a z
      · rcases List.mem_append.mp z with z | z
        · exact s'.thr a z
        · rw [stay a z]; exact s.thr a (inF a z)
      · exact List.nodup_append.mpr ⟨s'.nd, ndO, fun a z b z' e => far a z (e ▸ z')⟩
    exact base.perm pm.symm
  obtain ⟨Fr', h1, h2⟩ := RepR.restore ho hp (hr.mono s'.ext fun a z => stay a (List.mem_append_left _ z)) S
  cases hv with
  | cons a b =>
    cases b
    refine ⟨I', Fr', _, h2.perm ?_, h1, .cons a (hw.mono s'.ext fun a z => stay a (List.mem_append_right _ z)), km⟩
    rw [List.append_nil]
theorem OkX.called {K : PySem.W.Frag} {m : List Bool} {mg : Str → Option Value} {B : Bs} {σ : L2.St} {H H' : Hp} {ρ ρa : Rho} {ws : List V} {ts : List T} {xs : List V} {vs : List T} {os : List (Option Nat)} {e : Exn} {c : Value} {d : Option Addr} {I : Hp} {Fr Fa Fw : List Addr}
    (s : Sit B I H (Fr ++ (Fa ++ Fw))) (hr : RepR K I H σ ρ Fr) (hw : RepTs K I H ws ts Fw) (km : Kept m B σ) (ho : Orig σ os xs)
    (q : OkX K [] mg ⟨I, H, Fa, xs.map some⟩ (xs.map some) H' ρa e c d) : OkX K m mg B σ H' (restore os ρa ρ) e c d := by
  obtain ⟨I', Fp, us, s', hp, _, hc, hd, hf⟩ := q
  have nd := s.nd
  have inF : ∀ a ∈ Fr, a ∈ Fr ++ (Fa ++ Fw) := fun a z => List.mem_append_left _ z
  have notA : ∀ a ∈ Fr, a ∉ Fa := fun a z zA => (List.nodup_append.mp nd).2.2 a z a (List.mem_append_left _ zA) rfl
  have stay : ∀ a ∈ Fr, H' a = H a := fun a z => by
    cases e : H a with
    | none => exact absurd e (s.thr a (inF a z))
    | some o => exact s'.keep a o (notA a z) e
  have free : ∀ a ∈ Fr, I' a = none := fun a z => by
    cases e : I' a with
    | none => rfl
    | some o =>
      rcases s'.new a o e with h | h | h
      · have h' : I a = some o := h
        rw [s.own a (inF a z)] at h'; cases h'
      · exact absurd h (s.thr a (inF a z))
      · exact absurd h (notA a z)
  have far : ∀ a ∈ Fp, a ∉ Fr := fun a z z' => by
    rcases s'.fr a z with h | h
    · exact notA a z' h
    · exact s.thr a (inF a z') h
  have inA : ∀ a ∈ Fa, a ∈ Fr ++ (Fa ++ Fw) := fun a z => List.mem_append_right _ (List.mem_append_left _ z)
  have S : Sit B I' H' (Fr ++ (Fp ++ [])) := by
    refine ⟨s'.sub, fun a u z => s'.ext a u (s.ext a u z), fun a u n z => ?_, fun a u z => ?_, fun a z => ?_, fun a z => ?_, fun a z => ?_, ?_⟩
    · by_cases zA : a ∈ Fa
      · rcases s.fr a (inA a zA) with h | h
        · exact absurd h n
        · rw [h] at z; cases z
      · exact s'.keep a u zA (s.keep a u n z)
    · rcases s'.new a u z with h | h | h
      · exact s.new a u h
      · by_cases q1 : a ∈ B.F
        · exact .inr (.inr q1)
        · refine .inr (.inl ?_)
          cases e : B.H a with
          | none => rfl
          | some o =>
            have h' : H a = none := h
            rw [s.keep a o q1 e] at h'; cases h'
      · rcases s.fr a (inA a h) with h | h
        · exact .inr (.inr h)
        · exact .inr (.inl h)
    · rw [List.append_nil] at z
      rcases List.mem_append.mp z with z | z
      · exact s.fr a (inF a z)
      · rcases s'.fr a z with h | h
        · exact s.fr a (inA a h)
        · by_cases q1 : a ∈ B.F
          · exact .inl q1
          · refine .inr ?_
            cases e : B.H a with
            | none => rfl
            | some o =>
              have h' : H a = none := h
              rw [s.keep a o q1 e] at h'; cases h'
    · rw [List.append_nil] at z
      rcases List.mem_append.mp z with z | z
      · exact free a z
      · exact s'.own a z
    · rw [List.append_nil] at z
      rcases List.mem_append.mp z with z | z
      · rw [stay a z]; exact s.thr a (inF a z)
      · exact s'.thr a z
    · rw [List.append_nil]
      exact List.nodup_append.mpr ⟨(List.nodup_append.mp nd).1, s'.nd, fun a z b z' e => far b z' (e ▸ z)⟩
  obtain ⟨Fr', h1, h2⟩ := RepR.restore ho hp (hr.mono s'.ext stay) S
  rw [List.append_nil] at h2
  exact ⟨I', Fr', us, h2, h1, km, hc, hd, hf⟩

/-- a call: what was lent is restored -/
def dcallF (g : Fn) (os : List (Option Nat)) (vs : List T) : M T := fun ρ => match g vs with
  | .ok r ρa => .ok r (restore os ρa ρ)
  | .ex e ρa => .ex e (restore os ρa ρ)
  | .no => .no
def dcall (g : Fn) (os : List (Option Nat)) (fs : M (List T)) : M T := mbind fs fun vs => dcallF g os vs
/-- an own def as the text has it -/
structure Def (P : Program) (w : World) (K : PySem.W.Frag) (mg : Str → Option Value) (base : Heap) (x : Str) (k n : Nat) (g : Fn) : Prop where
  ex : ∃ f fd ps, FnG P w K mg base k f fd ps (FnD K mg n g) ∧ mg x = some (.ref f) ∧ PySem.W.keepIn K (.ref f) = true ∧ Binds K fd ps []
/-- where one stands -/
structure At (X : Cx) (w : Wd) (k : Nat) : Prop where
  g : X.A.guards = some []
  r : Room k X.A
  tk : Takes X w.W
  cl : w.cl = X.mg
  ca : X.calm = true
  po : PassesOwn (model X.prog X.w) X.A X.env X.xe
theorem At.un {X : Cx} {w : Wd} {k : Nat} (h : At X w k) : X.A.units + 64 < cLine := h.r.units
section
variable {X : Cx} {w : Wd} {e : Expr} {es : List Expr} {fs : M (List T)} {os : List (Option Nat)} {g : Fn} {k n : Nat} {x : Str} {p pos : Pos}
theorem den_call {t : TA} {K : PySem.W.Frag} (hcl : w.cl = mg) (hn : ∀ vs : List T, ∀ ρ ρ', fs ρ = .ok vs ρ' → vs.length = n) (d : DenA K w t os fs) : DenE K w (tCallG (FnD K mg n g) w.W [] t) (dcall g os fs) := fun B σ H ρ ws ts Q ok q => by
  subst hcl
  refine d B σ H ρ ws ts _ ok ?_
  have q := q.bind
  cases e1 : fs ρ with
  | no => rw [e1] at q; exact q.elim
  | ex er ρ1 => rw [e1] at q; exact q
  | ok vs ρ1 =>
    rw [e1] at q
    intro xs H1 hl ok1 ho
    have q : PostG K w B (dcallF g os vs ρ1) _ := q
    unfold dcallF at q
    obtain ⟨I, Fr, F, s, hr, hw, km⟩ := id ok1
    obtain ⟨Fa, Fw, hF, ha, hw'⟩ := RepTs.split hl hw
    subst hF
    rw [List.append_nil]
    refine ⟨by rw [hl]; exact hn vs ρ ρ1 e1, I, Fa, vs, ⟨s.sub, Same.refl _, fun a o _ z => z, fun a o z => .inl z, fun a z => .inl z, fun a z => s.own a (List.mem_append_right _ (List.mem_append_left _ z)), fun a z => s.thr a (List.mem_append_right _ (List.mem_append_left _ z)), (List.nodup_append.mp (List.nodup_append.mp s.nd).2.1).1⟩, ha, ?_⟩
    cases e2 : g vs with
    | no => rw [e2] at q; exact q.elim
    | ok r ρa =>
      rw [e2] at q
      exact fun y H' ok2 => q y H' (Ok.called (vs := vs) s hr hw' km ho ok2)
    | ex er ρa =>
      rw [e2] at q
      exact fun c dd H' okx => q c dd σ H' (OkX.called (vs := vs) s hr hw' km ho okx)
theorem de_call {k' : Nat} (D : Def X.prog X.w X.K X.mg X.base x k n g) (at_ : At X w k') (ha : DA X w (e :: es) os fs) (hk : k ≤ k' := by decide) (hn : (e :: es).length = n := by rfl) (hg : Gl X x := by rfl) (dbg : (x == ("__debug__" : Str)) = false := by decide)
    (st : starEach (e :: es) X.env = (false, eval e X.env) :: starEach es X.env := by rfl) (pl : (backTo pos (starEach es X.env)).any (·.1) = false := by rfl) : DE X w (.Call (.Name x p) (e :: es) [] pos) (dcall g os fs) := by
  obtain ⟨f, fd, ps, F, hm, kp, b⟩ := D.ex
  obtain ⟨t, pt, dt⟩ := ha.ex
  exact de_v (pe_callG F at_.g (at_.r.mono hk) hg hm kp b .nil at_.tk pt dbg st pl) (den_call at_.cl (fun vs ρ ρ' e => (ha.len vs ρ ρ' e).trans hn) dt)
theorem den_nil {K : PySem.W.Frag} : DenA K w tNil [] (mret []) := fun B σ H ρ ws ts Q ok p => p [] H rfl ok fun k i e => by simp at e
theorem de_call0 {k' : Nat} (D : Def X.prog X.w X.K X.mg X.base x k 0 g) (at_ : At X w k') (hk : k ≤ k' := by decide) (hg : Gl X x := by rfl) (dbg : (x == ("__debug__" : Str)) = false := by decide) : DE X w (.Call (.Name x p) [] [] pos) (dcall g [] (mret [])) := by
  obtain ⟨f, fd, ps, F, hm, kp, b⟩ := D.ex
  exact de_v (pe_callG0 F at_.g (at_.r.mono hk) hg hm kp b .nil at_.tk dbg) (den_call at_.cl (fun vs ρ ρ' e => by cases e; rfl) den_nil)
end

/-! ### a def's body -/
def keepm : List Bool → Rho → Rho
  | [], _ => []
  | true :: m, o :: ρ => o :: keepm m ρ
  | false :: m, _ :: ρ => none :: keepm m ρ
  | _ :: m, [] => none :: keepm m []
theorem RepR.keepm {K : PySem.W.Frag} {I H : Hp} : ∀ {m : List Bool} {vs : List V} {σ : L2.St} {ρ : Rho} {F : List Addr}, vs.length = m.length → RepR K I H σ ρ F → (∀ i : Nat, m[i]? = some true → σ[i]? = (vs.map some)[i]?) →
    ∃ F' R, RepR K I H (vs.map some) (keepm m ρ) F' ∧ List.Perm (F' ++ R) F
  | [], [], σ, ρ, F, _, _, _ => ⟨[], F, .nil, List.Perm.refl _⟩
  | [], _ :: _, _, _, _, l, _, _ => nomatch l
  | _ :: _, [], _, _, _, l, _, _ => nomatch l
  | b :: m, v :: vs, _, _, _, l, .nil, k => by
    obtain ⟨F', R, h1, h2⟩ := RepR.keepm (m := m) (vs := vs) (σ := []) (ρ := []) (F := []) (K := K) (I := I) (H := H) (by simpa using l) .nil (fun i e => by simpa using k (i + 1) (by simpa using e))
    cases b <;> exact ⟨F', R, .hid h1, h2⟩
  | b :: m, v :: vs, _, _, _, l, .hid (F := F) r, k => by
    obtain ⟨F', R, h1, h2⟩ := RepR.keepm (m := m) (vs := vs) (by simpa using l) r (fun i e => by simpa using k (i + 1) (by simpa using e))
    cases b <;> exact ⟨F', R, .hid h1, h2⟩
  | b :: m, v :: vs, _, _, _, l, .has (v := u) (t := t) (F := F) (G := G) a r, k => by
    obtain ⟨F', R, h1, h2⟩ := RepR.keepm (m := m) (vs := vs) (by simpa using l) r (fun i e => by simpa using k (i + 1) (by simpa using e))
    cases b with
    | true =>
      have e : u = v := by simpa using k 0 rfl
      subst e
      exact ⟨F ++ F', R, .has a h1, by rw [List.append_assoc]; exact List.Perm.append_left _ h2⟩
    | false =>
      refine ⟨F', R ++ F, .hid h1, ?_⟩
      rw [← List.append_assoc]
      exact (List.Perm.append_right _ h2).trans List.perm_append_comm
def dfn (n : Nat) (m : List Bool) (F : M Fl) : Fn := fun ts => match F (ts.map some ++ List.replicate (n - ts.length) none) with
  | .ok fl ρ => match fl with
    | .rt v => .ok v (keepm m ρ)
    | .nx => .ok (.d .none) (keepm m ρ)
    | _ => .no
  | .ex e ρ => .ex e (keepm m ρ)
  | .no => .no
theorem RepR.start {K : PySem.W.Frag} {I H : Hp} (n : Nat) : ∀ {vs : List V} {ts : List T} {F : List Addr}, RepTs K I H vs ts F → RepR K I H (vs.map some ++ List.replicate n none) (ts.map some ++ List.replicate n none) F
  | _, _, _, .nil => by
    induction n with
    | zero => exact .nil
    | succ n ih => exact .hid ih
  | _, _, _, .cons a b => .has a (RepR.start n b)
theorem Sit.s {I0 H0 I H : Hp} {F0 F : List Addr} {s s' : L2.St} (h : Sit ⟨I0, H0, F0, s⟩ I H F) : Sit ⟨I0, H0, F0, s'⟩ I H F := ⟨h.sub, h.ext, h.keep, h.new, h.fr, h.own, h.thr, h.nd⟩
section
variable {P : Program} {w : World} {K : PySem.W.Frag} {mg : Str → Option Value} {base : Heap} {k : Nat} {f : Addr} {fd : FuncData} {N ps : List Str} {x qual : Str} {st : Stmt} {m : List Bool} {F : M Fl}
/-- the context in which a def's body runs -/
abbrev cxG (P : Program) (w : World) (K : PySem.W.Frag) (mg : Str → Option Value) (base : Heap) (N : List Str) (qual : Str) (st : Stmt) (f : Addr) (cd : Value) (A : Around) (outer : List Env) (s : Shared) (H : Hp) (E : XK) : Cx :=
  cxOf (L2.CX P w) P w K mg base N qual (defScope st) f cd A outer s H E
abbrev wdG (m : List Bool) (mg : Str → Option Value) (E : XK) : Wd := ⟨fun c d _ H => E c d H, m, mg⟩
/-- a body's derivation, in every context -/
def BodyOk (P : Program) (w : World) (K : PySem.W.Frag) (mg : Str → Option Value) (base : Heap) (k : Nat) (N : List Str) (qual : Str) (st : Stmt) (m : List Bool) (F : M Fl) : Prop :=
  ∀ (f : Addr) (cd : Value) (A : Around) (outer : List Env) (s : Shared) (H : Hp) (E : XK), At (cxG P w K mg base N qual st f cd A outer s H E) (wdG m mg E) k → DSs (cxG P w K mg base N qual st f cd A outer s H E) (wdG m mg E) (defBody st) F
theorem def_ok (U : Fun K x qual st f fd) (S : FnScope N ps (defScope st)) (hm : m.length = ps.length) (body : BodyOk P w K mg base k N qual st m F) : FnG P w K mg base (k + 1) f fd ps (FnD K mg ps.length (dfn N.length m F)) := by
  obtain ⟨oc, od, kV, doc, pm, an, cdv, ct, osl, rfl, lk, hcd⟩ := U.ex
  refine ⟨fun vs H Q E h => h.1, fun A outer s H args us vs Q E g r e0 hb rv hsp => ?_⟩
  obtain ⟨hl, I, Fa, ts, sit, rep, q⟩ := hsp
  have old : ∀ b o, base.get? b = some o → s.heap.get? b = some o := fun b o e => (e0.bs b o e).1
  have kin : K.In s.heap := e0.mod.kin.keeps old
  have names : ∀ y ∈ ps.zip us, (defScope st).names.lookup y.1 = some .local ∨ ((defScope st).names.lookup y.1 = some .cell ∧ ((cellsFrom (s.heap.objs.size + 1) (defScope st).names []).lookup y.1).isSome = true) := by
    rintro ⟨n, v⟩ hy
    exact (S.par n (List.of_mem_zip hy).1).imp id fun z => ⟨z, PySem.W.cellsFrom_some _ _ _ (.inl z)⟩
  refine codeAny_call_function r.depth (kin _ _ lk) rfl S.co S.gen rfl (PySem.W.codeRec_of kin hcd) (hb _ _ _ _ (wpAny_newFunctionEnv_cells S.kind names fun env he s1 inC => ?_))
  subst he
  refine ⟨(e0.mod.nolimit.keeps old).keeps inC.toInCall.keep, codeAny_func ?_⟩
  have cal : (cxG P w K mg base N qual st f cdv A outer s H E).calm = true := rfl
  have site : At (cxG P w K mg base N qual st f cdv A outer s H E) (wdG m mg E) k := ⟨g, r.deeper _, takes_of rfl rfl rfl rfl, rfl, rfl, passes_of rfl⟩
  obtain ⟨t, run, den⟩ := (body f cdv A outer s H E site).ex
  have I0 : Inv (cxG P w K mg base N qual st f cdv A outer s H E) [] (start N vs) H s1 := inv_start S r.hd e0 hl rv inC
  have lts : vs.length = ts.length := rep.len
  have ok0 : Ok K m ⟨I, H, Fa, start N vs⟩ (start N vs) H (ts.map some ++ List.replicate (N.length - ts.length) none) [] [] := by
    refine ⟨I, Fa, [], by rw [List.append_nil]; exact sit.s, ?_, .nil, fun i _ => rfl⟩
    unfold L2.start
    rw [lts]
    exact RepR.start _ rep
  have back : ∀ {σ' H' ρ' ws us'}, Ok K m ⟨I, H, Fa, start N vs⟩ σ' H' ρ' ws us' → Ok K [] ⟨I, H, Fa, vs.map some⟩ (vs.map some) H' (DL.keepm m ρ') ws us' := fun {σ' H' ρ' ws us'} z => by
    obtain ⟨I', Fr, Fw, s', r', w', km⟩ := z
    obtain ⟨F', R, h1, h2⟩ := RepR.keepm (vs := vs) (m := m) (by rw [hl, hm]) r' (fun i e => by
      rw [km i e]
      unfold L2.start
      have : i < vs.length := by
        have := (List.getElem?_eq_some_iff.mp e).1
        omega
      rw [List.getElem?_append_left (by simpa using this)])
    refine ⟨I', F', Fw, (s'.sub' (R := R) ?_).s, h1, w', Kept.nil⟩
    have e1 : List.Perm (F' ++ Fw ++ R) (F' ++ R ++ Fw) := by
      rw [List.append_assoc, List.append_assoc]
      exact List.Perm.append_left _ List.perm_append_comm
    exact e1.trans (List.Perm.append_right _ h2)
  have backX : ∀ {σ' H' ρ' er c d}, OkX K m mg ⟨I, H, Fa, start N vs⟩ σ' H' ρ' er c d → OkX K [] mg ⟨I, H, Fa, vs.map some⟩ (vs.map some) H' (DL.keepm m ρ') er c d := fun {σ' H' ρ' er c d} z => by
    obtain ⟨I', Fr, us', s', r', km, hc, hd, hf⟩ := z
    obtain ⟨F', R, h1, h2⟩ := RepR.keepm (vs := vs) (m := m) (by rw [hl, hm]) r' (fun i e => by
      rw [km i e]
      unfold L2.start
      have : i < vs.length := by
        have := (List.getElem?_eq_some_iff.mp e).1
        omega
      rw [List.getElem?_append_left (by simpa using this)])
    exact ⟨I', F', us', (s'.sub' (R := R) h2).s, h1, Kept.nil, hc, hd, hf⟩
  have goal : t { nx := fun _ H' => Q .non H', rt := Q } (start N vs) H := by
    refine den ⟨I, H, Fa, start N vs⟩ _ _ _ [] [] _ ok0 ?_
    unfold dfn at q
    cases e : F (ts.map some ++ List.replicate (N.length - ts.length) none) with
    | no => rw [e] at q; exact q.elim
    | ex er ρ' =>
      rw [e] at q
      exact fun c d σ' H' okx => q c d H' (backX okx)
    | ok fl ρ' =>
      rw [e] at q
      cases fl with
      | rt v => exact fun x σ' H' ok' => q x H' (back ok')
      | nx => exact fun σ' H' ok' => q .non H' (back ok').non
      | bk => exact q.elim
      | ct => exact q.elim
  refine wpAny_mono (run.run [] s1 (start N vs) H _ I0 goal) (fun fl s' hs => ?_) fun e s' hs => hs
  have fin : ∀ {σ' : L2.St} {H' : Hp} {v : V} {u : Value}, Inv (cxG P w K mg base N qual st f cdv A outer s H E) [] σ' H' s' → RelV v u → Q v H' → CE outer P w H s Q u s' :=
    fun {σ' H' v u} J rv q => ⟨v, H', J.os, J.bare, J.base, J.hok, rv, q⟩
  match fl, hs with
  | .ret u, ⟨v, σ', H', J, ru, z⟩ => exact fin J ru z
  | .next, ⟨σ', H', J, z⟩ => exact fin (v := V.non) (u := Value.none) J rfl z
  | .brk, ⟨_, _, _, z⟩ => exact z.elim
  | .cont, ⟨_, _, _, z⟩ => exact z.elim
theorem Def.of (U : Fun K x qual st f fd) (hm : mg x = some (.ref f)) (b : Binds K fd ps []) {n : Nat} {g : Fn} (h : FnG P w K mg base k f fd ps (FnD K mg n g)) : Def P w K mg base x k n g := ⟨f, fd, ps, h, hm, U.kp, b⟩
end
end DL
end
section
set_option Elab.async false
set_option linter.all false
set_option maxRecDepth 100000
set_option maxHeartbeats 4000000
/-! DL6: what is walked, loops, comprehensions. -/
namespace DL
open PySem L2

/-! ### what is walked -/
/-- with ws1, ts1 pending J walks the data ds -/
def JWalk (K : PySem.W.Frag) (J : It) (ws1 : List V) (ts1 : List T) (ds : List PyData) : Prop :=
  ∀ m B σ H ρ ws ts (i : Nat), Ok K m B σ H ρ (ws1 ++ ws) (ts1 ++ ts) → (ds.length = i → J.stop i H) ∧
    ∀ d, ds[i]? = some d → J.go i H ∧ ∀ x H', J.yld i H x H' → Ok K m B σ H' ρ (x :: (ws1 ++ ws)) (.d d :: (ts1 ++ ts))
def DenI (K : PySem.W.Frag) (w : Wd) (wi : TI) (f : M (List PyData)) : Prop := ∀ B σ H ρ ws ts R, Ok K w.m B σ H ρ ws ts →
  PostG K w B (f ρ) (fun ds ρ' => ∀ J H' ws1 ts1, ws1.length = ts1.length → Ok K w.m B σ H' ρ' (ws1 ++ ws) (ts1 ++ ts) → JWalk K J ws1 ts1 ds → R J H') → wi σ H R
structure DI (X : Cx) (w : Wd) (tg iter : Expr) (f : M (List PyData)) : Prop where
  ex : ∃ wi, PI X tg iter wi ∧ DenI X.K w wi f
theorem PI.or {X : Cx} {tg iter : Expr} {w1 w2 : TI} (h1 : PI X tg iter w1) (h2 : PI X tg iter w2) : PI X tg iter (fun σ H R => w1 σ H R ∨ w2 σ H R) :=
  ⟨fun pins s σ H R I h => h.elim (h1.run pins s σ H R I) (h2.run pins s σ H R I)⟩
section
variable {X : Cx} {w : Wd} {tg e : Expr} {f : M T} {pos p : Pos} {K : PySem.W.Frag}
def seqItems : T → Option (List PyData)
  | .d (.list ds) => some ds
  | .d (.tuple ds) => some ds
  | .d (.str z) => some (z.cps.toList.map fun c => .str ⟨#[c]⟩)
  | _ => none
def dseq (f : M T) : M (List PyData) := mbind f fun t => mopt (seqItems t)
theorem walk_list {a : Addr} {vs0 : List V} {ds : List PyData} : JWalk K (Itl K a) [.ref a] [.d (.list ds)] ds := fun m B σ H ρ ws ts i ok => by
  obtain ⟨I, Fr, Fw, s, r, wz, km⟩ := id ok
  obtain ⟨a', vs, e, ha, dd⟩ := lst_items wz
  cases e
  have hH := s.sub _ _ ha
  refine ⟨fun hi => ⟨vs, SqL.of hH, by rw [dd.len]; exact Nat.le_of_eq hi⟩, fun d hd => ?_⟩
  obtain ⟨v, hv, dv⟩ := dd.get' hd
  refine ⟨⟨vs, v, SqL.of hH, hv⟩, fun x H' y => ?_⟩
  obtain ⟨e, y⟩ := y
  subst e
  have hx := y vs (SqL.of hH)
  rw [hv] at hx
  cases hx
  exact ⟨I, Fr, _, s, r, .cons (F := []) (.d dv) wz, km⟩
theorem walk_tup {a : Addr} {vs : List V} {ds : List PyData} (hl : vs.length = ds.length) (hu : ∀ m B σ H ρ ws ts, Ok K m B σ H ρ (.ref a :: ws) (.d (.tuple ds) :: ts) → ∀ us, SqT K H a us → us = vs) : JWalk K (Itt K a) [.ref a] [.d (.tuple ds)] ds := fun m B σ H ρ ws ts i ok => by
  obtain ⟨I, Fr, Fw, s, r, wz, km⟩ := id ok
  obtain ⟨a', us, e, ha, dd⟩ := tup_items wz
  cases e
  have hH := st_mono s.sub ha
  refine ⟨fun hi => ⟨us, hH, by rw [dd.len]; exact Nat.le_of_eq hi⟩, fun d hd => ?_⟩
  obtain ⟨v, hv, dv⟩ := dd.get' hd
  refine ⟨⟨us, v, hH, hv⟩, fun x H' y => ?_⟩
  obtain ⟨e, y⟩ := y
  subst e
  have hx := y us hH
  rw [hv] at hx
  cases hx
  exact ⟨I, Fr, _, s, r, .cons (F := []) (.d dv) wz, km⟩
theorem walk_str {x : Str} : JWalk K (Its x) [] [] (x.cps.toList.map fun c => PyData.str ⟨#[c]⟩) := fun m B σ H ρ ws ts i ok => by
  refine ⟨fun hi => show x.cps.size ≤ i from (by have := Nat.le_of_eq hi; simpa using this), fun d hd => ?_⟩
  rw [List.getElem?_map] at hd
  cases e : x.cps.toList[i]? with
  | none => rw [e] at hd; cases hd
  | some c =>
    rw [e] at hd
    cases hd
    have hi : i < x.cps.size := by
      have := (List.getElem?_eq_some_iff.mp e).1
      simpa using this
    refine ⟨hi, fun v H' y => ?_⟩
    obtain ⟨e1, c', hc, ev⟩ := y
    subst e1 ev
    have : c' = c := by
      rw [← Array.getElem?_toList, e] at hc
      exact (Option.some.inj hc).symm
    subst this
    exact ok.str
theorem di_seq (h : DE X w e f) : DI X w tg e (dseq f) := by
  obtain ⟨t, pt, dt⟩ := h.ex
  refine ⟨_, PI.or (pi_list pt) (PI.or (pi_tup pt) (pi_str pt)), fun B σ H ρ ws ts R ok q => ?_⟩
  have q := q.bind
  cases e1 : f ρ with
  | no => rw [e1] at q; exact q.elim
  | ex er ρ1 => rw [e1] at q; exact .inl (dt B σ H ρ ws ts _ ok (by rw [e1]; exact q))
  | ok v ρ1 =>
    rw [e1] at q
    obtain ⟨ds, e2, q2⟩ := (show PostG X.K w B (mopt (seqItems v) ρ1) _ from q).opt
    unfold seqItems at e2
    split at e2
    · cases e2
      refine .inl (dt B σ H ρ ws ts _ ok ?_)
      rw [e1]
      intro x H1 ok1
      obtain ⟨a, vs, rfl, ha, dd⟩ := ok1.topList
      exact ⟨a, rfl, ⟨vs, SqL.of ha⟩, q2 _ H1 [.ref a] [.d (.list _)] rfl ok1 (walk_list (vs0 := vs))⟩
    · cases e2
      refine .inr (.inl (dt B σ H ρ ws ts _ ok ?_))
      rw [e1]
      intro x H1 ok1
      obtain ⟨a, vs, rfl, ha, dd⟩ := ok1.topTup
      refine ⟨a, rfl, ⟨vs, ha⟩, q2 _ H1 [.ref a] [.d (.tuple _)] rfl ok1 fun m B σ H ρ ws ts i ok => ?_⟩
      obtain ⟨I, Fr, Fw, s, r, wz, km⟩ := id ok
      obtain ⟨a', us, e, ha, dd⟩ := tup_items wz
      cases e
      have hH := st_mono s.sub ha
      refine ⟨fun hi => ⟨us, hH, by rw [dd.len]; exact Nat.le_of_eq hi⟩, fun d hd => ?_⟩
      obtain ⟨v, hv, dv⟩ := dd.get' hd
      refine ⟨⟨us, v, hH, hv⟩, fun x H' y => ?_⟩
      obtain ⟨e, y⟩ := y
      subst e
      have hx := y us hH
      rw [hv] at hx
      cases hx
      exact ⟨I, Fr, _, s, r, .cons (F := []) (.d dv) wz, km⟩
    · cases e2
      refine .inr (.inr (dt B σ H ρ ws ts _ ok ?_))
      rw [e1]
      intro x H1 ok1
      have hx := ok1.topStr
      subst hx
      exact ⟨_, rfl, q2 _ H1 [] [] rfl ok1.pop walk_str⟩
    · cases e2
/-- range -/
def intsFrom (lo : Int) (n : Nat) : List PyData := (List.range n).map fun i => .int (lo + (i : Nat))
theorem intsFrom_get (lo : Int) (n i : Nat) : (intsFrom lo n)[i]? = if i < n then some (.int (lo + i)) else none := by
  unfold intsFrom
  rw [List.getElem?_map]
  by_cases h : i < n
  · rw [if_pos h, List.getElem?_range h]; rfl
  · rw [if_neg h, List.getElem?_eq_none (by simpa using h)]; rfl
theorem walk_range {lo : Int} {n : Nat} : JWalk K (Itr lo n) [] [] (intsFrom lo n) := fun m B σ H ρ ws ts i ok => by
  refine ⟨fun hi => show n ≤ i from (by have := Nat.le_of_eq hi; simpa [intsFrom] using this), fun d hd => ?_⟩
  rw [intsFrom_get] at hd
  by_cases h : i < n
  · rw [if_pos h] at hd
    cases hd
    refine ⟨h, fun x H' y => ?_⟩
    obtain ⟨e, y⟩ := y
    subst e y
    exact ok.int
  · rw [if_neg h] at hd; cases hd
def okRange (i : Int) : Bool := decide (-1000000 ≤ i) && decide (i ≤ 1000000)
def rangeItems : List T → Option (List PyData)
  | [.d (.int j)] => if okRange j = true then some (intsFrom 0 j.toNat) else none
  | [.d (.int i), .d (.int j)] => if (okRange i && okRange j) = true then some (intsFrom i (j - i).toNat) else none
  | _ => none
theorem okRange_of {i : Int} (h : okRange i = true) : -(2 ^ 62) ≤ i ∧ i < 2 ^ 62 := by
  have h := (Bool.and_eq_true _ _).mp h
  have h1 := of_decide_eq_true h.1
  have h2 := of_decide_eq_true h.2
  omega
def drange (fs : M (List T)) : M (List PyData) := mbind fs fun ts => mopt (rangeItems ts)
/-- a name that the module leaves to the built-ins -/
abbrev NoG (X : Cx) (x : Str) : Prop := X.mg x = none
theorem di_range1 {a : Expr} {os : List (Option Nat)} {fs : M (List T)} (hm : NoG X "range") (ha : DA X w [a] os fs) (hg : Gl X "range" := by rfl) (hs : starEach [a] X.env = [(false, eval a X.env)] := by rfl) : DI X w tg (.Call (.Name "range" p) [a] [] pos) (drange fs) := by
  obtain ⟨t, pt, dt⟩ := ha.ex
  refine ⟨_, pi_range1 hg hm pt hs, fun B σ H ρ ws ts R ok q => ?_⟩
  refine dt B σ H ρ ws ts _ ok ?_
  have q := q.bind
  cases e1 : fs ρ with
  | no => rw [e1] at q; exact q.elim
  | ex er ρ1 => rw [e1] at q; exact q
  | ok vs ρ1 =>
    rw [e1] at q
    intro xs H1 hl ok1 _
    have hlen := ha.len vs ρ ρ1 e1
    obtain ⟨ds, e2, q2⟩ := (show PostG X.K w B (mopt (rangeItems vs) ρ1) _ from q).opt
    unfold rangeItems at e2
    split at e2
    · obtain ⟨h1, h2⟩ := reqs e2
      subst h2
      obtain ⟨x, rfl⟩ : ∃ x, xs = [x] := by
        cases xs with
        | nil => cases hl
        | cons x r => cases r with
          | nil => exact ⟨x, rfl⟩
          | cons _ _ => cases hl
      have hx := Ok.topInt (ws := ws) (ts := ts) ok1
      subst hx
      obtain ⟨b1, b2⟩ := okRange_of h1
      exact ⟨_, rfl, b1, b2, q2 _ H1 [] [] rfl (Ok.pop (ws := ws) (ts := ts) ok1) walk_range⟩
    · cases hlen
    · cases e2
theorem di_range2 {a b : Expr} {os : List (Option Nat)} {fs : M (List T)} (hm : NoG X "range") (ha : DA X w [a, b] os fs) (hg : Gl X "range" := by rfl) (hs : starEach [a, b] X.env = [(false, eval a X.env), (false, eval b X.env)] := by rfl) (hs2 : starEach [b] X.env = [(false, eval b X.env)] := by rfl) :
    DI X w tg (.Call (.Name "range" p) [a, b] [] pos) (drange fs) := by
  obtain ⟨t, pt, dt⟩ := ha.ex
  refine ⟨_, pi_range2 hg hm pt hs hs2, fun B σ H ρ ws ts R ok q => ?_⟩
  refine dt B σ H ρ ws ts _ ok ?_
  have q := q.bind
  cases e1 : fs ρ with
  | no => rw [e1] at q; exact q.elim
  | ex er ρ1 => rw [e1] at q; exact q
  | ok vs ρ1 =>
    rw [e1] at q
    intro xs H1 hl ok1 _
    have hlen := ha.len vs ρ ρ1 e1
    obtain ⟨ds, e2, q2⟩ := (show PostG X.K w B (mopt (rangeItems vs) ρ1) _ from q).opt
    unfold rangeItems at e2
    split at e2
    · cases hlen
    · obtain ⟨h1, h2⟩ := reqs e2
      subst h2
      obtain ⟨x, y, rfl⟩ : ∃ x y, xs = [x, y] := by
        cases xs with
        | nil => cases hl
        | cons x r => cases r with
          | nil => cases hl
          | cons y r => cases r with
            | nil => exact ⟨x, y, rfl⟩
            | cons _ _ => cases hl
      have hx := Ok.topInt (ws := _ :: ws) (ts := _ :: ts) ok1
      have ok2 := Ok.pop (ws := _ :: ws) (ts := _ :: ts) ok1
      have hy := ok2.topInt
      subst hx hy
      have h1 := (Bool.and_eq_true _ _).mp h1
      obtain ⟨b1, b2⟩ := okRange_of h1.1
      obtain ⟨b3, b4⟩ := okRange_of h1.2
      exact ⟨_, _, rfl, ⟨b1, b2, b3, b4⟩, q2 _ H1 [] [] rfl ok2.pop walk_range⟩
    · cases e2
/-- enumerate of a list -/
def numbered : Nat → List PyData → List PyData
  | _, [] => []
  | k, d :: ds => .tuple [.int k, d] :: numbered (k + 1) ds
theorem numbered_len : ∀ (k : Nat) (ds : List PyData), (numbered k ds).length = ds.length
  | _, [] => rfl
  | k, _ :: ds => by simp [numbered, numbered_len (k + 1) ds]
theorem numbered_get : ∀ (k : Nat) (ds : List PyData) (i : Nat) (e : PyData), (numbered k ds)[i]? = some e → ∃ d, ds[i]? = some d ∧ e = .tuple [.int ((k + i : Nat) : Int), d]
  | _, [], i, e, h => by simp [numbered] at h
  | k, d :: ds, 0, e, h => by
    simp [numbered] at h
    exact ⟨d, rfl, by rw [← h]; rfl⟩
  | k, d :: ds, i + 1, e, h => by
    obtain ⟨d', h1, h2⟩ := numbered_get (k + 1) ds i e (by simpa [numbered] using h)
    refine ⟨d', by simpa using h1, ?_⟩
    rw [h2]
    have : k + 1 + i = k + (i + 1) := by omega
    rw [this]
def enumItems : List T → Option (List PyData)
  | [.d (.list ds)] => some (numbered 0 ds)
  | _ => none
def denum (fs : M (List T)) : M (List PyData) := mbind fs fun ts => mopt (enumItems ts)
theorem walk_enum {a : Addr} {ds : List PyData} : JWalk K (Ite K a) [.ref a] [.d (.list ds)] (numbered 0 ds) := fun m B σ H ρ ws ts i ok => by
  obtain ⟨I, Fr, Fw, s, r, wz, km⟩ := id ok
  obtain ⟨a', vs, e, ha, dd⟩ := lst_items wz
  cases e
  have hH := s.sub _ _ ha
  refine ⟨fun hi => ⟨vs, SqL.of hH, by rw [dd.len]; rw [numbered_len] at hi; exact Nat.le_of_eq hi⟩, fun d hd => ?_⟩
  obtain ⟨d', hd', rfl⟩ := numbered_get 0 ds i d hd
  obtain ⟨v, hv, dv⟩ := dd.get' hd'
  refine ⟨⟨vs, v, SqL.of hH, hv⟩, fun x H' y => ?_⟩
  obtain ⟨t, z, rfl, ht, rfl, hz⟩ := y
  have hx := hz vs (SqL.of hH)
  rw [hv] at hx
  cases hx
  refine Ok.newTup ok ht fun I' Fw' sb w' => ?_
  obtain ⟨a', vs', e', ha', dd'⟩ := lst_items w'
  cases e'
  have := sb _ _ ha'
  rw [hH] at this
  cases this
  obtain ⟨d2, h2, dv2⟩ := dd'.get hv
  rw [hd'] at h2
  cases h2
  rw [Nat.zero_add]
  exact .cons (.int _) (.cons dv2 .nil)
theorem di_enum {a : Expr} {es : List Expr} {kk : Nat} {tpos : Pos} {os : List (Option Nat)} {fs : M (List T)} (hm : NoG X "enumerate") (ha : DA X w [a] os fs) (hg : Gl X "enumerate" := by rfl) (hs : starEach [a] X.env = [(false, eval a X.env)] := by rfl) :
    DI X w (.Tuple es kk tpos) (.Call (.Name "enumerate" p) [a] [] pos) (denum fs) := by
  obtain ⟨t, pt, dt⟩ := ha.ex
  refine ⟨_, pi_enum hg hm pt hs, fun B σ H ρ ws ts R ok q => ?_⟩
  refine dt B σ H ρ ws ts _ ok (q.bind.mono fun vs ρ1 p1 xs H1 hl ok1 _ => ?_)
  obtain ⟨ds, e2, q2⟩ := p1.opt
  unfold enumItems at e2
  split at e2
  · cases e2
    obtain ⟨x, rfl⟩ : ∃ x, xs = [x] := by
      cases xs with
      | nil => cases hl
      | cons x r => cases r with
        | nil => exact ⟨x, rfl⟩
        | cons _ _ => cases hl
    obtain ⟨a, vs, rfl, ha, dd⟩ := Ok.topList (ws := ws) (ts := ts) ok1
    exact ⟨a, vs, rfl, SqL.of ha, q2 _ H1 [.ref a] [.d (.list _)] rfl ok1 walk_enum⟩
  · cases e2
end

/-! ### for -/
section
variable {X : Cx} {w : Wd} {tg iter : Expr} {body : List Stmt} {fi : M (List PyData)} {g : T → M Unit} {S : List Nat} {F : M Fl} {pos : Pos} {k : Nat}
def sfor (fi : M (List PyData)) (g : T → M Unit) (F : M Fl) : M Fl := mbind fi fun ds => mfor g F (ds.map T.d)
theorem ds_for (at_ : At X w k) (hi : DI X w tg iter fi) (hg : DG X w tg S g) (hb : DSs X w body F) (hs : ∀ x, foldedSetIterable iter X.env x = pure x := by intro _; rfl) : DS X w (.For tg iter body [] pos) (sfor fi g F) := by
  obtain ⟨wi, pi, di⟩ := hi.ex
  obtain ⟨tg', pg, dg⟩ := hg.ex
  obtain ⟨tb, pb, db⟩ := hb.ex
  refine ⟨_, ps_for at_.po at_.ca pi pg pb hs, fun B σ H ρ ws ts D ok q => ?_⟩
  refine di B σ H ρ ws ts _ ok (q.bind.mono fun ds ρ1 p1 J H1 ws1 ts1 hl ok1 jw => ?_)
  refine ⟨fun i n σ H => n = ds.length - i ∧ i ≤ ds.length ∧ ∃ ρ, Ok X.K w.m B σ H ρ (ws1 ++ ws) (ts1 ++ ts) ∧ PostG X.K w B (mfor g F ((ds.drop i).map T.d) ρ) (PostS X.K w B ws ts D), ⟨ds.length, rfl, Nat.zero_le _, ρ1, ok1, p1⟩, ?_⟩
  rintro i n σ2 H2 ⟨rfl, hi, ρ2, ok2, p2⟩
  obtain ⟨j1, j2⟩ := jw w.m B σ2 H2 ρ2 ws ts i ok2
  by_cases hlt : i < ds.length
  · obtain ⟨go, yl⟩ := j2 ds[i] (by simp [hlt])
    refine .inr ⟨go, fun σ H => i + 1 ≤ ds.length ∧ ∃ ρ, Ok X.K w.m B σ H ρ (ws1 ++ ws) (ts1 ++ ts) ∧ PostG X.K w B (mfor g F ((ds.drop (i + 1)).map T.d) ρ) (PostS X.K w B ws ts D), fun σ' H' h => ⟨ds.length - (i + 1), by omega, rfl, h.1, h.2⟩, fun x H' y => ?_⟩
    have ok3 := yl x H' y
    rw [List.drop_eq_getElem_cons hlt, List.map_cons] at p2
    have p3 : PostG X.K w B (g (.d ds[i]) ρ2) _ := PostG.bind p2
    refine dg B σ2 H' ρ2 _ _ x _ _ ok3 (p3.mono fun _ ρ4 p4 σ4 H4 _ ok4 => ?_)
    refine db B σ4 H4 ρ4 _ _ _ ok4 ((PostG.bind p4).mono fun fl ρ5 p5 => ?_)
    cases fl with
    | nx => exact fun σ' H' ok' => ⟨hlt, ρ5, ok', p5⟩
    | ct => exact fun σ' H' ok' => ⟨hlt, ρ5, ok', p5⟩
    | bk => exact fun σ' H' ok' => (show ∀ σ' H', Ok X.K w.m B σ' H' ρ5 ws ts → D.nx σ' H' from p5) σ' H' ((Ok.popAll hl ok'.non).pop)
    | rt v => exact fun x σ' H' ok' => (show ∀ x σ' H', Ok X.K w.m B σ' H' ρ5 (x :: ws) (v :: ts) → D.rt x H' from p5) x σ' H' (Ok.popAll hl ok')
  · have e : i = ds.length := by omega
    subst e
    rw [List.drop_length, List.map_nil] at p2
    exact .inl ⟨j1 rfl, (show ∀ σ' H', Ok X.K w.m B σ' H' ρ2 ws ts → D.nx σ' H' from p2) σ2 H2 ((Ok.popAll hl ok2.non).pop)⟩
end
end DL
end
section
set_option Elab.async false
set_option linter.all false
set_option maxRecDepth 100000
set_option maxHeartbeats 4000000
/-! DL7: own lists grown, frozen; comprehensions. -/
namespace DL
open PySem L2

mutual
/-- a tree as data -/
def toD : T → Option PyData
  | .d x => some x
  | .lst xs => (toDs xs).map PyData.list
  | .fn _ => none
  | .scr _ => none
  | .ty _ => none
  | .dct _ => none
  | .ins _ _ => none
  | .exc _ _ => none
  | .fin _ _ => none
def toDs : List T → Option (List PyData)
  | [] => some []
  | t :: ts => match toD t, toDs ts with
    | some d, some ds => some (d :: ds)
    | _, _ => none
end
mutual
theorem frz_rep {K : PySem.W.Frag} {I I' H : Hp} (sm : Same I I') : ∀ {v : V} {t : T} {F : List Addr} {d : PyData}, RepT K I H v t F → toD t = some d → (∀ a ∈ F, I' a = H a) → Dr K I' v d
  | _, _, _, _, .d q, e, _ => by
    simp [toD] at e
    subst e
    exact dr_mono sm q
  | _, _, _, _, .fn _, e, _ => by simp [toD] at e
  | _, _, _, _, .scr _, e, _ => by simp [toD] at e
  | _, _, _, _, .ty, e, _ => by simp [toD] at e
  | _, _, _, _, .exc _, e, _ => by simp [toD] at e
  | _, _, _, _, .fin _, e, _ => by simp [toD] at e
  | _, _, _, d, .lst (xs := xs) h r, e, k => by
    simp only [toD] at e
    cases q : toDs xs with
    | none => rw [q] at e; cases e
    | some ds =>
      rw [q] at e
      cases e
      exact .lst (by rw [k _ (by simp)]; exact h) (frz_reps sm r q fun a m => k a (by simp [m]))
  | _, _, _, _, .dct _ _ _ _ _, e, _ => by simp [toD] at e
  | _, _, _, _, .ins _ _ _ _ _ _ _, e, _ => by simp [toD] at e
theorem frz_reps {K : PySem.W.Frag} {I I' H : Hp} (sm : Same I I') : ∀ {vs : List V} {ts : List T} {F : List Addr} {ds : List PyData}, RepTs K I H vs ts F → toDs ts = some ds → (∀ a ∈ F, I' a = H a) → DrAll K I' vs ds
  | _, _, _, _, .nil, e, _ => by
    simp [toDs] at e
    subst e
    exact .nil
  | _, _, _, _, .cons (t := t) (ts := ts) a b, e, k => by
    simp only [toDs] at e
    cases q1 : toD t with
    | none => rw [q1] at e; cases e
    | some d =>
      cases q2 : toDs ts with
      | none => rw [q1, q2] at e; cases e
      | some ds =>
        rw [q1, q2] at e
        cases e
        exact .cons (frz_rep sm a q1 fun x m => k x (by simp [m])) (frz_reps sm b q2 fun x m => k x (by simp [m]))
end
section
variable {K : PySem.W.Frag} {m : List Bool} {B : Bs} {σ : St} {H : Hp} {ρ : Rho} {ws : List V} {ts : List T} {x y v : V} {t u : T} {d e : PyData} {i : Nat}
/-- an own tree becomes data -/
theorem Ok.freeze (h : Ok K m B σ H ρ (x :: ws) (t :: ts)) (e : toD t = some d) : Ok K m B σ H ρ (x :: ws) (.d d :: ts) := by
  obtain ⟨I, Fr, Fw, s, r, w, km⟩ := h
  cases w with
  | cons a b =>
    rename_i F G
    have nd := s.nd
    have inF : ∀ c ∈ F, c ∈ Fr ++ (F ++ G) := fun c m => List.mem_append_right _ (List.mem_append_left _ m)
    let I' : Hp := fun c => if c ∈ F then H c else I c
    have e1 : ∀ c, c ∈ F → I' c = H c := fun c m => if_pos m
    have e2 : ∀ c, c ∉ F → I' c = I c := fun c m => if_neg m
    have sm : Same I I' := fun c o q => by
      by_cases m : c ∈ F
      · rw [s.own c (inF c m)] at q; cases q
      · rw [e2 c m]; exact q
    have apart : ∀ c ∈ Fr ++ G, c ∉ F := fun c z zF => by
      rcases List.mem_append.mp z with z | z
      · exact (List.nodup_append.mp nd).2.2 c z c (List.mem_append_left _ zF) rfl
      · exact (List.nodup_append.mp (List.nodup_append.mp nd).2.1).2.2 c zF c z rfl
    have inR : ∀ c ∈ Fr ++ G, c ∈ Fr ++ (F ++ G) := fun c z => by
      rcases List.mem_append.mp z with z | z
      · exact List.mem_append_left _ z
      · exact List.mem_append_right _ (List.mem_append_right _ z)
    refine ⟨I', Fr, G, ⟨fun c o q => ?_, fun c o q => sm c o (s.ext c o q), s.keep, fun c o q => ?_, fun c z => s.fr c (inR c z), fun c z => ?_, fun c z => s.thr c (inR c z), (List.Sublist.append (List.Sublist.refl _) (List.sublist_append_right _ _)).nodup nd⟩,
      r.mono sm fun c z => rfl, .cons (F := []) (.d (frz_rep sm a e e1)) (b.mono sm fun c z => rfl), km⟩
    · by_cases m : c ∈ F
      · rw [e1 c m] at q; exact q
      · rw [e2 c m] at q; exact s.sub c o q
    · by_cases m : c ∈ F
      · rcases s.fr c (inF c m) with z | z
        · exact .inr (.inr z)
        · exact .inr (.inl z)
      · rw [e2 c m] at q; exact s.new c o q
    · rw [e2 c (apart c z)]
      exact s.own c (inR c z)
/-- one more to the own list below -/
theorem Ok.grow {p : Addr} {xs : List T} (h : Ok K m B σ H ρ (y :: .ref p :: ws) (u :: .lst xs :: ts)) : ∃ vs, H p = some (.lst vs) ∧ vs.length = xs.length ∧ Ok K m B σ (upd H p (.lst (vs ++ [y]))) ρ (.ref p :: ws) (.lst (xs ++ [u]) :: ts) := by
  obtain ⟨I, Fr, Fw, s, r, w, km⟩ := h
  cases w with
  | cons a b =>
    cases b with
    | cons l c =>
      cases l with
      | lst hp it =>
        rename_i F1 F2 vs F3
        have mem : p ∈ Fr ++ (F1 ++ (p :: F3 ++ F2)) := by simp
        have nd := s.nd
        have other : ∀ q ∈ Fr ++ (F1 ++ (F3 ++ F2)), q ≠ p := fun q z e => by
          subst e
          have : List.Perm (Fr ++ (F1 ++ (q :: F3 ++ F2))) (q :: (Fr ++ (F1 ++ (F3 ++ F2)))) := by
            have h1 : List.Perm (F1 ++ (q :: F3 ++ F2)) (q :: (F1 ++ (F3 ++ F2))) := List.perm_middle
            exact (List.Perm.append_left _ h1).trans List.perm_middle
          exact (List.nodup_cons.mp (this.nodup_iff.mp nd)).1 z
        have fx : ∀ q ∈ Fr ++ (F1 ++ (F3 ++ F2)), (upd H p (.lst (vs ++ [y]))) q = H q := fun q z => upd_ne (other q z)
        obtain ⟨E, r2, e2⟩ := RepTs.append (it.mono (Same.refl _) fun q z => fx q (by simp [z])) (RepTs.cons (a.mono (Same.refl _) fun q z => fx q (by simp [z])) .nil)
        rw [List.append_nil] at e2
        subst e2
        refine ⟨vs, hp, it.len, I, Fr, _, (s.write (o := .lst (vs ++ [y])) mem).perm ?_, r.mono (Same.refl _) fun q z => fx q (by simp [z]), .cons (.lst upd_same r2) (c.mono (Same.refl _) fun q z => fx q (by simp [z])), km⟩
        refine List.Perm.append_left _ ?_
        rw [List.cons_append, List.cons_append]
        refine List.perm_middle.trans (List.Perm.cons _ ?_)
        rw [← List.append_assoc]
        exact List.Perm.append_right _ List.perm_append_comm
/-- the own list is read where it stands -/
theorem Ok.ownList {p : V} {xs : List T} (h : Ok K m B σ H ρ (p :: ws) (.lst xs :: ts)) : ∃ a vs, p = .ref a ∧ H a = some (.lst vs) ∧ vs.length = xs.length := by
  obtain ⟨I, Fr, Fw, s, r, w, km⟩ := h
  cases w with
  | cons a b =>
    cases a with
    | lst hp it => exact ⟨_, _, rfl, hp, it.len⟩
end
/-- a name's tree, frozen -/
def dfrz (i : Nat) : M T := fun ρ => match ρ[i]? with
  | some (some t) => (match toD t with
    | some d => .ok (.d d) (ρ.set i (some (.d d)))
    | none => .no)
  | _ => .no
theorem den_frz {K : PySem.W.Frag} {w : Wd} {i : Nat} : DenE K w (tVar i) (dfrz i) := fun B σ H ρ ws ts Q ok p => by
  unfold dfrz at p
  cases e : ρ[i]? with
  | none => rw [e] at p; exact p.elim
  | some o =>
    cases o with
    | none => rw [e] at p; exact p.elim
    | some t =>
      rw [e] at p
      simp only at p
      cases q : toD t with
      | none => rw [q] at p; exact p.elim
      | some d =>
        rw [q] at p
        obtain ⟨v, h1, h2⟩ := ok.take e
        have h3 := (h2.freeze q).dup.back (i := i) h1
        rw [List.set_set] at h3
        exact ⟨v, h1, p v H h3⟩
section
variable {X : Cx} {w : Wd} {pos : Pos}
theorem dfz (i : Nat) {x : Str} (hN : X.N[i]? = some x := by rfl) (hv : Vis X.env.scope x := by first | exact Or.inl rfl | exact Or.inr (Or.inl rfl) | exact Or.inr (Or.inr rfl)) (hd : (x == ("__debug__" : Str)) = false := by decide)
    (hcd : (x == ("__classdict__" : Str)) = false := by decide) : DE X w (.Name x pos) (dfrz i) := de_v (pe_var hN hv hd hcd) den_frz
/-- a fresh own tree, frozen -/
def dthaw (f : M T) : M T := mbind f fun t => match toD t with
  | some d => mret (.d d)
  | none => mno
theorem de_frz {e : Expr} {f : M T} (h : DE X w e f) : DE X w e (dthaw f) := by
  obtain ⟨t, p, d⟩ := h.ex
  refine de_v p fun B σ H ρ ws ts Q ok q => d B σ H ρ ws ts _ ok (q.bind.mono fun v ρ1 p1 x H1 ok1 => ?_)
  cases e : toD v with
  | none => rw [e] at p1; exact p1.elim
  | some y => rw [e] at p1; exact p1 x H1 (ok1.freeze e)
end

/-! ### comprehensions -/
def wipeR (ρ : Rho) : List Nat → Rho
  | [] => ρ
  | v :: vs => (wipeR ρ vs).set v none
def mwipe (vs : List Nat) : M Unit := fun ρ => .ok () (wipeR ρ vs)
def mnoex {α : Type} (f : M α) : M α := fun ρ => match f ρ with
  | .ok a ρ' => .ok a ρ'
  | _ => .no
def lcGo (vs : List Nat) (g : T → M Unit) (tt : M Bool) (fe : M T) : List T → List T → M (List T)
  | [], acc => mret acc
  | d :: ds, acc => mbind (g d) fun _ => mbind tt fun b => if b = true then mbind fe fun t => mbind (mwipe vs) fun _ => if acc.length < lim then lcGo vs g tt fe ds (acc ++ [t]) else mno
    else mbind (mwipe vs) fun _ => lcGo vs g tt fe ds acc
def dlcO (fi : M (List PyData)) (vs : List Nat) (g : T → M Unit) (tt : M Bool) (fe : M T) : M T := mbind fi fun ds => mbind (mwipe vs) fun _ => mbind (mnoex (lcGo vs g tt fe (ds.map T.d) [])) fun acc => mret (.lst acc)
def dlc (fi : M (List PyData)) (vs : List Nat) (g : T → M Unit) (tt : M Bool) (fe : M T) : M T := dthaw (dlcO fi vs g tt fe)
abbrev Wd.nx (w : Wd) : Wd := { w with W := fun _ _ _ _ => False }
section
variable {K : PySem.W.Frag} {w : Wd} {B : Bs} {σ : St} {H : Hp} {ρ : Rho} {ws : List V} {ts : List T}
theorem PostG.noex {α : Type} {f : M α} {P : α → Rho → Prop} (h : PostG K w B (mnoex f ρ) P) : PostG K w.nx B (f ρ) P := by
  unfold mnoex at h
  cases e : f ρ with
  | ok a ρ' => rw [e] at h; exact h
  | ex x ρ' => rw [e] at h; exact h.elim
  | no => rw [e] at h; exact h
theorem Ok.wipe {m : List Bool} : ∀ {vs : List Nat}, (∀ i ∈ vs, m[i]? ≠ some true) → Ok K m B σ H ρ ws ts → Ok K m B (L2.wipe σ vs) H (wipeR ρ vs) ws ts
  | [], _, h => h
  | v :: vs, k, h => by
    unfold L2.wipe wipeR
    exact (Ok.wipe (vs := vs) (fun i m => k i (List.mem_cons_of_mem _ m)) h).clear (k v List.mem_cons_self) none
theorem wipe_get {σ : St} : ∀ {vs : List Nat} {i : Nat}, (wipe σ vs)[i]? = if i ∈ vs then (if i < σ.length then some none else none) else σ[i]?
  | [], i => by simp [wipe]
  | v :: vs, i => by
    unfold wipe
    by_cases h : v = i
    · subst h
      rw [if_pos List.mem_cons_self, List.getElem?_set]
      simp [wipe_length]
    · rw [List.getElem?_set_ne h, wipe_get (vs := vs)]
      have : (i ∈ v :: vs) = (i ∈ vs) := by
        rw [List.mem_cons]
        exact propext ⟨fun z => z.elim (fun e => absurd e.symm h) id, .inr⟩
      simp only [this]
theorem wipe_same {σ σ2 : St} {S vs : List Nat} (h : SameOut S (wipe σ vs) σ2) (hS : ∀ i ∈ S, i ∈ vs) : wipe σ2 vs = wipe σ vs := by
  apply List.ext_getElem?
  intro i
  have hl : σ2.length = σ.length := h.1.trans (wipe_length σ vs)
  rw [wipe_get, wipe_get, hl]
  by_cases m : i ∈ vs
  · rw [if_pos m, if_pos m]
  · rw [if_neg m, if_neg m, h.2 i fun z => m (hS i z), wipe_get, if_neg m]
/-- .. back to the slots around -/
theorem RepR.unwipe {I : Hp} : ∀ {σ : St} {ρ : Rho} {F : List Addr} {i : Nat} {o : Option V}, RepR K I H (σ.set i none) ρ F → σ[i]? = some o → RepR K I H σ ρ F
  | [], ρ, F, i, o, r, e => by simp at e
  | s :: σ, ρ, F, 0, o, r, e => by
    rw [List.set_cons_zero] at r
    cases r with
    | hid r => exact .hid r
  | s :: σ, ρ, F, i + 1, o, r, e => by
    rw [List.set_cons_succ] at r
    have e' : σ[i]? = some o := by simpa using e
    cases r with
    | hid r => exact .hid (RepR.unwipe r e')
    | has a r => exact .has a (RepR.unwipe r e')
theorem RepR.unwipes {I : Hp} : ∀ {vs : List Nat} {σ : St} {ρ : Rho} {F : List Addr}, RepR K I H (wipe σ vs) ρ F → RepR K I H σ ρ F
  | [], σ, ρ, F, r => r
  | v :: vs, σ, ρ, F, r => by
    unfold wipe at r
    cases e : (wipe σ vs)[v]? with
    | none =>
      rw [List.set_eq_of_length_le (List.getElem?_eq_none_iff.mp e)] at r
      exact RepR.unwipes r
    | some o => exact RepR.unwipes (RepR.unwipe r e)
theorem Ok.unwipe {m : List Bool} {vs : List Nat} (h : Ok K m B (L2.wipe σ vs) H ρ ws ts) (hk : Kept m B σ) : Ok K m B σ H ρ ws ts := by
  obtain ⟨I, Fr, Fw, s, r, w, km⟩ := h
  exact ⟨I, Fr, Fw, s, r.unwipes, w, hk⟩
end
section
variable {X : Cx} {w : Wd} {k : Nat} {tg iter elt : Expr} {ifs : List Expr} {fi : M (List PyData)} {g : T → M Unit} {S : List Nat} {tt : M Bool} {fe : M T} {scope : Scope} {own : List (Str × Nat)} {pos : Pos}
structure DTs (X : Cx) (w : Wd) (es : List Expr) (f : M Bool) : Prop where
  ex : ∃ t, PTs X es t ∧ DenT X.K w t f
theorem At.blk (h : At X w k) {s : Shared} {H : Hp} {sc : Scope} {env : Env} {fp : List Addr} : At (X.blk s H sc env fp) w.nx k := ⟨h.g, h.r, takes0, h.cl, h.ca, PassesOwn.never⟩
/-- a block's contexts -/
abbrev InBlk (X : Cx) (scope : Scope) (P : Cx → Prop) : Prop := ∀ (s : Shared) (H : Hp) (C : Addr) (cl : List (Str × Addr)) (fp : List Addr), P (X.blk s H scope (compEnvC scope cl C X.env) fp)
theorem dts_nil : DTs X w [] (mret true) := ⟨_, pts_nil, fun B σ H ρ ws ts Q ok p => p H ok⟩
theorem dts_one {c : Expr} {f : M Bool} (h : DT X w c f) : DTs X w [c] f := by
  obtain ⟨t, p, d⟩ := h.ex
  exact ⟨t, pts_one p, d⟩
theorem Ok.perm4 {K : PySem.W.Frag} {m : List Bool} {B : Bs} {σ : St} {H : Hp} {ρ : Rho} {ws : List V} {ts : List T} {x : V} {t : T} {vs : List V} {us : List T} (hl : vs.length = us.length)
    (h : Ok K m B σ H ρ (x :: (vs ++ ws)) (t :: (us ++ ts))) : Ok K m B σ H ρ (vs ++ x :: ws) (us ++ t :: ts) := by
  obtain ⟨I, Fr, Fw, s, r, w, km⟩ := h
  cases w with
  | cons a b =>
    obtain ⟨G, E, rfl, g, e⟩ := RepTs.split hl b
    rename_i F
    obtain ⟨E', q, hq⟩ := RepTs.append g (RepTs.cons a e)
    subst hq
    refine ⟨I, Fr, _, s.perm ?_, r, q, km⟩
    refine List.Perm.append_left _ ?_
    rw [← List.append_assoc, ← List.append_assoc]
    exact List.Perm.append_right _ List.perm_append_comm
/-- one reading for all contexts -/
theorem all_pe {ι : Type} {Y : ι → Cx} {e : Expr} {K : PySem.W.Frag} {w : Wd} {f : M T} (hK : ∀ i, (Y i).K = K) (h : ∀ i, DE (Y i) w e f) : ∃ t, (∀ i, PE (Y i) e t) ∧ (∀ _ : ι, DenE K w t f) := by
  have h' : ∀ i, ∃ t, PE (Y i) e t ∧ DenE K w t f := fun i => by
    obtain ⟨t, p, d⟩ := (h i).ex
    rw [hK i] at d
    exact ⟨t, p, d⟩
  exact ⟨fun σ H Q => ∀ i, Classical.choose (h' i) σ H Q, fun i => ⟨fun pins s σ H Q I q => (Classical.choose_spec (h' i)).1.run pins s σ H Q I (q i)⟩, fun _ B σ H ρ ws ts Q ok p i => (Classical.choose_spec (h' i)).2 B σ H ρ ws ts Q ok p⟩
theorem all_pts {ι : Type} {Y : ι → Cx} {e : List Expr} {K : PySem.W.Frag} {w : Wd} {f : M Bool} (hK : ∀ i, (Y i).K = K) (h : ∀ i, DTs (Y i) w e f) : ∃ t, (∀ i, PTs (Y i) e t) ∧ DenT K w t f := by
  have h' : ∀ i, ∃ t, PTs (Y i) e t ∧ DenT K w t f := fun i => by
    obtain ⟨t, p, d⟩ := (h i).ex
    rw [hK i] at d
    exact ⟨t, p, d⟩
  exact ⟨fun σ H Q => ∀ i, Classical.choose (h' i) σ H Q, fun i => ⟨fun pins s σ H Q I q => (Classical.choose_spec (h' i)).1.run pins s σ H Q I (q i)⟩, fun B σ H ρ ws ts Q ok p i => (Classical.choose_spec (h' i)).2 B σ H ρ ws ts Q ok p⟩
theorem all_pg {ι : Type} {Y : ι → Cx} {e : Expr} {K : PySem.W.Frag} {w : Wd} {S : List Nat} {f : T → M Unit} (hK : ∀ i, (Y i).K = K) (h : ∀ i, DG (Y i) w e S f) : ∃ t, (∀ i, PG (Y i) e t) ∧ DenG K w t S f := by
  have h' : ∀ i, ∃ t, PG (Y i) e t ∧ DenG K w t S f := fun i => by
    obtain ⟨t, p, d⟩ := (h i).ex
    rw [hK i] at d
    exact ⟨t, p, d⟩
  exact ⟨fun v σ H Q => ∀ i, Classical.choose (h' i) v σ H Q, fun i => ⟨fun pins s σ H v u Q I r q => (Classical.choose_spec (h' i)).1.run pins s σ H v u Q I r (q i)⟩, fun B σ H ρ ws ts x v Q ok p i => (Classical.choose_spec (h' i)).2 B σ H ρ ws ts x v Q ok p⟩
/-- where a block runs -/
structure Blk where
  s : Shared
  H : Hp
  C : Addr
  cl : List (Str × Addr)
  fp : List Addr
abbrev Blk.x (b : Blk) (X : Cx) (scope : Scope) : Cx := X.blk b.s b.H scope (compEnvC scope b.cl b.C X.env) b.fp
theorem den_lc {K : PySem.W.Frag} {wi : TI} {tG : TG} {tT : TT} {tE : TE} {vs : List Nat} (hv : ∀ i ∈ vs, NotM w i) (hS : ∀ i ∈ S, i ∈ vs) (di : DenI K w wi fi) (dg : DenG K w.nx tG S g) (dt : DenT K w.nx tT tt) (de : DenE K w.nx tE fe) :
    DenE K w (tLc wi tG tT tE vs) (dlcO fi vs g tt fe) := fun B σ H ρ ws ts Q ok q => by
  refine di B σ H ρ ws ts _ ok (q.bind.mono fun ds ρ1 p1 J H1 ws1 ts1 hl ok1 jw D hD => ?_)
  have p2 : PostG K w.nx B (lcGo vs g tt fe (ds.map T.d) [] (wipeR ρ1 vs)) (fun acc ρ' => ∀ x H', Ok K w.m B σ H' ρ' (x :: ws) (.lst acc :: ts) → Q x H') := PostG.noex (PostG.bind (f := mnoex (lcGo vs g tt fe (ds.map T.d) [])) (g := fun acc => mret (T.lst acc)) (ρ := wipeR ρ1 vs) p1)
  have km : Kept w.m B σ := by
    obtain ⟨_, _, _, _, _, _, k⟩ := ok
    exact k
  have ok2 : Ok K w.m B (L2.wipe σ vs) (upd H1 D (.lst [])) (wipeR ρ1 vs) (ws1 ++ .ref D :: ws) (ts1 ++ .lst [] :: ts) := (Ok.perm4 hl (Ok.newOwn (vs := []) (us := []) rfl ok1 hD)).wipe hv
  refine ⟨fun i n H => n = ds.length - i ∧ i ≤ ds.length ∧ ∃ ρ acc, Ok K w.m B (L2.wipe σ vs) H ρ (ws1 ++ .ref D :: ws) (ts1 ++ .lst acc :: ts) ∧
    PostG K w.nx B (lcGo vs g tt fe ((ds.drop i).map T.d) acc ρ) (fun acc ρ' => ∀ x H', Ok K w.m B σ H' ρ' (x :: ws) (.lst acc :: ts) → Q x H'), ⟨ds.length, rfl, Nat.zero_le _, _, [], ok2, p2⟩, ?_⟩
  rintro i n H3 ⟨rfl, hi, ρ3, acc, ok3, p3⟩
  obtain ⟨j1, j2⟩ := jw w.m B (L2.wipe σ vs) H3 ρ3 _ _ i ok3
  by_cases hlt : i < ds.length
  · obtain ⟨go, yl⟩ := j2 ds[i] (by simp [hlt])
    refine .inr ⟨go, fun H => i + 1 ≤ ds.length ∧ ∃ ρ acc, Ok K w.m B (L2.wipe σ vs) H ρ (ws1 ++ .ref D :: ws) (ts1 ++ .lst acc :: ts) ∧
      PostG K w.nx B (lcGo vs g tt fe ((ds.drop (i + 1)).map T.d) acc ρ) (fun acc ρ' => ∀ x H', Ok K w.m B σ H' ρ' (x :: ws) (.lst acc :: ts) → Q x H'), fun H' h => ⟨ds.length - (i + 1), by omega, rfl, h.1, h.2⟩, fun x H' y => ?_⟩
    have ok4 := yl x H' y
    rw [List.drop_eq_getElem_cons hlt, List.map_cons] at p3
    unfold lcGo at p3
    refine dg B (L2.wipe σ vs) H' ρ3 _ _ x _ _ ok4 (p3.bind.mono fun _ ρ4 p4 σ4 H4 so ok5 => ⟨wipe_same so hS, ?_⟩)
    have back : ∀ {H ρ ws' ts'}, Ok K w.m B σ4 H ρ ws' ts' → Ok K w.m B (L2.wipe σ vs) H (wipeR ρ vs) ws' ts' := fun {H ρ ws' ts'} o => by
      have := o.wipe hv
      rw [wipe_same so hS] at this
      exact this
    refine dt B σ4 H4 ρ4 _ _ _ ok5 ((PostG.bind p4).mono fun b ρ5 p5 H5 ok6 => ?_)
    cases b with
    | true =>
      rw [if_pos rfl] at p5 ⊢
      refine de B σ4 H5 ρ5 _ _ _ ok6 ((PostG.bind p5).mono fun t ρ6 p6 y H6 ok7 => ?_)
      have p7 : PostG K w.nx B ((if acc.length < lim then lcGo vs g tt fe ((ds.drop (i + 1)).map T.d) (acc ++ [t]) else mno) (wipeR ρ6 vs)) _ := p6
      by_cases hs : acc.length < lim
      · rw [if_pos hs] at p7
        have ok8 : Ok K w.m B σ4 H6 ρ6 (y :: .ref D :: (ws1 ++ ws)) (t :: .lst acc :: (ts1 ++ ts)) := (Ok.perm3 (vs := y :: ws1) (us := t :: ts1) (by simp [hl]) ok7).swap
        obtain ⟨us, h1, h2, ok9⟩ := ok8.grow
        exact ⟨us, h1, by rw [h2]; exact lim_lt hs, hlt, _, _, back (Ok.perm4 hl ok9), p7⟩
      · rw [if_neg hs] at p7
        exact p7.elim
    | false =>
      rw [if_neg Bool.false_ne_true] at p5 ⊢
      have p7 : PostG K w.nx B (lcGo vs g tt fe ((ds.drop (i + 1)).map T.d) acc (wipeR ρ5 vs)) _ := p5
      exact ⟨hlt, _, _, back ok6, p7⟩
  · have e : i = ds.length := by omega
    subst e
    rw [List.drop_length, List.map_nil] at p3
    refine .inl ⟨j1 rfl, ?_⟩
    have ok4 := (Ok.popAll hl (Ok.perm3 hl ok3)).unwipe km
    exact p3 _ _ ok4
theorem de_lcO (at_ : At X w k) (hN : X.N.Nodup) (hi : DI X w tg iter fi) (ok : blkC X.N X.env.scope scope own = true) (hg : ∀ b : Blk, At (b.x X scope) w.nx k → DG (b.x X scope) w.nx tg S g) (ht : ∀ b : Blk, At (b.x X scope) w.nx k → DTs (b.x X scope) w.nx ifs tt) (he : ∀ b : Blk, At (b.x X scope) w.nx k → DE (b.x X scope) w.nx elt fe)
    (hv : ∀ i ∈ own.map (·.2), NotM w i := by intro i h; simp at h; (first | subst h | rcases h with h | h <;> subst h | rcases h with h | h | h <;> subst h) <;> (intro z; cases z)) (hS : ∀ i ∈ S, i ∈ own.map (·.2) := by decide) (hs : ∀ x, foldedSetIterable iter X.env x = pure x := by intro _; rfl) :
    DE X w (.ListComp elt [⟨tg, iter, ifs, 0⟩] scope pos) (dlcO fi (own.map (·.2)) g tt fe) := by
  obtain ⟨wi, pi, di⟩ := hi.ex
  obtain ⟨tG, pg, dg⟩ := all_pg (Y := fun b : Blk => b.x X scope) (K := X.K) (fun _ => rfl) fun b => hg b at_.blk
  obtain ⟨tT, pt, dt⟩ := all_pts (Y := fun b : Blk => b.x X scope) (K := X.K) (fun _ => rfl) fun b => ht b at_.blk
  obtain ⟨tE, pe, de⟩ := all_pe (Y := fun b : Blk => b.x X scope) (K := X.K) (fun _ => rfl) fun b => he b at_.blk
  exact de_v (pe_lc at_.ca hN pi (blkOk_by ok) (fun s H C cl fp => pg ⟨s, H, C, cl, fp⟩) (fun s H C cl fp => pt ⟨s, H, C, cl, fp⟩) (fun s H C cl fp => pe ⟨s, H, C, cl, fp⟩) hs) (den_lc hv hS di dg dt (de ⟨X.s_0, X.H_0, 0, [], []⟩))
theorem de_lc (at_ : At X w k) (hN : X.N.Nodup) (hi : DI X w tg iter fi) (ok : blkC X.N X.env.scope scope own = true) (hg : ∀ b : Blk, At (b.x X scope) w.nx k → DG (b.x X scope) w.nx tg S g) (ht : ∀ b : Blk, At (b.x X scope) w.nx k → DTs (b.x X scope) w.nx ifs tt) (he : ∀ b : Blk, At (b.x X scope) w.nx k → DE (b.x X scope) w.nx elt fe)
    (hv : ∀ i ∈ own.map (·.2), NotM w i := by intro i h; simp at h; (first | subst h | rcases h with h | h <;> subst h | rcases h with h | h | h <;> subst h) <;> (intro z; cases z)) (hS : ∀ i ∈ S, i ∈ own.map (·.2) := by decide) (hs : ∀ x, foldedSetIterable iter X.env x = pure x := by intro _; rfl) :
    DE X w (.ListComp elt [⟨tg, iter, ifs, 0⟩] scope pos) (dlc fi (own.map (·.2)) g tt fe) := de_frz (de_lcO at_ hN hi ok hg ht he hv hS hs)
/-- name = [..] -/
theorem ds_setLcO (i : Nat) {y : Str} {py spos : Pos} (at_ : At X w k) (hN : X.N.Nodup) (hi : DI X w tg iter fi) (ok : blkC X.N X.env.scope scope own = true) (hg : ∀ b : Blk, At (b.x X scope) w.nx k → DG (b.x X scope) w.nx tg S g) (ht : ∀ b : Blk, At (b.x X scope) w.nx k → DTs (b.x X scope) w.nx ifs tt) (he : ∀ b : Blk, At (b.x X scope) w.nx k → DE (b.x X scope) w.nx elt fe)
    (hsw : swapsWith (.ListComp elt [⟨tg, iter, ifs, 0⟩] scope pos) (some (.Name y py)) spos.line X.env = pure true)
    (hv : ∀ i ∈ own.map (·.2), NotM w i := by intro i h; simp at h; (first | subst h | rcases h with h | h <;> subst h | rcases h with h | h | h <;> subst h) <;> (intro z; cases z)) (hS : ∀ i ∈ S, i ∈ own.map (·.2) := by decide) (hs : ∀ x, foldedSetIterable iter X.env x = pure x := by intro _; rfl)
    (hm : NotM w i := by intro h; cases h) (hy : X.N[i]? = some y := by rfl) (hyl : X.env.scope.names.lookup y = some .local := by rfl) :
    DS X w (.Assign [.Name y py] (.ListComp elt [⟨tg, iter, ifs, 0⟩] scope pos) spos) (sset i (dlcO fi (own.map (·.2)) g tt fe)) := by
  obtain ⟨wi, pi, di⟩ := hi.ex
  obtain ⟨tG, pg, dg⟩ := all_pg (Y := fun b : Blk => b.x X scope) (K := X.K) (fun _ => rfl) fun b => hg b at_.blk
  obtain ⟨tT, pt, dt⟩ := all_pts (Y := fun b : Blk => b.x X scope) (K := X.K) (fun _ => rfl) fun b => ht b at_.blk
  obtain ⟨tE, pe, de⟩ := all_pe (Y := fun b : Blk => b.x X scope) (K := X.K) (fun _ => rfl) fun b => he b at_.blk
  refine ⟨_, ps_setLc at_.ca hN hy hyl hsw pi (blkOk_by ok) (fun s H C cl fp => pg ⟨s, H, C, cl, fp⟩) (fun s H C cl fp => pt ⟨s, H, C, cl, fp⟩) (fun s H C cl fp => pe ⟨s, H, C, cl, fp⟩) hs, fun B σ H ρ ws ts D ok q => ?_⟩
  exact den_lc hv hS di dg dt (de ⟨X.s_0, X.H_0, 0, [], []⟩) B σ H ρ ws ts _ ok (q.bind.mono fun v ρ1 p1 x H1 ok1 => p1 _ H1 (ok1.store hm))
theorem ds_setLc (i : Nat) {y : Str} {py spos : Pos} (at_ : At X w k) (hN : X.N.Nodup) (hi : DI X w tg iter fi) (ok : blkC X.N X.env.scope scope own = true) (hg : ∀ b : Blk, At (b.x X scope) w.nx k → DG (b.x X scope) w.nx tg S g) (ht : ∀ b : Blk, At (b.x X scope) w.nx k → DTs (b.x X scope) w.nx ifs tt) (he : ∀ b : Blk, At (b.x X scope) w.nx k → DE (b.x X scope) w.nx elt fe)
    (hsw : swapsWith (.ListComp elt [⟨tg, iter, ifs, 0⟩] scope pos) (some (.Name y py)) spos.line X.env = pure true)
    (hv : ∀ i ∈ own.map (·.2), NotM w i := by intro i h; simp at h; (first | subst h | rcases h with h | h <;> subst h | rcases h with h | h | h <;> subst h) <;> (intro z; cases z)) (hS : ∀ i ∈ S, i ∈ own.map (·.2) := by decide) (hs : ∀ x, foldedSetIterable iter X.env x = pure x := by intro _; rfl)
    (hm : NotM w i := by intro h; cases h) (hy : X.N[i]? = some y := by rfl) (hyl : X.env.scope.names.lookup y = some .local := by rfl) :
    DS X w (.Assign [.Name y py] (.ListComp elt [⟨tg, iter, ifs, 0⟩] scope pos) spos) (sset i (dlc fi (own.map (·.2)) g tt fe)) := by
  obtain ⟨wi, pi, di⟩ := hi.ex
  obtain ⟨tG, pg, dg⟩ := all_pg (Y := fun b : Blk => b.x X scope) (K := X.K) (fun _ => rfl) fun b => hg b at_.blk
  obtain ⟨tT, pt, dt⟩ := all_pts (Y := fun b : Blk => b.x X scope) (K := X.K) (fun _ => rfl) fun b => ht b at_.blk
  obtain ⟨tE, pe, de⟩ := all_pe (Y := fun b : Blk => b.x X scope) (K := X.K) (fun _ => rfl) fun b => he b at_.blk
  refine ⟨_, ps_setLc at_.ca hN hy hyl hsw pi (blkOk_by ok) (fun s H C cl fp => pg ⟨s, H, C, cl, fp⟩) (fun s H C cl fp => pt ⟨s, H, C, cl, fp⟩) (fun s H C cl fp => pe ⟨s, H, C, cl, fp⟩) hs, fun B σ H ρ ws ts D ok q => ?_⟩
  refine den_lc hv hS di dg dt (de ⟨X.s_0, X.H_0, 0, [], []⟩) B σ H ρ ws ts _ ok ((PostG.bind q.bind).mono fun v ρ1 p1 x H1 ok1 => ?_)
  cases e : toD v with
  | none => rw [e] at p1; exact p1.elim
  | some y => rw [e] at p1; exact p1 _ H1 ((ok1.freeze e).store hm)
end
end DL
end
section
set_option Elab.async false
set_option linter.all false
set_option maxRecDepth 100000
set_option maxHeartbeats 4000000
/-! DL8: calls of built-ins. -/
namespace DL
open PySem L2

/-- a built-in's call that keeps what it is handed -/
def CallK (K : PySem.W.Frag) (m : List Bool) (r : List V → Hp → VK → Prop) (g : List T → Option T) : Prop :=
  ∀ B σ H ρ ws ts xs us v (Q : VK), xs.length = us.length → Ok K m B σ H ρ (xs ++ ws) (us ++ ts) → g us = some v → (∀ z H', Ok K m B σ H' ρ (z :: (xs ++ ws)) (v :: (us ++ ts)) → Q z H') → r xs H Q
def dbackT (os : List (Option Nat)) (vs : List T) (v : T) : M T := fun ρ => .ok v (restore os (vs.map some) ρ)
def dcallb (g : List T → Option T) (os : List (Option Nat)) (fs : M (List T)) : M T := mbind fs fun vs => mbind (mopt (g vs)) fun v => dbackT os vs v
section
variable {K : PySem.W.Frag} {m : List Bool} {B : Bs} {σ : St} {H : Hp} {ws : List V} {ts : List T}
/-- what was handed over goes back to its slots -/
theorem Ok.restoreAll : ∀ {os : List (Option Nat)} {xs : List V} {us : List T} {ρ : Rho} {z : V} {v : T}, xs.length = us.length → Orig σ os xs → Ok K m B σ H ρ (z :: (xs ++ ws)) (v :: (us ++ ts)) → Ok K m B σ H (restore os (us.map some) ρ) (z :: ws) (v :: ts)
  | os, [], [], ρ, z, v, _, _, h => by
    have : restore os (([] : List T).map some) ρ = ρ := by
      cases os with
      | nil => rfl
      | cons o os => cases o <;> rfl
    rw [this]
    exact h
  | _, [], _ :: _, _, _, _, l, _, _ => nomatch l
  | _, _ :: _, [], _, _, _, l, _, _ => nomatch l
  | [], x :: xs, u :: us, ρ, z, v, l, o, h => Ok.popAll (vs := x :: xs) (us := u :: us) l h
  | none :: os, x :: xs, u :: us, ρ, z, v, l, o, h => by
    have tl : Orig σ os xs := fun k i e => by simpa using o (k + 1) i (by simpa using e)
    exact Ok.restoreAll (os := os) (xs := xs) (us := us) (by simpa using l) tl (Ok.inStead h)
  | some i :: os, x :: xs, u :: us, ρ, z, v, l, o, h => by
    have tl : Orig σ os xs := fun k j e => by simpa using o (k + 1) j (by simpa using e)
    obtain ⟨y, h1, h2⟩ := o 0 i rfl
    have e1 : y = x := (Option.some.inj (show some x = some y from h1)).symm
    subst e1
    exact Ok.restoreAll (os := os) (xs := xs) (us := us) (by simpa using l) tl (Ok.back (Ok.swap h) h2)
end
theorem den_callb {K : PySem.W.Frag} {w : Wd} {t : TA} {os : List (Option Nat)} {fs : M (List T)} {r : List V → Hp → VK → Prop} {g : List T → Option T} (hg : CallK K w.m r g) (d : DenA K w t os fs) : DenE K w (tCB r t) (dcallb g os fs) := fun B σ H ρ ws ts Q ok q => by
  refine d B σ H ρ ws ts _ ok (q.bind.mono fun vs ρ1 p1 xs H1 hl ok1 ho => ?_)
  obtain ⟨v, e, p2⟩ := (PostG.bind p1).opt
  exact hg B σ H1 ρ1 ws ts xs vs v Q hl ok1 e fun z H' ok2 => p2 z H' (Ok.restoreAll hl ho ok2)
section
variable {X : Cx} {w : Wd} {x : Str} {p pos : Pos} {e : Expr} {es : List Expr} {os : List (Option Nat)} {fs : M (List T)} {id : String} {r : List V → Hp → VK → Prop} {g : List T → Option T}
theorem de_callB (hc : CallR X (.builtin id) r) (hg : CallK X.K w.m r g) (hm : NoG X x) (hv : bootBuiltins x = some (.builtin id)) (ha : DA X w (e :: es) os fs) (hgl : Gl X x := by rfl) (hn : x ≠ "__name__" := by decide) (hdb : (x == ("__debug__" : Str)) = false := by decide)
    (he : starEach (e :: es) X.env = (false, eval e X.env) :: starEach es X.env := by rfl) (hpl : (backTo pos (starEach es X.env)).any (·.1) = false := by rfl) : DE X w (.Call (.Name x p) (e :: es) [] pos) (dcallb g os fs) := by
  obtain ⟨t, pt, dt⟩ := ha.ex
  exact de_v (pe_callB hc hgl hm hv pt hn hdb he hpl) (den_callb hg dt)
theorem de_callTy {Ty : String} (hc : CallR X (.type Ty) r) (hg : CallK X.K w.m r g) (hm : NoG X x) (hv : bootBuiltins x = some (.type Ty)) (ha : DA X w (e :: es) os fs) (hgl : Gl X x := by rfl) (hn : x ≠ "__name__" := by decide) (hdb : (x == ("__debug__" : Str)) = false := by decide)
    (he : starEach (e :: es) X.env = (false, eval e X.env) :: starEach es X.env := by rfl) (hpl : (backTo pos (starEach es X.env)).any (·.1) = false := by rfl) : DE X w (.Call (.Name x p) (e :: es) [] pos) (dcallb g os fs) := by
  obtain ⟨t, pt, dt⟩ := ha.ex
  exact de_v (pe_callTy hc hgl hm hv pt hn hdb he hpl) (den_callb hg dt)
/-- a built-in type as a value -/
theorem den_ty {K : PySem.W.Frag} {n : String} : DenE K w (tC (.ty n)) (mret (.ty n)) := fun B σ H ρ ws ts Q ok q => q _ H ok.pushTy
theorem de_ty {n : String} (hm : NoG X x) (hv : bootBuiltins x = some (.type n)) (hg : Gl X x := by rfl) (hn : x ≠ "__name__" := by decide) (hd : (x == ("__debug__" : Str)) = false := by decide) : DE X w (.Name x pos) (mret (.ty n)) :=
  de_v (pe_bltn hg hm hv (show RelV (.ty n) (.type n) from rfl) hn hd) den_ty
end

section
variable {K : PySem.W.Frag} {m : List Bool}
theorem CallK.or {r r' : List V → Hp → VK → Prop} {g g' : List T → Option T} (h : CallK K m r g) (h' : CallK K m r' g') : CallK K m (fun xs H Q => r xs H Q ∨ r' xs H Q) (fun us => (g us).or (g' us)) := fun B σ H ρ ws ts xs us v Q hl ok e q => by
  cases e1 : g us with
  | some z =>
    have e2 : z = v := by
      have e' : (g us).or (g' us) = some v := e
      rw [e1] at e'
      exact Option.some.inj e'
    subst e2
    exact .inl (h B σ H ρ ws ts xs us z Q hl ok e1 q)
  | none =>
    have e' : (g us).or (g' us) = some v := e
    rw [e1] at e'
    exact .inr (h' B σ H ρ ws ts xs us v Q hl ok e' q)
theorem one_of {xs : List V} {t : T} (h : xs.length = [t].length) : ∃ x, xs = [x] := by
  cases xs with
  | nil => cases h
  | cons x r => cases r with
    | nil => exact ⟨x, rfl⟩
    | cons _ _ => cases h
theorem two_of {xs : List V} {t u : T} (h : xs.length = [t, u].length) : ∃ x y, xs = [x, y] := by
  cases xs with
  | nil => cases h
  | cons x r => cases r with
    | nil => cases h
    | cons y r => cases r with
      | nil => exact ⟨x, y, rfl⟩
      | cons _ _ => cases h

/-! ### len -/
def gLen : List T → Option T
  | [.d (.list ds)] => some (.d (.int ds.length))
  | [.d (.tuple ds)] => some (.d (.int ds.length))
  | [.d (.str z)] => if z.length ≤ lim then some (.d (.int z.length)) else none
  | [.d (.dict [])] => some (.d (.int 0))
  | [.lst xs] => some (.d (.int xs.length))
  | [.scr ns] => some (.d (.int ns.length))
  | [.dct kvs] => some (.d (.int kvs.length))
  | _ => none
def rLen2 (K : PySem.W.Frag) : List V → Hp → VK → Prop := fun xs H Q => (∃ x n, xs = [x] ∧ LenV K x H n ∧ Q (.int n) H) ∨ (∃ a kvs, xs = [V.ref a] ∧ H a = some (.dK kvs) ∧ Q (.int kvs.length) H)
theorem Ok.topDct {B : Bs} {σ : St} {H : Hp} {ρ : Rho} {ws : List V} {ts : List T} {x : V} {kvs : List (Key × T)} (h : Ok K m B σ H ρ (x :: ws) (.dct kvs :: ts)) : ∃ a ys, x = .ref a ∧ H a = some (.dK ys) ∧ ys.map (·.1) = kvs.map (·.1) := by
  obtain ⟨I, Fr, Fw, s, r, w, km⟩ := h
  cases w with
  | cons a b =>
    cases a with
    | dct hp k1 k2 k3 it => exact ⟨_, _, rfl, hp, k1⟩
theorem ck_len : CallK K m (rLen2 K) gLen := fun B σ H ρ ws ts xs us v Q hl ok e q => by
  unfold gLen at e
  split at e
  · cases e
    obtain ⟨x, rfl⟩ := one_of hl
    obtain ⟨a, vs, rfl, ha, da⟩ := Ok.topList (ws := ws) (ts := ts) ok
    exact .inl ⟨_, _, rfl, .inl ⟨vs, SqL.of ha, rfl⟩, q _ _ (by rw [da.len]; exact ok.int)⟩
  · cases e
    obtain ⟨x, rfl⟩ := one_of hl
    obtain ⟨a, vs, rfl, ha, da⟩ := Ok.topTup (ws := ws) (ts := ts) ok
    exact .inl ⟨_, _, rfl, .inr ⟨vs, ha, rfl⟩, q _ _ (by rw [da.len]; exact ok.int)⟩
  · obtain ⟨hz, e⟩ := reqs e
    subst e
    obtain ⟨x, rfl⟩ := one_of hl
    have hx := Ok.topStr (ws := ws) (ts := ts) ok
    subst hx
    exact .inl ⟨_, _, rfl, ⟨lim_le hz, rfl⟩, q _ _ ok.int⟩
  · cases e
    obtain ⟨x, rfl⟩ := one_of hl
    have d := Ok.topD (ws := ws) (ts := ts) ok
    cases d with
    | dct0 h => exact .inr ⟨_, [], rfl, h, q _ _ ok.int⟩
  · cases e
    obtain ⟨x, rfl⟩ := one_of hl
    obtain ⟨a, vs, rfl, ha, hlen⟩ := Ok.ownList (ws := ws) (ts := ts) ok
    exact .inl ⟨_, _, rfl, .inl ⟨vs, SqL.of ha, rfl⟩, q _ _ (by rw [hlen]; exact ok.int)⟩
  · cases e
    obtain ⟨x, rfl⟩ := one_of hl
    obtain ⟨a, rfl, ha⟩ := Ok.topScr (ws := ws) (ts := ts) ok
    refine .inl ⟨_, _, rfl, .inl ⟨_, ha, rfl⟩, q _ _ ?_⟩
    rw [List.length_map]
    exact ok.int
  · cases e
    obtain ⟨x, rfl⟩ := one_of hl
    obtain ⟨a, ys, rfl, ha, hk⟩ := Ok.topDct (ws := ws) (ts := ts) ok
    refine .inr ⟨a, ys, rfl, ha, q _ _ ?_⟩
    have := congrArg List.length hk
    rw [List.length_map, List.length_map] at this
    rw [this]
    exact ok.int
  · cases e
theorem cr_len2 {X : Cx} : CallR X (.builtin "len") (rLen2 X.K) := CallR.or call_len call_lenD

/-! ### isinstance -/
def isT (d : PyData) (n : String) : Option Bool :=
  if n = "int" then some (match d with
    | .int _ => true
    | .bool _ => true
    | _ => false)
  else if n = "bool" then some (match d with
    | .bool _ => true
    | _ => false)
  else if n = "str" then some (match d with
    | .str _ => true
    | _ => false)
  else if n = "list" then some (match d with
    | .list _ => true
    | _ => false)
  else if n = "tuple" then some (match d with
    | .tuple _ => true
    | _ => false)
  else Option.none
def tyD : PyData → String
  | .none => "NoneType"
  | .bool _ => "bool"
  | .int _ => "int"
  | .str _ => "str"
  | .list _ => "list"
  | .tuple _ => "tuple"
  | .dict _ => "dict"
def gIsi : List T → Option T
  | [.d x, .ty n] => (isT x n).map fun b => .d (.bool b)
  | _ => none
theorem dr_ty {H : Hp} {x : V} {d : PyData} (h : Dr K H x d) : TyX K H x (.type (tyD d)) := by
  cases h with
  | non => exact .base .non
  | bl b => exact .base (.bl b)
  | int i => exact .base (.int i)
  | str z => exact .base (.str z)
  | lst h _ => exact .base (.lst h)
  | tup h _ =>
    rcases h with h | ⟨o, its, n, h1, h2, _⟩
    · rcases h with h | ⟨o, h⟩
      · exact .base (.tup h)
      · exact .fTuple h
    · exact .kTuple h1 h2
  | dct0 h => exact .base (.dK h)
theorem kit_NoneType_int : kitB "NoneType" "int" = some false := by decide +kernel
theorem kit_NoneType_bool : kitB "NoneType" "bool" = some false := by decide +kernel
theorem kit_NoneType_str : kitB "NoneType" "str" = some false := by decide +kernel
theorem kit_NoneType_list : kitB "NoneType" "list" = some false := by decide +kernel
theorem kit_NoneType_tuple : kitB "NoneType" "tuple" = some false := by decide +kernel
theorem kit_bool_int : kitB "bool" "int" = some true := by decide +kernel
theorem kit_bool_bool : kitB "bool" "bool" = some true := by decide +kernel
theorem kit_bool_str : kitB "bool" "str" = some false := by decide +kernel
theorem kit_bool_list : kitB "bool" "list" = some false := by decide +kernel
theorem kit_bool_tuple : kitB "bool" "tuple" = some false := by decide +kernel
theorem kit_int_int : kitB "int" "int" = some true := by decide +kernel
theorem kit_int_bool : kitB "int" "bool" = some false := by decide +kernel
theorem kit_int_str : kitB "int" "str" = some false := by decide +kernel
theorem kit_int_list : kitB "int" "list" = some false := by decide +kernel
theorem kit_int_tuple : kitB "int" "tuple" = some false := by decide +kernel
theorem kit_str_int : kitB "str" "int" = some false := by decide +kernel
theorem kit_str_bool : kitB "str" "bool" = some false := by decide +kernel
theorem kit_str_str : kitB "str" "str" = some true := by decide +kernel
theorem kit_str_list : kitB "str" "list" = some false := by decide +kernel
theorem kit_str_tuple : kitB "str" "tuple" = some false := by decide +kernel
theorem kit_list_int : kitB "list" "int" = some false := by decide +kernel
theorem kit_list_bool : kitB "list" "bool" = some false := by decide +kernel
theorem kit_list_str : kitB "list" "str" = some false := by decide +kernel
theorem kit_list_list : kitB "list" "list" = some true := by decide +kernel
theorem kit_list_tuple : kitB "list" "tuple" = some false := by decide +kernel
theorem kit_tuple_int : kitB "tuple" "int" = some false := by decide +kernel
theorem kit_tuple_bool : kitB "tuple" "bool" = some false := by decide +kernel
theorem kit_tuple_str : kitB "tuple" "str" = some false := by decide +kernel
theorem kit_tuple_list : kitB "tuple" "list" = some false := by decide +kernel
theorem kit_tuple_tuple : kitB "tuple" "tuple" = some true := by decide +kernel
theorem kit_dict_int : kitB "dict" "int" = some false := by decide +kernel
theorem kit_dict_bool : kitB "dict" "bool" = some false := by decide +kernel
theorem kit_dict_str : kitB "dict" "str" = some false := by decide +kernel
theorem kit_dict_list : kitB "dict" "list" = some false := by decide +kernel
theorem kit_dict_tuple : kitB "dict" "tuple" = some false := by decide +kernel
theorem isT_kit {d : PyData} {n : String} {b : Bool} (h : isT d n = some b) : kitB (tyD d) n = some b := by
  unfold isT at h
  by_cases h_int : n = "int"
  · subst h_int
    rw [if_pos rfl] at h
    have h := Option.some.inj h
    subst h
    cases d with
    | none => exact kit_NoneType_int
    | bool _ => exact kit_bool_int
    | int _ => exact kit_int_int
    | str _ => exact kit_str_int
    | list _ => exact kit_list_int
    | tuple _ => exact kit_tuple_int
    | dict _ => exact kit_dict_int
  by_cases h_bool : n = "bool"
  · subst h_bool
    rw [if_neg (by decide)] at h
    rw [if_pos rfl] at h
    have h := Option.some.inj h
    subst h
    cases d with
    | none => exact kit_NoneType_bool
    | bool _ => exact kit_bool_bool
    | int _ => exact kit_int_bool
    | str _ => exact kit_str_bool
    | list _ => exact kit_list_bool
    | tuple _ => exact kit_tuple_bool
    | dict _ => exact kit_dict_bool
  by_cases h_str : n = "str"
  · subst h_str
    rw [if_neg (by decide)] at h
    rw [if_neg (by decide)] at h
    rw [if_pos rfl] at h
    have h := Option.some.inj h
    subst h
    cases d with
    | none => exact kit_NoneType_str
    | bool _ => exact kit_bool_str
    | int _ => exact kit_int_str
    | str _ => exact kit_str_str
    | list _ => exact kit_list_str
    | tuple _ => exact kit_tuple_str
    | dict _ => exact kit_dict_str
  by_cases h_list : n = "list"
  · subst h_list
    rw [if_neg (by decide)] at h
    rw [if_neg (by decide)] at h
    rw [if_neg (by decide)] at h
    rw [if_pos rfl] at h
    have h := Option.some.inj h
    subst h
    cases d with
    | none => exact kit_NoneType_list
    | bool _ => exact kit_bool_list
    | int _ => exact kit_int_list
    | str _ => exact kit_str_list
    | list _ => exact kit_list_list
    | tuple _ => exact kit_tuple_list
    | dict _ => exact kit_dict_list
  by_cases h_tuple : n = "tuple"
  · subst h_tuple
    rw [if_neg (by decide)] at h
    rw [if_neg (by decide)] at h
    rw [if_neg (by decide)] at h
    rw [if_neg (by decide)] at h
    rw [if_pos rfl] at h
    have h := Option.some.inj h
    subst h
    cases d with
    | none => exact kit_NoneType_tuple
    | bool _ => exact kit_bool_tuple
    | int _ => exact kit_int_tuple
    | str _ => exact kit_str_tuple
    | list _ => exact kit_list_tuple
    | tuple _ => exact kit_tuple_tuple
    | dict _ => exact kit_dict_tuple
  rw [if_neg h_int, if_neg h_bool, if_neg h_str, if_neg h_list, if_neg h_tuple] at h
  cases h
theorem ck_isi : CallK K m (rIsi K) gIsi := fun B σ H ρ ws ts xs us v Q hl ok e q => by
  unfold gIsi at e
  split at e
  · rename_i x n
    cases e1 : isT x n with
    | none => rw [e1] at e; cases e
    | some b =>
      rw [e1] at e
      cases e
      obtain ⟨y, c, rfl⟩ := two_of hl
      have hc := Ok.topTy (Ok.pop (ws := c :: ws) (ts := .ty n :: ts) ok)
      subst hc
      exact ⟨y, _, _, _, b, rfl, .ty n, dr_ty (Ok.topD (ws := .ty n :: ws) (ts := .ty n :: ts) ok), kit_ty (isT_kit e1), q _ _ ok.bl⟩
  · cases e

/-! ### min, max of two ints; int, bool, str -/
def gMin2 : List T → Option T
  | [.d (.int i), .d (.int j)] => some (.d (.int (if j < i then j else i)))
  | _ => none
def gMax2 : List T → Option T
  | [.d (.int i), .d (.int j)] => some (.d (.int (if j > i then j else i)))
  | _ => none
theorem ck_int2 {f : Int → Int → Int} {g : List T → Option T} (hg : ∀ us v, g us = some v → ∃ i j, us = [.d (.int i), .d (.int j)] ∧ v = .d (.int (f i j))) : CallK K m (fun xs H Q => ∃ i j, xs = [.int i, .int j] ∧ Q (.int (f i j)) H) g := fun B σ H ρ ws ts xs us v Q hl ok e q => by
  obtain ⟨i, j, rfl, rfl⟩ := hg us v e
  obtain ⟨y, c, rfl⟩ := two_of hl
  have hy := Ok.topInt (ws := c :: ws) (ts := .d (.int j) :: ts) ok
  have hc := Ok.topInt (Ok.pop (ws := c :: ws) (ts := .d (.int j) :: ts) ok)
  subst hy hc
  exact ⟨_, _, rfl, q _ _ ok.int⟩
theorem ck_min2 : CallK K m (fun xs H Q => ∃ i j, xs = [.int i, .int j] ∧ Q (.int (if j < i then j else i)) H) gMin2 := ck_int2 fun us v e => by
  unfold gMin2 at e
  split at e
  · cases e; exact ⟨_, _, rfl, rfl⟩
  · cases e
theorem ck_max2 : CallK K m (fun xs H Q => ∃ i j, xs = [.int i, .int j] ∧ Q (.int (if j > i then j else i)) H) gMax2 := ck_int2 fun us v e => by
  unfold gMax2 at e
  split at e
  · cases e; exact ⟨_, _, rfl, rfl⟩
  · cases e
def gInt : List T → Option T
  | [.d (.int i)] => some (.d (.int i))
  | [.d (.bool k)] => some (.d (.int (if k then 1 else 0)))
  | [.d (.str a)] => if a.length ≤ 640 then (PySem.intText? a).map fun n => .d (.int n) else none
  | _ => none
def rInt3 : List V → Hp → VK → Prop := fun xs H Q => ((∃ i, xs = [.int i] ∧ Q (.int i) H) ∨ ∃ k, xs = [.bl k] ∧ Q (.int (if k then 1 else 0)) H) ∨ (∃ a n, xs = [.str a] ∧ PySem.intText? a = some n ∧ a.length ≤ 640 ∧ Q (.int n) H)
theorem cr_int3 {X : Cx} : CallR X (.type "int") rInt3 := CallR.or call_int1 call_int_str
theorem ck_int : CallK K m rInt3 gInt := fun B σ H ρ ws ts xs us v Q hl ok e q => by
  unfold gInt at e
  split at e
  · cases e
    obtain ⟨x, rfl⟩ := one_of hl
    have hx := Ok.topInt (ws := ws) (ts := ts) ok
    subst hx
    exact .inl (.inl ⟨_, rfl, q _ _ ok.int⟩)
  · cases e
    obtain ⟨x, rfl⟩ := one_of hl
    have hx := Ok.topBl (ws := ws) (ts := ts) ok
    subst hx
    exact .inl (.inr ⟨_, rfl, q _ _ ok.int⟩)
  · rename_i a
    obtain ⟨x, rfl⟩ := one_of hl
    have hx := Ok.topStr (ws := ws) (ts := ts) ok
    subst hx
    by_cases h : a.length ≤ 640
    · rw [if_pos h] at e
      cases e1 : PySem.intText? a with
      | none => rw [e1] at e; cases e
      | some n =>
        rw [e1] at e
        cases e
        exact .inr ⟨a, n, rfl, e1, h, q _ _ ok.int⟩
    · rw [if_neg h] at e; cases e
  · cases e
def gStr : List T → Option T
  | [.d (.int i)] => if i.natAbs.log2 < 1920 then some (.d (.str (toString i))) else none
  | [.d (.str a)] => some (.d (.str a))
  | _ => none
def rStr2 : List V → Hp → VK → Prop := fun xs H Q => (∃ i, xs = [.int i] ∧ i.natAbs.log2 < 1920 ∧ Q (.str (toString i)) H) ∨ (∃ a, xs = [.str a] ∧ Q (.str a) H)
theorem cr_str2 {X : Cx} : CallR X (.type "str") rStr2 := CallR.or call_str_int SkE.call_str_str
theorem ck_str : CallK K m rStr2 gStr := fun B σ H ρ ws ts xs us v Q hl ok e q => by
  unfold gStr at e
  split at e
  · obtain ⟨h1, e⟩ := reqs e
    subst e
    obtain ⟨x, rfl⟩ := one_of hl
    have hx := Ok.topInt (ws := ws) (ts := ts) ok
    subst hx
    exact .inl ⟨_, rfl, h1, q _ _ ok.str⟩
  · cases e
    obtain ⟨x, rfl⟩ := one_of hl
    have hx := Ok.topStr (ws := ws) (ts := ts) ok
    subst hx
    exact .inr ⟨_, rfl, q _ _ ok.str⟩
  · cases e

/-! ### list, tuple -/
def gTuple : List T → Option T
  | [.d (.list ds)] => some (.d (.tuple ds))
  | [.d (.tuple ds)] => some (.d (.tuple ds))
  | _ => none
def rTuple (K : PySem.W.Frag) : List V → Hp → VK → Prop := fun xs H Q => ∃ p ys, xs = [.ref p] ∧ ((SqL K H p ys ∧ ∀ l, H l = none → Q (.ref l) (upd H l (.tup ys))) ∨ (SqT K H p ys ∧ Q (.ref p) H))
theorem ck_tuple : CallK K m (rTuple K) gTuple := fun B σ H ρ ws ts xs us v Q hl ok e q => by
  unfold gTuple at e
  split at e
  · cases e
    obtain ⟨x, rfl⟩ := one_of hl
    obtain ⟨a, vs, rfl, ha, da⟩ := Ok.topList (ws := ws) (ts := ts) ok
    refine ⟨a, vs, rfl, .inl ⟨SqL.of ha, fun l h => q _ _ (ok.newTup h fun I Fw sb w' => ?_)⟩⟩
    exact parts_lst sb ha w'
  · cases e
    obtain ⟨x, rfl⟩ := one_of hl
    obtain ⟨a, vs, rfl, ha, da⟩ := Ok.topTup (ws := ws) (ts := ts) ok
    exact ⟨a, vs, rfl, .inr ⟨ha, q _ _ (Ok.dup (ws := ws) (ts := ts) ok)⟩⟩
  · cases e
/-- a new list of what data hold: as an own one -/
def gListO : List T → Option T
  | [.d (.list ds)] => some (.lst (ds.map T.d))
  | [.d (.tuple ds)] => some (.lst (ds.map T.d))
  | [.scr ns] => some (.lst (ns.map fun n => T.d (.int n)))
  | _ => none
def gList : List T → Option T
  | [.d (.list ds)] => some (.d (.list ds))
  | [.d (.tuple ds)] => some (.d (.list ds))
  | [.scr ns] => some (.d (.list (ns.map PyData.int)))
  | _ => none
def rList (K : PySem.W.Frag) : List V → Hp → VK → Prop := fun xs H Q => ∃ p ys, xs = [.ref p] ∧ (SqL K H p ys ∨ SqT K H p ys) ∧ ∀ l, H l = none → Q (.ref l) (upd H l (.lst ys))
theorem Ok.newOwnD {B : Bs} {σ : St} {H : Hp} {ρ : Rho} {ws : List V} {ts : List T} {vs : List V} {ds : List PyData} {p : Addr} (h : Ok K m B σ H ρ ws ts) (hp : H p = none)
    (q : ∀ I Fw, Same I H → RepTs K I H ws ts Fw → DrAll K I vs ds) : Ok K m B σ (upd H p (.lst vs)) ρ (.ref p :: ws) (.lst (ds.map T.d) :: ts) := by
  obtain ⟨I, Fr, Fw, s, r, w, km⟩ := id h
  have nf : ∀ a ∈ Fr ++ Fw, (upd H p (.lst vs)) a = H a := fun a z => upd_ne (show a ≠ p from fun e => s.thr a z (by rw [e]; exact hp))
  refine ⟨I, Fr, p :: Fw, (s.newO hp).perm List.perm_middle.symm, r.mono (Same.refl _) fun a z => nf a (List.mem_append_left _ z), ?_, km⟩
  exact .cons (F := [p]) (.lst upd_same (RepTs.ofD (q I Fw s.sub w))) (w.mono (Same.refl _) fun a z => nf a (List.mem_append_right _ z))
theorem items_of {H : Hp} {a : Addr} {us vs : List V} {ds : List PyData} {I : Hp} (sb : Same I H) (ha : SqT K H a vs) (h : SqT K I a us) (hu : vs = us) (d : DrAll K I us ds) : DrAll K I vs ds := hu ▸ d
theorem sqt_inj {H : Hp} {a : Addr} {us vs : List V} (h1 : SqT K H a us) (h2 : SqT K H a vs) (hk : ∀ o, K.lookup a = some o → H a = none) : True := trivial
theorem ck_listO : CallK K m (rList K) gListO := fun B σ H ρ ws ts xs us v Q hl ok e q => by
  unfold gListO at e
  split at e
  · cases e
    obtain ⟨x, rfl⟩ := one_of hl
    obtain ⟨a, vs, rfl, ha, da⟩ := Ok.topList (ws := ws) (ts := ts) ok
    exact ⟨a, vs, rfl, .inl (SqL.of ha), fun l h => q _ _ (ok.newOwnD h fun I Fw sb w' => parts_lst sb ha w')⟩
  · cases e
    obtain ⟨x, rfl⟩ := one_of hl
    obtain ⟨I, Fr, Fw, s, r, wz, km⟩ := id ok
    obtain ⟨a, vs, e1, ha, dd⟩ := tup_items (ws := ws) (ts := ts) wz
    subst e1
    have nf : ∀ p, H p = none → ∀ b ∈ Fr ++ Fw, (upd H p (.lst vs)) b = H b := fun p hp b z => upd_ne (show b ≠ p from fun e => s.thr b z (by rw [e]; exact hp))
    refine ⟨a, vs, rfl, .inr (st_mono s.sub ha), fun p hp => q _ _ ⟨I, Fr, p :: Fw, (s.newO hp).perm List.perm_middle.symm, r.mono (Same.refl _) fun b z => nf p hp b (List.mem_append_left _ z), ?_, km⟩⟩
    exact .cons (F := [p]) (.lst upd_same (RepTs.ofD dd)) (wz.mono (Same.refl _) fun b z => nf p hp b (List.mem_append_right _ z))
  · cases e
    obtain ⟨x, rfl⟩ := one_of hl
    rename_i ns
    obtain ⟨a, rfl, ha⟩ := Ok.topScr (ws := ws) (ts := ts) ok
    refine ⟨a, _, rfl, .inl ha, fun l h => q _ _ ?_⟩
    have := Ok.newOwnD (vs := ns.map V.int) (ds := ns.map PyData.int) ok h fun I Fw sb w' => drAll_ints ns
    rw [List.map_map] at this
    exact this
  · cases e
theorem ck_list : CallK K m (rList K) gList := fun B σ H ρ ws ts xs us v Q hl ok e q => by
  unfold gList at e
  split at e
  · cases e
    obtain ⟨x, rfl⟩ := one_of hl
    obtain ⟨a, vs, rfl, ha, da⟩ := Ok.topList (ws := ws) (ts := ts) ok
    exact ⟨a, vs, rfl, .inl (SqL.of ha), fun l h => q _ _ (ok.newList h fun I Fw sb w' => parts_lst sb ha w')⟩
  · cases e
    obtain ⟨x, rfl⟩ := one_of hl
    rename_i ds
    obtain ⟨I, Fr, Fw, s, r, wz, km⟩ := id ok
    obtain ⟨a, vs, e1, ha, dd⟩ := tup_items (ws := ws) (ts := ts) wz
    subst e1
    refine ⟨a, vs, rfl, .inr (st_mono s.sub ha), fun p hp => ?_⟩
    have nf : ∀ b ∈ Fr ++ Fw, (upd H p (.lst vs)) b = H b := fun b z => upd_ne (show b ≠ p from fun e => s.thr b z (by rw [e]; exact hp))
    have o2 : Ok K m B σ (upd H p (.lst vs)) ρ (.ref p :: (.ref a :: ws)) (.lst (ds.map T.d) :: (.d (.tuple ds) :: ts)) := ⟨I, Fr, p :: Fw, (s.newO hp).perm List.perm_middle.symm, r.mono (Same.refl _) fun b z => nf b (List.mem_append_left _ z),
      .cons (F := [p]) (.lst upd_same (RepTs.ofD dd)) (wz.mono (Same.refl _) fun b z => nf b (List.mem_append_right _ z)), km⟩
    refine q _ _ (o2.freeze (d := .list ds) ?_)
    have : ∀ ds : List PyData, toDs (ds.map T.d) = some ds := fun ds => by
      induction ds with
      | nil => rfl
      | cons d ds ih => rw [List.map_cons, toDs, ih]; rfl
    rw [toD, this]
    rfl
  · cases e
    obtain ⟨x, rfl⟩ := one_of hl
    obtain ⟨a, rfl, ha⟩ := Ok.topScr (ws := ws) (ts := ts) ok
    exact ⟨a, _, rfl, .inl ha, fun l h => q _ _ (ok.newList h fun I Fw sb w' => drAll_ints _)⟩
  · cases e

/-! ### all, any, sum -/
def boolsD : List PyData → Option (List Bool)
  | [] => some []
  | .bool b :: ds => (boolsD ds).map (b :: ·)
  | _ :: _ => none
theorem bools_all {I : Hp} : ∀ {vs : List V} {ds : List PyData} {bs : List Bool}, DrAll K I vs ds → boolsD ds = some bs → vs = bs.map V.bl
  | _, _, _, .nil, e => by cases e; rfl
  | _, _, _, .cons (d := d) (ds := ds) a r, e => by
    cases a with
    | bl b =>
      unfold boolsD at e
      cases q : boolsD ds with
      | none => rw [q] at e; cases e
      | some bs =>
        rw [q] at e
        cases e
        rw [List.map_cons, ← bools_all r q]
    | _ => simp [boolsD] at e
def intsD : List PyData → Option (List Int)
  | [] => some []
  | .int b :: ds => (intsD ds).map (b :: ·)
  | _ :: _ => none
theorem ints_all {I : Hp} : ∀ {vs : List V} {ds : List PyData} {bs : List Int}, DrAll K I vs ds → intsD ds = some bs → vs = bs.map V.int
  | _, _, _, .nil, e => by cases e; rfl
  | _, _, _, .cons (d := d) (ds := ds) a r, e => by
    cases a with
    | int b =>
      unfold intsD at e
      cases q : intsD ds with
      | none => rw [q] at e; cases e
      | some bs =>
        rw [q] at e
        cases e
        rw [List.map_cons, ← ints_all r q]
    | _ => simp [intsD] at e
def strsD : List PyData → Option (List Str)
  | [] => some []
  | .str b :: ds => (strsD ds).map (b :: ·)
  | _ :: _ => none
theorem strs_all {I : Hp} : ∀ {vs : List V} {ds : List PyData} {bs : List Str}, DrAll K I vs ds → strsD ds = some bs → vs = bs.map V.str
  | _, _, _, .nil, e => by cases e; rfl
  | _, _, _, .cons (d := d) (ds := ds) a r, e => by
    cases a with
    | str b =>
      unfold strsD at e
      cases q : strsD ds with
      | none => rw [q] at e; cases e
      | some bs =>
        rw [q] at e
        cases e
        rw [List.map_cons, ← strs_all r q]
    | _ => simp [strsD] at e
def gBools (f : List Bool → Bool) : List T → Option T
  | [.d (.list ds)] => (boolsD ds).map fun bs => .d (.bool (f bs))
  | _ => none
theorem ck_bools {f : List Bool → Bool} : CallK K m (fun vs H Q => ∃ (a : Addr) (bs : List Bool), vs = [V.ref a] ∧ SqL K H a (bs.map V.bl) ∧ Q (.bl (f bs)) H) (gBools f) := fun B σ H ρ ws ts xs us v Q hl ok e q => by
  unfold gBools at e
  split at e
  · rename_i ds
    cases e1 : boolsD ds with
    | none => rw [e1] at e; cases e
    | some bs =>
      rw [e1] at e
      cases e
      obtain ⟨x, rfl⟩ := one_of hl
      obtain ⟨a, vs, rfl, ha, da⟩ := Ok.topList (ws := ws) (ts := ts) ok
      have hv := bools_all da e1
      subst hv
      exact ⟨a, bs, rfl, SqL.of ha, q _ _ ok.bl⟩
  · cases e
def gAll : List T → Option T := gBools fun bs => bs.all _root_.id
def gAny : List T → Option T := gBools fun bs => bs.any _root_.id
theorem ck_all : CallK K m (rAll K) gAll := ck_bools
theorem ck_any : CallK K m (rAny K) gAny := ck_bools
def gSum : List T → Option T
  | [.d (.list ds)] => (intsD ds).map fun ns => .d (.int ns.sum)
  | _ => none
theorem ck_sum : CallK K m (rSum K) gSum := fun B σ H ρ ws ts xs us v Q hl ok e q => by
  unfold gSum at e
  split at e
  · rename_i ds
    cases e1 : intsD ds with
    | none => rw [e1] at e; cases e
    | some bs =>
      rw [e1] at e
      cases e
      obtain ⟨x, rfl⟩ := one_of hl
      obtain ⟨a, vs, rfl, ha, da⟩ := Ok.topList (ws := ws) (ts := ts) ok
      have hv := ints_all da e1
      subst hv
      exact ⟨a, bs, rfl, SqL.of ha, q _ _ ok.int⟩
  · cases e
end
end DL
end
section
set_option Elab.async false
set_option linter.all false
set_option maxRecDepth 100000
set_option maxHeartbeats 4000000
/-! DL9: sorted, repr, times, minus, chains. -/
namespace DL
open PySem L2 PySem.Spec

/-! ### sorted -/
def leS (a b : Str) : Bool := !decide (b.cps.toList < a.cps.toList)
def sortStr (xs : List Str) : List Str := xs.mergeSort leS
theorem leS_iff {a b : Str} : leS a b = true ↔ a.cps.toList ≤ b.cps.toList := by
  unfold leS
  rw [Bool.not_eq_true', decide_eq_false_iff_not]
  exact List.not_lt
theorem leS_anti {a b : Str} (h1 : leS a b = true) (h2 : leS b a = true) : a = b := by
  have := List.le_antisymm (leS_iff.mp h1) (leS_iff.mp h2)
  obtain ⟨a⟩ := a
  obtain ⟨b⟩ := b
  have e : a.toList = b.toList := this
  rw [Array.toList_inj.mp e]
theorem leS_trans {a b c : Str} (h1 : leS a b = true) (h2 : leS b c = true) : leS a c = true := leS_iff.mpr (List.le_trans (leS_iff.mp h1) (leS_iff.mp h2))
theorem leS_total (a b : Str) : (leS a b || leS b a) = true := by
  rw [Bool.or_eq_true, leS_iff, leS_iff]
  exact List.le_total _ _
theorem rising_pw : ∀ (p : Str) (l : List Str), PyProof.Rows.risingS p l = true → (p :: l).Pairwise fun a b => leS a b = true
  | p, [], _ => List.pairwise_singleton _ _
  | p, x :: r, h => by
    have h : (!ltCps x.cps.toList p.cps.toList && PyProof.Rows.risingS x r) = true := h
    have h := (Bool.and_eq_true _ _).mp h
    have ih := rising_pw x r h.2
    have px : leS p x = true := by
      unfold leS
      have h1 := h.1
      rw [PyProof.Rows.ltCps_eq] at h1
      exact h1
    refine List.pairwise_cons.mpr ⟨fun y hy => ?_, ih⟩
    rcases List.mem_cons.mp hy with e | hy
    · rw [e]; exact px
    · exact leS_trans px (List.rel_of_pairwise_cons ih hy)
theorem sorted_uniq {ys xs : List Str} (hp : ys.Perm xs) (hs : PyProof.Rows.sortedS ys = true) : ys = sortStr xs := by
  have h1 : ys.Pairwise fun a b => leS a b = true := by
    cases ys with
    | nil => exact .nil
    | cons x r => exact rising_pw x r hs
  have h2 : (sortStr xs).Pairwise fun a b => leS a b = true := List.pairwise_mergeSort (le := leS) (fun _ _ _ => leS_trans) leS_total xs
  exact List.Perm.eq_of_pairwise (le := fun a b => leS a b = true) (fun a b _ _ h1 h2 => leS_anti h1 h2) h1 h2 (hp.trans (List.mergeSort_perm xs leS).symm)
def leI (a b : Int) : Bool := decide (a ≤ b)
def sortInt (xs : List Int) : List Int := xs.mergeSort leI
theorem sorted_uniqI {ys xs : List Int} (hp : ys.Perm xs) (hs : ys.Pairwise (· ≤ ·)) : ys = sortInt xs := by
  have h1 : ys.Pairwise fun a b => leI a b = true := hs.imp fun h => decide_eq_true h
  have h2 : (sortInt xs).Pairwise fun a b => leI a b = true := List.pairwise_mergeSort (le := leI) (fun a b c h1 h2 => decide_eq_true (Int.le_trans (of_decide_eq_true h1) (of_decide_eq_true h2)))
    (fun a b => by unfold leI; rw [Bool.or_eq_true, decide_eq_true_eq, decide_eq_true_eq]; exact Int.le_total a b) xs
  exact List.Perm.eq_of_pairwise (le := fun a b => leI a b = true) (fun a b _ _ h1 h2 => Int.le_antisymm (of_decide_eq_true h1) (of_decide_eq_true h2)) h1 h2 (hp.trans (List.mergeSort_perm xs leI).symm)
def gSorted : List T → Option T
  | [.d (.list ds)] => match strsD ds with
    | some xs => if xs.length < 64 then some (.d (.list ((sortStr xs).map PyData.str))) else none
    | none => (intsD ds).map fun ns => .d (.list ((sortInt ns).map PyData.int))
  | _ => none
def rSortSI (K : PySem.W.Frag) : List V → Hp → VK → Prop := fun xs H Q => rSortedS K xs H Q ∨ rSortedI K xs H Q
theorem cr_sortSI {X : Cx} : CallR X (.builtin "sorted") (rSortSI X.K) := CallR.or cr_sortedS cr_sortedI
section
variable {K : PySem.W.Frag} {m : List Bool}
theorem drAll_strs {I : Hp} : ∀ ns : List Str, DrAll K I (ns.map V.str) (ns.map PyData.str)
  | [] => .nil
  | n :: ns => .cons (.str n) (drAll_strs ns)
theorem ck_sorted : CallK K m (rSortSI K) gSorted := fun B σ H ρ ws ts xs us v Q hl ok e q => by
  unfold gSorted at e
  split at e
  · rename_i ds
    obtain ⟨x, rfl⟩ := one_of hl
    obtain ⟨a, vs, rfl, ha, da⟩ := Ok.topList (ws := ws) (ts := ts) ok
    split at e
    · rename_i ss es
      obtain ⟨h1, e⟩ := reqs e
      subst e
      have hv := strs_all da es
      subst hv
      refine .inl ⟨a, ss, rfl, SqL.of ha, h1, fun ys p hp hs hn => ?_⟩
      rw [sorted_uniq hp hs]
      exact q _ _ (ok.newList hn fun I Fw sb w' => drAll_strs _)
    · cases e1 : intsD ds with
      | none => rw [e1] at e; cases e
      | some ns =>
        rw [e1] at e
        cases e
        have hv := ints_all da e1
        subst hv
        refine .inr ⟨a, ns, rfl, SqL.of ha, fun ys p hp hs hn => ?_⟩
        rw [sorted_uniqI hp hs]
        exact q _ _ (ok.newList hn fun I Fw sb w' => drAll_ints _)
  · cases e
end

/-! ### repr -/
section
variable {X : Cx} {pins : List (Addr × Obj)} {σ : L2.St} {H : Hp} {s : Shared}
mutual
theorem Dr.shows (I : Inv X pins σ H s) : ∀ (d : PyData) (v : V) (u : Value), Dr X.K H v d → RelV v u → d.showable = true → d.shown.length ≤ sizeLine →
    (∃ as, Reads s.heap u d as) ∧ ∃ bs, ReadAtMost s.heap d.depth bs ∧ ReprK X.prog X.w bs s.heap d.depth u d.shown
  | .none, _, _, h, r, _, _ => by
    cases h
    cases r
    exact ⟨⟨_, Reads.none⟩, [], (fun _ h => nomatch h), by simp only [PyData.shown]; exact .of_is ReprIs.none _ _ _⟩
  | .bool b, _, _, h, r, _, _ => by
    cases h
    cases r
    exact ⟨⟨_, Reads.bool b⟩, [], (fun _ h => nomatch h), by simp only [PyData.shown]; exact .of_is (ReprIs.bool b) _ _ _⟩
  | .int i, _, _, h, r, hs, _ => by
    cases h
    obtain ⟨t, rfl⟩ := r
    exact ⟨⟨_, Reads.int i t⟩, [], (fun _ h => nomatch h), by simp only [PyData.shown]; exact .of_is (ReprIs.int t (by simpa [PyData.showable] using hs)) _ _ _⟩
  | .str x, _, _, h, r, _, hz => by
    cases h
    obtain ⟨t, rfl⟩ := r
    exact ⟨⟨_, Reads.str x t⟩, [], (fun _ h => nomatch h), by simp only [PyData.shown]; exact .of_is (ReprIs.str x t (by simpa only [PyData.shown] using hz)) _ _ _⟩
  | .list ds, _, _, h, r, hs, hz => by
    cases h with
    | lst ha da =>
      cases r
      obtain ⟨its, rv, ⟨o, n, h1, h2, _, h3⟩, _⟩ := I.list (SqL.of ha)
      have hz' : (listText (PyData.shownAll ds)).length ≤ sizeLine := by simpa only [PyData.shown] using hz
      obtain ⟨⟨as, hr⟩, bs, hb, hk⟩ := DrAll.shows I ds _ its da rv (by simpa [PyData.showable] using hs) (fun t ht => Nat.le_trans (listText_mem_le ht) hz')
      have rd := Reads.list h1 h2 h3 hr
      have hna := not_mem_of_deeper rd (by simp only [PyData.depth]; omega) hb
      refine ⟨⟨_, rd⟩, _ :: bs, ReadAtMost.cons rd (by simp only [PyData.depth]; omega) hb, ?_⟩
      simp only [PyData.depth, PyData.shown]
      cases its with
      | nil =>
        have hr' : ReadsAll s.heap [] ds _ := hr
        cases hr'
        simp only [PyData.shownAll, listText_nil]
        exact ReprK.listEmpty h1 h2 h3
      | cons x l => exact ReprK.list h1 h2 h3 hna (by simpa using hk.length_eq) (fun i y e => hk.item i y (by simpa using e))
  | .tuple ds, _, _, h, r, hs, hz => by
    cases h with
    | tup ha da =>
      cases r
      obtain ⟨its, rv, ⟨o, h1, h2, n, h3⟩, _⟩ := I.tuple ha
      have hz' : (tupleText (PyData.shownAll ds)).length ≤ sizeLine := by simpa only [PyData.shown] using hz
      obtain ⟨⟨as, hr⟩, bs, hb, hk⟩ := DrAll.shows I ds _ its da rv (by simpa [PyData.showable] using hs) (fun t ht => Nat.le_trans (tupleText_mem_le ht) hz')
      have rd := Reads.tuple h1 h2 h3 hr
      have hna := not_mem_of_deeper rd (by simp only [PyData.depth]; omega) hb
      refine ⟨⟨_, rd⟩, _ :: bs, ReadAtMost.cons rd (by simp only [PyData.depth]; omega) hb, ?_⟩
      simp only [PyData.depth, PyData.shown]
      exact ReprK.tuple h1 h2 h3 hna hk
  | .dict kvs, _, _, h, r, hs, hz => by
    cases h with
    | dct0 ha =>
      cases r
      obtain ⟨_, hsys, vs, hkv, o, es, ep, h1, h2, h3, h4, h5, _⟩ := (show ObjOk X.prog X.w H s.heap _ (.dK []) from I.hok _ _ ha)
      cases hkv
      have he : es.toList = [] := by
        generalize hl : es.toList = l at h5
        cases h5
        rfl
      have hes : es = #[] := Array.toList_eq_nil_iff.mp he
      subst hes
      have rd := Reads.dict (kvs := []) h1 h2.1 h3 (.nil) (.nil)
      refine ⟨⟨_, rd⟩, [_], ReadAtMost.cons rd (Nat.zero_le _) (fun _ h => nomatch h), ?_⟩
      simp only [PyData.depth, PyData.shown]
      have := ReprK.dict (prog := X.prog) (w := X.w) (as := []) (d := PyData.depthKv []) h1 h2.1 h3 hsys (fun h => nomatch h) (ReprEntriesK.of_two [] [] [] .nil .nil)
      exact this
theorem DrAll.shows (I : Inv X pins σ H s) : ∀ (ds : List PyData) (vs : List V) (us : List Value), DrAll X.K H vs ds → Vals vs us → PyData.showableAll ds = true → (∀ t ∈ PyData.shownAll ds, t.length ≤ sizeLine) →
    (∃ as, ReadsAll s.heap us ds as) ∧ ∃ bs, ReadAtMost s.heap (PyData.depthAll ds) bs ∧ ReprAllK X.prog X.w bs s.heap (PyData.depthAll ds) us (PyData.shownAll ds)
  | [], _, _, h, r, _, _ => by
    cases h
    cases r
    exact ⟨⟨_, ReadsAll.nil⟩, [], (fun _ h => nomatch h), by simp only [PyData.shownAll]; exact .nil⟩
  | d :: ds, _, _, h, r, hs, hz => by
    cases h with
    | cons h1 h2 =>
      cases r with
      | cons r1 r2 =>
        have hs' : d.showable = true ∧ PyData.showableAll ds = true := by simpa [PyData.showableAll] using hs
        obtain ⟨⟨as, q1⟩, b1, hb1, k1⟩ := Dr.shows I d _ _ h1 r1 hs'.1 (hz _ (by simp only [PyData.shownAll]; exact List.mem_cons_self ..))
        obtain ⟨⟨as2, q2⟩, b2, hb2, k2⟩ := DrAll.shows I ds _ _ h2 r2 hs'.2 (fun t ht => hz t (by simp only [PyData.shownAll]; exact List.mem_cons_of_mem _ ht))
        refine ⟨⟨_, ReadsAll.cons q1 q2⟩, b1 ++ b2, ?_, ?_⟩
        · simp only [PyData.depthAll]
          exact (hb1.mono (Nat.le_max_left _ _)).append (hb2.mono (Nat.le_max_right _ _))
        · simp only [PyData.depthAll, PyData.shownAll]
          exact .cons ((k1.more (fun b hb => List.mem_append_left _ hb)).level_le (Nat.le_max_left _ _)) (k2.more_le (fun b hb => List.mem_append_right _ hb) (Nat.le_max_right _ _))
end
end
def okShow (d : PyData) : Bool := d.showable && decide (d.shown.length ≤ sizeLine) && decide (d.depth ≤ 60)
def rRepr (K : PySem.W.Frag) : List V → Hp → VK → Prop := fun xs H Q => ∃ x d, xs = [x] ∧ Dr K H x d ∧ okShow d = true ∧ Q (.str d.shown) H
theorem cr_repr {X : Cx} (hg : X.A.guards = some []) (hu : X.A.units + 64 < cLine) : CallR X (.builtin "repr") (rRepr X.K) := by
  intro pins s σ H xs us Q I r h
  obtain ⟨x, d, rfl, dr, k, q⟩ := h
  obtain ⟨u, rfl, ru⟩ := vals1 r
  have k := (Bool.and_eq_true _ _).mp k
  have k1 := (Bool.and_eq_true _ _).mp k.1
  have hdep := of_decide_eq_true k.2
  have hz := of_decide_eq_true k1.2
  cases dr with
  | non =>
    cases ru
    simp only [PyData.shown] at q
    exact PySem.P.repr_of_none ⟨.str _, H, I.tok _, ⟨_, rfl⟩, q⟩
  | bl b =>
    cases ru
    simp only [PyData.shown] at q
    refine PySem.P.repr_of_bool ⟨.str _, H, I.tok _, ⟨_, rfl⟩, ?_⟩
    cases b <;> exact q
  | int i =>
    obtain ⟨t, rfl⟩ := ru
    simp only [PyData.shown] at q
    exact PySem.P.repr_of_int (by simpa [PyData.showable] using k1.1) ⟨.str _, H, I.tok _, ⟨_, rfl⟩, q⟩
  | str z =>
    obtain ⟨t, rfl⟩ := ru
    simp only [PyData.shown] at q hz
    exact PySem.P.repr_of_str ⟨.str _, H, I.tok _, ⟨_, rfl⟩, q⟩ hz
  | @lst a vs ds ha da =>
    cases ru
    obtain ⟨its, rv, ⟨o, n, h1, h2, _, h3⟩, _⟩ := I.list (SqL.of ha)
    have hz' : (listText (PyData.shownAll ds)).length ≤ sizeLine := by simpa only [PyData.shown] using hz
    obtain ⟨⟨as, hr⟩, bs, hb, hk⟩ := DrAll.shows I ds _ its da rv (by simpa [PyData.showable] using k1.1) (fun t ht => Nat.le_trans (listText_mem_le ht) hz')
    have rd := Reads.list h1 h2 h3 hr
    have hna := not_mem_of_deeper rd (by simp only [PyData.depth]; omega) hb
    simp only [PyData.depth] at hdep
    simp only [PyData.shown] at q
    refine call_repr_slot (by omega) ⟨o, h1, h2⟩ F.slot_list_repr.toG ?_
    cases its with
    | nil =>
      have hr' : ReadsAll s.heap [] ds _ := hr
      cases hr'
      simp only [PyData.shownAll, listText_nil] at q
      exact call_list_repr_empty ⟨o, h1, h2⟩ h1 h3 ⟨_, _, rfl, .str _, H, I.tok _, ⟨_, rfl⟩, q⟩
    | cons x l =>
      exact call_list_reprK h1 h2 h3 hna (by simpa using hk.length_eq) (fun i y e => hk.item i y (by simpa using e)) hg (fun b _ => Clear.nil b) (by show X.A.units + 1 + _ < cLine; omega) (fun _ _ e => e) (fun h' u tk hk => ⟨_, _, rfl, .str _, H, I.kept hk, ⟨_, rfl⟩, q⟩) hz'
  | @tup a vs ds ha da =>
    cases ru
    obtain ⟨its, rv, ⟨o, h1, h2, n, h3⟩, _⟩ := I.tuple ha
    have hz' : (tupleText (PyData.shownAll ds)).length ≤ sizeLine := by simpa only [PyData.shown] using hz
    obtain ⟨⟨as, hr⟩, bs, hb, hk⟩ := DrAll.shows I ds _ its da rv (by simpa [PyData.showable] using k1.1) (fun t ht => Nat.le_trans (tupleText_mem_le ht) hz')
    have rd := Reads.tuple h1 h2 h3 hr
    have hna := not_mem_of_deeper rd (by simp only [PyData.depth]; omega) hb
    simp only [PyData.depth] at hdep
    simp only [PyData.shown] at q
    refine call_repr_slot (by omega) ⟨o, h1, h2⟩ F.slot_tuple_repr ?_
    exact call_tuple_reprK h1 h2 h3 hna hk hg (fun b _ => Clear.nil b) (by show X.A.units + 1 + _ < cLine; omega) (fun _ _ e => e) (fun h' u tk hk => ⟨_, _, rfl, .str _, H, I.kept hk, ⟨_, rfl⟩, q⟩) hz'
  | @dct0 a ha =>
    cases ru
    obtain ⟨_, hsys, vs, hkv, o, es, ep, h1, h2, h3, h4, h5, _⟩ := (show ObjOk X.prog X.w H s.heap _ (.dK []) from I.hok _ _ ha)
    cases hkv
    have he : es.toList = [] := by
      generalize hl : es.toList = l at h5
      cases h5
      rfl
    have hes : es = #[] := Array.toList_eq_nil_iff.mp he
    subst hes
    have rd := Reads.dict (kvs := []) h1 h2.1 h3 (.nil) (.nil)
    refine repr_of_reads' rd rfl (fun _ m => ?_) hg (by simp only [PyData.depth, PyData.depthKv] at hdep ⊢; omega) (fun _ _ e => e) (fun h' u tk hk => ⟨.str _, H, I.kept hk, ⟨_, rfl⟩, q⟩) hz
    simp at m
    rw [m] at hsys
    simp at hsys
def gRepr : List T → Option T
  | [.d d] => if okShow d = true then some (.d (.str d.shown)) else none
  | _ => none
theorem ck_repr {K : PySem.W.Frag} {m : List Bool} : CallK K m (rRepr K) gRepr := fun B σ H ρ ws ts xs us v Q hl ok e q => by
  unfold gRepr at e
  split at e
  · rename_i d
    obtain ⟨h1, e⟩ := reqs e
    subst e
    obtain ⟨x, rfl⟩ := one_of hl
    exact ⟨x, d, rfl, Ok.topD (ws := ws) (ts := ts) ok, h1, q _ _ ok.str⟩
  · cases e

/-! ### times, minus -/
def cMul (i j : Int) : Bool := decide (i.natAbs.log2 + j.natAbs.log2 < 1000000) || (decide (-(2 ^ 64) < i ∧ i < 2 ^ 64) || decide (-(2 ^ 64) < j ∧ j < 2 ^ 64))
def pMul : PyData → PyData → Option PyData
  | .int i, .int j => if cMul i j = true then some (.int (i * j)) else none
  | .list ds, .int k => if (okRange k && decide (ds.length * k.toNat ≤ lim)) = true then some (.list (List.replicate k.toNat ds).flatten) else none
  | _, _ => none
section
variable {K : PySem.W.Frag} {m : List Bool}
def rMul2 : R2 := fun x y H Q => rI CMulW (fun i j => .int (i * j)) x y H Q ∨ (rI CMul (fun i j => .int (i * j)) x y H Q ∨ rRep x y H Q)
theorem op_mul2 {X : Cx} : OpR X (binaryOp .Mult) rMul2 := OpR.or op_mulW (OpR.or op_mul op_rep)
theorem od_mul : OpD K m rMul2 (onD pMul) := OpD.ofD fun B σ H ρ ws ts x y t u v Q ok e q => by
  unfold pMul at e
  split at e
  · obtain ⟨h, e⟩ := reqs e
    subst e
    have hy := ok.topInt
    have hx := ok.pop.topInt
    subst hx hy
    unfold cMul at h
    rcases (Bool.or_eq_true _ _).mp h with h | h
    · exact .inl ⟨_, _, rfl, rfl, by unfold CMulW; exact of_decide_eq_true h, q _ _ ok.pop.pop.int⟩
    · refine .inr (.inl ⟨_, _, rfl, rfl, ?_, q _ _ ok.pop.pop.int⟩)
      rcases (Bool.or_eq_true _ _).mp h with h | h
      · exact .inl (of_decide_eq_true h)
      · exact .inr (of_decide_eq_true h)
  · obtain ⟨h, e⟩ := reqs e
    subst e
    rename_i ds k
    have h := (Bool.and_eq_true _ _).mp h
    have hz := of_decide_eq_true h.2
    obtain ⟨b1, b2⟩ := okRange_of h.1
    have hy := ok.topInt
    subst hy
    obtain ⟨a, vs, rfl, ha, da⟩ := ok.pop.topList
    refine .inr (.inr ⟨a, k, vs, rfl, rfl, ha, by omega, by omega, by rw [da.len]; exact lim_le hz, fun p hp => q _ _ ?_⟩)
    refine Ok.inStead (ok.pop.newList hp fun I Fw sb w' => ?_)
    exact (parts_lst sb ha w').rep _
  · cases e
end
def gNeg : T → Option T
  | .d (.int i) => some (.d (.int (-i)))
  | _ => none
def dneg (fa : M T) : M T := mbind fa fun x => mopt (gNeg x)
section
variable {X : Cx} {w : Wd} {a b c e : Expr} {fa fb fc f : M T} {pos : Pos}
theorem de_neg (ha : DE X w a fa) : DE X w (.UnaryOp .USub a pos) (dneg fa) := by
  obtain ⟨ta, pa, da⟩ := ha.ex
  refine de_v (pe_un un_neg pa) fun B σ H ρ ws ts Q ok q => ?_
  refine da B σ H ρ ws ts _ ok (q.bind.mono fun v ρ1 p1 x H1 ok1 => ?_)
  obtain ⟨z, e, q3⟩ := p1.opt
  unfold gNeg at e
  split at e
  · cases e
    have hx := ok1.topInt
    subst hx
    exact ⟨_, rfl, q3 _ _ ok1.pop.int⟩
  · cases e

/-! ### a op b op c, b data -/
def chainRest (g' : T → T → Option T) (fc : M T) (y : PyData) : T → M T
  | .d (.bool true) => mbind fc fun u => mopt (g' (.d y) u)
  | .d (.bool false) => mret (.d (.bool false))
  | _ => mno
def chainMid (g g' : T → T → Option T) (fc : M T) (x : T) : T → M T
  | .d y => mbind (mopt (g x (.d y))) (chainRest g' fc y)
  | _ => mno
def dchain (g g' : T → T → Option T) (fa fb fc : M T) : M T := mbind fa fun x => mbind fb (chainMid g g' fc x)
theorem den_chain {K : PySem.W.Frag} {ta tb tc : TE} {r r' : R2} {g g' : T → T → Option T} (ha : DenE K w ta fa) (hb : DenE K w tb fb) (hc : DenE K w tc fc) (hg : OpD K w.m r g) (hg' : OpD K w.m r' g') : DenE K w (tChain r r' ta tb tc) (dchain g g' fa fb fc) := fun B σ H ρ ws ts Q ok p => by
  refine ha B σ H ρ ws ts _ ok (p.bind.mono fun v ρ1 p1 x H1 ok1 => ?_)
  refine hb B σ H1 ρ1 _ _ _ ok1 (p1.bind.mono fun u ρ2 p2 y H2 ok2 => ?_)
  cases u with
  | d yd =>
    obtain ⟨z, e, q⟩ := (PostG.bind (f := mopt (g v (.d yd))) (g := chainRest g' fc yd) p2).opt
    have ok3 : Ok K w.m B σ H2 ρ2 (y :: x :: y :: ws) (.d yd :: v :: .d yd :: ts) := by
      have o := ok2.dup
      obtain ⟨I, Fr, Fw, s, r, wz, km⟩ := o
      cases wz with
      | cons a1 b1 =>
        cases b1 with
        | cons a2 c1 =>
          cases c1 with
          | cons a3 c2 =>
            cases a1 with
            | d a1 =>
              cases a2 with
              | d a2 => exact ⟨I, Fr, _, s.perm (by simp), r, .cons (F := []) (.d a1) (.cons a3 (.cons (F := []) (.d a2) c2)), km⟩
    refine hg B σ H2 ρ2 (y :: ws) (.d yd :: ts) x y v (.d yd) z _ ok3 e fun z' H3 ok4 => ?_
    cases z with
    | d zd =>
      cases zd with
      | bool k =>
        have hz := ok4.topBl
        subst hz
        refine ⟨k, rfl, ?_⟩
        cases k with
        | true =>
          rw [if_pos rfl]
          refine hc B σ H3 ρ2 _ _ _ ok4.pop (PostG.mono (PostG.bind (f := fc) (g := fun u => mopt (g' (.d yd) u)) q) fun t ρ3 p3 x3 H4 ok5 => ?_)
          obtain ⟨z2, e2, q2⟩ := p3.opt
          exact hg' B σ H4 ρ3 ws ts y x3 (.d yd) t z2 Q ok5 e2 q2
        | false =>
          rw [if_neg Bool.false_ne_true]
          exact q _ _ ok4.pop.pop.bl
      | _ => exact q.elim
    | _ => exact q.elim
  | _ => exact p2.elim
theorem de_chain {op op' : CmpOp} {r r' : R2} {g g' : T → T → Option T} (ho : OpR X (compareOp op) r) (hg : OpD X.K w.m r g) (ho' : OpR X (compareOp op') r') (hg' : OpD X.K w.m r' g') (ha : DE X w a fa) (hb : DE X w b fb) (hc : DE X w c fc)
    (hm : lastMarks [op, op'] [b, c] = false := by with_unfolding_all rfl) : DE X w (.Compare a [op, op'] [b, c] pos) (dchain g g' fa fb fc) := by
  obtain ⟨ta, pa, da⟩ := ha.ex
  obtain ⟨tb, pb, db⟩ := hb.ex
  obtain ⟨tc, pc, dc⟩ := hc.ex
  exact de_v (pe_chain ho ho' pa pb pc hm) (den_chain da db dc hg hg')
theorem dt_chain {op op' : CmpOp} {r r' : R2} {g g' : T → T → Option T} (ho : OpR X (compareOp op) r) (hg : OpD X.K w.m r g) (ho' : OpR X (compareOp op') r') (hg' : OpD X.K w.m r' g') (ha : DE X w a fa) (hb : DE X w b fb) (hc : DE X w c fc)
    (hm : lastMarks [op, op'] [b, c] = false := by with_unfolding_all rfl) : DT X w (.Compare a [op, op'] [b, c] pos) (dval (dchain g g' fa fb fc)) := by
  obtain ⟨ta, pa, da⟩ := ha.ex
  obtain ⟨tb, pb, db⟩ := hb.ex
  obtain ⟨tc, pc, dc⟩ := hc.ex
  refine ⟨_, pt_chain ho ho' pa pb pc hm, fun B σ H ρ ws ts Q ok p => ?_⟩
  refine den_chain da db dc hg hg' B σ H ρ ws ts _ ok (p.bind.mono fun v ρ1 p1 x H1 ok1 => ?_)
  cases v with
  | d x =>
    cases x with
    | bool b =>
      have ex := ok1.topBl
      subst ex
      exact ⟨b, rfl, p1 _ ok1.pop⟩
    | _ => exact p1.elim
  | _ => exact p1.elim
end
end DL
end
section
set_option Elab.async false
set_option linter.all false
set_option maxRecDepth 100000
set_option maxHeartbeats 4000000
/-! DLA: own lists and dicts, methods, targets. -/
namespace DL
open PySem L2

/-! ### methods of what a slot holds -/
def tyT : T → Option String
  | .lst _ => some "list"
  | .dct _ => some "dict"
  | .d (.list _) => some "list"
  | .d (.str _) => some "str"
  | _ => none
section
variable {K : PySem.W.Frag} {m : List Bool} {B : Bs} {σ : St} {H : Hp} {ρ : Rho} {ws : List V} {ts : List T} {x y v : V} {t u : T} {d e : PyData} {i : Nat}
theorem Ok.tyV {n : String} (h : Ok K m B σ H ρ (x :: ws) (t :: ts)) (e : tyT t = some n) : L2.tyV K n x H := by
  obtain ⟨I, Fr, Fw, s, r, w, km⟩ := h
  cases w with
  | cons a b =>
    cases a with
    | lst hp it => cases e; exact .inl ⟨rfl, _, SqL.of hp⟩
    | dct hp _ _ _ it => cases e; exact .inr (.inr (.inl ⟨rfl, .inl ⟨_, hp⟩⟩))
    | d q =>
      cases q with
      | lst hp it => cases e; exact .inl ⟨rfl, _, SqL.of (s.sub _ _ hp)⟩
      | str z => cases e; rfl
      | _ => cases e
    | _ => cases e
end
/-- a method that changes its receiver -/
def OwnM (K : PySem.W.Frag) (m : List Bool) (r : V → List V → Hp → VK → Prop) (g : T → List T → Option (T × T)) : Prop :=
  ∀ B σ H ρ ws ts x ys t us t1 v (Q : VK), ys.length = us.length → Ok K m B σ H ρ (ys ++ x :: ws) (us ++ t :: ts) → g t us = some (t1, v) → (∀ z H', Ok K m B σ H' ρ (z :: x :: ws) (v :: t1 :: ts) → Q z H') → r x ys H Q
/-- the type of what slot i holds -/
def dtyp (n : String) (i : Nat) : M Unit := fun ρ => match ρ[i]? with
  | some (some t) => if tyT t = some n then .ok () ρ else .no
  | _ => .no
def down (i : Nat) (g : T → Option (T × T)) : M T := fun ρ => match ρ[i]? with
  | some (some t) => (match g t with
    | some (t1, v) => .ok v (ρ.set i (some t1))
    | none => .no)
  | _ => .no
def dmeth (n : String) (i : Nat) (g : T → List T → Option (T × T)) (fs : M (List T)) : M T := mbind (dtyp n i) fun _ => mbind fs fun us => down i fun t => g t us
section
variable {K : PySem.W.Frag} {w : Wd} {i : Nat} {n : String} {r : V → List V → Hp → VK → Prop} {g : T → List T → Option (T × T)} {fs : M (List T)} {os : List (Option Nat)} {t : TA}
theorem Ok.peek {m : List Bool} {B : Bs} {σ : St} {H : Hp} {ρ : Rho} {ws : List V} {ts : List T} {u : T} (h : Ok K m B σ H ρ ws ts) (e : ρ[i]? = some (some u)) (q : tyT u = some n) : ∃ v, σ[i]? = some (some v) ∧ L2.tyV K n v H := by
  obtain ⟨v, h1, h2⟩ := h.take e
  exact ⟨v, h1, h2.tyV q⟩
theorem den_meth (hg : OwnM K w.m r g) (d : DenA K w t os fs) : DenE K w (tBM K n r (tVar i) t) (dmeth n i g fs) := fun B σ H ρ ws ts Q ok q => by
  have q := q.bind
  unfold dtyp at q
  cases e : ρ[i]? with
  | none => rw [e] at q; exact q.elim
  | some o =>
    cases o with
    | none => rw [e] at q; exact q.elim
    | some u =>
      rw [e] at q
      by_cases hq : tyT u = some n
      · simp only [if_pos hq] at q
        obtain ⟨v, h1, h2⟩ := ok.peek e hq
        refine ⟨v, h1, h2, ?_⟩
        refine d B σ H ρ ws ts _ ok (PostG.mono (PostG.bind q) fun us ρ1 p1 xs H1 hl ok1 _ => ?_)
        unfold down at p1
        cases e1 : ρ1[i]? with
        | none => rw [e1] at p1; exact p1.elim
        | some o1 =>
          cases o1 with
          | none => rw [e1] at p1; exact p1.elim
          | some u1 =>
            rw [e1] at p1
            simp only at p1
            cases e2 : g u1 us with
            | none => rw [e2] at p1; exact p1.elim
            | some tv =>
              obtain ⟨t1, v1⟩ := tv
              rw [e2] at p1
              obtain ⟨v', h1', ok2⟩ := ok1.take e1
              have : v' = v := by
                rw [h1] at h1'
                exact (Option.some.inj (Option.some.inj h1')).symm
              subst this
              have ok3 := Ok.perm4 (vs := xs) (us := us) hl ok2
              refine hg B σ H1 _ ws ts v' xs u1 us t1 v1 Q hl ok3 e2 fun z H' ok4 => ?_
              have ok5 := ok4.swap.back (i := i) h1
              rw [List.set_set] at ok5
              exact p1 z H' ok5
      · simp only [if_neg hq] at q
        exact q.elim
theorem den_meth0 (hg : OwnM K w.m r g) : DenE K w (tBM0 K n r (tVar i)) (dmeth n i g (mret [])) := fun B σ H ρ ws ts Q ok q => by
  have h := den_meth (n := n) (i := i) hg (den_nil (w := w) (K := K)) B σ H ρ ws ts Q ok q
  obtain ⟨v, h1, h2, h3⟩ := h
  exact ⟨v, h1, h2, h3⟩
end
section
variable {X : Cx} {w : Wd} {n id : String} {x name : Str} {r : V → List V → Hp → VK → Prop} {g : T → List T → Option (T × T)} {fs : M (List T)} {os : List (Option Nat)} {e : Expr} {es : List Expr} {p apos cpos : Pos}
theorem de_meth (i : Nat) (pa : PlainAttrs n) (slot : Slot n name id) (hty : typeOf (.builtin id) = pure (.type "method_descriptor")) (hm : MtR X id r) (hg : OwnM X.K w.m r g) (ha : DA X w (e :: es) os fs)
    (hN : X.N[i]? = some x := by rfl) (hv : Vis X.env.scope x := by first | exact Or.inl rfl | exact Or.inr (Or.inl rfl) | exact Or.inr (Or.inr rfl)) (hd : (x == ("__debug__" : Str)) = false := by decide) (hcd : (x == ("__classdict__" : Str)) = false := by decide)
    (hbase : attributeBase (.Name x p) name X.env (eval (.Name x p) X.env) = eval (.Name x p) X.env := by rfl)
    (hfew : ((backTo cpos (starEach (e :: es) X.env)).all (fun x => !x.1) && (backToKw cpos (keywordEach [] X.env)).all (fun x => x.1.isSome)
      && decide ((e :: es).length + ([] : List Keyword).length + (if ([] : List Keyword).isEmpty then 0 else 1) < 30)) = true := by rfl)
    (hline : (apos.endLine == cpos.line) = true := by rfl) (hs : starEach (e :: es) X.env = (false, eval e X.env) :: starEach es X.env := by rfl) (hplain : (backTo cpos (starEach es X.env)).any (·.1) = false := by rfl) :
    DE X w (.Call (.Attribute (.Name x p) name apos) (e :: es) [] cpos) (dmeth n i g fs) := by
  obtain ⟨t, pt, dt⟩ := ha.ex
  exact de_v (pe_bm pa slot hty hm (pe_var hN hv hd hcd) pt hbase hfew hline hs hplain) (den_meth hg dt)
theorem de_meth0 (i : Nat) (pa : PlainAttrs n) (slot : Slot n name id) (hty : typeOf (.builtin id) = pure (.type "method_descriptor")) (hm : MtR X id r) (hg : OwnM X.K w.m r g)
    (hN : X.N[i]? = some x := by rfl) (hv : Vis X.env.scope x := by first | exact Or.inl rfl | exact Or.inr (Or.inl rfl) | exact Or.inr (Or.inr rfl)) (hd : (x == ("__debug__" : Str)) = false := by decide) (hcd : (x == ("__classdict__" : Str)) = false := by decide)
    (hbase : attributeBase (.Name x p) name X.env (eval (.Name x p) X.env) = eval (.Name x p) X.env := by rfl) (hline : (apos.endLine == cpos.line) = true := by rfl) :
    DE X w (.Call (.Attribute (.Name x p) name apos) [] [] cpos) (dmeth n i g (mret [])) :=
  de_v (pe_bm0 pa slot hty hm (pe_var hN hv hd hcd) hbase hline) (den_meth0 hg)
end
section
variable {K : PySem.W.Frag} {m : List Bool}
def oAppend : T → List T → Option (T × T)
  | .lst xs, [u] => if xs.length < lim then some (.lst (xs ++ [u]), .d .none) else none
  | _, _ => none
theorem om_append : OwnM K m rAppend oAppend := fun B σ H ρ ws ts x ys t us t1 v Q hl ok e q => by
  unfold oAppend at e
  split at e
  · obtain ⟨h1, e⟩ := reqs e
    cases e
    obtain ⟨y, rfl⟩ := one_of hl
    obtain ⟨a, vs, rfl, ha, hlen⟩ := Ok.ownList (Ok.pop (ws := x :: ws) (ts := _ :: ts) ok)
    obtain ⟨vs', h2, h3, ok2⟩ := Ok.grow (ws := ws) (ts := ts) ok
    refine ⟨a, vs', y, rfl, rfl, h2, by rw [h3]; exact lim_lt h1, q _ _ ok2.non⟩
  · cases e
def oPopAt : T → List T → Option (T × T)
  | .lst xs, [.d (.int i)] => if (decide (0 ≤ i) && decide (i < 1000000)) = true then (match xs[i.toNat]? with
    | some t => some (.lst (xs.eraseIdx i.toNat), t)
    | none => none) else none
  | _, _ => none
theorem RepTs.pick {I H : Hp} : ∀ {vs : List V} {ts : List T} {F : List Addr} {k : Nat} {t : T}, RepTs K I H vs ts F → ts[k]? = some t → ∃ v G E, vs[k]? = some v ∧ RepT K I H v t G ∧ RepTs K I H (vs.eraseIdx k) (ts.eraseIdx k) E ∧ List.Perm (G ++ E) F
  | _, _, _, k, t, .nil, e => by simp at e
  | _, _, _, 0, t, .cons (F := F) (G := G) a b, e => by
    simp at e
    subst e
    exact ⟨_, F, G, rfl, a, b, List.Perm.refl _⟩
  | _, _, _, k + 1, t, .cons (F := F) a b, e => by
    obtain ⟨v, G, E, h1, h2, h3, h4⟩ := RepTs.pick (k := k) b (by simpa using e)
    refine ⟨v, G, F ++ E, by simpa using h1, h2, .cons a h3, ?_⟩
    refine List.Perm.trans ?_ (List.Perm.append_left F h4)
    rw [← List.append_assoc, ← List.append_assoc]
    exact List.Perm.append_right _ List.perm_append_comm
/-- one out of the own list on top -/
theorem Ok.popAt {B : Bs} {σ : St} {H : Hp} {ρ : Rho} {ws : List V} {ts : List T} {x : V} {xs : List T} {k : Nat} {t : T} (h : Ok K m B σ H ρ (x :: ws) (.lst xs :: ts)) (e : xs[k]? = some t) :
    ∃ a vs v, x = .ref a ∧ H a = some (.lst vs) ∧ vs.length = xs.length ∧ vs[k]? = some v ∧ Ok K m B σ (upd H a (.lst (vs.eraseIdx k))) ρ (v :: .ref a :: ws) (t :: .lst (xs.eraseIdx k) :: ts) := by
  obtain ⟨I, Fr, Fw, s, r, w, km⟩ := h
  cases w with
  | cons a b =>
    rename_i F1 F2
    cases a with
    | lst hp it =>
      rename_i p vs F3
      obtain ⟨v, G, E, h1, h2, h3, h4⟩ := it.pick e
      have mem : p ∈ Fr ++ (p :: F3 ++ F2) := by simp
      have nd := s.nd
      have other : ∀ q ∈ Fr ++ (F3 ++ F2), q ≠ p := fun q z e => by
        subst e
        have : List.Perm (Fr ++ (q :: F3 ++ F2)) (q :: (Fr ++ (F3 ++ F2))) := List.perm_middle
        exact (List.nodup_cons.mp (this.nodup_iff.mp nd)).1 z
      have sub : ∀ q, q ∈ G ++ E → q ∈ F3 := fun q z => h4.mem_iff.mp z
      have fx : ∀ q ∈ Fr ++ (F3 ++ F2), (upd H p (.lst (vs.eraseIdx k))) q = H q := fun q z => upd_ne (other q z)
      refine ⟨p, vs, v, rfl, hp, it.len, h1, I, Fr, G ++ ((p :: E) ++ F2), (s.write (o := .lst (vs.eraseIdx k)) mem).perm (List.Perm.append_left _ ?_), r.mono (Same.refl _) fun q z => fx q (by simp [z]),
        .cons (h2.mono (Same.refl _) fun q z => fx q (List.mem_append_right _ (List.mem_append_left _ (sub q (List.mem_append_left _ z))))) (.cons (.lst upd_same (h3.mono (Same.refl _) fun q z => fx q (List.mem_append_right _ (List.mem_append_left _ (sub q (List.mem_append_right _ z)))))) (b.mono (Same.refl _) fun q z => fx q (by simp [z]))), km⟩
      rw [List.cons_append, List.cons_append]
      refine List.Perm.trans ?_ List.perm_middle.symm
      refine List.Perm.cons _ ?_
      rw [← List.append_assoc]
      exact List.Perm.append_right _ h4.symm
theorem om_popAt : OwnM K m rPopAt oPopAt := fun B σ H ρ ws ts x ys t us t1 v Q hl ok e q => by
  unfold oPopAt at e
  split at e
  · rename_i xs i
    obtain ⟨y, rfl⟩ := one_of hl
    by_cases c : (decide (0 ≤ i) && decide (i < 1000000)) = true
    · rw [if_pos c] at e
      have c := (Bool.and_eq_true _ _).mp c
      have c1 := of_decide_eq_true c.1
      have c2 := of_decide_eq_true c.2
      cases e1 : xs[i.toNat]? with
      | none => rw [e1] at e; cases e
      | some t0 =>
        rw [e1] at e
        cases e
        have hy := Ok.topInt (ws := x :: ws) (ts := _ :: ts) ok
        subst hy
        obtain ⟨a, vs, v0, rfl, ha, hlen, hv, ok2⟩ := Ok.popAt (Ok.pop (ws := x :: ws) (ts := _ :: ts) ok) e1
        have hlt : i.toNat < vs.length := (List.getElem?_eq_some_iff.mp hv).1
        refine ⟨a, vs, i, i.toNat, v0, rfl, rfl, ha, by omega, by omega, ?_, hv, q _ _ ok2⟩
        unfold seqIndex?
        have h3 : ¬ i < 0 := by omega
        simp only [h3, if_false]
        have h4 : ¬ (i ≥ (vs.length : Int)) := by omega
        first
          | (simp [h4, h3]; done)
          | (rw [if_neg]; simp; omega)
          | simp_all
    · rw [if_neg c] at e
      cases e
  · cases e
def oExtend : T → List T → Option (T × T)
  | .lst xs, [.d (.list ds)] => if xs.length + ds.length ≤ lim then some (.lst (xs ++ ds.map T.d), .d .none) else none
  | _, _ => none
theorem Ok.growAll {B : Bs} {σ : St} {H : Hp} {ρ : Rho} {ws : List V} {ts : List T} {y x : V} {xs : List T} {ds : List PyData} (h : Ok K m B σ H ρ (y :: x :: ws) (.d (.list ds) :: .lst xs :: ts)) :
    ∃ a b vs zs, x = .ref a ∧ y = .ref b ∧ H a = some (.lst vs) ∧ H b = some (.lst zs) ∧ vs.length = xs.length ∧ zs.length = ds.length ∧ Ok K m B σ (upd H a (.lst (vs ++ zs))) ρ (.ref a :: ws) (.lst (xs ++ ds.map T.d) :: ts) := by
  obtain ⟨I, Fr, Fw, s, r, w, km⟩ := h
  obtain ⟨b, zs, rfl, hb, dd⟩ := lst_items w
  cases w with
  | cons a0 w =>
    cases a0 with
    | d a0 =>
      cases w with
      | cons a1 w =>
        rename_i F1 F2
        cases a1 with
        | lst hp it =>
          rename_i p vs F3
          have mem : p ∈ Fr ++ ([] ++ (p :: F3 ++ F2)) := by simp
          have nd := s.nd
          have other : ∀ q ∈ Fr ++ (F3 ++ F2), q ≠ p := fun q z e => by
            subst e
            have : List.Perm (Fr ++ ([] ++ (q :: F3 ++ F2))) (q :: (Fr ++ (F3 ++ F2))) := List.perm_middle
            exact (List.nodup_cons.mp (this.nodup_iff.mp nd)).1 z
          have fx : ∀ q ∈ Fr ++ (F3 ++ F2), (upd H p (.lst (vs ++ zs))) q = H q := fun q z => upd_ne (other q z)
          obtain ⟨E, q1, q2⟩ := RepTs.append (it.mono (Same.refl _) fun q z => fx q (by simp [z])) (RepTs.ofD dd (H := upd H p (.lst (vs ++ zs))))
          rw [List.append_nil] at q2
          subst q2
          exact ⟨p, b, vs, zs, rfl, rfl, hp, s.sub _ _ hb, it.len, dd.len, I, Fr, (p :: E) ++ F2, (s.write (o := .lst (vs ++ zs)) mem), r.mono (Same.refl _) fun q z => fx q (by simp [z]), .cons (.lst upd_same q1) (w.mono (Same.refl _) fun q z => fx q (by simp [z])), km⟩
theorem om_extend : OwnM K m rExtend oExtend := fun B σ H ρ ws ts x ys t us t1 v Q hl ok e q => by
  unfold oExtend at e
  split at e
  · obtain ⟨h1, e⟩ := reqs e
    cases e
    obtain ⟨y, rfl⟩ := one_of hl
    obtain ⟨a, b, vs, zs, rfl, rfl, ha, hb, l1, l2, ok2⟩ := Ok.growAll (ws := ws) (ts := ts) ok
    exact ⟨a, b, vs, zs, rfl, rfl, ha, hb, by rw [l1, l2]; exact lim_le h1, q _ _ ok2.non⟩
  · cases e
end

/-! ### own[k], own[k] = v -/
def tItem : T → T → Option T
  | .lst xs, .d (.int k) => match atI xs k with
    | some (.d x) => some (.d x)
    | _ => none
  | .d x, .d y => (pIx x y).map T.d
  | _, _ => none
def dreadO (i : Nat) (g : T → Option T) : M T := fun ρ => match ρ[i]? with
  | some (some t) => (match g t with
    | some v => .ok v ρ
    | none => .no)
  | _ => .no
def dixO (i : Nat) (fb : M T) : M T := mbind (dhas i) fun _ => mbind fb fun k => dreadO i fun t => tItem t k
theorem atI_reps {K : PySem.W.Frag} {I H : Hp} {vs : List V} {ts : List T} {F : List Addr} {k : Int} {d : PyData} (h : RepTs K I H vs ts F) (q : atI ts k = some (.d d)) : ∃ v, atI vs k = some v ∧ Dr K I v d := by
  unfold atI at q ⊢
  rw [h.len]
  cases p : ixN ts.length k with
  | none => rw [p] at q; cases q
  | some j =>
    rw [p] at q
    obtain ⟨v, G, E, h1, h2, _, _⟩ := h.pick q
    cases h2 with
    | d h2 => exact ⟨v, h1, h2⟩
section
variable {X : Cx} {w : Wd} {b : Expr} {fb : M T} {p pos : Pos} {x : Str}
theorem set_get {ρ : Rho} {i : Nat} {t : T} (e : ρ[i]? = some (some t)) : (ρ.set i none).set i (some t) = ρ := by
  rw [List.set_set]
  apply List.ext_getElem?
  intro j
  by_cases z : i = j
  · subst z
    rw [List.getElem?_set_self (List.getElem?_eq_some_iff.mp e).1, e]
  · rw [List.getElem?_set_ne z]
theorem dread_of {K : PySem.W.Frag} {w : Wd} {B : Bs} {ρ : Rho} {i : Nat} {g : T → Option T} {P : T → Rho → Prop} (q : PostG K w B (dreadO i g ρ) P) : ∃ t v, ρ[i]? = some (some t) ∧ g t = some v ∧ P v ρ := by
  unfold dreadO at q
  cases e : ρ[i]? with
  | none => rw [e] at q; exact q.elim
  | some o =>
    cases o with
    | none => rw [e] at q; exact q.elim
    | some u =>
      rw [e] at q
      simp only at q
      cases e1 : g u with
      | none => rw [e1] at q; exact q.elim
      | some v => rw [e1] at q; exact ⟨u, v, rfl, e1, q⟩
theorem den_ixO {K : PySem.W.Frag} {i : Nat} {tb : TE} (d : DenE K w tb fb) : DenE K w (tOp (rIx K) (tVar i) tb) (dixO i fb) := fun B σ H ρ ws ts Q ok q => by
  obtain ⟨⟨v, hv⟩, q⟩ := dhas_of ok q.bind
  refine ⟨v, hv, ?_⟩
  refine d B σ H ρ ws ts _ ok (PostG.mono (PostG.bind q) fun k ρ1 p1 y H1 ok1 => ?_)
  obtain ⟨t, z, e1, e2, p2⟩ := dread_of p1
  obtain ⟨v', h1, ok2⟩ := ok1.take e1
  have ev : v' = v := by
    rw [hv] at h1
    exact (Option.some.inj (Option.some.inj h1)).symm
  subst ev
  unfold tItem at e2
  split at e2
  · rename_i xs k
    cases e3 : atI xs k with
    | none => rw [e3] at e2; cases e2
    | some t0 =>
      cases t0 with
      | d d0 =>
        rw [e3] at e2
        cases e2
        have hy := Ok.topInt ok1
        subst hy
        obtain ⟨I, Fr, Fw, s, r, wz, km⟩ := id ok2
        cases wz with
        | cons a b =>
          cases a with
          | lst hp it =>
            obtain ⟨z, hz, dz⟩ := atI_reps it e3
            refine .inl ⟨_, _, k, z, rfl, rfl, SqL.of hp, hz, p2 _ _ ?_⟩
            rename_i pa vsa Fa
            have ok3 : Ok K w.m B σ H1 (ρ1.set i none) (V.ref pa :: z :: ws) (.lst xs :: .d d0 :: ts) := by
              cases b with
              | cons b1 b2 => exact ⟨I, Fr, _, s.less (fun a m => by
                  rcases List.mem_append.mp m with m | m
                  · exact List.mem_append_left _ m
                  · rcases List.mem_append.mp m with m | m
                    · exact List.mem_append_right _ (List.mem_append_left _ m)
                    · exact List.mem_append_right _ (List.mem_append_right _ (List.mem_append_right _ m)))
                    ((List.Sublist.append (List.Sublist.refl _) (List.Sublist.append (List.Sublist.refl _) (List.sublist_append_right _ _))).nodup s.nd), r, .cons (.lst hp it) (.cons (F := []) (.d dz) b2), km⟩
            have ok4 := ok3.back (i := i) h1
            rw [set_get e1] at ok4
            exact ok4
      | _ => rw [e3] at e2; cases e2
  · rename_i d0 y0
    cases e3 : pIx d0 y0 with
    | none => rw [e3] at e2; cases e2
    | some z0 =>
      rw [e3] at e2
      cases e2
      have ok3 : Ok K w.m B σ H1 ρ1 (y :: v' :: ws) (.d y0 :: .d d0 :: ts) := by
        obtain ⟨v2, g1, g2⟩ := ok1.read e1
        have : v2 = v' := by
          rw [hv] at g1
          exact (Option.some.inj (Option.some.inj g1)).symm
        subst this
        exact g2.swap
      exact od_ix (m := w.m) B σ H1 ρ1 ws ts v' y (.d d0) (.d y0) (.d z0) Q ok3 (by show Option.map T.d (pIx d0 y0) = _; rw [e3]; rfl) fun z' H' ok5 => p2 z' H' ok5
  · cases e2
theorem de_ixO (i : Nat) (hb : DE X w b fb) (hs : PlainIx b := by exact fun _ _ => rfl) (hN : X.N[i]? = some x := by rfl) (hv : Vis X.env.scope x := by first | exact Or.inl rfl | exact Or.inr (Or.inl rfl) | exact Or.inr (Or.inr rfl)) (hd : (x == ("__debug__" : Str)) = false := by decide)
    (hcd : (x == ("__classdict__" : Str)) = false := by decide) : DE X w (.Subscript (.Name x p) b pos) (dixO i fb) := by
  obtain ⟨tb, pb, db⟩ := hb.ex
  exact de_v (pe_ix ix_seq (pe_var hN hv hd hcd) pb hs) (den_ixO db)
def tPut : T → T → T → Option T
  | .lst xs, .d (.int k), v => (ixN xs.length k).map fun j => .lst (xs.set j v)
  | _, _, _ => none
theorem RepTs.setAt {K : PySem.W.Frag} {I H : Hp} : ∀ {vs : List V} {ts : List T} {F G : List Addr} {k : Nat} {v : V} {t : T}, RepTs K I H vs ts F → RepT K I H v t G → ∃ E R, RepTs K I H (vs.set k v) (ts.set k t) E ∧ List.Perm (E ++ R) (F ++ G)
  | _, _, _, G, k, v, t, .nil, a => ⟨[], G, .nil, List.Perm.refl _⟩
  | _, _, _, G, 0, v, t, .cons (F := F1) (G := F2) b r, a => ⟨G ++ F2, F1, .cons a r, by
      rw [List.append_assoc, List.append_assoc]
      exact (List.perm_append_comm (l₁ := G) (l₂ := F2 ++ F1)).trans (List.Perm.append_right _ List.perm_append_comm) |>.trans (by rw [List.append_assoc])⟩
  | _, _, _, G, k + 1, v, t, .cons (F := F1) b r, a => by
    obtain ⟨E, R, h1, h2⟩ := RepTs.setAt (k := k) r a
    refine ⟨F1 ++ E, R, .cons b h1, ?_⟩
    rw [List.append_assoc, List.append_assoc]
    exact List.Perm.append_left _ h2
/-- what stands below is stored into the own list on top -/
theorem Ok.putAt {K : PySem.W.Frag} {m : List Bool} {B : Bs} {σ : St} {H : Hp} {ρ : Rho} {ws : List V} {ts : List T} {x v : V} {xs : List T} {t : T} (h : Ok K m B σ H ρ (x :: v :: ws) (.lst xs :: t :: ts)) :
    ∃ a vs, x = .ref a ∧ H a = some (.lst vs) ∧ vs.length = xs.length ∧ ∀ j, Ok K m B σ (upd H a (.lst (vs.set j v))) ρ (.ref a :: ws) (.lst (xs.set j t) :: ts) := by
  obtain ⟨I, Fr, Fw, s, r, w, km⟩ := h
  cases w with
  | cons a b =>
    rename_i F1 F2
    cases a with
    | lst hp it =>
      rename_i p vs F3
      cases b with
      | cons c d =>
        rename_i F4 F5
        refine ⟨p, vs, rfl, hp, it.len, fun j => ?_⟩
        have mem : p ∈ Fr ++ (p :: F3 ++ (F4 ++ F5)) := by simp
        have nd := s.nd
        have other : ∀ q ∈ Fr ++ (F3 ++ (F4 ++ F5)), q ≠ p := fun q z e => by
          subst e
          have : List.Perm (Fr ++ (q :: F3 ++ (F4 ++ F5))) (q :: (Fr ++ (F3 ++ (F4 ++ F5)))) := List.perm_middle
          exact (List.nodup_cons.mp (this.nodup_iff.mp nd)).1 z
        have fx : ∀ q ∈ Fr ++ (F3 ++ (F4 ++ F5)), (upd H p (.lst (vs.set j v))) q = H q := fun q z => upd_ne (other q z)
        obtain ⟨E, R, h1, h2⟩ := RepTs.setAt (k := j) (it.mono (Same.refl _) fun q z => fx q (by simp [z])) (c.mono (Same.refl _) fun q z => fx q (by simp [z]))
        refine ⟨I, Fr, (p :: E) ++ F5, (s.write (o := .lst (vs.set j v)) mem).sub' (R := R) ?_, r.mono (Same.refl _) fun q z => fx q (by simp [z]), .cons (.lst upd_same h1) (d.mono (Same.refl _) fun q z => fx q (by simp [z])), km⟩
        rw [List.append_assoc]
        refine List.Perm.append_left _ ?_
        rw [List.cons_append, List.cons_append, List.cons_append]
        refine List.Perm.cons _ ?_
        rw [← List.append_assoc (as := F3)]
        refine List.Perm.trans ?_ (List.Perm.append_right F5 h2)
        rw [List.append_assoc, List.append_assoc]
        exact List.Perm.append_left _ List.perm_append_comm
def dput (i : Nat) (k v : T) : M Unit := fun ρ => match ρ[i]? with
  | some (some t) => (match tPut t k v with
    | some t1 => .ok () (ρ.set i (some t1))
    | none => .no)
  | _ => .no
def gput (i : Nat) (fk : M T) (v : T) : M Unit := mbind (dhas i) fun _ => mbind fk fun k => dput i k v
theorem dg_sub (i : Nat) {k : Expr} {fk : M T} (hk : DE X w k fk) (hN : X.N[i]? = some x := by rfl) (hv : Vis X.env.scope x := by first | exact Or.inl rfl | exact Or.inr (Or.inl rfl) | exact Or.inr (Or.inr rfl)) (hd : (x == ("__debug__" : Str)) = false := by decide)
    (hcd : (x == ("__classdict__" : Str)) = false := by decide)
    (ha : ∀ v, assign (.Subscript (.Name x p) k pos) X.env v = (do
      let ov ← holding [v] (eval (.Name x p) X.env)
      let iv ← holding [v, ov] (eval k X.env)
      standAt pos
      holding [v, ov, iv] (setItem ov iv v)
      release [v, ov, iv] []) := by intro _; rfl) : DG X w (.Subscript (.Name x p) k pos) [] (gput i fk) := by
  obtain ⟨tk, pk, dk⟩ := hk.ex
  refine ⟨_, pg_sub (pe_var hN hv hd hcd) pk set_list ha, fun B σ H ρ ws ts y v Q ok q => ?_⟩
  obtain ⟨⟨ov, hov⟩, q⟩ := dhas_of ok q.bind
  refine ⟨ov, hov, ?_⟩
  refine dk B σ H ρ _ _ _ ok (PostG.mono (PostG.bind q) fun kk ρ1 p1 ky H1 ok1 => ?_)
  unfold dput at p1
  cases e : ρ1[i]? with
  | none => rw [e] at p1; exact p1.elim
  | some o =>
    cases o with
    | none => rw [e] at p1; exact p1.elim
    | some t =>
      rw [e] at p1
      simp only at p1
      cases e1 : tPut t kk v with
      | none => rw [e1] at p1; exact p1.elim
      | some t1 =>
        rw [e1] at p1
        unfold tPut at e1
        split at e1
        · rename_i xs k
          cases e2 : ixN xs.length k with
          | none => rw [e2] at e1; cases e1
          | some j =>
            rw [e2] at e1
            cases e1
            have hy := ok1.topInt
            subst hy
            obtain ⟨v', h1, ok2⟩ := ok1.pop.take e
            have ev : v' = ov := by
              rw [hov] at h1
              exact (Option.some.inj (Option.some.inj h1)).symm
            subst ev
            obtain ⟨a, vs, rfl, ha, hl, ok3⟩ := ok2.putAt
            refine ⟨a, vs, k, j, rfl, rfl, ha, by rw [hl]; exact e2, ?_⟩
            have ok4 := (ok3 j).back (i := i) h1
            rw [List.set_set] at ok4
            exact (show ∀ σ' H', SameOut [] σ σ' → Ok X.K w.m B σ' H' (ρ1.set i (some (.lst (xs.set j v)))) ws ts → Q σ' H' from p1) σ _ ⟨rfl, fun _ _ => rfl⟩ ok4
        · cases e1
/-- target = e -/
def sasg (f : M T) (g : T → M Unit) : M Fl := mbind f fun v => mbind (g v) fun _ => mret .nx
theorem ds_asg {tg e : Expr} {f : M T} {S : List Nat} {g : T → M Unit} (he : DE X w e f) (hg : DG X w tg S g) (hs : swapsWithSole [tg] e pos.line X.env = pure false := by rfl) (hw : swappedStores [tg] e X.env = pure none := by rfl) (h1 : (assignEach [tg] X.env).map (·.2) = [assign tg X.env] := by rfl) : DS X w (.Assign [tg] e pos) (sasg f g) := by
  obtain ⟨t, p, d⟩ := he.ex
  obtain ⟨t', p', d'⟩ := hg.ex
  refine ⟨_, ps_asg p p' hs hw h1, fun B σ H ρ ws ts D ok q => ?_⟩
  refine d B σ H ρ ws ts _ ok (q.bind.mono fun v ρ1 p1 x H1 ok1 => ?_)
  exact d' B σ H1 ρ1 ws ts x v _ ok1 (PostG.mono (PostG.bind p1) fun _ ρ2 p2 σ2 H2 _ ok2 => p2 σ2 H2 ok2)

/-! ### targets a, b -/
def mgs : List (T → M Unit) → List PyData → M Unit
  | [], _ => mret ()
  | g :: gs, d :: ds => mbind (g (.d d)) fun _ => mgs gs ds
  | _ :: _, [] => mno
def mtup (gs : List (T → M Unit)) : T → M Unit
  | .d (.tuple ds) => if ds.length = gs.length then mgs gs ds else mno
  | _ => mno
structure DGs (X : Cx) (w : Wd) (es : List Expr) (S : List Nat) (gs : List (T → M Unit)) : Prop where
  ex : ∃ t, PGs X es t ∧ ∀ B σ H ρ ws ts xs ds (Q : St → Hp → Prop), xs.length = ds.length → ds.length = gs.length → Ok X.K w.m B σ H ρ (xs ++ ws) ((ds : List PyData).map T.d ++ ts) →
    PostG X.K w B (mgs gs ds ρ) (fun _ ρ' => ∀ σ' H', SameOut S σ σ' → Ok X.K w.m B σ' H' ρ' ws ts → Q σ' H') → t xs σ H Q
theorem dgs_nil : DGs X w [] [] [] := ⟨_, pgs_nil, fun B σ H ρ ws ts xs ds Q l1 l2 ok q => by
  have : ds = [] := List.eq_nil_of_length_eq_zero l2
  subst this
  have : xs = [] := List.eq_nil_of_length_eq_zero l1
  subst this
  exact ⟨rfl, (show ∀ σ' H', SameOut [] σ σ' → Ok X.K w.m B σ' H' ρ ws ts → Q σ' H' from q) σ H ⟨rfl, fun _ _ => rfl⟩ ok⟩⟩
theorem SameOut.trans {S S' : List Nat} {σ σ1 σ2 : St} (h : SameOut S σ σ1) (h' : SameOut S' σ1 σ2) : SameOut (S ++ S') σ σ2 :=
  ⟨h'.1.trans h.1, fun j hj => (h'.2 j fun m => hj (List.mem_append_right _ m)).trans (h.2 j fun m => hj (List.mem_append_left _ m))⟩
theorem dgs_cons {e : Expr} {es : List Expr} {S S' : List Nat} {g : T → M Unit} {gs : List (T → M Unit)} (h : DG X w e S g) (h' : DGs X w es S' gs) (hs : (assignEach (e :: es) X.env).map (·.2) = assign e X.env :: (assignEach es X.env).map (·.2) := by rfl) : DGs X w (e :: es) (S ++ S') (g :: gs) := by
  obtain ⟨t, p, d⟩ := h.ex
  obtain ⟨t', p', d'⟩ := h'.ex
  refine ⟨_, pgs_cons p p' hs, fun B σ H ρ ws ts xs ds Q l1 l2 ok q => ?_⟩
  cases ds with
  | nil => cases l2
  | cons d0 ds =>
    cases xs with
    | nil => cases l1
    | cons x xs =>
      refine ⟨x, xs, rfl, ?_⟩
      refine d B σ H ρ (xs ++ ws) (ds.map T.d ++ ts) x (.d d0) _ ok (PostG.mono (PostG.bind q) fun _ ρ1 p1 σ1 H1 so ok1 => ?_)
      exact d' B σ1 H1 ρ1 ws ts xs ds Q (by simpa using l1) (by simpa using l2) ok1 (PostG.mono p1 fun _ ρ2 p2 σ2 H2 so2 ok2 => p2 σ2 H2 (so.trans so2) ok2)
theorem dg_tup {es : List Expr} {k n : Nat} {S : List Nat} {gs : List (T → M Unit)} (hc : X.calm = true) (h : DGs X w es S gs) (hn : (assignEach es X.env).length = n := by rfl) (hgn : gs.length = n := by rfl) (hst : (assignEach es X.env).findIdx? (·.1) = none := by rfl) : DG X w (.Tuple es k pos) S (mtup gs) := by
  obtain ⟨t, p, d⟩ := h.ex
  refine ⟨_, pg_tup hc p hn hst, fun B σ H ρ ws ts x v Q ok q => ?_⟩
  unfold mtup at q
  split at q
  · rename_i ds
    by_cases hl : ds.length = gs.length
    · rw [if_pos hl] at q
      obtain ⟨I, Fr, Fw, s, r, wz, km⟩ := id ok
      obtain ⟨a, vs, rfl, ha, dd⟩ := tup_items wz
      refine ⟨a, vs, rfl, st_mono s.sub ha, by rw [dd.len, hl, hgn], ?_⟩
      refine d B σ H ρ ws ts vs ds Q dd.len hl ?_ q
      obtain ⟨I', Fr', Fw', s', r', w', km'⟩ := ok
      cases wz with
      | cons a1 b1 =>
        rename_i F1 F2
        obtain ⟨E, q1, q2⟩ := RepTs.append (RepTs.ofD dd (H := H)) b1
        subst q2
        refine ⟨I, Fr, _, s.less (fun a m => ?_) ?_, r, q1, km⟩
        · rcases List.mem_append.mp m with m | m
          · exact List.mem_append_left _ m
          · exact List.mem_append_right _ (List.mem_append_right _ m)
        · exact (List.Sublist.append (List.Sublist.refl _) (List.sublist_append_right _ _)).nodup s.nd
    · rw [if_neg hl] at q
      exact q.elim
  · exact q.elim
end
end DL
end
section
set_option Elab.async false
set_option linter.all false
set_option maxRecDepth 100000
set_option maxHeartbeats 4000000
/-! DLB: the law's own call. -/
namespace DL
open PySem L2 PySem.Spec PyProof.Rows

/-- what the law's def computes of a script is True -/
def Good (g : Fn) (ns : List Int) : Prop := ∃ ρ, g [.scr ns] = .ok (.d (.bool true)) ρ
section
variable {P : Program} {w : World} {K : PySem.W.Frag} {mg mb : Str → Option Value} {k : Nat} {fa a : Addr} {fd : FuncData} {x : Str} {g : Fn} {s : Shared} {us : List Value} {ns : List Int}
abbrev Wish (s : Shared) : Result → Shared → Prop := fun r t => r = .ok (.ret (.bool true)) ∧ OldK s.heap t.heap ∧ t.os = s.os ∧ AllBare t.gens
theorem fnd_script {H : Hp} (hS : SqL K H a (ns.map V.int)) (hgood : Good g ns) : FnD K mg 1 g [.ref a] H (fun v _ => v = .bl true) (fun _ _ _ => False) := by
  obtain ⟨ρ, e⟩ := hgood
  refine ⟨rfl, H, [], [.scr ns], ⟨Same.refl _, Same.refl _, fun b o _ z => z, fun b o z => .inl z, fun b z => (nomatch z), fun b z => (nomatch z), fun b z => (nomatch z), List.nodup_nil⟩, .cons (F := []) (.scr hS) .nil, ?_⟩
  rw [e]
  exact fun y H' ok => Ok.topBl ok
/-- the call, from an abstract heap that has at most the script -/
theorem enter_at (FK : K.In s.heap) (gl : s.heap.Ns mainGlobals mg) (bl : s.heap.Ns builtinsNs mb) (bb : ∀ y : Str, y ≠ "__name__" → mb y = bootBuiltins y) (nl : s.heap.NoLimit) (ng : s.gens = #[])
    (at_ : s.heap.get? a = some { cls := .type "list", data := .seq us.toArray }) (room : Room k callerA)
    (F : ∀ base : Heap, K.In base → base.Ns mainGlobals mg → FnG P w K mg base k fa fd [x] (FnD K mg 1 g)) (bd : ∀ (t : Shared) (u : Value), BindsTo t fd ⟨[u], []⟩ [(x, u)]) (hgood : Good g ns)
    {H : Hp} (only : Only H) (hS : SqL K H a (ns.map V.int)) (hok : HOk P w H s.heap) (hA : ∀ b, H b ≠ none → b = a) (hKa : H a ≠ none → K.lookup a = none) :
    codeAny (model P w) callerA (.call (.ref fa) ⟨[.ref a], []⟩) (Wish s) s := by
  have free : ∀ {b : Addr} {o : Obj}, s.heap.get? b = some o → b ≠ a → (hidT s.heap H).get? b = some o := fun {b o} e n => hidT_get e (by
    cases q : H b with
    | none => rfl
    | some u => exact absurd (hA b (by rw [q]; intro z; cases z)) n)
  have ns_of : ∀ {b : Addr} {mp : Str → Option Value}, s.heap.Ns b mp → (hidT s.heap H).Ns b mp := fun {b mp} z => by
    obtain ⟨o, es, ep, e, d, r⟩ := z
    refine ⟨o, es, ep, free e fun q => ?_, d, r⟩
    subst q
    rw [at_] at e
    cases e
    exact nomatch (show Data.seq us.toArray _ = Data.dict es ep from d)
  have kin' : K.In (hidT s.heap H) := fun b o e => by
    cases q : H b with
    | none => exact hidT_get (FK b o e) q
    | some u =>
      have := hA b (by rw [q]; intro z; cases z)
      subst this
      have z := hKa (by rw [q]; intro z; cases z)
      rw [z] at e
      cases e
  obtain ⟨mc, l1, l2⟩ := nl
  have env : Env0 P w K mg (hidT s.heap H) callerA [] s H := ⟨rfl, ⟨kin', ns_of gl, ⟨mb, ns_of bl, bb⟩, ⟨mc, ns_of l1, l2⟩⟩, fun b o e => of_hidT e, Nat.le_of_eq (hidT_size _ _), trivial, fun b hb => (nomatch (show b ∈ ([] : List Addr) from hb)), hok, .of_eq ng⟩
  have run := (F _ kin' (ns_of gl)).go callerA [] s H ⟨[.ref a], []⟩ [.ref a] [.ref a] (fun v _ => v = .bl true) (fun _ _ _ => False) rfl room env (bd s (.ref a)) (.cons rfl .nil) (fnd_script hS hgood)
  refine codeAny_mono run fun r t h => ?_
  match r, h with
  | .error er, h =>
    have h : L2.CX P w [] H s (fun _ _ _ => False) er t := h
    obtain ⟨_, _, _, _, _, _, _, _, _, _, _, _, z⟩ := h
    exact (show False from z).elim
  | .ok .next, h => exact (show False from h).elim
  | .ok .brk, h => exact (show False from h).elim
  | .ok .cont, h => exact (show False from h).elim
  | .ok (.ret u), h =>
    obtain ⟨v, H', hos, bare, un, ok', ru, q⟩ := h
    have q : v = .bl true := q
    subst q
    cases (show u = Value.bool true from ru)
    refine ⟨rfl, OldK.of_keep fun b o e => ?_, hos, bare⟩
    cases q : H b with
    | none => exact un.keep b o e q (fun z => (nomatch (show b ∈ ([] : List Addr) from z))) (by simp)
    | some u =>
      rcases only b with z | ⟨_, zs, z⟩
      · rw [q] at z
        cases z
      · obtain ⟨e1, _⟩ := hok b _ z
        rw [e] at e1
        cases e1
        exact (ok' b _ (un.frzs b _ _ z)).1
/-- .. of any script -/
theorem enterG (FK : K.In s.heap) (gl : s.heap.Ns mainGlobals mg) (bl : s.heap.Ns builtinsNs mb) (bb : ∀ y : Str, y ≠ "__name__" → mb y = bootBuiltins y) (nl : s.heap.NoLimit) (ng : s.gens = #[])
    (at_ : s.heap.get? a = some { cls := .type "list", data := .seq us.toArray }) (hi : IntsAre us ns) (hl : ns.length ≤ sizeLine) (room : Room k callerA)
    (F : ∀ base : Heap, K.In base → base.Ns mainGlobals mg → FnG P w K mg base k fa fd [x] (FnD K mg 1 g)) (bd : ∀ (t : Shared) (u : Value), BindsTo t fd ⟨[u], []⟩ [(x, u)]) (hgood : Good g ns) :
    codeAny (model P w) callerA (.call (.ref fa) ⟨[.ref a], []⟩) (Wish s) s := by
  have rv := vals_ints hi
  by_cases hk : K.lookup a = none
  · let H : Hp := fun b => if b = a then some (.frz { cls := .type "list", data := .seq us.toArray } (.lst (ns.map V.int))) else none
    have h1 : H a = some (.frz { cls := .type "list", data := .seq us.toArray } (.lst (ns.map V.int))) := if_pos rfl
    have h2 : ∀ b, b ≠ a → H b = none := fun b n => if_neg n
    refine enter_at FK gl bl bb nl ng at_ room F bd hgood (H := H) (fun b => ?_) (.inl (.inr ⟨_, h1⟩)) (fun b u z => ?_) (fun b z => Classical.byContradiction fun n => z (h2 b n)) fun _ => hk
    · by_cases q : b = a
      · subst q
        exact .inr ⟨_, _, h1⟩
      · exact .inl (h2 b q)
    · by_cases q : b = a
      · subst q
        rw [h1] at z
        cases z
        exact ⟨at_, by rw [List.length_map]; exact hl, us, _, rv, at_⟩
      · rw [h2 b q] at z
        cases z
  · obtain ⟨o, e⟩ := Option.ne_none_iff_exists'.mp hk
    have z := FK a o e
    rw [at_] at z
    cases z
    refine enter_at FK gl bl bb nl ng at_ room F bd hgood (H := fun _ => none) (fun _ => .inl rfl) (.inr ⟨_, us.toArray, _, e, rfl, rfl, rfl, ?_, ?_⟩) (fun b u q => ?_) (fun b q => (q rfl).elim) fun q => (q rfl).elim
    · rw [List.size_toArray, hi.length]
      exact hl
    · simpa using rv
    · exact nomatch (show (none : Option HO) = some u from q)
end
/-- the goal behind k_head -/
theorem walkG {l : PySem.W.OpenLaw} {n k : Nat} {q : Program} {loose : List Str} {XP : (Str → Option Value) → Heap → Prop} {YP : World → Heap → Prop} {d : DefRec} {K : Params → PySem.W.Frag} {x : Str} {g : Fn}
    (hn : l.most = some n) (hn2 : n ≤ sizeLine) (hdf : d.params.defaults = []) (room : Room k callerA) (hY : ∀ (w : World) (h : Heap), YP w h → (K w.params).In h)
    (F : ∀ (w : World) (mg : Str → Option Value) (fa : Addr) (h : Heap), (K w.params).In h → h.Ns mainGlobals mg → mg d.name = some (.ref fa) →
      ∃ fd : FuncData, (∀ (s : Shared) (u : Value), BindsTo s fd ⟨[u], []⟩ [(x, u)]) ∧ ∀ base : Heap, (K w.params).In base → base.Ns mainGlobals mg → FnG l.prog w (K w.params) mg base k fa fd [x] (FnD (K w.params) mg 1 g))
    (law : ∀ ns : List Int, ns.length ≤ n → (∀ z ∈ ns, Builtin.Int.intBits z ≤ 1048576) → Good g ns) : PySem.W.WalkO q loose XP YP l.row.toRowW d [] (fun f vs => PySem.call f vs) := by
  refine Att.attach_callB hn hdf fun w s₀ s mg mb fa o pm cd doc a us ns G Y ho hd hcd hmg hobj hi hlen hbits hg => ?_
  obtain ⟨fd, hb, hF⟩ := F w mg fa _ (hY w _ Y) G.T.g hmg
  exact enterG (hY w _ Y) G.T.g G.T.b G.T.builtins G.T.nolimit hg hobj hi (Nat.le_trans hlen hn2) room hF hb (law ns hlen hbits)
end DL
end
section
set_option Elab.async false
set_option linter.all false
set_option maxRecDepth 100000
set_option maxHeartbeats 4000000
/-! DLC: the module's written dicts. -/
namespace DL
open PySem L2

/-! ### tuple(d), d a dict of the text -/
section
variable {prog : Program} {w : World} {A : Around} {E : Value → Shared → Prop} {s : Shared} {o : Obj} {es : Array DictEntry} {ep : Nat} {d : Addr}
theorem new_tuple_raw {Q₁ : Value → Shared → Prop} (hh : A.handled = none) (lo : (d == sysModules) = false) (ho : s.heap.get? d = some o) (hx : o.ExactDict) (hd : o.data = .dict es ep) (hn : es.size ≤ sizeLine)
    (h : ∀ (hp : Heap) (tk : Nat) (acc : Array Value), (∀ b u, s.heap.get? b = some u → hp.get? b = some u) → acc.toList = es.toList.map (·.key) → Q₁ (.ref hp.objs.size) { s with heap := hp.push { cls := .type "tuple", data := .seq acc }, toks := tk }) :
    codeAny (model prog w) A (.call (.builtin "tuple.__new__") ⟨[.type "tuple", .ref d], []⟩) (wants Q₁ E) s := by
  refine codeAny_of_tree ?_
  show wpAny _ A.in1 (checkBuiltinCall "tuple.__new__" ⟨[.type "tuple", .ref d], []⟩ >>= fun _ => again (.builtin "tuple.__new__" ⟨[.type "tuple", .ref d], []⟩)) _ _ s
  refine wpAny_bind (wpAny_of_eq (PySem.F.newCall_tuple_1 _) (wpAny_pure ⟨plainId_quiet PySem.F.plain_tuple_new _, codeAny_builtin PySem.F.entry_tuple_new ?_⟩))
  rw [Around.under_plainId PySem.F.plain_tuple_new _]
  have t1 := sub_tuple_self
  have t2 := init_tuple_lookup
  have t3 := madeHere_tuple
  have t4 : s.TypeIs (.ref d) "dict" := ⟨o, ho, hx.1⟩
  have t5 : A.in1.handled = none := hh
  wp_walk using wpAny_typeOf t4, PySem.W.kdu_collect (A := A.in1) (kdl_raw lo hx hd) t5 ho hn
  intro hp tk acc hk hacc
  show wpAny _ _ (Builtin.Tuple.tupleExact acc.toList.toArray >>= fun v => ret v) _ _ _
  unfold Builtin.Tuple.tupleExact
  have e : acc.toList.toArray = acc := by simp
  rw [e]
  refine wpAny_bind (wpAny_newObj_type (wpAny_pure (h hp tk acc hk ?_)) (by show acc.size ≤ sizeLine; rw [hacc.1]; exact hn))
  apply List.ext_getElem?
  intro i
  rw [List.getElem?_map]
  by_cases hi : i < es.size
  · have hi' : i < acc.size := by rw [hacc.1]; exact hi
    have e1 : acc.toList[i]? = some acc[i] := by simp [hi']
    obtain ⟨en, g1, g2⟩ := hacc.2 i acc[i] (by simp [hi'])
    have e2 : es.toList[i]? = some en := by rw [Array.getElem?_toList]; exact g1
    rw [e1, e2, g2]
    rfl
  · have h1 : acc.toList[i]? = none := by simp [hacc.1]; omega
    have h2 : es.toList[i]? = none := by simp; omega
    rw [h1, h2]
    rfl
end
/-- the keys of a dict of the text, as texts -/
def rKeysT (K : PySem.W.Frag) : List V → Hp → VK → Prop := fun xs H Q => ∃ (d : Addr) (es : Array DictEntry) (n : Nat) (ks : List Str), xs = [.ref d] ∧ K.lookup d = some ⟨.type "dict", none, .dict es n, #[]⟩ ∧ (d == sysModules) = false ∧ es.size ≤ sizeLine ∧
  Vals (ks.map V.str) (es.toList.map (·.key)) ∧ ∀ p, H p = none → Q (.ref p) (upd H p (.tup (ks.map V.str)))
theorem cr_keysT {X : Cx} (hc : X.calm = true) : CallR X (.type "tuple") (rKeysT X.K) := by
  intro pins s σ H xs us Q I r h
  obtain ⟨d, es, n, ks, rfl, hk, lo, hz, hv, q⟩ := h
  obtain rfl := Vals.ref1 r
  have ho := I.kIn d _ hk
  refine callType_codes (Q₁ := fun obj t => t.TypeIs obj "tuple" ∧ EP X pins σ Q obj t) PySem.F.called_tuple (PySem.F.typeCall_tuple_1 _) PySem.F.entry_object_init
    (new_tuple_raw (A := X.A.in1) (I.ok.hd hc) lo ho ⟨rfl, rfl, rfl⟩ rfl hz fun hp tk acc keep hacc => ⟨⟨_, Heap.get?_push_size _ rfl, rfl⟩, ?_⟩) fun obj t ht => ?_
  · have I1 : Inv X pins σ H { s with heap := hp } := I.kept (t' := s.toks) keep
    have hv' : Vals (ks.map V.str) acc.toList := by rw [hacc]; exact hv
    refine ⟨.ref hp.objs.size, _, I1.laid (t' := tk) (o := .tup (ks.map V.str)) (fun b u e => Heap.get?_push_of_some _ e) (Nat.le_refl _) ?_, rfl, q _ (I1.hok.fresh (Nat.le_refl _))⟩
    refine ⟨?_, acc.toList, hv', ?_⟩
    · rw [hv'.length, hacc, List.length_map, Array.length_toList]
      exact hz
    · rw [Array.toArray_toList]
      exact PyProof.Rows.IsTup.new hp acc
  · exact ⟨ht.1, PySem.F.args_object_init_2 obj _, object_init_meets PySem.F.called_tuple.init.lookup PySem.F.called_tuple.made (by decide) X.prog X.w X.A.in1 _ t ⟨ht.1, rfl, ht.2⟩⟩

/-! ### a dict of the text by its table -/
def tlook (kvs : List (Str × T)) (z : Str) : Option T := (kvs.find? fun p => decide (p.1 = z)).map (·.2)
/-- the entries are the table's -/
inductive TabIs (K : PySem.W.Frag) : List DictEntry → List (Str × T) → Prop
  | nil : TabIs K [] []
  | cons {e : DictEntry} {es : List DictEntry} {z : Str} {t : T} {kvs : List (Str × T)} (k : Tok) (v : V) : e.key = .str z k → RelV v e.val → (∀ I H, RepT K I H v t []) → TabIs K es kvs → TabIs K (e :: es) ((z, t) :: kvs)
theorem TabIs.look {K : PySem.W.Frag} {z : Str} : ∀ {es : List DictEntry} {kvs : List (Str × T)}, TabIs K es kvs → (∀ t, tlook kvs z = some t → ∃ e v, es.find? (·.key.isStr z) = some e ∧ RelV v e.val ∧ ∀ I H, RepT K I H v t []) ∧ (tlook kvs z = none → es.find? (·.key.isStr z) = none) ∧ es.any (·.refKey) = false
  | _, _, .nil => ⟨fun t e => (nomatch e), fun _ => rfl, rfl⟩
  | _, _, .cons (e := en) (z := y) (t := u) k v h1 h2 h3 r => by
    obtain ⟨a, b, c⟩ := TabIs.look (z := z) r
    have hk : en.key.isStr z = decide (y = z) := by
      rw [h1]
      show (y == z) = _
      by_cases q : y = z
      · subst q
        simp
      · rw [decide_eq_false q]
        simpa using q
    by_cases q : y = z
    · have q1 : decide (y = z) = true := decide_eq_true q
      refine ⟨fun t e => ?_, fun e => ?_, ?_⟩
      · have : u = t := by
          simpa [tlook, List.find?_cons, q1] using e
        subst this
        exact ⟨en, v, by rw [List.find?_cons, hk, q1], h2, h3⟩
      · simp [tlook, List.find?_cons, q1] at e
      · rw [List.any_cons, c]
        simp [DictEntry.refKey, h1]
    · have q1 : decide (y = z) = false := decide_eq_false q
      refine ⟨fun t e => ?_, fun e => ?_, ?_⟩
      · obtain ⟨e', v', g1, g2, g3⟩ := a t (by simpa [tlook, List.find?_cons, q1] using e)
        exact ⟨e', v', by rw [List.find?_cons, hk, q1]; exact g1, g2, g3⟩
      · rw [List.find?_cons, hk, q1]
        exact b (by simpa [tlook, List.find?_cons, q1] using e)
      · rw [List.any_cons, c]
        simp [DictEntry.refKey, h1]
theorem TabIs.keys {K : PySem.W.Frag} : ∀ {es : List DictEntry} {kvs : List (Str × T)}, TabIs K es kvs → Vals ((kvs.map (·.1)).map V.str) (es.map (·.key))
  | _, _, .nil => .nil
  | _, _, .cons k v h1 h2 h3 r => .cons ⟨k, h1⟩ (TabIs.keys r)
/-- x names, in the module, the dict of that table -/
structure KTab (X : Cx) (x : Str) (kvs : List (Str × T)) : Prop where
  ex : ∃ (d : Addr) (es : Array DictEntry) (n : Nat), X.mg x = some (.ref d) ∧ KDict X.K X.w d es n ∧ TabIs X.K es.toList kvs ∧ es.size ≤ sizeLine
theorem ns_some {K : PySem.W.Frag} {w : World} {d : Addr} {es : Array DictEntry} {n : Nat} {kvs : List (Str × T)} {z : Str} {t : T} (D : KDict K w d es n) (T0 : TabIs K es.toList kvs) (h : tlook kvs z = some t) : ∃ u v, PySem.W.nsIn K d z = some (some u) ∧ RelV v u ∧ ∀ I H, RepT K I H v t [] := by
  obtain ⟨e, v, g1, g2, g3⟩ := (T0.look (z := z)).1 t h
  refine ⟨e.val, v, ?_, g2, g3⟩
  unfold PySem.W.nsIn
  rw [D.at_]
  simp only [g1]
theorem ns_none {K : PySem.W.Frag} {w : World} {d : Addr} {es : Array DictEntry} {n : Nat} {kvs : List (Str × T)} {z : Str} (D : KDict K w d es n) (T0 : TabIs K es.toList kvs) (h : tlook kvs z = none) : PySem.W.nsIn K d z = some none := by
  obtain ⟨_, g, c⟩ := T0.look (z := z)
  unfold PySem.W.nsIn
  rw [D.at_]
  simp only [g h, c]
  rfl
section
variable {X : Cx} {w : Wd} {x : Str} {kvs : List (Str × T)} {e : Expr} {fe : M T} {p p2 pos : Pos}
def gKin (kvs : List (Str × T)) (neg : Bool) : T → Option T
  | .d (.str z) => some (.d (.bool (if neg then !(tlook kvs z).isSome else (tlook kvs z).isSome)))
  | _ => none
def dkin (kvs : List (Str × T)) (neg : Bool) (fe : M T) : M T := mbind fe fun t => mopt (gKin kvs neg t)
theorem kin_val {K : PySem.W.Frag} {w : World} {d : Addr} {es : Array DictEntry} {n : Nat} {z : Str} (D : KDict K w d es n) (T0 : TabIs K es.toList kvs) : ∃ r, PySem.W.nsIn K d z = some r ∧ r.isSome = (tlook kvs z).isSome := by
  cases h : tlook kvs z with
  | some t =>
    obtain ⟨u, v, g, _⟩ := ns_some D T0 h
    exact ⟨_, g, rfl⟩
  | none => exact ⟨_, ns_none D T0 h, rfl⟩
theorem de_kin (D : KTab X x kvs) (he : DE X w e fe) (hg : Gl X x := by rfl) (hd : (x == ("__debug__" : Str)) = false := by decide) (hm : behindInMarks .In (.Name x p) = false := by with_unfolding_all rfl) : DE X w (.Compare e [.In] [.Name x p] pos) (dkin kvs false fe) := by
  obtain ⟨t, pt, dt⟩ := he.ex
  obtain ⟨d, es, n, m1, m2, m3, m4⟩ := D.ex
  refine de_v (pe_cmpR (op_in_kd m2) pt (pe_glob (v := .ref d) hg m1 rfl hd) hm) fun B σ H ρ ws ts Q ok q => ?_
  refine dt B σ H ρ ws ts _ ok (q.bind.mono fun v ρ1 p1 y H1 ok1 => ?_)
  obtain ⟨z, e1, p2⟩ := p1.opt
  unfold gKin at e1
  split at e1
  · cases e1
    have hy := ok1.topStr
    subst hy
    rename_i z
    obtain ⟨r, r1, r2⟩ := kin_val (z := z) m2 m3
    refine ⟨z, r, rfl, rfl, r1, ?_⟩
    rw [r2]
    exact p2 _ _ ok1.pop.bl
  · cases e1
theorem de_knotin (D : KTab X x kvs) (he : DE X w e fe) (hg : Gl X x := by rfl) (hd : (x == ("__debug__" : Str)) = false := by decide) (hm : behindInMarks .NotIn (.Name x p) = false := by with_unfolding_all rfl) : DE X w (.Compare e [.NotIn] [.Name x p] pos) (dkin kvs true fe) := by
  obtain ⟨t, pt, dt⟩ := he.ex
  obtain ⟨d, es, n, m1, m2, m3, m4⟩ := D.ex
  refine de_v (pe_cmpR (op_notIn_kd m2) pt (pe_glob (v := .ref d) hg m1 rfl hd) hm) fun B σ H ρ ws ts Q ok q => ?_
  refine dt B σ H ρ ws ts _ ok (q.bind.mono fun v ρ1 p1 y H1 ok1 => ?_)
  obtain ⟨z, e1, p2⟩ := p1.opt
  unfold gKin at e1
  split at e1
  · cases e1
    have hy := ok1.topStr
    subst hy
    rename_i z
    obtain ⟨r, r1, r2⟩ := kin_val (z := z) m2 m3
    refine ⟨z, r, rfl, rfl, r1, ?_⟩
    rw [r2]
    exact p2 _ _ ok1.pop.bl
  · cases e1
theorem dt_cmpV {a : Expr} {f : M T} {ops : List CmpOp} {bs : List Expr} (he : DE X w (.Compare a ops bs pos) f) (h : ∀ {t : TE}, PE X (.Compare a ops bs pos) t → PT X (.Compare a ops bs pos) (tTest t)) : DT X w (.Compare a ops bs pos) (dval f) := by
  obtain ⟨ta, pa, da⟩ := he.ex
  refine ⟨_, h pa, fun B σ H ρ ws ts Q ok p => ?_⟩
  refine da B σ H ρ ws ts _ ok (p.bind.mono fun v ρ1 p1 x H1 ok1 => ?_)
  cases v with
  | d x =>
    cases x with
    | bool b =>
      have ex := ok1.topBl
      subst ex
      exact ⟨b, rfl, p1 _ ok1.pop⟩
    | _ => exact p1.elim
  | _ => exact p1.elim
theorem dt_kin (D : KTab X x kvs) (he : DE X w e fe) (hg : Gl X x := by rfl) (hd : (x == ("__debug__" : Str)) = false := by decide) (hm : behindInMarks .In (.Name x p) = false := by with_unfolding_all rfl) : DT X w (.Compare e [.In] [.Name x p] pos) (dval (dkin kvs false fe)) := by
  obtain ⟨t, pt, dt⟩ := he.ex
  obtain ⟨d, es, n, m1, m2, m3, m4⟩ := D.ex
  refine ⟨_, pt_cmpR (op_in_kd m2) pt (pe_glob (v := .ref d) hg m1 rfl hd) hm, fun B σ H ρ ws ts Q ok q => ?_⟩
  refine dt B σ H ρ ws ts _ ok ((PostG.bind (PostG.bind q)).mono fun v ρ1 p1 y H1 ok1 => ?_)
  obtain ⟨z, e1, p2⟩ := p1.opt
  unfold gKin at e1
  split at e1
  · cases e1
    have hy := ok1.topStr
    subst hy
    rename_i z
    obtain ⟨r, r1, r2⟩ := kin_val (z := z) m2 m3
    exact ⟨z, r, rfl, rfl, r1, _, rfl, by rw [r2]; exact p2 _ ok1.pop⟩
  · cases e1
/-- NAME[e] -/
def gKix (kvs : List (Str × T)) : T → Option T
  | .d (.str z) => tlook kvs z
  | _ => none
def dkix (kvs : List (Str × T)) (fe : M T) : M T := mbind fe fun t => mopt (gKix kvs t)
theorem de_kix (D : KTab X x kvs) (he : DE X w e fe) (hs : PlainIx e := by exact fun _ _ => rfl) (hg : Gl X x := by rfl) (hd : (x == ("__debug__" : Str)) = false := by decide) : DE X w (.Subscript (.Name x p) e pos) (dkix kvs fe) := by
  obtain ⟨t, pt, dt⟩ := he.ex
  obtain ⟨d, es, n, m1, m2, m3, m4⟩ := D.ex
  refine de_v (pe_ix ix_kdict (pe_glob (v := .ref d) hg m1 rfl hd) pt hs) fun B σ H ρ ws ts Q ok q => ?_
  show t σ H _
  refine dt B σ H ρ ws ts _ ok (q.bind.mono fun v ρ1 p1 y H1 ok1 => ?_)
  obtain ⟨z, e1, p2⟩ := p1.opt
  unfold gKix at e1
  split at e1
  · have hy := ok1.topStr
    subst hy
    rename_i z0
    obtain ⟨u, v0, g1, g2, g3⟩ := ns_some m2 m3 e1
    refine ⟨d, z0, v0, rfl, rfl, ⟨es, n, u, m2.at_, m2.lit, g1, g2⟩, p2 _ _ ?_⟩
    obtain ⟨I, Fr, Fw, s, r, wz, km⟩ := ok1.pop
    exact ⟨I, Fr, Fw, s, r, .cons (F := []) (g3 _ _) wz, km⟩
  · cases e1
/-- tuple(NAME) -/
theorem de_ktup (at_ : X.calm = true) (D : KTab X x kvs) (hm : NoG X "tuple") (hg : Gl X x := by rfl) (hgt : Gl X "tuple" := by rfl) (hd : (x == ("__debug__" : Str)) = false := by decide)
    (he : starEach [.Name x p2] X.env = (false, eval (.Name x p2) X.env) :: starEach [] X.env := by rfl) (hpl : (backTo pos (starEach [] X.env)).any (·.1) = false := by rfl) :
    DE X w (.Call (.Name "tuple" p) [.Name x p2] [] pos) (mret (.d (.tuple (kvs.map fun q => .str q.1)))) := by
  obtain ⟨d, es, n, m1, m2, m3, m4⟩ := D.ex
  refine de_v (pe_callTy (cr_keysT at_) hgt hm (by first | exact PySem.boot_tuple | decide +kernel) (pa_cons (pe_glob (v := .ref d) hg m1 rfl hd) pa_nil he) (by decide) (by decide) he hpl) fun B σ H ρ ws ts Q ok q => ?_
  refine ⟨d, es, n, kvs.map (·.1), rfl, m2.at_, m2.low, m4, m3.keys, fun l hl => q _ _ (ok.newTup hl fun I Fw sb w' => ?_)⟩
  have := drAll_strs (K := X.K) (I := I) (kvs.map (·.1))
  rw [List.map_map (g := PyData.str)] at this
  exact this
end
end DL
end
section
set_option Elab.async false
set_option linter.all false
set_option maxRecDepth 100000
set_option maxHeartbeats 4000000
/-! DLD: a, *b = t; zip; a function that a slot holds. -/
namespace DL
open PySem L2 PySem.W

/-! ### a, *rest = t -/
section
variable {prog : Program} {w : World} {A : Around} {E : Value → Shared → Prop} {s : Shared} {l : Addr} {its : Array Value} {k : Nat} {Q : List Value → Shared → Prop}
abbrev pushL (h : Heap) (vs : List Value) : Heap := h.push { cls := .type "list", data := .seq vs.toArray }
theorem new_rest {vs : List Value} {h : Heap} {tk : Nat} {fst : List Value} (hz : vs.length ≤ sizeLine) (q : Q (fst ++ [.ref h.objs.size]) { s with heap := pushL h vs, toks := tk }) :
    wpAny (model prog w) A (newList vs >>= fun d => pure (fst ++ [d] ++ [])) Q E { s with heap := h, toks := tk } := by
  refine wpAny_bind (wpAny_newObj_type (wpAny_pure ?_) (by show vs.toArray.size ≤ sizeLine; simpa using hz))
  rw [List.append_nil]
  exact q
theorem star_fin {fst rest : List Value} {h : Heap} {tk : Nat} (hz : rest.length ≤ sizeLine) (q : Q (fst ++ [.ref h.objs.size]) { s with heap := pushL h rest, toks := tk }) (n : Nat) (hn : n = 0) :
    wpAny (model prog w) A (newList (rest.take (rest.length - n)) >>= fun d => pure (fst ++ [d] ++ rest.drop (rest.length - n))) Q E { s with heap := h, toks := tk } := by
  subst hn
  have e1 : rest.take (rest.length - 0) = rest := by simp
  have e2 : rest.drop (rest.length - 0) = [] := by simp
  rw [e1, e2]
  exact new_rest hz q
theorem star_tup (ht : PyProof.Rows.IsTup s.heap l its) (hh : A.handled = none) (hk : k ≤ its.size) (hz : its.size ≤ sizeLine)
    (q : ∀ h tk, (∀ b o, s.heap.get? b = some o → h.get? b = some o) → Q (its.toList.take k ++ [.ref h.objs.size]) { s with heap := pushL h (its.toList.drop k), toks := tk }) : wpAny (model prog w) A (unpackItems (.ref l) (k + 1) (some k)) Q E s := by
  obtain ⟨o, ho, ho2⟩ := id ht
  have lt : l < s.heap.objs.size := Heap.lt_size ho
  have ne : l ≠ s.heap.objs.size := Nat.ne_of_lt lt
  unfold unpackItems notIterableAtAll
  refine wpAny_bind (wpAny_bind (wpAny_specialOf ht.typeIs PyProof.Rows.slot_tuple_iter.lookup (wpAny_pure ?_)))
  simp only [Bool.false_eq_true, if_false]
  refine wpAny_bind (wpAny_holding (PyProof.Rows.iter_tuple ht ?_))
  refine wpAny_bind (wpAny_holding (PyProof.Rows.draw_tuple ne k 0 _ _ ⟨_, Heap.get?_push_size _ rfl, rfl, rfl⟩ (ht.push _) (by omega) fun h1 it1 sb => ?_))
  have ht1 : PyProof.Rows.IsTup h1 l its := (ht.push _).extBut sb.extBut ne
  rw [Nat.zero_add] at it1
  obtain ⟨oi, g1, _⟩ := id it1
  obtain ⟨ol, g2, _⟩ := id ht1
  have e0 : (its.toList.drop 0).take k = its.toList.take k := by rw [List.drop_zero]
  rw [e0]
  have e1 : ¬ (its.toList.take k).length < k := by rw [List.length_take, Array.length_toList]; omega
  rw [if_neg e1]
  refine wpAny_bind (wpAny_holding (kun_collect (s := { s with heap := h1 }) (T := "tuple_iterator") (.inr (.inr (.inr rfl))) (Walks.tuple (A := A.in1) hh s.heap.objs.size l ne its) (fun j u st => st.1.typeIs) hk ⟨it1, ht1⟩ (Heap.lt_size g1) (Heap.lt_size g2) (fun h2 tk kp => ?_) hz))
  have e2 : ¬ (its.toList.drop k).length < k + 1 - 1 - k := by omega
  show wpAny _ _ (if (its.toList.drop k).length < k + 1 - 1 - k then _ else _) _ _ _
  rw [if_neg e2]
  refine star_fin (n := k + 1 - 1 - k) (s := s) (by rw [List.length_drop, Array.length_toList]; omega) (q h2 tk fun b ob e => ?_) (by omega)
  exact kp b ob (Nat.ne_of_lt (Heap.lt_size e)) (sb.extBut b ob (Nat.ne_of_lt (Heap.lt_size e)) (Heap.get?_push_of_some _ e))
theorem star_lst (ht : s.heap.IsList l its) (hh : A.handled = none) (hk : k ≤ its.size) (hz : its.size ≤ sizeLine)
    (q : ∀ h tk, (∀ b o, s.heap.get? b = some o → h.get? b = some o) → Q (its.toList.take k ++ [.ref h.objs.size]) { s with heap := pushL h (its.toList.drop k), toks := tk }) : wpAny (model prog w) A (unpackItems (.ref l) (k + 1) (some k)) Q E s := by
  obtain ⟨o, ho, ho2⟩ := id ht
  have lt : l < s.heap.objs.size := Heap.lt_size ho
  have ne : l ≠ s.heap.objs.size := Nat.ne_of_lt lt
  unfold unpackItems notIterableAtAll
  refine wpAny_bind (wpAny_bind (wpAny_specialOf ht.typeIs slot_list_iter.lookup (wpAny_pure ?_)))
  simp only [Bool.false_eq_true, if_false]
  refine wpAny_bind (wpAny_holding (wpAny_pyIter_list ht ?_))
  refine wpAny_bind (wpAny_holding (kun_draw ne k 0 _ _ ⟨_, Heap.get?_push_size _ rfl, rfl, rfl⟩ (ht.push _) (by omega) fun h1 it1 sb => ?_))
  have ht1 : h1.IsList l its := (ht.push _).extBut sb.extBut ne
  rw [Nat.zero_add] at it1
  obtain ⟨oi, g1, _⟩ := id it1
  obtain ⟨ol, g2, _⟩ := id ht1
  have e0 : (its.toList.drop 0).take k = its.toList.take k := by rw [List.drop_zero]
  rw [e0]
  have e1 : ¬ (its.toList.take k).length < k := by rw [List.length_take, Array.length_toList]; omega
  rw [if_neg e1]
  refine wpAny_bind (wpAny_holding (kun_collect (s := { s with heap := h1 }) (T := "list_iterator") (.inr (.inr (.inl rfl))) (Walks.list (A := A.in1) hh s.heap.objs.size l ne its) (fun j u st => st.1.typeIs) hk ⟨it1, ht1⟩ (Heap.lt_size g1) (Heap.lt_size g2) (fun h2 tk kp => ?_) hz))
  have e2 : ¬ (its.toList.drop k).length < k + 1 - 1 - k := by omega
  show wpAny _ _ (if (its.toList.drop k).length < k + 1 - 1 - k then _ else _) _ _ _
  rw [if_neg e2]
  refine star_fin (n := k + 1 - 1 - k) (s := s) (by rw [List.length_drop, Array.length_toList]; omega) (q h2 tk fun b ob e => ?_) (by omega)
  exact kp b ob (Nat.ne_of_lt (Heap.lt_size e)) (sb.extBut b ob (Nat.ne_of_lt (Heap.lt_size e)) (Heap.get?_push_of_some _ e))
end
def gStar (K : PySem.W.Frag) (k : Nat) (t : TGs) : TG := fun v σ H Q => ∃ a xs, v = .ref a ∧ (SqL K H a xs ∨ SqT K H a xs) ∧ k ≤ xs.length ∧ ∀ p, H p = none → t (xs.take k ++ [.ref p]) σ (upd H p (.lst (xs.drop k))) Q
section
variable {X : Cx} {w : Wd} {pos : Pos}
theorem pg_star {es : List Expr} {k kk : Nat} {t : TGs} (hc : X.calm = true) (h : PGs X es t) (hn : (assignEach es X.env).length = k + 1 := by rfl) (hst : (assignEach es X.env).findIdx? (·.1) = some k := by rfl) : PG X (.Tuple es kk pos) (gStar X.K k t) := by
  refine ⟨fun pins s σ H v u Q I r hw => ?_⟩
  obtain ⟨a, xs, rfl, hq, hl, hw⟩ := hw
  cases r
  have goal : ∀ its : List Value, Vals xs its → ∀ h' tk, (∀ b o, s.heap.get? b = some o → h'.get? b = some o) → xs.length ≤ sizeLine →
      wpAny (model X.prog X.w) X.A (assignInOrder ((assignEach es X.env).map (·.2)) (its.take k ++ [.ref h'.objs.size])) (fun _ s' => ∃ σ' H', Inv X pins σ' H' s' ∧ Q σ' H') X.xe { s with heap := pushL h' (its.drop k), toks := tk } := fun its rv h' tk kp hz => by
    have I1 : Inv X pins σ H { s with heap := h' } := I.kept (t' := s.toks) kp
    have I2 : Inv X pins σ (upd H h'.objs.size (.lst (xs.drop k))) { s with heap := pushL h' (its.drop k), toks := tk } := I1.lnew (t' := tk) (Vals.drop k rv) (by rw [List.length_drop]; omega)
    exact h.run pins _ σ _ _ _ Q I2 (Vals.append (Vals.take k rv) (.cons (show RelV (.ref h'.objs.size) (.ref h'.objs.size) from rfl) .nil)) (hw _ (I1.hok.fresh (Nat.le_refl _)))
  rw [PyProof.Rows.assign_Tuple]
  refine wpAny_bind (wpAny_standAt ?_)
  unfold unpack
  rw [hn, hst]
  rcases hq with hq | hq
  · obtain ⟨its, rv, pl, hz⟩ := I.list hq
    have hle := rv.length
    exact wpAny_bind (wpAny_holding (star_lst pl.isList (I.ok.hd hc) (by simp only [List.size_toArray]; omega) (by simp only [List.size_toArray]; omega) fun h' tk kp => goal its rv h' tk kp hz))
  · obtain ⟨its, rv, pl, hz⟩ := I.tuple hq
    have hle := rv.length
    exact wpAny_bind (wpAny_holding (star_tup pl (I.ok.hd hc) (by simp only [List.size_toArray]; omega) (by simp only [List.size_toArray]; omega) fun h' tk kp => goal its rv h' tk kp hz))
theorem pgs_star {e : Expr} {es : List Expr} {p : Pos} {t : TG} {u : TGs} (h1 : PG X e t) (h2 : PGs X es u) (hs : (assignEach (.Starred e p :: es) X.env).map (·.2) = assign e X.env :: (assignEach es X.env).map (·.2) := by rfl) : PGs X (.Starred e p :: es) (gCons t u) := by
  refine ⟨fun pins s σ H vs us Q I r h => ?_⟩
  obtain ⟨v, vr, rfl, h⟩ := h
  cases r with
  | cons r0 rr =>
    rw [hs]
    exact PyProof.Rows.assignInOrder_cons (thn (h1.run pins s σ H v _ _ I r0 h) fun _ s1 ⟨σ1, H1, I1, q1⟩ => h2.run pins s1 σ1 H1 vr _ Q I1 rr q1)
theorem dgs_star {e : Expr} {es : List Expr} {p : Pos} {S S' : List Nat} {g : T → M Unit} {gs : List (T → M Unit)} (h : DG X w e S g) (h' : DGs X w es S' gs) (hs : (assignEach (.Starred e p :: es) X.env).map (·.2) = assign e X.env :: (assignEach es X.env).map (·.2) := by rfl) : DGs X w (.Starred e p :: es) (S ++ S') (g :: gs) := by
  obtain ⟨t, p, d⟩ := h.ex
  obtain ⟨t', p', d'⟩ := h'.ex
  refine ⟨_, pgs_star p p' hs, fun B σ H ρ ws ts xs ds Q l1 l2 ok q => ?_⟩
  cases ds with
  | nil => cases l2
  | cons d0 ds =>
    cases xs with
    | nil => cases l1
    | cons x xs =>
      refine ⟨x, xs, rfl, ?_⟩
      refine d B σ H ρ (xs ++ ws) (ds.map T.d ++ ts) x (.d d0) _ ok (PostG.mono (PostG.bind q) fun _ ρ1 p1 σ1 H1 so ok1 => ?_)
      exact d' B σ1 H1 ρ1 ws ts xs ds Q (by simpa using l1) (by simpa using l2) ok1 (PostG.mono p1 fun _ ρ2 p2 σ2 H2 so2 ok2 => p2 σ2 H2 (so.trans so2) ok2)
def starItems (k : Nat) (ds : List PyData) : List PyData := ds.take k ++ [.list (ds.drop k)]
def mstar (k : Nat) (gs : List (T → M Unit)) : T → M Unit
  | .d (.tuple ds) => if k ≤ ds.length then mgs gs (starItems k ds) else mno
  | .d (.list ds) => if k ≤ ds.length then mgs gs (starItems k ds) else mno
  | _ => mno
theorem Ok.star {K : PySem.W.Frag} {m : List Bool} {B : Bs} {σ : L2.St} {H : Hp} {ρ : Rho} {ws : List V} {ts : List T} {x : V} {t : T} {vs : List V} {ds : List PyData} {k : Nat} {p : Addr} {I : Hp} {Fr Fw : List Addr}
    (s : Sit B I H (Fr ++ Fw)) (r : RepR K I H σ ρ Fr) (wz : RepTs K I H (x :: ws) (.d t0 :: ts) Fw) (km : Kept m B σ) (dd : DrAll K I vs ds) (hp : H p = none) :
    Ok K m B σ (upd H p (.lst (vs.drop k))) ρ ((vs.take k ++ [.ref p]) ++ ws) ((starItems k ds).map T.d ++ ts) := by
  have hI := (s.fresh hp).2.1
  have sm : Same I (upd I p (.lst (vs.drop k))) := fun a u e => by rw [upd_ne (ne_of_none e hI)]; exact e
  have nf : ∀ a ∈ Fr ++ Fw, (upd H p (.lst (vs.drop k))) a = H a := fun a z => upd_ne (show a ≠ p from fun e => s.thr a z (by rw [e]; exact hp))
  have dd' := drAll_mono sm dd
  have all : DrAll K (upd I p (.lst (vs.drop k))) (vs.take k ++ [.ref p]) (starItems k ds) := (dd'.take k).append (.cons (.lst upd_same (dd'.drop k)) .nil)
  have w' := wz.mono (H' := upd H p (.lst (vs.drop k))) sm fun a z => nf a (List.mem_append_right _ z)
  cases w' with
  | cons a1 b1 =>
    cases a1 with
    | d a1 =>
      obtain ⟨E, q1, q2⟩ := RepTs.append (RepTs.ofD all (H := upd H p (.lst (vs.drop k)))) b1
      subst q2
      exact ⟨_, Fr, _, s.newD hp, r.mono sm fun a z => nf a (List.mem_append_left _ z), q1, km⟩
theorem dg_star {es : List Expr} {k kk : Nat} {S : List Nat} {gs : List (T → M Unit)} (hc : X.calm = true) (h : DGs X w es S gs) (hn : (assignEach es X.env).length = k + 1 := by rfl) (hgn : gs.length = k + 1 := by rfl) (hst : (assignEach es X.env).findIdx? (·.1) = some k := by rfl) : DG X w (.Tuple es kk pos) S (mstar k gs) := by
  obtain ⟨t, p, d⟩ := h.ex
  refine ⟨_, pg_star hc p hn hst, fun B σ H ρ ws ts x v Q ok q => ?_⟩
  have len : ∀ ds : List PyData, k ≤ ds.length → (starItems k ds).length = k + 1 := fun ds hl => by
    unfold starItems
    rw [List.length_append, List.length_take]
    simp
    omega
  unfold mstar at q
  split at q
  · rename_i ds
    by_cases hl : k ≤ ds.length
    · rw [if_pos hl] at q
      obtain ⟨I, Fr, Fw, s, r, wz, km⟩ := ok
      obtain ⟨a, vs, rfl, ha, dd⟩ := tup_items wz
      have hv := dd.len
      refine ⟨a, vs, rfl, .inr (st_mono s.sub ha), by omega, fun p hp => ?_⟩
      refine d B σ _ ρ ws ts _ (starItems k ds) Q ?_ (by rw [len ds hl, hgn]) (Ok.star (t := .d .none) s r wz km dd hp) q
      rw [len ds hl, List.length_append, List.length_take]
      simp
      omega
    · rw [if_neg hl] at q
      exact q.elim
  · rename_i ds
    by_cases hl : k ≤ ds.length
    · rw [if_pos hl] at q
      obtain ⟨I, Fr, Fw, s, r, wz, km⟩ := ok
      obtain ⟨a, vs, rfl, ha, dd⟩ := lst_items wz
      have hv := dd.len
      refine ⟨a, vs, rfl, .inl (SqL.of (s.sub _ _ ha)), by omega, fun p hp => ?_⟩
      refine d B σ _ ρ ws ts _ (starItems k ds) Q ?_ (by rw [len ds hl, hgn]) (Ok.star (t := .d .none) s r wz km dd hp) q
      rw [len ds hl, List.length_append, List.length_take]
      simp
      omega
    · rw [if_neg hl] at q
      exact q.elim
  · exact q.elim
end
end DL
end
section
set_option Elab.async false
set_option linter.all false
set_option maxRecDepth 100000
set_option maxHeartbeats 4000000
/-! DLE: zip of a tuple and a list; zip as what is walked. -/
namespace DL
open PySem L2 PySem.Spec

/-! ### the iterator of zip(t, l) -/
abbrev zmH1 (h : Heap) (a : Addr) : Heap := h.push { cls := .type "tuple_iterator", data := .fields #[.ref a, .int 0 0] }
abbrev zmH2 (h : Heap) (a b : Addr) : Heap := (zmH1 h a).push { cls := .type "list_iterator", data := .fields #[.ref b, .int 0 0] }
abbrev zmH3 (h : Heap) (a b : Addr) : Heap := (zmH2 h a b).push { cls := .type "tuple", data := .seq #[.ref h.objs.size, .ref (zmH1 h a).objs.size] }
abbrev zmH4 (h : Heap) (a b : Addr) : Heap := (zmH3 h a b).push { cls := .type "tuple", data := .seq #[.none, .none] }
abbrev zmH5 (h : Heap) (a b : Addr) : Heap := (zmH4 h a b).push { cls := .type "zip", data := .fields #[.none, .bool false, .bool false, .ref (zmH2 h a b).objs.size, .ref (zmH3 h a b).objs.size] }
theorem zm_new (a b : Addr) (xs ys : Array Value) : Meets (Builtin.«zip.__new__» ⟨[.type "zip", .ref a, .ref b], []⟩)
    (fun _ R s => s.heap.IsTuple a xs ∧ s.heap.IsList b ys ∧ R (.ok (.ret (.ref (zmH4 s.heap a b).objs.size))) { s with heap := zmH5 s.heap a b }) :=
  .of_wp fun prog w A R s h => by
    obtain ⟨hp, g, d, tk, os⟩ := s
    obtain ⟨ha, hb, h⟩ := h
    have z0 := sub_zip
    have z1 : Heap.IsTuple (Shared.heap ⟨hp, g, d, tk, os⟩) a xs := ha
    have z2 : Heap.IsList (Shared.heap ⟨hp.push { cls := .type "tuple_iterator", data := .fields #[.ref a, .int 0 0] }, g, d, tk, os⟩) b ys := Heap.IsList.push hb _
    wp_walk using wpAny_pyIter_tuple z1, wpAny_pyIter_list z2
    exact ⟨_, rfl, h⟩
section
variable {prog : Program} {w : World} {A : Around} {E : Value → Shared → Prop} {s : Shared}
/-- what zip(t, l) has laid at n, n + 1, .. -/
structure ZmAt (h : Heap) (n a b : Addr) : Prop where
  z : IsZip h (n + 4) (n + 2) (n + 3) .none
  ti : IsPair h (n + 2) (.ref n) (.ref (n + 1))
  to : IsPair h (n + 3) .none .none
  i1 : h.IsTupleIter n a 0
  i2 : h.IsListIter (n + 1) b 0
theorem call_zm {a b : Addr} {xs ys : Array Value} {Q : Value → Shared → Prop} (ha : s.heap.IsTuple a xs) (hb : s.heap.IsList b ys)
    (q : ∀ h, ZmAt h s.heap.objs.size a b → (∀ c o, s.heap.get? c = some o → h.get? c = some o) → Q (.ref (s.heap.objs.size + 4)) { s with heap := h }) : wpAny (model prog w) A (call (.type "zip") [.ref a, .ref b]) Q E s := by
  refine callType_new PySem.F.called_zip (by decide) (PySem.F.typeCall_zip_2 _ _) (PySem.F.newCall_zip_2 _ _) (fun obj => PySem.F.args_object_init_3 obj _ _) PySem.F.entry_zip_new (zm_new a b xs ys) ⟨ha, hb, ?_⟩
  have e1 : (zmH1 s.heap a).objs.size = s.heap.objs.size + 1 := Heap.size_push ..
  have e2 : (zmH2 s.heap a b).objs.size = s.heap.objs.size + 2 := by rw [Heap.size_push, e1]
  have e3 : (zmH3 s.heap a b).objs.size = s.heap.objs.size + 3 := by rw [Heap.size_push, e2]
  have e4 : (zmH4 s.heap a b).objs.size = s.heap.objs.size + 4 := by rw [Heap.size_push, e3]
  have up : ∀ c o, (zmH4 s.heap a b).get? c = some o → (zmH5 s.heap a b).get? c = some o := fun c o x => Heap.get?_push_of_some _ x
  have up3 : ∀ c o, (zmH3 s.heap a b).get? c = some o → (zmH5 s.heap a b).get? c = some o := fun c o x => up c o (Heap.get?_push_of_some _ x)
  have up2 : ∀ c o, (zmH2 s.heap a b).get? c = some o → (zmH5 s.heap a b).get? c = some o := fun c o x => up3 c o (Heap.get?_push_of_some _ x)
  have up1 : ∀ c o, (zmH1 s.heap a).get? c = some o → (zmH5 s.heap a b).get? c = some o := fun c o x => up2 c o (Heap.get?_push_of_some _ x)
  have k5 : (zmH5 s.heap a b).get? (zmH4 s.heap a b).objs.size = some _ := Heap.get?_push_size _ rfl
  have k4 := up _ _ (Heap.get?_push_size (zmH3 s.heap a b) (o := { cls := .type "tuple", data := .seq #[.none, .none] }) rfl)
  have k3 := up3 _ _ (Heap.get?_push_size (zmH2 s.heap a b) (o := { cls := .type "tuple", data := .seq #[.ref s.heap.objs.size, .ref (zmH1 s.heap a).objs.size] }) rfl)
  have k2 := up2 _ _ (Heap.get?_push_size (zmH1 s.heap a) (o := { cls := .type "list_iterator", data := .fields #[.ref b, .int 0 0] }) rfl)
  have k1 := up1 _ _ (Heap.get?_push_size s.heap (o := { cls := .type "tuple_iterator", data := .fields #[.ref a, .int 0 0] }) rfl)
  rw [e2, e3, e4] at k5
  rw [e3] at k4
  rw [e1, e2] at k3
  rw [e1] at k2
  show _ ∧ _
  rw [e4]
  exact ⟨⟨_, k5, rfl⟩, q _ ⟨k5, k3, k4, ⟨_, k1, rfl, rfl⟩, ⟨_, k2, rfl, rfl⟩⟩ fun c o x => up1 c o (Heap.get?_push_of_some _ x)⟩
end
/-- the turns: a tuple's item, a list's item, in a new pair -/
def ItzM (K : PySem.W.Frag) (a b : Addr) : It where
  go := fun i H => ∃ xs ys x y, SqT K H a xs ∧ SqL K H b ys ∧ xs[i]? = some x ∧ ys[i]? = some y
  yld := fun i H v H' => ∃ p x y, v = .ref p ∧ H p = none ∧ H' = upd H p (.tup [x, y]) ∧ (∀ xs, SqT K H a xs → xs[i]? = some x) ∧ ∀ ys, SqL K H b ys → ys[i]? = some y
  stop := fun i H => ∃ xs ys, SqT K H a xs ∧ SqL K H b ys ∧ i ≤ xs.length ∧ i ≤ ys.length ∧ (i = xs.length ∨ i = ys.length)
theorem five {c z q1 q2 q3 q4 : Addr} (h : c ∈ [z, q1, q2, q3, q4]) : c = z ∨ c = q1 ∨ c = q2 ∨ c = q3 ∨ c = q4 := by simpa using h
structure Apart5 (z q1 q2 i1 i2 a b : Addr) : Prop where
  sep : ZipSep2 z q1 q2 i1 i2 [i1, a] [i2, b]
  na : a ≠ i1
  nb : b ≠ i2
theorem turn_zm {P : Program} {w : World} {K : PySem.W.Frag} {elts : List Expr} {kk : Nat} {tpos : Pos} {a b z q1 q2 i1 i2 : Addr} (D : Apart5 z q1 q2 i1 i2 a b) :
    Turn P w K (.Tuple elts kk tpos) (ItzM K a b) [z, q1, q2, i1, i2] z (fun i h => IsZip h z q1 q2 .none ∧ IsPair h q1 (.ref i1) (.ref i2) ∧ (∃ x y, IsPair h q2 x y) ∧ h.IsTupleIter i1 a i ∧ h.IsListIter i2 b i) := by
  have S := D.sep
  have nz1 : i1 ≠ z := fun e => S.zf1 (by rw [← e]; exact List.mem_cons_self)
  have nz2 : i2 ≠ z := fun e => S.zf2 (by rw [← e]; exact List.mem_cons_self)
  refine ⟨List.mem_cons_self, fun i h st c hc => ?_, fun i h h' st kp => ?_, ?_, ?_, fun A i s Q E st h => wpAny_pyIter_zip st.1 h⟩
  · obtain ⟨y1, y2, ⟨u, v, y3⟩, ⟨o1, y4, _, d1⟩, ⟨o2, y5, _, d2⟩⟩ := st
    rcases five hc with e | e | e | e | e <;> subst e
    · exact ⟨_, y1, fun v q => (nomatch q)⟩
    · exact ⟨_, y2, fun v q => (nomatch q)⟩
    · exact ⟨_, y3, fun v q => (nomatch q)⟩
    · exact ⟨o1, y4, fun v q => by rw [d1] at q; cases q⟩
    · exact ⟨o2, y5, fun v q => by rw [d2] at q; cases q⟩
  · obtain ⟨y1, y2, ⟨u, v, y3⟩, y4, y5⟩ := st
    exact ⟨kp _ (by simp) _ y1, kp _ (by simp) _ y2, ⟨u, v, kp _ (by simp) _ y3⟩, y4.at fun o q => kp _ (by simp) o q, y5.at fun o q => kp _ (by simp) o q⟩
  · intro X e1 e2 e3 hc i pins s σ H E I hf st hgo
    subst e1 e2 e3
    obtain ⟨y1, y2, ⟨u0, v0, y3⟩, y4, y5⟩ := st
    obtain ⟨xs, ys, x, y, hx, hy, gx, gy⟩ := hgo
    obtain ⟨as, ra, pa, _⟩ := I.tuple hx
    obtain ⟨bs, rb, pb, _⟩ := I.list hy
    obtain ⟨u, gu, ru⟩ := ra.get gx
    obtain ⟨v, gv, rv⟩ := rb.get gy
    have hh : X.A.in1.handled = none := I.ok.hd hc
    have la : i < as.toArray.size := by simpa using (List.getElem?_eq_some_iff.mp gu).1
    have lb : i < bs.toArray.size := by simpa using (List.getElem?_eq_some_iff.mp gv).1
    have zl : z < s.heap.objs.size := Heap.lt_size y1
    refine wpAny_pyNext_zipD2_item S (Draws.tuple hh i1 a D.na as.toArray) (Draws.list hh i2 b D.nb bs.toArray) y1 y2 y3 ⟨y4, pa⟩ ⟨y5, pb.isList⟩ la lb fun u' v' h' tk p1 p2 hz ho s1 s2 hT hsz kp => ?_
    have eu : u' = u := by
      have z : as.toArray[i]? = some u := by simpa using gu
      exact Option.some.inj (p1.symm.trans z)
    have ev : v' = v := by
      have z : bs.toArray[i]? = some v := by simpa using gv
      exact Option.some.inj (p2.symm.trans z)
    subst eu ev
    refine ⟨_, rfl, wpAny_letOwnedTupleGo_zip (s := { s with heap := h', toks := tk }) hz fun h2 hz2 sb => ?_⟩
    have nT : s.heap.objs.size ≠ z := Nat.ne_of_gt zl
    have oT : h2.get? s.heap.objs.size = some { cls := .type "tuple", data := .seq #[u', v'] } := (sb.2 _ nT).trans hT
    have kept : ∀ c o, c ∉ [z, q1, q2, i1, i2] → s.heap.get? c = some o → h2.get? c = some o := fun c o nm g => by
      simp only [List.mem_cons, List.not_mem_nil, or_false, not_or] at nm
      exact (sb.2 c nm.1).trans (kp c o nm.1 nm.2.2.1 nm.2.2.2.1 nm.2.2.2.2 g)
    have I1 : Inv X pins σ (upd H s.heap.objs.size (.tup [x, y])) { s with heap := h2, toks := tk } := I.turnedNew (t' := tk) kept hf (Nat.le_refl _) ⟨by show 2 ≤ sizeLine; decide, [u', v'], .cons ru (.cons rv .nil), ⟨_, oT, rfl, _, rfl⟩⟩
    refine ⟨.ref s.heap.objs.size, _, I1, rfl, ⟨_, x, y, rfl, I.hok.fresh (Nat.le_refl _), rfl, fun l hl => by rw [I.tuple_inj hl hx]; exact gx, fun l hl => by rw [I.list_inj hl hy]; exact gy⟩, ⟨hz2, ?_, ⟨u', v', (sb.2 _ S.TOz).trans ho⟩, s1.1.at fun o q => (sb.2 _ nz1).trans q, s2.1.at fun o q => (sb.2 _ nz2).trans q⟩, fun c hc => ?_⟩
    · exact (sb.2 _ S.TIz).trans (kp _ _ S.TIz S.TITO S.TIi1 S.TIi2 y2)
    · have lt : c < s.heap.objs.size := by
        obtain ⟨o1, y4, _⟩ := y4
        obtain ⟨o2, y5, _⟩ := y5
        rcases five hc with e | e | e | e | e <;> rw [e]
        · exact zl
        · exact Heap.lt_size y2
        · exact Heap.lt_size y3
        · exact Heap.lt_size y4
        · exact Heap.lt_size y5
      rw [upd_ne (Nat.ne_of_lt lt)]
      exact (hf c hc).1
  · intro X e1 e2 e3 hc i pins s σ H E I hf st hst
    subst e1 e2 e3
    obtain ⟨y1, y2, ⟨u0, v0, y3⟩, y4, y5⟩ := st
    obtain ⟨xs, ys, hx, hy, l1, l2, l3⟩ := hst
    obtain ⟨as, ra, pa, _⟩ := I.tuple hx
    obtain ⟨bs, rb, pb, _⟩ := I.list hy
    have hh : X.A.in1.handled = none := I.ok.hd hc
    have m1 := ra.length
    have m2 := rb.length
    refine wpAny_pyNext_zipD2_end S (Draws.tuple hh i1 a D.na as.toArray) (Draws.list hh i2 b D.nb bs.toArray) y1 y2 y3 ⟨y4, pa⟩ ⟨y5, pb.isList⟩ (by simp only [List.size_toArray]; omega) (by simp only [List.size_toArray]; omega) (by simp only [List.size_toArray]; omega) fun h' tk kp => ⟨rfl, ?_⟩
    exact I.turnedL (t' := tk) (fun c o nm g => by
      simp only [List.mem_cons, List.not_mem_nil, or_false, not_or] at nm
      exact kp c o nm.1 nm.2.2.1 nm.2.2.2.1 nm.2.2.2.2 g) hf
theorem nin {x a b : Addr} (h1 : x ≠ a) (h2 : x ≠ b) : x ∉ [a, b] := by simp [h1, h2]
theorem add_ne {n i j : Nat} (h : i ≠ j) : n + i ≠ n + j := fun e => h (Nat.add_left_cancel e)
theorem add_ne0 {n i : Nat} (h : i ≠ 0) : n + i ≠ n := fun e => h (Nat.add_left_cancel (show n + i = n + 0 from e))
theorem above_ne {n a i : Nat} (h : a < n) : n + i ≠ a := Nat.ne_of_gt (Nat.lt_of_lt_of_le h (Nat.le_add_right n i))
theorem apart5 {n a b : Nat} (la : a < n) (lb : b < n) : Apart5 (n + 4) (n + 2) (n + 3) n (n + 1) a b :=
  ⟨⟨add_ne (by decide), add_ne (by decide), add_ne (by decide), add_ne0 (by decide), List.mem_cons_self, nin (add_ne0 (by decide)) (above_ne la), nin (add_ne0 (by decide)) (above_ne la), add_ne (by decide), List.mem_cons_self,
    nin (add_ne (by decide)) (above_ne lb), nin (add_ne (by decide)) (above_ne lb), nin (fun e => add_ne0 (n := n) (i := 1) (by decide) e.symm) (above_ne (i := 0) lb), nin (add_ne0 (by decide)) (above_ne la)⟩, Nat.ne_of_lt la, fun e => above_ne lb e.symm⟩
def iZipM (K : PySem.W.Frag) (ta : TA) : TI := fun σ H R => ta σ H fun vs H1 => ∃ a b xs ys, vs = [.ref a, .ref b] ∧ SqT K H1 a xs ∧ SqL K H1 b ys ∧ R (ItzM K a b) H1
theorem pi_zipM {X : Cx} {e e2 : Expr} {ta : TA} {p pos tpos : Pos} {elts : List Expr} {kk : Nat} (hg : Gl X "zip") (hm : X.mg "zip" = none) (ha : PA X [e, e2] ta)
    (hs : starEach [e, e2] X.env = (false, eval e X.env) :: starEach [e2] X.env := by rfl) (hpl : (backTo pos (starEach [e2] X.env)).any (·.1) = false := by rfl) : PI X (.Tuple elts kk tpos) (.Call (.Name "zip" p) [e, e2] [] pos) (iZipM X.K ta) := by
  refine ⟨fun pins s σ H R I h => PyProof.Rows.Call_ (ld_blt I hg hm PyProof.Rows.boot_zip (PyProof.Rows.callWith_type1 (thn (ha.run pos pins s σ H _ I h) fun us t z => ?_) hs hpl))⟩
  obtain ⟨vs, H1, I1, r1, a, b, xs, ys, rfl, hx, hy, q⟩ := z
  obtain ⟨u, v, rfl, ru, rv⟩ := r1.two
  cases ru
  cases rv
  obtain ⟨as, ra, pa, _⟩ := I1.tuple hx
  obtain ⟨bs, rb, pb, _⟩ := I1.list hy
  obtain ⟨o1, ho1, _⟩ := id pa
  have la : a < t.heap.objs.size := Heap.lt_size ho1
  have lb : b < t.heap.objs.size := pb.lt
  refine call_zm (show t.heap.IsTuple a as.toArray from pa) pb.isList fun h' hz kp => wpAny_pyIter_zip hz.z ?_
  have I2 : Inv X pins σ H1 { t with heap := h' } := I1.kept (t' := t.toks) kp
  have ap : Apart5 (t.heap.objs.size + 4) (t.heap.objs.size + 2) (t.heap.objs.size + 3) t.heap.objs.size (t.heap.objs.size + 1) a b := by
    exact apart5 la lb
  refine ⟨t.heap.objs.size + 4, [t.heap.objs.size + 4, t.heap.objs.size + 2, t.heap.objs.size + 3, t.heap.objs.size, t.heap.objs.size + 1], _, _, H1, rfl, I2, turn_zm ap, ⟨hz.z, hz.ti, ⟨_, _, hz.to⟩, hz.i1, hz.i2⟩, fun c hc => ?_, q⟩
  have le : t.heap.objs.size ≤ c := by rcases five hc with e | e | e | e | e <;> rw [e] <;> first | exact Nat.le_refl _ | exact Nat.le_add_right _ _
  exact I1.fpOk le (I1.hok.fresh le)
/-! ### zip as what is walked -/
def pairsD : List PyData → List PyData → List PyData
  | a :: as, b :: bs => .tuple [a, b] :: pairsD as bs
  | _, _ => []
theorem pairsD_len : ∀ as bs : List PyData, (pairsD as bs).length = min as.length bs.length
  | [], bs => by simp [pairsD]
  | _ :: _, [] => by simp [pairsD]
  | a :: as, b :: bs => by simp [pairsD, pairsD_len as bs]
theorem pairsD_get : ∀ (as bs : List PyData) (i : Nat) (d : PyData), (pairsD as bs)[i]? = some d → ∃ a b, as[i]? = some a ∧ bs[i]? = some b ∧ d = .tuple [a, b]
  | [], bs, i, d, h => by simp [pairsD] at h
  | _ :: _, [], i, d, h => by simp [pairsD] at h
  | a :: as, b :: bs, 0, d, h => by
    simp [pairsD] at h
    exact ⟨a, b, rfl, rfl, h.symm⟩
  | a :: as, b :: bs, i + 1, d, h => by
    obtain ⟨x, y, h1, h2, h3⟩ := pairsD_get as bs i d (by simpa [pairsD] using h)
    exact ⟨x, y, by simpa using h1, by simpa using h2, h3⟩
def zipItems : List T → Option (List PyData)
  | [.d (.list as), .d (.list bs)] => some (pairsD as bs)
  | [.d (.tuple as), .d (.tuple bs)] => some (pairsD as bs)
  | [.d (.tuple as), .d (.list bs)] => some (pairsD as bs)
  | _ => none
def dzip (fs : M (List T)) : M (List PyData) := mbind fs fun ts => mopt (zipItems ts)
section
variable {K : PySem.W.Frag}
/-- a pair out of two pending ones -/
theorem Ok.pairUp {m : List Bool} {B : Bs} {σ : L2.St} {H : Hp} {ρ : Rho} {ws : List V} {ts : List T} {x y : V} {da db : PyData} {I : Hp} {Fr Fw : List Addr} {p : Addr}
    (s : Sit B I H (Fr ++ Fw)) (r : RepR K I H σ ρ Fr) (w : RepTs K I H ws ts Fw) (km : Kept m B σ) (ha : Dr K I x da) (hb : Dr K I y db) (hp : H p = none) : Ok K m B σ (upd H p (.tup [x, y])) ρ (.ref p :: ws) (.d (.tuple [da, db]) :: ts) := by
  have hI := (s.fresh hp).2.1
  have sm : Same I (upd I p (.tup [x, y])) := fun a u e => by rw [upd_ne (ne_of_none e hI)]; exact e
  have nf : ∀ a ∈ Fr ++ Fw, (upd H p (.tup [x, y])) a = H a := fun a z => upd_ne (show a ≠ p from fun e => s.thr a z (by rw [e]; exact hp))
  exact ⟨_, Fr, Fw, s.newD hp, r.mono sm fun a z => nf a (List.mem_append_left _ z), .cons (F := []) (.d (.tup (SqT.of upd_same) (.cons (dr_mono sm ha) (.cons (dr_mono sm hb) .nil)))) (w.mono sm fun a z => nf a (List.mem_append_right _ z)), km⟩
theorem zip_two {I H : Hp} {x y : V} {da db : PyData} {ws : List V} {ts : List T} {F : List Addr} (w : RepTs K I H (x :: y :: ws) (.d da :: .d db :: ts) F) : Dr K I x da ∧ Dr K I y db := by
  cases w with
  | cons a w =>
    cases a with
    | d a =>
      cases w with
      | cons b w =>
        cases b with
        | d b => exact ⟨a, b⟩
theorem walk_zll {a b : Addr} {as bs : List PyData} : JWalk K (Itz K a b) [.ref a, .ref b] [.d (.list as), .d (.list bs)] (pairsD as bs) := fun m B σ H ρ ws ts i ok => by
  obtain ⟨I, Fr, Fw, s, r, wz, km⟩ := id ok
  obtain ⟨d1, d2⟩ := zip_two (ws := ws) (ts := ts) wz
  cases d1 with
  | lst h1 q1 =>
    cases d2 with
    | lst h2 q2 =>
      rename_i xs ys
      have g1 := s.sub _ _ h1
      have g2 := s.sub _ _ h2
      refine ⟨fun hi => ⟨xs, ys, SqL.of g1, SqL.of g2, by rw [q1.len, q2.len]; rw [pairsD_len] at hi; omega⟩, fun d hd => ?_⟩
      obtain ⟨da, db, e1, e2, rfl⟩ := pairsD_get as bs i d hd
      obtain ⟨x, hx, rx⟩ := q1.get' e1
      obtain ⟨y, hy, ry⟩ := q2.get' e2
      refine ⟨⟨xs, ys, x, y, SqL.of g1, SqL.of g2, hx, hy⟩, fun v H' yl => ?_⟩
      obtain ⟨p, x', y', rfl, hp, rfl, f1, f2⟩ := yl
      have e3 := (f1 xs (SqL.of g1)).symm.trans hx
      have e4 := (f2 ys (SqL.of g2)).symm.trans hy
      cases e3
      cases e4
      exact Ok.pairUp s r wz km rx ry hp
theorem walk_ztt {a b : Addr} {as bs : List PyData} : JWalk K (RZ.ItzT K a b) [.ref a, .ref b] [.d (.tuple as), .d (.tuple bs)] (pairsD as bs) := fun m B σ H ρ ws ts i ok => by
  obtain ⟨I, Fr, Fw, s, r, wz, km⟩ := id ok
  obtain ⟨d1, d2⟩ := zip_two (ws := ws) (ts := ts) wz
  cases d1 with
  | tup h1 q1 =>
    cases d2 with
    | tup h2 q2 =>
      rename_i xs ys
      have g1 := st_mono s.sub h1
      have g2 := st_mono s.sub h2
      refine ⟨fun hi => ⟨xs, ys, g1, g2, by rw [q1.len, q2.len]; rw [pairsD_len] at hi; omega⟩, fun d hd => ?_⟩
      obtain ⟨da, db, e1, e2, rfl⟩ := pairsD_get as bs i d hd
      obtain ⟨x, hx, rx⟩ := q1.get' e1
      obtain ⟨y, hy, ry⟩ := q2.get' e2
      refine ⟨⟨xs, ys, x, y, g1, g2, hx, hy⟩, fun v H' yl => ?_⟩
      obtain ⟨p, x', y', rfl, hp, rfl, f1, f2⟩ := yl
      have e3 := (f1 xs g1).symm.trans hx
      have e4 := (f2 ys g2).symm.trans hy
      cases e3
      cases e4
      exact Ok.pairUp s r wz km rx ry hp
theorem walk_ztl {a b : Addr} {as bs : List PyData} : JWalk K (ItzM K a b) [.ref a, .ref b] [.d (.tuple as), .d (.list bs)] (pairsD as bs) := fun m B σ H ρ ws ts i ok => by
  obtain ⟨I, Fr, Fw, s, r, wz, km⟩ := id ok
  obtain ⟨d1, d2⟩ := zip_two (ws := ws) (ts := ts) wz
  cases d1 with
  | tup h1 q1 =>
    cases d2 with
    | lst h2 q2 =>
      rename_i xs ys
      have g1 := st_mono s.sub h1
      have g2 := s.sub _ _ h2
      refine ⟨fun hi => ⟨xs, ys, g1, SqL.of g2, by rw [q1.len]; rw [pairsD_len] at hi; omega, by rw [q2.len]; rw [pairsD_len] at hi; omega, by rw [q1.len, q2.len]; rw [pairsD_len] at hi; omega⟩, fun d hd => ?_⟩
      obtain ⟨da, db, e1, e2, rfl⟩ := pairsD_get as bs i d hd
      obtain ⟨x, hx, rx⟩ := q1.get' e1
      obtain ⟨y, hy, ry⟩ := q2.get' e2
      refine ⟨⟨xs, ys, x, y, g1, SqL.of g2, hx, hy⟩, fun v H' yl => ?_⟩
      obtain ⟨p, x', y', rfl, hp, rfl, f1, f2⟩ := yl
      have e3 := (f1 xs g1).symm.trans hx
      have e4 := (f2 ys (SqL.of g2)).symm.trans hy
      cases e3
      cases e4
      exact Ok.pairUp s r wz km rx ry hp
end
section
variable {X : Cx} {w : Wd} {e e2 : Expr} {elts : List Expr} {kk : Nat} {p pos tpos : Pos} {os : List (Option Nat)} {fs : M (List T)}
theorem di_zip (hm : NoG X "zip") (ha : DA X w [e, e2] os fs) (hg : Gl X "zip" := by rfl) (hs : starEach [e, e2] X.env = (false, eval e X.env) :: starEach [e2] X.env := by rfl) (hpl : (backTo pos (starEach [e2] X.env)).any (·.1) = false := by rfl) :
    DI X w (.Tuple elts kk tpos) (.Call (.Name "zip" p) [e, e2] [] pos) (dzip fs) := by
  obtain ⟨t, pt, dt⟩ := ha.ex
  refine ⟨_, PI.or (RZ.pi_zipA hg hm pt hs hpl) (pi_zipM hg hm pt hs hpl), fun B σ H ρ ws ts R ok q => ?_⟩
  have q := q.bind
  cases e1 : fs ρ with
  | no => rw [e1] at q; exact q.elim
  | ex er ρ1 => rw [e1] at q; exact .inl (dt B σ H ρ ws ts _ ok (by rw [e1]; exact q))
  | ok vs ρ1 =>
    rw [e1] at q
    obtain ⟨ds, e2, q2⟩ := (show PostG X.K w B (mopt (zipItems vs) ρ1) _ from q).opt
    unfold zipItems at e2
    split at e2
    · cases e2
      refine .inl (dt B σ H ρ ws ts _ ok ?_)
      rw [e1]
      intro xs H1 hl ok1 _
      obtain ⟨x, y, rfl⟩ := two_of hl
      obtain ⟨a, us, rfl, ha, _⟩ := Ok.topList (ws := y :: ws) (ts := _ :: ts) ok1
      obtain ⟨b, zs, rfl, hb, _⟩ := Ok.topList (Ok.pop (ws := y :: ws) (ts := _ :: ts) ok1)
      exact ⟨a, b, us, zs, rfl, .inl ⟨SqL.of ha, SqL.of hb, q2 _ H1 [.ref a, .ref b] [.d (.list _), .d (.list _)] rfl ok1 walk_zll⟩⟩
    · cases e2
      refine .inl (dt B σ H ρ ws ts _ ok ?_)
      rw [e1]
      intro xs H1 hl ok1 _
      obtain ⟨x, y, rfl⟩ := two_of hl
      obtain ⟨a, us, rfl, ha, _⟩ := Ok.topTup (ws := y :: ws) (ts := _ :: ts) ok1
      obtain ⟨b, zs, rfl, hb, _⟩ := Ok.topTup (Ok.pop (ws := y :: ws) (ts := _ :: ts) ok1)
      exact ⟨a, b, us, zs, rfl, .inr ⟨ha, hb, q2 _ H1 [.ref a, .ref b] [.d (.tuple _), .d (.tuple _)] rfl ok1 walk_ztt⟩⟩
    · cases e2
      refine .inr (dt B σ H ρ ws ts _ ok ?_)
      rw [e1]
      intro xs H1 hl ok1 _
      obtain ⟨x, y, rfl⟩ := two_of hl
      obtain ⟨a, us, rfl, ha, _⟩ := Ok.topTup (ws := y :: ws) (ts := _ :: ts) ok1
      obtain ⟨b, zs, rfl, hb, _⟩ := Ok.topList (Ok.pop (ws := y :: ws) (ts := _ :: ts) ok1)
      exact ⟨a, b, us, zs, rfl, ha, SqL.of hb, q2 _ H1 [.ref a, .ref b] [.d (.tuple _), .d (.list _)] rfl ok1 walk_ztl⟩
    · cases e2
end
end DL
end
section
set_option Elab.async false
set_option linter.all false
set_option maxRecDepth 100000
set_option maxHeartbeats 4000000
/-! DLF: own dicts; a function that a slot holds. -/
namespace DL
open PySem L2

/-! ### own dicts -/
def tget (kvs : List (Key × T)) (k : Key) : Option T := (kvs.find? fun kv => decide (kv.1 = k)).map (·.2)
def tputK (kvs : List (Key × T)) (k : Key) (v : T) : List (Key × T) := if (kvs.any fun kv => decide (kv.1 = k)) = true then kvs.map (fun kv => if kv.1 = k then (kv.1, v) else kv) else kvs ++ [(k, v)]
def keyT : T → Option Key
  | .d (.str z) => some (.inr z)
  | .d (.int i) => some (.inl i)
  | _ => none
section
variable {K : PySem.W.Frag} {m : List Bool} {B : Bs} {σ : St} {H : Hp} {ρ : Rho} {ws : List V} {ts : List T} {x y v : V} {t u : T}
theorem Ok.topKey {k : Key} (h : Ok K m B σ H ρ (x :: ws) (t :: ts)) (e : keyT t = some k) : x = kV k := by
  unfold keyT at e
  split at e
  · cases e; exact h.topStr
  · cases e; exact h.topInt
  · cases e
theorem val_of {I : Hp} : ∀ {vs : List (Key × V)} {kvs : List (Key × T)} {F : List Addr} {k : Key}, vs.map (·.1) = kvs.map (·.1) → RepTs K I H (vs.map (·.2)) (kvs.map (·.2)) F →
    (∀ d, tget kvs k = some (.d d) → ∃ v, valV vs k = some v ∧ Dr K I v d) ∧ (tget kvs k = none → valV vs k = none)
  | [], [], _, _, _, _ => ⟨fun d e => (nomatch e), fun _ => rfl⟩
  | [], _ :: _, _, _, e, _ => nomatch e
  | _ :: _, [], _, _, e, _ => nomatch e
  | (a, v) :: vs, (b, t) :: kvs, F, k, e, r => by
    rw [List.map_cons, List.map_cons] at e
    obtain ⟨e1, e2⟩ := List.cons.inj e
    have e1 : a = b := e1
    subst e1
    cases r with
    | cons r1 r2 =>
      obtain ⟨h1, h2⟩ := val_of (k := k) e2 r2
      by_cases q : a = k
      · refine ⟨fun d z => ?_, fun z => ?_⟩
        · have : t = .d d := by simpa [tget, List.find?_cons, q] using z
          subst this
          cases r1 with
          | d r1 => exact ⟨v, valV_pos q, r1⟩
        · simp [tget, List.find?_cons, q] at z
      · refine ⟨fun d z => ?_, fun z => ?_⟩
        · obtain ⟨v', g1, g2⟩ := h1 d (by simpa [tget, List.find?_cons, q] using z)
          exact ⟨v', by rw [valV_neg q]; exact g1, g2⟩
        · rw [valV_neg q]
          exact h2 (by simpa [tget, List.find?_cons, q] using z)
/-- the own dict on top is read -/
theorem Ok.dctGet {kvs : List (Key × T)} {k : Key} (h : Ok K m B σ H ρ (x :: ws) (.dct kvs :: ts)) : ∃ a vs, x = .ref a ∧ H a = some (.dK vs) ∧ (tget kvs k = none → valV vs k = none) ∧ ∀ d, tget kvs k = some (.d d) → ∃ v, valV vs k = some v ∧ Ok K m B σ H ρ (v :: x :: ws) (.d d :: .dct kvs :: ts) := by
  obtain ⟨I, Fr, Fw, s, r, w, km⟩ := h
  cases w with
  | cons a b =>
    cases a with
    | dct hp k1 k2 k3 it =>
      rename_i p vs us xs F
      subst k2 k3
      obtain ⟨h1, h2⟩ := val_of (k := k) k1 it
      refine ⟨p, vs, rfl, hp, h2, fun d e => ?_⟩
      obtain ⟨v, g1, g2⟩ := h1 d e
      exact ⟨v, g1, I, Fr, _, s, r, .cons (F := []) (.d g2) (.cons (.dct hp k1 rfl rfl it) b), km⟩
theorem put_keys {κ α β : Type} [DecidableEq κ] (k : κ) : ∀ {vs : List (κ × α)} {kvs : List (κ × β)}, vs.map (·.1) = kvs.map (·.1) → (vs.any fun kv => decide (kv.1 = k)) = (kvs.any fun kv => decide (kv.1 = k))
  | [], [], _ => rfl
  | [], _ :: _, e => nomatch e
  | _ :: _, [], e => nomatch e
  | a :: vs, b :: kvs, e => by
    rw [List.map_cons, List.map_cons] at e
    obtain ⟨e1, e2⟩ := List.cons.inj e
    rw [List.any_cons, List.any_cons, put_keys k e2, e1]
theorem put_rep {I : Hp} {k : Key} {v : V} {d : PyData} (hd : Dr K I v d) : ∀ {vs : List (Key × V)} {kvs : List (Key × T)} {F : List Addr}, vs.map (·.1) = kvs.map (·.1) → RepTs K I H (vs.map (·.2)) (kvs.map (·.2)) F →
    ∃ G, RepTs K I H ((vs.map fun kv => if kv.1 = k then (kv.1, v) else kv).map (·.2)) ((kvs.map fun kv => if kv.1 = k then (kv.1, T.d d) else kv).map (·.2)) G ∧ List.Sublist G F ∧
      (vs.map fun kv => if kv.1 = k then (kv.1, v) else kv).map (·.1) = (kvs.map fun kv => if kv.1 = k then (kv.1, T.d d) else kv).map (·.1)
  | [], [], _, _, .nil => ⟨[], .nil, List.Sublist.refl _, rfl⟩
  | [], _ :: _, _, e, _ => nomatch e
  | _ :: _, [], _, e, _ => nomatch e
  | (a, v0) :: vs, (b, t) :: kvs, F, e, r => by
    rw [List.map_cons, List.map_cons] at e
    obtain ⟨e1, e2⟩ := List.cons.inj e
    have e1 : a = b := e1
    subst e1
    cases r with
    | cons r1 r2 =>
      rename_i F1 F2
      obtain ⟨G, g1, g2, g3⟩ := put_rep hd e2 r2
      by_cases q : a = k
      · refine ⟨G, ?_, g2.trans (List.sublist_append_right _ _), ?_⟩
        · simp only [List.map_cons, q, if_true]
          exact .cons (F := []) (.d hd) g1
        · simp only [List.map_cons, q, if_true]
          exact congrArg _ g3
      · refine ⟨F1 ++ G, ?_, List.Sublist.append (List.Sublist.refl _) g2, ?_⟩
        · simp only [List.map_cons, q, if_false]
          exact .cons r1 g1
        · simp only [List.map_cons, q, if_false]
          exact congrArg _ g3
/-- data is stored into the own dict on top -/
theorem Ok.dctPut {kvs : List (Key × T)} {k : Key} {d : PyData} (h : Ok K m B σ H ρ (x :: v :: ws) (.dct kvs :: .d d :: ts)) : ∃ a vs, x = .ref a ∧ H a = some (.dK vs) ∧ vs.length = kvs.length ∧ Ok K m B σ (upd H a (.dK (putK vs k v))) ρ (.ref a :: ws) (.dct (tputK kvs k (.d d)) :: ts) := by
  obtain ⟨I, Fr, Fw, s, r, w, km⟩ := h
  cases w with
  | cons a b =>
    rename_i F1 F2
    cases a with
    | dct hp k1 k2 k3 it =>
      rename_i p vs us xs F
      subst k2 k3
      cases b with
      | cons c e =>
        rename_i F3 F4
        cases c with
        | d c =>
          refine ⟨p, vs, rfl, hp, by have := congrArg List.length k1; simpa using this, ?_⟩
          have mem : p ∈ Fr ++ (p :: F ++ ([] ++ F4)) := by simp
          have nd := s.nd
          have other : ∀ q ∈ Fr ++ (F ++ F4), q ≠ p := fun q z e => by
            subst e
            have : List.Perm (Fr ++ (q :: F ++ ([] ++ F4))) (q :: (Fr ++ (F ++ F4))) := by
              rw [List.nil_append]
              exact List.perm_middle
            exact (List.nodup_cons.mp (this.nodup_iff.mp nd)).1 z
          have fx : ∀ q ∈ Fr ++ (F ++ F4), (upd H p (.dK (putK vs k v))) q = H q := fun q z => upd_ne (other q z)
          have it' := it.mono (H' := upd H p (.dK (putK vs k v))) (Same.refl _) fun q z => fx q (by simp [z])
          have e' := e.mono (H' := upd H p (.dK (putK vs k v))) (Same.refl _) fun q z => fx q (by simp [z])
          have r' := r.mono (H' := upd H p (.dK (putK vs k v))) (Same.refl _) fun q z => fx q (by simp [z])
          have sw := s.write (o := .dK (putK vs k v)) mem
          have key := put_keys k k1
          unfold tputK
          unfold putK at it' e' r' sw ⊢
          by_cases q : (kvs.any fun kv => decide (kv.1 = k)) = true
          · rw [if_pos q]
            rw [key, if_pos q] at it' e' r' sw ⊢
            obtain ⟨G, g1, g2, g3⟩ := put_rep (k := k) c k1 it'
            refine ⟨I, Fr, (p :: G) ++ F4, sw.less (fun a z => ?_) ?_, r', .cons (.dct upd_same g3 rfl rfl g1) e', km⟩
            · rcases List.mem_append.mp z with z | z
              · exact List.mem_append_left _ z
              · refine List.mem_append_right _ ?_
                rcases List.mem_append.mp z with z | z
                · refine List.mem_append_left _ ?_
                  rcases List.mem_cons.mp z with z | z
                  · exact z ▸ List.mem_cons_self
                  · exact List.mem_cons_of_mem _ (g2.mem z)
                · exact List.mem_append_right _ (by simpa using z)
            · refine List.Sublist.nodup ?_ nd
              refine List.Sublist.append (List.Sublist.refl _) ?_
              rw [List.nil_append]
              exact List.Sublist.append (List.Sublist.cons₂ _ g2) (List.Sublist.refl _)
          · rw [if_neg q]
            rw [key, if_neg q] at it' e' r' sw ⊢
            have g1 : RepTs K I (upd H p (.dK (vs ++ [(k, v)]))) ((vs ++ [(k, v)]).map (·.2)) ((kvs ++ [(k, T.d d)]).map (·.2)) F := by
              obtain ⟨E, z1, z2⟩ := RepTs.append it' (RepTs.cons (F := []) (.d c) .nil)
              rw [List.append_nil, List.append_nil] at z2
              subst z2
              rw [List.map_append, List.map_append]
              exact z1
            refine ⟨I, Fr, (p :: F) ++ F4, sw.perm (by simp), r', .cons (.dct upd_same (by rw [List.map_append, List.map_append, k1]; rfl) rfl rfl g1) e', km⟩
end
section
variable {X : Cx} {w : Wd} {x : Str} {p pos : Pos} {e e1 e2 : Expr} {fk fd f1 f2 : M T}
def gDget (t k : T) : Option T := match t, keyT k with
  | .dct kvs, some q => (match tget kvs q with
    | some (.d d) => some (.d d)
    | _ => none)
  | _, _ => none
def ddget (i : Nat) (fk : M T) : M T := mbind (dhas i) fun _ => mbind fk fun k => dreadO i fun t => gDget t k
theorem slot_eq {σ : St} {i : Nat} {a b : V} (h1 : σ[i]? = some (some a)) (h2 : σ[i]? = some (some b)) : a = b := by
  rw [h1] at h2
  exact Option.some.inj (Option.some.inj h2)
theorem de_ddget (hu : X.A.units + 64 < cLine) (i : Nat) (hk : DE X w e fk) (hs : NoSl e := by exact fun _ _ => rfl) (hN : X.N[i]? = some x := by rfl) (hv : Vis X.env.scope x := by first | exact Or.inl rfl | exact Or.inr (Or.inl rfl) | exact Or.inr (Or.inr rfl)) (hd : (x == ("__debug__" : Str)) = false := by decide)
    (hcd : (x == ("__classdict__" : Str)) = false := by decide) : DE X w (.Subscript (.Name x p) e pos) (ddget i fk) := by
  obtain ⟨t, pt, dt⟩ := hk.ex
  refine de_v (pe_dget (by omega) (pe_var hN hv hd hcd) pt hs) fun B σ H ρ ws ts Q ok q => ?_
  obtain ⟨⟨v, hv0⟩, q⟩ := dhas_of ok q.bind
  refine ⟨v, hv0, ?_⟩
  refine dt B σ H ρ ws ts _ ok (PostG.mono (PostG.bind q) fun k ρ1 p1 y H1 ok1 => ?_)
  obtain ⟨t0, z, e1, e2, p2⟩ := dread_of p1
  obtain ⟨v', h1, ok2⟩ := ok1.take e1
  have ev := slot_eq h1 hv0
  subst ev
  unfold gDget at e2
  split at e2
  · rename_i kvs q0 hq
    obtain ⟨a, vs, rfl, ha, _, hg⟩ := Ok.dctGet (k := q0) ok2
    cases e3 : tget kvs q0 with
    | none => rw [e3] at e2; cases e2
    | some u =>
      rw [e3] at e2
      cases u with
      | d d0 =>
        cases e2
        obtain ⟨v1, g1, ok3⟩ := hg d0 e3
        have hy := ok1.topKey hq
        subst hy
        refine ⟨a, v1, rfl, ?_, p2 _ _ ?_⟩
        · have := DGet.k (k := q0) ha
          rw [g1] at this
          exact this
        · have ok4 := ok3.swap.back (i := i) h1
          rw [set_get e1] at ok4
          exact ok4.inStead
      | _ => cases e2
  · cases e2
/-- d.get(k, x), both data -/
def gDget2 (t k z : T) : Option T := match t, keyT k with
  | .dct kvs, some q => (match tget kvs q, z with
    | some (.d d), _ => some (.d d)
    | none, .d d => some (.d d)
    | _, _ => none)
  | _, _ => none
def ddget2 (i : Nat) (fk fz : M T) : M T := mbind (dtyp "dict" i) fun _ => mbind fk fun k => mbind fz fun z => dreadO i fun t => gDget2 t k z
theorem dtyp_of {K : PySem.W.Frag} {w : Wd} {B : Bs} {σ : St} {H : Hp} {ρ : Rho} {ws : List V} {ts : List T} {i : Nat} {n : String} {P : Unit → Rho → Prop} (ok : Ok K w.m B σ H ρ ws ts) (q : PostG K w B (dtyp n i ρ) P) : (∃ v, σ[i]? = some (some v) ∧ L2.tyV K n v H) ∧ (∃ t, ρ[i]? = some (some t) ∧ tyT t = some n) ∧ P () ρ := by
  unfold dtyp at q
  cases e : ρ[i]? with
  | none => rw [e] at q; exact q.elim
  | some o =>
    cases o with
    | none => rw [e] at q; exact q.elim
    | some u =>
      rw [e] at q
      by_cases hq : tyT u = some n
      · simp only [if_pos hq] at q
        exact ⟨ok.peek e hq, ⟨u, rfl, hq⟩, q⟩
      · simp only [if_neg hq] at q
        exact q.elim
theorem isD_of {K : PySem.W.Frag} {H : Hp} {v : V} (h : L2.tyV K "dict" v H) : ∃ a, v = .ref a ∧ IsD H a := by
  cases v with
  | ref a =>
    rcases h with ⟨e, _⟩ | ⟨e, _⟩ | ⟨_, h⟩ | ⟨e, _⟩
    · exact absurd e (by decide)
    · exact absurd e (by decide)
    · rcases h with ⟨kvs, h⟩ | ⟨kvs, h⟩
      · exact ⟨a, rfl, .inl ⟨kvs, .inl h⟩⟩
      · exact ⟨a, rfl, .inr ⟨kvs, .inl h⟩⟩
    · exact absurd e (by decide)
  | _ => exact absurd h (by first | (intro z; exact absurd (show "dict" = _ from z) (by decide)) | (intro z; exact z))
theorem de_ddget2 (hu : X.A.units + 64 < cLine) (i : Nat) {apos : Pos} (hk : DE X w e f1) (hz : DE X w e2 f2) (hN : X.N[i]? = some x := by rfl) (hv : Vis X.env.scope x := by first | exact Or.inl rfl | exact Or.inr (Or.inl rfl) | exact Or.inr (Or.inr rfl)) (hd : (x == ("__debug__" : Str)) = false := by decide)
    (hcd : (x == ("__classdict__" : Str)) = false := by decide) (mm : M2 X (.Name x p) "get" apos e e2 pos := by exact ⟨rfl, rfl, rfl, rfl⟩) : DE X w (.Call (.Attribute (.Name x p) "get" apos) [e, e2] [] pos) (ddget2 i f1 f2) := by
  obtain ⟨t, pt, dt⟩ := hk.ex
  obtain ⟨t', pt', dt'⟩ := hz.ex
  refine de_v (pe_dget2 (by omega) (pe_var hN hv hd hcd) pt pt' mm) fun B σ H ρ ws ts Q ok q => ?_
  obtain ⟨⟨v, hv0, ty⟩, _, q⟩ := dtyp_of ok q.bind
  refine ⟨v, hv0, ?_⟩
  obtain ⟨a0, rfl, isd⟩ := isD_of ty
  refine ⟨a0, rfl, isd, ?_⟩
  refine dt B σ H ρ ws ts _ ok (PostG.mono (PostG.bind q) fun k ρ1 p1 y H1 ok1 => ?_)
  refine dt' B σ H1 ρ1 _ _ _ ok1 (PostG.mono (PostG.bind p1) fun z ρ2 p2 y2 H2 ok2 => ?_)
  obtain ⟨t0, r0, e1, e2, p3⟩ := dread_of p2
  obtain ⟨v', h1, ok3⟩ := ok2.take e1
  have ev := slot_eq h1 hv0
  subst ev
  unfold gDget2 at e2
  split at e2
  · rename_i kvs q0 hq
    obtain ⟨a, vs, ea, ha, hnone, hg⟩ := Ok.dctGet (k := q0) ok3
    cases ea
    have hy := ok2.pop.topKey hq
    subst hy
    cases e3 : tget kvs q0 with
    | none =>
      rw [e3] at e2
      cases z with
      | d d0 =>
        cases e2
        refine ⟨none, ?_, p3 _ _ ok2.inStead⟩
        have := DGet.k (k := q0) ha
        rw [hnone e3] at this
        exact this
      | _ => cases e2
    | some u =>
      rw [e3] at e2
      cases u with
      | d d0 =>
        cases e2
        obtain ⟨v1, g1, ok4⟩ := hg d0 e3
        refine ⟨some v1, ?_, p3 _ _ ?_⟩
        · have := DGet.k (k := q0) ha
          rw [g1] at this
          exact this
        · have ok5 := ok4.swap.back (i := i) h1
          rw [set_get e1] at ok5
          exact ok5.inStead.inStead
      | _ => cases z <;> cases e2
  · cases e2
/-- d[k] = v -/
def gDput (t k v : T) : Option T := match t, keyT k, v with
  | .dct kvs, some q, .d d => if kvs.length < lim then some (.dct (tputK kvs q (.d d))) else none
  | _, _, _ => none
def ddput (i : Nat) (k v : T) : M Unit := fun ρ => match ρ[i]? with
  | some (some t) => (match gDput t k v with
    | some t1 => .ok () (ρ.set i (some t1))
    | none => .no)
  | _ => .no
def sdput (i : Nat) (fk fv : M T) : M Fl := mbind fv fun v => mbind (dhas i) fun _ => mbind fk fun k => mbind (ddput i k v) fun _ => mret .nx
theorem ds_dput (hu : X.A.units + 64 < cLine) (i : Nat) {pos' : Pos} (hk : DE X w e f1) (hz : DE X w e2 f2) (hN : X.N[i]? = some x := by rfl) (hv : Vis X.env.scope x := by first | exact Or.inl rfl | exact Or.inr (Or.inl rfl) | exact Or.inr (Or.inr rfl)) (hd : (x == ("__debug__" : Str)) = false := by decide)
    (hcd : (x == ("__classdict__" : Str)) = false := by decide) (hs : swapsWith e2 (some (.Subscript (.Name x p) e pos')) pos.line X.env = pure false := by rfl) : DS X w (.Assign [.Subscript (.Name x p) e pos'] e2 pos) (sdput i f1 f2) := by
  obtain ⟨t, pt, dt⟩ := hk.ex
  obtain ⟨t', pt', dt'⟩ := hz.ex
  refine ⟨_, ps_dput (by omega) (pe_var hN hv hd hcd) pt pt' hs, fun B σ H ρ ws ts D ok q => ?_⟩
  refine dt' B σ H ρ ws ts _ ok (PostG.mono (PostG.bind q) fun z ρ1 p1 y1 H1 ok1 => ?_)
  obtain ⟨⟨ov, hov⟩, p1⟩ := dhas_of ok1 (PostG.bind p1)
  refine ⟨ov, hov, ?_⟩
  refine dt B σ H1 ρ1 _ _ _ ok1 (PostG.mono (PostG.bind p1) fun k ρ2 p2 y2 H2 ok2 => ?_)
  have p2 := PostG.bind p2
  unfold ddput at p2
  cases e1 : ρ2[i]? with
  | none => rw [e1] at p2; exact p2.elim
  | some o =>
    cases o with
    | none => rw [e1] at p2; exact p2.elim
    | some t0 =>
      rw [e1] at p2
      simp only at p2
      cases e2 : gDput t0 k z with
      | none => rw [e2] at p2; exact p2.elim
      | some t1 =>
        rw [e2] at p2
        unfold gDput at e2
        split at e2
        · rename_i kvs q0 d0 hq _
          obtain ⟨hl, e2⟩ := reqs e2
          subst e2
          have hy := ok2.topKey hq
          subst hy
          obtain ⟨v', h1, ok3⟩ := ok2.pop.take e1
          have ev := slot_eq h1 hov
          subst ev
          obtain ⟨a, vs, rfl, ha, hlen, ok4⟩ := Ok.dctPut (k := q0) ok3
          refine ⟨a, _, rfl, DPut.k ha (by rw [hlen]; exact lim_lt hl), ?_⟩
          have ok5 := ok4.back (i := i) h1
          rw [List.set_set] at ok5
          exact (show ∀ σ' H', Ok X.K w.m B σ' H' _ ws ts → D.nx σ' H' from p2) σ _ ok5
        · cases e2
/-! displays -/
structure DPs (X : Cx) (w : Wd) (pos : Pos) (zs : List Str) (keys : List (Option Expr)) (vals : List Expr) (fs : M (List T)) : Prop where
  ex : ∃ trs, PPs X pos keys vals trs ∧ ∀ B σ H ρ ws ts Q, Ok X.K w.m B σ H ρ ws ts → PostG X.K w B (fs ρ) (fun us ρ' => ∀ ys H', ys.length = us.length → Ok X.K w.m B σ H' ρ' (ys ++ ws) (us ++ ts) → Q ((zs.map V.str).zip ys) H') → tPairs trs σ H Q
  len : ∀ us ρ ρ', fs ρ = .ok us ρ' → us.length = zs.length
theorem dps_nil : DPs X w pos [] [] [] (mret []) := ⟨⟨_, pps_nil, fun B σ H ρ ws ts Q ok q => q [] H rfl ok⟩, fun us ρ ρ' e => by cases e; rfl⟩
theorem dps_cons {z : Str} {zs : List Str} {j} {kp : Pos} {keys : List (Option Expr)} {vals : List Expr} {f : M T} {fs : M (List T)} (hv : DE X w e f) (h : DPs X w pos zs keys vals fs) : DPs X w pos (z :: zs) (some (.Constant (.str z) j kp) :: keys) (e :: vals) (dcons f fs) := by
  obtain ⟨t, pt, dt⟩ := hv.ex
  obtain ⟨trs, pp, dp⟩ := h.ex
  refine ⟨⟨_, pps_cons pe_str pt pp, fun B σ H ρ ws ts Q ok q => ?_⟩, dcons_len h.len⟩
  show t σ H _
  refine dt B σ H ρ ws ts _ ok (PostG.mono (PostG.bind q) fun u ρ1 p1 y H1 ok1 => ?_)
  refine dp B σ H1 ρ1 _ _ _ ok1 (PostG.mono (PostG.bind p1) fun us ρ2 p2 ys H2 hl ok2 => ?_)
  exact (show ∀ ys H', ys.length = (u :: us).length → Ok X.K w.m B σ H' ρ2 (ys ++ ws) ((u :: us) ++ ts) → Q (((z :: zs).map V.str).zip ys) H' from p2) (y :: ys) H2 (by simp [hl]) (Ok.perm3 hl ok2)
def gDisp (zs : List Str) (us : List T) : T := .dct ((zs.map Sum.inr).zip us)
def ddisp (zs : List Str) (fs : M (List T)) : M T := mbind fs fun us => mret (gDisp zs us)
theorem merge_nodup : ∀ {more acc : List (Key × V)}, ((acc ++ more).map (·.1)).Nodup → mergeK acc more = acc ++ more
  | [], acc, _ => by rw [List.append_nil]; rfl
  | kv :: more, acc, nd => by
    have h1 : (acc.any fun q => decide (q.1 = kv.1)) = false := by
      rw [List.any_eq_false]
      intro q hq
      have nd' : (acc.map (·.1) ++ (kv.1 :: more.map (·.1))).Nodup := by simpa using nd
      have := (List.nodup_append.mp nd').2.2 q.1 (List.mem_map_of_mem hq) kv.1 List.mem_cons_self
      simpa using this
    show mergeK (putK acc kv.1 kv.2) more = _
    have e : putK acc kv.1 kv.2 = acc ++ [kv] := by
      unfold putK
      rw [if_neg (by rw [h1]; decide)]
    rw [e, merge_nodup (by simpa using nd), List.append_assoc]
    rfl
theorem de_disp {zs : List Str} {keys : List (Option Expr)} {vals : List Expr} {fs : M (List T)} (h : DPs X w pos zs keys vals fs) (nd : zs.Nodup := by decide) (hall : keys.all (·.isSome) = true := by rfl) (hl : keys.length = vals.length := by rfl) (h0 : keys ≠ [] := by intro z; cases z) (h15 : keys.length ≤ 15 := by decide) (hz : zs.length = keys.length := by rfl) :
    DE X w (.Dict keys vals pos) (ddisp zs fs) := by
  obtain ⟨trs, pp, dp⟩ := h.ex
  refine de_v (pe_disp pp hall hl h0 h15) fun B σ H ρ ws ts Q ok q a ha => ?_
  obtain ⟨I, Fr, Fw, s, r, wz, km⟩ := id ok
  have nf : ∀ b ∈ Fr ++ Fw, (upd H a (.dK [])) b = H b := fun b z => upd_ne (show b ≠ a from fun e => s.thr b z (by rw [e]; exact ha))
  have ok0 : Ok X.K w.m B σ (upd H a (.dK [])) ρ (.ref a :: ws) (.dct [] :: ts) := ⟨I, Fr, a :: Fw, (s.newO ha).perm List.perm_middle.symm, r.mono (Same.refl _) fun b z => nf b (List.mem_append_left _ z),
    .cons (F := [a]) (.dct (kvs := []) upd_same rfl rfl rfl .nil) (wz.mono (Same.refl _) fun b z => nf b (List.mem_append_right _ z)), km⟩
  have q := q.bind
  cases e1 : fs ρ with
  | no => rw [e1] at q; exact q.elim
  | ex er ρ1 => exact dp B σ _ ρ _ _ _ ok0 (by rw [e1]; rw [e1] at q; exact q)
  | ok us ρ1 =>
    rw [e1] at q
    have lus := h.len us ρ ρ1 e1
    refine dp B σ _ ρ _ _ _ ok0 ?_
    rw [e1]
    intro ys H2 hy ok2
    obtain ⟨I2, Fr2, Fw2, s2, r2, w2, km2⟩ := id ok2
    obtain ⟨G, E, rfl, g, e⟩ := RepTs.split hy w2
    cases e with
    | cons a1 b1 =>
      rename_i F5 F6
      cases a1 with
      | dct hp k1 k2 k3 it =>
        rename_i vs us' xs F7
        have hvs : vs = [] := List.map_eq_nil_iff.mp k1
        subst hvs
        subst k2 k3
        cases it
        have ez : (zs.map V.str).zip ys = ((zs.map Sum.inr).zip ys).map fun kv : Key × V => (kV kv.1, kv.2) := by
          have gen : ∀ (zs : List Str) (ys : List V), (zs.map V.str).zip ys = ((zs.map Sum.inr).zip ys).map fun kv : Key × V => (kV kv.1, kv.2) := fun zs => by
            induction zs with
            | nil => intro ys; rfl
            | cons z zs ih =>
              intro ys
              cases ys with
              | nil => rfl
              | cons y ys => simp only [List.map_cons, List.zip_cons_cons, ih ys]; rfl
          exact gen zs ys
        have l1 : (zs.map (Sum.inr : Str → Key)).length = ys.length := by rw [List.length_map, hy, lus]
        have l2 : (zs.map (Sum.inr : Str → Key)).length = us.length := by rw [List.length_map, lus]
        refine ⟨hp, (zs.map Sum.inr).zip ys, ez, ?_, ?_⟩
        · rw [List.length_zip, List.length_map]
          omega
        · have em : mergeK [] ((zs.map Sum.inr).zip ys) = (zs.map Sum.inr).zip ys := by
            rw [merge_nodup]
            · rfl
            · rw [List.nil_append, List.map_fst_zip (by omega)]
              exact nd.map (f := Sum.inr) (fun a b h h' => h (Sum.inr.inj h'))
          rw [em]
          have mem : a ∈ Fr2 ++ (G ++ ([a] ++ F6)) := by simp
          have nd2 := s2.nd
          have other : ∀ c ∈ Fr2 ++ (G ++ F6), c ≠ a := fun c z e => by
            subst e
            have : List.Perm (Fr2 ++ (G ++ ([c] ++ F6))) (c :: (Fr2 ++ (G ++ F6))) := by
              refine List.Perm.trans (List.Perm.append_left _ ?_) List.perm_middle
              exact List.perm_middle
            exact (List.nodup_cons.mp (this.nodup_iff.mp nd2)).1 z
          have fx : ∀ c ∈ Fr2 ++ (G ++ F6), (upd H2 a (.dK ((zs.map Sum.inr).zip ys))) c = H2 c := fun c z => upd_ne (other c z)
          refine (show ∀ x H', Ok X.K w.m B σ H' ρ1 (x :: ws) (gDisp zs us :: ts) → Q x H' from q) _ _ ⟨I2, Fr2, (a :: G) ++ F6, (s2.write (o := .dK ((zs.map Sum.inr).zip ys)) mem).perm (List.Perm.append_left _ ?_), r2.mono (Same.refl _) fun c z => fx c (by simp [z]),
            .cons (.dct upd_same ?_ rfl rfl ?_) (b1.mono (Same.refl _) fun c z => fx c (by simp [z])), km2⟩
          · exact List.perm_middle
          · rw [List.map_fst_zip (by omega), List.map_fst_zip (by omega)]
          · rw [List.map_snd_zip (by omega), List.map_snd_zip (by omega)]
            exact g.mono (Same.refl _) fun c z => fx c (by simp [z])
end

/-! ### a function that a slot holds -/
/-- the functions of an address each have a meaning -/
structure FnTab (P : Program) (w : World) (K : PySem.W.Frag) (mg : Str → Option Value) (base : Heap) (k n : Nat) (tab : Str → Option Fn) : Prop where
  ex : ∀ z a g, tab z = some g → PySem.W.nsIn K mainGlobals z = some (some (.ref a)) → ∃ fd ps, FnG P w K mg base k a fd ps (FnD K mg n g) ∧ PySem.W.keepIn K (.ref a) = true ∧ Binds K fd ps []
def tabCons (x : Str) (g : Fn) (tab : Str → Option Fn) : Str → Option Fn := fun z => if z = x then some g else tab z
section
variable {P : Program} {w : World} {K : PySem.W.Frag} {mg : Str → Option Value} {base : Heap} {k j n : Nat} {tab : Str → Option Fn} {x : Str} {g : Fn}
theorem FnTab.nil : FnTab P w K mg base k n (fun _ => none) := ⟨fun z a g h _ => (nomatch h)⟩
theorem FnTab.cons (gl : ∀ z a, PySem.W.nsIn K mainGlobals z = some (some (.ref a)) → mg z = some (.ref a)) (D : Def P w K mg base x j n g) (T0 : FnTab P w K mg base k n tab) (hj : j ≤ k := by decide) : FnTab P w K mg base k n (tabCons x g tab) := by
  refine ⟨fun z a g' h hn => ?_⟩
  unfold tabCons at h
  by_cases q : z = x
  · rw [if_pos q] at h
    cases h
    subst q
    obtain ⟨f, fd, ps, F, hm, kp, b⟩ := D.ex
    have e := (gl _ _ hn).symm.trans hm
    cases e
    exact ⟨fd, ps, F.up hj, kp, b⟩
  · rw [if_neg q] at h
    exact T0.ex z a g' h hn
end
section
variable {X : Cx} {w : Wd} {x : Str} {p pos : Pos} {e : Expr} {es : List Expr} {os : List (Option Nat)} {fs : M (List T)} {k n : Nat} {tab : Str → Option Fn}
def dcallS (i : Nat) (tab : Str → Option Fn) (os : List (Option Nat)) (fs : M (List T)) : M T := fun ρ => match ρ[i]? with
  | some (some (.fn a)) => (match tab a with
    | some g => dcall g os fs ρ
    | none => .no)
  | _ => .no
theorem de_callS {k' : Nat} (i : Nat) (D : FnTab X.prog X.w X.K X.mg X.base k n tab) (at_ : At X w k') (ha : DA X w (e :: es) os fs) (hk : k ≤ k' := by decide) (hn : (e :: es).length = n := by rfl)
    (hN : X.N[i]? = some x := by rfl) (hv : Vis X.env.scope x := by first | exact Or.inl rfl | exact Or.inr (Or.inl rfl) | exact Or.inr (Or.inr rfl)) (hd : (x == ("__debug__" : Str)) = false := by decide) (hcd : (x == ("__classdict__" : Str)) = false := by decide)
    (st : starEach (e :: es) X.env = (false, eval e X.env) :: starEach es X.env := by rfl) (pl : (backTo pos (starEach es X.env)).any (·.1) = false := by rfl) : DE X w (.Call (.Name x p) (e :: es) [] pos) (dcallS i tab os fs) := by
  obtain ⟨t, pt, dt⟩ := ha.ex
  refine de_v (t := fun σ H Q => ∃ f z g, σ[i]? = some (some (.ref f)) ∧ tab z = some g ∧ PySem.W.nsIn X.K mainGlobals z = some (some (.ref f)) ∧ tCallG (FnD X.K X.mg n g) w.W [] t σ H Q) ⟨fun pins s σ H Q I h => ?_⟩ fun B σ H ρ ws ts Q ok q => ?_
  · obtain ⟨f, z, g, hs, hf, hz, ht⟩ := h
    obtain ⟨fd, ps, F, kp, b⟩ := D.ex z f g hf hz
    refine wpAny_Call_Name_kw (thn ((pe_var (pos := p) hN hv hd hcd).run pins s σ H (fun v H1 => v = .ref f ∧ H1 = H) I ⟨.ref f, hs, rfl, rfl⟩) fun u s1 z => ?_)
    obtain ⟨v, H1, I1, r1, rfl, rfl⟩ := z
    cases r1
    refine PySem.W.callWith_K (h₀ := X.base) I.ok.mod.kin kp (thn (pt.run pos pins s1 σ _ _ I1 ht) fun us s2 z => ?_) st pl
    obtain ⟨vs, H2, I2, r2, q2⟩ := z
    exact ⟨I2.kIn, goG F at_.g (at_.r.mono hk) b .nil at_.tk I2 r2 q2⟩
  · unfold dcallS at q
    cases e0 : ρ[i]? with
    | none => rw [e0] at q; exact q.elim
    | some o =>
      cases o with
      | none => rw [e0] at q; exact q.elim
      | some u =>
        cases u with
        | fn a =>
          rw [e0] at q
          simp only at q
          cases e1 : tab a with
          | none => rw [e1] at q; exact q.elim
          | some g =>
            rw [e1] at q
            obtain ⟨b, h1, hb, _⟩ := ok.readFn e0
            exact ⟨b, a, g, h1, e1, hb, den_call at_.cl (fun vs ρ ρ' e => (ha.len vs ρ ρ' e).trans hn) dt B σ H ρ ws ts Q ok q⟩
        | _ => rw [e0] at q; exact q.elim
end
end DL
end
section
set_option Elab.async false
set_option linter.all false
set_option maxRecDepth 100000
set_option maxHeartbeats 4000000
/-! DLG: a tuple turned about; <= of texts; the built-ins' names. -/
namespace DL
open PySem L2 PySem.Spec

section
variable {prog : Program} {w : World} {A : Around} {E : Value → Shared → Prop} {s : Shared} {t sl : Addr} {its : Array Value}
theorem rev_places (n : Nat) : Builtin.Slice.slicePlaces ((n : Int) - 1) (-1) (-1) = n := by
  unfold Builtin.Slice.slicePlaces
  have h1 : ¬ ((-1 : Int) > 0) := by decide
  rw [if_neg h1]
  by_cases h : (n : Int) - 1 > -1
  · rw [if_pos h]
    have e : ((n : Int) - 1 - -1 - 1) / (- -1) = (n : Int) - 1 := by
      rw [show (- -1 : Int) = 1 by decide, Int.ediv_one]
      omega
    rw [e]
    omega
  · rw [if_neg h]
    omega
theorem rev_pick (xs : Array Value) : ((List.range xs.size).filterMap fun (m : Nat) => xs[((xs.size : Int) - 1 + (m : Int) * -1).toNat]?).toArray = xs.toList.reverse.toArray := by
  congr 1
  have e : (List.range xs.size).filterMap (fun (m : Nat) => xs[((xs.size : Int) - 1 + (m : Int) * -1).toNat]?) = ((List.range xs.size).map fun k => xs.size - 1 - k).filterMap (xs[·]?) := by
    rw [List.filterMap_map]
    have gen : ∀ l : List Nat, l.filterMap (fun (m : Nat) => xs[((xs.size : Int) - 1 + (m : Int) * -1).toNat]?) = l.filterMap ((fun x => xs[x]?) ∘ fun k => xs.size - 1 - k) := fun l => by
      induction l with
      | nil => rfl
      | cons m l ih =>
        have e1 : ((xs.size : Int) - 1 + (m : Int) * -1).toNat = xs.size - 1 - m := by omega
        rw [List.filterMap_cons, List.filterMap_cons, ih, e1]
        rfl
    exact gen _
  rw [e, PySem.W.krv_range, List.filterMap_reverse, PySem.W.krv_all]
theorem getItem_tup_rev {one : Tok} {Q : Value → Shared → Prop} (ht : PyProof.Rows.IsTup s.heap t its) (hs : s.heap.IsSliceOf sl .none .none (.int (-1) one)) (hz : its.size ≤ sizeLine)
    (q : Q (.ref s.heap.objs.size) { s with heap := s.heap.push { cls := .type "tuple", data := .seq its.toList.reverse.toArray } }) : wpAny (model prog w) A (getItem (.ref t) (.ref sl)) Q E s := by
  have okz : sizeOk (.seq its.toList.reverse.toArray) := by
    show its.toList.reverse.toArray.size ≤ sizeLine
    rw [List.size_toArray, List.length_reverse, Array.length_toList]
    exact hz
  obtain ⟨os, g1, g2, g3⟩ := id hs
  have ts : s.TypeIs (.ref sl) "slice" := ⟨os, g1, g2⟩
  unfold getItem
  try with_reducible refine wpAny_holding ?_
  first | refine wpAny_bind (wpAny_pure ?_) | skip
  refine wpAny_bind (wpAny_sequenceKey ht.typeIs (by decide) ?_)
  refine wpAny_bind (wpAny_callSpecial?_slot (name := Str.ofString "__getitem__") ht.typeIs PyProof.Rows.slot_tuple_getitem (wpAny_call_entry PyProof.Rows.slot_tuple_getitem ht.typeIs PyProof.Rows.entry_tuple_getitem ?_ (PyProof.Rows.args_tuple_getitem _ _)))
  show wpAny _ _ (Builtin.Tuple.tupleItemsOf (.ref t) >>= _) _ _ s
  refine wpAny_bind (PyProof.Rows.tupleItemsOf_ ht ?_)
  refine wpAny_bind (wpAny_typeOf ts ?_)
  rw [if_pos (by decide)]
  have app : ∀ {Q' : Int × Int × Nat → Shared → Prop} {A' : Around} {E' : Value → Shared → Prop}, Q' ((its.size : Int) - 1, -1, its.size) s → wpAny (model prog w) A' (Builtin.Slice.sliceApplied (.ref sl) (pure (its.size : Int))) Q' E' s := fun {Q' A' E'} h => by
    unfold Builtin.Slice.sliceApplied Builtin.Slice.sliceFields
    refine wpAny_bind (wpAny_bind (wpAny_field g1 g3 (x := .none) rfl (wpAny_bind (wpAny_field g1 g3 (x := .none) rfl (wpAny_bind (wpAny_field g1 g3 (x := .int (-1) one) rfl (wpAny_pure ?_)))))))
    refine wpAny_bind (PyProof.Rows.slicePart_int ?_)
    show wpAny _ _ (if ((-1 : Int) == 0) = true then _ else _) _ _ s
    rw [if_neg (by decide)]
    refine wpAny_bind (PyProof.Rows.slicePart_none (wpAny_bind (PyProof.Rows.slicePart_none (wpAny_bind (wpAny_pure ?_)))))
    show wpAny _ _ (pure ((its.size : Int) - 1, (-1 : Int), Builtin.Slice.slicePlaces ((its.size : Int) - 1) (-1) (-1))) _ _ s
    rw [rev_places]
    exact wpAny_pure h
  refine wpAny_bind (app ?_)
  show wpAny _ _ (if (((its.size : Int) - 1) == 0 && (-1 : Int) == 1 && its.size == its.size) = true then _ else _) _ _ s
  have no : ¬ ((((its.size : Int) - 1) == 0 && (-1 : Int) == 1 && its.size == its.size) = true) := by
    have : ((-1 : Int) == 1) = false := by decide
    rw [this, Bool.and_false, Bool.false_and]
    decide
  rw [if_neg no, rev_pick]
  first
    | exact wpAny_bind (m := Builtin.Tuple.tupleExact _) (wpAny_newObj_type (wpAny_pure ⟨_, rfl, wpAny_pure q⟩) okz)
    | exact wpAny_bind (m := Builtin.Tuple.tupleExact _) (wpAny_newObj_type (wpAny_bind (wpAny_pure (wpAny_pure ⟨_, rfl, wpAny_pure q⟩))) okz)
    | exact wpAny_bind (wpAny_bind (m := Builtin.Tuple.tupleExact _) (wpAny_newObj_type (wpAny_pure (wpAny_pure ⟨_, rfl, wpAny_pure q⟩)) okz))
    | exact wpAny_bind (wpAny_bind (m := Builtin.Tuple.tupleExact _) (wpAny_newObj_type (wpAny_pure ⟨_, rfl, wpAny_pure q⟩) okz))
end
def tRevT (K : PySem.W.Frag) (te : TE) : TE := fun σ H Q => te σ H fun x H1 => ∃ a xs, x = .ref a ∧ SqT K H1 a xs ∧ ∀ p, H1 p = none → Q (.ref p) (upd H1 p (.tup xs.reverse))
section
variable {X : Cx} {w : Wd} {a : Expr} {fa : M T} {pos p1 p2 p3 : Pos} {k : Nat}
theorem pe_revT {te : TE} (he : PE X a te) : PE X (.Subscript a (.Slice none none (some (.UnaryOp .USub (.Constant (.int 1) k p1) p2)) p3) pos) (tRevT X.K te) := by
  refine ⟨fun pins s σ H Q I h => ?_⟩
  refine PyProof.Rows.Subscript_ (thn (he.run pins s σ H _ I h) fun v s1 z => ?_)
  obtain ⟨x, H1, I1, r1, b, xs, rfl, hx, q⟩ := z
  cases r1
  have hst : PO X (some (.UnaryOp .USub (.Constant (.int 1) k p1) p2)) (tPart (tUn (rU fun i => .int (-i)) (tC (.int 1)))) := po_some (pe_un un_neg pe_int)
  refine wpAny_Slice (thn (po_none.run pins s1 σ H1 (fun o H2 => o = none ∧ H2 = H1) I1 ⟨rfl, rfl⟩) fun vl s2 z => ?_)
  obtain ⟨l, H2, I2, pl, rfl, rfl⟩ := z
  refine thn (po_none.run pins s2 σ H2 (fun o H3 => o = none ∧ H3 = H2) I2 ⟨rfl, rfl⟩) fun vu s3 z => ?_
  obtain ⟨u, H3, I3, pu, rfl, rfl⟩ := z
  refine thn (hst.run pins s3 σ H3 (fun o H4 => o = some (-1) ∧ H4 = H3) I3 ⟨1, rfl, -1, rfl, rfl, rfl⟩) fun vs s4 z => ?_
  obtain ⟨o, H4, I4, ps, rfl, rfl⟩ := z
  cases pl
  cases pu
  cases ps
  rename_i tk
  have I5 : Inv X pins σ H4 { s4 with heap := s4.heap.push { cls := .type "slice", data := .fields #[.none, .none, .int (-1) tk] } } := I4.kept (t' := s4.toks) fun b ob q => Heap.get?_push_of_some _ q
  obtain ⟨its, r, ht, hz⟩ := I5.tuple hx
  have hl := r.length
  refine PyProof.Rows.tail_any (ops := [.ref b, .ref s4.heap.objs.size]) ht.typeIs PyProof.Rows.slot_tuple_getitem.lookup ?_ (by with_unfolding_all rfl)
  refine getItem_tup_rev ht (Heap.IsSliceOf.new _ .none .none (.int (-1) tk)) (by rw [List.size_toArray]; omega) ?_
  refine ⟨.ref _, _, I5.laid (t' := s4.toks) (o := .tup xs.reverse) (fun b ob q => Heap.get?_push_of_some _ q) (Nat.le_refl _) ?_, rfl, q _ (I5.hok.fresh (Nat.le_refl _))⟩
  exact ⟨by rw [List.length_reverse]; exact hz, _, by simpa using r.reverse, PyProof.Rows.IsTup.new _ _⟩
def gRevT : T → Option T
  | .d (.tuple ds) => some (.d (.tuple ds.reverse))
  | _ => none
def drevT (fa : M T) : M T := mbind fa fun x => mopt (gRevT x)
theorem de_revT (ha : DE X w a fa) : DE X w (.Subscript a (.Slice none none (some (.UnaryOp .USub (.Constant (.int 1) k p1) p2)) p3) pos) (drevT fa) := by
  obtain ⟨ta, pa, da⟩ := ha.ex
  refine de_v (pe_revT pa) fun B σ H ρ ws ts Q ok q => ?_
  refine da B σ H ρ ws ts _ ok (q.bind.mono fun v ρ1 p1 x H1 ok1 => ?_)
  obtain ⟨z, e, q3⟩ := p1.opt
  unfold gRevT at e
  split at e
  · cases e
    obtain ⟨I, Fr, Fw, s, r, wz, km⟩ := ok1
    obtain ⟨b, vs, rfl, hb, dd⟩ := tup_items wz
    rename_i ds
    refine ⟨b, vs, rfl, st_mono s.sub hb, fun p hp => q3 _ _ (Ok.inStead (x := .ref b) (t := .d (.tuple ds)) ?_)⟩
    have hI := (s.fresh hp).2.1
    have sm : Same I (upd I p (.tup vs.reverse)) := fun a u e => by rw [upd_ne (ne_of_none e hI)]; exact e
    have nf : ∀ a ∈ Fr ++ Fw, (upd H1 p (.tup vs.reverse)) a = H1 a := fun a z => upd_ne (show a ≠ p from fun e => s.thr a z (by rw [e]; exact hp))
    exact ⟨_, Fr, Fw, s.newD hp, r.mono sm fun a z => nf a (List.mem_append_left _ z), .cons (F := []) (.d (.tup (SqT.of upd_same) (drAll_mono sm dd.reverse))) (wz.mono sm fun a z => nf a (List.mem_append_right _ z)), km⟩
  · cases e
end
/-! ### <= of ints and texts -/
def pLe2 : PyData → PyData → Option PyData
  | .int i, .int j => some (.bool (decide (i ≤ j)))
  | .str a, .str b => some (.bool (leS a b))
  | _, _ => none
def rLe2 : R2 := fun x y H Q => (rI0 fun i j => .bl (decide (i ≤ j))) x y H Q ∨ ∃ i j, x = .str i ∧ y = .str j ∧ Q (.bl (!decide (j.cps.toList < i.cps.toList))) H
theorem op_le2 {X : Cx} : OpR X (compareOp .LtE) rLe2 := OpR.or op_le op_le_str
theorem od_le2 {K : PySem.W.Frag} {m : List Bool} : OpD K m rLe2 (onD pLe2) := OpD.ofD fun B σ H ρ ws ts x y t u v Q ok e q => by
  unfold pLe2 at e
  split at e
  · cases e
    have hy := ok.topInt
    have hx := ok.pop.topInt
    subst hx hy
    exact .inl ⟨_, _, rfl, rfl, q _ _ ok.pop.pop.bl⟩
  · cases e
    have hy := ok.topStr
    have hx := ok.pop.topStr
    subst hx hy
    exact .inr ⟨_, _, rfl, rfl, q _ _ ok.pop.pop.bl⟩
  · cases e
theorem op_lt2 {X : Cx} : OpR X (compareOp .Lt) (fun x y H Q => (rI0 fun i j => .bl (decide (i < j))) x y H Q ∨ ∃ i j, x = .str i ∧ y = .str j ∧ Q (.bl (decide (i.cps.toList < j.cps.toList))) H) := OpR.or op_lt op_lt_str

theorem de_dict0 {X : Cx} {w : Wd} {pos : Pos} : DE X w (.Dict [] [] pos) (mret (.d (.dict []))) := de_v pe_dnewK fun B σ H ρ ws ts Q ok q p hp => q _ _ (ok.new hp fun I _ => .dct0 upd_same)
/-! ### the names -/
theorem bt_len : bootBuiltins "len" = some (.builtin "len") := by decide +kernel
theorem bt_isinstance : bootBuiltins "isinstance" = some (.builtin "isinstance") := by decide +kernel
theorem bt_min : bootBuiltins "min" = some (.builtin "min") := by decide +kernel
theorem bt_max : bootBuiltins "max" = some (.builtin "max") := by decide +kernel
theorem bt_repr : bootBuiltins "repr" = some (.builtin "repr") := by decide +kernel
theorem bt_sorted : bootBuiltins "sorted" = some (.builtin "sorted") := by decide +kernel
theorem bt_all : bootBuiltins "all" = some (.builtin "all") := by decide +kernel
theorem bt_any : bootBuiltins "any" = some (.builtin "any") := by decide +kernel
theorem bt_sum : bootBuiltins "sum" = some (.builtin "sum") := by decide +kernel
theorem bt_int : bootBuiltins "int" = some (.type "int") := by decide +kernel
theorem bt_bool : bootBuiltins "bool" = some (.type "bool") := by decide +kernel
theorem bt_str : bootBuiltins "str" = some (.type "str") := by decide +kernel
theorem bt_list : bootBuiltins "list" = some (.type "list") := by decide +kernel
theorem bt_tuple : bootBuiltins "tuple" = some (.type "tuple") := by decide +kernel
end DL
end
section
set_option Elab.async false
set_option linter.all false
set_option maxRecDepth 100000
set_option maxHeartbeats 4000000
/-! DLH: what the head leaves, in short. -/
namespace DL
open PySem L2

/-- the def st stands under its name -/
structure HasFn (K : PySem.W.Frag) (x : Str) (st : Stmt) : Prop where
  ex : ∃ f fd, PySem.W.nsIn K mainGlobals x = some (some (.ref f)) ∧ Fun K x x st f fd
theorem HasFn.by_ {K : PySem.W.Frag} {x : Str} {st : Stmt} {f : Addr} {oc : Value} {od an : Option Addr} {osl : Array (Option Value)} {kV doc pm cdv ct : Value} (a : PySem.W.nsIn K mainGlobals x = some (some (.ref f)))
    (l : K.lookup f = some ⟨oc, od, .func (PySem.W.fnOf x x (defArgs st) (defBody st) (defScope st) .none kV doc pm an cdv ct), osl⟩) (c : PySem.W.codeIn K cdv x = true) (k : PySem.W.keepIn K (.ref f) = true) : HasFn K x st := ⟨f, _, a, fun_mk l c k⟩
/-- a datum under its name, in the written part -/
structure HasD (K : PySem.W.Frag) (x : Str) (d : PyData) : Prop where
  ex : ∃ u v, PySem.W.nsIn K mainGlobals x = some (some u) ∧ RelV v u ∧ ∀ I, Dr K I v d
theorem HasD.int {K : PySem.W.Frag} {x : Str} {i : Int} {t : Tok} (a : PySem.W.nsIn K mainGlobals x = some (some (.int i t))) : HasD K x (.int i) := ⟨_, .int i, a, ⟨t, rfl⟩, fun _ => .int i⟩
theorem HasD.str {K : PySem.W.Frag} {x : Str} {i : Str} {t : Tok} (a : PySem.W.nsIn K mainGlobals x = some (some (.str i t))) : HasD K x (.str i) := ⟨_, .str i, a, ⟨t, rfl⟩, fun _ => .str i⟩
mutual
/-- a value of the written part as data -/
inductive KD (K : PySem.W.Frag) : Value → PyData → Prop
  | none : KD K .none .none
  | bool (b : Bool) : KD K (.bool b) (.bool b)
  | int (i : Int) (t : Tok) : KD K (.int i t) (.int i)
  | str (x : Str) (t : Tok) : KD K (.str x t) (.str x)
  | tup {a : Addr} {dd : Option Addr} {its : Array Value} {n : Nat} {sl : Array (Option Value)} {ds : List PyData} : K.lookup a = some ⟨.type "tuple", dd, .seq its n, sl⟩ → its.size ≤ sizeLine → KDs K its.toList ds → KD K (.ref a) (.tuple ds)
inductive KDs (K : PySem.W.Frag) : List Value → List PyData → Prop
  | nil : KDs K [] []
  | cons {u : Value} {us : List Value} {d : PyData} {ds : List PyData} : KD K u d → KDs K us ds → KDs K (u :: us) (d :: ds)
end
mutual
theorem KD.dr {K : PySem.W.Frag} : ∀ {u : Value} {d : PyData}, KD K u d → ∃ v, RelV v u ∧ ∀ I, Dr K I v d
  | _, _, .none => ⟨.non, rfl, fun _ => .non⟩
  | _, _, .bool b => ⟨.bl b, rfl, fun _ => .bl b⟩
  | _, _, .int i t => ⟨.int i, ⟨t, rfl⟩, fun _ => .int i⟩
  | _, _, .str x t => ⟨.str x, ⟨t, rfl⟩, fun _ => .str x⟩
  | _, _, .tup e hz h => by
    obtain ⟨vs, rv, dv⟩ := KDs.dr h
    exact ⟨.ref _, rfl, fun I => .tup (.inr ⟨_, _, _, e, rfl, rfl, hz, rv⟩) (dv I)⟩
theorem KDs.dr {K : PySem.W.Frag} : ∀ {us : List Value} {ds : List PyData}, KDs K us ds → ∃ vs, Vals vs us ∧ ∀ I, DrAll K I vs ds
  | _, _, .nil => ⟨[], .nil, fun _ => .nil⟩
  | _, _, .cons h t => by
    obtain ⟨v, r, d⟩ := KD.dr h
    obtain ⟨vs, rs, ds⟩ := KDs.dr t
    exact ⟨v :: vs, .cons r rs, fun I => .cons (d I) (ds I)⟩
end
theorem HasD.kd {K : PySem.W.Frag} {x : Str} {u : Value} {d : PyData} (a : PySem.W.nsIn K mainGlobals x = some (some u)) (h : KD K u d) : HasD K x d := by
  obtain ⟨v, r, dr⟩ := h.dr
  exact ⟨u, v, a, r, dr⟩
theorem TabIs.consD {K : PySem.W.Frag} {e : DictEntry} {es : List DictEntry} {z : Str} {d : PyData} {kvs : List (Str × T)} {k : Tok} (hk : e.key = .str z k) (h : KD K e.val d) (r : TabIs K es kvs) : TabIs K (e :: es) ((z, .d d) :: kvs) := by
  obtain ⟨v, rv, dr⟩ := h.dr
  exact .cons k v hk rv (fun I H => .d (dr I)) r
theorem TabIs.consF {K : PySem.W.Frag} {e : DictEntry} {es : List DictEntry} {z n : Str} {a : Addr} {kvs : List (Str × T)} {k : Tok} (hk : e.key = .str z k) (hv : e.val = .ref a) (h : PySem.W.nsIn K mainGlobals n = some (some (.ref a))) (r : TabIs K es kvs) : TabIs K (e :: es) ((z, .fn n) :: kvs) :=
  .cons k (.ref a) hk hv (fun I H => .fn h) r
/-- a dict of the text under its name -/
structure HasTab (K : PySem.W.Frag) (w : World) (x : Str) (kvs : List (Str × T)) : Prop where
  ex : ∃ (d : Addr) (es : Array DictEntry) (n : Nat), PySem.W.nsIn K mainGlobals x = some (some (.ref d)) ∧ KDict K w d es n ∧ TabIs K es.toList kvs ∧ es.size ≤ sizeLine
theorem HasTab.by_ {K : PySem.W.Frag} {w : World} {x : Str} {kvs : List (Str × T)} {d : Addr} {es : Array DictEntry} {n : Nat} (a : PySem.W.nsIn K mainGlobals x = some (some (.ref d))) (l : K.lookup d = some ⟨.type "dict", none, .dict es n, #[]⟩)
    (kl : PySem.W.KeysLit w.params es.toList) (lo : (d == sysModules) = false) (t : TabIs K es.toList kvs) (hz : es.size ≤ sizeLine) : HasTab K w x kvs := ⟨d, es, n, a, ⟨l, kl, lo⟩, t, hz⟩
/-- a name that the module leaves free -/
structure HasNo (K : PySem.W.Frag) (x : Str) : Prop where
  ex : PySem.W.nsIn K mainGlobals x = some none
section
variable {K : PySem.W.Frag} {w : World} {h : Heap} {mg : Str → Option Value} {x : Str}
theorem HasNo.at (X : K.In h) (G : h.Ns mainGlobals mg) (a : HasNo K x) : mg x = none := PySem.W.mg_none_of X G a.ex
theorem HasD.at {d : PyData} (X : K.In h) (G : h.Ns mainGlobals mg) (a : HasD K x d) : ∃ v u, mg x = some u ∧ RelV v u ∧ ∀ I, Dr K I v d := by
  obtain ⟨u, v, e, r, dr⟩ := a.ex
  exact ⟨v, u, PySem.W.mg_of X G e, r, dr⟩
theorem HasTab.at {kvs : List (Str × T)} (X : K.In h) (G : h.Ns mainGlobals mg) (a : HasTab K w x kvs) : ∃ (d : Addr) (es : Array DictEntry) (n : Nat), mg x = some (.ref d) ∧ KDict K w d es n ∧ TabIs K es.toList kvs ∧ es.size ≤ sizeLine := by
  obtain ⟨d, es, n, e, r, t, z⟩ := a.ex
  exact ⟨d, es, n, PySem.W.mg_of X G e, r, t, z⟩
end
end DL
end
section
set_option Elab.async false
set_option linter.all false
set_option maxRecDepth 100000
set_option maxHeartbeats 4000000
/-! DLI: exceptions of the text: their making, raise. -/
namespace DL
open PySem L2

/-- what an own class's __init__ comes to: its arguments stand as fields -/
def InitSp (C : Addr) (fs : List Str) : Sp := fun vs H Q E => ∃ (a : Addr) (us : List V), vs = .ref a :: us ∧ us.length = fs.length ∧ H a = some (exo a C none) ∧
  ∀ dx, H dx = none → dx ≠ a → Q .non (upd (upd H dx (exd dx (fs.zip us).reverse)) a (exo a C (some dx)))

/-- the stores behind the first one -/
structure Ini (X : Cx) (C : Addr) (fs : List Str) (k : Nat) (sts : List Stmt) : Prop where
  ex : ∃ t, PSs X sts t ∧ ∀ (D : L2.Ends) (σ : L2.St) (H : Hp) (a dx : Addr) (us : List V), σ[0]? = some (some (.ref a)) → (∀ j, j < fs.length → ∃ u, us[j]? = some u ∧ σ[j + 1]? = some (some u)) → us.length = fs.length → a ≠ dx →
    H a = some (exo a C (some dx)) → H dx = some (exd dx ((fs.take k).zip (us.take k)).reverse) → D.nx σ (upd H dx (exd dx (fs.zip us).reverse)) → t D σ H
section
variable {X : Cx} {C : Addr} {fs : List Str} {k : Nat} {sts : List Stmt} {f : Str}
theorem take_all {α : Type} (l : List α) : l.take l.length = l := by rw [List.take_length]
theorem ini_nil (h : fs.length ≤ k) : Ini X C fs k [] := by
  refine ⟨_, pss_nil, fun D σ H a dx us h0 hs hl ne ea ed q => ?_⟩
  rw [List.take_of_length_le h, List.take_of_length_le (by rw [hl]; exact h)] at ed
  show D.nx σ H
  have e : upd H dx (exd dx (fs.zip us).reverse) = H := by
    funext b
    by_cases z : b = dx
    · rw [z, upd_same, ed]
    · rw [upd_ne z]
  rw [e] at q
  exact q
theorem zip_next {fs : List Str} {us : List V} {k : Nat} {f : Str} {u : V} (hf : fs[k]? = some f) (hu : us[k]? = some u) : ((fs.take (k + 1)).zip (us.take (k + 1))).reverse = (f, u) :: ((fs.take k).zip (us.take k)).reverse := by
  have hk := (List.getElem?_eq_some_iff.mp hf).1
  have hk2 := (List.getElem?_eq_some_iff.mp hu).1
  rw [List.take_add_one, List.take_add_one, hf, hu]
  show ((fs.take k ++ [f]).zip (us.take k ++ [u])).reverse = _
  rw [List.zip_append (by rw [List.length_take, List.length_take]; omega)]
  simp
theorem ini_cons (T : OexC X.K C) (hno : ∀ f ∈ fs, PySem.W.findIn X.K (.ref C) f = some none) (hsz : fs.length ≤ 900) (k : Nat) {p1 p2 p3 p4 : Pos} (r : Ini X C fs (k + 1) sts) (hk : fs[k]? = some f := by rfl) (h0 : X.N[0]? = some ("self" : Str) := by rfl) (h1 : X.N[k + 1]? = some f := by rfl)
    (v0 : Vis X.env.scope "self" := by first | exact Or.inl rfl | exact Or.inr (Or.inl rfl)) (v1 : Vis X.env.scope f := by first | exact Or.inl rfl | exact Or.inr (Or.inl rfl)) (n1 : (f == ("__debug__" : Str)) = false := by decide) (n2 : (f == ("__classdict__" : Str)) = false := by decide)
    (hs : swapsWith (.Name f p3) (some (.Attribute (.Name "self" p1) f p2)) p4.line X.env = pure false := by rfl) : Ini X C fs k (.Assign [.Attribute (.Name "self" p1) f p2] (.Name f p3) p4 :: sts) := by
  obtain ⟨t, pt, ht⟩ := r.ex
  refine ⟨_, pss_cons (ps_ost (pe_var (i := 0) h0 v0) (pe_var (i := k + 1) h1 v1 n1 n2) hs) pt, fun D σ H a dx us s0 ss hl ne ea ed q => ?_⟩
  have hkl := (List.getElem?_eq_some_iff.mp hk).1
  obtain ⟨u, hu, hσ⟩ := ss k hkl
  refine ⟨u, hσ, .ref a, s0, a, C, rfl, T, hno f (List.mem_of_getElem? hk), .inr ⟨dx, _, ea, ed, ?_, ?_⟩⟩
  · rw [List.length_reverse, List.length_zip, List.length_take, List.length_take]; omega
  · refine ht D σ _ a dx us s0 ss hl ne (by rw [upd_ne ne]; exact ea) (by rw [upd_same, zip_next hk hu]) ?_
    rw [upd_upd]
    exact q
end
/-- a class of the text whose instances are raised: C, its __init__ -/
structure ExcK (P : Program) (w : World) (K : PySem.W.Frag) (mg : Str → Option Value) (base : Heap) (n : Str) (k : Nat) (fs : List Str) : Prop where
  ex : ∃ (C fI : Addr) (fd : FuncData), mg n = some (.ref C) ∧ OexC K C ∧ PySem.W.findIn K (.ref C) "__init__" = some (some (.ref fI)) ∧ PySem.W.typeIn K (.ref fI) = some (.type "function") ∧
    FnOk P w K mg base (L2.CX P w) k fI fd ("self" :: fs) (InitSp C fs) ∧ Binds K fd ("self" :: fs) []
  ne : fs ≠ []
/-- __init__'s body: the base's own __init__, then the stores -/
structure IniB (X : Cx) (C : Addr) (fs : List Str) (sts : List Stmt) : Prop where
  ex : ∃ t, PSs X sts t ∧ ∀ (D : L2.Ends) (σ : L2.St) (H : Hp) (a : Addr) (us : List V), σ[0]? = some (some (.ref a)) → (∀ j, j < fs.length → ∃ u, us[j]? = some u ∧ σ[j + 1]? = some (some u)) → us.length = fs.length → H a = some (exo a C none) →
    (∀ dx, H dx = none → dx ≠ a → D.nx σ (upd (upd H dx (exd dx (fs.zip us).reverse)) a (exo a C (some dx)))) → t D σ H
section
variable {X : Cx} {C : Addr} {fs : List Str} {k : Nat} {sts : List Stmt} {f : Str} {msg : Str}
theorem upd_comm {H : Hp} {a b : Addr} {o u : HO} (h : a ≠ b) : upd (upd H a o) b u = upd (upd H b u) a o := by
  funext c
  by_cases x : c = a
  · rw [x, upd_ne h, upd_same, upd_same]
  · rw [upd_ne x]
    by_cases y : c = b
    · rw [y, upd_same, upd_same]
    · rw [upd_ne y, upd_ne y, upd_ne x]
theorem inib (T : OexC X.K C) (hno : ∀ f ∈ fs, PySem.W.findIn X.K (.ref C) f = some none) (hsz : fs.length ≤ 900) (hm : X.mg "ValueError" = none) (vV : PySem.W.findCls X.K (.type "ValueError") (.type "type") "__init__" = some (.val (.builtin "ValueError.__init__")))
    {j : Nat} {pl : Sem Bool} {q1 q2 q3 q4 q5 q6 p1 p2 p3 p4 : Pos} (r : Ini X C fs 1 sts) (hk : fs[0]? = some f := by rfl) (h0 : X.N[0]? = some ("self" : Str) := by rfl) (h1 : X.N[1]? = some f := by rfl) (hg : Gl X "ValueError" := by rfl)
    (v0 : Vis X.env.scope "self" := by first | exact Or.inl rfl | exact Or.inr (Or.inl rfl)) (v1 : Vis X.env.scope f := by first | exact Or.inl rfl | exact Or.inr (Or.inl rfl)) (n1 : (f == ("__debug__" : Str)) = false := by decide) (n2 : (f == ("__classdict__" : Str)) = false := by decide)
    (hs : swapsWith (.Name f p3) (some (.Attribute (.Name "self" p1) f p2)) p4.line X.env = pure false := by rfl)
    (hs0 : swapsWith (.Call (.Attribute (.Name "ValueError" q1) "__init__" q2) [.Name "self" q3, .Constant (.str msg) j q4] [] q5) none q6.line X.env = pure false := by rfl)
    (hc : eval (.Call (.Attribute (.Name "ValueError" q1) "__init__" q2) [.Name "self" q3, .Constant (.str msg) j q4] [] q5) X.env = (do
      let ov ← eval (.Name "ValueError" q1) X.env
      standAt q2.atName
      let (f, first) ← holding [ov] (getMethod ov "__init__" pl)
      callWith q5 f first (backTo q5 (starEach [.Name "self" q3, .Constant (.str msg) j q4] X.env)) (backToKw q5 (keywordEach [] X.env))) := by rfl) :
    IniB X C fs (.Expr (.Call (.Attribute (.Name "ValueError" q1) "__init__" q2) [.Name "self" q3, .Constant (.str msg) j q4] [] q5) q6 :: .Assign [.Attribute (.Name "self" p1) f p2] (.Name f p3) p4 :: sts) := by
  obtain ⟨t, pt, ht⟩ := r.ex
  refine ⟨_, pss_cons (ps_expr (pe_veinit hg hm vV (pa_cons (pe_var (i := 0) h0 v0) (pa_cons pe_str pa_nil)) hc) hs0) (pss_cons (ps_ost (pe_var (i := 0) h0 v0) (pe_var (i := 1) h1 v1 n1 n2) hs) pt), fun D σ H a us s0 ss hl ea q => ?_⟩
  have hkl := (List.getElem?_eq_some_iff.mp hk).1
  obtain ⟨u, hu, hσ⟩ := ss 0 hkl
  refine ⟨.ref a, s0, a, C, [.str msg], rfl, by simp, T, ea, ?_⟩
  refine ⟨u, hσ, .ref a, s0, a, C, rfl, T, hno f (List.mem_of_getElem? hk), .inl ⟨ea, fun dx hd ne => ?_⟩⟩
  refine ht D σ _ a dx us s0 ss hl (Ne.symm ne) upd_same ?_ ?_
  · rw [upd_ne ne, upd_same, show (1 : Nat) = 0 + 1 from rfl, zip_next hk hu]
    simp
  · rw [upd_comm (Ne.symm ne), upd_upd]
    exact q dx hd ne
end
section
variable {P : Program} {w : World} {K : PySem.W.Frag} {mg : Str → Option Value} {base : Heap} {k : Nat} {fI : Addr} {fd : FuncData} {fs : List Str} {qual : Str} {st : Stmt} {C : Addr} {CX : CXT}
theorem start_at {N : List Str} {vs : List V} {j : Nat} {v : V} (h : vs[j]? = some v) : (start N vs)[j]? = some (some v) := by
  unfold L2.start
  have hj := (List.getElem?_eq_some_iff.mp h).1
  rw [List.getElem?_append_left (by rw [List.length_map]; exact hj), List.getElem?_map, h]
  rfl
theorem init_ok (U : Fun K "__init__" qual st fI fd) (S : FnScope ("self" :: fs) ("self" :: fs) (defScope st))
    (body : ∀ (cd : Value) (A : Around) (outer : List Env) (s : Shared) (H : Hp) (E : XK), IniB (cxOf CX P w K mg base ("self" :: fs) qual (defScope st) fI cd A outer s H E) C fs (defBody st)) : FnOk P w K mg base CX (k + 1) fI fd ("self" :: fs) (InitSp C fs) := by
  obtain ⟨oc, od, kV, doc, pm, an, cdv, ct, osl, rfl, lk, hcd⟩ := U.ex
  refine fn_of lk hcd S (fun vs H Q E h => ?_) fun A outer s H vs Q E hr h => ?_
  · obtain ⟨a, us, rfl, hl, _⟩ := h
    simp [hl]
  · obtain ⟨a, us, rfl, hl, ea, q⟩ := h
    obtain ⟨t, pt, ht⟩ := (body cdv A outer s H E).ex
    refine ⟨t, pt, ht _ _ _ a us (start_at rfl) (fun j hj => ?_) hl ea fun dx hd ne => q dx hd ne⟩
    rw [← hl] at hj
    exact ⟨us[j], List.getElem?_eq_getElem hj, start_at (by rw [List.getElem?_cons_succ, List.getElem?_eq_getElem hj])⟩
end

/-! ### raise C(e, ..) -/
def xraise (n : Str) (fs : List Str) (o : Option (List PyData)) : M Fl := fun ρ => match o with
  | some ds => if ds.length = fs.length ∧ ds.length ≤ 900 then .ex ⟨n, (fs.zip ds).reverse⟩ ρ else .no
  | none => .no
def sraise (n : Str) (fs : List Str) (fa : M (List T)) : M Fl := mbind fa fun ts => xraise n fs (allD ts)
theorem rev_fst {α β : Type} {as : List α} {bs : List β} (h : bs.length = as.length) : ((as.zip bs).reverse.map (·.1)) = as.reverse := by
  rw [List.map_reverse]
  congr 1
  exact List.map_fst_zip (by omega)
theorem rev_snd {α β : Type} {as : List α} {bs : List β} (h : bs.length = as.length) : ((as.zip bs).reverse.map (·.2)) = bs.reverse := by
  rw [List.map_reverse]
  congr 1
  exact List.map_snd_zip (by omega)
section
variable {X : Cx} {w : Wd} {e : Expr} {es : List Expr} {fa : M (List T)} {os : List (Option Nat)} {k k' : Nat} {n : Str} {p pos pos' : Pos} {fs : List Str}
theorem zip_rev {α β : Type} : ∀ {as : List α} {bs : List β}, bs.length = as.length → (as.zip bs).reverse = as.reverse.zip bs.reverse
  | [], [], _ => rfl
  | [], _ :: _, h => nomatch h
  | _ :: _, [], h => nomatch h
  | a :: as, b :: bs, h => by
    rw [List.zip_cons_cons, List.reverse_cons, List.reverse_cons, List.reverse_cons, zip_rev (by simpa using h), List.zip_append (by simpa using (by simpa using h.symm : as.length = bs.length))]
    rfl
theorem rev_ne {α β : Type} {as : List α} {bs : List β} (h : bs.length = as.length) (h0 : as ≠ []) : (as.zip bs).reverse ≠ [] := fun z => by
  have e := congrArg List.length z
  rw [List.length_reverse, List.length_zip] at e
  apply h0
  apply List.eq_nil_of_length_eq_zero
  have : ([] : List (α × β)).length = 0 := rfl
  omega
theorem Ok.raised {K : PySem.W.Frag} {m : List Bool} {cl : Str → Option Value} {B : Bs} {σ : L2.St} {H : Hp} {ρ : Rho} {ws xs : List V} {ts : List T} {ds : List PyData} {d : Addr} {c : Value} (ok : Ok K m B σ H ρ (xs ++ ws) (ds.map T.d ++ ts)) (hl : xs.length = ds.length) (hf : ds.length = fs.length) (h0 : fs ≠ []) (hd : H d = none) (hc : cl n = some c) :
    OkX K m cl B σ (upd H d (.xd (fs.zip xs).reverse)) ρ ⟨n, (fs.zip ds).reverse⟩ c (some d) := by
  obtain ⟨I, Fr, Fw, s, r, w, km⟩ := ok
  have hI := (s.fresh hd).2.1
  have sm : Same I (upd I d (.xd (fs.zip xs).reverse)) := fun a u e => by rw [upd_ne (ne_of_none e hI)]; exact e
  have s2 := s.newD (o := .xd (fs.zip xs).reverse) hd
  refine ⟨_, Fr, xs.reverse, s2.less (fun a m => List.mem_append_left _ m) (List.nodup_append.mp s.nd).1, r.mono sm fun a z => upd_ne (show a ≠ d from fun e => s.thr a (List.mem_append_left _ z) (by rw [e]; exact hd)), km, hc, ⟨fun _ => ⟨d, rfl, ?_⟩, fun z => absurd z (rev_ne hf h0)⟩, ?_⟩
  · rw [upd_same, rev_fst hf, zip_rev (by omega)]
  · rw [rev_snd hf]
    exact (drAll_mono sm (drAll_pending hl w)).reverse
theorem ds_raise (D : ExcK X.prog X.w X.K X.mg X.base n k fs) (at_ : At X w k') (ha : DA X w (e :: es) os fa) (hk : k + 1 ≤ k' := by decide) (hg : Gl X n := by rfl) (hdb : (n == ("__debug__" : Str)) = false := by decide)
    (st : starEach (e :: es) X.env = (false, eval e X.env) :: starEach es X.env := by rfl) (pl : (backTo pos (starEach es X.env)).any (·.1) = false := by rfl) : DS X w (.Raise (some (.Call (.Name n p) (e :: es) [] pos)) none pos') (sraise n fs fa) := by
  obtain ⟨C, fI, fd, hm, T, iC, tI, F, b⟩ := D.ex
  obtain ⟨t, pt, dt⟩ := ha.ex
  refine ⟨_, ps_raise at_.ca at_.tk (pmk_oex T iC tI F (at_.r.mono hk) b .nil (fun _ _ _ _ _ _ _ h => ?_) hg hm pt hdb st pl), fun B σ H ρ ws ts D' ok q => ?_⟩
  · obtain ⟨_, _, _, _, _, _, _, _, _, _, _, _, z⟩ := h
    exact z.elim
  · refine dt B σ H ρ ws ts _ ok (PostG.mono (PostG.bind q) fun vs ρ1 q1 xs H1 hl ok1 _ => ?_)
    have q1 : PostG X.K w B (xraise n fs (allD vs) ρ1) (PostS X.K w B ws ts D') := q1
    unfold xraise at q1
    cases e1 : allD vs with
    | none => rw [e1] at q1; exact False.elim q1
    | some ds =>
      rw [e1] at q1
      by_cases hz : ds.length = fs.length ∧ ds.length ≤ 900
      · simp only [if_pos hz] at q1
        have qq : ∀ c d σ' H', OkX X.K w.m w.cl B σ' H' ρ1 ⟨n, (fs.zip ds).reverse⟩ c d → w.W c d σ' H' := q1
        have hv := allD_eq e1
        subst hv
        rw [List.length_map] at hl
        refine ⟨by omega, fun a na => ⟨a, xs, by rw [List.append_nil], by omega, upd_same, fun dx hd ne => ⟨rfl, dx, (fs.zip xs).reverse, upd_same, ?_, ?_, ?_⟩⟩⟩
        · rw [upd_ne ne, upd_same]
        · rw [upd_ne ne] at hd; exact hd
        · rw [upd_ne ne] at hd
          have e3 : upd (del (upd (upd (upd H1 a (exo a C none)) dx (exd dx (fs.zip xs).reverse)) a (exo a C (some dx))) a) dx (.xd (fs.zip xs).reverse) = upd H1 dx (.xd (fs.zip xs).reverse) := by
            funext c
            by_cases x : c = dx
            · rw [x, upd_same, upd_same]
            · rw [upd_ne x, upd_ne x]
              by_cases y : c = a
              · rw [y, del_same, na]
              · rw [del_ne y, upd_ne y, upd_ne x, upd_ne y]
          rw [e3]
          exact qq _ _ _ _ (ok1.raised hl hz.1 D.ne hd (by rw [at_.cl]; exact hm))
      · simp only [if_neg hz] at q1
        exact False.elim (show False from q1)
end
end DL
end
section
set_option Elab.async false
set_option linter.all false
set_option maxRecDepth 100000
set_option maxHeartbeats 4000000
/-! DLJ: try: .. except C as e: .., the caught exception a tree. -/
namespace DL
open PySem L2

section
variable {X : Cx} {pins : List (Addr × Obj)} {σ : L2.St} {H : Hp} {s : Shared}
theorem exq_ok {P : Program} {w : World} {h : Heap} {a : Addr} {oe : Obj} (e : h.get? a = some oe) : ObjOk P w H h a (exq a oe) := ⟨e, ⟨_, e⟩, fun _ _ z k => k _ z⟩
/-- an object that stands, new against the entry, is tracked as it is -/
theorem Inv.track (I : Inv X pins σ H s) {a : Addr} {oe : Obj} {vs : Array Value} (he : s.heap.get? a = some oe) (hd : oe.data = .fields vs) (na : H a = none) (nL : a ≠ X.env.locals) (n0 : X.s_0.heap.get? a = none) (np : ∀ p ∈ X.pn ++ pins, p.1 ≠ a) :
    Inv X pins σ (upd H a (exq a oe)) s := by
  have ne : ∀ {b : Addr} {u : HO}, H b = some u → b ≠ a := fun {b u} z e => by rw [e, na] at z; cases z
  refine ⟨I.ok, I.os, I.bare, ⟨I.base.keep, I.base.slot, fun b o z1 z2 z3 => ?_, I.base.there, fun b xs z => ?_, fun b o u z => ?_, fun b ps z => ?_⟩, I.loc, I.cell, ?_, fun x c z => ?_, fun p hp => ?_, fun b o z => ?_, I.len⟩
  · have : b ≠ a := fun e => by rw [e, n0] at z1; cases z1
    rw [upd_ne this]
    exact I.base.free b o z1 z2 z3
  · have q := I.base.tups b xs z
    rw [upd_ne (ne q)]; exact q
  · have q := I.base.frzs b o u z
    rw [upd_ne (ne q)]; exact q
  · obtain ⟨more, q⟩ := I.base.tbls b ps z
    exact ⟨more, by rw [upd_ne (ne q)]; exact q⟩
  · rw [upd_ne (Ne.symm nL)]; exact I.free
  · have : c ≠ a := fun e => by
      obtain ⟨v, ic⟩ := I.cell x c z
      obtain ⟨oc, h1, h2⟩ := ic
      rw [e, he] at h1
      cases h1
      rw [hd] at h2
      cases h2
    rw [upd_ne this]
    exact I.freeC x c z
  · obtain ⟨h1, h2, h3, h4, h5⟩ := I.pin p hp
    exact ⟨h1, by rw [upd_ne (np p hp)]; exact h2, h3, h4, h5⟩
  · by_cases q : b = a
    · subst q
      rw [upd_same] at z
      cases z
      exact exq_ok he
    · rw [upd_ne q] at z
      exact (I.hok b o z).stay (fun c u _ y => y) (fun c y => by rw [upd_ne (ne y)]; exact y) fun c xs y => by rw [upd_ne (ne y)]; exact y
theorem Inv.toSuite (I : Inv X pins σ H s) (a : Addr) : Inv (X.suite a (X.pn ++ pins)) [] σ H s :=
  ⟨I.ok.suite _ _, I.os, I.bare, I.base, I.loc, I.cell, I.free, I.freeC, fun p hp => I.pin p (by rwa [List.append_nil] at hp), I.hok, I.len⟩
theorem Inv.ofSuite {a : Addr} (I : Inv (X.suite a (X.pn ++ pins)) [] σ H s) (ok : X.Ok) : Inv X pins σ H s :=
  ⟨ok, I.os, I.bare, I.base, I.loc, I.cell, I.free, I.freeC, fun p hp => I.pin p (by rw [List.append_nil]; exact hp), I.hok, I.len⟩
end

/-- what is wanted behind a suite whose name goes -/
def clrE (D : L2.Ends) (i : Nat) : L2.Ends := { nx := fun σ H => D.nx (σ.set i none) H, rt := D.rt, bk := fun σ H => D.bk (σ.set i none) H, ct := fun σ H => D.ct (σ.set i none) H }
/-- what the clause wishes of the body's exceptions -/
def wTry (X : Cx) (c : Value) (i : Nat) (suite : List Stmt) (D : L2.Ends) : WX := fun cls d σ H => PySem.W.exmOne X.K cls c = some true ∧
  ∀ (a : Addr) (oe : Obj) (pn : List (Addr × Obj)), H a = none → Zc cls d oe → (∃ vs, oe.data = .fields vs) → ∃ ts, PSs (X.suite a pn) suite ts ∧ ts (clrE D i) (σ.set i (some (.ref a))) (upd H a (exq a oe))
def tTry (X : Cx) (c : Value) (i : Nat) (body suite : List Stmt) : TS := fun D σ H => ∀ (pn : List (Addr × Obj)) (xe : Value → Shared → Prop), Takes (X.tr pn xe) (wTry X c i suite D) → PassesOwn (model X.prog X.w) X.A X.env xe →
  ∃ t, PSs (X.tr pn xe) body t ∧ t D σ H
section
variable {X : Cx} {x n : Str} {c : Value} {i : Nat} {body suite : List Stmt} {b₀ : Stmt} {np pos pos' : Pos}
theorem try_body {E : Value → Shared → Prop} {pins : List (Addr × Obj)} {σ : L2.St} {H : Hp} {s : Shared} {D : L2.Ends} (I : Inv X pins σ H s) (h : tTry X c i body suite D σ H) (tk : Takes (X.tr (X.pn ++ pins) E) (wTry X c i suite D)) (po : PassesOwn (model X.prog X.w) X.A X.env E) :
    wpAny (model X.prog X.w) X.A (execs body X.env) (SP (X.tr (X.pn ++ pins) E) [] D) E s := by
  obtain ⟨t, pt, ht⟩ := h _ _ tk po
  exact pt.run [] s σ H D (I.toTry _) ht
theorem ps_tryE (hs : X.stack = X.env :: X.outer) (hf : X.env.frame = some X.env.locals) (hex : X.ex = []) (hN : X.N.Nodup) (hi : X.N[i]? = some n) (hln : X.env.kindOf n = some .local) (hc : Names X x c) :
    PS X (.Try body [.ExceptHandler (some (.Name x np)) (some n) (b₀ :: suite) pos'] [] [] pos) (tTry X c i body (b₀ :: suite)) := by
  refine ⟨fun pins s σ H D I h => ?_⟩
  have ok := I.ok
  have hfr : X.A.frames = some (X.env :: X.outer) := by rw [ok.frames, hs]
  refine wpAny_Try_except (thn (try_body I h (fun u s' xx => ?_) PassesOwn.looking) fun f s1 hsp => ?_)
  · obtain ⟨a, G, sI, pj, σ', H', cls, d, rfl, J', nb, up, sky, na, os, ag, hb1, hyes⟩ := xx
    have J : Inv X pins σ' H' sI := J'.ofTry ok
    have sky2 : Sky G (X.env :: X.outer) a (Zc cls d) X.env.locals s'.heap := by
      have z := sky
      rw [hs] at z
      exact z
    show wpAny (model X.prog X.w) X.A (noteFrame (.ref a) X.env) _ _ _
    refine Sky.land Zc.steady hfr hf sky2 fun h3 fl3 up3 => ?_
    have J3 : Inv X pins σ' H' { s' with heap := h3 } := J.landed nb fl3.1 (up.trans up3) os ag
    obtain ⟨o3, v3, g3, z3, d3⟩ := fl3.there
    have out : ∀ {h : Heap} {o : Obj} {vs : Array Value}, h.FunFrames G (X.env :: X.outer) → h.get? a = some o → o.data = .fields vs → a ∉ frs (X.env :: X.outer) := fun {h o vs} ff e dd hm => by
      obtain ⟨_, o2, e2, nd⟩ := ff.mem hm
      cases e.symm.trans e2
      exact nd _ dd
    have nfr := out fl3.2.2.1 g3 d3
    have nL : a ≠ X.env.locals := fun z => nfr (List.mem_filterMap.mpr ⟨X.env, List.mem_cons_self, by rw [hf, z]⟩)
    have nI : sI.heap.get? a = none := by
      cases e : sI.heap.get? a with
      | none => rfl
      | some o =>
        have := nb a o e (by show a ∉ frs X.stack; rw [hs]; exact nfr)
        rw [fl3.2.1] at this
        cases this
    have n0 : X.s_0.heap.get? a = none := by
      cases e : X.s_0.heap.get? a with
      | none => rfl
      | some o =>
        obtain ⟨o', e'⟩ := J.base.there a o e (by rw [hex]; simp)
        rw [nI] at e'
        cases e'
    have npin : ∀ p ∈ X.pn ++ pins, p.1 ≠ a := fun p hp e => by
      have := (J.pin p hp).1
      rw [e, nI] at this
      cases this
    refine wpAny_handleBy_cons (codeAny_handlers_test ?_) (by intro q; cases q)
    have LT : PySem.W.Looks (model X.prog X.w) h3 (typeOf (.ref a)) cls := fun A Q E s k q => wpAny_typeOf_ref (k _ _ g3) (by rw [z3.1]; exact q)
    have LM := PySem.W.exm_one (M := model X.prog X.w) J3.kIn LT hb1
    have S3 := Inv.toSuite J3 a
    have test : ∀ {Q : Value → Shared → Prop} {E : Value → Shared → Prop}, Q c { s' with heap := h3 } → wpAny (model X.prog X.w) (X.A.mark (some (.ref a))) (eval (.Name x np) X.env) Q E { s' with heap := h3 } := fun {Q E} q => by
      obtain ⟨hg, hdbg, hm | ⟨hm, hv, hnn⟩⟩ := hc
      · exact ld_glob (X := X.suite a (X.pn ++ pins)) S3 hg hm q hdbg
      · exact ld_blt (X := X.suite a (X.pn ++ pins)) S3 hg hm hv q hnn hdbg
    refine test (LM.here ?_)
    refine codeAny_handlers_suite_as (HandSPX.lands_againZ fl3 fun h4 fl4 up4 => ?_)
    have J4 : Inv X pins σ' H' { s' with heap := h4 } := J.landed nb fl4.1 ((up.trans up3).trans up4) os ag
    obtain ⟨o4, v4, g4, z4, d4⟩ := fl4.there
    have S4 := Inv.toSuite (Inv.track J4 g4 d4 na nL n0 npin) a
    obtain ⟨ts, pts, hts⟩ := hyes a o4 (X.pn ++ pins) na z4 ⟨_, d4⟩
    refine store_ok (X := X.suite a (X.pn ++ pins)) (v := .ref a) S4 hN hi (.inl hln) rfl (fun s5 S5 => ?_) (.inr hln)
    refine wpAny_mono (pts.run [] s5 _ _ _ S5 hts) (fun f s6 hsp => ?_) fun _ _ z => False.elim z
    cases f with
    | next =>
      obtain ⟨σ6, H6, S6, q6⟩ := hsp
      exact gone_ok (Inv.ofSuite S6 ok) hN hi hln fun s7 J7 => ⟨_, _, J7, q6⟩
    | brk =>
      obtain ⟨σ6, H6, S6, q6⟩ := hsp
      exact gone_ok (Inv.ofSuite S6 ok) hN hi hln fun s7 J7 => ⟨_, _, J7, q6⟩
    | cont =>
      obtain ⟨σ6, H6, S6, q6⟩ := hsp
      exact gone_ok (Inv.ofSuite S6 ok) hN hi hln fun s7 J7 => ⟨_, _, J7, q6⟩
    | ret u =>
      obtain ⟨v6, σ6, H6, S6, r6, q6⟩ := hsp
      exact gone_ok (Inv.ofSuite S6 ok) hN hi hln fun s7 J7 => ⟨_, _, _, J7, r6, q6⟩
  · cases f with
    | next =>
      obtain ⟨σ2, H2, J2, q⟩ := hsp
      exact wpAny_execs_nil ⟨σ2, H2, J2.ofTry ok, q⟩
    | brk =>
      obtain ⟨σ2, H2, J2, q⟩ := hsp
      exact ⟨σ2, H2, J2.ofTry ok, q⟩
    | cont =>
      obtain ⟨σ2, H2, J2, q⟩ := hsp
      exact ⟨σ2, H2, J2.ofTry ok, q⟩
    | ret u =>
      obtain ⟨v, σ2, H2, J2, r, q⟩ := hsp
      exact ⟨v, σ2, H2, J2.ofTry ok, r, q⟩
end
end DL
end
section
set_option Elab.async false
set_option linter.all false
set_option maxRecDepth 100000
set_option maxHeartbeats 4000000
/-! DLK: try as a denotation; what is asked of a caught exception. -/
namespace DL
open PySem L2

/-- what a part of the state's own objects comes to, joined to the rest -/
theorem Sit.join {B : Bs} {I H I' H' : Hp} {Fr Fw F' : List Addr} {z : L2.St} (s : Sit B I H (Fr ++ Fw)) (s' : Sit ⟨I, H, Fr, z⟩ I' H' F') : Sit B I' H' (F' ++ Fw) ∧ (∀ a ∈ Fw, H' a = H a) ∧ Same I I' := by
  have nd := s.nd
  have notA : ∀ a ∈ Fw, a ∉ Fr := fun a m mA => (List.nodup_append.mp nd).2.2 a mA a m rfl
  have inF : ∀ a ∈ Fw, a ∈ Fr ++ Fw := fun a m => List.mem_append_right _ m
  have inA : ∀ a ∈ Fr, a ∈ Fr ++ Fw := fun a m => List.mem_append_left _ m
  have stay : ∀ a ∈ Fw, H' a = H a := fun a m => by
    cases e : H a with
    | none => exact absurd e (s.thr a (inF a m))
    | some o => exact s'.keep a o (notA a m) e
  have free : ∀ a ∈ Fw, I' a = none := fun a m => by
    cases e : I' a with
    | none => rfl
    | some o =>
      rcases s'.new a o e with h | h | h
      · have h' : I a = some o := h
        rw [s.own a (inF a m)] at h'; cases h'
      · exact absurd h (s.thr a (inF a m))
      · exact absurd h (notA a m)
  have far : ∀ a ∈ F', a ∉ Fw := fun a m m' => by
    rcases s'.fr a m with h | h
    · exact notA a m' h
    · exact s.thr a (inF a m') h
  refine ⟨⟨s'.sub, fun a u e => s'.ext a u (s.ext a u e), fun a u n e => ?_, fun a u e => ?_, fun a m => ?_, fun a m => ?_, fun a m => ?_, List.nodup_append.mpr ⟨s'.nd, (List.nodup_append.mp nd).2.1, fun a m b m' e => far a m (e ▸ m')⟩⟩, stay, s'.ext⟩
  · by_cases mA : a ∈ Fr
    · rcases s.fr a (inA a mA) with h | h
      · exact absurd h n
      · rw [h] at e; cases e
    · exact s'.keep a u mA (s.keep a u n e)
  · rcases s'.new a u e with h | h | h
    · exact s.new a u h
    · by_cases q : a ∈ B.F
      · exact .inr (.inr q)
      · refine .inr (.inl ?_)
        cases e2 : B.H a with
        | none => rfl
        | some o =>
          have h' : H a = none := h
          rw [s.keep a o q e2] at h'; cases h'
    · rcases s.fr a (inA a h) with h | h
      · exact .inr (.inr h)
      · exact .inr (.inl h)
  · rcases List.mem_append.mp m with m | m
    · rcases s'.fr a m with h | h
      · exact s.fr a (inA a h)
      · by_cases q : a ∈ B.F
        · exact .inl q
        · refine .inr ?_
          cases e2 : B.H a with
          | none => rfl
          | some o =>
            have h' : H a = none := h
            rw [s.keep a o q e2] at h'; cases h'
    · exact s.fr a (inF a m)
  · rcases List.mem_append.mp m with m | m
    · exact s'.own a m
    · exact free a m
  · rcases List.mem_append.mp m with m | m
    · exact s'.thr a m
    · rw [stay a m]; exact s.thr a (inF a m)
section
variable {K : PySem.W.Frag} {m : List Bool} {B : Bs} {σ σ' : L2.St} {I H H' : Hp} {ρ ρ' : Rho} {ws vs : List V} {ts us : List T} {Fr Fw : List Addr}
/-- the entry without what is pending -/
theorem Ok.alone (s : Sit B I H (Fr ++ Fw)) (r : RepR K I H σ ρ Fr) (km : Kept m B σ) : Ok K m ⟨I, H, Fr, B.s⟩ σ H ρ [] [] :=
  ⟨I, Fr, [], by rw [List.append_nil]; exact ⟨s.sub, Same.refl _, fun a o _ z => z, fun a o z => .inl z, fun a z => .inl z, fun a z => s.own a (List.mem_append_left _ z), fun a z => s.thr a (List.mem_append_left _ z), (List.nodup_append.mp s.nd).1⟩, r, .nil, km⟩
theorem Ok.framed (s : Sit B I H (Fr ++ Fw)) (hw : RepTs K I H ws ts Fw) (q : Ok K m ⟨I, H, Fr, B.s⟩ σ' H' ρ' vs us) : Ok K m B σ' H' ρ' (vs ++ ws) (us ++ ts) := by
  obtain ⟨I', F1, F2, s', r', w', km⟩ := q
  obtain ⟨S, st, sm⟩ := s.join s'
  obtain ⟨E, q1, rfl⟩ := RepTs.append w' (hw.mono sm st)
  exact ⟨I', F1, _, by rw [← List.append_assoc]; exact S, r', q1, km⟩
end

/-- a class of the text, as an except clause and its instances ask of it -/
structure ClsX (K : PySem.W.Frag) (mg : Str → Option Value) (n : Str) : Prop where
  ex : ∃ C : Addr, PySem.W.nsIn K mainGlobals n = some (some (.ref C)) ∧ mg n = some (.ref C) ∧ PySem.W.exmOne K (.ref C) (.ref C) = some true
def stry (n : Str) (i : Nat) (F G : M Fl) : M Fl := fun ρ => match F ρ with
  | .ok fl ρ' => .ok fl ρ'
  | .ex e ρ' => if e.C = n then (match G (ρ'.set i (some (.exc e.C e.fs))) with
    | .ok fl ρ'' => .ok fl (ρ''.set i none)
    | _ => .no) else .no
  | .no => .no
section
variable {X : Cx} {w : Wd} {k : Nat} {x n : Str} {i : Nat} {body suite : List Stmt} {b₀ : Stmt} {np pos pos' : Pos} {F G : M Fl}
theorem ds_try (i : Nat) (at_ : At X w k) (hN : X.N.Nodup) (hcl : ClsX X.K X.mg x) (hb : ∀ (pn : List (Addr × Obj)) (xe : Value → Shared → Prop) (W : WX), At (X.tr pn xe) { w with W := W } k → DSs (X.tr pn xe) { w with W := W } body F)
    (hsu : ∀ (a : Addr) (pn : List (Addr × Obj)), DSs (X.suite a pn) w.nx (b₀ :: suite) G) (hm : NotM w i := by intro h; cases h) (hi : X.N[i]? = some n := by rfl) (hln : X.env.kindOf n = some .local := by rfl) (hg : Gl X x := by rfl)
    (hs : X.stack = X.env :: X.outer := by rfl) (hf : X.env.frame = some X.env.locals := by rfl) (hex : X.ex = [] := by rfl) (hdb : (x == ("__debug__" : Str)) = false := by decide) :
    DS X w (.Try body [.ExceptHandler (some (.Name x np)) (some n) (b₀ :: suite) pos'] [] [] pos) (stry x i F G) := by
  obtain ⟨C, hns, hmg, hex1⟩ := hcl.ex
  refine ⟨_, ps_tryE (c := .ref C) hs hf hex hN hi hln ⟨hg, hdb, .inl hmg⟩, fun B σ H ρ ws ts D ok p => ?_⟩
  obtain ⟨I, Fr, Fw, s, r, hw, km⟩ := ok
  intro pn xe tk po
  obtain ⟨t, pt, dt⟩ := (hb pn xe (wTry X (.ref C) i (b₀ :: suite) D) ⟨at_.g, at_.r, tk, at_.cl, at_.ca, po⟩).ex
  refine ⟨t, pt, dt ⟨I, H, Fr, B.s⟩ σ H ρ [] [] D (Ok.alone s r km) ?_⟩
  unfold stry at p
  cases eF : F ρ with
  | no => rw [eF] at p; exact False.elim p
  | ok fl ρ1 =>
    rw [eF] at p
    cases fl with
    | nx => exact fun σ1 H1 q => p σ1 H1 (Ok.framed s hw q)
    | rt v => exact fun x1 σ1 H1 q => p x1 σ1 H1 (Ok.framed s hw q)
    | bk => exact fun σ1 H1 q => p σ1 H1 (Ok.framed s hw q)
    | ct => exact fun σ1 H1 q => p σ1 H1 (Ok.framed s hw q)
  | ex e ρ1 =>
    rw [eF] at p
    intro c d σ1 H1 okx
    simp only at p
    by_cases hC : e.C = x
    · rw [if_pos hC] at p
      obtain ⟨I1, F1, us, s1, r1, km1, hc, hd, hf1⟩ := okx
      have ec : c = .ref C := by
        have z : w.cl e.C = some c := hc
        rw [at_.cl, hC, hmg] at z
        exact (Option.some.inj z).symm
      subst ec
      refine ⟨hex1, fun a oe pn2 na hz hfl => ?_⟩
      obtain ⟨ts2, pts, dts⟩ := (hsu a pn2).ex
      refine ⟨ts2, pts, ?_⟩
      obtain ⟨S, st, sm⟩ := s.join s1
      have hI := (S.fresh na).2.1
      have sm2 : Same I1 (upd I1 a (exq a oe)) := fun b u q => by rw [upd_ne (ne_of_none q hI)]; exact q
      have nf : ∀ b ∈ F1 ++ Fw, (upd H1 a (exq a oe)) b = H1 b := fun b z => upd_ne (show b ≠ a from fun q => S.thr b z (by rw [q]; exact na))
      have ea : ExcAt X.K (upd I1 a (exq a oe)) a e.C e.fs := by
        refine ⟨oe, C, us, upd_same, hz.1, hfl, fun z => ?_, fun z => ?_, drAll_mono sm2 hf1, by rw [hC]; exact hns⟩
        · obtain ⟨d', q1, q2⟩ := hd.1 z
          exact ⟨d', by rw [hz.2]; exact q1, sm2 _ _ q2⟩
        · rw [hz.2]; exact hd.2 z
      obtain ⟨F2, R2, r2, pm⟩ := RepR.put (i := i) (r1.mono sm2 fun b z => nf b (List.mem_append_left _ z)) (.exc (H := upd H1 a (exq a oe)) ea)
      rw [List.append_nil] at pm
      have ok2 : Ok X.K w.m B (σ1.set i (some (.ref a))) (upd H1 a (exq a oe)) (ρ1.set i (some (.exc e.C e.fs))) ws ts := by
        refine ⟨_, F2, Fw, (S.newD na).sub' (R := R2) ?_, r2, (hw.mono sm fun b z => st b z).mono sm2 fun b z => nf b (List.mem_append_right _ z), fun j hj => ?_⟩
        · have e1 : List.Perm (F2 ++ Fw ++ R2) (F2 ++ R2 ++ Fw) := by
            rw [List.append_assoc, List.append_assoc]
            exact List.Perm.append_left _ List.perm_append_comm
          exact e1.trans (List.Perm.append_right _ pm)
        · have : i ≠ j := fun q => hm (q ▸ hj)
          rw [List.getElem?_set_ne this]
          exact km1 j hj
      refine dts B _ _ _ ws ts _ ok2 ?_
      cases eG : G (ρ1.set i (some (.exc e.C e.fs))) with
      | no => rw [eG] at p; exact False.elim p
      | ex e2 ρ2 => rw [eG] at p; exact False.elim p
      | ok fl ρ2 =>
        rw [eG] at p
        cases fl with
        | nx => exact fun σ3 H3 q => p _ _ (q.clear hm none)
        | rt v => exact fun x3 σ3 H3 q => p x3 _ _ (q.clear hm none)
        | bk => exact fun σ3 H3 q => p _ _ (q.clear hm none)
        | ct => exact fun σ3 H3 q => p _ _ (q.clear hm none)
    · rw [if_neg hC] at p
      exact False.elim p
end

/-! ### x is None -/
def tIs : T → T → Option T
  | .exc _ _, .d .none => some (.d (.bool false))
  | t, u => onD pIs t u
def tIsNot : T → T → Option T
  | .exc _ _, .d .none => some (.d (.bool true))
  | t, u => onD pIsNot t u
section
variable {K : PySem.W.Frag} {m : List Bool}
theorem Ok.topExc {B : Bs} {σ : L2.St} {H : Hp} {ρ : Rho} {ws : List V} {ts : List T} {x : V} {n : Str} {fs : List (Str × PyData)} (h : Ok K m B σ H ρ (x :: ws) (.exc n fs :: ts)) : ∃ a, x = .ref a ∧ ExcAt K H a n fs := by
  obtain ⟨I, Fr, Fw, s, r, w, km⟩ := h
  cases w with
  | cons a b =>
    cases a with
    | exc q => exact ⟨_, rfl, q.mono s.sub⟩
theorem od_isX : OpD K m (fun x y H Q => (y = .non ∧ Q (.bl (decide (x = .non))) H) ∨ rIsB x y H Q) tIs := fun B σ H ρ ws ts x y t u v Q ok e q => by
  unfold tIs at e
  split at e
  · cases e
    have hy := ok.topNon
    obtain ⟨a, rfl, _⟩ := ok.pop.topExc
    exact .inl ⟨hy, q _ _ ok.pop.pop.bl⟩
  · exact od_is B σ H ρ ws ts x y t u v Q ok e q
theorem od_isNotX : OpD K m (fun x y H Q => (y = .non ∧ Q (.bl (!decide (x = .non))) H) ∨ rNotB x y H Q) tIsNot := fun B σ H ρ ws ts x y t u v Q ok e q => by
  unfold tIsNot at e
  split at e
  · cases e
    have hy := ok.topNon
    obtain ⟨a, rfl, _⟩ := ok.pop.topExc
    exact .inl ⟨hy, q _ _ ok.pop.pop.bl⟩
  · exact od_isNot B σ H ρ ws ts x y t u v Q ok e q
end

/-! ### isinstance(e, C) -/
/-- the classes of the text that stand under names, as isinstance asks of their instances -/
structure ExcN (K : PySem.W.Frag) (n : Str) : Prop where
  ex : ∃ D : Addr, PySem.W.nsIn K mainGlobals n = some (some (.ref D)) ∧ PySem.W.findIn K (.ref D) "__getattribute__" = some (some (.builtin "BaseException.__getattribute__")) ∧ (∃ gt, PySem.W.findIn K (.ref D) "__getattr__" = some gt) ∧
    PySem.W.subIn K (.ref D) (.type "BaseException") = some true ∧ (PySem.W.clsIn K D).isSome = true ∧ PySem.W.findIn K (.ref D) "__class__" = some (some (.builtin "object.__class__")) ∧
    PySem.W.specialIn K (.builtin "object.__class__") "__get__" = some (some (.builtin "getset_descriptor.__get__")) ∧ PySem.W.takesIn K (.builtin "object.__class__") = some true ∧ PySem.W.mroIn K D (.type "object") = some true
/-- what stands behind a class's name -/
def clsT (K : PySem.W.Frag) : T → V → Value → Prop
  | .fn m, v, u => ∃ C, PySem.W.nsIn K mainGlobals m = some (some (.ref C)) ∧ v = .ref C ∧ u = .ref C
  | .ty m, v, u => v = .ty m ∧ u = .type m
  | _, _, _ => False
/-- one answer: an instance of n, asked for the class t -/
def IsaOne (K : PySem.W.Frag) (n : Str) (t : T) (b : Bool) : Prop := ExcN K n ∧ ∃ D u v, PySem.W.nsIn K mainGlobals n = some (some (.ref D)) ∧ clsT K t v u ∧ PySem.W.kitOne K (.ref D) u = some b
def sameT : T → T → Bool
  | .fn a, .fn b => decide (a = b)
  | .ty a, .ty b => decide (a = b)
  | _, _ => false
def isaGet (tab : List (Str × T × Bool)) (n : Str) (t : T) : Option Bool := (tab.find? fun q => decide (q.1 = n) && sameT q.2.1 t).map fun q => q.2.2
def gIsiX (tab : List (Str × T × Bool)) : List T → Option T
  | [.exc n _, t] => (isaGet tab n t).map fun b => .d (.bool b)
  | us => gIsi us
def rIsiE (K : PySem.W.Frag) : List V → Hp → VK → Prop := fun xs H Q => ∃ (a D : Addr) (oe : Obj) (od : Option Addr) (c : V) (cv : Value) (b : Bool) (n : Str), xs = [.ref a, c] ∧ H a = some (exq a oe) ∧ oe.cls = .ref D ∧ (∃ ws, oe.data = .fields ws) ∧ oe.dict = od ∧
  (∀ d, od = some d → ∃ fs, H d = some (.xd fs)) ∧ ExcN K n ∧ PySem.W.nsIn K mainGlobals n = some (some (.ref D)) ∧ ClsV c cv ∧ PySem.W.kitOne K (.ref D) cv = some b ∧ Q (.bl b) H
theorem sameT_eq {t u : T} (h : sameT t u = true) : t = u := by
  cases t <;> cases u <;> simp [sameT] at h <;> rw [h]
section
variable {X : Cx} {K : PySem.W.Frag} {m : List Bool}
theorem exq_at {P : Program} {w : World} {H : Hp} {h : Heap} {a : Addr} {oe : Obj} (x : HOk P w H h) (e : H a = some (exq a oe)) : h.get? a = some oe := by
  have z : ObjOk P w H h a (.ext fun h => h.get? a = some oe) := x a _ e
  exact z.1
theorem call_isiE : CallR X (.builtin "isinstance") (rIsiE X.K) := by
  intro pins s σ H xs us Q I r h
  obtain ⟨a, D, oe, od, c, cv, b, n, rfl, ea, ec, ⟨ws, ew⟩, eo, hd, hn, hns, kc, e, q⟩ := h
  obtain ⟨u1, u2, rfl, r1, r2⟩ := vals2 r
  cases (show u1 = Value.ref a from r1)
  have e2 := kc.eq r2
  subst e2
  have hget := exq_at I.hok ea
  obtain ⟨D', z1, ga, ⟨gt, gg⟩, sb, cl, fc, sg, tk, mr⟩ := hn.ex
  rw [hns] at z1
  cases z1
  have J : ∃ od', PySem.W.InstAt s.heap a oe D od' := by
    cases od with
    | none =>
      refine ⟨none, hget, ec, by unfold PySem.W.notCls; rw [ew] <;> rfl, ?_⟩
      rw [eo]
      trivial
    | some d =>
      obtain ⟨fs, ed⟩ := hd d rfl
      have z : ObjOk X.prog X.w H s.heap d (.xd fs) := I.hok d _ ed
      obtain ⟨mA, hns2, _⟩ := z
      obtain ⟨o, _, _, ho, _⟩ := hns2
      refine ⟨some o, hget, ec, by unfold PySem.W.notCls; rw [ew] <;> rfl, ?_⟩
      rw [eo]
      exact ho
  obtain ⟨od', J⟩ := J
  exact PySem.W.kia_one (PySem.W.kitx_exc cl ga gg sb fc sg tk mr) I.kIn J e (fun z => nomatch z) fun tk => ⟨.bl b, H, I.tok tk, rfl, q⟩
def rIsiX (K : PySem.W.Frag) : List V → Hp → VK → Prop := fun xs H Q => rIsi K xs H Q ∨ rIsiE K xs H Q
theorem call_isiX : CallR X (.builtin "isinstance") (rIsiX X.K) := CallR.or call_isi call_isiE
theorem ck_isiX {tab : List (Str × T × Bool)} (ht : ∀ q ∈ tab, IsaOne K q.1 q.2.1 q.2.2) : CallK K m (rIsiX K) (gIsiX tab) := fun B σ H ρ ws ts xs us v Q hl ok e q => by
  unfold gIsiX at e
  split at e
  · rename_i n fs t
    unfold isaGet at e
    cases ef : tab.find? fun q => decide (q.1 = n) && sameT q.2.1 t with
    | none => rw [ef] at e; cases e
    | some g =>
      rw [ef] at e
      cases e
      have g0 := List.find?_some ef
      obtain ⟨g1, g2⟩ := (Bool.and_eq_true _ _).mp g0
      have g1 := of_decide_eq_true g1
      have g2 := sameT_eq g2
      obtain ⟨en, D, u, v', h1, h2, h3⟩ := ht g (List.mem_of_find?_eq_some ef)
      match xs, hl with
      | [x, y], _ =>
        have ok : Ok K m B σ H ρ (x :: y :: ws) (.exc n fs :: t :: ts) := ok
        obtain ⟨a, rfl, ex⟩ := ok.topExc
        obtain ⟨oe, C, vs, k1, k2, k3, k4, k5, k6, k7⟩ := ex.at_
        rw [g1] at h1 en
        rw [k7] at h1
        cases h1
        rw [g2] at h2
        have okt := ok.swap
        have hy : ClsV y u := by
          obtain ⟨I, Fr, Fw, s, r, w, km⟩ := okt
          cases w with
          | cons p _ =>
            cases t with
            | fn m' =>
              obtain ⟨C', c1, _, rfl⟩ := h2
              cases p with
              | fn z =>
                rw [c1] at z
                cases z
                exact .own _
            | ty m' =>
              obtain ⟨_, rfl⟩ := h2
              cases p
              exact .ty _
            | _ => exact h2.elim
        refine .inr ⟨a, _, oe, oe.dict, y, u, _, n, rfl, k1, k2, k3, rfl, fun d hd => ?_, en, k7, hy, h3, q _ _ (Ok.bl (ws := .ref a :: y :: ws) (ts := .exc n fs :: t :: ts) ok)⟩
        cases fs with
        | nil => rw [k5 rfl] at hd; cases hd
        | cons f fs =>
          obtain ⟨d', z1, z2⟩ := k4 (by simp)
          rw [z1] at hd
          cases hd
          exact ⟨_, z2⟩
  · exact .inl (ck_isi B σ H ρ ws ts xs us v Q hl ok e q)
end

/-! ### the class's name; e.f -/
structure ClsN (K : PySem.W.Frag) (mg : Str → Option Value) (x : Str) : Prop where
  ex : ∃ C : Addr, PySem.W.nsIn K mainGlobals x = some (some (.ref C)) ∧ mg x = some (.ref C)
structure XfOne (K : PySem.W.Frag) (n f : Str) : Prop where
  ex : ∃ C : Addr, PySem.W.nsIn K mainGlobals n = some (some (.ref C)) ∧ XfC K C ∧ PySem.W.findIn K (.ref C) f = some none
def dxf (ns : List Str) (f : Str) (fe : M T) : M T := mbind fe fun t => match t with
  | .exc n fs => if n ∈ ns then mopt ((fs.lookup f).map T.d) else mno
  | _ => mno
def tXfE (K : PySem.W.Frag) (f : Str) (te : TE) : TE := fun σ H Q => te σ H fun x H1 => ∃ (a C dd : Addr) (oe : Obj) (fs : List (Str × V)) (v : V), x = .ref a ∧ H1 a = some (exq a oe) ∧ oe.cls = .ref C ∧ (∃ ws, oe.data = .fields ws) ∧ oe.dict = some dd ∧ H1 dd = some (.xd fs) ∧
  XfC K C ∧ PySem.W.findIn K (.ref C) f = some none ∧ fs.lookup f = some v ∧ Q v H1
section
variable {X : Cx} {w : Wd} {e : Expr} {fe : M T} {pos : Pos} {x f : Str}
theorem de_cls (h : ClsN X.K X.mg x) (hg : Gl X x := by rfl) (hd : (x == ("__debug__" : Str)) = false := by decide) : DE X w (.Name x pos) (mret (.fn x)) := by
  obtain ⟨C, h1, h2⟩ := h.ex
  exact de_v (pe_glob (v := .ref C) hg h2 rfl hd) fun B σ H ρ ws ts Q ok p => p _ H (ok.pushFn h1)
theorem pe_xfE {te : TE} (he : PE X e te) (hb : attributeBase e f X.env (eval e X.env) = eval e X.env := by rfl) : PE X (.Attribute e f pos) (tXfE X.K f te) := by
  refine ⟨fun pins s σ H Q I h => attr_of hb (thn (he.run pins s σ H _ I h) fun u s1 hh => ?_)⟩
  obtain ⟨y, H1, I1, ry, a, C, dd, oe, fs, v, rfl, ea, ec, ⟨ws, ew⟩, ed, edd, T, hno, l, q⟩ := hh
  cases (show u = Value.ref a from ry)
  have z : ObjOk X.prog X.w H1 s1.heap dd (.xd fs) := I1.hok dd _ edd
  obtain ⟨mA, hns, hr⟩ := z
  obtain ⟨od, ho, hl⟩ := lookIn_ns hns
  obtain ⟨u2, hu, ru⟩ := RelO.some_of (v := v) (o := mA f) (by rw [← l]; exact hr f)
  have J : PySem.W.InstAt s1.heap a oe C (some od) := ⟨exq_at I1.hok ea, ec, by unfold PySem.W.notCls; rw [ew] <;> rfl, by rw [ed]; exact ho⟩
  refine HandSPX.exc_get I1.kIn J T.ga T.gg T.exC ?_ (handed_of ru) ⟨v, H1, I1.tok _, ru, q⟩
  exact PySem.W.findObj_own T.hdC hno rfl (by rw [hl, hu])
theorem lookup_any {α : Type} (f g : Str) (y : α) (fs : List (Str × α)) : ((g, y) :: fs).lookup f = if f = g then some y else fs.lookup f := by
  by_cases h : f = g
  · subst h
    simp [List.lookup]
  · have e : (f == g) = false := by simpa using h
    rw [if_neg h]
    simp [List.lookup, e]
theorem lookup_rep {K : PySem.W.Frag} {I : Hp} : ∀ {fs : List (Str × PyData)} {vs : List V} {d : PyData}, DrAll K I vs (fs.map (·.2)) → fs.lookup f = some d → ∃ v, ((fs.map (·.1)).zip vs).lookup f = some v ∧ Dr K I v d
  | [], _, _, _, h => nomatch h
  | (g, d0) :: fs, vs, d, r, h => by
    cases r with
    | cons a b =>
      rw [lookup_any] at h
      show ∃ v, (((g, _) :: (fs.map (·.1)).zip _) : List (Str × V)).lookup f = some v ∧ _
      rw [lookup_any]
      by_cases z : f = g
      · rw [if_pos z] at h ⊢
        cases h
        exact ⟨_, rfl, a⟩
      · rw [if_neg z] at h ⊢
        exact lookup_rep b h
theorem de_xf {ns : List Str} (h : ∀ n ∈ ns, XfOne X.K n f) (he : DE X w e fe) (hb : attributeBase e f X.env (eval e X.env) = eval e X.env := by rfl) : DE X w (.Attribute e f pos) (dxf ns f fe) := by
  obtain ⟨t, pt, dt⟩ := he.ex
  refine de_v (pe_xfE pt hb) fun B σ H ρ ws ts Q ok p => ?_
  refine dt B σ H ρ ws ts _ ok (p.bind.mono fun v ρ1 p1 x1 H1 ok1 => ?_)
  cases v with
  | exc n fs =>
    have p1 : PostG X.K w B ((if n ∈ ns then mopt ((fs.lookup f).map T.d) else mno) ρ1) (fun v ρ' => ∀ x H', Ok X.K w.m B σ H' ρ' (x :: ws) (v :: ts) → Q x H') := p1
    by_cases hn : n ∈ ns
    · rw [if_pos hn] at p1
      obtain ⟨z, e1, q1⟩ := p1.opt
      cases e2 : fs.lookup f with
      | none => rw [e2] at e1; cases e1
      | some d =>
        rw [e2] at e1
        cases e1
        obtain ⟨C, h1, T, h2⟩ := (h n hn).ex
        obtain ⟨I, Fr, Fw, s, r, w', km⟩ := id ok1
        cases w' with
        | cons pa pb =>
          cases pa with
          | exc q =>
            obtain ⟨oe, C', vs, k1, k2, k3, k4, k5, k6, k7⟩ := q.at_
            rw [h1] at k7
            cases k7
            obtain ⟨dd, k8, k9⟩ := k4 (by intro z; rw [z] at e2; cases e2)
            obtain ⟨v, l1, l2⟩ := lookup_rep k6 e2
            exact ⟨_, C, dd, oe, _, v, rfl, s.sub _ _ k1, k2, k3, k8, s.sub _ _ k9, T, h2, l1, q1 _ _ ⟨I, Fr, _, s, r, .cons (F := []) (.d l2) pb, km⟩⟩
    · rw [if_neg hn] at p1
      exact False.elim p1
  | _ => exact False.elim p1
end
end DL
end
section
set_option Elab.async false
set_option linter.all false
set_option maxRecDepth 100000
set_option maxHeartbeats 4000000
/-! DLL: methods of texts: join, split. -/
namespace DL
open PySem L2

/-- o.m(e), o a text -/
def dsm1 (g : Str → PyData → Option PyData) (fo fe : M T) : M T := mbind fo fun x => match x with
  | .d (.str a) => mbind fe fun y => match y with
    | .d d => mopt ((g a d).map T.d)
    | _ => mno
  | _ => mno
def gJoin (a : Str) : PyData → Option PyData
  | .list ds => match strsD ds with
    | some ys => if (ys.map (·.length)).sum + ys.length * a.length ≤ 16777216 then some (.str (Txt.join a ys)) else none
    | none => none
  | _ => none
def gSplit (a : Str) : PyData → Option PyData
  | .str b => if (b.length == 0) = false ∧ a.length ≤ lim then some (.list ((Txt.split a b).map PyData.str)) else none
  | _ => none
section
variable {X : Cx} {w : Wd} {o e : Expr} {fo fe : M T} {apos pos : Pos}
theorem den_sm1 {r : V → List V → Hp → VK → Prop} {g : Str → PyData → Option PyData} {to te : TE} {K : PySem.W.Frag} (dto : DenE K w to fo) (dte : DenE K w te fe)
    (h : ∀ B σ H ρ ws ts a y d z (Q : VK), Ok K w.m B σ H ρ (y :: .str a :: ws) (.d d :: .d (.str a) :: ts) → g a d = some z → (∀ u H', Ok K w.m B σ H' ρ (u :: ws) (.d z :: ts) → Q u H') → r (.str a) [y] H Q) : DenE K w (tM1 r to te) (dsm1 g fo fe) := fun B σ H ρ ws ts Q ok p => by
  refine dto B σ H ρ ws ts _ ok (p.bind.mono fun v ρ1 p1 x H1 ok1 => ?_)
  cases v with
  | d x1 =>
    cases x1 with
    | str a =>
      have ex := ok1.topStr
      subst ex
      have p1 : PostG K w B (mbind fe (fun y => match y with | .d d => mopt ((g a d).map T.d) | _ => (mno : M T)) ρ1) _ := p1
      refine ⟨⟨a, rfl⟩, dte B σ H1 ρ1 _ _ _ ok1 (p1.bind.mono fun v2 ρ2 p2 y H2 ok2 => ?_)⟩
      cases v2 with
      | d d =>
        obtain ⟨z, e1, q⟩ := PostG.opt p2
        cases e2 : g a d with
        | none => rw [e2] at e1; cases e1
        | some z' =>
          rw [e2] at e1
          cases e1
          exact h B σ H2 ρ2 ws ts a y d z' Q ok2 e2 q
      | _ => exact False.elim p2
    | _ => exact False.elim p1
  | _ => exact False.elim p1
theorem de_join (ho : DE X w o fo) (he : DE X w e fe) (hs : starEach [e] X.env = [(false, eval e X.env)] := by rfl) (hbase : attributeBase o "join" X.env (eval o X.env) = eval o X.env := by rfl) (hline : (apos.endLine == pos.line) = true := by rfl) :
    DE X w (.Call (.Attribute o "join" apos) [e] [] pos) (dsm1 gJoin fo fe) := by
  obtain ⟨to, po, dto⟩ := ho.ex
  obtain ⟨te, pt, dte⟩ := he.ex
  refine de_v (pe_join po pt hs hbase hline) (den_sm1 dto dte fun B σ H ρ ws ts a y d z Q ok e q => ?_)
  unfold gJoin at e
  split at e
  · rename_i ds
    split at e
    · rename_i ys es
      obtain ⟨hl, e⟩ := reqs e
      subst e
      obtain ⟨p, vs, rfl, hp, dv⟩ := ok.topList
      have hv := strs_all dv es
      subst hv
      exact ⟨a, p, ys, rfl, rfl, .inl (SqL.of hp), hl, q _ _ ok.pop.pop.str⟩
    · cases e
  · cases e
theorem de_split (ho : DE X w o fo) (he : DE X w e fe) (hs : starEach [e] X.env = [(false, eval e X.env)] := by rfl) (hbase : attributeBase o "split" X.env (eval o X.env) = eval o X.env := by rfl) (hline : (apos.endLine == pos.line) = true := by rfl) :
    DE X w (.Call (.Attribute o "split" apos) [e] [] pos) (dsm1 gSplit fo fe) := by
  obtain ⟨to, po, dto⟩ := ho.ex
  obtain ⟨te, pt, dte⟩ := he.ex
  refine de_v (pe_split po pt hs hbase hline) (den_sm1 dto dte fun B σ H ρ ws ts a y d z Q ok e q => ?_)
  unfold gSplit at e
  split at e
  · obtain ⟨hl, e⟩ := reqs e
    subst e
    have hy := ok.topStr
    subst hy
    refine ⟨a, _, rfl, rfl, hl.1, Nat.le_trans (Nat.add_le_add_right hl.2 2) (by decide), fun p hp => q _ _ (ok.pop.pop.newList hp fun I Fw _ _ => drAll_strs _)⟩
  · cases e
end
/-! ### >= of ints and texts -/
def pGe2 : PyData → PyData → Option PyData
  | .int i, .int j => some (.bool (decide (j ≤ i)))
  | .str a, .str b => some (.bool (!strLt a b))
  | _, _ => none
def rGe2 : R2 := fun x y H Q => (rI0 fun i j => .bl (decide (j ≤ i))) x y H Q ∨ ∃ i j, x = .str i ∧ y = .str j ∧ Q (.bl (!decide (i.cps.toList < j.cps.toList))) H
theorem op_ge2 {X : Cx} : OpR X (compareOp .GtE) rGe2 := OpR.or op_ge op_ge_str
theorem od_ge2 {K : PySem.W.Frag} {m : List Bool} : OpD K m rGe2 (onD pGe2) := OpD.ofD fun B σ H ρ ws ts x y t u v Q ok e q => by
  unfold pGe2 at e
  split at e
  · cases e
    have hy := ok.topInt
    have hx := ok.pop.topInt
    subst hx hy
    exact .inl ⟨_, _, rfl, rfl, q _ _ ok.pop.pop.bl⟩
  · cases e
    have hy := ok.topStr
    have hx := ok.pop.topStr
    subst hx hy
    exact .inr ⟨_, _, rfl, rfl, q _ _ ok.pop.pop.bl⟩
  · cases e
end DL
end
section
set_option Elab.async false
set_option linter.all false
set_option maxRecDepth 100000
set_option maxHeartbeats 4000000
/-! DLM: what the head leaves of the text's exception classes. -/
namespace DL
open PySem L2

def methOf (s : Stmt) (i : Nat) : Stmt := match s with
  | .ClassDef _ _ _ body _ _ _ _ _ _ _ => body.getD i (.Pass ⟨0, 0, 0, 0⟩)
  | _ => .Pass ⟨0, 0, 0, 0⟩
theorem mem_nil {α : Type} {P : α → Prop} : ∀ q ∈ ([] : List α), P q := fun _ h => nomatch h
theorem mem_cons {α : Type} {P : α → Prop} {a : α} {l : List α} (h : P a) (r : ∀ q ∈ l, P q) : ∀ q ∈ a :: l, P q := fun q m => by
  rcases List.mem_cons.mp m with e | e
  · rw [e]; exact h
  · exact r q e
/-- a class that is raised, its __init__ -/
structure HasC0 (K : PySem.W.Frag) (n qual : Str) (st : Stmt) (fs : List Str) : Prop where
  ex : ∃ (C fI : Addr) (fd : FuncData), PySem.W.nsIn K mainGlobals n = some (some (.ref C)) ∧ OexC K C ∧ PySem.W.findIn K (.ref C) "__init__" = some (some (.ref fI)) ∧ PySem.W.typeIn K (.ref fI) = some (.type "function") ∧ Fun K "__init__" qual st fI fd ∧
    (∀ f ∈ fs, PySem.W.findIn K (.ref C) f = some none) ∧ PySem.W.findCls K (.type "ValueError") (.type "type") "__init__" = some (.val (.builtin "ValueError.__init__"))
structure HasC (K : PySem.W.Frag) (mg : Str → Option Value) (n qual : Str) (st : Stmt) (fs : List Str) : Prop where
  ex : ∃ (C fI : Addr) (fd : FuncData), PySem.W.nsIn K mainGlobals n = some (some (.ref C)) ∧ mg n = some (.ref C) ∧ OexC K C ∧ PySem.W.findIn K (.ref C) "__init__" = some (some (.ref fI)) ∧ PySem.W.typeIn K (.ref fI) = some (.type "function") ∧ Fun K "__init__" qual st fI fd ∧
    (∀ f ∈ fs, PySem.W.findIn K (.ref C) f = some none) ∧ PySem.W.findCls K (.type "ValueError") (.type "type") "__init__" = some (.val (.builtin "ValueError.__init__"))
structure HasCls (K : PySem.W.Frag) (n : Str) : Prop where
  ex : ∃ C : Addr, PySem.W.nsIn K mainGlobals n = some (some (.ref C))
structure HasExm (K : PySem.W.Frag) (n : Str) : Prop where
  ex : ∃ C : Addr, PySem.W.nsIn K mainGlobals n = some (some (.ref C)) ∧ PySem.W.exmOne K (.ref C) (.ref C) = some true
structure IsaK (K : PySem.W.Frag) (n : Str) (t : T) (b : Bool) : Prop where
  ex : ∃ D u v, PySem.W.nsIn K mainGlobals n = some (some (.ref D)) ∧ clsT K t v u ∧ PySem.W.kitOne K (.ref D) u = some b
section
variable {K : PySem.W.Frag} {h : Heap} {mg : Str → Option Value} {n qual : Str} {st : Stmt} {fs : List Str} {C fI : Addr}
theorem HasC0.at (X : K.In h) (G : h.Ns mainGlobals mg) (a : HasC0 K n qual st fs) : HasC K mg n qual st fs := by
  obtain ⟨C, fI, fd, h1, h2⟩ := a.ex
  exact ⟨C, fI, fd, h1, PySem.W.mg_of X G h1, h2⟩
theorem HasCls.at (X : K.In h) (G : h.Ns mainGlobals mg) (a : HasCls K n) : ClsN K mg n := by
  obtain ⟨C, h1⟩ := a.ex
  exact ⟨C, h1, PySem.W.mg_of X G h1⟩
theorem HasExm.at (X : K.In h) (G : h.Ns mainGlobals mg) (a : HasExm K n) : ClsX K mg n := by
  obtain ⟨C, h1, h2⟩ := a.ex
  exact ⟨C, h1, PySem.W.mg_of X G h1, h2⟩
theorem HasC0.by_ {nm q : Str} {N : Addr} {bs bm : List Value} {sn : _} {sub ab col dd k0 k1 k2 k3 k5 : _} {oc : Value} {od an : Option Addr} {osl : Array (Option Value)} {kV doc pm cdv ct : Value} (a : PySem.W.nsIn K mainGlobals n = some (some (.ref C)))
    (l : K.lookup C = some (excClassObj nm q C N bs bm true sn sub ab col dd k0 k1 k2 k3 k5 "ValueError.__new__")) (hb : PySem.HandSPX.refsVE bm = true) (sa : PySem.W.findIn K (.ref C) "__setattr__" = some (some (.builtin "object.__setattr__")))
    (ex : PySem.W.subIn K (.ref C) (.type "BaseException") = some true) (ty : PySem.W.typeIn K (.ref C) = some (.type "type")) (kp : PySem.W.keepIn K (.ref C) = true) (i : PySem.W.findIn K (.ref C) "__init__" = some (some (.ref fI))) (ti : PySem.W.typeIn K (.ref fI) = some (.type "function"))
    (lf : K.lookup fI = some ⟨oc, od, .func (PySem.W.fnOf "__init__" qual (defArgs st) (defBody st) (defScope st) .none kV doc pm an cdv ct), osl⟩) (cf : PySem.W.codeIn K cdv qual = true) (kf : PySem.W.keepIn K (.ref fI) = true)
    (hno : ∀ f ∈ fs, PySem.W.findIn K (.ref C) f = some none) (v : PySem.W.findCls K (.type "ValueError") (.type "type") "__init__" = some (.val (.builtin "ValueError.__init__"))) : HasC0 K n qual st fs :=
  ⟨C, fI, _, a, ⟨⟨_, _, _, _, _, _, _, _, _, _, _, _, _, _, _, l, hb⟩, sa, ex, ty, kp⟩, i, ti, fun_mk lf cf kf, hno, v⟩
theorem HasCls.by_ (a : PySem.W.nsIn K mainGlobals n = some (some (.ref C))) : HasCls K n := ⟨C, a⟩
theorem cls_isSome (h : PySem.W.hasDictIn K C = true) : (PySem.W.clsIn K C).isSome = true := by
  unfold PySem.W.hasDictIn at h
  cases e : PySem.W.clsIn K C with
  | none => rw [e] at h; cases h
  | some c => rfl
theorem HasExm.by_ (a : PySem.W.nsIn K mainGlobals n = some (some (.ref C))) (b : PySem.W.subIn K (.ref C) (.type "BaseException") = some true) (d : PySem.W.hasDictIn K C = true) (t : PySem.W.typeIn K (.ref C) = some (.type "type")) (e : PySem.W.subIn K (.ref C) (.ref C) = some true) : HasExm K n :=
  ⟨C, a, PySem.W.exm_ref b d t e⟩
theorem XfOne.by_ {f : Str} (a : PySem.W.nsIn K mainGlobals n = some (some (.ref C))) (ga : PySem.W.findIn K (.ref C) "__getattribute__" = some (some (.builtin "BaseException.__getattribute__"))) (gg : PySem.W.findIn K (.ref C) "__getattr__" = some none)
    (b : PySem.W.subIn K (.ref C) (.type "BaseException") = some true) (d : PySem.W.hasDictIn K C = true) (y : PySem.W.findIn K (.ref C) f = some none) : XfOne K n f := ⟨C, a, ⟨ga, gg, b, d⟩, y⟩
theorem ExcN.by_ {gt : Option Value} (a : PySem.W.nsIn K mainGlobals n = some (some (.ref C))) (h1 : PySem.W.findIn K (.ref C) "__getattribute__" = some (some (.builtin "BaseException.__getattribute__"))) (h2 : PySem.W.findIn K (.ref C) "__getattr__" = some gt)
    (h3 : PySem.W.subIn K (.ref C) (.type "BaseException") = some true) (h4 : PySem.W.hasDictIn K C = true) (h5 : PySem.W.findIn K (.ref C) "__class__" = some (some (.builtin "object.__class__")))
    (h6 : PySem.W.specialIn K (.builtin "object.__class__") "__get__" = some (some (.builtin "getset_descriptor.__get__"))) (h7 : PySem.W.takesIn K (.builtin "object.__class__") = some true) (h8 : PySem.W.mroIn K C (.type "object") = some true) : ExcN K n := ⟨C, a, h1, ⟨gt, h2⟩, h3, cls_isSome h4, h5, h6, h7, h8⟩
theorem IsaOne.mk {t : T} {b : Bool} (e : ExcN K n) (k : IsaK K n t b) : IsaOne K n t b := ⟨e, k.ex⟩
theorem IsaK.same (a : PySem.W.nsIn K mainGlobals n = some (some (.ref C))) : IsaK K n (.fn n) true := ⟨C, _, _, a, ⟨C, a, rfl, rfl⟩, by unfold PySem.W.kitOne; rw [if_pos (by simp)]⟩
theorem IsaK.cls {m : Str} {D : Addr} {b : Bool} (a : PySem.W.nsIn K mainGlobals n = some (some (.ref C))) (c : PySem.W.nsIn K mainGlobals m = some (some (.ref D))) (d : PySem.W.hasDictIn K D = true) (t : PySem.W.typeIn K (.ref D) = some (.type "type")) (k : PySem.W.subIn K (.ref C) (.ref D) = some b)
    (ne : (Value.ref C == Value.ref D) = false) : IsaK K n (.fn m) b := by
  refine ⟨C, _, _, a, ⟨D, c, rfl, rfl⟩, ?_⟩
  unfold PySem.W.kitOne
  rw [if_neg (by rw [ne]; decide)]
  have e2 : ((PySem.W.clsIn K D).isSome && PySem.W.typeIn K (.ref D) == some (.type "type")) = true := by rw [cls_isSome d, t]; rfl
  show (if ((PySem.W.clsIn K D).isSome && PySem.W.typeIn K (.ref D) == some (.type "type")) = true then PySem.W.subIn K (.ref C) (.ref D) else none) = some b
  rw [if_pos e2]
  exact k
theorem IsaK.ty {m : String} {b : Bool} (a : PySem.W.nsIn K mainGlobals n = some (some (.ref C))) (mt : PySem.W.kitMeta m = true) (k : PySem.W.subIn K (.ref C) (.type m) = some b) : IsaK K n (.ty m) b := by
  refine ⟨C, _, _, a, ⟨rfl, rfl⟩, ?_⟩
  unfold PySem.W.kitOne
  rw [if_neg (by intro z; cases beq_iff_eq.mp z)]
  show (if PySem.W.kitMeta m = true then PySem.W.subIn K (.ref C) (.type m) else none) = some b
  rw [if_pos mt]
  exact k
end
theorem bt_ValueError : bootBuiltins "ValueError" = some (.type "ValueError") := by decide +kernel
theorem bt_IndexError : bootBuiltins "IndexError" = some (.type "IndexError") := by decide +kernel
theorem bt_KeyError : bootBuiltins "KeyError" = some (.type "KeyError") := by decide +kernel
theorem bt_LookupError : bootBuiltins "LookupError" = some (.type "LookupError") := by decide +kernel
theorem bt_OverflowError : bootBuiltins "OverflowError" = some (.type "OverflowError") := by decide +kernel
theorem bt_RuntimeError : bootBuiltins "RuntimeError" = some (.type "RuntimeError") := by decide +kernel
end DL
end
section
set_option Elab.async false
set_option linter.all false
set_option maxRecDepth 100000
set_option maxHeartbeats 4000000
/-! DLS: exceptions of the text over any built-in one, with or without fields: made. -/
namespace DL
open PySem L2 PySem.Spec PyProof.Rows

/-- a class over the built-in one called B -/
structure OexB (K : PySem.W.Frag) (C : Addr) (B initId : String) : Prop where
  cls : ∃ nm q N bs bm sn sub ab col dd k0 k1 k2 k3 k5 newId bmB, K.lookup C = some (excClassObj nm q C N bs bm true sn sub ab col dd k0 k1 k2 k3 k5 newId) ∧ PySem.W.excTail bmB bm = true ∧ ExcBaseFacts B newId initId bmB ∧ StoreFacts B bmB "object.__setattr__" "object"
  sat : PySem.W.findIn K (.ref C) "__setattr__" = some (some (.builtin "object.__setattr__"))
  exB : PySem.W.subIn K (.ref C) (.type "BaseException") = some true
  tyB : PySem.W.typeIn K (.ref C) = some (.type "type")
  kpB : PySem.W.keepIn K (.ref C) = true
  hdB : PySem.W.hasDictIn K C = true
section
variable {K : PySem.W.Frag} {C : Addr} {B initId : String} {f : Str}
theorem OexB.over (T : OexB K C B initId) : ∃ bmB, PySem.W.excOver K C bmB = true ∧ StoreFacts B bmB "object.__setattr__" "object" := by
  obtain ⟨nm, q, N, bs, bm, sn, sub, ab, col, dd, k0, k1, k2, k3, k5, newId, bmB, hC, ht, FB, SF⟩ := T.cls
  refine ⟨bmB, ?_, SF⟩
  unfold PySem.W.excOver PySem.W.clsIn
  rw [hC]
  show ((Option.some _).any _) = true
  simp [ht]
theorem taker_none (h : PySem.W.findIn K (.ref C) f = some none) : PySem.W.takerIn K C f = some none := by
  unfold PySem.W.takerIn
  rw [h]
  rfl
end

section
variable {X : Cx} {pins : List (Addr × Obj)} {σ : L2.St} {H : Hp} {s : Shared} {a C dx : Addr} {f : Str} {y : V} {u : Value} {fs : List (Str × V)} {Q : Unit → Shared → Prop} {E : Value → Shared → Prop} {A : Around} {B initId : String}
theorem upd_id {H : Hp} {a : Addr} {o : HO} (e : H a = some o) : upd H a o = H := by
  funext b
  by_cases z : b = a
  · rw [z, upd_same, e]
  · rw [upd_ne z]
/-- the first field: the dict is made, hung on, written -/
theorem put_first (T : OexB X.K C B initId) (I : Inv X pins σ H s) (e : H a = some (exo a C none)) (hno : PySem.W.findIn X.K (.ref C) f = some none) (ry : RelV y u)
    (then_ : ∀ dx s', H dx = none → dx ≠ a → Inv X pins σ (upd (upd H dx (exd dx [(f, y)])) a (exo a C (some dx))) s' → Q () s') : wpAny (model X.prog X.w) A (setAttr (.ref a) f u) Q E s := by
  obtain ⟨bmB, ov, SF⟩ := T.over
  obtain ⟨tz, hoo⟩ := exo_at I.hok e
  have hnd : H s.heap.objs.size = none := I.hok.fresh (Nat.le_refl _)
  have nea : s.heap.objs.size ≠ a := fun z => by rw [z, e] at hnd; cases hnd
  obtain ⟨cd, hc, hd'⟩ := PySem.W.any_some T.hdB
  obtain ⟨hp, g, d, t, os⟩ := s
  refine PySem.W.set_plain I.kIn (ox := PySem.W.excObj C tz none .none) (od := none) ⟨hoo, rfl, rfl, trivial⟩ T.sat ?_
  refine PySem.W.osa_openX (od := none) SF I.kIn ⟨hoo, rfl, rfl, trivial⟩ ov (taker_none hno) fun b => ?_
  refine wpAny_bind (wpAny_pure (wpAny_bind (PySem.W.instanceDict_exc hoo (PySem.W.looks_clsIn I.kIn hc) hd' ?_)))
  have e1 : (hp.push (PySem.W.dictOf [] 0)).get? hp.objs.size = some (PySem.W.dictOf [] 0) := Heap.get?_push_size hp rfl
  have I1 := I.laid (a := hp.objs.size) (o := exd hp.objs.size []) (h' := hp.push (PySem.W.dictOf [] 0)) (t' := t) (fun b u q => Heap.get?_push_of_some _ q) (Nat.le_refl _)
    (exd_ok (Heap.Ns1.of_empty (show (hp.push (PySem.W.dictOf [] 0)).Ns hp.objs.size (fun _ => none) from ⟨_, #[], _, e1, rfl, fun e he => absurd he (by simp), fun _ => rfl⟩)) fun _ => True.intro)
  have ha1 : (hp.push (PySem.W.dictOf [] 0)).get? a = some (PySem.W.excObj C tz none .none) := Heap.get?_push_of_some _ hoo
  have ha2 : ((hp.push (PySem.W.dictOf [] 0)).update a fun o => { o with dict := some hp.objs.size }).get? a = some (PySem.W.excObj C tz (some hp.objs.size) .none) := Heap.get?_update_self _ ha1 rfl
  have ea1 : (upd H hp.objs.size (exd hp.objs.size [])) a = some (exo a C none) := by rw [upd_ne (Ne.symm nea)]; exact e
  have I2 := I1.write (t' := t) (x := a) (e := a) (o := exo a C (some hp.objs.size)) (h' := (hp.push (PySem.W.dictOf [] 0)).update a fun o => { o with dict := some hp.objs.size }) (by rw [ea1]; exact True.intro) (.inl rfl)
    (fun b o hb q => (Heap.get?_update_ne _ _ _ _ hb).trans q) ⟨_, ha2⟩ (exo_ok ha2)
  have ed2 : (upd (upd H hp.objs.size (exd hp.objs.size [])) a (exo a C (some hp.objs.size))) hp.objs.size = some (exd hp.objs.size []) := by rw [upd_ne nea, upd_same]
  show wpAny _ _ (Builtin.ObjectAttr.storeInDict hp.objs.size (.str f (t)) f u) _ _ _
  refine PySem.HandSPX.store_in_new ?_ fun hz' tz' hn hs => ?_
  · exact ⟨_, #[], _, (Heap.get?_update_ne _ _ _ _ nea).trans e1, rfl, fun e he => absurd he (by simp), fun _ => rfl⟩
  · have I3 := I2.write (t' := tz') (x := hp.objs.size) (e := hp.objs.size) (o := exd hp.objs.size [(f, y)]) (h' := hz') (by rw [ed2]; exact True.intro) (.inl rfl) (fun b o hb q => (hs.2 b hb).trans q)
      (by obtain ⟨o, _, _, z, _⟩ := hn; exact ⟨o, z⟩) (exd_ok hn (relO_put (fs := []) ry fun g => True.intro))
    rw [upd_comm nea, upd_upd, upd_comm (Ne.symm nea)] at I3
    exact then_ _ _ hnd nea I3
/-- a further one -/
theorem put_next (T : OexB X.K C B initId) (I : Inv X pins σ H s) (e : H a = some (exo a C (some dx))) (ed : H dx = some (exd dx fs)) (hl : fs.length ≤ 900) (hno : PySem.W.findIn X.K (.ref C) f = some none) (ry : RelV y u)
    (then_ : ∀ s', Inv X pins σ (upd H dx (exd dx ((f, y) :: fs))) s' → Q () s') : wpAny (model X.prog X.w) A (setAttr (.ref a) f u) Q E s := by
  obtain ⟨bmB, ov, SF⟩ := T.over
  obtain ⟨tz, hoo⟩ := exo_at I.hok e
  obtain ⟨mz, nsx, rlx⟩ := exd_at I.hok ed
  obtain ⟨cd, hc, hd'⟩ := PySem.W.any_some T.hdB
  obtain ⟨hp, g, d, t, os⟩ := s
  obtain ⟨oD, _, _, hoD, _, _⟩ := id nsx
  refine PySem.W.set_plain I.kIn (ox := PySem.W.excObj C tz (some dx) .none) (od := some oD) ⟨hoo, rfl, rfl, hoD⟩ T.sat ?_
  refine PySem.W.osa_openX (od := some oD) SF I.kIn ⟨hoo, rfl, rfl, hoD⟩ ov (taker_none hno) fun b => ?_
  refine wpAny_bind (wpAny_pure (wpAny_bind (wpAny_bind (wpAny_loadPart hoo (wpAny_bind ((PySem.W.looks_clsIn I.kIn hc).at ?_))))))
  rw [hd']
  refine wpAny_pure (a := (some dx : Option Addr)) ?_
  refine PySem.OEX.store_in_old nsx (within_of rlx) (by rw [List.length_map]; omega) fun hz' tz' hn hs => ?_
  exact then_ _ (I.write (t' := tz') (x := dx) (e := dx) (o := exd dx ((f, y) :: fs)) (by rw [ed]; exact True.intro) (.inl rfl) (fun b o hb q => (hs.2 b hb).trans q)
    (by obtain ⟨o, _, _, z, _⟩ := hn; exact ⟨o, z⟩) (exd_ok hn (relO_put ry rlx)))
/-- B.__init__(self, ..): the args are laid anew -/
theorem base_init {us : List Value} {Q : Value → Shared → Prop} (T : OexB X.K C B initId) (I : Inv X pins σ H s) (e : H a = some (exo a C none)) (hl : us.length ≤ sizeLine) (h : ∀ s', Inv X pins σ H s' → Q .none s') :
    wpAny (model X.prog X.w) A (call (.builtin initId) (.ref a :: us)) Q E s := by
  obtain ⟨nm, q, N, bs, bm, sn, sub, ab, col, dd, k0, k1, k2, k3, k5, newId, bmB, hC, ht, FB, SF⟩ := T.cls
  obtain ⟨tz, hoo⟩ := exo_at I.hok e
  obtain ⟨hp, g, d, t, os⟩ := s
  refine wpAny_call (PySem.HandSPX.init_base FB (fun Y => PySem.W.excTail_contains Y _ ht) (I.kIn _ _ hC) hoo hl fun hz' t2 k hx => ?_)
  have J0 := I.write (t' := t) (x := a) (e := a) (o := exo a C none) (by rw [e]; exact True.intro) (.inl rfl) k ⟨_, hx⟩ (exo_ok hx)
  rw [upd_id e] at J0
  exact h _ J0
end

/-! ### readings and rules -/
def tBi (K : PySem.W.Frag) (B initId : String) (ta : TA) : TE := fun σ H Q => ta σ H fun vs H1 => ∃ (a C : Addr) (ws : List V), vs = .ref a :: ws ∧ ws.length ≤ 1000 ∧ OexB K C B initId ∧ H1 a = some (exo a C none) ∧ Q .non H1
def tOsb (K : PySem.W.Frag) (B initId : String) (f : Str) (to te : TE) : TS := fun D σ H => te σ H fun y H1 => to σ H1 fun x H2 => ∃ a C : Addr, x = .ref a ∧ OexB K C B initId ∧ PySem.W.findIn K (.ref C) f = some none ∧
  (((H2 a = some (exo a C none)) ∧ ∀ dx, H2 dx = none → dx ≠ a → D.nx σ (upd (upd H2 dx (exd dx [(f, y)])) a (exo a C (some dx)))) ∨
    ∃ (dx : Addr) (fs : List (Str × V)), (H2 a = some (exo a C (some dx))) ∧ H2 dx = some (exd dx fs) ∧ fs.length ≤ 900 ∧ D.nx σ (upd H2 dx (exd dx ((f, y) :: fs))))
section
variable {X : Cx} {o e : Expr} {es : List Expr} {to te : TE} {ta : TA} {f : Str} {p p' p1 p2 pos : Pos} {B initId : String}
theorem pe_binit {x : Str} {pl : Sem Bool} (hg : Gl X x) (hm : X.mg x = none) (bt : bootBuiltins x = some (.type B)) (tb : typeOf (.type B) = pure (.type "type")) (nst : Manifest.isStub B = false) (hh : PySem.W.handedIn (.builtin initId) = true) (vV : PySem.W.findCls X.K (.type B) (.type "type") "__init__" = some (.val (.builtin initId))) (ha : PA X (e :: es) ta) (hn : x ≠ "__name__") (hd : (x == ("__debug__" : Str)) = false)
    (hc : eval (.Call (.Attribute (.Name x p1) "__init__" p2) (e :: es) [] pos) X.env = (do
      let ov ← eval (.Name x p1) X.env
      standAt p2.atName
      let (f, first) ← (holding [ov] (getMethod ov "__init__" pl))
      callWith pos f first (backTo pos (starEach (e :: es) X.env)) (backToKw pos (keywordEach [] X.env))))
    (he : starEach (e :: es) X.env = (false, eval e X.env) :: starEach es X.env) (hpl : (backTo pos (starEach es X.env)).any (·.1) = false) :
    PE X (.Call (.Attribute (.Name x p1) "__init__" p2) (e :: es) [] pos) (tBi X.K B initId ta) := by
  refine ⟨fun pins s σ H Q I h => ?_⟩
  refine PySem.W.methodCall_KW (ld_blt I hg hm bt ?_ hn hd) hc
  obtain ⟨m, fr⟩ := I.fr
  refine PySem.W.method_type fr I.ok.mod.kin tb nst vV hh ?_
  show wpAny _ _ (callWith pos (Value.builtin initId) [] (backTo pos (starEach (e :: es) X.env)) []) _ _ _
  refine PyProof.Rows.callWith_method1 (thn (ha.run pos pins _ σ H _ (I.tok _) h) fun us s1 ⟨vs, H1, I1, r1, a, C, ws, ev, hl, T, ea, q⟩ => ?_) he hpl
  subst ev
  cases r1 with
  | @cons _ u0 _ uz ra rw' =>
    obtain rfl : u0 = (.ref a : Value) := ra
    have hln : uz.length ≤ sizeLine := by
      rw [← Paired.length rw', sizeLine_eq]
      omega
    exact base_init T I1 ea hln fun s' J => ⟨.non, H1, J, rfl, q⟩
theorem ps_osb (hoo : PE X o to) (he : PE X e te) (hs : swapsWith e (some (.Attribute o f p')) pos.line X.env = pure false) : PS X (.Assign [.Attribute o f p'] e pos) (tOsb X.K B initId f to te) := by
  refine ⟨fun pins s σ H D I h => ?_⟩
  refine plainObj_wpAny_Assign_Attribute (thn (he.run pins s σ H _ I h) fun v s1 ⟨y, H1, I1, r1, q1⟩ => thn (hoo.run pins s1 σ H1 _ I1 q1) fun u s2 ⟨x, H2, I2, r2, a, C, ex, T, hno, q⟩ => ?_) hs
  subst ex
  obtain rfl : u = (.ref a : Value) := r2
  rcases q with ⟨ea, q3⟩ | ⟨dx, fs, ea, ed, hl, q3⟩
  · exact put_first T I2 ea hno r1 fun dx s' n ne J => ⟨σ, _, J, q3 dx n ne⟩
  · exact put_next T I2 ea ed hl hno r1 fun s' J => ⟨σ, _, J, q3⟩
end

/-! ### __init__ -/
/-- what a class's __init__ comes to: its arguments stand as fields, if there are any -/
def InitS (C : Addr) (fs : List Str) : Sp := fun vs H Q E => ∃ (a : Addr) (us : List V), vs = .ref a :: us ∧ us.length = fs.length ∧ H a = some (exo a C none) ∧ (fs = [] → Q .non H) ∧
  (fs ≠ [] → ∀ dx, H dx = none → dx ≠ a → Q .non (upd (upd H dx (exd dx (fs.zip us).reverse)) a (exo a C (some dx))))
section
variable {X : Cx} {C : Addr} {fs : List Str} {k : Nat} {sts : List Stmt} {f msg x : Str} {B initId : String}
theorem inb_cons (T : OexB X.K C B initId) (hno : ∀ f ∈ fs, PySem.W.findIn X.K (.ref C) f = some none) (hsq : fs.length ≤ 900) (k : Nat) {p1 p2 p3 p4 : Pos} (r : Ini X C fs (k + 1) sts) (hk : fs[k]? = some f := by rfl) (h0 : X.N[0]? = some ("self" : Str) := by rfl) (h1 : X.N[k + 1]? = some f := by rfl)
    (v0 : Vis X.env.scope "self" := by first | exact Or.inl rfl | exact Or.inr (Or.inl rfl)) (v1 : Vis X.env.scope f := by first | exact Or.inl rfl | exact Or.inr (Or.inl rfl)) (n1 : (f == ("__debug__" : Str)) = false := by decide) (n2 : (f == ("__classdict__" : Str)) = false := by decide)
    (hs : swapsWith (.Name f p3) (some (.Attribute (.Name "self" p1) f p2)) p4.line X.env = pure false := by rfl) : Ini X C fs k (.Assign [.Attribute (.Name "self" p1) f p2] (.Name f p3) p4 :: sts) := by
  obtain ⟨t, pt, ht⟩ := r.ex
  refine ⟨_, pss_cons (ps_osb (B := B) (initId := initId) (pe_var (i := 0) h0 v0) (pe_var (i := k + 1) h1 v1 n1 n2) hs) pt, fun D σ H a dx us s0 ss hl ne ea ed q => ?_⟩
  have hkl := (List.getElem?_eq_some_iff.mp hk).1
  obtain ⟨u, hu, hσ⟩ := ss k hkl
  refine ⟨u, hσ, .ref a, s0, a, C, rfl, T, hno f (List.mem_of_getElem? hk), .inr ⟨dx, _, ea, ed, ?_, ?_⟩⟩
  · rw [List.length_reverse, List.length_zip, List.length_take, List.length_take]; omega
  · refine ht D σ _ a dx us s0 ss hl ne (by rw [upd_ne ne]; exact ea) (by rw [upd_same, zip_next hk hu]) ?_
    rw [upd_upd]
    exact q
/-- __init__'s body -/
structure InB (X : Cx) (C : Addr) (fs : List Str) (sts : List Stmt) : Prop where
  ex : ∃ t, PSs X sts t ∧ ∀ (D : L2.Ends) (σ : L2.St) (H : Hp) (a : Addr) (us : List V), σ[0]? = some (some (.ref a)) → (∀ j, j < fs.length → ∃ u, us[j]? = some u ∧ σ[j + 1]? = some (some u)) → us.length = fs.length → H a = some (exo a C none) → (fs = [] → D.nx σ H) →
    (fs ≠ [] → ∀ dx, H dx = none → dx ≠ a → D.nx σ (upd (upd H dx (exd dx (fs.zip us).reverse)) a (exo a C (some dx)))) → t D σ H
/-- a built-in class, as its __init__ is called -/
structure BaseOf (K : PySem.W.Frag) (mg : Str → Option Value) (x : Str) (B initId : String) : Prop where
  hm : mg x = none
  bt : bootBuiltins x = some (.type B)
  tb : typeOf (.type B) = pure (.type "type")
  nst : Manifest.isStub B = false
  hh : PySem.W.handedIn (.builtin initId) = true
  vV : PySem.W.findCls K (.type B) (.type "type") "__init__" = some (.val (.builtin initId))
theorem inb0 (T : OexB X.K C B initId) (b : BaseOf X.K X.mg x B initId) {j : Nat} {pl : Sem Bool} {q1 q2 q3 q4 q5 q6 : Pos} (h0 : X.N[0]? = some ("self" : Str) := by rfl) (hg : Gl X x := by rfl) (hn : x ≠ "__name__" := by decide) (hd : (x == ("__debug__" : Str)) = false := by decide)
    (v0 : Vis X.env.scope "self" := by first | exact Or.inl rfl | exact Or.inr (Or.inl rfl))
    (hs0 : swapsWith (.Call (.Attribute (.Name x q1) "__init__" q2) [.Name "self" q3, .Constant (.str msg) j q4] [] q5) none q6.line X.env = pure false := by rfl)
    (hc : eval (.Call (.Attribute (.Name x q1) "__init__" q2) [.Name "self" q3, .Constant (.str msg) j q4] [] q5) X.env = (do
      let ov ← eval (.Name x q1) X.env
      standAt q2.atName
      let (f, first) ← (holding [ov] (getMethod ov "__init__" pl))
      callWith q5 f first (backTo q5 (starEach [.Name "self" q3, .Constant (.str msg) j q4] X.env)) (backToKw q5 (keywordEach [] X.env))) := by rfl)
    (hpl : (backTo q5 (starEach [.Constant (.str msg) j q4] X.env)).any (·.1) = false := by rfl) :
    InB X C [] [.Expr (.Call (.Attribute (.Name x q1) "__init__" q2) [.Name "self" q3, .Constant (.str msg) j q4] [] q5) q6] := by
  refine ⟨_, pss_cons (ps_expr (pe_binit hg b.hm b.bt b.tb b.nst b.hh b.vV (pa_cons (pe_var (i := 0) h0 v0) (pa_cons pe_str pa_nil)) hn hd hc rfl hpl) hs0) pss_nil, fun D σ H a us s0 ss hl ea q _ => ?_⟩
  exact ⟨.ref a, s0, a, C, [.str msg], rfl, by simp, T, ea, q rfl⟩
theorem inb1 (T : OexB X.K C B initId) (hno : ∀ f ∈ fs, PySem.W.findIn X.K (.ref C) f = some none) (b : BaseOf X.K X.mg x B initId)
    {j : Nat} {pl : Sem Bool} {q1 q2 q3 q4 q5 q6 p1 p2 p3 p4 : Pos} (r : Ini X C fs 1 sts) (hk : fs[0]? = some f := by rfl) (h0 : X.N[0]? = some ("self" : Str) := by rfl) (h1 : X.N[1]? = some f := by rfl) (hg : Gl X x := by rfl) (hn : x ≠ "__name__" := by decide) (hd : (x == ("__debug__" : Str)) = false := by decide)
    (v0 : Vis X.env.scope "self" := by first | exact Or.inl rfl | exact Or.inr (Or.inl rfl)) (v1 : Vis X.env.scope f := by first | exact Or.inl rfl | exact Or.inr (Or.inl rfl)) (n1 : (f == ("__debug__" : Str)) = false := by decide) (n2 : (f == ("__classdict__" : Str)) = false := by decide)
    (hs : swapsWith (.Name f p3) (some (.Attribute (.Name "self" p1) f p2)) p4.line X.env = pure false := by rfl)
    (hs0 : swapsWith (.Call (.Attribute (.Name x q1) "__init__" q2) [.Name "self" q3, .Constant (.str msg) j q4] [] q5) none q6.line X.env = pure false := by rfl)
    (hc : eval (.Call (.Attribute (.Name x q1) "__init__" q2) [.Name "self" q3, .Constant (.str msg) j q4] [] q5) X.env = (do
      let ov ← eval (.Name x q1) X.env
      standAt q2.atName
      let (f, first) ← (holding [ov] (getMethod ov "__init__" pl))
      callWith q5 f first (backTo q5 (starEach [.Name "self" q3, .Constant (.str msg) j q4] X.env)) (backToKw q5 (keywordEach [] X.env))) := by rfl)
    (hpl : (backTo q5 (starEach [.Constant (.str msg) j q4] X.env)).any (·.1) = false := by rfl) :
    InB X C fs (.Expr (.Call (.Attribute (.Name x q1) "__init__" q2) [.Name "self" q3, .Constant (.str msg) j q4] [] q5) q6 :: .Assign [.Attribute (.Name "self" p1) f p2] (.Name f p3) p4 :: sts) := by
  obtain ⟨t, pt, ht⟩ := r.ex
  refine ⟨_, pss_cons (ps_expr (pe_binit hg b.hm b.bt b.tb b.nst b.hh b.vV (pa_cons (pe_var (i := 0) h0 v0) (pa_cons pe_str pa_nil)) hn hd hc rfl hpl) hs0)
    (pss_cons (ps_osb (B := B) (initId := initId) (pe_var (i := 0) h0 v0) (pe_var (i := 1) h1 v1 n1 n2) hs) pt), fun D σ H a us s0 ss hl ea _ q => ?_⟩
  have hkl := (List.getElem?_eq_some_iff.mp hk).1
  obtain ⟨u, hu, hσ⟩ := ss 0 hkl
  have hne : fs ≠ [] := fun z => by rw [z] at hkl; exact absurd hkl (Nat.not_lt_zero _)
  refine ⟨.ref a, s0, a, C, [.str msg], rfl, by simp, T, ea, ?_⟩
  refine ⟨u, hσ, .ref a, s0, a, C, rfl, T, hno f (List.mem_of_getElem? hk), .inl ⟨ea, fun dx hd ne => ?_⟩⟩
  refine ht D σ _ a dx us s0 ss hl (Ne.symm ne) upd_same ?_ ?_
  · rw [upd_ne ne, upd_same, show (1 : Nat) = 0 + 1 from rfl, zip_next hk hu]
    simp
  · rw [upd_comm (Ne.symm ne), upd_upd]
    exact q hne dx hd ne
end
section
variable {P : Program} {w : World} {K : PySem.W.Frag} {mg : Str → Option Value} {base : Heap} {k : Nat} {fI : Addr} {fd : FuncData} {fs : List Str} {qual : Str} {st : Stmt} {C : Addr} {CX : CXT}
theorem inits_ok (U : Fun K "__init__" qual st fI fd) (S : FnScope ("self" :: fs) ("self" :: fs) (defScope st))
    (body : ∀ (cd : Value) (A : Around) (outer : List Env) (s : Shared) (H : Hp) (E : XK), InB (cxOf CX P w K mg base ("self" :: fs) qual (defScope st) fI cd A outer s H E) C fs (defBody st)) : FnOk P w K mg base CX (k + 1) fI fd ("self" :: fs) (InitS C fs) := by
  obtain ⟨oc, od, kV, doc, pm, an, cdv, ct, osl, rfl, lk, hcd⟩ := U.ex
  refine fn_of lk hcd S (fun vs H Q E h => ?_) fun A outer s H vs Q E hr h => ?_
  · obtain ⟨a, us, rfl, hl, _⟩ := h
    simp [hl]
  · obtain ⟨a, us, rfl, hl, ea, q0, q⟩ := h
    obtain ⟨t, pt, ht⟩ := (body cdv A outer s H E).ex
    refine ⟨t, pt, ht _ _ _ a us (start_at rfl) (fun j hj => ?_) hl ea (fun z => q0 z) fun z dx hd ne => q z dx hd ne⟩
    rw [← hl] at hj
    exact ⟨us[j], List.getElem?_eq_getElem hj, start_at (by rw [List.getElem?_cons_succ, List.getElem?_eq_getElem hj])⟩
end

/-! ### C(e, ..), made and kept -/
/-- how a new one stands -/
def MadeE (C a : Addr) (od : Option Addr) (oe : Obj) : Prop := oe.cls = .ref C ∧ oe.dict = od ∧ ∃ ws, oe.data = .fields ws
def tMkE (C : Addr) (sp : Sp) (ta : TA) : TE := fun σ H Q => ta σ H fun vs H1 => vs.length ≤ 1000 ∧ ∀ a, H1 a = none → sp (.ref a :: (vs ++ [])) (upd H1 a (exo a C none))
  (fun v H2 => v = .non ∧ ((H2 a = some (exo a C none) ∧ ∀ oe, MadeE C a none oe → Q (.ref a) (upd H2 a (exq a oe))) ∨
    ∃ (d : Addr) (fs : List (Str × V)), H2 a = some (exo a C (some d)) ∧ H2 d = some (exd d fs) ∧ d ≠ a ∧ ∀ oe, MadeE C a (some d) oe → Q (.ref a) (upd (upd H2 d (.xd fs)) a (exq a oe)))) (fun _ _ _ => False)
section
variable {X : Cx} {e : Expr} {es : List Expr} {ta : TA} {p pos : Pos} {B initId x : String}
theorem mkE {pins : List (Addr × Obj)} {σ : L2.St} {H : Hp} {s : Shared} {Q : VK} {us : List Value} {vs : List V} {C fI : Addr} {k : Nat} {fd : FuncData} {ps : List Str} {sp : Sp} (T : OexB X.K C B initId) (iC : PySem.W.findIn X.K (.ref C) "__init__" = some (some (.ref fI))) (tI : PySem.W.typeIn X.K (.ref fI) = some (.type "function"))
    (F1 : FnOk X.prog X.w X.K X.mg X.base (L2.CX X.prog X.w) k fI fd ps sp) (hr : Room (k + 1) X.A) (hb : Binds X.K fd ps []) (I : Inv X pins σ H s) (rv : Vals vs us) (hz : vs.length ≤ 1000) (h : ∀ a, H a = none → sp (.ref a :: (vs ++ [])) (upd H a (exo a C none))
      (fun v H2 => v = .non ∧ ((H2 a = some (exo a C none) ∧ ∀ oe, MadeE C a none oe → Q (.ref a) (upd H2 a (exq a oe))) ∨
        ∃ (d : Addr) (fs : List (Str × V)), H2 a = some (exo a C (some d)) ∧ H2 d = some (exd d fs) ∧ d ≠ a ∧ ∀ oe, MadeE C a (some d) oe → Q (.ref a) (upd (upd H2 d (.xd fs)) a (exq a oe)))) (fun _ _ _ => False)) :
    wpAny (model X.prog X.w) X.A (call (.ref C) us) (EP X pins σ Q) X.xe s := by
  obtain ⟨nm, q, N, bs, bm, sn, sub, ab, col, dd, k0, k1, k2, k3, k5, newId, bmB, hC, ht, FB, SF⟩ := T.cls
  obtain ⟨hp, g, dr, tk, os⟩ := s
  have hsq : hp.objs.size ≤ hp.objs.size + 1 := Nat.le_succ _
  have hn : H (hp.objs.size + 1) = none := I.hok.fresh hsq
  have hq := h (hp.objs.size + 1) hn
  have kpz : ∀ b o, hp.get? b = some o → ((hp.push (PySem.W.kdv_tup us)).push (PySem.HandSPX.excO C hp.objs.size)).get? b = some o := fun b o e => Heap.get?_push_of_some _ (Heap.get?_push_of_some _ e)
  have hgt : ((hp.push (PySem.W.kdv_tup us)).push (PySem.HandSPX.excO C hp.objs.size)).get? (hp.objs.size + 1) = some (PySem.HandSPX.excO C hp.objs.size) := by heap_get
  have I2 : Inv X pins σ (upd H (hp.objs.size + 1) (exo (hp.objs.size + 1) C none)) ⟨(hp.push (PySem.W.kdv_tup us)).push (PySem.HandSPX.excO C hp.objs.size), g, dr, tk, os⟩ :=
    I.laid (t' := tk) (a := hp.objs.size + 1) (o := exo (hp.objs.size + 1) C none) (h' := (hp.push (PySem.W.kdv_tup us)).push (PySem.HandSPX.excO C hp.objs.size)) kpz hsq (exo_ok hgt)
  have r2 : Vals (V.ref (hp.objs.size + 1) :: (vs ++ [])) (Value.ref (hp.objs.size + 1) :: us ++ []) := by
    have e : Vals (vs ++ []) (us ++ []) := by rw [List.append_nil, List.append_nil]; exact rv
    exact .cons rfl e
  have hl : (Value.ref (hp.objs.size + 1) :: us ++ []).length = ps.length := ((F1.len _ _ _ _ hq).symm.trans r2.length).symm
  have huz : us.length ≤ sizeLine := by
    rw [← Paired.length rv, sizeLine_eq]
    omega
  refine wpAny_call (PySem.HandSPX.call_own FB (fun Y => PySem.W.excTail_contains Y _ ht) (I.kIn _ _ hC) (PySem.W.looks_findIn I.kIn iC) (fun self => PySem.W.bind_fn I.kIn self tI) huz
    (codeAny_mono (F1.run _ X.stack _ _ ⟨Value.ref (hp.objs.size + 1) :: us, []⟩ (Value.ref (hp.objs.size + 1) :: us ++ []) _ _ (fun _ _ _ => False) (hr.make C us []) (I2.env0.make C us []) (hb _ (Value.ref (hp.objs.size + 1) :: us) I2.kIn hl) r2 hq) fun r s' hq' => ?_))
  cases r with
  | error er =>
    obtain ⟨_, _, _, _, _, _, _, _, _, _, _, _, z⟩ := hq'
    exact z.elim
  | ok fl =>
    cases fl with
    | ret u =>
      obtain ⟨v, H2, J, rv', ev, q2⟩ := Inv.after I2 hq'
      subst ev
      refine ⟨rv', ?_⟩
      rcases q2 with ⟨ea, q2⟩ | ⟨d, fs, ea, ed, ne, q2⟩
      · obtain ⟨t0, hoo⟩ := exo_at J.hok ea
        have J2 := J.write (t' := s'.toks) (x := hp.objs.size + 1) (e := hp.objs.size + 1) (o := exq (hp.objs.size + 1) _) (h' := s'.heap) (by rw [ea]; exact True.intro) (.inl rfl) (fun _ _ _ z => z) ⟨_, hoo⟩ (exq_ok hoo)
        exact ⟨.ref (hp.objs.size + 1), _, J2, rfl, q2 _ ⟨rfl, rfl, _, rfl⟩⟩
      · obtain ⟨t0, hoo⟩ := exo_at J.hok ea
        obtain ⟨mz, nsx, rlx⟩ := exd_at J.hok ed
        have hd : ∃ o, s'.heap.get? d = some o := by
          obtain ⟨o, _, _, z, _⟩ := id nsx
          exact ⟨o, z⟩
        have J1 := J.write (t' := s'.toks) (x := d) (e := d) (o := .xd fs) (h' := s'.heap) (by rw [ed]; exact True.intro) (.inl rfl) (fun _ _ _ z => z) hd ⟨mz, nsx, rlx⟩
        have ea2 : (upd H2 d (.xd fs)) (hp.objs.size + 1) = some (exo (hp.objs.size + 1) C (some d)) := by rw [upd_ne (Ne.symm ne)]; exact ea
        have J2 := J1.write (t' := s'.toks) (x := hp.objs.size + 1) (e := hp.objs.size + 1) (o := exq (hp.objs.size + 1) _) (h' := s'.heap) (by rw [ea2]; exact True.intro) (.inl rfl) (fun _ _ _ z => z) ⟨_, hoo⟩ (exq_ok hoo)
        exact ⟨.ref (hp.objs.size + 1), _, J2, rfl, q2 _ ⟨rfl, rfl, _, rfl⟩⟩
    | next => exact False.elim hq'
    | brk => exact False.elim hq'
    | cont => exact False.elim hq'
end
end DL
end
section
set_option Elab.async false
set_option linter.all false
set_option maxRecDepth 100000
set_option maxHeartbeats 4000000
/-! DLT: .. as denotations; a list of such, looked into; what the head leaves. -/
namespace DL
open PySem L2 PySem.Spec PyProof.Rows

/-- a class of the text that is called, its __init__ -/
structure ExcB (P : Program) (w : World) (K : PySem.W.Frag) (mg : Str → Option Value) (base : Heap) (n : Str) (k : Nat) (fs : List Str) : Prop where
  ex : ∃ (C fI : Addr) (fd : FuncData) (B iid : String), PySem.W.nsIn K mainGlobals n = some (some (.ref C)) ∧ mg n = some (.ref C) ∧ OexB K C B iid ∧ PySem.W.findIn K (.ref C) "__init__" = some (some (.ref fI)) ∧ PySem.W.typeIn K (.ref fI) = some (.type "function") ∧
    FnOk P w K mg base (L2.CX P w) k fI fd ("self" :: fs) (InitS C fs) ∧ Binds K fd ("self" :: fs) []
def xmake (n : Str) (fs : List Str) (o : Option (List PyData)) : M T := fun ρ => match o with
  | some ds => if ds.length = fs.length ∧ ds.length ≤ 900 then .ok (.exc n (fs.zip ds).reverse) ρ else .no
  | none => .no
def dmkx (n : Str) (fs : List Str) (fa : M (List T)) : M T := mbind fa fun ts => xmake n fs (allD ts)
section
variable {K : PySem.W.Frag} {m : List Bool} {B : Bs} {σ : L2.St} {H : Hp} {ρ : Rho} {ws xs : List V} {ts : List T} {ds : List PyData} {n : Str} {fs : List Str} {C a dx : Addr} {oe : Obj}
theorem Ok.made (hC : PySem.W.nsIn K mainGlobals n = some (some (.ref C))) (ok : Ok K m B σ H ρ (xs ++ ws) (ds.map T.d ++ ts)) (hl : xs.length = ds.length) (hf : ds.length = fs.length) (h0 : fs ≠ []) (hd : H dx = none) (ha : H a = none) (ne : dx ≠ a) (me : MadeE C a (some dx) oe) :
    Ok K m B σ (upd (upd H dx (.xd (fs.zip xs).reverse)) a (exq a oe)) ρ (.ref a :: ws) (.exc n (fs.zip ds).reverse :: ts) := by
  obtain ⟨I, Fr, Fw, s, r, w, km⟩ := ok
  obtain ⟨G, E, hF, g, w'⟩ := RepTs.split (by rw [hl, List.length_map]) w
  subst hF
  have dd := drAll_pending hl w
  have s1 := s.newD (o := .xd (fs.zip xs).reverse) hd
  have ha1 : (upd H dx (.xd (fs.zip xs).reverse)) a = none := by rw [upd_ne (Ne.symm ne)]; exact ha
  have s2 := s1.newD (o := exq a oe) ha1
  have hI1 := (s.fresh hd).2.1
  have hI2 := (s1.fresh ha1).2.1
  have sm : Same I (upd (upd I dx (.xd (fs.zip xs).reverse)) a (exq a oe)) := fun b u e => by
    rw [upd_ne (ne_of_none (by rw [upd_ne (ne_of_none e hI1)]; exact e) hI2), upd_ne (ne_of_none e hI1)]; exact e
  have nf : ∀ b ∈ Fr ++ (G ++ E), (upd (upd H dx (.xd (fs.zip xs).reverse)) a (exq a oe)) b = H b := fun b z => by
    rw [upd_ne (show b ≠ a from fun e => s.thr b z (by rw [e]; exact ha)), upd_ne (show b ≠ dx from fun e => s.thr b z (by rw [e]; exact hd))]
  have ea : ExcAt K (upd (upd I dx (.xd (fs.zip xs).reverse)) a (exq a oe)) a n (fs.zip ds).reverse := by
    refine ⟨oe, C, xs.reverse, upd_same, me.1, me.2.2, fun _ => ⟨dx, me.2.1, ?_⟩, fun z => absurd z (rev_ne hf h0), ?_, hC⟩
    · rw [upd_ne ne, upd_same, rev_fst hf, zip_rev (by omega)]
    · rw [rev_snd hf]
      exact (drAll_mono sm dd).reverse
  refine ⟨_, Fr, E, s2.less (fun b z => ?_) ?_, r.mono sm fun b z => nf b (List.mem_append_left _ z), .cons (F := []) (.exc ea) (w'.mono sm fun b z => nf b (by simp [z])), km⟩
  · rcases List.mem_append.mp z with z | z
    · exact List.mem_append_left _ z
    · exact List.mem_append_right _ (List.mem_append_right _ z)
  · exact (List.Sublist.append (List.Sublist.refl _) (List.sublist_append_right _ _)).nodup s.nd
theorem Ok.made0 (hC : PySem.W.nsIn K mainGlobals n = some (some (.ref C))) (ok : Ok K m B σ H ρ ws ts) (ha : H a = none) (me : MadeE C a none oe) : Ok K m B σ (upd H a (exq a oe)) ρ (.ref a :: ws) (.exc n [] :: ts) := by
  obtain ⟨I, Fr, Fw, s, r, w, km⟩ := ok
  have hI := (s.fresh ha).2.1
  have sm : Same I (upd I a (exq a oe)) := fun b u e => by rw [upd_ne (ne_of_none e hI)]; exact e
  have nf : ∀ b ∈ Fr ++ Fw, (upd H a (exq a oe)) b = H b := fun b z => upd_ne (show b ≠ a from fun e => s.thr b z (by rw [e]; exact ha))
  have ea : ExcAt K (upd I a (exq a oe)) a n [] := ⟨oe, C, [], upd_same, me.1, me.2.2, fun z => absurd rfl z, fun _ => me.2.1, .nil, hC⟩
  exact ⟨_, Fr, Fw, s.newD ha, r.mono sm fun b z => nf b (List.mem_append_left _ z), .cons (F := []) (.exc ea) (w.mono sm fun b z => nf b (List.mem_append_right _ z)), km⟩
end
section
variable {X : Cx} {w : Wd} {e : Expr} {es : List Expr} {fa : M (List T)} {os : List (Option Nat)} {k k' : Nat} {n : Str} {p pos : Pos} {fs : List Str} {K : PySem.W.Frag} {t : TA} {C : Addr}
theorem den_mkx (hC : PySem.W.nsIn K mainGlobals n = some (some (.ref C))) (d : DenA K w t os fa) : DenE K w (tMkE C (InitS C fs) t) (dmkx n fs fa) := fun B σ H ρ ws ts Q ok q => by
  refine d B σ H ρ ws ts _ ok (PostG.mono (PostG.bind q) fun vs ρ1 q1 xs H1 hl ok1 _ => ?_)
  have q1 : PostG K w B (xmake n fs (allD vs) ρ1) _ := q1
  unfold xmake at q1
  cases e1 : allD vs with
  | none => rw [e1] at q1; exact False.elim q1
  | some ds =>
    rw [e1] at q1
    by_cases hz : ds.length = fs.length ∧ ds.length ≤ 900
    · simp only [if_pos hz] at q1
      have q2 : ∀ x H', Ok K w.m B σ H' ρ1 (x :: ws) (.exc n (fs.zip ds).reverse :: ts) → Q x H' := q1
      have hv := allD_eq e1
      subst hv
      rw [List.length_map] at hl
      refine ⟨by omega, fun a na => ⟨a, xs, by rw [List.append_nil], by omega, upd_same, fun z => ⟨rfl, .inl ⟨upd_same, fun oe me => ?_⟩⟩, fun z dx hd ne => ⟨rfl, .inr ⟨dx, (fs.zip xs).reverse, upd_same, ?_, ne, fun oe me => ?_⟩⟩⟩⟩
      · subst z
        have hd0 : ds = [] := List.eq_nil_of_length_eq_zero hz.1
        subst hd0
        have hx0 : xs = [] := List.eq_nil_of_length_eq_zero hl
        subst hx0
        rw [upd_upd]
        exact q2 _ _ (ok1.made0 hC na me)
      · rw [upd_ne ne, upd_same]
      · have hd' : H1 dx = none := by rw [upd_ne ne] at hd; exact hd
        have e3 : upd (upd (upd (upd (upd H1 a (exo a C none)) dx (exd dx (fs.zip xs).reverse)) a (exo a C (some dx))) dx (.xd (fs.zip xs).reverse)) a (exq a oe) = upd (upd H1 dx (.xd (fs.zip xs).reverse)) a (exq a oe) := by
          funext c
          by_cases y : c = a
          · rw [y, upd_same, upd_same]
          · rw [upd_ne y, upd_ne y]
            by_cases x : c = dx
            · rw [x, upd_same, upd_same]
            · rw [upd_ne x, upd_ne x, upd_ne y, upd_ne x, upd_ne y]
        rw [e3]
        exact q2 _ _ (ok1.made hC hl hz.1 z hd' na ne me)
    · simp only [if_neg hz] at q1
      exact False.elim q1
theorem pe_mkx {ta : TA} {sp : Sp} {fI : Addr} {fd : FuncData} {ps : List Str} {B iid x : String} (T : OexB X.K C B iid) (iC : PySem.W.findIn X.K (.ref C) "__init__" = some (some (.ref fI))) (tI : PySem.W.typeIn X.K (.ref fI) = some (.type "function"))
    (F1 : FnOk X.prog X.w X.K X.mg X.base (L2.CX X.prog X.w) k fI fd ps sp) (hr : Room (k + 1) X.A) (hb : Binds X.K fd ps []) (hg : Gl X n) (hm : X.mg n = some (.ref C)) (ha : PA X (e :: es) ta) (dbg : (n == ("__debug__" : Str)) = false)
    (st : starEach (e :: es) X.env = (false, eval e X.env) :: starEach es X.env) (pl : (backTo pos (starEach es X.env)).any (·.1) = false) : PE X (.Call (.Name n p) (e :: es) [] pos) (tMkE C sp ta) := ⟨fun pins s σ H Q I h =>
  wpAny_Call_Name_kw (ld_glob I hg hm (PySem.W.callWith_K (h₀ := X.base) I.ok.mod.kin T.kpB (thn (ha.run pos pins s σ H _ I h) fun us s1 ⟨vs, H1, I1, rv, hz, q⟩ => ⟨I1.kIn, mkE T iC tI F1 hr hb I1 rv hz q⟩) st pl) dbg)⟩
theorem pe_mkx0 {sp : Sp} {fI : Addr} {fd : FuncData} {ps : List Str} {B iid x : String} (T : OexB X.K C B iid) (iC : PySem.W.findIn X.K (.ref C) "__init__" = some (some (.ref fI))) (tI : PySem.W.typeIn X.K (.ref fI) = some (.type "function"))
    (F1 : FnOk X.prog X.w X.K X.mg X.base (L2.CX X.prog X.w) k fI fd ps sp) (hr : Room (k + 1) X.A) (hb : Binds X.K fd ps []) (hg : Gl X n) (hm : X.mg n = some (.ref C)) (dbg : (n == ("__debug__" : Str)) = false) : PE X (.Call (.Name n p) [] [] pos) (tMkE C sp tNil) := ⟨fun pins s σ H Q I h =>
  wpAny_Call_Name_kw (ld_glob I hg hm (PySem.W.callWith_K0 I.kIn T.kpB (mkE (us := []) T iC tI F1 hr hb I .nil h.1 h.2)) dbg)⟩
theorem de_mkx (D : ExcB X.prog X.w X.K X.mg X.base n k fs) (at_ : At X w k') (ha : DA X w (e :: es) os fa) (hk : k + 1 ≤ k' := by decide) (hg : Gl X n := by rfl) (hdb : (n == ("__debug__" : Str)) = false := by decide)
    (st : starEach (e :: es) X.env = (false, eval e X.env) :: starEach es X.env := by rfl) (pl : (backTo pos (starEach es X.env)).any (·.1) = false := by rfl) : DE X w (.Call (.Name n p) (e :: es) [] pos) (dmkx n fs fa) := by
  obtain ⟨C, fI, fd, B, iid, hC, hm, T, iC, tI, F, b⟩ := D.ex
  obtain ⟨t, pt, dt⟩ := ha.ex
  exact de_v (pe_mkx (x := "") T iC tI F (at_.r.mono hk) b hg hm pt hdb st pl) (den_mkx hC dt)
theorem de_mkx0 (D : ExcB X.prog X.w X.K X.mg X.base n k fs) (at_ : At X w k') (hk : k + 1 ≤ k' := by decide) (hg : Gl X n := by rfl) (hdb : (n == ("__debug__" : Str)) = false := by decide) : DE X w (.Call (.Name n p) [] [] pos) (dmkx n fs (mret [])) := by
  obtain ⟨C, fI, fd, B, iid, hC, hm, T, iC, tI, F, b⟩ := D.ex
  exact de_v (pe_mkx0 (x := "") T iC tI F (at_.r.mono hk) b hg hm hdb) (den_mkx hC den_nil)
end

/-! ### a list of exceptions, looked into -/
def isE : T → Option T
  | .exc n fs => some (.exc n fs)
  | _ => none
def tIxX : T → T → Option T
  | .lst xs, .d (.int k) => (atI xs k).bind isE
  | t, u => onD pIx t u
section
variable {K : PySem.W.Frag} {m : List Bool}
theorem repTs_exc {I H : Hp} {n : Str} {fs : List (Str × PyData)} : ∀ {vs : List V} {xs : List T} {F : List Addr} {j : Nat}, RepTs K I H vs xs F → xs[j]? = some (.exc n fs) → ∃ v, vs[j]? = some v ∧ RepT K I H v (.exc n fs) []
  | _, _, _, _, .nil, e => nomatch e
  | _, _, _, 0, .cons a r, e => by
    cases e
    cases a with
    | exc q => exact ⟨_, rfl, .exc q⟩
  | _, _, _, j + 1, .cons a r, e => by
    obtain ⟨v, h1, h2⟩ := repTs_exc (j := j) r e
    exact ⟨v, h1, h2⟩
theorem od_ixX : OpD K m (rIx K) tIxX := fun B σ H ρ ws ts x y t u v Q ok e q => by
  unfold tIxX at e
  split at e
  · rename_i xs k
    cases e3 : atI xs k with
    | none => rw [e3] at e; cases e
    | some t0 =>
      cases t0 with
      | exc n fs =>
        rw [e3] at e
        cases e
        have hy := ok.topInt
        subst hy
        obtain ⟨I, Fr, Fw, s, r, w, km⟩ := id ok.pop
        cases w with
        | cons a b =>
          rename_i F1 F2
          cases a with
          | lst ha it =>
            rename_i a vs F3
            have hlen : vs.length = xs.length := it.len
            unfold atI at e3
            cases p : ixN xs.length k with
            | none => rw [p] at e3; cases e3
            | some j =>
              rw [p] at e3
              obtain ⟨v, hv, rv⟩ := repTs_exc it e3
              exact .inl ⟨a, vs, k, v, rfl, rfl, SqL.of ha, by unfold atI; rw [hlen, p]; exact hv, q _ _ ⟨I, Fr, _, s.less (fun b m => by
                rcases List.mem_append.mp m with m | m
                · exact List.mem_append_left _ m
                · exact List.mem_append_right _ (List.mem_append_right _ m)) ((List.Sublist.append (List.Sublist.refl _) (List.sublist_append_right _ _)).nodup s.nd), r, .cons (F := []) rv b, km⟩⟩
      | _ => rw [e3] at e; cases e
  · exact od_ix B σ H ρ ws ts x y t u v Q ok e q
end

/-! ### what the head leaves -/
structure HasB0 (K : PySem.W.Frag) (x B initId : String) : Prop where
  hm : PySem.W.nsIn K mainGlobals x = some none
structure HasE0 (K : PySem.W.Frag) (n qual : Str) (st : Stmt) (fs : List Str) (B iid : String) : Prop where
  ex : ∃ (C fI : Addr) (fd : FuncData), PySem.W.nsIn K mainGlobals n = some (some (.ref C)) ∧ OexB K C B iid ∧ PySem.W.findIn K (.ref C) "__init__" = some (some (.ref fI)) ∧ PySem.W.typeIn K (.ref fI) = some (.type "function") ∧ Fun K "__init__" qual st fI fd ∧ (∀ f ∈ fs, PySem.W.findIn K (.ref C) f = some none)
structure HasE (K : PySem.W.Frag) (mg : Str → Option Value) (n qual : Str) (st : Stmt) (fs : List Str) (B iid : String) : Prop where
  ex : ∃ (C fI : Addr) (fd : FuncData), PySem.W.nsIn K mainGlobals n = some (some (.ref C)) ∧ mg n = some (.ref C) ∧ OexB K C B iid ∧ PySem.W.findIn K (.ref C) "__init__" = some (some (.ref fI)) ∧ PySem.W.typeIn K (.ref fI) = some (.type "function") ∧ Fun K "__init__" qual st fI fd ∧ (∀ f ∈ fs, PySem.W.findIn K (.ref C) f = some none)
section
variable {K : PySem.W.Frag} {h : Heap} {mg : Str → Option Value} {n qual : Str} {st : Stmt} {fs : List Str} {C fI : Addr} {B iid newId : String} {bmB : List Value}
theorem HasE0.at (X : K.In h) (G : h.Ns mainGlobals mg) (a : HasE0 K n qual st fs B iid) : HasE K mg n qual st fs B iid := by
  obtain ⟨C, fI, fd, h1, h2⟩ := a.ex
  exact ⟨C, fI, fd, h1, PySem.W.mg_of X G h1, h2⟩
theorem HasE0.by_ {nm q : Str} {N : Addr} {bs bm : List Value} {sn : _} {sub ab col dd k0 k1 k2 k3 k5 : _} {oc : Value} {od an : Option Addr} {osl : Array (Option Value)} {kV doc pm cdv ct : Value} (FB : ExcBaseFacts B newId iid bmB) (SF : StoreFacts B bmB "object.__setattr__" "object") (a : PySem.W.nsIn K mainGlobals n = some (some (.ref C)))
    (l : K.lookup C = some (excClassObj nm q C N bs bm true sn sub ab col dd k0 k1 k2 k3 k5 newId)) (hb : PySem.W.excTail bmB bm = true) (sa : PySem.W.findIn K (.ref C) "__setattr__" = some (some (.builtin "object.__setattr__")))
    (ex : PySem.W.subIn K (.ref C) (.type "BaseException") = some true) (ty : PySem.W.typeIn K (.ref C) = some (.type "type")) (kp : PySem.W.keepIn K (.ref C) = true) (hd : PySem.W.hasDictIn K C = true) (i : PySem.W.findIn K (.ref C) "__init__" = some (some (.ref fI))) (ti : PySem.W.typeIn K (.ref fI) = some (.type "function"))
    (lf : K.lookup fI = some ⟨oc, od, .func (PySem.W.fnOf "__init__" qual (defArgs st) (defBody st) (defScope st) .none kV doc pm an cdv ct), osl⟩) (cf : PySem.W.codeIn K cdv qual = true) (kf : PySem.W.keepIn K (.ref fI) = true)
    (hno : ∀ f ∈ fs, PySem.W.findIn K (.ref C) f = some none) : HasE0 K n qual st fs B iid :=
  ⟨C, fI, _, a, ⟨⟨_, _, _, _, _, _, _, _, _, _, _, _, _, _, _, _, _, l, hb, FB, SF⟩, sa, ex, ty, kp, hd⟩, i, ti, fun_mk lf cf kf, hno⟩
/-- the built-in class B, as the module and the text have it -/
structure HasBI (K : PySem.W.Frag) (B iid : String) : Prop where
  vV : PySem.W.findCls K (.type B) (.type "type") "__init__" = some (.val (.builtin iid))
end
end DL
end
section
set_option Elab.async false
set_option linter.all false
set_option maxRecDepth 100000
set_option maxHeartbeats 4000000
/-! DLU: a text times a number; the five built-in classes; x[i] of a list of exceptions. -/
namespace DL
open PySem L2 PySem.Spec PyProof.Rows

def strRep (z : Str) (k : Int) : Str := if k < 1 then Str.empty else if (k == 1 || z.length == 0) = true then z else ⟨(List.replicate k.toNat z.cps).foldl (· ++ ·) #[]⟩
def rMulS : R2 := fun x y H Q => ∃ z k, x = .str z ∧ y = .int k ∧ 0 ≤ k ∧ k ≤ 1000 ∧ z.length ≤ 1000 ∧ Q (.str (strRep z k)) H
theorem rep_size (x : Array Nat) : ∀ (n : Nat) (a : Array Nat), ((List.replicate n x).foldl (· ++ ·) a).size = a.size + n * x.size
  | 0, a => by simp
  | n + 1, a => by
    rw [List.replicate_succ, List.foldl_cons, rep_size x n, Array.size_append, Nat.succ_mul]
    omega
theorem op_mulS {X : Cx} : OpR X (binaryOp .Mult) rMulS := by
  intro pins s σ H x y v u Q I rx ry h
  obtain ⟨z, k, rfl, rfl, h0, h1, hz, q⟩ := h
  obtain ⟨t, rfl⟩ := rx
  obtain ⟨t', rfl⟩ := ry
  have hl : ¬ k < 1 → (k == 1 || z.length == 0) = false → Builtin.Str.tooLong (z.length * k.toNat) = false := fun _ _ => by
    have : z.length * k.toNat ≤ 1000 * 1000 := Nat.mul_le_mul hz (by omega)
    exact decide_eq_false (by rw [sizeLine_eq]; omega)
  refine P.mul_str (by rw [decide_eq_false (by omega), decide_eq_false (by omega)]; rfl) (fun a _ => ?_) hl ?_
  · have : (1000 : Int) ≤ (2 ^ 63 - 1) / k := Int.le_ediv_of_mul_le (by omega) (by omega)
    omega
  · have key : ∀ s', Inv X pins σ H s' → ∀ tk, EP X pins σ Q (.str (strRep z k) tk) s' := fun s' J tk => ⟨.str (strRep z k), H, J, ⟨_, rfl⟩, q⟩
    unfold strRep at key
    by_cases a : k < 1
    · rw [if_pos a] at key ⊢
      exact ⟨by decide, key _ (I.tok _) _⟩
    · rw [if_neg a] at key ⊢
      by_cases b : (k == 1 || z.length == 0) = true
      · rw [if_pos b] at key ⊢
        exact key _ I _
      · rw [if_neg b] at key ⊢
        refine ⟨?_, key _ (I.tok _) _⟩
        have e : (⟨(List.replicate k.toNat z.cps).foldl (· ++ ·) #[]⟩ : Str).length = 0 + k.toNat * z.length := rep_size z.cps k.toNat #[]
        have : k.toNat * z.length ≤ 1000 * 1000 := Nat.mul_le_mul (by omega) hz
        rw [e, sizeLine_eq]
        omega
def pMulS : PyData → PyData → Option PyData
  | .str z, .int k => if (decide (0 ≤ k) && decide (k ≤ 1000) && decide (z.length ≤ 1000)) = true then some (.str (strRep z k)) else none
  | x, y => pMul x y
def rMul3 : R2 := fun x y H Q => rMulS x y H Q ∨ rMul2 x y H Q
theorem op_mul3 {X : Cx} : OpR X (binaryOp .Mult) rMul3 := OpR.or op_mulS op_mul2
section
variable {K : PySem.W.Frag} {m : List Bool} {X : Cx} {w : Wd} {a b : Expr} {fa fb : M T} {pos : Pos}
theorem od_mul3 : OpD K m rMul3 (onD pMulS) := fun B σ H ρ ws ts x y t u v Q ok e q => by
  cases t with
  | d t0 =>
    cases u with
    | d u0 =>
      have e : Option.map T.d (pMulS t0 u0) = some v := e
      unfold pMulS at e
      split at e
      · rename_i _ _ z k _
        by_cases h : (decide (0 ≤ k) && decide (k ≤ 1000) && decide (z.length ≤ 1000)) = true
        · rw [if_pos h] at e
          cases e
          simp only [Bool.and_eq_true, decide_eq_true_eq] at h
          have hy := ok.topInt
          have hx := ok.pop.topStr
          subst hx hy
          exact .inl ⟨z, k, rfl, rfl, h.1.1, h.1.2, h.2, q _ _ ok.pop.pop.str⟩
        · rw [if_neg h] at e
          cases e
      · exact .inr (od_mul B σ H ρ ws ts x y _ _ v Q ok e q)
    | _ => cases e
  | _ => cases u <;> cases e
theorem de_ixX (ha : DE X w a fa) (hb : DE X w b fb) (hs : PlainIx b := by exact fun _ _ => rfl) : DE X w (.Subscript a b pos) (dop tIxX fa fb) := by
  obtain ⟨ta, pa, da⟩ := ha.ex
  obtain ⟨tb, pb, db⟩ := hb.ex
  exact de_v (pe_ix ix_seq pa pb hs) (den_op da db od_ixX)
end
section
variable {K : PySem.W.Frag} {mg : Str → Option Value}
theorem base_ValueError (h : mg "ValueError" = none) (v : PySem.W.findCls K (.type "ValueError") (.type "type") "__init__" = some (.val (.builtin "ValueError.__init__"))) : BaseOf K mg "ValueError" "ValueError" "ValueError.__init__" := ⟨h, bt_ValueError, by kernel_rfl, by decide +kernel, by decide +kernel, v⟩
theorem base_IndexError (h : mg "IndexError" = none) (v : PySem.W.findCls K (.type "IndexError") (.type "type") "__init__" = some (.val (.builtin "IndexError.__init__"))) : BaseOf K mg "IndexError" "IndexError" "IndexError.__init__" := ⟨h, bt_IndexError, by kernel_rfl, by decide +kernel, by decide +kernel, v⟩
theorem base_LookupError (h : mg "LookupError" = none) (v : PySem.W.findCls K (.type "LookupError") (.type "type") "__init__" = some (.val (.builtin "LookupError.__init__"))) : BaseOf K mg "LookupError" "LookupError" "LookupError.__init__" := ⟨h, bt_LookupError, by kernel_rfl, by decide +kernel, by decide +kernel, v⟩
theorem base_OverflowError (h : mg "OverflowError" = none) (v : PySem.W.findCls K (.type "OverflowError") (.type "type") "__init__" = some (.val (.builtin "OverflowError.__init__"))) : BaseOf K mg "OverflowError" "OverflowError" "OverflowError.__init__" := ⟨h, bt_OverflowError, by kernel_rfl, by decide +kernel, by decide +kernel, v⟩
theorem base_RuntimeError (h : mg "RuntimeError" = none) (v : PySem.W.findCls K (.type "RuntimeError") (.type "type") "__init__" = some (.val (.builtin "RuntimeError.__init__"))) : BaseOf K mg "RuntimeError" "RuntimeError" "RuntimeError.__init__" := ⟨h, bt_RuntimeError, by kernel_rfl, by decide +kernel, by decide +kernel, v⟩
end
end DL
end
section
set_option Elab.async false
set_option linter.all false
set_option maxRecDepth 100000
set_option maxHeartbeats 4000000
/-! PL1: what a piece of code comes to, in plain Lean. -/
namespace DL
open PySem L2

/-- it ends well, with P -/
def Ends {α : Type} (r : R α) (P : α → Rho → Prop) : Prop := match r with
  | .ok a ρ => P a ρ
  | _ => False
section
variable {α β : Type} {ρ ρ' : Rho} {P P' : α → Rho → Prop}
theorem Ends.ok {a : α} (h : P a ρ) : Ends (.ok a ρ) P := h
theorem Ends.eq {r : R α} {a : α} (e : r = .ok a ρ) (h : P a ρ) : Ends r P := by rw [e]; exact h
theorem Ends.get {r : R α} (h : Ends r P) : ∃ a ρ, r = .ok a ρ ∧ P a ρ := by
  cases r with
  | ok a ρ => exact ⟨a, ρ, rfl, h⟩
  | ex _ _ => exact h.elim
  | no => exact h.elim
theorem Ends.mono {r : R α} (h : Ends r P) (k : ∀ a ρ, P a ρ → P' a ρ) : Ends r P' := by
  obtain ⟨a, ρ, e, q⟩ := h.get
  rw [e]
  exact k a ρ q
theorem ends_bind {f : M α} {g : α → M β} {P : β → Rho → Prop} (h : Ends (f ρ) fun a ρ' => Ends (g a ρ') P) : Ends (mbind f g ρ) P := by
  obtain ⟨a, ρ', e, q⟩ := h.get
  unfold mbind
  rw [e]
  exact q
theorem ends_bind' {f : M α} {g : α → M β} {a : α} {P : β → Rho → Prop} (e : f ρ = .ok a ρ') (h : Ends (g a ρ') P) : Ends (mbind f g ρ) P := ends_bind (.eq e h)
/-- behind a statement -/
def AfterS (G : M Fl) (P : Fl → Rho → Prop) : Fl → Rho → Prop
  | .nx, ρ => Ends (G ρ) P
  | .rt t, ρ => P (.rt t) ρ
  | .bk, ρ => P .bk ρ
  | .ct, ρ => P .ct ρ
theorem ends_seq {F G : M Fl} {P : Fl → Rho → Prop} (h : Ends (F ρ) (AfterS G P)) : Ends (mseq F G ρ) P := by
  refine ends_bind (h.mono fun fl ρ' q => ?_)
  cases fl <;> exact q
theorem ends_nx {F G : M Fl} {P : Fl → Rho → Prop} (e : F ρ = .ok .nx ρ') (h : Ends (G ρ') P) : Ends (mseq F G ρ) P := ends_seq (.eq e h)
/-- a def's end -/
def OfFn (m : List Bool) (P : T → Rho → Prop) : Fl → Rho → Prop
  | .rt v, ρ => P v (keepm m ρ)
  | .nx, ρ => P (.d .none) (keepm m ρ)
  | _, _ => False
theorem ends_fn {n : Nat} {m : List Bool} {F : M Fl} {ts : List T} {P : T → Rho → Prop} (h : Ends (F (ts.map some ++ List.replicate (n - ts.length) none)) (OfFn m P)) : Ends (dfn n m F ts) P := by
  obtain ⟨fl, ρ', e, q⟩ := h.get
  unfold dfn
  rw [e]
  cases fl <;> first | exact q | exact q.elim
theorem Good.of {g : Fn} {ns : List Int} (h : Ends (g [.scr ns]) fun v _ => v = .d (.bool true)) : Good g ns := by
  obtain ⟨v, ρ, e, rfl⟩ := h.get
  exact ⟨ρ, e⟩
end
/-- a call -/
theorem ends_call {g : Fn} {os : List (Option Nat)} {fs : M (List T)} {vs : List T} {ρ ρ' : Rho} {P : T → Rho → Prop} (e : fs ρ = .ok vs ρ') (h : Ends (g vs) fun r ρa => P r (restore os ρa ρ')) : Ends (dcall g os fs ρ) P := by
  refine ends_bind' e ?_
  obtain ⟨r, ρa, e2, q⟩ := h.get
  unfold dcallF
  rw [e2]
  exact q
/-- the walks of a loop: J holds ahead of each turn -/
theorem ends_for {g : T → M Unit} {F : M Fl} {P : Fl → Rho → Prop} (J : List T → Rho → Prop) : ∀ {ts : List T} {ρ : Rho}, J ts ρ → (∀ ρ, J [] ρ → P .nx ρ) →
    (∀ t ts ρ, J (t :: ts) ρ → Ends (g t ρ) fun _ ρ1 => Ends (F ρ1) fun fl ρ2 => match fl with
      | .nx => J ts ρ2
      | .ct => J ts ρ2
      | .bk => P .nx ρ2
      | .rt v => P (.rt v) ρ2) → Ends (mfor g F ts ρ) P
  | [], ρ, h, h0, _ => h0 ρ h
  | t :: ts, ρ, h, h0, hs => by
    unfold mfor
    refine ends_bind ((hs t ts ρ h).mono fun _ ρ1 h1 => ends_bind (h1.mono fun fl ρ2 h2 => ?_))
    cases fl with
    | nx => exact ends_for J h2 h0 hs
    | ct => exact ends_for J h2 h0 hs
    | bk => exact h2
    | rt v => exact h2
/-! ### comprehensions whose parts compute -/
theorem toDs_map : ∀ ds : List PyData, toDs (ds.map T.d) = some ds
  | [] => rfl
  | d :: ds => by rw [List.map_cons, toDs, toDs_map ds]; rfl
theorem lc_pure {vs : List Nat} {g : T → M Unit} {fe : M T} {ρ : Rho} {F : PyData → PyData} : ∀ {ds acc : List PyData}, (∀ d ∈ ds, ∃ ρ1 ρ2, g (.d d) ρ = .ok () ρ1 ∧ fe ρ1 = .ok (.d (F d)) ρ2 ∧ wipeR ρ2 vs = ρ) → acc.length + ds.length ≤ lim →
    lcGo vs g (mret true) fe (ds.map T.d) (acc.map T.d) ρ = .ok ((acc ++ ds.map F).map T.d) ρ
  | [], acc, _, _ => by
    show R.ok (acc.map T.d) ρ = _
    rw [List.map_nil, List.append_nil]
  | d :: ds, acc, h, hl => by
    obtain ⟨ρ1, ρ2, e1, e2, e3⟩ := h d List.mem_cons_self
    have hlt : (acc.map T.d).length < lim := by rw [List.length_map]; rw [List.length_cons] at hl; omega
    have ih := lc_pure (vs := vs) (g := g) (fe := fe) (ρ := ρ) (F := F) (ds := ds) (acc := acc ++ [F d]) (fun d' m => h d' (List.mem_cons_of_mem _ m)) (by rw [List.length_append]; rw [List.length_cons] at hl; simp; omega)
    rw [List.map_append] at ih
    rw [List.map_cons]
    unfold lcGo
    simp only [mbind, e1, mret, if_true, e2, mwipe, e3, if_pos hlt]
    rw [List.map_cons, List.map_nil] at ih
    rw [ih, List.map_cons]
    simp
theorem dlc_pure {fi : M (List PyData)} {vs : List Nat} {g : T → M Unit} {fe : M T} {ρ0 ρ1 : Rho} {ds : List PyData} (F : PyData → PyData) (hi : fi ρ0 = .ok ds ρ1) (h : ∀ d ∈ ds, ∃ ρ2 ρ3, g (.d d) (wipeR ρ1 vs) = .ok () ρ2 ∧ fe ρ2 = .ok (.d (F d)) ρ3 ∧ wipeR ρ3 vs = wipeR ρ1 vs)
    (hl : ds.length ≤ lim) : dlc fi vs g (mret true) fe ρ0 = .ok (.d (.list (ds.map F))) (wipeR ρ1 vs) := by
  have := lc_pure (acc := []) h (by simpa using hl)
  unfold dlc dthaw dlcO
  simp only [mbind, hi, mwipe, mnoex]
  rw [List.map_nil, List.nil_append] at this
  rw [this]
  simp only [mret, toD, toDs_map]
  rfl
theorem lc_filter {vs : List Nat} {g : T → M Unit} {tt : M Bool} {fe : M T} {ρ : Rho} {c : PyData → Bool} {F : PyData → PyData} : ∀ {ds acc : List PyData}, (∀ d ∈ ds, ∃ ρ1 ρ2, g (.d d) ρ = .ok () ρ1 ∧ tt ρ1 = .ok (c d) ρ2 ∧ (c d = true → ∃ ρ3, fe ρ2 = .ok (.d (F d)) ρ3 ∧ wipeR ρ3 vs = ρ) ∧ (c d = false → wipeR ρ2 vs = ρ)) → acc.length + ds.length ≤ lim →
    lcGo vs g tt fe (ds.map T.d) (acc.map T.d) ρ = .ok ((acc ++ (ds.filter c).map F).map T.d) ρ
  | [], acc, _, _ => by
    show R.ok (acc.map T.d) ρ = _
    rw [List.filter_nil, List.map_nil, List.append_nil]
  | d :: ds, acc, h, hl => by
    obtain ⟨ρ1, ρ2, e1, e2, e3, e4⟩ := h d List.mem_cons_self
    have hlt : (acc.map T.d).length < lim := by rw [List.length_map]; rw [List.length_cons] at hl; omega
    cases hc : c d with
    | true =>
      obtain ⟨ρ3, e5, e6⟩ := e3 hc
      have ih := lc_filter (vs := vs) (g := g) (tt := tt) (fe := fe) (ρ := ρ) (c := c) (F := F) (ds := ds) (acc := acc ++ [F d]) (fun d' m => h d' (List.mem_cons_of_mem _ m)) (by rw [List.length_append]; rw [List.length_cons] at hl; simp; omega)
      rw [List.map_append, List.map_cons, List.map_nil] at ih
      rw [List.map_cons, List.filter_cons_of_pos hc]
      unfold lcGo
      rw [hc] at e2
      simp only [mbind, e1, e2, if_true, e5, mwipe, e6, if_pos hlt]
      rw [ih, List.map_cons]
      simp
    | false =>
      have ih := lc_filter (vs := vs) (g := g) (tt := tt) (fe := fe) (ρ := ρ) (c := c) (F := F) (ds := ds) (acc := acc) (fun d' m => h d' (List.mem_cons_of_mem _ m)) (by rw [List.length_cons] at hl; omega)
      rw [List.map_cons, List.filter_cons_of_neg (by rw [hc]; decide)]
      unfold lcGo
      rw [hc] at e2
      simp only [mbind, e1, e2]
      rw [if_neg Bool.false_ne_true]
      simp only [mbind, mwipe, e4 hc]
      exact ih
theorem dlc_filter {fi : M (List PyData)} {vs : List Nat} {g : T → M Unit} {tt : M Bool} {fe : M T} {ρ0 ρ1 : Rho} {ds : List PyData} (c : PyData → Bool) (F : PyData → PyData) (hi : fi ρ0 = .ok ds ρ1)
    (h : ∀ d ∈ ds, ∃ ρ2 ρ3, g (.d d) (wipeR ρ1 vs) = .ok () ρ2 ∧ tt ρ2 = .ok (c d) ρ3 ∧ (c d = true → ∃ ρ4, fe ρ3 = .ok (.d (F d)) ρ4 ∧ wipeR ρ4 vs = wipeR ρ1 vs) ∧ (c d = false → wipeR ρ3 vs = wipeR ρ1 vs))
    (hl : ds.length ≤ lim) : dlc fi vs g tt fe ρ0 = .ok (.d (.list ((ds.filter c).map F))) (wipeR ρ1 vs) := by
  have := lc_filter (acc := []) h (by simpa using hl)
  unfold dlc dthaw dlcO
  simp only [mbind, hi, mwipe, mnoex]
  rw [List.map_nil, List.nil_append] at this
  rw [this]
  simp only [mret, toD, toDs_map]
  rfl
end DL
end
section
set_option Elab.async false
set_option linter.all false
set_option maxRecDepth 100000
set_option maxHeartbeats 4000000
namespace LW
open PySem L2 DL
abbrev top (i : Nat) : Stmt := PySem.Challenge.pw_readsfrom_k05_refusals_apart.main.body.getD i (.Pass ⟨0, 0, 0, 0⟩)
def xs_hand : List Str := ["NoHand", "NoProgram", "NoStep"]
def xs_many : List Str := ["TooMany"]
def xs_name : List Str := ["NoName"]
def xs_number : List Str := ["NoNumber", "NoProgram", "NoRun"]
def xs_part : List Str := ["NoProgram"]
def xs_row : List Str := ["NoText"]
def xs_rule : List Str := ["NoGraph"]
def xs_which : List Str := ["NoNames"]
def isaT_KeyError : List (Str × T × Bool) := [("Bare", .ty "KeyError", false), ("NoGraph", .ty "KeyError", false), ("NoHand", .ty "KeyError", false), ("NoName", .ty "KeyError", false), ("NoNames", .ty "KeyError", false), ("NoNumber", .ty "KeyError", false), ("NoPicks", .ty "KeyError", false), ("NoProgram", .ty "KeyError", false), ("NoRow", .ty "KeyError", false), ("NoRun", .ty "KeyError", false), ("NoStep", .ty "KeyError", false), ("NoText", .ty "KeyError", false), ("TooMany", .ty "KeyError", false)]
def isaT_IndexError : List (Str × T × Bool) := [("Bare", .ty "IndexError", false), ("NoGraph", .ty "IndexError", false), ("NoHand", .ty "IndexError", true), ("NoName", .ty "IndexError", false), ("NoNames", .ty "IndexError", false), ("NoNumber", .ty "IndexError", true), ("NoPicks", .ty "IndexError", false), ("NoProgram", .ty "IndexError", false), ("NoRow", .ty "IndexError", false), ("NoRun", .ty "IndexError", true), ("NoStep", .ty "IndexError", false), ("NoText", .ty "IndexError", false), ("TooMany", .ty "IndexError", false)]
def isaT_ValueError : List (Str × T × Bool) := [("Bare", .ty "ValueError", false), ("NoGraph", .ty "ValueError", true), ("NoHand", .ty "ValueError", false), ("NoName", .ty "ValueError", false), ("NoNames", .ty "ValueError", true), ("NoNumber", .ty "ValueError", false), ("NoPicks", .ty "ValueError", true), ("NoProgram", .ty "ValueError", true), ("NoRow", .ty "ValueError", true), ("NoRun", .ty "ValueError", false), ("NoStep", .ty "ValueError", false), ("NoText", .ty "ValueError", true), ("TooMany", .ty "ValueError", false)]
def isaT_RuntimeError : List (Str × T × Bool) := [("Bare", .ty "RuntimeError", true), ("NoGraph", .ty "RuntimeError", false), ("NoHand", .ty "RuntimeError", false), ("NoName", .ty "RuntimeError", false), ("NoNames", .ty "RuntimeError", false), ("NoNumber", .ty "RuntimeError", false), ("NoPicks", .ty "RuntimeError", false), ("NoProgram", .ty "RuntimeError", false), ("NoRow", .ty "RuntimeError", false), ("NoRun", .ty "RuntimeError", false), ("NoStep", .ty "RuntimeError", false), ("NoText", .ty "RuntimeError", false), ("TooMany", .ty "RuntimeError", false)]
def isaT_OverflowError : List (Str × T × Bool) := [("Bare", .ty "OverflowError", false), ("NoGraph", .ty "OverflowError", false), ("NoHand", .ty "OverflowError", false), ("NoName", .ty "OverflowError", false), ("NoNames", .ty "OverflowError", false), ("NoNumber", .ty "OverflowError", false), ("NoPicks", .ty "OverflowError", false), ("NoProgram", .ty "OverflowError", false), ("NoRow", .ty "OverflowError", false), ("NoRun", .ty "OverflowError", false), ("NoStep", .ty "OverflowError", false), ("NoText", .ty "OverflowError", false), ("TooMany", .ty "OverflowError", true)]
def isaT_LookupError : List (Str × T × Bool) := [("Bare", .ty "LookupError", false), ("NoGraph", .ty "LookupError", false), ("NoHand", .ty "LookupError", true), ("NoName", .ty "LookupError", true), ("NoNames", .ty "LookupError", false), ("NoNumber", .ty "LookupError", true), ("NoPicks", .ty "LookupError", false), ("NoProgram", .ty "LookupError", false), ("NoRow", .ty "LookupError", false), ("NoRun", .ty "LookupError", true), ("NoStep", .ty "LookupError", true), ("NoText", .ty "LookupError", false), ("TooMany", .ty "LookupError", false)]
def isaT_NoGraph : List (Str × T × Bool) := [("Bare", .fn "NoGraph", false), ("NoGraph", .fn "NoGraph", true), ("NoHand", .fn "NoGraph", false), ("NoName", .fn "NoGraph", false), ("NoNames", .fn "NoGraph", false), ("NoNumber", .fn "NoGraph", false), ("NoPicks", .fn "NoGraph", false), ("NoProgram", .fn "NoGraph", false), ("NoRow", .fn "NoGraph", false), ("NoRun", .fn "NoGraph", false), ("NoStep", .fn "NoGraph", false), ("NoText", .fn "NoGraph", false), ("TooMany", .fn "NoGraph", false)]
def isaT_NoText : List (Str × T × Bool) := [("Bare", .fn "NoText", false), ("NoGraph", .fn "NoText", false), ("NoHand", .fn "NoText", false), ("NoName", .fn "NoText", false), ("NoNames", .fn "NoText", false), ("NoNumber", .fn "NoText", false), ("NoPicks", .fn "NoText", false), ("NoProgram", .fn "NoText", false), ("NoRow", .fn "NoText", false), ("NoRun", .fn "NoText", false), ("NoStep", .fn "NoText", false), ("NoText", .fn "NoText", true), ("TooMany", .fn "NoText", false)]
def isaT_NoProgram : List (Str × T × Bool) := [("Bare", .fn "NoProgram", false), ("NoGraph", .fn "NoProgram", false), ("NoHand", .fn "NoProgram", false), ("NoName", .fn "NoProgram", false), ("NoNames", .fn "NoProgram", false), ("NoNumber", .fn "NoProgram", false), ("NoPicks", .fn "NoProgram", false), ("NoProgram", .fn "NoProgram", true), ("NoRow", .fn "NoProgram", false), ("NoRun", .fn "NoProgram", false), ("NoStep", .fn "NoProgram", false), ("NoText", .fn "NoProgram", false), ("TooMany", .fn "NoProgram", false)]
def isaT_NoRow : List (Str × T × Bool) := [("Bare", .fn "NoRow", false), ("NoGraph", .fn "NoRow", false), ("NoHand", .fn "NoRow", false), ("NoName", .fn "NoRow", false), ("NoNames", .fn "NoRow", false), ("NoNumber", .fn "NoRow", false), ("NoPicks", .fn "NoRow", false), ("NoProgram", .fn "NoRow", false), ("NoRow", .fn "NoRow", true), ("NoRun", .fn "NoRow", false), ("NoStep", .fn "NoRow", false), ("NoText", .fn "NoRow", false), ("TooMany", .fn "NoRow", false)]
def isaT_NoPicks : List (Str × T × Bool) := [("Bare", .fn "NoPicks", false), ("NoGraph", .fn "NoPicks", false), ("NoHand", .fn "NoPicks", false), ("NoName", .fn "NoPicks", false), ("NoNames", .fn "NoPicks", false), ("NoNumber", .fn "NoPicks", false), ("NoPicks", .fn "NoPicks", true), ("NoProgram", .fn "NoPicks", false), ("NoRow", .fn "NoPicks", false), ("NoRun", .fn "NoPicks", false), ("NoStep", .fn "NoPicks", false), ("NoText", .fn "NoPicks", false), ("TooMany", .fn "NoPicks", false)]
def isaT_NoNames : List (Str × T × Bool) := [("Bare", .fn "NoNames", false), ("NoGraph", .fn "NoNames", false), ("NoHand", .fn "NoNames", false), ("NoName", .fn "NoNames", false), ("NoNames", .fn "NoNames", true), ("NoNumber", .fn "NoNames", false), ("NoPicks", .fn "NoNames", false), ("NoProgram", .fn "NoNames", false), ("NoRow", .fn "NoNames", false), ("NoRun", .fn "NoNames", false), ("NoStep", .fn "NoNames", false), ("NoText", .fn "NoNames", false), ("TooMany", .fn "NoNames", false)]
def isaT_NoRun : List (Str × T × Bool) := [("Bare", .fn "NoRun", false), ("NoGraph", .fn "NoRun", false), ("NoHand", .fn "NoRun", false), ("NoName", .fn "NoRun", false), ("NoNames", .fn "NoRun", false), ("NoNumber", .fn "NoRun", false), ("NoPicks", .fn "NoRun", false), ("NoProgram", .fn "NoRun", false), ("NoRow", .fn "NoRun", false), ("NoRun", .fn "NoRun", true), ("NoStep", .fn "NoRun", false), ("NoText", .fn "NoRun", false), ("TooMany", .fn "NoRun", false)]
def isaT_NoNumber : List (Str × T × Bool) := [("Bare", .fn "NoNumber", false), ("NoGraph", .fn "NoNumber", false), ("NoHand", .fn "NoNumber", false), ("NoName", .fn "NoNumber", false), ("NoNames", .fn "NoNumber", false), ("NoNumber", .fn "NoNumber", true), ("NoPicks", .fn "NoNumber", false), ("NoProgram", .fn "NoNumber", false), ("NoRow", .fn "NoNumber", false), ("NoRun", .fn "NoNumber", false), ("NoStep", .fn "NoNumber", false), ("NoText", .fn "NoNumber", false), ("TooMany", .fn "NoNumber", false)]
def isaT_NoHand : List (Str × T × Bool) := [("Bare", .fn "NoHand", false), ("NoGraph", .fn "NoHand", false), ("NoHand", .fn "NoHand", true), ("NoName", .fn "NoHand", false), ("NoNames", .fn "NoHand", false), ("NoNumber", .fn "NoHand", false), ("NoPicks", .fn "NoHand", false), ("NoProgram", .fn "NoHand", false), ("NoRow", .fn "NoHand", false), ("NoRun", .fn "NoHand", false), ("NoStep", .fn "NoHand", false), ("NoText", .fn "NoHand", false), ("TooMany", .fn "NoHand", false)]
def isaT_TooMany : List (Str × T × Bool) := [("Bare", .fn "TooMany", false), ("NoGraph", .fn "TooMany", false), ("NoHand", .fn "TooMany", false), ("NoName", .fn "TooMany", false), ("NoNames", .fn "TooMany", false), ("NoNumber", .fn "TooMany", false), ("NoPicks", .fn "TooMany", false), ("NoProgram", .fn "TooMany", false), ("NoRow", .fn "TooMany", false), ("NoRun", .fn "TooMany", false), ("NoStep", .fn "TooMany", false), ("NoText", .fn "TooMany", false), ("TooMany", .fn "TooMany", true)]
def isaT_NoName : List (Str × T × Bool) := [("Bare", .fn "NoName", false), ("NoGraph", .fn "NoName", false), ("NoHand", .fn "NoName", false), ("NoName", .fn "NoName", true), ("NoNames", .fn "NoName", false), ("NoNumber", .fn "NoName", false), ("NoPicks", .fn "NoName", false), ("NoProgram", .fn "NoName", false), ("NoRow", .fn "NoName", false), ("NoRun", .fn "NoName", false), ("NoStep", .fn "NoName", false), ("NoText", .fn "NoName", false), ("TooMany", .fn "NoName", false)]
def isaT_NoStep : List (Str × T × Bool) := [("Bare", .fn "NoStep", false), ("NoGraph", .fn "NoStep", false), ("NoHand", .fn "NoStep", false), ("NoName", .fn "NoStep", false), ("NoNames", .fn "NoStep", false), ("NoNumber", .fn "NoStep", false), ("NoPicks", .fn "NoStep", false), ("NoProgram", .fn "NoStep", false), ("NoRow", .fn "NoStep", false), ("NoRun", .fn "NoStep", false), ("NoStep", .fn "NoStep", true), ("NoText", .fn "NoStep", false), ("TooMany", .fn "NoStep", false)]
def isaT_Bare : List (Str × T × Bool) := [("Bare", .fn "Bare", true), ("NoGraph", .fn "Bare", false), ("NoHand", .fn "Bare", false), ("NoName", .fn "Bare", false), ("NoNames", .fn "Bare", false), ("NoNumber", .fn "Bare", false), ("NoPicks", .fn "Bare", false), ("NoProgram", .fn "Bare", false), ("NoRow", .fn "Bare", false), ("NoRun", .fn "Bare", false), ("NoStep", .fn "Bare", false), ("NoText", .fn "Bare", false), ("TooMany", .fn "Bare", false)]
abbrev i_Bare : Stmt := methOf (top 13) 0
theorem isc_Bare : FnScope (("self" : Str) :: []) (("self" : Str) :: []) (defScope i_Bare) := ⟨rfl, rfl, rfl, by decide +kernel, rfl, by decide +kernel, by decide +kernel⟩
theorem y_of_Bare {P : Program} {w : World} {K : PySem.W.Frag} {mg : Str → Option Value} {base : Heap} (b : BaseOf K mg "RuntimeError" "RuntimeError" "RuntimeError.__init__") (X : HasE K mg "Bare" "Bare.__init__" i_Bare [] "RuntimeError" "RuntimeError.__init__") : ExcB P w K mg base "Bare" 1 [] := by
  obtain ⟨C, fI, fd, hC, hm, T, iC, tI, U, hno⟩ := X.ex
  refine ⟨⟨C, fI, fd, _, _, hC, hm, T, iC, tI, inits_ok U isc_Bare (fun cd A outer s H E => inb0 T b), ?_⟩⟩
  exact U.binds (ps := ["self"]) fun _ _ _ _ _ _ us hl => match us, hl with | [_], _ => rfl
abbrev i_NoGraph : Stmt := methOf (top 3) 0
theorem isc_NoGraph : FnScope (("self" : Str) :: ["rule"]) (("self" : Str) :: ["rule"]) (defScope i_NoGraph) := ⟨rfl, rfl, rfl, by decide +kernel, rfl, by decide +kernel, by decide +kernel⟩
theorem y_of_NoGraph {P : Program} {w : World} {K : PySem.W.Frag} {mg : Str → Option Value} {base : Heap} (b : BaseOf K mg "ValueError" "ValueError" "ValueError.__init__") (X : HasE K mg "NoGraph" "NoGraph.__init__" i_NoGraph ["rule"] "ValueError" "ValueError.__init__") : ExcB P w K mg base "NoGraph" 1 ["rule"] := by
  obtain ⟨C, fI, fd, hC, hm, T, iC, tI, U, hno⟩ := X.ex
  refine ⟨⟨C, fI, fd, _, _, hC, hm, T, iC, tI, inits_ok U isc_NoGraph (fun cd A outer s H E => inb1 T hno b (ini_nil (by decide))), ?_⟩⟩
  exact U.binds (ps := ["self", "rule"]) fun _ _ _ _ _ _ us hl => match us, hl with | [_, _], _ => rfl
abbrev i_NoHand : Stmt := methOf (top 7) 0
theorem isc_NoHand : FnScope (("self" : Str) :: ["hand"]) (("self" : Str) :: ["hand"]) (defScope i_NoHand) := ⟨rfl, rfl, rfl, by decide +kernel, rfl, by decide +kernel, by decide +kernel⟩
theorem y_of_NoHand {P : Program} {w : World} {K : PySem.W.Frag} {mg : Str → Option Value} {base : Heap} (b : BaseOf K mg "IndexError" "IndexError" "IndexError.__init__") (X : HasE K mg "NoHand" "NoHand.__init__" i_NoHand ["hand"] "IndexError" "IndexError.__init__") : ExcB P w K mg base "NoHand" 1 ["hand"] := by
  obtain ⟨C, fI, fd, hC, hm, T, iC, tI, U, hno⟩ := X.ex
  refine ⟨⟨C, fI, fd, _, _, hC, hm, T, iC, tI, inits_ok U isc_NoHand (fun cd A outer s H E => inb1 T hno b (ini_nil (by decide))), ?_⟩⟩
  exact U.binds (ps := ["self", "hand"]) fun _ _ _ _ _ _ us hl => match us, hl with | [_, _], _ => rfl
abbrev i_NoName : Stmt := methOf (top 11) 0
theorem isc_NoName : FnScope (("self" : Str) :: ["name"]) (("self" : Str) :: ["name"]) (defScope i_NoName) := ⟨rfl, rfl, rfl, by decide +kernel, rfl, by decide +kernel, by decide +kernel⟩
theorem y_of_NoName {P : Program} {w : World} {K : PySem.W.Frag} {mg : Str → Option Value} {base : Heap} (b : BaseOf K mg "LookupError" "LookupError" "LookupError.__init__") (X : HasE K mg "NoName" "NoName.__init__" i_NoName ["name"] "LookupError" "LookupError.__init__") : ExcB P w K mg base "NoName" 1 ["name"] := by
  obtain ⟨C, fI, fd, hC, hm, T, iC, tI, U, hno⟩ := X.ex
  refine ⟨⟨C, fI, fd, _, _, hC, hm, T, iC, tI, inits_ok U isc_NoName (fun cd A outer s H E => inb1 T hno b (ini_nil (by decide))), ?_⟩⟩
  exact U.binds (ps := ["self", "name"]) fun _ _ _ _ _ _ us hl => match us, hl with | [_, _], _ => rfl
abbrev i_NoNames : Stmt := methOf (top 4) 0
theorem isc_NoNames : FnScope (("self" : Str) :: ["which"]) (("self" : Str) :: ["which"]) (defScope i_NoNames) := ⟨rfl, rfl, rfl, by decide +kernel, rfl, by decide +kernel, by decide +kernel⟩
theorem y_of_NoNames {P : Program} {w : World} {K : PySem.W.Frag} {mg : Str → Option Value} {base : Heap} (b : BaseOf K mg "ValueError" "ValueError" "ValueError.__init__") (X : HasE K mg "NoNames" "NoNames.__init__" i_NoNames ["which"] "ValueError" "ValueError.__init__") : ExcB P w K mg base "NoNames" 1 ["which"] := by
  obtain ⟨C, fI, fd, hC, hm, T, iC, tI, U, hno⟩ := X.ex
  refine ⟨⟨C, fI, fd, _, _, hC, hm, T, iC, tI, inits_ok U isc_NoNames (fun cd A outer s H E => inb1 T hno b (ini_nil (by decide))), ?_⟩⟩
  exact U.binds (ps := ["self", "which"]) fun _ _ _ _ _ _ us hl => match us, hl with | [_, _], _ => rfl
abbrev i_NoNumber : Stmt := methOf (top 8) 0
theorem isc_NoNumber : FnScope (("self" : Str) :: ["number"]) (("self" : Str) :: ["number"]) (defScope i_NoNumber) := ⟨rfl, rfl, rfl, by decide +kernel, rfl, by decide +kernel, by decide +kernel⟩
theorem y_of_NoNumber {P : Program} {w : World} {K : PySem.W.Frag} {mg : Str → Option Value} {base : Heap} (b : BaseOf K mg "IndexError" "IndexError" "IndexError.__init__") (X : HasE K mg "NoNumber" "NoNumber.__init__" i_NoNumber ["number"] "IndexError" "IndexError.__init__") : ExcB P w K mg base "NoNumber" 1 ["number"] := by
  obtain ⟨C, fI, fd, hC, hm, T, iC, tI, U, hno⟩ := X.ex
  refine ⟨⟨C, fI, fd, _, _, hC, hm, T, iC, tI, inits_ok U isc_NoNumber (fun cd A outer s H E => inb1 T hno b (ini_nil (by decide))), ?_⟩⟩
  exact U.binds (ps := ["self", "number"]) fun _ _ _ _ _ _ us hl => match us, hl with | [_, _], _ => rfl
abbrev i_NoPicks : Stmt := methOf (top 5) 0
theorem isc_NoPicks : FnScope (("self" : Str) :: []) (("self" : Str) :: []) (defScope i_NoPicks) := ⟨rfl, rfl, rfl, by decide +kernel, rfl, by decide +kernel, by decide +kernel⟩
theorem y_of_NoPicks {P : Program} {w : World} {K : PySem.W.Frag} {mg : Str → Option Value} {base : Heap} (b : BaseOf K mg "ValueError" "ValueError" "ValueError.__init__") (X : HasE K mg "NoPicks" "NoPicks.__init__" i_NoPicks [] "ValueError" "ValueError.__init__") : ExcB P w K mg base "NoPicks" 1 [] := by
  obtain ⟨C, fI, fd, hC, hm, T, iC, tI, U, hno⟩ := X.ex
  refine ⟨⟨C, fI, fd, _, _, hC, hm, T, iC, tI, inits_ok U isc_NoPicks (fun cd A outer s H E => inb0 T b), ?_⟩⟩
  exact U.binds (ps := ["self"]) fun _ _ _ _ _ _ us hl => match us, hl with | [_], _ => rfl
abbrev i_NoProgram : Stmt := methOf (top 1) 0
theorem isc_NoProgram : FnScope (("self" : Str) :: ["part", "hand", "number"]) (("self" : Str) :: ["part", "hand", "number"]) (defScope i_NoProgram) := ⟨rfl, rfl, rfl, by decide +kernel, rfl, by decide +kernel, by decide +kernel⟩
theorem y_of_NoProgram {P : Program} {w : World} {K : PySem.W.Frag} {mg : Str → Option Value} {base : Heap} (b : BaseOf K mg "ValueError" "ValueError" "ValueError.__init__") (X : HasE K mg "NoProgram" "NoProgram.__init__" i_NoProgram ["part", "hand", "number"] "ValueError" "ValueError.__init__") : ExcB P w K mg base "NoProgram" 1 ["part", "hand", "number"] := by
  obtain ⟨C, fI, fd, hC, hm, T, iC, tI, U, hno⟩ := X.ex
  refine ⟨⟨C, fI, fd, _, _, hC, hm, T, iC, tI, inits_ok U isc_NoProgram (fun cd A outer s H E => inb1 T hno b (inb_cons T hno (by decide) 1 (inb_cons T hno (by decide) 2 (ini_nil (by decide))))), ?_⟩⟩
  exact U.binds (ps := ["self", "part", "hand", "number"]) fun _ _ _ _ _ _ us hl => match us, hl with | [_, _, _, _], _ => rfl
abbrev i_NoRow : Stmt := methOf (top 6) 0
theorem isc_NoRow : FnScope (("self" : Str) :: []) (("self" : Str) :: []) (defScope i_NoRow) := ⟨rfl, rfl, rfl, by decide +kernel, rfl, by decide +kernel, by decide +kernel⟩
theorem y_of_NoRow {P : Program} {w : World} {K : PySem.W.Frag} {mg : Str → Option Value} {base : Heap} (b : BaseOf K mg "ValueError" "ValueError" "ValueError.__init__") (X : HasE K mg "NoRow" "NoRow.__init__" i_NoRow [] "ValueError" "ValueError.__init__") : ExcB P w K mg base "NoRow" 1 [] := by
  obtain ⟨C, fI, fd, hC, hm, T, iC, tI, U, hno⟩ := X.ex
  refine ⟨⟨C, fI, fd, _, _, hC, hm, T, iC, tI, inits_ok U isc_NoRow (fun cd A outer s H E => inb0 T b), ?_⟩⟩
  exact U.binds (ps := ["self"]) fun _ _ _ _ _ _ us hl => match us, hl with | [_], _ => rfl
abbrev i_NoRun : Stmt := methOf (top 9) 0
theorem isc_NoRun : FnScope (("self" : Str) :: ["number"]) (("self" : Str) :: ["number"]) (defScope i_NoRun) := ⟨rfl, rfl, rfl, by decide +kernel, rfl, by decide +kernel, by decide +kernel⟩
theorem y_of_NoRun {P : Program} {w : World} {K : PySem.W.Frag} {mg : Str → Option Value} {base : Heap} (b : BaseOf K mg "IndexError" "IndexError" "IndexError.__init__") (X : HasE K mg "NoRun" "NoRun.__init__" i_NoRun ["number"] "IndexError" "IndexError.__init__") : ExcB P w K mg base "NoRun" 1 ["number"] := by
  obtain ⟨C, fI, fd, hC, hm, T, iC, tI, U, hno⟩ := X.ex
  refine ⟨⟨C, fI, fd, _, _, hC, hm, T, iC, tI, inits_ok U isc_NoRun (fun cd A outer s H E => inb1 T hno b (ini_nil (by decide))), ?_⟩⟩
  exact U.binds (ps := ["self", "number"]) fun _ _ _ _ _ _ us hl => match us, hl with | [_, _], _ => rfl
abbrev i_NoStep : Stmt := methOf (top 10) 0
theorem isc_NoStep : FnScope (("self" : Str) :: ["hand"]) (("self" : Str) :: ["hand"]) (defScope i_NoStep) := ⟨rfl, rfl, rfl, by decide +kernel, rfl, by decide +kernel, by decide +kernel⟩
theorem y_of_NoStep {P : Program} {w : World} {K : PySem.W.Frag} {mg : Str → Option Value} {base : Heap} (b : BaseOf K mg "LookupError" "LookupError" "LookupError.__init__") (X : HasE K mg "NoStep" "NoStep.__init__" i_NoStep ["hand"] "LookupError" "LookupError.__init__") : ExcB P w K mg base "NoStep" 1 ["hand"] := by
  obtain ⟨C, fI, fd, hC, hm, T, iC, tI, U, hno⟩ := X.ex
  refine ⟨⟨C, fI, fd, _, _, hC, hm, T, iC, tI, inits_ok U isc_NoStep (fun cd A outer s H E => inb1 T hno b (ini_nil (by decide))), ?_⟩⟩
  exact U.binds (ps := ["self", "hand"]) fun _ _ _ _ _ _ us hl => match us, hl with | [_, _], _ => rfl
abbrev i_NoText : Stmt := methOf (top 2) 0
theorem isc_NoText : FnScope (("self" : Str) :: ["row"]) (("self" : Str) :: ["row"]) (defScope i_NoText) := ⟨rfl, rfl, rfl, by decide +kernel, rfl, by decide +kernel, by decide +kernel⟩
theorem y_of_NoText {P : Program} {w : World} {K : PySem.W.Frag} {mg : Str → Option Value} {base : Heap} (b : BaseOf K mg "ValueError" "ValueError" "ValueError.__init__") (X : HasE K mg "NoText" "NoText.__init__" i_NoText ["row"] "ValueError" "ValueError.__init__") : ExcB P w K mg base "NoText" 1 ["row"] := by
  obtain ⟨C, fI, fd, hC, hm, T, iC, tI, U, hno⟩ := X.ex
  refine ⟨⟨C, fI, fd, _, _, hC, hm, T, iC, tI, inits_ok U isc_NoText (fun cd A outer s H E => inb1 T hno b (ini_nil (by decide))), ?_⟩⟩
  exact U.binds (ps := ["self", "row"]) fun _ _ _ _ _ _ us hl => match us, hl with | [_, _], _ => rfl
abbrev i_TooMany : Stmt := methOf (top 12) 0
theorem isc_TooMany : FnScope (("self" : Str) :: ["many"]) (("self" : Str) :: ["many"]) (defScope i_TooMany) := ⟨rfl, rfl, rfl, by decide +kernel, rfl, by decide +kernel, by decide +kernel⟩
theorem y_of_TooMany {P : Program} {w : World} {K : PySem.W.Frag} {mg : Str → Option Value} {base : Heap} (b : BaseOf K mg "OverflowError" "OverflowError" "OverflowError.__init__") (X : HasE K mg "TooMany" "TooMany.__init__" i_TooMany ["many"] "OverflowError" "OverflowError.__init__") : ExcB P w K mg base "TooMany" 1 ["many"] := by
  obtain ⟨C, fI, fd, hC, hm, T, iC, tI, U, hno⟩ := X.ex
  refine ⟨⟨C, fI, fd, _, _, hC, hm, T, iC, tI, inits_ok U isc_TooMany (fun cd A outer s H E => inb1 T hno b (ini_nil (by decide))), ?_⟩⟩
  exact U.binds (ps := ["self", "many"]) fun _ _ _ _ _ _ us hl => match us, hl with | [_, _], _ => rfl
/-- what the module has at its names -/
structure Facts (w : World) (K : PySem.W.Frag) (mg : Str → Option Value) : Prop where
  gl : ∀ z a, PySem.W.nsIn K mainGlobals z = some (some (.ref a)) → mg z = some (.ref a)
  n_IndexError : mg "IndexError" = none
  n_KeyError : mg "KeyError" = none
  n_LookupError : mg "LookupError" = none
  n_OverflowError : mg "OverflowError" = none
  n_RuntimeError : mg "RuntimeError" = none
  n_ValueError : mg "ValueError" = none
  n_int : mg "int" = none
  n_isinstance : mg "isinstance" = none
  n_len : mg "len" = none
  n_max : mg "max" = none
  n_min : mg "min" = none
  n_range : mg "range" = none
  n_repr : mg "repr" = none
  cn_Bare : ClsN K mg "Bare"
  cn_NoGraph : ClsN K mg "NoGraph"
  cn_NoHand : ClsN K mg "NoHand"
  cn_NoName : ClsN K mg "NoName"
  cn_NoNames : ClsN K mg "NoNames"
  cn_NoNumber : ClsN K mg "NoNumber"
  cn_NoPicks : ClsN K mg "NoPicks"
  cn_NoProgram : ClsN K mg "NoProgram"
  cn_NoRow : ClsN K mg "NoRow"
  cn_NoRun : ClsN K mg "NoRun"
  cn_NoStep : ClsN K mg "NoStep"
  cn_NoText : ClsN K mg "NoText"
  cn_TooMany : ClsN K mg "TooMany"
  xf_hand : ∀ n ∈ xs_hand, XfOne K n "hand"
  xf_many : ∀ n ∈ xs_many, XfOne K n "many"
  xf_name : ∀ n ∈ xs_name, XfOne K n "name"
  xf_number : ∀ n ∈ xs_number, XfOne K n "number"
  xf_part : ∀ n ∈ xs_part, XfOne K n "part"
  xf_row : ∀ n ∈ xs_row, XfOne K n "row"
  xf_rule : ∀ n ∈ xs_rule, XfOne K n "rule"
  xf_which : ∀ n ∈ xs_which, XfOne K n "which"
  isa_KeyError : ∀ q ∈ isaT_KeyError, IsaOne K q.1 q.2.1 q.2.2
  isa_IndexError : ∀ q ∈ isaT_IndexError, IsaOne K q.1 q.2.1 q.2.2
  isa_ValueError : ∀ q ∈ isaT_ValueError, IsaOne K q.1 q.2.1 q.2.2
  isa_RuntimeError : ∀ q ∈ isaT_RuntimeError, IsaOne K q.1 q.2.1 q.2.2
  isa_OverflowError : ∀ q ∈ isaT_OverflowError, IsaOne K q.1 q.2.1 q.2.2
  isa_LookupError : ∀ q ∈ isaT_LookupError, IsaOne K q.1 q.2.1 q.2.2
  isa_NoGraph : ∀ q ∈ isaT_NoGraph, IsaOne K q.1 q.2.1 q.2.2
  isa_NoText : ∀ q ∈ isaT_NoText, IsaOne K q.1 q.2.1 q.2.2
  isa_NoProgram : ∀ q ∈ isaT_NoProgram, IsaOne K q.1 q.2.1 q.2.2
  isa_NoRow : ∀ q ∈ isaT_NoRow, IsaOne K q.1 q.2.1 q.2.2
  isa_NoPicks : ∀ q ∈ isaT_NoPicks, IsaOne K q.1 q.2.1 q.2.2
  isa_NoNames : ∀ q ∈ isaT_NoNames, IsaOne K q.1 q.2.1 q.2.2
  isa_NoRun : ∀ q ∈ isaT_NoRun, IsaOne K q.1 q.2.1 q.2.2
  isa_NoNumber : ∀ q ∈ isaT_NoNumber, IsaOne K q.1 q.2.1 q.2.2
  isa_NoHand : ∀ q ∈ isaT_NoHand, IsaOne K q.1 q.2.1 q.2.2
  isa_TooMany : ∀ q ∈ isaT_TooMany, IsaOne K q.1 q.2.1 q.2.2
  isa_NoName : ∀ q ∈ isaT_NoName, IsaOne K q.1 q.2.1 q.2.2
  isa_NoStep : ∀ q ∈ isaT_NoStep, IsaOne K q.1 q.2.1 q.2.2
  isa_Bare : ∀ q ∈ isaT_Bare, IsaOne K q.1 q.2.1 q.2.2
/-! ### _law_made -/
abbrev s__law_made : Stmt := top 19
def b__law_made : M Fl :=
    mseq (sif (dval (dop (onD pLt) (dget 0) (mret (.d (.int 6))))) (sret (dop tIxX (dlstO (dcons (dmkx "NoProgram" ["part", "hand", "number"] (dcons (dget 1) (dcons (dget 2) (dcons (dget 3) (mret []))))) (dcons (dmkx "NoText" ["row"] (dcons (dget 1) (mret []))) (dcons (dmkx "NoGraph" ["rule"] (dcons (dget 1) (mret []))) (dcons (dmkx "NoNames" ["which"] (dcons (dget 1) (mret []))) (dcons (dmkx "NoPicks" [] (mret [])) (dcons (dmkx "NoRow" [] (mret [])) (mret [])))))))) (dget 0))) (mret .nx)) <|
    mseq (sif (dval (dop (onD pLt) (dget 0) (mret (.d (.int 11))))) (sret (dop tIxX (dlstO (dcons (dmkx "NoHand" ["hand"] (dcons (dget 1) (mret []))) (dcons (dmkx "NoNumber" ["number"] (dcons (dget 1) (mret []))) (dcons (dmkx "NoRun" ["number"] (dcons (dget 1) (mret []))) (dcons (dmkx "NoStep" ["hand"] (dcons (dget 1) (mret []))) (dcons (dmkx "NoName" ["name"] (dcons (dget 1) (mret []))) (mret []))))))) (dop (onD pSub) (dget 0) (mret (.d (.int 6)))))) (mret .nx)) <|
    sret (dop tIxX (dlstO (dcons (dmkx "TooMany" ["many"] (dcons (dget 1) (mret []))) (dcons (dmkx "Bare" [] (mret [])) (mret [])))) (dop (onD pSub) (dget 0) (mret (.d (.int 11)))))
def f__law_made : Fn := dfn 4 [true, true, true, true] b__law_made
theorem nd__law_made : (["_law_which", "_law_one", "_law_two", "_law_three"] : List Str).Nodup := by decide +kernel
theorem sc__law_made : FnScope ["_law_which", "_law_one", "_law_two", "_law_three"] ["_law_which", "_law_one", "_law_two", "_law_three"] (defScope s__law_made) := ⟨rfl, rfl, rfl, nd__law_made, rfl, by decide +kernel, by decide +kernel⟩
theorem k__law_made {P : Program} {w : World} {K : PySem.W.Frag} {mg : Str → Option Value} {base : Heap} (c : Facts w K mg) (y_Bare : ExcB P w K mg base "Bare" 1 []) (y_NoGraph : ExcB P w K mg base "NoGraph" 1 ["rule"]) (y_NoHand : ExcB P w K mg base "NoHand" 1 ["hand"]) (y_NoName : ExcB P w K mg base "NoName" 1 ["name"]) (y_NoNames : ExcB P w K mg base "NoNames" 1 ["which"]) (y_NoNumber : ExcB P w K mg base "NoNumber" 1 ["number"]) (y_NoPicks : ExcB P w K mg base "NoPicks" 1 []) (y_NoProgram : ExcB P w K mg base "NoProgram" 1 ["part", "hand", "number"]) (y_NoRow : ExcB P w K mg base "NoRow" 1 []) (y_NoRun : ExcB P w K mg base "NoRun" 1 ["number"]) (y_NoStep : ExcB P w K mg base "NoStep" 1 ["hand"]) (y_NoText : ExcB P w K mg base "NoText" 1 ["row"]) (y_TooMany : ExcB P w K mg base "TooMany" 1 ["many"]) : BodyOk P w K mg base 2 ["_law_which", "_law_one", "_law_two", "_law_three"] "_law_made" s__law_made [true, true, true, true] b__law_made := fun f cd A outer s H E at_ =>
    dss_cons (ds_if (dt_cmp op_lt2 od_lt (dv 0) de_int (by with_unfolding_all rfl)) (dss_one (ds_ret (de_ixX (de_lstO (da_cons (de_mkx y_NoProgram at_ (da_cons (dv 1) (da_cons (dv 2) (da_cons (dv 3) da_nil)))) (da_cons (de_mkx y_NoText at_ (da_cons (dv 1) da_nil)) (da_cons (de_mkx y_NoGraph at_ (da_cons (dv 1) da_nil)) (da_cons (de_mkx y_NoNames at_ (da_cons (dv 1) da_nil)) (da_cons (de_mkx0 y_NoPicks at_) (da_cons (de_mkx0 y_NoRow at_) da_nil))))))) (dv 0)))) dss_nil)
    (dss_cons (ds_if (dt_cmp op_lt2 od_lt (dv 0) de_int (by with_unfolding_all rfl)) (dss_one (ds_ret (de_ixX (de_lstO (da_cons (de_mkx y_NoHand at_ (da_cons (dv 1) da_nil)) (da_cons (de_mkx y_NoNumber at_ (da_cons (dv 1) da_nil)) (da_cons (de_mkx y_NoRun at_ (da_cons (dv 1) da_nil)) (da_cons (de_mkx y_NoStep at_ (da_cons (dv 1) da_nil)) (da_cons (de_mkx y_NoName at_ (da_cons (dv 1) da_nil)) da_nil)))))) (de_op op_sub od_sub (dv 0) de_int)))) dss_nil)
    (dss_one (ds_ret (de_ixX (de_lstO (da_cons (de_mkx y_TooMany at_ (da_cons (dv 1) da_nil)) (da_cons (de_mkx0 y_Bare at_) da_nil))) (de_op op_sub od_sub (dv 0) de_int)))))
theorem ok__law_made {P : Program} {w : World} {K : PySem.W.Frag} {mg : Str → Option Value} {base : Heap} {f : Addr} {fd : FuncData} (U : Fun K "_law_made" "_law_made" s__law_made f fd) (hm : mg "_law_made" = some (.ref f)) (bi : Binds K fd ["_law_which", "_law_one", "_law_two", "_law_three"] []) (c : Facts w K mg) (y_Bare : ExcB P w K mg base "Bare" 1 []) (y_NoGraph : ExcB P w K mg base "NoGraph" 1 ["rule"]) (y_NoHand : ExcB P w K mg base "NoHand" 1 ["hand"]) (y_NoName : ExcB P w K mg base "NoName" 1 ["name"]) (y_NoNames : ExcB P w K mg base "NoNames" 1 ["which"]) (y_NoNumber : ExcB P w K mg base "NoNumber" 1 ["number"]) (y_NoPicks : ExcB P w K mg base "NoPicks" 1 []) (y_NoProgram : ExcB P w K mg base "NoProgram" 1 ["part", "hand", "number"]) (y_NoRow : ExcB P w K mg base "NoRow" 1 []) (y_NoRun : ExcB P w K mg base "NoRun" 1 ["number"]) (y_NoStep : ExcB P w K mg base "NoStep" 1 ["hand"]) (y_NoText : ExcB P w K mg base "NoText" 1 ["row"]) (y_TooMany : ExcB P w K mg base "TooMany" 1 ["many"]) : Def P w K mg base "_law_made" 3 4 f__law_made :=
  Def.of U hm bi (def_ok U sc__law_made rfl (k__law_made c y_Bare y_NoGraph y_NoHand y_NoName y_NoNames y_NoNumber y_NoPicks y_NoProgram y_NoRow y_NoRun y_NoStep y_NoText y_TooMany))
/-! ### _law_pool -/
abbrev s__law_pool : Stmt := top 15
def b__law_pool : M Fl :=
    mseq (sset 2 (dop (onD pIx) (dop (onD pAdd) (dslice (dget 0) (dpart (dget 1)) (dpart (dop (onD pAdd) (dget 1) (mret (.d (.int 1)))))) (dlst (dcons (mret (.d (.int 0))) (mret [])))) (mret (.d (.int 0))))) <|
    mseq (sset 3 (dop (onD pMod) (dop (onD pMul) (dop (onD pAdd) (dop (onD pAdd) (dop (onD pMod) (dget 2) (mret (.d (.int 2147483647)))) (dop (onD pMul) (mret (.d (.int 7919))) (dget 1))) (mret (.d (.int 1)))) (mret (.d (.int 48271)))) (mret (.d (.int 2147483629))))) <|
    sret (dlstO (dcons (dop (onD pMul) (dcallb gInt [none] (dcons (dop (onD pGe) (dget 2) (dop (onD pPow) (mret (.d (.int 10))) (mret (.d (.int 18))))) (mret []))) (dget 2)) (dcons (dget 3) (mret []))))
def f__law_pool : Fn := dfn 4 [true, true] b__law_pool
theorem nd__law_pool : (["_law_script", "_law_k", "_law_cell", "_law_seed"] : List Str).Nodup := by decide +kernel
theorem sc__law_pool : FnScope ["_law_script", "_law_k", "_law_cell", "_law_seed"] ["_law_script", "_law_k"] (defScope s__law_pool) := ⟨rfl, rfl, rfl, nd__law_pool, rfl, by decide +kernel, by decide +kernel⟩
theorem k__law_pool {P : Program} {w : World} {K : PySem.W.Frag} {mg : Str → Option Value} {base : Heap} (c : Facts w K mg)  : BodyOk P w K mg base 0 ["_law_script", "_law_k", "_law_cell", "_law_seed"] "_law_pool" s__law_pool [true, true] b__law_pool := fun f cd A outer s H E at_ =>
    dss_cons (ds_set 2 nd__law_pool (de_ix (de_op op_add4 od_add (de_slice (dv 0) (do_some (dv 1)) (do_some (de_op op_add4 od_add (dv 1) de_int))) (de_lst (da_cons de_int da_nil))) de_int))
    (dss_cons (ds_set 3 nd__law_pool (de_op op_mod od_mod (de_op op_mul2 od_mul (de_op op_add4 od_add (de_op op_add4 od_add (de_op op_mod od_mod (dv 2) de_int) (de_op op_mul2 od_mul de_int (dv 1))) de_int) de_int) de_int))
    (dss_one (ds_ret (de_lstO (da_cons (de_op op_mul2 od_mul (de_callTy cr_int3 ck_int c.n_int bt_int (da_cons (de_cmp op_ge od_ge (dv 2) (de_op op_pow od_pow de_int de_int) (by with_unfolding_all rfl)) da_nil)) (dv 2)) (da_cons (dv 3) da_nil))))))
theorem ok__law_pool {P : Program} {w : World} {K : PySem.W.Frag} {mg : Str → Option Value} {base : Heap} {f : Addr} {fd : FuncData} (U : Fun K "_law_pool" "_law_pool" s__law_pool f fd) (hm : mg "_law_pool" = some (.ref f)) (bi : Binds K fd ["_law_script", "_law_k"] []) (c : Facts w K mg)  : Def P w K mg base "_law_pool" 1 2 f__law_pool :=
  Def.of U hm bi (def_ok U sc__law_pool rfl (k__law_pool c ))
/-! ### _law_base_kinds -/
abbrev s__law_base_kinds : Stmt := top 18
def b__law_base_kinds : M Fl :=
    mseq (sset 1 (dlst (dcons (dcallb (gIsiX isaT_ValueError) [none, none] (dcons (dget 0) (dcons (mret (.ty "ValueError")) (mret [])))) (dcons (dcallb (gIsiX isaT_IndexError) [none, none] (dcons (dget 0) (dcons (mret (.ty "IndexError")) (mret [])))) (dcons (dcallb (gIsiX isaT_KeyError) [none, none] (dcons (dget 0) (dcons (mret (.ty "KeyError")) (mret [])))) (mret [])))))) <|
    sret (dop (onD pAdd) (dget 1) (dlst (dcons (dcallb (gIsiX isaT_LookupError) [none, none] (dcons (dget 0) (dcons (mret (.ty "LookupError")) (mret [])))) (dcons (dcallb (gIsiX isaT_OverflowError) [none, none] (dcons (dget 0) (dcons (mret (.ty "OverflowError")) (mret [])))) (dcons (dcallb (gIsiX isaT_RuntimeError) [none, none] (dcons (dget 0) (dcons (mret (.ty "RuntimeError")) (mret [])))) (mret []))))))
def f__law_base_kinds : Fn := dfn 2 [true] b__law_base_kinds
theorem nd__law_base_kinds : (["_law_error", "_law_found"] : List Str).Nodup := by decide +kernel
theorem sc__law_base_kinds : FnScope ["_law_error", "_law_found"] ["_law_error"] (defScope s__law_base_kinds) := ⟨rfl, rfl, rfl, nd__law_base_kinds, rfl, by decide +kernel, by decide +kernel⟩
theorem k__law_base_kinds {P : Program} {w : World} {K : PySem.W.Frag} {mg : Str → Option Value} {base : Heap} (c : Facts w K mg)  : BodyOk P w K mg base 0 ["_law_error", "_law_found"] "_law_base_kinds" s__law_base_kinds [true] b__law_base_kinds := fun f cd A outer s H E at_ =>
    dss_cons (ds_set 1 nd__law_base_kinds (de_lst (da_cons (de_callB call_isiX (ck_isiX c.isa_ValueError) c.n_isinstance bt_isinstance (da_cons (dv 0) (da_cons (de_ty c.n_ValueError bt_ValueError) da_nil))) (da_cons (de_callB call_isiX (ck_isiX c.isa_IndexError) c.n_isinstance bt_isinstance (da_cons (dv 0) (da_cons (de_ty c.n_IndexError bt_IndexError) da_nil))) (da_cons (de_callB call_isiX (ck_isiX c.isa_KeyError) c.n_isinstance bt_isinstance (da_cons (dv 0) (da_cons (de_ty c.n_KeyError bt_KeyError) da_nil))) da_nil)))))
    (dss_one (ds_ret (de_op op_add4 od_add (dv 1) (de_lst (da_cons (de_callB call_isiX (ck_isiX c.isa_LookupError) c.n_isinstance bt_isinstance (da_cons (dv 0) (da_cons (de_ty c.n_LookupError bt_LookupError) da_nil))) (da_cons (de_callB call_isiX (ck_isiX c.isa_OverflowError) c.n_isinstance bt_isinstance (da_cons (dv 0) (da_cons (de_ty c.n_OverflowError bt_OverflowError) da_nil))) (da_cons (de_callB call_isiX (ck_isiX c.isa_RuntimeError) c.n_isinstance bt_isinstance (da_cons (dv 0) (da_cons (de_ty c.n_RuntimeError bt_RuntimeError) da_nil))) da_nil)))))))
theorem ok__law_base_kinds {P : Program} {w : World} {K : PySem.W.Frag} {mg : Str → Option Value} {base : Heap} {f : Addr} {fd : FuncData} (U : Fun K "_law_base_kinds" "_law_base_kinds" s__law_base_kinds f fd) (hm : mg "_law_base_kinds" = some (.ref f)) (bi : Binds K fd ["_law_error"] []) (c : Facts w K mg)  : Def P w K mg base "_law_base_kinds" 1 1 f__law_base_kinds :=
  Def.of U hm bi (def_ok U sc__law_base_kinds rfl (k__law_base_kinds c ))
/-! ### _law_due_kinds -/
abbrev s__law_due_kinds : Stmt := top 22
def l__law_due_kinds_1 : M T :=
    dlc (drange (dcons (mret (.d (.int 6))) (mret []))) [2] (mset 2) (mret true) (dop (onD pIn) (dget 2) (dget 1))
def b__law_due_kinds : M Fl :=
    mseq (sset 1 (dop (onD pIx) (dlst (dcons (dlst (dcons (mret (.d (.int 0))) (mret []))) (dcons (dlst (dcons (mret (.d (.int 0))) (mret []))) (dcons (dlst (dcons (mret (.d (.int 0))) (mret []))) (dcons (dlst (dcons (mret (.d (.int 0))) (mret []))) (dcons (dlst (dcons (mret (.d (.int 0))) (mret []))) (dcons (dlst (dcons (mret (.d (.int 0))) (mret []))) (dcons (dlst (dcons (mret (.d (.int 1))) (dcons (mret (.d (.int 3))) (mret [])))) (dcons (dlst (dcons (mret (.d (.int 1))) (dcons (mret (.d (.int 3))) (mret [])))) (dcons (dlst (dcons (mret (.d (.int 1))) (dcons (mret (.d (.int 3))) (mret [])))) (dcons (dlst (dcons (mret (.d (.int 3))) (mret []))) (dcons (dlst (dcons (mret (.d (.int 3))) (mret []))) (dcons (dlst (dcons (mret (.d (.int 4))) (mret []))) (dcons (dlst (dcons (mret (.d (.int 5))) (mret []))) (mret []))))))))))))))) (dget 0))) <|
    sret l__law_due_kinds_1
def f__law_due_kinds : Fn := dfn 3 [true] b__law_due_kinds
theorem nd__law_due_kinds : (["_law_which", "_law_some", "_law_number"] : List Str).Nodup := by decide +kernel
theorem sc__law_due_kinds : FnScope ["_law_which", "_law_some", "_law_number"] ["_law_which"] (defScope s__law_due_kinds) := ⟨rfl, rfl, rfl, nd__law_due_kinds, rfl, by decide +kernel, by decide +kernel⟩
theorem k__law_due_kinds {P : Program} {w : World} {K : PySem.W.Frag} {mg : Str → Option Value} {base : Heap} (c : Facts w K mg)  : BodyOk P w K mg base 0 ["_law_which", "_law_some", "_law_number"] "_law_due_kinds" s__law_due_kinds [true] b__law_due_kinds := fun f cd A outer s H E at_ =>
    dss_cons (ds_set 1 nd__law_due_kinds (de_ix (de_lst (da_cons (de_lst (da_cons de_int da_nil)) (da_cons (de_lst (da_cons de_int da_nil)) (da_cons (de_lst (da_cons de_int da_nil)) (da_cons (de_lst (da_cons de_int da_nil)) (da_cons (de_lst (da_cons de_int da_nil)) (da_cons (de_lst (da_cons de_int da_nil)) (da_cons (de_lst (da_cons de_int (da_cons de_int da_nil))) (da_cons (de_lst (da_cons de_int (da_cons de_int da_nil))) (da_cons (de_lst (da_cons de_int (da_cons de_int da_nil))) (da_cons (de_lst (da_cons de_int da_nil)) (da_cons (de_lst (da_cons de_int da_nil)) (da_cons (de_lst (da_cons de_int da_nil)) (da_cons (de_lst (da_cons de_int da_nil)) da_nil)))))))))))))) (dv 0)))
    (dss_one (ds_ret (de_lc at_ nd__law_due_kinds (di_range1 c.n_range (da_cons de_int da_nil)) (own := [("_law_number", 2)]) (by first | (show blkC ["_law_which", "_law_some", "_law_number"] (defScope s__law_due_kinds) _ _ = true; decide +kernel) | (show blkC ["_law_which", "_law_some", "_law_number"] _ _ _ = true; decide +kernel)) (fun b a1 => dg_name nd__law_due_kinds rfl (by first | exact Or.inl rfl | exact Or.inr rfl) (by intro h; cases h)) (fun b a1 => dts_nil) (fun b a1 => de_cmp (op_inP a1.un) od_in (dv 2) (dv 1) (by with_unfolding_all rfl)))))
theorem ok__law_due_kinds {P : Program} {w : World} {K : PySem.W.Frag} {mg : Str → Option Value} {base : Heap} {f : Addr} {fd : FuncData} (U : Fun K "_law_due_kinds" "_law_due_kinds" s__law_due_kinds f fd) (hm : mg "_law_due_kinds" = some (.ref f)) (bi : Binds K fd ["_law_which"] []) (c : Facts w K mg)  : Def P w K mg base "_law_due_kinds" 1 1 f__law_due_kinds :=
  Def.of U hm bi (def_ok U sc__law_due_kinds rfl (k__law_due_kinds c ))
/-! ### _law_field -/
abbrev s__law_field : Stmt := top 20
def b__law_field : M Fl :=
    mseq (sif (dval (dop (onD pLt) (dget 0) (mret (.d (.int 4))))) (sret (dif (dval (dop (onD pEq) (dget 0) (mret (.d (.int 1))))) (dxf xs_row "row" (dget 1)) (dif (dval (dop (onD pEq) (dget 0) (mret (.d (.int 2))))) (dxf xs_rule "rule" (dget 1)) (dxf xs_which "which" (dget 1))))) (mret .nx)) <|
    mseq (sif (dval (dop (onD pIn) (dget 0) (dtup (dcons (mret (.d (.int 6))) (dcons (mret (.d (.int 9))) (mret [])))))) (sret (dxf xs_hand "hand" (dget 1))) (mret .nx)) <|
    mseq (sif (dval (dop (onD pIn) (dget 0) (dtup (dcons (mret (.d (.int 7))) (dcons (mret (.d (.int 8))) (mret [])))))) (sret (dxf xs_number "number" (dget 1))) (mret .nx)) <|
    sret (dif (dval (dop (onD pEq) (dget 0) (mret (.d (.int 10))))) (dxf xs_name "name" (dget 1)) (dxf xs_many "many" (dget 1)))
def f__law_field : Fn := dfn 2 [true, true] b__law_field
theorem nd__law_field : (["_law_which", "_law_error"] : List Str).Nodup := by decide +kernel
theorem sc__law_field : FnScope ["_law_which", "_law_error"] ["_law_which", "_law_error"] (defScope s__law_field) := ⟨rfl, rfl, rfl, nd__law_field, rfl, by decide +kernel, by decide +kernel⟩
theorem k__law_field {P : Program} {w : World} {K : PySem.W.Frag} {mg : Str → Option Value} {base : Heap} (c : Facts w K mg)  : BodyOk P w K mg base 0 ["_law_which", "_law_error"] "_law_field" s__law_field [true, true] b__law_field := fun f cd A outer s H E at_ =>
    dss_cons (ds_if (dt_cmp op_lt2 od_lt (dv 0) de_int (by with_unfolding_all rfl)) (dss_one (ds_ret (de_if (dt_cmp (op_eqP at_.un) od_eq (dv 0) de_int (by with_unfolding_all rfl)) (de_xf c.xf_row (dv 1)) (de_if (dt_cmp (op_eqP at_.un) od_eq (dv 0) de_int (by with_unfolding_all rfl)) (de_xf c.xf_rule (dv 1)) (de_xf c.xf_which (dv 1)))))) dss_nil)
    (dss_cons (ds_if (dt_cmp (op_inP at_.un) od_in (dv 0) (de_tup (da_cons de_int (da_cons de_int da_nil))) (by with_unfolding_all rfl)) (dss_one (ds_ret (de_xf c.xf_hand (dv 1)))) dss_nil)
    (dss_cons (ds_if (dt_cmp (op_inP at_.un) od_in (dv 0) (de_tup (da_cons de_int (da_cons de_int da_nil))) (by with_unfolding_all rfl)) (dss_one (ds_ret (de_xf c.xf_number (dv 1)))) dss_nil)
    (dss_one (ds_ret (de_if (dt_cmp (op_eqP at_.un) od_eq (dv 0) de_int (by with_unfolding_all rfl)) (de_xf c.xf_name (dv 1)) (de_xf c.xf_many (dv 1)))))))
theorem ok__law_field {P : Program} {w : World} {K : PySem.W.Frag} {mg : Str → Option Value} {base : Heap} {f : Addr} {fd : FuncData} (U : Fun K "_law_field" "_law_field" s__law_field f fd) (hm : mg "_law_field" = some (.ref f)) (bi : Binds K fd ["_law_which", "_law_error"] []) (c : Facts w K mg)  : Def P w K mg base "_law_field" 1 2 f__law_field :=
  Def.of U hm bi (def_ok U sc__law_field rfl (k__law_field c ))
/-! ### _law_fields -/
abbrev s__law_fields : Stmt := top 21
def b__law_fields : M Fl :=
    mseq (sif (dval (dop (onD pEq) (dget 0) (mret (.d (.int 0))))) (sret (dlst (dcons (dxf xs_part "part" (dget 1)) (dcons (dxf xs_hand "hand" (dget 1)) (dcons (dxf xs_number "number" (dget 1)) (mret [])))))) (mret .nx)) <|
    mseq (sif (dval (dop (onD pIn) (dget 0) (dtup (dcons (mret (.d (.int 4))) (dcons (mret (.d (.int 5))) (dcons (mret (.d (.int 12))) (mret []))))))) (sret (dlst (mret []))) (mret .nx)) <|
    sret (dlst (dcons (dcall f__law_field [none, none] (dcons (dget 0) (dcons (dget 1) (mret [])))) (mret [])))
def f__law_fields : Fn := dfn 2 [true, true] b__law_fields
theorem nd__law_fields : (["_law_which", "_law_error"] : List Str).Nodup := by decide +kernel
theorem sc__law_fields : FnScope ["_law_which", "_law_error"] ["_law_which", "_law_error"] (defScope s__law_fields) := ⟨rfl, rfl, rfl, nd__law_fields, rfl, by decide +kernel, by decide +kernel⟩
theorem k__law_fields {P : Program} {w : World} {K : PySem.W.Frag} {mg : Str → Option Value} {base : Heap} (c : Facts w K mg) (d__law_field : Def P w K mg base "_law_field" 1 2 f__law_field) : BodyOk P w K mg base 1 ["_law_which", "_law_error"] "_law_fields" s__law_fields [true, true] b__law_fields := fun f cd A outer s H E at_ =>
    dss_cons (ds_if (dt_cmp (op_eqP at_.un) od_eq (dv 0) de_int (by with_unfolding_all rfl)) (dss_one (ds_ret (de_lst (da_cons (de_xf c.xf_part (dv 1)) (da_cons (de_xf c.xf_hand (dv 1)) (da_cons (de_xf c.xf_number (dv 1)) da_nil)))))) dss_nil)
    (dss_cons (ds_if (dt_cmp (op_inP at_.un) od_in (dv 0) (de_tup (da_cons de_int (da_cons de_int (da_cons de_int da_nil)))) (by with_unfolding_all rfl)) (dss_one (ds_ret (de_lst da_nil))) dss_nil)
    (dss_one (ds_ret (de_lst (da_cons (de_call d__law_field at_ (da_cons (dv 0) (da_cons (dv 1) da_nil))) da_nil)))))
theorem ok__law_fields {P : Program} {w : World} {K : PySem.W.Frag} {mg : Str → Option Value} {base : Heap} {f : Addr} {fd : FuncData} (U : Fun K "_law_fields" "_law_fields" s__law_fields f fd) (hm : mg "_law_fields" = some (.ref f)) (bi : Binds K fd ["_law_which", "_law_error"] []) (c : Facts w K mg) (d__law_field : Def P w K mg base "_law_field" 1 2 f__law_field) : Def P w K mg base "_law_fields" 2 2 f__law_fields :=
  Def.of U hm bi (def_ok U sc__law_fields rfl (k__law_fields c d__law_field))
/-! ### _law_kinds -/
abbrev s__law_kinds : Stmt := top 17
def b__law_kinds : M Fl :=
    mseq (sset 1 (dlst (dcons (dcallb (gIsiX isaT_NoProgram) [none, none] (dcons (dget 0) (dcons (mret (.fn "NoProgram")) (mret [])))) (dcons (dcallb (gIsiX isaT_NoText) [none, none] (dcons (dget 0) (dcons (mret (.fn "NoText")) (mret [])))) (dcons (dcallb (gIsiX isaT_NoGraph) [none, none] (dcons (dget 0) (dcons (mret (.fn "NoGraph")) (mret [])))) (mret [])))))) <|
    mseq (sset 1 (dop (onD pAdd) (dget 1) (dlst (dcons (dcallb (gIsiX isaT_NoNames) [none, none] (dcons (dget 0) (dcons (mret (.fn "NoNames")) (mret [])))) (dcons (dcallb (gIsiX isaT_NoPicks) [none, none] (dcons (dget 0) (dcons (mret (.fn "NoPicks")) (mret [])))) (dcons (dcallb (gIsiX isaT_NoRow) [none, none] (dcons (dget 0) (dcons (mret (.fn "NoRow")) (mret [])))) (mret []))))))) <|
    mseq (sset 1 (dop (onD pAdd) (dget 1) (dlst (dcons (dcallb (gIsiX isaT_NoHand) [none, none] (dcons (dget 0) (dcons (mret (.fn "NoHand")) (mret [])))) (dcons (dcallb (gIsiX isaT_NoNumber) [none, none] (dcons (dget 0) (dcons (mret (.fn "NoNumber")) (mret [])))) (dcons (dcallb (gIsiX isaT_NoRun) [none, none] (dcons (dget 0) (dcons (mret (.fn "NoRun")) (mret [])))) (mret []))))))) <|
    mseq (sset 1 (dop (onD pAdd) (dget 1) (dlst (dcons (dcallb (gIsiX isaT_NoStep) [none, none] (dcons (dget 0) (dcons (mret (.fn "NoStep")) (mret [])))) (dcons (dcallb (gIsiX isaT_NoName) [none, none] (dcons (dget 0) (dcons (mret (.fn "NoName")) (mret [])))) (dcons (dcallb (gIsiX isaT_TooMany) [none, none] (dcons (dget 0) (dcons (mret (.fn "TooMany")) (mret [])))) (mret []))))))) <|
    sret (dop (onD pAdd) (dget 1) (dlst (dcons (dcallb (gIsiX isaT_Bare) [none, none] (dcons (dget 0) (dcons (mret (.fn "Bare")) (mret [])))) (mret []))))
def f__law_kinds : Fn := dfn 2 [true] b__law_kinds
theorem nd__law_kinds : (["_law_error", "_law_found"] : List Str).Nodup := by decide +kernel
theorem sc__law_kinds : FnScope ["_law_error", "_law_found"] ["_law_error"] (defScope s__law_kinds) := ⟨rfl, rfl, rfl, nd__law_kinds, rfl, by decide +kernel, by decide +kernel⟩
theorem k__law_kinds {P : Program} {w : World} {K : PySem.W.Frag} {mg : Str → Option Value} {base : Heap} (c : Facts w K mg)  : BodyOk P w K mg base 0 ["_law_error", "_law_found"] "_law_kinds" s__law_kinds [true] b__law_kinds := fun f cd A outer s H E at_ =>
    dss_cons (ds_set 1 nd__law_kinds (de_lst (da_cons (de_callB call_isiX (ck_isiX c.isa_NoProgram) c.n_isinstance bt_isinstance (da_cons (dv 0) (da_cons (de_cls c.cn_NoProgram) da_nil))) (da_cons (de_callB call_isiX (ck_isiX c.isa_NoText) c.n_isinstance bt_isinstance (da_cons (dv 0) (da_cons (de_cls c.cn_NoText) da_nil))) (da_cons (de_callB call_isiX (ck_isiX c.isa_NoGraph) c.n_isinstance bt_isinstance (da_cons (dv 0) (da_cons (de_cls c.cn_NoGraph) da_nil))) da_nil)))))
    (dss_cons (ds_set 1 nd__law_kinds (de_op op_add4 od_add (dv 1) (de_lst (da_cons (de_callB call_isiX (ck_isiX c.isa_NoNames) c.n_isinstance bt_isinstance (da_cons (dv 0) (da_cons (de_cls c.cn_NoNames) da_nil))) (da_cons (de_callB call_isiX (ck_isiX c.isa_NoPicks) c.n_isinstance bt_isinstance (da_cons (dv 0) (da_cons (de_cls c.cn_NoPicks) da_nil))) (da_cons (de_callB call_isiX (ck_isiX c.isa_NoRow) c.n_isinstance bt_isinstance (da_cons (dv 0) (da_cons (de_cls c.cn_NoRow) da_nil))) da_nil))))))
    (dss_cons (ds_set 1 nd__law_kinds (de_op op_add4 od_add (dv 1) (de_lst (da_cons (de_callB call_isiX (ck_isiX c.isa_NoHand) c.n_isinstance bt_isinstance (da_cons (dv 0) (da_cons (de_cls c.cn_NoHand) da_nil))) (da_cons (de_callB call_isiX (ck_isiX c.isa_NoNumber) c.n_isinstance bt_isinstance (da_cons (dv 0) (da_cons (de_cls c.cn_NoNumber) da_nil))) (da_cons (de_callB call_isiX (ck_isiX c.isa_NoRun) c.n_isinstance bt_isinstance (da_cons (dv 0) (da_cons (de_cls c.cn_NoRun) da_nil))) da_nil))))))
    (dss_cons (ds_set 1 nd__law_kinds (de_op op_add4 od_add (dv 1) (de_lst (da_cons (de_callB call_isiX (ck_isiX c.isa_NoStep) c.n_isinstance bt_isinstance (da_cons (dv 0) (da_cons (de_cls c.cn_NoStep) da_nil))) (da_cons (de_callB call_isiX (ck_isiX c.isa_NoName) c.n_isinstance bt_isinstance (da_cons (dv 0) (da_cons (de_cls c.cn_NoName) da_nil))) (da_cons (de_callB call_isiX (ck_isiX c.isa_TooMany) c.n_isinstance bt_isinstance (da_cons (dv 0) (da_cons (de_cls c.cn_TooMany) da_nil))) da_nil))))))
    (dss_one (ds_ret (de_op op_add4 od_add (dv 1) (de_lst (da_cons (de_callB call_isiX (ck_isiX c.isa_Bare) c.n_isinstance bt_isinstance (da_cons (dv 0) (da_cons (de_cls c.cn_Bare) da_nil))) da_nil))))))))
theorem ok__law_kinds {P : Program} {w : World} {K : PySem.W.Frag} {mg : Str → Option Value} {base : Heap} {f : Addr} {fd : FuncData} (U : Fun K "_law_kinds" "_law_kinds" s__law_kinds f fd) (hm : mg "_law_kinds" = some (.ref f)) (bi : Binds K fd ["_law_error"] []) (c : Facts w K mg)  : Def P w K mg base "_law_kinds" 1 1 f__law_kinds :=
  Def.of U hm bi (def_ok U sc__law_kinds rfl (k__law_kinds c ))
/-! ### _law_right -/
abbrev s__law_right : Stmt := top 24
def l__law_right_1 : M T :=
    dlc (drange (dcons (mret (.d (.int 13))) (mret []))) [4] (mset 4) (mret true) (dop (onD pEq) (dget 4) (dget 0))
def b__law_right : M Fl :=
    mseq (sset 3 (dslice (dget 2) (mret none) (dpart (dop (onD pIx) (dlst (dcons (mret (.d (.int 3))) (dcons (mret (.d (.int 1))) (dcons (mret (.d (.int 1))) (dcons (mret (.d (.int 1))) (dcons (mret (.d (.int 0))) (dcons (mret (.d (.int 0))) (dcons (mret (.d (.int 1))) (dcons (mret (.d (.int 1))) (dcons (mret (.d (.int 1))) (dcons (mret (.d (.int 1))) (dcons (mret (.d (.int 1))) (dcons (mret (.d (.int 1))) (dcons (mret (.d (.int 0))) (mret []))))))))))))))) (dget 0))))) <|
    mseq (sif (dor (dval (dop (onD pNe) (dcallb gRepr [none] (dcons (dcall f__law_fields [none, none] (dcons (dget 0) (dcons (dget 1) (mret [])))) (mret []))) (dcallb gRepr [none] (dcons (dget 3) (mret []))))) (dval (dop (onD pNe) (dcall f__law_base_kinds [none] (dcons (dget 1) (mret []))) (dcall f__law_due_kinds [none] (dcons (dget 0) (mret [])))))) (sret (mret (.d (.bool false)))) (mret .nx)) <|
    sret (dop (onD pEq) (dcall f__law_kinds [none] (dcons (dget 1) (mret []))) l__law_right_1)
def f__law_right : Fn := dfn 5 [true, true, true] b__law_right
theorem nd__law_right : (["_law_which", "_law_error", "_law_values", "_law_due", "_law_number"] : List Str).Nodup := by decide +kernel
theorem sc__law_right : FnScope ["_law_which", "_law_error", "_law_values", "_law_due", "_law_number"] ["_law_which", "_law_error", "_law_values"] (defScope s__law_right) := ⟨rfl, rfl, rfl, nd__law_right, rfl, by decide +kernel, by decide +kernel⟩
theorem k__law_right {P : Program} {w : World} {K : PySem.W.Frag} {mg : Str → Option Value} {base : Heap} (c : Facts w K mg) (d__law_base_kinds : Def P w K mg base "_law_base_kinds" 1 1 f__law_base_kinds) (d__law_due_kinds : Def P w K mg base "_law_due_kinds" 1 1 f__law_due_kinds) (d__law_fields : Def P w K mg base "_law_fields" 2 2 f__law_fields) (d__law_kinds : Def P w K mg base "_law_kinds" 1 1 f__law_kinds) : BodyOk P w K mg base 2 ["_law_which", "_law_error", "_law_values", "_law_due", "_law_number"] "_law_right" s__law_right [true, true, true] b__law_right := fun f cd A outer s H E at_ =>
    dss_cons (ds_set 3 nd__law_right (de_slice (dv 2) do_none (do_some (de_ix (de_lst (da_cons de_int (da_cons de_int (da_cons de_int (da_cons de_int (da_cons de_int (da_cons de_int (da_cons de_int (da_cons de_int (da_cons de_int (da_cons de_int (da_cons de_int (da_cons de_int (da_cons de_int da_nil)))))))))))))) (dv 0)))))
    (dss_cons (ds_if (DW.t (dw_or (dt_cmp (op_neP at_.un) od_ne (de_callB (cr_repr at_.g at_.un) ck_repr c.n_repr bt_repr (da_cons (de_call d__law_fields at_ (da_cons (dv 0) (da_cons (dv 1) da_nil))) da_nil)) (de_callB (cr_repr at_.g at_.un) ck_repr c.n_repr bt_repr (da_cons (dv 3) da_nil)) (by with_unfolding_all rfl)) (dw_or1 (dt_cmp (op_neP at_.un) od_ne (de_call d__law_base_kinds at_ (da_cons (dv 1) da_nil)) (de_call d__law_due_kinds at_ (da_cons (dv 0) da_nil)) (by with_unfolding_all rfl))))) (dss_one (ds_ret de_bl)) dss_nil)
    (dss_one (ds_ret (de_cmp (op_eqP at_.un) od_eq (de_call d__law_kinds at_ (da_cons (dv 1) da_nil)) (de_lc at_ nd__law_right (di_range1 c.n_range (da_cons de_int da_nil)) (own := [("_law_number", 4)]) (by first | (show blkC ["_law_which", "_law_error", "_law_values", "_law_due", "_law_number"] (defScope s__law_right) _ _ = true; decide +kernel) | (show blkC ["_law_which", "_law_error", "_law_values", "_law_due", "_law_number"] _ _ _ = true; decide +kernel)) (fun b a1 => dg_name nd__law_right rfl (by first | exact Or.inl rfl | exact Or.inr rfl) (by intro h; cases h)) (fun b a1 => dts_nil) (fun b a1 => de_cmp (op_eqP a1.un) od_eq (dv 4) (dv 0) (by with_unfolding_all rfl))) (by with_unfolding_all rfl)))))
theorem ok__law_right {P : Program} {w : World} {K : PySem.W.Frag} {mg : Str → Option Value} {base : Heap} {f : Addr} {fd : FuncData} (U : Fun K "_law_right" "_law_right" s__law_right f fd) (hm : mg "_law_right" = some (.ref f)) (bi : Binds K fd ["_law_which", "_law_error", "_law_values"] []) (c : Facts w K mg) (d__law_base_kinds : Def P w K mg base "_law_base_kinds" 1 1 f__law_base_kinds) (d__law_due_kinds : Def P w K mg base "_law_due_kinds" 1 1 f__law_due_kinds) (d__law_fields : Def P w K mg base "_law_fields" 2 2 f__law_fields) (d__law_kinds : Def P w K mg base "_law_kinds" 1 1 f__law_kinds) : Def P w K mg base "_law_right" 3 3 f__law_right :=
  Def.of U hm bi (def_ok U sc__law_right rfl (k__law_right c d__law_base_kinds d__law_due_kinds d__law_fields d__law_kinds))
/-! ### _law_take -/
abbrev s__law_take : Stmt := top 16
def b__law_take : M Fl :=
    mseq (sif (dval (dop (onD pGt) (dixO 0 (mret (.d (.int 0)))) (mret (.d (.int 0))))) (mseq (sset 2 (dop (onD pMod) (dixO 0 (mret (.d (.int 0)))) (dget 1))) <|
    mseq (sasg (dop (onD pDiv) (dixO 0 (mret (.d (.int 0)))) (dget 1)) (gput 0 (mret (.d (.int 0))))) <|
    sret (dget 2)) (mret .nx)) <|
    mseq (sasg (dop (onD pMod) (dop (onD pAdd) (dop (onD pMul) (dixO 0 (mret (.d (.int 1)))) (mret (.d (.int 48271)))) (mret (.d (.int 11)))) (mret (.d (.int 2147483647)))) (gput 0 (mret (.d (.int 1))))) <|
    sret (dop (onD pMod) (dop (onD pDiv) (dop (onD pMod) (dop (onD pMul) (dixO 0 (mret (.d (.int 1)))) (dixO 0 (mret (.d (.int 1))))) (mret (.d (.int 2147483629)))) (mret (.d (.int 64)))) (dget 1))
def f__law_take : Fn := dfn 3 [true, true] b__law_take
theorem nd__law_take : (["_law_pool_here", "_law_size", "_law_found"] : List Str).Nodup := by decide +kernel
theorem sc__law_take : FnScope ["_law_pool_here", "_law_size", "_law_found"] ["_law_pool_here", "_law_size"] (defScope s__law_take) := ⟨rfl, rfl, rfl, nd__law_take, rfl, by decide +kernel, by decide +kernel⟩
theorem k__law_take {P : Program} {w : World} {K : PySem.W.Frag} {mg : Str → Option Value} {base : Heap} (c : Facts w K mg)  : BodyOk P w K mg base 0 ["_law_pool_here", "_law_size", "_law_found"] "_law_take" s__law_take [true, true] b__law_take := fun f cd A outer s H E at_ =>
    dss_cons (ds_if (dt_cmp op_gt od_gt (de_ixO 0 de_int) de_int (by with_unfolding_all rfl)) (dss_cons (ds_set 2 nd__law_take (de_op op_mod od_mod (de_ixO 0 de_int) (dv 1)))
    (dss_cons (ds_asg (de_op op_fdiv od_div (de_ixO 0 de_int) (dv 1)) (dg_sub 0 de_int))
    (dss_one (ds_ret (dv 2))))) dss_nil)
    (dss_cons (ds_asg (de_op op_mod od_mod (de_op op_add4 od_add (de_op op_mul2 od_mul (de_ixO 0 de_int) de_int) de_int) de_int) (dg_sub 0 de_int))
    (dss_one (ds_ret (de_op op_mod od_mod (de_op op_fdiv od_div (de_op op_mod od_mod (de_op op_mul2 od_mul (de_ixO 0 de_int) (de_ixO 0 de_int)) de_int) de_int) (dv 1)))))
theorem ok__law_take {P : Program} {w : World} {K : PySem.W.Frag} {mg : Str → Option Value} {base : Heap} {f : Addr} {fd : FuncData} (U : Fun K "_law_take" "_law_take" s__law_take f fd) (hm : mg "_law_take" = some (.ref f)) (bi : Binds K fd ["_law_pool_here", "_law_size"] []) (c : Facts w K mg)  : Def P w K mg base "_law_take" 1 2 f__law_take :=
  Def.of U hm bi (def_ok U sc__law_take rfl (k__law_take c ))
/-! ### _law_value -/
abbrev s__law_value : Stmt := top 23
def b__law_value : M Fl :=
    mseq (sset 1 (dlst (dcons (mret (.d .none)) (dcons (dcall f__law_take [some 0, none] (dlate 0 (dcons (dop (onD pPow) (mret (.d (.int 10))) (mret (.d (.int 9)))) (mret [])))) (dcons (dop (onD pMulS) (mret (.d (.str ("a" : Str)))) (dcall f__law_take [some 0, none] (dlate 0 (dcons (mret (.d (.int 4))) (mret []))))) (dcons (dlst (dcons (mret (.d (.int 1))) (mret []))) (dcons (dtup (dcons (mret (.d (.int 1))) (dcons (mret (.d (.int 2))) (mret [])))) (dcons (mret (.d (.bool true))) (dcons (mret (.d (.int 1))) (dcons (dneg (mret (.d (.int 1)))) (mret []))))))))))) <|
    sret (dop (onD pIx) (dget 1) (dcall f__law_take [some 0, none] (dlate 0 (dcons (mret (.d (.int 8))) (mret [])))))
def f__law_value : Fn := dfn 2 [true] b__law_value
theorem nd__law_value : (["_law_pool_here", "_law_some"] : List Str).Nodup := by decide +kernel
theorem sc__law_value : FnScope ["_law_pool_here", "_law_some"] ["_law_pool_here"] (defScope s__law_value) := ⟨rfl, rfl, rfl, nd__law_value, rfl, by decide +kernel, by decide +kernel⟩
theorem k__law_value {P : Program} {w : World} {K : PySem.W.Frag} {mg : Str → Option Value} {base : Heap} (c : Facts w K mg) (d__law_take : Def P w K mg base "_law_take" 1 2 f__law_take) : BodyOk P w K mg base 1 ["_law_pool_here", "_law_some"] "_law_value" s__law_value [true] b__law_value := fun f cd A outer s H E at_ =>
    dss_cons (ds_set 1 nd__law_value (de_lst (da_cons de_non (da_cons (de_call d__law_take at_ (da_own 0 (da_cons (de_op op_pow od_pow de_int de_int) da_nil))) (da_cons (de_op op_mul3 od_mul3 de_str (de_call d__law_take at_ (da_own 0 (da_cons de_int da_nil)))) (da_cons (de_lst (da_cons de_int da_nil)) (da_cons (de_tup (da_cons de_int (da_cons de_int da_nil))) (da_cons de_bl (da_cons de_int (da_cons (de_neg de_int) da_nil))))))))))
    (dss_one (ds_ret (de_ix (dv 1) (de_call d__law_take at_ (da_own 0 (da_cons de_int da_nil))))))
theorem ok__law_value {P : Program} {w : World} {K : PySem.W.Frag} {mg : Str → Option Value} {base : Heap} {f : Addr} {fd : FuncData} (U : Fun K "_law_value" "_law_value" s__law_value f fd) (hm : mg "_law_value" = some (.ref f)) (bi : Binds K fd ["_law_pool_here"] []) (c : Facts w K mg) (d__law_take : Def P w K mg base "_law_take" 1 2 f__law_take) : Def P w K mg base "_law_value" 2 1 f__law_value :=
  Def.of U hm bi (def_ok U sc__law_value rfl (k__law_value c d__law_take))
/-! ### law -/
abbrev s_law : Stmt := top 25
def y_law_1 : M Fl :=
    mseq (sset 7 (dcall f__law_made [none, none, none, none] (dcons (dget 6) (dcons (dget 3) (dcons (dget 4) (dcons (dget 5) (mret []))))))) <|
    mseq (sset 8 (dcall f__law_made [none, none, none, none] (dcons (dget 6) (dcons (dget 5) (dcons (dget 3) (dcons (dget 4) (mret []))))))) <|
    mseq (sif (dor (dnot (dval (dcall f__law_right [none, none, none] (dcons (dget 6) (dcons (dget 7) (dcons (dlst (dcons (dget 3) (dcons (dget 4) (dcons (dget 5) (mret []))))) (mret []))))))) (dnot (dval (dcall f__law_right [none, none, none] (dcons (dget 6) (dcons (dget 8) (dcons (dlst (dcons (dget 5) (dcons (dget 3) (dcons (dget 4) (mret []))))) (mret [])))))))) (sret (mret (.d (.bool false)))) (mret .nx)) <|
    sif (dnot (dval (dcall f__law_right [none, none, none] (dcons (dget 6) (dcons (dget 7) (dcons (dlst (dcons (dget 3) (dcons (dget 4) (dcons (dget 5) (mret []))))) (mret []))))))) (sret (mret (.d (.bool false)))) (mret .nx)
def y_law_2 : M Fl :=
    mseq (sset 2 (dcall f__law_pool [none, none] (dcons (dget 0) (dcons (dget 1) (mret []))))) <|
    mseq (sset 3 (dcall f__law_value [some 2] (dlate 2 (mret [])))) <|
    mseq (sset 4 (dcall f__law_value [some 2] (dlate 2 (mret [])))) <|
    mseq (sset 5 (dcall f__law_value [some 2] (dlate 2 (mret [])))) <|
    sfor (drange (dcons (mret (.d (.int 13))) (mret []))) (mset 6) y_law_1
def b_law : M Fl :=
    mseq (sfor (drange (dcons (dcallb gMax2 [none, none] (dcons (mret (.d (.int 1))) (dcons (dcallb gMin2 [none, none] (dcons (dcallb gLen [none] (dcons (dget 0) (mret []))) (dcons (mret (.d (.int 20))) (mret [])))) (mret [])))) (mret []))) (mset 1) y_law_2) <|
    sret (mret (.d (.bool true)))
def f_law : Fn := dfn 9 [true] b_law
theorem nd_law : (["_law_script", "_law_k", "_law_pool_here", "_law_one", "_law_two", "_law_three", "_law_which", "_law_first", "_law_second"] : List Str).Nodup := by decide +kernel
theorem sc_law : FnScope ["_law_script", "_law_k", "_law_pool_here", "_law_one", "_law_two", "_law_three", "_law_which", "_law_first", "_law_second"] ["_law_script"] (defScope s_law) := ⟨rfl, rfl, rfl, nd_law, rfl, by decide +kernel, by decide +kernel⟩
theorem k_law {P : Program} {w : World} {K : PySem.W.Frag} {mg : Str → Option Value} {base : Heap} (c : Facts w K mg) (d__law_made : Def P w K mg base "_law_made" 3 4 f__law_made) (d__law_pool : Def P w K mg base "_law_pool" 1 2 f__law_pool) (d__law_right : Def P w K mg base "_law_right" 3 3 f__law_right) (d__law_value : Def P w K mg base "_law_value" 2 1 f__law_value) : BodyOk P w K mg base 3 ["_law_script", "_law_k", "_law_pool_here", "_law_one", "_law_two", "_law_three", "_law_which", "_law_first", "_law_second"] "law" s_law [true] b_law := fun f cd A outer s H E at_ =>
    dss_cons (ds_for at_ (di_range1 c.n_range (da_cons (de_callB (call_max2 at_.ca) ck_max2 c.n_max bt_max (da_cons de_int (da_cons (de_callB (call_min2 at_.ca) ck_min2 c.n_min bt_min (da_cons (de_callB cr_len2 ck_len c.n_len bt_len (da_cons (dv 0) da_nil)) (da_cons de_int da_nil))) da_nil))) da_nil)) (dg_name nd_law rfl (by first | exact Or.inl rfl | exact Or.inr rfl) (by intro h; cases h)) (dss_cons (ds_set 2 nd_law (de_call d__law_pool at_ (da_cons (dv 0) (da_cons (dv 1) da_nil))))
    (dss_cons (ds_set 3 nd_law (de_call d__law_value at_ (da_own 2 da_nil)))
    (dss_cons (ds_set 4 nd_law (de_call d__law_value at_ (da_own 2 da_nil)))
    (dss_cons (ds_set 5 nd_law (de_call d__law_value at_ (da_own 2 da_nil)))
    (dss_one (ds_for at_ (di_range1 c.n_range (da_cons de_int da_nil)) (dg_name nd_law rfl (by first | exact Or.inl rfl | exact Or.inr rfl) (by intro h; cases h)) (dss_cons (ds_set 7 nd_law (de_call d__law_made at_ (da_cons (dv 6) (da_cons (dv 3) (da_cons (dv 4) (da_cons (dv 5) da_nil))))))
    (dss_cons (ds_set 8 nd_law (de_call d__law_made at_ (da_cons (dv 6) (da_cons (dv 5) (da_cons (dv 3) (da_cons (dv 4) da_nil))))))
    (dss_cons (ds_if (DW.t (dw_or (dt_not (dt_val (de_call d__law_right at_ (da_cons (dv 6) (da_cons (dv 7) (da_cons (de_lst (da_cons (dv 3) (da_cons (dv 4) (da_cons (dv 5) da_nil)))) da_nil)))))) (dw_or1 (dt_not (dt_val (de_call d__law_right at_ (da_cons (dv 6) (da_cons (dv 8) (da_cons (de_lst (da_cons (dv 5) (da_cons (dv 3) (da_cons (dv 4) da_nil)))) da_nil))))))))) (dss_one (ds_ret de_bl)) dss_nil)
    (dss_one (ds_if (dt_not (dt_val (de_call d__law_right at_ (da_cons (dv 6) (da_cons (dv 7) (da_cons (de_lst (da_cons (dv 3) (da_cons (dv 4) (da_cons (dv 5) da_nil)))) da_nil)))))) (dss_one (ds_ret de_bl)) dss_nil))))))))))))
    (dss_one (ds_ret de_bl))
theorem ok_law {P : Program} {w : World} {K : PySem.W.Frag} {mg : Str → Option Value} {base : Heap} {f : Addr} {fd : FuncData} (U : Fun K "law" "law" s_law f fd) (hm : mg "law" = some (.ref f)) (bi : Binds K fd ["_law_script"] []) (c : Facts w K mg) (d__law_made : Def P w K mg base "_law_made" 3 4 f__law_made) (d__law_pool : Def P w K mg base "_law_pool" 1 2 f__law_pool) (d__law_right : Def P w K mg base "_law_right" 3 3 f__law_right) (d__law_value : Def P w K mg base "_law_value" 2 1 f__law_value) : Def P w K mg base "law" 4 1 f_law :=
  Def.of U hm bi (def_ok U sc_law rfl (k_law c d__law_made d__law_pool d__law_right d__law_value))
/-! ### the head -/
theorem all_mk {P : Program} {w : World} {K : PySem.W.Frag} {h : Heap} {mg : Str → Option Value} {fa : Addr} (X : K.In h) (G : h.Ns mainGlobals mg) (hfa : mg "law" = some (.ref fa))
    (F__law_made : HasFn K "_law_made" s__law_made)
    (F__law_pool : HasFn K "_law_pool" s__law_pool)
    (F__law_base_kinds : HasFn K "_law_base_kinds" s__law_base_kinds)
    (F__law_due_kinds : HasFn K "_law_due_kinds" s__law_due_kinds)
    (F__law_field : HasFn K "_law_field" s__law_field)
    (F__law_fields : HasFn K "_law_fields" s__law_fields)
    (F__law_kinds : HasFn K "_law_kinds" s__law_kinds)
    (F__law_right : HasFn K "_law_right" s__law_right)
    (F__law_take : HasFn K "_law_take" s__law_take)
    (F__law_value : HasFn K "_law_value" s__law_value)
    (F_law : HasFn K "law" s_law)
    (N_IndexError : HasNo K "IndexError")
    (N_KeyError : HasNo K "KeyError")
    (N_LookupError : HasNo K "LookupError")
    (N_OverflowError : HasNo K "OverflowError")
    (N_RuntimeError : HasNo K "RuntimeError")
    (N_ValueError : HasNo K "ValueError")
    (N_int : HasNo K "int")
    (N_isinstance : HasNo K "isinstance")
    (N_len : HasNo K "len")
    (N_max : HasNo K "max")
    (N_min : HasNo K "min")
    (N_range : HasNo K "range")
    (N_repr : HasNo K "repr")
    (BI_IndexError : HasBI K "IndexError" "IndexError.__init__")
    (BI_LookupError : HasBI K "LookupError" "LookupError.__init__")
    (BI_OverflowError : HasBI K "OverflowError" "OverflowError.__init__")
    (BI_RuntimeError : HasBI K "RuntimeError" "RuntimeError.__init__")
    (BI_ValueError : HasBI K "ValueError" "ValueError.__init__")
    (Y_Bare : HasE0 K "Bare" "Bare.__init__" i_Bare [] "RuntimeError" "RuntimeError.__init__")
    (Y_NoGraph : HasE0 K "NoGraph" "NoGraph.__init__" i_NoGraph ["rule"] "ValueError" "ValueError.__init__")
    (Y_NoHand : HasE0 K "NoHand" "NoHand.__init__" i_NoHand ["hand"] "IndexError" "IndexError.__init__")
    (Y_NoName : HasE0 K "NoName" "NoName.__init__" i_NoName ["name"] "LookupError" "LookupError.__init__")
    (Y_NoNames : HasE0 K "NoNames" "NoNames.__init__" i_NoNames ["which"] "ValueError" "ValueError.__init__")
    (Y_NoNumber : HasE0 K "NoNumber" "NoNumber.__init__" i_NoNumber ["number"] "IndexError" "IndexError.__init__")
    (Y_NoPicks : HasE0 K "NoPicks" "NoPicks.__init__" i_NoPicks [] "ValueError" "ValueError.__init__")
    (Y_NoProgram : HasE0 K "NoProgram" "NoProgram.__init__" i_NoProgram ["part", "hand", "number"] "ValueError" "ValueError.__init__")
    (Y_NoRow : HasE0 K "NoRow" "NoRow.__init__" i_NoRow [] "ValueError" "ValueError.__init__")
    (Y_NoRun : HasE0 K "NoRun" "NoRun.__init__" i_NoRun ["number"] "IndexError" "IndexError.__init__")
    (Y_NoStep : HasE0 K "NoStep" "NoStep.__init__" i_NoStep ["hand"] "LookupError" "LookupError.__init__")
    (Y_NoText : HasE0 K "NoText" "NoText.__init__" i_NoText ["row"] "ValueError" "ValueError.__init__")
    (Y_TooMany : HasE0 K "TooMany" "TooMany.__init__" i_TooMany ["many"] "OverflowError" "OverflowError.__init__")
    (CN_Bare : HasCls K "Bare")
    (CN_NoGraph : HasCls K "NoGraph")
    (CN_NoHand : HasCls K "NoHand")
    (CN_NoName : HasCls K "NoName")
    (CN_NoNames : HasCls K "NoNames")
    (CN_NoNumber : HasCls K "NoNumber")
    (CN_NoPicks : HasCls K "NoPicks")
    (CN_NoProgram : HasCls K "NoProgram")
    (CN_NoRow : HasCls K "NoRow")
    (CN_NoRun : HasCls K "NoRun")
    (CN_NoStep : HasCls K "NoStep")
    (CN_NoText : HasCls K "NoText")
    (CN_TooMany : HasCls K "TooMany")
    (XF_hand_NoHand : XfOne K "NoHand" "hand")
    (XF_hand_NoProgram : XfOne K "NoProgram" "hand")
    (XF_hand_NoStep : XfOne K "NoStep" "hand")
    (XF_many_TooMany : XfOne K "TooMany" "many")
    (XF_name_NoName : XfOne K "NoName" "name")
    (XF_number_NoNumber : XfOne K "NoNumber" "number")
    (XF_number_NoProgram : XfOne K "NoProgram" "number")
    (XF_number_NoRun : XfOne K "NoRun" "number")
    (XF_part_NoProgram : XfOne K "NoProgram" "part")
    (XF_row_NoText : XfOne K "NoText" "row")
    (XF_rule_NoGraph : XfOne K "NoGraph" "rule")
    (XF_which_NoNames : XfOne K "NoNames" "which")
    (EN_Bare : ExcN K "Bare")
    (EN_NoGraph : ExcN K "NoGraph")
    (EN_NoHand : ExcN K "NoHand")
    (EN_NoName : ExcN K "NoName")
    (EN_NoNames : ExcN K "NoNames")
    (EN_NoNumber : ExcN K "NoNumber")
    (EN_NoPicks : ExcN K "NoPicks")
    (EN_NoProgram : ExcN K "NoProgram")
    (EN_NoRow : ExcN K "NoRow")
    (EN_NoRun : ExcN K "NoRun")
    (EN_NoStep : ExcN K "NoStep")
    (EN_NoText : ExcN K "NoText")
    (EN_TooMany : ExcN K "TooMany")
    (ISA_0 : IsaK K "Bare" (.ty "KeyError") false)
    (ISA_1 : IsaK K "Bare" (.ty "IndexError") false)
    (ISA_2 : IsaK K "Bare" (.ty "ValueError") false)
    (ISA_3 : IsaK K "Bare" (.ty "RuntimeError") true)
    (ISA_4 : IsaK K "Bare" (.ty "OverflowError") false)
    (ISA_5 : IsaK K "Bare" (.ty "LookupError") false)
    (ISA_6 : IsaK K "Bare" (.fn "NoGraph") false)
    (ISA_7 : IsaK K "Bare" (.fn "NoText") false)
    (ISA_8 : IsaK K "Bare" (.fn "NoProgram") false)
    (ISA_9 : IsaK K "Bare" (.fn "NoRow") false)
    (ISA_10 : IsaK K "Bare" (.fn "NoPicks") false)
    (ISA_11 : IsaK K "Bare" (.fn "NoNames") false)
    (ISA_12 : IsaK K "Bare" (.fn "NoRun") false)
    (ISA_13 : IsaK K "Bare" (.fn "NoNumber") false)
    (ISA_14 : IsaK K "Bare" (.fn "NoHand") false)
    (ISA_15 : IsaK K "Bare" (.fn "TooMany") false)
    (ISA_16 : IsaK K "Bare" (.fn "NoName") false)
    (ISA_17 : IsaK K "Bare" (.fn "NoStep") false)
    (ISA_18 : IsaK K "Bare" (.fn "Bare") true)
    (ISA_19 : IsaK K "NoGraph" (.ty "KeyError") false)
    (ISA_20 : IsaK K "NoGraph" (.ty "IndexError") false)
    (ISA_21 : IsaK K "NoGraph" (.ty "ValueError") true)
    (ISA_22 : IsaK K "NoGraph" (.ty "RuntimeError") false)
    (ISA_23 : IsaK K "NoGraph" (.ty "OverflowError") false)
    (ISA_24 : IsaK K "NoGraph" (.ty "LookupError") false)
    (ISA_25 : IsaK K "NoGraph" (.fn "NoGraph") true)
    (ISA_26 : IsaK K "NoGraph" (.fn "NoText") false)
    (ISA_27 : IsaK K "NoGraph" (.fn "NoProgram") false)
    (ISA_28 : IsaK K "NoGraph" (.fn "NoRow") false)
    (ISA_29 : IsaK K "NoGraph" (.fn "NoPicks") false)
    (ISA_30 : IsaK K "NoGraph" (.fn "NoNames") false)
    (ISA_31 : IsaK K "NoGraph" (.fn "NoRun") false)
    (ISA_32 : IsaK K "NoGraph" (.fn "NoNumber") false)
    (ISA_33 : IsaK K "NoGraph" (.fn "NoHand") false)
    (ISA_34 : IsaK K "NoGraph" (.fn "TooMany") false)
    (ISA_35 : IsaK K "NoGraph" (.fn "NoName") false)
    (ISA_36 : IsaK K "NoGraph" (.fn "NoStep") false)
    (ISA_37 : IsaK K "NoGraph" (.fn "Bare") false)
    (ISA_38 : IsaK K "NoHand" (.ty "KeyError") false)
    (ISA_39 : IsaK K "NoHand" (.ty "IndexError") true)
    (ISA_40 : IsaK K "NoHand" (.ty "ValueError") false)
    (ISA_41 : IsaK K "NoHand" (.ty "RuntimeError") false)
    (ISA_42 : IsaK K "NoHand" (.ty "OverflowError") false)
    (ISA_43 : IsaK K "NoHand" (.ty "LookupError") true)
    (ISA_44 : IsaK K "NoHand" (.fn "NoGraph") false)
    (ISA_45 : IsaK K "NoHand" (.fn "NoText") false)
    (ISA_46 : IsaK K "NoHand" (.fn "NoProgram") false)
    (ISA_47 : IsaK K "NoHand" (.fn "NoRow") false)
    (ISA_48 : IsaK K "NoHand" (.fn "NoPicks") false)
    (ISA_49 : IsaK K "NoHand" (.fn "NoNames") false)
    (ISA_50 : IsaK K "NoHand" (.fn "NoRun") false)
    (ISA_51 : IsaK K "NoHand" (.fn "NoNumber") false)
    (ISA_52 : IsaK K "NoHand" (.fn "NoHand") true)
    (ISA_53 : IsaK K "NoHand" (.fn "TooMany") false)
    (ISA_54 : IsaK K "NoHand" (.fn "NoName") false)
    (ISA_55 : IsaK K "NoHand" (.fn "NoStep") false)
    (ISA_56 : IsaK K "NoHand" (.fn "Bare") false)
    (ISA_57 : IsaK K "NoName" (.ty "KeyError") false)
    (ISA_58 : IsaK K "NoName" (.ty "IndexError") false)
    (ISA_59 : IsaK K "NoName" (.ty "ValueError") false)
    (ISA_60 : IsaK K "NoName" (.ty "RuntimeError") false)
    (ISA_61 : IsaK K "NoName" (.ty "OverflowError") false)
    (ISA_62 : IsaK K "NoName" (.ty "LookupError") true)
    (ISA_63 : IsaK K "NoName" (.fn "NoGraph") false)
    (ISA_64 : IsaK K "NoName" (.fn "NoText") false)
    (ISA_65 : IsaK K "NoName" (.fn "NoProgram") false)
    (ISA_66 : IsaK K "NoName" (.fn "NoRow") false)
    (ISA_67 : IsaK K "NoName" (.fn "NoPicks") false)
    (ISA_68 : IsaK K "NoName" (.fn "NoNames") false)
    (ISA_69 : IsaK K "NoName" (.fn "NoRun") false)
    (ISA_70 : IsaK K "NoName" (.fn "NoNumber") false)
    (ISA_71 : IsaK K "NoName" (.fn "NoHand") false)
    (ISA_72 : IsaK K "NoName" (.fn "TooMany") false)
    (ISA_73 : IsaK K "NoName" (.fn "NoName") true)
    (ISA_74 : IsaK K "NoName" (.fn "NoStep") false)
    (ISA_75 : IsaK K "NoName" (.fn "Bare") false)
    (ISA_76 : IsaK K "NoNames" (.ty "KeyError") false)
    (ISA_77 : IsaK K "NoNames" (.ty "IndexError") false)
    (ISA_78 : IsaK K "NoNames" (.ty "ValueError") true)
    (ISA_79 : IsaK K "NoNames" (.ty "RuntimeError") false)
    (ISA_80 : IsaK K "NoNames" (.ty "OverflowError") false)
    (ISA_81 : IsaK K "NoNames" (.ty "LookupError") false)
    (ISA_82 : IsaK K "NoNames" (.fn "NoGraph") false)
    (ISA_83 : IsaK K "NoNames" (.fn "NoText") false)
    (ISA_84 : IsaK K "NoNames" (.fn "NoProgram") false)
    (ISA_85 : IsaK K "NoNames" (.fn "NoRow") false)
    (ISA_86 : IsaK K "NoNames" (.fn "NoPicks") false)
    (ISA_87 : IsaK K "NoNames" (.fn "NoNames") true)
    (ISA_88 : IsaK K "NoNames" (.fn "NoRun") false)
    (ISA_89 : IsaK K "NoNames" (.fn "NoNumber") false)
    (ISA_90 : IsaK K "NoNames" (.fn "NoHand") false)
    (ISA_91 : IsaK K "NoNames" (.fn "TooMany") false)
    (ISA_92 : IsaK K "NoNames" (.fn "NoName") false)
    (ISA_93 : IsaK K "NoNames" (.fn "NoStep") false)
    (ISA_94 : IsaK K "NoNames" (.fn "Bare") false)
    (ISA_95 : IsaK K "NoNumber" (.ty "KeyError") false)
    (ISA_96 : IsaK K "NoNumber" (.ty "IndexError") true)
    (ISA_97 : IsaK K "NoNumber" (.ty "ValueError") false)
    (ISA_98 : IsaK K "NoNumber" (.ty "RuntimeError") false)
    (ISA_99 : IsaK K "NoNumber" (.ty "OverflowError") false)
    (ISA_100 : IsaK K "NoNumber" (.ty "LookupError") true)
    (ISA_101 : IsaK K "NoNumber" (.fn "NoGraph") false)
    (ISA_102 : IsaK K "NoNumber" (.fn "NoText") false)
    (ISA_103 : IsaK K "NoNumber" (.fn "NoProgram") false)
    (ISA_104 : IsaK K "NoNumber" (.fn "NoRow") false)
    (ISA_105 : IsaK K "NoNumber" (.fn "NoPicks") false)
    (ISA_106 : IsaK K "NoNumber" (.fn "NoNames") false)
    (ISA_107 : IsaK K "NoNumber" (.fn "NoRun") false)
    (ISA_108 : IsaK K "NoNumber" (.fn "NoNumber") true)
    (ISA_109 : IsaK K "NoNumber" (.fn "NoHand") false)
    (ISA_110 : IsaK K "NoNumber" (.fn "TooMany") false)
    (ISA_111 : IsaK K "NoNumber" (.fn "NoName") false)
    (ISA_112 : IsaK K "NoNumber" (.fn "NoStep") false)
    (ISA_113 : IsaK K "NoNumber" (.fn "Bare") false)
    (ISA_114 : IsaK K "NoPicks" (.ty "KeyError") false)
    (ISA_115 : IsaK K "NoPicks" (.ty "IndexError") false)
    (ISA_116 : IsaK K "NoPicks" (.ty "ValueError") true)
    (ISA_117 : IsaK K "NoPicks" (.ty "RuntimeError") false)
    (ISA_118 : IsaK K "NoPicks" (.ty "OverflowError") false)
    (ISA_119 : IsaK K "NoPicks" (.ty "LookupError") false)
    (ISA_120 : IsaK K "NoPicks" (.fn "NoGraph") false)
    (ISA_121 : IsaK K "NoPicks" (.fn "NoText") false)
    (ISA_122 : IsaK K "NoPicks" (.fn "NoProgram") false)
    (ISA_123 : IsaK K "NoPicks" (.fn "NoRow") false)
    (ISA_124 : IsaK K "NoPicks" (.fn "NoPicks") true)
    (ISA_125 : IsaK K "NoPicks" (.fn "NoNames") false)
    (ISA_126 : IsaK K "NoPicks" (.fn "NoRun") false)
    (ISA_127 : IsaK K "NoPicks" (.fn "NoNumber") false)
    (ISA_128 : IsaK K "NoPicks" (.fn "NoHand") false)
    (ISA_129 : IsaK K "NoPicks" (.fn "TooMany") false)
    (ISA_130 : IsaK K "NoPicks" (.fn "NoName") false)
    (ISA_131 : IsaK K "NoPicks" (.fn "NoStep") false)
    (ISA_132 : IsaK K "NoPicks" (.fn "Bare") false)
    (ISA_133 : IsaK K "NoProgram" (.ty "KeyError") false)
    (ISA_134 : IsaK K "NoProgram" (.ty "IndexError") false)
    (ISA_135 : IsaK K "NoProgram" (.ty "ValueError") true)
    (ISA_136 : IsaK K "NoProgram" (.ty "RuntimeError") false)
    (ISA_137 : IsaK K "NoProgram" (.ty "OverflowError") false)
    (ISA_138 : IsaK K "NoProgram" (.ty "LookupError") false)
    (ISA_139 : IsaK K "NoProgram" (.fn "NoGraph") false)
    (ISA_140 : IsaK K "NoProgram" (.fn "NoText") false)
    (ISA_141 : IsaK K "NoProgram" (.fn "NoProgram") true)
    (ISA_142 : IsaK K "NoProgram" (.fn "NoRow") false)
    (ISA_143 : IsaK K "NoProgram" (.fn "NoPicks") false)
    (ISA_144 : IsaK K "NoProgram" (.fn "NoNames") false)
    (ISA_145 : IsaK K "NoProgram" (.fn "NoRun") false)
    (ISA_146 : IsaK K "NoProgram" (.fn "NoNumber") false)
    (ISA_147 : IsaK K "NoProgram" (.fn "NoHand") false)
    (ISA_148 : IsaK K "NoProgram" (.fn "TooMany") false)
    (ISA_149 : IsaK K "NoProgram" (.fn "NoName") false)
    (ISA_150 : IsaK K "NoProgram" (.fn "NoStep") false)
    (ISA_151 : IsaK K "NoProgram" (.fn "Bare") false)
    (ISA_152 : IsaK K "NoRow" (.ty "KeyError") false)
    (ISA_153 : IsaK K "NoRow" (.ty "IndexError") false)
    (ISA_154 : IsaK K "NoRow" (.ty "ValueError") true)
    (ISA_155 : IsaK K "NoRow" (.ty "RuntimeError") false)
    (ISA_156 : IsaK K "NoRow" (.ty "OverflowError") false)
    (ISA_157 : IsaK K "NoRow" (.ty "LookupError") false)
    (ISA_158 : IsaK K "NoRow" (.fn "NoGraph") false)
    (ISA_159 : IsaK K "NoRow" (.fn "NoText") false)
    (ISA_160 : IsaK K "NoRow" (.fn "NoProgram") false)
    (ISA_161 : IsaK K "NoRow" (.fn "NoRow") true)
    (ISA_162 : IsaK K "NoRow" (.fn "NoPicks") false)
    (ISA_163 : IsaK K "NoRow" (.fn "NoNames") false)
    (ISA_164 : IsaK K "NoRow" (.fn "NoRun") false)
    (ISA_165 : IsaK K "NoRow" (.fn "NoNumber") false)
    (ISA_166 : IsaK K "NoRow" (.fn "NoHand") false)
    (ISA_167 : IsaK K "NoRow" (.fn "TooMany") false)
    (ISA_168 : IsaK K "NoRow" (.fn "NoName") false)
    (ISA_169 : IsaK K "NoRow" (.fn "NoStep") false)
    (ISA_170 : IsaK K "NoRow" (.fn "Bare") false)
    (ISA_171 : IsaK K "NoRun" (.ty "KeyError") false)
    (ISA_172 : IsaK K "NoRun" (.ty "IndexError") true)
    (ISA_173 : IsaK K "NoRun" (.ty "ValueError") false)
    (ISA_174 : IsaK K "NoRun" (.ty "RuntimeError") false)
    (ISA_175 : IsaK K "NoRun" (.ty "OverflowError") false)
    (ISA_176 : IsaK K "NoRun" (.ty "LookupError") true)
    (ISA_177 : IsaK K "NoRun" (.fn "NoGraph") false)
    (ISA_178 : IsaK K "NoRun" (.fn "NoText") false)
    (ISA_179 : IsaK K "NoRun" (.fn "NoProgram") false)
    (ISA_180 : IsaK K "NoRun" (.fn "NoRow") false)
    (ISA_181 : IsaK K "NoRun" (.fn "NoPicks") false)
    (ISA_182 : IsaK K "NoRun" (.fn "NoNames") false)
    (ISA_183 : IsaK K "NoRun" (.fn "NoRun") true)
    (ISA_184 : IsaK K "NoRun" (.fn "NoNumber") false)
    (ISA_185 : IsaK K "NoRun" (.fn "NoHand") false)
    (ISA_186 : IsaK K "NoRun" (.fn "TooMany") false)
    (ISA_187 : IsaK K "NoRun" (.fn "NoName") false)
    (ISA_188 : IsaK K "NoRun" (.fn "NoStep") false)
    (ISA_189 : IsaK K "NoRun" (.fn "Bare") false)
    (ISA_190 : IsaK K "NoStep" (.ty "KeyError") false)
    (ISA_191 : IsaK K "NoStep" (.ty "IndexError") false)
    (ISA_192 : IsaK K "NoStep" (.ty "ValueError") false)
    (ISA_193 : IsaK K "NoStep" (.ty "RuntimeError") false)
    (ISA_194 : IsaK K "NoStep" (.ty "OverflowError") false)
    (ISA_195 : IsaK K "NoStep" (.ty "LookupError") true)
    (ISA_196 : IsaK K "NoStep" (.fn "NoGraph") false)
    (ISA_197 : IsaK K "NoStep" (.fn "NoText") false)
    (ISA_198 : IsaK K "NoStep" (.fn "NoProgram") false)
    (ISA_199 : IsaK K "NoStep" (.fn "NoRow") false)
    (ISA_200 : IsaK K "NoStep" (.fn "NoPicks") false)
    (ISA_201 : IsaK K "NoStep" (.fn "NoNames") false)
    (ISA_202 : IsaK K "NoStep" (.fn "NoRun") false)
    (ISA_203 : IsaK K "NoStep" (.fn "NoNumber") false)
    (ISA_204 : IsaK K "NoStep" (.fn "NoHand") false)
    (ISA_205 : IsaK K "NoStep" (.fn "TooMany") false)
    (ISA_206 : IsaK K "NoStep" (.fn "NoName") false)
    (ISA_207 : IsaK K "NoStep" (.fn "NoStep") true)
    (ISA_208 : IsaK K "NoStep" (.fn "Bare") false)
    (ISA_209 : IsaK K "NoText" (.ty "KeyError") false)
    (ISA_210 : IsaK K "NoText" (.ty "IndexError") false)
    (ISA_211 : IsaK K "NoText" (.ty "ValueError") true)
    (ISA_212 : IsaK K "NoText" (.ty "RuntimeError") false)
    (ISA_213 : IsaK K "NoText" (.ty "OverflowError") false)
    (ISA_214 : IsaK K "NoText" (.ty "LookupError") false)
    (ISA_215 : IsaK K "NoText" (.fn "NoGraph") false)
    (ISA_216 : IsaK K "NoText" (.fn "NoText") true)
    (ISA_217 : IsaK K "NoText" (.fn "NoProgram") false)
    (ISA_218 : IsaK K "NoText" (.fn "NoRow") false)
    (ISA_219 : IsaK K "NoText" (.fn "NoPicks") false)
    (ISA_220 : IsaK K "NoText" (.fn "NoNames") false)
    (ISA_221 : IsaK K "NoText" (.fn "NoRun") false)
    (ISA_222 : IsaK K "NoText" (.fn "NoNumber") false)
    (ISA_223 : IsaK K "NoText" (.fn "NoHand") false)
    (ISA_224 : IsaK K "NoText" (.fn "TooMany") false)
    (ISA_225 : IsaK K "NoText" (.fn "NoName") false)
    (ISA_226 : IsaK K "NoText" (.fn "NoStep") false)
    (ISA_227 : IsaK K "NoText" (.fn "Bare") false)
    (ISA_228 : IsaK K "TooMany" (.ty "KeyError") false)
    (ISA_229 : IsaK K "TooMany" (.ty "IndexError") false)
    (ISA_230 : IsaK K "TooMany" (.ty "ValueError") false)
    (ISA_231 : IsaK K "TooMany" (.ty "RuntimeError") false)
    (ISA_232 : IsaK K "TooMany" (.ty "OverflowError") true)
    (ISA_233 : IsaK K "TooMany" (.ty "LookupError") false)
    (ISA_234 : IsaK K "TooMany" (.fn "NoGraph") false)
    (ISA_235 : IsaK K "TooMany" (.fn "NoText") false)
    (ISA_236 : IsaK K "TooMany" (.fn "NoProgram") false)
    (ISA_237 : IsaK K "TooMany" (.fn "NoRow") false)
    (ISA_238 : IsaK K "TooMany" (.fn "NoPicks") false)
    (ISA_239 : IsaK K "TooMany" (.fn "NoNames") false)
    (ISA_240 : IsaK K "TooMany" (.fn "NoRun") false)
    (ISA_241 : IsaK K "TooMany" (.fn "NoNumber") false)
    (ISA_242 : IsaK K "TooMany" (.fn "NoHand") false)
    (ISA_243 : IsaK K "TooMany" (.fn "TooMany") true)
    (ISA_244 : IsaK K "TooMany" (.fn "NoName") false)
    (ISA_245 : IsaK K "TooMany" (.fn "NoStep") false)
    (ISA_246 : IsaK K "TooMany" (.fn "Bare") false) :
    ∃ fd : FuncData, (∀ (s : Shared) (u : Value), BindsTo s fd ⟨[u], []⟩ [("_law_script", u)]) ∧ ∀ base : Heap, K.In base → base.Ns mainGlobals mg → FnG P w K mg base 4 fa fd ["_law_script"] (FnD K mg 1 f_law) := by
  have c : Facts w K mg := ⟨fun z a e => PySem.W.mg_of X G e, N_IndexError.at X G, N_KeyError.at X G, N_LookupError.at X G, N_OverflowError.at X G, N_RuntimeError.at X G, N_ValueError.at X G, N_int.at X G, N_isinstance.at X G, N_len.at X G, N_max.at X G, N_min.at X G, N_range.at X G, N_repr.at X G, CN_Bare.at X G, CN_NoGraph.at X G, CN_NoHand.at X G, CN_NoName.at X G, CN_NoNames.at X G, CN_NoNumber.at X G, CN_NoPicks.at X G, CN_NoProgram.at X G, CN_NoRow.at X G, CN_NoRun.at X G, CN_NoStep.at X G, CN_NoText.at X G, CN_TooMany.at X G, (mem_cons XF_hand_NoHand (mem_cons XF_hand_NoProgram (mem_cons XF_hand_NoStep mem_nil))), (mem_cons XF_many_TooMany mem_nil), (mem_cons XF_name_NoName mem_nil), (mem_cons XF_number_NoNumber (mem_cons XF_number_NoProgram (mem_cons XF_number_NoRun mem_nil))), (mem_cons XF_part_NoProgram mem_nil), (mem_cons XF_row_NoText mem_nil), (mem_cons XF_rule_NoGraph mem_nil), (mem_cons XF_which_NoNames mem_nil), (mem_cons (IsaOne.mk EN_Bare ISA_0) (mem_cons (IsaOne.mk EN_NoGraph ISA_19) (mem_cons (IsaOne.mk EN_NoHand ISA_38) (mem_cons (IsaOne.mk EN_NoName ISA_57) (mem_cons (IsaOne.mk EN_NoNames ISA_76) (mem_cons (IsaOne.mk EN_NoNumber ISA_95) (mem_cons (IsaOne.mk EN_NoPicks ISA_114) (mem_cons (IsaOne.mk EN_NoProgram ISA_133) (mem_cons (IsaOne.mk EN_NoRow ISA_152) (mem_cons (IsaOne.mk EN_NoRun ISA_171) (mem_cons (IsaOne.mk EN_NoStep ISA_190) (mem_cons (IsaOne.mk EN_NoText ISA_209) (mem_cons (IsaOne.mk EN_TooMany ISA_228) mem_nil))))))))))))), (mem_cons (IsaOne.mk EN_Bare ISA_1) (mem_cons (IsaOne.mk EN_NoGraph ISA_20) (mem_cons (IsaOne.mk EN_NoHand ISA_39) (mem_cons (IsaOne.mk EN_NoName ISA_58) (mem_cons (IsaOne.mk EN_NoNames ISA_77) (mem_cons (IsaOne.mk EN_NoNumber ISA_96) (mem_cons (IsaOne.mk EN_NoPicks ISA_115) (mem_cons (IsaOne.mk EN_NoProgram ISA_134) (mem_cons (IsaOne.mk EN_NoRow ISA_153) (mem_cons (IsaOne.mk EN_NoRun ISA_172) (mem_cons (IsaOne.mk EN_NoStep ISA_191) (mem_cons (IsaOne.mk EN_NoText ISA_210) (mem_cons (IsaOne.mk EN_TooMany ISA_229) mem_nil))))))))))))), (mem_cons (IsaOne.mk EN_Bare ISA_2) (mem_cons (IsaOne.mk EN_NoGraph ISA_21) (mem_cons (IsaOne.mk EN_NoHand ISA_40) (mem_cons (IsaOne.mk EN_NoName ISA_59) (mem_cons (IsaOne.mk EN_NoNames ISA_78) (mem_cons (IsaOne.mk EN_NoNumber ISA_97) (mem_cons (IsaOne.mk EN_NoPicks ISA_116) (mem_cons (IsaOne.mk EN_NoProgram ISA_135) (mem_cons (IsaOne.mk EN_NoRow ISA_154) (mem_cons (IsaOne.mk EN_NoRun ISA_173) (mem_cons (IsaOne.mk EN_NoStep ISA_192) (mem_cons (IsaOne.mk EN_NoText ISA_211) (mem_cons (IsaOne.mk EN_TooMany ISA_230) mem_nil))))))))))))), (mem_cons (IsaOne.mk EN_Bare ISA_3) (mem_cons (IsaOne.mk EN_NoGraph ISA_22) (mem_cons (IsaOne.mk EN_NoHand ISA_41) (mem_cons (IsaOne.mk EN_NoName ISA_60) (mem_cons (IsaOne.mk EN_NoNames ISA_79) (mem_cons (IsaOne.mk EN_NoNumber ISA_98) (mem_cons (IsaOne.mk EN_NoPicks ISA_117) (mem_cons (IsaOne.mk EN_NoProgram ISA_136) (mem_cons (IsaOne.mk EN_NoRow ISA_155) (mem_cons (IsaOne.mk EN_NoRun ISA_174) (mem_cons (IsaOne.mk EN_NoStep ISA_193) (mem_cons (IsaOne.mk EN_NoText ISA_212) (mem_cons (IsaOne.mk EN_TooMany ISA_231) mem_nil))))))))))))), (mem_cons (IsaOne.mk EN_Bare ISA_4) (mem_cons (IsaOne.mk EN_NoGraph ISA_23) (mem_cons (IsaOne.mk EN_NoHand ISA_42) (mem_cons (IsaOne.mk EN_NoName ISA_61) (mem_cons (IsaOne.mk EN_NoNames ISA_80) (mem_cons (IsaOne.mk EN_NoNumber ISA_99) (mem_cons (IsaOne.mk EN_NoPicks ISA_118) (mem_cons (IsaOne.mk EN_NoProgram ISA_137) (mem_cons (IsaOne.mk EN_NoRow ISA_156) (mem_cons (IsaOne.mk EN_NoRun ISA_175) (mem_cons (IsaOne.mk EN_NoStep ISA_194) (mem_cons (IsaOne.mk EN_NoText ISA_213) (mem_cons (IsaOne.mk EN_TooMany ISA_232) mem_nil))))))))))))), (mem_cons (IsaOne.mk EN_Bare ISA_5) (mem_cons (IsaOne.mk EN_NoGraph ISA_24) (mem_cons (IsaOne.mk EN_NoHand ISA_43) (mem_cons (IsaOne.mk EN_NoName ISA_62) (mem_cons (IsaOne.mk EN_NoNames ISA_81) (mem_cons (IsaOne.mk EN_NoNumber ISA_100) (mem_cons (IsaOne.mk EN_NoPicks ISA_119) (mem_cons (IsaOne.mk EN_NoProgram ISA_138) (mem_cons (IsaOne.mk EN_NoRow ISA_157) (mem_cons (IsaOne.mk EN_NoRun ISA_176) (mem_cons (IsaOne.mk EN_NoStep ISA_195) (mem_cons (IsaOne.mk EN_NoText ISA_214) (mem_cons (IsaOne.mk EN_TooMany ISA_233) mem_nil))))))))))))), (mem_cons (IsaOne.mk EN_Bare ISA_6) (mem_cons (IsaOne.mk EN_NoGraph ISA_25) (mem_cons (IsaOne.mk EN_NoHand ISA_44) (mem_cons (IsaOne.mk EN_NoName ISA_63) (mem_cons (IsaOne.mk EN_NoNames ISA_82) (mem_cons (IsaOne.mk EN_NoNumber ISA_101) (mem_cons (IsaOne.mk EN_NoPicks ISA_120) (mem_cons (IsaOne.mk EN_NoProgram ISA_139) (mem_cons (IsaOne.mk EN_NoRow ISA_158) (mem_cons (IsaOne.mk EN_NoRun ISA_177) (mem_cons (IsaOne.mk EN_NoStep ISA_196) (mem_cons (IsaOne.mk EN_NoText ISA_215) (mem_cons (IsaOne.mk EN_TooMany ISA_234) mem_nil))))))))))))), (mem_cons (IsaOne.mk EN_Bare ISA_7) (mem_cons (IsaOne.mk EN_NoGraph ISA_26) (mem_cons (IsaOne.mk EN_NoHand ISA_45) (mem_cons (IsaOne.mk EN_NoName ISA_64) (mem_cons (IsaOne.mk EN_NoNames ISA_83) (mem_cons (IsaOne.mk EN_NoNumber ISA_102) (mem_cons (IsaOne.mk EN_NoPicks ISA_121) (mem_cons (IsaOne.mk EN_NoProgram ISA_140) (mem_cons (IsaOne.mk EN_NoRow ISA_159) (mem_cons (IsaOne.mk EN_NoRun ISA_178) (mem_cons (IsaOne.mk EN_NoStep ISA_197) (mem_cons (IsaOne.mk EN_NoText ISA_216) (mem_cons (IsaOne.mk EN_TooMany ISA_235) mem_nil))))))))))))), (mem_cons (IsaOne.mk EN_Bare ISA_8) (mem_cons (IsaOne.mk EN_NoGraph ISA_27) (mem_cons (IsaOne.mk EN_NoHand ISA_46) (mem_cons (IsaOne.mk EN_NoName ISA_65) (mem_cons (IsaOne.mk EN_NoNames ISA_84) (mem_cons (IsaOne.mk EN_NoNumber ISA_103) (mem_cons (IsaOne.mk EN_NoPicks ISA_122) (mem_cons (IsaOne.mk EN_NoProgram ISA_141) (mem_cons (IsaOne.mk EN_NoRow ISA_160) (mem_cons (IsaOne.mk EN_NoRun ISA_179) (mem_cons (IsaOne.mk EN_NoStep ISA_198) (mem_cons (IsaOne.mk EN_NoText ISA_217) (mem_cons (IsaOne.mk EN_TooMany ISA_236) mem_nil))))))))))))), (mem_cons (IsaOne.mk EN_Bare ISA_9) (mem_cons (IsaOne.mk EN_NoGraph ISA_28) (mem_cons (IsaOne.mk EN_NoHand ISA_47) (mem_cons (IsaOne.mk EN_NoName ISA_66) (mem_cons (IsaOne.mk EN_NoNames ISA_85) (mem_cons (IsaOne.mk EN_NoNumber ISA_104) (mem_cons (IsaOne.mk EN_NoPicks ISA_123) (mem_cons (IsaOne.mk EN_NoProgram ISA_142) (mem_cons (IsaOne.mk EN_NoRow ISA_161) (mem_cons (IsaOne.mk EN_NoRun ISA_180) (mem_cons (IsaOne.mk EN_NoStep ISA_199) (mem_cons (IsaOne.mk EN_NoText ISA_218) (mem_cons (IsaOne.mk EN_TooMany ISA_237) mem_nil))))))))))))), (mem_cons (IsaOne.mk EN_Bare ISA_10) (mem_cons (IsaOne.mk EN_NoGraph ISA_29) (mem_cons (IsaOne.mk EN_NoHand ISA_48) (mem_cons (IsaOne.mk EN_NoName ISA_67) (mem_cons (IsaOne.mk EN_NoNames ISA_86) (mem_cons (IsaOne.mk EN_NoNumber ISA_105) (mem_cons (IsaOne.mk EN_NoPicks ISA_124) (mem_cons (IsaOne.mk EN_NoProgram ISA_143) (mem_cons (IsaOne.mk EN_NoRow ISA_162) (mem_cons (IsaOne.mk EN_NoRun ISA_181) (mem_cons (IsaOne.mk EN_NoStep ISA_200) (mem_cons (IsaOne.mk EN_NoText ISA_219) (mem_cons (IsaOne.mk EN_TooMany ISA_238) mem_nil))))))))))))), (mem_cons (IsaOne.mk EN_Bare ISA_11) (mem_cons (IsaOne.mk EN_NoGraph ISA_30) (mem_cons (IsaOne.mk EN_NoHand ISA_49) (mem_cons (IsaOne.mk EN_NoName ISA_68) (mem_cons (IsaOne.mk EN_NoNames ISA_87) (mem_cons (IsaOne.mk EN_NoNumber ISA_106) (mem_cons (IsaOne.mk EN_NoPicks ISA_125) (mem_cons (IsaOne.mk EN_NoProgram ISA_144) (mem_cons (IsaOne.mk EN_NoRow ISA_163) (mem_cons (IsaOne.mk EN_NoRun ISA_182) (mem_cons (IsaOne.mk EN_NoStep ISA_201) (mem_cons (IsaOne.mk EN_NoText ISA_220) (mem_cons (IsaOne.mk EN_TooMany ISA_239) mem_nil))))))))))))), (mem_cons (IsaOne.mk EN_Bare ISA_12) (mem_cons (IsaOne.mk EN_NoGraph ISA_31) (mem_cons (IsaOne.mk EN_NoHand ISA_50) (mem_cons (IsaOne.mk EN_NoName ISA_69) (mem_cons (IsaOne.mk EN_NoNames ISA_88) (mem_cons (IsaOne.mk EN_NoNumber ISA_107) (mem_cons (IsaOne.mk EN_NoPicks ISA_126) (mem_cons (IsaOne.mk EN_NoProgram ISA_145) (mem_cons (IsaOne.mk EN_NoRow ISA_164) (mem_cons (IsaOne.mk EN_NoRun ISA_183) (mem_cons (IsaOne.mk EN_NoStep ISA_202) (mem_cons (IsaOne.mk EN_NoText ISA_221) (mem_cons (IsaOne.mk EN_TooMany ISA_240) mem_nil))))))))))))), (mem_cons (IsaOne.mk EN_Bare ISA_13) (mem_cons (IsaOne.mk EN_NoGraph ISA_32) (mem_cons (IsaOne.mk EN_NoHand ISA_51) (mem_cons (IsaOne.mk EN_NoName ISA_70) (mem_cons (IsaOne.mk EN_NoNames ISA_89) (mem_cons (IsaOne.mk EN_NoNumber ISA_108) (mem_cons (IsaOne.mk EN_NoPicks ISA_127) (mem_cons (IsaOne.mk EN_NoProgram ISA_146) (mem_cons (IsaOne.mk EN_NoRow ISA_165) (mem_cons (IsaOne.mk EN_NoRun ISA_184) (mem_cons (IsaOne.mk EN_NoStep ISA_203) (mem_cons (IsaOne.mk EN_NoText ISA_222) (mem_cons (IsaOne.mk EN_TooMany ISA_241) mem_nil))))))))))))), (mem_cons (IsaOne.mk EN_Bare ISA_14) (mem_cons (IsaOne.mk EN_NoGraph ISA_33) (mem_cons (IsaOne.mk EN_NoHand ISA_52) (mem_cons (IsaOne.mk EN_NoName ISA_71) (mem_cons (IsaOne.mk EN_NoNames ISA_90) (mem_cons (IsaOne.mk EN_NoNumber ISA_109) (mem_cons (IsaOne.mk EN_NoPicks ISA_128) (mem_cons (IsaOne.mk EN_NoProgram ISA_147) (mem_cons (IsaOne.mk EN_NoRow ISA_166) (mem_cons (IsaOne.mk EN_NoRun ISA_185) (mem_cons (IsaOne.mk EN_NoStep ISA_204) (mem_cons (IsaOne.mk EN_NoText ISA_223) (mem_cons (IsaOne.mk EN_TooMany ISA_242) mem_nil))))))))))))), (mem_cons (IsaOne.mk EN_Bare ISA_15) (mem_cons (IsaOne.mk EN_NoGraph ISA_34) (mem_cons (IsaOne.mk EN_NoHand ISA_53) (mem_cons (IsaOne.mk EN_NoName ISA_72) (mem_cons (IsaOne.mk EN_NoNames ISA_91) (mem_cons (IsaOne.mk EN_NoNumber ISA_110) (mem_cons (IsaOne.mk EN_NoPicks ISA_129) (mem_cons (IsaOne.mk EN_NoProgram ISA_148) (mem_cons (IsaOne.mk EN_NoRow ISA_167) (mem_cons (IsaOne.mk EN_NoRun ISA_186) (mem_cons (IsaOne.mk EN_NoStep ISA_205) (mem_cons (IsaOne.mk EN_NoText ISA_224) (mem_cons (IsaOne.mk EN_TooMany ISA_243) mem_nil))))))))))))), (mem_cons (IsaOne.mk EN_Bare ISA_16) (mem_cons (IsaOne.mk EN_NoGraph ISA_35) (mem_cons (IsaOne.mk EN_NoHand ISA_54) (mem_cons (IsaOne.mk EN_NoName ISA_73) (mem_cons (IsaOne.mk EN_NoNames ISA_92) (mem_cons (IsaOne.mk EN_NoNumber ISA_111) (mem_cons (IsaOne.mk EN_NoPicks ISA_130) (mem_cons (IsaOne.mk EN_NoProgram ISA_149) (mem_cons (IsaOne.mk EN_NoRow ISA_168) (mem_cons (IsaOne.mk EN_NoRun ISA_187) (mem_cons (IsaOne.mk EN_NoStep ISA_206) (mem_cons (IsaOne.mk EN_NoText ISA_225) (mem_cons (IsaOne.mk EN_TooMany ISA_244) mem_nil))))))))))))), (mem_cons (IsaOne.mk EN_Bare ISA_17) (mem_cons (IsaOne.mk EN_NoGraph ISA_36) (mem_cons (IsaOne.mk EN_NoHand ISA_55) (mem_cons (IsaOne.mk EN_NoName ISA_74) (mem_cons (IsaOne.mk EN_NoNames ISA_93) (mem_cons (IsaOne.mk EN_NoNumber ISA_112) (mem_cons (IsaOne.mk EN_NoPicks ISA_131) (mem_cons (IsaOne.mk EN_NoProgram ISA_150) (mem_cons (IsaOne.mk EN_NoRow ISA_169) (mem_cons (IsaOne.mk EN_NoRun ISA_188) (mem_cons (IsaOne.mk EN_NoStep ISA_207) (mem_cons (IsaOne.mk EN_NoText ISA_226) (mem_cons (IsaOne.mk EN_TooMany ISA_245) mem_nil))))))))))))), (mem_cons (IsaOne.mk EN_Bare ISA_18) (mem_cons (IsaOne.mk EN_NoGraph ISA_37) (mem_cons (IsaOne.mk EN_NoHand ISA_56) (mem_cons (IsaOne.mk EN_NoName ISA_75) (mem_cons (IsaOne.mk EN_NoNames ISA_94) (mem_cons (IsaOne.mk EN_NoNumber ISA_113) (mem_cons (IsaOne.mk EN_NoPicks ISA_132) (mem_cons (IsaOne.mk EN_NoProgram ISA_151) (mem_cons (IsaOne.mk EN_NoRow ISA_170) (mem_cons (IsaOne.mk EN_NoRun ISA_189) (mem_cons (IsaOne.mk EN_NoStep ISA_208) (mem_cons (IsaOne.mk EN_NoText ISA_227) (mem_cons (IsaOne.mk EN_TooMany ISA_246) mem_nil)))))))))))))⟩
  obtain ⟨a__law_made, fd__law_made, e__law_made, U__law_made⟩ := F__law_made.ex
  have bi__law_made := U__law_made.binds (ps := ["_law_which", "_law_one", "_law_two", "_law_three"]) fun _ _ _ _ _ _ us hl => match us, hl with | [_, _, _, _], _ => rfl
  obtain ⟨a__law_pool, fd__law_pool, e__law_pool, U__law_pool⟩ := F__law_pool.ex
  have bi__law_pool := U__law_pool.binds (ps := ["_law_script", "_law_k"]) fun _ _ _ _ _ _ us hl => match us, hl with | [_, _], _ => rfl
  obtain ⟨a__law_base_kinds, fd__law_base_kinds, e__law_base_kinds, U__law_base_kinds⟩ := F__law_base_kinds.ex
  have bi__law_base_kinds := U__law_base_kinds.binds (ps := ["_law_error"]) fun _ _ _ _ _ _ us hl => match us, hl with | [_], _ => rfl
  obtain ⟨a__law_due_kinds, fd__law_due_kinds, e__law_due_kinds, U__law_due_kinds⟩ := F__law_due_kinds.ex
  have bi__law_due_kinds := U__law_due_kinds.binds (ps := ["_law_which"]) fun _ _ _ _ _ _ us hl => match us, hl with | [_], _ => rfl
  obtain ⟨a__law_field, fd__law_field, e__law_field, U__law_field⟩ := F__law_field.ex
  have bi__law_field := U__law_field.binds (ps := ["_law_which", "_law_error"]) fun _ _ _ _ _ _ us hl => match us, hl with | [_, _], _ => rfl
  obtain ⟨a__law_fields, fd__law_fields, e__law_fields, U__law_fields⟩ := F__law_fields.ex
  have bi__law_fields := U__law_fields.binds (ps := ["_law_which", "_law_error"]) fun _ _ _ _ _ _ us hl => match us, hl with | [_, _], _ => rfl
  obtain ⟨a__law_kinds, fd__law_kinds, e__law_kinds, U__law_kinds⟩ := F__law_kinds.ex
  have bi__law_kinds := U__law_kinds.binds (ps := ["_law_error"]) fun _ _ _ _ _ _ us hl => match us, hl with | [_], _ => rfl
  obtain ⟨a__law_right, fd__law_right, e__law_right, U__law_right⟩ := F__law_right.ex
  have bi__law_right := U__law_right.binds (ps := ["_law_which", "_law_error", "_law_values"]) fun _ _ _ _ _ _ us hl => match us, hl with | [_, _, _], _ => rfl
  obtain ⟨a__law_take, fd__law_take, e__law_take, U__law_take⟩ := F__law_take.ex
  have bi__law_take := U__law_take.binds (ps := ["_law_pool_here", "_law_size"]) fun _ _ _ _ _ _ us hl => match us, hl with | [_, _], _ => rfl
  obtain ⟨a__law_value, fd__law_value, e__law_value, U__law_value⟩ := F__law_value.ex
  have bi__law_value := U__law_value.binds (ps := ["_law_pool_here"]) fun _ _ _ _ _ _ us hl => match us, hl with | [_], _ => rfl
  obtain ⟨a_law, fd_law, e_law, U_law⟩ := F_law.ex
  have bi_law := U_law.binds (ps := ["_law_script"]) fun _ _ _ _ _ _ us hl => match us, hl with | [_], _ => rfl
  have y_Bare : ∀ {base : Heap}, ExcB P w K mg base "Bare" 1 [] := y_of_Bare (base_RuntimeError (N_RuntimeError.at X G) BI_RuntimeError.vV) (Y_Bare.at X G)
  have y_NoGraph : ∀ {base : Heap}, ExcB P w K mg base "NoGraph" 1 ["rule"] := y_of_NoGraph (base_ValueError (N_ValueError.at X G) BI_ValueError.vV) (Y_NoGraph.at X G)
  have y_NoHand : ∀ {base : Heap}, ExcB P w K mg base "NoHand" 1 ["hand"] := y_of_NoHand (base_IndexError (N_IndexError.at X G) BI_IndexError.vV) (Y_NoHand.at X G)
  have y_NoName : ∀ {base : Heap}, ExcB P w K mg base "NoName" 1 ["name"] := y_of_NoName (base_LookupError (N_LookupError.at X G) BI_LookupError.vV) (Y_NoName.at X G)
  have y_NoNames : ∀ {base : Heap}, ExcB P w K mg base "NoNames" 1 ["which"] := y_of_NoNames (base_ValueError (N_ValueError.at X G) BI_ValueError.vV) (Y_NoNames.at X G)
  have y_NoNumber : ∀ {base : Heap}, ExcB P w K mg base "NoNumber" 1 ["number"] := y_of_NoNumber (base_IndexError (N_IndexError.at X G) BI_IndexError.vV) (Y_NoNumber.at X G)
  have y_NoPicks : ∀ {base : Heap}, ExcB P w K mg base "NoPicks" 1 [] := y_of_NoPicks (base_ValueError (N_ValueError.at X G) BI_ValueError.vV) (Y_NoPicks.at X G)
  have y_NoProgram : ∀ {base : Heap}, ExcB P w K mg base "NoProgram" 1 ["part", "hand", "number"] := y_of_NoProgram (base_ValueError (N_ValueError.at X G) BI_ValueError.vV) (Y_NoProgram.at X G)
  have y_NoRow : ∀ {base : Heap}, ExcB P w K mg base "NoRow" 1 [] := y_of_NoRow (base_ValueError (N_ValueError.at X G) BI_ValueError.vV) (Y_NoRow.at X G)
  have y_NoRun : ∀ {base : Heap}, ExcB P w K mg base "NoRun" 1 ["number"] := y_of_NoRun (base_IndexError (N_IndexError.at X G) BI_IndexError.vV) (Y_NoRun.at X G)
  have y_NoStep : ∀ {base : Heap}, ExcB P w K mg base "NoStep" 1 ["hand"] := y_of_NoStep (base_LookupError (N_LookupError.at X G) BI_LookupError.vV) (Y_NoStep.at X G)
  have y_NoText : ∀ {base : Heap}, ExcB P w K mg base "NoText" 1 ["row"] := y_of_NoText (base_ValueError (N_ValueError.at X G) BI_ValueError.vV) (Y_NoText.at X G)
  have y_TooMany : ∀ {base : Heap}, ExcB P w K mg base "TooMany" 1 ["many"] := y_of_TooMany (base_OverflowError (N_OverflowError.at X G) BI_OverflowError.vV) (Y_TooMany.at X G)
  have ea := hfa.symm.trans (PySem.W.mg_of X G e_law)
  cases ea
  refine ⟨fd_law, ?_, fun base kb nb => ?_⟩
  · obtain ⟨_, _, _, _, _, _, _, _, _, rfl, _, _⟩ := U_law.ex
    exact fun s v => .of_eq rfl
  have d__law_made := ok__law_made (P := P) (base := base) U__law_made (PySem.W.mg_of X G e__law_made) bi__law_made c y_Bare y_NoGraph y_NoHand y_NoName y_NoNames y_NoNumber y_NoPicks y_NoProgram y_NoRow y_NoRun y_NoStep y_NoText y_TooMany
  have d__law_pool := ok__law_pool (P := P) (base := base) U__law_pool (PySem.W.mg_of X G e__law_pool) bi__law_pool c 
  have d__law_base_kinds := ok__law_base_kinds (P := P) (base := base) U__law_base_kinds (PySem.W.mg_of X G e__law_base_kinds) bi__law_base_kinds c 
  have d__law_due_kinds := ok__law_due_kinds (P := P) (base := base) U__law_due_kinds (PySem.W.mg_of X G e__law_due_kinds) bi__law_due_kinds c 
  have d__law_field := ok__law_field (P := P) (base := base) U__law_field (PySem.W.mg_of X G e__law_field) bi__law_field c 
  have d__law_fields := ok__law_fields (P := P) (base := base) U__law_fields (PySem.W.mg_of X G e__law_fields) bi__law_fields c d__law_field
  have d__law_kinds := ok__law_kinds (P := P) (base := base) U__law_kinds (PySem.W.mg_of X G e__law_kinds) bi__law_kinds c 
  have d__law_right := ok__law_right (P := P) (base := base) U__law_right (PySem.W.mg_of X G e__law_right) bi__law_right c d__law_base_kinds d__law_due_kinds d__law_fields d__law_kinds
  have d__law_take := ok__law_take (P := P) (base := base) U__law_take (PySem.W.mg_of X G e__law_take) bi__law_take c 
  have d__law_value := ok__law_value (P := P) (base := base) U__law_value (PySem.W.mg_of X G e__law_value) bi__law_value c d__law_take
  exact def_ok U_law sc_law rfl (k_law c d__law_made d__law_pool d__law_right d__law_value)
end LW
end
section
set_option maxRecDepth 100000
set_option linter.all false
open PySem L2 DL
namespace LW
theorem atN {α : Type} (xs : List α) (i : Nat) {x : α} (h : xs[i]? = some x) : atI xs (i : Int) = some x := by
  have hlt := (List.getElem?_eq_some_iff.mp h).1
  have e : ixN xs.length (i : Int) = some i := by
    unfold ixN
    simp
    omega
  unfold atI
  rw [e]
  exact h
/-! ### what is drawn -/
def pT (a b : Int) : T := .lst [.d (.int a), .d (.int b)]
def PoolOk (b : Int) : Prop := 0 ≤ b ∧ b < 2147483647
theorem t_take (a b n : Int) (hb : PoolOk b) (h0 : 0 < n) (h1 : n < 1073741824) :
    ∃ r a' b', f__law_take [pT a b, .d (.int n)] = .ok (.d (.int r)) [some (pT a' b'), some (.d (.int n))] ∧ 0 ≤ r ∧ r < n ∧ PoolOk b' := by
  obtain ⟨b0, b1⟩ := hb
  have m1 : cMod a n = true := by simp [cMod, h0]
  have d1 : cDiv a n = true := by simp [cDiv, h0, h1]
  have ix0 : ∀ u v : T, atI [u, v] 0 = some u := fun u v => rfl
  have ix1 : ∀ u v : T, atI [u, v] 1 = some v := fun u v => rfl
  have n0 : ixN 2 0 = some 0 := rfl
  have n1 : ixN 2 1 = some 1 := rfl
  by_cases ha : 0 < a
  · refine ⟨a % n, a / n, b, ?_, Int.emod_nonneg _ (by omega), Int.emod_lt_of_pos _ h0, b0, b1⟩
    have ga : decide (0 < a) = true := decide_eq_true ha
    simp [f__law_take, b__law_take, dfn, mseq, sif, sret, sset, sdrop, sasg, dandV, dorV, dnotV, dand, dor, dnot, dval, dop, dcallb, dcons, dget, mret, mno, mbind, mopt, gIsi, isT, dbackT, restore, dchain, chainMid, chainRest, onD, pLe2, pLt, pGt, pGe, keepm, dlst, dtup, mkLst, mkTup, allD, short, dcall, dcallF, mset, pT, dixO, dhas, dreadO, tItem, ix0, ix1, ga, pMod, pDiv, pII, m1, d1, gput, dput, tPut, n0, n1]
  · have ga : decide (0 < a) = false := decide_eq_false ha
    have c1 : cMul b 48271 = true := by
      unfold cMul
      rw [Bool.or_eq_true, Bool.or_eq_true]
      exact .inr (.inr (by decide))
    have m2 : ∀ i : Int, cMod i 2147483647 = true := fun i => by simp [cMod, cDiv]
    have m3 : ∀ i : Int, cMod i 2147483629 = true := fun i => by simp [cMod, cDiv]
    have m4 : ∀ i : Int, cMod i n = true := fun i => by simp [cMod, h0]
    have d2 : ∀ i : Int, cDiv i 64 = true := fun i => by simp [cMod, cDiv]
    have g0 : 0 ≤ (b * 48271 + 11) % 2147483647 := Int.emod_nonneg _ (by omega)
    have g1 : (b * 48271 + 11) % 2147483647 < 2147483647 := Int.emod_lt_of_pos _ (by omega)
    have c2 : ∀ x : Int, 0 ≤ x → x < 2147483647 → cMul x x = true := fun x z0 z1 => by
      unfold cMul
      rw [Bool.or_eq_true, Bool.or_eq_true]
      exact .inr (.inl (decide_eq_true ⟨by omega, by omega⟩))
    have c3 := c2 _ g0 g1
    refine ⟨((b * 48271 + 11) % 2147483647 * ((b * 48271 + 11) % 2147483647)) % 2147483629 / 64 % n, a, (b * 48271 + 11) % 2147483647, ?_, ?_, ?_, g0, g1⟩
    · simp [f__law_take, b__law_take, dfn, mseq, sif, sret, sset, sdrop, sasg, dandV, dorV, dnotV, dand, dor, dnot, dval, dop, dcallb, dcons, dget, mret, mno, mbind, mopt, gIsi, isT, dbackT, restore, dchain, chainMid, chainRest, onD, pLe2, pLt, pGt, pGe, keepm, dlst, dtup, mkLst, mkTup, allD, short, dcall, dcallF, mset, pT, dixO, dhas, dreadO, tItem, ix0, ix1, ga, pMod, pDiv, pMul, pAdd, pII, c1, m2, m3, m4, d2, c3, gput, dput, tPut, n0, n1]
    · exact Int.emod_nonneg _ (by omega)
    · exact Int.emod_lt_of_pos _ h0
theorem mul_small (i j : Int) (h : -(2 ^ 64) < j ∧ j < 2 ^ 64) : cMul i j = true := by
  unfold cMul
  rw [Bool.or_eq_true, Bool.or_eq_true]
  exact .inr (.inr (decide_eq_true h))
theorem mul_small' (i j : Int) (h : -(2 ^ 64) < i ∧ i < 2 ^ 64) : cMul i j = true := by
  unfold cMul
  rw [Bool.or_eq_true, Bool.or_eq_true]
  exact .inr (.inl (decide_eq_true h))
theorem t_pool (ns : List Int) (k : Nat) (hk : k ≤ 1000) (hn : ns.length ≤ 1000) : ∃ a b, f__law_pool [.scr ns, .d (.int k)] = .ok (pT a b) [some (.scr ns), some (.d (.int k))] ∧ PoolOk b := by
  have hl : ∀ lo hi : Option Int, (cutG ns lo hi).length + 1 ≤ lim := fun lo hi => by
    have := cutG_len ns lo hi
    have : (1001 : Nat) ≤ lim := by decide
    omega
  have hz : ∃ z, atI ((cutG ns (some (k : Int)) (some ((k : Int) + 1))).map PyData.int ++ [.int 0]) 0 = some (.int z) := by
    cases cutG ns (some (k : Int)) (some ((k : Int) + 1)) with
    | nil => exact ⟨0, rfl⟩
    | cons c l => exact ⟨c, atN _ 0 rfl⟩
  obtain ⟨z, hz⟩ := hz
  have h1 := hl (some (k : Int)) (some ((k : Int) + 1))
  have m1 : cMod z 2147483647 = true := by simp [cMod]
  have m2 : ∀ i : Int, cMod i 2147483629 = true := fun i => by simp [cMod]
  have c1 : cMul 7919 (k : Int) = true := mul_small' _ _ (by decide)
  have c2 : ∀ i : Int, cMul i 48271 = true := fun i => mul_small _ _ (by decide)
  have c3 : cMul (if decide ((1000000000000000000 : Int) ≤ z) = true then 1 else 0) z = true := mul_small' _ _ (by split <;> decide)
  have p1 : cPow 10 18 = true := by decide
  have hlim : lim = 100000 := rfl
  rw [hlim] at h1
  refine ⟨(if decide ((1000000000000000000 : Int) ≤ z) = true then 1 else 0) * z, (z % 2147483647 + 7919 * k + 1) * 48271 % 2147483629, ?_, Int.emod_nonneg _ (by omega), by have := Int.emod_lt_of_pos ((z % 2147483647 + 7919 * k + 1) * 48271) (show (0 : Int) < 2147483629 by omega); omega⟩
  simp only [decide_eq_true_eq] at c3 ⊢
  simp [f__law_pool, b__law_pool, dfn, mseq, sif, sret, sset, sdrop, sasg, dandV, dorV, dnotV, dand, dor, dnot, dval, dop, dcallb, dcons, dget, mret, mno, mbind, mopt, gIsi, isT, dbackT, restore, dchain, chainMid, chainRest, onD, pLe2, pLt, pGt, pGe, keepm, dlst, dtup, mkLst, mkTup, allD, short, dcall, dcallF, mset, dslice, dpart, tSlice, pAdd, h1, pIx, hz, pMod, pMul, pII, m1, m2, c1, c2, hlim, dlstO, pPow, p1, gInt, c3, pT]
/-! ### what is shown -/
def Sh (n k : Nat) (d : PyData) : Prop := d.showable = true ∧ d.shown.length ≤ n ∧ d.depth ≤ k
theorem sh_all {n k : Nat} : ∀ {xs : List PyData}, (∀ x ∈ xs, Sh n k x) → PyData.showableAll xs = true ∧ ((PyData.shownAll xs).map (·.length)).sum ≤ xs.length * n ∧ (PyData.shownAll xs).length = xs.length ∧ PyData.depthAll xs ≤ k
  | [], _ => by simp [PyData.showableAll, PyData.shownAll, PyData.depthAll]
  | x :: xs, h => by
    obtain ⟨h1, h2, h3⟩ := h x List.mem_cons_self
    obtain ⟨i1, i2, i3, i4⟩ := sh_all (xs := xs) fun y m => h y (List.mem_cons_of_mem _ m)
    refine ⟨by simp [PyData.showableAll, h1, i1], ?_, by simp [PyData.shownAll, i3], ?_⟩
    · simp only [PyData.shownAll, List.map_cons, List.sum_cons, List.length_cons]
      rw [Nat.add_mul]
      omega
    · simp only [PyData.depthAll]
      omega
theorem Sh.tuple {n k m : Nat} {xs : List PyData} (h : ∀ x ∈ xs, Sh n k x) (hm : xs.length ≤ m) : Sh (m * n + 2 * m + 3) (k + 1) (.tuple xs) := by
  obtain ⟨i1, i2, i3, i4⟩ := sh_all h
  have := tupleText_len_le (PyData.shownAll xs)
  have e : xs.length * n ≤ m * n := Nat.mul_le_mul_right _ hm
  refine ⟨by simpa [PyData.showable] using i1, ?_, ?_⟩
  · simp only [PyData.shown]
    omega
  · simp only [PyData.depth]
    omega
theorem Sh.list {n k m : Nat} {xs : List PyData} (h : ∀ x ∈ xs, Sh n k x) (hm : xs.length ≤ m) : Sh (m * n + 2 * m + 3) (k + 1) (.list xs) := by
  obtain ⟨i1, i2, i3, i4⟩ := sh_all h
  have := listText_len_le (PyData.shownAll xs)
  have e : xs.length * n ≤ m * n := Nat.mul_le_mul_right _ hm
  refine ⟨by simpa [PyData.showable] using i1, ?_, ?_⟩
  · simp only [PyData.shown]
    omega
  · simp only [PyData.depth]
    omega
theorem Sh.mono {n k n' k' : Nat} {d : PyData} (h : Sh n k d) (hn : n ≤ n') (hk : k ≤ k') : Sh n' k' d := ⟨h.1, Nat.le_trans h.2.1 hn, Nat.le_trans h.2.2 hk⟩
theorem Sh.ok {n k : Nat} {d : PyData} (h : Sh n k d) (hn : n ≤ 100000) (hk : k ≤ 60) : okShow d = true := by
  have : (100000 : Nat) ≤ sizeLine := by rw [sizeLine_eq]; omega
  simp only [okShow, Bool.and_eq_true, decide_eq_true_eq]
  exact ⟨⟨h.1, by have := h.2.1; omega⟩, by have := h.2.2; omega⟩

/-! ### a value -/
def shb (d : PyData) : Bool := d.showable && decide (d.shown.length ≤ 40) && decide (d.depth ≤ 2)
theorem shb_sh {d : PyData} (h : shb d = true) : Sh 40 2 d := by
  simp only [shb, Bool.and_eq_true, decide_eq_true_eq] at h
  exact ⟨h.1.1, h.1.2, h.2⟩
theorem int_sh {r : Int} (h0 : 0 ≤ r) (h1 : r < 1000000000) : Sh 40 2 (.int r) := by
  refine ⟨?_, ?_, by simp [PyData.depth]⟩
  · simp only [PyData.showable, decide_eq_true_eq]
    have : r.natAbs < 2 ^ 30 := by omega
    by_cases z : r.natAbs = 0
    · rw [z]; decide
    · have := (Nat.log2_lt z).mpr this
      omega
  · have := PyProof.Rows.toString_length_le h0 (k := 10) (by decide) (by omega)
    simp only [PyData.shown]
    exact Nat.le_trans this (by decide)
theorem as_sh {r : Int} (h0 : 0 ≤ r) (h1 : r < 4) : Sh 40 2 (.str (strRep ("a" : Str) r)) := by
  have : r = 0 ∨ r = 1 ∨ r = 2 ∨ r = 3 := by omega
  rcases this with rfl | rfl | rfl | rfl <;> exact shb_sh (by decide +kernel)
def vals (r1 r2 : Int) : List PyData := [.none, .int r1, .str (strRep ("a" : Str) r2), .list [.int 1], .tuple [.int 1, .int 2], .bool true, .int 1, .int (-1)]
theorem t_value (a b : Int) (hb : PoolOk b) : ∃ v a' b', f__law_value [pT a b] = .ok (.d v) [some (pT a' b')] ∧ PoolOk b' ∧ Sh 40 2 v := by
  obtain ⟨r1, a1, b1, e1, l1, u1, h1⟩ := t_take a b 1000000000 hb (by decide) (by decide)
  obtain ⟨r2, a2, b2, e2, l2, u2, h2⟩ := t_take a1 b1 4 h1 (by decide) (by decide)
  obtain ⟨r3, a3, b3, e3, l3, u3, h3⟩ := t_take a2 b2 8 h2 (by decide) (by decide)
  have m : pMulS (.str ("a" : Str)) (.int r2) = some (.str (strRep ("a" : Str) r2)) := by
    show (if _ then _ else _) = _
    rw [if_pos]
    simp only [Bool.and_eq_true, decide_eq_true_eq]
    exact ⟨⟨l2, by omega⟩, by decide⟩
  have p1 : cPow 10 9 = true := by decide
  have hlim : lim = 100000 := rfl
  obtain ⟨k, rfl⟩ : ∃ k : Nat, r3 = k := ⟨r3.toNat, by omega⟩
  have hk : k < (vals r1 r2).length := by show k < 8; omega
  have hv : (vals r1 r2)[k]? = some (vals r1 r2)[k] := List.getElem?_eq_getElem hk
  have ix : pIx (.list (vals r1 r2)) (.int k) = some (vals r1 r2)[k] := atN _ _ hv
  refine ⟨(vals r1 r2)[k], a3, b3, ?_, h3, ?_⟩
  · have e4 : Ends (f__law_value [pT a b]) fun v ρ => v = .d (vals r1 r2)[k] ∧ ρ = [some (pT a3 b3)] := by
      refine ends_fn ?_
      refine ends_nx (ρ' := [some (pT a2 b2), some (.d (.list (vals r1 r2)))]) ?_ ?_
      · simp [dfn, mseq, sif, sret, sset, sdrop, sasg, dandV, dorV, dnotV, dand, dor, dnot, dval, dop, dcallb, dcons, dget, mret, mno, mbind, mopt, gIsi, isT, dbackT, restore, dchain, chainMid, chainRest, onD, pLe2, pLt, pGt, pGe, keepm, dlst, dtup, mkLst, mkTup, allD, short, dcall, dcallF, mset, dlate, dhas, dtake, e1, e2, m, pPow, pII, p1, vals, dneg, gNeg, hlim]
      · simp [dfn, mseq, sif, sret, sset, sdrop, sasg, dandV, dorV, dnotV, dand, dor, dnot, dval, dop, dcallb, dcons, dget, mret, mno, mbind, mopt, gIsi, isT, dbackT, restore, dchain, chainMid, chainRest, onD, pLe2, pLt, pGt, pGe, keepm, dlst, dtup, mkLst, mkTup, allD, short, dcall, dcallF, mset, dlate, dhas, dtake, e3, ix]
        exact ⟨rfl, rfl⟩
    obtain ⟨v, ρ, e, rfl, rfl⟩ := e4.get
    exact e
  · have all : ∀ v ∈ vals r1 r2, Sh 40 2 v := by
      intro v hm
      simp only [vals, List.mem_cons, List.not_mem_nil, or_false] at hm
      rcases hm with rfl | rfl | rfl | rfl | rfl | rfl | rfl | rfl
      · exact shb_sh (by decide +kernel)
      · exact int_sh l1 u1
      · exact as_sh l2 u2
      · exact shb_sh (by decide +kernel)
      · exact shb_sh (by decide +kernel)
      · exact shb_sh (by decide +kernel)
      · exact shb_sh (by decide +kernel)
      · exact shb_sh (by decide +kernel)
    exact all _ (List.getElem_mem hk)
end LW
end
section
set_option maxRecDepth 100000
set_option linter.all false
open PySem L2 DL
namespace LW
def excOf (w : Nat) (v1 v2 v3 : PyData) : T := match w with
  | 0 => .exc ("NoProgram" : Str) [(("number" : Str), v3), (("hand" : Str), v2), (("part" : Str), v1)]
  | 1 => .exc ("NoText" : Str) [(("row" : Str), v1)]
  | 2 => .exc ("NoGraph" : Str) [(("rule" : Str), v1)]
  | 3 => .exc ("NoNames" : Str) [(("which" : Str), v1)]
  | 4 => .exc ("NoPicks" : Str) []
  | 5 => .exc ("NoRow" : Str) []
  | 6 => .exc ("NoHand" : Str) [(("hand" : Str), v1)]
  | 7 => .exc ("NoNumber" : Str) [(("number" : Str), v1)]
  | 8 => .exc ("NoRun" : Str) [(("number" : Str), v1)]
  | 9 => .exc ("NoStep" : Str) [(("hand" : Str), v1)]
  | 10 => .exc ("NoName" : Str) [(("name" : Str), v1)]
  | 11 => .exc ("TooMany" : Str) [(("many" : Str), v1)]
  | _ => .exc ("Bare" : Str) []
def dueOf (w : Nat) (v1 v2 v3 : PyData) : List PyData := match w with
  | 0 => [v1, v2, v3]
  | 1 => [v1]
  | 2 => [v1]
  | 3 => [v1]
  | 4 => []
  | 5 => []
  | 6 => [v1]
  | 7 => [v1]
  | 8 => [v1]
  | 9 => [v1]
  | 10 => [v1]
  | 11 => [v1]
  | _ => []
def baseOf (w : Nat) : PyData := match w with
  | 0 => .list [.bool true, .bool false, .bool false, .bool false, .bool false, .bool false]
  | 1 => .list [.bool true, .bool false, .bool false, .bool false, .bool false, .bool false]
  | 2 => .list [.bool true, .bool false, .bool false, .bool false, .bool false, .bool false]
  | 3 => .list [.bool true, .bool false, .bool false, .bool false, .bool false, .bool false]
  | 4 => .list [.bool true, .bool false, .bool false, .bool false, .bool false, .bool false]
  | 5 => .list [.bool true, .bool false, .bool false, .bool false, .bool false, .bool false]
  | 6 => .list [.bool false, .bool true, .bool false, .bool true, .bool false, .bool false]
  | 7 => .list [.bool false, .bool true, .bool false, .bool true, .bool false, .bool false]
  | 8 => .list [.bool false, .bool true, .bool false, .bool true, .bool false, .bool false]
  | 9 => .list [.bool false, .bool false, .bool false, .bool true, .bool false, .bool false]
  | 10 => .list [.bool false, .bool false, .bool false, .bool true, .bool false, .bool false]
  | 11 => .list [.bool false, .bool false, .bool false, .bool false, .bool true, .bool false]
  | _ => .list [.bool false, .bool false, .bool false, .bool false, .bool false, .bool true]
def kindOf (w : Nat) : PyData := match w with
  | 0 => .list [.bool true, .bool false, .bool false, .bool false, .bool false, .bool false, .bool false, .bool false, .bool false, .bool false, .bool false, .bool false, .bool false]
  | 1 => .list [.bool false, .bool true, .bool false, .bool false, .bool false, .bool false, .bool false, .bool false, .bool false, .bool false, .bool false, .bool false, .bool false]
  | 2 => .list [.bool false, .bool false, .bool true, .bool false, .bool false, .bool false, .bool false, .bool false, .bool false, .bool false, .bool false, .bool false, .bool false]
  | 3 => .list [.bool false, .bool false, .bool false, .bool true, .bool false, .bool false, .bool false, .bool false, .bool false, .bool false, .bool false, .bool false, .bool false]
  | 4 => .list [.bool false, .bool false, .bool false, .bool false, .bool true, .bool false, .bool false, .bool false, .bool false, .bool false, .bool false, .bool false, .bool false]
  | 5 => .list [.bool false, .bool false, .bool false, .bool false, .bool false, .bool true, .bool false, .bool false, .bool false, .bool false, .bool false, .bool false, .bool false]
  | 6 => .list [.bool false, .bool false, .bool false, .bool false, .bool false, .bool false, .bool true, .bool false, .bool false, .bool false, .bool false, .bool false, .bool false]
  | 7 => .list [.bool false, .bool false, .bool false, .bool false, .bool false, .bool false, .bool false, .bool true, .bool false, .bool false, .bool false, .bool false, .bool false]
  | 8 => .list [.bool false, .bool false, .bool false, .bool false, .bool false, .bool false, .bool false, .bool false, .bool true, .bool false, .bool false, .bool false, .bool false]
  | 9 => .list [.bool false, .bool false, .bool false, .bool false, .bool false, .bool false, .bool false, .bool false, .bool false, .bool true, .bool false, .bool false, .bool false]
  | 10 => .list [.bool false, .bool false, .bool false, .bool false, .bool false, .bool false, .bool false, .bool false, .bool false, .bool false, .bool true, .bool false, .bool false]
  | 11 => .list [.bool false, .bool false, .bool false, .bool false, .bool false, .bool false, .bool false, .bool false, .bool false, .bool false, .bool false, .bool true, .bool false]
  | _ => .list [.bool false, .bool false, .bool false, .bool false, .bool false, .bool false, .bool false, .bool false, .bool false, .bool false, .bool false, .bool false, .bool true]
theorem lt13 {P : Nat → Prop} (h0 : P 0) (h1 : P 1) (h2 : P 2) (h3 : P 3) (h4 : P 4) (h5 : P 5) (h6 : P 6) (h7 : P 7) (h8 : P 8) (h9 : P 9) (h10 : P 10) (h11 : P 11) (h12 : P 12) : ∀ w, w < 13 → P w := by
  intro w hw
  have : w = 0 ∨ w = 1 ∨ w = 2 ∨ w = 3 ∨ w = 4 ∨ w = 5 ∨ w = 6 ∨ w = 7 ∨ w = 8 ∨ w = 9 ∨ w = 10 ∨ w = 11 ∨ w = 12 := by omega
  rcases this with rfl | rfl | rfl | rfl | rfl | rfl | rfl | rfl | rfl | rfl | rfl | rfl | rfl <;> assumption
section
variable (v1 v2 v3 : PyData)
theorem t_made_0 : f__law_made [.d (.int 0), .d v1, .d v2, .d v3] = .ok (excOf 0 v1 v2 v3) [some (.d (.int 0)), some (.d v1), some (.d v2), some (.d v3)] := by kernel_rfl
theorem t_made_1 : f__law_made [.d (.int 1), .d v1, .d v2, .d v3] = .ok (excOf 1 v1 v2 v3) [some (.d (.int 1)), some (.d v1), some (.d v2), some (.d v3)] := by kernel_rfl
theorem t_made_2 : f__law_made [.d (.int 2), .d v1, .d v2, .d v3] = .ok (excOf 2 v1 v2 v3) [some (.d (.int 2)), some (.d v1), some (.d v2), some (.d v3)] := by kernel_rfl
theorem t_made_3 : f__law_made [.d (.int 3), .d v1, .d v2, .d v3] = .ok (excOf 3 v1 v2 v3) [some (.d (.int 3)), some (.d v1), some (.d v2), some (.d v3)] := by kernel_rfl
theorem t_made_4 : f__law_made [.d (.int 4), .d v1, .d v2, .d v3] = .ok (excOf 4 v1 v2 v3) [some (.d (.int 4)), some (.d v1), some (.d v2), some (.d v3)] := by kernel_rfl
theorem t_made_5 : f__law_made [.d (.int 5), .d v1, .d v2, .d v3] = .ok (excOf 5 v1 v2 v3) [some (.d (.int 5)), some (.d v1), some (.d v2), some (.d v3)] := by kernel_rfl
theorem t_made_6 : f__law_made [.d (.int 6), .d v1, .d v2, .d v3] = .ok (excOf 6 v1 v2 v3) [some (.d (.int 6)), some (.d v1), some (.d v2), some (.d v3)] := by kernel_rfl
theorem t_made_7 : f__law_made [.d (.int 7), .d v1, .d v2, .d v3] = .ok (excOf 7 v1 v2 v3) [some (.d (.int 7)), some (.d v1), some (.d v2), some (.d v3)] := by kernel_rfl
theorem t_made_8 : f__law_made [.d (.int 8), .d v1, .d v2, .d v3] = .ok (excOf 8 v1 v2 v3) [some (.d (.int 8)), some (.d v1), some (.d v2), some (.d v3)] := by kernel_rfl
theorem t_made_9 : f__law_made [.d (.int 9), .d v1, .d v2, .d v3] = .ok (excOf 9 v1 v2 v3) [some (.d (.int 9)), some (.d v1), some (.d v2), some (.d v3)] := by kernel_rfl
theorem t_made_10 : f__law_made [.d (.int 10), .d v1, .d v2, .d v3] = .ok (excOf 10 v1 v2 v3) [some (.d (.int 10)), some (.d v1), some (.d v2), some (.d v3)] := by kernel_rfl
theorem t_made_11 : f__law_made [.d (.int 11), .d v1, .d v2, .d v3] = .ok (excOf 11 v1 v2 v3) [some (.d (.int 11)), some (.d v1), some (.d v2), some (.d v3)] := by kernel_rfl
theorem t_made_12 : f__law_made [.d (.int 12), .d v1, .d v2, .d v3] = .ok (excOf 12 v1 v2 v3) [some (.d (.int 12)), some (.d v1), some (.d v2), some (.d v3)] := by kernel_rfl
theorem t_fields_0 : f__law_fields [.d (.int 0), excOf 0 v1 v2 v3] = .ok (.d (.list (dueOf 0 v1 v2 v3))) [some (.d (.int 0)), some (excOf 0 v1 v2 v3)] := by kernel_rfl
theorem t_fields_1 : f__law_fields [.d (.int 1), excOf 1 v1 v2 v3] = .ok (.d (.list (dueOf 1 v1 v2 v3))) [some (.d (.int 1)), some (excOf 1 v1 v2 v3)] := by kernel_rfl
theorem t_fields_2 : f__law_fields [.d (.int 2), excOf 2 v1 v2 v3] = .ok (.d (.list (dueOf 2 v1 v2 v3))) [some (.d (.int 2)), some (excOf 2 v1 v2 v3)] := by kernel_rfl
theorem t_fields_3 : f__law_fields [.d (.int 3), excOf 3 v1 v2 v3] = .ok (.d (.list (dueOf 3 v1 v2 v3))) [some (.d (.int 3)), some (excOf 3 v1 v2 v3)] := by kernel_rfl
theorem t_fields_4 : f__law_fields [.d (.int 4), excOf 4 v1 v2 v3] = .ok (.d (.list (dueOf 4 v1 v2 v3))) [some (.d (.int 4)), some (excOf 4 v1 v2 v3)] := by kernel_rfl
theorem t_fields_5 : f__law_fields [.d (.int 5), excOf 5 v1 v2 v3] = .ok (.d (.list (dueOf 5 v1 v2 v3))) [some (.d (.int 5)), some (excOf 5 v1 v2 v3)] := by kernel_rfl
theorem t_fields_6 : f__law_fields [.d (.int 6), excOf 6 v1 v2 v3] = .ok (.d (.list (dueOf 6 v1 v2 v3))) [some (.d (.int 6)), some (excOf 6 v1 v2 v3)] := by kernel_rfl
theorem t_fields_7 : f__law_fields [.d (.int 7), excOf 7 v1 v2 v3] = .ok (.d (.list (dueOf 7 v1 v2 v3))) [some (.d (.int 7)), some (excOf 7 v1 v2 v3)] := by kernel_rfl
theorem t_fields_8 : f__law_fields [.d (.int 8), excOf 8 v1 v2 v3] = .ok (.d (.list (dueOf 8 v1 v2 v3))) [some (.d (.int 8)), some (excOf 8 v1 v2 v3)] := by kernel_rfl
theorem t_fields_9 : f__law_fields [.d (.int 9), excOf 9 v1 v2 v3] = .ok (.d (.list (dueOf 9 v1 v2 v3))) [some (.d (.int 9)), some (excOf 9 v1 v2 v3)] := by kernel_rfl
theorem t_fields_10 : f__law_fields [.d (.int 10), excOf 10 v1 v2 v3] = .ok (.d (.list (dueOf 10 v1 v2 v3))) [some (.d (.int 10)), some (excOf 10 v1 v2 v3)] := by kernel_rfl
theorem t_fields_11 : f__law_fields [.d (.int 11), excOf 11 v1 v2 v3] = .ok (.d (.list (dueOf 11 v1 v2 v3))) [some (.d (.int 11)), some (excOf 11 v1 v2 v3)] := by kernel_rfl
theorem t_fields_12 : f__law_fields [.d (.int 12), excOf 12 v1 v2 v3] = .ok (.d (.list (dueOf 12 v1 v2 v3))) [some (.d (.int 12)), some (excOf 12 v1 v2 v3)] := by kernel_rfl
theorem t_base_0 : f__law_base_kinds [excOf 0 v1 v2 v3] = .ok (.d (baseOf 0)) [some (excOf 0 v1 v2 v3)] := by kernel_rfl
theorem t_base_1 : f__law_base_kinds [excOf 1 v1 v2 v3] = .ok (.d (baseOf 1)) [some (excOf 1 v1 v2 v3)] := by kernel_rfl
theorem t_base_2 : f__law_base_kinds [excOf 2 v1 v2 v3] = .ok (.d (baseOf 2)) [some (excOf 2 v1 v2 v3)] := by kernel_rfl
theorem t_base_3 : f__law_base_kinds [excOf 3 v1 v2 v3] = .ok (.d (baseOf 3)) [some (excOf 3 v1 v2 v3)] := by kernel_rfl
theorem t_base_4 : f__law_base_kinds [excOf 4 v1 v2 v3] = .ok (.d (baseOf 4)) [some (excOf 4 v1 v2 v3)] := by kernel_rfl
theorem t_base_5 : f__law_base_kinds [excOf 5 v1 v2 v3] = .ok (.d (baseOf 5)) [some (excOf 5 v1 v2 v3)] := by kernel_rfl
theorem t_base_6 : f__law_base_kinds [excOf 6 v1 v2 v3] = .ok (.d (baseOf 6)) [some (excOf 6 v1 v2 v3)] := by kernel_rfl
theorem t_base_7 : f__law_base_kinds [excOf 7 v1 v2 v3] = .ok (.d (baseOf 7)) [some (excOf 7 v1 v2 v3)] := by kernel_rfl
theorem t_base_8 : f__law_base_kinds [excOf 8 v1 v2 v3] = .ok (.d (baseOf 8)) [some (excOf 8 v1 v2 v3)] := by kernel_rfl
theorem t_base_9 : f__law_base_kinds [excOf 9 v1 v2 v3] = .ok (.d (baseOf 9)) [some (excOf 9 v1 v2 v3)] := by kernel_rfl
theorem t_base_10 : f__law_base_kinds [excOf 10 v1 v2 v3] = .ok (.d (baseOf 10)) [some (excOf 10 v1 v2 v3)] := by kernel_rfl
theorem t_base_11 : f__law_base_kinds [excOf 11 v1 v2 v3] = .ok (.d (baseOf 11)) [some (excOf 11 v1 v2 v3)] := by kernel_rfl
theorem t_base_12 : f__law_base_kinds [excOf 12 v1 v2 v3] = .ok (.d (baseOf 12)) [some (excOf 12 v1 v2 v3)] := by kernel_rfl
theorem t_kinds_0 : f__law_kinds [excOf 0 v1 v2 v3] = .ok (.d (kindOf 0)) [some (excOf 0 v1 v2 v3)] := by kernel_rfl
theorem t_kinds_1 : f__law_kinds [excOf 1 v1 v2 v3] = .ok (.d (kindOf 1)) [some (excOf 1 v1 v2 v3)] := by kernel_rfl
theorem t_kinds_2 : f__law_kinds [excOf 2 v1 v2 v3] = .ok (.d (kindOf 2)) [some (excOf 2 v1 v2 v3)] := by kernel_rfl
theorem t_kinds_3 : f__law_kinds [excOf 3 v1 v2 v3] = .ok (.d (kindOf 3)) [some (excOf 3 v1 v2 v3)] := by kernel_rfl
theorem t_kinds_4 : f__law_kinds [excOf 4 v1 v2 v3] = .ok (.d (kindOf 4)) [some (excOf 4 v1 v2 v3)] := by kernel_rfl
theorem t_kinds_5 : f__law_kinds [excOf 5 v1 v2 v3] = .ok (.d (kindOf 5)) [some (excOf 5 v1 v2 v3)] := by kernel_rfl
theorem t_kinds_6 : f__law_kinds [excOf 6 v1 v2 v3] = .ok (.d (kindOf 6)) [some (excOf 6 v1 v2 v3)] := by kernel_rfl
theorem t_kinds_7 : f__law_kinds [excOf 7 v1 v2 v3] = .ok (.d (kindOf 7)) [some (excOf 7 v1 v2 v3)] := by kernel_rfl
theorem t_kinds_8 : f__law_kinds [excOf 8 v1 v2 v3] = .ok (.d (kindOf 8)) [some (excOf 8 v1 v2 v3)] := by kernel_rfl
theorem t_kinds_9 : f__law_kinds [excOf 9 v1 v2 v3] = .ok (.d (kindOf 9)) [some (excOf 9 v1 v2 v3)] := by kernel_rfl
theorem t_kinds_10 : f__law_kinds [excOf 10 v1 v2 v3] = .ok (.d (kindOf 10)) [some (excOf 10 v1 v2 v3)] := by kernel_rfl
theorem t_kinds_11 : f__law_kinds [excOf 11 v1 v2 v3] = .ok (.d (kindOf 11)) [some (excOf 11 v1 v2 v3)] := by kernel_rfl
theorem t_kinds_12 : f__law_kinds [excOf 12 v1 v2 v3] = .ok (.d (kindOf 12)) [some (excOf 12 v1 v2 v3)] := by kernel_rfl
theorem t_due_0 : f__law_due_kinds [.d (.int 0)] = .ok (.d (baseOf 0)) [some (.d (.int 0))] := by kernel_rfl
theorem t_due_1 : f__law_due_kinds [.d (.int 1)] = .ok (.d (baseOf 1)) [some (.d (.int 1))] := by kernel_rfl
theorem t_due_2 : f__law_due_kinds [.d (.int 2)] = .ok (.d (baseOf 2)) [some (.d (.int 2))] := by kernel_rfl
theorem t_due_3 : f__law_due_kinds [.d (.int 3)] = .ok (.d (baseOf 3)) [some (.d (.int 3))] := by kernel_rfl
theorem t_due_4 : f__law_due_kinds [.d (.int 4)] = .ok (.d (baseOf 4)) [some (.d (.int 4))] := by kernel_rfl
theorem t_due_5 : f__law_due_kinds [.d (.int 5)] = .ok (.d (baseOf 5)) [some (.d (.int 5))] := by kernel_rfl
theorem t_due_6 : f__law_due_kinds [.d (.int 6)] = .ok (.d (baseOf 6)) [some (.d (.int 6))] := by kernel_rfl
theorem t_due_7 : f__law_due_kinds [.d (.int 7)] = .ok (.d (baseOf 7)) [some (.d (.int 7))] := by kernel_rfl
theorem t_due_8 : f__law_due_kinds [.d (.int 8)] = .ok (.d (baseOf 8)) [some (.d (.int 8))] := by kernel_rfl
theorem t_due_9 : f__law_due_kinds [.d (.int 9)] = .ok (.d (baseOf 9)) [some (.d (.int 9))] := by kernel_rfl
theorem t_due_10 : f__law_due_kinds [.d (.int 10)] = .ok (.d (baseOf 10)) [some (.d (.int 10))] := by kernel_rfl
theorem t_due_11 : f__law_due_kinds [.d (.int 11)] = .ok (.d (baseOf 11)) [some (.d (.int 11))] := by kernel_rfl
theorem t_due_12 : f__law_due_kinds [.d (.int 12)] = .ok (.d (baseOf 12)) [some (.d (.int 12))] := by kernel_rfl
end
end LW
end
section
set_option maxRecDepth 100000
set_option linter.all false
open PySem L2 DL
namespace LW
theorem okEq_ss (a b : Str) : okEq (.str a) (.str b) = true := by simp [okEq, PyData.plain, PyData.depth]
theorem eqv_ss (a b : Str) : PyData.eqv (.str a) (.str b) = decide (a = b) := by
  show (a == b) = _
  by_cases h : a = b
  · subst h; simp
  · rw [decide_eq_false h]
    simpa using h
theorem show3 {xs : List PyData} (h : ∀ x ∈ xs, Sh 40 2 x) (hl : xs.length ≤ 3) : gRepr [.d (.list xs)] = some (.d (.str (PyData.shown (.list xs)))) := by
  have := (Sh.list h hl).ok (by omega) (by omega)
  simp [gRepr, this]
theorem ne_self (S : Str) : pNe (.str S) (.str S) = some (.bool false) := by
  unfold pNe
  rw [if_pos (okEq_ss S S), eqv_ss]
  simp
section
variable (v1 v2 v3 : PyData) (h1 : Sh 40 2 v1) (h2 : Sh 40 2 v2) (h3 : Sh 40 2 v3)
include h1 h2 h3
theorem t_right_0 : f__law_right [.d (.int 0), excOf 0 v1 v2 v3, .d (.list [v1, v2, v3])] = .ok (.d (.bool true)) [some (.d (.int 0)), some (excOf 0 v1 v2 v3), some (.d (.list [v1, v2, v3]))] := by
  have hf := t_fields_0 v1 v2 v3
  have hb := t_base_0 v1 v2 v3
  have hk := t_kinds_0 v1 v2 v3
  have hd := t_due_0
  have hm : ∀ x ∈ dueOf 0 v1 v2 v3, Sh 40 2 x := by
    intro x m
    simp only [dueOf, List.mem_cons, List.not_mem_nil, or_false] at m
    rcases m with rfl | rfl | rfl <;> assumption
  have hs := show3 hm (show 3 ≤ 3 by decide)
  have q1 : pNe (baseOf 0) (baseOf 0) = some (.bool false) := by kernel_rfl
  have q2 : pEq (kindOf 0) (kindOf 0) = some (.bool true) := by kernel_rfl
  have q3 := ne_self (PyData.shown (.list (dueOf 0 v1 v2 v3)))
  have hx : ∃ n fs, excOf 0 v1 v2 v3 = .exc n fs := ⟨_, _, rfl⟩
  generalize excOf 0 v1 v2 v3 = ex at *
  obtain ⟨xn, xf, rfl⟩ := hx
  have key : Ends (f__law_right [.d (.int 0), T.exc xn xf, .d (.list [v1, v2, v3])]) fun v ρ => v = .d (.bool true) ∧ ρ = [some (.d (.int 0)), some (T.exc xn xf), some (.d (.list [v1, v2, v3]))] := by
    refine ends_fn ?_
    refine ends_nx (ρ' := [some (.d (.int 0)), some (T.exc xn xf), some (.d (.list [v1, v2, v3])), some (.d (.list (dueOf 0 v1 v2 v3))), none]) (by kernel_rfl) ?_
    have hl : l__law_right_1 [some (.d (.int 0)), some (T.exc xn xf), some (.d (.list [v1, v2, v3])), some (.d (.list (dueOf 0 v1 v2 v3))), none] = .ok (.d (kindOf 0)) [some (.d (.int 0)), some (T.exc xn xf), some (.d (.list [v1, v2, v3])), some (.d (.list (dueOf 0 v1 v2 v3))), none] := by kernel_rfl
    generalize dueOf 0 v1 v2 v3 = due at *
    generalize baseOf 0 = bs at *
    generalize kindOf 0 = ks at *
    generalize PyData.shown (.list due) = S at *
    refine ends_nx (ρ' := [some (.d (.int 0)), some (T.exc xn xf), some (.d (.list [v1, v2, v3])), some (.d (.list due)), none]) (by simp [dfn, mseq, sif, sret, sset, sdrop, sasg, dandV, dorV, dnotV, dand, dor, dnot, dval, dop, dcallb, dcons, dget, mret, mno, mbind, mopt, gIsi, isT, dbackT, restore, dchain, chainMid, chainRest, onD, pLe2, pLt, pGt, pGe, keepm, dlst, dtup, mkLst, mkTup, allD, short, dcall, dcallF, mset, hf, hb, hd, hs, q1, q3]) ?_
    simp [dfn, mseq, sif, sret, sset, sdrop, sasg, dandV, dorV, dnotV, dand, dor, dnot, dval, dop, dcallb, dcons, dget, mret, mno, mbind, mopt, gIsi, isT, dbackT, restore, dchain, chainMid, chainRest, onD, pLe2, pLt, pGt, pGe, keepm, dlst, dtup, mkLst, mkTup, allD, short, dcall, dcallF, mset, hk, hl, q2]
    exact ⟨rfl, rfl⟩
  obtain ⟨v, ρ, e, rfl, rfl⟩ := key.get
  exact e
theorem t_right_1 : f__law_right [.d (.int 1), excOf 1 v1 v2 v3, .d (.list [v1, v2, v3])] = .ok (.d (.bool true)) [some (.d (.int 1)), some (excOf 1 v1 v2 v3), some (.d (.list [v1, v2, v3]))] := by
  have hf := t_fields_1 v1 v2 v3
  have hb := t_base_1 v1 v2 v3
  have hk := t_kinds_1 v1 v2 v3
  have hd := t_due_1
  have hm : ∀ x ∈ dueOf 1 v1 v2 v3, Sh 40 2 x := by
    intro x m
    simp only [dueOf, List.mem_cons, List.not_mem_nil, or_false] at m
    rw [m]; exact h1
  have hs := show3 hm (show 1 ≤ 3 by decide)
  have q1 : pNe (baseOf 1) (baseOf 1) = some (.bool false) := by kernel_rfl
  have q2 : pEq (kindOf 1) (kindOf 1) = some (.bool true) := by kernel_rfl
  have q3 := ne_self (PyData.shown (.list (dueOf 1 v1 v2 v3)))
  have hx : ∃ n fs, excOf 1 v1 v2 v3 = .exc n fs := ⟨_, _, rfl⟩
  generalize excOf 1 v1 v2 v3 = ex at *
  obtain ⟨xn, xf, rfl⟩ := hx
  have key : Ends (f__law_right [.d (.int 1), T.exc xn xf, .d (.list [v1, v2, v3])]) fun v ρ => v = .d (.bool true) ∧ ρ = [some (.d (.int 1)), some (T.exc xn xf), some (.d (.list [v1, v2, v3]))] := by
    refine ends_fn ?_
    refine ends_nx (ρ' := [some (.d (.int 1)), some (T.exc xn xf), some (.d (.list [v1, v2, v3])), some (.d (.list (dueOf 1 v1 v2 v3))), none]) (by kernel_rfl) ?_
    have hl : l__law_right_1 [some (.d (.int 1)), some (T.exc xn xf), some (.d (.list [v1, v2, v3])), some (.d (.list (dueOf 1 v1 v2 v3))), none] = .ok (.d (kindOf 1)) [some (.d (.int 1)), some (T.exc xn xf), some (.d (.list [v1, v2, v3])), some (.d (.list (dueOf 1 v1 v2 v3))), none] := by kernel_rfl
    generalize dueOf 1 v1 v2 v3 = due at *
    generalize baseOf 1 = bs at *
    generalize kindOf 1 = ks at *
    generalize PyData.shown (.list due) = S at *
    refine ends_nx (ρ' := [some (.d (.int 1)), some (T.exc xn xf), some (.d (.list [v1, v2, v3])), some (.d (.list due)), none]) (by simp [dfn, mseq, sif, sret, sset, sdrop, sasg, dandV, dorV, dnotV, dand, dor, dnot, dval, dop, dcallb, dcons, dget, mret, mno, mbind, mopt, gIsi, isT, dbackT, restore, dchain, chainMid, chainRest, onD, pLe2, pLt, pGt, pGe, keepm, dlst, dtup, mkLst, mkTup, allD, short, dcall, dcallF, mset, hf, hb, hd, hs, q1, q3]) ?_
    simp [dfn, mseq, sif, sret, sset, sdrop, sasg, dandV, dorV, dnotV, dand, dor, dnot, dval, dop, dcallb, dcons, dget, mret, mno, mbind, mopt, gIsi, isT, dbackT, restore, dchain, chainMid, chainRest, onD, pLe2, pLt, pGt, pGe, keepm, dlst, dtup, mkLst, mkTup, allD, short, dcall, dcallF, mset, hk, hl, q2]
    exact ⟨rfl, rfl⟩
  obtain ⟨v, ρ, e, rfl, rfl⟩ := key.get
  exact e
theorem t_right_2 : f__law_right [.d (.int 2), excOf 2 v1 v2 v3, .d (.list [v1, v2, v3])] = .ok (.d (.bool true)) [some (.d (.int 2)), some (excOf 2 v1 v2 v3), some (.d (.list [v1, v2, v3]))] := by
  have hf := t_fields_2 v1 v2 v3
  have hb := t_base_2 v1 v2 v3
  have hk := t_kinds_2 v1 v2 v3
  have hd := t_due_2
  have hm : ∀ x ∈ dueOf 2 v1 v2 v3, Sh 40 2 x := by
    intro x m
    simp only [dueOf, List.mem_cons, List.not_mem_nil, or_false] at m
    rw [m]; exact h1
  have hs := show3 hm (show 1 ≤ 3 by decide)
  have q1 : pNe (baseOf 2) (baseOf 2) = some (.bool false) := by kernel_rfl
  have q2 : pEq (kindOf 2) (kindOf 2) = some (.bool true) := by kernel_rfl
  have q3 := ne_self (PyData.shown (.list (dueOf 2 v1 v2 v3)))
  have hx : ∃ n fs, excOf 2 v1 v2 v3 = .exc n fs := ⟨_, _, rfl⟩
  generalize excOf 2 v1 v2 v3 = ex at *
  obtain ⟨xn, xf, rfl⟩ := hx
  have key : Ends (f__law_right [.d (.int 2), T.exc xn xf, .d (.list [v1, v2, v3])]) fun v ρ => v = .d (.bool true) ∧ ρ = [some (.d (.int 2)), some (T.exc xn xf), some (.d (.list [v1, v2, v3]))] := by
    refine ends_fn ?_
    refine ends_nx (ρ' := [some (.d (.int 2)), some (T.exc xn xf), some (.d (.list [v1, v2, v3])), some (.d (.list (dueOf 2 v1 v2 v3))), none]) (by kernel_rfl) ?_
    have hl : l__law_right_1 [some (.d (.int 2)), some (T.exc xn xf), some (.d (.list [v1, v2, v3])), some (.d (.list (dueOf 2 v1 v2 v3))), none] = .ok (.d (kindOf 2)) [some (.d (.int 2)), some (T.exc xn xf), some (.d (.list [v1, v2, v3])), some (.d (.list (dueOf 2 v1 v2 v3))), none] := by kernel_rfl
    generalize dueOf 2 v1 v2 v3 = due at *
    generalize baseOf 2 = bs at *
    generalize kindOf 2 = ks at *
    generalize PyData.shown (.list due) = S at *
    refine ends_nx (ρ' := [some (.d (.int 2)), some (T.exc xn xf), some (.d (.list [v1, v2, v3])), some (.d (.list due)), none]) (by simp [dfn, mseq, sif, sret, sset, sdrop, sasg, dandV, dorV, dnotV, dand, dor, dnot, dval, dop, dcallb, dcons, dget, mret, mno, mbind, mopt, gIsi, isT, dbackT, restore, dchain, chainMid, chainRest, onD, pLe2, pLt, pGt, pGe, keepm, dlst, dtup, mkLst, mkTup, allD, short, dcall, dcallF, mset, hf, hb, hd, hs, q1, q3]) ?_
    simp [dfn, mseq, sif, sret, sset, sdrop, sasg, dandV, dorV, dnotV, dand, dor, dnot, dval, dop, dcallb, dcons, dget, mret, mno, mbind, mopt, gIsi, isT, dbackT, restore, dchain, chainMid, chainRest, onD, pLe2, pLt, pGt, pGe, keepm, dlst, dtup, mkLst, mkTup, allD, short, dcall, dcallF, mset, hk, hl, q2]
    exact ⟨rfl, rfl⟩
  obtain ⟨v, ρ, e, rfl, rfl⟩ := key.get
  exact e
theorem t_right_3 : f__law_right [.d (.int 3), excOf 3 v1 v2 v3, .d (.list [v1, v2, v3])] = .ok (.d (.bool true)) [some (.d (.int 3)), some (excOf 3 v1 v2 v3), some (.d (.list [v1, v2, v3]))] := by
  have hf := t_fields_3 v1 v2 v3
  have hb := t_base_3 v1 v2 v3
  have hk := t_kinds_3 v1 v2 v3
  have hd := t_due_3
  have hm : ∀ x ∈ dueOf 3 v1 v2 v3, Sh 40 2 x := by
    intro x m
    simp only [dueOf, List.mem_cons, List.not_mem_nil, or_false] at m
    rw [m]; exact h1
  have hs := show3 hm (show 1 ≤ 3 by decide)
  have q1 : pNe (baseOf 3) (baseOf 3) = some (.bool false) := by kernel_rfl
  have q2 : pEq (kindOf 3) (kindOf 3) = some (.bool true) := by kernel_rfl
  have q3 := ne_self (PyData.shown (.list (dueOf 3 v1 v2 v3)))
  have hx : ∃ n fs, excOf 3 v1 v2 v3 = .exc n fs := ⟨_, _, rfl⟩
  generalize excOf 3 v1 v2 v3 = ex at *
  obtain ⟨xn, xf, rfl⟩ := hx
  have key : Ends (f__law_right [.d (.int 3), T.exc xn xf, .d (.list [v1, v2, v3])]) fun v ρ => v = .d (.bool true) ∧ ρ = [some (.d (.int 3)), some (T.exc xn xf), some (.d (.list [v1, v2, v3]))] := by
    refine ends_fn ?_
    refine ends_nx (ρ' := [some (.d (.int 3)), some (T.exc xn xf), some (.d (.list [v1, v2, v3])), some (.d (.list (dueOf 3 v1 v2 v3))), none]) (by kernel_rfl) ?_
    have hl : l__law_right_1 [some (.d (.int 3)), some (T.exc xn xf), some (.d (.list [v1, v2, v3])), some (.d (.list (dueOf 3 v1 v2 v3))), none] = .ok (.d (kindOf 3)) [some (.d (.int 3)), some (T.exc xn xf), some (.d (.list [v1, v2, v3])), some (.d (.list (dueOf 3 v1 v2 v3))), none] := by kernel_rfl
    generalize dueOf 3 v1 v2 v3 = due at *
    generalize baseOf 3 = bs at *
    generalize kindOf 3 = ks at *
    generalize PyData.shown (.list due) = S at *
    refine ends_nx (ρ' := [some (.d (.int 3)), some (T.exc xn xf), some (.d (.list [v1, v2, v3])), some (.d (.list due)), none]) (by simp [dfn, mseq, sif, sret, sset, sdrop, sasg, dandV, dorV, dnotV, dand, dor, dnot, dval, dop, dcallb, dcons, dget, mret, mno, mbind, mopt, gIsi, isT, dbackT, restore, dchain, chainMid, chainRest, onD, pLe2, pLt, pGt, pGe, keepm, dlst, dtup, mkLst, mkTup, allD, short, dcall, dcallF, mset, hf, hb, hd, hs, q1, q3]) ?_
    simp [dfn, mseq, sif, sret, sset, sdrop, sasg, dandV, dorV, dnotV, dand, dor, dnot, dval, dop, dcallb, dcons, dget, mret, mno, mbind, mopt, gIsi, isT, dbackT, restore, dchain, chainMid, chainRest, onD, pLe2, pLt, pGt, pGe, keepm, dlst, dtup, mkLst, mkTup, allD, short, dcall, dcallF, mset, hk, hl, q2]
    exact ⟨rfl, rfl⟩
  obtain ⟨v, ρ, e, rfl, rfl⟩ := key.get
  exact e
theorem t_right_4 : f__law_right [.d (.int 4), excOf 4 v1 v2 v3, .d (.list [v1, v2, v3])] = .ok (.d (.bool true)) [some (.d (.int 4)), some (excOf 4 v1 v2 v3), some (.d (.list [v1, v2, v3]))] := by
  have hf := t_fields_4 v1 v2 v3
  have hb := t_base_4 v1 v2 v3
  have hk := t_kinds_4 v1 v2 v3
  have hd := t_due_4
  have hm : ∀ x ∈ dueOf 4 v1 v2 v3, Sh 40 2 x := fun x m => by cases m
  have hs := show3 hm (show 0 ≤ 3 by decide)
  have q1 : pNe (baseOf 4) (baseOf 4) = some (.bool false) := by kernel_rfl
  have q2 : pEq (kindOf 4) (kindOf 4) = some (.bool true) := by kernel_rfl
  have q3 := ne_self (PyData.shown (.list (dueOf 4 v1 v2 v3)))
  have hx : ∃ n fs, excOf 4 v1 v2 v3 = .exc n fs := ⟨_, _, rfl⟩
  generalize excOf 4 v1 v2 v3 = ex at *
  obtain ⟨xn, xf, rfl⟩ := hx
  have key : Ends (f__law_right [.d (.int 4), T.exc xn xf, .d (.list [v1, v2, v3])]) fun v ρ => v = .d (.bool true) ∧ ρ = [some (.d (.int 4)), some (T.exc xn xf), some (.d (.list [v1, v2, v3]))] := by
    refine ends_fn ?_
    refine ends_nx (ρ' := [some (.d (.int 4)), some (T.exc xn xf), some (.d (.list [v1, v2, v3])), some (.d (.list (dueOf 4 v1 v2 v3))), none]) (by kernel_rfl) ?_
    have hl : l__law_right_1 [some (.d (.int 4)), some (T.exc xn xf), some (.d (.list [v1, v2, v3])), some (.d (.list (dueOf 4 v1 v2 v3))), none] = .ok (.d (kindOf 4)) [some (.d (.int 4)), some (T.exc xn xf), some (.d (.list [v1, v2, v3])), some (.d (.list (dueOf 4 v1 v2 v3))), none] := by kernel_rfl
    generalize dueOf 4 v1 v2 v3 = due at *
    generalize baseOf 4 = bs at *
    generalize kindOf 4 = ks at *
    generalize PyData.shown (.list due) = S at *
    refine ends_nx (ρ' := [some (.d (.int 4)), some (T.exc xn xf), some (.d (.list [v1, v2, v3])), some (.d (.list due)), none]) (by simp [dfn, mseq, sif, sret, sset, sdrop, sasg, dandV, dorV, dnotV, dand, dor, dnot, dval, dop, dcallb, dcons, dget, mret, mno, mbind, mopt, gIsi, isT, dbackT, restore, dchain, chainMid, chainRest, onD, pLe2, pLt, pGt, pGe, keepm, dlst, dtup, mkLst, mkTup, allD, short, dcall, dcallF, mset, hf, hb, hd, hs, q1, q3]) ?_
    simp [dfn, mseq, sif, sret, sset, sdrop, sasg, dandV, dorV, dnotV, dand, dor, dnot, dval, dop, dcallb, dcons, dget, mret, mno, mbind, mopt, gIsi, isT, dbackT, restore, dchain, chainMid, chainRest, onD, pLe2, pLt, pGt, pGe, keepm, dlst, dtup, mkLst, mkTup, allD, short, dcall, dcallF, mset, hk, hl, q2]
    exact ⟨rfl, rfl⟩
  obtain ⟨v, ρ, e, rfl, rfl⟩ := key.get
  exact e
theorem t_right_5 : f__law_right [.d (.int 5), excOf 5 v1 v2 v3, .d (.list [v1, v2, v3])] = .ok (.d (.bool true)) [some (.d (.int 5)), some (excOf 5 v1 v2 v3), some (.d (.list [v1, v2, v3]))] := by
  have hf := t_fields_5 v1 v2 v3
  have hb := t_base_5 v1 v2 v3
  have hk := t_kinds_5 v1 v2 v3
  have hd := t_due_5
  have hm : ∀ x ∈ dueOf 5 v1 v2 v3, Sh 40 2 x := fun x m => by cases m
  have hs := show3 hm (show 0 ≤ 3 by decide)
  have q1 : pNe (baseOf 5) (baseOf 5) = some (.bool false) := by kernel_rfl
  have q2 : pEq (kindOf 5) (kindOf 5) = some (.bool true) := by kernel_rfl
  have q3 := ne_self (PyData.shown (.list (dueOf 5 v1 v2 v3)))
  have hx : ∃ n fs, excOf 5 v1 v2 v3 = .exc n fs := ⟨_, _, rfl⟩
  generalize excOf 5 v1 v2 v3 = ex at *
  obtain ⟨xn, xf, rfl⟩ := hx
  have key : Ends (f__law_right [.d (.int 5), T.exc xn xf, .d (.list [v1, v2, v3])]) fun v ρ => v = .d (.bool true) ∧ ρ = [some (.d (.int 5)), some (T.exc xn xf), some (.d (.list [v1, v2, v3]))] := by
    refine ends_fn ?_
    refine ends_nx (ρ' := [some (.d (.int 5)), some (T.exc xn xf), some (.d (.list [v1, v2, v3])), some (.d (.list (dueOf 5 v1 v2 v3))), none]) (by kernel_rfl) ?_
    have hl : l__law_right_1 [some (.d (.int 5)), some (T.exc xn xf), some (.d (.list [v1, v2, v3])), some (.d (.list (dueOf 5 v1 v2 v3))), none] = .ok (.d (kindOf 5)) [some (.d (.int 5)), some (T.exc xn xf), some (.d (.list [v1, v2, v3])), some (.d (.list (dueOf 5 v1 v2 v3))), none] := by kernel_rfl
    generalize dueOf 5 v1 v2 v3 = due at *
    generalize baseOf 5 = bs at *
    generalize kindOf 5 = ks at *
    generalize PyData.shown (.list due) = S at *
    refine ends_nx (ρ' := [some (.d (.int 5)), some (T.exc xn xf), some (.d (.list [v1, v2, v3])), some (.d (.list due)), none]) (by simp [dfn, mseq, sif, sret, sset, sdrop, sasg, dandV, dorV, dnotV, dand, dor, dnot, dval, dop, dcallb, dcons, dget, mret, mno, mbind, mopt, gIsi, isT, dbackT, restore, dchain, chainMid, chainRest, onD, pLe2, pLt, pGt, pGe, keepm, dlst, dtup, mkLst, mkTup, allD, short, dcall, dcallF, mset, hf, hb, hd, hs, q1, q3]) ?_
    simp [dfn, mseq, sif, sret, sset, sdrop, sasg, dandV, dorV, dnotV, dand, dor, dnot, dval, dop, dcallb, dcons, dget, mret, mno, mbind, mopt, gIsi, isT, dbackT, restore, dchain, chainMid, chainRest, onD, pLe2, pLt, pGt, pGe, keepm, dlst, dtup, mkLst, mkTup, allD, short, dcall, dcallF, mset, hk, hl, q2]
    exact ⟨rfl, rfl⟩
  obtain ⟨v, ρ, e, rfl, rfl⟩ := key.get
  exact e
theorem t_right_6 : f__law_right [.d (.int 6), excOf 6 v1 v2 v3, .d (.list [v1, v2, v3])] = .ok (.d (.bool true)) [some (.d (.int 6)), some (excOf 6 v1 v2 v3), some (.d (.list [v1, v2, v3]))] := by
  have hf := t_fields_6 v1 v2 v3
  have hb := t_base_6 v1 v2 v3
  have hk := t_kinds_6 v1 v2 v3
  have hd := t_due_6
  have hm : ∀ x ∈ dueOf 6 v1 v2 v3, Sh 40 2 x := by
    intro x m
    simp only [dueOf, List.mem_cons, List.not_mem_nil, or_false] at m
    rw [m]; exact h1
  have hs := show3 hm (show 1 ≤ 3 by decide)
  have q1 : pNe (baseOf 6) (baseOf 6) = some (.bool false) := by kernel_rfl
  have q2 : pEq (kindOf 6) (kindOf 6) = some (.bool true) := by kernel_rfl
  have q3 := ne_self (PyData.shown (.list (dueOf 6 v1 v2 v3)))
  have hx : ∃ n fs, excOf 6 v1 v2 v3 = .exc n fs := ⟨_, _, rfl⟩
  generalize excOf 6 v1 v2 v3 = ex at *
  obtain ⟨xn, xf, rfl⟩ := hx
  have key : Ends (f__law_right [.d (.int 6), T.exc xn xf, .d (.list [v1, v2, v3])]) fun v ρ => v = .d (.bool true) ∧ ρ = [some (.d (.int 6)), some (T.exc xn xf), some (.d (.list [v1, v2, v3]))] := by
    refine ends_fn ?_
    refine ends_nx (ρ' := [some (.d (.int 6)), some (T.exc xn xf), some (.d (.list [v1, v2, v3])), some (.d (.list (dueOf 6 v1 v2 v3))), none]) (by kernel_rfl) ?_
    have hl : l__law_right_1 [some (.d (.int 6)), some (T.exc xn xf), some (.d (.list [v1, v2, v3])), some (.d (.list (dueOf 6 v1 v2 v3))), none] = .ok (.d (kindOf 6)) [some (.d (.int 6)), some (T.exc xn xf), some (.d (.list [v1, v2, v3])), some (.d (.list (dueOf 6 v1 v2 v3))), none] := by kernel_rfl
    generalize dueOf 6 v1 v2 v3 = due at *
    generalize baseOf 6 = bs at *
    generalize kindOf 6 = ks at *
    generalize PyData.shown (.list due) = S at *
    refine ends_nx (ρ' := [some (.d (.int 6)), some (T.exc xn xf), some (.d (.list [v1, v2, v3])), some (.d (.list due)), none]) (by simp [dfn, mseq, sif, sret, sset, sdrop, sasg, dandV, dorV, dnotV, dand, dor, dnot, dval, dop, dcallb, dcons, dget, mret, mno, mbind, mopt, gIsi, isT, dbackT, restore, dchain, chainMid, chainRest, onD, pLe2, pLt, pGt, pGe, keepm, dlst, dtup, mkLst, mkTup, allD, short, dcall, dcallF, mset, hf, hb, hd, hs, q1, q3]) ?_
    simp [dfn, mseq, sif, sret, sset, sdrop, sasg, dandV, dorV, dnotV, dand, dor, dnot, dval, dop, dcallb, dcons, dget, mret, mno, mbind, mopt, gIsi, isT, dbackT, restore, dchain, chainMid, chainRest, onD, pLe2, pLt, pGt, pGe, keepm, dlst, dtup, mkLst, mkTup, allD, short, dcall, dcallF, mset, hk, hl, q2]
    exact ⟨rfl, rfl⟩
  obtain ⟨v, ρ, e, rfl, rfl⟩ := key.get
  exact e
theorem t_right_7 : f__law_right [.d (.int 7), excOf 7 v1 v2 v3, .d (.list [v1, v2, v3])] = .ok (.d (.bool true)) [some (.d (.int 7)), some (excOf 7 v1 v2 v3), some (.d (.list [v1, v2, v3]))] := by
  have hf := t_fields_7 v1 v2 v3
  have hb := t_base_7 v1 v2 v3
  have hk := t_kinds_7 v1 v2 v3
  have hd := t_due_7
  have hm : ∀ x ∈ dueOf 7 v1 v2 v3, Sh 40 2 x := by
    intro x m
    simp only [dueOf, List.mem_cons, List.not_mem_nil, or_false] at m
    rw [m]; exact h1
  have hs := show3 hm (show 1 ≤ 3 by decide)
  have q1 : pNe (baseOf 7) (baseOf 7) = some (.bool false) := by kernel_rfl
  have q2 : pEq (kindOf 7) (kindOf 7) = some (.bool true) := by kernel_rfl
  have q3 := ne_self (PyData.shown (.list (dueOf 7 v1 v2 v3)))
  have hx : ∃ n fs, excOf 7 v1 v2 v3 = .exc n fs := ⟨_, _, rfl⟩
  generalize excOf 7 v1 v2 v3 = ex at *
  obtain ⟨xn, xf, rfl⟩ := hx
  have key : Ends (f__law_right [.d (.int 7), T.exc xn xf, .d (.list [v1, v2, v3])]) fun v ρ => v = .d (.bool true) ∧ ρ = [some (.d (.int 7)), some (T.exc xn xf), some (.d (.list [v1, v2, v3]))] := by
    refine ends_fn ?_
    refine ends_nx (ρ' := [some (.d (.int 7)), some (T.exc xn xf), some (.d (.list [v1, v2, v3])), some (.d (.list (dueOf 7 v1 v2 v3))), none]) (by kernel_rfl) ?_
    have hl : l__law_right_1 [some (.d (.int 7)), some (T.exc xn xf), some (.d (.list [v1, v2, v3])), some (.d (.list (dueOf 7 v1 v2 v3))), none] = .ok (.d (kindOf 7)) [some (.d (.int 7)), some (T.exc xn xf), some (.d (.list [v1, v2, v3])), some (.d (.list (dueOf 7 v1 v2 v3))), none] := by kernel_rfl
    generalize dueOf 7 v1 v2 v3 = due at *
    generalize baseOf 7 = bs at *
    generalize kindOf 7 = ks at *
    generalize PyData.shown (.list due) = S at *
    refine ends_nx (ρ' := [some (.d (.int 7)), some (T.exc xn xf), some (.d (.list [v1, v2, v3])), some (.d (.list due)), none]) (by simp [dfn, mseq, sif, sret, sset, sdrop, sasg, dandV, dorV, dnotV, dand, dor, dnot, dval, dop, dcallb, dcons, dget, mret, mno, mbind, mopt, gIsi, isT, dbackT, restore, dchain, chainMid, chainRest, onD, pLe2, pLt, pGt, pGe, keepm, dlst, dtup, mkLst, mkTup, allD, short, dcall, dcallF, mset, hf, hb, hd, hs, q1, q3]) ?_
    simp [dfn, mseq, sif, sret, sset, sdrop, sasg, dandV, dorV, dnotV, dand, dor, dnot, dval, dop, dcallb, dcons, dget, mret, mno, mbind, mopt, gIsi, isT, dbackT, restore, dchain, chainMid, chainRest, onD, pLe2, pLt, pGt, pGe, keepm, dlst, dtup, mkLst, mkTup, allD, short, dcall, dcallF, mset, hk, hl, q2]
    exact ⟨rfl, rfl⟩
  obtain ⟨v, ρ, e, rfl, rfl⟩ := key.get
  exact e
theorem t_right_8 : f__law_right [.d (.int 8), excOf 8 v1 v2 v3, .d (.list [v1, v2, v3])] = .ok (.d (.bool true)) [some (.d (.int 8)), some (excOf 8 v1 v2 v3), some (.d (.list [v1, v2, v3]))] := by
  have hf := t_fields_8 v1 v2 v3
  have hb := t_base_8 v1 v2 v3
  have hk := t_kinds_8 v1 v2 v3
  have hd := t_due_8
  have hm : ∀ x ∈ dueOf 8 v1 v2 v3, Sh 40 2 x := by
    intro x m
    simp only [dueOf, List.mem_cons, List.not_mem_nil, or_false] at m
    rw [m]; exact h1
  have hs := show3 hm (show 1 ≤ 3 by decide)
  have q1 : pNe (baseOf 8) (baseOf 8) = some (.bool false) := by kernel_rfl
  have q2 : pEq (kindOf 8) (kindOf 8) = some (.bool true) := by kernel_rfl
  have q3 := ne_self (PyData.shown (.list (dueOf 8 v1 v2 v3)))
  have hx : ∃ n fs, excOf 8 v1 v2 v3 = .exc n fs := ⟨_, _, rfl⟩
  generalize excOf 8 v1 v2 v3 = ex at *
  obtain ⟨xn, xf, rfl⟩ := hx
  have key : Ends (f__law_right [.d (.int 8), T.exc xn xf, .d (.list [v1, v2, v3])]) fun v ρ => v = .d (.bool true) ∧ ρ = [some (.d (.int 8)), some (T.exc xn xf), some (.d (.list [v1, v2, v3]))] := by
    refine ends_fn ?_
    refine ends_nx (ρ' := [some (.d (.int 8)), some (T.exc xn xf), some (.d (.list [v1, v2, v3])), some (.d (.list (dueOf 8 v1 v2 v3))), none]) (by kernel_rfl) ?_
    have hl : l__law_right_1 [some (.d (.int 8)), some (T.exc xn xf), some (.d (.list [v1, v2, v3])), some (.d (.list (dueOf 8 v1 v2 v3))), none] = .ok (.d (kindOf 8)) [some (.d (.int 8)), some (T.exc xn xf), some (.d (.list [v1, v2, v3])), some (.d (.list (dueOf 8 v1 v2 v3))), none] := by kernel_rfl
    generalize dueOf 8 v1 v2 v3 = due at *
    generalize baseOf 8 = bs at *
    generalize kindOf 8 = ks at *
    generalize PyData.shown (.list due) = S at *
    refine ends_nx (ρ' := [some (.d (.int 8)), some (T.exc xn xf), some (.d (.list [v1, v2, v3])), some (.d (.list due)), none]) (by simp [dfn, mseq, sif, sret, sset, sdrop, sasg, dandV, dorV, dnotV, dand, dor, dnot, dval, dop, dcallb, dcons, dget, mret, mno, mbind, mopt, gIsi, isT, dbackT, restore, dchain, chainMid, chainRest, onD, pLe2, pLt, pGt, pGe, keepm, dlst, dtup, mkLst, mkTup, allD, short, dcall, dcallF, mset, hf, hb, hd, hs, q1, q3]) ?_
    simp [dfn, mseq, sif, sret, sset, sdrop, sasg, dandV, dorV, dnotV, dand, dor, dnot, dval, dop, dcallb, dcons, dget, mret, mno, mbind, mopt, gIsi, isT, dbackT, restore, dchain, chainMid, chainRest, onD, pLe2, pLt, pGt, pGe, keepm, dlst, dtup, mkLst, mkTup, allD, short, dcall, dcallF, mset, hk, hl, q2]
    exact ⟨rfl, rfl⟩
  obtain ⟨v, ρ, e, rfl, rfl⟩ := key.get
  exact e
theorem t_right_9 : f__law_right [.d (.int 9), excOf 9 v1 v2 v3, .d (.list [v1, v2, v3])] = .ok (.d (.bool true)) [some (.d (.int 9)), some (excOf 9 v1 v2 v3), some (.d (.list [v1, v2, v3]))] := by
  have hf := t_fields_9 v1 v2 v3
  have hb := t_base_9 v1 v2 v3
  have hk := t_kinds_9 v1 v2 v3
  have hd := t_due_9
  have hm : ∀ x ∈ dueOf 9 v1 v2 v3, Sh 40 2 x := by
    intro x m
    simp only [dueOf, List.mem_cons, List.not_mem_nil, or_false] at m
    rw [m]; exact h1
  have hs := show3 hm (show 1 ≤ 3 by decide)
  have q1 : pNe (baseOf 9) (baseOf 9) = some (.bool false) := by kernel_rfl
  have q2 : pEq (kindOf 9) (kindOf 9) = some (.bool true) := by kernel_rfl
  have q3 := ne_self (PyData.shown (.list (dueOf 9 v1 v2 v3)))
  have hx : ∃ n fs, excOf 9 v1 v2 v3 = .exc n fs := ⟨_, _, rfl⟩
  generalize excOf 9 v1 v2 v3 = ex at *
  obtain ⟨xn, xf, rfl⟩ := hx
  have key : Ends (f__law_right [.d (.int 9), T.exc xn xf, .d (.list [v1, v2, v3])]) fun v ρ => v = .d (.bool true) ∧ ρ = [some (.d (.int 9)), some (T.exc xn xf), some (.d (.list [v1, v2, v3]))] := by
    refine ends_fn ?_
    refine ends_nx (ρ' := [some (.d (.int 9)), some (T.exc xn xf), some (.d (.list [v1, v2, v3])), some (.d (.list (dueOf 9 v1 v2 v3))), none]) (by kernel_rfl) ?_
    have hl : l__law_right_1 [some (.d (.int 9)), some (T.exc xn xf), some (.d (.list [v1, v2, v3])), some (.d (.list (dueOf 9 v1 v2 v3))), none] = .ok (.d (kindOf 9)) [some (.d (.int 9)), some (T.exc xn xf), some (.d (.list [v1, v2, v3])), some (.d (.list (dueOf 9 v1 v2 v3))), none] := by kernel_rfl
    generalize dueOf 9 v1 v2 v3 = due at *
    generalize baseOf 9 = bs at *
    generalize kindOf 9 = ks at *
    generalize PyData.shown (.list due) = S at *
    refine ends_nx (ρ' := [some (.d (.int 9)), some (T.exc xn xf), some (.d (.list [v1, v2, v3])), some (.d (.list due)), none]) (by simp [dfn, mseq, sif, sret, sset, sdrop, sasg, dandV, dorV, dnotV, dand, dor, dnot, dval, dop, dcallb, dcons, dget, mret, mno, mbind, mopt, gIsi, isT, dbackT, restore, dchain, chainMid, chainRest, onD, pLe2, pLt, pGt, pGe, keepm, dlst, dtup, mkLst, mkTup, allD, short, dcall, dcallF, mset, hf, hb, hd, hs, q1, q3]) ?_
    simp [dfn, mseq, sif, sret, sset, sdrop, sasg, dandV, dorV, dnotV, dand, dor, dnot, dval, dop, dcallb, dcons, dget, mret, mno, mbind, mopt, gIsi, isT, dbackT, restore, dchain, chainMid, chainRest, onD, pLe2, pLt, pGt, pGe, keepm, dlst, dtup, mkLst, mkTup, allD, short, dcall, dcallF, mset, hk, hl, q2]
    exact ⟨rfl, rfl⟩
  obtain ⟨v, ρ, e, rfl, rfl⟩ := key.get
  exact e
theorem t_right_10 : f__law_right [.d (.int 10), excOf 10 v1 v2 v3, .d (.list [v1, v2, v3])] = .ok (.d (.bool true)) [some (.d (.int 10)), some (excOf 10 v1 v2 v3), some (.d (.list [v1, v2, v3]))] := by
  have hf := t_fields_10 v1 v2 v3
  have hb := t_base_10 v1 v2 v3
  have hk := t_kinds_10 v1 v2 v3
  have hd := t_due_10
  have hm : ∀ x ∈ dueOf 10 v1 v2 v3, Sh 40 2 x := by
    intro x m
    simp only [dueOf, List.mem_cons, List.not_mem_nil, or_false] at m
    rw [m]; exact h1
  have hs := show3 hm (show 1 ≤ 3 by decide)
  have q1 : pNe (baseOf 10) (baseOf 10) = some (.bool false) := by kernel_rfl
  have q2 : pEq (kindOf 10) (kindOf 10) = some (.bool true) := by kernel_rfl
  have q3 := ne_self (PyData.shown (.list (dueOf 10 v1 v2 v3)))
  have hx : ∃ n fs, excOf 10 v1 v2 v3 = .exc n fs := ⟨_, _, rfl⟩
  generalize excOf 10 v1 v2 v3 = ex at *
  obtain ⟨xn, xf, rfl⟩ := hx
  have key : Ends (f__law_right [.d (.int 10), T.exc xn xf, .d (.list [v1, v2, v3])]) fun v ρ => v = .d (.bool true) ∧ ρ = [some (.d (.int 10)), some (T.exc xn xf), some (.d (.list [v1, v2, v3]))] := by
    refine ends_fn ?_
    refine ends_nx (ρ' := [some (.d (.int 10)), some (T.exc xn xf), some (.d (.list [v1, v2, v3])), some (.d (.list (dueOf 10 v1 v2 v3))), none]) (by kernel_rfl) ?_
    have hl : l__law_right_1 [some (.d (.int 10)), some (T.exc xn xf), some (.d (.list [v1, v2, v3])), some (.d (.list (dueOf 10 v1 v2 v3))), none] = .ok (.d (kindOf 10)) [some (.d (.int 10)), some (T.exc xn xf), some (.d (.list [v1, v2, v3])), some (.d (.list (dueOf 10 v1 v2 v3))), none] := by kernel_rfl
    generalize dueOf 10 v1 v2 v3 = due at *
    generalize baseOf 10 = bs at *
    generalize kindOf 10 = ks at *
    generalize PyData.shown (.list due) = S at *
    refine ends_nx (ρ' := [some (.d (.int 10)), some (T.exc xn xf), some (.d (.list [v1, v2, v3])), some (.d (.list due)), none]) (by simp [dfn, mseq, sif, sret, sset, sdrop, sasg, dandV, dorV, dnotV, dand, dor, dnot, dval, dop, dcallb, dcons, dget, mret, mno, mbind, mopt, gIsi, isT, dbackT, restore, dchain, chainMid, chainRest, onD, pLe2, pLt, pGt, pGe, keepm, dlst, dtup, mkLst, mkTup, allD, short, dcall, dcallF, mset, hf, hb, hd, hs, q1, q3]) ?_
    simp [dfn, mseq, sif, sret, sset, sdrop, sasg, dandV, dorV, dnotV, dand, dor, dnot, dval, dop, dcallb, dcons, dget, mret, mno, mbind, mopt, gIsi, isT, dbackT, restore, dchain, chainMid, chainRest, onD, pLe2, pLt, pGt, pGe, keepm, dlst, dtup, mkLst, mkTup, allD, short, dcall, dcallF, mset, hk, hl, q2]
    exact ⟨rfl, rfl⟩
  obtain ⟨v, ρ, e, rfl, rfl⟩ := key.get
  exact e
theorem t_right_11 : f__law_right [.d (.int 11), excOf 11 v1 v2 v3, .d (.list [v1, v2, v3])] = .ok (.d (.bool true)) [some (.d (.int 11)), some (excOf 11 v1 v2 v3), some (.d (.list [v1, v2, v3]))] := by
  have hf := t_fields_11 v1 v2 v3
  have hb := t_base_11 v1 v2 v3
  have hk := t_kinds_11 v1 v2 v3
  have hd := t_due_11
  have hm : ∀ x ∈ dueOf 11 v1 v2 v3, Sh 40 2 x := by
    intro x m
    simp only [dueOf, List.mem_cons, List.not_mem_nil, or_false] at m
    rw [m]; exact h1
  have hs := show3 hm (show 1 ≤ 3 by decide)
  have q1 : pNe (baseOf 11) (baseOf 11) = some (.bool false) := by kernel_rfl
  have q2 : pEq (kindOf 11) (kindOf 11) = some (.bool true) := by kernel_rfl
  have q3 := ne_self (PyData.shown (.list (dueOf 11 v1 v2 v3)))
  have hx : ∃ n fs, excOf 11 v1 v2 v3 = .exc n fs := ⟨_, _, rfl⟩
  generalize excOf 11 v1 v2 v3 = ex at *
  obtain ⟨xn, xf, rfl⟩ := hx
  have key : Ends (f__law_right [.d (.int 11), T.exc xn xf, .d (.list [v1, v2, v3])]) fun v ρ => v = .d (.bool true) ∧ ρ = [some (.d (.int 11)), some (T.exc xn xf), some (.d (.list [v1, v2, v3]))] := by
    refine ends_fn ?_
    refine ends_nx (ρ' := [some (.d (.int 11)), some (T.exc xn xf), some (.d (.list [v1, v2, v3])), some (.d (.list (dueOf 11 v1 v2 v3))), none]) (by kernel_rfl) ?_
    have hl : l__law_right_1 [some (.d (.int 11)), some (T.exc xn xf), some (.d (.list [v1, v2, v3])), some (.d (.list (dueOf 11 v1 v2 v3))), none] = .ok (.d (kindOf 11)) [some (.d (.int 11)), some (T.exc xn xf), some (.d (.list [v1, v2, v3])), some (.d (.list (dueOf 11 v1 v2 v3))), none] := by kernel_rfl
    generalize dueOf 11 v1 v2 v3 = due at *
    generalize baseOf 11 = bs at *
    generalize kindOf 11 = ks at *
    generalize PyData.shown (.list due) = S at *
    refine ends_nx (ρ' := [some (.d (.int 11)), some (T.exc xn xf), some (.d (.list [v1, v2, v3])), some (.d (.list due)), none]) (by simp [dfn, mseq, sif, sret, sset, sdrop, sasg, dandV, dorV, dnotV, dand, dor, dnot, dval, dop, dcallb, dcons, dget, mret, mno, mbind, mopt, gIsi, isT, dbackT, restore, dchain, chainMid, chainRest, onD, pLe2, pLt, pGt, pGe, keepm, dlst, dtup, mkLst, mkTup, allD, short, dcall, dcallF, mset, hf, hb, hd, hs, q1, q3]) ?_
    simp [dfn, mseq, sif, sret, sset, sdrop, sasg, dandV, dorV, dnotV, dand, dor, dnot, dval, dop, dcallb, dcons, dget, mret, mno, mbind, mopt, gIsi, isT, dbackT, restore, dchain, chainMid, chainRest, onD, pLe2, pLt, pGt, pGe, keepm, dlst, dtup, mkLst, mkTup, allD, short, dcall, dcallF, mset, hk, hl, q2]
    exact ⟨rfl, rfl⟩
  obtain ⟨v, ρ, e, rfl, rfl⟩ := key.get
  exact e
theorem t_right_12 : f__law_right [.d (.int 12), excOf 12 v1 v2 v3, .d (.list [v1, v2, v3])] = .ok (.d (.bool true)) [some (.d (.int 12)), some (excOf 12 v1 v2 v3), some (.d (.list [v1, v2, v3]))] := by
  have hf := t_fields_12 v1 v2 v3
  have hb := t_base_12 v1 v2 v3
  have hk := t_kinds_12 v1 v2 v3
  have hd := t_due_12
  have hm : ∀ x ∈ dueOf 12 v1 v2 v3, Sh 40 2 x := fun x m => by cases m
  have hs := show3 hm (show 0 ≤ 3 by decide)
  have q1 : pNe (baseOf 12) (baseOf 12) = some (.bool false) := by kernel_rfl
  have q2 : pEq (kindOf 12) (kindOf 12) = some (.bool true) := by kernel_rfl
  have q3 := ne_self (PyData.shown (.list (dueOf 12 v1 v2 v3)))
  have hx : ∃ n fs, excOf 12 v1 v2 v3 = .exc n fs := ⟨_, _, rfl⟩
  generalize excOf 12 v1 v2 v3 = ex at *
  obtain ⟨xn, xf, rfl⟩ := hx
  have key : Ends (f__law_right [.d (.int 12), T.exc xn xf, .d (.list [v1, v2, v3])]) fun v ρ => v = .d (.bool true) ∧ ρ = [some (.d (.int 12)), some (T.exc xn xf), some (.d (.list [v1, v2, v3]))] := by
    refine ends_fn ?_
    refine ends_nx (ρ' := [some (.d (.int 12)), some (T.exc xn xf), some (.d (.list [v1, v2, v3])), some (.d (.list (dueOf 12 v1 v2 v3))), none]) (by kernel_rfl) ?_
    have hl : l__law_right_1 [some (.d (.int 12)), some (T.exc xn xf), some (.d (.list [v1, v2, v3])), some (.d (.list (dueOf 12 v1 v2 v3))), none] = .ok (.d (kindOf 12)) [some (.d (.int 12)), some (T.exc xn xf), some (.d (.list [v1, v2, v3])), some (.d (.list (dueOf 12 v1 v2 v3))), none] := by kernel_rfl
    generalize dueOf 12 v1 v2 v3 = due at *
    generalize baseOf 12 = bs at *
    generalize kindOf 12 = ks at *
    generalize PyData.shown (.list due) = S at *
    refine ends_nx (ρ' := [some (.d (.int 12)), some (T.exc xn xf), some (.d (.list [v1, v2, v3])), some (.d (.list due)), none]) (by simp [dfn, mseq, sif, sret, sset, sdrop, sasg, dandV, dorV, dnotV, dand, dor, dnot, dval, dop, dcallb, dcons, dget, mret, mno, mbind, mopt, gIsi, isT, dbackT, restore, dchain, chainMid, chainRest, onD, pLe2, pLt, pGt, pGe, keepm, dlst, dtup, mkLst, mkTup, allD, short, dcall, dcallF, mset, hf, hb, hd, hs, q1, q3]) ?_
    simp [dfn, mseq, sif, sret, sset, sdrop, sasg, dandV, dorV, dnotV, dand, dor, dnot, dval, dop, dcallb, dcons, dget, mret, mno, mbind, mopt, gIsi, isT, dbackT, restore, dchain, chainMid, chainRest, onD, pLe2, pLt, pGt, pGe, keepm, dlst, dtup, mkLst, mkTup, allD, short, dcall, dcallF, mset, hk, hl, q2]
    exact ⟨rfl, rfl⟩
  obtain ⟨v, ρ, e, rfl, rfl⟩ := key.get
  exact e
end
theorem t_turn (w : Nat) (hw : w < 13) (v1 v2 v3 : PyData) (h1 : Sh 40 2 v1) (h2 : Sh 40 2 v2) (h3 : Sh 40 2 v3) (sc p o7 o8 : Option T) (o1 : Option T) :
    ∃ o7' o8' : Option T, y_law_1 [sc, o1, p, some (.d v1), some (.d v2), some (.d v3), some (.d (.int w)), o7, o8] = .ok .nx [sc, o1, p, some (.d v1), some (.d v2), some (.d v3), some (.d (.int w)), o7', o8'] := by
  have hlim : lim = 100000 := rfl
  have key : ∀ (e1 e2 : T) (w : PyData), (∃ n fs, e1 = .exc n fs) → (∃ n fs, e2 = .exc n fs) → f__law_made [.d w, .d v1, .d v2, .d v3] = .ok e1 [some (.d w), some (.d v1), some (.d v2), some (.d v3)] → f__law_made [.d w, .d v3, .d v1, .d v2] = .ok e2 [some (.d w), some (.d v3), some (.d v1), some (.d v2)] →
      f__law_right [.d w, e1, .d (.list [v1, v2, v3])] = .ok (.d (.bool true)) [some (.d w), some e1, some (.d (.list [v1, v2, v3]))] → f__law_right [.d w, e2, .d (.list [v3, v1, v2])] = .ok (.d (.bool true)) [some (.d w), some e2, some (.d (.list [v3, v1, v2]))] →
      ∃ o7' o8' : Option T, y_law_1 [sc, o1, p, some (.d v1), some (.d v2), some (.d v3), some (.d w), o7, o8] = .ok .nx [sc, o1, p, some (.d v1), some (.d v2), some (.d v3), some (.d w), o7', o8'] := by
    rintro e1 e2 w ⟨xn, xf, rfl⟩ ⟨yn, yf, rfl⟩ m1 m2 r1 r2
    exact ⟨some (.exc xn xf), some (.exc yn yf), by simp [y_law_1, dfn, mseq, sif, sret, sset, sdrop, sasg, dandV, dorV, dnotV, dand, dor, dnot, dval, dop, dcallb, dcons, dget, mret, mno, mbind, mopt, gIsi, isT, dbackT, restore, dchain, chainMid, chainRest, onD, pLe2, pLt, pGt, pGe, keepm, dlst, dtup, mkLst, mkTup, allD, short, dcall, dcallF, mset, hlim, m1, m2, r1, r2]⟩
  refine lt13 (P := fun w => ∃ o7' o8' : Option T, y_law_1 [sc, o1, p, some (.d v1), some (.d v2), some (.d v3), some (.d (.int w)), o7, o8] = .ok .nx [sc, o1, p, some (.d v1), some (.d v2), some (.d v3), some (.d (.int w)), o7', o8']) (key _ _ _ ⟨_, _, rfl⟩ ⟨_, _, rfl⟩ (t_made_0 v1 v2 v3) (t_made_0 v3 v1 v2) (t_right_0 v1 v2 v3 h1 h2 h3) (t_right_0 v3 v1 v2 h3 h1 h2)) (key _ _ _ ⟨_, _, rfl⟩ ⟨_, _, rfl⟩ (t_made_1 v1 v2 v3) (t_made_1 v3 v1 v2) (t_right_1 v1 v2 v3 h1 h2 h3) (t_right_1 v3 v1 v2 h3 h1 h2)) (key _ _ _ ⟨_, _, rfl⟩ ⟨_, _, rfl⟩ (t_made_2 v1 v2 v3) (t_made_2 v3 v1 v2) (t_right_2 v1 v2 v3 h1 h2 h3) (t_right_2 v3 v1 v2 h3 h1 h2)) (key _ _ _ ⟨_, _, rfl⟩ ⟨_, _, rfl⟩ (t_made_3 v1 v2 v3) (t_made_3 v3 v1 v2) (t_right_3 v1 v2 v3 h1 h2 h3) (t_right_3 v3 v1 v2 h3 h1 h2)) (key _ _ _ ⟨_, _, rfl⟩ ⟨_, _, rfl⟩ (t_made_4 v1 v2 v3) (t_made_4 v3 v1 v2) (t_right_4 v1 v2 v3 h1 h2 h3) (t_right_4 v3 v1 v2 h3 h1 h2)) (key _ _ _ ⟨_, _, rfl⟩ ⟨_, _, rfl⟩ (t_made_5 v1 v2 v3) (t_made_5 v3 v1 v2) (t_right_5 v1 v2 v3 h1 h2 h3) (t_right_5 v3 v1 v2 h3 h1 h2)) (key _ _ _ ⟨_, _, rfl⟩ ⟨_, _, rfl⟩ (t_made_6 v1 v2 v3) (t_made_6 v3 v1 v2) (t_right_6 v1 v2 v3 h1 h2 h3) (t_right_6 v3 v1 v2 h3 h1 h2)) (key _ _ _ ⟨_, _, rfl⟩ ⟨_, _, rfl⟩ (t_made_7 v1 v2 v3) (t_made_7 v3 v1 v2) (t_right_7 v1 v2 v3 h1 h2 h3) (t_right_7 v3 v1 v2 h3 h1 h2)) (key _ _ _ ⟨_, _, rfl⟩ ⟨_, _, rfl⟩ (t_made_8 v1 v2 v3) (t_made_8 v3 v1 v2) (t_right_8 v1 v2 v3 h1 h2 h3) (t_right_8 v3 v1 v2 h3 h1 h2)) (key _ _ _ ⟨_, _, rfl⟩ ⟨_, _, rfl⟩ (t_made_9 v1 v2 v3) (t_made_9 v3 v1 v2) (t_right_9 v1 v2 v3 h1 h2 h3) (t_right_9 v3 v1 v2 h3 h1 h2)) (key _ _ _ ⟨_, _, rfl⟩ ⟨_, _, rfl⟩ (t_made_10 v1 v2 v3) (t_made_10 v3 v1 v2) (t_right_10 v1 v2 v3 h1 h2 h3) (t_right_10 v3 v1 v2 h3 h1 h2)) (key _ _ _ ⟨_, _, rfl⟩ ⟨_, _, rfl⟩ (t_made_11 v1 v2 v3) (t_made_11 v3 v1 v2) (t_right_11 v1 v2 v3 h1 h2 h3) (t_right_11 v3 v1 v2 h3 h1 h2)) (key _ _ _ ⟨_, _, rfl⟩ ⟨_, _, rfl⟩ (t_made_12 v1 v2 v3) (t_made_12 v3 v1 v2) (t_right_12 v1 v2 v3 h1 h2 h3) (t_right_12 v3 v1 v2 h3 h1 h2)) w hw
theorem t_cell (ns : List Int) (hn : ns.length ≤ 1000) (k : Nat) (hk : k ≤ 1000) (o2 o3 o4 o5 o6 o7 o8 : Option T) :
    Ends (y_law_2 [some (.scr ns), some (.d (.int k)), o2, o3, o4, o5, o6, o7, o8]) fun fl ρ => fl = .nx ∧ ∃ o2 o3 o4 o5 o6 o7 o8 : Option T, ρ = [some (.scr ns), some (.d (.int k)), o2, o3, o4, o5, o6, o7, o8] := by
  obtain ⟨a, c, e0, p0⟩ := t_pool ns k hk hn
  obtain ⟨v1, a1, c1, e1, p1, s1⟩ := t_value a c p0
  obtain ⟨v2, a2, c2, e2, p2, s2⟩ := t_value a1 c1 p1
  obtain ⟨v3, a3, c3, e3, p3, s3⟩ := t_value a2 c2 p2
  refine ends_nx (ρ' := [some (.scr ns), some (.d (.int k)), some (pT a c), o3, o4, o5, o6, o7, o8]) (by simp [dfn, mseq, sif, sret, sset, sdrop, sasg, dandV, dorV, dnotV, dand, dor, dnot, dval, dop, dcallb, dcons, dget, mret, mno, mbind, mopt, gIsi, isT, dbackT, restore, dchain, chainMid, chainRest, onD, pLe2, pLt, pGt, pGe, keepm, dlst, dtup, mkLst, mkTup, allD, short, dcall, dcallF, mset, e0]) ?_
  refine ends_nx (ρ' := [some (.scr ns), some (.d (.int k)), some (pT a1 c1), some (.d v1), o4, o5, o6, o7, o8]) (by simp [dfn, mseq, sif, sret, sset, sdrop, sasg, dandV, dorV, dnotV, dand, dor, dnot, dval, dop, dcallb, dcons, dget, mret, mno, mbind, mopt, gIsi, isT, dbackT, restore, dchain, chainMid, chainRest, onD, pLe2, pLt, pGt, pGe, keepm, dlst, dtup, mkLst, mkTup, allD, short, dcall, dcallF, mset, dlate, dhas, dtake, e1]) ?_
  refine ends_nx (ρ' := [some (.scr ns), some (.d (.int k)), some (pT a2 c2), some (.d v1), some (.d v2), o5, o6, o7, o8]) (by simp [dfn, mseq, sif, sret, sset, sdrop, sasg, dandV, dorV, dnotV, dand, dor, dnot, dval, dop, dcallb, dcons, dget, mret, mno, mbind, mopt, gIsi, isT, dbackT, restore, dchain, chainMid, chainRest, onD, pLe2, pLt, pGt, pGe, keepm, dlst, dtup, mkLst, mkTup, allD, short, dcall, dcallF, mset, dlate, dhas, dtake, e2]) ?_
  refine ends_nx (ρ' := [some (.scr ns), some (.d (.int k)), some (pT a3 c3), some (.d v1), some (.d v2), some (.d v3), o6, o7, o8]) (by simp [dfn, mseq, sif, sret, sset, sdrop, sasg, dandV, dorV, dnotV, dand, dor, dnot, dval, dop, dcallb, dcons, dget, mret, mno, mbind, mopt, gIsi, isT, dbackT, restore, dchain, chainMid, chainRest, onD, pLe2, pLt, pGt, pGe, keepm, dlst, dtup, mkLst, mkTup, allD, short, dcall, dcallF, mset, dlate, dhas, dtake, e3]) ?_
  refine ends_bind' (a := DL.intsFrom 0 13) (ρ' := [some (.scr ns), some (.d (.int k)), some (pT a3 c3), some (.d v1), some (.d v2), some (.d v3), o6, o7, o8]) (by kernel_rfl) ?_
  refine ends_for (fun ts ρ => (∃ o6 o7 o8 : Option T, ρ = [some (.scr ns), some (.d (.int k)), some (pT a3 c3), some (.d v1), some (.d v2), some (.d v3), o6, o7, o8]) ∧ ∀ t ∈ ts, ∃ w : Nat, w < 13 ∧ t = .d (.int w)) ⟨⟨_, _, _, rfl⟩, fun t m => ?_⟩ ?_ ?_
  · obtain ⟨d, hd, rfl⟩ := List.mem_map.mp m
    obtain ⟨i, hi, rfl⟩ := List.mem_map.mp hd
    have := List.mem_range.mp hi
    exact ⟨i, this, by rw [Int.zero_add]⟩
  · rintro ρ ⟨⟨o6, o7, o8, rfl⟩, _⟩
    exact ⟨rfl, _, _, _, _, _, _, _, rfl⟩
  · rintro t ts ρ ⟨⟨o6, o7, o8, rfl⟩, hk⟩
    obtain ⟨w, hw, rfl⟩ := hk t List.mem_cons_self
    obtain ⟨q7, q8, e⟩ := t_turn w hw v1 v2 v3 s1 s2 s3 (some (.scr ns)) (some (pT a3 c3)) o7 o8 (some (.d (.int k)))
    refine Ends.eq (a := ()) (ρ := [some (.scr ns), some (.d (.int k)), some (pT a3 c3), some (.d v1), some (.d v2), some (.d v3), some (.d (.int w)), o7, o8]) rfl (Ends.eq e ?_)
    exact ⟨⟨_, _, _, rfl⟩, fun t m => hk t (List.mem_cons_of_mem _ m)⟩
theorem good (ns : List Int) (hn : ns.length ≤ 63) (_ : ∀ z ∈ ns, PySem.Builtin.Int.intBits z ≤ 1048576) : DL.Good f_law ns := by
  have hlim : lim = 100000 := rfl
  refine Good.of (ends_fn (ends_seq ?_))
  have okR : ∀ i : Int, 0 ≤ i → i ≤ 1000 → okRange i = true := fun i h0 h1 => by
    simp only [okRange, Bool.and_eq_true, decide_eq_true_eq]
    omega
  obtain ⟨n, hn2, e⟩ : ∃ n : Nat, n ≤ 1000 ∧ drange (dcons (dcallb gMax2 [none, none] (dcons (mret (.d (.int 1))) (dcons (dcallb gMin2 [none, none] (dcons (dcallb gLen [none] (dcons (dget 0) (mret []))) (dcons (mret (.d (.int 20))) (mret [])))) (mret [])))) (mret [])) [some (.scr ns), none, none, none, none, none, none, none, none] = .ok (DL.intsFrom 0 n) [some (.scr ns), none, none, none, none, none, none, none, none] := by
    have key : ∀ m : Int, 0 ≤ m → m ≤ 1000 → ∃ n : Nat, n ≤ 1000 ∧ rangeItems [.d (.int m)] = some (DL.intsFrom 0 n) := fun m h0 h1 => ⟨m.toNat, by omega, by simp [rangeItems, okR m h0 h1]⟩
    obtain ⟨n, h1, h2⟩ := key (if (if (20 : Int) < ns.length then (20 : Int) else ns.length) > 1 then (if (20 : Int) < ns.length then (20 : Int) else ns.length) else 1) (by split <;> (try split) <;> omega) (by split <;> (try split) <;> omega)
    refine ⟨n, h1, ?_⟩
    simp only [drange, dfn, mseq, sif, sret, sset, sdrop, sasg, dandV, dorV, dnotV, dand, dor, dnot, dval, dop, dcallb, dcons, dget, mret, mno, mbind, mopt, gIsi, isT, dbackT, restore, dchain, chainMid, chainRest, onD, pLe2, pLt, pGt, pGe, keepm, dlst, dtup, mkLst, mkTup, allD, short, dcall, dcallF, mset, gLen, gMin2, gMax2, List.getElem?_cons_zero, List.getD_eq_getElem?_getD, h2]
    rfl
  refine ends_bind' e ?_
  refine ends_for (fun ts ρ => (∃ o1 o2 o3 o4 o5 o6 o7 o8 : Option T, ρ = [some (.scr ns), o1, o2, o3, o4, o5, o6, o7, o8]) ∧ ∀ t ∈ ts, ∃ k : Nat, k ≤ 1000 ∧ t = .d (.int k)) ⟨⟨_, _, _, _, _, _, _, _, rfl⟩, fun t m => ?_⟩ ?_ ?_
  · obtain ⟨d, hd, rfl⟩ := List.mem_map.mp m
    obtain ⟨i, hi, rfl⟩ := List.mem_map.mp hd
    have := List.mem_range.mp hi
    exact ⟨i, by omega, by rw [Int.zero_add]⟩
  · rintro ρ ⟨⟨o1, o2, o3, o4, o5, o6, o7, o8, rfl⟩, _⟩
    exact (rfl : T.d (.bool true) = T.d (.bool true))
  · rintro t ts ρ ⟨⟨o1, o2, o3, o4, o5, o6, o7, o8, rfl⟩, hk⟩
    obtain ⟨k, hk1, rfl⟩ := hk t List.mem_cons_self
    refine Ends.eq (a := ()) (ρ := [some (.scr ns), some (.d (.int k)), o2, o3, o4, o5, o6, o7, o8]) rfl ((t_cell ns (by omega) k hk1 o2 o3 o4 o5 o6 o7 o8).mono ?_)
    rintro fl ρ ⟨rfl, p2, p3, p4, p5, p6, p7, p8, rfl⟩
    exact ⟨⟨_, _, _, _, _, _, _, _, rfl⟩, fun t m => hk t (List.mem_cons_of_mem _ m)⟩
end LW
end
open PySem PySem.W PyProof.Rows
set_option maxRecDepth 100000 in
set_option maxHeartbeats 0 in
theorem PySem.Challenge.cw_readsfrom_k05_refusals_apart_holds : PySem.Challenge.rw_readsfrom_k05_refusals_apart.Holds := by
  w_on; o_law; k_head; (case hw => w_witness2)
  k_fill
  refine DL.walkG (l := PySem.Challenge.rw_readsfrom_k05_refusals_apart) (n := 63) (k := 4) (x := "_law_script") (g := LW.f_law) rfl (by decide) rfl ⟨rfl, by decide, by decide⟩ (fun w h Y => PySem.W.kIn_of Y) ?F LW.good
  case F =>
    intro w mg fa h KX G hmg
    refine' LW.all_mk KX G hmg ?F__law_made ?F__law_pool ?F__law_base_kinds ?F__law_due_kinds ?F__law_field ?F__law_fields ?F__law_kinds ?F__law_right ?F__law_take ?F__law_value ?F_law ?N_IndexError ?N_KeyError ?N_LookupError ?N_OverflowError ?N_RuntimeError ?N_ValueError ?N_int ?N_isinstance ?N_len ?N_max ?N_min ?N_range ?N_repr   ?BI_IndexError ?BI_LookupError ?BI_OverflowError ?BI_RuntimeError ?BI_ValueError ?Y_Bare ?Y_NoGraph ?Y_NoHand ?Y_NoName ?Y_NoNames ?Y_NoNumber ?Y_NoPicks ?Y_NoProgram ?Y_NoRow ?Y_NoRun ?Y_NoStep ?Y_NoText ?Y_TooMany ?CN_Bare ?CN_NoGraph ?CN_NoHand ?CN_NoName ?CN_NoNames ?CN_NoNumber ?CN_NoPicks ?CN_NoProgram ?CN_NoRow ?CN_NoRun ?CN_NoStep ?CN_NoText ?CN_TooMany ?XF_hand_NoHand ?XF_hand_NoProgram ?XF_hand_NoStep ?XF_many_TooMany ?XF_name_NoName ?XF_number_NoNumber ?XF_number_NoProgram ?XF_number_NoRun ?XF_part_NoProgram ?XF_row_NoText ?XF_rule_NoGraph ?XF_which_NoNames ?EN_Bare ?EN_NoGraph ?EN_NoHand ?EN_NoName ?EN_NoNames ?EN_NoNumber ?EN_NoPicks ?EN_NoProgram ?EN_NoRow ?EN_NoRun ?EN_NoStep ?EN_NoText ?EN_TooMany ?ISA_0 ?ISA_1 ?ISA_2 ?ISA_3 ?ISA_4 ?ISA_5 ?ISA_6 ?ISA_7 ?ISA_8 ?ISA_9 ?ISA_10 ?ISA_11 ?ISA_12 ?ISA_13 ?ISA_14 ?ISA_15 ?ISA_16 ?ISA_17 ?ISA_18 ?ISA_19 ?ISA_20 ?ISA_21 ?ISA_22 ?ISA_23 ?ISA_24 ?ISA_25 ?ISA_26 ?ISA_27 ?ISA_28 ?ISA_29 ?ISA_30 ?ISA_31 ?ISA_32 ?ISA_33 ?ISA_34 ?ISA_35 ?ISA_36 ?ISA_37 ?ISA_38 ?ISA_39 ?ISA_40 ?ISA_41 ?ISA_42 ?ISA_43 ?ISA_44 ?ISA_45 ?ISA_46 ?ISA_47 ?ISA_48 ?ISA_49 ?ISA_50 ?ISA_51 ?ISA_52 ?ISA_53 ?ISA_54 ?ISA_55 ?ISA_56 ?ISA_57 ?ISA_58 ?ISA_59 ?ISA_60 ?ISA_61 ?ISA_62 ?ISA_63 ?ISA_64 ?ISA_65 ?ISA_66 ?ISA_67 ?ISA_68 ?ISA_69 ?ISA_70 ?ISA_71 ?ISA_72 ?ISA_73 ?ISA_74 ?ISA_75 ?ISA_76 ?ISA_77 ?ISA_78 ?ISA_79 ?ISA_80 ?ISA_81 ?ISA_82 ?ISA_83 ?ISA_84 ?ISA_85 ?ISA_86 ?ISA_87 ?ISA_88 ?ISA_89 ?ISA_90 ?ISA_91 ?ISA_92 ?ISA_93 ?ISA_94 ?ISA_95 ?ISA_96 ?ISA_97 ?ISA_98 ?ISA_99 ?ISA_100 ?ISA_101 ?ISA_102 ?ISA_103 ?ISA_104 ?ISA_105 ?ISA_106 ?ISA_107 ?ISA_108 ?ISA_109 ?ISA_110 ?ISA_111 ?ISA_112 ?ISA_113 ?ISA_114 ?ISA_115 ?ISA_116 ?ISA_117 ?ISA_118 ?ISA_119 ?ISA_120 ?ISA_121 ?ISA_122 ?ISA_123 ?ISA_124 ?ISA_125 ?ISA_126 ?ISA_127 ?ISA_128 ?ISA_129 ?ISA_130 ?ISA_131 ?ISA_132 ?ISA_133 ?ISA_134 ?ISA_135 ?ISA_136 ?ISA_137 ?ISA_138 ?ISA_139 ?ISA_140 ?ISA_141 ?ISA_142 ?ISA_143 ?ISA_144 ?ISA_145 ?ISA_146 ?ISA_147 ?ISA_148 ?ISA_149 ?ISA_150 ?ISA_151 ?ISA_152 ?ISA_153 ?ISA_154 ?ISA_155 ?ISA_156 ?ISA_157 ?ISA_158 ?ISA_159 ?ISA_160 ?ISA_161 ?ISA_162 ?ISA_163 ?ISA_164 ?ISA_165 ?ISA_166 ?ISA_167 ?ISA_168 ?ISA_169 ?ISA_170 ?ISA_171 ?ISA_172 ?ISA_173 ?ISA_174 ?ISA_175 ?ISA_176 ?ISA_177 ?ISA_178 ?ISA_179 ?ISA_180 ?ISA_181 ?ISA_182 ?ISA_183 ?ISA_184 ?ISA_185 ?ISA_186 ?ISA_187 ?ISA_188 ?ISA_189 ?ISA_190 ?ISA_191 ?ISA_192 ?ISA_193 ?ISA_194 ?ISA_195 ?ISA_196 ?ISA_197 ?ISA_198 ?ISA_199 ?ISA_200 ?ISA_201 ?ISA_202 ?ISA_203 ?ISA_204 ?ISA_205 ?ISA_206 ?ISA_207 ?ISA_208 ?ISA_209 ?ISA_210 ?ISA_211 ?ISA_212 ?ISA_213 ?ISA_214 ?ISA_215 ?ISA_216 ?ISA_217 ?ISA_218 ?ISA_219 ?ISA_220 ?ISA_221 ?ISA_222 ?ISA_223 ?ISA_224 ?ISA_225 ?ISA_226 ?ISA_227 ?ISA_228 ?ISA_229 ?ISA_230 ?ISA_231 ?ISA_232 ?ISA_233 ?ISA_234 ?ISA_235 ?ISA_236 ?ISA_237 ?ISA_238 ?ISA_239 ?ISA_240 ?ISA_241 ?ISA_242 ?ISA_243 ?ISA_244 ?ISA_245 ?ISA_246
    case BI_IndexError => exact ⟨by k_is⟩
    case BI_LookupError => exact ⟨by k_is⟩
    case BI_OverflowError => exact ⟨by k_is⟩
    case BI_RuntimeError => exact ⟨by k_is⟩
    case BI_ValueError => exact ⟨by k_is⟩
    case Y_Bare => (refine' DL.HasE0.by_ PySem.F.excBase_RuntimeError PySem.F.store_RuntimeError ?a ?l ?hb ?sa ?ex ?ty ?kp ?hd ?i ?ti ?lf ?cf ?kf ?hno; (case a => k_is); (case l => k_is); (case hb => rfl); (case sa => k_is); (case ex => k_is); (case ty => k_is); (case kp => k_is); (case hd => k_is); (case i => k_is); (case ti => k_is); (case lf => k_is); (case cf => k_is); (case kf => k_is); (case hno => exact DL.mem_nil))
    case Y_NoGraph => (refine' DL.HasE0.by_ PySem.F.excBase_ValueError PySem.F.store_ValueError ?a ?l ?hb ?sa ?ex ?ty ?kp ?hd ?i ?ti ?lf ?cf ?kf ?hno; (case a => k_is); (case l => k_is); (case hb => rfl); (case sa => k_is); (case ex => k_is); (case ty => k_is); (case kp => k_is); (case hd => k_is); (case i => k_is); (case ti => k_is); (case lf => k_is); (case cf => k_is); (case kf => k_is); (case hno => exact (DL.mem_cons (by k_is) DL.mem_nil)))
    case Y_NoHand => (refine' DL.HasE0.by_ PySem.F.excBase_IndexError PySem.F.store_IndexError ?a ?l ?hb ?sa ?ex ?ty ?kp ?hd ?i ?ti ?lf ?cf ?kf ?hno; (case a => k_is); (case l => k_is); (case hb => rfl); (case sa => k_is); (case ex => k_is); (case ty => k_is); (case kp => k_is); (case hd => k_is); (case i => k_is); (case ti => k_is); (case lf => k_is); (case cf => k_is); (case kf => k_is); (case hno => exact (DL.mem_cons (by k_is) DL.mem_nil)))
    case Y_NoName => (refine' DL.HasE0.by_ PySem.F.excBase_LookupError PySem.F.store_LookupError ?a ?l ?hb ?sa ?ex ?ty ?kp ?hd ?i ?ti ?lf ?cf ?kf ?hno; (case a => k_is); (case l => k_is); (case hb => rfl); (case sa => k_is); (case ex => k_is); (case ty => k_is); (case kp => k_is); (case hd => k_is); (case i => k_is); (case ti => k_is); (case lf => k_is); (case cf => k_is); (case kf => k_is); (case hno => exact (DL.mem_cons (by k_is) DL.mem_nil)))
    case Y_NoNames => (refine' DL.HasE0.by_ PySem.F.excBase_ValueError PySem.F.store_ValueError ?a ?l ?hb ?sa ?ex ?ty ?kp ?hd ?i ?ti ?lf ?cf ?kf ?hno; (case a => k_is); (case l => k_is); (case hb => rfl); (case sa => k_is); (case ex => k_is); (case ty => k_is); (case kp => k_is); (case hd => k_is); (case i => k_is); (case ti => k_is); (case lf => k_is); (case cf => k_is); (case kf => k_is); (case hno => exact (DL.mem_cons (by k_is) DL.mem_nil)))
    case Y_NoNumber => (refine' DL.HasE0.by_ PySem.F.excBase_IndexError PySem.F.store_IndexError ?a ?l ?hb ?sa ?ex ?ty ?kp ?hd ?i ?ti ?lf ?cf ?kf ?hno; (case a => k_is); (case l => k_is); (case hb => rfl); (case sa => k_is); (case ex => k_is); (case ty => k_is); (case kp => k_is); (case hd => k_is); (case i => k_is); (case ti => k_is); (case lf => k_is); (case cf => k_is); (case kf => k_is); (case hno => exact (DL.mem_cons (by k_is) DL.mem_nil)))
    case Y_NoPicks => (refine' DL.HasE0.by_ PySem.F.excBase_ValueError PySem.F.store_ValueError ?a ?l ?hb ?sa ?ex ?ty ?kp ?hd ?i ?ti ?lf ?cf ?kf ?hno; (case a => k_is); (case l => k_is); (case hb => rfl); (case sa => k_is); (case ex => k_is); (case ty => k_is); (case kp => k_is); (case hd => k_is); (case i => k_is); (case ti => k_is); (case lf => k_is); (case cf => k_is); (case kf => k_is); (case hno => exact DL.mem_nil))
    case Y_NoProgram => (refine' DL.HasE0.by_ PySem.F.excBase_ValueError PySem.F.store_ValueError ?a ?l ?hb ?sa ?ex ?ty ?kp ?hd ?i ?ti ?lf ?cf ?kf ?hno; (case a => k_is); (case l => k_is); (case hb => rfl); (case sa => k_is); (case ex => k_is); (case ty => k_is); (case kp => k_is); (case hd => k_is); (case i => k_is); (case ti => k_is); (case lf => k_is); (case cf => k_is); (case kf => k_is); (case hno => exact (DL.mem_cons (by k_is) (DL.mem_cons (by k_is) (DL.mem_cons (by k_is) DL.mem_nil)))))
    case Y_NoRow => (refine' DL.HasE0.by_ PySem.F.excBase_ValueError PySem.F.store_ValueError ?a ?l ?hb ?sa ?ex ?ty ?kp ?hd ?i ?ti ?lf ?cf ?kf ?hno; (case a => k_is); (case l => k_is); (case hb => rfl); (case sa => k_is); (case ex => k_is); (case ty => k_is); (case kp => k_is); (case hd => k_is); (case i => k_is); (case ti => k_is); (case lf => k_is); (case cf => k_is); (case kf => k_is); (case hno => exact DL.mem_nil))
    case Y_NoRun => (refine' DL.HasE0.by_ PySem.F.excBase_IndexError PySem.F.store_IndexError ?a ?l ?hb ?sa ?ex ?ty ?kp ?hd ?i ?ti ?lf ?cf ?kf ?hno; (case a => k_is); (case l => k_is); (case hb => rfl); (case sa => k_is); (case ex => k_is); (case ty => k_is); (case kp => k_is); (case hd => k_is); (case i => k_is); (case ti => k_is); (case lf => k_is); (case cf => k_is); (case kf => k_is); (case hno => exact (DL.mem_cons (by k_is) DL.mem_nil)))
    case Y_NoStep => (refine' DL.HasE0.by_ PySem.F.excBase_LookupError PySem.F.store_LookupError ?a ?l ?hb ?sa ?ex ?ty ?kp ?hd ?i ?ti ?lf ?cf ?kf ?hno; (case a => k_is); (case l => k_is); (case hb => rfl); (case sa => k_is); (case ex => k_is); (case ty => k_is); (case kp => k_is); (case hd => k_is); (case i => k_is); (case ti => k_is); (case lf => k_is); (case cf => k_is); (case kf => k_is); (case hno => exact (DL.mem_cons (by k_is) DL.mem_nil)))
    case Y_NoText => (refine' DL.HasE0.by_ PySem.F.excBase_ValueError PySem.F.store_ValueError ?a ?l ?hb ?sa ?ex ?ty ?kp ?hd ?i ?ti ?lf ?cf ?kf ?hno; (case a => k_is); (case l => k_is); (case hb => rfl); (case sa => k_is); (case ex => k_is); (case ty => k_is); (case kp => k_is); (case hd => k_is); (case i => k_is); (case ti => k_is); (case lf => k_is); (case cf => k_is); (case kf => k_is); (case hno => exact (DL.mem_cons (by k_is) DL.mem_nil)))
    case Y_TooMany => (refine' DL.HasE0.by_ PySem.F.excBase_OverflowError PySem.F.store_OverflowError ?a ?l ?hb ?sa ?ex ?ty ?kp ?hd ?i ?ti ?lf ?cf ?kf ?hno; (case a => k_is); (case l => k_is); (case hb => rfl); (case sa => k_is); (case ex => k_is); (case ty => k_is); (case kp => k_is); (case hd => k_is); (case i => k_is); (case ti => k_is); (case lf => k_is); (case cf => k_is); (case kf => k_is); (case hno => exact (DL.mem_cons (by k_is) DL.mem_nil)))
    case CN_Bare => (refine' DL.HasCls.by_ ?a; (case a => k_is))
    case CN_NoGraph => (refine' DL.HasCls.by_ ?a; (case a => k_is))
    case CN_NoHand => (refine' DL.HasCls.by_ ?a; (case a => k_is))
    case CN_NoName => (refine' DL.HasCls.by_ ?a; (case a => k_is))
    case CN_NoNames => (refine' DL.HasCls.by_ ?a; (case a => k_is))
    case CN_NoNumber => (refine' DL.HasCls.by_ ?a; (case a => k_is))
    case CN_NoPicks => (refine' DL.HasCls.by_ ?a; (case a => k_is))
    case CN_NoProgram => (refine' DL.HasCls.by_ ?a; (case a => k_is))
    case CN_NoRow => (refine' DL.HasCls.by_ ?a; (case a => k_is))
    case CN_NoRun => (refine' DL.HasCls.by_ ?a; (case a => k_is))
    case CN_NoStep => (refine' DL.HasCls.by_ ?a; (case a => k_is))
    case CN_NoText => (refine' DL.HasCls.by_ ?a; (case a => k_is))
    case CN_TooMany => (refine' DL.HasCls.by_ ?a; (case a => k_is))
    case XF_hand_NoHand => (refine' DL.XfOne.by_ ?a ?b ?c ?d ?e ?y; (case a => k_is); (case b => k_is); (case c => k_is); (case d => k_is); (case e => k_is); (case y => k_is))
    case XF_hand_NoProgram => (refine' DL.XfOne.by_ ?a ?b ?c ?d ?e ?y; (case a => k_is); (case b => k_is); (case c => k_is); (case d => k_is); (case e => k_is); (case y => k_is))
    case XF_hand_NoStep => (refine' DL.XfOne.by_ ?a ?b ?c ?d ?e ?y; (case a => k_is); (case b => k_is); (case c => k_is); (case d => k_is); (case e => k_is); (case y => k_is))
    case XF_many_TooMany => (refine' DL.XfOne.by_ ?a ?b ?c ?d ?e ?y; (case a => k_is); (case b => k_is); (case c => k_is); (case d => k_is); (case e => k_is); (case y => k_is))
    case XF_name_NoName => (refine' DL.XfOne.by_ ?a ?b ?c ?d ?e ?y; (case a => k_is); (case b => k_is); (case c => k_is); (case d => k_is); (case e => k_is); (case y => k_is))
    case XF_number_NoNumber => (refine' DL.XfOne.by_ ?a ?b ?c ?d ?e ?y; (case a => k_is); (case b => k_is); (case c => k_is); (case d => k_is); (case e => k_is); (case y => k_is))
    case XF_number_NoProgram => (refine' DL.XfOne.by_ ?a ?b ?c ?d ?e ?y; (case a => k_is); (case b => k_is); (case c => k_is); (case d => k_is); (case e => k_is); (case y => k_is))
    case XF_number_NoRun => (refine' DL.XfOne.by_ ?a ?b ?c ?d ?e ?y; (case a => k_is); (case b => k_is); (case c => k_is); (case d => k_is); (case e => k_is); (case y => k_is))
    case XF_part_NoProgram => (refine' DL.XfOne.by_ ?a ?b ?c ?d ?e ?y; (case a => k_is); (case b => k_is); (case c => k_is); (case d => k_is); (case e => k_is); (case y => k_is))
    case XF_row_NoText => (refine' DL.XfOne.by_ ?a ?b ?c ?d ?e ?y; (case a => k_is); (case b => k_is); (case c => k_is); (case d => k_is); (case e => k_is); (case y => k_is))
    case XF_rule_NoGraph => (refine' DL.XfOne.by_ ?a ?b ?c ?d ?e ?y; (case a => k_is); (case b => k_is); (case c => k_is); (case d => k_is); (case e => k_is); (case y => k_is))
    case XF_which_NoNames => (refine' DL.XfOne.by_ ?a ?b ?c ?d ?e ?y; (case a => k_is); (case b => k_is); (case c => k_is); (case d => k_is); (case e => k_is); (case y => k_is))
    case EN_Bare => (refine' DL.ExcN.by_ ?a ?b ?c ?d ?e ?f ?g ?h ?i; (case a => k_is); (case b => k_is); (case c => k_is); (case d => k_is); (case e => k_is); (case f => k_is); (case g => k_is); (case h => k_is); (case i => k_is))
    case EN_NoGraph => (refine' DL.ExcN.by_ ?a ?b ?c ?d ?e ?f ?g ?h ?i; (case a => k_is); (case b => k_is); (case c => k_is); (case d => k_is); (case e => k_is); (case f => k_is); (case g => k_is); (case h => k_is); (case i => k_is))
    case EN_NoHand => (refine' DL.ExcN.by_ ?a ?b ?c ?d ?e ?f ?g ?h ?i; (case a => k_is); (case b => k_is); (case c => k_is); (case d => k_is); (case e => k_is); (case f => k_is); (case g => k_is); (case h => k_is); (case i => k_is))
    case EN_NoName => (refine' DL.ExcN.by_ ?a ?b ?c ?d ?e ?f ?g ?h ?i; (case a => k_is); (case b => k_is); (case c => k_is); (case d => k_is); (case e => k_is); (case f => k_is); (case g => k_is); (case h => k_is); (case i => k_is))
    case EN_NoNames => (refine' DL.ExcN.by_ ?a ?b ?c ?d ?e ?f ?g ?h ?i; (case a => k_is); (case b => k_is); (case c => k_is); (case d => k_is); (case e => k_is); (case f => k_is); (case g => k_is); (case h => k_is); (case i => k_is))
    case EN_NoNumber => (refine' DL.ExcN.by_ ?a ?b ?c ?d ?e ?f ?g ?h ?i; (case a => k_is); (case b => k_is); (case c => k_is); (case d => k_is); (case e => k_is); (case f => k_is); (case g => k_is); (case h => k_is); (case i => k_is))
    case EN_NoPicks => (refine' DL.ExcN.by_ ?a ?b ?c ?d ?e ?f ?g ?h ?i; (case a => k_is); (case b => k_is); (case c => k_is); (case d => k_is); (case e => k_is); (case f => k_is); (case g => k_is); (case h => k_is); (case i => k_is))
    case EN_NoProgram => (refine' DL.ExcN.by_ ?a ?b ?c ?d ?e ?f ?g ?h ?i; (case a => k_is); (case b => k_is); (case c => k_is); (case d => k_is); (case e => k_is); (case f => k_is); (case g => k_is); (case h => k_is); (case i => k_is))
    case EN_NoRow => (refine' DL.ExcN.by_ ?a ?b ?c ?d ?e ?f ?g ?h ?i; (case a => k_is); (case b => k_is); (case c => k_is); (case d => k_is); (case e => k_is); (case f => k_is); (case g => k_is); (case h => k_is); (case i => k_is))
    case EN_NoRun => (refine' DL.ExcN.by_ ?a ?b ?c ?d ?e ?f ?g ?h ?i; (case a => k_is); (case b => k_is); (case c => k_is); (case d => k_is); (case e => k_is); (case f => k_is); (case g => k_is); (case h => k_is); (case i => k_is))
    case EN_NoStep => (refine' DL.ExcN.by_ ?a ?b ?c ?d ?e ?f ?g ?h ?i; (case a => k_is); (case b => k_is); (case c => k_is); (case d => k_is); (case e => k_is); (case f => k_is); (case g => k_is); (case h => k_is); (case i => k_is))
    case EN_NoText => (refine' DL.ExcN.by_ ?a ?b ?c ?d ?e ?f ?g ?h ?i; (case a => k_is); (case b => k_is); (case c => k_is); (case d => k_is); (case e => k_is); (case f => k_is); (case g => k_is); (case h => k_is); (case i => k_is))
    case EN_TooMany => (refine' DL.ExcN.by_ ?a ?b ?c ?d ?e ?f ?g ?h ?i; (case a => k_is); (case b => k_is); (case c => k_is); (case d => k_is); (case e => k_is); (case f => k_is); (case g => k_is); (case h => k_is); (case i => k_is))
    case ISA_0 => (refine' DL.IsaK.ty ?a ?m ?k; (case a => k_is); (case m => decide +kernel); (case k => k_is))
    case ISA_1 => (refine' DL.IsaK.ty ?a ?m ?k; (case a => k_is); (case m => decide +kernel); (case k => k_is))
    case ISA_2 => (refine' DL.IsaK.ty ?a ?m ?k; (case a => k_is); (case m => decide +kernel); (case k => k_is))
    case ISA_3 => (refine' DL.IsaK.ty ?a ?m ?k; (case a => k_is); (case m => decide +kernel); (case k => k_is))
    case ISA_4 => (refine' DL.IsaK.ty ?a ?m ?k; (case a => k_is); (case m => decide +kernel); (case k => k_is))
    case ISA_5 => (refine' DL.IsaK.ty ?a ?m ?k; (case a => k_is); (case m => decide +kernel); (case k => k_is))
    case ISA_6 => (refine' DL.IsaK.cls ?a ?c ?d ?t ?k ?n; (case a => k_is); (case c => k_is); (case d => k_is); (case t => k_is); (case k => k_is); (case n => decide))
    case ISA_7 => (refine' DL.IsaK.cls ?a ?c ?d ?t ?k ?n; (case a => k_is); (case c => k_is); (case d => k_is); (case t => k_is); (case k => k_is); (case n => decide))
    case ISA_8 => (refine' DL.IsaK.cls ?a ?c ?d ?t ?k ?n; (case a => k_is); (case c => k_is); (case d => k_is); (case t => k_is); (case k => k_is); (case n => decide))
    case ISA_9 => (refine' DL.IsaK.cls ?a ?c ?d ?t ?k ?n; (case a => k_is); (case c => k_is); (case d => k_is); (case t => k_is); (case k => k_is); (case n => decide))
    case ISA_10 => (refine' DL.IsaK.cls ?a ?c ?d ?t ?k ?n; (case a => k_is); (case c => k_is); (case d => k_is); (case t => k_is); (case k => k_is); (case n => decide))
    case ISA_11 => (refine' DL.IsaK.cls ?a ?c ?d ?t ?k ?n; (case a => k_is); (case c => k_is); (case d => k_is); (case t => k_is); (case k => k_is); (case n => decide))
    case ISA_12 => (refine' DL.IsaK.cls ?a ?c ?d ?t ?k ?n; (case a => k_is); (case c => k_is); (case d => k_is); (case t => k_is); (case k => k_is); (case n => decide))
    case ISA_13 => (refine' DL.IsaK.cls ?a ?c ?d ?t ?k ?n; (case a => k_is); (case c => k_is); (case d => k_is); (case t => k_is); (case k => k_is); (case n => decide))
    case ISA_14 => (refine' DL.IsaK.cls ?a ?c ?d ?t ?k ?n; (case a => k_is); (case c => k_is); (case d => k_is); (case t => k_is); (case k => k_is); (case n => decide))
    case ISA_15 => (refine' DL.IsaK.cls ?a ?c ?d ?t ?k ?n; (case a => k_is); (case c => k_is); (case d => k_is); (case t => k_is); (case k => k_is); (case n => decide))
    case ISA_16 => (refine' DL.IsaK.cls ?a ?c ?d ?t ?k ?n; (case a => k_is); (case c => k_is); (case d => k_is); (case t => k_is); (case k => k_is); (case n => decide))
    case ISA_17 => (refine' DL.IsaK.cls ?a ?c ?d ?t ?k ?n; (case a => k_is); (case c => k_is); (case d => k_is); (case t => k_is); (case k => k_is); (case n => decide))
    case ISA_18 => (refine' DL.IsaK.same ?a; (case a => k_is))
    case ISA_19 => (refine' DL.IsaK.ty ?a ?m ?k; (case a => k_is); (case m => decide +kernel); (case k => k_is))
    case ISA_20 => (refine' DL.IsaK.ty ?a ?m ?k; (case a => k_is); (case m => decide +kernel); (case k => k_is))
    case ISA_21 => (refine' DL.IsaK.ty ?a ?m ?k; (case a => k_is); (case m => decide +kernel); (case k => k_is))
    case ISA_22 => (refine' DL.IsaK.ty ?a ?m ?k; (case a => k_is); (case m => decide +kernel); (case k => k_is))
    case ISA_23 => (refine' DL.IsaK.ty ?a ?m ?k; (case a => k_is); (case m => decide +kernel); (case k => k_is))
    case ISA_24 => (refine' DL.IsaK.ty ?a ?m ?k; (case a => k_is); (case m => decide +kernel); (case k => k_is))
    case ISA_25 => (refine' DL.IsaK.same ?a; (case a => k_is))
    case ISA_26 => (refine' DL.IsaK.cls ?a ?c ?d ?t ?k ?n; (case a => k_is); (case c => k_is); (case d => k_is); (case t => k_is); (case k => k_is); (case n => decide))
    case ISA_27 => (refine' DL.IsaK.cls ?a ?c ?d ?t ?k ?n; (case a => k_is); (case c => k_is); (case d => k_is); (case t => k_is); (case k => k_is); (case n => decide))
    case ISA_28 => (refine' DL.IsaK.cls ?a ?c ?d ?t ?k ?n; (case a => k_is); (case c => k_is); (case d => k_is); (case t => k_is); (case k => k_is); (case n => decide))
    case ISA_29 => (refine' DL.IsaK.cls ?a ?c ?d ?t ?k ?n; (case a => k_is); (case c => k_is); (case d => k_is); (case t => k_is); (case k => k_is); (case n => decide))
    case ISA_30 => (refine' DL.IsaK.cls ?a ?c ?d ?t ?k ?n; (case a => k_is); (case c => k_is); (case d => k_is); (case t => k_is); (case k => k_is); (case n => decide))
    case ISA_31 => (refine' DL.IsaK.cls ?a ?c ?d ?t ?k ?n; (case a => k_is); (case c => k_is); (case d => k_is); (case t => k_is); (case k => k_is); (case n => decide))
    case ISA_32 => (refine' DL.IsaK.cls ?a ?c ?d ?t ?k ?n; (case a => k_is); (case c => k_is); (case d => k_is); (case t => k_is); (case k => k_is); (case n => decide))
    case ISA_33 => (refine' DL.IsaK.cls ?a ?c ?d ?t ?k ?n; (case a => k_is); (case c => k_is); (case d => k_is); (case t => k_is); (case k => k_is); (case n => decide))
    case ISA_34 => (refine' DL.IsaK.cls ?a ?c ?d ?t ?k ?n; (case a => k_is); (case c => k_is); (case d => k_is); (case t => k_is); (case k => k_is); (case n => decide))
    case ISA_35 => (refine' DL.IsaK.cls ?a ?c ?d ?t ?k ?n; (case a => k_is); (case c => k_is); (case d => k_is); (case t => k_is); (case k => k_is); (case n => decide))
    case ISA_36 => (refine' DL.IsaK.cls ?a ?c ?d ?t ?k ?n; (case a => k_is); (case c => k_is); (case d => k_is); (case t => k_is); (case k => k_is); (case n => decide))
    case ISA_37 => (refine' DL.IsaK.cls ?a ?c ?d ?t ?k ?n; (case a => k_is); (case c => k_is); (case d => k_is); (case t => k_is); (case k => k_is); (case n => decide))
    case ISA_38 => (refine' DL.IsaK.ty ?a ?m ?k; (case a => k_is); (case m => decide +kernel); (case k => k_is))
    case ISA_39 => (refine' DL.IsaK.ty ?a ?m ?k; (case a => k_is); (case m => decide +kernel); (case k => k_is))
    case ISA_40 => (refine' DL.IsaK.ty ?a ?m ?k; (case a => k_is); (case m => decide +kernel); (case k => k_is))
    case ISA_41 => (refine' DL.IsaK.ty ?a ?m ?k; (case a => k_is); (case m => decide +kernel); (case k => k_is))
    case ISA_42 => (refine' DL.IsaK.ty ?a ?m ?k; (case a => k_is); (case m => decide +kernel); (case k => k_is))
    case ISA_43 => (refine' DL.IsaK.ty ?a ?m ?k; (case a => k_is); (case m => decide +kernel); (case k => k_is))
    case ISA_44 => (refine' DL.IsaK.cls ?a ?c ?d ?t ?k ?n; (case a => k_is); (case c => k_is); (case d => k_is); (case t => k_is); (case k => k_is); (case n => decide))
    case ISA_45 => (refine' DL.IsaK.cls ?a ?c ?d ?t ?k ?n; (case a => k_is); (case c => k_is); (case d => k_is); (case t => k_is); (case k => k_is); (case n => decide))
    case ISA_46 => (refine' DL.IsaK.cls ?a ?c ?d ?t ?k ?n; (case a => k_is); (case c => k_is); (case d => k_is); (case t => k_is); (case k => k_is); (case n => decide))
    case ISA_47 => (refine' DL.IsaK.cls ?a ?c ?d ?t ?k ?n; (case a => k_is); (case c => k_is); (case d => k_is); (case t => k_is); (case k => k_is); (case n => decide))
    case ISA_48 => (refine' DL.IsaK.cls ?a ?c ?d ?t ?k ?n; (case a => k_is); (case c => k_is); (case d => k_is); (case t => k_is); (case k => k_is); (case n => decide))
    case ISA_49 => (refine' DL.IsaK.cls ?a ?c ?d ?t ?k ?n; (case a => k_is); (case c => k_is); (case d => k_is); (case t => k_is); (case k => k_is); (case n => decide))
    case ISA_50 => (refine' DL.IsaK.cls ?a ?c ?d ?t ?k ?n; (case a => k_is); (case c => k_is); (case d => k_is); (case t => k_is); (case k => k_is); (case n => decide))
    case ISA_51 => (refine' DL.IsaK.cls ?a ?c ?d ?t ?k ?n; (case a => k_is); (case c => k_is); (case d => k_is); (case t => k_is); (case k => k_is); (case n => decide))
    case ISA_52 => (refine' DL.IsaK.same ?a; (case a => k_is))
    case ISA_53 => (refine' DL.IsaK.cls ?a ?c ?d ?t ?k ?n; (case a => k_is); (case c => k_is); (case d => k_is); (case t => k_is); (case k => k_is); (case n => decide))
    case ISA_54 => (refine' DL.IsaK.cls ?a ?c ?d ?t ?k ?n; (case a => k_is); (case c => k_is); (case d => k_is); (case t => k_is); (case k => k_is); (case n => decide))
    case ISA_55 => (refine' DL.IsaK.cls ?a ?c ?d ?t ?k ?n; (case a => k_is); (case c => k_is); (case d => k_is); (case t => k_is); (case k => k_is); (case n => decide))
    case ISA_56 => (refine' DL.IsaK.cls ?a ?c ?d ?t ?k ?n; (case a => k_is); (case c => k_is); (case d => k_is); (case t => k_is); (case k => k_is); (case n => decide))
    case ISA_57 => (refine' DL.IsaK.ty ?a ?m ?k; (case a => k_is); (case m => decide +kernel); (case k => k_is))
    case ISA_58 => (refine' DL.IsaK.ty ?a ?m ?k; (case a => k_is); (case m => decide +kernel); (case k => k_is))
    case ISA_59 => (refine' DL.IsaK.ty ?a ?m ?k; (case a => k_is); (case m => decide +kernel); (case k => k_is))
    case ISA_60 => (refine' DL.IsaK.ty ?a ?m ?k; (case a => k_is); (case m => decide +kernel); (case k => k_is))
    case ISA_61 => (refine' DL.IsaK.ty ?a ?m ?k; (case a => k_is); (case m => decide +kernel); (case k => k_is))
    case ISA_62 => (refine' DL.IsaK.ty ?a ?m ?k; (case a => k_is); (case m => decide +kernel); (case k => k_is))
    case ISA_63 => (refine' DL.IsaK.cls ?a ?c ?d ?t ?k ?n; (case a => k_is); (case c => k_is); (case d => k_is); (case t => k_is); (case k => k_is); (case n => decide))
    case ISA_64 => (refine' DL.IsaK.cls ?a ?c ?d ?t ?k ?n; (case a => k_is); (case c => k_is); (case d => k_is); (case t => k_is); (case k => k_is); (case n => decide))
    case ISA_65 => (refine' DL.IsaK.cls ?a ?c ?d ?t ?k ?n; (case a => k_is); (case c => k_is); (case d => k_is); (case t => k_is); (case k => k_is); (case n => decide))
    case ISA_66 => (refine' DL.IsaK.cls ?a ?c ?d ?t ?k ?n; (case a => k_is); (case c => k_is); (case d => k_is); (case t => k_is); (case k => k_is); (case n => decide))
    case ISA_67 => (refine' DL.IsaK.cls ?a ?c ?d ?t ?k ?n; (case a => k_is); (case c => k_is); (case d => k_is); (case t => k_is); (case k => k_is); (case n => decide))
    case ISA_68 => (refine' DL.IsaK.cls ?a ?c ?d ?t ?k ?n; (case a => k_is); (case c => k_is); (case d => k_is); (case t => k_is); (case k => k_is); (case n => decide))
    case ISA_69 => (refine' DL.IsaK.cls ?a ?c ?d ?t ?k ?n; (case a => k_is); (case c => k_is); (case d => k_is); (case t => k_is); (case k => k_is); (case n => decide))
    case ISA_70 => (refine' DL.IsaK.cls ?a ?c ?d ?t ?k ?n; (case a => k_is); (case c => k_is); (case d => k_is); (case t => k_is); (case k => k_is); (case n => decide))
    case ISA_71 => (refine' DL.IsaK.cls ?a ?c ?d ?t ?k ?n; (case a => k_is); (case c => k_is); (case d => k_is); (case t => k_is); (case k => k_is); (case n => decide))
    case ISA_72 => (refine' DL.IsaK.cls ?a ?c ?d ?t ?k ?n; (case a => k_is); (case c => k_is); (case d => k_is); (case t => k_is); (case k => k_is); (case n => decide))
    case ISA_73 => (refine' DL.IsaK.same ?a; (case a => k_is))
    case ISA_74 => (refine' DL.IsaK.cls ?a ?c ?d ?t ?k ?n; (case a => k_is); (case c => k_is); (case d => k_is); (case t => k_is); (case k => k_is); (case n => decide))
    case ISA_75 => (refine' DL.IsaK.cls ?a ?c ?d ?t ?k ?n; (case a => k_is); (case c => k_is); (case d => k_is); (case t => k_is); (case k => k_is); (case n => decide))
    case ISA_76 => (refine' DL.IsaK.ty ?a ?m ?k; (case a => k_is); (case m => decide +kernel); (case k => k_is))
    case ISA_77 => (refine' DL.IsaK.ty ?a ?m ?k; (case a => k_is); (case m => decide +kernel); (case k => k_is))
    case ISA_78 => (refine' DL.IsaK.ty ?a ?m ?k; (case a => k_is); (case m => decide +kernel); (case k => k_is))
    case ISA_79 => (refine' DL.IsaK.ty ?a ?m ?k; (case a => k_is); (case m => decide +kernel); (case k => k_is))
    case ISA_80 => (refine' DL.IsaK.ty ?a ?m ?k; (case a => k_is); (case m => decide +kernel); (case k => k_is))
    case ISA_81 => (refine' DL.IsaK.ty ?a ?m ?k; (case a => k_is); (case m => decide +kernel); (case k => k_is))
    case ISA_82 => (refine' DL.IsaK.cls ?a ?c ?d ?t ?k ?n; (case a => k_is); (case c => k_is); (case d => k_is); (case t => k_is); (case k => k_is); (case n => decide))
    case ISA_83 => (refine' DL.IsaK.cls ?a ?c ?d ?t ?k ?n; (case a => k_is); (case c => k_is); (case d => k_is); (case t => k_is); (case k => k_is); (case n => decide))
    case ISA_84 => (refine' DL.IsaK.cls ?a ?c ?d ?t ?k ?n; (case a => k_is); (case c => k_is); (case d => k_is); (case t => k_is); (case k => k_is); (case n => decide))
    case ISA_85 => (refine' DL.IsaK.cls ?a ?c ?d ?t ?k ?n; (case a => k_is); (case c => k_is); (case d => k_is); (case t => k_is); (case k => k_is); (case n => decide))
    case ISA_86 => (refine' DL.IsaK.cls ?a ?c ?d ?t ?k ?n; (case a => k_is); (case c => k_is); (case d => k_is); (case t => k_is); (case k => k_is); (case n => decide))
    case ISA_87 => (refine' DL.IsaK.same ?a; (case a => k_is))
    case ISA_88 => (refine' DL.IsaK.cls ?a ?c ?d ?t ?k ?n; (case a => k_is); (case c => k_is); (case d => k_is); (case t => k_is); (case k => k_is); (case n => decide))
    case ISA_89 => (refine' DL.IsaK.cls ?a ?c ?d ?t ?k ?n; (case a => k_is); (case c => k_is); (case d => k_is); (case t => k_is); (case k => k_is); (case n => decide))
    case ISA_90 => (refine' DL.IsaK.cls ?a ?c ?d ?t ?k ?n; (case a => k_is); (case c => k_is); (case d => k_is); (case t => k_is); (case k => k_is); (case n => decide))
    case ISA_91 => (refine' DL.IsaK.cls ?a ?c ?d ?t ?k ?n; (case a => k_is); (case c => k_is); (case d => k_is); (case t => k_is); (case k => k_is); (case n => decide))
    case ISA_92 => (refine' DL.IsaK.cls ?a ?c ?d ?t ?k ?n; (case a => k_is); (case c => k_is); (case d => k_is); (case t => k_is); (case k => k_is); (case n => decide))
    case ISA_93 => (refine' DL.IsaK.cls ?a ?c ?d ?t ?k ?n; (case a => k_is); (case c => k_is); (case d => k_is); (case t => k_is); (case k => k_is); (case n => decide))
    case ISA_94 => (refine' DL.IsaK.cls ?a ?c ?d ?t ?k ?n; (case a => k_is); (case c => k_is); (case d => k_is); (case t => k_is); (case k => k_is); (case n => decide))
    case ISA_95 => (refine' DL.IsaK.ty ?a ?m ?k; (case a => k_is); (case m => decide +kernel); (case k => k_is))
    case ISA_96 => (refine' DL.IsaK.ty ?a ?m ?k; (case a => k_is); (case m => decide +kernel); (case k => k_is))
    case ISA_97 => (refine' DL.IsaK.ty ?a ?m ?k; (case a => k_is); (case m => decide +kernel); (case k => k_is))
    case ISA_98 => (refine' DL.IsaK.ty ?a ?m ?k; (case a => k_is); (case m => decide +kernel); (case k => k_is))
    case ISA_99 => (refine' DL.IsaK.ty ?a ?m ?k; (case a => k_is); (case m => decide +kernel); (case k => k_is))
    case ISA_100 => (refine' DL.IsaK.ty ?a ?m ?k; (case a => k_is); (case m => decide +kernel); (case k => k_is))
    case ISA_101 => (refine' DL.IsaK.cls ?a ?c ?d ?t ?k ?n; (case a => k_is); (case c => k_is); (case d => k_is); (case t => k_is); (case k => k_is); (case n => decide))
    case ISA_102 => (refine' DL.IsaK.cls ?a ?c ?d ?t ?k ?n; (case a => k_is); (case c => k_is); (case d => k_is); (case t => k_is); (case k => k_is); (case n => decide))
    case ISA_103 => (refine' DL.IsaK.cls ?a ?c ?d ?t ?k ?n; (case a => k_is); (case c => k_is); (case d => k_is); (case t => k_is); (case k => k_is); (case n => decide))
    case ISA_104 => (refine' DL.IsaK.cls ?a ?c ?d ?t ?k ?n; (case a => k_is); (case c => k_is); (case d => k_is); (case t => k_is); (case k => k_is); (case n => decide))
    case ISA_105 => (refine' DL.IsaK.cls ?a ?c ?d ?t ?k ?n; (case a => k_is); (case c => k_is); (case d => k_is); (case t => k_is); (case k => k_is); (case n => decide))
    case ISA_106 => (refine' DL.IsaK.cls ?a ?c ?d ?t ?k ?n; (case a => k_is); (case c => k_is); (case d => k_is); (case t => k_is); (case k => k_is); (case n => decide))
    case ISA_107 => (refine' DL.IsaK.cls ?a ?c ?d ?t ?k ?n; (case a => k_is); (case c => k_is); (case d => k_is); (case t => k_is); (case k => k_is); (case n => decide))
    case ISA_108 => (refine' DL.IsaK.same ?a; (case a => k_is))
    case ISA_109 => (refine' DL.IsaK.cls ?a ?c ?d ?t ?k ?n; (case a => k_is); (case c => k_is); (case d => k_is); (case t => k_is); (case k => k_is); (case n => decide))
    case ISA_110 => (refine' DL.IsaK.cls ?a ?c ?d ?t ?k ?n; (case a => k_is); (case c => k_is); (case d => k_is); (case t => k_is); (case k => k_is); (case n => decide))
    case ISA_111 => (refine' DL.IsaK.cls ?a ?c ?d ?t ?k ?n; (case a => k_is); (case c => k_is); (case d => k_is); (case t => k_is); (case k => k_is); (case n => decide))
    case ISA_112 => (refine' DL.IsaK.cls ?a ?c ?d ?t ?k ?n; (case a => k_is); (case c => k_is); (case d => k_is); (case t => k_is); (case k => k_is); (case n => decide))
    case ISA_113 => (refine' DL.IsaK.cls ?a ?c ?d ?t ?k ?n; (case a => k_is); (case c => k_is); (case d => k_is); (case t => k_is); (case k => k_is); (case n => decide))
    case ISA_114 => (refine' DL.IsaK.ty ?a ?m ?k; (case a => k_is); (case m => decide +kernel); (case k => k_is))
    case ISA_115 => (refine' DL.IsaK.ty ?a ?m ?k; (case a => k_is); (case m => decide +kernel); (case k => k_is))
    case ISA_116 => (refine' DL.IsaK.ty ?a ?m ?k; (case a => k_is); (case m => decide +kernel); (case k => k_is))
    case ISA_117 => (refine' DL.IsaK.ty ?a ?m ?k; (case a => k_is); (case m => decide +kernel); (case k => k_is))
    case ISA_118 => (refine' DL.IsaK.ty ?a ?m ?k; (case a => k_is); (case m => decide +kernel); (case k => k_is))
    case ISA_119 => (refine' DL.IsaK.ty ?a ?m ?k; (case a => k_is); (case m => decide +kernel); (case k => k_is))
    case ISA_120 => (refine' DL.IsaK.cls ?a ?c ?d ?t ?k ?n; (case a => k_is); (case c => k_is); (case d => k_is); (case t => k_is); (case k => k_is); (case n => decide))
    case ISA_121 => (refine' DL.IsaK.cls ?a ?c ?d ?t ?k ?n; (case a => k_is); (case c => k_is); (case d => k_is); (case t => k_is); (case k => k_is); (case n => decide))
    case ISA_122 => (refine' DL.IsaK.cls ?a ?c ?d ?t ?k ?n; (case a => k_is); (case c => k_is); (case d => k_is); (case t => k_is); (case k => k_is); (case n => decide))
    case ISA_123 => (refine' DL.IsaK.cls ?a ?c ?d ?t ?k ?n; (case a => k_is); (case c => k_is); (case d => k_is); (case t => k_is); (case k => k_is); (case n => decide))
    case ISA_124 => (refine' DL.IsaK.same ?a; (case a => k_is))
    case ISA_125 => (refine' DL.IsaK.cls ?a ?c ?d ?t ?k ?n; (case a => k_is); (case c => k_is); (case d => k_is); (case t => k_is); (case k => k_is); (case n => decide))
    case ISA_126 => (refine' DL.IsaK.cls ?a ?c ?d ?t ?k ?n; (case a => k_is); (case c => k_is); (case d => k_is); (case t => k_is); (case k => k_is); (case n => decide))
    case ISA_127 => (refine' DL.IsaK.cls ?a ?c ?d ?t ?k ?n; (case a => k_is); (case c => k_is); (case d => k_is); (case t => k_is); (case k => k_is); (case n => decide))
    case ISA_128 => (refine' DL.IsaK.cls ?a ?c ?d ?t ?k ?n; (case a => k_is); (case c => k_is); (case d => k_is); (case t => k_is); (case k => k_is); (case n => decide))
    case ISA_129 => (refine' DL.IsaK.cls ?a ?c ?d ?t ?k ?n; (case a => k_is); (case c => k_is); (case d => k_is); (case t => k_is); (case k => k_is); (case n => decide))
    case ISA_130 => (refine' DL.IsaK.cls ?a ?c ?d ?t ?k ?n; (case a => k_is); (case c => k_is); (case d => k_is); (case t => k_is); (case k => k_is); (case n => decide))
    case ISA_131 => (refine' DL.IsaK.cls ?a ?c ?d ?t ?k ?n; (case a => k_is); (case c => k_is); (case d => k_is); (case t => k_is); (case k => k_is); (case n => decide))
    case ISA_132 => (refine' DL.IsaK.cls ?a ?c ?d ?t ?k ?n; (case a => k_is); (case c => k_is); (case d => k_is); (case t => k_is); (case k => k_is); (case n => decide))
    case ISA_133 => (refine' DL.IsaK.ty ?a ?m ?k; (case a => k_is); (case m => decide +kernel); (case k => k_is))
    case ISA_134 => (refine' DL.IsaK.ty ?a ?m ?k; (case a => k_is); (case m => decide +kernel); (case k => k_is))
    case ISA_135 => (refine' DL.IsaK.ty ?a ?m ?k; (case a => k_is); (case m => decide +kernel); (case k => k_is))
    case ISA_136 => (refine' DL.IsaK.ty ?a ?m ?k; (case a => k_is); (case m => decide +kernel); (case k => k_is))
    case ISA_137 => (refine' DL.IsaK.ty ?a ?m ?k; (case a => k_is); (case m => decide +kernel); (case k => k_is))
    case ISA_138 => (refine' DL.IsaK.ty ?a ?m ?k; (case a => k_is); (case m => decide +kernel); (case k => k_is))
    case ISA_139 => (refine' DL.IsaK.cls ?a ?c ?d ?t ?k ?n; (case a => k_is); (case c => k_is); (case d => k_is); (case t => k_is); (case k => k_is); (case n => decide))
    case ISA_140 => (refine' DL.IsaK.cls ?a ?c ?d ?t ?k ?n; (case a => k_is); (case c => k_is); (case d => k_is); (case t => k_is); (case k => k_is); (case n => decide))
    case ISA_141 => (refine' DL.IsaK.same ?a; (case a => k_is))
    case ISA_142 => (refine' DL.IsaK.cls ?a ?c ?d ?t ?k ?n; (case a => k_is); (case c => k_is); (case d => k_is); (case t => k_is); (case k => k_is); (case n => decide))
    case ISA_143 => (refine' DL.IsaK.cls ?a ?c ?d ?t ?k ?n; (case a => k_is); (case c => k_is); (case d => k_is); (case t => k_is); (case k => k_is); (case n => decide))
    case ISA_144 => (refine' DL.IsaK.cls ?a ?c ?d ?t ?k ?n; (case a => k_is); (case c => k_is); (case d => k_is); (case t => k_is); (case k => k_is); (case n => decide))
    case ISA_145 => (refine' DL.IsaK.cls ?a ?c ?d ?t ?k ?n; (case a => k_is); (case c => k_is); (case d => k_is); (case t => k_is); (case k => k_is); (case n => decide))
    case ISA_146 => (refine' DL.IsaK.cls ?a ?c ?d ?t ?k ?n; (case a => k_is); (case c => k_is); (case d => k_is); (case t => k_is); (case k => k_is); (case n => decide))
    case ISA_147 => (refine' DL.IsaK.cls ?a ?c ?d ?t ?k ?n; (case a => k_is); (case c => k_is); (case d => k_is); (case t => k_is); (case k => k_is); (case n => decide))
    case ISA_148 => (refine' DL.IsaK.cls ?a ?c ?d ?t ?k ?n; (case a => k_is); (case c => k_is); (case d => k_is); (case t => k_is); (case k => k_is); (case n => decide))
    case ISA_149 => (refine' DL.IsaK.cls ?a ?c ?d ?t ?k ?n; (case a => k_is); (case c => k_is); (case d => k_is); (case t => k_is); (case k => k_is); (case n => decide))
    case ISA_150 => (refine' DL.IsaK.cls ?a ?c ?d ?t ?k ?n; (case a => k_is); (case c => k_is); (case d => k_is); (case t => k_is); (case k => k_is); (case n => decide))
    case ISA_151 => (refine' DL.IsaK.cls ?a ?c ?d ?t ?k ?n; (case a => k_is); (case c => k_is); (case d => k_is); (case t => k_is); (case k => k_is); (case n => decide))
    case ISA_152 => (refine' DL.IsaK.ty ?a ?m ?k; (case a => k_is); (case m => decide +kernel); (case k => k_is))
    case ISA_153 => (refine' DL.IsaK.ty ?a ?m ?k; (case a => k_is); (case m => decide +kernel); (case k => k_is))
    case ISA_154 => (refine' DL.IsaK.ty ?a ?m ?k; (case a => k_is); (case m => decide +kernel); (case k => k_is))
    case ISA_155 => (refine' DL.IsaK.ty ?a ?m ?k; (case a => k_is); (case m => decide +kernel); (case k => k_is))
    case ISA_156 => (refine' DL.IsaK.ty ?a ?m ?k; (case a => k_is); (case m => decide +kernel); (case k => k_is))
    case ISA_157 => (refine' DL.IsaK.ty ?a ?m ?k; (case a => k_is); (case m => decide +kernel); (case k => k_is))
    case ISA_158 => (refine' DL.IsaK.cls ?a ?c ?d ?t ?k ?n; (case a => k_is); (case c => k_is); (case d => k_is); (case t => k_is); (case k => k_is); (case n => decide))
    case ISA_159 => (refine' DL.IsaK.cls ?a ?c ?d ?t ?k ?n; (case a => k_is); (case c => k_is); (case d => k_is); (case t => k_is); (case k => k_is); (case n => decide))
    case ISA_160 => (refine' DL.IsaK.cls ?a ?c ?d ?t ?k ?n; (case a => k_is); (case c => k_is); (case d => k_is); (case t => k_is); (case k => k_is); (case n => decide))
    case ISA_161 => (refine' DL.IsaK.same ?a; (case a => k_is))
    case ISA_162 => (refine' DL.IsaK.cls ?a ?c ?d ?t ?k ?n; (case a => k_is); (case c => k_is); (case d => k_is); (case t => k_is); (case k => k_is); (case n => decide))
    case ISA_163 => (refine' DL.IsaK.cls ?a ?c ?d ?t ?k ?n; (case a => k_is); (case c => k_is); (case d => k_is); (case t => k_is); (case k => k_is); (case n => decide))
    case ISA_164 => (refine' DL.IsaK.cls ?a ?c ?d ?t ?k ?n; (case a => k_is); (case c => k_is); (case d => k_is); (case t => k_is); (case k => k_is); (case n => decide))
    case ISA_165 => (refine' DL.IsaK.cls ?a ?c ?d ?t ?k ?n; (case a => k_is); (case c => k_is); (case d => k_is); (case t => k_is); (case k => k_is); (case n => decide))
    case ISA_166 => (refine' DL.IsaK.cls ?a ?c ?d ?t ?k ?n; (case a => k_is); (case c => k_is); (case d => k_is); (case t => k_is); (case k => k_is); (case n => decide))
    case ISA_167 => (refine' DL.IsaK.cls ?a ?c ?d ?t ?k ?n; (case a => k_is); (case c => k_is); (case d => k_is); (case t => k_is); (case k => k_is); (case n => decide))
    case ISA_168 => (refine' DL.IsaK.cls ?a ?c ?d ?t ?k ?n; (case a => k_is); (case c => k_is); (case d => k_is); (case t => k_is); (case k => k_is); (case n => decide))
    case ISA_169 => (refine' DL.IsaK.cls ?a ?c ?d ?t ?k ?n; (case a => k_is); (case c => k_is); (case d => k_is); (case t => k_is); (case k => k_is); (case n => decide))
    case ISA_170 => (refine' DL.IsaK.cls ?a ?c ?d ?t ?k ?n; (case a => k_is); (case c => k_is); (case d => k_is); (case t => k_is); (case k => k_is); (case n => decide))
    case ISA_171 => (refine' DL.IsaK.ty ?a ?m ?k; (case a => k_is); (case m => decide +kernel); (case k => k_is))
    case ISA_172 => (refine' DL.IsaK.ty ?a ?m ?k; (case a => k_is); (case m => decide +kernel); (case k => k_is))
    case ISA_173 => (refine' DL.IsaK.ty ?a ?m ?k; (case a => k_is); (case m => decide +kernel); (case k => k_is))
    case ISA_174 => (refine' DL.IsaK.ty ?a ?m ?k; (case a => k_is); (case m => decide +kernel); (case k => k_is))
    case ISA_175 => (refine' DL.IsaK.ty ?a ?m ?k; (case a => k_is); (case m => decide +kernel); (case k => k_is))
    case ISA_176 => (refine' DL.IsaK.ty ?a ?m ?k; (case a => k_is); (case m => decide +kernel); (case k => k_is))
    case ISA_177 => (refine' DL.IsaK.cls ?a ?c ?d ?t ?k ?n; (case a => k_is); (case c => k_is); (case d => k_is); (case t => k_is); (case k => k_is); (case n => decide))
    case ISA_178 => (refine' DL.IsaK.cls ?a ?c ?d ?t ?k ?n; (case a => k_is); (case c => k_is); (case d => k_is); (case t => k_is); (case k => k_is); (case n => decide))
    case ISA_179 => (refine' DL.IsaK.cls ?a ?c ?d ?t ?k ?n; (case a => k_is); (case c => k_is); (case d => k_is); (case t => k_is); (case k => k_is); (case n => decide))
    case ISA_180 => (refine' DL.IsaK.cls ?a ?c ?d ?t ?k ?n; (case a => k_is); (case c => k_is); (case d => k_is); (case t => k_is); (case k => k_is); (case n => decide))
    case ISA_181 => (refine' DL.IsaK.cls ?a ?c ?d ?t ?k ?n; (case a => k_is); (case c => k_is); (case d => k_is); (case t => k_is); (case k => k_is); (case n => decide))
    case ISA_182 => (refine' DL.IsaK.cls ?a ?c ?d ?t ?k ?n; (case a => k_is); (case c => k_is); (case d => k_is); (case t => k_is); (case k => k_is); (case n => decide))
    case ISA_183 => (refine' DL.IsaK.same ?a; (case a => k_is))
    case ISA_184 => (refine' DL.IsaK.cls ?a ?c ?d ?t ?k ?n; (case a => k_is); (case c => k_is); (case d => k_is); (case t => k_is); (case k => k_is); (case n => decide))
    case ISA_185 => (refine' DL.IsaK.cls ?a ?c ?d ?t ?k ?n; (case a => k_is); (case c => k_is); (case d => k_is); (case t => k_is); (case k => k_is); (case n => decide))
    case ISA_186 => (refine' DL.IsaK.cls ?a ?c ?d ?t ?k ?n; (case a => k_is); (case c => k_is); (case d => k_is); (case t => k_is); (case k => k_is); (case n => decide))
    case ISA_187 => (refine' DL.IsaK.cls ?a ?c ?d ?t ?k ?n; (case a => k_is); (case c => k_is); (case d => k_is); (case t => k_is); (case k => k_is); (case n => decide))
    case ISA_188 => (refine' DL.IsaK.cls ?a ?c ?d ?t ?k ?n; (case a => k_is); (case c => k_is); (case d => k_is); (case t => k_is); (case k => k_is); (case n => decide))
    case ISA_189 => (refine' DL.IsaK.cls ?a ?c ?d ?t ?k ?n; (case a => k_is); (case c => k_is); (case d => k_is); (case t => k_is); (case k => k_is); (case n => decide))
    case ISA_190 => (refine' DL.IsaK.ty ?a ?m ?k; (case a => k_is); (case m => decide +kernel); (case k => k_is))
    case ISA_191 => (refine' DL.IsaK.ty ?a ?m ?k; (case a => k_is); (case m => decide +kernel); (case k => k_is))
    case ISA_192 => (refine' DL.IsaK.ty ?a ?m ?k; (case a => k_is); (case m => decide +kernel); (case k => k_is))
    case ISA_193 => (refine' DL.IsaK.ty ?a ?m ?k; (case a => k_is); (case m => decide +kernel); (case k => k_is))
    case ISA_194 => (refine' DL.IsaK.ty ?a ?m ?k; (case a => k_is); (case m => decide +kernel); (case k => k_is))
    case ISA_195 => (refine' DL.IsaK.ty ?a ?m ?k; (case a => k_is); (case m => decide +kernel); (case k => k_is))
    case ISA_196 => (refine' DL.IsaK.cls ?a ?c ?d ?t ?k ?n; (case a => k_is); (case c => k_is); (case d => k_is); (case t => k_is); (case k => k_is); (case n => decide))
    case ISA_197 => (refine' DL.IsaK.cls ?a ?c ?d ?t ?k ?n; (case a => k_is); (case c => k_is); (case d => k_is); (case t => k_is); (case k => k_is); (case n => decide))
    case ISA_198 => (refine' DL.IsaK.cls ?a ?c ?d ?t ?k ?n; (case a => k_is); (case c => k_is); (case d => k_is); (case t => k_is); (case k => k_is); (case n => decide))
    case ISA_199 => (refine' DL.IsaK.cls ?a ?c ?d ?t ?k ?n; (case a => k_is); (case c => k_is); (case d => k_is); (case t => k_is); (case k => k_is); (case n => decide))
    case ISA_200 => (refine' DL.IsaK.cls ?a ?c ?d ?t ?k ?n; (case a => k_is); (case c => k_is); (case d => k_is); (case t => k_is); (case k => k_is); (case n => decide))
    case ISA_201 => (refine' DL.IsaK.cls ?a ?c ?d ?t ?k ?n; (case a => k_is); (case c => k_is); (case d => k_is); (case t => k_is); (case k => k_is); (case n => decide))
    case ISA_202 => (refine' DL.IsaK.cls ?a ?c ?d ?t ?k ?n; (case a => k_is); (case c => k_is); (case d => k_is); (case t => k_is); (case k => k_is); (case n => decide))
    case ISA_203 => (refine' DL.IsaK.cls ?a ?c ?d ?t ?k ?n; (case a => k_is); (case c => k_is); (case d => k_is); (case t => k_is); (case k => k_is); (case n => decide))
    case ISA_204 => (refine' DL.IsaK.cls ?a ?c ?d ?t ?k ?n; (case a => k_is); (case c => k_is); (case d => k_is); (case t => k_is); (case k => k_is); (case n => decide))
    case ISA_205 => (refine' DL.IsaK.cls ?a ?c ?d ?t ?k ?n; (case a => k_is); (case c => k_is); (case d => k_is); (case t => k_is); (case k => k_is); (case n => decide))
    case ISA_206 => (refine' DL.IsaK.cls ?a ?c ?d ?t ?k ?n; (case a => k_is); (case c => k_is); (case d => k_is); (case t => k_is); (case k => k_is); (case n => decide))
    case ISA_207 => (refine' DL.IsaK.same ?a; (case a => k_is))
    case ISA_208 => (refine' DL.IsaK.cls ?a ?c ?d ?t ?k ?n; (case a => k_is); (case c => k_is); (case d => k_is); (case t => k_is); (case k => k_is); (case n => decide))
    case ISA_209 => (refine' DL.IsaK.ty ?a ?m ?k; (case a => k_is); (case m => decide +kernel); (case k => k_is))
    case ISA_210 => (refine' DL.IsaK.ty ?a ?m ?k; (case a => k_is); (case m => decide +kernel); (case k => k_is))
    case ISA_211 => (refine' DL.IsaK.ty ?a ?m ?k; (case a => k_is); (case m => decide +kernel); (case k => k_is))
    case ISA_212 => (refine' DL.IsaK.ty ?a ?m ?k; (case a => k_is); (case m => decide +kernel); (case k => k_is))
    case ISA_213 => (refine' DL.IsaK.ty ?a ?m ?k; (case a => k_is); (case m => decide +kernel); (case k => k_is))
    case ISA_214 => (refine' DL.IsaK.ty ?a ?m ?k; (case a => k_is); (case m => decide +kernel); (case k => k_is))
    case ISA_215 => (refine' DL.IsaK.cls ?a ?c ?d ?t ?k ?n; (case a => k_is); (case c => k_is); (case d => k_is); (case t => k_is); (case k => k_is); (case n => decide))
    case ISA_216 => (refine' DL.IsaK.same ?a; (case a => k_is))
    case ISA_217 => (refine' DL.IsaK.cls ?a ?c ?d ?t ?k ?n; (case a => k_is); (case c => k_is); (case d => k_is); (case t => k_is); (case k => k_is); (case n => decide))
    case ISA_218 => (refine' DL.IsaK.cls ?a ?c ?d ?t ?k ?n; (case a => k_is); (case c => k_is); (case d => k_is); (case t => k_is); (case k => k_is); (case n => decide))
    case ISA_219 => (refine' DL.IsaK.cls ?a ?c ?d ?t ?k ?n; (case a => k_is); (case c => k_is); (case d => k_is); (case t => k_is); (case k => k_is); (case n => decide))
    case ISA_220 => (refine' DL.IsaK.cls ?a ?c ?d ?t ?k ?n; (case a => k_is); (case c => k_is); (case d => k_is); (case t => k_is); (case k => k_is); (case n => decide))
    case ISA_221 => (refine' DL.IsaK.cls ?a ?c ?d ?t ?k ?n; (case a => k_is); (case c => k_is); (case d => k_is); (case t => k_is); (case k => k_is); (case n => decide))
    case ISA_222 => (refine' DL.IsaK.cls ?a ?c ?d ?t ?k ?n; (case a => k_is); (case c => k_is); (case d => k_is); (case t => k_is); (case k => k_is); (case n => decide))
    case ISA_223 => (refine' DL.IsaK.cls ?a ?c ?d ?t ?k ?n; (case a => k_is); (case c => k_is); (case d => k_is); (case t => k_is); (case k => k_is); (case n => decide))
    case ISA_224 => (refine' DL.IsaK.cls ?a ?c ?d ?t ?k ?n; (case a => k_is); (case c => k_is); (case d => k_is); (case t => k_is); (case k => k_is); (case n => decide))
    case ISA_225 => (refine' DL.IsaK.cls ?a ?c ?d ?t ?k ?n; (case a => k_is); (case c => k_is); (case d => k_is); (case t => k_is); (case k => k_is); (case n => decide))
    case ISA_226 => (refine' DL.IsaK.cls ?a ?c ?d ?t ?k ?n; (case a => k_is); (case c => k_is); (case d => k_is); (case t => k_is); (case k => k_is); (case n => decide))
    case ISA_227 => (refine' DL.IsaK.cls ?a ?c ?d ?t ?k ?n; (case a => k_is); (case c => k_is); (case d => k_is); (case t => k_is); (case k => k_is); (case n => decide))
    case ISA_228 => (refine' DL.IsaK.ty ?a ?m ?k; (case a => k_is); (case m => decide +kernel); (case k => k_is))
    case ISA_229 => (refine' DL.IsaK.ty ?a ?m ?k; (case a => k_is); (case m => decide +kernel); (case k => k_is))
    case ISA_230 => (refine' DL.IsaK.ty ?a ?m ?k; (case a => k_is); (case m => decide +kernel); (case k => k_is))
    case ISA_231 => (refine' DL.IsaK.ty ?a ?m ?k; (case a => k_is); (case m => decide +kernel); (case k => k_is))
    case ISA_232 => (refine' DL.IsaK.ty ?a ?m ?k; (case a => k_is); (case m => decide +kernel); (case k => k_is))
    case ISA_233 => (refine' DL.IsaK.ty ?a ?m ?k; (case a => k_is); (case m => decide +kernel); (case k => k_is))
    case ISA_234 => (refine' DL.IsaK.cls ?a ?c ?d ?t ?k ?n; (case a => k_is); (case c => k_is); (case d => k_is); (case t => k_is); (case k => k_is); (case n => decide))
    case ISA_235 => (refine' DL.IsaK.cls ?a ?c ?d ?t ?k ?n; (case a => k_is); (case c => k_is); (case d => k_is); (case t => k_is); (case k => k_is); (case n => decide))
    case ISA_236 => (refine' DL.IsaK.cls ?a ?c ?d ?t ?k ?n; (case a => k_is); (case c => k_is); (case d => k_is); (case t => k_is); (case k => k_is); (case n => decide))
    case ISA_237 => (refine' DL.IsaK.cls ?a ?c ?d ?t ?k ?n; (case a => k_is); (case c => k_is); (case d => k_is); (case t => k_is); (case k => k_is); (case n => decide))
    case ISA_238 => (refine' DL.IsaK.cls ?a ?c ?d ?t ?k ?n; (case a => k_is); (case c => k_is); (case d => k_is); (case t => k_is); (case k => k_is); (case n => decide))
    case ISA_239 => (refine' DL.IsaK.cls ?a ?c ?d ?t ?k ?n; (case a => k_is); (case c => k_is); (case d => k_is); (case t => k_is); (case k => k_is); (case n => decide))
    case ISA_240 => (refine' DL.IsaK.cls ?a ?c ?d ?t ?k ?n; (case a => k_is); (case c => k_is); (case d => k_is); (case t => k_is); (case k => k_is); (case n => decide))
    case ISA_241 => (refine' DL.IsaK.cls ?a ?c ?d ?t ?k ?n; (case a => k_is); (case c => k_is); (case d => k_is); (case t => k_is); (case k => k_is); (case n => decide))
    case ISA_242 => (refine' DL.IsaK.cls ?a ?c ?d ?t ?k ?n; (case a => k_is); (case c => k_is); (case d => k_is); (case t => k_is); (case k => k_is); (case n => decide))
    case ISA_243 => (refine' DL.IsaK.same ?a; (case a => k_is))
    case ISA_244 => (refine' DL.IsaK.cls ?a ?c ?d ?t ?k ?n; (case a => k_is); (case c => k_is); (case d => k_is); (case t => k_is); (case k => k_is); (case n => decide))
    case ISA_245 => (refine' DL.IsaK.cls ?a ?c ?d ?t ?k ?n; (case a => k_is); (case c => k_is); (case d => k_is); (case t => k_is); (case k => k_is); (case n => decide))
    case ISA_246 => (refine' DL.IsaK.cls ?a ?c ?d ?t ?k ?n; (case a => k_is); (case c => k_is); (case d => k_is); (case t => k_is); (case k => k_is); (case n => decide))
    case F__law_made => (refine' DL.HasFn.by_ ?a ?l ?c ?k; (case a => k_is); (case l => k_is); (case c => k_is); (case k => k_is))
    case F__law_pool => (refine' DL.HasFn.by_ ?a ?l ?c ?k; (case a => k_is); (case l => k_is); (case c => k_is); (case k => k_is))
    case F__law_base_kinds => (refine' DL.HasFn.by_ ?a ?l ?c ?k; (case a => k_is); (case l => k_is); (case c => k_is); (case k => k_is))
    case F__law_due_kinds => (refine' DL.HasFn.by_ ?a ?l ?c ?k; (case a => k_is); (case l => k_is); (case c => k_is); (case k => k_is))
    case F__law_field => (refine' DL.HasFn.by_ ?a ?l ?c ?k; (case a => k_is); (case l => k_is); (case c => k_is); (case k => k_is))
    case F__law_fields => (refine' DL.HasFn.by_ ?a ?l ?c ?k; (case a => k_is); (case l => k_is); (case c => k_is); (case k => k_is))
    case F__law_kinds => (refine' DL.HasFn.by_ ?a ?l ?c ?k; (case a => k_is); (case l => k_is); (case c => k_is); (case k => k_is))
    case F__law_right => (refine' DL.HasFn.by_ ?a ?l ?c ?k; (case a => k_is); (case l => k_is); (case c => k_is); (case k => k_is))
    case F__law_take => (refine' DL.HasFn.by_ ?a ?l ?c ?k; (case a => k_is); (case l => k_is); (case c => k_is); (case k => k_is))
    case F__law_value => (refine' DL.HasFn.by_ ?a ?l ?c ?k; (case a => k_is); (case l => k_is); (case c => k_is); (case k => k_is))
    case F_law => (refine' DL.HasFn.by_ ?a ?l ?c ?k; (case a => k_is); (case l => k_is); (case c => k_is); (case k => k_is))
    case N_IndexError => exact ⟨by k_is⟩
    case N_KeyError => exact ⟨by k_is⟩
    case N_LookupError => exact ⟨by k_is⟩
    case N_OverflowError => exact ⟨by k_is⟩
    case N_RuntimeError => exact ⟨by k_is⟩
    case N_ValueError => exact ⟨by k_is⟩
    case N_int => exact ⟨by k_is⟩
    case N_isinstance => exact ⟨by k_is⟩
    case N_len => exact ⟨by k_is⟩
    case N_max => exact ⟨by k_is⟩
    case N_min => exact ⟨by k_is⟩
    case N_range => exact ⟨by k_is⟩
    case N_repr => exact ⟨by k_is⟩
