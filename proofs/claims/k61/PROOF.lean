import PyProof.Rows.All
import Wide.All
import OpenK.AllK
import Wide.FinOn
import HandS.ForMost
import HandS.IsInst
import HandS.ExcField
import HandS.ExcInit
import KE.DataEq
import HandS.ForExc
import HandS.TupAny
import HandS.Style
import HandS.Wide
import HandS.Zip
import HandS.SortInts
import HandS.RaiseMore
import HandS.WordsDict
import PyProof.ReprRoads
import HandS.Small
import HandS.EndBits
import HandS.More
import HandS.Conv
import KE.KDictSum
import KE.KUnpackStar
import KE.GoesZip
import KE.GoesMore
import HandS.Words
import HandS.Exc
import KE.KExcIs
import HandS.ExcIs
import HandS.Text
import KE.KExcInit
import PyProof.StrOps2
import HandS.Set
import HandS.SetFor
import HandS.SetTxt0
import HandS.Strs
import HandS.Sort
import KE.DataCmp
import HandS.StrMore
import HandS.Defaults
import HandS.Deep
import OpenK.KOps
import HandS.OwnEq
import HandS.FStr
import KE.KIsAll
import OpenK.KLine
import OpenK.KWalk
import PyProof.InstNe
import HandS.Keys
import HandS.DictTup
import HandS.Comp
import HandS.SetBool
import HandS.DictComp
import HandS.MakeKw
import KE.GoesEnumKw
import PyProof.Rows.CallKwBuiltin
import KE.SortData
import KE.KDictZip
import KE.KDictList
import HandS.Iter
import PySem.Challenge.RW_readsfrom_k61_programs_called_otherwise
import PyProof.StrLawsRepr
set_option Elab.async false
set_option linter.all false
section
set_option Elab.async false
set_option linter.all false
set_option maxRecDepth 100000
set_option maxHeartbeats 4000000
namespace DL
open PySem L2
inductive T where
  | d (x : PyData)
  | fn (n : Str)
  | scr (ns : List Int)
  | ty (n : String)
  | lst (xs : List T)
  | dct (kvs : List (Key × T))
  | ins (n : Str) (fs : List (Str × T))
  | fin (n : Str) (fs : List (Str × PyData))
  | exc (n : Str) (fs : List (Str × PyData))
  | tup (xs : List T)
  | opq (n : Nat)
  | hole
  | fns (ns : List Str)
  | fdct (kvs : List (Key × PyData))

abbrev Rho := List (Option T)

mutual
inductive Dr (K : PySem.W.Frag) (I : Hp) : V → PyData → Prop
  | non : Dr K I .non .none
  | bl (b : Bool) : Dr K I (.bl b) (.bool b)
  | int (i : Int) : Dr K I (.int i) (.int i)
  | str (x : Str) : Dr K I (.str x) (.str x)
  | lst {a : Addr} {xs : List V} {ds : List PyData} : I a = some (.lst xs) → DrAll K I xs ds → Dr K I (.ref a) (.list ds)
  | tup {a : Addr} {xs : List V} {ds : List PyData} : SqT K I a xs → DrAll K I xs ds → Dr K I (.ref a) (.tuple ds)
  | dct0 {a : Addr} : I a = some (.dK []) → Dr K I (.ref a) (.dict [])
inductive DrAll (K : PySem.W.Frag) (I : Hp) : List V → List PyData → Prop
  | nil : DrAll K I [] []
  | cons {v : V} {vs : List V} {d : PyData} {ds : List PyData} : Dr K I v d → DrAll K I vs ds → DrAll K I (v :: vs) (d :: ds)
end
def exq (a : Addr) (oe : Obj) : HO := .ext fun h => h.get? a = some oe
structure ExcAt (K : PySem.W.Frag) (I : Hp) (a : Addr) (n : Str) (fs : List (Str × PyData)) : Prop where
  at_ : ∃ (oe : Obj) (C : Addr) (vs : List V), I a = some (exq a oe) ∧ oe.cls = .ref C ∧ (∃ ws, oe.data = .fields ws) ∧ (fs ≠ [] → ∃ d, oe.dict = some d ∧ I d = some (.xd ((fs.map (·.1)).zip vs))) ∧ (fs = [] → oe.dict = none) ∧ DrAll K I vs (fs.map (·.2)) ∧
    PySem.W.nsIn K mainGlobals n = some (some (.ref C))
structure FdAt (K : PySem.W.Frag) (I : Hp) (a : Addr) (kvs : List (Key × PyData)) : Prop where
  at_ : ∃ us : List (Key × V), I a = some (.dK us) ∧ us.map (·.1) = kvs.map (·.1) ∧ DrAll K I (us.map (·.2)) (kvs.map (·.2))
def keyD : Key → PyData
  | .inl i => .int i
  | .inr z => .str z
def dictD (kvs : List (Key × PyData)) : PyData := .dict (kvs.map fun p => (keyD p.1, p.2))
def instD (n : Str) (fs : List (Str × PyData)) : PyData := .dict [(.tuple [.str n], .dict (fs.map fun p => (.str p.1, p.2)))]
mutual
inductive DrF (K : PySem.W.Frag) (I : Hp) : V → PyData → Prop
  | d {v : V} {x : PyData} : Dr K I v x → DrF K I v x
  | dct {a : Addr} {kvs : List (Key × PyData)} : FdAt K I a kvs → DrF K I (.ref a) (dictD kvs)
  | ins {a C dx : Addr} {n : Str} {kvs : List (Str × V)} {vs : List V} {ds : List PyData} {fs : List (Str × PyData)} : PySem.W.nsIn K mainGlobals n = some (some (.ref C)) → I a = some (.ins C dx kvs) → I dx = some (.own a) → kvs.map (·.1) = fs.map (·.1) → vs = kvs.map (·.2) → ds = fs.map (·.2) → DrFs K I vs ds → DrF K I (.ref a) (instD n fs)
inductive DrFs (K : PySem.W.Frag) (I : Hp) : List V → List PyData → Prop
  | nil : DrFs K I [] []
  | cons {v : V} {vs : List V} {d : PyData} {ds : List PyData} : DrF K I v d → DrFs K I vs ds → DrFs K I (v :: vs) (d :: ds)
end
structure FinAt (K : PySem.W.Frag) (I : Hp) (a : Addr) (n : Str) (fs : List (Str × PyData)) : Prop where
  at_ : ∃ (C dx : Addr) (kvs : List (Str × V)), PySem.W.nsIn K mainGlobals n = some (some (.ref C)) ∧ I a = some (.ins C dx kvs) ∧ I dx = some (.own a) ∧ kvs.map (·.1) = fs.map (·.1) ∧ DrFs K I (kvs.map (·.2)) (fs.map (·.2))
inductive FnVs (K : PySem.W.Frag) : List V → List Str → Prop
  | nil : FnVs K [] []
  | cons {a : Addr} {n : Str} {vs : List V} {ns : List Str} : PySem.W.nsIn K mainGlobals n = some (some (.ref a)) → FnVs K vs ns → FnVs K (.ref a :: vs) (n :: ns)
theorem FnVs.len {K : PySem.W.Frag} : ∀ {vs : List V} {ns : List Str}, FnVs K vs ns → vs.length = ns.length
  | _, _, .nil => rfl
  | _, _, .cons _ h => by rw [List.length_cons, List.length_cons, h.len]
theorem FnVs.append {K : PySem.W.Frag} {us : List V} {ms : List Str} (h' : FnVs K us ms) : ∀ {vs : List V} {ns : List Str}, FnVs K vs ns → FnVs K (vs ++ us) (ns ++ ms)
  | _, _, .nil => h'
  | _, _, .cons a h => .cons a (FnVs.append h' h)
theorem FnVs.get {K : PySem.W.Frag} : ∀ {vs : List V} {ns : List Str} {i : Nat} {n : Str}, FnVs K vs ns → ns[i]? = some n → ∃ a, vs[i]? = some (.ref a) ∧ PySem.W.nsIn K mainGlobals n = some (some (.ref a))
  | _, _, 0, _, .cons (a := a) h _, e => by cases e; exact ⟨a, rfl, h⟩
  | _, _, i + 1, n, .cons _ h, e => by
    obtain ⟨a, h1, h2⟩ := FnVs.get (i := i) (n := n) h (by simpa using e)
    exact ⟨a, by simpa using h1, h2⟩
  | _, _, _, _, .nil, e => by cases e
mutual
inductive RepT (K : PySem.W.Frag) (I H : Hp) : V → T → List Addr → Prop
  | fns {a : Addr} {vs : List V} {ns : List Str} : I a = some (.lst vs) → FnVs K vs ns → RepT K I H (.ref a) (.fns ns) []
  | d {v : V} {x : PyData} : Dr K I v x → RepT K I H v (.d x) []
  | fn {a : Addr} {n : Str} : PySem.W.nsIn K mainGlobals n = some (some (.ref a)) → RepT K I H (.ref a) (.fn n) []
  | scr {a : Addr} {ns : List Int} : SqL K I a (ns.map V.int) → RepT K I H (.ref a) (.scr ns) []
  | ty {n : String} : RepT K I H (.ty n) (.ty n) []
  | exc {a : Addr} {n : Str} {fs : List (Str × PyData)} : ExcAt K I a n fs → RepT K I H (.ref a) (.exc n fs) []
  | lst {a : Addr} {vs : List V} {xs : List T} {F : List Addr} : H a = some (.lst vs) → RepTs K I H vs xs F → RepT K I H (.ref a) (.lst xs) (a :: F)
  | tup {a : Addr} {vs : List V} {xs : List T} {F : List Addr} : SqT K I a vs → RepTs K I H vs xs F → RepT K I H (.ref a) (.tup xs) F
  | hole {v : V} : RepT K I H v .hole []
  | opq {a : Addr} {vs : List V} {n : Nat} : H a = some (.lst vs) → vs.length = n → RepT K I H (.ref a) (.opq n) [a]
  | dct {a : Addr} {kvs : List (Key × V)} {vs : List V} {xs : List T} {ts : List (Key × T)} {F : List Addr} : H a = some (.dK kvs) → kvs.map (·.1) = ts.map (·.1) → vs = kvs.map (·.2) → xs = ts.map (·.2) → RepTs K I H vs xs F →
      RepT K I H (.ref a) (.dct ts) (a :: F)
  | ins {a C dx : Addr} {n : Str} {kvs : List (Str × V)} {vs : List V} {xs : List T} {ts : List (Str × T)} {F : List Addr} : PySem.W.nsIn K mainGlobals n = some (some (.ref C)) → H a = some (.ins C dx kvs) → H dx = some (.own a) → kvs.map (·.1) = ts.map (·.1) → vs = kvs.map (·.2) → xs = ts.map (·.2) → RepTs K I H vs xs F →
      RepT K I H (.ref a) (.ins n ts) (a :: dx :: F)
  | fin {a : Addr} {n : Str} {fs : List (Str × PyData)} : FinAt K I a n fs → RepT K I H (.ref a) (.fin n fs) []
  | fdct {a : Addr} {kvs : List (Key × PyData)} : FdAt K I a kvs → RepT K I H (.ref a) (.fdct kvs) []
inductive RepTs (K : PySem.W.Frag) (I H : Hp) : List V → List T → List Addr → Prop
  | nil : RepTs K I H [] [] []
  | cons {v : V} {vs : List V} {t : T} {ts : List T} {F G : List Addr} : RepT K I H v t F → RepTs K I H vs ts G → RepTs K I H (v :: vs) (t :: ts) (F ++ G)
end
inductive RepR (K : PySem.W.Frag) (I H : Hp) : St → Rho → List Addr → Prop
  | nil : RepR K I H [] [] []
  | hid {o : Option V} {σ : St} {ρ : Rho} {F : List Addr} : RepR K I H σ ρ F → RepR K I H (o :: σ) (none :: ρ) F
  | has {v : V} {t : T} {σ : St} {ρ : Rho} {F G : List Addr} : RepT K I H v t F → RepR K I H σ ρ G → RepR K I H (some v :: σ) (some t :: ρ) (F ++ G)

theorem rd_mono {I I' : Hp} (e : Same I I') {a : Addr} {u : HO} (h : Rd I a u) : Rd I' a u := by
  rcases h with h | ⟨o, h⟩
  · exact .inl (e _ _ h)
  · exact .inr ⟨o, e _ _ h⟩
theorem st_mono {K : PySem.W.Frag} {I I' : Hp} (e : Same I I') {a : Addr} {xs : List V} (h : SqT K I a xs) : SqT K I' a xs := by
  rcases h with h | h
  · exact .inl (rd_mono e h)
  · exact .inr h
mutual
theorem dr_mono {K : PySem.W.Frag} {I I' : Hp} (e : Same I I') : ∀ {x : PyData} {v : V}, Dr K I v x → Dr K I' v x
  | _, _, .non => .non
  | _, _, .bl b => .bl b
  | _, _, .int i => .int i
  | _, _, .str x => .str x
  | _, _, .lst h r => .lst (e _ _ h) (drAll_mono e r)
  | _, _, .tup h r => .tup (st_mono e h) (drAll_mono e r)
  | _, _, .dct0 h => .dct0 (e _ _ h)
theorem drAll_mono {K : PySem.W.Frag} {I I' : Hp} (e : Same I I') : ∀ {xs : List PyData} {vs : List V}, DrAll K I vs xs → DrAll K I' vs xs
  | _, _, .nil => .nil
  | _, _, .cons h t => .cons (dr_mono e h) (drAll_mono e t)
end
mutual
theorem Dr.dp {K : PySem.W.Frag} {I : Hp} : ∀ {x : PyData} {v : V}, Dr K I v x → x.plain = true → Dp K I v x
  | _, _, .non, _ => .non
  | _, _, .bl b, _ => .bl b
  | _, _, .int i, _ => .int i
  | _, _, .str x, _ => .str x
  | _, _, .lst h r, p => .lst (SqL.of h) (DrAll.dp r (by simpa [PyData.plain] using p))
  | _, _, .tup h r, p => .tup h (DrAll.dp r (by simpa [PyData.plain] using p))
  | _, _, .dct0 h, p => by simp [PyData.plain] at p
theorem DrAll.dp {K : PySem.W.Frag} {I : Hp} : ∀ {xs : List PyData} {vs : List V}, DrAll K I vs xs → PyData.plainAll xs = true → DpAll K I vs xs
  | _, _, .nil, _ => .nil
  | _, _, .cons h t, p => by
    have q := (Bool.and_eq_true _ _).mp (by simpa [PyData.plainAll] using p)
    exact .cons (Dr.dp h q.1) (DrAll.dp t q.2)
end
theorem ExcAt.mono {K : PySem.W.Frag} {I I' : Hp} (e : Same I I') {a : Addr} {n : Str} {fs : List (Str × PyData)} (h : ExcAt K I a n fs) : ExcAt K I' a n fs := by
  obtain ⟨oe, C, vs, h1, h2, h3, h4, h5, h6, h7⟩ := h.at_
  exact ⟨oe, C, vs, e _ _ h1, h2, h3, fun z => by obtain ⟨d, z1, z2⟩ := h4 z; exact ⟨d, z1, e _ _ z2⟩, h5, drAll_mono e h6, h7⟩
theorem FdAt.mono {K : PySem.W.Frag} {I I' : Hp} (e : Same I I') {a : Addr} {kvs : List (Key × PyData)} (h : FdAt K I a kvs) : FdAt K I' a kvs := by
  obtain ⟨us, h1, h2, h3⟩ := h.at_
  exact ⟨us, e _ _ h1, h2, drAll_mono e h3⟩
mutual
theorem drF_mono {K : PySem.W.Frag} {I I' : Hp} (e : Same I I') : ∀ {v : V} {x : PyData}, DrF K I v x → DrF K I' v x
  | _, _, .d h => .d (dr_mono e h)
  | _, _, .dct h => .dct (h.mono e)
  | _, _, .ins n0 h o a b c r => .ins n0 (e _ _ h) (e _ _ o) a b c (drFs_mono e r)
theorem drFs_mono {K : PySem.W.Frag} {I I' : Hp} (e : Same I I') : ∀ {vs : List V} {xs : List PyData}, DrFs K I vs xs → DrFs K I' vs xs
  | _, _, .nil => .nil
  | _, _, .cons h t => .cons (drF_mono e h) (drFs_mono e t)
end
theorem FinAt.mono {K : PySem.W.Frag} {I I' : Hp} (e : Same I I') {a : Addr} {n : Str} {fs : List (Str × PyData)} (h : FinAt K I a n fs) : FinAt K I' a n fs := by
  obtain ⟨C, dx, kvs, h1, h2, h3, h4, h5⟩ := h.at_
  exact ⟨C, dx, kvs, h1, e _ _ h2, e _ _ h3, h4, drFs_mono e h5⟩
mutual
theorem RepT.mono {K : PySem.W.Frag} {I I' H H' : Hp} (e : Same I I') : ∀ {v : V} {t : T} {F : List Addr}, RepT K I H v t F → (∀ a ∈ F, H' a = H a) → RepT K I' H' v t F
  | _, _, _, .d h, _ => .d (dr_mono e h)
  | _, _, _, .fn h, _ => .fn h
  | _, _, _, .scr h, _ => .scr (e.seq h)
  | _, _, _, .fns h q, _ => .fns (e _ _ h) q
  | _, _, _, .ty, _ => .ty
  | _, _, _, .exc h, _ => .exc (h.mono e)
  | _, _, _, .lst h r, k => .lst (by rw [k _ (by simp)]; exact h) (RepTs.mono e r fun a m => k a (by simp [m]))
  | _, _, _, .tup h r, k => .tup (st_mono e h) (RepTs.mono e r k)
  | _, _, _, .hole, _ => .hole
  | _, _, _, .opq h z, k => .opq (by rw [k _ (by simp)]; exact h) z
  | _, _, _, .dct h a b c r, k => .dct (by rw [k _ (by simp)]; exact h) a b c (RepTs.mono e r fun a m => k a (by simp [m]))
  | _, _, _, .fin h, _ => .fin (h.mono e)
  | _, _, _, .fdct h, _ => .fdct (h.mono e)
  | _, _, _, .ins n0 h o a b c r, k => .ins n0 (by rw [k _ (by simp)]; exact h) (by rw [k _ (by simp)]; exact o) a b c (RepTs.mono e r fun a m => k a (by simp [m]))
theorem RepTs.mono {K : PySem.W.Frag} {I I' H H' : Hp} (e : Same I I') : ∀ {vs : List V} {ts : List T} {F : List Addr}, RepTs K I H vs ts F → (∀ a ∈ F, H' a = H a) → RepTs K I' H' vs ts F
  | _, _, _, .nil, _ => .nil
  | _, _, _, .cons h r, k => .cons (RepT.mono e h fun a m => k a (by simp [m])) (RepTs.mono e r fun a m => k a (by simp [m]))
end
theorem RepR.mono {K : PySem.W.Frag} {I I' H H' : Hp} (e : Same I I') : ∀ {σ : St} {ρ : Rho} {F : List Addr}, RepR K I H σ ρ F → (∀ a ∈ F, H' a = H a) → RepR K I' H' σ ρ F
  | _, _, _, .nil, _ => .nil
  | _, _, _, .hid r, k => .hid (RepR.mono e r k)
  | _, _, _, .has h r, k => .has (RepT.mono e h fun a m => k a (by simp [m])) (RepR.mono e r fun a m => k a (by simp [m]))

structure Bs where
  I : Hp
  H : Hp
  F : List Addr
  s : St
structure Sit (B : Bs) (I H : Hp) (F : List Addr) : Prop where
  sub : Same I H
  ext : Same B.I I
  keep : ∀ a o, a ∉ B.F → B.H a = some o → H a = some o
  new : ∀ a o, I a = some o → B.I a = some o ∨ B.H a = none ∨ a ∈ B.F
  fr : ∀ a ∈ F, a ∈ B.F ∨ B.H a = none
  own : ∀ a ∈ F, I a = none
  thr : ∀ a ∈ F, H a ≠ none
  nd : F.Nodup

section
variable {B : Bs} {I H : Hp} {F G : List Addr}
theorem Sit.fresh (s : Sit B I H F) {p : Addr} (h : H p = none) : p ∉ F ∧ I p = none ∧ (B.H p = none ∨ p ∈ B.F) := by
  refine ⟨fun m => s.thr p m h, ?_, ?_⟩
  · cases e : I p with
    | none => rfl
    | some o => rw [s.sub p o e] at h; cases h
  · by_cases m : p ∈ B.F
    · exact .inr m
    · cases e : B.H p with
      | none => exact .inl rfl
      | some o => rw [s.keep p o m e] at h; cases h
theorem Sit.newD (s : Sit B I H F) {p : Addr} {o : HO} (h : H p = none) : Sit B (upd I p o) (upd H p o) F := by
  obtain ⟨h1, h2, h3⟩ := s.fresh h
  refine ⟨fun a u e => ?_, fun a u e => ?_, fun a u m e => ?_, fun a u e => ?_, s.fr, fun a m => ?_, fun a m => ?_, s.nd⟩
  · by_cases q : a = p
    · subst q; rw [upd_same] at e ⊢; exact e
    · rw [upd_ne q] at e ⊢; exact s.sub a u e
  · rw [upd_ne (ne_of_none (s.ext a u e) h2)]; exact s.ext a u e
  · rw [upd_ne (ne_of_none (s.keep a u m e) h)]; exact s.keep a u m e
  · by_cases q : a = p
    · subst q; exact .inr h3
    · rw [upd_ne q] at e; exact s.new a u e
  · rw [upd_ne (show a ≠ p from fun q => h1 (by rw [← q]; exact m))]; exact s.own a m
  · rw [upd_ne (show a ≠ p from fun q => h1 (by rw [← q]; exact m))]; exact s.thr a m
theorem Sit.newO (s : Sit B I H F) {p : Addr} {o : HO} (h : H p = none) : Sit B I (upd H p o) (p :: F) := by
  obtain ⟨h1, h2, h3⟩ := s.fresh h
  refine ⟨fun a u e => ?_, s.ext, fun a u m e => ?_, s.new, fun a m => ?_, fun a m => ?_, fun a m => ?_, ?_⟩
  · rw [upd_ne (ne_of_none e h2)]; exact s.sub a u e
  · rw [upd_ne (ne_of_none (s.keep a u m e) h)]; exact s.keep a u m e
  · rcases List.mem_cons.mp m with q | q
    · rw [q]; exact h3.symm
    · exact s.fr a q
  · rcases List.mem_cons.mp m with q | q
    · rw [q]; exact h2
    · exact s.own a q
  · rcases List.mem_cons.mp m with q | q
    · rw [q, upd_same]; intro z; cases z
    · rw [upd_ne (show a ≠ p from fun z => h1 (by rw [← z]; exact q))]; exact s.thr a q
  · exact List.nodup_cons.mpr ⟨h1, s.nd⟩
theorem Sit.write (s : Sit B I H F) {p : Addr} {o : HO} (m : p ∈ F) : Sit B I (upd H p o) F := by
  refine ⟨fun a u e => ?_, s.ext, fun a u n e => ?_, s.new, s.fr, s.own, fun a q => ?_, s.nd⟩
  · have : a ≠ p := fun q => by rw [q, s.own p m] at e; cases e
    rw [upd_ne this]; exact s.sub a u e
  · have : a ≠ p := fun q => by
      rcases s.fr p m with z | z
      · exact n (q ▸ z)
      · rw [q, z] at e; cases e
    rw [upd_ne this]; exact s.keep a u n e
  · by_cases z : a = p
    · rw [z, upd_same]; intro z; cases z
    · rw [upd_ne z]; exact s.thr a q
theorem Sit.less (s : Sit B I H F) (h : ∀ a ∈ G, a ∈ F) (nd : G.Nodup) : Sit B I H G :=
  ⟨s.sub, s.ext, s.keep, s.new, fun a m => s.fr a (h a m), fun a m => s.own a (h a m), fun a m => s.thr a (h a m), nd⟩
theorem Sit.perm (s : Sit B I H F) (h : List.Perm F G) : Sit B I H G := s.less (fun a m => h.mem_iff.mpr m) (h.nodup_iff.mp s.nd)
end
def Kept (m : List Bool) (B : Bs) (σ : St) : Prop := ∀ i : Nat, m[i]? = some true → σ[i]? = B.s[i]?
def Ok (K : PySem.W.Frag) (m : List Bool) (B : Bs) (σ : St) (H : Hp) (ρ : Rho) (ws : List V) (ts : List T) : Prop :=
  ∃ I Fr Fw, Sit B I H (Fr ++ Fw) ∧ RepR K I H σ ρ Fr ∧ RepTs K I H ws ts Fw ∧ Kept m B σ

section
variable {K : PySem.W.Frag} {m : List Bool} {B : Bs} {σ : St} {H : Hp} {ρ : Rho} {ws : List V} {ts : List T} {x y v : V} {t u : T} {d e : PyData}
theorem Ok.pop (h : Ok K m B σ H ρ (x :: ws) (t :: ts)) : Ok K m B σ H ρ ws ts := by
  obtain ⟨I, Fr, Fw, s, r, w, km⟩ := h
  cases w with
  | cons a b =>
    rename_i F G
    refine ⟨I, Fr, G, s.less (fun q m => ?_) ?_, r, b, km⟩
    · rcases List.mem_append.mp m with z | z
      · exact List.mem_append.mpr (.inl z)
      · exact List.mem_append.mpr (.inr (List.mem_append.mpr (.inr z)))
    · have := s.nd
      exact (List.Sublist.nodup (List.Sublist.append (List.Sublist.refl _) (List.sublist_append_right F G)) this)
theorem Ok.swap (h : Ok K m B σ H ρ (x :: y :: ws) (t :: u :: ts)) : Ok K m B σ H ρ (y :: x :: ws) (u :: t :: ts) := by
  obtain ⟨I, Fr, Fw, s, r, w, km⟩ := h
  cases w with
  | cons a b =>
    cases b with
    | cons b c =>
      refine ⟨I, Fr, _, s.perm ?_, r, .cons b (.cons a c), km⟩
      refine List.Perm.append_left _ ?_
      rw [← List.append_assoc, ← List.append_assoc]
      exact List.Perm.append_right _ List.perm_append_comm
theorem Ok.pop2 (h : Ok K m B σ H ρ (x :: y :: ws) (t :: u :: ts)) : Ok K m B σ H ρ (x :: ws) (t :: ts) := h.swap.pop
theorem Ok.push (h : Ok K m B σ H ρ ws ts) (q : ∀ I, Dr K I x d) : Ok K m B σ H ρ (x :: ws) (.d d :: ts) := by
  obtain ⟨I, Fr, Fw, s, r, w, km⟩ := h
  exact ⟨I, Fr, Fw, s, r, .cons (F := []) (.d (q I)) w, km⟩
theorem Ok.pushFn {a : Addr} {n : Str} (hn : PySem.W.nsIn K mainGlobals n = some (some (.ref a))) (h : Ok K m B σ H ρ ws ts) : Ok K m B σ H ρ (.ref a :: ws) (.fn n :: ts) := by
  obtain ⟨I, Fr, Fw, s, r, w, km⟩ := h
  exact ⟨I, Fr, Fw, s, r, .cons (F := []) (.fn hn) w, km⟩
theorem Ok.pushTy {n : String} (h : Ok K m B σ H ρ ws ts) : Ok K m B σ H ρ (.ty n :: ws) (.ty n :: ts) := by
  obtain ⟨I, Fr, Fw, s, r, w, km⟩ := h
  exact ⟨I, Fr, Fw, s, r, .cons (F := []) .ty w, km⟩
theorem Ok.topTy {n : String} (h : Ok K m B σ H ρ (x :: ws) (.ty n :: ts)) : x = .ty n := by
  obtain ⟨I, Fr, Fw, s, r, w, km⟩ := h
  cases w with
  | cons a b => cases a; rfl
theorem Ok.int {i : Int} (h : Ok K m B σ H ρ ws ts) : Ok K m B σ H ρ (.int i :: ws) (.d (.int i) :: ts) := h.push fun _ => .int i
theorem Ok.str {i : Str} (h : Ok K m B σ H ρ ws ts) : Ok K m B σ H ρ (.str i :: ws) (.d (.str i) :: ts) := h.push fun _ => .str i
theorem Ok.bl {i : Bool} (h : Ok K m B σ H ρ ws ts) : Ok K m B σ H ρ (.bl i :: ws) (.d (.bool i) :: ts) := h.push fun _ => .bl i
theorem Ok.non (h : Ok K m B σ H ρ ws ts) : Ok K m B σ H ρ (.non :: ws) (.d .none :: ts) := h.push fun _ => .non
theorem Ok.topD (h : Ok K m B σ H ρ (x :: ws) (.d d :: ts)) : Dr K H x d := by
  obtain ⟨I, Fr, Fw, s, r, w, km⟩ := h
  cases w with
  | cons a b =>
    cases a with
    | d q => exact dr_mono s.sub q
theorem Ok.dup (h : Ok K m B σ H ρ (x :: ws) (.d d :: ts)) : Ok K m B σ H ρ (x :: x :: ws) (.d d :: .d d :: ts) := by
  obtain ⟨I, Fr, Fw, s, r, w, km⟩ := h
  cases w with
  | cons a b =>
    cases a with
    | d q => exact ⟨I, Fr, _, s, r, .cons (F := []) (.d q) (.cons (F := []) (.d q) b), km⟩
theorem Ok.part (h : Ok K m B σ H ρ (x :: ws) (.d d :: ts)) (q : ∀ I, Same I H → Dr K I x d → Dr K I y e) : Ok K m B σ H ρ (y :: ws) (.d e :: ts) := by
  obtain ⟨I, Fr, Fw, s, r, w, km⟩ := h
  cases w with
  | cons a b =>
    cases a with
    | d z => exact ⟨I, Fr, _, s, r, .cons (F := []) (.d (q I s.sub z)) b, km⟩
theorem Ok.topInt {i : Int} (h : Ok K m B σ H ρ (x :: ws) (.d (.int i) :: ts)) : x = .int i := by
  have q := h.topD
  cases q
  rfl
theorem Ok.topStr {i : Str} (h : Ok K m B σ H ρ (x :: ws) (.d (.str i) :: ts)) : x = .str i := by
  have q := h.topD
  cases q
  rfl
theorem Ok.topBl {i : Bool} (h : Ok K m B σ H ρ (x :: ws) (.d (.bool i) :: ts)) : x = .bl i := by
  have q := h.topD
  cases q
  rfl
theorem Ok.topNon (h : Ok K m B σ H ρ (x :: ws) (.d .none :: ts)) : x = .non := by
  have q := h.topD
  cases q
  rfl
theorem Ok.topFn {n : Str} (h : Ok K m B σ H ρ (x :: ws) (.fn n :: ts)) : ∃ a, x = .ref a ∧ PySem.W.nsIn K mainGlobals n = some (some (.ref a)) := by
  obtain ⟨I, Fr, Fw, s, r, w, km⟩ := h
  cases w with
  | cons a b =>
    cases a with
    | fn h => exact ⟨_, rfl, h⟩

theorem RepTs.append {I : Hp} {F G : List Addr} : ∀ {vs ws : List V} {ts us : List T}, RepTs K I H vs ts F → RepTs K I H ws us G → ∃ E, RepTs K I H (vs ++ ws) (ts ++ us) E ∧ E = F ++ G
  | [], _, _, _, .nil, w => ⟨_, w, rfl⟩
  | _ :: _, _, _, _, .cons a b, w => by
    obtain ⟨E, q, e⟩ := RepTs.append b w
    exact ⟨_, .cons a q, by rw [e, List.append_assoc]⟩
theorem RepTs.split {I : Hp} : ∀ {vs ws : List V} {ts us : List T} {F : List Addr}, vs.length = ts.length → RepTs K I H (vs ++ ws) (ts ++ us) F → ∃ G E, F = G ++ E ∧ RepTs K I H vs ts G ∧ RepTs K I H ws us E
  | [], _, [], _, F, _, r => ⟨[], F, rfl, .nil, r⟩
  | [], _, _ :: _, _, _, l, _ => nomatch l
  | _ :: _, _, [], _, _, l, _ => nomatch l
  | _ :: vs, ws, _ :: ts, us, _, l, r => by
    cases r with
    | cons a b =>
      obtain ⟨G, E, e, p, q⟩ := RepTs.split (vs := vs) (ts := ts) (by simpa using l) b
      exact ⟨_, E, by rw [e, ← List.append_assoc], .cons a p, q⟩
theorem RepTs.len {I : Hp} : ∀ {vs : List V} {ts : List T} {F : List Addr}, RepTs K I H vs ts F → vs.length = ts.length
  | _, _, _, .nil => rfl
  | _, _, _, .cons _ r => by simp [RepTs.len r]
theorem RepTs.ofD {I : Hp} : ∀ {vs : List V} {ds : List PyData}, DrAll K I vs ds → RepTs K I H vs (ds.map T.d) []
  | _, _, .nil => .nil
  | _, _, .cons a b => .cons (F := []) (.d a) (RepTs.ofD b)
theorem RepTs.toD {I : Hp} : ∀ {vs : List V} {ds : List PyData} {F : List Addr}, RepTs K I H vs (ds.map T.d) F → DrAll K I vs ds ∧ F = []
  | _, [], _, .nil => ⟨.nil, rfl⟩
  | _, _ :: _, _, .cons (.d a) b => by
    obtain ⟨p, q⟩ := RepTs.toD b
    exact ⟨.cons a p, by rw [q]; rfl⟩
theorem DrAll.len {I : Hp} : ∀ {vs : List V} {ds : List PyData}, DrAll K I vs ds → vs.length = ds.length
  | _, _, .nil => rfl
  | _, _, .cons _ r => by simp [DrAll.len r]
theorem DrAll.get {I : Hp} : ∀ {vs : List V} {ds : List PyData} {i : Nat} {v : V}, DrAll K I vs ds → vs[i]? = some v → ∃ d, ds[i]? = some d ∧ Dr K I v d
  | _, _, _, _, .nil, e => by simp at e
  | _, _, 0, _, .cons a _, e => by simp at e; subst e; exact ⟨_, rfl, a⟩
  | _, _, i + 1, v, .cons _ b, e => by
    obtain ⟨d, p, q⟩ := DrAll.get (i := i) (v := v) b (by simpa using e)
    exact ⟨d, by simpa using p, q⟩
theorem DrAll.get' {I : Hp} : ∀ {vs : List V} {ds : List PyData} {i : Nat} {d : PyData}, DrAll K I vs ds → ds[i]? = some d → ∃ v, vs[i]? = some v ∧ Dr K I v d
  | _, _, _, _, .nil, e => by simp at e
  | _, _, 0, _, .cons a _, e => by simp at e; subst e; exact ⟨_, rfl, a⟩
  | _, _, i + 1, d, .cons _ b, e => by
    obtain ⟨v, p, q⟩ := DrAll.get' (i := i) (d := d) b (by simpa using e)
    exact ⟨v, by simpa using p, q⟩
theorem DrAll.append {I : Hp} : ∀ {vs ws : List V} {ds es : List PyData}, DrAll K I vs ds → DrAll K I ws es → DrAll K I (vs ++ ws) (ds ++ es)
  | _, _, _, _, .nil, w => w
  | _, _, _, _, .cons a b, w => .cons a (DrAll.append b w)
theorem DrAll.take {I : Hp} : ∀ {vs : List V} {ds : List PyData} (n : Nat), DrAll K I vs ds → DrAll K I (vs.take n) (ds.take n)
  | _, _, 0, _ => .nil
  | _, _, _ + 1, .nil => .nil
  | _, _, n + 1, .cons a b => .cons a (DrAll.take n b)
theorem DrAll.drop {I : Hp} : ∀ {vs : List V} {ds : List PyData} (n : Nat), DrAll K I vs ds → DrAll K I (vs.drop n) (ds.drop n)
  | _, _, 0, r => r
  | _, _, _ + 1, .nil => .nil
  | _, _, n + 1, .cons _ b => DrAll.drop n b
theorem DrAll.reverse {I : Hp} : ∀ {vs : List V} {ds : List PyData}, DrAll K I vs ds → DrAll K I vs.reverse ds.reverse
  | _, _, .nil => .nil
  | _, _, .cons a b => by
    rw [List.reverse_cons, List.reverse_cons]
    exact DrAll.append (DrAll.reverse b) (.cons a .nil)
theorem DrAll.rep {I : Hp} {vs : List V} {ds : List PyData} (h : DrAll K I vs ds) : ∀ n : Nat, DrAll K I (List.replicate n vs).flatten (List.replicate n ds).flatten
  | 0 => .nil
  | n + 1 => by
    rw [List.replicate_succ, List.replicate_succ, List.flatten_cons, List.flatten_cons]
    exact DrAll.append h (DrAll.rep h n)
theorem DrAll.erase {I : Hp} : ∀ {vs : List V} {ds : List PyData} (n : Nat), DrAll K I vs ds → DrAll K I (vs.eraseIdx n) (ds.eraseIdx n)
  | _, _, _, .nil => .nil
  | _, _, 0, .cons _ b => b
  | _, _, n + 1, .cons a b => .cons a (DrAll.erase n b)
end
end DL
end
section
set_option Elab.async false
set_option linter.all false
set_option maxRecDepth 100000
set_option maxHeartbeats 4000000
namespace DL
open PySem L2
structure Exn where
  C : Str
  fs : List (Str × PyData)
inductive R (α : Type) where
  | ok (a : α) (ρ : Rho) | ex (x : Exn) (ρ : Rho) | no
def M (α : Type) := Rho → R α
def mret {α : Type} (a : α) : M α := fun ρ => .ok a ρ
def mno {α : Type} : M α := fun _ => .no
def mbind {α β : Type} (f : M α) (g : α → M β) : M β := fun ρ => match f ρ with
  | .ok a ρ' => g a ρ'
  | .ex x ρ' => .ex x ρ'
  | .no => .no
def mopt {α : Type} : Option α → M α
  | some a => mret a
  | none => mno
inductive Fl where
  | nx | rt (t : T) | bk | ct
def mseq (F G : M Fl) : M Fl := mbind F fun fl => match fl with
  | .nx => G
  | .rt t => mret (.rt t)
  | .bk => mret .bk
  | .ct => mret .ct
def mset (i : Nat) (t : T) : M Unit := fun ρ => .ok () (ρ.set i (some t))
def mfor (set : T → M Unit) (body : M Fl) : List T → M Fl
  | [] => mret .nx
  | x :: xs => mbind (set x) fun _ => mbind body fun fl => match fl with
    | .nx => mfor set body xs
    | .ct => mfor set body xs
    | .bk => mret .nx
    | .rt t => mret (.rt t)

section
variable {K : PySem.W.Frag} {I H : Hp}
theorem RepR.len : ∀ {σ : St} {ρ : Rho} {F : List Addr}, RepR K I H σ ρ F → σ.length = ρ.length
  | _, _, _, .nil => rfl
  | _, _, _, .hid r => by simp [RepR.len r]
  | _, _, _, .has _ r => by simp [RepR.len r]
theorem RepR.take : ∀ {σ : St} {ρ : Rho} {F : List Addr} {i : Nat} {t : T}, RepR K I H σ ρ F → ρ[i]? = some (some t) →
    ∃ v G R, σ[i]? = some (some v) ∧ RepT K I H v t G ∧ RepR K I H σ (ρ.set i none) R ∧ List.Perm (R ++ G) F
  | _, _, _, i, _, .nil, e => by simp at e
  | _, _, _, 0, _, .hid r, e => by simp at e
  | _, _, _, 0, t, .has (v := v) (F := F) (G := G) a r, e => by
    simp at e
    subst e
    exact ⟨v, F, G, rfl, a, .hid r, List.perm_append_comm⟩
  | _, _, _, i + 1, t, .hid r, e => by
    obtain ⟨v, G, R, h1, h2, h3, h4⟩ := RepR.take (i := i) r (by simpa using e)
    exact ⟨v, G, R, by simpa using h1, h2, .hid h3, h4⟩
  | _, _, _, i + 1, t, .has (v := u) (F := F) a r, e => by
    obtain ⟨v, G, R, h1, h2, h3, h4⟩ := RepR.take (i := i) r (by simpa using e)
    refine ⟨v, G, F ++ R, by simpa using h1, h2, .has a h3, ?_⟩
    rw [List.append_assoc]
    exact List.Perm.append_left _ h4
theorem RepR.put : ∀ {σ : St} {ρ : Rho} {F G : List Addr} {i : Nat} {v : V} {t : T}, RepR K I H σ ρ F → RepT K I H v t G →
    ∃ F' R, RepR K I H (σ.set i (some v)) (ρ.set i (some t)) F' ∧ List.Perm (F' ++ R) (F ++ G)
  | _, _, _, G, i, v, t, .nil, _ => ⟨[], G, .nil, List.Perm.refl _⟩
  | _, _, _, G, 0, v, t, .hid (F := F) r, a => ⟨G ++ F, [], .has a r, by rw [List.append_nil]; exact List.perm_append_comm⟩
  | _, _, _, G, 0, v, t, .has (F := F1) (G := F2) b r, a => ⟨G ++ F2, F1, .has a r, by
      rw [List.append_assoc, List.append_assoc]
      exact (List.perm_append_comm (l₁ := G) (l₂ := F2 ++ F1)).trans (List.Perm.append_right _ List.perm_append_comm) |>.trans (by rw [List.append_assoc])⟩
  | _, _, _, G, i + 1, v, t, .hid r, a => by
    obtain ⟨F', R, h1, h2⟩ := RepR.put (i := i) r a
    exact ⟨F', R, .hid h1, h2⟩
  | _, _, _, G, i + 1, v, t, .has (F := F1) b r, a => by
    obtain ⟨F', R, h1, h2⟩ := RepR.put (i := i) r a
    refine ⟨F1 ++ F', R, .has b h1, ?_⟩
    rw [List.append_assoc, List.append_assoc]
    exact List.Perm.append_left _ h2
theorem RepR.back {σ : St} {ρ : Rho} {F G : List Addr} {i : Nat} {v : V} {t : T} (r : RepR K I H σ ρ F) (e : σ[i]? = some (some v)) (a : RepT K I H v t G) :
    ∃ F' R, RepR K I H σ (ρ.set i (some t)) F' ∧ List.Perm (F' ++ R) (F ++ G) := by
  obtain ⟨F', R, h1, h2⟩ := RepR.put (i := i) r a
  have : σ.set i (some v) = σ := by
    apply List.ext_getElem?
    intro j
    by_cases q : i = j
    · subst q
      rw [List.getElem?_set_self (List.getElem?_eq_some_iff.mp e).1, e]
    · rw [List.getElem?_set_ne q]
  rw [this] at h1
  exact ⟨F', R, h1, h2⟩
theorem RepR.clear : ∀ {σ : St} {ρ : Rho} {F : List Addr} {i : Nat} {o : Option V}, RepR K I H σ ρ F →
    ∃ F' R, RepR K I H (σ.set i o) (ρ.set i none) F' ∧ List.Perm (F' ++ R) F
  | _, _, _, i, o, .nil => ⟨[], [], .nil, List.Perm.refl _⟩
  | _, _, _, 0, o, .hid (F := F) r => ⟨F, [], .hid r, by rw [List.append_nil]⟩
  | _, _, _, 0, o, .has (F := F1) (G := F2) b r => ⟨F2, F1, .hid r, List.perm_append_comm⟩
  | _, _, _, i + 1, o, .hid r => by
    obtain ⟨F', R, h1, h2⟩ := RepR.clear (i := i) (o := o) r
    exact ⟨F', R, .hid h1, h2⟩
  | _, _, _, i + 1, o, .has (F := F1) b r => by
    obtain ⟨F', R, h1, h2⟩ := RepR.clear (i := i) (o := o) r
    refine ⟨F1 ++ F', R, .has b h1, ?_⟩
    rw [List.append_assoc]
    exact List.Perm.append_left _ h2
end
theorem Sit.sub' {B : Bs} {I H : Hp} {F G R : List Addr} (s : Sit B I H F) (h : List.Perm (G ++ R) F) : Sit B I H G :=
  (s.perm h.symm).less (fun a m => List.mem_append_left _ m) (List.Nodup.sublist (List.sublist_append_left G R) (s.perm h.symm).nd)

structure Wd where
  W : WX
  m : List Bool
  cl : Str → Option Value

section
variable {K : PySem.W.Frag} {m : List Bool} {B : Bs} {σ : St} {H : Hp} {ρ : Rho} {ws : List V} {ts : List T} {x y v : V} {t u : T} {d e : PyData} {i : Nat}
theorem Ok.store (h : Ok K m B σ H ρ (x :: ws) (t :: ts)) (hi : m[i]? ≠ some true) : Ok K m B (σ.set i (some x)) H (ρ.set i (some t)) ws ts := by
  obtain ⟨I, Fr, Fw, s, r, w, km⟩ := h
  cases w with
  | cons a b =>
    rename_i F G
    obtain ⟨F', R, h1, h2⟩ := RepR.put (i := i) r a
    refine ⟨I, F', G, s.sub' (R := R) ?_, h1, b, fun j hj => ?_⟩
    · have e1 : List.Perm (F' ++ G ++ R) (F' ++ R ++ G) := by
        rw [List.append_assoc, List.append_assoc]
        exact List.Perm.append_left _ List.perm_append_comm
      refine e1.trans ?_
      rw [← List.append_assoc]
      exact List.Perm.append_right _ h2
    · have : i ≠ j := fun q => hi (q ▸ hj)
      rw [List.getElem?_set_ne this]
      exact km j hj
theorem Ok.take (h : Ok K m B σ H ρ ws ts) (e : ρ[i]? = some (some t)) : ∃ v, σ[i]? = some (some v) ∧ Ok K m B σ H (ρ.set i none) (v :: ws) (t :: ts) := by
  obtain ⟨I, Fr, Fw, s, r, w, km⟩ := h
  obtain ⟨v, G, R, h1, h2, h3, h4⟩ := r.take e
  refine ⟨v, h1, I, R, G ++ Fw, s.perm ?_, h3, .cons h2 w, km⟩
  rw [← List.append_assoc]
  exact (List.Perm.append_right _ h4).symm
theorem Ok.back (h : Ok K m B σ H ρ (x :: ws) (t :: ts)) (e : σ[i]? = some (some x)) : Ok K m B σ H (ρ.set i (some t)) ws ts := by
  obtain ⟨I, Fr, Fw, s, r, w, km⟩ := h
  cases w with
  | cons a b =>
    rename_i F G
    obtain ⟨F', R, h1, h2⟩ := RepR.back (i := i) r e a
    refine ⟨I, F', G, s.sub' (R := R) ?_, h1, b, km⟩
    have e1 : List.Perm (F' ++ G ++ R) (F' ++ R ++ G) := by
      rw [List.append_assoc, List.append_assoc]
      exact List.Perm.append_left _ List.perm_append_comm
    refine e1.trans ?_
    rw [← List.append_assoc]
    exact List.Perm.append_right _ h2
theorem Ok.clear (h : Ok K m B σ H ρ ws ts) (hi : m[i]? ≠ some true) (o : Option V) : Ok K m B (σ.set i o) H (ρ.set i none) ws ts := by
  obtain ⟨I, Fr, Fw, s, r, w, km⟩ := h
  obtain ⟨F', R, h1, h2⟩ := RepR.clear (i := i) (o := o) r
  refine ⟨I, F', Fw, s.sub' (R := R) ?_, h1, w, fun j hj => ?_⟩
  · have e1 : List.Perm (F' ++ Fw ++ R) (F' ++ R ++ Fw) := by
      rw [List.append_assoc, List.append_assoc]
      exact List.Perm.append_left _ List.perm_append_comm
    exact e1.trans (List.Perm.append_right _ h2)
  · have : i ≠ j := fun q => hi (q ▸ hj)
    rw [List.getElem?_set_ne this]
    exact km j hj
theorem Ok.read (h : Ok K m B σ H ρ ws ts) (e : ρ[i]? = some (some (.d d))) : ∃ v, σ[i]? = some (some v) ∧ Ok K m B σ H ρ (v :: ws) (.d d :: ts) := by
  obtain ⟨v, h1, h2⟩ := h.take e
  refine ⟨v, h1, ?_⟩
  have q := h2.dup.back (i := i) h1
  have : (ρ.set i none).set i (some (.d d)) = ρ := by
    rw [List.set_set]
    apply List.ext_getElem?
    intro j
    by_cases z : i = j
    · subst z
      rw [List.getElem?_set_self (List.getElem?_eq_some_iff.mp e).1, e]
    · rw [List.getElem?_set_ne z]
  rw [this] at q
  exact q
theorem Ok.readFn {n : Str} (h : Ok K m B σ H ρ ws ts) (e : ρ[i]? = some (some (.fn n))) : ∃ a, σ[i]? = some (some (.ref a)) ∧ PySem.W.nsIn K mainGlobals n = some (some (.ref a)) ∧ Ok K m B σ H ρ (.ref a :: ws) (.fn n :: ts) := by
  obtain ⟨v, h1, h2⟩ := h.take e
  obtain ⟨a, ev, hn⟩ := h2.topFn
  subst ev
  exact ⟨a, h1, hn, h.pushFn hn⟩
theorem Ok.readScr {ns : List Int} (h : Ok K m B σ H ρ ws ts) (e : ρ[i]? = some (some (.scr ns))) : ∃ v, σ[i]? = some (some v) ∧ Ok K m B σ H ρ (v :: ws) (.scr ns :: ts) := by
  obtain ⟨v, h1, h2⟩ := h.take e
  refine ⟨v, h1, ?_⟩
  have h3 : Ok K m B σ H (ρ.set i none) (v :: v :: ws) (.scr ns :: .scr ns :: ts) := by
    obtain ⟨I, Fr, Fw, s, r, w, km⟩ := h2
    cases w with
    | cons a b =>
      cases a with
      | scr q => exact ⟨I, Fr, _, s, r, .cons (F := []) (.scr q) (.cons (F := []) (.scr q) b), km⟩
  have q := h3.back (i := i) h1
  have : (ρ.set i none).set i (some (.scr ns)) = ρ := by
    rw [List.set_set]
    apply List.ext_getElem?
    intro j
    by_cases z : i = j
    · subst z
      rw [List.getElem?_set_self (List.getElem?_eq_some_iff.mp e).1, e]
    · rw [List.getElem?_set_ne z]
  rw [this] at q
  exact q
theorem Ok.readFns {ns : List Str} (h : Ok K m B σ H ρ ws ts) (e : ρ[i]? = some (some (.fns ns))) : ∃ v, σ[i]? = some (some v) ∧ Ok K m B σ H ρ (v :: ws) (.fns ns :: ts) := by
  obtain ⟨v, h1, h2⟩ := h.take e
  refine ⟨v, h1, ?_⟩
  have h3 : Ok K m B σ H (ρ.set i none) (v :: v :: ws) (.fns ns :: .fns ns :: ts) := by
    obtain ⟨I, Fr, Fw, s, r, w, km⟩ := h2
    cases w with
    | cons a b =>
      cases a with
      | fns q1 q => exact ⟨I, Fr, _, s, r, .cons (F := []) (.fns q1 q) (.cons (F := []) (.fns q1 q) b), km⟩
  have q := h3.back (i := i) h1
  have : (ρ.set i none).set i (some (.fns ns)) = ρ := by
    rw [List.set_set]
    apply List.ext_getElem?
    intro j
    by_cases z : i = j
    · subst z
      rw [List.getElem?_set_self (List.getElem?_eq_some_iff.mp e).1, e]
    · rw [List.getElem?_set_ne z]
  rw [this] at q
  exact q
theorem Ok.dupExc {n : Str} {fs : List (Str × PyData)} (h : Ok K m B σ H ρ (x :: ws) (.exc n fs :: ts)) : Ok K m B σ H ρ (x :: x :: ws) (.exc n fs :: .exc n fs :: ts) := by
  obtain ⟨I, Fr, Fw, s, r, w, km⟩ := h
  cases w with
  | cons a b =>
    cases a with
    | exc q => exact ⟨I, Fr, _, s, r, .cons (F := []) (.exc q) (.cons (F := []) (.exc q) b), km⟩
theorem Ok.readExc {n : Str} {fs : List (Str × PyData)} (h : Ok K m B σ H ρ ws ts) (e : ρ[i]? = some (some (.exc n fs))) : ∃ v, σ[i]? = some (some v) ∧ Ok K m B σ H ρ (v :: ws) (.exc n fs :: ts) := by
  obtain ⟨v, h1, h2⟩ := h.take e
  have q := h2.dupExc.back (i := i) h1
  refine ⟨v, h1, ?_⟩
  have : (ρ.set i none).set i (some (.exc n fs)) = ρ := by
    rw [List.set_set]
    apply List.ext_getElem?
    intro j
    by_cases z : i = j
    · subst z
      rw [List.getElem?_set_self (List.getElem?_eq_some_iff.mp e).1, e]
    · rw [List.getElem?_set_ne z]
  rw [this] at q
  exact q
theorem Ok.dupFin {n : Str} {fs : List (Str × PyData)} (h : Ok K m B σ H ρ (x :: ws) (.fin n fs :: ts)) : Ok K m B σ H ρ (x :: x :: ws) (.fin n fs :: .fin n fs :: ts) := by
  obtain ⟨I, Fr, Fw, s, r, w, km⟩ := h
  cases w with
  | cons a b =>
    cases a with
    | fin q => exact ⟨I, Fr, _, s, r, .cons (F := []) (.fin q) (.cons (F := []) (.fin q) b), km⟩
theorem Ok.readFin {n : Str} {fs : List (Str × PyData)} (h : Ok K m B σ H ρ ws ts) (e : ρ[i]? = some (some (.fin n fs))) : ∃ v, σ[i]? = some (some v) ∧ Ok K m B σ H ρ (v :: ws) (.fin n fs :: ts) := by
  obtain ⟨v, h1, h2⟩ := h.take e
  have q := h2.dupFin.back (i := i) h1
  refine ⟨v, h1, ?_⟩
  have : (ρ.set i none).set i (some (.fin n fs)) = ρ := by
    rw [List.set_set]
    apply List.ext_getElem?
    intro j
    by_cases z : i = j
    · subst z
      rw [List.getElem?_set_self (List.getElem?_eq_some_iff.mp e).1, e]
    · rw [List.getElem?_set_ne z]
  rw [this] at q
  exact q
theorem Ok.dupFdct {kvs : List (Key × PyData)} (h : Ok K m B σ H ρ (x :: ws) (.fdct kvs :: ts)) : Ok K m B σ H ρ (x :: x :: ws) (.fdct kvs :: .fdct kvs :: ts) := by
  obtain ⟨I, Fr, Fw, s, r, w, km⟩ := h
  cases w with
  | cons a b =>
    cases a with
    | fdct q => exact ⟨I, Fr, _, s, r, .cons (F := []) (.fdct q) (.cons (F := []) (.fdct q) b), km⟩
theorem Ok.readFdct {kvs : List (Key × PyData)} (h : Ok K m B σ H ρ ws ts) (e : ρ[i]? = some (some (.fdct kvs))) : ∃ v, σ[i]? = some (some v) ∧ Ok K m B σ H ρ (v :: ws) (.fdct kvs :: ts) := by
  obtain ⟨v, h1, h2⟩ := h.take e
  have q := h2.dupFdct.back (i := i) h1
  refine ⟨v, h1, ?_⟩
  have : (ρ.set i none).set i (some (.fdct kvs)) = ρ := by
    rw [List.set_set]
    apply List.ext_getElem?
    intro j
    by_cases z : i = j
    · subst z
      rw [List.getElem?_set_self (List.getElem?_eq_some_iff.mp e).1, e]
    · rw [List.getElem?_set_ne z]
  rw [this] at q
  exact q
theorem Ok.new {o : HO} {p : Addr} (h : Ok K m B σ H ρ ws ts) (hp : H p = none) (q : ∀ I, Same I H → Dr K (upd I p o) (.ref p) d) : Ok K m B σ (upd H p o) ρ (.ref p :: ws) (.d d :: ts) := by
  obtain ⟨I, Fr, Fw, s, r, w, km⟩ := h
  have hI := (s.fresh hp).2.1
  have sm : Same I (upd I p o) := fun a u e => by rw [upd_ne (ne_of_none e hI)]; exact e
  have nf : ∀ a ∈ Fr ++ Fw, (upd H p o) a = H a := fun a z => upd_ne (show a ≠ p from fun e => s.thr a z (by rw [e]; exact hp))
  exact ⟨_, Fr, Fw, s.newD hp, r.mono sm fun a z => nf a (List.mem_append_left _ z), .cons (F := []) (.d (q I s.sub)) (w.mono sm fun a z => nf a (List.mem_append_right _ z)), km⟩
theorem Ok.len (h : Ok K m B σ H ρ ws ts) : σ.length = ρ.length := by
  obtain ⟨I, Fr, Fw, s, r, w, km⟩ := h
  exact r.len

def OkX (K : PySem.W.Frag) (m : List Bool) (cl : Str → Option Value) (B : Bs) (σ : St) (H : Hp) (ρ : Rho) (e : Exn) (c : Value) (d : Option Addr) : Prop :=
  ∃ I Fr vs, Sit B I H Fr ∧ RepR K I H σ ρ Fr ∧ Kept m B σ ∧ cl e.C = some c ∧ ((e.fs ≠ [] → ∃ d', d = some d' ∧ I d' = some (.xd ((e.fs.map (·.1)).zip vs))) ∧ (e.fs = [] → d = none)) ∧ DrAll K I vs (e.fs.map (·.2))

def PostG {α : Type} (K : PySem.W.Frag) (w : Wd) (B : Bs) (r : R α) (P : α → Rho → Prop) : Prop := match r with
  | .ok a ρ' => P a ρ'
  | .ex e ρ' => ∀ c d σ' H', OkX K w.m w.cl B σ' H' ρ' e c d → w.W c d σ' H'
  | .no => False
theorem PostG.bind {α β : Type} {w : Wd} {f : M α} {g : α → M β} {P : β → Rho → Prop} (h : PostG K w B (mbind f g ρ) P) : PostG K w B (f ρ) fun a ρ' => PostG K w B (g a ρ') P := by
  unfold mbind at h
  cases e : f ρ with
  | ok a ρ' => rw [e] at h; exact h
  | ex x ρ' => rw [e] at h; exact h
  | no => rw [e] at h; exact h
theorem PostG.mono {α : Type} {w : Wd} {r : R α} {P P' : α → Rho → Prop} (h : PostG K w B r P) (k : ∀ a ρ', P a ρ' → P' a ρ') : PostG K w B r P' := by
  cases r with
  | ok a ρ' => exact k _ _ h
  | ex x ρ' => exact h
  | no => exact h
theorem PostG.opt {α : Type} {w : Wd} {o : Option α} {P : α → Rho → Prop} (h : PostG K w B (mopt o ρ) P) : ∃ a, o = some a ∧ P a ρ := by
  cases o with
  | none => exact h.elim
  | some a => exact ⟨a, rfl, h⟩
end
def DenE (K : PySem.W.Frag) (w : Wd) (t : TE) (f : M T) : Prop := ∀ B σ H ρ ws ts Q, Ok K w.m B σ H ρ ws ts →
  PostG K w B (f ρ) (fun v ρ' => ∀ x H', Ok K w.m B σ H' ρ' (x :: ws) (v :: ts) → Q x H') → t σ H Q
def DenT (K : PySem.W.Frag) (w : Wd) (t : TT) (f : M Bool) : Prop := ∀ B σ H ρ ws ts Q, Ok K w.m B σ H ρ ws ts →
  PostG K w B (f ρ) (fun v ρ' => ∀ H', Ok K w.m B σ H' ρ' ws ts → Q v H') → t σ H Q
def Orig (σ : St) (os : List (Option Nat)) (xs : List V) : Prop := ∀ k i : Nat, os[k]? = some (some i) → ∃ x, xs[k]? = some x ∧ σ[i]? = some (some x)
def DenA (K : PySem.W.Frag) (w : Wd) (t : TA) (os : List (Option Nat)) (f : M (List T)) : Prop := ∀ B σ H ρ ws ts Q, Ok K w.m B σ H ρ ws ts →
  PostG K w B (f ρ) (fun vs ρ' => ∀ xs H', xs.length = vs.length → Ok K w.m B σ H' ρ' (xs ++ ws) (vs ++ ts) → Orig σ os xs → Q xs H') → t σ H Q
def PostS (K : PySem.W.Frag) (w : Wd) (B : Bs) (ws : List V) (ts : List T) (D : Ends) (fl : Fl) (ρ' : Rho) : Prop := match fl with
  | .nx => ∀ σ' H', Ok K w.m B σ' H' ρ' ws ts → D.nx σ' H'
  | .rt v => ∀ x σ' H', Ok K w.m B σ' H' ρ' (x :: ws) (v :: ts) → D.rt x H'
  | .bk => ∀ σ' H', Ok K w.m B σ' H' ρ' ws ts → D.bk σ' H'
  | .ct => ∀ σ' H', Ok K w.m B σ' H' ρ' ws ts → D.ct σ' H'
def DenS (K : PySem.W.Frag) (w : Wd) (t : TS) (f : M Fl) : Prop := ∀ B σ H ρ ws ts D, Ok K w.m B σ H ρ ws ts →
  PostG K w B (f ρ) (PostS K w B ws ts D) → t D σ H
def SameOut (S : List Nat) (σ σ' : St) : Prop := σ'.length = σ.length ∧ ∀ j : Nat, j ∉ S → σ'[j]? = σ[j]?
def DenG (K : PySem.W.Frag) (w : Wd) (t : TG) (S : List Nat) (f : T → M Unit) : Prop := ∀ B σ H ρ ws ts x v Q, Ok K w.m B σ H ρ (x :: ws) (v :: ts) →
  PostG K w B (f v ρ) (fun _ ρ' => ∀ σ' H', SameOut S σ σ' → Ok K w.m B σ' H' ρ' ws ts → Q σ' H') → t x σ H Q

structure DE (X : Cx) (w : Wd) (e : Expr) (f : M T) : Prop where
  ex : ∃ t, PE X e t ∧ DenE X.K w t f
structure DT (X : Cx) (w : Wd) (e : Expr) (f : M Bool) : Prop where
  ex : ∃ t, PT X e t ∧ DenT X.K w t f
structure DA (X : Cx) (w : Wd) (es : List Expr) (os : List (Option Nat)) (f : M (List T)) : Prop where
  ex : ∃ t, PA X es t ∧ DenA X.K w t os f
  len : ∀ vs ρ ρ', f ρ = .ok vs ρ' → vs.length = es.length
structure DS (X : Cx) (w : Wd) (st : Stmt) (f : M Fl) : Prop where
  ex : ∃ t, PS X st t ∧ DenS X.K w t f
structure DSs (X : Cx) (w : Wd) (st : List Stmt) (f : M Fl) : Prop where
  ex : ∃ t, PSs X st t ∧ DenS X.K w t f
structure DG (X : Cx) (w : Wd) (tg : Expr) (S : List Nat) (f : T → M Unit) : Prop where
  ex : ∃ t, PG X tg t ∧ DenG X.K w t S f

section
variable {X : Cx} {w : Wd} {a b c e : Expr} {es : List Expr} {fa fb fc f : M T} {pos : Pos} {ga gb : M Bool}
def dget (i : Nat) : M T := fun ρ => match ρ[i]? with
  | some (some (.d x)) => .ok (.d x) ρ
  | some (some (.fn a)) => .ok (.fn a) ρ
  | some (some (.scr ns)) => .ok (.scr ns) ρ
  | some (some (.exc n fs)) => .ok (.exc n fs) ρ
  | some (some (.fin n fs)) => .ok (.fin n fs) ρ
  | some (some (.fns ns)) => .ok (.fns ns) ρ
  | some (some (.fdct kvs)) => .ok (.fdct kvs) ρ
  | _ => .no
theorem de_v {t : TE} (h : PE X e t) (hd : DenE X.K w t f) : DE X w e f := ⟨t, h, hd⟩
theorem den_get {K : PySem.W.Frag} {i : Nat} : DenE K w (tVar i) (dget i) := fun B σ H ρ ws ts Q ok p => by
  unfold dget at p
  cases e : ρ[i]? with
  | none => rw [e] at p; exact p.elim
  | some o =>
    cases o with
    | none => rw [e] at p; exact p.elim
    | some t =>
      cases t with
      | d x =>
        rw [e] at p
        obtain ⟨v, h1, h2⟩ := ok.read e
        exact ⟨v, h1, p v H h2⟩
      | fn a =>
        rw [e] at p
        obtain ⟨b, h1, _, h2⟩ := ok.readFn e
        exact ⟨_, h1, p _ H h2⟩
      | scr ns =>
        rw [e] at p
        obtain ⟨v, h1, h2⟩ := ok.readScr e
        exact ⟨v, h1, p v H h2⟩
      | exc n fs =>
        rw [e] at p
        obtain ⟨v, h1, h2⟩ := ok.readExc e
        exact ⟨v, h1, p v H h2⟩
      | fin n fs =>
        rw [e] at p
        obtain ⟨v, h1, h2⟩ := ok.readFin e
        exact ⟨v, h1, p v H h2⟩
      | fns ns =>
        rw [e] at p
        obtain ⟨v, h1, h2⟩ := ok.readFns e
        exact ⟨v, h1, p v H h2⟩
      | fdct kvs =>
        rw [e] at p
        obtain ⟨v, h1, h2⟩ := ok.readFdct e
        exact ⟨v, h1, p v H h2⟩
      | _ => rw [e] at p; exact p.elim
theorem dv (i : Nat) {x : Str} (hN : X.N[i]? = some x := by rfl) (hv : Vis X.env.scope x := by first | exact Or.inl rfl | exact Or.inr (Or.inl rfl) | exact Or.inr (Or.inr rfl)) (hd : (x == ("__debug__" : Str)) = false := by decide)
    (hcd : (x == ("__classdict__" : Str)) = false := by decide) : DE X w (.Name x pos) (dget i) := de_v (pe_var hN hv hd hcd) den_get
def dtake (i : Nat) : M T := fun ρ => match ρ[i]? with
  | some (some t) => .ok t (ρ.set i none)
  | _ => .no
theorem den_take {K : PySem.W.Frag} {i : Nat} : DenE K w (tVar i) (dtake i) := fun B σ H ρ ws ts Q ok p => by
  unfold dtake at p
  cases e : ρ[i]? with
  | none => rw [e] at p; exact p.elim
  | some o =>
    cases o with
    | none => rw [e] at p; exact p.elim
    | some t =>
      rw [e] at p
      obtain ⟨v, h1, h2⟩ := ok.take e
      exact ⟨v, h1, p v H h2⟩
theorem dmv (i : Nat) {x : Str} (hN : X.N[i]? = some x := by rfl) (hv : Vis X.env.scope x := by first | exact Or.inl rfl | exact Or.inr (Or.inl rfl) | exact Or.inr (Or.inr rfl)) (hd : (x == ("__debug__" : Str)) = false := by decide)
    (hcd : (x == ("__classdict__" : Str)) = false := by decide) : DE X w (.Name x pos) (dtake i) := de_v (pe_var hN hv hd hcd) den_take
theorem den_c {K : PySem.W.Frag} {v : V} {d : PyData} (h : ∀ I, Dr K I v d) : DenE K w (tC v) (mret (.d d)) := fun B σ H ρ ws ts Q ok p => p v H (ok.push h)
theorem de_int {i : Int} {j} : DE X w (.Constant (.int i) j pos) (mret (.d (.int i))) := de_v pe_int (den_c fun _ => .int i)
theorem de_bl {i : Bool} {j} : DE X w (.Constant (.bool i) j pos) (mret (.d (.bool i))) := de_v pe_bl (den_c fun _ => .bl i)
theorem de_str {i : Str} {j} : DE X w (.Constant (.str i) j pos) (mret (.d (.str i))) := de_v pe_str (den_c fun _ => .str i)
theorem de_non {j} : DE X w (.Constant .none j pos) (mret (.d .none)) := de_v pe_non (den_c fun _ => .non)
structure GlobD (X : Cx) (x : Str) (d : PyData) : Prop where
  ex : ∃ v u, X.mg x = some u ∧ RelV v u ∧ ∀ I, Dr X.K I v d
theorem de_glob {x : Str} {d : PyData} (h : GlobD X x d) (hg : Gl X x) (hd : (x == ("__debug__" : Str)) = false := by decide) : DE X w (.Name x pos) (mret (.d d)) := by
  obtain ⟨v, u, h1, h2, h3⟩ := h.ex
  exact de_v (pe_glob hg h1 h2 hd) (den_c h3)

def OpD (K : PySem.W.Frag) (m : List Bool) (r : R2) (g : T → T → Option T) : Prop := ∀ B σ H ρ ws ts x y t u v (Q : VK), Ok K m B σ H ρ (y :: x :: ws) (u :: t :: ts) → g t u = some v →
  (∀ z H', Ok K m B σ H' ρ (z :: ws) (v :: ts) → Q z H') → r x y H Q
def dop (g : T → T → Option T) (fa fb : M T) : M T := mbind fa fun x => mbind fb fun y => mopt (g x y)
theorem den_op {K : PySem.W.Frag} {ta tb : TE} {r : R2} {g : T → T → Option T} (ha : DenE K w ta fa) (hb : DenE K w tb fb) (hg : OpD K w.m r g) : DenE K w (tOp r ta tb) (dop g fa fb) := fun B σ H ρ ws ts Q ok p => by
  refine ha B σ H ρ ws ts _ ok (p.bind.mono fun v ρ1 p1 x H1 ok1 => ?_)
  refine hb B σ H1 ρ1 _ _ _ ok1 (p1.bind.mono fun u ρ2 p2 y H2 ok2 => ?_)
  obtain ⟨z, e, q⟩ := p2.opt
  exact hg B σ H2 ρ2 ws ts x y v u z Q ok2 e q
theorem de_op {op : Operator} {r : R2} {g : T → T → Option T} (ho : OpR X (binaryOp op) r) (hg : OpD X.K w.m r g) (ha : DE X w a fa) (hb : DE X w b fb) : DE X w (.BinOp a op b pos) (dop g fa fb) := by
  obtain ⟨ta, pa, da⟩ := ha.ex
  obtain ⟨tb, pb, db⟩ := hb.ex
  exact de_v (pe_op ho pa pb) (den_op da db hg)
theorem de_cmp {op : CmpOp} {r : R2} {g : T → T → Option T} (ho : OpR X (compareOp op) r) (hg : OpD X.K w.m r g) (ha : DE X w a fa) (hb : DE X w b fb) (hm : behindInMarks op b = false) : DE X w (.Compare a [op] [b] pos) (dop g fa fb) := by
  obtain ⟨ta, pa, da⟩ := ha.ex
  obtain ⟨tb, pb, db⟩ := hb.ex
  exact de_v (pe_cmpR ho pa pb hm) (den_op da db hg)
theorem OpD.or {K : PySem.W.Frag} {m : List Bool} {r r' : R2} {g g' : T → T → Option T} (h : OpD K m r g) (h' : OpD K m r' g') : OpD K m (fun x y H Q => r x y H Q ∨ r' x y H Q) (fun t u => (g t u).or (g' t u)) :=
  fun B σ H ρ ws ts x y t u v Q ok e q => by
    have e : (g t u).or (g' t u) = some v := e
    cases e1 : g t u with
    | some z =>
      rw [e1] at e
      exact .inl (h B σ H ρ ws ts x y t u v Q ok (by rw [e1]; exact e) q)
    | none =>
      rw [e1] at e
      exact .inr (h' B σ H ρ ws ts x y t u v Q ok e q)
def onD (g : PyData → PyData → Option PyData) : T → T → Option T := fun t u => match t, u with
  | .d x, .d y => (g x y).map T.d
  | _, _ => none
theorem OpD.ofD {K : PySem.W.Frag} {m : List Bool} {r : R2} {g : PyData → PyData → Option PyData}
    (h : ∀ B σ H ρ ws ts x y t u v (Q : VK), Ok K m B σ H ρ (y :: x :: ws) (.d u :: .d t :: ts) → g t u = some v → (∀ z H', Ok K m B σ H' ρ (z :: ws) (.d v :: ts) → Q z H') → r x y H Q) : OpD K m r (onD g) :=
  fun B σ H ρ ws ts x y t u v Q ok e q => by
    cases t with
    | d t =>
      cases u with
      | d u =>
        unfold onD at e
        simp only at e
        cases e1 : g t u with
        | none => rw [e1] at e; cases e
        | some z =>
          rw [e1] at e
          cases e
          exact h B σ H ρ ws ts x y t u z Q ok e1 q
      | _ => cases e
    | _ => cases e

def dandV (fa fb : M T) : M T := mbind fa fun x => match x with
  | .d (.bool true) => fb
  | .d (.bool false) => mret (.d (.bool false))
  | _ => mno
def dorV (fa fb : M T) : M T := mbind fa fun x => match x with
  | .d (.bool false) => fb
  | .d (.bool true) => mret (.d (.bool true))
  | _ => mno
def dnotV (fa : M T) : M T := mbind fa fun x => match x with
  | .d (.bool b) => mret (.d (.bool (!b)))
  | _ => mno
theorem de_one {op} (h : DE X w a fa) : DE X w (.BoolOp op [a] pos) fa := by
  obtain ⟨ta, pa, da⟩ := h.ex
  exact de_v (pe_one pa) da
theorem de_and {rest : List Expr} (ha : DE X w a fa) (hb : DE X w (.BoolOp .And (b :: rest) pos) fb) : DE X w (.BoolOp .And (a :: b :: rest) pos) (dandV fa fb) := by
  obtain ⟨ta, pa, da⟩ := ha.ex
  obtain ⟨tb, pb, db⟩ := hb.ex
  refine de_v (pe_and pa pb) fun B σ H ρ ws ts Q ok p => ?_
  refine da B σ H ρ ws ts _ ok (p.bind.mono fun v ρ1 p1 x H1 ok1 => ?_)
  cases v with
  | d x =>
    cases x with
    | bool b =>
      have ex := ok1.topBl
      subst ex
      refine ⟨b, rfl, ?_⟩
      cases b with
      | true =>
        rw [if_pos rfl]
        exact db B σ H1 ρ1 ws ts Q ok1.pop p1
      | false =>
        rw [if_neg Bool.false_ne_true]
        exact p1 _ _ ok1
    | _ => exact p1.elim
  | _ => exact p1.elim
theorem de_or {rest : List Expr} (ha : DE X w a fa) (hb : DE X w (.BoolOp .Or (b :: rest) pos) fb) : DE X w (.BoolOp .Or (a :: b :: rest) pos) (dorV fa fb) := by
  obtain ⟨ta, pa, da⟩ := ha.ex
  obtain ⟨tb, pb, db⟩ := hb.ex
  refine de_v (pe_or pa pb) fun B σ H ρ ws ts Q ok p => ?_
  refine da B σ H ρ ws ts _ ok (p.bind.mono fun v ρ1 p1 x H1 ok1 => ?_)
  cases v with
  | d x =>
    cases x with
    | bool b =>
      have ex := ok1.topBl
      subst ex
      refine ⟨b, rfl, ?_⟩
      cases b with
      | false =>
        rw [if_neg Bool.false_ne_true]
        exact db B σ H1 ρ1 ws ts Q ok1.pop p1
      | true =>
        rw [if_pos rfl]
        exact p1 _ _ ok1
    | _ => exact p1.elim
  | _ => exact p1.elim
theorem de_not (ha : DE X w a fa) : DE X w (.UnaryOp .Not a pos) (dnotV fa) := by
  obtain ⟨ta, pa, da⟩ := ha.ex
  refine de_v (pe_not pa) fun B σ H ρ ws ts Q ok p => ?_
  refine da B σ H ρ ws ts _ ok (p.bind.mono fun v ρ1 p1 x H1 ok1 => ?_)
  cases v with
  | d x =>
    cases x with
    | bool b =>
      have ex := ok1.topBl
      subst ex
      exact ⟨b, rfl, p1 _ _ ok1.pop.bl⟩
    | _ => exact p1.elim
  | _ => exact p1.elim
def dval (fa : M T) : M Bool := mbind fa fun x => match x with
  | .d (.bool b) => mret b
  | _ => mno
theorem dt_val (ha : DE X w a fa) (he : ∀ whole, isTrue a X.env whole = (do let v ← whole; standAt a.pos; holding [v] (truthy v)) := by intro _; rfl) : DT X w a (dval fa) := by
  obtain ⟨ta, pa, da⟩ := ha.ex
  refine ⟨_, pt_val pa he, fun B σ H ρ ws ts Q ok p => ?_⟩
  refine da B σ H ρ ws ts _ ok (p.bind.mono fun v ρ1 p1 x H1 ok1 => ?_)
  cases v with
  | d x =>
    cases x with
    | bool b =>
      have ex := ok1.topBl
      subst ex
      exact ⟨b, rfl, p1 _ ok1.pop⟩
    | _ => exact p1.elim
  | _ => exact p1.elim
theorem dt_cmp {op : CmpOp} {r : R2} {g : T → T → Option T} (ho : OpR X (compareOp op) r) (hg : OpD X.K w.m r g) (ha : DE X w a fa) (hb : DE X w b fb) (hm : behindInMarks op b = false) : DT X w (.Compare a [op] [b] pos) (dval (dop g fa fb)) := by
  obtain ⟨ta, pa, da⟩ := ha.ex
  obtain ⟨tb, pb, db⟩ := hb.ex
  refine ⟨_, pt_cmpR ho pa pb hm, fun B σ H ρ ws ts Q ok p => ?_⟩
  refine den_op da db hg B σ H ρ ws ts _ ok (p.bind.mono fun v ρ1 p1 x H1 ok1 => ?_)
  cases v with
  | d x =>
    cases x with
    | bool b =>
      have ex := ok1.topBl
      subst ex
      exact ⟨b, rfl, p1 _ ok1.pop⟩
    | _ => exact p1.elim
  | _ => exact p1.elim
structure DW (X : Cx) (w : Wd) (e : Expr) (f : M Bool) : Prop where
  ex : ∃ t, PW X e t ∧ DenT X.K w t f
def dand (fa fb : M Bool) : M Bool := mbind fa fun x => if x = true then fb else mret false
def dor (fa fb : M Bool) : M Bool := mbind fa fun x => if x = true then mret true else fb
def dnot (fa : M Bool) : M Bool := mbind fa fun x => mret (!x)
theorem DW.t (h : DW X w e ga) : DT X w e ga := by
  obtain ⟨t, p, d⟩ := h.ex
  exact ⟨t, p.pt, d⟩
theorem dw_and1 (h : DT X w a ga) : DW X w (.BoolOp .And [a] pos) ga := by
  obtain ⟨t, p, d⟩ := h.ex
  exact ⟨t, pw_and1 p, d⟩
theorem dw_or1 (h : DT X w a ga) : DW X w (.BoolOp .Or [a] pos) ga := by
  obtain ⟨t, p, d⟩ := h.ex
  exact ⟨t, pw_or1 p, d⟩
theorem dw_and {rest : List Expr} (ha : DT X w a ga) (hb : DW X w (.BoolOp .And (b :: rest) pos) gb) : DW X w (.BoolOp .And (a :: b :: rest) pos) (dand ga gb) := by
  obtain ⟨t, p, d⟩ := ha.ex
  obtain ⟨t', p', d'⟩ := hb.ex
  refine ⟨_, pw_and p p', fun B σ H ρ ws ts Q ok q => ?_⟩
  refine d B σ H ρ ws ts _ ok (q.bind.mono fun v ρ1 p1 H1 ok1 => ?_)
  cases v with
  | true => rw [if_pos rfl] at p1 ⊢; exact d' B σ H1 ρ1 ws ts Q ok1 p1
  | false => rw [if_neg Bool.false_ne_true] at p1 ⊢; exact p1 _ ok1
theorem dw_or {rest : List Expr} (ha : DT X w a ga) (hb : DW X w (.BoolOp .Or (b :: rest) pos) gb) : DW X w (.BoolOp .Or (a :: b :: rest) pos) (dor ga gb) := by
  obtain ⟨t, p, d⟩ := ha.ex
  obtain ⟨t', p', d'⟩ := hb.ex
  refine ⟨_, pw_or p p', fun B σ H ρ ws ts Q ok q => ?_⟩
  refine d B σ H ρ ws ts _ ok (q.bind.mono fun v ρ1 p1 H1 ok1 => ?_)
  cases v with
  | true => rw [if_pos rfl] at p1 ⊢; exact p1 _ ok1
  | false => rw [if_neg Bool.false_ne_true] at p1 ⊢; exact d' B σ H1 ρ1 ws ts Q ok1 p1
theorem dt_not (ha : DT X w a ga) : DT X w (.UnaryOp .Not a pos) (dnot ga) := by
  obtain ⟨t, p, d⟩ := ha.ex
  refine ⟨_, pt_not p, fun B σ H ρ ws ts Q ok q => ?_⟩
  exact d B σ H ρ ws ts _ ok (q.bind.mono fun v ρ1 p1 H1 ok1 => p1 _ ok1)
variable {st : Stmt} {rest : List Stmt} {F G : M Fl}
theorem dss_nil : DSs X w [] (mret .nx) := ⟨_, pss_nil, fun B σ H ρ ws ts D ok p => p σ H ok⟩
theorem den_seq {K : PySem.W.Frag} {t u : TS} (h1 : DenS K w t F) (h2 : DenS K w u G) : DenS K w (tSeq t u) (mseq F G) := fun B σ H ρ ws ts D ok p => by
  refine h1 B σ H ρ ws ts _ ok (p.bind.mono fun fl ρ1 p1 => ?_)
  cases fl with
  | nx => exact fun σ' H' ok' => h2 B σ' H' ρ1 ws ts D ok' p1
  | rt v => exact p1
  | bk => exact p1
  | ct => exact p1
theorem dss_cons (h1 : DS X w st F) (h2 : DSs X w rest G) : DSs X w (st :: rest) (mseq F G) := by
  obtain ⟨t, p, d⟩ := h1.ex
  obtain ⟨t', p', d'⟩ := h2.ex
  exact ⟨_, pss_cons p p', den_seq d d'⟩
theorem dss_one (h1 : DS X w st F) : DSs X w [st] F := by
  obtain ⟨t, p, d⟩ := h1.ex
  exact ⟨_, pss_one p, d⟩
def sdrop (f : M T) : M Fl := mbind f fun _ => mret .nx
theorem ds_expr (he : DE X w e f) (hs : swapsWith e none pos.line X.env = pure false := by rfl) : DS X w (.Expr e pos) (sdrop f) := by
  obtain ⟨t, p, d⟩ := he.ex
  refine ⟨_, ps_expr p hs, fun B σ H ρ ws ts D ok q => ?_⟩
  exact d B σ H ρ ws ts _ ok (q.bind.mono fun v ρ1 p1 x H1 ok1 => p1 σ H1 ok1.pop)
def sret (f : M T) : M Fl := mbind f fun v => mret (.rt v)
theorem ds_ret (he : DE X w e f) : DS X w (.Return (some e) pos) (sret f) := by
  obtain ⟨t, p, d⟩ := he.ex
  refine ⟨_, ps_ret p, fun B σ H ρ ws ts D ok q => ?_⟩
  exact d B σ H ρ ws ts _ ok (q.bind.mono fun v ρ1 p1 x H1 ok1 => p1 x σ H1 ok1)
def sif (g : M Bool) (F G : M Fl) : M Fl := mbind g fun b => if b = true then F else G
theorem ds_if {sa sb : List Stmt} (hc : DT X w c ga) (ha : DSs X w sa F) (hb : DSs X w sb G) : DS X w (.If c sa sb pos) (sif ga F G) := by
  obtain ⟨t, p, d⟩ := hc.ex
  obtain ⟨ta, pa, da⟩ := ha.ex
  obtain ⟨tb, pb, db⟩ := hb.ex
  refine ⟨_, ps_if p pa pb, fun B σ H ρ ws ts D ok q => ?_⟩
  refine d B σ H ρ ws ts _ ok (q.bind.mono fun v ρ1 p1 H1 ok1 => ?_)
  cases v with
  | true => rw [if_pos rfl] at p1 ⊢; exact da B σ H1 ρ1 ws ts D ok1 p1
  | false => rw [if_neg Bool.false_ne_true] at p1 ⊢; exact db B σ H1 ρ1 ws ts D ok1 p1
def NotM (w : Wd) (i : Nat) : Prop := w.m[i]? ≠ some true
theorem dg_name {i : Nat} {x : Str} (hN : X.N.Nodup) (hi : X.N[i]? = some x) (hx : Loc X.env.scope x) (hm : NotM w i) (hf : X.fn x = true ∨ X.env.scope.names.lookup x = some .local := by first | exact .inl rfl | exact .inr rfl | assumption) : DG X w (.Name x pos) [i] (mset i) :=
  ⟨_, pg_name hN hi hx hf, fun B σ H ρ ws ts x v Q ok p => p _ H ⟨by rw [List.length_set], fun j hj => List.getElem?_set_ne (fun e => hj (by rw [e]; exact List.mem_singleton_self _))⟩ (ok.store hm)⟩
def sset (i : Nat) (f : M T) : M Fl := mbind f fun v => mbind (mset i v) fun _ => mret .nx
theorem ds_set (i : Nat) {x : Str} {pos' : Pos} (hN : X.N.Nodup) (he : DE X w e f) (hm : NotM w i := by intro h; cases h) (hi : X.N[i]? = some x := by rfl) (hx : Loc X.env.scope x := by first | exact Or.inl rfl | exact Or.inr rfl)
    (hs : swapsWith e (some (.Name x pos')) pos.line X.env = pure false := by rfl) (hf : X.fn x = true ∨ X.env.scope.names.lookup x = some .local := by first | exact .inl rfl | exact .inr rfl | assumption) : DS X w (.Assign [.Name x pos'] e pos) (sset i f) := by
  obtain ⟨t, p, d⟩ := he.ex
  refine ⟨_, ps_set (i := i) hN hi hx p hs hf, fun B σ H ρ ws ts D ok q => ?_⟩
  exact d B σ H ρ ws ts _ ok (q.bind.mono fun v ρ1 p1 x H1 ok1 => p1 _ H1 (ok1.store hm))
end
end DL
end
section
set_option Elab.async false
set_option linter.all false
set_option maxRecDepth 100000
set_option maxHeartbeats 4000000
namespace DL
open PySem L2
def lim : Nat := 100000
theorem lim_le {n : Nat} (h : n ≤ lim) : n ≤ sizeLine := Nat.le_trans h (by decide)
theorem lim_lt {n : Nat} (h : n < lim) : n < sizeLine := Nat.lt_of_lt_of_le h (by decide)

section
variable {K : PySem.W.Frag} {m : List Bool} {B : Bs} {σ : St} {H : Hp} {ρ : Rho} {ws : List V} {ts : List T} {x y v : V} {t u : T} {d e : PyData}
theorem Ok.topList {ds : List PyData} (h : Ok K m B σ H ρ (x :: ws) (.d (.list ds) :: ts)) : ∃ a vs, x = .ref a ∧ H a = some (.lst vs) ∧ DrAll K H vs ds := by
  have q := h.topD
  cases q with
  | lst p r => exact ⟨_, _, rfl, p, r⟩
theorem Ok.topTup {ds : List PyData} (h : Ok K m B σ H ρ (x :: ws) (.d (.tuple ds) :: ts)) : ∃ a vs, x = .ref a ∧ SqT K H a vs ∧ DrAll K H vs ds := by
  have q := h.topD
  cases q with
  | tup p r => exact ⟨_, _, rfl, p, r⟩
theorem Ok.topScr {ns : List Int} (h : Ok K m B σ H ρ (x :: ws) (.scr ns :: ts)) : ∃ a, x = .ref a ∧ SqL K H a (ns.map V.int) := by
  obtain ⟨I, Fr, Fw, s, r, w, km⟩ := h
  cases w with
  | cons a b =>
    cases a with
    | scr q => exact ⟨_, rfl, s.sub.seq q⟩
theorem Ok.newList {vs : List V} {ds : List PyData} {p : Addr} (h : Ok K m B σ H ρ ws ts) (hp : H p = none)
    (q : ∀ I Fw, Same I H → RepTs K I H ws ts Fw → DrAll K I vs ds) : Ok K m B σ (upd H p (.lst vs)) ρ (.ref p :: ws) (.d (.list ds) :: ts) := by
  obtain ⟨I, Fr, Fw, s, r, w, km⟩ := id h
  have hI := (s.fresh hp).2.1
  have sm : Same I (upd I p (.lst vs)) := fun a u e => by rw [upd_ne (ne_of_none e hI)]; exact e
  have nf : ∀ a ∈ Fr ++ Fw, (upd H p (.lst vs)) a = H a := fun a z => upd_ne (show a ≠ p from fun e => s.thr a z (by rw [e]; exact hp))
  exact ⟨_, Fr, Fw, s.newD hp, r.mono sm fun a z => nf a (List.mem_append_left _ z), .cons (F := []) (.d (.lst upd_same (drAll_mono sm (q I Fw s.sub w)))) (w.mono sm fun a z => nf a (List.mem_append_right _ z)), km⟩
theorem Ok.newTup {vs : List V} {ds : List PyData} {p : Addr} (h : Ok K m B σ H ρ ws ts) (hp : H p = none)
    (q : ∀ I Fw, Same I H → RepTs K I H ws ts Fw → DrAll K I vs ds) : Ok K m B σ (upd H p (.tup vs)) ρ (.ref p :: ws) (.d (.tuple ds) :: ts) := by
  obtain ⟨I, Fr, Fw, s, r, w, km⟩ := id h
  have hI := (s.fresh hp).2.1
  have sm : Same I (upd I p (.tup vs)) := fun a u e => by rw [upd_ne (ne_of_none e hI)]; exact e
  have nf : ∀ a ∈ Fr ++ Fw, (upd H p (.tup vs)) a = H a := fun a z => upd_ne (show a ≠ p from fun e => s.thr a z (by rw [e]; exact hp))
  exact ⟨_, Fr, Fw, s.newD hp, r.mono sm fun a z => nf a (List.mem_append_left _ z), .cons (F := []) (.d (.tup (SqT.of upd_same) (drAll_mono sm (q I Fw s.sub w)))) (w.mono sm fun a z => nf a (List.mem_append_right _ z)), km⟩
theorem parts_lst {I : Hp} {a : Addr} {vs : List V} {ds : List PyData} {Fw : List Addr} (sb : Same I H) (hv : H a = some (.lst vs)) (w : RepTs K I H (.ref a :: ws) (.d (.list ds) :: ts) Fw) : DrAll K I vs ds := by
  cases w with
  | cons q r =>
    cases q with
    | d q =>
      cases q with
      | lst p r =>
        have := sb _ _ p
        rw [hv] at this
        cases this
        exact r
theorem Ok.pop' (h : Ok K m B σ H ρ (x :: ws) (t :: ts)) (q : Ok K m B σ H ρ ws ts → Ok K m B σ H ρ (y :: ws) (u :: ts)) : Ok K m B σ H ρ (y :: ws) (u :: ts) := q h.pop
end
def pAdd : PyData → PyData → Option PyData
  | .int i, .int j => some (.int (i + j))
  | .str a, .str b => if a.length + b.length ≤ lim then some (.str (a ++ b)) else none
  | .list a, .list b => if a.length + b.length ≤ lim then some (.list (a ++ b)) else none
  | .tuple a, .tuple b => if a.length + b.length ≤ lim then some (.tuple (a ++ b)) else none
  | _, _ => none
def rAdd4 (K : PySem.W.Frag) : R2 := fun x y H Q => (∃ i j, x = .int i ∧ y = .int j ∧ Q (.int (i + j)) H) ∨ (∃ i j, x = .str i ∧ y = .str j ∧ i.length + j.length ≤ sizeLine ∧ Q (.str (i ++ j)) H) ∨ rCat x y H Q ∨ rCatA K x y H Q
theorem op_add4 {X : Cx} : OpR X (binaryOp .Add) (rAdd4 X.K) := OpR.or op_add (OpR.or op_add_str (OpR.or op_cat op_catA))
theorem reqs {α : Type} {c : Prop} [Decidable c] {a b : α} (h : (if c then some a else none) = some b) : c ∧ a = b := by
  by_cases q : c
  · rw [if_pos q] at h; exact ⟨q, Option.some.inj h⟩
  · rw [if_neg q] at h; cases h
section
variable {K : PySem.W.Frag} {m : List Bool}
theorem tup_items {I H : Hp} {x : V} {ws : List V} {ts : List T} {ds : List PyData} {Fw : List Addr} (w : RepTs K I H (x :: ws) (.d (.tuple ds) :: ts) Fw) : ∃ a vs, x = .ref a ∧ SqT K I a vs ∧ DrAll K I vs ds := by
  cases w with
  | cons q r =>
    cases q with
    | d q =>
      cases q with
      | tup p r => exact ⟨_, _, rfl, p, r⟩
theorem lst_items {I H : Hp} {x : V} {ws : List V} {ts : List T} {ds : List PyData} {Fw : List Addr} (w : RepTs K I H (x :: ws) (.d (.list ds) :: ts) Fw) : ∃ a vs, x = .ref a ∧ I a = some (.lst vs) ∧ DrAll K I vs ds := by
  cases w with
  | cons q r =>
    cases q with
    | d q =>
      cases q with
      | lst p r => exact ⟨_, _, rfl, p, r⟩
theorem RepTs.tail {I H : Hp} {x : V} {t : T} {ws : List V} {ts : List T} {F : List Addr} (w : RepTs K I H (x :: ws) (t :: ts) F) : ∃ G, RepTs K I H ws ts G := by
  cases w with
  | cons _ r => exact ⟨_, r⟩
theorem Ok.tup2 {B : Bs} {σ : St} {H : Hp} {ρ : Rho} {ws : List V} {ts : List T} {x y : V} {ds es : List PyData} (h : Ok K m B σ H ρ (y :: x :: ws) (.d (.tuple es) :: .d (.tuple ds) :: ts)) :
    ∃ a b vs us, x = .ref a ∧ y = .ref b ∧ SqT K H a vs ∧ SqT K H b us ∧ vs.length = ds.length ∧ us.length = es.length ∧
      ∀ p o, H p = none → (o = .tup (vs ++ us) → Ok K m B σ (upd H p o) ρ (.ref p :: ws) (.d (.tuple (ds ++ es)) :: ts)) := by
  obtain ⟨I, Fr, Fw, s, r, w, km⟩ := id h
  obtain ⟨b, us, rfl, hb, db⟩ := tup_items w
  obtain ⟨G, w'⟩ := w.tail
  obtain ⟨a, vs, rfl, ha, da⟩ := tup_items w'
  refine ⟨a, b, vs, us, rfl, rfl, st_mono s.sub ha, st_mono s.sub hb, da.len, db.len, fun p o hp ho => ?_⟩
  subst ho
  have hI := (s.fresh hp).2.1
  have sm : Same I (upd I p (.tup (vs ++ us))) := fun a u e => by rw [upd_ne (ne_of_none e hI)]; exact e
  have nf : ∀ a ∈ Fr ++ Fw, (upd H p (.tup (vs ++ us))) a = H a := fun a z => upd_ne (show a ≠ p from fun e => s.thr a z (by rw [e]; exact hp))
  exact Ok.pop2 (Ok.pop2 ⟨_, Fr, Fw, s.newD hp, r.mono sm fun a z => nf a (List.mem_append_left _ z), .cons (F := []) (.d (.tup (SqT.of upd_same) (drAll_mono sm (da.append db)))) (w.mono sm fun a z => nf a (List.mem_append_right _ z)), km⟩)
theorem Ok.lst2 {B : Bs} {σ : St} {H : Hp} {ρ : Rho} {ws : List V} {ts : List T} {x y : V} {ds es : List PyData} (h : Ok K m B σ H ρ (y :: x :: ws) (.d (.list es) :: .d (.list ds) :: ts)) :
    ∃ a b vs us, x = .ref a ∧ y = .ref b ∧ H a = some (.lst vs) ∧ H b = some (.lst us) ∧ vs.length = ds.length ∧ us.length = es.length ∧
      ∀ p o, H p = none → (o = .lst (vs ++ us) → Ok K m B σ (upd H p o) ρ (.ref p :: ws) (.d (.list (ds ++ es)) :: ts)) := by
  obtain ⟨I, Fr, Fw, s, r, w, km⟩ := id h
  obtain ⟨b, us, rfl, hb, db⟩ := lst_items w
  obtain ⟨G, w'⟩ := w.tail
  obtain ⟨a, vs, rfl, ha, da⟩ := lst_items w'
  refine ⟨a, b, vs, us, rfl, rfl, s.sub _ _ ha, s.sub _ _ hb, da.len, db.len, fun p o hp ho => ?_⟩
  subst ho
  have hI := (s.fresh hp).2.1
  have sm : Same I (upd I p (.lst (vs ++ us))) := fun a u e => by rw [upd_ne (ne_of_none e hI)]; exact e
  have nf : ∀ a ∈ Fr ++ Fw, (upd H p (.lst (vs ++ us))) a = H a := fun a z => upd_ne (show a ≠ p from fun e => s.thr a z (by rw [e]; exact hp))
  exact Ok.pop2 (Ok.pop2 ⟨_, Fr, Fw, s.newD hp, r.mono sm fun a z => nf a (List.mem_append_left _ z), .cons (F := []) (.d (.lst upd_same (drAll_mono sm (da.append db)))) (w.mono sm fun a z => nf a (List.mem_append_right _ z)), km⟩)
theorem Ok.nil_tup {B : Bs} {σ : St} {H : Hp} {ρ : Rho} {ws : List V} {ts : List T} {x y : V} {t : T} (h : Ok K m B σ H ρ (y :: x :: ws) (.d d :: t :: ts)) : Ok K m B σ H ρ (y :: ws) (.d d :: ts) := h.swap.pop
theorem od_add : OpD K m (rAdd4 K) (onD pAdd) := OpD.ofD fun B σ H ρ ws ts x y t u v Q ok e q => by
  unfold pAdd at e
  split at e
  · cases e
    have hy := ok.topInt
    have hx := ok.pop.topInt
    subst hx hy
    exact .inl ⟨_, _, rfl, rfl, q _ _ ok.pop.pop.int⟩
  · obtain ⟨hl, e⟩ := reqs e
    subst e
    have hy := ok.topStr
    have hx := ok.pop.topStr
    subst hx hy
    exact .inr (.inl ⟨_, _, rfl, rfl, lim_le hl, q _ _ ok.pop.pop.str⟩)
  · obtain ⟨hl, e⟩ := reqs e
    subst e
    obtain ⟨a, b, vs, us, rfl, rfl, ha, hb, l1, l2, k⟩ := ok.lst2
    exact .inr (.inr (.inl ⟨a, b, vs, us, rfl, rfl, ha, hb, by rw [l1, l2]; exact lim_le hl, fun p hp => q _ _ (k p _ hp rfl)⟩))
  · obtain ⟨hl, e⟩ := reqs e
    subst e
    obtain ⟨a, b, vs, us, rfl, rfl, ha, hb, l1, l2, k⟩ := ok.tup2
    refine .inr (.inr (.inr ⟨a, b, vs, us, rfl, rfl, ha, hb, by rw [l1, l2]; exact lim_le hl, fun z => ?_, fun z1 z2 => ?_, fun z1 z2 p hp => q _ _ (k p _ hp rfl)⟩))
    · rename_i ds es
      have hd : ds = [] := List.eq_nil_of_length_eq_zero (by rw [← l1, z]; rfl)
      subst hd
      exact q _ _ ok.nil_tup
    · rename_i ds es
      have he : es = [] := List.eq_nil_of_length_eq_zero (by rw [← l2, z2]; rfl)
      subst he
      rw [List.append_nil] at q
      exact q _ _ ok.pop
  · cases e

def pII (g : Int → Int → Option PyData) : PyData → PyData → Option PyData
  | .int i, .int j => g i j
  | _, _ => none
theorem od_I0 {g : Int → Int → Int} : OpD K m (rI0 fun i j => .int (g i j)) (onD (pII fun i j => some (.int (g i j)))) := OpD.ofD fun B σ H ρ ws ts x y t u v Q ok e q => by
  unfold pII at e
  split at e
  · cases e
    have hy := ok.topInt
    have hx := ok.pop.topInt
    subst hx hy
    exact ⟨_, _, rfl, rfl, q _ _ ok.pop.pop.int⟩
  · cases e
theorem od_B0 {g : Int → Int → Bool} : OpD K m (rI0 fun i j => .bl (g i j)) (onD (pII fun i j => some (.bool (g i j)))) := OpD.ofD fun B σ H ρ ws ts x y t u v Q ok e q => by
  unfold pII at e
  split at e
  · cases e
    have hy := ok.topInt
    have hx := ok.pop.topInt
    subst hx hy
    exact ⟨_, _, rfl, rfl, q _ _ ok.pop.pop.bl⟩
  · cases e
theorem od_I {C : Int → Int → Prop} {g : Int → Int → Int} {c : Int → Int → Bool} (hc : ∀ i j, c i j = true → C i j) :
    OpD K m (rI C fun i j => .int (g i j)) (onD (pII fun i j => if c i j = true then some (.int (g i j)) else none)) := OpD.ofD fun B σ H ρ ws ts x y t u v Q ok e q => by
  unfold pII at e
  split at e
  · obtain ⟨h1, h2⟩ := reqs e
    subst h2
    have hy := ok.topInt
    have hx := ok.pop.topInt
    subst hx hy
    exact ⟨_, _, rfl, rfl, hc _ _ h1, q _ _ ok.pop.pop.int⟩
  · cases e
def pSub : PyData → PyData → Option PyData := pII fun i j => some (.int (i - j))
theorem od_sub : OpD K m (rI0 fun i j => .int (i - j)) (onD pSub) := od_I0
def cMod (_ j : Int) : Bool := decide (0 < j)
def pMod : PyData → PyData → Option PyData := pII fun i j => if cMod i j = true then some (.int (i % j)) else none
theorem od_mod : OpD K m (rI (fun _ j => 0 < j) fun i j => .int (i % j)) (onD pMod) := od_I fun i j h => of_decide_eq_true h
def cDiv (_ j : Int) : Bool := decide (0 < j) && decide (j < 1073741824)
def pDiv : PyData → PyData → Option PyData := pII fun i j => if cDiv i j = true then some (.int (i / j)) else none
theorem od_div : OpD K m (rI CDiv fun i j => .int (i / j)) (onD pDiv) := od_I fun i j h => by
  have h := (Bool.and_eq_true _ _).mp h
  exact ⟨of_decide_eq_true h.1, of_decide_eq_true h.2⟩
def cPow (i j : Int) : Bool := decide (0 ≤ j) && decide (j ≤ 1000) && decide (i.natAbs < 1000)
def pPow : PyData → PyData → Option PyData := pII fun i j => if cPow i j = true then some (.int (i ^ j.toNat)) else none
theorem od_pow : OpD K m (rI CPow fun i j => .int (i ^ j.toNat)) (onD pPow) := od_I fun i j h => by
  have h := (Bool.and_eq_true _ _).mp h
  have h1 := (Bool.and_eq_true _ _).mp h.1
  have a := of_decide_eq_true h1.1
  have b := of_decide_eq_true h1.2
  have c := of_decide_eq_true h.2
  exact ⟨a, by omega, by omega⟩

def strLt (a b : Str) : Bool := decide (a.cps.toList < b.cps.toList)
def pLt : PyData → PyData → Option PyData
  | .int i, .int j => some (.bool (decide (i < j)))
  | .str a, .str b => some (.bool (strLt a b))
  | _, _ => none
def pGt : PyData → PyData → Option PyData
  | .int i, .int j => some (.bool (decide (j < i)))
  | _, _ => none
def pGe : PyData → PyData → Option PyData
  | .int i, .int j => some (.bool (decide (j ≤ i)))
  | _, _ => none
theorem od_cmpI {g : Int → Int → Bool} {p : PyData → PyData → Option PyData} (hp : p = pII fun i j => some (.bool (g i j))) : OpD K m (rI0 fun i j => .bl (g i j)) (onD p) := by
  subst hp
  exact od_B0
theorem od_gt : OpD K m (rI0 fun i j => .bl (decide (j < i))) (onD pGt) := od_cmpI (by funext a b; cases a <;> cases b <;> rfl)
theorem od_ge : OpD K m (rI0 fun i j => .bl (decide (j ≤ i))) (onD pGe) := od_cmpI (by funext a b; cases a <;> cases b <;> rfl)
end
section
variable {X : Cx}
def okEq (d e : PyData) : Bool := d.plain && e.plain && decide (min d.depth e.depth ≤ 60)
def rEqP (K : PySem.W.Frag) (neg : Bool) : R2 := fun x y H Q => ∃ d e, Dr K H x d ∧ Dr K H y e ∧ okEq d e = true ∧ Q (.bl (if neg then !PyData.eqv d e else PyData.eqv d e)) H
theorem okEq_of {d e : PyData} (h : okEq d e = true) : d.plain = true ∧ e.plain = true ∧ min d.depth e.depth ≤ 60 := by
  have h := (Bool.and_eq_true _ _).mp h
  have h1 := (Bool.and_eq_true _ _).mp h.1
  exact ⟨h1.1, h1.2, of_decide_eq_true h.2⟩
theorem op_eqP (hu : X.A.units + 64 < cLine) : OpR X (compareOp .Eq) (rEqP X.K false) := by
  intro pins s σ H x y v u Q I rx ry ⟨d, e, hd, he, k, q⟩
  obtain ⟨p1, p2, p3⟩ := okEq_of k
  obtain ⟨as, r1⟩ := Dp.reads I d x v (hd.dp p1) rx
  obtain ⟨bs, r2⟩ := Dp.reads I e y u (he.dp p2) ry
  exact SeqAt.eq_plain r1 r2 p1 p2 (by omega) ⟨.bl _, H, I, rfl, q⟩
theorem op_neP (hu : X.A.units + 64 < cLine) : OpR X (compareOp .NotEq) (rEqP X.K true) := by
  intro pins s σ H x y v u Q I rx ry ⟨d, e, hd, he, k, q⟩
  obtain ⟨p1, p2, p3⟩ := okEq_of k
  obtain ⟨as, r1⟩ := Dp.reads I d x v (hd.dp p1) rx
  obtain ⟨bs, r2⟩ := Dp.reads I e y u (he.dp p2) ry
  exact SeqAt.ne_plain r1 r2 p1 p2 (by omega) ⟨.bl _, H, I, rfl, q⟩
def pEq (d e : PyData) : Option PyData := if okEq d e = true then some (.bool (PyData.eqv d e)) else none
def pNe (d e : PyData) : Option PyData := if okEq d e = true then some (.bool (!PyData.eqv d e)) else none
theorem od_eq {K : PySem.W.Frag} {m : List Bool} : OpD K m (rEqP K false) (onD pEq) := OpD.ofD fun B σ H ρ ws ts x y t u v Q ok e q => by
  obtain ⟨h, e⟩ := reqs e
  subst e
  exact ⟨t, u, ok.pop.topD, ok.topD, h, q _ _ ok.pop.pop.bl⟩
theorem od_ne {K : PySem.W.Frag} {m : List Bool} : OpD K m (rEqP K true) (onD pNe) := OpD.ofD fun B σ H ρ ws ts x y t u v Q ok e q => by
  obtain ⟨h, e⟩ := reqs e
  subst e
  exact ⟨t, u, ok.pop.topD, ok.topD, h, q _ _ ok.pop.pop.bl⟩
def okIn (d : PyData) (ds : List PyData) : Bool := d.plain && PyData.plainAll ds && decide (min (PyData.depthAll ds) d.depth ≤ 60)
def anyEq (d : PyData) (ds : List PyData) : Bool := ds.any fun y => PyData.eqv y d
def rInP (K : PySem.W.Frag) (neg : Bool) : R2 := fun x y H Q => (∃ d ds, Dr K H x d ∧ (Dr K H y (.list ds) ∨ Dr K H y (.tuple ds)) ∧ okIn d ds = true ∧ Q (.bl (if neg then !anyEq d ds else anyEq d ds)) H) ∨
  ∃ (a z : Str), x = .str a ∧ y = .str z ∧ Q (.bl (if neg then !(!(Builtin.Str.occurrences z a 0 z.length 1).isEmpty) else !(Builtin.Str.occurrences z a 0 z.length 1).isEmpty)) H
theorem op_inP (hu : X.A.units + 64 < cLine) : OpR X (compareOp .In) (rInP X.K false) := by
  intro pins s σ H x y v u Q I rx ry h
  rcases h with ⟨d, ds, hd, hy, k, q⟩ | ⟨a, z, rfl, rfl, q⟩
  · have k := (Bool.and_eq_true _ _).mp k
    have k1 := (Bool.and_eq_true _ _).mp k.1
    have k2 := of_decide_eq_true k.2
    obtain ⟨as, r1⟩ := Dp.reads I d x v (hd.dp k1.1) rx
    rcases hy with hy | hy
    · obtain ⟨bs, r2⟩ := Dp.reads I (.list ds) y u (hy.dp (by simpa [PyData.plain] using k1.2)) ry
      exact SeqAt.in_list_data r2 r1 k1.2 k1.1 (by omega) ⟨.bl _, H, I, rfl, q⟩
    · obtain ⟨bs, r2⟩ := Dp.reads I (.tuple ds) y u (hy.dp (by simpa [PyData.plain] using k1.2)) ry
      exact SeqAt.in_tuple_data r2 r1 k1.2 k1.1 (by omega) ⟨.bl _, H, I, rfl, q⟩
  · exact op_in_str pins s σ H _ _ v u Q I rx ry ⟨a, z, rfl, rfl, q⟩
theorem op_notInP (hu : X.A.units + 64 < cLine) : OpR X (compareOp .NotIn) (rInP X.K true) := by
  intro pins s σ H x y v u Q I rx ry h
  rcases h with ⟨d, ds, hd, hy, k, q⟩ | ⟨a, z, rfl, rfl, q⟩
  · have k := (Bool.and_eq_true _ _).mp k
    have k1 := (Bool.and_eq_true _ _).mp k.1
    have k2 := of_decide_eq_true k.2
    obtain ⟨as, r1⟩ := Dp.reads I d x v (hd.dp k1.1) rx
    rcases hy with hy | hy
    · obtain ⟨bs, r2⟩ := Dp.reads I (.list ds) y u (hy.dp (by simpa [PyData.plain] using k1.2)) ry
      exact SeqAt.notIn_list_data r2 r1 k1.2 k1.1 (by omega) ⟨.bl _, H, I, rfl, q⟩
    · obtain ⟨bs, r2⟩ := Dp.reads I (.tuple ds) y u (hy.dp (by simpa [PyData.plain] using k1.2)) ry
      exact SeqAt.notIn_tuple_data r2 r1 k1.2 k1.1 (by omega) ⟨.bl _, H, I, rfl, q⟩
  · exact op_notIn_str pins s σ H _ _ v u Q I rx ry ⟨a, z, rfl, rfl, q⟩
def strIn (a z : Str) : Bool := !(Builtin.Str.occurrences z a 0 z.length 1).isEmpty
def pIn : PyData → PyData → Option PyData
  | d, .list ds => if okIn d ds = true then some (.bool (anyEq d ds)) else none
  | d, .tuple ds => if okIn d ds = true then some (.bool (anyEq d ds)) else none
  | .str a, .str z => some (.bool (strIn a z))
  | _, _ => none
def pNotIn : PyData → PyData → Option PyData
  | d, .list ds => if okIn d ds = true then some (.bool (!anyEq d ds)) else none
  | d, .tuple ds => if okIn d ds = true then some (.bool (!anyEq d ds)) else none
  | .str a, .str z => some (.bool (!strIn a z))
  | _, _ => none
theorem od_in {K : PySem.W.Frag} {m : List Bool} : OpD K m (rInP K false) (onD pIn) := OpD.ofD fun B σ H ρ ws ts x y t u v Q ok e q => by
  unfold pIn at e
  split at e
  · obtain ⟨h, e⟩ := reqs e
    subst e
    exact .inl ⟨_, _, ok.pop.topD, .inl ok.topD, h, q _ _ ok.pop.pop.bl⟩
  · obtain ⟨h, e⟩ := reqs e
    subst e
    exact .inl ⟨_, _, ok.pop.topD, .inr ok.topD, h, q _ _ ok.pop.pop.bl⟩
  · cases e
    have hy := ok.topStr
    have hx := ok.pop.topStr
    subst hx hy
    exact .inr ⟨_, _, rfl, rfl, q _ _ ok.pop.pop.bl⟩
  · cases e
theorem od_notIn {K : PySem.W.Frag} {m : List Bool} : OpD K m (rInP K true) (onD pNotIn) := OpD.ofD fun B σ H ρ ws ts x y t u v Q ok e q => by
  unfold pNotIn at e
  split at e
  · obtain ⟨h, e⟩ := reqs e
    subst e
    exact .inl ⟨_, _, ok.pop.topD, .inl ok.topD, h, q _ _ ok.pop.pop.bl⟩
  · obtain ⟨h, e⟩ := reqs e
    subst e
    exact .inl ⟨_, _, ok.pop.topD, .inr ok.topD, h, q _ _ ok.pop.pop.bl⟩
  · cases e
    have hy := ok.topStr
    have hx := ok.pop.topStr
    subst hx hy
    exact .inr ⟨_, _, rfl, rfl, q _ _ ok.pop.pop.bl⟩
  · cases e
def isNon : PyData → Bool
  | .none => true
  | _ => false
theorem isNon_iff {K : PySem.W.Frag} {I : Hp} {x : V} {d : PyData} (h : Dr K I x d) : decide (x = .non) = isNon d := by
  cases h <;> simp [isNon]
def pIs : PyData → PyData → Option PyData
  | d, .none => some (.bool (isNon d))
  | .bool a, .bool b => some (.bool (decide (a = b)))
  | _, _ => none
theorem op_isD : OpR X (compareOp .Is) (fun x y H Q => (y = .non ∧ Q (.bl (decide (x = .non))) H) ∨ rIsB x y H Q) := OpR.or op_isN op_isBl
theorem od_is {K : PySem.W.Frag} {m : List Bool} : OpD K m (fun x y H Q => (y = .non ∧ Q (.bl (decide (x = .non))) H) ∨ rIsB x y H Q) (onD pIs) := OpD.ofD fun B σ H ρ ws ts x y t u v Q ok e q => by
  unfold pIs at e
  split at e
  · cases e
    have hy := ok.topNon
    subst hy
    exact .inl ⟨rfl, by rw [isNon_iff ok.pop.topD]; exact q _ _ ok.pop.pop.bl⟩
  · cases e
    have hy := ok.topBl
    have hx := ok.pop.topBl
    subst hx hy
    exact .inr ⟨_, _, rfl, rfl, q _ _ ok.pop.pop.bl⟩
  · cases e
end
section
variable {K : PySem.W.Frag} {m : List Bool} {X : Cx} {w : Wd} {a b : Expr} {fa fb : M T} {pos : Pos}
theorem atI_all {I : Hp} {vs : List V} {ds : List PyData} {i : Int} {e : PyData} (h : DrAll K I vs ds) (q : atI ds i = some e) : ∃ v, atI vs i = some v ∧ Dr K I v e := by
  unfold atI at q ⊢
  rw [h.len]
  cases p : ixN ds.length i with
  | none => rw [p] at q; cases q
  | some j =>
    rw [p] at q
    exact DrAll.get' h q
def pIx : PyData → PyData → Option PyData
  | .list ds, .int i => atI ds i
  | .tuple ds, .int i => atI ds i
  | .str z, .int i => if z.length ≤ lim then (atI z.cps.toList i).map fun c => .str ⟨#[c]⟩ else none
  | _, _ => none
theorem Ok.item {B : Bs} {σ : St} {H : Hp} {ρ : Rho} {ws : List V} {ts : List T} {x v : V} {d e : PyData} (h : Ok K m B σ H ρ (x :: ws) (.d d :: ts)) (q : ∀ I, Same I H → Dr K I x d → Dr K I v e) : Ok K m B σ H ρ (v :: ws) (.d e :: ts) := h.part q
theorem od_ix : OpD K m (rIx K) (onD pIx) := OpD.ofD fun B σ H ρ ws ts x y t u v Q ok e q => by
  unfold pIx at e
  split at e
  · have hy := ok.topInt
    subst hy
    obtain ⟨I, Fr, Fw, s, r, w, km⟩ := id ok.pop
    obtain ⟨a, vs, rfl, ha, da⟩ := lst_items w
    obtain ⟨z, hz, dz⟩ := atI_all da e
    obtain ⟨G, w'⟩ := w.tail
    exact .inl ⟨a, vs, _, z, rfl, rfl, SqL.of (s.sub _ _ ha), hz, q _ _ (ok.pop.pop' fun _ => by
      cases w with
      | cons _ w'' => exact ⟨I, Fr, _, s.less (fun b m => by
          rcases List.mem_append.mp m with m | m
          · exact List.mem_append_left _ m
          · exact List.mem_append_right _ (List.mem_append_right _ m)) ((List.Sublist.append (List.Sublist.refl _) (List.sublist_append_right _ _)).nodup s.nd), r, .cons (F := []) (.d dz) w'', km⟩)⟩
  · have hy := ok.topInt
    subst hy
    obtain ⟨I, Fr, Fw, s, r, w, km⟩ := id ok.pop
    obtain ⟨a, vs, rfl, ha, da⟩ := tup_items w
    obtain ⟨z, hz, dz⟩ := atI_all da e
    exact .inr (.inl ⟨a, vs, _, z, rfl, rfl, st_mono s.sub ha, hz, q _ _ (ok.pop.pop' fun _ => by
      cases w with
      | cons _ w'' => exact ⟨I, Fr, _, s.less (fun b m => by
          rcases List.mem_append.mp m with m | m
          · exact List.mem_append_left _ m
          · exact List.mem_append_right _ (List.mem_append_right _ m)) ((List.Sublist.append (List.Sublist.refl _) (List.sublist_append_right _ _)).nodup s.nd), r, .cons (F := []) (.d dz) w'', km⟩)⟩)
  · rename_i z i
    by_cases hl : z.length ≤ lim
    · rw [if_pos hl] at e
      cases p : atI z.cps.toList i with
      | none => rw [p] at e; cases e
      | some c =>
        rw [p] at e
        cases e
        have hy := ok.topInt
        have hx := ok.pop.topStr
        subst hx hy
        exact .inr (.inr ⟨z, i, c, rfl, rfl, lim_le hl, p, q _ _ ok.pop.pop.str⟩)
    · rw [if_neg hl] at e; cases e
  · cases e
theorem de_ix (ha : DE X w a fa) (hb : DE X w b fb) (hs : PlainIx b := by exact fun _ _ => rfl) : DE X w (.Subscript a b pos) (dop (onD pIx) fa fb) := by
  obtain ⟨ta, pa, da⟩ := ha.ex
  obtain ⟨tb, pb, db⟩ := hb.ex
  exact de_v (pe_ix ix_seq pa pb hs) (den_op da db od_ix)
end
end DL
end
section
set_option Elab.async false
set_option linter.all false
set_option maxRecDepth 100000
set_option maxHeartbeats 4000000
namespace DL
open PySem L2
def cutG {α : Type} (xs : List α) (lo hi : Option Int) : List α := (xs.drop (HT.sIx xs.length 0 lo)).take (HT.sIx xs.length xs.length hi - HT.sIx xs.length 0 lo)
theorem cutG_len {α : Type} (xs : List α) (lo hi : Option Int) : (cutG xs lo hi).length ≤ xs.length := by
  unfold cutG
  rw [List.length_take, List.length_drop]
  omega
theorem DrAll.cut {K : PySem.W.Frag} {I : Hp} {vs : List V} {ds : List PyData} (h : DrAll K I vs ds) (lo hi : Option Int) : DrAll K I (cutV vs lo hi) (cutG ds lo hi) := by
  unfold cutV cutG
  rw [h.len]
  exact (h.drop _).take _
def tSlice : T → Option Int → Option Int → Option T
  | .d (.list ds), lo, hi => some (.d (.list (cutG ds lo hi)))
  | .d (.tuple ds), lo, hi => some (.d (.tuple (cutG ds lo hi)))
  | .d (.str z), lo, hi => if z.length ≤ lim then some (.d (.str (cutS z lo hi))) else none
  | .scr ns, lo, hi => some (.d (.list ((cutG ns lo hi).map PyData.int)))
  | _, _, _ => none
def rSl3 (K : PySem.W.Frag) : V → Option Int → Option Int → Hp → VK → Prop := fun x lo hi H Q => rSlL K x lo hi H Q ∨ rSlA K x lo hi H Q ∨ rSlS x lo hi H Q
theorem sl3 {X : Cx} : SlR X (rSl3 X.K) := SlR.or sl_list (SlR.or sl_tupA sl_str)
theorem cutG_whole {α : Type} (xs : List α) (lo hi : Option Int) (h : HT.sIx xs.length 0 lo = 0 ∧ HT.sIx xs.length xs.length hi = xs.length) : cutG xs lo hi = xs := by
  unfold cutG
  rw [h.1, h.2]
  simp
theorem drAll_ints {K : PySem.W.Frag} {I : Hp} : ∀ ns : List Int, DrAll K I (ns.map V.int) (ns.map PyData.int)
  | [] => .nil
  | n :: ns => .cons (.int n) (drAll_ints ns)
theorem cutV_map {α : Type} (f : α → V) (xs : List α) (lo hi : Option Int) : cutV (xs.map f) lo hi = (cutG xs lo hi).map f := by
  unfold cutV cutG
  rw [List.length_map, ← List.map_drop, ← List.map_take]
def DenO (K : PySem.W.Frag) (w : Wd) (t : TO) (f : M (Option Int)) : Prop := ∀ B σ H ρ ws ts Q, Ok K w.m B σ H ρ ws ts →
  PostG K w B (f ρ) (fun o ρ' => ∀ H', Ok K w.m B σ H' ρ' ws ts → Q o H') → t σ H Q
structure DO (X : Cx) (w : Wd) (e : Option Expr) (f : M (Option Int)) : Prop where
  ex : ∃ t, PO X e t ∧ DenO X.K w t f
section
variable {X : Cx} {w : Wd} {a b c e : Expr} {es : List Expr} {fa fb fc f : M T} {pos : Pos} {fo fo' : M (Option Int)} {lo hi : Option Expr}
theorem do_none : DO X w none (mret none) := ⟨_, po_none, fun B σ H ρ ws ts Q ok p => p H ok⟩
def dpart (f : M T) : M (Option Int) := mbind f fun x => match x with
  | .d (.int i) => mret (some i)
  | _ => mno
theorem do_some (h : DE X w e f) : DO X w (some e) (dpart f) := by
  obtain ⟨t, p, d⟩ := h.ex
  refine ⟨_, po_some p, fun B σ H ρ ws ts Q ok q => ?_⟩
  refine d B σ H ρ ws ts _ ok (q.bind.mono fun v ρ1 p1 x H1 ok1 => ?_)
  cases v with
  | d y =>
    cases y with
    | int i =>
      have ex := ok1.topInt
      subst ex
      exact ⟨i, rfl, p1 _ ok1.pop⟩
    | _ => exact p1.elim
  | _ => exact p1.elim
def dslice (fa : M T) (fo fo' : M (Option Int)) : M T := mbind fa fun x => mbind fo fun l => mbind fo' fun h => mopt (tSlice x l h)
theorem Ok.inStead {K : PySem.W.Frag} {m : List Bool} {B : Bs} {σ : St} {H : Hp} {ρ : Rho} {ws : List V} {ts : List T} {x y : V} {t u : T} (h : Ok K m B σ H ρ (y :: x :: ws) (u :: t :: ts)) : Ok K m B σ H ρ (y :: ws) (u :: ts) := h.swap.pop
theorem de_slice {p2 : Pos} (ha : DE X w a fa) (hl : DO X w lo fo) (hh : DO X w hi fo') : DE X w (.Subscript a (.Slice lo hi none p2) pos) (dslice fa fo fo') := by
  obtain ⟨ta, pa, da⟩ := ha.ex
  obtain ⟨tl, pl, dl⟩ := hl.ex
  obtain ⟨th, ph, dh⟩ := hh.ex
  refine de_v (pe_slice sl3 pa pl ph) fun B σ H ρ ws ts Q ok q => ?_
  refine da B σ H ρ ws ts _ ok (q.bind.mono fun v ρ1 p1 x H1 ok1 => ?_)
  refine dl B σ H1 ρ1 _ _ _ ok1 (p1.bind.mono fun l ρ2 p2 H2 ok2 => ?_)
  refine dh B σ H2 ρ2 _ _ _ ok2 (p2.bind.mono fun h ρ3 p3 H3 ok3 => ?_)
  obtain ⟨z, e, q3⟩ := p3.opt
  unfold tSlice at e
  split at e
  · cases e
    obtain ⟨I, Fr, Fw, s, r, wz, km⟩ := id ok3
    obtain ⟨a, vs, rfl, ha, dd⟩ := lst_items wz
    refine .inl ⟨a, vs, rfl, SqL.of (s.sub _ _ ha), fun p hp => q3 _ _ (Ok.inStead (ok3.newList hp fun I' Fw' sb w' => ?_))⟩
    obtain ⟨a', vs', e', ha', dd'⟩ := lst_items w'
    cases e'
    have := sb _ _ ha'
    rw [s.sub _ _ ha] at this
    cases this
    exact dd'.cut _ _
  · cases e
    obtain ⟨I, Fr, Fw, s, r, wz, km⟩ := id ok3
    obtain ⟨a, vs, rfl, ha, dd⟩ := tup_items wz
    rename_i _ _ ds
    refine .inr (.inl ⟨a, vs, rfl, st_mono s.sub ha, fun hw => ?_, fun hw p hp => ?_⟩)
    · rw [dd.len] at hw
      rw [cutG_whole ds _ _ hw] at q3
      exact q3 _ _ ok3
    · have hI := (s.fresh hp).2.1
      have sm : Same I (upd I p (.tup (cutV vs l h))) := fun a u e => by rw [upd_ne (ne_of_none e hI)]; exact e
      have nf : ∀ a ∈ Fr ++ Fw, (upd H3 p (.tup (cutV vs l h))) a = H3 a := fun a z => upd_ne (show a ≠ p from fun e => s.thr a z (by rw [e]; exact hp))
      exact q3 _ _ (Ok.inStead ⟨_, Fr, Fw, s.newD hp, r.mono sm fun a z => nf a (List.mem_append_left _ z), .cons (F := []) (.d (.tup (SqT.of upd_same) (drAll_mono sm (dd.cut l h)))) (wz.mono sm fun a z => nf a (List.mem_append_right _ z)), km⟩)
  · obtain ⟨hl, e⟩ := reqs e
    subst e
    have hx := ok3.topStr
    subst hx
    exact .inr (.inr ⟨_, rfl, lim_le hl, q3 _ _ ok3.pop.str⟩)
  · cases e
    obtain ⟨a, rfl, ha⟩ := ok3.topScr
    refine .inl ⟨a, _, rfl, ha, fun p hp => q3 _ _ (Ok.inStead (ok3.newList hp fun I' Fw' sb w' => ?_))⟩
    rw [cutV_map]
    exact drAll_ints _
  · cases e
variable {os : List (Option Nat)} {fs : M (List T)}
theorem da_nil : DA X w [] [] (mret []) := ⟨⟨_, pa_nil, fun B σ H ρ ws ts Q ok p => p [] H rfl ok fun k i e => by simp at e⟩, fun vs ρ ρ' e => by cases e; rfl⟩
theorem Ok.perm3 {K : PySem.W.Frag} {m : List Bool} {B : Bs} {σ : St} {H : Hp} {ρ : Rho} {ws : List V} {ts : List T} {x : V} {t : T} {vs : List V} {us : List T} (hl : vs.length = us.length)
    (h : Ok K m B σ H ρ (vs ++ x :: ws) (us ++ t :: ts)) : Ok K m B σ H ρ (x :: (vs ++ ws)) (t :: (us ++ ts)) := by
  obtain ⟨I, Fr, Fw, s, r, w, km⟩ := h
  obtain ⟨G, E, rfl, g, e⟩ := RepTs.split hl w
  cases e with
  | cons a b =>
    rename_i F1 F2
    obtain ⟨E', q, hq⟩ := RepTs.append g b
    subst hq
    refine ⟨I, Fr, _, s.perm ?_, r, .cons a q, km⟩
    refine List.Perm.append_left _ ?_
    rw [← List.append_assoc, ← List.append_assoc]
    exact List.Perm.append_right _ List.perm_append_comm
def dcons (f : M T) (fs : M (List T)) : M (List T) := mbind f fun x => mbind fs fun xs => mret (x :: xs)
theorem dcons_len {f : M T} {fs : M (List T)} {n : Nat} (h : ∀ vs ρ ρ', fs ρ = .ok vs ρ' → vs.length = n) : ∀ vs ρ ρ', dcons f fs ρ = .ok vs ρ' → vs.length = n + 1 := fun vs ρ ρ' e => by
  unfold dcons mbind at e
  cases e1 : f ρ with
  | ok x ρ1 =>
    rw [e1] at e
    simp only at e
    cases e2 : fs ρ1 with
    | ok xs ρ2 =>
      rw [e2] at e
      cases e
      rw [List.length_cons, h _ _ _ e2]
    | ex a b => rw [e2] at e; cases e
    | no => rw [e2] at e; cases e
  | ex a b => rw [e1] at e; cases e
  | no => rw [e1] at e; cases e
theorem orig_cons {σ : St} {o : Option Nat} {os : List (Option Nat)} {x : V} {xs : List V} (h : ∀ i, o = some i → σ[i]? = some (some x)) (hs : Orig σ os xs) : Orig σ (o :: os) (x :: xs) := fun k i e => by
  cases k with
  | zero => exact ⟨x, rfl, h i (by simpa using e)⟩
  | succ k =>
    obtain ⟨y, h1, h2⟩ := hs k i (by simpa using e)
    exact ⟨y, by simpa using h1, h2⟩
theorem da_cons (h : DE X w e f) (hs : DA X w es os fs) (hst : starEach (e :: es) X.env = (false, eval e X.env) :: starEach es X.env := by rfl) : DA X w (e :: es) (none :: os) (dcons f fs) := by
  obtain ⟨t, p, d⟩ := h.ex
  obtain ⟨t', p', d'⟩ := hs.ex
  refine ⟨⟨_, pa_cons p p' hst, fun B σ H ρ ws ts Q ok q => ?_⟩, dcons_len hs.len⟩
  refine d B σ H ρ ws ts _ ok (q.bind.mono fun v ρ1 p1 x H1 ok1 => ?_)
  refine d' B σ H1 ρ1 _ _ _ ok1 (p1.bind.mono fun vs ρ2 p2 xs H2 hl ok2 ho => ?_)
  exact p2 (x :: xs) H2 (by simp [hl]) (Ok.perm3 hl ok2) (orig_cons (fun i e => nomatch e) ho)
def dhas (i : Nat) : M Unit := fun ρ => match ρ[i]? with
  | some (some _) => .ok () ρ
  | _ => .no
theorem dhas_of {K : PySem.W.Frag} {w : Wd} {B : Bs} {σ : St} {H : Hp} {ρ : Rho} {ws : List V} {ts : List T} {i : Nat} {P : Unit → Rho → Prop} (ok : Ok K w.m B σ H ρ ws ts) (q : PostG K w B (dhas i ρ) P) : (∃ v, σ[i]? = some (some v)) ∧ P () ρ := by
  unfold dhas at q
  cases e : ρ[i]? with
  | none => rw [e] at q; exact q.elim
  | some o =>
    cases o with
    | none => rw [e] at q; exact q.elim
    | some u =>
      rw [e] at q
      obtain ⟨v, h1, h2⟩ := ok.take e
      exact ⟨⟨v, h1⟩, q⟩
def dlate (i : Nat) (fs : M (List T)) : M (List T) := mbind (dhas i) fun _ => mbind fs fun xs => mbind (dtake i) fun x => mret (x :: xs)
theorem dlate_len {i : Nat} {fs : M (List T)} {n : Nat} (h : ∀ vs ρ ρ', fs ρ = .ok vs ρ' → vs.length = n) : ∀ vs ρ ρ', dlate i fs ρ = .ok vs ρ' → vs.length = n + 1 := fun vs ρ ρ' e => by
  unfold dlate mbind at e
  cases e0 : dhas i ρ with
  | ok u ρ0 =>
    rw [e0] at e
    simp only at e
    cases e1 : fs ρ0 with
    | ok xs ρ1 =>
      rw [e1] at e
      simp only at e
      cases e2 : dtake i ρ1 with
      | ok x ρ2 =>
        rw [e2] at e
        cases e
        rw [List.length_cons, h _ _ _ e1]
      | ex a b => rw [e2] at e; cases e
      | no => rw [e2] at e; cases e
    | ex a b => rw [e1] at e; cases e
    | no => rw [e1] at e; cases e
  | ex a b => rw [e0] at e; cases e
  | no => rw [e0] at e; cases e
theorem da_own (i : Nat) {x : Str} {p0 : Pos} (hs : DA X w es os fs) (hN : X.N[i]? = some x := by rfl) (hv : Vis X.env.scope x := by first | exact Or.inl rfl | exact Or.inr (Or.inl rfl) | exact Or.inr (Or.inr rfl)) (hd : (x == ("__debug__" : Str)) = false := by decide)
    (hcd : (x == ("__classdict__" : Str)) = false := by decide) (hst : starEach (.Name x p0 :: es) X.env = (false, eval (.Name x p0) X.env) :: starEach es X.env := by rfl) : DA X w (.Name x p0 :: es) (some i :: os) (dlate i fs) := by
  obtain ⟨t', p', d'⟩ := hs.ex
  refine ⟨⟨_, pa_cons (pe_var hN hv hd hcd) p' hst, fun B σ H ρ ws ts Q ok q => ?_⟩, dlate_len hs.len⟩
  obtain ⟨⟨v, hv0⟩, q⟩ := dhas_of ok q.bind
  refine ⟨v, hv0, ?_⟩
  refine d' B σ H ρ ws ts _ ok (PostG.mono (PostG.bind q) fun vs ρ2 p2 xs H2 hl ok2 ho => ?_)
  have p3 := PostG.bind p2
  unfold dtake at p3
  cases e : ρ2[i]? with
  | none => rw [e] at p3; exact p3.elim
  | some o =>
    cases o with
    | none => rw [e] at p3; exact p3.elim
    | some t =>
      rw [e] at p3
      obtain ⟨v', h1, h2⟩ := ok2.take e
      have ev : v' = v := by
        rw [hv0] at h1
        exact (Option.some.inj (Option.some.inj h1)).symm
      subst ev
      exact (show ∀ ys H', ys.length = (t :: vs).length → Ok X.K w.m B σ H' (ρ2.set i none) (ys ++ ws) ((t :: vs) ++ ts) → Orig σ (some i :: os) ys → Q ys H' from p3) (v' :: xs) H2 (by simp [hl]) h2 (orig_cons (fun j e => by cases e; exact h1) ho)

def allD : List T → Option (List PyData)
  | [] => some []
  | .d x :: ts => (allD ts).map (x :: ·)
  | _ :: _ => none
theorem allD_eq : ∀ {ts : List T} {ds : List PyData}, allD ts = some ds → ts = ds.map T.d
  | [], _, e => by cases e; rfl
  | .d x :: ts, _, e => by
    unfold allD at e
    cases q : allD ts with
    | none => rw [q] at e; cases e
    | some es => rw [q] at e; cases e; rw [List.map_cons, allD_eq q]
  | .fn _ :: _, _, e => by cases e
  | .fns _ :: _, _, e => by cases e
  | .scr _ :: _, _, e => by cases e
  | .ty _ :: _, _, e => by cases e
  | .lst _ :: _, _, e => by cases e
  | .dct _ :: _, _, e => by cases e
  | .ins _ _ :: _, _, e => by cases e
def short {α : Type} (xs : List α) : Bool := decide (xs.length ≤ lim)
def mkTup (ts : List T) : Option T := match allD ts with
  | some ds => if short ds = true then some (.d (.tuple ds)) else none
  | none => none
def mkLst (ts : List T) : Option T := match allD ts with
  | some ds => if short ds = true then some (.d (.list ds)) else none
  | none => none
theorem Ok.popAll {K : PySem.W.Frag} {m : List Bool} {B : Bs} {σ : St} {H : Hp} {ρ : Rho} {ws : List V} {ts : List T} {x : V} {t : T} : ∀ {vs : List V} {us : List T}, vs.length = us.length → Ok K m B σ H ρ (x :: (vs ++ ws)) (t :: (us ++ ts)) → Ok K m B σ H ρ (x :: ws) (t :: ts)
  | [], [], _, h => h
  | [], _ :: _, l, _ => nomatch l
  | _ :: _, [], l, _ => nomatch l
  | _ :: vs, _ :: us, l, h => Ok.popAll (vs := vs) (us := us) (by simpa using l) (Ok.inStead h)
theorem drAll_pending {K : PySem.W.Frag} {I H : Hp} {ws : List V} {ts : List T} {vs : List V} {ds : List PyData} {Fw : List Addr} (hl : vs.length = ds.length) (w : RepTs K I H (vs ++ ws) (ds.map T.d ++ ts) Fw) : DrAll K I vs ds := by
  obtain ⟨G, E, _, g, _⟩ := RepTs.split (by rw [hl, List.length_map]) w
  exact g.toD.1
def dtup (fs : M (List T)) : M T := mbind fs fun ts => mopt (mkTup ts)
def dlst (fs : M (List T)) : M T := mbind fs fun ts => mopt (mkLst ts)
theorem de_tup {x1} (h : DA X w es os fs) : DE X w (.Tuple es x1 pos) (dtup fs) := by
  obtain ⟨t, p, d⟩ := h.ex
  refine de_v (pe_tup p) fun B σ H ρ ws ts Q ok q => ?_
  refine d B σ H ρ ws ts _ ok (q.bind.mono fun vs ρ1 p1 xs H1 hl ok1 _ => ?_)
  obtain ⟨z, e, q1⟩ := p1.opt
  unfold mkTup at e
  cases e1 : allD vs with
  | none => rw [e1] at e; cases e
  | some ds =>
    rw [e1] at e
    obtain ⟨hz, e⟩ := reqs e
    subst e
    have hv := allD_eq e1
    subst hv
    rw [List.length_map] at hl
    refine ⟨by rw [hl]; exact lim_le (of_decide_eq_true hz), fun p hp => q1 _ _ (Ok.popAll (by rw [hl, List.length_map]) (ok1.newTup hp fun I Fw _ w' => drAll_pending hl w'))⟩
theorem de_lst (h : DA X w es os fs) : DE X w (.List es pos) (dlst fs) := by
  obtain ⟨t, p, d⟩ := h.ex
  refine de_v (pe_lst p) fun B σ H ρ ws ts Q ok q => ?_
  refine d B σ H ρ ws ts _ ok (q.bind.mono fun vs ρ1 p1 xs H1 hl ok1 _ => ?_)
  obtain ⟨z, e, q1⟩ := p1.opt
  unfold mkLst at e
  cases e1 : allD vs with
  | none => rw [e1] at e; cases e
  | some ds =>
    rw [e1] at e
    obtain ⟨hz, e⟩ := reqs e
    subst e
    have hv := allD_eq e1
    subst hv
    rw [List.length_map] at hl
    refine ⟨by rw [hl]; exact lim_le (of_decide_eq_true hz), fun p hp => q1 _ _ (Ok.popAll (by rw [hl, List.length_map]) (ok1.newList hp fun I Fw _ w' => drAll_pending hl w'))⟩
theorem Ok.newOwn {K : PySem.W.Frag} {m : List Bool} {B : Bs} {σ : St} {H : Hp} {ρ : Rho} {ws : List V} {ts : List T} {vs : List V} {us : List T} {p : Addr} (hl : vs.length = us.length) (h : Ok K m B σ H ρ (vs ++ ws) (us ++ ts)) (hp : H p = none) :
    Ok K m B σ (upd H p (.lst vs)) ρ (.ref p :: ws) (.lst us :: ts) := by
  obtain ⟨I, Fr, Fw, s, r, w, km⟩ := h
  obtain ⟨G, E, rfl, g, e⟩ := RepTs.split hl w
  have nf : ∀ a ∈ Fr ++ (G ++ E), (upd H p (.lst vs)) a = H a := fun a z => upd_ne (show a ≠ p from fun e => s.thr a z (by rw [e]; exact hp))
  have s' := s.newO (o := .lst vs) hp
  refine ⟨I, Fr, (p :: G) ++ E, s'.perm ?_, r.mono (Same.refl _) fun a z => nf a (List.mem_append_left _ z), .cons (.lst upd_same (g.mono (Same.refl _) fun a z => nf a (List.mem_append_right _ (List.mem_append_left _ z)))) (e.mono (Same.refl _) fun a z => nf a (List.mem_append_right _ (List.mem_append_right _ z))), km⟩
  rw [List.cons_append]
  exact List.perm_middle.symm
def dlstO (fs : M (List T)) : M T := mbind fs fun ts => if short ts = true then mret (.lst ts) else mno
theorem de_lstO (h : DA X w es os fs) : DE X w (.List es pos) (dlstO fs) := by
  obtain ⟨t, p, d⟩ := h.ex
  refine de_v (pe_lst p) fun B σ H ρ ws ts Q ok q => ?_
  refine d B σ H ρ ws ts _ ok (q.bind.mono fun vs ρ1 p1 xs H1 hl ok1 _ => ?_)
  by_cases hz : short vs = true
  · rw [if_pos hz] at p1
    exact ⟨by rw [hl]; exact lim_le (of_decide_eq_true hz), fun p hp => p1 _ _ (Ok.newOwn hl ok1 hp)⟩
  · rw [if_neg hz] at p1
    exact p1.elim
end
end DL
end
section
set_option Elab.async false
set_option linter.all false
set_option maxRecDepth 100000
set_option maxHeartbeats 4000000
namespace DL
open PySem L2 PySem.Spec PyProof.Rows
structure FnG (P : Program) (w : World) (K : PySem.W.Frag) (mg : Str → Option Value) (base : Heap) (k : Nat) (f : Addr) (fd : FuncData) (ps : List Str) (sp : Sp) : Prop where
  len : ∀ vs H Q E, sp vs H Q E → vs.length = ps.length
  go : ∀ (A : Around) (outer : List Env) (s : Shared) (H : Hp) (args : Args) (us : List Value) (vs : List V) (Q : VK) (E : XK), A.guards = some [] → Room k A → Env0 P w K mg base A outer s H →
    BindsTo s fd args (ps.zip us) → Vals vs us → sp vs H Q E → codeAny (model P w) A (.call (.ref f) args) (CR (L2.CX P w) outer P w H s Q E) s
section
variable {P : Program} {w : World} {K : PySem.W.Frag} {mg : Str → Option Value} {base : Heap} {k : Nat} {f : Addr} {fd : FuncData} {ps : List Str} {sp : Sp}
theorem FnG.up {j : Nat} (F : FnG P w K mg base j f fd ps sp) (h : j ≤ k) : FnG P w K mg base k f fd ps sp :=
  ⟨F.len, fun A outer s H args us vs Q E g r => F.go A outer s H args us vs Q E g (r.mono h)⟩
theorem FnG.of (F : FnOk P w K mg base (L2.CX P w) k f fd ps sp) : FnG P w K mg base k f fd ps sp :=
  ⟨F.len, fun A outer s H args us vs Q E _ r => F.run A outer s H args us vs Q E r⟩
end
abbrev atSlots (W : WX) (σ : L2.St) : XK := fun c d H => W c d σ H
def tCallG (sp : Sp) (W : WX) (dvs : List V) (t : TA) : TE := fun σ H Q => t σ H fun vs H1 => sp (vs ++ dvs) H1 Q (atSlots W σ)
section
variable {X : Cx} {k : Nat} {f : Addr} {fd : FuncData} {ps : List Str} {sp : Sp} {W : WX} {dvs : List V} {ds : List Value} {x : Str} {p pos : Pos} {e : Expr} {es : List Expr} {t : TA}
end
structure FnGd (P : Program) (w : World) (K : PySem.W.Frag) (mg : Str → Option Value) (base : Heap) (k : Nat) (f : Addr) (fd : FuncData) (ps : List Str) (ds : List Value) (sp : Sp) : Prop where
  len : ∀ vs H Q E, sp vs H Q E → vs.length + ds.length = ps.length
  go : ∀ (A : Around) (outer : List Env) (s : Shared) (H : Hp) (args : Args) (us : List Value) (vs : List V) (Q : VK) (E : XK), A.guards = some [] → Room k A → Env0 P w K mg base A outer s H →
    BindsTo s fd args (ps.zip (us ++ ds)) → Vals vs us → sp vs H Q E → codeAny (model P w) A (.call (.ref f) args) (CR (L2.CX P w) outer P w H s Q E) s
section
variable {P : Program} {w : World} {K : PySem.W.Frag} {mg : Str → Option Value} {base : Heap} {k : Nat} {f : Addr} {fd : FuncData} {ps : List Str} {sp : Sp}
theorem FnGd.of (F : FnG P w K mg base k f fd ps sp) : FnGd P w K mg base k f fd ps [] sp :=
  ⟨fun vs H Q E h => by rw [List.length_nil, Nat.add_zero]; exact F.len _ _ _ _ h, fun A outer s H args us vs Q E g r e b rv h => F.go A outer s H args us vs Q E g r e (by rw [List.append_nil] at b; exact b) rv h⟩
theorem FnGd.dflt {sp' : Sp} {dvs : List V} {ds : List Value} (F : FnG P w K mg base k f fd ps sp) (hd : Vals dvs ds) (h : ∀ vs H Q E, sp' vs H Q E → sp (vs ++ dvs) H Q E) : FnGd P w K mg base k f fd ps ds sp' :=
  ⟨fun vs H Q E z => by have := F.len _ _ _ _ (h _ _ _ _ z); rw [List.length_append] at this; rw [← hd.length]; exact this, fun A outer s H args us vs Q E g r e b rv z => F.go A outer s H args (us ++ ds) (vs ++ dvs) Q E g r e b (Vals.append rv hd) (h _ _ _ _ z)⟩
theorem FnGd.up {ds : List Value} {j : Nat} (F : FnGd P w K mg base j f fd ps ds sp) (h : j ≤ k) : FnGd P w K mg base k f fd ps ds sp :=
  ⟨F.len, fun A outer s H args us vs Q E g r => F.go A outer s H args us vs Q E g (r.mono h)⟩
end
section
variable {X : Cx} {k : Nat} {f : Addr} {fd : FuncData} {ps : List Str} {sp : Sp} {W : WX} {ds : List Value} {x : Str} {p pos : Pos} {e : Expr} {es : List Expr} {t : TA}
theorem goGd {pins : List (Addr × Obj)} {σ : L2.St} {H : Hp} {s : Shared} {Q : VK} {us : List Value} {vs : List V} (F : FnGd X.prog X.w X.K X.mg X.base k f fd ps ds sp) (g : X.A.guards = some []) (r : Room k X.A) (b : Binds X.K fd ps ds)
    (tk : Takes X W) (I : Inv X pins σ H s) (rv : Vals vs us) (h : sp vs H Q (atSlots W σ)) : wpAny (model X.prog X.w) X.A (call (.ref f) us) (EP X pins σ Q) X.xe s := by
  have hl : (us ++ ds).length = ps.length := by
    rw [List.length_append, ← rv.length]
    exact F.len _ _ _ _ h
  have code := F.go X.A X.stack s H ⟨us, []⟩ us vs Q (atSlots W σ) g r I.env0 (b s us I.kIn hl) rv h
  refine wpAny_call (codeAny_mono code fun res s' q => ?_)
  match res, q with
  | .error er, q => exact tk er s' (XE.of_call I (fun _ _ _ z => z) q)
  | .ok (.ret u), q => exact Inv.after I q
  | .ok .next, q => exact q.elim
  | .ok .brk, q => exact q.elim
  | .ok .cont, q => exact q.elim
theorem pe_callGd (F : FnGd X.prog X.w X.K X.mg X.base k f fd ps ds sp) (g : X.A.guards = some []) (r : Room k X.A) (hg : Gl X x) (hm : X.mg x = some (.ref f)) (kp : PySem.W.keepIn X.K (.ref f) = true) (b : Binds X.K fd ps ds) (tk : Takes X W)
    (ha : PA X (e :: es) t) (dbg : (x == ("__debug__" : Str)) = false := by decide) (st : starEach (e :: es) X.env = (false, eval e X.env) :: starEach es X.env := by rfl) (pl : (backTo pos (starEach es X.env)).any (·.1) = false := by rfl) :
    PE X (.Call (.Name x p) (e :: es) [] pos) (tCallG sp W [] t) := ⟨fun pins s σ H Q I h =>
  wpAny_Call_Name_kw (ld_glob I hg hm (PySem.W.callWith_K (h₀ := X.base) I.ok.mod.kin kp
    (thn (ha.run pos pins s σ H _ I h) fun us s1 a => by
      obtain ⟨vs, H1, I1, rv, q⟩ := a
      rw [List.append_nil] at q
      exact ⟨I1.kIn, goGd F g r b tk I1 rv q⟩) st pl) dbg)⟩
end
abbrev Fn := List T → R T
def OkR (K : PySem.W.Frag) (mg : Str → Option Value) (B : Bs) (vs : List V) (r : R T) (Q : VK) (E : XK) : Prop := match r with
  | .ok v ρ' => ∀ x H', Ok K [] B (vs.map some) H' ρ' [x] [v] → Q x H'
  | .ex e ρ' => ∀ c d H', OkX K [] mg B (vs.map some) H' ρ' e c d → E c d H'
  | .no => False
def FnD (K : PySem.W.Frag) (mg : Str → Option Value) (n : Nat) (g : Fn) : Sp := fun vs H Q E => vs.length = n ∧ ∃ I F ts, Sit ⟨I, H, F, vs.map some⟩ I H F ∧ RepTs K I H vs ts F ∧ OkR K mg ⟨I, H, F, vs.map some⟩ vs (g ts) Q E

theorem Kept.nil {B : Bs} {σ : L2.St} : Kept [] B σ := fun i h => by simp at h
def restore : List (Option Nat) → Rho → Rho → Rho
  | some i :: os, some t :: ρa, ρ => restore os ρa (ρ.set i (some t))
  | some _ :: os, none :: ρa, ρ => restore os ρa ρ
  | none :: os, _ :: ρa, ρ => restore os ρa ρ
  | _, _, ρ => ρ
theorem RepR.restore {K : PySem.W.Frag} {B : Bs} {I H : Hp} {σ : L2.St} {Fw : List Addr} : ∀ {os : List (Option Nat)} {xs : List V} {ρa ρ : Rho} {Fr Fp : List Addr}, Orig σ os xs → RepR K I H (xs.map some) ρa Fp → RepR K I H σ ρ Fr → Sit B I H (Fr ++ (Fp ++ Fw)) →
    ∃ Fr', RepR K I H σ (restore os ρa ρ) Fr' ∧ Sit B I H (Fr' ++ Fw)
  | [], xs, ρa, ρ, Fr, Fp, _, _, r, s => ⟨Fr, r, s.less (fun a m => by
      rcases List.mem_append.mp m with m | m
      · exact List.mem_append_left _ m
      · exact List.mem_append_right _ (List.mem_append_right _ m)) ((List.Sublist.append (List.Sublist.refl _) (List.sublist_append_right _ _)).nodup s.nd)⟩
  | none :: os, [], ρa, ρ, Fr, Fp, o, p, r, s => by
    cases p
    exact ⟨Fr, r, s⟩
  | some j :: os, [], ρa, ρ, Fr, Fp, o, p, r, s => by
    cases p
    exact ⟨Fr, r, s⟩
  | o :: os, x :: xs, ρa, ρ, Fr, Fp, oo, p, r, s => by
    have tl : Orig σ os xs := fun k i e => by simpa using oo (k + 1) i (by simpa using e)
    cases p with
    | hid p =>
      cases o with
      | none => exact RepR.restore (os := os) (xs := xs) tl p r s
      | some i => exact RepR.restore (os := os) (xs := xs) tl p r s
    | has a p =>
      rename_i t ρ1 F G
      cases o with
      | none =>
        refine RepR.restore (os := os) (xs := xs) tl p r (s.less (fun a m => ?_) ?_)
        · rcases List.mem_append.mp m with m | m
          · exact List.mem_append_left _ m
          · rcases List.mem_append.mp m with m | m
            · exact List.mem_append_right _ (List.mem_append_left _ (List.mem_append_right _ m))
            · exact List.mem_append_right _ (List.mem_append_right _ m)
        · exact (List.Sublist.append (List.Sublist.refl _) (List.Sublist.append (List.sublist_append_right _ _) (List.Sublist.refl _))).nodup s.nd
      | some i =>
        obtain ⟨y, h1, h2⟩ := oo 0 i rfl
        have e1 : y = x := (Option.some.inj (show some x = some y from h1)).symm
        subst e1
        obtain ⟨F', R, h3, h4⟩ := RepR.back (i := i) r h2 a
        refine RepR.restore (os := os) (xs := xs) tl p h3 (s.sub' (R := R) ?_)
        have e2 : List.Perm (F' ++ (G ++ Fw) ++ R) (F' ++ R ++ (G ++ Fw)) := by
          rw [List.append_assoc (as := F') (bs := G ++ Fw), List.append_assoc (as := F') (bs := R)]
          exact List.Perm.append_left _ List.perm_append_comm
        refine e2.trans ((List.Perm.append_right _ h4).trans ?_)
        rw [List.append_assoc, List.append_assoc]
theorem Ok.called {K : PySem.W.Frag} {m : List Bool} {B : Bs} {σ : L2.St} {H H' : Hp} {ρ ρa : Rho} {ws : List V} {ts : List T} {xs : List V} {vs : List T} {os : List (Option Nat)} {v : V} {r : T} {I : Hp} {Fr Fa Fw : List Addr}
    (s : Sit B I H (Fr ++ (Fa ++ Fw))) (hr : RepR K I H σ ρ Fr) (hw : RepTs K I H ws ts Fw) (km : Kept m B σ) (ho : Orig σ os xs)
    (q : Ok K [] ⟨I, H, Fa, xs.map some⟩ (xs.map some) H' ρa [v] [r]) : Ok K m B σ H' (restore os ρa ρ) (v :: ws) (r :: ts) := by
  obtain ⟨I', Fp, Fv, s', hp, hv, _⟩ := q
  have nd := s.nd
  have inF : ∀ a ∈ Fr ++ Fw, a ∈ Fr ++ (Fa ++ Fw) := fun a z => by
    rcases List.mem_append.mp z with z | z
    · exact List.mem_append_left _ z
    · exact List.mem_append_right _ (List.mem_append_right _ z)
  have notA : ∀ a ∈ Fr ++ Fw, a ∉ Fa := fun a z zA => by
    rcases List.mem_append.mp z with z | z
    · exact (List.nodup_append.mp nd).2.2 a z a (List.mem_append_left _ zA) rfl
    · exact (List.nodup_append.mp (List.nodup_append.mp nd).2.1).2.2 a zA a z rfl
  have stay : ∀ a ∈ Fr ++ Fw, H' a = H a := fun a z => by
    cases e : H a with
    | none => exact absurd e (s.thr a (inF a z))
    | some o => exact s'.keep a o (notA a z) e
  have free : ∀ a ∈ Fr ++ Fw, I' a = none := fun a z => by
    cases e : I' a with
    | none => rfl
    | some o =>
      rcases s'.new a o e with h | h | h
      · have h' : I a = some o := h
        rw [s.own a (inF a z)] at h'; cases h'
      · exact absurd h (s.thr a (inF a z))
      · exact absurd h (notA a z)
  have far : ∀ a ∈ Fp ++ Fv, a ∉ Fr ++ Fw := fun a z z' => by
    rcases s'.fr a z with h | h
    · exact notA a z' h
    · exact s.thr a (inF a z') h
  have inA : ∀ a ∈ Fa, a ∈ Fr ++ (Fa ++ Fw) := fun a z => List.mem_append_right _ (List.mem_append_left _ z)
  have ndO : (Fr ++ Fw).Nodup := (List.Sublist.append (List.Sublist.refl _) (List.sublist_append_right _ _)).nodup nd
  have S : Sit B I' H' (Fr ++ (Fp ++ (Fv ++ Fw))) := by
    have pm : List.Perm (Fr ++ (Fp ++ (Fv ++ Fw))) ((Fp ++ Fv) ++ (Fr ++ Fw)) := by
      refine (List.perm_append_comm (l₁ := Fr) (l₂ := Fp ++ (Fv ++ Fw))).trans ?_
      rw [List.append_assoc, List.append_assoc, List.append_assoc]
      exact List.Perm.append_left _ (List.Perm.append_left _ List.perm_append_comm)
    have base : Sit B I' H' ((Fp ++ Fv) ++ (Fr ++ Fw)) := by
      refine ⟨s'.sub, fun a u z => s'.ext a u (s.ext a u z), fun a u n z => ?_, fun a u z => ?_, fun a z => ?_, fun a z => ?_, fun a z => ?_, ?_⟩
      · by_cases zA : a ∈ Fa
        · rcases s.fr a (inA a zA) with h | h
          · exact absurd h n
          · rw [h] at z; cases z
        · exact s'.keep a u zA (s.keep a u n z)
      · rcases s'.new a u z with h | h | h
        · exact s.new a u h
        · by_cases q1 : a ∈ B.F
          · exact .inr (.inr q1)
          · refine .inr (.inl ?_)
            cases e : B.H a with
            | none => rfl
            | some o =>
              have h' : H a = none := h
              rw [s.keep a o q1 e] at h'; cases h'
        · rcases s.fr a (inA a h) with h | h
          · exact .inr (.inr h)
          · exact .inr (.inl h)
      · rcases List.mem_append.mp z with z | z
        · rcases s'.fr a z with h | h
          · exact s.fr a (inA a h)
          · by_cases q1 : a ∈ B.F
            · exact .inl q1
            · refine .inr ?_
              cases e : B.H a with
              | none => rfl
              | some o =>
                have h' : H a = none := h
                rw [s.keep a o q1 e] at h'; cases h'
        · exact s.fr a (inF a z)
      · rcases List.mem_append.mp z with z | z
        · exact s'.own a z
        · exact free a z
      · rcases List.mem_append.mp z with z | z
        · exact s'.thr a z
        · rw [stay a z]; exact s.thr a (inF a z)
      · exact List.nodup_append.mpr ⟨s'.nd, ndO, fun a z b z' e => far a z (e ▸ z')⟩
    exact base.perm pm.symm
  obtain ⟨Fr', h1, h2⟩ := RepR.restore ho hp (hr.mono s'.ext fun a z => stay a (List.mem_append_left _ z)) S
  cases hv with
  | cons a b =>
    cases b
    refine ⟨I', Fr', _, h2.perm ?_, h1, .cons a (hw.mono s'.ext fun a z => stay a (List.mem_append_right _ z)), km⟩
    rw [List.append_nil]
theorem OkX.called {K : PySem.W.Frag} {m : List Bool} {mg : Str → Option Value} {B : Bs} {σ : L2.St} {H H' : Hp} {ρ ρa : Rho} {ws : List V} {ts : List T} {xs : List V} {vs : List T} {os : List (Option Nat)} {e : Exn} {c : Value} {d : Option Addr} {I : Hp} {Fr Fa Fw : List Addr}
    (s : Sit B I H (Fr ++ (Fa ++ Fw))) (hr : RepR K I H σ ρ Fr) (hw : RepTs K I H ws ts Fw) (km : Kept m B σ) (ho : Orig σ os xs)
    (q : OkX K [] mg ⟨I, H, Fa, xs.map some⟩ (xs.map some) H' ρa e c d) : OkX K m mg B σ H' (restore os ρa ρ) e c d := by
  obtain ⟨I', Fp, us, s', hp, _, hc, hd, hf⟩ := q
  have nd := s.nd
  have inF : ∀ a ∈ Fr, a ∈ Fr ++ (Fa ++ Fw) := fun a z => List.mem_append_left _ z
  have notA : ∀ a ∈ Fr, a ∉ Fa := fun a z zA => (List.nodup_append.mp nd).2.2 a z a (List.mem_append_left _ zA) rfl
  have stay : ∀ a ∈ Fr, H' a = H a := fun a z => by
    cases e : H a with
    | none => exact absurd e (s.thr a (inF a z))
    | some o => exact s'.keep a o (notA a z) e
  have free : ∀ a ∈ Fr, I' a = none := fun a z => by
    cases e : I' a with
    | none => rfl
    | some o =>
      rcases s'.new a o e with h | h | h
      · have h' : I a = some o := h
        rw [s.own a (inF a z)] at h'; cases h'
      · exact absurd h (s.thr a (inF a z))
      · exact absurd h (notA a z)
  have far : ∀ a ∈ Fp, a ∉ Fr := fun a z z' => by
    rcases s'.fr a z with h | h
    · exact notA a z' h
    · exact s.thr a (inF a z') h
  have inA : ∀ a ∈ Fa, a ∈ Fr ++ (Fa ++ Fw) := fun a z => List.mem_append_right _ (List.mem_append_left _ z)
  have S : Sit B I' H' (Fr ++ (Fp ++ [])) := by
    refine ⟨s'.sub, fun a u z => s'.ext a u (s.ext a u z), fun a u n z => ?_, fun a u z => ?_, fun a z => ?_, fun a z => ?_, fun a z => ?_, ?_⟩
    · by_cases zA : a ∈ Fa
      · rcases s.fr a (inA a zA) with h | h
        · exact absurd h n
        · rw [h] at z; cases z
      · exact s'.keep a u zA (s.keep a u n z)
    · rcases s'.new a u z with h | h | h
      · exact s.new a u h
      · by_cases q1 : a ∈ B.F
        · exact .inr (.inr q1)
        · refine .inr (.inl ?_)
          cases e : B.H a with
          | none => rfl
          | some o =>
            have h' : H a = none := h
            rw [s.keep a o q1 e] at h'; cases h'
      · rcases s.fr a (inA a h) with h | h
        · exact .inr (.inr h)
        · exact .inr (.inl h)
    · rw [List.append_nil] at z
      rcases List.mem_append.mp z with z | z
      · exact s.fr a (inF a z)
      · rcases s'.fr a z with h | h
        · exact s.fr a (inA a h)
        · by_cases q1 : a ∈ B.F
          · exact .inl q1
          · refine .inr ?_
            cases e : B.H a with
            | none => rfl
            | some o =>
              have h' : H a = none := h
              rw [s.keep a o q1 e] at h'; cases h'
    · rw [List.append_nil] at z
      rcases List.mem_append.mp z with z | z
      · exact free a z
      · exact s'.own a z
    · rw [List.append_nil] at z
      rcases List.mem_append.mp z with z | z
      · rw [stay a z]; exact s.thr a (inF a z)
      · exact s'.thr a z
    · rw [List.append_nil]
      exact List.nodup_append.mpr ⟨(List.nodup_append.mp nd).1, s'.nd, fun a z b z' e => far b z' (e ▸ z)⟩
  obtain ⟨Fr', h1, h2⟩ := RepR.restore ho hp (hr.mono s'.ext stay) S
  rw [List.append_nil] at h2
  exact ⟨I', Fr', us, h2, h1, km, hc, hd, hf⟩

def dcallF (g : Fn) (os : List (Option Nat)) (vs : List T) : M T := fun ρ => match g vs with
  | .ok r ρa => .ok r (restore os ρa ρ)
  | .ex e ρa => .ex e (restore os ρa ρ)
  | .no => .no
def dcall (g : Fn) (os : List (Option Nat)) (fs : M (List T)) : M T := mbind fs fun vs => dcallF g os vs
structure Def (P : Program) (w : World) (K : PySem.W.Frag) (mg : Str → Option Value) (base : Heap) (x : Str) (k n : Nat) (g : Fn) : Prop where
  ex : ∃ f fd ps ds, FnGd P w K mg base k f fd ps ds (FnD K mg n g) ∧ mg x = some (.ref f) ∧ PySem.W.keepIn K (.ref f) = true ∧ Binds K fd ps ds
structure At (X : Cx) (w : Wd) (k : Nat) : Prop where
  g : X.A.guards = some []
  r : Room k X.A
  tk : Takes X w.W
  cl : w.cl = X.mg
  ca : X.calm = true
  po : PassesOwn (model X.prog X.w) X.A X.env X.xe
theorem At.un {X : Cx} {w : Wd} {k : Nat} (h : At X w k) : X.A.units + 64 < cLine := h.r.units
section
variable {X : Cx} {w : Wd} {e : Expr} {es : List Expr} {fs : M (List T)} {os : List (Option Nat)} {g : Fn} {k n : Nat} {x : Str} {p pos : Pos}
theorem den_call {t : TA} {K : PySem.W.Frag} (hcl : w.cl = mg) (hn : ∀ vs : List T, ∀ ρ ρ', fs ρ = .ok vs ρ' → vs.length = n) (d : DenA K w t os fs) : DenE K w (tCallG (FnD K mg n g) w.W [] t) (dcall g os fs) := fun B σ H ρ ws ts Q ok q => by
  subst hcl
  refine d B σ H ρ ws ts _ ok ?_
  have q := q.bind
  cases e1 : fs ρ with
  | no => rw [e1] at q; exact q.elim
  | ex er ρ1 => rw [e1] at q; exact q
  | ok vs ρ1 =>
    rw [e1] at q
    intro xs H1 hl ok1 ho
    have q : PostG K w B (dcallF g os vs ρ1) _ := q
    unfold dcallF at q
    obtain ⟨I, Fr, F, s, hr, hw, km⟩ := id ok1
    obtain ⟨Fa, Fw, hF, ha, hw'⟩ := RepTs.split hl hw
    subst hF
    rw [List.append_nil]
    refine ⟨by rw [hl]; exact hn vs ρ ρ1 e1, I, Fa, vs, ⟨s.sub, Same.refl _, fun a o _ z => z, fun a o z => .inl z, fun a z => .inl z, fun a z => s.own a (List.mem_append_right _ (List.mem_append_left _ z)), fun a z => s.thr a (List.mem_append_right _ (List.mem_append_left _ z)), (List.nodup_append.mp (List.nodup_append.mp s.nd).2.1).1⟩, ha, ?_⟩
    cases e2 : g vs with
    | no => rw [e2] at q; exact q.elim
    | ok r ρa =>
      rw [e2] at q
      exact fun y H' ok2 => q y H' (Ok.called (vs := vs) s hr hw' km ho ok2)
    | ex er ρa =>
      rw [e2] at q
      exact fun c dd H' okx => q c dd σ H' (OkX.called (vs := vs) s hr hw' km ho okx)
theorem de_call {k' : Nat} (D : Def X.prog X.w X.K X.mg X.base x k n g) (at_ : At X w k') (ha : DA X w (e :: es) os fs) (hk : k ≤ k' := by decide) (hn : (e :: es).length = n := by rfl) (hg : Gl X x := by rfl) (dbg : (x == ("__debug__" : Str)) = false := by decide)
    (st : starEach (e :: es) X.env = (false, eval e X.env) :: starEach es X.env := by rfl) (pl : (backTo pos (starEach es X.env)).any (·.1) = false := by rfl) : DE X w (.Call (.Name x p) (e :: es) [] pos) (dcall g os fs) := by
  obtain ⟨f, fd, ps, ds, F, hm, kp, b⟩ := D.ex
  obtain ⟨t, pt, dt⟩ := ha.ex
  exact de_v (pe_callGd F at_.g (at_.r.mono hk) hg hm kp b at_.tk pt dbg st pl) (den_call at_.cl (fun vs ρ ρ' e => (ha.len vs ρ ρ' e).trans hn) dt)
end
def keepm : List Bool → Rho → Rho
  | [], _ => []
  | true :: m, o :: ρ => o :: keepm m ρ
  | false :: m, _ :: ρ => none :: keepm m ρ
  | _ :: m, [] => none :: keepm m []
theorem RepR.keepm {K : PySem.W.Frag} {I H : Hp} : ∀ {m : List Bool} {vs : List V} {σ : L2.St} {ρ : Rho} {F : List Addr}, vs.length = m.length → RepR K I H σ ρ F → (∀ i : Nat, m[i]? = some true → σ[i]? = (vs.map some)[i]?) →
    ∃ F' R, RepR K I H (vs.map some) (keepm m ρ) F' ∧ List.Perm (F' ++ R) F
  | [], [], σ, ρ, F, _, _, _ => ⟨[], F, .nil, List.Perm.refl _⟩
  | [], _ :: _, _, _, _, l, _, _ => nomatch l
  | _ :: _, [], _, _, _, l, _, _ => nomatch l
  | b :: m, v :: vs, _, _, _, l, .nil, k => by
    obtain ⟨F', R, h1, h2⟩ := RepR.keepm (m := m) (vs := vs) (σ := []) (ρ := []) (F := []) (K := K) (I := I) (H := H) (by simpa using l) .nil (fun i e => by simpa using k (i + 1) (by simpa using e))
    cases b <;> exact ⟨F', R, .hid h1, h2⟩
  | b :: m, v :: vs, _, _, _, l, .hid (F := F) r, k => by
    obtain ⟨F', R, h1, h2⟩ := RepR.keepm (m := m) (vs := vs) (by simpa using l) r (fun i e => by simpa using k (i + 1) (by simpa using e))
    cases b <;> exact ⟨F', R, .hid h1, h2⟩
  | b :: m, v :: vs, _, _, _, l, .has (v := u) (t := t) (F := F) (G := G) a r, k => by
    obtain ⟨F', R, h1, h2⟩ := RepR.keepm (m := m) (vs := vs) (by simpa using l) r (fun i e => by simpa using k (i + 1) (by simpa using e))
    cases b with
    | true =>
      have e : u = v := by simpa using k 0 rfl
      subst e
      exact ⟨F ++ F', R, .has a h1, by rw [List.append_assoc]; exact List.Perm.append_left _ h2⟩
    | false =>
      refine ⟨F', R ++ F, .hid h1, ?_⟩
      rw [← List.append_assoc]
      exact (List.Perm.append_right _ h2).trans List.perm_append_comm
def dfn (n : Nat) (m : List Bool) (F : M Fl) : Fn := fun ts => match F (ts.map some ++ List.replicate (n - ts.length) none) with
  | .ok fl ρ => match fl with
    | .rt v => .ok v (keepm m ρ)
    | .nx => .ok (.d .none) (keepm m ρ)
    | _ => .no
  | .ex e ρ => .ex e (keepm m ρ)
  | .no => .no
theorem RepR.start {K : PySem.W.Frag} {I H : Hp} (n : Nat) : ∀ {vs : List V} {ts : List T} {F : List Addr}, RepTs K I H vs ts F → RepR K I H (vs.map some ++ List.replicate n none) (ts.map some ++ List.replicate n none) F
  | _, _, _, .nil => by
    induction n with
    | zero => exact .nil
    | succ n ih => exact .hid ih
  | _, _, _, .cons a b => .has a (RepR.start n b)
theorem Sit.s {I0 H0 I H : Hp} {F0 F : List Addr} {s s' : L2.St} (h : Sit ⟨I0, H0, F0, s⟩ I H F) : Sit ⟨I0, H0, F0, s'⟩ I H F := ⟨h.sub, h.ext, h.keep, h.new, h.fr, h.own, h.thr, h.nd⟩
section
variable {P : Program} {w : World} {K : PySem.W.Frag} {mg : Str → Option Value} {base : Heap} {k : Nat} {f : Addr} {fd : FuncData} {N ps : List Str} {x qual : Str} {st : Stmt} {m : List Bool} {F : M Fl}
abbrev cxG (P : Program) (w : World) (K : PySem.W.Frag) (mg : Str → Option Value) (base : Heap) (N : List Str) (qual : Str) (st : Stmt) (f : Addr) (cd : Value) (A : Around) (outer : List Env) (s : Shared) (H : Hp) (E : XK) : Cx :=
  cxOf (L2.CX P w) P w K mg base N qual (defScope st) f cd A outer s H E
abbrev wdG (m : List Bool) (mg : Str → Option Value) (E : XK) : Wd := ⟨fun c d _ H => E c d H, m, mg⟩
def BodyOk (P : Program) (w : World) (K : PySem.W.Frag) (mg : Str → Option Value) (base : Heap) (k : Nat) (N : List Str) (qual : Str) (st : Stmt) (m : List Bool) (F : M Fl) : Prop :=
  ∀ (f : Addr) (cd : Value) (A : Around) (outer : List Env) (s : Shared) (H : Hp) (E : XK), At (cxG P w K mg base N qual st f cd A outer s H E) (wdG m mg E) k → DSs (cxG P w K mg base N qual st f cd A outer s H E) (wdG m mg E) (defBody st) F
theorem def_ok (U : Fun K x qual st f fd) (S : FnScope N ps (defScope st)) (hm : m.length = ps.length) (body : BodyOk P w K mg base k N qual st m F) : FnG P w K mg base (k + 1) f fd ps (FnD K mg ps.length (dfn N.length m F)) := by
  obtain ⟨oc, od, kV, doc, pm, an, cdv, ct, osl, rfl, lk, hcd⟩ := U.ex
  refine ⟨fun vs H Q E h => h.1, fun A outer s H args us vs Q E g r e0 hb rv hsp => ?_⟩
  obtain ⟨hl, I, Fa, ts, sit, rep, q⟩ := hsp
  have old : ∀ b o, base.get? b = some o → s.heap.get? b = some o := fun b o e => (e0.bs b o e).1
  have kin : K.In s.heap := e0.mod.kin.keeps old
  have names : ∀ y ∈ ps.zip us, (defScope st).names.lookup y.1 = some .local ∨ ((defScope st).names.lookup y.1 = some .cell ∧ ((cellsFrom (s.heap.objs.size + 1) (defScope st).names []).lookup y.1).isSome = true) := by
    rintro ⟨n, v⟩ hy
    exact (S.par n (List.of_mem_zip hy).1).imp id fun z => ⟨z, PySem.W.cellsFrom_some _ _ _ (.inl z)⟩
  refine codeAny_call_function r.depth (kin _ _ lk) rfl S.co S.gen rfl (PySem.W.codeRec_of kin hcd) (hb _ _ _ _ (wpAny_newFunctionEnv_cells S.kind names fun env he s1 inC => ?_))
  subst he
  refine ⟨(e0.mod.nolimit.keeps old).keeps inC.toInCall.keep, codeAny_func ?_⟩
  have cal : (cxG P w K mg base N qual st f cdv A outer s H E).calm = true := rfl
  have site : At (cxG P w K mg base N qual st f cdv A outer s H E) (wdG m mg E) k := ⟨g, r.deeper _, takes_of rfl rfl rfl rfl, rfl, rfl, passes_of rfl⟩
  obtain ⟨t, run, den⟩ := (body f cdv A outer s H E site).ex
  have I0 : Inv (cxG P w K mg base N qual st f cdv A outer s H E) [] (start N vs) H s1 := inv_start S r.hd e0 hl rv inC
  have lts : vs.length = ts.length := rep.len
  have ok0 : Ok K m ⟨I, H, Fa, start N vs⟩ (start N vs) H (ts.map some ++ List.replicate (N.length - ts.length) none) [] [] := by
    refine ⟨I, Fa, [], by rw [List.append_nil]; exact sit.s, ?_, .nil, fun i _ => rfl⟩
    unfold L2.start
    rw [lts]
    exact RepR.start _ rep
  have back : ∀ {σ' H' ρ' ws us'}, Ok K m ⟨I, H, Fa, start N vs⟩ σ' H' ρ' ws us' → Ok K [] ⟨I, H, Fa, vs.map some⟩ (vs.map some) H' (DL.keepm m ρ') ws us' := fun {σ' H' ρ' ws us'} z => by
    obtain ⟨I', Fr, Fw, s', r', w', km⟩ := z
    obtain ⟨F', R, h1, h2⟩ := RepR.keepm (vs := vs) (m := m) (by rw [hl, hm]) r' (fun i e => by
      rw [km i e]
      unfold L2.start
      have : i < vs.length := by
        have := (List.getElem?_eq_some_iff.mp e).1
        omega
      rw [List.getElem?_append_left (by simpa using this)])
    refine ⟨I', F', Fw, (s'.sub' (R := R) ?_).s, h1, w', Kept.nil⟩
    have e1 : List.Perm (F' ++ Fw ++ R) (F' ++ R ++ Fw) := by
      rw [List.append_assoc, List.append_assoc]
      exact List.Perm.append_left _ List.perm_append_comm
    exact e1.trans (List.Perm.append_right _ h2)
  have backX : ∀ {σ' H' ρ' er c d}, OkX K m mg ⟨I, H, Fa, start N vs⟩ σ' H' ρ' er c d → OkX K [] mg ⟨I, H, Fa, vs.map some⟩ (vs.map some) H' (DL.keepm m ρ') er c d := fun {σ' H' ρ' er c d} z => by
    obtain ⟨I', Fr, us', s', r', km, hc, hd, hf⟩ := z
    obtain ⟨F', R, h1, h2⟩ := RepR.keepm (vs := vs) (m := m) (by rw [hl, hm]) r' (fun i e => by
      rw [km i e]
      unfold L2.start
      have : i < vs.length := by
        have := (List.getElem?_eq_some_iff.mp e).1
        omega
      rw [List.getElem?_append_left (by simpa using this)])
    exact ⟨I', F', us', (s'.sub' (R := R) h2).s, h1, Kept.nil, hc, hd, hf⟩
  have goal : t { nx := fun _ H' => Q .non H', rt := Q } (start N vs) H := by
    refine den ⟨I, H, Fa, start N vs⟩ _ _ _ [] [] _ ok0 ?_
    unfold dfn at q
    cases e : F (ts.map some ++ List.replicate (N.length - ts.length) none) with
    | no => rw [e] at q; exact q.elim
    | ex er ρ' =>
      rw [e] at q
      exact fun c d σ' H' okx => q c d H' (backX okx)
    | ok fl ρ' =>
      rw [e] at q
      cases fl with
      | rt v => exact fun x σ' H' ok' => q x H' (back ok')
      | nx => exact fun σ' H' ok' => q .non H' (back ok').non
      | bk => exact q.elim
      | ct => exact q.elim
  refine wpAny_mono (run.run [] s1 (start N vs) H _ I0 goal) (fun fl s' hs => ?_) fun e s' hs => hs
  have fin : ∀ {σ' : L2.St} {H' : Hp} {v : V} {u : Value}, Inv (cxG P w K mg base N qual st f cdv A outer s H E) [] σ' H' s' → RelV v u → Q v H' → CE outer P w H s Q u s' :=
    fun {σ' H' v u} J rv q => ⟨v, H', J.os, J.bare, J.base, J.hok, rv, q⟩
  match fl, hs with
  | .ret u, ⟨v, σ', H', J, ru, z⟩ => exact fin J ru z
  | .next, ⟨σ', H', J, z⟩ => exact fin (v := V.non) (u := Value.none) J rfl z
  | .brk, ⟨_, _, _, z⟩ => exact z.elim
  | .cont, ⟨_, _, _, z⟩ => exact z.elim
theorem Def.of (U : Fun K x qual st f fd) (hm : mg x = some (.ref f)) (b : Binds K fd ps []) {n : Nat} {g : Fn} (h : FnG P w K mg base k f fd ps (FnD K mg n g)) : Def P w K mg base x k n g := ⟨f, fd, ps, [], .of h, hm, U.kp, b⟩
end
end DL
end
section
set_option Elab.async false
set_option linter.all false
set_option maxRecDepth 100000
set_option maxHeartbeats 4000000
namespace DL
open PySem L2
def JWalk (K : PySem.W.Frag) (J : It) (ws1 : List V) (ts1 : List T) (ds : List PyData) : Prop :=
  ∀ m B σ H ρ ws ts (i : Nat), Ok K m B σ H ρ (ws1 ++ ws) (ts1 ++ ts) → (ds.length = i → J.stop i H) ∧
    ∀ d, ds[i]? = some d → J.go i H ∧ ∀ x H', J.yld i H x H' → Ok K m B σ H' ρ (x :: (ws1 ++ ws)) (.d d :: (ts1 ++ ts))
def DenI (K : PySem.W.Frag) (w : Wd) (wi : TI) (f : M (List PyData)) : Prop := ∀ B σ H ρ ws ts R, Ok K w.m B σ H ρ ws ts →
  PostG K w B (f ρ) (fun ds ρ' => ∀ J H' ws1 ts1, ws1.length = ts1.length → Ok K w.m B σ H' ρ' (ws1 ++ ws) (ts1 ++ ts) → JWalk K J ws1 ts1 ds → R J H') → wi σ H R
structure DI (X : Cx) (w : Wd) (tg iter : Expr) (f : M (List PyData)) : Prop where
  ex : ∃ wi, PI X tg iter wi ∧ DenI X.K w wi f
theorem PI.or {X : Cx} {tg iter : Expr} {w1 w2 : TI} (h1 : PI X tg iter w1) (h2 : PI X tg iter w2) : PI X tg iter (fun σ H R => w1 σ H R ∨ w2 σ H R) :=
  ⟨fun pins s σ H R I h => h.elim (h1.run pins s σ H R I) (h2.run pins s σ H R I)⟩
section
variable {X : Cx} {w : Wd} {tg e : Expr} {f : M T} {pos p : Pos} {K : PySem.W.Frag}
def seqItems : T → Option (List PyData)
  | .d (.list ds) => some ds
  | .d (.tuple ds) => some ds
  | .d (.str z) => some (z.cps.toList.map fun c => .str ⟨#[c]⟩)
  | _ => none
def dseq (f : M T) : M (List PyData) := mbind f fun t => mopt (seqItems t)
theorem walk_list {a : Addr} {vs0 : List V} {ds : List PyData} : JWalk K (Itl K a) [.ref a] [.d (.list ds)] ds := fun m B σ H ρ ws ts i ok => by
  obtain ⟨I, Fr, Fw, s, r, wz, km⟩ := id ok
  obtain ⟨a', vs, e, ha, dd⟩ := lst_items wz
  cases e
  have hH := s.sub _ _ ha
  refine ⟨fun hi => ⟨vs, SqL.of hH, by rw [dd.len]; exact Nat.le_of_eq hi⟩, fun d hd => ?_⟩
  obtain ⟨v, hv, dv⟩ := dd.get' hd
  refine ⟨⟨vs, v, SqL.of hH, hv⟩, fun x H' y => ?_⟩
  obtain ⟨e, y⟩ := y
  subst e
  have hx := y vs (SqL.of hH)
  rw [hv] at hx
  cases hx
  exact ⟨I, Fr, _, s, r, .cons (F := []) (.d dv) wz, km⟩
theorem walk_str {x : Str} : JWalk K (Its x) [] [] (x.cps.toList.map fun c => PyData.str ⟨#[c]⟩) := fun m B σ H ρ ws ts i ok => by
  refine ⟨fun hi => show x.cps.size ≤ i from (by have := Nat.le_of_eq hi; simpa using this), fun d hd => ?_⟩
  rw [List.getElem?_map] at hd
  cases e : x.cps.toList[i]? with
  | none => rw [e] at hd; cases hd
  | some c =>
    rw [e] at hd
    cases hd
    have hi : i < x.cps.size := by
      have := (List.getElem?_eq_some_iff.mp e).1
      simpa using this
    refine ⟨hi, fun v H' y => ?_⟩
    obtain ⟨e1, c', hc, ev⟩ := y
    subst e1 ev
    have : c' = c := by
      rw [← Array.getElem?_toList, e] at hc
      exact (Option.some.inj hc).symm
    subst this
    exact ok.str
theorem di_seq (h : DE X w e f) : DI X w tg e (dseq f) := by
  obtain ⟨t, pt, dt⟩ := h.ex
  refine ⟨_, PI.or (pi_list pt) (PI.or (pi_tup pt) (pi_str pt)), fun B σ H ρ ws ts R ok q => ?_⟩
  have q := q.bind
  cases e1 : f ρ with
  | no => rw [e1] at q; exact q.elim
  | ex er ρ1 => rw [e1] at q; exact .inl (dt B σ H ρ ws ts _ ok (by rw [e1]; exact q))
  | ok v ρ1 =>
    rw [e1] at q
    obtain ⟨ds, e2, q2⟩ := (show PostG X.K w B (mopt (seqItems v) ρ1) _ from q).opt
    unfold seqItems at e2
    split at e2
    · cases e2
      refine .inl (dt B σ H ρ ws ts _ ok ?_)
      rw [e1]
      intro x H1 ok1
      obtain ⟨a, vs, rfl, ha, dd⟩ := ok1.topList
      exact ⟨a, rfl, ⟨vs, SqL.of ha⟩, q2 _ H1 [.ref a] [.d (.list _)] rfl ok1 (walk_list (vs0 := vs))⟩
    · cases e2
      refine .inr (.inl (dt B σ H ρ ws ts _ ok ?_))
      rw [e1]
      intro x H1 ok1
      obtain ⟨a, vs, rfl, ha, dd⟩ := ok1.topTup
      refine ⟨a, rfl, ⟨vs, ha⟩, q2 _ H1 [.ref a] [.d (.tuple _)] rfl ok1 fun m B σ H ρ ws ts i ok => ?_⟩
      obtain ⟨I, Fr, Fw, s, r, wz, km⟩ := id ok
      obtain ⟨a', us, e, ha, dd⟩ := tup_items wz
      cases e
      have hH := st_mono s.sub ha
      refine ⟨fun hi => ⟨us, hH, by rw [dd.len]; exact Nat.le_of_eq hi⟩, fun d hd => ?_⟩
      obtain ⟨v, hv, dv⟩ := dd.get' hd
      refine ⟨⟨us, v, hH, hv⟩, fun x H' y => ?_⟩
      obtain ⟨e, y⟩ := y
      subst e
      have hx := y us hH
      rw [hv] at hx
      cases hx
      exact ⟨I, Fr, _, s, r, .cons (F := []) (.d dv) wz, km⟩
    · cases e2
      refine .inr (.inr (dt B σ H ρ ws ts _ ok ?_))
      rw [e1]
      intro x H1 ok1
      have hx := ok1.topStr
      subst hx
      exact ⟨_, rfl, q2 _ H1 [] [] rfl ok1.pop walk_str⟩
    · cases e2
def intsFrom (lo : Int) (n : Nat) : List PyData := (List.range n).map fun i => .int (lo + (i : Nat))
theorem intsFrom_get (lo : Int) (n i : Nat) : (intsFrom lo n)[i]? = if i < n then some (.int (lo + i)) else none := by
  unfold intsFrom
  rw [List.getElem?_map]
  by_cases h : i < n
  · rw [if_pos h, List.getElem?_range h]; rfl
  · rw [if_neg h, List.getElem?_eq_none (by simpa using h)]; rfl
theorem walk_range {lo : Int} {n : Nat} : JWalk K (Itr lo n) [] [] (intsFrom lo n) := fun m B σ H ρ ws ts i ok => by
  refine ⟨fun hi => show n ≤ i from (by have := Nat.le_of_eq hi; simpa [intsFrom] using this), fun d hd => ?_⟩
  rw [intsFrom_get] at hd
  by_cases h : i < n
  · rw [if_pos h] at hd
    cases hd
    refine ⟨h, fun x H' y => ?_⟩
    obtain ⟨e, y⟩ := y
    subst e y
    exact ok.int
  · rw [if_neg h] at hd; cases hd
def okRange (i : Int) : Bool := decide (-1000000 ≤ i) && decide (i ≤ 1000000)
def rangeItems : List T → Option (List PyData)
  | [.d (.int j)] => if okRange j = true then some (intsFrom 0 j.toNat) else none
  | [.d (.int i), .d (.int j)] => if (okRange i && okRange j) = true then some (intsFrom i (j - i).toNat) else none
  | _ => none
theorem okRange_of {i : Int} (h : okRange i = true) : -(2 ^ 62) ≤ i ∧ i < 2 ^ 62 := by
  have h := (Bool.and_eq_true _ _).mp h
  have h1 := of_decide_eq_true h.1
  have h2 := of_decide_eq_true h.2
  omega
def drange (fs : M (List T)) : M (List PyData) := mbind fs fun ts => mopt (rangeItems ts)
abbrev NoG (X : Cx) (x : Str) : Prop := X.mg x = none
theorem di_range1 {a : Expr} {os : List (Option Nat)} {fs : M (List T)} (hm : NoG X "range") (ha : DA X w [a] os fs) (hg : Gl X "range" := by rfl) (hs : starEach [a] X.env = [(false, eval a X.env)] := by rfl) : DI X w tg (.Call (.Name "range" p) [a] [] pos) (drange fs) := by
  obtain ⟨t, pt, dt⟩ := ha.ex
  refine ⟨_, pi_range1 hg hm pt hs, fun B σ H ρ ws ts R ok q => ?_⟩
  refine dt B σ H ρ ws ts _ ok ?_
  have q := q.bind
  cases e1 : fs ρ with
  | no => rw [e1] at q; exact q.elim
  | ex er ρ1 => rw [e1] at q; exact q
  | ok vs ρ1 =>
    rw [e1] at q
    intro xs H1 hl ok1 _
    have hlen := ha.len vs ρ ρ1 e1
    obtain ⟨ds, e2, q2⟩ := (show PostG X.K w B (mopt (rangeItems vs) ρ1) _ from q).opt
    unfold rangeItems at e2
    split at e2
    · obtain ⟨h1, h2⟩ := reqs e2
      subst h2
      obtain ⟨x, rfl⟩ : ∃ x, xs = [x] := by
        cases xs with
        | nil => cases hl
        | cons x r => cases r with
          | nil => exact ⟨x, rfl⟩
          | cons _ _ => cases hl
      have hx := Ok.topInt (ws := ws) (ts := ts) ok1
      subst hx
      obtain ⟨b1, b2⟩ := okRange_of h1
      exact ⟨_, rfl, b1, b2, q2 _ H1 [] [] rfl (Ok.pop (ws := ws) (ts := ts) ok1) walk_range⟩
    · cases hlen
    · cases e2
def numbered : Nat → List PyData → List PyData
  | _, [] => []
  | k, d :: ds => .tuple [.int k, d] :: numbered (k + 1) ds
theorem numbered_len : ∀ (k : Nat) (ds : List PyData), (numbered k ds).length = ds.length
  | _, [] => rfl
  | k, _ :: ds => by simp [numbered, numbered_len (k + 1) ds]
theorem numbered_get : ∀ (k : Nat) (ds : List PyData) (i : Nat) (e : PyData), (numbered k ds)[i]? = some e → ∃ d, ds[i]? = some d ∧ e = .tuple [.int ((k + i : Nat) : Int), d]
  | _, [], i, e, h => by simp [numbered] at h
  | k, d :: ds, 0, e, h => by
    simp [numbered] at h
    exact ⟨d, rfl, by rw [← h]; rfl⟩
  | k, d :: ds, i + 1, e, h => by
    obtain ⟨d', h1, h2⟩ := numbered_get (k + 1) ds i e (by simpa [numbered] using h)
    refine ⟨d', by simpa using h1, ?_⟩
    rw [h2]
    have : k + 1 + i = k + (i + 1) := by omega
    rw [this]
def enumItems : List T → Option (List PyData)
  | [.d (.list ds)] => some (numbered 0 ds)
  | _ => none
def denum (fs : M (List T)) : M (List PyData) := mbind fs fun ts => mopt (enumItems ts)
theorem walk_enum {a : Addr} {ds : List PyData} : JWalk K (Ite K a) [.ref a] [.d (.list ds)] (numbered 0 ds) := fun m B σ H ρ ws ts i ok => by
  obtain ⟨I, Fr, Fw, s, r, wz, km⟩ := id ok
  obtain ⟨a', vs, e, ha, dd⟩ := lst_items wz
  cases e
  have hH := s.sub _ _ ha
  refine ⟨fun hi => ⟨vs, SqL.of hH, by rw [dd.len]; rw [numbered_len] at hi; exact Nat.le_of_eq hi⟩, fun d hd => ?_⟩
  obtain ⟨d', hd', rfl⟩ := numbered_get 0 ds i d hd
  obtain ⟨v, hv, dv⟩ := dd.get' hd'
  refine ⟨⟨vs, v, SqL.of hH, hv⟩, fun x H' y => ?_⟩
  obtain ⟨t, z, rfl, ht, rfl, hz⟩ := y
  have hx := hz vs (SqL.of hH)
  rw [hv] at hx
  cases hx
  refine Ok.newTup ok ht fun I' Fw' sb w' => ?_
  obtain ⟨a', vs', e', ha', dd'⟩ := lst_items w'
  cases e'
  have := sb _ _ ha'
  rw [hH] at this
  cases this
  obtain ⟨d2, h2, dv2⟩ := dd'.get hv
  rw [hd'] at h2
  cases h2
  rw [Nat.zero_add]
  exact .cons (.int _) (.cons dv2 .nil)
theorem di_enum {a : Expr} {es : List Expr} {kk : Nat} {tpos : Pos} {os : List (Option Nat)} {fs : M (List T)} (hm : NoG X "enumerate") (ha : DA X w [a] os fs) (hg : Gl X "enumerate" := by rfl) (hs : starEach [a] X.env = [(false, eval a X.env)] := by rfl) :
    DI X w (.Tuple es kk tpos) (.Call (.Name "enumerate" p) [a] [] pos) (denum fs) := by
  obtain ⟨t, pt, dt⟩ := ha.ex
  refine ⟨_, pi_enum hg hm pt hs, fun B σ H ρ ws ts R ok q => ?_⟩
  refine dt B σ H ρ ws ts _ ok (q.bind.mono fun vs ρ1 p1 xs H1 hl ok1 _ => ?_)
  obtain ⟨ds, e2, q2⟩ := p1.opt
  unfold enumItems at e2
  split at e2
  · cases e2
    obtain ⟨x, rfl⟩ : ∃ x, xs = [x] := by
      cases xs with
      | nil => cases hl
      | cons x r => cases r with
        | nil => exact ⟨x, rfl⟩
        | cons _ _ => cases hl
    obtain ⟨a, vs, rfl, ha, dd⟩ := Ok.topList (ws := ws) (ts := ts) ok1
    exact ⟨a, vs, rfl, SqL.of ha, q2 _ H1 [.ref a] [.d (.list _)] rfl ok1 walk_enum⟩
  · cases e2
end
section
variable {X : Cx} {w : Wd} {tg iter : Expr} {body : List Stmt} {fi : M (List PyData)} {g : T → M Unit} {S : List Nat} {F : M Fl} {pos : Pos} {k : Nat}
def sfor (fi : M (List PyData)) (g : T → M Unit) (F : M Fl) : M Fl := mbind fi fun ds => mfor g F (ds.map T.d)
theorem ds_for (at_ : At X w k) (hi : DI X w tg iter fi) (hg : DG X w tg S g) (hb : DSs X w body F) (hs : ∀ x, foldedSetIterable iter X.env x = pure x := by intro _; rfl) : DS X w (.For tg iter body [] pos) (sfor fi g F) := by
  obtain ⟨wi, pi, di⟩ := hi.ex
  obtain ⟨tg', pg, dg⟩ := hg.ex
  obtain ⟨tb, pb, db⟩ := hb.ex
  refine ⟨_, ps_for at_.po at_.ca pi pg pb hs, fun B σ H ρ ws ts D ok q => ?_⟩
  refine di B σ H ρ ws ts _ ok (q.bind.mono fun ds ρ1 p1 J H1 ws1 ts1 hl ok1 jw => ?_)
  refine ⟨fun i n σ H => n = ds.length - i ∧ i ≤ ds.length ∧ ∃ ρ, Ok X.K w.m B σ H ρ (ws1 ++ ws) (ts1 ++ ts) ∧ PostG X.K w B (mfor g F ((ds.drop i).map T.d) ρ) (PostS X.K w B ws ts D), ⟨ds.length, rfl, Nat.zero_le _, ρ1, ok1, p1⟩, ?_⟩
  rintro i n σ2 H2 ⟨rfl, hi, ρ2, ok2, p2⟩
  obtain ⟨j1, j2⟩ := jw w.m B σ2 H2 ρ2 ws ts i ok2
  by_cases hlt : i < ds.length
  · obtain ⟨go, yl⟩ := j2 ds[i] (by simp [hlt])
    refine .inr ⟨go, fun σ H => i + 1 ≤ ds.length ∧ ∃ ρ, Ok X.K w.m B σ H ρ (ws1 ++ ws) (ts1 ++ ts) ∧ PostG X.K w B (mfor g F ((ds.drop (i + 1)).map T.d) ρ) (PostS X.K w B ws ts D), fun σ' H' h => ⟨ds.length - (i + 1), by omega, rfl, h.1, h.2⟩, fun x H' y => ?_⟩
    have ok3 := yl x H' y
    rw [List.drop_eq_getElem_cons hlt, List.map_cons] at p2
    have p3 : PostG X.K w B (g (.d ds[i]) ρ2) _ := PostG.bind p2
    refine dg B σ2 H' ρ2 _ _ x _ _ ok3 (p3.mono fun _ ρ4 p4 σ4 H4 _ ok4 => ?_)
    refine db B σ4 H4 ρ4 _ _ _ ok4 ((PostG.bind p4).mono fun fl ρ5 p5 => ?_)
    cases fl with
    | nx => exact fun σ' H' ok' => ⟨hlt, ρ5, ok', p5⟩
    | ct => exact fun σ' H' ok' => ⟨hlt, ρ5, ok', p5⟩
    | bk => exact fun σ' H' ok' => (show ∀ σ' H', Ok X.K w.m B σ' H' ρ5 ws ts → D.nx σ' H' from p5) σ' H' ((Ok.popAll hl ok'.non).pop)
    | rt v => exact fun x σ' H' ok' => (show ∀ x σ' H', Ok X.K w.m B σ' H' ρ5 (x :: ws) (v :: ts) → D.rt x H' from p5) x σ' H' (Ok.popAll hl ok')
  · have e : i = ds.length := by omega
    subst e
    rw [List.drop_length, List.map_nil] at p2
    exact .inl ⟨j1 rfl, (show ∀ σ' H', Ok X.K w.m B σ' H' ρ2 ws ts → D.nx σ' H' from p2) σ2 H2 ((Ok.popAll hl ok2.non).pop)⟩
end
end DL
end
section
set_option Elab.async false
set_option linter.all false
set_option maxRecDepth 100000
set_option maxHeartbeats 4000000
namespace DL
open PySem L2
mutual
/-- a tree as data -/
def toD : T → Option PyData
  | .d x => some x
  | .lst xs => (toDs xs).map PyData.list
  | .fn _ => none
  | .scr _ => none
  | .fns _ => none
  | .ty _ => none
  | .dct _ => none
  | .ins _ _ => none
  | .exc _ _ => none
  | .fin _ _ => none
  | .fdct _ => none
  | .tup xs => (toDs xs).map PyData.tuple
  | .opq _ => none
  | .hole => none
def toDs : List T → Option (List PyData)
  | [] => some []
  | t :: ts => match toD t, toDs ts with
    | some d, some ds => some (d :: ds)
    | _, _ => none
end
mutual
theorem frz_rep {K : PySem.W.Frag} {I I' H : Hp} (sm : Same I I') : ∀ {v : V} {t : T} {F : List Addr} {d : PyData}, RepT K I H v t F → toD t = some d → (∀ a ∈ F, I' a = H a) → Dr K I' v d
  | _, _, _, _, .d q, e, _ => by
    simp [toD] at e
    subst e
    exact dr_mono sm q
  | _, _, _, _, .fn _, e, _ => by simp [toD] at e
  | _, _, _, _, .scr _, e, _ => by simp [toD] at e
  | _, _, _, _, .fns _ _, e, _ => by simp [toD] at e
  | _, _, _, _, .ty, e, _ => by simp [toD] at e
  | _, _, _, _, .exc _, e, _ => by simp [toD] at e
  | _, _, _, _, .fin _, e, _ => by simp [toD] at e
  | _, _, _, _, .fdct _, e, _ => by simp [toD] at e
  | _, _, _, d, .lst (xs := xs) h r, e, k => by
    simp only [toD] at e
    cases q : toDs xs with
    | none => rw [q] at e; cases e
    | some ds =>
      rw [q] at e
      cases e
      exact .lst (by rw [k _ (by simp)]; exact h) (frz_reps sm r q fun a m => k a (by simp [m]))
  | _, _, _, d, .tup (xs := xs) h r, e, k => by
    simp only [toD] at e
    cases q : toDs xs with
    | none => rw [q] at e; cases e
    | some ds =>
      rw [q] at e
      cases e
      exact .tup (st_mono sm h) (frz_reps sm r q k)
  | _, _, _, _, .opq _ _, e, _ => by simp [toD] at e
  | _, _, _, _, .hole, e, _ => by simp [toD] at e
  | _, _, _, _, .dct _ _ _ _ _, e, _ => by simp [toD] at e
  | _, _, _, _, .ins _ _ _ _ _ _ _, e, _ => by simp [toD] at e
theorem frz_reps {K : PySem.W.Frag} {I I' H : Hp} (sm : Same I I') : ∀ {vs : List V} {ts : List T} {F : List Addr} {ds : List PyData}, RepTs K I H vs ts F → toDs ts = some ds → (∀ a ∈ F, I' a = H a) → DrAll K I' vs ds
  | _, _, _, _, .nil, e, _ => by
    simp [toDs] at e
    subst e
    exact .nil
  | _, _, _, _, .cons (t := t) (ts := ts) a b, e, k => by
    simp only [toDs] at e
    cases q1 : toD t with
    | none => rw [q1] at e; cases e
    | some d =>
      cases q2 : toDs ts with
      | none => rw [q1, q2] at e; cases e
      | some ds =>
        rw [q1, q2] at e
        cases e
        exact .cons (frz_rep sm a q1 fun x m => k x (by simp [m])) (frz_reps sm b q2 fun x m => k x (by simp [m]))
end
section
variable {K : PySem.W.Frag} {m : List Bool} {B : Bs} {σ : St} {H : Hp} {ρ : Rho} {ws : List V} {ts : List T} {x y v : V} {t u : T} {d e : PyData} {i : Nat}
theorem Ok.freeze (h : Ok K m B σ H ρ (x :: ws) (t :: ts)) (e : toD t = some d) : Ok K m B σ H ρ (x :: ws) (.d d :: ts) := by
  obtain ⟨I, Fr, Fw, s, r, w, km⟩ := h
  cases w with
  | cons a b =>
    rename_i F G
    have nd := s.nd
    have inF : ∀ c ∈ F, c ∈ Fr ++ (F ++ G) := fun c m => List.mem_append_right _ (List.mem_append_left _ m)
    let I' : Hp := fun c => if c ∈ F then H c else I c
    have e1 : ∀ c, c ∈ F → I' c = H c := fun c m => if_pos m
    have e2 : ∀ c, c ∉ F → I' c = I c := fun c m => if_neg m
    have sm : Same I I' := fun c o q => by
      by_cases m : c ∈ F
      · rw [s.own c (inF c m)] at q; cases q
      · rw [e2 c m]; exact q
    have apart : ∀ c ∈ Fr ++ G, c ∉ F := fun c z zF => by
      rcases List.mem_append.mp z with z | z
      · exact (List.nodup_append.mp nd).2.2 c z c (List.mem_append_left _ zF) rfl
      · exact (List.nodup_append.mp (List.nodup_append.mp nd).2.1).2.2 c zF c z rfl
    have inR : ∀ c ∈ Fr ++ G, c ∈ Fr ++ (F ++ G) := fun c z => by
      rcases List.mem_append.mp z with z | z
      · exact List.mem_append_left _ z
      · exact List.mem_append_right _ (List.mem_append_right _ z)
    refine ⟨I', Fr, G, ⟨fun c o q => ?_, fun c o q => sm c o (s.ext c o q), s.keep, fun c o q => ?_, fun c z => s.fr c (inR c z), fun c z => ?_, fun c z => s.thr c (inR c z), (List.Sublist.append (List.Sublist.refl _) (List.sublist_append_right _ _)).nodup nd⟩,
      r.mono sm fun c z => rfl, .cons (F := []) (.d (frz_rep sm a e e1)) (b.mono sm fun c z => rfl), km⟩
    · by_cases m : c ∈ F
      · rw [e1 c m] at q; exact q
      · rw [e2 c m] at q; exact s.sub c o q
    · by_cases m : c ∈ F
      · rcases s.fr c (inF c m) with z | z
        · exact .inr (.inr z)
        · exact .inr (.inl z)
      · rw [e2 c m] at q; exact s.new c o q
    · rw [e2 c (apart c z)]
      exact s.own c (inR c z)
theorem Ok.grow {p : Addr} {xs : List T} (h : Ok K m B σ H ρ (y :: .ref p :: ws) (u :: .lst xs :: ts)) : ∃ vs, H p = some (.lst vs) ∧ vs.length = xs.length ∧ Ok K m B σ (upd H p (.lst (vs ++ [y]))) ρ (.ref p :: ws) (.lst (xs ++ [u]) :: ts) := by
  obtain ⟨I, Fr, Fw, s, r, w, km⟩ := h
  cases w with
  | cons a b =>
    cases b with
    | cons l c =>
      cases l with
      | lst hp it =>
        rename_i F1 F2 vs F3
        have mem : p ∈ Fr ++ (F1 ++ (p :: F3 ++ F2)) := by simp
        have nd := s.nd
        have other : ∀ q ∈ Fr ++ (F1 ++ (F3 ++ F2)), q ≠ p := fun q z e => by
          subst e
          have : List.Perm (Fr ++ (F1 ++ (q :: F3 ++ F2))) (q :: (Fr ++ (F1 ++ (F3 ++ F2)))) := by
            have h1 : List.Perm (F1 ++ (q :: F3 ++ F2)) (q :: (F1 ++ (F3 ++ F2))) := List.perm_middle
            exact (List.Perm.append_left _ h1).trans List.perm_middle
          exact (List.nodup_cons.mp (this.nodup_iff.mp nd)).1 z
        have fx : ∀ q ∈ Fr ++ (F1 ++ (F3 ++ F2)), (upd H p (.lst (vs ++ [y]))) q = H q := fun q z => upd_ne (other q z)
        obtain ⟨E, r2, e2⟩ := RepTs.append (it.mono (Same.refl _) fun q z => fx q (by simp [z])) (RepTs.cons (a.mono (Same.refl _) fun q z => fx q (by simp [z])) .nil)
        rw [List.append_nil] at e2
        subst e2
        refine ⟨vs, hp, it.len, I, Fr, _, (s.write (o := .lst (vs ++ [y])) mem).perm ?_, r.mono (Same.refl _) fun q z => fx q (by simp [z]), .cons (.lst upd_same r2) (c.mono (Same.refl _) fun q z => fx q (by simp [z])), km⟩
        refine List.Perm.append_left _ ?_
        rw [List.cons_append, List.cons_append]
        refine List.perm_middle.trans (List.Perm.cons _ ?_)
        rw [← List.append_assoc]
        exact List.Perm.append_right _ List.perm_append_comm
theorem Ok.ownList {p : V} {xs : List T} (h : Ok K m B σ H ρ (p :: ws) (.lst xs :: ts)) : ∃ a vs, p = .ref a ∧ H a = some (.lst vs) ∧ vs.length = xs.length := by
  obtain ⟨I, Fr, Fw, s, r, w, km⟩ := h
  cases w with
  | cons a b =>
    cases a with
    | lst hp it => exact ⟨_, _, rfl, hp, it.len⟩
end
def dfrz (i : Nat) : M T := fun ρ => match ρ[i]? with
  | some (some t) => (match toD t with
    | some d => .ok (.d d) (ρ.set i (some (.d d)))
    | none => .no)
  | _ => .no
theorem den_frz {K : PySem.W.Frag} {w : Wd} {i : Nat} : DenE K w (tVar i) (dfrz i) := fun B σ H ρ ws ts Q ok p => by
  unfold dfrz at p
  cases e : ρ[i]? with
  | none => rw [e] at p; exact p.elim
  | some o =>
    cases o with
    | none => rw [e] at p; exact p.elim
    | some t =>
      rw [e] at p
      simp only at p
      cases q : toD t with
      | none => rw [q] at p; exact p.elim
      | some d =>
        rw [q] at p
        obtain ⟨v, h1, h2⟩ := ok.take e
        have h3 := (h2.freeze q).dup.back (i := i) h1
        rw [List.set_set] at h3
        exact ⟨v, h1, p v H h3⟩
section
variable {X : Cx} {w : Wd} {pos : Pos}
theorem dfz (i : Nat) {x : Str} (hN : X.N[i]? = some x := by rfl) (hv : Vis X.env.scope x := by first | exact Or.inl rfl | exact Or.inr (Or.inl rfl) | exact Or.inr (Or.inr rfl)) (hd : (x == ("__debug__" : Str)) = false := by decide)
    (hcd : (x == ("__classdict__" : Str)) = false := by decide) : DE X w (.Name x pos) (dfrz i) := de_v (pe_var hN hv hd hcd) den_frz
def dthaw (f : M T) : M T := mbind f fun t => match toD t with
  | some d => mret (.d d)
  | none => mno
theorem de_frz {e : Expr} {f : M T} (h : DE X w e f) : DE X w e (dthaw f) := by
  obtain ⟨t, p, d⟩ := h.ex
  refine de_v p fun B σ H ρ ws ts Q ok q => d B σ H ρ ws ts _ ok (q.bind.mono fun v ρ1 p1 x H1 ok1 => ?_)
  cases e : toD v with
  | none => rw [e] at p1; exact p1.elim
  | some y => rw [e] at p1; exact p1 x H1 (ok1.freeze e)
end
def wipeR (ρ : Rho) : List Nat → Rho
  | [] => ρ
  | v :: vs => (wipeR ρ vs).set v none
def mwipe (vs : List Nat) : M Unit := fun ρ => .ok () (wipeR ρ vs)
def mnoex {α : Type} (f : M α) : M α := fun ρ => match f ρ with
  | .ok a ρ' => .ok a ρ'
  | _ => .no
def lcGo (vs : List Nat) (g : T → M Unit) (tt : M Bool) (fe : M T) : List T → List T → M (List T)
  | [], acc => mret acc
  | d :: ds, acc => mbind (g d) fun _ => mbind tt fun b => if b = true then mbind fe fun t => mbind (mwipe vs) fun _ => if acc.length < lim then lcGo vs g tt fe ds (acc ++ [t]) else mno
    else mbind (mwipe vs) fun _ => lcGo vs g tt fe ds acc
def dlcO (fi : M (List PyData)) (vs : List Nat) (g : T → M Unit) (tt : M Bool) (fe : M T) : M T := mbind fi fun ds => mbind (mwipe vs) fun _ => mbind (mnoex (lcGo vs g tt fe (ds.map T.d) [])) fun acc => mret (.lst acc)
def dlc (fi : M (List PyData)) (vs : List Nat) (g : T → M Unit) (tt : M Bool) (fe : M T) : M T := dthaw (dlcO fi vs g tt fe)
abbrev Wd.nx (w : Wd) : Wd := { w with W := fun _ _ _ _ => False }
section
variable {K : PySem.W.Frag} {w : Wd} {B : Bs} {σ : St} {H : Hp} {ρ : Rho} {ws : List V} {ts : List T}
theorem PostG.noex {α : Type} {f : M α} {P : α → Rho → Prop} (h : PostG K w B (mnoex f ρ) P) : PostG K w.nx B (f ρ) P := by
  unfold mnoex at h
  cases e : f ρ with
  | ok a ρ' => rw [e] at h; exact h
  | ex x ρ' => rw [e] at h; exact h.elim
  | no => rw [e] at h; exact h
theorem Ok.wipe {m : List Bool} : ∀ {vs : List Nat}, (∀ i ∈ vs, m[i]? ≠ some true) → Ok K m B σ H ρ ws ts → Ok K m B (L2.wipe σ vs) H (wipeR ρ vs) ws ts
  | [], _, h => h
  | v :: vs, k, h => by
    unfold L2.wipe wipeR
    exact (Ok.wipe (vs := vs) (fun i m => k i (List.mem_cons_of_mem _ m)) h).clear (k v List.mem_cons_self) none
theorem wipe_get {σ : St} : ∀ {vs : List Nat} {i : Nat}, (wipe σ vs)[i]? = if i ∈ vs then (if i < σ.length then some none else none) else σ[i]?
  | [], i => by simp [wipe]
  | v :: vs, i => by
    unfold wipe
    by_cases h : v = i
    · subst h
      rw [if_pos List.mem_cons_self, List.getElem?_set]
      simp [wipe_length]
    · rw [List.getElem?_set_ne h, wipe_get (vs := vs)]
      have : (i ∈ v :: vs) = (i ∈ vs) := by
        rw [List.mem_cons]
        exact propext ⟨fun z => z.elim (fun e => absurd e.symm h) id, .inr⟩
      simp only [this]
theorem wipe_same {σ σ2 : St} {S vs : List Nat} (h : SameOut S (wipe σ vs) σ2) (hS : ∀ i ∈ S, i ∈ vs) : wipe σ2 vs = wipe σ vs := by
  apply List.ext_getElem?
  intro i
  have hl : σ2.length = σ.length := h.1.trans (wipe_length σ vs)
  rw [wipe_get, wipe_get, hl]
  by_cases m : i ∈ vs
  · rw [if_pos m, if_pos m]
  · rw [if_neg m, if_neg m, h.2 i fun z => m (hS i z), wipe_get, if_neg m]
theorem RepR.unwipe {I : Hp} : ∀ {σ : St} {ρ : Rho} {F : List Addr} {i : Nat} {o : Option V}, RepR K I H (σ.set i none) ρ F → σ[i]? = some o → RepR K I H σ ρ F
  | [], ρ, F, i, o, r, e => by simp at e
  | s :: σ, ρ, F, 0, o, r, e => by
    rw [List.set_cons_zero] at r
    cases r with
    | hid r => exact .hid r
  | s :: σ, ρ, F, i + 1, o, r, e => by
    rw [List.set_cons_succ] at r
    have e' : σ[i]? = some o := by simpa using e
    cases r with
    | hid r => exact .hid (RepR.unwipe r e')
    | has a r => exact .has a (RepR.unwipe r e')
theorem RepR.unwipes {I : Hp} : ∀ {vs : List Nat} {σ : St} {ρ : Rho} {F : List Addr}, RepR K I H (wipe σ vs) ρ F → RepR K I H σ ρ F
  | [], σ, ρ, F, r => r
  | v :: vs, σ, ρ, F, r => by
    unfold wipe at r
    cases e : (wipe σ vs)[v]? with
    | none =>
      rw [List.set_eq_of_length_le (List.getElem?_eq_none_iff.mp e)] at r
      exact RepR.unwipes r
    | some o => exact RepR.unwipes (RepR.unwipe r e)
theorem Ok.unwipe {m : List Bool} {vs : List Nat} (h : Ok K m B (L2.wipe σ vs) H ρ ws ts) (hk : Kept m B σ) : Ok K m B σ H ρ ws ts := by
  obtain ⟨I, Fr, Fw, s, r, w, km⟩ := h
  exact ⟨I, Fr, Fw, s, r.unwipes, w, hk⟩
end
section
variable {X : Cx} {w : Wd} {k : Nat} {tg iter elt : Expr} {ifs : List Expr} {fi : M (List PyData)} {g : T → M Unit} {S : List Nat} {tt : M Bool} {fe : M T} {scope : Scope} {own : List (Str × Nat)} {pos : Pos}
structure DTs (X : Cx) (w : Wd) (es : List Expr) (f : M Bool) : Prop where
  ex : ∃ t, PTs X es t ∧ DenT X.K w t f
theorem At.blk (h : At X w k) {s : Shared} {H : Hp} {sc : Scope} {env : Env} {fp : List Addr} : At (X.blk s H sc env fp) w.nx k := ⟨h.g, h.r, takes0, h.cl, h.ca, PassesOwn.never⟩
theorem dts_nil : DTs X w [] (mret true) := ⟨_, pts_nil, fun B σ H ρ ws ts Q ok p => p H ok⟩
theorem dts_one {c : Expr} {f : M Bool} (h : DT X w c f) : DTs X w [c] f := by
  obtain ⟨t, p, d⟩ := h.ex
  exact ⟨t, pts_one p, d⟩
theorem Ok.perm4 {K : PySem.W.Frag} {m : List Bool} {B : Bs} {σ : St} {H : Hp} {ρ : Rho} {ws : List V} {ts : List T} {x : V} {t : T} {vs : List V} {us : List T} (hl : vs.length = us.length)
    (h : Ok K m B σ H ρ (x :: (vs ++ ws)) (t :: (us ++ ts))) : Ok K m B σ H ρ (vs ++ x :: ws) (us ++ t :: ts) := by
  obtain ⟨I, Fr, Fw, s, r, w, km⟩ := h
  cases w with
  | cons a b =>
    obtain ⟨G, E, rfl, g, e⟩ := RepTs.split hl b
    rename_i F
    obtain ⟨E', q, hq⟩ := RepTs.append g (RepTs.cons a e)
    subst hq
    refine ⟨I, Fr, _, s.perm ?_, r, q, km⟩
    refine List.Perm.append_left _ ?_
    rw [← List.append_assoc, ← List.append_assoc]
    exact List.Perm.append_right _ List.perm_append_comm
theorem all_pe {ι : Type} {Y : ι → Cx} {e : Expr} {K : PySem.W.Frag} {w : Wd} {f : M T} (hK : ∀ i, (Y i).K = K) (h : ∀ i, DE (Y i) w e f) : ∃ t, (∀ i, PE (Y i) e t) ∧ (∀ _ : ι, DenE K w t f) := by
  have h' : ∀ i, ∃ t, PE (Y i) e t ∧ DenE K w t f := fun i => by
    obtain ⟨t, p, d⟩ := (h i).ex
    rw [hK i] at d
    exact ⟨t, p, d⟩
  exact ⟨fun σ H Q => ∀ i, Classical.choose (h' i) σ H Q, fun i => ⟨fun pins s σ H Q I q => (Classical.choose_spec (h' i)).1.run pins s σ H Q I (q i)⟩, fun _ B σ H ρ ws ts Q ok p i => (Classical.choose_spec (h' i)).2 B σ H ρ ws ts Q ok p⟩
theorem all_pts {ι : Type} {Y : ι → Cx} {e : List Expr} {K : PySem.W.Frag} {w : Wd} {f : M Bool} (hK : ∀ i, (Y i).K = K) (h : ∀ i, DTs (Y i) w e f) : ∃ t, (∀ i, PTs (Y i) e t) ∧ DenT K w t f := by
  have h' : ∀ i, ∃ t, PTs (Y i) e t ∧ DenT K w t f := fun i => by
    obtain ⟨t, p, d⟩ := (h i).ex
    rw [hK i] at d
    exact ⟨t, p, d⟩
  exact ⟨fun σ H Q => ∀ i, Classical.choose (h' i) σ H Q, fun i => ⟨fun pins s σ H Q I q => (Classical.choose_spec (h' i)).1.run pins s σ H Q I (q i)⟩, fun B σ H ρ ws ts Q ok p i => (Classical.choose_spec (h' i)).2 B σ H ρ ws ts Q ok p⟩
theorem all_pg {ι : Type} {Y : ι → Cx} {e : Expr} {K : PySem.W.Frag} {w : Wd} {S : List Nat} {f : T → M Unit} (hK : ∀ i, (Y i).K = K) (h : ∀ i, DG (Y i) w e S f) : ∃ t, (∀ i, PG (Y i) e t) ∧ DenG K w t S f := by
  have h' : ∀ i, ∃ t, PG (Y i) e t ∧ DenG K w t S f := fun i => by
    obtain ⟨t, p, d⟩ := (h i).ex
    rw [hK i] at d
    exact ⟨t, p, d⟩
  exact ⟨fun v σ H Q => ∀ i, Classical.choose (h' i) v σ H Q, fun i => ⟨fun pins s σ H v u Q I r q => (Classical.choose_spec (h' i)).1.run pins s σ H v u Q I r (q i)⟩, fun B σ H ρ ws ts x v Q ok p i => (Classical.choose_spec (h' i)).2 B σ H ρ ws ts x v Q ok p⟩
structure Blk where
  s : Shared
  H : Hp
  C : Addr
  cl : List (Str × Addr)
  fp : List Addr
abbrev Blk.x (b : Blk) (X : Cx) (scope : Scope) : Cx := X.blk b.s b.H scope (compEnvC scope b.cl b.C X.env) b.fp
theorem den_lc {K : PySem.W.Frag} {wi : TI} {tG : TG} {tT : TT} {tE : TE} {vs : List Nat} (hv : ∀ i ∈ vs, NotM w i) (hS : ∀ i ∈ S, i ∈ vs) (di : DenI K w wi fi) (dg : DenG K w.nx tG S g) (dt : DenT K w.nx tT tt) (de : DenE K w.nx tE fe) :
    DenE K w (tLc wi tG tT tE vs) (dlcO fi vs g tt fe) := fun B σ H ρ ws ts Q ok q => by
  refine di B σ H ρ ws ts _ ok (q.bind.mono fun ds ρ1 p1 J H1 ws1 ts1 hl ok1 jw D hD => ?_)
  have p2 : PostG K w.nx B (lcGo vs g tt fe (ds.map T.d) [] (wipeR ρ1 vs)) (fun acc ρ' => ∀ x H', Ok K w.m B σ H' ρ' (x :: ws) (.lst acc :: ts) → Q x H') := PostG.noex (PostG.bind (f := mnoex (lcGo vs g tt fe (ds.map T.d) [])) (g := fun acc => mret (T.lst acc)) (ρ := wipeR ρ1 vs) p1)
  have km : Kept w.m B σ := by
    obtain ⟨_, _, _, _, _, _, k⟩ := ok
    exact k
  have ok2 : Ok K w.m B (L2.wipe σ vs) (upd H1 D (.lst [])) (wipeR ρ1 vs) (ws1 ++ .ref D :: ws) (ts1 ++ .lst [] :: ts) := (Ok.perm4 hl (Ok.newOwn (vs := []) (us := []) rfl ok1 hD)).wipe hv
  refine ⟨fun i n H => n = ds.length - i ∧ i ≤ ds.length ∧ ∃ ρ acc, Ok K w.m B (L2.wipe σ vs) H ρ (ws1 ++ .ref D :: ws) (ts1 ++ .lst acc :: ts) ∧
    PostG K w.nx B (lcGo vs g tt fe ((ds.drop i).map T.d) acc ρ) (fun acc ρ' => ∀ x H', Ok K w.m B σ H' ρ' (x :: ws) (.lst acc :: ts) → Q x H'), ⟨ds.length, rfl, Nat.zero_le _, _, [], ok2, p2⟩, ?_⟩
  rintro i n H3 ⟨rfl, hi, ρ3, acc, ok3, p3⟩
  obtain ⟨j1, j2⟩ := jw w.m B (L2.wipe σ vs) H3 ρ3 _ _ i ok3
  by_cases hlt : i < ds.length
  · obtain ⟨go, yl⟩ := j2 ds[i] (by simp [hlt])
    refine .inr ⟨go, fun H => i + 1 ≤ ds.length ∧ ∃ ρ acc, Ok K w.m B (L2.wipe σ vs) H ρ (ws1 ++ .ref D :: ws) (ts1 ++ .lst acc :: ts) ∧
      PostG K w.nx B (lcGo vs g tt fe ((ds.drop (i + 1)).map T.d) acc ρ) (fun acc ρ' => ∀ x H', Ok K w.m B σ H' ρ' (x :: ws) (.lst acc :: ts) → Q x H'), fun H' h => ⟨ds.length - (i + 1), by omega, rfl, h.1, h.2⟩, fun x H' y => ?_⟩
    have ok4 := yl x H' y
    rw [List.drop_eq_getElem_cons hlt, List.map_cons] at p3
    unfold lcGo at p3
    refine dg B (L2.wipe σ vs) H' ρ3 _ _ x _ _ ok4 (p3.bind.mono fun _ ρ4 p4 σ4 H4 so ok5 => ⟨wipe_same so hS, ?_⟩)
    have back : ∀ {H ρ ws' ts'}, Ok K w.m B σ4 H ρ ws' ts' → Ok K w.m B (L2.wipe σ vs) H (wipeR ρ vs) ws' ts' := fun {H ρ ws' ts'} o => by
      have := o.wipe hv
      rw [wipe_same so hS] at this
      exact this
    refine dt B σ4 H4 ρ4 _ _ _ ok5 ((PostG.bind p4).mono fun b ρ5 p5 H5 ok6 => ?_)
    cases b with
    | true =>
      rw [if_pos rfl] at p5 ⊢
      refine de B σ4 H5 ρ5 _ _ _ ok6 ((PostG.bind p5).mono fun t ρ6 p6 y H6 ok7 => ?_)
      have p7 : PostG K w.nx B ((if acc.length < lim then lcGo vs g tt fe ((ds.drop (i + 1)).map T.d) (acc ++ [t]) else mno) (wipeR ρ6 vs)) _ := p6
      by_cases hs : acc.length < lim
      · rw [if_pos hs] at p7
        have ok8 : Ok K w.m B σ4 H6 ρ6 (y :: .ref D :: (ws1 ++ ws)) (t :: .lst acc :: (ts1 ++ ts)) := (Ok.perm3 (vs := y :: ws1) (us := t :: ts1) (by simp [hl]) ok7).swap
        obtain ⟨us, h1, h2, ok9⟩ := ok8.grow
        exact ⟨us, h1, by rw [h2]; exact lim_lt hs, hlt, _, _, back (Ok.perm4 hl ok9), p7⟩
      · rw [if_neg hs] at p7
        exact p7.elim
    | false =>
      rw [if_neg Bool.false_ne_true] at p5 ⊢
      have p7 : PostG K w.nx B (lcGo vs g tt fe ((ds.drop (i + 1)).map T.d) acc (wipeR ρ5 vs)) _ := p5
      exact ⟨hlt, _, _, back ok6, p7⟩
  · have e : i = ds.length := by omega
    subst e
    rw [List.drop_length, List.map_nil] at p3
    refine .inl ⟨j1 rfl, ?_⟩
    have ok4 := (Ok.popAll hl (Ok.perm3 hl ok3)).unwipe km
    exact p3 _ _ ok4
theorem de_lcO (at_ : At X w k) (hN : X.N.Nodup) (hi : DI X w tg iter fi) (ok : blkC X.N X.env.scope scope own = true) (hg : ∀ b : Blk, At (b.x X scope) w.nx k → DG (b.x X scope) w.nx tg S g) (ht : ∀ b : Blk, At (b.x X scope) w.nx k → DTs (b.x X scope) w.nx ifs tt) (he : ∀ b : Blk, At (b.x X scope) w.nx k → DE (b.x X scope) w.nx elt fe)
    (hv : ∀ i ∈ own.map (·.2), NotM w i := by intro i h; simp at h; (first | subst h | rcases h with h | h <;> subst h | rcases h with h | h | h <;> subst h) <;> (intro z; cases z)) (hS : ∀ i ∈ S, i ∈ own.map (·.2) := by decide) (hs : ∀ x, foldedSetIterable iter X.env x = pure x := by intro _; rfl) :
    DE X w (.ListComp elt [⟨tg, iter, ifs, 0⟩] scope pos) (dlcO fi (own.map (·.2)) g tt fe) := by
  obtain ⟨wi, pi, di⟩ := hi.ex
  obtain ⟨tG, pg, dg⟩ := all_pg (Y := fun b : Blk => b.x X scope) (K := X.K) (fun _ => rfl) fun b => hg b at_.blk
  obtain ⟨tT, pt, dt⟩ := all_pts (Y := fun b : Blk => b.x X scope) (K := X.K) (fun _ => rfl) fun b => ht b at_.blk
  obtain ⟨tE, pe, de⟩ := all_pe (Y := fun b : Blk => b.x X scope) (K := X.K) (fun _ => rfl) fun b => he b at_.blk
  exact de_v (pe_lc at_.ca hN pi (blkOk_by ok) (fun s H C cl fp => pg ⟨s, H, C, cl, fp⟩) (fun s H C cl fp => pt ⟨s, H, C, cl, fp⟩) (fun s H C cl fp => pe ⟨s, H, C, cl, fp⟩) hs) (den_lc hv hS di dg dt (de ⟨X.s_0, X.H_0, 0, [], []⟩))
theorem de_lc (at_ : At X w k) (hN : X.N.Nodup) (hi : DI X w tg iter fi) (ok : blkC X.N X.env.scope scope own = true) (hg : ∀ b : Blk, At (b.x X scope) w.nx k → DG (b.x X scope) w.nx tg S g) (ht : ∀ b : Blk, At (b.x X scope) w.nx k → DTs (b.x X scope) w.nx ifs tt) (he : ∀ b : Blk, At (b.x X scope) w.nx k → DE (b.x X scope) w.nx elt fe)
    (hv : ∀ i ∈ own.map (·.2), NotM w i := by intro i h; simp at h; (first | subst h | rcases h with h | h <;> subst h | rcases h with h | h | h <;> subst h) <;> (intro z; cases z)) (hS : ∀ i ∈ S, i ∈ own.map (·.2) := by decide) (hs : ∀ x, foldedSetIterable iter X.env x = pure x := by intro _; rfl) :
    DE X w (.ListComp elt [⟨tg, iter, ifs, 0⟩] scope pos) (dlc fi (own.map (·.2)) g tt fe) := de_frz (de_lcO at_ hN hi ok hg ht he hv hS hs)
theorem ds_setLcO (i : Nat) {y : Str} {py spos : Pos} (at_ : At X w k) (hN : X.N.Nodup) (hi : DI X w tg iter fi) (ok : blkC X.N X.env.scope scope own = true) (hg : ∀ b : Blk, At (b.x X scope) w.nx k → DG (b.x X scope) w.nx tg S g) (ht : ∀ b : Blk, At (b.x X scope) w.nx k → DTs (b.x X scope) w.nx ifs tt) (he : ∀ b : Blk, At (b.x X scope) w.nx k → DE (b.x X scope) w.nx elt fe)
    (hsw : swapsWith (.ListComp elt [⟨tg, iter, ifs, 0⟩] scope pos) (some (.Name y py)) spos.line X.env = pure true)
    (hv : ∀ i ∈ own.map (·.2), NotM w i := by intro i h; simp at h; (first | subst h | rcases h with h | h <;> subst h | rcases h with h | h | h <;> subst h) <;> (intro z; cases z)) (hS : ∀ i ∈ S, i ∈ own.map (·.2) := by decide) (hs : ∀ x, foldedSetIterable iter X.env x = pure x := by intro _; rfl)
    (hm : NotM w i := by intro h; cases h) (hy : X.N[i]? = some y := by rfl) (hyl : X.env.scope.names.lookup y = some .local := by rfl) :
    DS X w (.Assign [.Name y py] (.ListComp elt [⟨tg, iter, ifs, 0⟩] scope pos) spos) (sset i (dlcO fi (own.map (·.2)) g tt fe)) := by
  obtain ⟨wi, pi, di⟩ := hi.ex
  obtain ⟨tG, pg, dg⟩ := all_pg (Y := fun b : Blk => b.x X scope) (K := X.K) (fun _ => rfl) fun b => hg b at_.blk
  obtain ⟨tT, pt, dt⟩ := all_pts (Y := fun b : Blk => b.x X scope) (K := X.K) (fun _ => rfl) fun b => ht b at_.blk
  obtain ⟨tE, pe, de⟩ := all_pe (Y := fun b : Blk => b.x X scope) (K := X.K) (fun _ => rfl) fun b => he b at_.blk
  refine ⟨_, ps_setLc at_.ca hN hy hyl hsw pi (blkOk_by ok) (fun s H C cl fp => pg ⟨s, H, C, cl, fp⟩) (fun s H C cl fp => pt ⟨s, H, C, cl, fp⟩) (fun s H C cl fp => pe ⟨s, H, C, cl, fp⟩) hs, fun B σ H ρ ws ts D ok q => ?_⟩
  exact den_lc hv hS di dg dt (de ⟨X.s_0, X.H_0, 0, [], []⟩) B σ H ρ ws ts _ ok (q.bind.mono fun v ρ1 p1 x H1 ok1 => p1 _ H1 (ok1.store hm))
theorem ds_setLc (i : Nat) {y : Str} {py spos : Pos} (at_ : At X w k) (hN : X.N.Nodup) (hi : DI X w tg iter fi) (ok : blkC X.N X.env.scope scope own = true) (hg : ∀ b : Blk, At (b.x X scope) w.nx k → DG (b.x X scope) w.nx tg S g) (ht : ∀ b : Blk, At (b.x X scope) w.nx k → DTs (b.x X scope) w.nx ifs tt) (he : ∀ b : Blk, At (b.x X scope) w.nx k → DE (b.x X scope) w.nx elt fe)
    (hsw : swapsWith (.ListComp elt [⟨tg, iter, ifs, 0⟩] scope pos) (some (.Name y py)) spos.line X.env = pure true)
    (hv : ∀ i ∈ own.map (·.2), NotM w i := by intro i h; simp at h; (first | subst h | rcases h with h | h <;> subst h | rcases h with h | h | h <;> subst h) <;> (intro z; cases z)) (hS : ∀ i ∈ S, i ∈ own.map (·.2) := by decide) (hs : ∀ x, foldedSetIterable iter X.env x = pure x := by intro _; rfl)
    (hm : NotM w i := by intro h; cases h) (hy : X.N[i]? = some y := by rfl) (hyl : X.env.scope.names.lookup y = some .local := by rfl) :
    DS X w (.Assign [.Name y py] (.ListComp elt [⟨tg, iter, ifs, 0⟩] scope pos) spos) (sset i (dlc fi (own.map (·.2)) g tt fe)) := by
  obtain ⟨wi, pi, di⟩ := hi.ex
  obtain ⟨tG, pg, dg⟩ := all_pg (Y := fun b : Blk => b.x X scope) (K := X.K) (fun _ => rfl) fun b => hg b at_.blk
  obtain ⟨tT, pt, dt⟩ := all_pts (Y := fun b : Blk => b.x X scope) (K := X.K) (fun _ => rfl) fun b => ht b at_.blk
  obtain ⟨tE, pe, de⟩ := all_pe (Y := fun b : Blk => b.x X scope) (K := X.K) (fun _ => rfl) fun b => he b at_.blk
  refine ⟨_, ps_setLc at_.ca hN hy hyl hsw pi (blkOk_by ok) (fun s H C cl fp => pg ⟨s, H, C, cl, fp⟩) (fun s H C cl fp => pt ⟨s, H, C, cl, fp⟩) (fun s H C cl fp => pe ⟨s, H, C, cl, fp⟩) hs, fun B σ H ρ ws ts D ok q => ?_⟩
  refine den_lc hv hS di dg dt (de ⟨X.s_0, X.H_0, 0, [], []⟩) B σ H ρ ws ts _ ok ((PostG.bind q.bind).mono fun v ρ1 p1 x H1 ok1 => ?_)
  cases e : toD v with
  | none => rw [e] at p1; exact p1.elim
  | some y => rw [e] at p1; exact p1 _ H1 ((ok1.freeze e).store hm)
end
end DL
end
section
set_option Elab.async false
set_option linter.all false
set_option maxRecDepth 100000
set_option maxHeartbeats 4000000
namespace DL
open PySem L2
def CallK (K : PySem.W.Frag) (m : List Bool) (r : List V → Hp → VK → Prop) (g : List T → Option T) : Prop :=
  ∀ B σ H ρ ws ts xs us v (Q : VK), xs.length = us.length → Ok K m B σ H ρ (xs ++ ws) (us ++ ts) → g us = some v → (∀ z H', Ok K m B σ H' ρ (z :: (xs ++ ws)) (v :: (us ++ ts)) → Q z H') → r xs H Q
def dbackT (os : List (Option Nat)) (vs : List T) (v : T) : M T := fun ρ => .ok v (restore os (vs.map some) ρ)
def dcallb (g : List T → Option T) (os : List (Option Nat)) (fs : M (List T)) : M T := mbind fs fun vs => mbind (mopt (g vs)) fun v => dbackT os vs v
section
variable {K : PySem.W.Frag} {m : List Bool} {B : Bs} {σ : St} {H : Hp} {ws : List V} {ts : List T}
theorem Ok.restoreAll : ∀ {os : List (Option Nat)} {xs : List V} {us : List T} {ρ : Rho} {z : V} {v : T}, xs.length = us.length → Orig σ os xs → Ok K m B σ H ρ (z :: (xs ++ ws)) (v :: (us ++ ts)) → Ok K m B σ H (restore os (us.map some) ρ) (z :: ws) (v :: ts)
  | os, [], [], ρ, z, v, _, _, h => by
    have : restore os (([] : List T).map some) ρ = ρ := by
      cases os with
      | nil => rfl
      | cons o os => cases o <;> rfl
    rw [this]
    exact h
  | _, [], _ :: _, _, _, _, l, _, _ => nomatch l
  | _, _ :: _, [], _, _, _, l, _, _ => nomatch l
  | [], x :: xs, u :: us, ρ, z, v, l, o, h => Ok.popAll (vs := x :: xs) (us := u :: us) l h
  | none :: os, x :: xs, u :: us, ρ, z, v, l, o, h => by
    have tl : Orig σ os xs := fun k i e => by simpa using o (k + 1) i (by simpa using e)
    exact Ok.restoreAll (os := os) (xs := xs) (us := us) (by simpa using l) tl (Ok.inStead h)
  | some i :: os, x :: xs, u :: us, ρ, z, v, l, o, h => by
    have tl : Orig σ os xs := fun k j e => by simpa using o (k + 1) j (by simpa using e)
    obtain ⟨y, h1, h2⟩ := o 0 i rfl
    have e1 : y = x := (Option.some.inj (show some x = some y from h1)).symm
    subst e1
    exact Ok.restoreAll (os := os) (xs := xs) (us := us) (by simpa using l) tl (Ok.back (Ok.swap h) h2)
end
theorem den_callb {K : PySem.W.Frag} {w : Wd} {t : TA} {os : List (Option Nat)} {fs : M (List T)} {r : List V → Hp → VK → Prop} {g : List T → Option T} (hg : CallK K w.m r g) (d : DenA K w t os fs) : DenE K w (tCB r t) (dcallb g os fs) := fun B σ H ρ ws ts Q ok q => by
  refine d B σ H ρ ws ts _ ok (q.bind.mono fun vs ρ1 p1 xs H1 hl ok1 ho => ?_)
  obtain ⟨v, e, p2⟩ := (PostG.bind p1).opt
  exact hg B σ H1 ρ1 ws ts xs vs v Q hl ok1 e fun z H' ok2 => p2 z H' (Ok.restoreAll hl ho ok2)
section
variable {X : Cx} {w : Wd} {x : Str} {p pos : Pos} {e : Expr} {es : List Expr} {os : List (Option Nat)} {fs : M (List T)} {id : String} {r : List V → Hp → VK → Prop} {g : List T → Option T}
theorem de_callB (hc : CallR X (.builtin id) r) (hg : CallK X.K w.m r g) (hm : NoG X x) (hv : bootBuiltins x = some (.builtin id)) (ha : DA X w (e :: es) os fs) (hgl : Gl X x := by rfl) (hn : x ≠ "__name__" := by decide) (hdb : (x == ("__debug__" : Str)) = false := by decide)
    (he : starEach (e :: es) X.env = (false, eval e X.env) :: starEach es X.env := by rfl) (hpl : (backTo pos (starEach es X.env)).any (·.1) = false := by rfl) : DE X w (.Call (.Name x p) (e :: es) [] pos) (dcallb g os fs) := by
  obtain ⟨t, pt, dt⟩ := ha.ex
  exact de_v (pe_callB hc hgl hm hv pt hn hdb he hpl) (den_callb hg dt)
theorem de_callTy {Ty : String} (hc : CallR X (.type Ty) r) (hg : CallK X.K w.m r g) (hm : NoG X x) (hv : bootBuiltins x = some (.type Ty)) (ha : DA X w (e :: es) os fs) (hgl : Gl X x := by rfl) (hn : x ≠ "__name__" := by decide) (hdb : (x == ("__debug__" : Str)) = false := by decide)
    (he : starEach (e :: es) X.env = (false, eval e X.env) :: starEach es X.env := by rfl) (hpl : (backTo pos (starEach es X.env)).any (·.1) = false := by rfl) : DE X w (.Call (.Name x p) (e :: es) [] pos) (dcallb g os fs) := by
  obtain ⟨t, pt, dt⟩ := ha.ex
  exact de_v (pe_callTy hc hgl hm hv pt hn hdb he hpl) (den_callb hg dt)
theorem den_ty {K : PySem.W.Frag} {n : String} : DenE K w (tC (.ty n)) (mret (.ty n)) := fun B σ H ρ ws ts Q ok q => q _ H ok.pushTy
theorem de_ty {n : String} (hm : NoG X x) (hv : bootBuiltins x = some (.type n)) (hg : Gl X x := by rfl) (hn : x ≠ "__name__" := by decide) (hd : (x == ("__debug__" : Str)) = false := by decide) : DE X w (.Name x pos) (mret (.ty n)) :=
  de_v (pe_bltn hg hm hv (show RelV (.ty n) (.type n) from rfl) hn hd) den_ty
end
section
variable {K : PySem.W.Frag} {m : List Bool}
theorem CallK.or {r r' : List V → Hp → VK → Prop} {g g' : List T → Option T} (h : CallK K m r g) (h' : CallK K m r' g') : CallK K m (fun xs H Q => r xs H Q ∨ r' xs H Q) (fun us => (g us).or (g' us)) := fun B σ H ρ ws ts xs us v Q hl ok e q => by
  cases e1 : g us with
  | some z =>
    have e2 : z = v := by
      have e' : (g us).or (g' us) = some v := e
      rw [e1] at e'
      exact Option.some.inj e'
    subst e2
    exact .inl (h B σ H ρ ws ts xs us z Q hl ok e1 q)
  | none =>
    have e' : (g us).or (g' us) = some v := e
    rw [e1] at e'
    exact .inr (h' B σ H ρ ws ts xs us v Q hl ok e' q)
theorem one_of {xs : List V} {t : T} (h : xs.length = [t].length) : ∃ x, xs = [x] := by
  cases xs with
  | nil => cases h
  | cons x r => cases r with
    | nil => exact ⟨x, rfl⟩
    | cons _ _ => cases h
theorem two_of {xs : List V} {t u : T} (h : xs.length = [t, u].length) : ∃ x y, xs = [x, y] := by
  cases xs with
  | nil => cases h
  | cons x r => cases r with
    | nil => cases h
    | cons y r => cases r with
      | nil => exact ⟨x, y, rfl⟩
      | cons _ _ => cases h

def gLen : List T → Option T
  | [.d (.list ds)] => some (.d (.int ds.length))
  | [.d (.tuple ds)] => some (.d (.int ds.length))
  | [.d (.str z)] => if z.length ≤ lim then some (.d (.int z.length)) else none
  | [.d (.dict [])] => some (.d (.int 0))
  | [.lst xs] => some (.d (.int xs.length))
  | [.scr ns] => some (.d (.int ns.length))
  | [.dct kvs] => some (.d (.int kvs.length))
  | _ => none
def rLen2 (K : PySem.W.Frag) : List V → Hp → VK → Prop := fun xs H Q => (∃ x n, xs = [x] ∧ LenV K x H n ∧ Q (.int n) H) ∨ (∃ a kvs, xs = [V.ref a] ∧ H a = some (.dK kvs) ∧ Q (.int kvs.length) H)
theorem Ok.topDct {B : Bs} {σ : St} {H : Hp} {ρ : Rho} {ws : List V} {ts : List T} {x : V} {kvs : List (Key × T)} (h : Ok K m B σ H ρ (x :: ws) (.dct kvs :: ts)) : ∃ a ys, x = .ref a ∧ H a = some (.dK ys) ∧ ys.map (·.1) = kvs.map (·.1) := by
  obtain ⟨I, Fr, Fw, s, r, w, km⟩ := h
  cases w with
  | cons a b =>
    cases a with
    | dct hp k1 k2 k3 it => exact ⟨_, _, rfl, hp, k1⟩
theorem ck_len : CallK K m (rLen2 K) gLen := fun B σ H ρ ws ts xs us v Q hl ok e q => by
  unfold gLen at e
  split at e
  · cases e
    obtain ⟨x, rfl⟩ := one_of hl
    obtain ⟨a, vs, rfl, ha, da⟩ := Ok.topList (ws := ws) (ts := ts) ok
    exact .inl ⟨_, _, rfl, .inl ⟨vs, SqL.of ha, rfl⟩, q _ _ (by rw [da.len]; exact ok.int)⟩
  · cases e
    obtain ⟨x, rfl⟩ := one_of hl
    obtain ⟨a, vs, rfl, ha, da⟩ := Ok.topTup (ws := ws) (ts := ts) ok
    exact .inl ⟨_, _, rfl, .inr ⟨vs, ha, rfl⟩, q _ _ (by rw [da.len]; exact ok.int)⟩
  · obtain ⟨hz, e⟩ := reqs e
    subst e
    obtain ⟨x, rfl⟩ := one_of hl
    have hx := Ok.topStr (ws := ws) (ts := ts) ok
    subst hx
    exact .inl ⟨_, _, rfl, ⟨lim_le hz, rfl⟩, q _ _ ok.int⟩
  · cases e
    obtain ⟨x, rfl⟩ := one_of hl
    have d := Ok.topD (ws := ws) (ts := ts) ok
    cases d with
    | dct0 h => exact .inr ⟨_, [], rfl, h, q _ _ ok.int⟩
  · cases e
    obtain ⟨x, rfl⟩ := one_of hl
    obtain ⟨a, vs, rfl, ha, hlen⟩ := Ok.ownList (ws := ws) (ts := ts) ok
    exact .inl ⟨_, _, rfl, .inl ⟨vs, SqL.of ha, rfl⟩, q _ _ (by rw [hlen]; exact ok.int)⟩
  · cases e
    obtain ⟨x, rfl⟩ := one_of hl
    obtain ⟨a, rfl, ha⟩ := Ok.topScr (ws := ws) (ts := ts) ok
    refine .inl ⟨_, _, rfl, .inl ⟨_, ha, rfl⟩, q _ _ ?_⟩
    rw [List.length_map]
    exact ok.int
  · cases e
    obtain ⟨x, rfl⟩ := one_of hl
    obtain ⟨a, ys, rfl, ha, hk⟩ := Ok.topDct (ws := ws) (ts := ts) ok
    refine .inr ⟨a, ys, rfl, ha, q _ _ ?_⟩
    have := congrArg List.length hk
    rw [List.length_map, List.length_map] at this
    rw [this]
    exact ok.int
  · cases e
theorem cr_len2 {X : Cx} : CallR X (.builtin "len") (rLen2 X.K) := CallR.or call_len call_lenD

def isT (d : PyData) (n : String) : Option Bool :=
  if n = "int" then some (match d with
    | .int _ => true
    | .bool _ => true
    | _ => false)
  else if n = "bool" then some (match d with
    | .bool _ => true
    | _ => false)
  else if n = "str" then some (match d with
    | .str _ => true
    | _ => false)
  else if n = "list" then some (match d with
    | .list _ => true
    | _ => false)
  else if n = "tuple" then some (match d with
    | .tuple _ => true
    | _ => false)
  else Option.none
def tyD : PyData → String
  | .none => "NoneType"
  | .bool _ => "bool"
  | .int _ => "int"
  | .str _ => "str"
  | .list _ => "list"
  | .tuple _ => "tuple"
  | .dict _ => "dict"
def gIsi : List T → Option T
  | [.d x, .ty n] => (isT x n).map fun b => .d (.bool b)
  | _ => none
theorem dr_ty {H : Hp} {x : V} {d : PyData} (h : Dr K H x d) : TyX K H x (.type (tyD d)) := by
  cases h with
  | non => exact .base .non
  | bl b => exact .base (.bl b)
  | int i => exact .base (.int i)
  | str z => exact .base (.str z)
  | lst h _ => exact .base (.lst h)
  | tup h _ =>
    rcases h with h | ⟨o, its, n, h1, h2, _⟩
    · rcases h with h | ⟨o, h⟩
      · exact .base (.tup h)
      · exact .fTuple h
    · exact .kTuple h1 h2
  | dct0 h => exact .base (.dK h)
theorem kit_NoneType_int : kitB "NoneType" "int" = some false := by decide +kernel
theorem kit_NoneType_bool : kitB "NoneType" "bool" = some false := by decide +kernel
theorem kit_NoneType_str : kitB "NoneType" "str" = some false := by decide +kernel
theorem kit_NoneType_list : kitB "NoneType" "list" = some false := by decide +kernel
theorem kit_NoneType_tuple : kitB "NoneType" "tuple" = some false := by decide +kernel
theorem kit_bool_int : kitB "bool" "int" = some true := by decide +kernel
theorem kit_bool_bool : kitB "bool" "bool" = some true := by decide +kernel
theorem kit_bool_str : kitB "bool" "str" = some false := by decide +kernel
theorem kit_bool_list : kitB "bool" "list" = some false := by decide +kernel
theorem kit_bool_tuple : kitB "bool" "tuple" = some false := by decide +kernel
theorem kit_int_int : kitB "int" "int" = some true := by decide +kernel
theorem kit_int_bool : kitB "int" "bool" = some false := by decide +kernel
theorem kit_int_str : kitB "int" "str" = some false := by decide +kernel
theorem kit_int_list : kitB "int" "list" = some false := by decide +kernel
theorem kit_int_tuple : kitB "int" "tuple" = some false := by decide +kernel
theorem kit_str_int : kitB "str" "int" = some false := by decide +kernel
theorem kit_str_bool : kitB "str" "bool" = some false := by decide +kernel
theorem kit_str_str : kitB "str" "str" = some true := by decide +kernel
theorem kit_str_list : kitB "str" "list" = some false := by decide +kernel
theorem kit_str_tuple : kitB "str" "tuple" = some false := by decide +kernel
theorem kit_list_int : kitB "list" "int" = some false := by decide +kernel
theorem kit_list_bool : kitB "list" "bool" = some false := by decide +kernel
theorem kit_list_str : kitB "list" "str" = some false := by decide +kernel
theorem kit_list_list : kitB "list" "list" = some true := by decide +kernel
theorem kit_list_tuple : kitB "list" "tuple" = some false := by decide +kernel
theorem kit_tuple_int : kitB "tuple" "int" = some false := by decide +kernel
theorem kit_tuple_bool : kitB "tuple" "bool" = some false := by decide +kernel
theorem kit_tuple_str : kitB "tuple" "str" = some false := by decide +kernel
theorem kit_tuple_list : kitB "tuple" "list" = some false := by decide +kernel
theorem kit_tuple_tuple : kitB "tuple" "tuple" = some true := by decide +kernel
theorem kit_dict_int : kitB "dict" "int" = some false := by decide +kernel
theorem kit_dict_bool : kitB "dict" "bool" = some false := by decide +kernel
theorem kit_dict_str : kitB "dict" "str" = some false := by decide +kernel
theorem kit_dict_list : kitB "dict" "list" = some false := by decide +kernel
theorem kit_dict_tuple : kitB "dict" "tuple" = some false := by decide +kernel
theorem isT_kit {d : PyData} {n : String} {b : Bool} (h : isT d n = some b) : kitB (tyD d) n = some b := by
  unfold isT at h
  by_cases h_int : n = "int"
  · subst h_int
    rw [if_pos rfl] at h
    have h := Option.some.inj h
    subst h
    cases d with
    | none => exact kit_NoneType_int
    | bool _ => exact kit_bool_int
    | int _ => exact kit_int_int
    | str _ => exact kit_str_int
    | list _ => exact kit_list_int
    | tuple _ => exact kit_tuple_int
    | dict _ => exact kit_dict_int
  by_cases h_bool : n = "bool"
  · subst h_bool
    rw [if_neg (by decide)] at h
    rw [if_pos rfl] at h
    have h := Option.some.inj h
    subst h
    cases d with
    | none => exact kit_NoneType_bool
    | bool _ => exact kit_bool_bool
    | int _ => exact kit_int_bool
    | str _ => exact kit_str_bool
    | list _ => exact kit_list_bool
    | tuple _ => exact kit_tuple_bool
    | dict _ => exact kit_dict_bool
  by_cases h_str : n = "str"
  · subst h_str
    rw [if_neg (by decide)] at h
    rw [if_neg (by decide)] at h
    rw [if_pos rfl] at h
    have h := Option.some.inj h
    subst h
    cases d with
    | none => exact kit_NoneType_str
    | bool _ => exact kit_bool_str
    | int _ => exact kit_int_str
    | str _ => exact kit_str_str
    | list _ => exact kit_list_str
    | tuple _ => exact kit_tuple_str
    | dict _ => exact kit_dict_str
  by_cases h_list : n = "list"
  · subst h_list
    rw [if_neg (by decide)] at h
    rw [if_neg (by decide)] at h
    rw [if_neg (by decide)] at h
    rw [if_pos rfl] at h
    have h := Option.some.inj h
    subst h
    cases d with
    | none => exact kit_NoneType_list
    | bool _ => exact kit_bool_list
    | int _ => exact kit_int_list
    | str _ => exact kit_str_list
    | list _ => exact kit_list_list
    | tuple _ => exact kit_tuple_list
    | dict _ => exact kit_dict_list
  by_cases h_tuple : n = "tuple"
  · subst h_tuple
    rw [if_neg (by decide)] at h
    rw [if_neg (by decide)] at h
    rw [if_neg (by decide)] at h
    rw [if_neg (by decide)] at h
    rw [if_pos rfl] at h
    have h := Option.some.inj h
    subst h
    cases d with
    | none => exact kit_NoneType_tuple
    | bool _ => exact kit_bool_tuple
    | int _ => exact kit_int_tuple
    | str _ => exact kit_str_tuple
    | list _ => exact kit_list_tuple
    | tuple _ => exact kit_tuple_tuple
    | dict _ => exact kit_dict_tuple
  rw [if_neg h_int, if_neg h_bool, if_neg h_str, if_neg h_list, if_neg h_tuple] at h
  cases h
theorem ck_isi : CallK K m (rIsi K) gIsi := fun B σ H ρ ws ts xs us v Q hl ok e q => by
  unfold gIsi at e
  split at e
  · rename_i x n
    cases e1 : isT x n with
    | none => rw [e1] at e; cases e
    | some b =>
      rw [e1] at e
      cases e
      obtain ⟨y, c, rfl⟩ := two_of hl
      have hc := Ok.topTy (Ok.pop (ws := c :: ws) (ts := .ty n :: ts) ok)
      subst hc
      exact ⟨y, _, _, _, b, rfl, .ty n, dr_ty (Ok.topD (ws := .ty n :: ws) (ts := .ty n :: ts) ok), kit_ty (isT_kit e1), q _ _ ok.bl⟩
  · cases e

def gMin2 : List T → Option T
  | [.d (.int i), .d (.int j)] => some (.d (.int (if j < i then j else i)))
  | _ => none
def gMax2 : List T → Option T
  | [.d (.int i), .d (.int j)] => some (.d (.int (if j > i then j else i)))
  | _ => none
theorem ck_int2 {f : Int → Int → Int} {g : List T → Option T} (hg : ∀ us v, g us = some v → ∃ i j, us = [.d (.int i), .d (.int j)] ∧ v = .d (.int (f i j))) : CallK K m (fun xs H Q => ∃ i j, xs = [.int i, .int j] ∧ Q (.int (f i j)) H) g := fun B σ H ρ ws ts xs us v Q hl ok e q => by
  obtain ⟨i, j, rfl, rfl⟩ := hg us v e
  obtain ⟨y, c, rfl⟩ := two_of hl
  have hy := Ok.topInt (ws := c :: ws) (ts := .d (.int j) :: ts) ok
  have hc := Ok.topInt (Ok.pop (ws := c :: ws) (ts := .d (.int j) :: ts) ok)
  subst hy hc
  exact ⟨_, _, rfl, q _ _ ok.int⟩
theorem ck_min2 : CallK K m (fun xs H Q => ∃ i j, xs = [.int i, .int j] ∧ Q (.int (if j < i then j else i)) H) gMin2 := ck_int2 fun us v e => by
  unfold gMin2 at e
  split at e
  · cases e; exact ⟨_, _, rfl, rfl⟩
  · cases e
theorem ck_max2 : CallK K m (fun xs H Q => ∃ i j, xs = [.int i, .int j] ∧ Q (.int (if j > i then j else i)) H) gMax2 := ck_int2 fun us v e => by
  unfold gMax2 at e
  split at e
  · cases e; exact ⟨_, _, rfl, rfl⟩
  · cases e
def gInt : List T → Option T
  | [.d (.int i)] => some (.d (.int i))
  | [.d (.bool k)] => some (.d (.int (if k then 1 else 0)))
  | [.d (.str a)] => if a.length ≤ 640 then (PySem.intText? a).map fun n => .d (.int n) else none
  | _ => none
def rInt3 : List V → Hp → VK → Prop := fun xs H Q => ((∃ i, xs = [.int i] ∧ Q (.int i) H) ∨ ∃ k, xs = [.bl k] ∧ Q (.int (if k then 1 else 0)) H) ∨ (∃ a n, xs = [.str a] ∧ PySem.intText? a = some n ∧ a.length ≤ 640 ∧ Q (.int n) H)
theorem cr_int3 {X : Cx} : CallR X (.type "int") rInt3 := CallR.or call_int1 call_int_str
theorem ck_int : CallK K m rInt3 gInt := fun B σ H ρ ws ts xs us v Q hl ok e q => by
  unfold gInt at e
  split at e
  · cases e
    obtain ⟨x, rfl⟩ := one_of hl
    have hx := Ok.topInt (ws := ws) (ts := ts) ok
    subst hx
    exact .inl (.inl ⟨_, rfl, q _ _ ok.int⟩)
  · cases e
    obtain ⟨x, rfl⟩ := one_of hl
    have hx := Ok.topBl (ws := ws) (ts := ts) ok
    subst hx
    exact .inl (.inr ⟨_, rfl, q _ _ ok.int⟩)
  · rename_i a
    obtain ⟨x, rfl⟩ := one_of hl
    have hx := Ok.topStr (ws := ws) (ts := ts) ok
    subst hx
    by_cases h : a.length ≤ 640
    · rw [if_pos h] at e
      cases e1 : PySem.intText? a with
      | none => rw [e1] at e; cases e
      | some n =>
        rw [e1] at e
        cases e
        exact .inr ⟨a, n, rfl, e1, h, q _ _ ok.int⟩
    · rw [if_neg h] at e; cases e
  · cases e
def gListO : List T → Option T
  | [.d (.list ds)] => some (.lst (ds.map T.d))
  | [.d (.tuple ds)] => some (.lst (ds.map T.d))
  | [.scr ns] => some (.lst (ns.map fun n => T.d (.int n)))
  | _ => none
def gList : List T → Option T
  | [.d (.list ds)] => some (.d (.list ds))
  | [.d (.tuple ds)] => some (.d (.list ds))
  | [.scr ns] => some (.d (.list (ns.map PyData.int)))
  | _ => none
def rList (K : PySem.W.Frag) : List V → Hp → VK → Prop := fun xs H Q => ∃ p ys, xs = [.ref p] ∧ (SqL K H p ys ∨ SqT K H p ys) ∧ ∀ l, H l = none → Q (.ref l) (upd H l (.lst ys))
theorem Ok.newOwnD {B : Bs} {σ : St} {H : Hp} {ρ : Rho} {ws : List V} {ts : List T} {vs : List V} {ds : List PyData} {p : Addr} (h : Ok K m B σ H ρ ws ts) (hp : H p = none)
    (q : ∀ I Fw, Same I H → RepTs K I H ws ts Fw → DrAll K I vs ds) : Ok K m B σ (upd H p (.lst vs)) ρ (.ref p :: ws) (.lst (ds.map T.d) :: ts) := by
  obtain ⟨I, Fr, Fw, s, r, w, km⟩ := id h
  have nf : ∀ a ∈ Fr ++ Fw, (upd H p (.lst vs)) a = H a := fun a z => upd_ne (show a ≠ p from fun e => s.thr a z (by rw [e]; exact hp))
  refine ⟨I, Fr, p :: Fw, (s.newO hp).perm List.perm_middle.symm, r.mono (Same.refl _) fun a z => nf a (List.mem_append_left _ z), ?_, km⟩
  exact .cons (F := [p]) (.lst upd_same (RepTs.ofD (q I Fw s.sub w))) (w.mono (Same.refl _) fun a z => nf a (List.mem_append_right _ z))
theorem ck_listO : CallK K m (rList K) gListO := fun B σ H ρ ws ts xs us v Q hl ok e q => by
  unfold gListO at e
  split at e
  · cases e
    obtain ⟨x, rfl⟩ := one_of hl
    obtain ⟨a, vs, rfl, ha, da⟩ := Ok.topList (ws := ws) (ts := ts) ok
    exact ⟨a, vs, rfl, .inl (SqL.of ha), fun l h => q _ _ (ok.newOwnD h fun I Fw sb w' => parts_lst sb ha w')⟩
  · cases e
    obtain ⟨x, rfl⟩ := one_of hl
    obtain ⟨I, Fr, Fw, s, r, wz, km⟩ := id ok
    obtain ⟨a, vs, e1, ha, dd⟩ := tup_items (ws := ws) (ts := ts) wz
    subst e1
    have nf : ∀ p, H p = none → ∀ b ∈ Fr ++ Fw, (upd H p (.lst vs)) b = H b := fun p hp b z => upd_ne (show b ≠ p from fun e => s.thr b z (by rw [e]; exact hp))
    refine ⟨a, vs, rfl, .inr (st_mono s.sub ha), fun p hp => q _ _ ⟨I, Fr, p :: Fw, (s.newO hp).perm List.perm_middle.symm, r.mono (Same.refl _) fun b z => nf p hp b (List.mem_append_left _ z), ?_, km⟩⟩
    exact .cons (F := [p]) (.lst upd_same (RepTs.ofD dd)) (wz.mono (Same.refl _) fun b z => nf p hp b (List.mem_append_right _ z))
  · cases e
    obtain ⟨x, rfl⟩ := one_of hl
    rename_i ns
    obtain ⟨a, rfl, ha⟩ := Ok.topScr (ws := ws) (ts := ts) ok
    refine ⟨a, _, rfl, .inl ha, fun l h => q _ _ ?_⟩
    have := Ok.newOwnD (vs := ns.map V.int) (ds := ns.map PyData.int) ok h fun I Fw sb w' => drAll_ints ns
    rw [List.map_map] at this
    exact this
  · cases e
theorem ck_list : CallK K m (rList K) gList := fun B σ H ρ ws ts xs us v Q hl ok e q => by
  unfold gList at e
  split at e
  · cases e
    obtain ⟨x, rfl⟩ := one_of hl
    obtain ⟨a, vs, rfl, ha, da⟩ := Ok.topList (ws := ws) (ts := ts) ok
    exact ⟨a, vs, rfl, .inl (SqL.of ha), fun l h => q _ _ (ok.newList h fun I Fw sb w' => parts_lst sb ha w')⟩
  · cases e
    obtain ⟨x, rfl⟩ := one_of hl
    rename_i ds
    obtain ⟨I, Fr, Fw, s, r, wz, km⟩ := id ok
    obtain ⟨a, vs, e1, ha, dd⟩ := tup_items (ws := ws) (ts := ts) wz
    subst e1
    refine ⟨a, vs, rfl, .inr (st_mono s.sub ha), fun p hp => ?_⟩
    have nf : ∀ b ∈ Fr ++ Fw, (upd H p (.lst vs)) b = H b := fun b z => upd_ne (show b ≠ p from fun e => s.thr b z (by rw [e]; exact hp))
    have o2 : Ok K m B σ (upd H p (.lst vs)) ρ (.ref p :: (.ref a :: ws)) (.lst (ds.map T.d) :: (.d (.tuple ds) :: ts)) := ⟨I, Fr, p :: Fw, (s.newO hp).perm List.perm_middle.symm, r.mono (Same.refl _) fun b z => nf b (List.mem_append_left _ z),
      .cons (F := [p]) (.lst upd_same (RepTs.ofD dd)) (wz.mono (Same.refl _) fun b z => nf b (List.mem_append_right _ z)), km⟩
    refine q _ _ (o2.freeze (d := .list ds) ?_)
    have : ∀ ds : List PyData, toDs (ds.map T.d) = some ds := fun ds => by
      induction ds with
      | nil => rfl
      | cons d ds ih => rw [List.map_cons, toDs, ih]; rfl
    rw [toD, this]
    rfl
  · cases e
    obtain ⟨x, rfl⟩ := one_of hl
    obtain ⟨a, rfl, ha⟩ := Ok.topScr (ws := ws) (ts := ts) ok
    exact ⟨a, _, rfl, .inl ha, fun l h => q _ _ (ok.newList h fun I Fw sb w' => drAll_ints _)⟩
  · cases e

def boolsD : List PyData → Option (List Bool)
  | [] => some []
  | .bool b :: ds => (boolsD ds).map (b :: ·)
  | _ :: _ => none
theorem bools_all {I : Hp} : ∀ {vs : List V} {ds : List PyData} {bs : List Bool}, DrAll K I vs ds → boolsD ds = some bs → vs = bs.map V.bl
  | _, _, _, .nil, e => by cases e; rfl
  | _, _, _, .cons (d := d) (ds := ds) a r, e => by
    cases a with
    | bl b =>
      unfold boolsD at e
      cases q : boolsD ds with
      | none => rw [q] at e; cases e
      | some bs =>
        rw [q] at e
        cases e
        rw [List.map_cons, ← bools_all r q]
    | _ => simp [boolsD] at e
def intsD : List PyData → Option (List Int)
  | [] => some []
  | .int b :: ds => (intsD ds).map (b :: ·)
  | _ :: _ => none
theorem ints_all {I : Hp} : ∀ {vs : List V} {ds : List PyData} {bs : List Int}, DrAll K I vs ds → intsD ds = some bs → vs = bs.map V.int
  | _, _, _, .nil, e => by cases e; rfl
  | _, _, _, .cons (d := d) (ds := ds) a r, e => by
    cases a with
    | int b =>
      unfold intsD at e
      cases q : intsD ds with
      | none => rw [q] at e; cases e
      | some bs =>
        rw [q] at e
        cases e
        rw [List.map_cons, ← ints_all r q]
    | _ => simp [intsD] at e
def strsD : List PyData → Option (List Str)
  | [] => some []
  | .str b :: ds => (strsD ds).map (b :: ·)
  | _ :: _ => none
theorem strs_all {I : Hp} : ∀ {vs : List V} {ds : List PyData} {bs : List Str}, DrAll K I vs ds → strsD ds = some bs → vs = bs.map V.str
  | _, _, _, .nil, e => by cases e; rfl
  | _, _, _, .cons (d := d) (ds := ds) a r, e => by
    cases a with
    | str b =>
      unfold strsD at e
      cases q : strsD ds with
      | none => rw [q] at e; cases e
      | some bs =>
        rw [q] at e
        cases e
        rw [List.map_cons, ← strs_all r q]
    | _ => simp [strsD] at e
def gBools (f : List Bool → Bool) : List T → Option T
  | [.d (.list ds)] => (boolsD ds).map fun bs => .d (.bool (f bs))
  | _ => none
theorem ck_bools {f : List Bool → Bool} : CallK K m (fun vs H Q => ∃ (a : Addr) (bs : List Bool), vs = [V.ref a] ∧ SqL K H a (bs.map V.bl) ∧ Q (.bl (f bs)) H) (gBools f) := fun B σ H ρ ws ts xs us v Q hl ok e q => by
  unfold gBools at e
  split at e
  · rename_i ds
    cases e1 : boolsD ds with
    | none => rw [e1] at e; cases e
    | some bs =>
      rw [e1] at e
      cases e
      obtain ⟨x, rfl⟩ := one_of hl
      obtain ⟨a, vs, rfl, ha, da⟩ := Ok.topList (ws := ws) (ts := ts) ok
      have hv := bools_all da e1
      subst hv
      exact ⟨a, bs, rfl, SqL.of ha, q _ _ ok.bl⟩
  · cases e
def gAll : List T → Option T := gBools fun bs => bs.all _root_.id
theorem ck_all : CallK K m (rAll K) gAll := ck_bools
def gSum : List T → Option T
  | [.d (.list ds)] => (intsD ds).map fun ns => .d (.int ns.sum)
  | _ => none
theorem ck_sum : CallK K m (rSum K) gSum := fun B σ H ρ ws ts xs us v Q hl ok e q => by
  unfold gSum at e
  split at e
  · rename_i ds
    cases e1 : intsD ds with
    | none => rw [e1] at e; cases e
    | some bs =>
      rw [e1] at e
      cases e
      obtain ⟨x, rfl⟩ := one_of hl
      obtain ⟨a, vs, rfl, ha, da⟩ := Ok.topList (ws := ws) (ts := ts) ok
      have hv := ints_all da e1
      subst hv
      exact ⟨a, bs, rfl, SqL.of ha, q _ _ ok.int⟩
  · cases e
end
end DL
end
section
set_option Elab.async false
set_option linter.all false
set_option maxRecDepth 100000
set_option maxHeartbeats 4000000
namespace DL
open PySem L2 PySem.Spec
def leS (a b : Str) : Bool := !decide (b.cps.toList < a.cps.toList)
def sortStr (xs : List Str) : List Str := xs.mergeSort leS
theorem leS_iff {a b : Str} : leS a b = true ↔ a.cps.toList ≤ b.cps.toList := by
  unfold leS
  rw [Bool.not_eq_true', decide_eq_false_iff_not]
  exact List.not_lt
theorem leS_anti {a b : Str} (h1 : leS a b = true) (h2 : leS b a = true) : a = b := by
  have := List.le_antisymm (leS_iff.mp h1) (leS_iff.mp h2)
  obtain ⟨a⟩ := a
  obtain ⟨b⟩ := b
  have e : a.toList = b.toList := this
  rw [Array.toList_inj.mp e]
theorem leS_trans {a b c : Str} (h1 : leS a b = true) (h2 : leS b c = true) : leS a c = true := leS_iff.mpr (List.le_trans (leS_iff.mp h1) (leS_iff.mp h2))
theorem leS_total (a b : Str) : (leS a b || leS b a) = true := by
  rw [Bool.or_eq_true, leS_iff, leS_iff]
  exact List.le_total _ _
theorem rising_pw : ∀ (p : Str) (l : List Str), PyProof.Rows.risingS p l = true → (p :: l).Pairwise fun a b => leS a b = true
  | p, [], _ => List.pairwise_singleton _ _
  | p, x :: r, h => by
    have h : (!ltCps x.cps.toList p.cps.toList && PyProof.Rows.risingS x r) = true := h
    have h := (Bool.and_eq_true _ _).mp h
    have ih := rising_pw x r h.2
    have px : leS p x = true := by
      unfold leS
      have h1 := h.1
      rw [PyProof.Rows.ltCps_eq] at h1
      exact h1
    refine List.pairwise_cons.mpr ⟨fun y hy => ?_, ih⟩
    rcases List.mem_cons.mp hy with e | hy
    · rw [e]; exact px
    · exact leS_trans px (List.rel_of_pairwise_cons ih hy)
theorem sorted_uniq {ys xs : List Str} (hp : ys.Perm xs) (hs : PyProof.Rows.sortedS ys = true) : ys = sortStr xs := by
  have h1 : ys.Pairwise fun a b => leS a b = true := by
    cases ys with
    | nil => exact .nil
    | cons x r => exact rising_pw x r hs
  have h2 : (sortStr xs).Pairwise fun a b => leS a b = true := List.pairwise_mergeSort (le := leS) (fun _ _ _ => leS_trans) leS_total xs
  exact List.Perm.eq_of_pairwise (le := fun a b => leS a b = true) (fun a b _ _ h1 h2 => leS_anti h1 h2) h1 h2 (hp.trans (List.mergeSort_perm xs leS).symm)
def leI (a b : Int) : Bool := decide (a ≤ b)
def sortInt (xs : List Int) : List Int := xs.mergeSort leI
theorem sorted_uniqI {ys xs : List Int} (hp : ys.Perm xs) (hs : ys.Pairwise (· ≤ ·)) : ys = sortInt xs := by
  have h1 : ys.Pairwise fun a b => leI a b = true := hs.imp fun h => decide_eq_true h
  have h2 : (sortInt xs).Pairwise fun a b => leI a b = true := List.pairwise_mergeSort (le := leI) (fun a b c h1 h2 => decide_eq_true (Int.le_trans (of_decide_eq_true h1) (of_decide_eq_true h2)))
    (fun a b => by unfold leI; rw [Bool.or_eq_true, decide_eq_true_eq, decide_eq_true_eq]; exact Int.le_total a b) xs
  exact List.Perm.eq_of_pairwise (le := fun a b => leI a b = true) (fun a b _ _ h1 h2 => Int.le_antisymm (of_decide_eq_true h1) (of_decide_eq_true h2)) h1 h2 (hp.trans (List.mergeSort_perm xs leI).symm)
def gSorted : List T → Option T
  | [.d (.list ds)] => match strsD ds with
    | some xs => if xs.length < 64 then some (.d (.list ((sortStr xs).map PyData.str))) else none
    | none => (intsD ds).map fun ns => .d (.list ((sortInt ns).map PyData.int))
  | _ => none
def rSortSI (K : PySem.W.Frag) : List V → Hp → VK → Prop := fun xs H Q => rSortedS K xs H Q ∨ rSortedI K xs H Q
theorem cr_sortSI {X : Cx} : CallR X (.builtin "sorted") (rSortSI X.K) := CallR.or cr_sortedS cr_sortedI
section
variable {K : PySem.W.Frag} {m : List Bool}
theorem drAll_strs {I : Hp} : ∀ ns : List Str, DrAll K I (ns.map V.str) (ns.map PyData.str)
  | [] => .nil
  | n :: ns => .cons (.str n) (drAll_strs ns)
theorem ck_sorted : CallK K m (rSortSI K) gSorted := fun B σ H ρ ws ts xs us v Q hl ok e q => by
  unfold gSorted at e
  split at e
  · rename_i ds
    obtain ⟨x, rfl⟩ := one_of hl
    obtain ⟨a, vs, rfl, ha, da⟩ := Ok.topList (ws := ws) (ts := ts) ok
    split at e
    · rename_i ss es
      obtain ⟨h1, e⟩ := reqs e
      subst e
      have hv := strs_all da es
      subst hv
      refine .inl ⟨a, ss, rfl, SqL.of ha, h1, fun ys p hp hs hn => ?_⟩
      rw [sorted_uniq hp hs]
      exact q _ _ (ok.newList hn fun I Fw sb w' => drAll_strs _)
    · cases e1 : intsD ds with
      | none => rw [e1] at e; cases e
      | some ns =>
        rw [e1] at e
        cases e
        have hv := ints_all da e1
        subst hv
        refine .inr ⟨a, ns, rfl, SqL.of ha, fun ys p hp hs hn => ?_⟩
        rw [sorted_uniqI hp hs]
        exact q _ _ (ok.newList hn fun I Fw sb w' => drAll_ints _)
  · cases e
end
section
variable {X : Cx} {pins : List (Addr × Obj)} {σ : L2.St} {H : Hp} {s : Shared}
mutual
theorem Dr.shows (I : Inv X pins σ H s) : ∀ (d : PyData) (v : V) (u : Value), Dr X.K H v d → RelV v u → d.showable = true → d.shown.length ≤ sizeLine →
    (∃ as, Reads s.heap u d as) ∧ ∃ bs, ReadAtMost s.heap d.depth bs ∧ ReprK X.prog X.w bs s.heap d.depth u d.shown
  | .none, _, _, h, r, _, _ => by
    cases h
    cases r
    exact ⟨⟨_, Reads.none⟩, [], (fun _ h => nomatch h), by simp only [PyData.shown]; exact .of_is ReprIs.none _ _ _⟩
  | .bool b, _, _, h, r, _, _ => by
    cases h
    cases r
    exact ⟨⟨_, Reads.bool b⟩, [], (fun _ h => nomatch h), by simp only [PyData.shown]; exact .of_is (ReprIs.bool b) _ _ _⟩
  | .int i, _, _, h, r, hs, _ => by
    cases h
    obtain ⟨t, rfl⟩ := r
    exact ⟨⟨_, Reads.int i t⟩, [], (fun _ h => nomatch h), by simp only [PyData.shown]; exact .of_is (ReprIs.int t (by simpa [PyData.showable] using hs)) _ _ _⟩
  | .str x, _, _, h, r, _, hz => by
    cases h
    obtain ⟨t, rfl⟩ := r
    exact ⟨⟨_, Reads.str x t⟩, [], (fun _ h => nomatch h), by simp only [PyData.shown]; exact .of_is (ReprIs.str x t (by simpa only [PyData.shown] using hz)) _ _ _⟩
  | .list ds, _, _, h, r, hs, hz => by
    cases h with
    | lst ha da =>
      cases r
      obtain ⟨its, rv, ⟨o, n, h1, h2, _, h3⟩, _⟩ := I.list (SqL.of ha)
      have hz' : (listText (PyData.shownAll ds)).length ≤ sizeLine := by simpa only [PyData.shown] using hz
      obtain ⟨⟨as, hr⟩, bs, hb, hk⟩ := DrAll.shows I ds _ its da rv (by simpa [PyData.showable] using hs) (fun t ht => Nat.le_trans (listText_mem_le ht) hz')
      have rd := Reads.list h1 h2 h3 hr
      have hna := not_mem_of_deeper rd (by simp only [PyData.depth]; omega) hb
      refine ⟨⟨_, rd⟩, _ :: bs, ReadAtMost.cons rd (by simp only [PyData.depth]; omega) hb, ?_⟩
      simp only [PyData.depth, PyData.shown]
      cases its with
      | nil =>
        have hr' : ReadsAll s.heap [] ds _ := hr
        cases hr'
        simp only [PyData.shownAll, listText_nil]
        exact ReprK.listEmpty h1 h2 h3
      | cons x l => exact ReprK.list h1 h2 h3 hna (by simpa using hk.length_eq) (fun i y e => hk.item i y (by simpa using e))
  | .tuple ds, _, _, h, r, hs, hz => by
    cases h with
    | tup ha da =>
      cases r
      obtain ⟨its, rv, ⟨o, h1, h2, n, h3⟩, _⟩ := I.tuple ha
      have hz' : (tupleText (PyData.shownAll ds)).length ≤ sizeLine := by simpa only [PyData.shown] using hz
      obtain ⟨⟨as, hr⟩, bs, hb, hk⟩ := DrAll.shows I ds _ its da rv (by simpa [PyData.showable] using hs) (fun t ht => Nat.le_trans (tupleText_mem_le ht) hz')
      have rd := Reads.tuple h1 h2 h3 hr
      have hna := not_mem_of_deeper rd (by simp only [PyData.depth]; omega) hb
      refine ⟨⟨_, rd⟩, _ :: bs, ReadAtMost.cons rd (by simp only [PyData.depth]; omega) hb, ?_⟩
      simp only [PyData.depth, PyData.shown]
      exact ReprK.tuple h1 h2 h3 hna hk
  | .dict kvs, _, _, h, r, hs, hz => by
    cases h with
    | dct0 ha =>
      cases r
      obtain ⟨_, hsys, vs, hkv, o, es, ep, h1, h2, h3, h4, h5, _⟩ := (show ObjOk X.prog X.w H s.heap _ (.dK []) from I.hok _ _ ha)
      cases hkv
      have he : es.toList = [] := by
        generalize hl : es.toList = l at h5
        cases h5
        rfl
      have hes : es = #[] := Array.toList_eq_nil_iff.mp he
      subst hes
      have rd := Reads.dict (kvs := []) h1 h2.1 h3 (.nil) (.nil)
      refine ⟨⟨_, rd⟩, [_], ReadAtMost.cons rd (Nat.zero_le _) (fun _ h => nomatch h), ?_⟩
      simp only [PyData.depth, PyData.shown]
      have := ReprK.dict (prog := X.prog) (w := X.w) (as := []) (d := PyData.depthKv []) h1 h2.1 h3 hsys (fun h => nomatch h) (ReprEntriesK.of_two [] [] [] .nil .nil)
      exact this
theorem DrAll.shows (I : Inv X pins σ H s) : ∀ (ds : List PyData) (vs : List V) (us : List Value), DrAll X.K H vs ds → Vals vs us → PyData.showableAll ds = true → (∀ t ∈ PyData.shownAll ds, t.length ≤ sizeLine) →
    (∃ as, ReadsAll s.heap us ds as) ∧ ∃ bs, ReadAtMost s.heap (PyData.depthAll ds) bs ∧ ReprAllK X.prog X.w bs s.heap (PyData.depthAll ds) us (PyData.shownAll ds)
  | [], _, _, h, r, _, _ => by
    cases h
    cases r
    exact ⟨⟨_, ReadsAll.nil⟩, [], (fun _ h => nomatch h), by simp only [PyData.shownAll]; exact .nil⟩
  | d :: ds, _, _, h, r, hs, hz => by
    cases h with
    | cons h1 h2 =>
      cases r with
      | cons r1 r2 =>
        have hs' : d.showable = true ∧ PyData.showableAll ds = true := by simpa [PyData.showableAll] using hs
        obtain ⟨⟨as, q1⟩, b1, hb1, k1⟩ := Dr.shows I d _ _ h1 r1 hs'.1 (hz _ (by simp only [PyData.shownAll]; exact List.mem_cons_self ..))
        obtain ⟨⟨as2, q2⟩, b2, hb2, k2⟩ := DrAll.shows I ds _ _ h2 r2 hs'.2 (fun t ht => hz t (by simp only [PyData.shownAll]; exact List.mem_cons_of_mem _ ht))
        refine ⟨⟨_, ReadsAll.cons q1 q2⟩, b1 ++ b2, ?_, ?_⟩
        · simp only [PyData.depthAll]
          exact (hb1.mono (Nat.le_max_left _ _)).append (hb2.mono (Nat.le_max_right _ _))
        · simp only [PyData.depthAll, PyData.shownAll]
          exact .cons ((k1.more (fun b hb => List.mem_append_left _ hb)).level_le (Nat.le_max_left _ _)) (k2.more_le (fun b hb => List.mem_append_right _ hb) (Nat.le_max_right _ _))
end
end
def okShow (d : PyData) : Bool := d.showable && decide (d.shown.length ≤ sizeLine) && decide (d.depth ≤ 60)
def rRepr (K : PySem.W.Frag) : List V → Hp → VK → Prop := fun xs H Q => ∃ x d, xs = [x] ∧ Dr K H x d ∧ okShow d = true ∧ Q (.str d.shown) H
theorem cr_repr {X : Cx} (hg : X.A.guards = some []) (hu : X.A.units + 64 < cLine) : CallR X (.builtin "repr") (rRepr X.K) := by
  intro pins s σ H xs us Q I r h
  obtain ⟨x, d, rfl, dr, k, q⟩ := h
  obtain ⟨u, rfl, ru⟩ := vals1 r
  have k := (Bool.and_eq_true _ _).mp k
  have k1 := (Bool.and_eq_true _ _).mp k.1
  have hdep := of_decide_eq_true k.2
  have hz := of_decide_eq_true k1.2
  cases dr with
  | non =>
    cases ru
    simp only [PyData.shown] at q
    exact PySem.P.repr_of_none ⟨.str _, H, I.tok _, ⟨_, rfl⟩, q⟩
  | bl b =>
    cases ru
    simp only [PyData.shown] at q
    refine PySem.P.repr_of_bool ⟨.str _, H, I.tok _, ⟨_, rfl⟩, ?_⟩
    cases b <;> exact q
  | int i =>
    obtain ⟨t, rfl⟩ := ru
    simp only [PyData.shown] at q
    exact PySem.P.repr_of_int (by simpa [PyData.showable] using k1.1) ⟨.str _, H, I.tok _, ⟨_, rfl⟩, q⟩
  | str z =>
    obtain ⟨t, rfl⟩ := ru
    simp only [PyData.shown] at q hz
    exact PySem.P.repr_of_str ⟨.str _, H, I.tok _, ⟨_, rfl⟩, q⟩ hz
  | @lst a vs ds ha da =>
    cases ru
    obtain ⟨its, rv, ⟨o, n, h1, h2, _, h3⟩, _⟩ := I.list (SqL.of ha)
    have hz' : (listText (PyData.shownAll ds)).length ≤ sizeLine := by simpa only [PyData.shown] using hz
    obtain ⟨⟨as, hr⟩, bs, hb, hk⟩ := DrAll.shows I ds _ its da rv (by simpa [PyData.showable] using k1.1) (fun t ht => Nat.le_trans (listText_mem_le ht) hz')
    have rd := Reads.list h1 h2 h3 hr
    have hna := not_mem_of_deeper rd (by simp only [PyData.depth]; omega) hb
    simp only [PyData.depth] at hdep
    simp only [PyData.shown] at q
    refine call_repr_slot (by omega) ⟨o, h1, h2⟩ F.slot_list_repr.toG ?_
    cases its with
    | nil =>
      have hr' : ReadsAll s.heap [] ds _ := hr
      cases hr'
      simp only [PyData.shownAll, listText_nil] at q
      exact call_list_repr_empty ⟨o, h1, h2⟩ h1 h3 ⟨_, _, rfl, .str _, H, I.tok _, ⟨_, rfl⟩, q⟩
    | cons x l =>
      exact call_list_reprK h1 h2 h3 hna (by simpa using hk.length_eq) (fun i y e => hk.item i y (by simpa using e)) hg (fun b _ => Clear.nil b) (by show X.A.units + 1 + _ < cLine; omega) (fun _ _ e => e) (fun h' u tk hk => ⟨_, _, rfl, .str _, H, I.kept hk, ⟨_, rfl⟩, q⟩) hz'
  | @tup a vs ds ha da =>
    cases ru
    obtain ⟨its, rv, ⟨o, h1, h2, n, h3⟩, _⟩ := I.tuple ha
    have hz' : (tupleText (PyData.shownAll ds)).length ≤ sizeLine := by simpa only [PyData.shown] using hz
    obtain ⟨⟨as, hr⟩, bs, hb, hk⟩ := DrAll.shows I ds _ its da rv (by simpa [PyData.showable] using k1.1) (fun t ht => Nat.le_trans (tupleText_mem_le ht) hz')
    have rd := Reads.tuple h1 h2 h3 hr
    have hna := not_mem_of_deeper rd (by simp only [PyData.depth]; omega) hb
    simp only [PyData.depth] at hdep
    simp only [PyData.shown] at q
    refine call_repr_slot (by omega) ⟨o, h1, h2⟩ F.slot_tuple_repr ?_
    exact call_tuple_reprK h1 h2 h3 hna hk hg (fun b _ => Clear.nil b) (by show X.A.units + 1 + _ < cLine; omega) (fun _ _ e => e) (fun h' u tk hk => ⟨_, _, rfl, .str _, H, I.kept hk, ⟨_, rfl⟩, q⟩) hz'
  | @dct0 a ha =>
    cases ru
    obtain ⟨_, hsys, vs, hkv, o, es, ep, h1, h2, h3, h4, h5, _⟩ := (show ObjOk X.prog X.w H s.heap _ (.dK []) from I.hok _ _ ha)
    cases hkv
    have he : es.toList = [] := by
      generalize hl : es.toList = l at h5
      cases h5
      rfl
    have hes : es = #[] := Array.toList_eq_nil_iff.mp he
    subst hes
    have rd := Reads.dict (kvs := []) h1 h2.1 h3 (.nil) (.nil)
    refine repr_of_reads' rd rfl (fun _ m => ?_) hg (by simp only [PyData.depth, PyData.depthKv] at hdep ⊢; omega) (fun _ _ e => e) (fun h' u tk hk => ⟨.str _, H, I.kept hk, ⟨_, rfl⟩, q⟩) hz
    simp at m
    rw [m] at hsys
    simp at hsys
def gRepr : List T → Option T
  | [.d d] => if okShow d = true then some (.d (.str d.shown)) else none
  | _ => none
theorem ck_repr {K : PySem.W.Frag} {m : List Bool} : CallK K m (rRepr K) gRepr := fun B σ H ρ ws ts xs us v Q hl ok e q => by
  unfold gRepr at e
  split at e
  · rename_i d
    obtain ⟨h1, e⟩ := reqs e
    subst e
    obtain ⟨x, rfl⟩ := one_of hl
    exact ⟨x, d, rfl, Ok.topD (ws := ws) (ts := ts) ok, h1, q _ _ ok.str⟩
  · cases e

def cMul (i j : Int) : Bool := decide (i.natAbs.log2 + j.natAbs.log2 < 1000000) || (decide (-(2 ^ 64) < i ∧ i < 2 ^ 64) || decide (-(2 ^ 64) < j ∧ j < 2 ^ 64))
def pMul : PyData → PyData → Option PyData
  | .int i, .int j => if cMul i j = true then some (.int (i * j)) else none
  | .list ds, .int k => if (okRange k && decide (ds.length * k.toNat ≤ lim)) = true then some (.list (List.replicate k.toNat ds).flatten) else none
  | _, _ => none
section
variable {K : PySem.W.Frag} {m : List Bool}
def rMul2 : R2 := fun x y H Q => rI CMulW (fun i j => .int (i * j)) x y H Q ∨ (rI CMul (fun i j => .int (i * j)) x y H Q ∨ rRep x y H Q)
theorem op_mul2 {X : Cx} : OpR X (binaryOp .Mult) rMul2 := OpR.or op_mulW (OpR.or op_mul op_rep)
theorem od_mul : OpD K m rMul2 (onD pMul) := OpD.ofD fun B σ H ρ ws ts x y t u v Q ok e q => by
  unfold pMul at e
  split at e
  · obtain ⟨h, e⟩ := reqs e
    subst e
    have hy := ok.topInt
    have hx := ok.pop.topInt
    subst hx hy
    unfold cMul at h
    rcases (Bool.or_eq_true _ _).mp h with h | h
    · exact .inl ⟨_, _, rfl, rfl, by unfold CMulW; exact of_decide_eq_true h, q _ _ ok.pop.pop.int⟩
    · refine .inr (.inl ⟨_, _, rfl, rfl, ?_, q _ _ ok.pop.pop.int⟩)
      rcases (Bool.or_eq_true _ _).mp h with h | h
      · exact .inl (of_decide_eq_true h)
      · exact .inr (of_decide_eq_true h)
  · obtain ⟨h, e⟩ := reqs e
    subst e
    rename_i ds k
    have h := (Bool.and_eq_true _ _).mp h
    have hz := of_decide_eq_true h.2
    obtain ⟨b1, b2⟩ := okRange_of h.1
    have hy := ok.topInt
    subst hy
    obtain ⟨a, vs, rfl, ha, da⟩ := ok.pop.topList
    refine .inr (.inr ⟨a, k, vs, rfl, rfl, ha, by omega, by omega, by rw [da.len]; exact lim_le hz, fun p hp => q _ _ ?_⟩)
    refine Ok.inStead (ok.pop.newList hp fun I Fw sb w' => ?_)
    exact (parts_lst sb ha w').rep _
  · cases e
end
def gNeg : T → Option T
  | .d (.int i) => some (.d (.int (-i)))
  | _ => none
def dneg (fa : M T) : M T := mbind fa fun x => mopt (gNeg x)
section
variable {X : Cx} {w : Wd} {a b c e : Expr} {fa fb fc f : M T} {pos : Pos}
theorem de_neg (ha : DE X w a fa) : DE X w (.UnaryOp .USub a pos) (dneg fa) := by
  obtain ⟨ta, pa, da⟩ := ha.ex
  refine de_v (pe_un un_neg pa) fun B σ H ρ ws ts Q ok q => ?_
  refine da B σ H ρ ws ts _ ok (q.bind.mono fun v ρ1 p1 x H1 ok1 => ?_)
  obtain ⟨z, e, q3⟩ := p1.opt
  unfold gNeg at e
  split at e
  · cases e
    have hx := ok1.topInt
    subst hx
    exact ⟨_, rfl, q3 _ _ ok1.pop.int⟩
  · cases e

def chainRest (g' : T → T → Option T) (fc : M T) (y : PyData) : T → M T
  | .d (.bool true) => mbind fc fun u => mopt (g' (.d y) u)
  | .d (.bool false) => mret (.d (.bool false))
  | _ => mno
def chainMid (g g' : T → T → Option T) (fc : M T) (x : T) : T → M T
  | .d y => mbind (mopt (g x (.d y))) (chainRest g' fc y)
  | _ => mno
def dchain (g g' : T → T → Option T) (fa fb fc : M T) : M T := mbind fa fun x => mbind fb (chainMid g g' fc x)
theorem den_chain {K : PySem.W.Frag} {ta tb tc : TE} {r r' : R2} {g g' : T → T → Option T} (ha : DenE K w ta fa) (hb : DenE K w tb fb) (hc : DenE K w tc fc) (hg : OpD K w.m r g) (hg' : OpD K w.m r' g') : DenE K w (tChain r r' ta tb tc) (dchain g g' fa fb fc) := fun B σ H ρ ws ts Q ok p => by
  refine ha B σ H ρ ws ts _ ok (p.bind.mono fun v ρ1 p1 x H1 ok1 => ?_)
  refine hb B σ H1 ρ1 _ _ _ ok1 (p1.bind.mono fun u ρ2 p2 y H2 ok2 => ?_)
  cases u with
  | d yd =>
    obtain ⟨z, e, q⟩ := (PostG.bind (f := mopt (g v (.d yd))) (g := chainRest g' fc yd) p2).opt
    have ok3 : Ok K w.m B σ H2 ρ2 (y :: x :: y :: ws) (.d yd :: v :: .d yd :: ts) := by
      have o := ok2.dup
      obtain ⟨I, Fr, Fw, s, r, wz, km⟩ := o
      cases wz with
      | cons a1 b1 =>
        cases b1 with
        | cons a2 c1 =>
          cases c1 with
          | cons a3 c2 =>
            cases a1 with
            | d a1 =>
              cases a2 with
              | d a2 => exact ⟨I, Fr, _, s.perm (by simp), r, .cons (F := []) (.d a1) (.cons a3 (.cons (F := []) (.d a2) c2)), km⟩
    refine hg B σ H2 ρ2 (y :: ws) (.d yd :: ts) x y v (.d yd) z _ ok3 e fun z' H3 ok4 => ?_
    cases z with
    | d zd =>
      cases zd with
      | bool k =>
        have hz := ok4.topBl
        subst hz
        refine ⟨k, rfl, ?_⟩
        cases k with
        | true =>
          rw [if_pos rfl]
          refine hc B σ H3 ρ2 _ _ _ ok4.pop (PostG.mono (PostG.bind (f := fc) (g := fun u => mopt (g' (.d yd) u)) q) fun t ρ3 p3 x3 H4 ok5 => ?_)
          obtain ⟨z2, e2, q2⟩ := p3.opt
          exact hg' B σ H4 ρ3 ws ts y x3 (.d yd) t z2 Q ok5 e2 q2
        | false =>
          rw [if_neg Bool.false_ne_true]
          exact q _ _ ok4.pop.pop.bl
      | _ => exact q.elim
    | _ => exact q.elim
  | _ => exact p2.elim
theorem de_chain {op op' : CmpOp} {r r' : R2} {g g' : T → T → Option T} (ho : OpR X (compareOp op) r) (hg : OpD X.K w.m r g) (ho' : OpR X (compareOp op') r') (hg' : OpD X.K w.m r' g') (ha : DE X w a fa) (hb : DE X w b fb) (hc : DE X w c fc)
    (hm : lastMarks [op, op'] [b, c] = false := by with_unfolding_all rfl) : DE X w (.Compare a [op, op'] [b, c] pos) (dchain g g' fa fb fc) := by
  obtain ⟨ta, pa, da⟩ := ha.ex
  obtain ⟨tb, pb, db⟩ := hb.ex
  obtain ⟨tc, pc, dc⟩ := hc.ex
  exact de_v (pe_chain ho ho' pa pb pc hm) (den_chain da db dc hg hg')
theorem dt_chain {op op' : CmpOp} {r r' : R2} {g g' : T → T → Option T} (ho : OpR X (compareOp op) r) (hg : OpD X.K w.m r g) (ho' : OpR X (compareOp op') r') (hg' : OpD X.K w.m r' g') (ha : DE X w a fa) (hb : DE X w b fb) (hc : DE X w c fc)
    (hm : lastMarks [op, op'] [b, c] = false := by with_unfolding_all rfl) : DT X w (.Compare a [op, op'] [b, c] pos) (dval (dchain g g' fa fb fc)) := by
  obtain ⟨ta, pa, da⟩ := ha.ex
  obtain ⟨tb, pb, db⟩ := hb.ex
  obtain ⟨tc, pc, dc⟩ := hc.ex
  refine ⟨_, pt_chain ho ho' pa pb pc hm, fun B σ H ρ ws ts Q ok p => ?_⟩
  refine den_chain da db dc hg hg' B σ H ρ ws ts _ ok (p.bind.mono fun v ρ1 p1 x H1 ok1 => ?_)
  cases v with
  | d x =>
    cases x with
    | bool b =>
      have ex := ok1.topBl
      subst ex
      exact ⟨b, rfl, p1 _ ok1.pop⟩
    | _ => exact p1.elim
  | _ => exact p1.elim
end
end DL
end
section
set_option Elab.async false
set_option linter.all false
set_option maxRecDepth 100000
set_option maxHeartbeats 4000000
namespace DL
open PySem L2
def tyT : T → Option String
  | .lst _ => some "list"
  | .dct _ => some "dict"
  | .d (.list _) => some "list"
  | .d (.str _) => some "str"
  | _ => none
section
variable {K : PySem.W.Frag} {m : List Bool} {B : Bs} {σ : St} {H : Hp} {ρ : Rho} {ws : List V} {ts : List T} {x y v : V} {t u : T} {d e : PyData} {i : Nat}
theorem Ok.tyV {n : String} (h : Ok K m B σ H ρ (x :: ws) (t :: ts)) (e : tyT t = some n) : L2.tyV K n x H := by
  obtain ⟨I, Fr, Fw, s, r, w, km⟩ := h
  cases w with
  | cons a b =>
    cases a with
    | lst hp it => cases e; exact .inl ⟨rfl, _, SqL.of hp⟩
    | dct hp _ _ _ it => cases e; exact .inr (.inr (.inl ⟨rfl, .inl ⟨_, hp⟩⟩))
    | d q =>
      cases q with
      | lst hp it => cases e; exact .inl ⟨rfl, _, SqL.of (s.sub _ _ hp)⟩
      | str z => cases e; rfl
      | _ => cases e
    | _ => cases e
end
def OwnM (K : PySem.W.Frag) (m : List Bool) (r : V → List V → Hp → VK → Prop) (g : T → List T → Option (T × T)) : Prop :=
  ∀ B σ H ρ ws ts x ys t us t1 v (Q : VK), ys.length = us.length → Ok K m B σ H ρ (ys ++ x :: ws) (us ++ t :: ts) → g t us = some (t1, v) → (∀ z H', Ok K m B σ H' ρ (z :: x :: ws) (v :: t1 :: ts) → Q z H') → r x ys H Q
def dtyp (n : String) (i : Nat) : M Unit := fun ρ => match ρ[i]? with
  | some (some t) => if tyT t = some n then .ok () ρ else .no
  | _ => .no
def down (i : Nat) (g : T → Option (T × T)) : M T := fun ρ => match ρ[i]? with
  | some (some t) => (match g t with
    | some (t1, v) => .ok v (ρ.set i (some t1))
    | none => .no)
  | _ => .no
def dmeth (n : String) (i : Nat) (g : T → List T → Option (T × T)) (fs : M (List T)) : M T := mbind (dtyp n i) fun _ => mbind fs fun us => down i fun t => g t us
section
variable {K : PySem.W.Frag} {w : Wd} {i : Nat} {n : String} {r : V → List V → Hp → VK → Prop} {g : T → List T → Option (T × T)} {fs : M (List T)} {os : List (Option Nat)} {t : TA}
theorem Ok.peek {m : List Bool} {B : Bs} {σ : St} {H : Hp} {ρ : Rho} {ws : List V} {ts : List T} {u : T} (h : Ok K m B σ H ρ ws ts) (e : ρ[i]? = some (some u)) (q : tyT u = some n) : ∃ v, σ[i]? = some (some v) ∧ L2.tyV K n v H := by
  obtain ⟨v, h1, h2⟩ := h.take e
  exact ⟨v, h1, h2.tyV q⟩
theorem den_meth (hg : OwnM K w.m r g) (d : DenA K w t os fs) : DenE K w (tBM K n r (tVar i) t) (dmeth n i g fs) := fun B σ H ρ ws ts Q ok q => by
  have q := q.bind
  unfold dtyp at q
  cases e : ρ[i]? with
  | none => rw [e] at q; exact q.elim
  | some o =>
    cases o with
    | none => rw [e] at q; exact q.elim
    | some u =>
      rw [e] at q
      by_cases hq : tyT u = some n
      · simp only [if_pos hq] at q
        obtain ⟨v, h1, h2⟩ := ok.peek e hq
        refine ⟨v, h1, h2, ?_⟩
        refine d B σ H ρ ws ts _ ok (PostG.mono (PostG.bind q) fun us ρ1 p1 xs H1 hl ok1 _ => ?_)
        unfold down at p1
        cases e1 : ρ1[i]? with
        | none => rw [e1] at p1; exact p1.elim
        | some o1 =>
          cases o1 with
          | none => rw [e1] at p1; exact p1.elim
          | some u1 =>
            rw [e1] at p1
            simp only at p1
            cases e2 : g u1 us with
            | none => rw [e2] at p1; exact p1.elim
            | some tv =>
              obtain ⟨t1, v1⟩ := tv
              rw [e2] at p1
              obtain ⟨v', h1', ok2⟩ := ok1.take e1
              have : v' = v := by
                rw [h1] at h1'
                exact (Option.some.inj (Option.some.inj h1')).symm
              subst this
              have ok3 := Ok.perm4 (vs := xs) (us := us) hl ok2
              refine hg B σ H1 _ ws ts v' xs u1 us t1 v1 Q hl ok3 e2 fun z H' ok4 => ?_
              have ok5 := ok4.swap.back (i := i) h1
              rw [List.set_set] at ok5
              exact p1 z H' ok5
      · simp only [if_neg hq] at q
        exact q.elim
end
section
variable {X : Cx} {w : Wd} {n id : String} {x name : Str} {r : V → List V → Hp → VK → Prop} {g : T → List T → Option (T × T)} {fs : M (List T)} {os : List (Option Nat)} {e : Expr} {es : List Expr} {p apos cpos : Pos}
theorem de_meth (i : Nat) (pa : PlainAttrs n) (slot : Slot n name id) (hty : typeOf (.builtin id) = pure (.type "method_descriptor")) (hm : MtR X id r) (hg : OwnM X.K w.m r g) (ha : DA X w (e :: es) os fs)
    (hN : X.N[i]? = some x := by rfl) (hv : Vis X.env.scope x := by first | exact Or.inl rfl | exact Or.inr (Or.inl rfl) | exact Or.inr (Or.inr rfl)) (hd : (x == ("__debug__" : Str)) = false := by decide) (hcd : (x == ("__classdict__" : Str)) = false := by decide)
    (hbase : attributeBase (.Name x p) name X.env (eval (.Name x p) X.env) = eval (.Name x p) X.env := by rfl)
    (hfew : ((backTo cpos (starEach (e :: es) X.env)).all (fun x => !x.1) && (backToKw cpos (keywordEach [] X.env)).all (fun x => x.1.isSome)
      && decide ((e :: es).length + ([] : List Keyword).length + (if ([] : List Keyword).isEmpty then 0 else 1) < 30)) = true := by rfl)
    (hline : (apos.endLine == cpos.line) = true := by rfl) (hs : starEach (e :: es) X.env = (false, eval e X.env) :: starEach es X.env := by rfl) (hplain : (backTo cpos (starEach es X.env)).any (·.1) = false := by rfl) :
    DE X w (.Call (.Attribute (.Name x p) name apos) (e :: es) [] cpos) (dmeth n i g fs) := by
  obtain ⟨t, pt, dt⟩ := ha.ex
  exact de_v (pe_bm pa slot hty hm (pe_var hN hv hd hcd) pt hbase hfew hline hs hplain) (den_meth hg dt)
end
section
variable {K : PySem.W.Frag} {m : List Bool}
def oAppend : T → List T → Option (T × T)
  | .lst xs, [u] => if xs.length < lim then some (.lst (xs ++ [u]), .d .none) else none
  | _, _ => none
theorem om_append : OwnM K m rAppend oAppend := fun B σ H ρ ws ts x ys t us t1 v Q hl ok e q => by
  unfold oAppend at e
  split at e
  · obtain ⟨h1, e⟩ := reqs e
    cases e
    obtain ⟨y, rfl⟩ := one_of hl
    obtain ⟨a, vs, rfl, ha, hlen⟩ := Ok.ownList (Ok.pop (ws := x :: ws) (ts := _ :: ts) ok)
    obtain ⟨vs', h2, h3, ok2⟩ := Ok.grow (ws := ws) (ts := ts) ok
    refine ⟨a, vs', y, rfl, rfl, h2, by rw [h3]; exact lim_lt h1, q _ _ ok2.non⟩
  · cases e
def oPopAt : T → List T → Option (T × T)
  | .lst xs, [.d (.int i)] => if (decide (0 ≤ i) && decide (i < 1000000)) = true then (match xs[i.toNat]? with
    | some t => some (.lst (xs.eraseIdx i.toNat), t)
    | none => none) else none
  | _, _ => none
theorem RepTs.pick {I H : Hp} : ∀ {vs : List V} {ts : List T} {F : List Addr} {k : Nat} {t : T}, RepTs K I H vs ts F → ts[k]? = some t → ∃ v G E, vs[k]? = some v ∧ RepT K I H v t G ∧ RepTs K I H (vs.eraseIdx k) (ts.eraseIdx k) E ∧ List.Perm (G ++ E) F
  | _, _, _, k, t, .nil, e => by simp at e
  | _, _, _, 0, t, .cons (F := F) (G := G) a b, e => by
    simp at e
    subst e
    exact ⟨_, F, G, rfl, a, b, List.Perm.refl _⟩
  | _, _, _, k + 1, t, .cons (F := F) a b, e => by
    obtain ⟨v, G, E, h1, h2, h3, h4⟩ := RepTs.pick (k := k) b (by simpa using e)
    refine ⟨v, G, F ++ E, by simpa using h1, h2, .cons a h3, ?_⟩
    refine List.Perm.trans ?_ (List.Perm.append_left F h4)
    rw [← List.append_assoc, ← List.append_assoc]
    exact List.Perm.append_right _ List.perm_append_comm
theorem Ok.popAt {B : Bs} {σ : St} {H : Hp} {ρ : Rho} {ws : List V} {ts : List T} {x : V} {xs : List T} {k : Nat} {t : T} (h : Ok K m B σ H ρ (x :: ws) (.lst xs :: ts)) (e : xs[k]? = some t) :
    ∃ a vs v, x = .ref a ∧ H a = some (.lst vs) ∧ vs.length = xs.length ∧ vs[k]? = some v ∧ Ok K m B σ (upd H a (.lst (vs.eraseIdx k))) ρ (v :: .ref a :: ws) (t :: .lst (xs.eraseIdx k) :: ts) := by
  obtain ⟨I, Fr, Fw, s, r, w, km⟩ := h
  cases w with
  | cons a b =>
    rename_i F1 F2
    cases a with
    | lst hp it =>
      rename_i p vs F3
      obtain ⟨v, G, E, h1, h2, h3, h4⟩ := it.pick e
      have mem : p ∈ Fr ++ (p :: F3 ++ F2) := by simp
      have nd := s.nd
      have other : ∀ q ∈ Fr ++ (F3 ++ F2), q ≠ p := fun q z e => by
        subst e
        have : List.Perm (Fr ++ (q :: F3 ++ F2)) (q :: (Fr ++ (F3 ++ F2))) := List.perm_middle
        exact (List.nodup_cons.mp (this.nodup_iff.mp nd)).1 z
      have sub : ∀ q, q ∈ G ++ E → q ∈ F3 := fun q z => h4.mem_iff.mp z
      have fx : ∀ q ∈ Fr ++ (F3 ++ F2), (upd H p (.lst (vs.eraseIdx k))) q = H q := fun q z => upd_ne (other q z)
      refine ⟨p, vs, v, rfl, hp, it.len, h1, I, Fr, G ++ ((p :: E) ++ F2), (s.write (o := .lst (vs.eraseIdx k)) mem).perm (List.Perm.append_left _ ?_), r.mono (Same.refl _) fun q z => fx q (by simp [z]),
        .cons (h2.mono (Same.refl _) fun q z => fx q (List.mem_append_right _ (List.mem_append_left _ (sub q (List.mem_append_left _ z))))) (.cons (.lst upd_same (h3.mono (Same.refl _) fun q z => fx q (List.mem_append_right _ (List.mem_append_left _ (sub q (List.mem_append_right _ z)))))) (b.mono (Same.refl _) fun q z => fx q (by simp [z]))), km⟩
      rw [List.cons_append, List.cons_append]
      refine List.Perm.trans ?_ List.perm_middle.symm
      refine List.Perm.cons _ ?_
      rw [← List.append_assoc]
      exact List.Perm.append_right _ h4.symm
theorem om_popAt : OwnM K m rPopAt oPopAt := fun B σ H ρ ws ts x ys t us t1 v Q hl ok e q => by
  unfold oPopAt at e
  split at e
  · rename_i xs i
    obtain ⟨y, rfl⟩ := one_of hl
    by_cases c : (decide (0 ≤ i) && decide (i < 1000000)) = true
    · rw [if_pos c] at e
      have c := (Bool.and_eq_true _ _).mp c
      have c1 := of_decide_eq_true c.1
      have c2 := of_decide_eq_true c.2
      cases e1 : xs[i.toNat]? with
      | none => rw [e1] at e; cases e
      | some t0 =>
        rw [e1] at e
        cases e
        have hy := Ok.topInt (ws := x :: ws) (ts := _ :: ts) ok
        subst hy
        obtain ⟨a, vs, v0, rfl, ha, hlen, hv, ok2⟩ := Ok.popAt (Ok.pop (ws := x :: ws) (ts := _ :: ts) ok) e1
        have hlt : i.toNat < vs.length := (List.getElem?_eq_some_iff.mp hv).1
        refine ⟨a, vs, i, i.toNat, v0, rfl, rfl, ha, by omega, by omega, ?_, hv, q _ _ ok2⟩
        unfold seqIndex?
        have h3 : ¬ i < 0 := by omega
        simp only [h3, if_false]
        have h4 : ¬ (i ≥ (vs.length : Int)) := by omega
        first
          | (simp [h4, h3]; done)
          | (rw [if_neg]; simp; omega)
          | simp_all
    · rw [if_neg c] at e
      cases e
  · cases e
end
def tItem : T → T → Option T
  | .lst xs, .d (.int k) => match atI xs k with
    | some (.d x) => some (.d x)
    | _ => none
  | .d x, .d y => (pIx x y).map T.d
  | _, _ => none
def dreadO (i : Nat) (g : T → Option T) : M T := fun ρ => match ρ[i]? with
  | some (some t) => (match g t with
    | some v => .ok v ρ
    | none => .no)
  | _ => .no
def dixO (i : Nat) (fb : M T) : M T := mbind (dhas i) fun _ => mbind fb fun k => dreadO i fun t => tItem t k
theorem atI_reps {K : PySem.W.Frag} {I H : Hp} {vs : List V} {ts : List T} {F : List Addr} {k : Int} {d : PyData} (h : RepTs K I H vs ts F) (q : atI ts k = some (.d d)) : ∃ v, atI vs k = some v ∧ Dr K I v d := by
  unfold atI at q ⊢
  rw [h.len]
  cases p : ixN ts.length k with
  | none => rw [p] at q; cases q
  | some j =>
    rw [p] at q
    obtain ⟨v, G, E, h1, h2, _, _⟩ := h.pick q
    cases h2 with
    | d h2 => exact ⟨v, h1, h2⟩
section
variable {X : Cx} {w : Wd} {b : Expr} {fb : M T} {p pos : Pos} {x : Str}
theorem set_get {ρ : Rho} {i : Nat} {t : T} (e : ρ[i]? = some (some t)) : (ρ.set i none).set i (some t) = ρ := by
  rw [List.set_set]
  apply List.ext_getElem?
  intro j
  by_cases z : i = j
  · subst z
    rw [List.getElem?_set_self (List.getElem?_eq_some_iff.mp e).1, e]
  · rw [List.getElem?_set_ne z]
theorem dread_of {K : PySem.W.Frag} {w : Wd} {B : Bs} {ρ : Rho} {i : Nat} {g : T → Option T} {P : T → Rho → Prop} (q : PostG K w B (dreadO i g ρ) P) : ∃ t v, ρ[i]? = some (some t) ∧ g t = some v ∧ P v ρ := by
  unfold dreadO at q
  cases e : ρ[i]? with
  | none => rw [e] at q; exact q.elim
  | some o =>
    cases o with
    | none => rw [e] at q; exact q.elim
    | some u =>
      rw [e] at q
      simp only at q
      cases e1 : g u with
      | none => rw [e1] at q; exact q.elim
      | some v => rw [e1] at q; exact ⟨u, v, rfl, e1, q⟩
theorem den_ixO {K : PySem.W.Frag} {i : Nat} {tb : TE} (d : DenE K w tb fb) : DenE K w (tOp (rIx K) (tVar i) tb) (dixO i fb) := fun B σ H ρ ws ts Q ok q => by
  obtain ⟨⟨v, hv⟩, q⟩ := dhas_of ok q.bind
  refine ⟨v, hv, ?_⟩
  refine d B σ H ρ ws ts _ ok (PostG.mono (PostG.bind q) fun k ρ1 p1 y H1 ok1 => ?_)
  obtain ⟨t, z, e1, e2, p2⟩ := dread_of p1
  obtain ⟨v', h1, ok2⟩ := ok1.take e1
  have ev : v' = v := by
    rw [hv] at h1
    exact (Option.some.inj (Option.some.inj h1)).symm
  subst ev
  unfold tItem at e2
  split at e2
  · rename_i xs k
    cases e3 : atI xs k with
    | none => rw [e3] at e2; cases e2
    | some t0 =>
      cases t0 with
      | d d0 =>
        rw [e3] at e2
        cases e2
        have hy := Ok.topInt ok1
        subst hy
        obtain ⟨I, Fr, Fw, s, r, wz, km⟩ := id ok2
        cases wz with
        | cons a b =>
          cases a with
          | lst hp it =>
            obtain ⟨z, hz, dz⟩ := atI_reps it e3
            refine .inl ⟨_, _, k, z, rfl, rfl, SqL.of hp, hz, p2 _ _ ?_⟩
            rename_i pa vsa Fa
            have ok3 : Ok K w.m B σ H1 (ρ1.set i none) (V.ref pa :: z :: ws) (.lst xs :: .d d0 :: ts) := by
              cases b with
              | cons b1 b2 => exact ⟨I, Fr, _, s.less (fun a m => by
                  rcases List.mem_append.mp m with m | m
                  · exact List.mem_append_left _ m
                  · rcases List.mem_append.mp m with m | m
                    · exact List.mem_append_right _ (List.mem_append_left _ m)
                    · exact List.mem_append_right _ (List.mem_append_right _ (List.mem_append_right _ m)))
                    ((List.Sublist.append (List.Sublist.refl _) (List.Sublist.append (List.Sublist.refl _) (List.sublist_append_right _ _))).nodup s.nd), r, .cons (.lst hp it) (.cons (F := []) (.d dz) b2), km⟩
            have ok4 := ok3.back (i := i) h1
            rw [set_get e1] at ok4
            exact ok4
      | _ => rw [e3] at e2; cases e2
  · rename_i d0 y0
    cases e3 : pIx d0 y0 with
    | none => rw [e3] at e2; cases e2
    | some z0 =>
      rw [e3] at e2
      cases e2
      have ok3 : Ok K w.m B σ H1 ρ1 (y :: v' :: ws) (.d y0 :: .d d0 :: ts) := by
        obtain ⟨v2, g1, g2⟩ := ok1.read e1
        have : v2 = v' := by
          rw [hv] at g1
          exact (Option.some.inj (Option.some.inj g1)).symm
        subst this
        exact g2.swap
      exact od_ix (m := w.m) B σ H1 ρ1 ws ts v' y (.d d0) (.d y0) (.d z0) Q ok3 (by show Option.map T.d (pIx d0 y0) = _; rw [e3]; rfl) fun z' H' ok5 => p2 z' H' ok5
  · cases e2
theorem de_ixO (i : Nat) (hb : DE X w b fb) (hs : PlainIx b := by exact fun _ _ => rfl) (hN : X.N[i]? = some x := by rfl) (hv : Vis X.env.scope x := by first | exact Or.inl rfl | exact Or.inr (Or.inl rfl) | exact Or.inr (Or.inr rfl)) (hd : (x == ("__debug__" : Str)) = false := by decide)
    (hcd : (x == ("__classdict__" : Str)) = false := by decide) : DE X w (.Subscript (.Name x p) b pos) (dixO i fb) := by
  obtain ⟨tb, pb, db⟩ := hb.ex
  exact de_v (pe_ix ix_seq (pe_var hN hv hd hcd) pb hs) (den_ixO db)
def tPut : T → T → T → Option T
  | .lst xs, .d (.int k), v => (ixN xs.length k).map fun j => .lst (xs.set j v)
  | _, _, _ => none
theorem RepTs.setAt {K : PySem.W.Frag} {I H : Hp} : ∀ {vs : List V} {ts : List T} {F G : List Addr} {k : Nat} {v : V} {t : T}, RepTs K I H vs ts F → RepT K I H v t G → ∃ E R, RepTs K I H (vs.set k v) (ts.set k t) E ∧ List.Perm (E ++ R) (F ++ G)
  | _, _, _, G, k, v, t, .nil, a => ⟨[], G, .nil, List.Perm.refl _⟩
  | _, _, _, G, 0, v, t, .cons (F := F1) (G := F2) b r, a => ⟨G ++ F2, F1, .cons a r, by
      rw [List.append_assoc, List.append_assoc]
      exact (List.perm_append_comm (l₁ := G) (l₂ := F2 ++ F1)).trans (List.Perm.append_right _ List.perm_append_comm) |>.trans (by rw [List.append_assoc])⟩
  | _, _, _, G, k + 1, v, t, .cons (F := F1) b r, a => by
    obtain ⟨E, R, h1, h2⟩ := RepTs.setAt (k := k) r a
    refine ⟨F1 ++ E, R, .cons b h1, ?_⟩
    rw [List.append_assoc, List.append_assoc]
    exact List.Perm.append_left _ h2
theorem Ok.putAt {K : PySem.W.Frag} {m : List Bool} {B : Bs} {σ : St} {H : Hp} {ρ : Rho} {ws : List V} {ts : List T} {x v : V} {xs : List T} {t : T} (h : Ok K m B σ H ρ (x :: v :: ws) (.lst xs :: t :: ts)) :
    ∃ a vs, x = .ref a ∧ H a = some (.lst vs) ∧ vs.length = xs.length ∧ ∀ j, Ok K m B σ (upd H a (.lst (vs.set j v))) ρ (.ref a :: ws) (.lst (xs.set j t) :: ts) := by
  obtain ⟨I, Fr, Fw, s, r, w, km⟩ := h
  cases w with
  | cons a b =>
    rename_i F1 F2
    cases a with
    | lst hp it =>
      rename_i p vs F3
      cases b with
      | cons c d =>
        rename_i F4 F5
        refine ⟨p, vs, rfl, hp, it.len, fun j => ?_⟩
        have mem : p ∈ Fr ++ (p :: F3 ++ (F4 ++ F5)) := by simp
        have nd := s.nd
        have other : ∀ q ∈ Fr ++ (F3 ++ (F4 ++ F5)), q ≠ p := fun q z e => by
          subst e
          have : List.Perm (Fr ++ (q :: F3 ++ (F4 ++ F5))) (q :: (Fr ++ (F3 ++ (F4 ++ F5)))) := List.perm_middle
          exact (List.nodup_cons.mp (this.nodup_iff.mp nd)).1 z
        have fx : ∀ q ∈ Fr ++ (F3 ++ (F4 ++ F5)), (upd H p (.lst (vs.set j v))) q = H q := fun q z => upd_ne (other q z)
        obtain ⟨E, R, h1, h2⟩ := RepTs.setAt (k := j) (it.mono (Same.refl _) fun q z => fx q (by simp [z])) (c.mono (Same.refl _) fun q z => fx q (by simp [z]))
        refine ⟨I, Fr, (p :: E) ++ F5, (s.write (o := .lst (vs.set j v)) mem).sub' (R := R) ?_, r.mono (Same.refl _) fun q z => fx q (by simp [z]), .cons (.lst upd_same h1) (d.mono (Same.refl _) fun q z => fx q (by simp [z])), km⟩
        rw [List.append_assoc]
        refine List.Perm.append_left _ ?_
        rw [List.cons_append, List.cons_append, List.cons_append]
        refine List.Perm.cons _ ?_
        rw [← List.append_assoc (as := F3)]
        refine List.Perm.trans ?_ (List.Perm.append_right F5 h2)
        rw [List.append_assoc, List.append_assoc]
        exact List.Perm.append_left _ List.perm_append_comm
def dput (i : Nat) (k v : T) : M Unit := fun ρ => match ρ[i]? with
  | some (some t) => (match tPut t k v with
    | some t1 => .ok () (ρ.set i (some t1))
    | none => .no)
  | _ => .no
def gput (i : Nat) (fk : M T) (v : T) : M Unit := mbind (dhas i) fun _ => mbind fk fun k => dput i k v
theorem dg_sub (i : Nat) {k : Expr} {fk : M T} (hk : DE X w k fk) (hN : X.N[i]? = some x := by rfl) (hv : Vis X.env.scope x := by first | exact Or.inl rfl | exact Or.inr (Or.inl rfl) | exact Or.inr (Or.inr rfl)) (hd : (x == ("__debug__" : Str)) = false := by decide)
    (hcd : (x == ("__classdict__" : Str)) = false := by decide)
    (ha : ∀ v, assign (.Subscript (.Name x p) k pos) X.env v = (do
      let ov ← holding [v] (eval (.Name x p) X.env)
      let iv ← holding [v, ov] (eval k X.env)
      standAt pos
      holding [v, ov, iv] (setItem ov iv v)
      release [v, ov, iv] []) := by intro _; rfl) : DG X w (.Subscript (.Name x p) k pos) [] (gput i fk) := by
  obtain ⟨tk, pk, dk⟩ := hk.ex
  refine ⟨_, pg_sub (pe_var hN hv hd hcd) pk set_list ha, fun B σ H ρ ws ts y v Q ok q => ?_⟩
  obtain ⟨⟨ov, hov⟩, q⟩ := dhas_of ok q.bind
  refine ⟨ov, hov, ?_⟩
  refine dk B σ H ρ _ _ _ ok (PostG.mono (PostG.bind q) fun kk ρ1 p1 ky H1 ok1 => ?_)
  unfold dput at p1
  cases e : ρ1[i]? with
  | none => rw [e] at p1; exact p1.elim
  | some o =>
    cases o with
    | none => rw [e] at p1; exact p1.elim
    | some t =>
      rw [e] at p1
      simp only at p1
      cases e1 : tPut t kk v with
      | none => rw [e1] at p1; exact p1.elim
      | some t1 =>
        rw [e1] at p1
        unfold tPut at e1
        split at e1
        · rename_i xs k
          cases e2 : ixN xs.length k with
          | none => rw [e2] at e1; cases e1
          | some j =>
            rw [e2] at e1
            cases e1
            have hy := ok1.topInt
            subst hy
            obtain ⟨v', h1, ok2⟩ := ok1.pop.take e
            have ev : v' = ov := by
              rw [hov] at h1
              exact (Option.some.inj (Option.some.inj h1)).symm
            subst ev
            obtain ⟨a, vs, rfl, ha, hl, ok3⟩ := ok2.putAt
            refine ⟨a, vs, k, j, rfl, rfl, ha, by rw [hl]; exact e2, ?_⟩
            have ok4 := (ok3 j).back (i := i) h1
            rw [List.set_set] at ok4
            exact (show ∀ σ' H', SameOut [] σ σ' → Ok X.K w.m B σ' H' (ρ1.set i (some (.lst (xs.set j v)))) ws ts → Q σ' H' from p1) σ _ ⟨rfl, fun _ _ => rfl⟩ ok4
        · cases e1
def sasg (f : M T) (g : T → M Unit) : M Fl := mbind f fun v => mbind (g v) fun _ => mret .nx
theorem ds_asg {tg e : Expr} {f : M T} {S : List Nat} {g : T → M Unit} (he : DE X w e f) (hg : DG X w tg S g) (hs : swapsWithSole [tg] e pos.line X.env = pure false := by rfl) (hw : swappedStores [tg] e X.env = pure none := by rfl) (h1 : (assignEach [tg] X.env).map (·.2) = [assign tg X.env] := by rfl) : DS X w (.Assign [tg] e pos) (sasg f g) := by
  obtain ⟨t, p, d⟩ := he.ex
  obtain ⟨t', p', d'⟩ := hg.ex
  refine ⟨_, ps_asg p p' hs hw h1, fun B σ H ρ ws ts D ok q => ?_⟩
  refine d B σ H ρ ws ts _ ok (q.bind.mono fun v ρ1 p1 x H1 ok1 => ?_)
  exact d' B σ H1 ρ1 ws ts x v _ ok1 (PostG.mono (PostG.bind p1) fun _ ρ2 p2 σ2 H2 _ ok2 => p2 σ2 H2 ok2)

def mgs : List (T → M Unit) → List PyData → M Unit
  | [], _ => mret ()
  | g :: gs, d :: ds => mbind (g (.d d)) fun _ => mgs gs ds
  | _ :: _, [] => mno
def mtup (gs : List (T → M Unit)) : T → M Unit
  | .d (.tuple ds) => if ds.length = gs.length then mgs gs ds else mno
  | _ => mno
structure DGs (X : Cx) (w : Wd) (es : List Expr) (S : List Nat) (gs : List (T → M Unit)) : Prop where
  ex : ∃ t, PGs X es t ∧ ∀ B σ H ρ ws ts xs ds (Q : St → Hp → Prop), xs.length = ds.length → ds.length = gs.length → Ok X.K w.m B σ H ρ (xs ++ ws) ((ds : List PyData).map T.d ++ ts) →
    PostG X.K w B (mgs gs ds ρ) (fun _ ρ' => ∀ σ' H', SameOut S σ σ' → Ok X.K w.m B σ' H' ρ' ws ts → Q σ' H') → t xs σ H Q
theorem dgs_nil : DGs X w [] [] [] := ⟨_, pgs_nil, fun B σ H ρ ws ts xs ds Q l1 l2 ok q => by
  have : ds = [] := List.eq_nil_of_length_eq_zero l2
  subst this
  have : xs = [] := List.eq_nil_of_length_eq_zero l1
  subst this
  exact ⟨rfl, (show ∀ σ' H', SameOut [] σ σ' → Ok X.K w.m B σ' H' ρ ws ts → Q σ' H' from q) σ H ⟨rfl, fun _ _ => rfl⟩ ok⟩⟩
theorem SameOut.trans {S S' : List Nat} {σ σ1 σ2 : St} (h : SameOut S σ σ1) (h' : SameOut S' σ1 σ2) : SameOut (S ++ S') σ σ2 :=
  ⟨h'.1.trans h.1, fun j hj => (h'.2 j fun m => hj (List.mem_append_right _ m)).trans (h.2 j fun m => hj (List.mem_append_left _ m))⟩
theorem dgs_cons {e : Expr} {es : List Expr} {S S' : List Nat} {g : T → M Unit} {gs : List (T → M Unit)} (h : DG X w e S g) (h' : DGs X w es S' gs) (hs : (assignEach (e :: es) X.env).map (·.2) = assign e X.env :: (assignEach es X.env).map (·.2) := by rfl) : DGs X w (e :: es) (S ++ S') (g :: gs) := by
  obtain ⟨t, p, d⟩ := h.ex
  obtain ⟨t', p', d'⟩ := h'.ex
  refine ⟨_, pgs_cons p p' hs, fun B σ H ρ ws ts xs ds Q l1 l2 ok q => ?_⟩
  cases ds with
  | nil => cases l2
  | cons d0 ds =>
    cases xs with
    | nil => cases l1
    | cons x xs =>
      refine ⟨x, xs, rfl, ?_⟩
      refine d B σ H ρ (xs ++ ws) (ds.map T.d ++ ts) x (.d d0) _ ok (PostG.mono (PostG.bind q) fun _ ρ1 p1 σ1 H1 so ok1 => ?_)
      exact d' B σ1 H1 ρ1 ws ts xs ds Q (by simpa using l1) (by simpa using l2) ok1 (PostG.mono p1 fun _ ρ2 p2 σ2 H2 so2 ok2 => p2 σ2 H2 (so.trans so2) ok2)
theorem dg_tup {es : List Expr} {k n : Nat} {S : List Nat} {gs : List (T → M Unit)} (hc : X.calm = true) (h : DGs X w es S gs) (hn : (assignEach es X.env).length = n := by rfl) (hgn : gs.length = n := by rfl) (hst : (assignEach es X.env).findIdx? (·.1) = none := by rfl) : DG X w (.Tuple es k pos) S (mtup gs) := by
  obtain ⟨t, p, d⟩ := h.ex
  refine ⟨_, pg_tup hc p hn hst, fun B σ H ρ ws ts x v Q ok q => ?_⟩
  unfold mtup at q
  split at q
  · rename_i ds
    by_cases hl : ds.length = gs.length
    · rw [if_pos hl] at q
      obtain ⟨I, Fr, Fw, s, r, wz, km⟩ := id ok
      obtain ⟨a, vs, rfl, ha, dd⟩ := tup_items wz
      refine ⟨a, vs, rfl, st_mono s.sub ha, by rw [dd.len, hl, hgn], ?_⟩
      refine d B σ H ρ ws ts vs ds Q dd.len hl ?_ q
      obtain ⟨I', Fr', Fw', s', r', w', km'⟩ := ok
      cases wz with
      | cons a1 b1 =>
        rename_i F1 F2
        obtain ⟨E, q1, q2⟩ := RepTs.append (RepTs.ofD dd (H := H)) b1
        subst q2
        refine ⟨I, Fr, _, s.less (fun a m => ?_) ?_, r, q1, km⟩
        · rcases List.mem_append.mp m with m | m
          · exact List.mem_append_left _ m
          · exact List.mem_append_right _ (List.mem_append_right _ m)
        · exact (List.Sublist.append (List.Sublist.refl _) (List.sublist_append_right _ _)).nodup s.nd
    · rw [if_neg hl] at q
      exact q.elim
  · exact q.elim
end
end DL
end
section
set_option Elab.async false
set_option linter.all false
set_option maxRecDepth 100000
set_option maxHeartbeats 4000000
namespace DL
open PySem L2 PySem.Spec PyProof.Rows
def Good (g : Fn) (ns : List Int) : Prop := ∃ ρ, g [.scr ns] = .ok (.d (.bool true)) ρ
section
variable {P : Program} {w : World} {K : PySem.W.Frag} {mg mb : Str → Option Value} {k : Nat} {fa a : Addr} {fd : FuncData} {x : Str} {g : Fn} {s : Shared} {us : List Value} {ns : List Int}
abbrev Wish (s : Shared) : Result → Shared → Prop := fun r t => r = .ok (.ret (.bool true)) ∧ OldK s.heap t.heap ∧ t.os = s.os ∧ AllBare t.gens
theorem fnd_script {H : Hp} (hS : SqL K H a (ns.map V.int)) (hgood : Good g ns) : FnD K mg 1 g [.ref a] H (fun v _ => v = .bl true) (fun _ _ _ => False) := by
  obtain ⟨ρ, e⟩ := hgood
  refine ⟨rfl, H, [], [.scr ns], ⟨Same.refl _, Same.refl _, fun b o _ z => z, fun b o z => .inl z, fun b z => (nomatch z), fun b z => (nomatch z), fun b z => (nomatch z), List.nodup_nil⟩, .cons (F := []) (.scr hS) .nil, ?_⟩
  rw [e]
  exact fun y H' ok => Ok.topBl ok
theorem enter_at (FK : K.In s.heap) (gl : s.heap.Ns mainGlobals mg) (bl : s.heap.Ns builtinsNs mb) (bb : ∀ y : Str, y ≠ "__name__" → mb y = bootBuiltins y) (nl : s.heap.NoLimit) (ng : s.gens = #[])
    (at_ : s.heap.get? a = some { cls := .type "list", data := .seq us.toArray }) (room : Room k callerA)
    (F : ∀ base : Heap, K.In base → base.Ns mainGlobals mg → FnG P w K mg base k fa fd [x] (FnD K mg 1 g)) (bd : ∀ (t : Shared) (u : Value), BindsTo t fd ⟨[u], []⟩ [(x, u)]) (hgood : Good g ns)
    {H : Hp} (only : Only H) (hS : SqL K H a (ns.map V.int)) (hok : HOk P w H s.heap) (hA : ∀ b, H b ≠ none → b = a) (hKa : H a ≠ none → K.lookup a = none) :
    codeAny (model P w) callerA (.call (.ref fa) ⟨[.ref a], []⟩) (Wish s) s := by
  have free : ∀ {b : Addr} {o : Obj}, s.heap.get? b = some o → b ≠ a → (hidT s.heap H).get? b = some o := fun {b o} e n => hidT_get e (by
    cases q : H b with
    | none => rfl
    | some u => exact absurd (hA b (by rw [q]; intro z; cases z)) n)
  have ns_of : ∀ {b : Addr} {mp : Str → Option Value}, s.heap.Ns b mp → (hidT s.heap H).Ns b mp := fun {b mp} z => by
    obtain ⟨o, es, ep, e, d, r⟩ := z
    refine ⟨o, es, ep, free e fun q => ?_, d, r⟩
    subst q
    rw [at_] at e
    cases e
    exact nomatch (show Data.seq us.toArray _ = Data.dict es ep from d)
  have kin' : K.In (hidT s.heap H) := fun b o e => by
    cases q : H b with
    | none => exact hidT_get (FK b o e) q
    | some u =>
      have := hA b (by rw [q]; intro z; cases z)
      subst this
      have z := hKa (by rw [q]; intro z; cases z)
      rw [z] at e
      cases e
  obtain ⟨mc, l1, l2⟩ := nl
  have env : Env0 P w K mg (hidT s.heap H) callerA [] s H := ⟨rfl, ⟨kin', ns_of gl, ⟨mb, ns_of bl, bb⟩, ⟨mc, ns_of l1, l2⟩⟩, fun b o e => of_hidT e, Nat.le_of_eq (hidT_size _ _), trivial, fun b hb => (nomatch (show b ∈ ([] : List Addr) from hb)), hok, .of_eq ng⟩
  have run := (F _ kin' (ns_of gl)).go callerA [] s H ⟨[.ref a], []⟩ [.ref a] [.ref a] (fun v _ => v = .bl true) (fun _ _ _ => False) rfl room env (bd s (.ref a)) (.cons rfl .nil) (fnd_script hS hgood)
  refine codeAny_mono run fun r t h => ?_
  match r, h with
  | .error er, h =>
    have h : L2.CX P w [] H s (fun _ _ _ => False) er t := h
    obtain ⟨_, _, _, _, _, _, _, _, _, _, _, _, z⟩ := h
    exact (show False from z).elim
  | .ok .next, h => exact (show False from h).elim
  | .ok .brk, h => exact (show False from h).elim
  | .ok .cont, h => exact (show False from h).elim
  | .ok (.ret u), h =>
    obtain ⟨v, H', hos, bare, un, ok', ru, q⟩ := h
    have q : v = .bl true := q
    subst q
    cases (show u = Value.bool true from ru)
    refine ⟨rfl, OldK.of_keep fun b o e => ?_, hos, bare⟩
    cases q : H b with
    | none => exact un.keep b o e q (fun z => (nomatch (show b ∈ ([] : List Addr) from z))) (by simp)
    | some u =>
      rcases only b with z | ⟨_, zs, z⟩
      · rw [q] at z
        cases z
      · obtain ⟨e1, _⟩ := hok b _ z
        rw [e] at e1
        cases e1
        exact (ok' b _ (un.frzs b _ _ z)).1
theorem enterG (FK : K.In s.heap) (gl : s.heap.Ns mainGlobals mg) (bl : s.heap.Ns builtinsNs mb) (bb : ∀ y : Str, y ≠ "__name__" → mb y = bootBuiltins y) (nl : s.heap.NoLimit) (ng : s.gens = #[])
    (at_ : s.heap.get? a = some { cls := .type "list", data := .seq us.toArray }) (hi : IntsAre us ns) (hl : ns.length ≤ sizeLine) (room : Room k callerA)
    (F : ∀ base : Heap, K.In base → base.Ns mainGlobals mg → FnG P w K mg base k fa fd [x] (FnD K mg 1 g)) (bd : ∀ (t : Shared) (u : Value), BindsTo t fd ⟨[u], []⟩ [(x, u)]) (hgood : Good g ns) :
    codeAny (model P w) callerA (.call (.ref fa) ⟨[.ref a], []⟩) (Wish s) s := by
  have rv := vals_ints hi
  by_cases hk : K.lookup a = none
  · let H : Hp := fun b => if b = a then some (.frz { cls := .type "list", data := .seq us.toArray } (.lst (ns.map V.int))) else none
    have h1 : H a = some (.frz { cls := .type "list", data := .seq us.toArray } (.lst (ns.map V.int))) := if_pos rfl
    have h2 : ∀ b, b ≠ a → H b = none := fun b n => if_neg n
    refine enter_at FK gl bl bb nl ng at_ room F bd hgood (H := H) (fun b => ?_) (.inl (.inr ⟨_, h1⟩)) (fun b u z => ?_) (fun b z => Classical.byContradiction fun n => z (h2 b n)) fun _ => hk
    · by_cases q : b = a
      · subst q
        exact .inr ⟨_, _, h1⟩
      · exact .inl (h2 b q)
    · by_cases q : b = a
      · subst q
        rw [h1] at z
        cases z
        exact ⟨at_, by rw [List.length_map]; exact hl, us, _, rv, at_⟩
      · rw [h2 b q] at z
        cases z
  · obtain ⟨o, e⟩ := Option.ne_none_iff_exists'.mp hk
    have z := FK a o e
    rw [at_] at z
    cases z
    refine enter_at FK gl bl bb nl ng at_ room F bd hgood (H := fun _ => none) (fun _ => .inl rfl) (.inr ⟨_, us.toArray, _, e, rfl, rfl, rfl, ?_, ?_⟩) (fun b u q => ?_) (fun b q => (q rfl).elim) fun q => (q rfl).elim
    · rw [List.size_toArray, hi.length]
      exact hl
    · simpa using rv
    · exact nomatch (show (none : Option HO) = some u from q)
end
theorem walkG {l : PySem.W.OpenLaw} {n k : Nat} {q : Program} {loose : List Str} {XP : (Str → Option Value) → Heap → Prop} {YP : World → Heap → Prop} {d : DefRec} {K : Params → PySem.W.Frag} {x : Str} {g : Fn}
    (hn : l.most = some n) (hn2 : n ≤ sizeLine) (hdf : d.params.defaults = []) (room : Room k callerA) (hY : ∀ (w : World) (h : Heap), YP w h → (K w.params).In h)
    (F : ∀ (w : World) (mg : Str → Option Value) (fa : Addr) (h : Heap), (K w.params).In h → h.Ns mainGlobals mg → mg d.name = some (.ref fa) →
      ∃ fd : FuncData, (∀ (s : Shared) (u : Value), BindsTo s fd ⟨[u], []⟩ [(x, u)]) ∧ ∀ base : Heap, (K w.params).In base → base.Ns mainGlobals mg → FnG l.prog w (K w.params) mg base k fa fd [x] (FnD (K w.params) mg 1 g))
    (law : ∀ ns : List Int, ns.length ≤ n → (∀ z ∈ ns, Builtin.Int.intBits z ≤ 1048576) → Good g ns) : PySem.W.WalkO q loose XP YP l.row.toRowW d [] (fun f vs => PySem.call f vs) := by
  refine Att.attach_callB hn hdf fun w s₀ s mg mb fa o pm cd doc a us ns G Y ho hd hcd hmg hobj hi hlen hbits hg => ?_
  obtain ⟨fd, hb, hF⟩ := F w mg fa _ (hY w _ Y) G.T.g hmg
  exact enterG (hY w _ Y) G.T.g G.T.b G.T.builtins G.T.nolimit hg hobj hi (Nat.le_trans hlen hn2) room hF hb (law ns hlen hbits)
end DL
end
section
set_option Elab.async false
set_option linter.all false
set_option maxRecDepth 100000
set_option maxHeartbeats 4000000
namespace DL
open PySem L2
section
variable {prog : Program} {w : World} {A : Around} {E : Value → Shared → Prop} {s : Shared} {o : Obj} {es : Array DictEntry} {ep : Nat} {d : Addr}
theorem new_tuple_raw {Q₁ : Value → Shared → Prop} (hh : A.handled = none) (lo : (d == sysModules) = false) (ho : s.heap.get? d = some o) (hx : o.ExactDict) (hd : o.data = .dict es ep) (hn : es.size ≤ sizeLine)
    (h : ∀ (hp : Heap) (tk : Nat) (acc : Array Value), (∀ b u, s.heap.get? b = some u → hp.get? b = some u) → acc.toList = es.toList.map (·.key) → Q₁ (.ref hp.objs.size) { s with heap := hp.push { cls := .type "tuple", data := .seq acc }, toks := tk }) :
    codeAny (model prog w) A (.call (.builtin "tuple.__new__") ⟨[.type "tuple", .ref d], []⟩) (wants Q₁ E) s := by
  refine codeAny_of_tree ?_
  show wpAny _ A.in1 (checkBuiltinCall "tuple.__new__" ⟨[.type "tuple", .ref d], []⟩ >>= fun _ => again (.builtin "tuple.__new__" ⟨[.type "tuple", .ref d], []⟩)) _ _ s
  refine wpAny_bind (wpAny_of_eq (PySem.F.newCall_tuple_1 _) (wpAny_pure ⟨plainId_quiet PySem.F.plain_tuple_new _, codeAny_builtin PySem.F.entry_tuple_new ?_⟩))
  rw [Around.under_plainId PySem.F.plain_tuple_new _]
  have t1 := sub_tuple_self
  have t2 := init_tuple_lookup
  have t3 := madeHere_tuple
  have t4 : s.TypeIs (.ref d) "dict" := ⟨o, ho, hx.1⟩
  have t5 : A.in1.handled = none := hh
  wp_walk using wpAny_typeOf t4, PySem.W.kdu_collect (A := A.in1) (kdl_raw lo hx hd) t5 ho hn
  intro hp tk acc hk hacc
  show wpAny _ _ (Builtin.Tuple.tupleExact acc.toList.toArray >>= fun v => ret v) _ _ _
  unfold Builtin.Tuple.tupleExact
  have e : acc.toList.toArray = acc := by simp
  rw [e]
  refine wpAny_bind (wpAny_newObj_type (wpAny_pure (h hp tk acc hk ?_)) (by show acc.size ≤ sizeLine; rw [hacc.1]; exact hn))
  apply List.ext_getElem?
  intro i
  rw [List.getElem?_map]
  by_cases hi : i < es.size
  · have hi' : i < acc.size := by rw [hacc.1]; exact hi
    have e1 : acc.toList[i]? = some acc[i] := by simp [hi']
    obtain ⟨en, g1, g2⟩ := hacc.2 i acc[i] (by simp [hi'])
    have e2 : es.toList[i]? = some en := by rw [Array.getElem?_toList]; exact g1
    rw [e1, e2, g2]
    rfl
  · have h1 : acc.toList[i]? = none := by simp [hacc.1]; omega
    have h2 : es.toList[i]? = none := by simp; omega
    rw [h1, h2]
    rfl
end
def rKeysT (K : PySem.W.Frag) : List V → Hp → VK → Prop := fun xs H Q => ∃ (d : Addr) (es : Array DictEntry) (n : Nat) (ks : List Str), xs = [.ref d] ∧ K.lookup d = some ⟨.type "dict", none, .dict es n, #[]⟩ ∧ (d == sysModules) = false ∧ es.size ≤ sizeLine ∧
  Vals (ks.map V.str) (es.toList.map (·.key)) ∧ ∀ p, H p = none → Q (.ref p) (upd H p (.tup (ks.map V.str)))
theorem cr_keysT {X : Cx} (hc : X.calm = true) : CallR X (.type "tuple") (rKeysT X.K) := by
  intro pins s σ H xs us Q I r h
  obtain ⟨d, es, n, ks, rfl, hk, lo, hz, hv, q⟩ := h
  obtain rfl := Vals.ref1 r
  have ho := I.kIn d _ hk
  refine callType_codes (Q₁ := fun obj t => t.TypeIs obj "tuple" ∧ EP X pins σ Q obj t) PySem.F.called_tuple (PySem.F.typeCall_tuple_1 _) PySem.F.entry_object_init
    (new_tuple_raw (A := X.A.in1) (I.ok.hd hc) lo ho ⟨rfl, rfl, rfl⟩ rfl hz fun hp tk acc keep hacc => ⟨⟨_, Heap.get?_push_size _ rfl, rfl⟩, ?_⟩) fun obj t ht => ?_
  · have I1 : Inv X pins σ H { s with heap := hp } := I.kept (t' := s.toks) keep
    have hv' : Vals (ks.map V.str) acc.toList := by rw [hacc]; exact hv
    refine ⟨.ref hp.objs.size, _, I1.laid (t' := tk) (o := .tup (ks.map V.str)) (fun b u e => Heap.get?_push_of_some _ e) (Nat.le_refl _) ?_, rfl, q _ (I1.hok.fresh (Nat.le_refl _))⟩
    refine ⟨?_, acc.toList, hv', ?_⟩
    · rw [hv'.length, hacc, List.length_map, Array.length_toList]
      exact hz
    · rw [Array.toArray_toList]
      exact PyProof.Rows.IsTup.new hp acc
  · exact ⟨ht.1, PySem.F.args_object_init_2 obj _, object_init_meets PySem.F.called_tuple.init.lookup PySem.F.called_tuple.made (by decide) X.prog X.w X.A.in1 _ t ⟨ht.1, rfl, ht.2⟩⟩

def tlook (kvs : List (Str × T)) (z : Str) : Option T := (kvs.find? fun p => decide (p.1 = z)).map (·.2)
inductive TabIs (K : PySem.W.Frag) : List DictEntry → List (Str × T) → Prop
  | nil : TabIs K [] []
  | cons {e : DictEntry} {es : List DictEntry} {z : Str} {t : T} {kvs : List (Str × T)} (k : Tok) (v : V) : e.key = .str z k → RelV v e.val → (∀ I H, RepT K I H v t []) → TabIs K es kvs → TabIs K (e :: es) ((z, t) :: kvs)
theorem TabIs.look {K : PySem.W.Frag} {z : Str} : ∀ {es : List DictEntry} {kvs : List (Str × T)}, TabIs K es kvs → (∀ t, tlook kvs z = some t → ∃ e v, es.find? (·.key.isStr z) = some e ∧ RelV v e.val ∧ ∀ I H, RepT K I H v t []) ∧ (tlook kvs z = none → es.find? (·.key.isStr z) = none) ∧ es.any (·.refKey) = false
  | _, _, .nil => ⟨fun t e => (nomatch e), fun _ => rfl, rfl⟩
  | _, _, .cons (e := en) (z := y) (t := u) k v h1 h2 h3 r => by
    obtain ⟨a, b, c⟩ := TabIs.look (z := z) r
    have hk : en.key.isStr z = decide (y = z) := by
      rw [h1]
      show (y == z) = _
      by_cases q : y = z
      · subst q
        simp
      · rw [decide_eq_false q]
        simpa using q
    by_cases q : y = z
    · have q1 : decide (y = z) = true := decide_eq_true q
      refine ⟨fun t e => ?_, fun e => ?_, ?_⟩
      · have : u = t := by
          simpa [tlook, List.find?_cons, q1] using e
        subst this
        exact ⟨en, v, by rw [List.find?_cons, hk, q1], h2, h3⟩
      · simp [tlook, List.find?_cons, q1] at e
      · rw [List.any_cons, c]
        simp [DictEntry.refKey, h1]
    · have q1 : decide (y = z) = false := decide_eq_false q
      refine ⟨fun t e => ?_, fun e => ?_, ?_⟩
      · obtain ⟨e', v', g1, g2, g3⟩ := a t (by simpa [tlook, List.find?_cons, q1] using e)
        exact ⟨e', v', by rw [List.find?_cons, hk, q1]; exact g1, g2, g3⟩
      · rw [List.find?_cons, hk, q1]
        exact b (by simpa [tlook, List.find?_cons, q1] using e)
      · rw [List.any_cons, c]
        simp [DictEntry.refKey, h1]
theorem TabIs.keys {K : PySem.W.Frag} : ∀ {es : List DictEntry} {kvs : List (Str × T)}, TabIs K es kvs → Vals ((kvs.map (·.1)).map V.str) (es.map (·.key))
  | _, _, .nil => .nil
  | _, _, .cons k v h1 h2 h3 r => .cons ⟨k, h1⟩ (TabIs.keys r)
structure KTab (X : Cx) (x : Str) (kvs : List (Str × T)) : Prop where
  ex : ∃ (d : Addr) (es : Array DictEntry) (n : Nat), X.mg x = some (.ref d) ∧ KDict X.K X.w d es n ∧ TabIs X.K es.toList kvs ∧ es.size ≤ sizeLine
theorem ns_some {K : PySem.W.Frag} {w : World} {d : Addr} {es : Array DictEntry} {n : Nat} {kvs : List (Str × T)} {z : Str} {t : T} (D : KDict K w d es n) (T0 : TabIs K es.toList kvs) (h : tlook kvs z = some t) : ∃ u v, PySem.W.nsIn K d z = some (some u) ∧ RelV v u ∧ ∀ I H, RepT K I H v t [] := by
  obtain ⟨e, v, g1, g2, g3⟩ := (T0.look (z := z)).1 t h
  refine ⟨e.val, v, ?_, g2, g3⟩
  unfold PySem.W.nsIn
  rw [D.at_]
  simp only [g1]
theorem ns_none {K : PySem.W.Frag} {w : World} {d : Addr} {es : Array DictEntry} {n : Nat} {kvs : List (Str × T)} {z : Str} (D : KDict K w d es n) (T0 : TabIs K es.toList kvs) (h : tlook kvs z = none) : PySem.W.nsIn K d z = some none := by
  obtain ⟨_, g, c⟩ := T0.look (z := z)
  unfold PySem.W.nsIn
  rw [D.at_]
  simp only [g h, c]
  rfl
section
variable {X : Cx} {w : Wd} {x : Str} {kvs : List (Str × T)} {e : Expr} {fe : M T} {p p2 pos : Pos}
def gKin (kvs : List (Str × T)) (neg : Bool) : T → Option T
  | .d (.str z) => some (.d (.bool (if neg then !(tlook kvs z).isSome else (tlook kvs z).isSome)))
  | _ => none
def dkin (kvs : List (Str × T)) (neg : Bool) (fe : M T) : M T := mbind fe fun t => mopt (gKin kvs neg t)
theorem kin_val {K : PySem.W.Frag} {w : World} {d : Addr} {es : Array DictEntry} {n : Nat} {z : Str} (D : KDict K w d es n) (T0 : TabIs K es.toList kvs) : ∃ r, PySem.W.nsIn K d z = some r ∧ r.isSome = (tlook kvs z).isSome := by
  cases h : tlook kvs z with
  | some t =>
    obtain ⟨u, v, g, _⟩ := ns_some D T0 h
    exact ⟨_, g, rfl⟩
  | none => exact ⟨_, ns_none D T0 h, rfl⟩
theorem dt_kin (D : KTab X x kvs) (he : DE X w e fe) (hg : Gl X x := by rfl) (hd : (x == ("__debug__" : Str)) = false := by decide) (hm : behindInMarks .In (.Name x p) = false := by with_unfolding_all rfl) : DT X w (.Compare e [.In] [.Name x p] pos) (dval (dkin kvs false fe)) := by
  obtain ⟨t, pt, dt⟩ := he.ex
  obtain ⟨d, es, n, m1, m2, m3, m4⟩ := D.ex
  refine ⟨_, pt_cmpR (op_in_kd m2) pt (pe_glob (v := .ref d) hg m1 rfl hd) hm, fun B σ H ρ ws ts Q ok q => ?_⟩
  refine dt B σ H ρ ws ts _ ok ((PostG.bind (PostG.bind q)).mono fun v ρ1 p1 y H1 ok1 => ?_)
  obtain ⟨z, e1, p2⟩ := p1.opt
  unfold gKin at e1
  split at e1
  · cases e1
    have hy := ok1.topStr
    subst hy
    rename_i z
    obtain ⟨r, r1, r2⟩ := kin_val (z := z) m2 m3
    exact ⟨z, r, rfl, rfl, r1, _, rfl, by rw [r2]; exact p2 _ ok1.pop⟩
  · cases e1
def gKix (kvs : List (Str × T)) : T → Option T
  | .d (.str z) => tlook kvs z
  | _ => none
def dkix (kvs : List (Str × T)) (fe : M T) : M T := mbind fe fun t => mopt (gKix kvs t)
theorem de_kix (D : KTab X x kvs) (he : DE X w e fe) (hs : PlainIx e := by exact fun _ _ => rfl) (hg : Gl X x := by rfl) (hd : (x == ("__debug__" : Str)) = false := by decide) : DE X w (.Subscript (.Name x p) e pos) (dkix kvs fe) := by
  obtain ⟨t, pt, dt⟩ := he.ex
  obtain ⟨d, es, n, m1, m2, m3, m4⟩ := D.ex
  refine de_v (pe_ix ix_kdict (pe_glob (v := .ref d) hg m1 rfl hd) pt hs) fun B σ H ρ ws ts Q ok q => ?_
  show t σ H _
  refine dt B σ H ρ ws ts _ ok (q.bind.mono fun v ρ1 p1 y H1 ok1 => ?_)
  obtain ⟨z, e1, p2⟩ := p1.opt
  unfold gKix at e1
  split at e1
  · have hy := ok1.topStr
    subst hy
    rename_i z0
    obtain ⟨u, v0, g1, g2, g3⟩ := ns_some m2 m3 e1
    refine ⟨d, z0, v0, rfl, rfl, ⟨es, n, u, m2.at_, m2.lit, g1, g2⟩, p2 _ _ ?_⟩
    obtain ⟨I, Fr, Fw, s, r, wz, km⟩ := ok1.pop
    exact ⟨I, Fr, Fw, s, r, .cons (F := []) (g3 _ _) wz, km⟩
  · cases e1
theorem de_ktup (at_ : X.calm = true) (D : KTab X x kvs) (hm : NoG X "tuple") (hg : Gl X x := by rfl) (hgt : Gl X "tuple" := by rfl) (hd : (x == ("__debug__" : Str)) = false := by decide)
    (he : starEach [.Name x p2] X.env = (false, eval (.Name x p2) X.env) :: starEach [] X.env := by rfl) (hpl : (backTo pos (starEach [] X.env)).any (·.1) = false := by rfl) :
    DE X w (.Call (.Name "tuple" p) [.Name x p2] [] pos) (mret (.d (.tuple (kvs.map fun q => .str q.1)))) := by
  obtain ⟨d, es, n, m1, m2, m3, m4⟩ := D.ex
  refine de_v (pe_callTy (cr_keysT at_) hgt hm (by first | exact PySem.boot_tuple | decide +kernel) (pa_cons (pe_glob (v := .ref d) hg m1 rfl hd) pa_nil he) (by decide) (by decide) he hpl) fun B σ H ρ ws ts Q ok q => ?_
  refine ⟨d, es, n, kvs.map (·.1), rfl, m2.at_, m2.low, m4, m3.keys, fun l hl => q _ _ (ok.newTup hl fun I Fw sb w' => ?_)⟩
  have := drAll_strs (K := X.K) (I := I) (kvs.map (·.1))
  rw [List.map_map (g := PyData.str)] at this
  exact this
end
end DL
end
section
set_option Elab.async false
set_option linter.all false
set_option maxRecDepth 100000
set_option maxHeartbeats 4000000
namespace DL
open PySem L2 PySem.W
section
variable {prog : Program} {w : World} {A : Around} {E : Value → Shared → Prop} {s : Shared} {l : Addr} {its : Array Value} {k : Nat} {Q : List Value → Shared → Prop}
abbrev pushL (h : Heap) (vs : List Value) : Heap := h.push { cls := .type "list", data := .seq vs.toArray }
theorem new_rest {vs : List Value} {h : Heap} {tk : Nat} {fst : List Value} (hz : vs.length ≤ sizeLine) (q : Q (fst ++ [.ref h.objs.size]) { s with heap := pushL h vs, toks := tk }) :
    wpAny (model prog w) A (newList vs >>= fun d => pure (fst ++ [d] ++ [])) Q E { s with heap := h, toks := tk } := by
  refine wpAny_bind (wpAny_newObj_type (wpAny_pure ?_) (by show vs.toArray.size ≤ sizeLine; simpa using hz))
  rw [List.append_nil]
  exact q
theorem star_fin {fst rest : List Value} {h : Heap} {tk : Nat} (hz : rest.length ≤ sizeLine) (q : Q (fst ++ [.ref h.objs.size]) { s with heap := pushL h rest, toks := tk }) (n : Nat) (hn : n = 0) :
    wpAny (model prog w) A (newList (rest.take (rest.length - n)) >>= fun d => pure (fst ++ [d] ++ rest.drop (rest.length - n))) Q E { s with heap := h, toks := tk } := by
  subst hn
  have e1 : rest.take (rest.length - 0) = rest := by simp
  have e2 : rest.drop (rest.length - 0) = [] := by simp
  rw [e1, e2]
  exact new_rest hz q
theorem star_tup (ht : PyProof.Rows.IsTup s.heap l its) (hh : A.handled = none) (hk : k ≤ its.size) (hz : its.size ≤ sizeLine)
    (q : ∀ h tk, (∀ b o, s.heap.get? b = some o → h.get? b = some o) → Q (its.toList.take k ++ [.ref h.objs.size]) { s with heap := pushL h (its.toList.drop k), toks := tk }) : wpAny (model prog w) A (unpackItems (.ref l) (k + 1) (some k)) Q E s := by
  obtain ⟨o, ho, ho2⟩ := id ht
  have lt : l < s.heap.objs.size := Heap.lt_size ho
  have ne : l ≠ s.heap.objs.size := Nat.ne_of_lt lt
  unfold unpackItems notIterableAtAll
  refine wpAny_bind (wpAny_bind (wpAny_specialOf ht.typeIs PyProof.Rows.slot_tuple_iter.lookup (wpAny_pure ?_)))
  simp only [Bool.false_eq_true, if_false]
  refine wpAny_bind (wpAny_holding (PyProof.Rows.iter_tuple ht ?_))
  refine wpAny_bind (wpAny_holding (PyProof.Rows.draw_tuple ne k 0 _ _ ⟨_, Heap.get?_push_size _ rfl, rfl, rfl⟩ (ht.push _) (by omega) fun h1 it1 sb => ?_))
  have ht1 : PyProof.Rows.IsTup h1 l its := (ht.push _).extBut sb.extBut ne
  rw [Nat.zero_add] at it1
  obtain ⟨oi, g1, _⟩ := id it1
  obtain ⟨ol, g2, _⟩ := id ht1
  have e0 : (its.toList.drop 0).take k = its.toList.take k := by rw [List.drop_zero]
  rw [e0]
  have e1 : ¬ (its.toList.take k).length < k := by rw [List.length_take, Array.length_toList]; omega
  rw [if_neg e1]
  refine wpAny_bind (wpAny_holding (kun_collect (s := { s with heap := h1 }) (T := "tuple_iterator") (.inr (.inr (.inr rfl))) (Walks.tuple (A := A.in1) hh s.heap.objs.size l ne its) (fun j u st => st.1.typeIs) hk ⟨it1, ht1⟩ (Heap.lt_size g1) (Heap.lt_size g2) (fun h2 tk kp => ?_) hz))
  have e2 : ¬ (its.toList.drop k).length < k + 1 - 1 - k := by omega
  show wpAny _ _ (if (its.toList.drop k).length < k + 1 - 1 - k then _ else _) _ _ _
  rw [if_neg e2]
  refine star_fin (n := k + 1 - 1 - k) (s := s) (by rw [List.length_drop, Array.length_toList]; omega) (q h2 tk fun b ob e => ?_) (by omega)
  exact kp b ob (Nat.ne_of_lt (Heap.lt_size e)) (sb.extBut b ob (Nat.ne_of_lt (Heap.lt_size e)) (Heap.get?_push_of_some _ e))
theorem star_lst (ht : s.heap.IsList l its) (hh : A.handled = none) (hk : k ≤ its.size) (hz : its.size ≤ sizeLine)
    (q : ∀ h tk, (∀ b o, s.heap.get? b = some o → h.get? b = some o) → Q (its.toList.take k ++ [.ref h.objs.size]) { s with heap := pushL h (its.toList.drop k), toks := tk }) : wpAny (model prog w) A (unpackItems (.ref l) (k + 1) (some k)) Q E s := by
  obtain ⟨o, ho, ho2⟩ := id ht
  have lt : l < s.heap.objs.size := Heap.lt_size ho
  have ne : l ≠ s.heap.objs.size := Nat.ne_of_lt lt
  unfold unpackItems notIterableAtAll
  refine wpAny_bind (wpAny_bind (wpAny_specialOf ht.typeIs slot_list_iter.lookup (wpAny_pure ?_)))
  simp only [Bool.false_eq_true, if_false]
  refine wpAny_bind (wpAny_holding (wpAny_pyIter_list ht ?_))
  refine wpAny_bind (wpAny_holding (kun_draw ne k 0 _ _ ⟨_, Heap.get?_push_size _ rfl, rfl, rfl⟩ (ht.push _) (by omega) fun h1 it1 sb => ?_))
  have ht1 : h1.IsList l its := (ht.push _).extBut sb.extBut ne
  rw [Nat.zero_add] at it1
  obtain ⟨oi, g1, _⟩ := id it1
  obtain ⟨ol, g2, _⟩ := id ht1
  have e0 : (its.toList.drop 0).take k = its.toList.take k := by rw [List.drop_zero]
  rw [e0]
  have e1 : ¬ (its.toList.take k).length < k := by rw [List.length_take, Array.length_toList]; omega
  rw [if_neg e1]
  refine wpAny_bind (wpAny_holding (kun_collect (s := { s with heap := h1 }) (T := "list_iterator") (.inr (.inr (.inl rfl))) (Walks.list (A := A.in1) hh s.heap.objs.size l ne its) (fun j u st => st.1.typeIs) hk ⟨it1, ht1⟩ (Heap.lt_size g1) (Heap.lt_size g2) (fun h2 tk kp => ?_) hz))
  have e2 : ¬ (its.toList.drop k).length < k + 1 - 1 - k := by omega
  show wpAny _ _ (if (its.toList.drop k).length < k + 1 - 1 - k then _ else _) _ _ _
  rw [if_neg e2]
  refine star_fin (n := k + 1 - 1 - k) (s := s) (by rw [List.length_drop, Array.length_toList]; omega) (q h2 tk fun b ob e => ?_) (by omega)
  exact kp b ob (Nat.ne_of_lt (Heap.lt_size e)) (sb.extBut b ob (Nat.ne_of_lt (Heap.lt_size e)) (Heap.get?_push_of_some _ e))
end
def gStar (K : PySem.W.Frag) (k : Nat) (t : TGs) : TG := fun v σ H Q => ∃ a xs, v = .ref a ∧ (SqL K H a xs ∨ SqT K H a xs) ∧ k ≤ xs.length ∧ ∀ p, H p = none → t (xs.take k ++ [.ref p]) σ (upd H p (.lst (xs.drop k))) Q
section
variable {X : Cx} {w : Wd} {pos : Pos}
theorem pg_star {es : List Expr} {k kk : Nat} {t : TGs} (hc : X.calm = true) (h : PGs X es t) (hn : (assignEach es X.env).length = k + 1 := by rfl) (hst : (assignEach es X.env).findIdx? (·.1) = some k := by rfl) : PG X (.Tuple es kk pos) (gStar X.K k t) := by
  refine ⟨fun pins s σ H v u Q I r hw => ?_⟩
  obtain ⟨a, xs, rfl, hq, hl, hw⟩ := hw
  cases r
  have goal : ∀ its : List Value, Vals xs its → ∀ h' tk, (∀ b o, s.heap.get? b = some o → h'.get? b = some o) → xs.length ≤ sizeLine →
      wpAny (model X.prog X.w) X.A (assignInOrder ((assignEach es X.env).map (·.2)) (its.take k ++ [.ref h'.objs.size])) (fun _ s' => ∃ σ' H', Inv X pins σ' H' s' ∧ Q σ' H') X.xe { s with heap := pushL h' (its.drop k), toks := tk } := fun its rv h' tk kp hz => by
    have I1 : Inv X pins σ H { s with heap := h' } := I.kept (t' := s.toks) kp
    have I2 : Inv X pins σ (upd H h'.objs.size (.lst (xs.drop k))) { s with heap := pushL h' (its.drop k), toks := tk } := I1.lnew (t' := tk) (Vals.drop k rv) (by rw [List.length_drop]; omega)
    exact h.run pins _ σ _ _ _ Q I2 (Vals.append (Vals.take k rv) (.cons (show RelV (.ref h'.objs.size) (.ref h'.objs.size) from rfl) .nil)) (hw _ (I1.hok.fresh (Nat.le_refl _)))
  rw [PyProof.Rows.assign_Tuple]
  refine wpAny_bind (wpAny_standAt ?_)
  unfold unpack
  rw [hn, hst]
  rcases hq with hq | hq
  · obtain ⟨its, rv, pl, hz⟩ := I.list hq
    have hle := rv.length
    exact wpAny_bind (wpAny_holding (star_lst pl.isList (I.ok.hd hc) (by simp only [List.size_toArray]; omega) (by simp only [List.size_toArray]; omega) fun h' tk kp => goal its rv h' tk kp hz))
  · obtain ⟨its, rv, pl, hz⟩ := I.tuple hq
    have hle := rv.length
    exact wpAny_bind (wpAny_holding (star_tup pl (I.ok.hd hc) (by simp only [List.size_toArray]; omega) (by simp only [List.size_toArray]; omega) fun h' tk kp => goal its rv h' tk kp hz))
theorem pgs_star {e : Expr} {es : List Expr} {p : Pos} {t : TG} {u : TGs} (h1 : PG X e t) (h2 : PGs X es u) (hs : (assignEach (.Starred e p :: es) X.env).map (·.2) = assign e X.env :: (assignEach es X.env).map (·.2) := by rfl) : PGs X (.Starred e p :: es) (gCons t u) := by
  refine ⟨fun pins s σ H vs us Q I r h => ?_⟩
  obtain ⟨v, vr, rfl, h⟩ := h
  cases r with
  | cons r0 rr =>
    rw [hs]
    exact PyProof.Rows.assignInOrder_cons (thn (h1.run pins s σ H v _ _ I r0 h) fun _ s1 ⟨σ1, H1, I1, q1⟩ => h2.run pins s1 σ1 H1 vr _ Q I1 rr q1)
theorem dgs_star {e : Expr} {es : List Expr} {p : Pos} {S S' : List Nat} {g : T → M Unit} {gs : List (T → M Unit)} (h : DG X w e S g) (h' : DGs X w es S' gs) (hs : (assignEach (.Starred e p :: es) X.env).map (·.2) = assign e X.env :: (assignEach es X.env).map (·.2) := by rfl) : DGs X w (.Starred e p :: es) (S ++ S') (g :: gs) := by
  obtain ⟨t, p, d⟩ := h.ex
  obtain ⟨t', p', d'⟩ := h'.ex
  refine ⟨_, pgs_star p p' hs, fun B σ H ρ ws ts xs ds Q l1 l2 ok q => ?_⟩
  cases ds with
  | nil => cases l2
  | cons d0 ds =>
    cases xs with
    | nil => cases l1
    | cons x xs =>
      refine ⟨x, xs, rfl, ?_⟩
      refine d B σ H ρ (xs ++ ws) (ds.map T.d ++ ts) x (.d d0) _ ok (PostG.mono (PostG.bind q) fun _ ρ1 p1 σ1 H1 so ok1 => ?_)
      exact d' B σ1 H1 ρ1 ws ts xs ds Q (by simpa using l1) (by simpa using l2) ok1 (PostG.mono p1 fun _ ρ2 p2 σ2 H2 so2 ok2 => p2 σ2 H2 (so.trans so2) ok2)
def starItems (k : Nat) (ds : List PyData) : List PyData := ds.take k ++ [.list (ds.drop k)]
def mstar (k : Nat) (gs : List (T → M Unit)) : T → M Unit
  | .d (.tuple ds) => if k ≤ ds.length then mgs gs (starItems k ds) else mno
  | .d (.list ds) => if k ≤ ds.length then mgs gs (starItems k ds) else mno
  | _ => mno
theorem Ok.star {K : PySem.W.Frag} {m : List Bool} {B : Bs} {σ : L2.St} {H : Hp} {ρ : Rho} {ws : List V} {ts : List T} {x : V} {t : T} {vs : List V} {ds : List PyData} {k : Nat} {p : Addr} {I : Hp} {Fr Fw : List Addr}
    (s : Sit B I H (Fr ++ Fw)) (r : RepR K I H σ ρ Fr) (wz : RepTs K I H (x :: ws) (.d t0 :: ts) Fw) (km : Kept m B σ) (dd : DrAll K I vs ds) (hp : H p = none) :
    Ok K m B σ (upd H p (.lst (vs.drop k))) ρ ((vs.take k ++ [.ref p]) ++ ws) ((starItems k ds).map T.d ++ ts) := by
  have hI := (s.fresh hp).2.1
  have sm : Same I (upd I p (.lst (vs.drop k))) := fun a u e => by rw [upd_ne (ne_of_none e hI)]; exact e
  have nf : ∀ a ∈ Fr ++ Fw, (upd H p (.lst (vs.drop k))) a = H a := fun a z => upd_ne (show a ≠ p from fun e => s.thr a z (by rw [e]; exact hp))
  have dd' := drAll_mono sm dd
  have all : DrAll K (upd I p (.lst (vs.drop k))) (vs.take k ++ [.ref p]) (starItems k ds) := (dd'.take k).append (.cons (.lst upd_same (dd'.drop k)) .nil)
  have w' := wz.mono (H' := upd H p (.lst (vs.drop k))) sm fun a z => nf a (List.mem_append_right _ z)
  cases w' with
  | cons a1 b1 =>
    cases a1 with
    | d a1 =>
      obtain ⟨E, q1, q2⟩ := RepTs.append (RepTs.ofD all (H := upd H p (.lst (vs.drop k)))) b1
      subst q2
      exact ⟨_, Fr, _, s.newD hp, r.mono sm fun a z => nf a (List.mem_append_left _ z), q1, km⟩
theorem dg_star {es : List Expr} {k kk : Nat} {S : List Nat} {gs : List (T → M Unit)} (hc : X.calm = true) (h : DGs X w es S gs) (hn : (assignEach es X.env).length = k + 1 := by rfl) (hgn : gs.length = k + 1 := by rfl) (hst : (assignEach es X.env).findIdx? (·.1) = some k := by rfl) : DG X w (.Tuple es kk pos) S (mstar k gs) := by
  obtain ⟨t, p, d⟩ := h.ex
  refine ⟨_, pg_star hc p hn hst, fun B σ H ρ ws ts x v Q ok q => ?_⟩
  have len : ∀ ds : List PyData, k ≤ ds.length → (starItems k ds).length = k + 1 := fun ds hl => by
    unfold starItems
    rw [List.length_append, List.length_take]
    simp
    omega
  unfold mstar at q
  split at q
  · rename_i ds
    by_cases hl : k ≤ ds.length
    · rw [if_pos hl] at q
      obtain ⟨I, Fr, Fw, s, r, wz, km⟩ := ok
      obtain ⟨a, vs, rfl, ha, dd⟩ := tup_items wz
      have hv := dd.len
      refine ⟨a, vs, rfl, .inr (st_mono s.sub ha), by omega, fun p hp => ?_⟩
      refine d B σ _ ρ ws ts _ (starItems k ds) Q ?_ (by rw [len ds hl, hgn]) (Ok.star (t := .d .none) s r wz km dd hp) q
      rw [len ds hl, List.length_append, List.length_take]
      simp
      omega
    · rw [if_neg hl] at q
      exact q.elim
  · rename_i ds
    by_cases hl : k ≤ ds.length
    · rw [if_pos hl] at q
      obtain ⟨I, Fr, Fw, s, r, wz, km⟩ := ok
      obtain ⟨a, vs, rfl, ha, dd⟩ := lst_items wz
      have hv := dd.len
      refine ⟨a, vs, rfl, .inl (SqL.of (s.sub _ _ ha)), by omega, fun p hp => ?_⟩
      refine d B σ _ ρ ws ts _ (starItems k ds) Q ?_ (by rw [len ds hl, hgn]) (Ok.star (t := .d .none) s r wz km dd hp) q
      rw [len ds hl, List.length_append, List.length_take]
      simp
      omega
    · rw [if_neg hl] at q
      exact q.elim
  · exact q.elim
end
end DL
end
section
set_option Elab.async false
set_option linter.all false
set_option maxRecDepth 100000
set_option maxHeartbeats 4000000
namespace DL
open PySem L2 PySem.Spec
abbrev zmH1 (h : Heap) (a : Addr) : Heap := h.push { cls := .type "tuple_iterator", data := .fields #[.ref a, .int 0 0] }
abbrev zmH2 (h : Heap) (a b : Addr) : Heap := (zmH1 h a).push { cls := .type "list_iterator", data := .fields #[.ref b, .int 0 0] }
abbrev zmH3 (h : Heap) (a b : Addr) : Heap := (zmH2 h a b).push { cls := .type "tuple", data := .seq #[.ref h.objs.size, .ref (zmH1 h a).objs.size] }
abbrev zmH4 (h : Heap) (a b : Addr) : Heap := (zmH3 h a b).push { cls := .type "tuple", data := .seq #[.none, .none] }
abbrev zmH5 (h : Heap) (a b : Addr) : Heap := (zmH4 h a b).push { cls := .type "zip", data := .fields #[.none, .bool false, .bool false, .ref (zmH2 h a b).objs.size, .ref (zmH3 h a b).objs.size] }
theorem zm_new (a b : Addr) (xs ys : Array Value) : Meets (Builtin.«zip.__new__» ⟨[.type "zip", .ref a, .ref b], []⟩)
    (fun _ R s => s.heap.IsTuple a xs ∧ s.heap.IsList b ys ∧ R (.ok (.ret (.ref (zmH4 s.heap a b).objs.size))) { s with heap := zmH5 s.heap a b }) :=
  .of_wp fun prog w A R s h => by
    obtain ⟨hp, g, d, tk, os⟩ := s
    obtain ⟨ha, hb, h⟩ := h
    have z0 := sub_zip
    have z1 : Heap.IsTuple (Shared.heap ⟨hp, g, d, tk, os⟩) a xs := ha
    have z2 : Heap.IsList (Shared.heap ⟨hp.push { cls := .type "tuple_iterator", data := .fields #[.ref a, .int 0 0] }, g, d, tk, os⟩) b ys := Heap.IsList.push hb _
    wp_walk using wpAny_pyIter_tuple z1, wpAny_pyIter_list z2
    exact ⟨_, rfl, h⟩
section
variable {prog : Program} {w : World} {A : Around} {E : Value → Shared → Prop} {s : Shared}
structure ZmAt (h : Heap) (n a b : Addr) : Prop where
  z : IsZip h (n + 4) (n + 2) (n + 3) .none
  ti : IsPair h (n + 2) (.ref n) (.ref (n + 1))
  to : IsPair h (n + 3) .none .none
  i1 : h.IsTupleIter n a 0
  i2 : h.IsListIter (n + 1) b 0
theorem call_zm {a b : Addr} {xs ys : Array Value} {Q : Value → Shared → Prop} (ha : s.heap.IsTuple a xs) (hb : s.heap.IsList b ys)
    (q : ∀ h, ZmAt h s.heap.objs.size a b → (∀ c o, s.heap.get? c = some o → h.get? c = some o) → Q (.ref (s.heap.objs.size + 4)) { s with heap := h }) : wpAny (model prog w) A (call (.type "zip") [.ref a, .ref b]) Q E s := by
  refine callType_new PySem.F.called_zip (by decide) (PySem.F.typeCall_zip_2 _ _) (PySem.F.newCall_zip_2 _ _) (fun obj => PySem.F.args_object_init_3 obj _ _) PySem.F.entry_zip_new (zm_new a b xs ys) ⟨ha, hb, ?_⟩
  have e1 : (zmH1 s.heap a).objs.size = s.heap.objs.size + 1 := Heap.size_push ..
  have e2 : (zmH2 s.heap a b).objs.size = s.heap.objs.size + 2 := by rw [Heap.size_push, e1]
  have e3 : (zmH3 s.heap a b).objs.size = s.heap.objs.size + 3 := by rw [Heap.size_push, e2]
  have e4 : (zmH4 s.heap a b).objs.size = s.heap.objs.size + 4 := by rw [Heap.size_push, e3]
  have up : ∀ c o, (zmH4 s.heap a b).get? c = some o → (zmH5 s.heap a b).get? c = some o := fun c o x => Heap.get?_push_of_some _ x
  have up3 : ∀ c o, (zmH3 s.heap a b).get? c = some o → (zmH5 s.heap a b).get? c = some o := fun c o x => up c o (Heap.get?_push_of_some _ x)
  have up2 : ∀ c o, (zmH2 s.heap a b).get? c = some o → (zmH5 s.heap a b).get? c = some o := fun c o x => up3 c o (Heap.get?_push_of_some _ x)
  have up1 : ∀ c o, (zmH1 s.heap a).get? c = some o → (zmH5 s.heap a b).get? c = some o := fun c o x => up2 c o (Heap.get?_push_of_some _ x)
  have k5 : (zmH5 s.heap a b).get? (zmH4 s.heap a b).objs.size = some _ := Heap.get?_push_size _ rfl
  have k4 := up _ _ (Heap.get?_push_size (zmH3 s.heap a b) (o := { cls := .type "tuple", data := .seq #[.none, .none] }) rfl)
  have k3 := up3 _ _ (Heap.get?_push_size (zmH2 s.heap a b) (o := { cls := .type "tuple", data := .seq #[.ref s.heap.objs.size, .ref (zmH1 s.heap a).objs.size] }) rfl)
  have k2 := up2 _ _ (Heap.get?_push_size (zmH1 s.heap a) (o := { cls := .type "list_iterator", data := .fields #[.ref b, .int 0 0] }) rfl)
  have k1 := up1 _ _ (Heap.get?_push_size s.heap (o := { cls := .type "tuple_iterator", data := .fields #[.ref a, .int 0 0] }) rfl)
  rw [e2, e3, e4] at k5
  rw [e3] at k4
  rw [e1, e2] at k3
  rw [e1] at k2
  show _ ∧ _
  rw [e4]
  exact ⟨⟨_, k5, rfl⟩, q _ ⟨k5, k3, k4, ⟨_, k1, rfl, rfl⟩, ⟨_, k2, rfl, rfl⟩⟩ fun c o x => up1 c o (Heap.get?_push_of_some _ x)⟩
end
def ItzM (K : PySem.W.Frag) (a b : Addr) : It where
  go := fun i H => ∃ xs ys x y, SqT K H a xs ∧ SqL K H b ys ∧ xs[i]? = some x ∧ ys[i]? = some y
  yld := fun i H v H' => ∃ p x y, v = .ref p ∧ H p = none ∧ H' = upd H p (.tup [x, y]) ∧ (∀ xs, SqT K H a xs → xs[i]? = some x) ∧ ∀ ys, SqL K H b ys → ys[i]? = some y
  stop := fun i H => ∃ xs ys, SqT K H a xs ∧ SqL K H b ys ∧ i ≤ xs.length ∧ i ≤ ys.length ∧ (i = xs.length ∨ i = ys.length)
theorem five {c z q1 q2 q3 q4 : Addr} (h : c ∈ [z, q1, q2, q3, q4]) : c = z ∨ c = q1 ∨ c = q2 ∨ c = q3 ∨ c = q4 := by simpa using h
structure Apart5 (z q1 q2 i1 i2 a b : Addr) : Prop where
  sep : ZipSep2 z q1 q2 i1 i2 [i1, a] [i2, b]
  na : a ≠ i1
  nb : b ≠ i2
theorem turn_zm {P : Program} {w : World} {K : PySem.W.Frag} {elts : List Expr} {kk : Nat} {tpos : Pos} {a b z q1 q2 i1 i2 : Addr} (D : Apart5 z q1 q2 i1 i2 a b) :
    Turn P w K (.Tuple elts kk tpos) (ItzM K a b) [z, q1, q2, i1, i2] z (fun i h => IsZip h z q1 q2 .none ∧ IsPair h q1 (.ref i1) (.ref i2) ∧ (∃ x y, IsPair h q2 x y) ∧ h.IsTupleIter i1 a i ∧ h.IsListIter i2 b i) := by
  have S := D.sep
  have nz1 : i1 ≠ z := fun e => S.zf1 (by rw [← e]; exact List.mem_cons_self)
  have nz2 : i2 ≠ z := fun e => S.zf2 (by rw [← e]; exact List.mem_cons_self)
  refine ⟨List.mem_cons_self, fun i h st c hc => ?_, fun i h h' st kp => ?_, ?_, ?_, fun A i s Q E st h => wpAny_pyIter_zip st.1 h⟩
  · obtain ⟨y1, y2, ⟨u, v, y3⟩, ⟨o1, y4, _, d1⟩, ⟨o2, y5, _, d2⟩⟩ := st
    rcases five hc with e | e | e | e | e <;> subst e
    · exact ⟨_, y1, fun v q => (nomatch q)⟩
    · exact ⟨_, y2, fun v q => (nomatch q)⟩
    · exact ⟨_, y3, fun v q => (nomatch q)⟩
    · exact ⟨o1, y4, fun v q => by rw [d1] at q; cases q⟩
    · exact ⟨o2, y5, fun v q => by rw [d2] at q; cases q⟩
  · obtain ⟨y1, y2, ⟨u, v, y3⟩, y4, y5⟩ := st
    exact ⟨kp _ (by simp) _ y1, kp _ (by simp) _ y2, ⟨u, v, kp _ (by simp) _ y3⟩, y4.at fun o q => kp _ (by simp) o q, y5.at fun o q => kp _ (by simp) o q⟩
  · intro X e1 e2 e3 hc i pins s σ H E I hf st hgo
    subst e1 e2 e3
    obtain ⟨y1, y2, ⟨u0, v0, y3⟩, y4, y5⟩ := st
    obtain ⟨xs, ys, x, y, hx, hy, gx, gy⟩ := hgo
    obtain ⟨as, ra, pa, _⟩ := I.tuple hx
    obtain ⟨bs, rb, pb, _⟩ := I.list hy
    obtain ⟨u, gu, ru⟩ := ra.get gx
    obtain ⟨v, gv, rv⟩ := rb.get gy
    have hh : X.A.in1.handled = none := I.ok.hd hc
    have la : i < as.toArray.size := by simpa using (List.getElem?_eq_some_iff.mp gu).1
    have lb : i < bs.toArray.size := by simpa using (List.getElem?_eq_some_iff.mp gv).1
    have zl : z < s.heap.objs.size := Heap.lt_size y1
    refine wpAny_pyNext_zipD2_item S (Draws.tuple hh i1 a D.na as.toArray) (Draws.list hh i2 b D.nb bs.toArray) y1 y2 y3 ⟨y4, pa⟩ ⟨y5, pb.isList⟩ la lb fun u' v' h' tk p1 p2 hz ho s1 s2 hT hsz kp => ?_
    have eu : u' = u := by
      have z : as.toArray[i]? = some u := by simpa using gu
      exact Option.some.inj (p1.symm.trans z)
    have ev : v' = v := by
      have z : bs.toArray[i]? = some v := by simpa using gv
      exact Option.some.inj (p2.symm.trans z)
    subst eu ev
    refine ⟨_, rfl, wpAny_letOwnedTupleGo_zip (s := { s with heap := h', toks := tk }) hz fun h2 hz2 sb => ?_⟩
    have nT : s.heap.objs.size ≠ z := Nat.ne_of_gt zl
    have oT : h2.get? s.heap.objs.size = some { cls := .type "tuple", data := .seq #[u', v'] } := (sb.2 _ nT).trans hT
    have kept : ∀ c o, c ∉ [z, q1, q2, i1, i2] → s.heap.get? c = some o → h2.get? c = some o := fun c o nm g => by
      simp only [List.mem_cons, List.not_mem_nil, or_false, not_or] at nm
      exact (sb.2 c nm.1).trans (kp c o nm.1 nm.2.2.1 nm.2.2.2.1 nm.2.2.2.2 g)
    have I1 : Inv X pins σ (upd H s.heap.objs.size (.tup [x, y])) { s with heap := h2, toks := tk } := I.turnedNew (t' := tk) kept hf (Nat.le_refl _) ⟨by show 2 ≤ sizeLine; decide, [u', v'], .cons ru (.cons rv .nil), ⟨_, oT, rfl, _, rfl⟩⟩
    refine ⟨.ref s.heap.objs.size, _, I1, rfl, ⟨_, x, y, rfl, I.hok.fresh (Nat.le_refl _), rfl, fun l hl => by rw [I.tuple_inj hl hx]; exact gx, fun l hl => by rw [I.list_inj hl hy]; exact gy⟩, ⟨hz2, ?_, ⟨u', v', (sb.2 _ S.TOz).trans ho⟩, s1.1.at fun o q => (sb.2 _ nz1).trans q, s2.1.at fun o q => (sb.2 _ nz2).trans q⟩, fun c hc => ?_⟩
    · exact (sb.2 _ S.TIz).trans (kp _ _ S.TIz S.TITO S.TIi1 S.TIi2 y2)
    · have lt : c < s.heap.objs.size := by
        obtain ⟨o1, y4, _⟩ := y4
        obtain ⟨o2, y5, _⟩ := y5
        rcases five hc with e | e | e | e | e <;> rw [e]
        · exact zl
        · exact Heap.lt_size y2
        · exact Heap.lt_size y3
        · exact Heap.lt_size y4
        · exact Heap.lt_size y5
      rw [upd_ne (Nat.ne_of_lt lt)]
      exact (hf c hc).1
  · intro X e1 e2 e3 hc i pins s σ H E I hf st hst
    subst e1 e2 e3
    obtain ⟨y1, y2, ⟨u0, v0, y3⟩, y4, y5⟩ := st
    obtain ⟨xs, ys, hx, hy, l1, l2, l3⟩ := hst
    obtain ⟨as, ra, pa, _⟩ := I.tuple hx
    obtain ⟨bs, rb, pb, _⟩ := I.list hy
    have hh : X.A.in1.handled = none := I.ok.hd hc
    have m1 := ra.length
    have m2 := rb.length
    refine wpAny_pyNext_zipD2_end S (Draws.tuple hh i1 a D.na as.toArray) (Draws.list hh i2 b D.nb bs.toArray) y1 y2 y3 ⟨y4, pa⟩ ⟨y5, pb.isList⟩ (by simp only [List.size_toArray]; omega) (by simp only [List.size_toArray]; omega) (by simp only [List.size_toArray]; omega) fun h' tk kp => ⟨rfl, ?_⟩
    exact I.turnedL (t' := tk) (fun c o nm g => by
      simp only [List.mem_cons, List.not_mem_nil, or_false, not_or] at nm
      exact kp c o nm.1 nm.2.2.1 nm.2.2.2.1 nm.2.2.2.2 g) hf
theorem nin {x a b : Addr} (h1 : x ≠ a) (h2 : x ≠ b) : x ∉ [a, b] := by simp [h1, h2]
theorem add_ne {n i j : Nat} (h : i ≠ j) : n + i ≠ n + j := fun e => h (Nat.add_left_cancel e)
theorem add_ne0 {n i : Nat} (h : i ≠ 0) : n + i ≠ n := fun e => h (Nat.add_left_cancel (show n + i = n + 0 from e))
theorem above_ne {n a i : Nat} (h : a < n) : n + i ≠ a := Nat.ne_of_gt (Nat.lt_of_lt_of_le h (Nat.le_add_right n i))
theorem apart5 {n a b : Nat} (la : a < n) (lb : b < n) : Apart5 (n + 4) (n + 2) (n + 3) n (n + 1) a b :=
  ⟨⟨add_ne (by decide), add_ne (by decide), add_ne (by decide), add_ne0 (by decide), List.mem_cons_self, nin (add_ne0 (by decide)) (above_ne la), nin (add_ne0 (by decide)) (above_ne la), add_ne (by decide), List.mem_cons_self,
    nin (add_ne (by decide)) (above_ne lb), nin (add_ne (by decide)) (above_ne lb), nin (fun e => add_ne0 (n := n) (i := 1) (by decide) e.symm) (above_ne (i := 0) lb), nin (add_ne0 (by decide)) (above_ne la)⟩, Nat.ne_of_lt la, fun e => above_ne lb e.symm⟩
def iZipM (K : PySem.W.Frag) (ta : TA) : TI := fun σ H R => ta σ H fun vs H1 => ∃ a b xs ys, vs = [.ref a, .ref b] ∧ SqT K H1 a xs ∧ SqL K H1 b ys ∧ R (ItzM K a b) H1
theorem pi_zipM {X : Cx} {e e2 : Expr} {ta : TA} {p pos tpos : Pos} {elts : List Expr} {kk : Nat} (hg : Gl X "zip") (hm : X.mg "zip" = none) (ha : PA X [e, e2] ta)
    (hs : starEach [e, e2] X.env = (false, eval e X.env) :: starEach [e2] X.env := by rfl) (hpl : (backTo pos (starEach [e2] X.env)).any (·.1) = false := by rfl) : PI X (.Tuple elts kk tpos) (.Call (.Name "zip" p) [e, e2] [] pos) (iZipM X.K ta) := by
  refine ⟨fun pins s σ H R I h => PyProof.Rows.Call_ (ld_blt I hg hm PyProof.Rows.boot_zip (PyProof.Rows.callWith_type1 (thn (ha.run pos pins s σ H _ I h) fun us t z => ?_) hs hpl))⟩
  obtain ⟨vs, H1, I1, r1, a, b, xs, ys, rfl, hx, hy, q⟩ := z
  obtain ⟨u, v, rfl, ru, rv⟩ := r1.two
  cases ru
  cases rv
  obtain ⟨as, ra, pa, _⟩ := I1.tuple hx
  obtain ⟨bs, rb, pb, _⟩ := I1.list hy
  obtain ⟨o1, ho1, _⟩ := id pa
  have la : a < t.heap.objs.size := Heap.lt_size ho1
  have lb : b < t.heap.objs.size := pb.lt
  refine call_zm (show t.heap.IsTuple a as.toArray from pa) pb.isList fun h' hz kp => wpAny_pyIter_zip hz.z ?_
  have I2 : Inv X pins σ H1 { t with heap := h' } := I1.kept (t' := t.toks) kp
  have ap : Apart5 (t.heap.objs.size + 4) (t.heap.objs.size + 2) (t.heap.objs.size + 3) t.heap.objs.size (t.heap.objs.size + 1) a b := by
    exact apart5 la lb
  refine ⟨t.heap.objs.size + 4, [t.heap.objs.size + 4, t.heap.objs.size + 2, t.heap.objs.size + 3, t.heap.objs.size, t.heap.objs.size + 1], _, _, H1, rfl, I2, turn_zm ap, ⟨hz.z, hz.ti, ⟨_, _, hz.to⟩, hz.i1, hz.i2⟩, fun c hc => ?_, q⟩
  have le : t.heap.objs.size ≤ c := by rcases five hc with e | e | e | e | e <;> rw [e] <;> first | exact Nat.le_refl _ | exact Nat.le_add_right _ _
  exact I1.fpOk le (I1.hok.fresh le)
def pairsD : List PyData → List PyData → List PyData
  | a :: as, b :: bs => .tuple [a, b] :: pairsD as bs
  | _, _ => []
theorem pairsD_len : ∀ as bs : List PyData, (pairsD as bs).length = min as.length bs.length
  | [], bs => by simp [pairsD]
  | _ :: _, [] => by simp [pairsD]
  | a :: as, b :: bs => by simp [pairsD, pairsD_len as bs]
theorem pairsD_get : ∀ (as bs : List PyData) (i : Nat) (d : PyData), (pairsD as bs)[i]? = some d → ∃ a b, as[i]? = some a ∧ bs[i]? = some b ∧ d = .tuple [a, b]
  | [], bs, i, d, h => by simp [pairsD] at h
  | _ :: _, [], i, d, h => by simp [pairsD] at h
  | a :: as, b :: bs, 0, d, h => by
    simp [pairsD] at h
    exact ⟨a, b, rfl, rfl, h.symm⟩
  | a :: as, b :: bs, i + 1, d, h => by
    obtain ⟨x, y, h1, h2, h3⟩ := pairsD_get as bs i d (by simpa [pairsD] using h)
    exact ⟨x, y, by simpa using h1, by simpa using h2, h3⟩
def zipItems : List T → Option (List PyData)
  | [.d (.list as), .d (.list bs)] => some (pairsD as bs)
  | [.d (.tuple as), .d (.tuple bs)] => some (pairsD as bs)
  | [.d (.tuple as), .d (.list bs)] => some (pairsD as bs)
  | _ => none
def dzip (fs : M (List T)) : M (List PyData) := mbind fs fun ts => mopt (zipItems ts)
section
variable {K : PySem.W.Frag}
theorem Ok.pairUp {m : List Bool} {B : Bs} {σ : L2.St} {H : Hp} {ρ : Rho} {ws : List V} {ts : List T} {x y : V} {da db : PyData} {I : Hp} {Fr Fw : List Addr} {p : Addr}
    (s : Sit B I H (Fr ++ Fw)) (r : RepR K I H σ ρ Fr) (w : RepTs K I H ws ts Fw) (km : Kept m B σ) (ha : Dr K I x da) (hb : Dr K I y db) (hp : H p = none) : Ok K m B σ (upd H p (.tup [x, y])) ρ (.ref p :: ws) (.d (.tuple [da, db]) :: ts) := by
  have hI := (s.fresh hp).2.1
  have sm : Same I (upd I p (.tup [x, y])) := fun a u e => by rw [upd_ne (ne_of_none e hI)]; exact e
  have nf : ∀ a ∈ Fr ++ Fw, (upd H p (.tup [x, y])) a = H a := fun a z => upd_ne (show a ≠ p from fun e => s.thr a z (by rw [e]; exact hp))
  exact ⟨_, Fr, Fw, s.newD hp, r.mono sm fun a z => nf a (List.mem_append_left _ z), .cons (F := []) (.d (.tup (SqT.of upd_same) (.cons (dr_mono sm ha) (.cons (dr_mono sm hb) .nil)))) (w.mono sm fun a z => nf a (List.mem_append_right _ z)), km⟩
theorem zip_two {I H : Hp} {x y : V} {da db : PyData} {ws : List V} {ts : List T} {F : List Addr} (w : RepTs K I H (x :: y :: ws) (.d da :: .d db :: ts) F) : Dr K I x da ∧ Dr K I y db := by
  cases w with
  | cons a w =>
    cases a with
    | d a =>
      cases w with
      | cons b w =>
        cases b with
        | d b => exact ⟨a, b⟩
theorem walk_zll {a b : Addr} {as bs : List PyData} : JWalk K (Itz K a b) [.ref a, .ref b] [.d (.list as), .d (.list bs)] (pairsD as bs) := fun m B σ H ρ ws ts i ok => by
  obtain ⟨I, Fr, Fw, s, r, wz, km⟩ := id ok
  obtain ⟨d1, d2⟩ := zip_two (ws := ws) (ts := ts) wz
  cases d1 with
  | lst h1 q1 =>
    cases d2 with
    | lst h2 q2 =>
      rename_i xs ys
      have g1 := s.sub _ _ h1
      have g2 := s.sub _ _ h2
      refine ⟨fun hi => ⟨xs, ys, SqL.of g1, SqL.of g2, by rw [q1.len, q2.len]; rw [pairsD_len] at hi; omega⟩, fun d hd => ?_⟩
      obtain ⟨da, db, e1, e2, rfl⟩ := pairsD_get as bs i d hd
      obtain ⟨x, hx, rx⟩ := q1.get' e1
      obtain ⟨y, hy, ry⟩ := q2.get' e2
      refine ⟨⟨xs, ys, x, y, SqL.of g1, SqL.of g2, hx, hy⟩, fun v H' yl => ?_⟩
      obtain ⟨p, x', y', rfl, hp, rfl, f1, f2⟩ := yl
      have e3 := (f1 xs (SqL.of g1)).symm.trans hx
      have e4 := (f2 ys (SqL.of g2)).symm.trans hy
      cases e3
      cases e4
      exact Ok.pairUp s r wz km rx ry hp
theorem walk_ztt {a b : Addr} {as bs : List PyData} : JWalk K (RZ.ItzT K a b) [.ref a, .ref b] [.d (.tuple as), .d (.tuple bs)] (pairsD as bs) := fun m B σ H ρ ws ts i ok => by
  obtain ⟨I, Fr, Fw, s, r, wz, km⟩ := id ok
  obtain ⟨d1, d2⟩ := zip_two (ws := ws) (ts := ts) wz
  cases d1 with
  | tup h1 q1 =>
    cases d2 with
    | tup h2 q2 =>
      rename_i xs ys
      have g1 := st_mono s.sub h1
      have g2 := st_mono s.sub h2
      refine ⟨fun hi => ⟨xs, ys, g1, g2, by rw [q1.len, q2.len]; rw [pairsD_len] at hi; omega⟩, fun d hd => ?_⟩
      obtain ⟨da, db, e1, e2, rfl⟩ := pairsD_get as bs i d hd
      obtain ⟨x, hx, rx⟩ := q1.get' e1
      obtain ⟨y, hy, ry⟩ := q2.get' e2
      refine ⟨⟨xs, ys, x, y, g1, g2, hx, hy⟩, fun v H' yl => ?_⟩
      obtain ⟨p, x', y', rfl, hp, rfl, f1, f2⟩ := yl
      have e3 := (f1 xs g1).symm.trans hx
      have e4 := (f2 ys g2).symm.trans hy
      cases e3
      cases e4
      exact Ok.pairUp s r wz km rx ry hp
theorem walk_ztl {a b : Addr} {as bs : List PyData} : JWalk K (ItzM K a b) [.ref a, .ref b] [.d (.tuple as), .d (.list bs)] (pairsD as bs) := fun m B σ H ρ ws ts i ok => by
  obtain ⟨I, Fr, Fw, s, r, wz, km⟩ := id ok
  obtain ⟨d1, d2⟩ := zip_two (ws := ws) (ts := ts) wz
  cases d1 with
  | tup h1 q1 =>
    cases d2 with
    | lst h2 q2 =>
      rename_i xs ys
      have g1 := st_mono s.sub h1
      have g2 := s.sub _ _ h2
      refine ⟨fun hi => ⟨xs, ys, g1, SqL.of g2, by rw [q1.len]; rw [pairsD_len] at hi; omega, by rw [q2.len]; rw [pairsD_len] at hi; omega, by rw [q1.len, q2.len]; rw [pairsD_len] at hi; omega⟩, fun d hd => ?_⟩
      obtain ⟨da, db, e1, e2, rfl⟩ := pairsD_get as bs i d hd
      obtain ⟨x, hx, rx⟩ := q1.get' e1
      obtain ⟨y, hy, ry⟩ := q2.get' e2
      refine ⟨⟨xs, ys, x, y, g1, SqL.of g2, hx, hy⟩, fun v H' yl => ?_⟩
      obtain ⟨p, x', y', rfl, hp, rfl, f1, f2⟩ := yl
      have e3 := (f1 xs g1).symm.trans hx
      have e4 := (f2 ys (SqL.of g2)).symm.trans hy
      cases e3
      cases e4
      exact Ok.pairUp s r wz km rx ry hp
end
section
variable {X : Cx} {w : Wd} {e e2 : Expr} {elts : List Expr} {kk : Nat} {p pos tpos : Pos} {os : List (Option Nat)} {fs : M (List T)}
theorem di_zip (hm : NoG X "zip") (ha : DA X w [e, e2] os fs) (hg : Gl X "zip" := by rfl) (hs : starEach [e, e2] X.env = (false, eval e X.env) :: starEach [e2] X.env := by rfl) (hpl : (backTo pos (starEach [e2] X.env)).any (·.1) = false := by rfl) :
    DI X w (.Tuple elts kk tpos) (.Call (.Name "zip" p) [e, e2] [] pos) (dzip fs) := by
  obtain ⟨t, pt, dt⟩ := ha.ex
  refine ⟨_, PI.or (RZ.pi_zipA hg hm pt hs hpl) (pi_zipM hg hm pt hs hpl), fun B σ H ρ ws ts R ok q => ?_⟩
  have q := q.bind
  cases e1 : fs ρ with
  | no => rw [e1] at q; exact q.elim
  | ex er ρ1 => rw [e1] at q; exact .inl (dt B σ H ρ ws ts _ ok (by rw [e1]; exact q))
  | ok vs ρ1 =>
    rw [e1] at q
    obtain ⟨ds, e2, q2⟩ := (show PostG X.K w B (mopt (zipItems vs) ρ1) _ from q).opt
    unfold zipItems at e2
    split at e2
    · cases e2
      refine .inl (dt B σ H ρ ws ts _ ok ?_)
      rw [e1]
      intro xs H1 hl ok1 _
      obtain ⟨x, y, rfl⟩ := two_of hl
      obtain ⟨a, us, rfl, ha, _⟩ := Ok.topList (ws := y :: ws) (ts := _ :: ts) ok1
      obtain ⟨b, zs, rfl, hb, _⟩ := Ok.topList (Ok.pop (ws := y :: ws) (ts := _ :: ts) ok1)
      exact ⟨a, b, us, zs, rfl, .inl ⟨SqL.of ha, SqL.of hb, q2 _ H1 [.ref a, .ref b] [.d (.list _), .d (.list _)] rfl ok1 walk_zll⟩⟩
    · cases e2
      refine .inl (dt B σ H ρ ws ts _ ok ?_)
      rw [e1]
      intro xs H1 hl ok1 _
      obtain ⟨x, y, rfl⟩ := two_of hl
      obtain ⟨a, us, rfl, ha, _⟩ := Ok.topTup (ws := y :: ws) (ts := _ :: ts) ok1
      obtain ⟨b, zs, rfl, hb, _⟩ := Ok.topTup (Ok.pop (ws := y :: ws) (ts := _ :: ts) ok1)
      exact ⟨a, b, us, zs, rfl, .inr ⟨ha, hb, q2 _ H1 [.ref a, .ref b] [.d (.tuple _), .d (.tuple _)] rfl ok1 walk_ztt⟩⟩
    · cases e2
      refine .inr (dt B σ H ρ ws ts _ ok ?_)
      rw [e1]
      intro xs H1 hl ok1 _
      obtain ⟨x, y, rfl⟩ := two_of hl
      obtain ⟨a, us, rfl, ha, _⟩ := Ok.topTup (ws := y :: ws) (ts := _ :: ts) ok1
      obtain ⟨b, zs, rfl, hb, _⟩ := Ok.topList (Ok.pop (ws := y :: ws) (ts := _ :: ts) ok1)
      exact ⟨a, b, us, zs, rfl, ha, SqL.of hb, q2 _ H1 [.ref a, .ref b] [.d (.tuple _), .d (.list _)] rfl ok1 walk_ztl⟩
    · cases e2
end
end DL
end
section
set_option Elab.async false
set_option linter.all false
set_option maxRecDepth 100000
set_option maxHeartbeats 4000000
namespace DL
open PySem L2
def tputK (kvs : List (Key × T)) (k : Key) (v : T) : List (Key × T) := if (kvs.any fun kv => decide (kv.1 = k)) = true then kvs.map (fun kv => if kv.1 = k then (kv.1, v) else kv) else kvs ++ [(k, v)]
section
variable {K : PySem.W.Frag} {m : List Bool} {B : Bs} {σ : St} {H : Hp} {ρ : Rho} {ws : List V} {ts : List T} {x y v : V} {t u : T}
theorem put_keys {κ α β : Type} [DecidableEq κ] (k : κ) : ∀ {vs : List (κ × α)} {kvs : List (κ × β)}, vs.map (·.1) = kvs.map (·.1) → (vs.any fun kv => decide (kv.1 = k)) = (kvs.any fun kv => decide (kv.1 = k))
  | [], [], _ => rfl
  | [], _ :: _, e => nomatch e
  | _ :: _, [], e => nomatch e
  | a :: vs, b :: kvs, e => by
    rw [List.map_cons, List.map_cons] at e
    obtain ⟨e1, e2⟩ := List.cons.inj e
    rw [List.any_cons, List.any_cons, put_keys k e2, e1]
theorem put_rep {I : Hp} {k : Key} {v : V} {d : PyData} (hd : Dr K I v d) : ∀ {vs : List (Key × V)} {kvs : List (Key × T)} {F : List Addr}, vs.map (·.1) = kvs.map (·.1) → RepTs K I H (vs.map (·.2)) (kvs.map (·.2)) F →
    ∃ G, RepTs K I H ((vs.map fun kv => if kv.1 = k then (kv.1, v) else kv).map (·.2)) ((kvs.map fun kv => if kv.1 = k then (kv.1, T.d d) else kv).map (·.2)) G ∧ List.Sublist G F ∧
      (vs.map fun kv => if kv.1 = k then (kv.1, v) else kv).map (·.1) = (kvs.map fun kv => if kv.1 = k then (kv.1, T.d d) else kv).map (·.1)
  | [], [], _, _, .nil => ⟨[], .nil, List.Sublist.refl _, rfl⟩
  | [], _ :: _, _, e, _ => nomatch e
  | _ :: _, [], _, e, _ => nomatch e
  | (a, v0) :: vs, (b, t) :: kvs, F, e, r => by
    rw [List.map_cons, List.map_cons] at e
    obtain ⟨e1, e2⟩ := List.cons.inj e
    have e1 : a = b := e1
    subst e1
    cases r with
    | cons r1 r2 =>
      rename_i F1 F2
      obtain ⟨G, g1, g2, g3⟩ := put_rep hd e2 r2
      by_cases q : a = k
      · refine ⟨G, ?_, g2.trans (List.sublist_append_right _ _), ?_⟩
        · simp only [List.map_cons, q, if_true]
          exact .cons (F := []) (.d hd) g1
        · simp only [List.map_cons, q, if_true]
          exact congrArg _ g3
      · refine ⟨F1 ++ G, ?_, List.Sublist.append (List.Sublist.refl _) g2, ?_⟩
        · simp only [List.map_cons, q, if_false]
          exact .cons r1 g1
        · simp only [List.map_cons, q, if_false]
          exact congrArg _ g3
theorem Ok.dctPut {kvs : List (Key × T)} {k : Key} {d : PyData} (h : Ok K m B σ H ρ (x :: v :: ws) (.dct kvs :: .d d :: ts)) : ∃ a vs, x = .ref a ∧ H a = some (.dK vs) ∧ vs.length = kvs.length ∧ Ok K m B σ (upd H a (.dK (putK vs k v))) ρ (.ref a :: ws) (.dct (tputK kvs k (.d d)) :: ts) := by
  obtain ⟨I, Fr, Fw, s, r, w, km⟩ := h
  cases w with
  | cons a b =>
    rename_i F1 F2
    cases a with
    | dct hp k1 k2 k3 it =>
      rename_i p vs us xs F
      subst k2 k3
      cases b with
      | cons c e =>
        rename_i F3 F4
        cases c with
        | d c =>
          refine ⟨p, vs, rfl, hp, by have := congrArg List.length k1; simpa using this, ?_⟩
          have mem : p ∈ Fr ++ (p :: F ++ ([] ++ F4)) := by simp
          have nd := s.nd
          have other : ∀ q ∈ Fr ++ (F ++ F4), q ≠ p := fun q z e => by
            subst e
            have : List.Perm (Fr ++ (q :: F ++ ([] ++ F4))) (q :: (Fr ++ (F ++ F4))) := by
              rw [List.nil_append]
              exact List.perm_middle
            exact (List.nodup_cons.mp (this.nodup_iff.mp nd)).1 z
          have fx : ∀ q ∈ Fr ++ (F ++ F4), (upd H p (.dK (putK vs k v))) q = H q := fun q z => upd_ne (other q z)
          have it' := it.mono (H' := upd H p (.dK (putK vs k v))) (Same.refl _) fun q z => fx q (by simp [z])
          have e' := e.mono (H' := upd H p (.dK (putK vs k v))) (Same.refl _) fun q z => fx q (by simp [z])
          have r' := r.mono (H' := upd H p (.dK (putK vs k v))) (Same.refl _) fun q z => fx q (by simp [z])
          have sw := s.write (o := .dK (putK vs k v)) mem
          have key := put_keys k k1
          unfold tputK
          unfold putK at it' e' r' sw ⊢
          by_cases q : (kvs.any fun kv => decide (kv.1 = k)) = true
          · rw [if_pos q]
            rw [key, if_pos q] at it' e' r' sw ⊢
            obtain ⟨G, g1, g2, g3⟩ := put_rep (k := k) c k1 it'
            refine ⟨I, Fr, (p :: G) ++ F4, sw.less (fun a z => ?_) ?_, r', .cons (.dct upd_same g3 rfl rfl g1) e', km⟩
            · rcases List.mem_append.mp z with z | z
              · exact List.mem_append_left _ z
              · refine List.mem_append_right _ ?_
                rcases List.mem_append.mp z with z | z
                · refine List.mem_append_left _ ?_
                  rcases List.mem_cons.mp z with z | z
                  · exact z ▸ List.mem_cons_self
                  · exact List.mem_cons_of_mem _ (g2.mem z)
                · exact List.mem_append_right _ (by simpa using z)
            · refine List.Sublist.nodup ?_ nd
              refine List.Sublist.append (List.Sublist.refl _) ?_
              rw [List.nil_append]
              exact List.Sublist.append (List.Sublist.cons₂ _ g2) (List.Sublist.refl _)
          · rw [if_neg q]
            rw [key, if_neg q] at it' e' r' sw ⊢
            have g1 : RepTs K I (upd H p (.dK (vs ++ [(k, v)]))) ((vs ++ [(k, v)]).map (·.2)) ((kvs ++ [(k, T.d d)]).map (·.2)) F := by
              obtain ⟨E, z1, z2⟩ := RepTs.append it' (RepTs.cons (F := []) (.d c) .nil)
              rw [List.append_nil, List.append_nil] at z2
              subst z2
              rw [List.map_append, List.map_append]
              exact z1
            refine ⟨I, Fr, (p :: F) ++ F4, sw.perm (by simp), r', .cons (.dct upd_same (by rw [List.map_append, List.map_append, k1]; rfl) rfl rfl g1) e', km⟩
end
section
variable {X : Cx} {w : Wd} {x : Str} {p pos : Pos} {e e1 e2 : Expr} {fk fd f1 f2 : M T}
end
structure FnTab (P : Program) (w : World) (K : PySem.W.Frag) (mg : Str → Option Value) (base : Heap) (k n : Nat) (tab : Str → Option Fn) : Prop where
  ex : ∀ z a g, tab z = some g → PySem.W.nsIn K mainGlobals z = some (some (.ref a)) → ∃ fd ps ds, FnGd P w K mg base k a fd ps ds (FnD K mg n g) ∧ PySem.W.keepIn K (.ref a) = true ∧ Binds K fd ps ds
def tabCons (x : Str) (g : Fn) (tab : Str → Option Fn) : Str → Option Fn := fun z => if z = x then some g else tab z
section
variable {P : Program} {w : World} {K : PySem.W.Frag} {mg : Str → Option Value} {base : Heap} {k j n : Nat} {tab : Str → Option Fn} {x : Str} {g : Fn}
theorem FnTab.nil : FnTab P w K mg base k n (fun _ => none) := ⟨fun z a g h _ => (nomatch h)⟩
theorem FnTab.cons (gl : ∀ z a, PySem.W.nsIn K mainGlobals z = some (some (.ref a)) → mg z = some (.ref a)) (D : Def P w K mg base x j n g) (T0 : FnTab P w K mg base k n tab) (hj : j ≤ k := by decide) : FnTab P w K mg base k n (tabCons x g tab) := by
  refine ⟨fun z a g' h hn => ?_⟩
  unfold tabCons at h
  by_cases q : z = x
  · rw [if_pos q] at h
    cases h
    subst q
    obtain ⟨f, fd, ps, ds, F, hm, kp, b⟩ := D.ex
    have e := (gl _ _ hn).symm.trans hm
    cases e
    exact ⟨fd, ps, ds, F.up hj, kp, b⟩
  · rw [if_neg q] at h
    exact T0.ex z a g' h hn
end
section
variable {X : Cx} {w : Wd} {x : Str} {p pos : Pos} {e : Expr} {es : List Expr} {os : List (Option Nat)} {fs : M (List T)} {k n : Nat} {tab : Str → Option Fn}
def dcallS (i : Nat) (tab : Str → Option Fn) (os : List (Option Nat)) (fs : M (List T)) : M T := fun ρ => match ρ[i]? with
  | some (some (.fn a)) => (match tab a with
    | some g => dcall g os fs ρ
    | none => .no)
  | _ => .no
theorem de_callS {k' : Nat} (i : Nat) (D : FnTab X.prog X.w X.K X.mg X.base k n tab) (at_ : At X w k') (ha : DA X w (e :: es) os fs) (hk : k ≤ k' := by decide) (hn : (e :: es).length = n := by rfl)
    (hN : X.N[i]? = some x := by rfl) (hv : Vis X.env.scope x := by first | exact Or.inl rfl | exact Or.inr (Or.inl rfl) | exact Or.inr (Or.inr rfl)) (hd : (x == ("__debug__" : Str)) = false := by decide) (hcd : (x == ("__classdict__" : Str)) = false := by decide)
    (st : starEach (e :: es) X.env = (false, eval e X.env) :: starEach es X.env := by rfl) (pl : (backTo pos (starEach es X.env)).any (·.1) = false := by rfl) : DE X w (.Call (.Name x p) (e :: es) [] pos) (dcallS i tab os fs) := by
  obtain ⟨t, pt, dt⟩ := ha.ex
  refine de_v (t := fun σ H Q => ∃ f z g, σ[i]? = some (some (.ref f)) ∧ tab z = some g ∧ PySem.W.nsIn X.K mainGlobals z = some (some (.ref f)) ∧ tCallG (FnD X.K X.mg n g) w.W [] t σ H Q) ⟨fun pins s σ H Q I h => ?_⟩ fun B σ H ρ ws ts Q ok q => ?_
  · obtain ⟨f, z, g, hs, hf, hz, ht⟩ := h
    obtain ⟨fd, ps, ds, F, kp, b⟩ := D.ex z f g hf hz
    refine wpAny_Call_Name_kw (thn ((pe_var (pos := p) hN hv hd hcd).run pins s σ H (fun v H1 => v = .ref f ∧ H1 = H) I ⟨.ref f, hs, rfl, rfl⟩) fun u s1 z => ?_)
    obtain ⟨v, H1, I1, r1, rfl, rfl⟩ := z
    cases r1
    refine PySem.W.callWith_K (h₀ := X.base) I.ok.mod.kin kp (thn (pt.run pos pins s1 σ _ _ I1 ht) fun us s2 z => ?_) st pl
    obtain ⟨vs, H2, I2, r2, q2⟩ := z
    rw [List.append_nil] at q2
    exact ⟨I2.kIn, goGd F at_.g (at_.r.mono hk) b at_.tk I2 r2 q2⟩
  · unfold dcallS at q
    cases e0 : ρ[i]? with
    | none => rw [e0] at q; exact q.elim
    | some o =>
      cases o with
      | none => rw [e0] at q; exact q.elim
      | some u =>
        cases u with
        | fn a =>
          rw [e0] at q
          simp only at q
          cases e1 : tab a with
          | none => rw [e1] at q; exact q.elim
          | some g =>
            rw [e1] at q
            obtain ⟨b, h1, hb, _⟩ := ok.readFn e0
            exact ⟨b, a, g, h1, e1, hb, den_call at_.cl (fun vs ρ ρ' e => (ha.len vs ρ ρ' e).trans hn) dt B σ H ρ ws ts Q ok q⟩
        | _ => rw [e0] at q; exact q.elim
end
end DL
end
section
set_option Elab.async false
set_option linter.all false
set_option maxRecDepth 100000
set_option maxHeartbeats 4000000
namespace DL
open PySem L2 PySem.Spec
section
variable {prog : Program} {w : World} {A : Around} {E : Value → Shared → Prop} {s : Shared} {t sl : Addr} {its : Array Value}
end
section
variable {X : Cx} {w : Wd} {a : Expr} {fa : M T} {pos p1 p2 p3 : Pos} {k : Nat}
end
def pLe2 : PyData → PyData → Option PyData
  | .int i, .int j => some (.bool (decide (i ≤ j)))
  | .str a, .str b => some (.bool (leS a b))
  | _, _ => none
def rLe2 : R2 := fun x y H Q => (rI0 fun i j => .bl (decide (i ≤ j))) x y H Q ∨ ∃ i j, x = .str i ∧ y = .str j ∧ Q (.bl (!decide (j.cps.toList < i.cps.toList))) H
theorem op_le2 {X : Cx} : OpR X (compareOp .LtE) rLe2 := OpR.or op_le op_le_str
theorem od_le2 {K : PySem.W.Frag} {m : List Bool} : OpD K m rLe2 (onD pLe2) := OpD.ofD fun B σ H ρ ws ts x y t u v Q ok e q => by
  unfold pLe2 at e
  split at e
  · cases e
    have hy := ok.topInt
    have hx := ok.pop.topInt
    subst hx hy
    exact .inl ⟨_, _, rfl, rfl, q _ _ ok.pop.pop.bl⟩
  · cases e
    have hy := ok.topStr
    have hx := ok.pop.topStr
    subst hx hy
    exact .inr ⟨_, _, rfl, rfl, q _ _ ok.pop.pop.bl⟩
  · cases e
theorem bt_len : bootBuiltins "len" = some (.builtin "len") := by decide +kernel
theorem bt_isinstance : bootBuiltins "isinstance" = some (.builtin "isinstance") := by decide +kernel
theorem bt_min : bootBuiltins "min" = some (.builtin "min") := by decide +kernel
theorem bt_max : bootBuiltins "max" = some (.builtin "max") := by decide +kernel
theorem bt_repr : bootBuiltins "repr" = some (.builtin "repr") := by decide +kernel
theorem bt_sorted : bootBuiltins "sorted" = some (.builtin "sorted") := by decide +kernel
theorem bt_all : bootBuiltins "all" = some (.builtin "all") := by decide +kernel
theorem bt_sum : bootBuiltins "sum" = some (.builtin "sum") := by decide +kernel
theorem bt_int : bootBuiltins "int" = some (.type "int") := by decide +kernel
theorem bt_bool : bootBuiltins "bool" = some (.type "bool") := by decide +kernel
theorem bt_str : bootBuiltins "str" = some (.type "str") := by decide +kernel
theorem bt_list : bootBuiltins "list" = some (.type "list") := by decide +kernel
theorem bt_tuple : bootBuiltins "tuple" = some (.type "tuple") := by decide +kernel
end DL
end
section
set_option Elab.async false
set_option linter.all false
set_option maxRecDepth 100000
set_option maxHeartbeats 4000000
namespace DL
open PySem L2
structure HasFn (K : PySem.W.Frag) (x : Str) (st : Stmt) : Prop where
  ex : ∃ f fd, PySem.W.nsIn K mainGlobals x = some (some (.ref f)) ∧ Fun K x x st f fd
theorem HasFn.by_ {K : PySem.W.Frag} {x : Str} {st : Stmt} {f : Addr} {oc : Value} {od an : Option Addr} {osl : Array (Option Value)} {kV doc pm cdv ct : Value} (a : PySem.W.nsIn K mainGlobals x = some (some (.ref f)))
    (l : K.lookup f = some ⟨oc, od, .func (PySem.W.fnOf x x (defArgs st) (defBody st) (defScope st) .none kV doc pm an cdv ct), osl⟩) (c : PySem.W.codeIn K cdv x = true) (k : PySem.W.keepIn K (.ref f) = true) : HasFn K x st := ⟨f, _, a, fun_mk l c k⟩
structure HasD (K : PySem.W.Frag) (x : Str) (d : PyData) : Prop where
  ex : ∃ u v, PySem.W.nsIn K mainGlobals x = some (some u) ∧ RelV v u ∧ ∀ I, Dr K I v d
theorem HasD.int {K : PySem.W.Frag} {x : Str} {i : Int} {t : Tok} (a : PySem.W.nsIn K mainGlobals x = some (some (.int i t))) : HasD K x (.int i) := ⟨_, .int i, a, ⟨t, rfl⟩, fun _ => .int i⟩
theorem HasD.str {K : PySem.W.Frag} {x : Str} {i : Str} {t : Tok} (a : PySem.W.nsIn K mainGlobals x = some (some (.str i t))) : HasD K x (.str i) := ⟨_, .str i, a, ⟨t, rfl⟩, fun _ => .str i⟩
mutual
/-- a value of the written part as data -/
inductive KD (K : PySem.W.Frag) : Value → PyData → Prop
  | none : KD K .none .none
  | bool (b : Bool) : KD K (.bool b) (.bool b)
  | int (i : Int) (t : Tok) : KD K (.int i t) (.int i)
  | str (x : Str) (t : Tok) : KD K (.str x t) (.str x)
  | tup {a : Addr} {dd : Option Addr} {its : Array Value} {n : Nat} {sl : Array (Option Value)} {ds : List PyData} : K.lookup a = some ⟨.type "tuple", dd, .seq its n, sl⟩ → its.size ≤ sizeLine → KDs K its.toList ds → KD K (.ref a) (.tuple ds)
inductive KDs (K : PySem.W.Frag) : List Value → List PyData → Prop
  | nil : KDs K [] []
  | cons {u : Value} {us : List Value} {d : PyData} {ds : List PyData} : KD K u d → KDs K us ds → KDs K (u :: us) (d :: ds)
end
mutual
theorem KD.dr {K : PySem.W.Frag} : ∀ {u : Value} {d : PyData}, KD K u d → ∃ v, RelV v u ∧ ∀ I, Dr K I v d
  | _, _, .none => ⟨.non, rfl, fun _ => .non⟩
  | _, _, .bool b => ⟨.bl b, rfl, fun _ => .bl b⟩
  | _, _, .int i t => ⟨.int i, ⟨t, rfl⟩, fun _ => .int i⟩
  | _, _, .str x t => ⟨.str x, ⟨t, rfl⟩, fun _ => .str x⟩
  | _, _, .tup e hz h => by
    obtain ⟨vs, rv, dv⟩ := KDs.dr h
    exact ⟨.ref _, rfl, fun I => .tup (.inr ⟨_, _, _, e, rfl, rfl, hz, rv⟩) (dv I)⟩
theorem KDs.dr {K : PySem.W.Frag} : ∀ {us : List Value} {ds : List PyData}, KDs K us ds → ∃ vs, Vals vs us ∧ ∀ I, DrAll K I vs ds
  | _, _, .nil => ⟨[], .nil, fun _ => .nil⟩
  | _, _, .cons h t => by
    obtain ⟨v, r, d⟩ := KD.dr h
    obtain ⟨vs, rs, ds⟩ := KDs.dr t
    exact ⟨v :: vs, .cons r rs, fun I => .cons (d I) (ds I)⟩
end
theorem HasD.kd {K : PySem.W.Frag} {x : Str} {u : Value} {d : PyData} (a : PySem.W.nsIn K mainGlobals x = some (some u)) (h : KD K u d) : HasD K x d := by
  obtain ⟨v, r, dr⟩ := h.dr
  exact ⟨u, v, a, r, dr⟩
theorem TabIs.consD {K : PySem.W.Frag} {e : DictEntry} {es : List DictEntry} {z : Str} {d : PyData} {kvs : List (Str × T)} {k : Tok} (hk : e.key = .str z k) (h : KD K e.val d) (r : TabIs K es kvs) : TabIs K (e :: es) ((z, .d d) :: kvs) := by
  obtain ⟨v, rv, dr⟩ := h.dr
  exact .cons k v hk rv (fun I H => .d (dr I)) r
theorem TabIs.consF {K : PySem.W.Frag} {e : DictEntry} {es : List DictEntry} {z n : Str} {a : Addr} {kvs : List (Str × T)} {k : Tok} (hk : e.key = .str z k) (hv : e.val = .ref a) (h : PySem.W.nsIn K mainGlobals n = some (some (.ref a))) (r : TabIs K es kvs) : TabIs K (e :: es) ((z, .fn n) :: kvs) :=
  .cons k (.ref a) hk hv (fun I H => .fn h) r
structure HasTab (K : PySem.W.Frag) (w : World) (x : Str) (kvs : List (Str × T)) : Prop where
  ex : ∃ (d : Addr) (es : Array DictEntry) (n : Nat), PySem.W.nsIn K mainGlobals x = some (some (.ref d)) ∧ KDict K w d es n ∧ TabIs K es.toList kvs ∧ es.size ≤ sizeLine
theorem HasTab.by_ {K : PySem.W.Frag} {w : World} {x : Str} {kvs : List (Str × T)} {d : Addr} {es : Array DictEntry} {n : Nat} (a : PySem.W.nsIn K mainGlobals x = some (some (.ref d))) (l : K.lookup d = some ⟨.type "dict", none, .dict es n, #[]⟩)
    (kl : PySem.W.KeysLit w.params es.toList) (lo : (d == sysModules) = false) (t : TabIs K es.toList kvs) (hz : es.size ≤ sizeLine) : HasTab K w x kvs := ⟨d, es, n, a, ⟨l, kl, lo⟩, t, hz⟩
structure HasNo (K : PySem.W.Frag) (x : Str) : Prop where
  ex : PySem.W.nsIn K mainGlobals x = some none
section
variable {K : PySem.W.Frag} {w : World} {h : Heap} {mg : Str → Option Value} {x : Str}
theorem HasNo.at (X : K.In h) (G : h.Ns mainGlobals mg) (a : HasNo K x) : mg x = none := PySem.W.mg_none_of X G a.ex
theorem HasD.at {d : PyData} (X : K.In h) (G : h.Ns mainGlobals mg) (a : HasD K x d) : ∃ v u, mg x = some u ∧ RelV v u ∧ ∀ I, Dr K I v d := by
  obtain ⟨u, v, e, r, dr⟩ := a.ex
  exact ⟨v, u, PySem.W.mg_of X G e, r, dr⟩
theorem HasTab.at {kvs : List (Str × T)} (X : K.In h) (G : h.Ns mainGlobals mg) (a : HasTab K w x kvs) : ∃ (d : Addr) (es : Array DictEntry) (n : Nat), mg x = some (.ref d) ∧ KDict K w d es n ∧ TabIs K es.toList kvs ∧ es.size ≤ sizeLine := by
  obtain ⟨d, es, n, e, r, t, z⟩ := a.ex
  exact ⟨d, es, n, PySem.W.mg_of X G e, r, t, z⟩
end
end DL
end
section
set_option Elab.async false
set_option linter.all false
set_option maxRecDepth 100000
set_option maxHeartbeats 4000000
namespace DL
open PySem L2
structure Ini (X : Cx) (C : Addr) (fs : List Str) (k : Nat) (sts : List Stmt) : Prop where
  ex : ∃ t, PSs X sts t ∧ ∀ (D : L2.Ends) (σ : L2.St) (H : Hp) (a dx : Addr) (us : List V), σ[0]? = some (some (.ref a)) → (∀ j, j < fs.length → ∃ u, us[j]? = some u ∧ σ[j + 1]? = some (some u)) → us.length = fs.length → a ≠ dx →
    H a = some (exo a C (some dx)) → H dx = some (exd dx ((fs.take k).zip (us.take k)).reverse) → D.nx σ (upd H dx (exd dx (fs.zip us).reverse)) → t D σ H
section
variable {X : Cx} {C : Addr} {fs : List Str} {k : Nat} {sts : List Stmt} {f : Str}
theorem ini_nil (h : fs.length ≤ k) : Ini X C fs k [] := by
  refine ⟨_, pss_nil, fun D σ H a dx us h0 hs hl ne ea ed q => ?_⟩
  rw [List.take_of_length_le h, List.take_of_length_le (by rw [hl]; exact h)] at ed
  show D.nx σ H
  have e : upd H dx (exd dx (fs.zip us).reverse) = H := by
    funext b
    by_cases z : b = dx
    · rw [z, upd_same, ed]
    · rw [upd_ne z]
  rw [e] at q
  exact q
theorem zip_next {fs : List Str} {us : List V} {k : Nat} {f : Str} {u : V} (hf : fs[k]? = some f) (hu : us[k]? = some u) : ((fs.take (k + 1)).zip (us.take (k + 1))).reverse = (f, u) :: ((fs.take k).zip (us.take k)).reverse := by
  have hk := (List.getElem?_eq_some_iff.mp hf).1
  have hk2 := (List.getElem?_eq_some_iff.mp hu).1
  rw [List.take_add_one, List.take_add_one, hf, hu]
  show ((fs.take k ++ [f]).zip (us.take k ++ [u])).reverse = _
  rw [List.zip_append (by rw [List.length_take, List.length_take]; omega)]
  simp
end
section
variable {X : Cx} {C : Addr} {fs : List Str} {k : Nat} {sts : List Stmt} {f : Str} {msg : Str}
theorem upd_comm {H : Hp} {a b : Addr} {o u : HO} (h : a ≠ b) : upd (upd H a o) b u = upd (upd H b u) a o := by
  funext c
  by_cases x : c = a
  · rw [x, upd_ne h, upd_same, upd_same]
  · rw [upd_ne x]
    by_cases y : c = b
    · rw [y, upd_same, upd_same]
    · rw [upd_ne y, upd_ne y, upd_ne x]
end
section
variable {P : Program} {w : World} {K : PySem.W.Frag} {mg : Str → Option Value} {base : Heap} {k : Nat} {fI : Addr} {fd : FuncData} {fs : List Str} {qual : Str} {st : Stmt} {C : Addr} {CX : CXT}
theorem start_at {N : List Str} {vs : List V} {j : Nat} {v : V} (h : vs[j]? = some v) : (start N vs)[j]? = some (some v) := by
  unfold L2.start
  have hj := (List.getElem?_eq_some_iff.mp h).1
  rw [List.getElem?_append_left (by rw [List.length_map]; exact hj), List.getElem?_map, h]
  rfl
end
def xraise (n : Str) (fs : List Str) (o : Option (List PyData)) : M Fl := fun ρ => match o with
  | some ds => if ds.length = fs.length ∧ ds.length ≤ 900 then .ex ⟨n, (fs.zip ds).reverse⟩ ρ else .no
  | none => .no
def sraise (n : Str) (fs : List Str) (fa : M (List T)) : M Fl := mbind fa fun ts => xraise n fs (allD ts)
theorem rev_fst {α β : Type} {as : List α} {bs : List β} (h : bs.length = as.length) : ((as.zip bs).reverse.map (·.1)) = as.reverse := by
  rw [List.map_reverse]
  congr 1
  exact List.map_fst_zip (by omega)
theorem rev_snd {α β : Type} {as : List α} {bs : List β} (h : bs.length = as.length) : ((as.zip bs).reverse.map (·.2)) = bs.reverse := by
  rw [List.map_reverse]
  congr 1
  exact List.map_snd_zip (by omega)
section
variable {X : Cx} {w : Wd} {e : Expr} {es : List Expr} {fa : M (List T)} {os : List (Option Nat)} {k k' : Nat} {n : Str} {p pos pos' : Pos} {fs : List Str}
theorem zip_rev {α β : Type} : ∀ {as : List α} {bs : List β}, bs.length = as.length → (as.zip bs).reverse = as.reverse.zip bs.reverse
  | [], [], _ => rfl
  | [], _ :: _, h => nomatch h
  | _ :: _, [], h => nomatch h
  | a :: as, b :: bs, h => by
    rw [List.zip_cons_cons, List.reverse_cons, List.reverse_cons, List.reverse_cons, zip_rev (by simpa using h), List.zip_append (by simpa using (by simpa using h.symm : as.length = bs.length))]
    rfl
theorem rev_ne {α β : Type} {as : List α} {bs : List β} (h : bs.length = as.length) (h0 : as ≠ []) : (as.zip bs).reverse ≠ [] := fun z => by
  have e := congrArg List.length z
  rw [List.length_reverse, List.length_zip] at e
  apply h0
  apply List.eq_nil_of_length_eq_zero
  have : ([] : List (α × β)).length = 0 := rfl
  omega
theorem Ok.raised {K : PySem.W.Frag} {m : List Bool} {cl : Str → Option Value} {B : Bs} {σ : L2.St} {H : Hp} {ρ : Rho} {ws xs : List V} {ts : List T} {ds : List PyData} {d : Addr} {c : Value} (ok : Ok K m B σ H ρ (xs ++ ws) (ds.map T.d ++ ts)) (hl : xs.length = ds.length) (hf : ds.length = fs.length) (h0 : fs ≠ []) (hd : H d = none) (hc : cl n = some c) :
    OkX K m cl B σ (upd H d (.xd (fs.zip xs).reverse)) ρ ⟨n, (fs.zip ds).reverse⟩ c (some d) := by
  obtain ⟨I, Fr, Fw, s, r, w, km⟩ := ok
  have hI := (s.fresh hd).2.1
  have sm : Same I (upd I d (.xd (fs.zip xs).reverse)) := fun a u e => by rw [upd_ne (ne_of_none e hI)]; exact e
  have s2 := s.newD (o := .xd (fs.zip xs).reverse) hd
  refine ⟨_, Fr, xs.reverse, s2.less (fun a m => List.mem_append_left _ m) (List.nodup_append.mp s.nd).1, r.mono sm fun a z => upd_ne (show a ≠ d from fun e => s.thr a (List.mem_append_left _ z) (by rw [e]; exact hd)), km, hc, ⟨fun _ => ⟨d, rfl, ?_⟩, fun z => absurd z (rev_ne hf h0)⟩, ?_⟩
  · rw [upd_same, rev_fst hf, zip_rev (by omega)]
  · rw [rev_snd hf]
    exact (drAll_mono sm (drAll_pending hl w)).reverse
end
end DL
end
section
set_option Elab.async false
set_option linter.all false
set_option maxRecDepth 100000
set_option maxHeartbeats 4000000
namespace DL
open PySem L2
section
variable {X : Cx} {pins : List (Addr × Obj)} {σ : L2.St} {H : Hp} {s : Shared}
end
section
variable {X : Cx} {x n : Str} {c : Value} {i : Nat} {body suite : List Stmt} {b₀ : Stmt} {np pos pos' : Pos}
end
end DL
end
section
set_option Elab.async false
set_option linter.all false
set_option maxRecDepth 100000
set_option maxHeartbeats 4000000
namespace DL
open PySem L2
theorem Sit.join {B : Bs} {I H I' H' : Hp} {Fr Fw F' : List Addr} {z : L2.St} (s : Sit B I H (Fr ++ Fw)) (s' : Sit ⟨I, H, Fr, z⟩ I' H' F') : Sit B I' H' (F' ++ Fw) ∧ (∀ a ∈ Fw, H' a = H a) ∧ Same I I' := by
  have nd := s.nd
  have notA : ∀ a ∈ Fw, a ∉ Fr := fun a m mA => (List.nodup_append.mp nd).2.2 a mA a m rfl
  have inF : ∀ a ∈ Fw, a ∈ Fr ++ Fw := fun a m => List.mem_append_right _ m
  have inA : ∀ a ∈ Fr, a ∈ Fr ++ Fw := fun a m => List.mem_append_left _ m
  have stay : ∀ a ∈ Fw, H' a = H a := fun a m => by
    cases e : H a with
    | none => exact absurd e (s.thr a (inF a m))
    | some o => exact s'.keep a o (notA a m) e
  have free : ∀ a ∈ Fw, I' a = none := fun a m => by
    cases e : I' a with
    | none => rfl
    | some o =>
      rcases s'.new a o e with h | h | h
      · have h' : I a = some o := h
        rw [s.own a (inF a m)] at h'; cases h'
      · exact absurd h (s.thr a (inF a m))
      · exact absurd h (notA a m)
  have far : ∀ a ∈ F', a ∉ Fw := fun a m m' => by
    rcases s'.fr a m with h | h
    · exact notA a m' h
    · exact s.thr a (inF a m') h
  refine ⟨⟨s'.sub, fun a u e => s'.ext a u (s.ext a u e), fun a u n e => ?_, fun a u e => ?_, fun a m => ?_, fun a m => ?_, fun a m => ?_, List.nodup_append.mpr ⟨s'.nd, (List.nodup_append.mp nd).2.1, fun a m b m' e => far a m (e ▸ m')⟩⟩, stay, s'.ext⟩
  · by_cases mA : a ∈ Fr
    · rcases s.fr a (inA a mA) with h | h
      · exact absurd h n
      · rw [h] at e; cases e
    · exact s'.keep a u mA (s.keep a u n e)
  · rcases s'.new a u e with h | h | h
    · exact s.new a u h
    · by_cases q : a ∈ B.F
      · exact .inr (.inr q)
      · refine .inr (.inl ?_)
        cases e2 : B.H a with
        | none => rfl
        | some o =>
          have h' : H a = none := h
          rw [s.keep a o q e2] at h'; cases h'
    · rcases s.fr a (inA a h) with h | h
      · exact .inr (.inr h)
      · exact .inr (.inl h)
  · rcases List.mem_append.mp m with m | m
    · rcases s'.fr a m with h | h
      · exact s.fr a (inA a h)
      · by_cases q : a ∈ B.F
        · exact .inl q
        · refine .inr ?_
          cases e2 : B.H a with
          | none => rfl
          | some o =>
            have h' : H a = none := h
            rw [s.keep a o q e2] at h'; cases h'
    · exact s.fr a (inF a m)
  · rcases List.mem_append.mp m with m | m
    · exact s'.own a m
    · exact free a m
  · rcases List.mem_append.mp m with m | m
    · exact s'.thr a m
    · rw [stay a m]; exact s.thr a (inF a m)
section
variable {K : PySem.W.Frag} {m : List Bool} {B : Bs} {σ σ' : L2.St} {I H H' : Hp} {ρ ρ' : Rho} {ws vs : List V} {ts us : List T} {Fr Fw : List Addr}
theorem Ok.alone (s : Sit B I H (Fr ++ Fw)) (r : RepR K I H σ ρ Fr) (km : Kept m B σ) : Ok K m ⟨I, H, Fr, B.s⟩ σ H ρ [] [] :=
  ⟨I, Fr, [], by rw [List.append_nil]; exact ⟨s.sub, Same.refl _, fun a o _ z => z, fun a o z => .inl z, fun a z => .inl z, fun a z => s.own a (List.mem_append_left _ z), fun a z => s.thr a (List.mem_append_left _ z), (List.nodup_append.mp s.nd).1⟩, r, .nil, km⟩
theorem Ok.framed (s : Sit B I H (Fr ++ Fw)) (hw : RepTs K I H ws ts Fw) (q : Ok K m ⟨I, H, Fr, B.s⟩ σ' H' ρ' vs us) : Ok K m B σ' H' ρ' (vs ++ ws) (us ++ ts) := by
  obtain ⟨I', F1, F2, s', r', w', km⟩ := q
  obtain ⟨S, st, sm⟩ := s.join s'
  obtain ⟨E, q1, rfl⟩ := RepTs.append w' (hw.mono sm st)
  exact ⟨I', F1, _, by rw [← List.append_assoc]; exact S, r', q1, km⟩
end
structure ClsX (K : PySem.W.Frag) (mg : Str → Option Value) (n : Str) : Prop where
  ex : ∃ C : Addr, PySem.W.nsIn K mainGlobals n = some (some (.ref C)) ∧ mg n = some (.ref C) ∧ PySem.W.exmOne K (.ref C) (.ref C) = some true
section
variable {X : Cx} {w : Wd} {k : Nat} {x n : Str} {i : Nat} {body suite : List Stmt} {b₀ : Stmt} {np pos pos' : Pos} {F G : M Fl}
end
section
variable {K : PySem.W.Frag} {m : List Bool}
end
structure ExcN (K : PySem.W.Frag) (n : Str) : Prop where
  ex : ∃ D : Addr, PySem.W.nsIn K mainGlobals n = some (some (.ref D)) ∧ PySem.W.findIn K (.ref D) "__getattribute__" = some (some (.builtin "BaseException.__getattribute__")) ∧ (∃ gt, PySem.W.findIn K (.ref D) "__getattr__" = some gt) ∧
    PySem.W.subIn K (.ref D) (.type "BaseException") = some true ∧ (PySem.W.clsIn K D).isSome = true ∧ PySem.W.findIn K (.ref D) "__class__" = some (some (.builtin "object.__class__")) ∧
    PySem.W.specialIn K (.builtin "object.__class__") "__get__" = some (some (.builtin "getset_descriptor.__get__")) ∧ PySem.W.takesIn K (.builtin "object.__class__") = some true ∧ PySem.W.mroIn K D (.type "object") = some true
def clsT (K : PySem.W.Frag) : T → V → Value → Prop
  | .fn m, v, u => ∃ C, PySem.W.nsIn K mainGlobals m = some (some (.ref C)) ∧ v = .ref C ∧ u = .ref C
  | .ty m, v, u => v = .ty m ∧ u = .type m
  | _, _, _ => False
def IsaOne (K : PySem.W.Frag) (n : Str) (t : T) (b : Bool) : Prop := ExcN K n ∧ ∃ D u v, PySem.W.nsIn K mainGlobals n = some (some (.ref D)) ∧ clsT K t v u ∧ PySem.W.kitOne K (.ref D) u = some b
section
variable {X : Cx} {K : PySem.W.Frag} {m : List Bool}
end
structure ClsN (K : PySem.W.Frag) (mg : Str → Option Value) (x : Str) : Prop where
  ex : ∃ C : Addr, PySem.W.nsIn K mainGlobals x = some (some (.ref C)) ∧ mg x = some (.ref C)
structure XfOne (K : PySem.W.Frag) (n f : Str) : Prop where
  ex : ∃ C : Addr, PySem.W.nsIn K mainGlobals n = some (some (.ref C)) ∧ XfC K C ∧ PySem.W.findIn K (.ref C) f = some none
section
variable {X : Cx} {w : Wd} {e : Expr} {fe : M T} {pos : Pos} {x f : Str}
end
end DL
end
section
set_option Elab.async false
set_option linter.all false
set_option maxRecDepth 100000
set_option maxHeartbeats 4000000
namespace DL
open PySem L2
section
variable {X : Cx} {w : Wd} {o e : Expr} {fo fe : M T} {apos pos : Pos}
end
end DL
end
section
set_option Elab.async false
set_option linter.all false
set_option maxRecDepth 100000
set_option maxHeartbeats 4000000
namespace DL
open PySem L2
def methOf (s : Stmt) (i : Nat) : Stmt := match s with
  | .ClassDef _ _ _ body _ _ _ _ _ _ _ => body.getD i (.Pass ⟨0, 0, 0, 0⟩)
  | _ => .Pass ⟨0, 0, 0, 0⟩
theorem mem_nil {α : Type} {P : α → Prop} : ∀ q ∈ ([] : List α), P q := fun _ h => nomatch h
theorem mem_cons {α : Type} {P : α → Prop} {a : α} {l : List α} (h : P a) (r : ∀ q ∈ l, P q) : ∀ q ∈ a :: l, P q := fun q m => by
  rcases List.mem_cons.mp m with e | e
  · rw [e]; exact h
  · exact r q e
structure HasC0 (K : PySem.W.Frag) (n qual : Str) (st : Stmt) (fs : List Str) : Prop where
  ex : ∃ (C fI : Addr) (fd : FuncData), PySem.W.nsIn K mainGlobals n = some (some (.ref C)) ∧ OexC K C ∧ PySem.W.findIn K (.ref C) "__init__" = some (some (.ref fI)) ∧ PySem.W.typeIn K (.ref fI) = some (.type "function") ∧ Fun K "__init__" qual st fI fd ∧
    (∀ f ∈ fs, PySem.W.findIn K (.ref C) f = some none) ∧ PySem.W.findCls K (.type "ValueError") (.type "type") "__init__" = some (.val (.builtin "ValueError.__init__"))
structure HasC (K : PySem.W.Frag) (mg : Str → Option Value) (n qual : Str) (st : Stmt) (fs : List Str) : Prop where
  ex : ∃ (C fI : Addr) (fd : FuncData), PySem.W.nsIn K mainGlobals n = some (some (.ref C)) ∧ mg n = some (.ref C) ∧ OexC K C ∧ PySem.W.findIn K (.ref C) "__init__" = some (some (.ref fI)) ∧ PySem.W.typeIn K (.ref fI) = some (.type "function") ∧ Fun K "__init__" qual st fI fd ∧
    (∀ f ∈ fs, PySem.W.findIn K (.ref C) f = some none) ∧ PySem.W.findCls K (.type "ValueError") (.type "type") "__init__" = some (.val (.builtin "ValueError.__init__"))
structure HasCls (K : PySem.W.Frag) (n : Str) : Prop where
  ex : ∃ C : Addr, PySem.W.nsIn K mainGlobals n = some (some (.ref C))
structure HasExm (K : PySem.W.Frag) (n : Str) : Prop where
  ex : ∃ C : Addr, PySem.W.nsIn K mainGlobals n = some (some (.ref C)) ∧ PySem.W.exmOne K (.ref C) (.ref C) = some true
structure IsaK (K : PySem.W.Frag) (n : Str) (t : T) (b : Bool) : Prop where
  ex : ∃ D u v, PySem.W.nsIn K mainGlobals n = some (some (.ref D)) ∧ clsT K t v u ∧ PySem.W.kitOne K (.ref D) u = some b
section
variable {K : PySem.W.Frag} {h : Heap} {mg : Str → Option Value} {n qual : Str} {st : Stmt} {fs : List Str} {C fI : Addr}
theorem HasC0.at (X : K.In h) (G : h.Ns mainGlobals mg) (a : HasC0 K n qual st fs) : HasC K mg n qual st fs := by
  obtain ⟨C, fI, fd, h1, h2⟩ := a.ex
  exact ⟨C, fI, fd, h1, PySem.W.mg_of X G h1, h2⟩
theorem HasCls.at (X : K.In h) (G : h.Ns mainGlobals mg) (a : HasCls K n) : ClsN K mg n := by
  obtain ⟨C, h1⟩ := a.ex
  exact ⟨C, h1, PySem.W.mg_of X G h1⟩
theorem HasExm.at (X : K.In h) (G : h.Ns mainGlobals mg) (a : HasExm K n) : ClsX K mg n := by
  obtain ⟨C, h1, h2⟩ := a.ex
  exact ⟨C, h1, PySem.W.mg_of X G h1, h2⟩
theorem HasC0.by_ {nm q : Str} {N : Addr} {bs bm : List Value} {sn : _} {sub ab col dd k0 k1 k2 k3 k5 : _} {oc : Value} {od an : Option Addr} {osl : Array (Option Value)} {kV doc pm cdv ct : Value} (a : PySem.W.nsIn K mainGlobals n = some (some (.ref C)))
    (l : K.lookup C = some (excClassObj nm q C N bs bm true sn sub ab col dd k0 k1 k2 k3 k5 "ValueError.__new__")) (hb : PySem.HandSPX.refsVE bm = true) (sa : PySem.W.findIn K (.ref C) "__setattr__" = some (some (.builtin "object.__setattr__")))
    (ex : PySem.W.subIn K (.ref C) (.type "BaseException") = some true) (ty : PySem.W.typeIn K (.ref C) = some (.type "type")) (kp : PySem.W.keepIn K (.ref C) = true) (i : PySem.W.findIn K (.ref C) "__init__" = some (some (.ref fI))) (ti : PySem.W.typeIn K (.ref fI) = some (.type "function"))
    (lf : K.lookup fI = some ⟨oc, od, .func (PySem.W.fnOf "__init__" qual (defArgs st) (defBody st) (defScope st) .none kV doc pm an cdv ct), osl⟩) (cf : PySem.W.codeIn K cdv qual = true) (kf : PySem.W.keepIn K (.ref fI) = true)
    (hno : ∀ f ∈ fs, PySem.W.findIn K (.ref C) f = some none) (v : PySem.W.findCls K (.type "ValueError") (.type "type") "__init__" = some (.val (.builtin "ValueError.__init__"))) : HasC0 K n qual st fs :=
  ⟨C, fI, _, a, ⟨⟨_, _, _, _, _, _, _, _, _, _, _, _, _, _, _, l, hb⟩, sa, ex, ty, kp⟩, i, ti, fun_mk lf cf kf, hno, v⟩
theorem HasCls.by_ (a : PySem.W.nsIn K mainGlobals n = some (some (.ref C))) : HasCls K n := ⟨C, a⟩
theorem cls_isSome (h : PySem.W.hasDictIn K C = true) : (PySem.W.clsIn K C).isSome = true := by
  unfold PySem.W.hasDictIn at h
  cases e : PySem.W.clsIn K C with
  | none => rw [e] at h; cases h
  | some c => rfl
theorem HasExm.by_ (a : PySem.W.nsIn K mainGlobals n = some (some (.ref C))) (b : PySem.W.subIn K (.ref C) (.type "BaseException") = some true) (d : PySem.W.hasDictIn K C = true) (t : PySem.W.typeIn K (.ref C) = some (.type "type")) (e : PySem.W.subIn K (.ref C) (.ref C) = some true) : HasExm K n :=
  ⟨C, a, PySem.W.exm_ref b d t e⟩
theorem XfOne.by_ {f : Str} (a : PySem.W.nsIn K mainGlobals n = some (some (.ref C))) (ga : PySem.W.findIn K (.ref C) "__getattribute__" = some (some (.builtin "BaseException.__getattribute__"))) (gg : PySem.W.findIn K (.ref C) "__getattr__" = some none)
    (b : PySem.W.subIn K (.ref C) (.type "BaseException") = some true) (d : PySem.W.hasDictIn K C = true) (y : PySem.W.findIn K (.ref C) f = some none) : XfOne K n f := ⟨C, a, ⟨ga, gg, b, d⟩, y⟩
theorem ExcN.by_ {gt : Option Value} (a : PySem.W.nsIn K mainGlobals n = some (some (.ref C))) (h1 : PySem.W.findIn K (.ref C) "__getattribute__" = some (some (.builtin "BaseException.__getattribute__"))) (h2 : PySem.W.findIn K (.ref C) "__getattr__" = some gt)
    (h3 : PySem.W.subIn K (.ref C) (.type "BaseException") = some true) (h4 : PySem.W.hasDictIn K C = true) (h5 : PySem.W.findIn K (.ref C) "__class__" = some (some (.builtin "object.__class__")))
    (h6 : PySem.W.specialIn K (.builtin "object.__class__") "__get__" = some (some (.builtin "getset_descriptor.__get__"))) (h7 : PySem.W.takesIn K (.builtin "object.__class__") = some true) (h8 : PySem.W.mroIn K C (.type "object") = some true) : ExcN K n := ⟨C, a, h1, ⟨gt, h2⟩, h3, cls_isSome h4, h5, h6, h7, h8⟩
theorem IsaOne.mk {t : T} {b : Bool} (e : ExcN K n) (k : IsaK K n t b) : IsaOne K n t b := ⟨e, k.ex⟩
theorem IsaK.same (a : PySem.W.nsIn K mainGlobals n = some (some (.ref C))) : IsaK K n (.fn n) true := ⟨C, _, _, a, ⟨C, a, rfl, rfl⟩, by unfold PySem.W.kitOne; rw [if_pos (by simp)]⟩
theorem IsaK.cls {m : Str} {D : Addr} {b : Bool} (a : PySem.W.nsIn K mainGlobals n = some (some (.ref C))) (c : PySem.W.nsIn K mainGlobals m = some (some (.ref D))) (d : PySem.W.hasDictIn K D = true) (t : PySem.W.typeIn K (.ref D) = some (.type "type")) (k : PySem.W.subIn K (.ref C) (.ref D) = some b)
    (ne : (Value.ref C == Value.ref D) = false) : IsaK K n (.fn m) b := by
  refine ⟨C, _, _, a, ⟨D, c, rfl, rfl⟩, ?_⟩
  unfold PySem.W.kitOne
  rw [if_neg (by rw [ne]; decide)]
  have e2 : ((PySem.W.clsIn K D).isSome && PySem.W.typeIn K (.ref D) == some (.type "type")) = true := by rw [cls_isSome d, t]; rfl
  show (if ((PySem.W.clsIn K D).isSome && PySem.W.typeIn K (.ref D) == some (.type "type")) = true then PySem.W.subIn K (.ref C) (.ref D) else none) = some b
  rw [if_pos e2]
  exact k
theorem IsaK.ty {m : String} {b : Bool} (a : PySem.W.nsIn K mainGlobals n = some (some (.ref C))) (mt : PySem.W.kitMeta m = true) (k : PySem.W.subIn K (.ref C) (.type m) = some b) : IsaK K n (.ty m) b := by
  refine ⟨C, _, _, a, ⟨rfl, rfl⟩, ?_⟩
  unfold PySem.W.kitOne
  rw [if_neg (by intro z; cases beq_iff_eq.mp z)]
  show (if PySem.W.kitMeta m = true then PySem.W.subIn K (.ref C) (.type m) else none) = some b
  rw [if_pos mt]
  exact k
end
theorem bt_ValueError : bootBuiltins "ValueError" = some (.type "ValueError") := by decide +kernel
end DL
end
section
set_option Elab.async false
set_option linter.all false
set_option maxRecDepth 100000
set_option maxHeartbeats 4000000
namespace DL
open PySem L2
structure ClsF (K : PySem.W.Frag) (n f : Str) : Prop where
  ex : ∃ C : Addr, PySem.W.nsIn K mainGlobals n = some (some (.ref C)) ∧ Cls K C ∧ NoAttr K C f

def unkey : PyData → Option Key
  | .int i => some (.inl i)
  | .str z => some (.inr z)
  | _ => none
section
variable {X : Cx} {w : Wd} {e : Expr} {fe fv : M T} {pos pos' : Pos} {x f : Str}
end
end DL
end
section
set_option Elab.async false
set_option linter.all false
set_option maxRecDepth 100000
set_option maxHeartbeats 4000000
namespace DL
open PySem L2 PySem.Spec PyProof.Rows
structure DefM (P : Program) (w : World) (K : PySem.W.Frag) (mg : Str → Option Value) (base : Heap) (cn m : Str) (k n : Nat) (g : Fn) : Prop where
  ex : ∃ C f fd ps, PySem.W.nsIn K mainGlobals cn = some (some (.ref C)) ∧ Cls K C ∧ Meth K C m f ∧ FnG P w K mg base k f fd ps (FnD K mg n g) ∧ Binds K fd ps []
structure DefI (P : Program) (w : World) (K : PySem.W.Frag) (mg : Str → Option Value) (base : Heap) (cn : Str) (k n : Nat) (g : Fn) : Prop where
  ex : ∃ C f fd ps ds, PySem.W.nsIn K mainGlobals cn = some (some (.ref C)) ∧ mg cn = some (.ref C) ∧ Mk K C f ∧ FnGd P w K mg base k f fd ps ds (FnD K mg n g) ∧ Binds K fd ps ds
section
variable {X : Cx} {k : Nat} {f C : Addr} {fd : FuncData} {ps : List Str} {ds : List Value} {sp : Sp} {W : WX} {x m : Str} {p apos pos : Pos} {e o : Expr} {es : List Expr} {ta : TE} {t : TA}
end
section
variable {X : Cx} {w : Wd} {e : Expr} {es : List Expr} {fs : M (List T)} {os : List (Option Nat)} {g : Fn} {k k' n i : Nat} {x cn m : Str} {p0 apos pos : Pos} {K : PySem.W.Frag} {t : TA}
end
end DL
end
section
set_option Elab.async false
set_option linter.all false
set_option maxRecDepth 100000
set_option maxHeartbeats 4000000
namespace DL
open PySem L2 PySem.Spec PyProof.Rows
section
variable {X : Cx} {w : Wd} {e : Expr} {es : List Expr} {fs : M (List T)} {os : List (Option Nat)} {g : Fn} {k k' n i : Nat} {x cn m : Str} {p p0 apos pos : Pos} {K : PySem.W.Frag} {t : TA}
end
def asDk : List (Key × T) → Option (List (Key × PyData))
  | [] => some []
  | (k, .d x) :: r => (asDk r).map ((k, x) :: ·)
  | _ :: _ => none
def toFd : T → Option PyData
  | .dct ts => (asDk ts).map dictD
  | .fdct kvs => some (dictD kvs)
  | .fin n fs => some (instD n fs)
  | t => toD t
def toFds : List T → Option (List PyData)
  | [] => some []
  | t :: ts => match toFd t, toFds ts with
    | some d, some ds => some (d :: ds)
    | _, _ => none
def toF : T → Option T
  | .ins n fs => match toFds (fs.map (·.2)) with
    | some ds => some (.fin n ((fs.map (·.1)).zip ds))
    | none => none
  | .dct ts => (asDk ts).map T.fdct
  | .fdct kvs => some (.fdct kvs)
  | .d x => some (.d x)
  | .fn n => some (.fn n)
  | .scr ns => some (.scr ns)
  | .exc n fs => some (.exc n fs)
  | .fin n fs => some (.fin n fs)
  | .lst xs => (toD (.lst xs)).map T.d
  | .tup xs => (toD (.tup xs)).map T.d
  | _ => none
def seen (is : List Nat) (k : Nat) : Rho → Rho
  | [] => []
  | o :: ρ => (match o with
    | some (.d x) => some (.d x)
    | some (.fn n) => some (.fn n)
    | some (.scr ns) => some (.scr ns)
    | some (.exc n fs) => some (.exc n fs)
    | some (.fin n fs) => some (.fin n fs)
    | some (.fdct kvs) => some (.fdct kvs)
    | some t => if k ∈ is then toF t else none
    | none => none) :: seen is (k + 1) ρ
def flat : PyData → Bool
  | .none => true
  | .bool _ => true
  | .int _ => true
  | .str _ => true
  | _ => false
theorem flat_dr {K : PySem.W.Frag} {I I' : Hp} {v : V} {d : PyData} (h : flat d = true) (r : Dr K I v d) : Dr K I' v d := by
  cases r with
  | non => exact .non
  | bl b => exact .bl b
  | int i => exact .int i
  | str x => exact .str x
  | lst _ _ => cases h
  | tup _ _ => cases h
  | dct0 _ => cases h
section
variable {K : PySem.W.Frag} {I I' H : Hp}
theorem toFds_len : ∀ {ts : List T} {ds : List PyData}, toFds ts = some ds → ds.length = ts.length
  | [], _, e => by cases e; rfl
  | t :: ts, _, e => by
    simp only [toFds] at e
    cases q1 : toFd t with
    | none => rw [q1] at e; cases e
    | some d =>
      cases q2 : toFds ts with
      | none => rw [q1, q2] at e; cases e
      | some ds =>
        rw [q1, q2] at e
        cases e
        simp [toFds_len q2]
theorem asDk_map : ∀ {ts : List (Key × T)} {kvs : List (Key × PyData)}, asDk ts = some kvs → ts.map (·.1) = kvs.map (·.1) ∧ ts.map (·.2) = (kvs.map (·.2)).map T.d
  | [], _, e => by cases e; exact ⟨rfl, rfl⟩
  | (k, .d x) :: r, _, e => by
    simp only [asDk] at e
    cases q : asDk r with
    | none => rw [q] at e; cases e
    | some us =>
      rw [q] at e
      cases e
      obtain ⟨h1, h2⟩ := asDk_map q
      exact ⟨by rw [List.map_cons, List.map_cons, h1], by rw [List.map_cons, List.map_cons, List.map_cons, h2]⟩
  | (_, .fn _) :: _, _, e => nomatch e
  | (_, .scr _) :: _, _, e => nomatch e
  | (_, .ty _) :: _, _, e => nomatch e
  | (_, .lst _) :: _, _, e => nomatch e
  | (_, .dct _) :: _, _, e => nomatch e
  | (_, .ins _ _) :: _, _, e => nomatch e
  | (_, .fin _ _) :: _, _, e => nomatch e
  | (_, .exc _ _) :: _, _, e => nomatch e
  | (_, .tup _) :: _, _, e => nomatch e
  | (_, .opq _) :: _, _, e => nomatch e
  | (_, .hole) :: _, _, e => nomatch e
  | (_, .fns _) :: _, _, e => nomatch e
  | (_, .fdct _) :: _, _, e => nomatch e
theorem frz_dct (sm : Same I I') {v : V} {ts : List (Key × T)} {F : List Addr} {kvs : List (Key × PyData)} (r : RepT K I H v (.dct ts) F) (e : asDk ts = some kvs) (k : ∀ a ∈ F, I' a = H a) : ∃ a, v = .ref a ∧ FdAt K I' a kvs := by
  obtain ⟨e1, e2⟩ := asDk_map e
  cases r with
  | dct ha hk hv hx rr =>
    rw [e2] at hx
    subst hv hx
    refine ⟨_, rfl, _, by rw [k _ (by simp)]; exact ha, by rw [hk, e1], ?_⟩
    exact drAll_mono sm (RepTs.toD rr).1
theorem frz_fld (sm : Same I I') {v : V} {t : T} {F : List Addr} {d : PyData} (r : RepT K I H v t F) (e : toFd t = some d) (k : ∀ a ∈ F, I' a = H a) : DrF K I' v d := by
  cases t with
  | dct ts =>
    simp only [toFd] at e
    cases q : asDk ts with
    | none => rw [q] at e; cases e
    | some kvs =>
      rw [q] at e
      cases e
      obtain ⟨a, rfl, h⟩ := frz_dct sm r q k
      exact .dct h
  | fdct kvs =>
    cases e
    cases r with
    | fdct h => exact .dct (h.mono sm)
  | fin n fs =>
    cases e
    cases r with
    | fin h =>
      obtain ⟨C, dx, us, h1, h2, h3, h4, h5⟩ := (h.mono sm).at_
      exact .ins h1 h2 h3 h4 rfl rfl h5
  | d x => exact .d (frz_rep sm r e k)
  | lst xs => exact .d (frz_rep sm r e k)
  | tup xs => exact .d (frz_rep sm r e k)
  | fn _ => exact .d (frz_rep sm r e k)
  | scr _ => exact .d (frz_rep sm r e k)
  | ty _ => exact .d (frz_rep sm r e k)
  | ins _ _ => exact .d (frz_rep sm r e k)
  | exc _ _ => exact .d (frz_rep sm r e k)
  | opq _ => exact .d (frz_rep sm r e k)
  | hole => exact .d (frz_rep sm r e k)
  | fns _ => exact .d (frz_rep sm r e k)
theorem frz_flds (sm : Same I I') : ∀ {vs : List V} {ts : List T} {F : List Addr} {ds : List PyData}, RepTs K I H vs ts F → toFds ts = some ds → (∀ a ∈ F, I' a = H a) → DrFs K I' vs ds
  | _, _, _, _, .nil, e, _ => by
    simp [toFds] at e
    subst e
    exact .nil
  | _, _, _, _, .cons (t := t) (ts := ts) a b, e, k => by
    simp only [toFds] at e
    cases q1 : toFd t with
    | none => rw [q1] at e; cases e
    | some d =>
      cases q2 : toFds ts with
      | none => rw [q1, q2] at e; cases e
      | some ds =>
        rw [q1, q2] at e
        cases e
        exact .cons (frz_fld sm a q1 fun x m => k x (by simp [m])) (frz_flds sm b q2 fun x m => k x (by simp [m]))
theorem frz_repT (sm : Same I I') {v : V} {t u : T} {F : List Addr} (r : RepT K I H v t F) (e : toF t = some u) (k : ∀ a ∈ F, I' a = H a) : RepT K I' H v u [] := by
  cases t with
  | d x => cases e; cases r with | d q => exact .d (dr_mono sm q)
  | fn n => cases e; cases r with | fn q => exact .fn q
  | scr ns => cases e; cases r with | scr q => exact .scr (sm.seq q)
  | exc n fs => cases e; cases r with | exc q => exact .exc (q.mono sm)
  | fin n fs => cases e; cases r with | fin q => exact .fin (q.mono sm)
  | lst xs =>
    cases q : toD (.lst xs) with
    | none => simp only [toF, q] at e; cases e
    | some d =>
      simp only [toF, q] at e
      cases e
      exact .d (frz_rep sm r q k)
  | ins n fs =>
    simp only [toF] at e
    cases q : toFds (fs.map (·.2)) with
    | none => rw [q] at e; cases e
    | some ds =>
      rw [q] at e
      cases e
      cases r with
      | ins n0 ha ho en ev ex rr =>
        rename_i a C dx kvs vs xs F0
        subst ev ex
        have hl : ds.length = fs.length := by rw [toFds_len q, List.length_map]
        have e1 : ((fs.map (·.1)).zip ds).map (·.1) = fs.map (·.1) := List.map_fst_zip (by rw [List.length_map]; omega)
        have e2 : ((fs.map (·.1)).zip ds).map (·.2) = ds := List.map_snd_zip (by rw [List.length_map]; omega)
        refine .fin ⟨C, dx, kvs, n0, by rw [k _ (by simp)]; exact ha, by rw [k _ (by simp)]; exact ho, by rw [e1]; exact en, ?_⟩
        rw [e2]
        exact frz_flds sm rr q fun c m => k c (by simp [m])
  | tup xs =>
    cases q : toD (.tup xs) with
    | none => simp only [toF, q] at e; cases e
    | some d =>
      simp only [toF, q] at e
      cases e
      exact .d (frz_rep sm r q k)
  | ty n => cases e
  | fns n => cases e
  | opq n => cases e
  | hole => cases e
  | dct ts =>
    simp only [toF] at e
    cases q : asDk ts with
    | none => rw [q] at e; cases e
    | some kvs =>
      rw [q] at e
      cases e
      obtain ⟨a, rfl, h⟩ := frz_dct sm r q k
      exact .fdct h
  | fdct kvs =>
    cases e
    cases r with
    | fdct h => exact .fdct (h.mono sm)
theorem seen_rep (sm : Same I I') (is : List Nat) : ∀ {σ : L2.St} {ρ : Rho} {F : List Addr} (k : Nat), RepR K I H σ ρ F → (∀ a ∈ F, I' a = H a) → RepR K I' H σ (seen is k ρ) []
  | _, _, _, _, .nil, _ => .nil
  | _, _, _, k, .hid r, h => .hid (seen_rep sm is (k + 1) r h)
  | _, _, _, k, .has (t := t) (F := F) (G := G) a r, h => by
    have r' := seen_rep sm is (k + 1) r fun x m => h x (by simp [m])
    have go : ∀ {u : T}, toF t = some u → RepR K I' H (some _ :: _) (some u :: seen is (k + 1) _) [] := fun {u} e => .has (F := []) (G := []) (frz_repT sm a e fun x m => h x (by simp [m])) r'
    cases t with
    | d x => exact go rfl
    | fn n => exact go rfl
    | scr ns => exact go rfl
    | exc n fs => exact go rfl
    | fin n fs => exact go rfl
    | fdct kvs => exact go rfl
    | _ =>
      simp only [seen]
      split
      · cases e : toF _ with
        | none => exact .hid r'
        | some u => exact go e
      · exact .hid r'
end
section
variable {X : Cx} {w : Wd} {e : Expr} {fe : M T}
theorem Ok.look {K : PySem.W.Frag} {m : List Bool} {B : Bs} {σ : L2.St} {H : Hp} {ρ : Rho} {ws : List V} {ts : List T} (is : List Nat) (ok : Ok K m B σ H ρ ws ts) :
    ∃ B' : Bs, Ok K m B' σ H (seen is 0 ρ) [] [] ∧ ∀ H' ρ' x d, Ok K m B' σ H' ρ' [x] [.d d] → flat d = true → Ok K m B σ H' ρ (x :: ws) (.d d :: ts) := by
  obtain ⟨I, Fr, Fw, s, r, w', km⟩ := ok
  let I' : Hp := fun c => if c ∈ Fr then H c else I c
  have e1 : ∀ c, c ∈ Fr → I' c = H c := fun c m => if_pos m
  have e2 : ∀ c, c ∉ Fr → I' c = I c := fun c m => if_neg m
  have sm : Same I I' := fun c o q => by
    by_cases m : c ∈ Fr
    · rw [s.own c (List.mem_append_left _ m)] at q; cases q
    · rw [e2 c m]; exact q
  have sub : Same I' H := fun c o q => by
    by_cases m : c ∈ Fr
    · rw [e1 c m] at q; exact q
    · rw [e2 c m] at q; exact s.sub c o q
  refine ⟨⟨I', H, [], B.s⟩, ⟨I', [], [], ⟨sub, Same.refl _, fun a o _ z => z, fun a o z => .inl z, (fun a z => nomatch z), (fun a z => nomatch z), (fun a z => nomatch z), List.Pairwise.nil⟩, seen_rep sm is 0 r e1, .nil, km⟩, fun H' ρ' x d q hf => ?_⟩
  obtain ⟨I2, F1, F2, s2, r2, w2, _⟩ := q
  have all : ∀ a o, H a = some o → H' a = some o := fun a o z => s2.keep a o (fun m => nomatch m) z
  have same : ∀ a ∈ Fr ++ Fw, H' a = H a := fun a z => by
    cases h : H a with
    | none => exact absurd h (s.thr a z)
    | some o => exact all a o h
  refine ⟨I, Fr, Fw, ⟨fun a o z => all a o (s.sub a o z), s.ext, fun a o n z => all a o (s.keep a o n z), s.new, s.fr, s.own, fun a z => by rw [same a z]; exact s.thr a z, s.nd⟩, r.mono (Same.refl _) fun a z => same a (List.mem_append_left _ z), ?_, km⟩
  have hw := w'.mono (Same.refl I) fun a z => same a (List.mem_append_right _ z)
  cases w2 with
  | cons pa pb =>
    cases pa with
    | d q => exact .cons (F := []) (.d (flat_dr hf q)) hw
end
end DL
end
section
set_option Elab.async false
set_option linter.all false
set_option maxRecDepth 100000
set_option maxHeartbeats 4000000
namespace DL
open PySem L2 PySem.Spec PyProof.Rows
inductive Step | fld (f : Str) | idx (k : Int)
section
variable {K : PySem.W.Frag} {ns : List Str} {I I' H H' : Hp}
end
section
variable {X : Cx} {w : Wd} {e : Expr} {i : Nat} {rp : List Step} {ns : List Str} {x f : Str} {pos pos' : Pos}
end
end DL
end
section
set_option Elab.async false
set_option linter.all false
set_option maxRecDepth 100000
set_option maxHeartbeats 4000000
namespace DL
open PySem L2 PySem.Spec PyProof.Rows
section
variable {K : PySem.W.Frag} {I H : Hp} {ns : List Str}
theorem perm4 {α : Type} (a b c d : List α) : List.Perm (a ++ (b ++ (c ++ d))) ((a ++ c) ++ (b ++ d)) := by
  rw [List.append_assoc]
  refine List.Perm.append_left _ ?_
  rw [← List.append_assoc, ← List.append_assoc]
  exact List.Perm.append_right _ List.perm_append_comm
end
section
variable {X : Cx} {w : Wd} {n id : String} {name : Str} {r : V → List V → Hp → VK → Prop} {g : T → List T → Option (T × T)} {fs : M (List T)} {os : List (Option Nat)} {o e : Expr} {es : List Expr} {apos cpos : Pos} {i : Nat} {rp : List Step} {ns : List Str}
end
end DL
end
section
set_option Elab.async false
set_option linter.all false
set_option maxRecDepth 100000
set_option maxHeartbeats 4000000
namespace DL
open PySem L2 PySem.Spec PyProof.Rows
structure OexB (K : PySem.W.Frag) (C : Addr) (B initId : String) : Prop where
  cls : ∃ nm q N bs bm sn sub ab col dd k0 k1 k2 k3 k5 newId bmB, K.lookup C = some (excClassObj nm q C N bs bm true sn sub ab col dd k0 k1 k2 k3 k5 newId) ∧ PySem.W.excTail bmB bm = true ∧ ExcBaseFacts B newId initId bmB ∧ StoreFacts B bmB "object.__setattr__" "object"
  sat : PySem.W.findIn K (.ref C) "__setattr__" = some (some (.builtin "object.__setattr__"))
  exB : PySem.W.subIn K (.ref C) (.type "BaseException") = some true
  tyB : PySem.W.typeIn K (.ref C) = some (.type "type")
  kpB : PySem.W.keepIn K (.ref C) = true
  hdB : PySem.W.hasDictIn K C = true
section
variable {K : PySem.W.Frag} {C : Addr} {B initId : String} {f : Str}
theorem OexB.over (T : OexB K C B initId) : ∃ bmB, PySem.W.excOver K C bmB = true ∧ StoreFacts B bmB "object.__setattr__" "object" := by
  obtain ⟨nm, q, N, bs, bm, sn, sub, ab, col, dd, k0, k1, k2, k3, k5, newId, bmB, hC, ht, FB, SF⟩ := T.cls
  refine ⟨bmB, ?_, SF⟩
  unfold PySem.W.excOver PySem.W.clsIn
  rw [hC]
  show ((Option.some _).any _) = true
  simp [ht]
theorem taker_none (h : PySem.W.findIn K (.ref C) f = some none) : PySem.W.takerIn K C f = some none := by
  unfold PySem.W.takerIn
  rw [h]
  rfl
end
section
variable {X : Cx} {pins : List (Addr × Obj)} {σ : L2.St} {H : Hp} {s : Shared} {a C dx : Addr} {f : Str} {y : V} {u : Value} {fs : List (Str × V)} {Q : Unit → Shared → Prop} {E : Value → Shared → Prop} {A : Around} {B initId : String}
theorem upd_id {H : Hp} {a : Addr} {o : HO} (e : H a = some o) : upd H a o = H := by
  funext b
  by_cases z : b = a
  · rw [z, upd_same, e]
  · rw [upd_ne z]
theorem put_first (T : OexB X.K C B initId) (I : Inv X pins σ H s) (e : H a = some (exo a C none)) (hno : PySem.W.findIn X.K (.ref C) f = some none) (ry : RelV y u)
    (then_ : ∀ dx s', H dx = none → dx ≠ a → Inv X pins σ (upd (upd H dx (exd dx [(f, y)])) a (exo a C (some dx))) s' → Q () s') : wpAny (model X.prog X.w) A (setAttr (.ref a) f u) Q E s := by
  obtain ⟨bmB, ov, SF⟩ := T.over
  obtain ⟨tz, hoo⟩ := exo_at I.hok e
  have hnd : H s.heap.objs.size = none := I.hok.fresh (Nat.le_refl _)
  have nea : s.heap.objs.size ≠ a := fun z => by rw [z, e] at hnd; cases hnd
  obtain ⟨cd, hc, hd'⟩ := PySem.W.any_some T.hdB
  obtain ⟨hp, g, d, t, os⟩ := s
  refine PySem.W.set_plain I.kIn (ox := PySem.W.excObj C tz none .none) (od := none) ⟨hoo, rfl, rfl, trivial⟩ T.sat ?_
  refine PySem.W.osa_openX (od := none) SF I.kIn ⟨hoo, rfl, rfl, trivial⟩ ov (taker_none hno) fun b => ?_
  refine wpAny_bind (wpAny_pure (wpAny_bind (PySem.W.instanceDict_exc hoo (PySem.W.looks_clsIn I.kIn hc) hd' ?_)))
  have e1 : (hp.push (PySem.W.dictOf [] 0)).get? hp.objs.size = some (PySem.W.dictOf [] 0) := Heap.get?_push_size hp rfl
  have I1 := I.laid (a := hp.objs.size) (o := exd hp.objs.size []) (h' := hp.push (PySem.W.dictOf [] 0)) (t' := t) (fun b u q => Heap.get?_push_of_some _ q) (Nat.le_refl _)
    (exd_ok (Heap.Ns1.of_empty (show (hp.push (PySem.W.dictOf [] 0)).Ns hp.objs.size (fun _ => none) from ⟨_, #[], _, e1, rfl, fun e he => absurd he (by simp), fun _ => rfl⟩)) fun _ => True.intro)
  have ha1 : (hp.push (PySem.W.dictOf [] 0)).get? a = some (PySem.W.excObj C tz none .none) := Heap.get?_push_of_some _ hoo
  have ha2 : ((hp.push (PySem.W.dictOf [] 0)).update a fun o => { o with dict := some hp.objs.size }).get? a = some (PySem.W.excObj C tz (some hp.objs.size) .none) := Heap.get?_update_self _ ha1 rfl
  have ea1 : (upd H hp.objs.size (exd hp.objs.size [])) a = some (exo a C none) := by rw [upd_ne (Ne.symm nea)]; exact e
  have I2 := I1.write (t' := t) (x := a) (e := a) (o := exo a C (some hp.objs.size)) (h' := (hp.push (PySem.W.dictOf [] 0)).update a fun o => { o with dict := some hp.objs.size }) (by rw [ea1]; exact True.intro) (.inl rfl)
    (fun b o hb q => (Heap.get?_update_ne _ _ _ _ hb).trans q) ⟨_, ha2⟩ (exo_ok ha2)
  have ed2 : (upd (upd H hp.objs.size (exd hp.objs.size [])) a (exo a C (some hp.objs.size))) hp.objs.size = some (exd hp.objs.size []) := by rw [upd_ne nea, upd_same]
  show wpAny _ _ (Builtin.ObjectAttr.storeInDict hp.objs.size (.str f (t)) f u) _ _ _
  refine PySem.HandSPX.store_in_new ?_ fun hz' tz' hn hs => ?_
  · exact ⟨_, #[], _, (Heap.get?_update_ne _ _ _ _ nea).trans e1, rfl, fun e he => absurd he (by simp), fun _ => rfl⟩
  · have I3 := I2.write (t' := tz') (x := hp.objs.size) (e := hp.objs.size) (o := exd hp.objs.size [(f, y)]) (h' := hz') (by rw [ed2]; exact True.intro) (.inl rfl) (fun b o hb q => (hs.2 b hb).trans q)
      (by obtain ⟨o, _, _, z, _⟩ := hn; exact ⟨o, z⟩) (exd_ok hn (relO_put (fs := []) ry fun g => True.intro))
    rw [upd_comm nea, upd_upd, upd_comm (Ne.symm nea)] at I3
    exact then_ _ _ hnd nea I3
theorem put_next (T : OexB X.K C B initId) (I : Inv X pins σ H s) (e : H a = some (exo a C (some dx))) (ed : H dx = some (exd dx fs)) (hl : fs.length ≤ 900) (hno : PySem.W.findIn X.K (.ref C) f = some none) (ry : RelV y u)
    (then_ : ∀ s', Inv X pins σ (upd H dx (exd dx ((f, y) :: fs))) s' → Q () s') : wpAny (model X.prog X.w) A (setAttr (.ref a) f u) Q E s := by
  obtain ⟨bmB, ov, SF⟩ := T.over
  obtain ⟨tz, hoo⟩ := exo_at I.hok e
  obtain ⟨mz, nsx, rlx⟩ := exd_at I.hok ed
  obtain ⟨cd, hc, hd'⟩ := PySem.W.any_some T.hdB
  obtain ⟨hp, g, d, t, os⟩ := s
  obtain ⟨oD, _, _, hoD, _, _⟩ := id nsx
  refine PySem.W.set_plain I.kIn (ox := PySem.W.excObj C tz (some dx) .none) (od := some oD) ⟨hoo, rfl, rfl, hoD⟩ T.sat ?_
  refine PySem.W.osa_openX (od := some oD) SF I.kIn ⟨hoo, rfl, rfl, hoD⟩ ov (taker_none hno) fun b => ?_
  refine wpAny_bind (wpAny_pure (wpAny_bind (wpAny_bind (wpAny_loadPart hoo (wpAny_bind ((PySem.W.looks_clsIn I.kIn hc).at ?_))))))
  rw [hd']
  refine wpAny_pure (a := (some dx : Option Addr)) ?_
  refine PySem.OEX.store_in_old nsx (within_of rlx) (by rw [List.length_map]; omega) fun hz' tz' hn hs => ?_
  exact then_ _ (I.write (t' := tz') (x := dx) (e := dx) (o := exd dx ((f, y) :: fs)) (by rw [ed]; exact True.intro) (.inl rfl) (fun b o hb q => (hs.2 b hb).trans q)
    (by obtain ⟨o, _, _, z, _⟩ := hn; exact ⟨o, z⟩) (exd_ok hn (relO_put ry rlx)))
theorem base_init {us : List Value} {Q : Value → Shared → Prop} (T : OexB X.K C B initId) (I : Inv X pins σ H s) (e : H a = some (exo a C none)) (hl : us.length ≤ sizeLine) (h : ∀ s', Inv X pins σ H s' → Q .none s') :
    wpAny (model X.prog X.w) A (call (.builtin initId) (.ref a :: us)) Q E s := by
  obtain ⟨nm, q, N, bs, bm, sn, sub, ab, col, dd, k0, k1, k2, k3, k5, newId, bmB, hC, ht, FB, SF⟩ := T.cls
  obtain ⟨tz, hoo⟩ := exo_at I.hok e
  obtain ⟨hp, g, d, t, os⟩ := s
  refine wpAny_call (PySem.HandSPX.init_base FB (fun Y => PySem.W.excTail_contains Y _ ht) (I.kIn _ _ hC) hoo hl fun hz' t2 k hx => ?_)
  have J0 := I.write (t' := t) (x := a) (e := a) (o := exo a C none) (by rw [e]; exact True.intro) (.inl rfl) k ⟨_, hx⟩ (exo_ok hx)
  rw [upd_id e] at J0
  exact h _ J0
end
def tBi (K : PySem.W.Frag) (B initId : String) (ta : TA) : TE := fun σ H Q => ta σ H fun vs H1 => ∃ (a C : Addr) (ws : List V), vs = .ref a :: ws ∧ ws.length ≤ 1000 ∧ OexB K C B initId ∧ H1 a = some (exo a C none) ∧ Q .non H1
def tOsb (K : PySem.W.Frag) (B initId : String) (f : Str) (to te : TE) : TS := fun D σ H => te σ H fun y H1 => to σ H1 fun x H2 => ∃ a C : Addr, x = .ref a ∧ OexB K C B initId ∧ PySem.W.findIn K (.ref C) f = some none ∧
  (((H2 a = some (exo a C none)) ∧ ∀ dx, H2 dx = none → dx ≠ a → D.nx σ (upd (upd H2 dx (exd dx [(f, y)])) a (exo a C (some dx)))) ∨
    ∃ (dx : Addr) (fs : List (Str × V)), (H2 a = some (exo a C (some dx))) ∧ H2 dx = some (exd dx fs) ∧ fs.length ≤ 900 ∧ D.nx σ (upd H2 dx (exd dx ((f, y) :: fs))))
section
variable {X : Cx} {o e : Expr} {es : List Expr} {to te : TE} {ta : TA} {f : Str} {p p' p1 p2 pos : Pos} {B initId : String}
theorem pe_binit {x : Str} {pl : Sem Bool} (hg : Gl X x) (hm : X.mg x = none) (bt : bootBuiltins x = some (.type B)) (tb : typeOf (.type B) = pure (.type "type")) (nst : Manifest.isStub B = false) (hh : PySem.W.handedIn (.builtin initId) = true) (vV : PySem.W.findCls X.K (.type B) (.type "type") "__init__" = some (.val (.builtin initId))) (ha : PA X (e :: es) ta) (hn : x ≠ "__name__") (hd : (x == ("__debug__" : Str)) = false)
    (hc : eval (.Call (.Attribute (.Name x p1) "__init__" p2) (e :: es) [] pos) X.env = (do
      let ov ← eval (.Name x p1) X.env
      standAt p2.atName
      let (f, first) ← (holding [ov] (getMethod ov "__init__" pl))
      callWith pos f first (backTo pos (starEach (e :: es) X.env)) (backToKw pos (keywordEach [] X.env))))
    (he : starEach (e :: es) X.env = (false, eval e X.env) :: starEach es X.env) (hpl : (backTo pos (starEach es X.env)).any (·.1) = false) :
    PE X (.Call (.Attribute (.Name x p1) "__init__" p2) (e :: es) [] pos) (tBi X.K B initId ta) := by
  refine ⟨fun pins s σ H Q I h => ?_⟩
  refine PySem.W.methodCall_KW (ld_blt I hg hm bt ?_ hn hd) hc
  obtain ⟨m, fr⟩ := I.fr
  refine PySem.W.method_type fr I.ok.mod.kin tb nst vV hh ?_
  show wpAny _ _ (callWith pos (Value.builtin initId) [] (backTo pos (starEach (e :: es) X.env)) []) _ _ _
  refine PyProof.Rows.callWith_method1 (thn (ha.run pos pins _ σ H _ (I.tok _) h) fun us s1 ⟨vs, H1, I1, r1, a, C, ws, ev, hl, T, ea, q⟩ => ?_) he hpl
  subst ev
  cases r1 with
  | @cons _ u0 _ uz ra rw' =>
    obtain rfl : u0 = (.ref a : Value) := ra
    have hln : uz.length ≤ sizeLine := by
      rw [← Paired.length rw', sizeLine_eq]
      omega
    exact base_init T I1 ea hln fun s' J => ⟨.non, H1, J, rfl, q⟩
theorem ps_osb (hoo : PE X o to) (he : PE X e te) (hs : swapsWith e (some (.Attribute o f p')) pos.line X.env = pure false) : PS X (.Assign [.Attribute o f p'] e pos) (tOsb X.K B initId f to te) := by
  refine ⟨fun pins s σ H D I h => ?_⟩
  refine plainObj_wpAny_Assign_Attribute (thn (he.run pins s σ H _ I h) fun v s1 ⟨y, H1, I1, r1, q1⟩ => thn (hoo.run pins s1 σ H1 _ I1 q1) fun u s2 ⟨x, H2, I2, r2, a, C, ex, T, hno, q⟩ => ?_) hs
  subst ex
  obtain rfl : u = (.ref a : Value) := r2
  rcases q with ⟨ea, q3⟩ | ⟨dx, fs, ea, ed, hl, q3⟩
  · exact put_first T I2 ea hno r1 fun dx s' n ne J => ⟨σ, _, J, q3 dx n ne⟩
  · exact put_next T I2 ea ed hl hno r1 fun s' J => ⟨σ, _, J, q3⟩
end
def InitS (C : Addr) (fs : List Str) : Sp := fun vs H Q E => ∃ (a : Addr) (us : List V), vs = .ref a :: us ∧ us.length = fs.length ∧ H a = some (exo a C none) ∧ (fs = [] → Q .non H) ∧
  (fs ≠ [] → ∀ dx, H dx = none → dx ≠ a → Q .non (upd (upd H dx (exd dx (fs.zip us).reverse)) a (exo a C (some dx))))
section
variable {X : Cx} {C : Addr} {fs : List Str} {k : Nat} {sts : List Stmt} {f msg x : Str} {B initId : String}
theorem inb_cons (T : OexB X.K C B initId) (hno : ∀ f ∈ fs, PySem.W.findIn X.K (.ref C) f = some none) (hsq : fs.length ≤ 900) (k : Nat) {p1 p2 p3 p4 : Pos} (r : Ini X C fs (k + 1) sts) (hk : fs[k]? = some f := by rfl) (h0 : X.N[0]? = some ("self" : Str) := by rfl) (h1 : X.N[k + 1]? = some f := by rfl)
    (v0 : Vis X.env.scope "self" := by first | exact Or.inl rfl | exact Or.inr (Or.inl rfl)) (v1 : Vis X.env.scope f := by first | exact Or.inl rfl | exact Or.inr (Or.inl rfl)) (n1 : (f == ("__debug__" : Str)) = false := by decide) (n2 : (f == ("__classdict__" : Str)) = false := by decide)
    (hs : swapsWith (.Name f p3) (some (.Attribute (.Name "self" p1) f p2)) p4.line X.env = pure false := by rfl) : Ini X C fs k (.Assign [.Attribute (.Name "self" p1) f p2] (.Name f p3) p4 :: sts) := by
  obtain ⟨t, pt, ht⟩ := r.ex
  refine ⟨_, pss_cons (ps_osb (B := B) (initId := initId) (pe_var (i := 0) h0 v0) (pe_var (i := k + 1) h1 v1 n1 n2) hs) pt, fun D σ H a dx us s0 ss hl ne ea ed q => ?_⟩
  have hkl := (List.getElem?_eq_some_iff.mp hk).1
  obtain ⟨u, hu, hσ⟩ := ss k hkl
  refine ⟨u, hσ, .ref a, s0, a, C, rfl, T, hno f (List.mem_of_getElem? hk), .inr ⟨dx, _, ea, ed, ?_, ?_⟩⟩
  · rw [List.length_reverse, List.length_zip, List.length_take, List.length_take]; omega
  · refine ht D σ _ a dx us s0 ss hl ne (by rw [upd_ne ne]; exact ea) (by rw [upd_same, zip_next hk hu]) ?_
    rw [upd_upd]
    exact q
structure InB (X : Cx) (C : Addr) (fs : List Str) (sts : List Stmt) : Prop where
  ex : ∃ t, PSs X sts t ∧ ∀ (D : L2.Ends) (σ : L2.St) (H : Hp) (a : Addr) (us : List V), σ[0]? = some (some (.ref a)) → (∀ j, j < fs.length → ∃ u, us[j]? = some u ∧ σ[j + 1]? = some (some u)) → us.length = fs.length → H a = some (exo a C none) → (fs = [] → D.nx σ H) →
    (fs ≠ [] → ∀ dx, H dx = none → dx ≠ a → D.nx σ (upd (upd H dx (exd dx (fs.zip us).reverse)) a (exo a C (some dx)))) → t D σ H
structure BaseOf (K : PySem.W.Frag) (mg : Str → Option Value) (x : Str) (B initId : String) : Prop where
  hm : mg x = none
  bt : bootBuiltins x = some (.type B)
  tb : typeOf (.type B) = pure (.type "type")
  nst : Manifest.isStub B = false
  hh : PySem.W.handedIn (.builtin initId) = true
  vV : PySem.W.findCls K (.type B) (.type "type") "__init__" = some (.val (.builtin initId))
theorem inb1 (T : OexB X.K C B initId) (hno : ∀ f ∈ fs, PySem.W.findIn X.K (.ref C) f = some none) (b : BaseOf X.K X.mg x B initId)
    {j : Nat} {pl : Sem Bool} {q1 q2 q3 q4 q5 q6 p1 p2 p3 p4 : Pos} (r : Ini X C fs 1 sts) (hk : fs[0]? = some f := by rfl) (h0 : X.N[0]? = some ("self" : Str) := by rfl) (h1 : X.N[1]? = some f := by rfl) (hg : Gl X x := by rfl) (hn : x ≠ "__name__" := by decide) (hd : (x == ("__debug__" : Str)) = false := by decide)
    (v0 : Vis X.env.scope "self" := by first | exact Or.inl rfl | exact Or.inr (Or.inl rfl)) (v1 : Vis X.env.scope f := by first | exact Or.inl rfl | exact Or.inr (Or.inl rfl)) (n1 : (f == ("__debug__" : Str)) = false := by decide) (n2 : (f == ("__classdict__" : Str)) = false := by decide)
    (hs : swapsWith (.Name f p3) (some (.Attribute (.Name "self" p1) f p2)) p4.line X.env = pure false := by rfl)
    (hs0 : swapsWith (.Call (.Attribute (.Name x q1) "__init__" q2) [.Name "self" q3, .Constant (.str msg) j q4] [] q5) none q6.line X.env = pure false := by rfl)
    (hc : eval (.Call (.Attribute (.Name x q1) "__init__" q2) [.Name "self" q3, .Constant (.str msg) j q4] [] q5) X.env = (do
      let ov ← eval (.Name x q1) X.env
      standAt q2.atName
      let (f, first) ← (holding [ov] (getMethod ov "__init__" pl))
      callWith q5 f first (backTo q5 (starEach [.Name "self" q3, .Constant (.str msg) j q4] X.env)) (backToKw q5 (keywordEach [] X.env))) := by rfl)
    (hpl : (backTo q5 (starEach [.Constant (.str msg) j q4] X.env)).any (·.1) = false := by rfl) :
    InB X C fs (.Expr (.Call (.Attribute (.Name x q1) "__init__" q2) [.Name "self" q3, .Constant (.str msg) j q4] [] q5) q6 :: .Assign [.Attribute (.Name "self" p1) f p2] (.Name f p3) p4 :: sts) := by
  obtain ⟨t, pt, ht⟩ := r.ex
  refine ⟨_, pss_cons (ps_expr (pe_binit hg b.hm b.bt b.tb b.nst b.hh b.vV (pa_cons (pe_var (i := 0) h0 v0) (pa_cons pe_str pa_nil)) hn hd hc rfl hpl) hs0)
    (pss_cons (ps_osb (B := B) (initId := initId) (pe_var (i := 0) h0 v0) (pe_var (i := 1) h1 v1 n1 n2) hs) pt), fun D σ H a us s0 ss hl ea _ q => ?_⟩
  have hkl := (List.getElem?_eq_some_iff.mp hk).1
  obtain ⟨u, hu, hσ⟩ := ss 0 hkl
  have hne : fs ≠ [] := fun z => by rw [z] at hkl; exact absurd hkl (Nat.not_lt_zero _)
  refine ⟨.ref a, s0, a, C, [.str msg], rfl, by simp, T, ea, ?_⟩
  refine ⟨u, hσ, .ref a, s0, a, C, rfl, T, hno f (List.mem_of_getElem? hk), .inl ⟨ea, fun dx hd ne => ?_⟩⟩
  refine ht D σ _ a dx us s0 ss hl (Ne.symm ne) upd_same ?_ ?_
  · rw [upd_ne ne, upd_same, show (1 : Nat) = 0 + 1 from rfl, zip_next hk hu]
    simp
  · rw [upd_comm (Ne.symm ne), upd_upd]
    exact q hne dx hd ne
end
section
variable {P : Program} {w : World} {K : PySem.W.Frag} {mg : Str → Option Value} {base : Heap} {k : Nat} {fI : Addr} {fd : FuncData} {fs : List Str} {qual : Str} {st : Stmt} {C : Addr} {CX : CXT}
theorem inits_ok (U : Fun K "__init__" qual st fI fd) (S : FnScope ("self" :: fs) ("self" :: fs) (defScope st))
    (body : ∀ (cd : Value) (A : Around) (outer : List Env) (s : Shared) (H : Hp) (E : XK), InB (cxOf CX P w K mg base ("self" :: fs) qual (defScope st) fI cd A outer s H E) C fs (defBody st)) : FnOk P w K mg base CX (k + 1) fI fd ("self" :: fs) (InitS C fs) := by
  obtain ⟨oc, od, kV, doc, pm, an, cdv, ct, osl, rfl, lk, hcd⟩ := U.ex
  refine fn_of lk hcd S (fun vs H Q E h => ?_) fun A outer s H vs Q E hr h => ?_
  · obtain ⟨a, us, rfl, hl, _⟩ := h
    simp [hl]
  · obtain ⟨a, us, rfl, hl, ea, q0, q⟩ := h
    obtain ⟨t, pt, ht⟩ := (body cdv A outer s H E).ex
    refine ⟨t, pt, ht _ _ _ a us (start_at rfl) (fun j hj => ?_) hl ea (fun z => q0 z) fun z dx hd ne => q z dx hd ne⟩
    rw [← hl] at hj
    exact ⟨us[j], List.getElem?_eq_getElem hj, start_at (by rw [List.getElem?_cons_succ, List.getElem?_eq_getElem hj])⟩
end
def MadeE (C a : Addr) (od : Option Addr) (oe : Obj) : Prop := oe.cls = .ref C ∧ oe.dict = od ∧ ∃ ws, oe.data = .fields ws
section
variable {X : Cx} {e : Expr} {es : List Expr} {ta : TA} {p pos : Pos} {B initId x : String}
end
end DL
end
section
set_option Elab.async false
set_option linter.all false
set_option maxRecDepth 100000
set_option maxHeartbeats 4000000
namespace DL
open PySem L2 PySem.Spec PyProof.Rows
structure ExcB (P : Program) (w : World) (K : PySem.W.Frag) (mg : Str → Option Value) (base : Heap) (n : Str) (k : Nat) (fs : List Str) : Prop where
  ex : ∃ (C fI : Addr) (fd : FuncData) (B iid : String), PySem.W.nsIn K mainGlobals n = some (some (.ref C)) ∧ mg n = some (.ref C) ∧ OexB K C B iid ∧ PySem.W.findIn K (.ref C) "__init__" = some (some (.ref fI)) ∧ PySem.W.typeIn K (.ref fI) = some (.type "function") ∧
    FnOk P w K mg base (L2.CX P w) k fI fd ("self" :: fs) (InitS C fs) ∧ Binds K fd ("self" :: fs) []
section
variable {K : PySem.W.Frag} {m : List Bool} {B : Bs} {σ : L2.St} {H : Hp} {ρ : Rho} {ws xs : List V} {ts : List T} {ds : List PyData} {n : Str} {fs : List Str} {C a dx : Addr} {oe : Obj}
theorem Ok.made (hC : PySem.W.nsIn K mainGlobals n = some (some (.ref C))) (ok : Ok K m B σ H ρ (xs ++ ws) (ds.map T.d ++ ts)) (hl : xs.length = ds.length) (hf : ds.length = fs.length) (h0 : fs ≠ []) (hd : H dx = none) (ha : H a = none) (ne : dx ≠ a) (me : MadeE C a (some dx) oe) :
    Ok K m B σ (upd (upd H dx (.xd (fs.zip xs).reverse)) a (exq a oe)) ρ (.ref a :: ws) (.exc n (fs.zip ds).reverse :: ts) := by
  obtain ⟨I, Fr, Fw, s, r, w, km⟩ := ok
  obtain ⟨G, E, hF, g, w'⟩ := RepTs.split (by rw [hl, List.length_map]) w
  subst hF
  have dd := drAll_pending hl w
  have s1 := s.newD (o := .xd (fs.zip xs).reverse) hd
  have ha1 : (upd H dx (.xd (fs.zip xs).reverse)) a = none := by rw [upd_ne (Ne.symm ne)]; exact ha
  have s2 := s1.newD (o := exq a oe) ha1
  have hI1 := (s.fresh hd).2.1
  have hI2 := (s1.fresh ha1).2.1
  have sm : Same I (upd (upd I dx (.xd (fs.zip xs).reverse)) a (exq a oe)) := fun b u e => by
    rw [upd_ne (ne_of_none (by rw [upd_ne (ne_of_none e hI1)]; exact e) hI2), upd_ne (ne_of_none e hI1)]; exact e
  have nf : ∀ b ∈ Fr ++ (G ++ E), (upd (upd H dx (.xd (fs.zip xs).reverse)) a (exq a oe)) b = H b := fun b z => by
    rw [upd_ne (show b ≠ a from fun e => s.thr b z (by rw [e]; exact ha)), upd_ne (show b ≠ dx from fun e => s.thr b z (by rw [e]; exact hd))]
  have ea : ExcAt K (upd (upd I dx (.xd (fs.zip xs).reverse)) a (exq a oe)) a n (fs.zip ds).reverse := by
    refine ⟨oe, C, xs.reverse, upd_same, me.1, me.2.2, fun _ => ⟨dx, me.2.1, ?_⟩, fun z => absurd z (rev_ne hf h0), ?_, hC⟩
    · rw [upd_ne ne, upd_same, rev_fst hf, zip_rev (by omega)]
    · rw [rev_snd hf]
      exact (drAll_mono sm dd).reverse
  refine ⟨_, Fr, E, s2.less (fun b z => ?_) ?_, r.mono sm fun b z => nf b (List.mem_append_left _ z), .cons (F := []) (.exc ea) (w'.mono sm fun b z => nf b (by simp [z])), km⟩
  · rcases List.mem_append.mp z with z | z
    · exact List.mem_append_left _ z
    · exact List.mem_append_right _ (List.mem_append_right _ z)
  · exact (List.Sublist.append (List.Sublist.refl _) (List.sublist_append_right _ _)).nodup s.nd
end
section
variable {X : Cx} {w : Wd} {e : Expr} {es : List Expr} {fa : M (List T)} {os : List (Option Nat)} {k k' : Nat} {n : Str} {p pos : Pos} {fs : List Str} {K : PySem.W.Frag} {t : TA} {C : Addr}
end
section
variable {K : PySem.W.Frag} {m : List Bool}
end
structure HasE0 (K : PySem.W.Frag) (n qual : Str) (st : Stmt) (fs : List Str) (B iid : String) : Prop where
  ex : ∃ (C fI : Addr) (fd : FuncData), PySem.W.nsIn K mainGlobals n = some (some (.ref C)) ∧ OexB K C B iid ∧ PySem.W.findIn K (.ref C) "__init__" = some (some (.ref fI)) ∧ PySem.W.typeIn K (.ref fI) = some (.type "function") ∧ Fun K "__init__" qual st fI fd ∧ (∀ f ∈ fs, PySem.W.findIn K (.ref C) f = some none)
structure HasE (K : PySem.W.Frag) (mg : Str → Option Value) (n qual : Str) (st : Stmt) (fs : List Str) (B iid : String) : Prop where
  ex : ∃ (C fI : Addr) (fd : FuncData), PySem.W.nsIn K mainGlobals n = some (some (.ref C)) ∧ mg n = some (.ref C) ∧ OexB K C B iid ∧ PySem.W.findIn K (.ref C) "__init__" = some (some (.ref fI)) ∧ PySem.W.typeIn K (.ref fI) = some (.type "function") ∧ Fun K "__init__" qual st fI fd ∧ (∀ f ∈ fs, PySem.W.findIn K (.ref C) f = some none)
section
variable {K : PySem.W.Frag} {h : Heap} {mg : Str → Option Value} {n qual : Str} {st : Stmt} {fs : List Str} {C fI : Addr} {B iid newId : String} {bmB : List Value}
theorem HasE0.at (X : K.In h) (G : h.Ns mainGlobals mg) (a : HasE0 K n qual st fs B iid) : HasE K mg n qual st fs B iid := by
  obtain ⟨C, fI, fd, h1, h2⟩ := a.ex
  exact ⟨C, fI, fd, h1, PySem.W.mg_of X G h1, h2⟩
theorem HasE0.by_ {nm q : Str} {N : Addr} {bs bm : List Value} {sn : _} {sub ab col dd k0 k1 k2 k3 k5 : _} {oc : Value} {od an : Option Addr} {osl : Array (Option Value)} {kV doc pm cdv ct : Value} (FB : ExcBaseFacts B newId iid bmB) (SF : StoreFacts B bmB "object.__setattr__" "object") (a : PySem.W.nsIn K mainGlobals n = some (some (.ref C)))
    (l : K.lookup C = some (excClassObj nm q C N bs bm true sn sub ab col dd k0 k1 k2 k3 k5 newId)) (hb : PySem.W.excTail bmB bm = true) (sa : PySem.W.findIn K (.ref C) "__setattr__" = some (some (.builtin "object.__setattr__")))
    (ex : PySem.W.subIn K (.ref C) (.type "BaseException") = some true) (ty : PySem.W.typeIn K (.ref C) = some (.type "type")) (kp : PySem.W.keepIn K (.ref C) = true) (hd : PySem.W.hasDictIn K C = true) (i : PySem.W.findIn K (.ref C) "__init__" = some (some (.ref fI))) (ti : PySem.W.typeIn K (.ref fI) = some (.type "function"))
    (lf : K.lookup fI = some ⟨oc, od, .func (PySem.W.fnOf "__init__" qual (defArgs st) (defBody st) (defScope st) .none kV doc pm an cdv ct), osl⟩) (cf : PySem.W.codeIn K cdv qual = true) (kf : PySem.W.keepIn K (.ref fI) = true)
    (hno : ∀ f ∈ fs, PySem.W.findIn K (.ref C) f = some none) : HasE0 K n qual st fs B iid :=
  ⟨C, fI, _, a, ⟨⟨_, _, _, _, _, _, _, _, _, _, _, _, _, _, _, _, _, l, hb, FB, SF⟩, sa, ex, ty, kp, hd⟩, i, ti, fun_mk lf cf kf, hno⟩
structure HasBI (K : PySem.W.Frag) (B iid : String) : Prop where
  vV : PySem.W.findCls K (.type B) (.type "type") "__init__" = some (.val (.builtin iid))
end
end DL
end
section
set_option Elab.async false
set_option linter.all false
set_option maxRecDepth 100000
set_option maxHeartbeats 4000000
namespace DL
open PySem L2 PySem.Spec PyProof.Rows
section
variable {K : PySem.W.Frag} {m : List Bool} {X : Cx} {w : Wd} {a b : Expr} {fa fb : M T} {pos : Pos}
end
section
variable {K : PySem.W.Frag} {mg : Str → Option Value}
theorem base_ValueError (h : mg "ValueError" = none) (v : PySem.W.findCls K (.type "ValueError") (.type "type") "__init__" = some (.val (.builtin "ValueError.__init__"))) : BaseOf K mg "ValueError" "ValueError" "ValueError.__init__" := ⟨h, bt_ValueError, by kernel_rfl, by decide +kernel, by decide +kernel, v⟩
end
end DL
end
section
set_option Elab.async false
set_option linter.all false
set_option maxRecDepth 100000
set_option maxHeartbeats 4000000
namespace DL
open PySem L2 PySem.Spec PyProof.Rows
def tMkR (C : Addr) (sp : Sp) (ta : TA) : L2.St → Hp → XK → Prop := fun σ H Q => ta σ H fun vs H1 => vs.length ≤ 1000 ∧ ∀ a, H1 a = none → sp (.ref a :: (vs ++ [])) (upd H1 a (exo a C none))
  (fun v H2 => v = .non ∧ ((H2 = upd H1 a (exo a C none) ∧ Q (.ref C) none H1) ∨
    ∃ (d : Addr) (fs : List (Str × V)), H2 a = some (exo a C (some d)) ∧ H2 d = some (exd d fs) ∧ H1 d = none ∧ Q (.ref C) (some d) (upd (del H2 a) d (.xd fs)))) (fun _ _ _ => False)
section
variable {X : Cx} {pins : List (Addr × Obj)} {σ : L2.St}
theorem bare_end {H1 : Hp} {Q : XK} {hp hp2 h2 : Heap} {g1 g2 : Array GenState} {d1 d2 : Drawn} {n1 n2 : Nat} {os1 os2 : OsState} {a C : Addr} (T : Raises X (.ref C)) (I1 : Inv X pins σ H1 ⟨hp, g1, d1, n1, os1⟩) (ha : hp.objs.size ≤ a) (k : ∀ b o, hp.get? b = some o → hp2.get? b = some o)
    (un : Un (frs X.stack) [] (upd H1 a (exo a C none)) (upd H1 a (exo a C none)) hp2 h2) (hok : HOk X.prog X.w (upd H1 a (exo a C none)) h2) (he : os2 = os1) (hb : AllBare g2) (q : Q (.ref C) none H1) : MkP X pins σ Q (.ref a) ⟨h2, g2, d2, n2, os2⟩ := by
  obtain ⟨tx, hoe⟩ := exo_at hok upd_same
  have hn : H1 a = none := I1.hok.fresh ha
  obtain ⟨G, ga, gb⟩ := restrict h2 fun b => decide (b ≠ a)
  have gk : ∀ b, b ≠ a → G.get? b = h2.get? b := fun b z => ga b (decide_eq_true z)
  have ge : G.get? a = none := gb a (decide_eq_false fun z => z rfl)
  have away : ∀ {b : Addr} {o : Obj}, hp.get? b = some o → b ≠ a := fun {b o} z => Nat.ne_of_lt (Nat.lt_of_lt_of_le (Heap.lt_size z) ha)
  have none_ : ∀ {b : Addr}, b ≠ a → H1 b = none → (upd H1 a (exo a C none)) b = none := fun {b} z n => (upd_ne z).trans n
  have U : Un (frs X.stack) [] H1 H1 hp G := {
    keep := fun b o z n hf hx => (gk b (away z)).trans (un.keep b o (k b o z) (none_ (away z) n) hf hx)
    slot := fun b o z n hf hx => by
      have y := un.slot b o (k b o z) (none_ (away z) n) hf hx
      rw [← gk b (away z)] at y
      exact y
    free := fun b o z n hx => n
    there := fun b o z hx => by
      have y := un.there b o (k b o z) hx
      rw [← gk b (away z)] at y
      exact y
    tups := fun b xs z => z
    frzs := fun b o v z => z
    tbls := fun b ps z => by
      refine ⟨#[], ?_⟩
      rw [z]
      simp }
  have hok2 : HOk X.prog X.w H1 G := fun b o z => by
    have hba : b ≠ a := fun e => by rw [e, hn] at z; cases z
    have y := hok b o ((upd_ne hba).trans z)
    have hne : ∀ {c : Addr} {u : HO}, H1 c = some u → c ≠ a := fun {c u} e => ne_of_none e hn
    refine y.stay (fun c v hc e => ?_) (fun c hc => ?_) (fun c xs hc => ?_)
    · have hca : c ≠ a := by
        rcases hc with hc | hc
        · rw [hc]; exact hba
        · exact at_ne upd_same hc exo_own
      rw [gk c hca]
      exact e
    · rw [upd_ne (at_ne upd_same hc exo_own)] at hc; exact hc
    · rw [upd_ne (at_ne upd_same hc exo_tup)] at hc; exact hc
  have J : Inv X pins σ H1 ⟨G, g2, d2, n2, os2⟩ := I1.call' (ch := []) he U hok2 hb (fun b z => nomatch z)
  refine ⟨a, _, _, ⟨G, g2, d2, n2, os2⟩, H1, .ref C, none, rfl, J, fun b o z => ?_, ge, hoe, ⟨rfl, rfl⟩, rfl, rfl, hn, rfl, hb, T, q⟩
  by_cases hba : b = a
  · rw [hba, ge] at z
    cases z
  · exact (gk b hba).symm.trans z
end
section
variable {X : Cx} {e : Expr} {es : List Expr} {ta : TA} {p pos : Pos} {B initId n : String}
theorem mkR {pins : List (Addr × Obj)} {σ : L2.St} {H : Hp} {s : Shared} {Q : XK} {us : List Value} {vs : List V} {C fI : Addr} {k : Nat} {fd : FuncData} {ps : List Str} {sp : Sp} (T : OexB X.K C B initId) (iC : PySem.W.findIn X.K (.ref C) "__init__" = some (some (.ref fI))) (tI : PySem.W.typeIn X.K (.ref fI) = some (.type "function"))
    (F1 : FnOk X.prog X.w X.K X.mg X.base (L2.CX X.prog X.w) k fI fd ps sp) (hr : Room (k + 1) X.A) (hb : Binds X.K fd ps []) (I : Inv X pins σ H s) (rv : Vals vs us) (hz : vs.length ≤ 1000) (h : ∀ a, H a = none → sp (.ref a :: (vs ++ [])) (upd H a (exo a C none))
      (fun v H2 => v = .non ∧ ((H2 = upd H a (exo a C none) ∧ Q (.ref C) none H) ∨ ∃ (d : Addr) (fs : List (Str × V)), H2 a = some (exo a C (some d)) ∧ H2 d = some (exd d fs) ∧ H d = none ∧ Q (.ref C) (some d) (upd (del H2 a) d (.xd fs)))) (fun _ _ _ => False)) :
    wpAny (model X.prog X.w) X.A (call (.ref C) us) (MkP X pins σ Q) X.xe s := by
  obtain ⟨nm, q, N, bs, bm, sn, sub, ab, col, dd, k0, k1, k2, k3, k5, newId, bmB, hC, ht, FB, SF⟩ := T.cls
  obtain ⟨hp, g, dr, tk, os⟩ := s
  have old : hp.objs.size ≤ hp.objs.size + 1 := Nat.le_succ _
  have hq := h (hp.objs.size + 1) (I.hok.fresh old)
  have stays : ∀ b o, hp.get? b = some o → ((hp.push (PySem.W.kdv_tup us)).push (PySem.HandSPX.excO C hp.objs.size)).get? b = some o := fun b o e => Heap.get?_push_of_some _ (Heap.get?_push_of_some _ e)
  have there : ((hp.push (PySem.W.kdv_tup us)).push (PySem.HandSPX.excO C hp.objs.size)).get? (hp.objs.size + 1) = some (PySem.HandSPX.excO C hp.objs.size) := by heap_get
  have I2 : Inv X pins σ (upd H (hp.objs.size + 1) (exo (hp.objs.size + 1) C none)) ⟨(hp.push (PySem.W.kdv_tup us)).push (PySem.HandSPX.excO C hp.objs.size), g, dr, tk, os⟩ :=
    I.laid (t' := tk) (a := hp.objs.size + 1) (o := exo (hp.objs.size + 1) C none) (h' := (hp.push (PySem.W.kdv_tup us)).push (PySem.HandSPX.excO C hp.objs.size)) stays old (exo_ok there)
  have r2 : Vals (V.ref (hp.objs.size + 1) :: (vs ++ [])) (Value.ref (hp.objs.size + 1) :: us ++ []) := by
    have e : Vals (vs ++ []) (us ++ []) := by rw [List.append_nil, List.append_nil]; exact rv
    exact .cons rfl e
  have hl : (Value.ref (hp.objs.size + 1) :: us ++ []).length = ps.length := ((F1.len _ _ _ _ hq).symm.trans r2.length).symm
  have few : us.length ≤ sizeLine := by
    rw [← Paired.length rv, sizeLine_eq]
    omega
  refine wpAny_call (PySem.HandSPX.call_own FB (fun Y => PySem.W.excTail_contains Y _ ht) (I.kIn _ _ hC) (PySem.W.looks_findIn I.kIn iC) (fun self => PySem.W.bind_fn I.kIn self tI) few
    (codeAny_mono (F1.run _ X.stack _ _ ⟨Value.ref (hp.objs.size + 1) :: us, []⟩ (Value.ref (hp.objs.size + 1) :: us ++ []) _ _ (fun _ _ _ => False) (hr.make C us []) (I2.env0.make C us []) (hb _ (Value.ref (hp.objs.size + 1) :: us) I2.kIn hl) r2 hq) fun r s' z => ?_))
  match r, z with
  | .error er, z =>
    obtain ⟨_, _, _, _, _, _, _, _, _, _, _, _, z⟩ := z
    exact z.elim
  | .ok (.ret u), z =>
    obtain ⟨v, H2, os2, bare2, un2, hok2, rv', ev, q2⟩ := z
    subst ev
    obtain ⟨h2, g2, d2, t2, os'⟩ := s'
    rcases q2 with ⟨e2, q2⟩ | ⟨d, fs, ea, ed, hd, q2⟩
    · subst e2
      exact ⟨rv', bare_end (raises_own T.exB T.tyB) I old stays un2 hok2 os2 bare2 q2⟩
    · exact ⟨rv', mk_end (raises_own T.exB T.tyB) I old stays un2 hok2 os2 bare2 ea ed hd q2⟩
  | .ok .next, z => exact z.elim
  | .ok .brk, z => exact z.elim
  | .ok .cont, z => exact z.elim
end
section
variable {X : Cx} {w : Wd} {e : Expr} {es : List Expr} {fa : M (List T)} {os : List (Option Nat)} {k k' : Nat} {n : Str} {p pos pos' : Pos} {fs : List Str} {K : PySem.W.Frag} {t : TA} {C : Addr}
theorem okX_bare {K : PySem.W.Frag} {m : List Bool} {cl : Str → Option Value} {B : Bs} {σ : L2.St} {H : Hp} {ρ : Rho} {ws : List V} {ts : List T} {c : Value} (ok : Ok K m B σ H ρ ws ts) (hc : cl n = some c) : OkX K m cl B σ H ρ ⟨n, []⟩ c none := by
  obtain ⟨I, Fr, Fw, s, r, w, km⟩ := ok
  exact ⟨I, Fr, [], s.less (fun a m => List.mem_append_left _ m) (List.nodup_append.mp s.nd).1, r, km, hc, ⟨fun z => absurd rfl z, fun _ => rfl⟩, .nil⟩
theorem den_raise (hm : w.cl n = some (.ref C)) (d : DenA K w t os fa) (B : Bs) (σ : L2.St) (H : Hp) (ρ : Rho) (ws : List V) (ts : List T) (D : L2.Ends) (ok : Ok K w.m B σ H ρ ws ts) (q : PostG K w B (sraise n fs fa ρ) (PostS K w B ws ts D)) :
    tMkR C (InitS C fs) t σ H (fun c dd H' => w.W c dd σ H') := by
  refine d B σ H ρ ws ts _ ok (PostG.mono (PostG.bind q) fun vs ρ1 q1 xs H1 hl ok1 _ => ?_)
  have q1 : PostG K w B (xraise n fs (allD vs) ρ1) (PostS K w B ws ts D) := q1
  unfold xraise at q1
  cases e1 : allD vs with
  | none => rw [e1] at q1; exact False.elim q1
  | some ds =>
    rw [e1] at q1
    by_cases hz : ds.length = fs.length ∧ ds.length ≤ 900
    · simp only [if_pos hz] at q1
      have qq : ∀ c dd σ' H', OkX K w.m w.cl B σ' H' ρ1 ⟨n, (fs.zip ds).reverse⟩ c dd → w.W c dd σ' H' := q1
      have hv := allD_eq e1
      subst hv
      rw [List.length_map] at hl
      refine ⟨by omega, fun a na => ⟨a, xs, by rw [List.append_nil], by omega, upd_same, fun z => ⟨rfl, .inl ⟨rfl, ?_⟩⟩, fun z dx hd ne => ⟨rfl, .inr ⟨dx, (fs.zip xs).reverse, upd_same, ?_, ?_, ?_⟩⟩⟩⟩
      · subst z
        have hd0 : ds = [] := List.eq_nil_of_length_eq_zero hz.1
        subst hd0
        have hx0 : xs = [] := List.eq_nil_of_length_eq_zero hl
        subst hx0
        exact qq _ _ _ _ (okX_bare ok1 hm)
      · rw [upd_ne ne, upd_same]
      · rw [upd_ne ne] at hd; exact hd
      · rw [upd_ne ne] at hd
        have e3 : upd (del (upd (upd (upd H1 a (exo a C none)) dx (exd dx (fs.zip xs).reverse)) a (exo a C (some dx))) a) dx (.xd (fs.zip xs).reverse) = upd H1 dx (.xd (fs.zip xs).reverse) := by
          funext c
          by_cases x : c = dx
          · rw [x, upd_same, upd_same]
          · rw [upd_ne x, upd_ne x]
            by_cases y : c = a
            · rw [y, del_same, na]
            · rw [del_ne y, upd_ne y, upd_ne x, upd_ne y]
        rw [e3]
        exact qq _ _ _ _ (ok1.raised hl hz.1 z hd hm)
    · simp only [if_neg hz] at q1
      exact False.elim q1
theorem ds_raiseB (D : ExcB X.prog X.w X.K X.mg X.base n k fs) (at_ : At X w k') (ha : DA X w (e :: es) os fa) (hk : k + 1 ≤ k' := by decide) (hg : Gl X n := by rfl) (hdb : (n == ("__debug__" : Str)) = false := by decide)
    (st : starEach (e :: es) X.env = (false, eval e X.env) :: starEach es X.env := by rfl) (pl : (backTo pos (starEach es X.env)).any (·.1) = false := by rfl) : DS X w (.Raise (some (.Call (.Name n p) (e :: es) [] pos)) none pos') (sraise n fs fa) := by
  obtain ⟨C, fI, fd, Bn, iid, hC, hm, T, iC, tI, F, b⟩ := D.ex
  obtain ⟨t, pt, dt⟩ := ha.ex
  refine ⟨_, ps_raise (t := tMkR C (InitS C fs) t) at_.ca at_.tk (fun pins s σ H Q I h => ?_), fun B σ H ρ ws ts D' ok q => den_raise (by rw [at_.cl]; exact hm) dt B σ H ρ ws ts D' ok q⟩
  exact wpAny_Call_Name_kw (ld_glob I hg hm (PySem.W.callWith_K (h₀ := X.base) I.ok.mod.kin T.kpB (thn (pt.run pos pins s σ H _ I h) fun us s1 ⟨vs, H1, I1, rv, hz, q⟩ => ⟨I1.kIn, mkR T iC tI F (at_.r.mono hk) b I1 rv hz q⟩) st pl) hdb)
end
end DL
end
section
set_option Elab.async false
set_option linter.all false
set_option maxRecDepth 100000
set_option maxHeartbeats 4000000
namespace TX
open PySem PySem.Froz L2 PySem.Spec PyProof.Rows
structure TxR (P : Program) (w : World) (h : Heap) (a : Addr) (l : List Str) : Prop where
  ex : ∃ D : SD, h.get? a = some (sObj "set" D) ∧ TxOk P w D l ∧ Ris D.2.2.place.toList ∧ (w.params.followText "set-order" = true ∨ D.2.2.led = true)
  nd : l.Nodup
section
variable {P : Program} {w : World} {h h' : Heap} {a : Addr} {l : List Str} {D : SD}
theorem TxR.at (R : TxR P w h a l) (k : ∀ o, h.get? a = some o → h'.get? a = some o) : TxR P w h' a l := by
  obtain ⟨D, e, r⟩ := R.ex
  exact ⟨⟨D, k _ e, r⟩, R.nd⟩
theorem ris_add (z : Int) (v : Value) (r : Ris D.2.2.place.toList) : Ris (addTx z v D).2.2.place.toList := by
  have q := layNew_ris D.2.2 D.1 z v r
  unfold addTx tailTx
  split <;> split <;> first | exact relayAll_ris _ _ _ | exact q
theorem led_add (z : Int) (v : Value) : (addTx z v D).2.2.led = D.2.2.led := by
  have q := layNew_led D.2.2 D.1 z v
  unfold addTx tailTx
  split <;> split <;> first | exact (relayAll_led _ _ _).trans q | exact q
variable {A : Around} {E : Value → Shared → Prop} {s : Shared}
theorem put_tx {k : Str} {u : Tok} {Q : Bool → Shared → Prop} (R : TxR P w s.heap a l) (room : l.length + 1 < scanBound)
    (hq : ∀ b g l', Heap.SameBut a s.heap g → TxR P w g a l' → (∀ x, x ∈ l' ↔ x ∈ l ∨ x = k) → l'.length ≤ l.length + 1 → Q b { s with heap := g }) : wpAny (model P w) A (setAddHashed a (.str k u) (hashStr w k)) Q E s := by
  obtain ⟨D, e, T, r, o⟩ := R.ex
  by_cases hk : k ∈ l
  · have q := hq false s.heap l (Heap.SameBut.refl a s.heap) R (fun x => ⟨.inl, fun z => z.elim id fun y => by rw [y]; exact hk⟩) (Nat.le_succ _)
    obtain ⟨es, ep, t⟩ := D
    have hd : (sObj "set" (es, ep, t)).data = .set es ep t := rfl
    have hsz : es.size = l.length := T.sz
    have hf : t.fits es.size = true := T.fit
    have hel : ElemsOf (strKind P w) es.toList := T.el
    have hm : ∃ x ∈ es.toList, (strKind P w).is k x.2 = true := (T.mem k).mp hk
    unfold setAddHashed setAddHashedIn
    refine wpAny_holding (wpAny_bind (wpAny_setState_of e hd hf ?_))
    dsimp only
    rw [byScan_of rfl (by omega) hel]
    simp only [↓reduceIte]
    unfold setAddByScan
    refine wpAny_bind (wpAny_bind (wpAny_rule (wpAny_bind (wpAny_setScan_of (knd := strKind P w) (k := k) (is_str k u) e hd hf hel ?_))))
    cases hi : List.findIdx? (fun x => (strKind P w).is k x.2) es.toList with
    | none =>
      obtain ⟨x, hx, y⟩ := hm
      have c := List.findIdx?_eq_none_iff.mp hi x hx
      rw [y] at c
      cases c
    | some j =>
      dsimp only
      exact wpAny_pure (wpAny_pure q)
  · refine add_x e T hk room (hq true _ (k :: l) (Heap.SameBut.update s.heap a _) ⟨⟨_, get_upd _ e rfl, add_ok u T, ris_add _ _ r, o.imp id fun z => by rw [led_add]; exact z⟩, List.nodup_cons.mpr ⟨hk, R.nd⟩⟩ (fun x => ?_) (Nat.le_refl _))
    rw [List.mem_cons]
    exact Or.comm
theorem put_all {I : Addr} {fp wr : List Addr} {G : Array GenState → Array GenState → Prop} {Pv : Nat → Value → Prop} {St : Nat → Shared → Prop} {R : Result → Shared → Prop} (xs : List Str)
    (W : WalksS P w A.in1 I fp wr G xs.length Pv St) (S : Addr) (away : S ∉ fp) (hb : xs.length + 1 < scanBound) (hval : ∀ i v, Pv i v → ∃ k t, xs[i]? = some k ∧ v = .str k t) :
    ∀ (m i : Nat) (s : Shared), xs.length - i = m → i ≤ xs.length → St i s → (∃ l, TxR P w s.heap S l ∧ (∀ x, x ∈ l ↔ x ∈ xs.take i) ∧ l.length ≤ i) →
      (∀ s' l, Moved (S :: wr) G s s' → TxR P w s'.heap S l → (∀ x, x ∈ l ↔ x ∈ xs) → l.length ≤ xs.length → R (.ok (.ret .none)) s') →
      codeAny (model P w) A (.builtin "set.update.loop" ⟨[.ref S, .ref I], []⟩) R s := by
  have off : S ∉ wr := fun z => away (W.sub _ z)
  have more : ∀ b ∈ wr, b ∈ S :: wr := fun b z => List.mem_cons_of_mem _ z
  intro m
  induction m with
  | zero =>
    intro i s hm hi hst ⟨l, hS, hl, hz⟩ hR
    obtain rfl : i = xs.length := by omega
    refine codeAny_builtin F.entry_set_update_loop ?_
    rw [Around.under_plainId F.plain_set_update_loop _]
    refine wpAny_bind (W.done s _ _ hst fun s' mv => ?_)
    rw [List.take_length] at hl
    exact wpAny_pure (hR s' l (mv.mono more) (hS.at fun o e => mv.heap S o off e) hl hz)
  | succ m ih =>
    intro i s hm hi hst ⟨l, hS, hl, hz⟩ hR
    have lt : i < xs.length := by omega
    refine codeAny_builtin F.entry_set_update_loop ?_
    rw [Around.under_plainId F.plain_set_update_loop _]
    refine wpAny_bind (W.item i s _ _ lt hst fun v s' hP hst' mv => ?_)
    obtain ⟨z, t, ez, rfl⟩ := hval i v hP
    have hS' : TxR P w s'.heap S l := hS.at fun o e => mv.heap S o off e
    show wpAny _ A.in1 (holding [Value.str z t] (setAdd S (.str z t)) >>= _) _ _ s'
    refine wpAny_bind (wpAny_holding ?_)
    unfold setAdd
    refine wpAny_holding (wpAny_bind ((strKind P w).pyHash (k := z) (is_str z t) ?_))
    refine put_tx (s := { s' with toks := s'.toks + 1 }) hS' (by omega) fun b g l' sb hS2 hl2 hz2 => ?_
    have nxt : ∃ l, TxR P w g S l ∧ (∀ x, x ∈ l ↔ x ∈ xs.take (i + 1)) ∧ l.length ≤ i + 1 := ⟨l', hS2, fun x => by
      rw [hl2, hl, List.take_add_one, ez]
      simp [List.mem_append], by omega⟩
    refine wpAny_pure ⟨plainId_quiet F.plain_set_update_loop _, ih (i + 1) _ (by omega) lt (W.frame _ s' _ _ hst' (Nat.le_succ _) fun b hb o e => ?_) nxt fun s2 l2 mv2 q2 q3 q4 => ?_⟩
    · rw [sb.2 b (fun z : b = S => away (by rw [← z]; exact hb))]; exact e
    · refine hR s2 l2 (Moved.trans W.gtrans ((mv.mono more).then_heap (Nat.le_succ _) fun b o hb e => ?_) mv2) q2 q3 q4
      rw [sb.2 b (fun z : b = S => hb (by rw [z]; exact List.mem_cons_self))]; exact e
end
def uniq : List Str → List Str
  | [] => []
  | x :: r => if x ∈ r then uniq r else x :: uniq r
theorem uniq_mem {x : Str} : ∀ l : List Str, x ∈ uniq l ↔ x ∈ l
  | [] => Iff.rfl
  | y :: r => by
    have ih := uniq_mem (x := x) r
    unfold uniq
    by_cases h : y ∈ r
    · rw [if_pos h, ih, List.mem_cons]
      exact ⟨.inr, fun z => z.elim (fun e => by rw [e]; exact h) id⟩
    · rw [if_neg h, List.mem_cons, List.mem_cons, ih]
theorem uniq_nd : ∀ l : List Str, (uniq l).Nodup
  | [] => List.nodup_nil
  | y :: r => by
    unfold uniq
    by_cases h : y ∈ r
    · rw [if_pos h]; exact uniq_nd r
    · rw [if_neg h]; exact List.nodup_cons.mpr ⟨fun z => h ((uniq_mem r).mp z), uniq_nd r⟩
theorem perm_sub : ∀ {l m : List Str}, l.Nodup → (∀ x ∈ l, x ∈ m) → m.length ≤ l.length → m.Perm l
  | [], m, _, _, h => by
    rw [List.eq_nil_of_length_eq_zero (Nat.le_zero.mp h)]
  | x :: l, m, nd, s, h => by
    obtain ⟨n1, n2⟩ := List.nodup_cons.mp nd
    have hx := s x List.mem_cons_self
    have p := List.perm_cons_erase hx
    have hl := List.length_erase_of_mem hx
    have hp := List.length_pos_of_mem hx
    rw [List.length_cons] at h
    have ih := perm_sub (l := l) (m := m.erase x) n2 (fun y hy => (List.mem_erase_of_ne (fun e => n1 (by rw [← e]; exact hy))).mpr (s y (List.mem_cons_of_mem _ hy))) (by omega)
    exact p.trans (ih.cons x)
theorem len_sub : ∀ {l m : List Str}, l.Nodup → (∀ x ∈ l, x ∈ m) → l.length ≤ m.length
  | [], m, _, _ => Nat.zero_le _
  | x :: l, m, nd, s => by
    obtain ⟨n1, n2⟩ := List.nodup_cons.mp nd
    have hx := s x List.mem_cons_self
    have hl := List.length_erase_of_mem hx
    have hp := List.length_pos_of_mem hx
    have ih := len_sub (l := l) (m := m.erase x) n2 (fun y hy => (List.mem_erase_of_ne (fun e => n1 (by rw [← e]; exact hy))).mpr (s y (List.mem_cons_of_mem _ hy)))
    rw [List.length_cons]
    omega
theorem same_perm {l m : List Str} (hl : l.Nodup) (hm : m.Nodup) (h : ∀ x, x ∈ l ↔ x ∈ m) : m.Perm l := perm_sub hl (fun x z => (h x).mp z) (len_sub hm fun x z => (h x).mpr z)

section
variable {P : Program} {w : World} {A : Around} {E : Value → Shared → Prop} {s : Shared} {a : Addr} {l : List Str}
end
end TX
end
section
set_option Elab.async false
set_option linter.all false
set_option maxRecDepth 100000
set_option maxHeartbeats 4000000
namespace TX
open PySem PySem.Froz L2 PySem.Spec PyProof.Rows
section
variable {P : Program} {w : World} {A : Around} {E : Value → Shared → Prop} {s : Shared}
abbrev newSet (w : World) : Obj := { cls := .type "set", dict := none, data := .set #[] 0 (.fresh 0 0 (!w.params.followText "set-order")) }
theorem fresh_tx {h : Heap} {a : Addr} (e : h.get? a = some (newSet w)) : TxR P w h a [] :=
  ⟨⟨(#[], 0, .fresh 0 0 (!w.params.followText "set-order")), e, TxOk.nil (by rfl), List.Pairwise.nil, by
    show _ ∨ (!w.params.followText "set-order") = true
    cases w.params.followText "set-order" <;> simp⟩, List.nodup_nil⟩
theorem str_at : ∀ {vs : List Value} {xs : List Str}, StrsAre vs xs → ∀ (i : Nat) (v : Value), vs[i]? = some v → ∃ k t, xs[i]? = some k ∧ v = .str k t
  | _, _, .nil, i, v, e => by simp at e
  | _, _, .cons x t r, 0, v, e => by
    simp at e
    exact ⟨x, t, rfl, e.symm⟩
  | _, _, .cons x t r, i + 1, v, e => str_at r i v (by simpa using e)
set_option maxRecDepth 100000 in
set_option maxHeartbeats 3200000 in
theorem set_of_list {l : Addr} {items : Array Value} (xs : List Str) {Q : Value → Shared → Prop} (hh : A.handled = none) (hl : s.heap.IsList l items) (hx : StrsAre items.toList xs) (hb : xs.length + 1 < scanBound)
    (h : ∀ (g : Heap) (tk : Nat) (m : List Str), TxR P w g s.heap.objs.size m → (∀ x, x ∈ m ↔ x ∈ xs) → m.length ≤ xs.length → (∀ b o, s.heap.get? b = some o → g.get? b = some o) → Q (.ref s.heap.objs.size) { s with heap := g, toks := tk }) :
    wpAny (model P w) A (call (.type "set") [.ref l]) Q E s := by
  have many : items.size = xs.length := by
    have q := StrsAre.length hx
    rw [Array.length_toList] at q
    exact q
  obtain ⟨c, tl, hmro⟩ := F.called_set.mro
  have f1 := F.called_set.made
  have f2 := F.called_set.sub
  refine wpAny_call (codeAny_of_tree ?_)
  show wpAny _ _ (callAny (.type "set") _) _ _ _
  refine wpAny_pure ⟨Code.quiet_builtin _ (by decide +kernel), codeAny_builtin F.entry_type_call ?_⟩
  rw [Around.under_plain (weight_type_call_type "set" [.ref l] []) rfl]
  have f3 := F.called_set.notType
  have f4 := F.called_set.canCreate
  have f5 := F.typeCall_set_1 (.ref l)
  repeat (any_goals (first | assumption | wp_step))
  refine codeAny_mono (code_set_led1 (.ref l) (E := E) (Q₁ := fun v s1 => v = .ref s.heap.objs.size ∧ s1 = { s with heap := s.heap.push (newSet w) }) ⟨rfl, rfl⟩) fun r s1 hr => ?_
  match r, hr with
  | .error e, hr => exact hr
  | .ok (.ret v), hr =>
    obtain ⟨rfl, rfl⟩ := hr
    have oS : (s.heap.push (newSet w)).get? s.heap.objs.size = some (newSet w) := Heap.get?_push_size _ rfl
    have tS : Shared.TypeIs { s with heap := s.heap.push (newSet w) } (.ref s.heap.objs.size) "set" := ⟨_, oS, rfl⟩
    have f6 := F.called_set.init.lookup
    have f7 := F.called_set.init.bind (.ref s.heap.objs.size)
    repeat (any_goals (first | assumption | wp_step))
    refine codeAny_mono (codeAny_call_builtin (R := wants (fun r s2 => r = .none ∧ ∃ g tk m, s2 = { s with heap := g, toks := tk } ∧ TxR P w g s.heap.objs.size m ∧ (∀ x, x ∈ m ↔ x ∈ xs) ∧ m.length ≤ xs.length ∧ (∀ b o, s.heap.get? b = some o → g.get? b = some o)) E)
      F.called_set.init.plain F.entry_set_init (check_set_init_1 tS ?_)) fun r2 s2 hr2 => ?_
    · obtain ⟨ol, hol, hcl, nl, hdl⟩ := hl
      obtain ⟨oc, od, odt, osl⟩ := ol
      simp only at hcl hdl
      subst hcl hdl
      have hol' : (s.heap.push (newSet w)).get? l = some { cls := .type "list", dict := od, data := .seq items nl, slots := osl } := Heap.get?_push_of_some _ hol
      have f8 := F.sub_list_set
      have f9 := F.sub_list_frozenset
      have f10 : (Value.type "list" == Value.type "dict") = false := by decide
      have isl : (s.heap.push (newSet w)).IsList l items := ⟨_, hol', rfl, nl, rfl⟩
      unfold Builtin.«set.__init__» noKeywords Builtin.Frozenset.updateFrom
      generalize hPI : pyIter = PI
      wp_walk
      subst hPI
      refine wpAny_pyIter_list isl ?_
      refine wpAny_bind (wpAny_runValue ?_)
      have lts : l < s.heap.objs.size := Heap.lt_size hol
      have calm : A.in1.in1.in1.handled = none := by simp [hh]
      have sz1 : (s.heap.push (newSet w)).objs.size = s.heap.objs.size + 1 := Heap.size_push ..
      have ne1 : l ≠ (s.heap.push (newSet w)).objs.size := by rw [sz1]; exact Nat.ne_of_lt (Nat.lt_succ_of_lt lts)
      have off : s.heap.objs.size ∉ [(s.heap.push (newSet w)).objs.size, l] := by
        rw [sz1]
        simp only [List.mem_cons, List.not_mem_nil, or_false, not_or]
        exact And.intro (Nat.ne_of_lt (Nat.lt_succ_self _)) (Nat.ne_of_gt lts)
      have W := (Walks.list (prog := P) (w := w) calm (s.heap.push (newSet w)).objs.size l ne1 items).toS
      rw [many] at W
      refine put_all xs W s.heap.objs.size off hb (fun i v hv => str_at hx i v (by rw [Array.getElem?_toList]; exact hv)) (xs.length - 0) 0 _ (by omega) (Nat.zero_le _) ⟨⟨_, Heap.get?_push_size _ rfl, rfl, rfl⟩, isl.push _⟩
        ⟨[], fresh_tx (Heap.get?_push_of_some _ oS), fun x => by simp, Nat.le_refl _⟩ fun s3 m mv hS hm hz => ?_
      obtain ⟨g, gs, dr, tk, os⟩ := s3
      have eg : gs = s.gens := mv.gens
      have ed : dr = s.drawn := mv.drawn
      have eo : os = s.os := mv.os
      subst eg ed eo
      show wpAny _ _ _ _ _ _
      refine wpAny_pure ?_
      show wpAny _ _ (ret Value.none) _ _ _
      refine wpAny_pure ⟨rfl, g, tk, m, rfl, hS, hm, hz, fun b o q => ?_⟩
      have hb0 : b < s.heap.objs.size := Heap.lt_size q
      refine mv.heap b o ?_ (Heap.get?_push_of_some _ (Heap.get?_push_of_some _ q))
      rw [sz1]
      simp only [List.mem_cons, List.not_mem_nil, or_false, not_or]
      exact And.intro (Nat.ne_of_lt hb0) (Nat.ne_of_lt (Nat.lt_succ_of_lt hb0))
    · match r2, hr2 with
      | .error e, hr2 => exact hr2
      | .ok (.ret r), hr2 =>
        obtain ⟨rfl, g, tk, m, rfl, q1, q2, q3, q4⟩ := hr2
        repeat (any_goals (first | assumption | wp_step))
        exact h _ _ _ q1 q2 q3 q4
      | .ok .next, hr2 => exact hr2.elim
      | .ok .brk, hr2 => exact hr2.elim
      | .ok .cont, hr2 => exact hr2.elim
  | .ok .next, hr => exact hr.elim
  | .ok .brk, hr => exact hr.elim
  | .ok .cont, hr => exact hr.elim
end
end TX
end
section
set_option Elab.async false
set_option linter.all false
set_option maxRecDepth 100000
set_option maxHeartbeats 4000000
namespace DL
open PySem L2 PySem.Spec PyProof.Rows TX
def tLenTx (K : PySem.W.Frag) (ta : TE) : TE := fun σ H Q => ta σ H fun x H1 => ∃ (l : Addr) (xs : List Str), x = .ref l ∧ SqL K H1 l (xs.map V.str) ∧ xs.length < 64 ∧ Q (.int (uniq xs).length) H1
section
variable {X : Cx} {a : Expr} {ta : TE} {p p2 q pos : Pos}
theorem uniq_of {m xs : List Str} (nd : m.Nodup) (h : ∀ x, x ∈ m ↔ x ∈ xs) : m.Perm (uniq xs) := same_perm (uniq_nd xs) nd fun x => by rw [uniq_mem, h]
theorem pe_lenTx (hc : X.calm = true) (hg : Gl X "len") (hm : X.mg "len" = none) (hg2 : Gl X "set") (hm2 : X.mg "set" = none) (ha : PE X a ta)
    (na : starEach [a] X.env = (false, eval a X.env) :: starEach [] X.env := by rfl) : PE X (.Call (.Name "len" p) [.Call (.Name "set" p2) [a] [] q] [] pos) (tLenTx X.K ta) := by
  refine ⟨fun pins s σ H Q I h => ?_⟩
  refine Call_ (ld_blt I hg hm boot_len ?_)
  refine PyProof.Rows.callWith_builtin1 (PyProof.Rows.args_cons ?_ rfl) rfl rfl
  refine Call_ (ld_blt I hg2 hm2 boot_set ?_)
  refine PyProof.Rows.callWith_type1 (PyProof.Rows.args_cons (thn (ha.run pins s σ H _ I h) fun v s1 ⟨x, H1, I1, r1, q1⟩ => PyProof.Rows.args_nil ?_) na) na rfl
  obtain ⟨l, xs, rfl, hq, few, q1⟩ := q1
  cases r1
  obtain ⟨its, r, pl, hz⟩ := I1.list hq
  refine set_of_list xs (I1.ok.hd hc) pl.isList (by simpa using strsAre_of r) (by unfold scanBound; omega) fun g tk m R hm3 hl3 keep => ?_
  refine PyProof.Rows.args_nil ?_
  have I2 : Inv X pins σ H1 { s1 with heap := g, toks := tk } := I1.kept keep
  obtain ⟨D, e, T, r2, o⟩ := R.ex
  obtain ⟨es, ep, t⟩ := D
  have hsz : es.size = m.length := T.sz
  have hum : m.length = (uniq xs).length := (uniq_of R.nd hm3).length_eq
  refine call_len_set e ⟨rfl, rfl, rfl⟩ rfl T.fit (by rw [hsz]; omega) ⟨.int (uniq xs).length, H1, I2.tok _, ⟨_, by rw [hsz, hum]⟩, q1⟩
end
def gLenSet : T → Option T
  | .d (.list ds) => match strsD ds with
    | some xs => if xs.length < 64 then some (.d (.int (uniq xs).length)) else none
    | none => none
  | _ => none
def dap (g : T → Option T) (fa : M T) : M T := mbind fa fun t => mopt (g t)
section
variable {X : Cx} {w : Wd} {a : Expr} {fa : M T} {p p2 q pos : Pos} {k : Nat}
theorem de_lenSet (at_ : At X w k) (hm : X.mg "len" = none) (hm2 : X.mg "set" = none) (ha : DE X w a fa) (hg : Gl X "len" := by rfl) (hg2 : Gl X "set" := by rfl) (na : starEach [a] X.env = (false, eval a X.env) :: starEach [] X.env := by rfl) :
    DE X w (.Call (.Name "len" p) [.Call (.Name "set" p2) [a] [] q] [] pos) (dap gLenSet fa) := by
  obtain ⟨t, pt, dt⟩ := ha.ex
  refine de_v (pe_lenTx at_.ca hg hm hg2 hm2 pt na) fun B σ H ρ ws ts Q ok p => ?_
  refine dt B σ H ρ ws ts _ ok (p.bind.mono fun v ρ1 p1 x H1 ok1 => ?_)
  obtain ⟨z, e, q1⟩ := p1.opt
  unfold gLenSet at e
  split at e
  · rename_i ds
    split at e
    · rename_i xs es
      obtain ⟨h1, e⟩ := reqs e
      subst e
      obtain ⟨l, vs, rfl, hl, da⟩ := ok1.topList
      have hv := strs_all da es
      subst hv
      exact ⟨l, xs, rfl, SqL.of hl, h1, q1 _ _ ok1.pop.int⟩
    · cases e
  · cases e
end
end DL
end
section
set_option Elab.async false
set_option linter.all false
set_option maxRecDepth 100000
set_option maxHeartbeats 4000000
namespace DL
open PySem L2 PySem.Spec PyProof.Rows
section
variable {K : PySem.W.Frag} {m : List Bool} {B : Bs} {σ : L2.St} {H : Hp} {ρ : Rho} {ws : List V} {ts : List T}
theorem Ok.newTupO {vs : List V} {us : List T} {p : Addr} (hl : vs.length = us.length) (h : Ok K m B σ H ρ (vs ++ ws) (us ++ ts)) (hp : H p = none) : Ok K m B σ (upd H p (.tup vs)) ρ (.ref p :: ws) (.tup us :: ts) := by
  obtain ⟨I, Fr, Fw, s, r, w, km⟩ := h
  obtain ⟨G, E, rfl, g, e⟩ := RepTs.split hl w
  have hI := (s.fresh hp).2.1
  have sm : Same I (upd I p (.tup vs)) := fun a u z => by rw [upd_ne (ne_of_none z hI)]; exact z
  have nf : ∀ a ∈ Fr ++ (G ++ E), (upd H p (.tup vs)) a = H a := fun a z => upd_ne (show a ≠ p from fun y => s.thr a z (by rw [y]; exact hp))
  exact ⟨_, Fr, G ++ E, s.newD hp, r.mono sm fun a z => nf a (List.mem_append_left _ z), .cons (.tup (SqT.of upd_same) (g.mono sm fun a z => nf a (by simp [z]))) (e.mono sm fun a z => nf a (by simp [z])), km⟩
theorem Ok.untup {x : V} {us : List T} (h : Ok K m B σ H ρ (x :: ws) (.tup us :: ts)) : ∃ a vs, x = .ref a ∧ SqT K H a vs ∧ vs.length = us.length ∧ Ok K m B σ H ρ (vs ++ ws) (us ++ ts) := by
  obtain ⟨I, Fr, Fw, s, r, w, km⟩ := h
  cases w with
  | cons a b =>
    cases a with
    | tup q it =>
      obtain ⟨E, y, e⟩ := RepTs.append it b
      subst e
      exact ⟨_, _, rfl, st_mono s.sub q, it.len, I, Fr, _, s, r, y, km⟩
end
def dtupO (fs : M (List T)) : M T := mbind fs fun ts => if short ts = true then mret (.tup ts) else mno
section
variable {X : Cx} {w : Wd} {es : List Expr} {fs : M (List T)} {os : List (Option Nat)} {pos : Pos}
theorem de_tupO {x1} (h : DA X w es os fs) : DE X w (.Tuple es x1 pos) (dtupO fs) := by
  obtain ⟨t, p, d⟩ := h.ex
  refine de_v (pe_tup p) fun B σ H ρ ws ts Q ok q => ?_
  refine d B σ H ρ ws ts _ ok (q.bind.mono fun vs ρ1 p1 xs H1 hl ok1 _ => ?_)
  by_cases hz : short vs = true
  · rw [if_pos hz] at p1
    exact ⟨by rw [hl]; exact lim_le (of_decide_eq_true hz), fun p hp => p1 _ _ (Ok.newTupO hl ok1 hp)⟩
  · rw [if_neg hz] at p1
    exact p1.elim
end
section
variable {X : Cx} {w : Wd} {e : Expr} {es : List Expr} {pos : Pos}
end
end DL
end
section
set_option Elab.async false
set_option linter.all false
set_option maxRecDepth 100000
set_option maxHeartbeats 4000000
namespace DL
open PySem L2 PySem.Spec PyProof.Rows
section
variable {K : PySem.W.Frag} {m : List Bool} {B : Bs} {σ : L2.St} {H : Hp} {ρ : Rho} {ws : List V} {ts : List T} {x : V} {t u : T} {i : Nat}
theorem Ok.seal2 (h : Ok K m B σ H ρ (x :: ws) (t :: ts)) (e : toF t = some u) : Ok K m B σ H ρ (x :: x :: ws) (u :: u :: ts) := by
  obtain ⟨I, Fr, Fw, s, r, w, km⟩ := h
  cases w with
  | cons a b =>
    rename_i F G
    have nd := s.nd
    have inF : ∀ c ∈ F, c ∈ Fr ++ (F ++ G) := fun c z => List.mem_append_right _ (List.mem_append_left _ z)
    let J : Hp := fun c => if c ∈ F then H c else I c
    have e1 : ∀ c, c ∈ F → J c = H c := fun c z => if_pos z
    have e2 : ∀ c, c ∉ F → J c = I c := fun c z => if_neg z
    have sm : Same I J := fun c o q => by
      by_cases z : c ∈ F
      · rw [s.own c (inF c z)] at q; cases q
      · rw [e2 c z]; exact q
    have apart : ∀ c ∈ Fr ++ G, c ∉ F := fun c z y => by
      rcases List.mem_append.mp z with z | z
      · exact (List.nodup_append.mp nd).2.2 c z c (List.mem_append_left _ y) rfl
      · exact (List.nodup_append.mp (List.nodup_append.mp nd).2.1).2.2 c y c z rfl
    have inR : ∀ c ∈ Fr ++ G, c ∈ Fr ++ (F ++ G) := fun c z => by
      rcases List.mem_append.mp z with z | z
      · exact List.mem_append_left _ z
      · exact List.mem_append_right _ (List.mem_append_right _ z)
    refine ⟨J, Fr, G, ⟨fun c o q => ?_, fun c o q => sm c o (s.ext c o q), s.keep, fun c o q => ?_, fun c z => s.fr c (inR c z), fun c z => ?_, fun c z => s.thr c (inR c z), (List.Sublist.append (List.Sublist.refl _) (List.sublist_append_right _ _)).nodup nd⟩,
      r.mono sm fun c z => rfl, .cons (F := []) (frz_repT sm a e e1) (.cons (F := []) (frz_repT sm a e e1) (b.mono sm fun c z => rfl)), km⟩
    · by_cases z : c ∈ F
      · rw [e1 c z] at q; exact q
      · rw [e2 c z] at q; exact s.sub c o q
    · by_cases z : c ∈ F
      · rcases s.fr c (inF c z) with y | y
        · exact .inr (.inr y)
        · exact .inr (.inl y)
      · rw [e2 c z] at q; exact s.new c o q
    · rw [e2 c (apart c z)]
      exact s.own c (inR c z)
end
section
variable {X : Cx} {w : Wd} {pos : Pos} {K : PySem.W.Frag}
end
end DL
end
section
set_option Elab.async false
set_option linter.all false
set_option maxRecDepth 100000
set_option maxHeartbeats 4000000
namespace DL
open PySem L2 PySem.Spec PyProof.Rows
structure HasMt (K : PySem.W.Frag) (cn m qual : Str) (st : Stmt) : Prop where
  ex : ∃ C f fd, PySem.W.nsIn K mainGlobals cn = some (some (.ref C)) ∧ Cls K C ∧ Meth K C m f ∧ Fun K m qual st f fd
structure HasMk (K : PySem.W.Frag) (cn qual : Str) (st : Stmt) : Prop where
  ex : ∃ C f fd, PySem.W.nsIn K mainGlobals cn = some (some (.ref C)) ∧ Mk K C f ∧ Fun K "__init__" qual st f fd
section
variable {K : PySem.W.Frag} {cn m qual f : Str} {st : Stmt} {C fa : Addr} {oc : Value} {od an : Option Addr} {osl : Array (Option Value)} {kV doc pm cdv ct : Value}
theorem Cls.by_ (pg : PySem.W.plainGet K C Str.empty = true) (hd : PySem.W.hasDictIn K C = true) (po : PySem.W.plainOver K C = true) (sa : PySem.W.findIn K (.ref C) "__setattr__" = some (some (.builtin "object.__setattr__"))) : Cls K C := ⟨pg, hd, po, sa⟩
theorem HasMt.by_ (a : PySem.W.nsIn K mainGlobals cn = some (some (.ref C))) (pg : PySem.W.plainGet K C Str.empty = true) (hd : PySem.W.hasDictIn K C = true) (po : PySem.W.plainOver K C = true) (sa : PySem.W.findIn K (.ref C) "__setattr__" = some (some (.builtin "object.__setattr__")))
    (at_ : PySem.W.findIn K (.ref C) m = some (some (.ref fa))) (fn : PySem.W.isFn K (.ref fa) = true) (kp : PySem.W.keepIn K (.ref fa) = true)
    (l : K.lookup fa = some ⟨oc, od, .func (PySem.W.fnOf m qual (defArgs st) (defBody st) (defScope st) .none kV doc pm an cdv ct), osl⟩) (c : PySem.W.codeIn K cdv qual = true) : HasMt K cn m qual st := ⟨C, fa, _, a, ⟨pg, hd, po, sa⟩, ⟨at_, fn, kp⟩, fun_mk l c kp⟩
theorem HasMk.by_ (a : PySem.W.nsIn K mainGlobals cn = some (some (.ref C))) (mk : PySem.W.makesIn K C = true) (i : PySem.W.findIn K (.ref C) "__init__" = some (some (.ref fa))) (fn : PySem.W.isFn K (.ref fa) = true) (kc : PySem.W.keepIn K (.ref C) = true) (kf : PySem.W.keepIn K (.ref fa) = true)
    (l : K.lookup fa = some ⟨oc, od, .func (PySem.W.fnOf "__init__" qual (defArgs st) (defBody st) (defScope st) .none kV doc pm an cdv ct), osl⟩) (c : PySem.W.codeIn K cdv qual = true) : HasMk K cn qual st := ⟨C, fa, _, a, ⟨mk, i, fn, kc⟩, fun_mk l c kf⟩
theorem ClsF.by_ (a : PySem.W.nsIn K mainGlobals cn = some (some (.ref C))) (pg : PySem.W.plainGet K C Str.empty = true) (hd : PySem.W.hasDictIn K C = true) (po : PySem.W.plainOver K C = true) (sa : PySem.W.findIn K (.ref C) "__setattr__" = some (some (.builtin "object.__setattr__"))) (n : PySem.W.findIn K (.ref C) f = some none) : ClsF K cn f := ⟨C, a, ⟨pg, hd, po, sa⟩, n⟩
end
section
variable {P : Program} {w : World} {K : PySem.W.Frag} {mg : Str → Option Value} {base : Heap} {cn m : Str} {k n : Nat} {g : Fn} {C f : Addr} {fd : FuncData} {ps : List Str}
theorem DefM.of (hC : PySem.W.nsIn K mainGlobals cn = some (some (.ref C))) (c : Cls K C) (h : Meth K C m f) (F : FnG P w K mg base k f fd ps (FnD K mg n g)) (b : Binds K fd ps []) : DefM P w K mg base cn m k n g := ⟨⟨C, f, fd, ps, hC, c, h, F, b⟩⟩
theorem DefI.of (hC : PySem.W.nsIn K mainGlobals cn = some (some (.ref C))) (hm : mg cn = some (.ref C)) (M : Mk K C f) (F : FnG P w K mg base k f fd ps (FnD K mg n g)) (b : Binds K fd ps []) : DefI P w K mg base cn k n g := ⟨⟨C, f, fd, ps, [], hC, hm, M, .of F, b⟩⟩
end
theorem At.nx {X : Cx} {w : Wd} {k : Nat} (a : At X w k) : At X w.nx k := ⟨a.g, a.r, a.tk.imp fun _ _ _ _ z => False.elim z, a.cl, a.ca, a.po⟩
end DL
end
section
set_option Elab.async false
set_option linter.all false
set_option maxRecDepth 100000
set_option maxHeartbeats 4000000
namespace DL
open PySem L2
section
variable {K : PySem.W.Frag} {I H : Hp}
theorem RepTs.lend : ∀ {vs : List V} {L : List T} {F : List Addr} {i : Nat} {t : T}, RepTs K I H vs L F → L[i]? = some t → ∃ v G E, vs[i]? = some v ∧ RepT K I H v t G ∧ RepTs K I H vs (L.set i .hole) E ∧ List.Perm (G ++ E) F
  | _, _, _, i, _, .nil, e => by simp at e
  | _, _, _, 0, _, .cons (v := v) (F := F) (G := G) a b, e => by
    simp at e
    subst e
    exact ⟨v, F, G, rfl, a, .cons (F := []) .hole b, List.Perm.refl _⟩
  | _, _, _, i + 1, t, .cons (F := F) a b, e => by
    obtain ⟨v, G, E, h1, h2, h3, h4⟩ := RepTs.lend (i := i) b (by simpa using e)
    refine ⟨v, G, F ++ E, by simpa using h1, h2, .cons a h3, ?_⟩
    rw [← List.append_assoc]
    refine (List.Perm.append_right _ List.perm_append_comm).trans ?_
    rw [List.append_assoc]
    exact List.Perm.append_left _ h4
theorem RepTs.give : ∀ {vs : List V} {L : List T} {F G : List Addr} {i : Nat} {v : V} {t : T}, RepTs K I H vs L F → vs[i]? = some v → L[i]? = some .hole → RepT K I H v t G → ∃ E, RepTs K I H vs (L.set i t) E ∧ List.Perm (G ++ F) E
  | _, _, _, _, i, _, _, .nil, e, _, _ => by simp at e
  | _, _, _, G, 0, v, t, .cons (F := F) a b, e, e2, r => by
    simp at e e2
    subst e
    subst e2
    cases a
    exact ⟨_, .cons r b, List.Perm.refl _⟩
  | _, _, _, G, i + 1, v, t, .cons (F := F) a b, e, e2, r => by
    obtain ⟨E, h1, h2⟩ := RepTs.give (i := i) b (by simpa using e) (by simpa using e2) r
    refine ⟨F ++ E, .cons a h1, ?_⟩
    rw [← List.append_assoc]
    refine (List.Perm.append_right _ List.perm_append_comm).trans ?_
    rw [List.append_assoc]
    exact List.Perm.append_left _ h2
end
theorem lend_perm {a : Addr} {F1 F2 G E Fr : List Addr} (h4 : List.Perm (G ++ E) F1) : List.Perm (Fr ++ (a :: F1 ++ F2)) (Fr ++ (G ++ (a :: E ++ F2))) := by
  refine List.Perm.append_left _ ?_
  have p1 : List.Perm (a :: F1 ++ F2) (a :: (G ++ E) ++ F2) := List.Perm.append_right _ (List.Perm.cons _ h4.symm)
  refine p1.trans ?_
  have p2 : List.Perm (a :: (G ++ E)) (G ++ (a :: E)) := List.perm_middle.symm
  have p3 := List.Perm.append_right F2 p2
  refine p3.trans ?_
  rw [List.append_assoc]
theorem give_perm {a : Addr} {F1 F2 G E Fr : List Addr} (h2 : List.Perm (G ++ F1) E) : List.Perm (Fr ++ (G ++ (a :: F1 ++ F2))) (Fr ++ (a :: E ++ F2)) := by
  refine List.Perm.append_left _ ?_
  have p2 : List.Perm (G ++ (a :: F1)) (a :: (G ++ F1)) := List.perm_middle
  have p3 : List.Perm (G ++ (a :: F1)) (a :: E) := p2.trans (List.Perm.cons _ h2)
  rw [← List.append_assoc]
  exact List.Perm.append_right _ p3
section
variable {K : PySem.W.Frag} {m : List Bool} {B : Bs} {σ : L2.St} {H : Hp} {ρ : Rho} {ws vs : List V} {ts L : List T} {a : Addr} {i : Nat} {t : T} {v : V}
theorem Ok.lend (h : Ok K m B σ H ρ (.ref a :: ws) (.lst L :: ts)) (e : L[i]? = some t) : ∃ vs v, H a = some (.lst vs) ∧ vs[i]? = some v ∧ vs.length = L.length ∧ Ok K m B σ H ρ (v :: .ref a :: ws) (t :: .lst (L.set i .hole) :: ts) := by
  obtain ⟨I, Fr, Fw, s, r, w, km⟩ := h
  cases w with
  | cons x y =>
    cases x with
    | lst ha it =>
      obtain ⟨v, G, E, h1, h2, h3, h4⟩ := it.lend e
      exact ⟨_, v, ha, h1, it.len, I, Fr, _, s.perm (lend_perm h4), r, .cons h2 (.cons (.lst ha h3) y), km⟩
theorem Ok.give (h : Ok K m B σ H ρ (v :: .ref a :: ws) (t :: .lst L :: ts)) (ha : H a = some (.lst vs)) (hv : vs[i]? = some v) (e : L[i]? = some .hole) : Ok K m B σ H ρ (.ref a :: ws) (.lst (L.set i t) :: ts) := by
  obtain ⟨I, Fr, Fw, s, r, w, km⟩ := h
  cases w with
  | cons x y =>
    cases y with
    | cons y z =>
      cases y with
      | lst hb it =>
        rw [ha] at hb
        cases hb
        obtain ⟨E, h1, h2⟩ := it.give hv e x
        exact ⟨I, Fr, _, s.perm (give_perm h2), r, .cons (.lst ha h1) z, km⟩
theorem Ok.shell (h : Ok K m B σ H ρ (.ref a :: ws) (.lst L :: ts)) : ∃ B', Ok K m B' σ H ρ [] [] ∧ ∀ {σ' : L2.St} {H' : Hp} {ρ' : Rho} {vs : List V} {us : List T}, Ok K m B' σ' H' ρ' vs us → H' a = H a ∧ Ok K m B σ' H' ρ' (vs ++ .ref a :: ws) (us ++ .lst L :: ts) := by
  obtain ⟨I, Fr, Fw, s, r, w, km⟩ := h
  refine ⟨_, Ok.alone s r km, fun {σ' H' ρ' vs us} q => ⟨?_, Ok.framed s w q⟩⟩
  obtain ⟨I', F1, F2, s', r', w', km'⟩ := q
  obtain ⟨S, st, sm⟩ := s.join s'
  cases w with
  | cons x y =>
    cases x with
    | lst ha it => exact st a (by simp)
theorem PostG.noexE {α : Type} {w : Wd} {f : M α} {P : α → Rho → Prop} (h : PostG K w B (mnoex f ρ) P) : ∃ x ρ', f ρ = .ok x ρ' ∧ P x ρ' := by
  unfold mnoex at h
  cases e : f ρ with
  | ok x ρ' => rw [e] at h; exact ⟨x, ρ', rfl, h⟩
  | ex e ρ' => rw [e] at h; exact h.elim
  | no => rw [e] at h; exact h.elim
theorem PostG.ok {α : Type} {w : Wd} {f : M α} {x : α} {ρ' : Rho} {P : α → Rho → Prop} (h : f ρ = .ok x ρ') (p : P x ρ') : PostG K w B (f ρ) P := by
  rw [h]
  exact p
end
def mlend (j : Nat) (fe : M T) : List T → List T → M (List T)
  | done, [] => mret done
  | done, t :: ts => mbind (mset j t) fun _ => mbind (mnoex fe) fun _ => mbind (dtake j) fun t' => mlend j fe (done ++ [t']) ts
def mput (i : Nat) (t : T) : M Unit := fun ρ => .ok () (ρ.set i (some t))
def sforE (i j : Nat) (fe : M T) : M Fl := mbind (dtake i) fun t => match t with
  | .lst xs => mbind (mlend j fe [] xs) fun ys => mbind (mput i (.lst ys)) fun _ => mret .nx
  | _ => mno
theorem set_app {α : Type} (done : List α) (t t' : α) (ts : List α) : (done ++ t :: ts).set done.length t' = done ++ t' :: ts := by
  induction done with
  | nil => rfl
  | cons d ds ih => simp [ih]
theorem get_app {α : Type} (done : List α) (t : α) (ts : List α) : (done ++ t :: ts)[done.length]? = some t := by
  simp
theorem take_of {K : PySem.W.Frag} {w : Wd} {B : Bs} {ρ : Rho} {i : Nat} {P : T → Rho → Prop} (q : PostG K w B (dtake i ρ) P) : ∃ t, ρ[i]? = some (some t) ∧ P t (ρ.set i none) := by
  unfold dtake at q
  split at q
  · rename_i t e
    exact ⟨t, e, q⟩
  · exact q.elim
section
variable {X : Cx} {w : Wd} {e iter : Expr} {f fe : M T} {pos npos epos pos' : Pos} {k i j : Nat} {x y : Str}
theorem lend_turns {K : PySem.W.Frag} {B : Bs} {te : TE} {a : Addr} {ws : List V} {ts xs : List T} {σ0 : L2.St} {Hs : Hp} {ρ1 : Rho} {P : List T → Rho → Prop} {N : L2.St → Hp → Prop} {D : L2.Ends} (hj : NotM w j) (de : DenE K w.nx te fe)
    (ok1 : Ok K w.m B σ0 Hs ρ1 (.ref a :: ws) (.lst xs :: ts)) (p1 : PostG K w B (mlend j fe [] xs ρ1) P) (fin : ∀ ys ρ' σ' H', P ys ρ' → SameOut [j] σ0 σ' → Ok K w.m B σ' H' ρ' (.ref a :: ws) (.lst ys :: ts) → N σ' H') :
    ∃ W : Nat → Nat → L2.St → Hp → Prop, (∃ m, W 0 m σ0 Hs) ∧ ∀ i m σ H, W i m σ H → ((Itl K a).stop i H ∧ N σ H) ∨ ((Itl K a).go i H ∧ ∃ W' : L2.St → Hp → Prop, (∀ σ' H', W' σ' H' → ∃ m', m' < m ∧ W (i + 1) m' σ' H') ∧
      ∀ z H', (Itl K a).yld i H z H' → te (σ.set j (some z)) H' fun _ H2 => W' (σ.set j (some z)) H2) := by
  refine ⟨fun i n σ H => n = xs.length - i ∧ ∃ done rest ρ, done.length = i ∧ done.length + rest.length = xs.length ∧ SameOut [j] σ0 σ ∧ Ok K w.m B σ H ρ (.ref a :: ws) (.lst (done ++ rest) :: ts) ∧ PostG K w B (mlend j fe done rest ρ) P, ⟨_, rfl, [], xs, ρ1, rfl, by simp, ⟨rfl, fun _ _ => rfl⟩, ok1, p1⟩, ?_⟩
  rintro i n σ H ⟨rfl, done, rest, ρ, rfl, hl, so, ok2, p2⟩
  cases rest with
  | nil =>
    rw [List.append_nil] at ok2
    refine .inl ⟨?_, fin done ρ σ H p2 so ok2⟩
    obtain ⟨b, vs, hb, hH, hL⟩ := ok2.ownList
    cases hb
    exact ⟨vs, SqL.of hH, by rw [hL]; exact Nat.le_refl _⟩
  | cons t rest =>
    obtain ⟨vs, v, ha, hv, hL, ok3⟩ := ok2.lend (get_app done t rest)
    refine .inr ⟨⟨vs, v, SqL.of ha, hv⟩, fun σ' H' => ∃ done' ρ', done'.length = done.length + 1 ∧ done'.length + rest.length = xs.length ∧ SameOut [j] σ0 σ' ∧ Ok K w.m B σ' H' ρ' (.ref a :: ws) (.lst (done' ++ rest) :: ts) ∧ PostG K w B (mlend j fe done' rest ρ') P,
      fun σ' H' ⟨done', ρ', h1, h2, h3, h4, h5⟩ => ⟨xs.length - (done.length + 1), by simp at hl; omega, rfl, done', rest, ρ', h1, h2, h3, h4, h5⟩, ?_⟩
    rintro z H' ⟨rfl, yz⟩
    have ez := yz vs (SqL.of ha)
    rw [hv] at ez
    cases ez
    have ok4 := ok3.store hj
    rw [set_app] at ok4
    obtain ⟨B', ok5, back⟩ := ok4.shell
    have p3 : PostG K w B (mbind (mnoex fe) (fun _ => mbind (dtake j) fun t' => mlend j fe (done ++ [t']) rest) (ρ.set j (some t))) P := p2
    obtain ⟨r, ρ3, e3, p4⟩ := PostG.noexE p3.bind
    refine de B' _ _ _ [] [] _ ok5 (PostG.ok e3 fun y H2 ok6 => ?_)
    obtain ⟨t', et, p5⟩ := take_of (PostG.bind p4)
    obtain ⟨v', ev, ok7⟩ := ok6.pop.take et
    have hjl : j < σ.length := by
      rcases Nat.lt_or_ge j σ.length with z | z
      · exact z
      · rw [List.set_eq_of_length_le z] at ev
        rw [List.getElem?_eq_none z] at ev
        cases ev
    rw [List.getElem?_set_self hjl] at ev
    cases ev
    obtain ⟨hH2, ok8⟩ := back ok7
    have ok9 := Ok.give (i := done.length) (vs := vs) ok8 (by rw [hH2]; exact ha) hv (get_app done .hole rest)
    rw [set_app] at ok9
    refine ⟨done ++ [t'], _, by simp, by simp at hl ⊢; omega, ⟨by rw [List.length_set]; exact so.1, fun q hq => ?_⟩, by rw [List.append_assoc]; exact ok9, p5⟩
    rw [List.getElem?_set_ne (fun z => hq (by rw [← z]; exact List.mem_singleton_self _))]
    exact so.2 q hq
theorem ds_forE (i j : Nat) (at_ : At X w k) (hN : X.N.Nodup) (he : DE X w.nx e fe) (hij : i ≠ j := by decide) (hm : NotM w j := by intro h; cases h) (hi : X.N[i]? = some x := by rfl) (hv : Vis X.env.scope x := by first | exact Or.inl rfl | exact Or.inr (Or.inl rfl) | exact Or.inr (Or.inr rfl)) (hd : (x == ("__debug__" : Str)) = false := by decide)
    (hcd : (x == ("__classdict__" : Str)) = false := by decide) (hj : X.N[j]? = some y := by rfl) (hy : Loc X.env.scope y := by first | exact Or.inl rfl | exact Or.inr rfl) (hsw : swapsWith e none epos.line X.env = pure false := by rfl)
    (hs : ∀ z, foldedSetIterable (.Name x pos') X.env z = pure z := by intro _; rfl) (hf : X.fn y = true ∨ X.env.scope.names.lookup y = some .local := by first | exact .inl rfl | exact .inr rfl | assumption) : DS X w (.For (.Name y npos) (.Name x pos') [.Expr e epos] [] pos) (sforE i j fe) := by
  obtain ⟨te, pe, de⟩ := he.ex
  refine ⟨_, ps_for at_.po at_.ca (pi_list (pe_var hi hv hd hcd)) (pg_name hN hj hy hf) (pss_one (ps_expr pe hsw)) hs, fun B σ H ρ ws ts D ok q => ?_⟩
  obtain ⟨t, et, p1⟩ := take_of q.bind
  obtain ⟨v, ev, ok1⟩ := ok.take et
  match t, p1 with
  | .lst xs, p1 =>
    have p1 : PostG X.K w B (mbind (mlend j fe [] xs) (fun ys => mbind (mput i (.lst ys)) fun _ => mret .nx) (ρ.set i none)) (PostS X.K w B ws ts D) := p1
    obtain ⟨a, vs, rfl, ha, hl⟩ := ok1.ownList
    refine ⟨_, ev, a, rfl, ⟨vs, SqL.of ha⟩, ?_⟩
    obtain ⟨W, w0, w1⟩ := lend_turns (D := D) (N := fun σ H => D.nx σ H) hm de ok1 p1.bind fun ys ρ' σ' H' p so o => by
      have p : ∀ σ' H', Ok X.K w.m B σ' H' (ρ'.set i (some (.lst ys))) ws ts → D.nx σ' H' := p
      exact p σ' H' (o.back (i := i) (by rw [so.2 i (by simp [hij])]; exact ev))
    refine ⟨W, w0, fun i m σ H hW => ?_⟩
    rcases w1 i m σ H hW with z | ⟨go, W', h1, h2⟩
    · exact .inl z
    · exact .inr ⟨go, W', h1, fun z H' y => h2 z H' y⟩
end
def lcGoE (j : Nat) (fe : M T) : List T → List T → List T → M (List T × List T)
  | done, [], acc => mret (done, acc)
  | done, t :: ts, acc => mbind (mset j t) fun _ => mbind fe fun r => mbind (dtake j) fun t' => mbind (mwipe [j]) fun _ => if acc.length < lim then lcGoE j fe (done ++ [t']) ts (acc ++ [r]) else mno
def dlcE (i j : Nat) (fe : M T) : M T := mbind (dtake i) fun t => match t with
  | .lst xs => mbind (mwipe [j]) fun _ => mbind (mnoex (lcGoE j fe [] xs [])) fun r => mbind (mput i (.lst r.1)) fun _ => mret (.lst r.2)
  | _ => mno
section
variable {X : Cx} {w : Wd} {e elt : Expr} {fe : M T} {pos npos pos' : Pos} {k i j : Nat} {x y : Str}
theorem PostG.okX {α : Type} {K : PySem.W.Frag} {B : Bs} {w : Wd} {f : M α} {ρ : Rho} {P : α → Rho → Prop} (h : PostG K w B (mnoex f ρ) P) : PostG K w.nx B (f ρ) P := h.noex
theorem mbind_ok {α β : Type} {f : M α} {g : α → M β} {ρ ρ2 : Rho} {b : β} (h : mbind f g ρ = .ok b ρ2) : ∃ a ρ1, f ρ = .ok a ρ1 ∧ g a ρ1 = .ok b ρ2 := by
  unfold mbind at h
  cases e : f ρ with
  | ok a ρ1 => rw [e] at h; exact ⟨a, ρ1, rfl, h⟩
  | ex x ρ1 => rw [e] at h; cases h
  | no => rw [e] at h; cases h
theorem dtake_ok {j : Nat} {ρ ρ1 : Rho} {t : T} (h : dtake j ρ = .ok t ρ1) : ρ[j]? = some (some t) ∧ ρ1 = ρ.set j none := by
  unfold dtake at h
  split at h
  · rename_i u e
    cases h
    exact ⟨e, rfl⟩
  · cases h
theorem den_lcE {K : PySem.W.Frag} {te : TE} (hij : i ≠ j) (hm : NotM w j) (de : DenE K w.nx te fe) : DenE K w (tLc (iList K (tVar i)) (gName j) tYes te [j]) (dlcE i j fe) := fun B σ H ρ ws ts Q ok q => by
  obtain ⟨t, et, p1⟩ := take_of q.bind
  obtain ⟨v, ev, ok1⟩ := ok.take et
  match t, p1 with
  | .lst xs, p1 =>
    have p2 : PostG K w B (mbind (mnoex (lcGoE j fe [] xs [])) (fun r => mbind (mput i (T.lst r.1)) fun _ => mret (T.lst r.2)) (wipeR (ρ.set i none) [j])) (fun v ρ' => ∀ (x : V) (H' : Hp), Ok K w.m B σ H' ρ' (x :: ws) (v :: ts) → Q x H') := p1
    obtain ⟨rr, ρe, ee, pe⟩ := PostG.noexE p2.bind
    obtain ⟨a, vs, rfl, ha, hl⟩ := ok1.ownList
    refine ⟨_, ev, a, rfl, ⟨vs, SqL.of ha⟩, fun D hD => ?_⟩
    have km : Kept w.m B σ := by
      obtain ⟨_, _, _, _, _, _, k⟩ := ok
      exact k
    have hv : ∀ i ∈ [j], w.m[i]? ≠ some true := fun i h => by
      simp at h
      subst h
      exact hm
    have ok2 : Ok K w.m B (L2.wipe σ [j]) (upd H D (.lst [])) (wipeR (ρ.set i none) [j]) (.ref a :: .ref D :: ws) (.lst xs :: .lst [] :: ts) := (Ok.newOwn (vs := []) (us := []) rfl ok1 hD).swap.wipe hv
    refine ⟨fun i n H => n = xs.length - i ∧ ∃ done rest acc ρ, done.length = i ∧ done.length + rest.length = xs.length ∧ Ok K w.m B (L2.wipe σ [j]) H ρ (.ref a :: .ref D :: ws) (.lst (done ++ rest) :: .lst acc :: ts) ∧ lcGoE j fe done rest acc ρ = .ok rr ρe,
      ⟨xs.length, rfl, [], xs, [], _, rfl, by simp, ok2, ee⟩, ?_⟩
    rintro n m H3 ⟨rfl, done, rest, acc, ρ3, rfl, hlen, ok3, e3⟩
    cases rest with
    | nil =>
      rw [List.append_nil] at ok3
      have e3 : R.ok (done, acc) ρ3 = R.ok rr ρe := e3
      cases e3
      refine .inl ⟨?_, ?_⟩
      · obtain ⟨b, us, hb, hH, hL⟩ := ok3.ownList
        cases hb
        exact ⟨us, SqL.of hH, by rw [hL]; exact Nat.le_refl _⟩
      · have ok4 := (ok3.unwipe km).back (i := i) ev
        exact (show ∀ x H', Ok K w.m B σ H' (ρe.set i (some (.lst done))) (x :: ws) (.lst acc :: ts) → Q x H' from pe) _ _ ok4
    | cons t rest =>
      obtain ⟨us, v, ha3, hv3, hL, ok4⟩ := ok3.lend (get_app done t rest)
      rw [set_app] at ok4
      refine .inr ⟨⟨us, v, SqL.of ha3, hv3⟩, fun H => ∃ done' acc ρ, done'.length = done.length + 1 ∧ done'.length + rest.length = xs.length ∧ Ok K w.m B (L2.wipe σ [j]) H ρ (.ref a :: .ref D :: ws) (.lst (done' ++ rest) :: .lst acc :: ts) ∧ lcGoE j fe done' rest acc ρ = .ok rr ρe,
        fun H' ⟨done', acc, ρ, h1, h2, h3, h4⟩ => ⟨xs.length - (done.length + 1), by simp at hlen; omega, rfl, done', rest, acc, ρ, h1, h2, h3, h4⟩, ?_⟩
      rintro z H' ⟨rfl, yz⟩
      have ez := yz us (SqL.of ha3)
      rw [hv3] at ez
      cases ez
      have so : SameOut [j] (L2.wipe σ [j]) ((L2.wipe σ [j]).set j (some v)) := ⟨by rw [List.length_set], fun q hq => List.getElem?_set_ne (fun e => hq (by rw [← e]; exact List.mem_singleton_self _))⟩
      refine ⟨wipe_same so (fun _ h => h), ?_⟩
      have ok5 := ok4.store hm
      obtain ⟨B', ok6, back⟩ := ok5.shell
      have e4 : mbind fe (fun r => mbind (dtake j) fun t' => mbind (mwipe [j]) fun _ => if acc.length < lim then lcGoE j fe (done ++ [t']) rest (acc ++ [r]) else mno) (ρ3.set j (some t)) = .ok rr ρe := e3
      obtain ⟨r, ρ5, ef, e5⟩ := mbind_ok e4
      obtain ⟨t', ρ6, eg, e6⟩ := mbind_ok e5
      obtain ⟨eg2, rfl⟩ := dtake_ok eg
      obtain ⟨u7, ρ7, ew, e7⟩ := mbind_ok e6
      cases ew
      dsimp only [tYes]
      rw [if_pos rfl]
      refine de B' _ _ _ [] [] _ ok6 (PostG.ok ef fun y H5 ok7 => ?_)
      by_cases hz : acc.length < lim
      · rw [if_pos hz] at e7
        obtain ⟨v', ev', ok8⟩ := ok7.take eg2
        have hjl : j < (L2.wipe σ [j]).length := by
          rcases Nat.lt_or_ge j (L2.wipe σ [j]).length with z | z
          · exact z
          · rw [List.set_eq_of_length_le z] at ev'
            rw [List.getElem?_eq_none z] at ev'
            cases ev'
        rw [List.getElem?_set_self hjl] at ev'
        cases ev'
        obtain ⟨hH5, ok9⟩ := back ok8.swap
        have ok10 : Ok K w.m B _ H5 _ (v :: .ref a :: y :: .ref D :: ws) (t' :: .lst (done ++ .hole :: rest) :: r :: .lst acc :: ts) := Ok.perm4 (vs := [v, .ref a]) (us := [t', .lst (done ++ .hole :: rest)]) rfl ok9
        have ok11 := Ok.give (i := done.length) (vs := us) ok10 (by rw [hH5]; exact ha3) hv3 (get_app done .hole rest)
        rw [set_app] at ok11
        have ok12 : Ok K w.m B _ H5 _ (y :: .ref D :: .ref a :: ws) (r :: .lst acc :: .lst (done ++ t' :: rest) :: ts) := Ok.perm4 (vs := [y, .ref D]) (us := [r, .lst acc]) rfl ok11
        obtain ⟨ys, g1, g2, ok13⟩ := ok12.grow
        refine ⟨ys, g1, by rw [g2]; exact lim_lt hz, done ++ [t'], acc ++ [r], _, by simp, by simp at hlen ⊢; omega, ?_, e7⟩
        have ok14 := ok13.swap.wipe hv
        rw [wipe_same so (fun _ h => h)] at ok14
        rw [List.append_assoc]
        exact ok14
      · rw [if_neg hz] at e7
        cases e7
theorem de_lcE (i j : Nat) {scope : Scope} (at_ : At X w k) (hN : X.N.Nodup) (ok : blkC X.N X.env.scope scope [(y, j)] = true) (hg : ∀ b : Blk, PG (b.x X scope) (.Name y npos) (gName j)) (he : ∀ b : Blk, At (b.x X scope) w.nx k → DE (b.x X scope) w.nx elt fe)
    (hij : i ≠ j := by decide) (hm : NotM w j := by intro h; cases h) (hi : X.N[i]? = some x := by rfl) (hv : Vis X.env.scope x := by first | exact Or.inl rfl | exact Or.inr (Or.inl rfl) | exact Or.inr (Or.inr rfl)) (hd : (x == ("__debug__" : Str)) = false := by decide)
    (hcd : (x == ("__classdict__" : Str)) = false := by decide) (hs : ∀ z, foldedSetIterable (.Name x pos') X.env z = pure z := by intro _; rfl) :
    DE X w (.ListComp elt [⟨.Name y npos, .Name x pos', [], 0⟩] scope pos) (dlcE i j fe) := by
  obtain ⟨tE, pe, de⟩ := all_pe (Y := fun b : Blk => b.x X scope) (K := X.K) (fun _ => rfl) fun b => he b at_.blk
  exact de_v (pe_lc at_.ca hN (pi_list (pe_var hi hv hd hcd)) (blkOk_by ok) (fun s H C cl fp => hg ⟨s, H, C, cl, fp⟩) (fun s H C cl fp => pts_nil) (fun s H C cl fp => pe ⟨s, H, C, cl, fp⟩) hs) (den_lcE hij hm (de ⟨X.s_0, X.H_0, 0, [], []⟩))
theorem ds_setLcE (n i j : Nat) {scope : Scope} {z : Str} {py spos : Pos} (at_ : At X w k) (hN : X.N.Nodup) (ok : blkC X.N X.env.scope scope [(y, j)] = true) (hg : ∀ b : Blk, PG (b.x X scope) (.Name y npos) (gName j)) (he : ∀ b : Blk, At (b.x X scope) w.nx k → DE (b.x X scope) w.nx elt fe)
    (hsw : swapsWith (.ListComp elt [⟨.Name y npos, .Name x pos', [], 0⟩] scope pos) (some (.Name z py)) spos.line X.env = pure true)
    (hij : i ≠ j := by decide) (hm : NotM w j := by intro h; cases h) (hi : X.N[i]? = some x := by rfl) (hv : Vis X.env.scope x := by first | exact Or.inl rfl | exact Or.inr (Or.inl rfl) | exact Or.inr (Or.inr rfl)) (hd : (x == ("__debug__" : Str)) = false := by decide)
    (hcd : (x == ("__classdict__" : Str)) = false := by decide) (hs : ∀ z, foldedSetIterable (.Name x pos') X.env z = pure z := by intro _; rfl)
    (hmn : NotM w n := by intro h; cases h) (hz : X.N[n]? = some z := by rfl) (hzl : X.env.scope.names.lookup z = some .local := by rfl) :
    DS X w (.Assign [.Name z py] (.ListComp elt [⟨.Name y npos, .Name x pos', [], 0⟩] scope pos) spos) (sset n (dthaw (dlcE i j fe))) := by
  obtain ⟨tE, pe, de⟩ := all_pe (Y := fun b : Blk => b.x X scope) (K := X.K) (fun _ => rfl) fun b => he b at_.blk
  refine ⟨_, ps_setLc at_.ca hN hz hzl hsw (pi_list (pe_var hi hv hd hcd)) (blkOk_by ok) (fun s H C cl fp => hg ⟨s, H, C, cl, fp⟩) (fun s H C cl fp => pts_nil) (fun s H C cl fp => pe ⟨s, H, C, cl, fp⟩) hs, fun B σ H ρ ws ts D ok q => ?_⟩
  refine den_lcE hij hm (de ⟨X.s_0, X.H_0, 0, [], []⟩) B σ H ρ ws ts _ ok ((PostG.bind q.bind).mono fun v ρ1 p1 x H1 ok1 => ?_)
  cases e : toD v with
  | none => rw [e] at p1; exact p1.elim
  | some y => rw [e] at p1; exact p1 _ H1 ((ok1.freeze e).store hmn)
end
end DL
end
section
set_option Elab.async false
set_option linter.all false
set_option maxRecDepth 100000
set_option maxHeartbeats 4000000
namespace DL
open PySem L2 PySem.Spec PyProof.Rows
inductive PStep | fld (f : Str) | idx (k : Int) | var (j : Nat)
def resS (ρ : Rho) : PStep → Option Step
  | .fld f => some (.fld f)
  | .idx k => some (.idx k)
  | .var j => match ρ[j]? with
    | some (some (.d (.int k))) => some (.idx k)
    | _ => none
def res (ρ : Rho) : List PStep → Option (List Step)
  | [] => some []
  | p :: ps => match resS ρ p, res ρ ps with
    | some s, some r => some (s :: r)
    | _, _ => none
section
variable {K : PySem.W.Frag} {m : List Bool} {B : Bs} {σ : L2.St} {H : Hp} {ρ : Rho} {ws zs0 : List V} {ts us0 : List T} {ns : List Str} {i : Nat} {t0 t1 : T} {rp : List Step}
theorem Sit.cut {I : Hp} {F G : List Addr} {z : L2.St} (s : Sit B I H (F ++ G)) : Sit ⟨I, H, F, z⟩ I H F :=
  ⟨s.sub, Same.refl _, fun a o _ z => z, fun a o z => .inl z, fun a z => .inl z, fun a z => s.own a (List.mem_append_left _ z), fun a z => s.thr a (List.mem_append_left _ z), (List.nodup_append.mp s.nd).1⟩
end
section
variable {X : Cx} {w : Wd} {e : Expr} {i j : Nat} {pp : List PStep} {ns : List Str} {x y f : Str} {pos pos' : Pos}
end
section
variable {X : Cx} {w : Wd} {n id : String} {name : Str} {r : V → List V → Hp → VK → Prop} {g : T → List T → Option (T × T)} {fs : M (List T)} {os : List (Option Nat)} {o e b : Expr} {es : List Expr} {apos cpos pos : Pos} {i : Nat} {pp : List PStep} {p : PStep} {ns : List Str}
end
def dpeekT (is : List Nat) (fe : M Bool) : M Bool := fun ρ => match fe (seen is 0 ρ) with
  | .ok b _ => .ok b ρ
  | _ => .no
theorem dt_peek {X : Cx} {w : Wd} {e : Expr} {fe : M Bool} (is : List Nat) (h : DT X w.nx e fe) : DT X w e (dpeekT is fe) := by
  obtain ⟨t, pt, dt⟩ := h.ex
  refine ⟨t, pt, fun B σ H ρ ws ts Q ok q => ?_⟩
  obtain ⟨B', ok', back⟩ := ok.look is
  refine dt B' σ H _ [] [] Q ok' ?_
  unfold dpeekT at q
  cases e1 : fe (seen is 0 ρ) with
  | no => rw [e1] at q; exact q.elim
  | ex er ρ1 => rw [e1] at q; exact q.elim
  | ok v ρ1 =>
    rw [e1] at q
    exact fun H' ok2 => q H' (back H' ρ1 .non .none ok2.non rfl).pop
end DL
end
section
set_option Elab.async false
set_option linter.all false
set_option maxRecDepth 100000
set_option maxHeartbeats 4000000
namespace DL
open PySem L2 PySem.Spec PyProof.Rows
open PySem.W (alike dataLt)
section
variable {X : Cx}
end
section
variable {X : Cx} {K : PySem.W.Frag} {m : List Bool}
end
section
variable {K : PySem.W.Frag} {m : List Bool} {B : Bs} {σ : L2.St} {H : Hp} {ρ : Rho} {ws : List V} {ts : List T}
theorem Ok.junk {o : HO} {p : Addr} (h : Ok K m B σ H ρ ws ts) (hp : H p = none) : Ok K m B σ (upd H p o) ρ ws ts := by
  obtain ⟨I, Fr, Fw, s, r, w, km⟩ := h
  have nf : ∀ a ∈ Fr ++ Fw, (upd H p o) a = H a := fun a z => upd_ne (show a ≠ p from fun y => s.thr a z (by rw [y]; exact hp))
  exact ⟨I, Fr, Fw, (s.newO (o := o) hp).less (fun a z => List.mem_cons_of_mem _ z) s.nd, r.mono (Same.refl _) fun a z => nf a (List.mem_append_left _ z), w.mono (Same.refl _) fun a z => nf a (List.mem_append_right _ z), km⟩
theorem Ok.gather2 {v0 : V} {q p : Addr} {t0 : T} {us : List T} {ys : List V} (h : Ok K m B σ H ρ (v0 :: .ref q :: ws) (t0 :: .lst us :: ts)) (hq : H q = some (.lst ys)) (hp : H p = none) :
    Ok K m B σ (upd H p (.lst (v0 :: .ref q :: ys))) ρ (.ref p :: ws) (.lst (t0 :: .opq us.length :: us) :: ts) := by
  obtain ⟨I, Fr, Fw, s, r, w, km⟩ := h
  have nf : ∀ a ∈ Fr ++ Fw, (upd H p (.lst (v0 :: .ref q :: ys))) a = H a := fun a z => upd_ne (show a ≠ p from fun y => s.thr a z (by rw [y]; exact hp))
  cases w with
  | cons a b =>
    cases b with
    | cons c d =>
      cases c with
      | lst hb it =>
        rw [hq] at hb
        cases hb
        rename_i F1 F2 F3
        refine ⟨I, Fr, (p :: (F1 ++ ([q] ++ F3))) ++ F2, (s.newO (o := .lst (v0 :: .ref q :: ys)) hp).perm ?_, r.mono (Same.refl _) fun a z => nf a (List.mem_append_left _ z), .cons (.lst upd_same (.cons (a.mono (Same.refl _) fun a z => nf a (by simp [z])) (.cons (.opq (by rw [nf q (by simp)]; exact hq) it.len) (it.mono (Same.refl _) fun a z => nf a (by simp [z]))))) (d.mono (Same.refl _) fun a z => nf a (by simp [z])), km⟩
        refine List.perm_iff_count.mpr fun a => ?_
        simp only [List.count_append, List.count_cons, List.count_nil]
        omega
end
def dparts2 (i : Nat) : M T := fun ρ => match ρ[i]? with
  | some (some (.tup [t0, .lst us])) => if us.length < lim then .ok (.lst (t0 :: .opq us.length :: us)) (ρ.set i none) else .no
  | _ => .no
section
variable {X : Cx} {w : Wd} {x : Str} {p0 p1 p2 p3 p4 p5 p6 p7 p8 pos pos' : Pos} {i : Nat} {j0 j1 j2 : Nat}
theorem lim2 {n : Nat} (h : n < lim) : n + 2 ≤ sizeLine := Nat.le_trans (Nat.add_le_add_right (Nat.le_of_lt h) 2) (by decide)
theorem de_parts2 (i : Nat) (hN : X.N[i]? = some x := by rfl) (hv : Vis X.env.scope x := by first | exact Or.inl rfl | exact Or.inr (Or.inl rfl) | exact Or.inr (Or.inr rfl)) (hd : (x == ("__debug__" : Str)) = false := by decide)
    (hcd : (x == ("__classdict__" : Str)) = false := by decide) : DE X w (.BinOp (.List [.Subscript (.Name x p0) (.Constant (.int 0) j0 p1) p2, .Subscript (.Name x p7) (.Constant (.int 1) j2 p8) pos'] p3) .Add (.Subscript (.Name x p4) (.Constant (.int 1) j1 p5) p6) pos) (dparts2 i) := by
  refine de_v (pe_op op_cat (pe_lst (pa_cons (pe_ix ix_tup (pe_var hN hv hd hcd) pe_int (fun _ _ => rfl)) (pa_cons (pe_ix ix_tup (pe_var hN hv hd hcd) pe_int (fun _ _ => rfl)) pa_nil))) (pe_ix ix_tup (pe_var hN hv hd hcd) pe_int (fun _ _ => rfl))) fun B σ H ρ ws ts Q ok q => ?_
  unfold dparts2 at q
  split at q
  · rename_i t0 us e0
    by_cases hz : us.length < lim
    · rw [if_pos hz] at q
      obtain ⟨v, hσ, ok1⟩ := ok.take e0
      obtain ⟨a, vs, rfl, sq, hl, ok2⟩ := ok1.untup
      match vs, hl with
      | [v0, v1], _ =>
        have ok2 : Ok X.K w.m B σ H (ρ.set i none) (v0 :: v1 :: ws) (t0 :: .lst us :: ts) := ok2
        obtain ⟨b, ys, rfl, hb, hl2⟩ := ok2.swap.ownList
        refine ⟨_, hσ, a, _, 0, v0, rfl, rfl, sq, rfl, _, hσ, a, _, 1, .ref b, rfl, rfl, sq, rfl, show 2 ≤ sizeLine by decide, fun l hl0 => ?_⟩
        have ok3 := ok2.junk (o := .lst [v0, .ref b]) hl0
        have nb : b ≠ l := ne_of_none hb hl0
        have sq' : SqT X.K (upd H l (.lst [v0, .ref b])) a [v0, .ref b] := st_mono (fun c u e => by rw [upd_ne (ne_of_none e hl0)]; exact e) sq
        refine ⟨_, hσ, a, _, 1, .ref b, rfl, rfl, sq', rfl, l, b, [v0, .ref b], ys, rfl, rfl, upd_same, by rw [upd_ne nb]; exact hb, ?_, fun p hp => q _ _ (ok3.gather2 (by rw [upd_ne nb]; exact hb) hp)⟩
        rw [hl2]
        have := lim2 hz
        show 2 + us.length ≤ sizeLine
        omega
    · rw [if_neg hz] at q
      exact q.elim
  · exact q.elim
end
section
variable {X : Cx} {w : Wd} {tg iter tg1 iter1 elt : Expr} {ifs ifs1 : List Expr} {fi fi1 : M (List PyData)} {g g1 : T → M Unit} {tt tt1 : M Bool} {fe : M T} {S S1 : List Nat} {pos : Pos} {k : Nat} {scope : Scope} {own : List (Str × Nat)} {vs1 : List Nat}
theorem mwipe_ok {vs : List Nat} {ρ ρ1 : Rho} {u : Unit} (h : mwipe vs ρ = .ok u ρ1) : ρ1 = wipeR ρ vs := by
  cases h
  rfl
end
end DL
end
section
set_option Elab.async false
set_option linter.all false
set_option maxRecDepth 100000
set_option maxHeartbeats 4000000
namespace DL
open PySem L2 PySem.Spec PyProof.Rows
section
variable {X : Cx} {w : Wd} {x : Str} {p pos apos : Pos} {e f : Expr} {ty tx : TE} {kvs : List (Str × T)} {fe ff : M T}
end
end DL
end
section
set_option Elab.async false
set_option linter.all false
set_option maxRecDepth 100000
set_option maxHeartbeats 4000000
namespace DL
open PySem L2 PySem.Spec PyProof.Rows
section
variable {X : Cx} {w : Wd}
end
section
variable {K : PySem.W.Frag} {I H : Hp}
end
section
variable {X : Cx} {w : Wd} {e : Expr} {fe : M T}
end
end DL
end
section
set_option Elab.async false
set_option linter.all false
set_option maxRecDepth 100000
set_option maxHeartbeats 4000000
namespace DL
open PySem L2 PySem.Spec PyProof.Rows
section
variable {K : PySem.W.Frag} {m : List Bool}
theorem Ok.topOpq {B : Bs} {σ : L2.St} {H : Hp} {ρ : Rho} {ws : List V} {ts : List T} {x : V} {n : Nat} (h : Ok K m B σ H ρ (x :: ws) (.opq n :: ts)) : ∃ a vs, x = .ref a ∧ H a = some (.lst vs) ∧ vs.length = n := by
  obtain ⟨I, Fr, Fw, s, r, w, km⟩ := h
  cases w with
  | cons a b =>
    cases a with
    | opq hp e => exact ⟨_, _, rfl, hp, e⟩
def gLenQ : List T → Option T
  | [.opq n] => some (.d (.int n))
  | us => gLen us
theorem ck_lenQ : CallK K m (rLen2 K) gLenQ := fun B σ H ρ ws ts xs us v Q hl ok e q => by
  unfold gLenQ at e
  split at e
  · cases e
    obtain ⟨x, rfl⟩ := one_of hl
    obtain ⟨a, vs, rfl, ha, hn⟩ := Ok.topOpq (ws := ws) (ts := ts) ok
    exact .inl ⟨_, _, rfl, .inl ⟨vs, SqL.of ha, rfl⟩, q _ _ (by rw [hn]; exact ok.int)⟩
  · exact ck_len B σ H ρ ws ts xs us v Q hl ok e q
theorem Ok.growQ {B : Bs} {σ : L2.St} {H : Hp} {ρ : Rho} {ws : List V} {ts : List T} {y : V} {p : Addr} {d : PyData} {n : Nat} (h : Ok K m B σ H ρ (y :: .ref p :: ws) (.d d :: .opq n :: ts)) :
    ∃ vs, H p = some (.lst vs) ∧ vs.length = n ∧ Ok K m B σ (upd H p (.lst (vs ++ [y]))) ρ (.ref p :: ws) (.opq (n + 1) :: ts) := by
  obtain ⟨I, Fr, Fw, s, r, w, km⟩ := h
  cases w with
  | cons a b =>
    cases b with
    | cons l c =>
      cases l with
      | opq hp e =>
        rename_i F1 F2 vs
        cases a with
        | d a =>
          have mem : p ∈ Fr ++ ([] ++ ([p] ++ F2)) := by simp
          have nd := s.nd
          have other : ∀ q ∈ Fr ++ F2, q ≠ p := fun q z e => by
            subst e
            have : List.Perm (Fr ++ ([] ++ ([q] ++ F2))) (q :: (Fr ++ F2)) := List.perm_middle
            exact (List.nodup_cons.mp (this.nodup_iff.mp nd)).1 z
          have fx : ∀ q ∈ Fr ++ F2, (upd H p (.lst (vs ++ [y]))) q = H q := fun q z => upd_ne (other q z)
          exact ⟨vs, hp, e, I, Fr, [p] ++ F2, (s.write (o := .lst (vs ++ [y])) mem).perm (List.Perm.refl _), r.mono (Same.refl _) fun q z => fx q (by simp [z]),
            .cons (.opq upd_same (by rw [List.length_append, e]; rfl)) (c.mono (Same.refl _) fun q z => fx q (by simp [z])), km⟩
def oAppendQ : T → List T → Option (T × T)
  | .opq n, [.d d] => if n < lim then some (.opq (n + 1), .d .none) else none
  | t, us => oAppend t us
theorem om_appendQ : OwnM K m rAppend oAppendQ := fun B σ H ρ ws ts x ys t us t1 v Q hl ok e q => by
  unfold oAppendQ at e
  split at e
  · obtain ⟨h1, e⟩ := reqs e
    cases e
    obtain ⟨y, rfl⟩ := one_of hl
    obtain ⟨a, vs, rfl, ha, hlen⟩ := Ok.topOpq (Ok.pop (ws := x :: ws) (ts := _ :: ts) ok)
    obtain ⟨vs', h2, h3, ok2⟩ := Ok.growQ (ws := ws) (ts := ts) ok
    refine ⟨a, vs', y, rfl, rfl, h2, by rw [h3]; exact lim_lt h1, q _ _ ok2.non⟩
  · exact om_append B σ H ρ ws ts x ys _ us t1 v Q hl ok e q
def tyQ : T → Option String
  | .opq _ => some "list"
  | t => tyT t
theorem Ok.tyVQ {B : Bs} {σ : L2.St} {H : Hp} {ρ : Rho} {ws : List V} {ts : List T} {x : V} {t : T} {n : String} (h : Ok K m B σ H ρ (x :: ws) (t :: ts)) (e : tyQ t = some n) : L2.tyV K n x H := by
  unfold tyQ at e
  split at e
  · cases e
    obtain ⟨a, vs, rfl, ha, _⟩ := h.topOpq
    exact .inl ⟨rfl, _, SqL.of ha⟩
  · exact h.tyV e
end
def dtypQ (n : String) (i : Nat) : M Unit := fun ρ => match ρ[i]? with
  | some (some t) => if tyQ t = some n then .ok () ρ else .no
  | _ => .no
def dmethQ (n : String) (i : Nat) (g : T → List T → Option (T × T)) (fs : M (List T)) : M T := mbind (dtypQ n i) fun _ => mbind fs fun us => down i fun t => g t us
section
variable {K : PySem.W.Frag} {w : Wd} {i : Nat} {n : String} {r : V → List V → Hp → VK → Prop} {g : T → List T → Option (T × T)} {fs : M (List T)} {os : List (Option Nat)} {t : TA}
theorem den_methQ (hg : OwnM K w.m r g) (d : DenA K w t os fs) : DenE K w (tBM K n r (tVar i) t) (dmethQ n i g fs) := fun B σ H ρ ws ts Q ok q => by
  have q := q.bind
  unfold dtypQ at q
  cases e : ρ[i]? with
  | none => rw [e] at q; exact q.elim
  | some o =>
    cases o with
    | none => rw [e] at q; exact q.elim
    | some u =>
      rw [e] at q
      by_cases hq : tyQ u = some n
      · simp only [if_pos hq] at q
        obtain ⟨v, h1, h2⟩ := ok.take e
        have h2 := h2.tyVQ hq
        refine ⟨v, h1, h2, ?_⟩
        refine d B σ H ρ ws ts _ ok (PostG.mono (PostG.bind q) fun us ρ1 p1 xs H1 hl ok1 _ => ?_)
        unfold down at p1
        cases e1 : ρ1[i]? with
        | none => rw [e1] at p1; exact p1.elim
        | some o1 =>
          cases o1 with
          | none => rw [e1] at p1; exact p1.elim
          | some u1 =>
            rw [e1] at p1
            simp only at p1
            cases e2 : g u1 us with
            | none => rw [e2] at p1; exact p1.elim
            | some tv =>
              obtain ⟨t1, v1⟩ := tv
              rw [e2] at p1
              obtain ⟨v', h1', ok2⟩ := ok1.take e1
              have : v' = v := by
                rw [h1] at h1'
                exact (Option.some.inj (Option.some.inj h1')).symm
              subst this
              have ok3 := Ok.perm4 (vs := xs) (us := us) hl ok2
              refine hg B σ H1 _ ws ts v' xs u1 us t1 v1 Q hl ok3 e2 fun z H' ok4 => ?_
              have ok5 := ok4.swap.back (i := i) h1
              rw [List.set_set] at ok5
              exact p1 z H' ok5
      · simp only [if_neg hq] at q
        exact q.elim
end
section
variable {X : Cx} {w : Wd} {n id : String} {x name : Str} {r : V → List V → Hp → VK → Prop} {g : T → List T → Option (T × T)} {fs : M (List T)} {os : List (Option Nat)} {e : Expr} {es : List Expr} {p apos cpos : Pos}
theorem de_methQ (i : Nat) (pa : PlainAttrs n) (slot : Slot n name id) (hty : typeOf (.builtin id) = pure (.type "method_descriptor")) (hm : MtR X id r) (hg : OwnM X.K w.m r g) (ha : DA X w (e :: es) os fs)
    (hN : X.N[i]? = some x := by rfl) (hv : Vis X.env.scope x := by first | exact Or.inl rfl | exact Or.inr (Or.inl rfl) | exact Or.inr (Or.inr rfl)) (hd : (x == ("__debug__" : Str)) = false := by decide) (hcd : (x == ("__classdict__" : Str)) = false := by decide)
    (hbase : attributeBase (.Name x p) name X.env (eval (.Name x p) X.env) = eval (.Name x p) X.env := by rfl)
    (hfew : ((backTo cpos (starEach (e :: es) X.env)).all (fun x => !x.1) && (backToKw cpos (keywordEach [] X.env)).all (fun x => x.1.isSome)
      && decide ((e :: es).length + ([] : List Keyword).length + (if ([] : List Keyword).isEmpty then 0 else 1) < 30)) = true := by rfl)
    (hline : (apos.endLine == cpos.line) = true := by rfl) (hs : starEach (e :: es) X.env = (false, eval e X.env) :: starEach es X.env := by rfl) (hplain : (backTo cpos (starEach es X.env)).any (·.1) = false := by rfl) :
    DE X w (.Call (.Attribute (.Name x p) name apos) (e :: es) [] cpos) (dmethQ n i g fs) := by
  obtain ⟨t, pt, dt⟩ := ha.ex
  exact de_v (pe_bm pa slot hty hm (pe_var hN hv hd hcd) pt hbase hfew hline hs hplain) (den_methQ hg dt)
end
end DL
end
section
set_option Elab.async false
set_option linter.all false
set_option maxRecDepth 100000
set_option maxHeartbeats 4000000
namespace DL
open PySem L2 PySem.Spec PyProof.Rows
section
variable {X : Cx} {w : Wd} {o e : Expr} {fo fe : M T} {apos pos : Pos}
end
end DL
end
section
set_option Elab.async false
set_option linter.all false
set_option maxRecDepth 100000
set_option maxHeartbeats 4000000
namespace DL
open PySem L2 PySem.Spec PyProof.Rows
section
variable {X : Cx} {w : Wd} {o e : Expr} {fo fe : M T} {apos pos : Pos}
end
end DL
end
section
set_option Elab.async false
set_option linter.all false
set_option maxRecDepth 100000
set_option maxHeartbeats 4000000
namespace DL
open PySem L2 PySem.Spec PyProof.Rows
section
variable {X : Cx} {w : Wd} {st : Stmt} {ss : List Stmt} {e o : Expr} {fo : M T} {name : Str} {apos pos : Pos}
end
section
variable {K : PySem.W.Frag} {m : List Bool} {B : Bs} {σ : L2.St} {H : Hp} {ρ : Rho} {ws : List V} {ts : List T}
end
section
variable {X : Cx} {w : Wd} {es : List Expr} {os : List (Option Nat)} {fs : M (List T)} {pos p : Pos} {e : Expr} {f : M T}
end
structure HasFnK (K : PySem.W.Frag) (x : Str) (st : Stmt) (kws : List (Str × V)) : Prop where
  ex : ∃ f fd, PySem.W.nsIn K mainGlobals x = some (some (.ref f)) ∧ Fun K x x st f fd ∧ FunD K x x (defArgs st) (defBody st) (defScope st) [] kws f fd
theorem HasFnK.by_ {K : PySem.W.Frag} {x : Str} {st : Stmt} {kws : List (Str × V)} {f D : Addr} {oc : Value} {od an : Option Addr} {osl : Array (Option Value)} {doc pm cdv ct : Value} (a : PySem.W.nsIn K mainGlobals x = some (some (.ref f)))
    (l : K.lookup f = some ⟨oc, od, .func (PySem.W.fnOf x x (defArgs st) (defBody st) (defScope st) .none (.ref D) doc pm an cdv ct), osl⟩) (c : PySem.W.codeIn K cdv x = true) (k : PySem.W.keepIn K (.ref f) = true)
    (h : ∀ q ∈ kws, ∃ u, PySem.W.nsIn K D q.1 = some (some u) ∧ RelV q.2 u) : HasFnK K x st kws :=
  ⟨f, _, a, fun_mk l c k, ⟨⟨oc, od, .none, .ref D, doc, pm, an, cdv, ct, osl, rfl, l, c, .inl ⟨rfl, rfl⟩, .inr ⟨D, rfl, h⟩⟩, k⟩⟩
structure HasMkK (K : PySem.W.Frag) (cn qual : Str) (st : Stmt) (kws : List (Str × V)) : Prop where
  ex : ∃ C f fd, PySem.W.nsIn K mainGlobals cn = some (some (.ref C)) ∧ Mk K C f ∧ Fun K "__init__" qual st f fd ∧ FunD K "__init__" qual (defArgs st) (defBody st) (defScope st) [] kws f fd
theorem HasMkK.by_ {K : PySem.W.Frag} {cn qual : Str} {st : Stmt} {kws : List (Str × V)} {C fa D : Addr} {oc : Value} {od an : Option Addr} {osl : Array (Option Value)} {doc pm cdv ct : Value} (a : PySem.W.nsIn K mainGlobals cn = some (some (.ref C))) (mk : PySem.W.makesIn K C = true) (i : PySem.W.findIn K (.ref C) "__init__" = some (some (.ref fa))) (fn : PySem.W.isFn K (.ref fa) = true) (kc : PySem.W.keepIn K (.ref C) = true) (kf : PySem.W.keepIn K (.ref fa) = true)
    (l : K.lookup fa = some ⟨oc, od, .func (PySem.W.fnOf "__init__" qual (defArgs st) (defBody st) (defScope st) .none (.ref D) doc pm an cdv ct), osl⟩) (c : PySem.W.codeIn K cdv qual = true)
    (h : ∀ q ∈ kws, ∃ u, PySem.W.nsIn K D q.1 = some (some u) ∧ RelV q.2 u) : HasMkK K cn qual st kws :=
  ⟨C, fa, _, a, ⟨mk, i, fn, kc⟩, fun_mk l c kf, ⟨⟨oc, od, .none, .ref D, doc, pm, an, cdv, ct, osl, rfl, l, c, .inl ⟨rfl, rfl⟩, .inr ⟨D, rfl, h⟩⟩, kf⟩⟩
def cutFn (n : Nat) (dts : List PyData) (g : Fn) : Fn := fun ts => match g (ts ++ dts.map T.d) with
  | .ok v ρ => .ok v (ρ.take n)
  | .ex e ρ => .ex e (ρ.take n)
  | .no => .no
section
variable {P : Program} {w : World} {K : PySem.W.Frag} {mg : Str → Option Value} {base : Heap} {k n : Nat} {f : Addr} {fd : FuncData} {ps : List Str} {I H : Hp}
theorem repTs_app {us : List V} {xs : List T} {G : List Addr} (h' : RepTs K I H us xs G) : ∀ {vs : List V} {ts : List T} {F : List Addr}, RepTs K I H vs ts F → RepTs K I H (vs ++ us) (ts ++ xs) (F ++ G)
  | _, _, _, .nil => h'
  | _, _, _, .cons (F := F1) (G := G1) a r => by
    have := RepTs.cons a (repTs_app h' r)
    rw [List.append_assoc]
    exact this
theorem repR_take {dvs : List V} : ∀ {vs : List V} {ρ : Rho} {F : List Addr}, RepR K I H ((vs ++ dvs).map some) ρ F → ∃ F', RepR K I H (vs.map some) (ρ.take vs.length) F' ∧ F'.Sublist F
  | [], ρ, F, _ => ⟨[], by rw [List.length_nil, List.take_zero]; exact .nil, List.nil_sublist _⟩
  | v :: vs, ρ, F, h => by
    have h : RepR K I H (some v :: (vs ++ dvs).map some) ρ F := h
    cases h with
    | hid r =>
      obtain ⟨F', h1, h2⟩ := repR_take (vs := vs) r
      exact ⟨F', .hid h1, h2⟩
    | has a r =>
      obtain ⟨F', h1, h2⟩ := repR_take (vs := vs) r
      exact ⟨_, .has a h1, List.Sublist.append (List.Sublist.refl _) h2⟩
theorem Sit.slots {F Fr : List Addr} {z z' : L2.St} {I' H' : Hp} (s : Sit ⟨I, H, F, z⟩ I' H' Fr) : Sit ⟨I, H, F, z'⟩ I' H' Fr := ⟨s.sub, s.ext, s.keep, s.new, s.fr, s.own, s.thr, s.nd⟩
theorem FnGd.ofK {dvs : List V} {ds : List Value} {dts : List PyData} {g : Fn} (F : FnG P w K mg base k f fd ps (FnD K mg (n + dts.length) g)) (hd : Vals dvs ds) (hr : ∀ I, DrAll K I dvs dts) : FnGd P w K mg base k f fd ps ds (FnD K mg n (cutFn n dts g)) :=
  F |> fun F => FnGd.dflt F hd fun vs H Q E z => by
    obtain ⟨hl, I, Fa, ts, sit, rep, q⟩ := z
    refine ⟨by rw [List.length_append, hl, (hr I).len], I, Fa, ts ++ dts.map T.d, sit.slots, ?_, ?_⟩
    · have := repTs_app (RepTs.ofD (H := H) (hr I)) rep
      rw [List.append_nil] at this
      exact this
    · unfold cutFn at q
      cases e : g (ts ++ dts.map T.d) with
      | no => rw [e] at q; exact q.elim
      | ok v ρ' =>
        rw [e] at q
        intro x H' ok
        obtain ⟨I', Fr, Fw, s', r', w', km⟩ := ok
        obtain ⟨F', h1, h2⟩ := repR_take (vs := vs) r'
        rw [hl] at h1
        refine (show ∀ x H', Ok K [] ⟨I, H, Fa, vs.map some⟩ (vs.map some) H' (ρ'.take n) [x] [v] → Q x H' from q) x H' ⟨I', F', Fw, Sit.slots (s'.less (fun a m => ?_) ((List.Sublist.append h2 (List.Sublist.refl _)).nodup s'.nd)), h1, w', Kept.nil⟩
        rcases List.mem_append.mp m with m | m
        · exact List.mem_append_left _ (h2.subset m)
        · exact List.mem_append_right _ m
      | ex er ρ' =>
        rw [e] at q
        intro c d H' ok
        obtain ⟨I', Fr, us', s', r', km, hc, hd, hf⟩ := ok
        obtain ⟨F', h1, h2⟩ := repR_take (vs := vs) r'
        rw [hl] at h1
        exact (show ∀ c d H', OkX K [] mg ⟨I, H, Fa, vs.map some⟩ (vs.map some) H' (ρ'.take n) er c d → E c d H' from q) c d H' ⟨I', F', us', Sit.slots (s'.less (fun a m => h2.subset m) (h2.nodup s'.nd)), h1, Kept.nil, hc, hd, hf⟩
theorem Def.ofK {x qual : Str} {st : Stmt} {dvs : List V} {dts : List PyData} {g : Fn} (U : Fun K x qual st f fd) (hm : mg x = some (.ref f)) (F : FnG P w K mg base k f fd ps (FnD K mg (n + dts.length) g)) (b : ∃ ds, Vals dvs ds ∧ Binds K fd ps ds) (hr : ∀ I, DrAll K I dvs dts) : Def P w K mg base x k n (cutFn n dts g) := by
  obtain ⟨ds, hd, b⟩ := b
  exact ⟨f, fd, ps, ds, .ofK F hd hr, hm, U.kp, b⟩
theorem DefI.ofK {cn : Str} {C : Addr} {dvs : List V} {dts : List PyData} {g : Fn} (hC : PySem.W.nsIn K mainGlobals cn = some (some (.ref C))) (hm : mg cn = some (.ref C)) (M : Mk K C f) (F : FnG P w K mg base k f fd ps (FnD K mg (n + dts.length) g)) (b : ∃ ds, Vals dvs ds ∧ Binds K fd ps ds) (hr : ∀ I, DrAll K I dvs dts) : DefI P w K mg base cn k n (cutFn n dts g) := by
  obtain ⟨ds, hd, b⟩ := b
  exact ⟨⟨C, f, fd, ps, ds, hC, hm, M, .ofK F hd hr, b⟩⟩
end
end DL
end
section
set_option Elab.async false
set_option linter.all false
set_option maxRecDepth 100000
set_option maxHeartbeats 4000000
namespace DL
open PySem L2
section
variable {K : PySem.W.Frag} {m : List Bool} {B : Bs} {σ : L2.St} {H : Hp} {ρ : Rho} {ws : List V} {ts L M : List T} {a b : Addr} {x v : V} {t : T}
theorem Ok.hole (h : Ok K m B σ H ρ (x :: ws) (t :: ts)) : Ok K m B σ H ρ (x :: ws) (.hole :: ts) := by
  obtain ⟨I, Fr, Fw, s, r, w, km⟩ := h
  cases w with
  | cons p q =>
    rename_i F1 G
    refine ⟨I, Fr, [] ++ G, s.sub' (R := F1) ?_, r, .cons (F := []) .hole q, km⟩
    rw [List.nil_append, List.append_assoc]
    exact List.Perm.append_left _ List.perm_append_comm
theorem Ok.ne2 (h : Ok K m B σ H ρ (.ref b :: .ref a :: ws) (.lst M :: .lst L :: ts)) : a ≠ b := by
  obtain ⟨I, Fr, Fw, s, r, w, km⟩ := h
  cases w with
  | cons p q =>
    cases p with
    | lst hb it =>
      cases q with
      | cons p' q' =>
        cases p' with
        | lst ha it' =>
          intro e
          subst e
          have nd := (List.nodup_append.mp s.nd).2.1
          rw [List.cons_append] at nd
          exact (List.nodup_cons.mp nd).1 (by simp)
end
section
variable {X : Cx} {w : Wd} {c : Expr} {b1 : List Stmt} {ttM : M Bool} {F1 : M Fl} {k i j q h : Nat} {x y z hn : Str} {scope : Scope} {py ep npos pos' pos spos p1 p2 p3 p4 p5 p7 p9 p10 apos cpos pj : Pos} {jj : Nat}
end
end DL
end
section
set_option Elab.async false
set_option linter.all false
set_option maxRecDepth 100000
set_option maxHeartbeats 4000000
namespace DL
open PySem L2
section
variable {X : Cx} {w : Wd} {e : Expr} {body : List Stmt} {c : M Bool} {F : M Fl} {pos : Pos} {k : Nat}
end
end DL
end
section
set_option Elab.async false
set_option linter.all false
set_option maxRecDepth 100000
set_option maxHeartbeats 4000000
namespace DL
open PySem L2 PySem.Spec PyProof.Rows
def dlm1 (g : List PyData → PyData → Option PyData) (fo fe : M T) : M T := mbind fo fun x => match x with
  | .d (.list ds) => mbind fe fun y => match y with
    | .d d => mopt ((g ds d).map T.d)
    | _ => mno
  | _ => mno
def okIdx (ds : List PyData) (d : PyData) : Bool := (PyData.plainAll ds && d.plain) && (SeqAt.shaped (.list ds) && SeqAt.shaped d)
def gIndex (ds : List PyData) (d : PyData) : Option PyData := if okIdx ds d = true then (ds.findIdx? fun z => PyData.eqv z d).map fun j => .int (j : Nat) else none
section
variable {X : Cx} {w : Wd} {o e : Expr} {fo fe : M T} {apos pos : Pos}
theorem den_lm1 {r : V → List V → Hp → VK → Prop} {g : List PyData → PyData → Option PyData} {to te : TE} {K : PySem.W.Frag} (dto : DenE K w to fo) (dte : DenE K w te fe)
    (h : ∀ B σ H ρ ws ts x y ds d z (Q : VK), Ok K w.m B σ H ρ (y :: x :: ws) (.d d :: .d (.list ds) :: ts) → g ds d = some z → (∀ u H', Ok K w.m B σ H' ρ (u :: ws) (.d z :: ts) → Q u H') → r x [y] H Q) :
    DenE K w (tBM K "list" r to (tCons te tNil)) (dlm1 g fo fe) := fun B σ H ρ ws ts Q ok p => by
  refine dto B σ H ρ ws ts _ ok (p.bind.mono fun v ρ1 p1 x H1 ok1 => ?_)
  cases v with
  | d x1 =>
    cases x1 with
    | list ds =>
      obtain ⟨a, vs, rfl, ha, da⟩ := Ok.topList (ws := ws) (ts := ts) ok1
      have p1 : PostG K w B (mbind fe (fun y => match y with | .d d => mopt ((g ds d).map T.d) | _ => (mno : M T)) ρ1) _ := p1
      refine ⟨.inl ⟨rfl, vs, SqL.of ha⟩, dte B σ H1 ρ1 _ _ _ ok1 (p1.bind.mono fun v2 ρ2 p2 y H2 ok2 => ?_)⟩
      cases v2 with
      | d d =>
        obtain ⟨z, e1, q⟩ := PostG.opt p2
        cases e2 : g ds d with
        | none => rw [e2] at e1; cases e1
        | some z' =>
          rw [e2] at e1
          cases e1
          exact h B σ H2 ρ2 ws ts _ _ ds d z' _ ok2 e2 q
      | _ => exact p2.elim
    | _ => exact p1.elim
  | _ => exact p1.elim
theorem de_index {k : Nat} (at_ : At X w k) (ho : DE X w o fo) (he : DE X w e fe) (hs : starEach [e] X.env = (false, eval e X.env) :: starEach [] X.env := by rfl) (hbase : attributeBase o "index" X.env (eval o X.env) = eval o X.env := by rfl) (hline : (apos.endLine == pos.line) = true := by rfl)
    (hfew : ((backTo pos (starEach [e] X.env)).all (fun x => !x.1) && (backToKw pos (keywordEach [] X.env)).all (fun x => x.1.isSome)
      && decide ([e].length + ([] : List Keyword).length + (if ([] : List Keyword).isEmpty then 0 else 1) < 30)) = true := by rfl) (hplain : (backTo pos (starEach [] X.env)).any (·.1) = false := by rfl) :
    DE X w (.Call (.Attribute o "index" apos) [e] [] pos) (dlm1 gIndex fo fe) := by
  obtain ⟨to, po, dto⟩ := ho.ex
  obtain ⟨te, pt, dte⟩ := he.ex
  refine de_v (pe_bm PySem.F.plainAttrs_list PySem.F.slot_list_index PySem.F.type_list_index (mt_indexD (by have := at_.r.un; omega)) po (pa_cons pt pa_nil (hs := hs)) hbase hfew hline hs hplain) (den_lm1 dto dte fun B σ H ρ ws ts x y ds d z Q ok e q => ?_)
  unfold gIndex at e
  split at e
  · rename_i hz
    obtain ⟨h1, h2⟩ := Bool.and_eq_true_iff.mp hz
    obtain ⟨h3, h4⟩ := Bool.and_eq_true_iff.mp h1
    obtain ⟨h5, h6⟩ := Bool.and_eq_true_iff.mp h2
    cases e1 : ds.findIdx? (fun z => PyData.eqv z d) with
    | none => rw [e1] at e; cases e
    | some j =>
      rw [e1] at e
      cases e
      obtain ⟨a, vs, rfl, ha, da⟩ := Ok.topList ok.pop
      have hl := (Ok.topD ok.pop).dp (by simpa [PyData.plain] using h3)
      have hd := (Ok.topD ok).dp h4
      obtain ⟨hj, hp, hno⟩ := List.findIdx?_eq_some_iff_getElem.mp e1
      refine ⟨a, y, d, ds, j, ds[j], rfl, rfl, hl, hd, h5, h6, List.getElem?_eq_getElem hj, hp, fun m z' hm hz' => ?_, q _ _ ok.pop.pop.int⟩
      have hm2 := hno m hm
      obtain ⟨hml, e2⟩ := List.getElem?_eq_some_iff.mp hz'
      rw [← e2]
      simpa using hm2
  · cases e
end
end DL
end
section
set_option Elab.async false
set_option linter.all false
set_option maxRecDepth 100000
set_option maxHeartbeats 4000000
namespace DL
open PySem L2 PySem.Spec PyProof.Rows
section
variable {X : Cx} {w : Wd} {o e : Expr} {es : List Expr} {fo : M T} {fs : M (List T)} {os : List (Option Nat)} {g : Fn} {k k' n : Nat} {cn m : Str} {apos pos : Pos} {K : PySem.W.Frag} {t : TA} {to : TE} {C : Addr}
end
end DL
end
section
set_option Elab.async false
set_option linter.all false
set_option maxRecDepth 100000
set_option maxHeartbeats 4000000
namespace DL
open PySem L2 PySem.Spec PyProof.Rows
section
variable {X : Cx} {w : Wd} {e : Expr} {fo : M T} {g : Fn} {k k' n : Nat} {cn m x : Str} {p pos : Pos} {K : PySem.W.Frag} {t : TA} {to : TE} {C f : Addr} {fd : FuncData} {ps : List Str} {sp : Sp} {W : WX}
end
end DL
end
section
set_option Elab.async false
set_option linter.all false
set_option maxRecDepth 100000
set_option maxHeartbeats 4000000
namespace DL
open PySem L2
def sealV (t : T) : M T := mopt (toF t)
theorem de_sealE {X : Cx} {w : Wd} {e : Expr} {f : M T} (h : DE X w e f) : DE X w e (mbind f sealV) := by
  obtain ⟨t, pt, dt⟩ := h.ex
  refine de_v pt fun B σ H ρ ws ts Q ok q => dt B σ H ρ ws ts _ ok (q.bind.mono fun v ρ1 p1 x H1 ok1 => ?_)
  obtain ⟨u, e, q⟩ := PostG.opt p1
  exact q x H1 ((ok1.seal2 e).pop)
end DL
end
section
set_option Elab.async false
set_option linter.all false
set_option maxRecDepth 100000
set_option maxHeartbeats 4000000
namespace DL
open PySem L2 PySem.Spec PyProof.Rows
section
variable {X : Cx} {w : Wd} {e : Expr} {te : TE} {fe : M T} {pos : Pos} {k : Nat}
end
end DL
end
section
set_option Elab.async false
set_option linter.all false
set_option maxRecDepth 100000
set_option maxHeartbeats 4000000
namespace DL
open PySem L2
section
variable {K : PySem.W.Frag} {m : List Bool}
end
end DL
end
section
set_option Elab.async false
set_option linter.all false
set_option maxRecDepth 100000
set_option maxHeartbeats 4000000
namespace DL
open PySem L2 PySem.Spec PyProof.Rows
structure KlsI (K : PySem.W.Frag) (n : Str) : Prop where
  ex : ∃ C : Addr, PySem.W.nsIn K mainGlobals n = some (some (.ref C)) ∧ Cls K C ∧ PySem.W.findIn K (.ref C) "__class__" = some (some (.builtin "object.__class__")) ∧ PySem.W.specialIn K (.builtin "object.__class__") "__get__" = some (some (.builtin "getset_descriptor.__get__")) ∧
    PySem.W.takesIn K (.builtin "object.__class__") = some true ∧ PySem.W.mroIn K C (.type "object") = some true ∧ PySem.W.hasDictIn K C = true ∧ PySem.W.typeIn K (.ref C) = some (.type "type") ∧ PySem.W.findIn K (.ref C) "__ne__" = some (some (.builtin "object.__ne__"))
theorem KlsI.by_ {K : PySem.W.Frag} {n : Str} {C : Addr} (a : PySem.W.nsIn K mainGlobals n = some (some (.ref C))) (pg : PySem.W.plainGet K C Str.empty = true) (hd : PySem.W.hasDictIn K C = true) (po : PySem.W.plainOver K C = true) (sa : PySem.W.findIn K (.ref C) "__setattr__" = some (some (.builtin "object.__setattr__")))
    (c : PySem.W.findIn K (.ref C) "__class__" = some (some (.builtin "object.__class__"))) (g : PySem.W.specialIn K (.builtin "object.__class__") "__get__" = some (some (.builtin "getset_descriptor.__get__"))) (t : PySem.W.takesIn K (.builtin "object.__class__") = some true)
    (m : PySem.W.mroIn K C (.type "object") = some true) (ty : PySem.W.typeIn K (.ref C) = some (.type "type")) (ne : PySem.W.findIn K (.ref C) "__ne__" = some (some (.builtin "object.__ne__"))) : KlsI K n := ⟨C, a, ⟨pg, hd, po, sa⟩, c, g, t, m, hd, ty, ne⟩
section
variable {K : PySem.W.Frag} {m : List Bool} {n : Str} {C : Addr}
end
end DL
end
section
set_option Elab.async false
set_option linter.all false
set_option maxRecDepth 100000
set_option maxHeartbeats 4000000
namespace DL
open PySem L2 PySem.Spec PyProof.Rows
section
variable {X : Cx} {w : Wd} {e1 e2 : Expr} {fa fb : M T} {g : Fn} {k k' n : Nat} {cn : Str} {pos : Pos} {K : PySem.W.Frag} {ta tb : TE} {C f : Addr} {fd : FuncData} {ps : List Str} {sp : Sp} {W : WX}
end
end DL
end
section
set_option Elab.async false
set_option linter.all false
set_option maxRecDepth 100000
set_option maxHeartbeats 4000000
namespace PySem.W
open PySem PySem.Calls PyProof.Rows Builtin
section
variable {prog : Program} {w : World} {A : Around} {E : Value → Shared → Prop} {s : Shared} {K : Frag} {x C L f : Addr} {h₀ : Heap} {m : Str → Option Value} {ox : Obj} {od : Option Obj} {b tb : Value} {name : Str} {id : String}
end
end PySem.W
end
section
set_option Elab.async false
set_option linter.all false
set_option maxRecDepth 100000
set_option maxHeartbeats 4000000
namespace DL
open PySem L2 PySem.Spec PyProof.Rows
section
variable {X : Cx} {w : Wd} {e1 e2 : Expr} {fa fb : M T} {g : Fn} {k k' n : Nat} {cn : Str} {pos : Pos} {K : PySem.W.Frag} {ta tb : TE} {C f : Addr} {fd : FuncData} {ps : List Str} {sp : Sp} {W : WX}
end
end DL
end
section
set_option Elab.async false
set_option linter.all false
set_option maxRecDepth 100000
set_option maxHeartbeats 4000000
namespace DL
open PySem L2 PySem.Spec PyProof.Rows
theorem pe_or {X : Cx} {e : Expr} {t1 t2 : TE} (h1 : PE X e t1) (h2 : PE X e t2) : PE X e (fun σ H Q => t1 σ H Q ∨ t2 σ H Q) := ⟨fun pins s σ H Q I h => by
  rcases h with h | h
  · exact h1.run pins s σ H Q I h
  · exact h2.run pins s σ H Q I h⟩
section
variable {K : PySem.W.Frag} {m : List Bool} {B : Bs} {σ : L2.St} {H : Hp} {ρ : Rho} {ws : List V} {ts : List T}
end
section
variable {X : Cx} {w : Wd} {x y x1 x2 : Str} {e : Expr} {fe : M T} {p0 p1 p2 p3 p4 p5 p6 p7 p8 pos pos' npos epos : Pos} {i j l k : Nat} {j0 j1 j2 : Nat}
end
end DL
end
section
set_option Elab.async false
set_option linter.all false
set_option maxRecDepth 100000
set_option maxHeartbeats 4000000
namespace DL
open PySem L2 PySem.Spec PyProof.Rows
section
variable {X : Cx} {w : Wd} {e1 e2 : Expr} {fa fb : M T} {g : Fn} {k k' n : Nat} {cn : Str} {pos : Pos} {K : PySem.W.Frag} {ta tb : TE} {C f : Addr} {fd : FuncData} {ps : List Str} {sp : Sp} {W : WX}
end
end DL
end
section
set_option Elab.async false
set_option linter.all false
set_option maxRecDepth 100000
set_option maxHeartbeats 4000000
namespace DL
open PySem L2 PySem.Spec PyProof.Rows PySem.W
section
variable {prog : Program} {w : World} {A : Around} {E : Value → Shared → Prop} {s : Shared}
end
section
variable {X : Cx} {o : Expr} {to : TE} {p apos cpos pos : Pos}
end
end DL
end
section
set_option Elab.async false
set_option linter.all false
set_option maxRecDepth 100000
set_option maxHeartbeats 4000000
namespace TX
open PySem PySem.Froz L2 PySem.Spec PyProof.Rows PySem.F
structure C2 where
  elt : Expr
  t0 : Expr
  i0 : Expr
  f0 : List Expr
  t1 : Expr
  i1 : Expr
  f1 : List Expr
  sc : Scope
  pos : Pos
abbrev C2.e (c : C2) : Expr := .SetComp c.elt [⟨c.t0, c.i0, c.f0, 0⟩, ⟨c.t1, c.i1, c.f1, 0⟩] c.sc c.pos
section
variable {prog : Program} {w : World} {A : Around} {R : Result → Shared → Prop} {E : Value → Shared → Prop} {s : Shared} {c : C2} {it acc : Value} {env : Env}
theorem TxR.typeIs {h : Shared} {a : Addr} {l : List Str} (R : TxR prog w h.heap a l) : h.TypeIs (.ref a) "set" := by
  obtain ⟨D, e, _⟩ := R.ex
  exact ⟨_, e, rfl⟩
end
end TX
end
section
set_option Elab.async false
set_option linter.all false
set_option maxRecDepth 100000
set_option maxHeartbeats 4000000
namespace TX
open PySem PySem.Froz L2 PySem.Spec PyProof.Rows PySem.F
section
variable {X : Cx}
abbrev Cx.b (X : Cx) (sc : Scope) (s : Shared) (H : Hp) (C : Addr) (cl : List (Str × Addr)) (fp : List Addr) : Cx := X.blk s H sc (compEnvC sc cl C X.env) fp
variable {c : C2} {own : List (Str × Nat)} {vs1 : List Nat} {wi wi1 : TI} {g g1 : TG} {tt tt1 : TT} {te : TE}
end
end TX
end
section
set_option Elab.async false
set_option linter.all false
set_option maxRecDepth 100000
set_option maxHeartbeats 4000000
namespace DL
open PySem L2 PySem.Spec PyProof.Rows TX
def OkD (D : Addr) (o : HO) (K : PySem.W.Frag) (m : List Bool) (B : Bs) (σ : L2.St) (H : Hp) (ρ : Rho) (ws : List V) (ts : List T) : Prop :=
  ∃ I Fr Fw, Sit B I H (Fr ++ Fw) ∧ RepR K I H σ ρ Fr ∧ RepTs K I H ws ts Fw ∧ Kept m B σ ∧ H D = some o ∧ D ∉ Fr ++ Fw ∧ I D = none ∧ (B.H D = none ∨ D ∈ B.F)
section
variable {K : PySem.W.Frag} {m : List Bool} {B : Bs} {σ : L2.St} {H : Hp} {ρ : Rho} {ws : List V} {ts : List T} {D : Addr} {o o' : HO}
theorem OkD.ok (h : OkD D o K m B σ H ρ ws ts) : Ok K m B σ H ρ ws ts := by
  obtain ⟨I, Fr, Fw, s, r, w, km, _⟩ := h
  exact ⟨I, Fr, Fw, s, r, w, km⟩
theorem OkD.at (h : OkD D o K m B σ H ρ ws ts) : H D = some o := by
  obtain ⟨I, Fr, Fw, s, r, w, km, e, _⟩ := h
  exact e
theorem OkD.write (h : OkD D o K m B σ H ρ ws ts) : OkD D o' K m B σ (upd H D o') ρ ws ts := by
  obtain ⟨I, Fr, Fw, s, r, w, km, e, hF, hI, hB⟩ := h
  have nf : ∀ a ∈ Fr ++ Fw, (upd H D o') a = H a := fun a z => upd_ne (show a ≠ D from fun y => hF (by rw [← y]; exact z))
  refine ⟨I, Fr, Fw, ⟨fun a u q => ?_, s.ext, fun a u q z => ?_, s.new, s.fr, s.own, fun a q => by rw [nf a q]; exact s.thr a q, s.nd⟩, r.mono (Same.refl _) fun a z => nf a (List.mem_append_left _ z), w.mono (Same.refl _) fun a z => nf a (List.mem_append_right _ z), km, upd_same, hF, hI, hB⟩
  · rw [upd_ne (show a ≠ D from fun y => by rw [y, hI] at q; cases q)]
    exact s.sub a u q
  · rw [upd_ne (show a ≠ D from fun y => by
      subst y
      rcases hB with hB | hB
      · rw [hB] at z; cases z
      · exact q hB)]
    exact s.keep a u q z
theorem OkD.link (h : OkD D o K m B σ H ρ ws ts) : ∃ B', Ok K m B' σ H ρ ws ts ∧ B'.s = B.s ∧ ∀ {σ' : L2.St} {H' : Hp} {ρ' : Rho} {vs : List V} {us : List T}, Ok K m B' σ' H' ρ' vs us → OkD D o K m B σ' H' ρ' vs us := by
  obtain ⟨I, Fr, Fw, s, r, w, km, e, hF, hI, hB⟩ := h
  refine ⟨⟨I, H, Fr ++ Fw, B.s⟩, ⟨I, Fr, Fw, ⟨s.sub, Same.refl _, fun a o _ z => z, fun a o z => .inl z, fun a z => .inl z, s.own, s.thr, s.nd⟩, r, w, km⟩, rfl, fun {σ' H' ρ' vs us} q => ?_⟩
  obtain ⟨I', F1, F2, s', r', w', km'⟩ := q
  have S := (Sit.join (Fr := Fr ++ Fw) (Fw := []) (by rw [List.append_nil]; exact s) s').1
  rw [List.append_nil] at S
  refine ⟨I', F1, F2, S, r', w', km', s'.keep D o hF e, fun z => ?_, ?_, hB⟩
  · rcases s'.fr D z with z | z
    · exact hF z
    · rw [show H D = none from z] at e; cases e
  · cases q : I' D with
    | none => rfl
    | some u =>
      rcases s'.new D u q with z | z | z
      · rw [show I D = some u from z] at hI; cases hI
      · rw [show H D = none from z] at e; cases e
      · exact absurd z hF
theorem OkD.wipe {vs : List Nat} (hv : ∀ i ∈ vs, m[i]? ≠ some true) (h : OkD D o K m B σ H ρ ws ts) : OkD D o K m B (L2.wipe σ vs) H (wipeR ρ vs) ws ts := by
  obtain ⟨B', ok, _, out⟩ := h.link
  exact out (ok.wipe hv)
theorem OkD.unwipe {vs : List Nat} (h : OkD D o K m B (L2.wipe σ vs) H ρ ws ts) (hk : Kept m B σ) : OkD D o K m B σ H ρ ws ts := by
  obtain ⟨B', ok, e, out⟩ := h.link
  exact out (ok.unwipe fun i hi => by rw [e]; exact hk i hi)
theorem OkD.pop {x : V} {t : T} (h : OkD D o K m B σ H ρ (x :: ws) (t :: ts)) : OkD D o K m B σ H ρ ws ts := by
  obtain ⟨B', ok, _, out⟩ := h.link
  exact out ok.pop
theorem OkD.drop {vs : List V} {us : List T} (hl : vs.length = us.length) (h : OkD D o K m B σ H ρ (vs ++ ws) (us ++ ts)) : OkD D o K m B σ H ρ ws ts := by
  obtain ⟨B', ok, _, out⟩ := h.link
  exact out (Ok.popAll hl ok.non).pop
end
section
variable {X : Cx} {w : Wd} {fi fi1 : M (List PyData)} {g g1 : T → M Unit} {tt tt1 : M Bool} {fe : M T} {S S1 : List Nat} {k : Nat} {own : List (Str × Nat)} {vs1 : List Nat} {P : Program} {wo : World}
end
end DL
end
section
set_option Elab.async false
set_option linter.all false
set_option maxRecDepth 100000
set_option maxHeartbeats 4000000
namespace DL
open PySem L2 PySem.Spec PyProof.Rows
def dcGo (vs : List Nat) (g : T → M Unit) (tt : M Bool) (fk fv : M T) : List T → List (Key × T) → M (List (Key × T))
  | [], acc => mret acc
  | d :: ds, acc => mbind (g d) fun _ => mbind tt fun b => if b = true then mbind fk fun kt => mbind fv fun vt => mbind (mwipe vs) fun _ => match kt, vt with
      | .d kd, .d v => (match unkey kd with
        | some k => if acc.length < lim then dcGo vs g tt fk fv ds (tputK acc k (.d v)) else mno
        | none => mno)
      | _, _ => mno
    else mbind (mwipe vs) fun _ => dcGo vs g tt fk fv ds acc
def ddc (fi : M (List PyData)) (vs : List Nat) (g : T → M Unit) (tt : M Bool) (fk fv : M T) : M T := mbind fi fun ds => mbind (mwipe vs) fun _ => mbind (mnoex (dcGo vs g tt fk fv (ds.map T.d) [])) fun acc => mret (.dct acc)
section
variable {X : Cx} {w : Wd} {k : Nat} {tg iter kx vx : Expr} {ifs : List Expr} {fi : M (List PyData)} {g : T → M Unit} {S : List Nat} {tt : M Bool} {fk fv : M T} {scope : Scope} {own : List (Str × Nat)} {pos : Pos}
theorem unkey_kV {kd : PyData} {k : Key} (h : unkey kd = some k) : kd = keyD k := by
  cases kd <;> cases h <;> rfl
theorem Ok.newDct {K : PySem.W.Frag} {m : List Bool} {B : Bs} {σ : L2.St} {H : Hp} {ρ : Rho} {ws : List V} {ts : List T} {a : Addr} (ok : Ok K m B σ H ρ ws ts) (ha : H a = none) : Ok K m B σ (upd H a (.dK [])) ρ (.ref a :: ws) (.dct [] :: ts) := by
  obtain ⟨I, Fr, Fw, s, r, wz, km⟩ := ok
  have nf : ∀ b ∈ Fr ++ Fw, (upd H a (.dK [])) b = H b := fun b z => upd_ne (show b ≠ a from fun e => s.thr b z (by rw [e]; exact ha))
  exact ⟨I, Fr, a :: Fw, (s.newO ha).perm List.perm_middle.symm, r.mono (Same.refl _) fun b z => nf b (List.mem_append_left _ z),
    .cons (F := [a]) (.dct (kvs := []) upd_same rfl rfl rfl .nil) (wz.mono (Same.refl _) fun b z => nf b (List.mem_append_right _ z)), km⟩
theorem den_dc {K : PySem.W.Frag} {wi : TI} {tG : TG} {tT : TT} {tK tV : TE} {vs : List Nat} (hv : ∀ i ∈ vs, NotM w i) (hS : ∀ i ∈ S, i ∈ vs) (di : DenI K w wi fi) (dg : DenG K w.nx tG S g) (dt : DenT K w.nx tT tt) (dk : DenE K w.nx tK fk) (de : DenE K w.nx tV fv) :
    DenE K w (tDc wi tG tT tK tV vs) (ddc fi vs g tt fk fv) := fun B σ H ρ ws ts Q ok q => by
  refine di B σ H ρ ws ts _ ok (q.bind.mono fun ds ρ1 p1 J H1 ws1 ts1 hl ok1 jw D hD => ?_)
  have p2 : PostG K w B (mbind (mnoex (dcGo vs g tt fk fv (ds.map T.d) [])) (fun acc => mret (T.dct acc)) (wipeR ρ1 vs)) (fun v ρ' => ∀ x H', Ok K w.m B σ H' ρ' (x :: ws) (v :: ts) → Q x H') := p1
  obtain ⟨rr, ρe, ee, pe⟩ := PostG.noexE p2.bind
  have km : Kept w.m B σ := by
    obtain ⟨_, _, _, _, _, _, k⟩ := ok
    exact k
  have ok2 : Ok K w.m B (L2.wipe σ vs) (upd H1 D (.dK [])) (wipeR ρ1 vs) (ws1 ++ .ref D :: ws) (ts1 ++ .dct [] :: ts) := (Ok.perm4 hl (Ok.newDct ok1 hD)).wipe hv
  refine ⟨fun i n H => n = ds.length - i ∧ i ≤ ds.length ∧ ∃ ρ acc, Ok K w.m B (L2.wipe σ vs) H ρ (ws1 ++ .ref D :: ws) (ts1 ++ .dct acc :: ts) ∧ dcGo vs g tt fk fv ((ds.drop i).map T.d) acc ρ = .ok rr ρe,
    ⟨ds.length, rfl, Nat.zero_le _, _, [], ok2, ee⟩, ?_⟩
  rintro i n H3 ⟨rfl, hi, ρ3, acc, ok3, e3⟩
  obtain ⟨j1, j2⟩ := jw w.m B (L2.wipe σ vs) H3 ρ3 _ _ i ok3
  by_cases hlt : i < ds.length
  · obtain ⟨go, yl⟩ := j2 ds[i] (by simp [hlt])
    refine .inr ⟨go, fun H => i + 1 ≤ ds.length ∧ ∃ ρ acc, Ok K w.m B (L2.wipe σ vs) H ρ (ws1 ++ .ref D :: ws) (ts1 ++ .dct acc :: ts) ∧ dcGo vs g tt fk fv ((ds.drop (i + 1)).map T.d) acc ρ = .ok rr ρe,
      fun H' h => ⟨ds.length - (i + 1), by omega, rfl, h.1, h.2⟩, fun x H' y => ?_⟩
    have ok4 := yl x H' y
    rw [List.drop_eq_getElem_cons hlt, List.map_cons] at e3
    have e3 : mbind (g (.d ds[i])) (fun _ => mbind tt fun b => if b = true then mbind fk fun kt => mbind fv fun vt => mbind (mwipe vs) fun _ => match kt, vt with
      | .d kd, .d v => (match unkey kd with
        | some k => if acc.length < lim then dcGo vs g tt fk fv ((ds.drop (i + 1)).map T.d) (tputK acc k (.d v)) else mno
        | none => mno)
      | _, _ => mno
      else mbind (mwipe vs) fun _ => dcGo vs g tt fk fv ((ds.drop (i + 1)).map T.d) acc) ρ3 = .ok rr ρe := e3
    obtain ⟨_, ρ4, g4, e4⟩ := mbind_ok e3
    refine dg B (L2.wipe σ vs) H' ρ3 _ _ x _ _ ok4 (PostG.ok g4 fun σ4 H4 so ok5 => ⟨wipe_same so hS, ?_⟩)
    have back : ∀ {H ρ ws' ts'}, Ok K w.m B σ4 H ρ ws' ts' → Ok K w.m B (L2.wipe σ vs) H (wipeR ρ vs) ws' ts' := fun {H ρ ws' ts'} o => by
      have := o.wipe hv
      rw [wipe_same so hS] at this
      exact this
    obtain ⟨b, ρ5, g5, e5⟩ := mbind_ok e4
    refine dt B σ4 H4 ρ4 _ _ _ ok5 (PostG.ok g5 fun H5 ok6 => ?_)
    cases b with
    | false =>
      rw [if_neg Bool.false_ne_true] at e5 ⊢
      obtain ⟨_, ρ6, g6, e6⟩ := mbind_ok e5
      cases mwipe_ok g6
      exact ⟨hlt, _, _, back ok6, e6⟩
    | true =>
      rw [if_pos rfl] at e5 ⊢
      obtain ⟨kt, ρ6, g6, e6⟩ := mbind_ok e5
      obtain ⟨vt, ρ7, g7, e7⟩ := mbind_ok e6
      obtain ⟨_, ρ8, g8, e8⟩ := mbind_ok e7
      cases mwipe_ok g8
      refine dk B σ4 H5 ρ5 _ _ _ ok6 (PostG.ok g6 fun y H6 ok7 => ?_)
      refine de B σ4 H6 ρ6 _ _ _ ok7 (PostG.ok g7 fun z H7 ok8 => ?_)
      cases kt with
      | d kd =>
        cases vt with
        | d v =>
          have e8 : (match unkey kd with
            | some k => if acc.length < lim then dcGo vs g tt fk fv ((ds.drop (i + 1)).map T.d) (tputK acc k (.d v)) else mno
            | none => mno) (wipeR ρ7 vs) = .ok rr ρe := e8
          cases ek : unkey kd with
          | none => rw [ek] at e8; cases e8
          | some key =>
            rw [ek] at e8
            have e8 : (if acc.length < lim then dcGo vs g tt fk fv ((ds.drop (i + 1)).map T.d) (tputK acc key (.d v)) else mno) (wipeR ρ7 vs) = .ok rr ρe := e8
            by_cases hs : acc.length < lim
            · rw [if_pos hs] at e8
              rw [unkey_kV ek] at ok8
              have ey : y = kV key := by
                cases key with
                | inl i => exact ok8.pop.topInt
                | inr z => exact ok8.pop.topStr
              have ok9 : Ok K w.m B σ4 H7 ρ7 ((z :: y :: ws1) ++ .ref D :: ws) ((.d v :: .d (keyD key) :: ts1) ++ .dct acc :: ts) := ok8
              have okA : Ok K w.m B σ4 H7 ρ7 (.ref D :: z :: (y :: (ws1 ++ ws))) (.dct acc :: .d v :: (.d (keyD key) :: (ts1 ++ ts))) := Ok.perm3 (by simp [hl]) ok9
              obtain ⟨a, us, ea, h1, h2, okB⟩ := okA.dctPut (k := key)
              cases ea
              refine ⟨us, key, ey, h1, by rw [h2]; exact lim_lt hs, hlt, _, _, ?_, e8⟩
              have okC := Ok.perm4 hl okB.swap.pop
              exact back okC
            · rw [if_neg hs] at e8
              cases e8
        | _ => cases e8
      | _ => cases e8
  · have e : i = ds.length := by omega
    subst e
    rw [List.drop_length, List.map_nil] at e3
    have e3 : R.ok acc ρ3 = R.ok rr ρe := e3
    cases e3
    exact .inl ⟨j1 rfl, (show ∀ x H', Ok K w.m B σ H' ρe (x :: ws) (.dct rr :: ts) → Q x H' from pe) _ _ ((Ok.popAll hl (Ok.perm3 hl ok3)).unwipe km)⟩
theorem de_dc (at_ : At X w k) (hN : X.N.Nodup) (hi : DI X w tg iter fi) (ok : blkC X.N X.env.scope scope own = true) (hg : ∀ b : Blk, At (b.x X scope) w.nx k → DG (b.x X scope) w.nx tg S g) (ht : ∀ b : Blk, At (b.x X scope) w.nx k → DTs (b.x X scope) w.nx ifs tt) (hk : ∀ b : Blk, At (b.x X scope) w.nx k → DE (b.x X scope) w.nx kx fk) (he : ∀ b : Blk, At (b.x X scope) w.nx k → DE (b.x X scope) w.nx vx fv)
    (hv : ∀ i ∈ own.map (·.2), NotM w i) (hS : ∀ i ∈ S, i ∈ own.map (·.2)) (hs : ∀ x, foldedSetIterable iter X.env x = pure x := by intro _; rfl) :
    DE X w (.DictComp kx vx [⟨tg, iter, ifs, 0⟩] scope pos) (ddc fi (own.map (·.2)) g tt fk fv) := by
  obtain ⟨wi, pi, di⟩ := hi.ex
  obtain ⟨tG, pg, dg⟩ := all_pg (Y := fun b : Blk => b.x X scope) (K := X.K) (fun _ => rfl) fun b => hg b at_.blk
  obtain ⟨tT, pt, dt⟩ := all_pts (Y := fun b : Blk => b.x X scope) (K := X.K) (fun _ => rfl) fun b => ht b at_.blk
  obtain ⟨tK, pk, dk⟩ := all_pe (Y := fun b : Blk => b.x X scope) (K := X.K) (fun _ => rfl) fun b => hk b at_.blk
  obtain ⟨tE, pe, de⟩ := all_pe (Y := fun b : Blk => b.x X scope) (K := X.K) (fun _ => rfl) fun b => he b at_.blk
  exact de_v (pe_dc at_.ca hN pi (blkOk_by ok) (fun s H C cl fp => pg ⟨s, H, C, cl, fp⟩) (fun s H C cl fp => pt ⟨s, H, C, cl, fp⟩) (fun s H C cl fp => pk ⟨s, H, C, cl, fp⟩) (fun s H C cl fp => pe ⟨s, H, C, cl, fp⟩) hs) (den_dc hv hS di dg dt (dk ⟨X.s_0, X.H_0, 0, [], []⟩) (de ⟨X.s_0, X.H_0, 0, [], []⟩))
end
end DL
end
section
set_option Elab.async false
set_option linter.all false
set_option maxRecDepth 100000
set_option maxHeartbeats 4000000
namespace DL
open PySem L2 PySem.Spec PyProof.Rows
def fget : List (Key × PyData) → Key → Option PyData
  | [], _ => none
  | (a, d) :: r, k => if a = k then some d else fget r k
theorem fget_val {K : PySem.W.Frag} {I : Hp} {k : Key} {d : PyData} : ∀ {kvs : List (Key × PyData)} {us : List (Key × V)}, us.map (·.1) = kvs.map (·.1) → DrAll K I (us.map (·.2)) (kvs.map (·.2)) → fget kvs k = some d → ∃ v, valV us k = some v ∧ Dr K I v d
  | [], _, _, _, e => nomatch e
  | _ :: _, [], e, _, _ => nomatch e
  | (a, x) :: r, (b, v) :: us, e1, h, e => by
    rw [List.map_cons, List.map_cons] at e1
    have ea : b = a := (List.cons.inj e1).1
    subst ea
    cases h with
    | cons h1 h2 =>
      unfold fget at e
      by_cases q : b = k
      · rw [if_pos q] at e
        cases e
        exact ⟨v, valV_pos q, h1⟩
      · rw [if_neg q] at e
        rw [valV_neg q]
        exact fget_val (List.cons.inj e1).2 h2 e
section
variable {K : PySem.W.Frag} {m : List Bool} {B : Bs} {σ : L2.St} {H : Hp} {ρ : Rho} {ws : List V} {ts : List T} {x y : V}
theorem Ok.topFdct {kvs : List (Key × PyData)} (h : Ok K m B σ H ρ (x :: ws) (.fdct kvs :: ts)) : ∃ a us, x = .ref a ∧ H a = some (.dK us) ∧ us.map (·.1) = kvs.map (·.1) ∧ DrAll K H (us.map (·.2)) (kvs.map (·.2)) := by
  obtain ⟨I, Fr, Fw, s, r, w, km⟩ := h
  cases w with
  | cons a b =>
    cases a with
    | fdct q =>
      obtain ⟨us, h1, h2, h3⟩ := q.at_
      exact ⟨_, us, rfl, s.sub _ _ h1, h2, drAll_mono s.sub h3⟩
theorem Ok.fdctGet {kvs : List (Key × PyData)} {k : Key} {d : PyData} (h : Ok K m B σ H ρ (x :: ws) (.fdct kvs :: ts)) (e : fget kvs k = some d) : ∃ a us v, x = .ref a ∧ H a = some (.dK us) ∧ valV us k = some v ∧ Ok K m B σ H ρ (v :: ws) (.d d :: ts) := by
  obtain ⟨I, Fr, Fw, s, r, w, km⟩ := h
  cases w with
  | cons a b =>
    cases a with
    | fdct q =>
      obtain ⟨us, h1, h2, h3⟩ := q.at_
      obtain ⟨v, e1, e2⟩ := fget_val h2 h3 e
      exact ⟨_, us, v, rfl, s.sub _ _ h1, e1, I, Fr, _, s, r, .cons (F := []) (.d e2) b, km⟩
def gFget : T → T → Option T
  | .fdct kvs, .d k => match unkey k with
    | some q => (fget kvs q).map T.d
    | none => none
  | _, _ => none
end
section
variable {X : Cx} {w : Wd} {a b e : Expr} {fa fb fe : M T} {p pos apos cpos : Pos} {k : Nat}
theorem de_fget (hu : X.A.units + 64 < cLine) (ha : DE X w a fa) (hb : DE X w b fb) (hs : NoSl b := by exact fun _ _ => rfl) : DE X w (.Subscript a b pos) (dop gFget fa fb) := by
  obtain ⟨ta, pa, da⟩ := ha.ex
  obtain ⟨tb, pb, db⟩ := hb.ex
  refine de_v (pe_dget (by omega) pa pb hs) fun B σ H ρ ws ts Q ok q => ?_
  refine da B σ H ρ ws ts _ ok (q.bind.mono fun v ρ1 p1 x H1 ok1 => ?_)
  refine db B σ H1 ρ1 _ _ _ ok1 (p1.bind.mono fun u ρ2 p2 y H2 ok2 => ?_)
  obtain ⟨z, e, q2⟩ := p2.opt
  cases v with
  | fdct kvs =>
    cases u with
    | d kd =>
      have e : (match unkey kd with
        | some q => (fget kvs q).map T.d
        | none => none) = some z := e
      cases ek : unkey kd with
      | none => rw [ek] at e; cases e
      | some q =>
        rw [ek] at e
        have e : (fget kvs q).map T.d = some z := e
        cases ev : fget kvs q with
        | none => rw [ev] at e; cases e
        | some d =>
          rw [ev] at e
          cases e
          rw [unkey_kV ek] at ok2
          have ey : y = kV q := by
            cases q with
            | inl i => exact ok2.topInt
            | inr z => exact ok2.topStr
          obtain ⟨c, us, v, ex, h1, h2, ok3⟩ := ok2.pop.fdctGet ev
          exact ⟨c, v, ex, .inl ⟨us, q, .inl h1, ey, h2.symm⟩, q2 v H2 ok3⟩
    | _ => cases e
  | _ => cases e

end
section
variable {K : PySem.W.Frag} {m : List Bool}
end
end DL
end
section
set_option Elab.async false
set_option linter.all false
set_option maxRecDepth 100000
set_option maxHeartbeats 4000000
namespace DL
open PySem L2 PySem.Spec PyProof.Rows
section
variable {X : Cx} {w : Wd} {v e : Expr} {es : List Expr} {fs : M (List T)} {fv : M T} {os : List (Option Nat)} {K : PySem.W.Frag} {t : TA} {tv : TE} {n : Nat}
structure DefIK (P : Program) (w : World) (K : PySem.W.Frag) (mg : Str → Option Value) (base : Heap) (cn : Str) (k n : Nat) (kn : Str) (g : Fn) : Prop where
  ex : ∃ C f fd ps, PySem.W.nsIn K mainGlobals cn = some (some (.ref C)) ∧ mg cn = some (.ref C) ∧ Mk K C f ∧ FnG P w K mg base k f fd ps (FnD K mg (n + 1) g) ∧ KBn K fd ps n [kn] (fun us ws => us ++ ws) (fun vs zs => vs ++ zs)
variable {k : Nat} {f C : Addr} {fd : FuncData} {ps : List Str} {sp : Sp} {W : WX} {x kn : Str} {p pos kpos : Pos}
end
section
variable {P : Program} {w : World} {K : PySem.W.Frag} {mg : Str → Option Value} {base : Heap} {k : Nat} {f : Addr} {fd : FuncData} {N ps : List Str} {x qual : Str} {st : Stmt} {m : List Bool} {F : M Fl}
end
structure HasMkD (K : PySem.W.Frag) (cn qual : Str) (st : Stmt) (dvs : List V) (kws : List (Str × V)) : Prop where
  ex : ∃ C f fd, PySem.W.nsIn K mainGlobals cn = some (some (.ref C)) ∧ Mk K C f ∧ FunD K "__init__" qual (defArgs st) (defBody st) (defScope st) dvs kws f fd
theorem HasMkD.by_ {K : PySem.W.Frag} {cn qual : Str} {st : Stmt} {dvs : List V} {kws : List (Str × V)} {C fa T D : Addr} {oc tc : Value} {od an td : Option Addr} {osl tsl : Array (Option Value)} {its : Array Value} {n : Nat} {doc pm cdv ct : Value} (a : PySem.W.nsIn K mainGlobals cn = some (some (.ref C))) (mk : PySem.W.makesIn K C = true) (i : PySem.W.findIn K (.ref C) "__init__" = some (some (.ref fa))) (fn : PySem.W.isFn K (.ref fa) = true) (kc : PySem.W.keepIn K (.ref C) = true) (kf : PySem.W.keepIn K (.ref fa) = true)
    (l : K.lookup fa = some ⟨oc, od, .func (PySem.W.fnOf "__init__" qual (defArgs st) (defBody st) (defScope st) (.ref T) (.ref D) doc pm an cdv ct), osl⟩) (c : PySem.W.codeIn K cdv qual = true) (lT : K.lookup T = some ⟨tc, td, .seq its n, tsl⟩) (hv : Vals dvs its.toList) (hd : dvs ≠ [])
    (h : ∀ q ∈ kws, ∃ u, PySem.W.nsIn K D q.1 = some (some u) ∧ RelV q.2 u) : HasMkD K cn qual st dvs kws :=
  ⟨C, fa, _, a, ⟨mk, i, fn, kc⟩, ⟨⟨oc, od, .ref T, .ref D, doc, pm, an, cdv, ct, osl, rfl, l, c, .inr ⟨hd, T, _, its.toList, n, rfl, lT, by rw [Array.toArray_toList], hv⟩, .inr ⟨D, rfl, h⟩⟩, kf⟩⟩
theorem DefIK.of {P : Program} {w : World} {K : PySem.W.Frag} {mg : Str → Option Value} {base : Heap} {k n : Nat} {kn : Str} {f : Addr} {fd : FuncData} {ps : List Str} {g : Fn} {cn : Str} {C : Addr} {gg : List Value → List Value → List Value} {gV : List V → List V → List V} (hC : PySem.W.nsIn K mainGlobals cn = some (some (.ref C))) (hm : mg cn = some (.ref C)) (M : Mk K C f) (F : FnG P w K mg base k f fd ps (FnD K mg (n + 1) g)) (b : KBn K fd ps n [kn] gg gV) (e1 : gg = fun us ws => us ++ ws) (e2 : gV = fun vs zs => vs ++ zs) : DefIK P w K mg base cn k n kn g := by
  subst e1 e2
  exact ⟨⟨C, f, fd, ps, hC, hm, M, F, b⟩⟩
end DL
end
section
set_option Elab.async false
set_option linter.all false
set_option maxRecDepth 100000
set_option maxHeartbeats 4000000
namespace DL
open PySem L2 PySem.Spec
section
variable {prog : Program} {w : World} {A : Around} {E : Value → Shared → Prop} {s : Shared} {z TI TO i1 i2 : Addr} {fp1 fp2 : List Addr} {n1 n2 i : Nat} {P1 P2 : Nat → Value → Prop} {St1 St2 : Nat → Heap → Prop} {a1 a2 : Value}
end
end DL
end
section
set_option Elab.async false
set_option linter.all false
set_option maxRecDepth 100000
set_option maxHeartbeats 4000000
namespace DL
open PySem L2 PySem.Spec
end DL
end
section
set_option Elab.async false
set_option linter.all false
set_option maxRecDepth 100000
set_option maxHeartbeats 4000000
namespace DL
open PySem L2 PySem.Spec
end DL
end
section
set_option Elab.async false
set_option linter.all false
set_option maxRecDepth 100000
set_option maxHeartbeats 4000000
namespace DL
open PySem L2 PySem.Spec PyProof.Rows
section
variable {M : Model} {A : Around} {E : Value → Shared → Prop} {s : Shared} {env : Env}
end
section
variable {prog : Program} {w : World} {A : Around} {E : Value → Shared → Prop} {s : Shared}
end
section
variable {K : PySem.W.Frag}
end
section
variable {X : Cx} {w : Wd} {e e2 : Expr} {elts : List Expr} {kk bj : Nat} {p kp bp pos tpos : Pos} {os : List (Option Nat)} {fs : M (List T)}
end
end DL
end
section
set_option Elab.async false
set_option linter.all false
set_option maxRecDepth 100000
set_option maxHeartbeats 4000000
namespace DL
open PySem L2
section
variable {X : Cx} {w : Wd} {e elt : Expr} {ifs : List Expr} {tt : M Bool} {fe : M T} {pos npos pos' : Pos} {k i j : Nat} {x y : Str}
end
section
variable {K : PySem.W.Frag} {m : List Bool}
end
end DL
end
section
set_option Elab.async false
set_option linter.all false
set_option maxRecDepth 100000
set_option maxHeartbeats 4000000
namespace DL
open PySem L2 PySem.Spec PyProof.Rows
open PySem.W (alike dataLt dataLe EachIs AllAlike Sortable)
section
variable {X : Cx}
end
section
variable {K : PySem.W.Frag} {m : List Bool}
end
end DL
end
section
set_option Elab.async false
set_option linter.all false
set_option maxRecDepth 100000
set_option maxHeartbeats 4000000
namespace DL
open PySem L2 PySem.Spec
section
variable {X : Cx} {w : Wd} {b e : Expr} {fb fe : M T} {p pos : Pos} {x : Str}
end
end DL
end
section
set_option Elab.async false
set_option linter.all false
set_option maxRecDepth 100000
set_option maxHeartbeats 4000000
namespace DL
open PySem L2 PySem.Spec PyProof.Rows
section
variable {X : Cx} {w : Wd} {k : Nat} {a e e1 e2 : Expr} {p p1 pos pos1 apos cpos : Pos} {os : List (Option Nat)} {fs : M (List T)} {fe : M T}
def lstRg : T → Option T
  | .d (.int j) => if (decide (0 ≤ j) && decide (j ≤ 1000)) = true then some (.d (.list (intsFrom 0 j.toNat))) else none
  | _ => none
theorem dr_rg {K : PySem.W.Frag} {I : Hp} (n : Nat) : DrAll K I (rgV 0 (n : Int)) (intsFrom 0 n) := by
  unfold rgV intsFrom
  rw [show ((n : Int) - 0).toNat = n by omega]
  have : ∀ l : List Nat, DrAll K I (l.map fun i => V.int (0 + (i : Nat))) (l.map fun (i : Nat) => PyData.int (0 + (i : Int))) := fun l => by
    induction l with
    | nil => exact .nil
    | cons x xs ih => exact .cons (.int _) ih
  exact this _
theorem de_listRg (at_ : At X w k) (hm : NoG X "list") (hm2 : NoG X "range") (ha : DE X w a fe) (hg : Gl X "list" := by rfl) (hg2 : Gl X "range" := by rfl) (na : starEach [a] X.env = (false, eval a X.env) :: starEach [] X.env := by rfl)
    (na2 : starEach [Expr.Call (.Name "range" p1) [a] [] pos1] X.env = (false, eval (Expr.Call (.Name "range" p1) [a] [] pos1) X.env) :: starEach [] X.env := by rfl) :
    DE X w (.Call (.Name "list" p) [.Call (.Name "range" p1) [a] [] pos1] [] pos) (mbind fe fun t => mopt (lstRg t)) := by
  obtain ⟨t, pt, dt⟩ := ha.ex
  refine de_v (pe_listRg at_.ca hg hm (prg_1 hg2 hm2 pt na) na2) fun B σ H ρ ws ts Q ok q => ?_
  refine dt B σ H ρ ws ts _ ok (q.bind.mono fun v ρ1 p1 x H1 ok1 => ?_)
  obtain ⟨z, e1, q1⟩ := p1.opt
  unfold lstRg at e1
  split at e1
  · rename_i j
    obtain ⟨h1, h2⟩ := reqs e1
    subst h2
    have h1 := (Bool.and_eq_true _ _).mp h1
    have b1 := of_decide_eq_true h1.1
    have b2 := of_decide_eq_true h1.2
    have hx := Ok.topInt (ws := ws) (ts := ts) ok1
    subst hx
    refine ⟨j, rfl, ⟨by omega, by omega, by omega, by omega, by omega⟩, fun l hl => ?_⟩
    obtain ⟨I, Fr, Fw, s, r, w', km⟩ := ok1.pop
    have hI := (s.fresh hl).2.1
    have sm : Same I (upd I l (.lst (rgV 0 j))) := fun b u e => by rw [upd_ne (ne_of_none e hI)]; exact e
    have nf : ∀ b ∈ Fr ++ Fw, (upd H1 l (.lst (rgV 0 j))) b = H1 b := fun b z => upd_ne (show b ≠ l from fun e => s.thr b z (by rw [e]; exact hl))
    refine q1 _ _ ⟨_, Fr, Fw, s.newD hl, r.mono sm fun b z => nf b (List.mem_append_left _ z), .cons (F := []) (.d (.lst upd_same ?_)) (w'.mono sm fun b z => nf b (List.mem_append_right _ z)), km⟩
    have := dr_rg (K := X.K) (I := upd I l (.lst (rgV 0 j))) j.toNat
    rwa [show ((j.toNat : Nat) : Int) = j by omega] at this
  · cases e1
end
def dzV (ks : List Str) (ys : List V) : List (Key × V) := (ks.zip ys).map fun e => (Sum.inr e.1, e.2)
def tDz (K : PySem.W.Frag) (ta : TA) : TE := fun σ H Q => ta σ H fun vs H1 => ∃ a b ks ys, vs = [.ref a, .ref b] ∧ SqL K H1 a (ks.map V.str) ∧ SqL K H1 b ys ∧ ks.Nodup ∧ ks.length = ys.length ∧ ∀ p, H1 p = none → Q (.ref p) (upd H1 p (.dK (dzV ks ys)))
def dzU (ks : List Str) (us : List Value) : List (Key × Value) := (ks.zip us).map fun e => (Sum.inr e.1, e.2)
theorem kv_dz : ∀ {ks : List Str} {ys : List V} {us : List Value}, Vals ys us → ks.length = ys.length → KV (dzV ks ys) (dzU ks us)
  | [], [], _, .nil, _ => .nil
  | k :: ks, y :: ys, _, .cons r rs, hl => .cons ⟨rfl, r⟩ (kv_dz rs (by simpa using hl))
  | [], _ :: _, _, _, hl => by simp at hl
  | _ :: _, [], _, _, hl => by simp at hl
theorem dzU_len {ks : List Str} {us : List Value} (h : ks.length = us.length) : (dzU ks us).length = us.length := by
  unfold dzU
  rw [List.length_map, List.length_zip, h, Nat.min_self]
theorem dzU_keys {ks : List Str} {us : List Value} (h : ks.length = us.length) : (dzU ks us).map (·.1) = ks.map Sum.inr := by
  unfold dzU
  rw [List.map_map]
  have : ((fun x : Key × Value => x.1) ∘ fun e : Str × Value => ((Sum.inr e.1 : Key), e.2)) = Sum.inr ∘ Prod.fst := rfl
  rw [this, ← List.map_map, List.map_fst_zip (by omega)]
theorem dz_have {X : Cx} {ks : List Str} {its us : List Value} (rv : Vals (ks.map V.str) its) (h : ks.length = us.length) : PairsHave (mixKind X.prog X.w) (min its.toArray.size us.toArray.size) (fun i k v => its.toArray[i]? = some k ∧ us.toArray[i]? = some v) (dzU ks us) := by
  have hl : ks.length = its.length := by rw [← rv.length, List.length_map]
  refine ⟨by rw [dzU_len h, List.size_toArray, List.size_toArray]; omega, fun i key v ⟨h1, h2⟩ => ?_⟩
  have h1 : its[i]? = some key := by simpa using h1
  have h2 : us[i]? = some v := by simpa using h2
  have li : i < ks.length := by rw [hl]; exact (List.getElem?_eq_some_iff.mp h1).1
  obtain ⟨x, hx, r⟩ := DX.pget rv h1
  rw [List.getElem?_map, List.getElem?_eq_getElem li] at hx
  cases hx
  obtain ⟨t, rfl⟩ := r
  refine ⟨Sum.inr ks[i], ?_, ?_⟩
  · unfold dzU
    rw [List.getElem?_map, (List.getElem?_zip_eq_some (z := (ks[i], v))).mpr ⟨List.getElem?_eq_getElem li, h2⟩]
    rfl
  · exact mixKind_str _ _ _ _
section
variable {X : Cx} {e e2 : Expr} {ta : TA} {p pos p2 pos2 : Pos}
theorem pe_dictZip (hc : X.calm = true) (hgd : Gl X "dict") (hmd : X.mg "dict" = none) (hg : Gl X "zip") (hm : X.mg "zip" = none) (ha : PA X [e, e2] ta)
    (hs : starEach [e, e2] X.env = (false, eval e X.env) :: starEach [e2] X.env := by rfl) (hpl : (backTo pos (starEach [e2] X.env)).any (·.1) = false := by rfl)
    (na : starEach [Expr.Call (.Name "zip" p) [e, e2] [] pos] X.env = (false, eval (Expr.Call (.Name "zip" p) [e, e2] [] pos) X.env) :: starEach [] X.env := by rfl) :
    PE X (.Call (.Name "dict" p2) [.Call (.Name "zip" p) [e, e2] [] pos] [] pos2) (tDz X.K ta) := by
  refine ⟨fun pins s σ H Q I h => ?_⟩
  refine Call_ (ld_blt I hgd hmd boot_dict (PyProof.Rows.callWith_type1 (args_cons ?_ na) na))
  refine Call_ (ld_blt I hg hm PyProof.Rows.boot_zip (PyProof.Rows.callWith_type1 (thn (ha.run pos pins s σ H _ I h) fun us s1 ⟨vs, H1, I1, r1, q1⟩ => ?_) hs hpl))
  obtain ⟨a, b, ks, ys, ex, hqx, hqy, nd, hl, q⟩ := q1
  subst ex
  cases r1 with
  | cons r rr =>
    cases rr with
    | cons r' rr =>
      cases rr
      cases r
      cases r'
      obtain ⟨its, rv, p1, _⟩ := I1.list hqx
      obtain ⟨its2, rv2, p2, hz2⟩ := I1.list hqy
      have la : a < s1.heap.objs.size := p1.lt
      have lb : b < s1.heap.objs.size := p2.lt
      have hl2 : ks.length = its2.length := by rw [hl, rv2.length]
      refine call_zip_2 p1.isList p2.isList fun h' hz hTI hTO h1 h2 hsz hk => args_nil ?_
      refine PySem.call_dict_pairs (s := { s1 with heap := h' }) (knd := mixKind X.prog X.w) (kvs := dzU ks its2) (PairArg.zip (s1.heap.objs.size + 4) (s1.heap.objs.size + 2) (s1.heap.objs.size + 3) s1.heap.objs.size (s1.heap.objs.size + 1) a b (PySem.W.ktu_apart s1.heap.objs.size a b la lb) its.toArray its2.toArray) (I1.ok.hd hc)
        ⟨hz, hTI, ⟨_, _, hTO⟩, h1, h2, (let ⟨o, e, x⟩ := p1.isList; ⟨o, hk _ _ e, x⟩), (let ⟨o, e, x⟩ := p2.isList; ⟨o, hk _ _ e, x⟩)⟩ (dz_have rv hl2) (by rw [List.size_toArray, List.size_toArray]; have := rv2.length; omega) fun h'' tk hd hk2 => ?_
      have e0 : h'.objs.size = s1.heap.objs.size + 5 := hsz
      have kk : ∀ b u, s1.heap.get? b = some u → h''.get? b = some u := fun b u e => hk2 b u (fun m => by
        have lt := Heap.lt_size e
        have e' : b = s1.heap.objs.size + 4 ∨ b = s1.heap.objs.size + 3 ∨ b = s1.heap.objs.size ∨ b = s1.heap.objs.size + 1 := by simpa using m
        rcases e' with z | z | z | z
        · rw [z] at lt; exact Nat.not_lt.mpr (Nat.le_add_right _ _) lt
        · rw [z] at lt; exact Nat.not_lt.mpr (Nat.le_add_right _ _) lt
        · rw [z] at lt; exact Nat.lt_irrefl _ lt
        · rw [z] at lt; exact Nat.not_lt.mpr (Nat.le_add_right _ _) lt) (hk b u e)
      rw [merged_nil_of_nodup _ (by rw [dzU_keys hl2]; exact List.Pairwise.map _ (fun a b n z => n (Sum.inr.inj z)) nd)] at hd
      have le : s1.heap.objs.size ≤ h'.objs.size := by omega
      have hm' : (h'.objs.size == sysModules) = false := beq_eq_false_iff_ne.mpr (Nat.ne_of_gt (Nat.lt_of_lt_of_le I1.big le))
      refine ⟨.ref h'.objs.size, upd H1 h'.objs.size (.dK (dzV ks ys)), I1.laid (t' := tk) kk le (show ObjOk X.prog X.w _ _ _ (.dK (dzV ks ys)) from ⟨?_, hm', dzU ks its2, kv_dz rv2 hl, hd⟩), rfl, q _ (I1.hok.fresh le)⟩
      unfold dzV
      rw [List.length_map, List.length_zip, hl, Nat.min_self]
      exact hz2
end
theorem dzs_map : ∀ zs : List Str, strsD (zs.map PyData.str) = some zs
  | [] => rfl
  | z :: zs => by rw [List.map_cons]; show (strsD (zs.map PyData.str)).map (z :: ·) = _; rw [dzs_map zs]; rfl
def dzD (zs : List Str) (vs : List PyData) : List (Key × PyData) := (zs.zip vs).map fun e => (Sum.inr e.1, e.2)
def gDz : List T → Option T
  | [.d (.list ks), .d (.list vs)] => match strsD ks with
    | some zs => if (decide zs.Nodup && decide (zs.length = vs.length)) = true then some (.fdct (dzD zs vs)) else none
    | none => none
  | _ => none
theorem dz_keys : ∀ {zs : List Str} {ys : List V} {vs : List PyData}, zs.length = ys.length → zs.length = vs.length → (dzV zs ys).map (·.1) = (dzD zs vs).map (·.1)
  | [], [], [], _, _ => rfl
  | z :: zs, y :: ys, v :: vs, h1, h2 => by
    show Sum.inr z :: (dzV zs ys).map (·.1) = Sum.inr z :: (dzD zs vs).map (·.1)
    rw [dz_keys (by simpa using h1) (by simpa using h2)]
  | [], _ :: _, _, h, _ => by simp at h
  | [], [], _ :: _, _, h => by simp at h
  | _ :: _, [], _, h, _ => by simp at h
  | _ :: _, _ :: _, [], _, h => by simp at h
theorem dz_vals : ∀ {zs : List Str} {ys : List V}, zs.length = ys.length → (dzV zs ys).map (·.2) = ys
  | [], [], _ => rfl
  | z :: zs, y :: ys, h1 => by
    show y :: (dzV zs ys).map (·.2) = y :: ys
    rw [dz_vals (by simpa using h1)]
  | [], _ :: _, h => by simp at h
  | _ :: _, [], h => by simp at h
theorem dzD_vals : ∀ {zs : List Str} {ys : List PyData}, zs.length = ys.length → (dzD zs ys).map (·.2) = ys
  | [], [], _ => rfl
  | z :: zs, y :: ys, h1 => by
    show y :: (dzD zs ys).map (·.2) = y :: ys
    rw [dzD_vals (by simpa using h1)]
  | [], _ :: _, h => by simp at h
  | _ :: _, [], h => by simp at h
section
variable {X : Cx} {w : Wd} {k : Nat} {e e2 : Expr} {p pos p2 pos2 : Pos} {os : List (Option Nat)} {fs : M (List T)}
theorem de_dictZip (at_ : At X w k) (hmd : NoG X "dict") (hm : NoG X "zip") (ha : DA X w [e, e2] os fs) (hgd : Gl X "dict" := by rfl) (hg : Gl X "zip" := by rfl)
    (hs : starEach [e, e2] X.env = (false, eval e X.env) :: starEach [e2] X.env := by rfl) (hpl : (backTo pos (starEach [e2] X.env)).any (·.1) = false := by rfl)
    (na : starEach [Expr.Call (.Name "zip" p) [e, e2] [] pos] X.env = (false, eval (Expr.Call (.Name "zip" p) [e, e2] [] pos) X.env) :: starEach [] X.env := by rfl) :
    DE X w (.Call (.Name "dict" p2) [.Call (.Name "zip" p) [e, e2] [] pos] [] pos2) (mbind fs fun ts => mopt (gDz ts)) := by
  obtain ⟨t, pt, dt⟩ := ha.ex
  refine de_v (pe_dictZip at_.ca hgd hmd hg hm pt hs hpl na) fun B σ H ρ ws ts Q ok q => ?_
  have q := q.bind
  refine dt B σ H ρ ws ts _ ok ?_
  cases e1 : fs ρ with
  | no => rw [e1] at q; exact q.elim
  | ex er ρ1 => rw [e1] at q; exact q
  | ok vs ρ1 =>
    rw [e1] at q
    obtain ⟨z, e2, q2⟩ := (show PostG X.K w B (mopt (gDz vs) ρ1) _ from q).opt
    intro xs H1 hl ok1 _
    unfold gDz at e2
    split at e2
    · rename_i ks vs
      cases e3 : strsD ks with
      | none => rw [e3] at e2; cases e2
      | some zs =>
        rw [e3] at e2
        have e2 : (if (decide zs.Nodup && decide (zs.length = vs.length)) = true then some (T.fdct (dzD zs vs)) else none) = some z := e2
        obtain ⟨h1, h2⟩ := reqs e2
        subst h2
        have h1 := (Bool.and_eq_true _ _).mp h1
        have nd := of_decide_eq_true h1.1
        have hlen := of_decide_eq_true h1.2
        obtain ⟨x, y, rfl⟩ := two_of hl
        obtain ⟨I, Fr, Fw, s, r, w0, km⟩ := ok1
        cases w0 with
        | cons x1 w1 =>
          rename_i F1 F2
          cases w1 with
          | cons x2 w2 =>
            rename_i F3 F4
            cases x1 with
            | d dd =>
              cases dd with
              | lst hI dI =>
                cases x2 with
                | d dd2 =>
                  cases dd2 with
                  | lst hI2 dI2 =>
                    obtain rfl := strs_all dI e3
                    rename_i a ys og
                    have ly : zs.length = ys.length := by rw [hlen, ← dI2.len]
                    refine ⟨_, _, zs, ys, rfl, SqL.of (s.sub _ _ hI), SqL.of (s.sub _ _ hI2), nd, ly, fun l hn => ?_⟩
                    have hI' := (s.fresh hn).2.1
                    have sm : Same I (upd I l (.dK (dzV zs ys))) := fun b u e => by rw [upd_ne (ne_of_none e hI')]; exact e
                    have nf : ∀ b ∈ Fr ++ ([] ++ ([] ++ F4)), (upd H1 l (.dK (dzV zs ys))) b = H1 b := fun b z => upd_ne (show b ≠ l from fun e => s.thr b z (by rw [e]; exact hn))
                    refine q2 _ _ ⟨_, Fr, _, s.newD hn, r.mono sm fun a z => nf a (List.mem_append_left _ z), .cons (F := []) (.fdct ⟨⟨_, upd_same, dz_keys ly hlen, ?_⟩⟩) (w2.mono sm fun a z => nf a (List.mem_append_right _ z)), km⟩
                    rw [dz_vals ly, dzD_vals hlen]
                    exact drAll_mono sm dI2
    · cases e2
end
def tSortVals (to : TE) : TE := fun σ H Q => to σ H fun x H1 => ∃ (a : Addr) (us : List (Key × V)) (zs : List Str), x = .ref a ∧ H1 a = some (.dK us) ∧ us.map (·.2) = zs.map V.str ∧ ∀ p, H1 p = none → Q (.ref p) (upd H1 p (.lst ((sortStr zs).map V.str)))
theorem each_strs : ∀ {us : List Value} {zs : List Str}, us.length = zs.length → (∀ (i : Nat) (u : Value) (z : Str), us[i]? = some u → zs[i]? = some z → ∃ t, u = Value.str z t) → PySem.W.EachIs (fun u z => ∃ t, u = Value.str z t) us zs
  | [], [], _, _ => .nil
  | u :: us, z :: zs, hl, h => .cons (h 0 u z rfl rfl) (each_strs (by simpa using hl) fun i u z h1 h2 => h (i + 1) u z (by simpa using h1) (by simpa using h2))
  | [], _ :: _, hl, _ => by simp at hl
  | _ :: _, [], hl, _ => by simp at hl
theorem vals_strs : ∀ {us : List Value} {zs : List Str}, PySem.W.EachIs (fun u z => ∃ t, u = Value.str z t) us zs → Vals (zs.map V.str) us
  | _, _, .nil => .nil
  | _, _, .cons h hs => .cons h (vals_strs hs)
theorem sortStr_data (zs : List Str) : zs.mergeSort (PySem.W.dataLe false PyData.str) = sortStr zs := by
  have e := PySem.W.dataLe_str (fun b : Str => b)
  have e2 : (fun a b : Str => decide (a.cps.toList ≤ b.cps.toList)) = leS := by
    funext a b
    cases h : leS a b with
    | true => exact decide_eq_true (leS_iff.mp h)
    | false => exact decide_eq_false fun x => by rw [leS_iff.mpr x] at h; cases h
  unfold sortStr
  rw [← e2, ← e]
section
variable {X : Cx} {o : Expr} {to : TE} {p apos cpos pos : Pos}
theorem pe_sortVals (hc : X.calm = true) (hu : X.A.units + 64 < cLine) (hg : Gl X "sorted") (hm : X.mg "sorted" = none) (ho : PE X o to)
    (hbase : attributeBase o "values" X.env (eval o X.env) = eval o X.env := by rfl) (hline : (apos.endLine == cpos.line) = true := by rfl) : PE X (.Call (.Name "sorted" p) [.Call (.Attribute o "values" apos) [] [] cpos] [] pos) (tSortVals to) := by
  refine ⟨fun pins s σ H Q I h => ?_⟩
  refine Call_ (ld_blt I hg hm boot_sorted ?_)
  refine PyProof.Rows.callWith_builtin1 (PyProof.Rows.args_cons ?_ rfl) rfl rfl
  refine wpAny_Call_method0_late hbase hline (thn (ho.run pins s σ H _ I h) fun v s1 ⟨x, H1, I1, r1, a, us, zs, ex, ha, hv, q⟩ => ?_)
  subst ex
  obtain rfl : v = Value.ref a := r1
  obtain ⟨hz, hsys, vs, rel, dof⟩ := dk_of I1.hok ha
  obtain ⟨ep, dat⟩ := dof.dictAt
  have dat' := dat
  obtain ⟨ob, es, ho', ex, hdat, hko, hpr, hnd⟩ := dat'
  refine ⟨"dict", "dict.values", PySem.F.plainAttrs_dict, PySem.F.slot_dict_values, PySem.F.type_dict_values, ⟨ob, ho', ex.1⟩, fun b e => ?_, Calls.callWith_builtin rfl (PySem.evalArgs_none ?_)⟩
  · cases e
    exact ⟨ob, ho', ex.2.1⟩
  refine call_meetsIn PySem.F.slot_dict_values ⟨ob, ho', ex.1⟩ PySem.F.entry_dict_values (PySem.F.args_dict_values_1 _) (meets_dict_values (mixKind X.prog X.w) a hsys) ⟨⟨vs, dof⟩, ?_⟩
  have k1 : ∀ b u, s1.heap.get? b = some u → (s1.heap.push { cls := .type "dict_values", data := .fields #[.ref a] }).get? b = some u := fun b u e => Heap.get?_push_of_some _ e
  have dat1 : (s1.heap.push { cls := .type "dict_values", data := .fields #[.ref a] }).DictAt (mixKind X.prog X.w) a vs ep := dat.keep k1
  refine PyProof.Rows.args_nil ?_
  have hlv : vs.length = zs.length := by
    have e1 := congrArg List.length hv
    rw [List.length_map, List.length_map] at e1
    rw [← e1]
    exact (KV.length rel).symm
  have hlen : us.length = vs.length := KV.length rel
  refine Calls.call_function_entry kind_sorted plain_sorted entry_sorted (args_sorted1 _) ?_
  unfold Builtin.«sorted»
  refine wpAny_bind (m := checkCount "sorted" 1 1 _) (wpAny_pure ?_)
  refine wpAny_bind (PySem.W.kdu_collect (s := { s1 with heap := s1.heap.push { cls := .type "dict_values", data := .fields #[.ref a] } }) (A := X.A.in1) (PySem.W.kdl_values (knd := mixKind X.prog X.w) (r := s1.heap.objs.size) (d := a) (kvs := vs) (ep := ep)) (I1.ok.hd hc) ⟨⟨_, Heap.get?_push_size _ rfl, rfl, rfl⟩, dat1⟩ (by omega) fun h' tk acc hk hacc => ?_)
  have hl : acc.toList.length = vs.length := by rw [Array.length_toList]; exact hacc.1
  refine wpAny_bind (wpAny_newList ?_ (by rw [hl]; omega))
  have hP : ∀ (i : Nat) (u : Value) (z : Str), acc.toList[i]? = some u → zs[i]? = some z → ∃ t, u = Value.str z t := fun i u z hu hz => by
    obtain ⟨k, hk⟩ := hacc.2 i u (by rw [← hu, Array.getElem?_toList])
    obtain ⟨x, h1, h2⟩ := DX.pget rel hk
    have e1 : (us.map (·.2))[i]? = some x.2 := by rw [List.getElem?_map, h1]; rfl
    rw [hv, List.getElem?_map, hz] at e1
    have e1 : V.str z = x.2 := Option.some.inj e1
    have h2 := h2.2
    rw [← e1] at h2
    exact h2
  have e0 := each_strs (by rw [hl, hlv]) hP
  have hob : (h'.push { cls := .type "list", data := .seq acc.toList.toArray }).get? h'.objs.size = some (seqObj "list" acc.toList.toArray 0) := Heap.get?_push_size _ rfl
  refine wpAny_bind (wpAny_holding (wpAny_mono (PySem.W.list_sort_data (s := { s1 with heap := h'.push { cls := .type "list", data := .seq acc.toList.toArray }, toks := tk }) (A := X.A.in1) (enc := PyData.str) (R := fun u z => ∃ t, u = Value.str z t)
    (Q := fun _ s' => EP X pins σ Q (.ref h'.objs.size) s') (E := X.xe) hob e0 (e0.mono fun u z ⟨t, e⟩ => ⟨[], ?_, List.not_mem_nil⟩)
    (PySem.W.AllAlike.of fun _ _ => rfl) (PySem.W.Sortable.others fun _ => ⟨(fun h => by cases h), (fun _ h => by cases h)⟩) (by omega) (fun b _ => ?_) fun out ho eo => ?_) (fun _ s' x => ?_) fun _ _ e => e))
  · show X.A.units + 1 + 1 + 0 < cLine
    omega
  · show EP X pins σ Q (.ref h'.objs.size) { s1 with heap := sortedHeap (h'.push { cls := .type "list", data := .seq acc.toList.toArray }) h'.objs.size acc.toList out.toArray, toks := tk }
    obtain ⟨eF, heF⟩ := sortedHeap_at (vs := acc.toList) (out := out.toArray) hob
    have kh : ∀ b ob, s1.heap.get? b = some ob → h'.get? b = some ob := fun b ob e => hk b ob (k1 b ob e)
    have hlo : s1.heap.objs.size ≤ h'.objs.size := by
      have z := Heap.lt_size (hk s1.heap.objs.size _ (Heap.get?_push_size _ rfl))
      exact Nat.le_of_lt z
    refine ⟨.ref h'.objs.size, upd H1 h'.objs.size (.lst ((sortStr zs).map V.str)), I1.laid (t' := tk) (fun b ob e => ?_) hlo ⟨?_, out, eF, ?_, heF⟩, rfl, q _ (I1.hok.fresh hlo)⟩
    · have e2 := kh b ob e
      exact (sortedHeap_old (Nat.ne_of_lt (Heap.lt_size e2)) (Heap.lt_size (Heap.get?_push_of_some _ e2))).trans (Heap.get?_push_of_some _ e2)
    · rw [List.length_map, ← sortStr_data, List.length_mergeSort]
      omega
    · rw [sortStr_data] at eo
      exact vals_strs eo
  · exact wpAny_pure ⟨_, rfl, x⟩
  · rw [e]
    exact .str _ _
end
section
variable {X : Cx} {w : Wd} {k : Nat} {e : Expr} {fe : M T} {p apos cpos pos : Pos}
end
end DL
end
section
set_option Elab.async false
set_option linter.all false
set_option maxRecDepth 100000
set_option maxHeartbeats 4000000
namespace DL
open PySem L2 PySem.Spec PyProof.Rows
def insA {α : Type} (j : Nat) (xs : List α) (z : α) : List α := xs.take j ++ z :: xs.drop j
def tI (j : Nat) (t : TA) (tv : TE) : TA := fun σ H Q => t σ H fun vs H1 => tv σ H1 fun z H2 => Q (insA j vs z) H2
def tNone : TE := fun _ H Q => Q .non H
def dins (j : Nat) (fs : M (List T)) (f : M T) : M (List T) := mbind fs fun xs => mbind f fun x => mret (insA j xs x)
theorem insA_len {α : Type} (j : Nat) (xs : List α) (z : α) : (insA j xs z).length = xs.length + 1 := by
  unfold insA
  rw [List.length_append, List.length_cons, ← Nat.add_assoc, ← List.length_append, List.take_append_drop]
theorem dins_len {j : Nat} {f : M T} {fs : M (List T)} {n : Nat} (h : ∀ vs ρ ρ', fs ρ = .ok vs ρ' → vs.length = n) : ∀ vs ρ ρ', dins j fs f ρ = .ok vs ρ' → vs.length = n + 1 := fun vs ρ ρ' e => by
  obtain ⟨xs, ρ1, e1, e2⟩ := mbind_ok e
  obtain ⟨x, ρ2, e3, e4⟩ := mbind_ok e2
  cases e4
  rw [insA_len, h _ _ _ e1]
theorem orig_none {σ : L2.St} {n : Nat} {xs : List V} : Orig σ (List.replicate n none) xs := fun k i e => by
  rw [List.getElem?_replicate] at e
  split at e <;> simp at e
section
variable {X : Cx} {w : Wd} {v e : Expr} {es : List Expr} {fs : M (List T)} {fv : M T} {os : List (Option Nat)} {K : PySem.W.Frag} {t : TA} {tv : TE} {n j : Nat}
theorem den_tNone : DenE K w tNone (mret (.d .none)) := fun B σ H ρ ws ts Q ok q => q .non H ok.non
theorem den_ins (hl : ∀ vs ρ ρ', fs ρ = .ok vs ρ' → vs.length = n) (d : DenA K w t os fs) (dv : DenE K w tv fv) : DenA K w (tI j t tv) (List.replicate (n + 1) none) (dins j fs fv) := fun B σ H ρ ws ts Q ok q => by
  refine d B σ H ρ ws ts _ ok ?_
  have q := PostG.bind q
  cases e1 : fs ρ with
  | no => rw [e1] at q; exact q.elim
  | ex er ρ1 => rw [e1] at q; exact q
  | ok vs ρ1 =>
    rw [e1] at q
    intro xs H1 hx ok1 ho
    refine dv B σ H1 ρ1 _ _ _ ok1 ((PostG.bind q).mono fun u ρ2 p2 z H2 ok2 => ?_)
    refine p2 (insA j xs z) H2 (by rw [insA_len, insA_len, hx]) ?_ orig_none
    have hx2 : (xs.take j).length = (vs.take j).length := by rw [List.length_take, List.length_take, hx]
    have e2 : xs ++ ws = xs.take j ++ (xs.drop j ++ ws) := by rw [← List.append_assoc, List.take_append_drop]
    have e3 : vs ++ ts = vs.take j ++ (vs.drop j ++ ts) := by rw [← List.append_assoc, List.take_append_drop]
    rw [e2, e3] at ok2
    have := Ok.perm4 hx2 ok2
    unfold insA
    rw [List.append_assoc, List.append_assoc]
    exact this
variable {k m : Nat} {f : Addr} {fd : FuncData} {ps ks : List Str} {sp : Sp} {W : WX} {x k1 k2 : Str} {p pos p1 p2 : Pos} {gg : List Value → List Value → List Value} {gV : List V → List V → List V} {v1 v2 : Expr} {tv1 tv2 : TE} {j1 j2 : Nat}
theorem goKw {pins : List (Addr × Obj)} {σ : L2.St} {H : Hp} {s : Shared} {Q : VK} {us ws : List Value} {vs zs : List V} (F : FnG X.prog X.w X.K X.mg X.base k f fd ps sp) (g : X.A.guards = some []) (r : Room k X.A) (b : KBn X.K fd ps m ks gg gV)
    (tk : Takes X W) (I : Inv X pins σ H s) (rv : Vals vs us) (rz : Vals zs ws) (l1 : vs.length = m) (l2 : zs.length = ks.length) (h : sp (gV vs zs) H Q (atSlots W σ)) : wpAny (model X.prog X.w) X.A (call (.ref f) us (ks.zip ws)) (EP X pins σ Q) X.xe s := by
  have code := F.go X.A X.stack s H ⟨us, ks.zip ws⟩ (gg us ws) (gV vs zs) Q (atSlots W σ) g r I.env0 (b.to s us ws I.kIn (rv.length.symm.trans l1) (rz.length.symm.trans l2)) (b.rel rv rz) h
  refine wpAny_call (codeAny_mono code fun res s' q => ?_)
  match res, q with
  | .error er, q => exact tk er s' (XE.of_call I (fun _ _ _ z => z) q)
  | .ok (.ret u), q => exact Inv.after I q
  | .ok .next, q => exact q.elim
  | .ok .brk, q => exact q.elim
  | .ok .cont, q => exact q.elim
theorem pe_kw2 (F : FnG X.prog X.w X.K X.mg X.base k f fd ps sp) (g : X.A.guards = some []) (r : Room k X.A) (b : KBn X.K fd ps m [k1, k2] gg gV) (hc : ∀ vs z1 z2, vs.length = m → gV vs [z1, z2] = insA j2 (insA j1 vs z1) z2) (hl : ps.length = m + 2) (tk : Takes X W) (hg : Gl X x) (hm : X.mg x = some (.ref f)) (kp : PySem.W.keepIn X.K (.ref f) = true)
    (ha : PA X (e :: es) t) (h1 : PE X v1 tv1) (h2 : PE X v2 tv2) (dbg : (x == ("__debug__" : Str)) = false) (st : starEach (e :: es) X.env = (false, eval e X.env) :: starEach es X.env) (hall : (backToKw pos (keywordEach [⟨some k1, v1, p1⟩, ⟨some k2, v2, p2⟩] X.env)).all (·.1.isSome) = true) (hks : (backToKw pos (keywordEach [⟨some k1, v1, p1⟩, ⟨some k2, v2, p2⟩] X.env)).filterMap (·.1) = [k1, k2])
    (pl : ((backTo pos (starEach (e :: es) X.env)).any (·.1) || (backToKw pos (keywordEach [⟨some k1, v1, p1⟩, ⟨some k2, v2, p2⟩] X.env)).any (·.1.isNone)) = false) : PE X (.Call (.Name x p) (e :: es) [⟨some k1, v1, p1⟩, ⟨some k2, v2, p2⟩] pos) (tCallG sp W [] (tI j2 (tI j1 t tv1) tv2)) := by
  refine ⟨fun pins s σ H Q I h => ?_⟩
  refine wpAny_Call_Name_kw (ld_glob I hg hm ?_ dbg)
  refine PySem.W.callWith_KW (h₀ := X.base) I.ok.mod.kin kp hall (thn (ha.run pos pins s σ H _ I h) fun us s1 ⟨vs, H1, I1, rv, q⟩ => ?_) pl st
  have hk : PK X [⟨some k1, v1, p1⟩, ⟨some k2, v2, p2⟩] (tCons tv1 (tCons tv2 tNil)) := pk_cons h1 (pk_cons h2 pk_nil)
  refine thn (hk.run pos pins s1 σ H1 (fun zs H2 => match zs with
    | [z1, z2] => sp (insA j2 (insA j1 vs z1) z2 ++ []) H2 Q (atSlots W σ)
    | _ => False) I1 q) fun ws s2 ⟨zs, H2, I2, rz, q2⟩ => ⟨I2.kIn, ?_⟩
  rw [hks]
  match zs, q2 with
  | [z1, z2], q2 =>
    have q2 : sp (insA j2 (insA j1 vs z1) z2 ++ []) H2 Q (atSlots W σ) := q2
    rw [List.append_nil] at q2
    have l1 : vs.length = m := by
      have := F.len _ _ _ _ q2
      rw [insA_len, insA_len] at this
      omega
    rw [← hc vs z1 z2 l1] at q2
    exact goKw F g r b tk I2 rv rz l1 rfl q2
theorem pe_kw1 (F : FnG X.prog X.w X.K X.mg X.base k f fd ps sp) (g : X.A.guards = some []) (r : Room k X.A) (b : KBn X.K fd ps m [k1] gg gV) (hc : ∀ vs z1, vs.length = m → gV vs [z1] = insA j2 (insA j1 vs z1) .non) (hl : ps.length = m + 2) (tk : Takes X W) (hg : Gl X x) (hm : X.mg x = some (.ref f)) (kp : PySem.W.keepIn X.K (.ref f) = true)
    (ha : PA X (e :: es) t) (h1 : PE X v1 tv1) (dbg : (x == ("__debug__" : Str)) = false) (st : starEach (e :: es) X.env = (false, eval e X.env) :: starEach es X.env) (hall : (backToKw pos (keywordEach [⟨some k1, v1, p1⟩] X.env)).all (·.1.isSome) = true) (hks : (backToKw pos (keywordEach [⟨some k1, v1, p1⟩] X.env)).filterMap (·.1) = [k1])
    (pl : ((backTo pos (starEach (e :: es) X.env)).any (·.1) || (backToKw pos (keywordEach [⟨some k1, v1, p1⟩] X.env)).any (·.1.isNone)) = false) : PE X (.Call (.Name x p) (e :: es) [⟨some k1, v1, p1⟩] pos) (tCallG sp W [] (tI j2 (tI j1 t tv1) tNone)) := by
  refine ⟨fun pins s σ H Q I h => ?_⟩
  refine wpAny_Call_Name_kw (ld_glob I hg hm ?_ dbg)
  refine PySem.W.callWith_KW (h₀ := X.base) I.ok.mod.kin kp hall (thn (ha.run pos pins s σ H _ I h) fun us s1 ⟨vs, H1, I1, rv, q⟩ => ?_) pl st
  have hk : PK X [⟨some k1, v1, p1⟩] (tCons tv1 tNil) := pk_cons h1 pk_nil
  refine thn (hk.run pos pins s1 σ H1 (fun zs H2 => match zs with
    | [z1] => sp (insA j2 (insA j1 vs z1) .non ++ []) H2 Q (atSlots W σ)
    | _ => False) I1 q) fun ws s2 ⟨zs, H2, I2, rz, q2⟩ => ⟨I2.kIn, ?_⟩
  rw [hks]
  match zs, q2 with
  | [z1], q2 =>
    have q2 : sp (insA j2 (insA j1 vs z1) .non ++ []) H2 Q (atSlots W σ) := q2
    rw [List.append_nil] at q2
    have l1 : vs.length = m := by
      have := F.len _ _ _ _ q2
      rw [insA_len, insA_len] at this
      omega
    rw [← hc vs z1 l1] at q2
    exact goKw F g r b tk I2 rv rz l1 rfl q2
end
structure DefKw (P : Program) (w : World) (K : PySem.W.Frag) (mg : Str → Option Value) (base : Heap) (x : Str) (k m : Nat) (ks : List Str) (j1 j2 : Nat) (g : Fn) : Prop where
  ex : ∃ f fd ps gg gV, FnG P w K mg base k f fd ps (FnD K mg (m + 2) g) ∧ mg x = some (.ref f) ∧ PySem.W.keepIn K (.ref f) = true ∧ KBn K fd ps m ks gg gV ∧ ps.length = m + 2 ∧ ∀ vs zs, vs.length = m → zs.length = ks.length → gV vs zs = insA j2 (insA j1 vs (zs.getD 0 .non)) (zs.getD 1 .non)
section
variable {X : Cx} {w : Wd} {e v1 v2 : Expr} {es : List Expr} {fs : M (List T)} {f1 f2 : M T} {os : List (Option Nat)} {g : Fn} {k k' j1 j2 : Nat} {x k1 k2 : Str} {p pos p1 p2 : Pos}
theorem de_kw2 (D : DefKw X.prog X.w X.K X.mg X.base x k (e :: es).length [k1, k2] j1 j2 g) (at_ : At X w k') (ha : DA X w (e :: es) os fs) (h1 : DE X w v1 f1) (h2 : DE X w v2 f2) (hk : k ≤ k' := by decide) (hg : Gl X x := by rfl) (dbg : (x == ("__debug__" : Str)) = false := by decide)
    (st : starEach (e :: es) X.env = (false, eval e X.env) :: starEach es X.env := by rfl) (hall : (backToKw pos (keywordEach [⟨some k1, v1, p1⟩, ⟨some k2, v2, p2⟩] X.env)).all (·.1.isSome) = true := by rfl) (hks : (backToKw pos (keywordEach [⟨some k1, v1, p1⟩, ⟨some k2, v2, p2⟩] X.env)).filterMap (·.1) = [k1, k2] := by rfl)
    (pl : ((backTo pos (starEach (e :: es) X.env)).any (·.1) || (backToKw pos (keywordEach [⟨some k1, v1, p1⟩, ⟨some k2, v2, p2⟩] X.env)).any (·.1.isNone)) = false := by rfl) : DE X w (.Call (.Name x p) (e :: es) [⟨some k1, v1, p1⟩, ⟨some k2, v2, p2⟩] pos) (dcall g (List.replicate ((e :: es).length + 1 + 1) none) (dins j2 (dins j1 fs f1) f2)) := by
  obtain ⟨f, fd, ps, gg, gV, F, hm, kp, b, hl, hc⟩ := D.ex
  obtain ⟨t, pt, dt⟩ := ha.ex
  obtain ⟨t1, pt1, dt1⟩ := h1.ex
  obtain ⟨t2, pt2, dt2⟩ := h2.ex
  have l0 : ∀ vs ρ ρ', fs ρ = .ok vs ρ' → vs.length = (e :: es).length := ha.len
  have l1 := dins_len (j := j1) (f := f1) l0
  have l2 := dins_len (j := j2) (f := f2) l1
  exact de_v (pe_kw2 F at_.g (at_.r.mono hk) b (fun vs z1 z2 h => hc vs [z1, z2] h rfl) hl at_.tk hg hm kp pt pt1 pt2 dbg st hall hks pl) (den_call at_.cl l2 (den_ins l1 (den_ins l0 dt dt1) dt2))
theorem de_kw1 (D : DefKw X.prog X.w X.K X.mg X.base x k (e :: es).length [k1] j1 j2 g) (at_ : At X w k') (ha : DA X w (e :: es) os fs) (h1 : DE X w v1 f1) (hk : k ≤ k' := by decide) (hg : Gl X x := by rfl) (dbg : (x == ("__debug__" : Str)) = false := by decide)
    (st : starEach (e :: es) X.env = (false, eval e X.env) :: starEach es X.env := by rfl) (hall : (backToKw pos (keywordEach [⟨some k1, v1, p1⟩] X.env)).all (·.1.isSome) = true := by rfl) (hks : (backToKw pos (keywordEach [⟨some k1, v1, p1⟩] X.env)).filterMap (·.1) = [k1] := by rfl)
    (pl : ((backTo pos (starEach (e :: es) X.env)).any (·.1) || (backToKw pos (keywordEach [⟨some k1, v1, p1⟩] X.env)).any (·.1.isNone)) = false := by rfl) : DE X w (.Call (.Name x p) (e :: es) [⟨some k1, v1, p1⟩] pos) (dcall g (List.replicate ((e :: es).length + 1 + 1) none) (dins j2 (dins j1 fs f1) (mret (.d .none)))) := by
  obtain ⟨f, fd, ps, gg, gV, F, hm, kp, b, hl, hc⟩ := D.ex
  obtain ⟨t, pt, dt⟩ := ha.ex
  obtain ⟨t1, pt1, dt1⟩ := h1.ex
  have l0 : ∀ vs ρ ρ', fs ρ = .ok vs ρ' → vs.length = (e :: es).length := ha.len
  have l1 := dins_len (j := j1) (f := f1) l0
  have l2 := dins_len (j := j2) (f := mret (.d .none)) l1
  exact de_v (pe_kw1 F at_.g (at_.r.mono hk) b (fun vs z1 h => hc vs [z1] h rfl) hl at_.tk hg hm kp pt pt1 dbg st hall hks pl) (den_call at_.cl l2 (den_ins l1 (den_ins l0 dt dt1) den_tNone))
end
def swp {α : Type} : List α → List α
  | [a, b] => [b, a]
  | l => l
theorem vals_swp {vs : List V} {us : List Value} (h : Vals vs us) : Vals (swp vs) (swp us) := by
  cases h with
  | nil => exact .nil
  | cons a r => cases r with
    | nil => exact .cons a .nil
    | cons b r => cases r with
      | nil => exact .cons b (.cons a .nil)
      | cons c r => exact .cons a (.cons b (.cons c r))
theorem FunD_kb0 {K : PySem.W.Frag} {x qual : Str} {params : Arguments} {body : List Stmt} {scope : Scope} {kws : List (Str × V)} {f : Addr} {fd : FuncData} {ps : List Str} (F : L2.FunD K x qual params body scope [] kws f fd) (n : Nat) (ks : List Str) (ms : List (Str × V)) (g : {α : Type} → List α → List α → List α → List α) (hk : kws ≠ []) (hms : ∀ q ∈ ms, q ∈ kws)
    (hrel : ∀ {vs mz zs : List V} {us mv ws : List Value}, Vals vs us → Vals mz mv → Vals zs ws → Vals (g vs mz zs) (g us mv ws))
    (h : ∀ (D : Addr) (doc pm : Value) (an : Option Addr) (cdv ct : Value) (us mv ws : List Value), us.length = n → mv.length = ms.length → ws.length = ks.length →
      KwChain D ((ms.map (·.1)).zip mv) (bindArgs (PySem.W.fnOf x qual params body scope .none (.ref D) doc pm an cdv ct) ⟨us, ks.zip ws⟩) (ps.zip (g us mv ws))) :
    ∃ mv : List Value, KBn K fd ps n ks (fun us ws => g us mv ws) (fun vs zs => g vs (ms.map (·.2)) zs) := by
  obtain ⟨oc, od, dV, kV, doc, pm, an, cdv, ct, osl, rfl, lk, hcd, hD, hK⟩ := F.ex
  rcases hD with ⟨_, rfl⟩ | ⟨e, _⟩
  · rcases hK with e | ⟨D, rfl, hq⟩
    · exact absurd e hk
    · obtain ⟨mv, hl, rk, hks⟩ := kwd_vals (ms := ms) fun q hm => hq q (hms q hm)
      refine ⟨mv, ⟨fun s us ws X l1 l2 => ?_, fun r1 r2 => hrel r1 rk r2⟩⟩
      exact BindsTo.of_looks fun M => KwChain.looks X hks (h D doc pm an cdv ct us mv ws l1 hl l2)
  · exact absurd rfl e
theorem DefKw.of {P : Program} {w : World} {K : PySem.W.Frag} {mg : Str → Option Value} {base : Heap} {x qual : Str} {st : Stmt} {k m j1 j2 : Nat} {f : Addr} {fd : FuncData} {ps ks : List Str} {g : Fn} {gg : List Value → List Value → List Value} {gV : List V → List V → List V} (U : Fun K x qual st f fd) (hm : mg x = some (.ref f)) (F : FnG P w K mg base k f fd ps (FnD K mg (m + 2) g)) (b : KBn K fd ps m ks gg gV) (hl : ps.length = m + 2)
    (hc : ∀ vs zs, vs.length = m → zs.length = ks.length → gV vs zs = insA j2 (insA j1 vs (zs.getD 0 .non)) (zs.getD 1 .non)) : DefKw P w K mg base x k m ks j1 j2 g :=
  ⟨⟨f, fd, ps, gg, gV, F, hm, U.kp, b, hl, hc⟩⟩
section
variable {X : Cx} {w : Wd} {k : Nat} {a e : Expr} {p p1 pos pos1 apos cpos : Pos} {fe : M T}
def lstRgO : T → Option T
  | .d (.int j) => if (decide (0 ≤ j) && decide (j ≤ 1000)) = true then some (.lst ((intsFrom 0 j.toNat).map T.d)) else none
  | _ => none
theorem de_listRgO (at_ : At X w k) (hm : NoG X "list") (hm2 : NoG X "range") (ha : DE X w a fe) (hg : Gl X "list" := by rfl) (hg2 : Gl X "range" := by rfl) (na : starEach [a] X.env = (false, eval a X.env) :: starEach [] X.env := by rfl)
    (na2 : starEach [Expr.Call (.Name "range" p1) [a] [] pos1] X.env = (false, eval (Expr.Call (.Name "range" p1) [a] [] pos1) X.env) :: starEach [] X.env := by rfl) :
    DE X w (.Call (.Name "list" p) [.Call (.Name "range" p1) [a] [] pos1] [] pos) (mbind fe fun t => mopt (lstRgO t)) := by
  obtain ⟨t, pt, dt⟩ := ha.ex
  refine de_v (pe_listRg at_.ca hg hm (prg_1 hg2 hm2 pt na) na2) fun B σ H ρ ws ts Q ok q => ?_
  refine dt B σ H ρ ws ts _ ok (q.bind.mono fun v ρ1 p1 x H1 ok1 => ?_)
  obtain ⟨z, e1, q1⟩ := p1.opt
  unfold lstRgO at e1
  split at e1
  · rename_i j
    obtain ⟨h1, h2⟩ := reqs e1
    subst h2
    have h1 := (Bool.and_eq_true _ _).mp h1
    have b1 := of_decide_eq_true h1.1
    have b2 := of_decide_eq_true h1.2
    have hx := Ok.topInt (ws := ws) (ts := ts) ok1
    subst hx
    refine ⟨j, rfl, ⟨by omega, by omega, by omega, by omega, by omega⟩, fun l hl => ?_⟩
    obtain ⟨I, Fr, Fw, s, r, w', km⟩ := ok1.pop
    have nf : ∀ b ∈ Fr ++ Fw, (upd H1 l (.lst (rgV 0 j))) b = H1 b := fun b z => upd_ne (show b ≠ l from fun e => s.thr b z (by rw [e]; exact hl))
    refine q1 _ _ ⟨I, Fr, l :: Fw, (s.newO hl).perm List.perm_middle.symm, r.mono (Same.refl _) fun b z => nf b (List.mem_append_left _ z), .cons (F := [l]) (.lst upd_same (RepTs.ofD ?_)) (w'.mono (Same.refl _) fun b z => nf b (List.mem_append_right _ z)), km⟩
    have := dr_rg (K := X.K) (I := I) j.toNat
    rwa [show ((j.toNat : Nat) : Int) = j by omega] at this
  · cases e1
def gSortValsO : T → Option T
  | .fdct kvs => match strsD (kvs.map (·.2)) with
    | some zs => some (.lst (((sortStr zs).map PyData.str).map T.d))
    | none => none
  | _ => none
theorem de_sortValsO (at_ : At X w k) (hm : NoG X "sorted") (he : DE X w e fe) (hg : Gl X "sorted" := by rfl) (hbase : attributeBase e "values" X.env (eval e X.env) = eval e X.env := by rfl) (hline : (apos.endLine == cpos.line) = true := by rfl) :
    DE X w (.Call (.Name "sorted" p) [.Call (.Attribute e "values" apos) [] [] cpos] [] pos) (mbind fe fun t => mopt (gSortValsO t)) := by
  obtain ⟨t, pt, dt⟩ := he.ex
  refine de_v (pe_sortVals at_.ca at_.un hg hm pt hbase hline) fun B σ H ρ ws ts Q ok q => ?_
  refine dt B σ H ρ ws ts _ ok (q.bind.mono fun v ρ1 p1 x H1 ok1 => ?_)
  obtain ⟨z, e1, q1⟩ := p1.opt
  unfold gSortValsO at e1
  split at e1
  · rename_i kvs
    cases e3 : strsD (kvs.map (·.2)) with
    | none => rw [e3] at e1; cases e1
    | some zs =>
      rw [e3] at e1
      have e1 : some (T.lst (((sortStr zs).map PyData.str).map T.d)) = some z := e1
      cases e1
      obtain ⟨a, us, ex, h1, h2, h3⟩ := ok1.topFdct
      refine ⟨a, us, zs, ex, h1, strs_all h3 e3, fun l hl => ?_⟩
      obtain ⟨I, Fr, Fw, s, r, w', km⟩ := ok1.pop
      have nf : ∀ b ∈ Fr ++ Fw, (upd H1 l (.lst ((sortStr zs).map V.str))) b = H1 b := fun b z => upd_ne (show b ≠ l from fun e => s.thr b z (by rw [e]; exact hl))
      exact q1 _ _ ⟨I, Fr, l :: Fw, (s.newO hl).perm List.perm_middle.symm, r.mono (Same.refl _) fun b z => nf b (List.mem_append_left _ z), .cons (F := [l]) (.lst upd_same (RepTs.ofD (drAll_strs _))) (w'.mono (Same.refl _) fun b z => nf b (List.mem_append_right _ z)), km⟩
  · cases e1
end
def pMulO : T → T → Option T
  | .d (.list ds), .d (.int k) => if (okRange k && decide (ds.length * k.toNat ≤ lim)) = true then some (.lst ((List.replicate k.toNat ds).flatten.map T.d)) else none
  | _, _ => none
theorem od_mulO {K : PySem.W.Frag} {m : List Bool} : OpD K m rMul2 pMulO := fun B σ H ρ ws ts x y t u v Q ok e q => by
  unfold pMulO at e
  split at e
  · obtain ⟨h, e⟩ := reqs e
    subst e
    rename_i ds k
    have h := (Bool.and_eq_true _ _).mp h
    have hz := of_decide_eq_true h.2
    obtain ⟨b1, b2⟩ := okRange_of h.1
    have hy := ok.topInt
    subst hy
    obtain ⟨a, vs, rfl, ha, da⟩ := ok.pop.topList
    refine .inr (.inr ⟨a, k, vs, rfl, rfl, ha, by omega, by omega, by rw [da.len]; exact lim_le hz, fun p hp => q _ _ ?_⟩)
    refine Ok.inStead (ok.pop.newOwnD hp fun I Fw sb w' => ?_)
    exact (parts_lst sb ha w').rep _
  · cases e
end DL
end
section
set_option Elab.async false
set_option linter.all false
set_option maxRecDepth 100000
set_option maxHeartbeats 4000000
namespace DL
open PySem L2
def Ends {α : Type} (r : R α) (P : α → Rho → Prop) : Prop := match r with
  | .ok a ρ => P a ρ
  | _ => False
section
variable {α β : Type} {ρ ρ' : Rho} {P P' : α → Rho → Prop}
theorem Ends.ok {a : α} (h : P a ρ) : Ends (.ok a ρ) P := h
theorem Ends.eq {r : R α} {a : α} (e : r = .ok a ρ) (h : P a ρ) : Ends r P := by rw [e]; exact h
theorem Ends.get {r : R α} (h : Ends r P) : ∃ a ρ, r = .ok a ρ ∧ P a ρ := by
  cases r with
  | ok a ρ => exact ⟨a, ρ, rfl, h⟩
  | ex _ _ => exact h.elim
  | no => exact h.elim
theorem Ends.mono {r : R α} (h : Ends r P) (k : ∀ a ρ, P a ρ → P' a ρ) : Ends r P' := by
  obtain ⟨a, ρ, e, q⟩ := h.get
  rw [e]
  exact k a ρ q
theorem ends_bind {f : M α} {g : α → M β} {P : β → Rho → Prop} (h : Ends (f ρ) fun a ρ' => Ends (g a ρ') P) : Ends (mbind f g ρ) P := by
  obtain ⟨a, ρ', e, q⟩ := h.get
  unfold mbind
  rw [e]
  exact q
theorem ends_bind' {f : M α} {g : α → M β} {a : α} {P : β → Rho → Prop} (e : f ρ = .ok a ρ') (h : Ends (g a ρ') P) : Ends (mbind f g ρ) P := ends_bind (.eq e h)
def AfterS (G : M Fl) (P : Fl → Rho → Prop) : Fl → Rho → Prop
  | .nx, ρ => Ends (G ρ) P
  | .rt t, ρ => P (.rt t) ρ
  | .bk, ρ => P .bk ρ
  | .ct, ρ => P .ct ρ
theorem ends_seq {F G : M Fl} {P : Fl → Rho → Prop} (h : Ends (F ρ) (AfterS G P)) : Ends (mseq F G ρ) P := by
  refine ends_bind (h.mono fun fl ρ' q => ?_)
  cases fl <;> exact q
theorem ends_nx {F G : M Fl} {P : Fl → Rho → Prop} (e : F ρ = .ok .nx ρ') (h : Ends (G ρ') P) : Ends (mseq F G ρ) P := ends_seq (.eq e h)
def OfFn (m : List Bool) (P : T → Rho → Prop) : Fl → Rho → Prop
  | .rt v, ρ => P v (keepm m ρ)
  | .nx, ρ => P (.d .none) (keepm m ρ)
  | _, _ => False
theorem ends_fn {n : Nat} {m : List Bool} {F : M Fl} {ts : List T} {P : T → Rho → Prop} (h : Ends (F (ts.map some ++ List.replicate (n - ts.length) none)) (OfFn m P)) : Ends (dfn n m F ts) P := by
  obtain ⟨fl, ρ', e, q⟩ := h.get
  unfold dfn
  rw [e]
  cases fl <;> first | exact q | exact q.elim
theorem Good.of {g : Fn} {ns : List Int} (h : Ends (g [.scr ns]) fun v _ => v = .d (.bool true)) : Good g ns := by
  obtain ⟨v, ρ, e, rfl⟩ := h.get
  exact ⟨ρ, e⟩
end
theorem ends_for {g : T → M Unit} {F : M Fl} {P : Fl → Rho → Prop} (J : List T → Rho → Prop) : ∀ {ts : List T} {ρ : Rho}, J ts ρ → (∀ ρ, J [] ρ → P .nx ρ) →
    (∀ t ts ρ, J (t :: ts) ρ → Ends (g t ρ) fun _ ρ1 => Ends (F ρ1) fun fl ρ2 => match fl with
      | .nx => J ts ρ2
      | .ct => J ts ρ2
      | .bk => P .nx ρ2
      | .rt v => P (.rt v) ρ2) → Ends (mfor g F ts ρ) P
  | [], ρ, h, h0, _ => h0 ρ h
  | t :: ts, ρ, h, h0, hs => by
    unfold mfor
    refine ends_bind ((hs t ts ρ h).mono fun _ ρ1 h1 => ends_bind (h1.mono fun fl ρ2 h2 => ?_))
    cases fl with
    | nx => exact ends_for J h2 h0 hs
    | ct => exact ends_for J h2 h0 hs
    | bk => exact h2
    | rt v => exact h2
theorem toDs_map : ∀ ds : List PyData, toDs (ds.map T.d) = some ds
  | [] => rfl
  | d :: ds => by rw [List.map_cons, toDs, toDs_map ds]; rfl
theorem lc_pure {vs : List Nat} {g : T → M Unit} {fe : M T} {ρ : Rho} {F : PyData → PyData} : ∀ {ds acc : List PyData}, (∀ d ∈ ds, ∃ ρ1 ρ2, g (.d d) ρ = .ok () ρ1 ∧ fe ρ1 = .ok (.d (F d)) ρ2 ∧ wipeR ρ2 vs = ρ) → acc.length + ds.length ≤ lim →
    lcGo vs g (mret true) fe (ds.map T.d) (acc.map T.d) ρ = .ok ((acc ++ ds.map F).map T.d) ρ
  | [], acc, _, _ => by
    show R.ok (acc.map T.d) ρ = _
    rw [List.map_nil, List.append_nil]
  | d :: ds, acc, h, hl => by
    obtain ⟨ρ1, ρ2, e1, e2, e3⟩ := h d List.mem_cons_self
    have hlt : (acc.map T.d).length < lim := by rw [List.length_map]; rw [List.length_cons] at hl; omega
    have ih := lc_pure (vs := vs) (g := g) (fe := fe) (ρ := ρ) (F := F) (ds := ds) (acc := acc ++ [F d]) (fun d' m => h d' (List.mem_cons_of_mem _ m)) (by rw [List.length_append]; rw [List.length_cons] at hl; simp; omega)
    rw [List.map_append] at ih
    rw [List.map_cons]
    unfold lcGo
    simp only [mbind, e1, mret, if_true, e2, mwipe, e3, if_pos hlt]
    rw [List.map_cons, List.map_nil] at ih
    rw [ih, List.map_cons]
    simp
theorem dlc_pure {fi : M (List PyData)} {vs : List Nat} {g : T → M Unit} {fe : M T} {ρ0 ρ1 : Rho} {ds : List PyData} (F : PyData → PyData) (hi : fi ρ0 = .ok ds ρ1) (h : ∀ d ∈ ds, ∃ ρ2 ρ3, g (.d d) (wipeR ρ1 vs) = .ok () ρ2 ∧ fe ρ2 = .ok (.d (F d)) ρ3 ∧ wipeR ρ3 vs = wipeR ρ1 vs)
    (hl : ds.length ≤ lim) : dlc fi vs g (mret true) fe ρ0 = .ok (.d (.list (ds.map F))) (wipeR ρ1 vs) := by
  have := lc_pure (acc := []) h (by simpa using hl)
  unfold dlc dthaw dlcO
  simp only [mbind, hi, mwipe, mnoex]
  rw [List.map_nil, List.nil_append] at this
  rw [this]
  simp only [mret, toD, toDs_map]
  rfl
end DL
end
section
set_option maxRecDepth 100000
set_option linter.all false
namespace DL
open PySem L2
def Outs {α : Type} (r : R α) (P : α → Rho → Prop) (E : Exn → Rho → Prop) : Prop := match r with
  | .ok a ρ => P a ρ
  | .ex e ρ => E e ρ
  | .no => False
section
variable {α β : Type} {ρ ρ' : Rho} {P P' : α → Rho → Prop} {E E' : Exn → Rho → Prop}
theorem Outs.eq {r : R α} {a : α} (e : r = .ok a ρ) (h : P a ρ) : Outs r P E := by rw [e]; exact h
theorem Outs.eqX {r : R α} {x : Exn} (e : r = .ex x ρ) (h : E x ρ) : Outs r P E := by rw [e]; exact h
theorem Outs.mono {r : R α} (h : Outs r P E) (k : ∀ a ρ, P a ρ → P' a ρ) (k' : ∀ e ρ, E e ρ → E' e ρ) : Outs r P' E' := by
  cases r with
  | ok a ρ => exact k _ _ h
  | ex e ρ => exact k' _ _ h
  | no => exact h
theorem outs_bind {f : M α} {g : α → M β} {P : β → Rho → Prop} (h : Outs (f ρ) (fun a ρ' => Outs (g a ρ') P E) E) : Outs (mbind f g ρ) P E := by
  unfold mbind
  cases e : f ρ with
  | ok a ρ' => rw [e] at h; exact h
  | ex x ρ' => rw [e] at h; exact h
  | no => rw [e] at h; exact h
theorem outs_bind' {f : M α} {g : α → M β} {a : α} {P : β → Rho → Prop} (e : f ρ = .ok a ρ') (h : Outs (g a ρ') P E) : Outs (mbind f g ρ) P E := outs_bind (.eq e h)
def AfterX (G : M Fl) (P : Fl → Rho → Prop) (E : Exn → Rho → Prop) : Fl → Rho → Prop
  | .nx, ρ => Outs (G ρ) P E
  | .rt t, ρ => P (.rt t) ρ
  | .bk, ρ => P .bk ρ
  | .ct, ρ => P .ct ρ
theorem outs_seq {F G : M Fl} {P : Fl → Rho → Prop} (h : Outs (F ρ) (AfterX G P E) E) : Outs (mseq F G ρ) P E := by
  refine outs_bind (h.mono (fun fl ρ' q => ?_) fun _ _ q => q)
  cases fl <;> exact q
theorem outs_nx {F G : M Fl} {P : Fl → Rho → Prop} (e : F ρ = .ok .nx ρ') (h : Outs (G ρ') P E) : Outs (mseq F G ρ) P E := outs_seq (.eq e h)
def OfFnX (m : List Bool) (P : T → Rho → Prop) : Fl → Rho → Prop
  | .rt v, ρ => P v (keepm m ρ)
  | .nx, ρ => P (.d .none) (keepm m ρ)
  | _, _ => False
theorem outs_fn {n : Nat} {m : List Bool} {F : M Fl} {ts : List T} {P : T → Rho → Prop} (h : Outs (F (ts.map some ++ List.replicate (n - ts.length) none)) (OfFnX m P) (fun e ρ => E e (keepm m ρ))) : Outs (dfn n m F ts) P E := by
  unfold dfn
  cases e : F (ts.map some ++ List.replicate (n - ts.length) none) with
  | no => rw [e] at h; exact h
  | ex x ρ' => rw [e] at h; exact h
  | ok fl ρ' =>
    rw [e] at h
    cases fl <;> first | exact h | exact False.elim h
theorem outs_call {g : Fn} {os : List (Option Nat)} {fs : M (List T)} {vs : List T} {ρ ρ' : Rho} {P : T → Rho → Prop} (e : fs ρ = .ok vs ρ') (h : Outs (g vs) (fun r ρa => P r (restore os ρa ρ')) (fun x ρa => E x (restore os ρa ρ'))) : Outs (dcall g os fs ρ) P E := by
  refine outs_bind' e ?_
  unfold dcallF
  cases e2 : g vs with
  | ok r ρa => rw [e2] at h; exact h
  | ex x ρa => rw [e2] at h; exact h
  | no => rw [e2] at h; exact h
theorem outs_find {γ : Type} {g : T → M Unit} {F : M Fl} (mk : γ → T) (bad : γ → Bool) (S : Rho → Prop) (PB : γ → Fl → Rho → Prop) (EB : γ → Exn → Rho → Prop) (all : List γ)
    (good : ∀ pre c post ρ, all = pre ++ c :: post → (∀ x ∈ pre, bad x = false) → S ρ → bad c = false → Outs (g (mk c) ρ) (fun _ ρ1 => Outs (F ρ1) (fun fl ρ2 => fl = .nx ∧ S ρ2) (fun _ _ => False)) (fun _ _ => False))
    (hbad : ∀ pre c post ρ, all = pre ++ c :: post → (∀ x ∈ pre, bad x = false) → S ρ → bad c = true → Outs (g (mk c) ρ) (fun _ ρ1 => Outs (F ρ1) (fun fl ρ2 => (∃ v, fl = .rt v) ∧ PB c fl ρ2) (EB c)) (fun _ _ => False)) :
    ∀ (cs pre : List γ) (ρ : Rho), all = pre ++ cs → (∀ x ∈ pre, bad x = false) → S ρ →
      Outs (mfor g F (cs.map mk) ρ) (fun fl ρ => (cs.find? bad = none ∧ fl = .nx ∧ S ρ) ∨ ∃ c, cs.find? bad = some c ∧ PB c fl ρ) (fun e ρ => ∃ c, cs.find? bad = some c ∧ EB c e ρ) := fun cs => by
  induction cs with
  | nil => exact fun pre ρ _ _ h => .inl ⟨rfl, rfl, h⟩
  | cons c cs ih =>
    intro pre ρ ha hp h
    rw [List.map_cons]
    unfold mfor
    cases hc : bad c with
    | true =>
      have hf : (c :: cs).find? bad = some c := by rw [List.find?_cons, hc]
      refine outs_bind ((hbad pre c cs ρ ha hp h hc).mono (fun _ ρ1 h1 => outs_bind (h1.mono (fun fl ρ2 h2 => ?_) fun e ρ q => ⟨c, hf, q⟩)) fun _ _ q => q.elim)
      obtain ⟨⟨v, rfl⟩, h2⟩ := h2
      exact .inr ⟨c, hf, h2⟩
    | false =>
      have hf : (c :: cs).find? bad = cs.find? bad := by rw [List.find?_cons, hc]
      rw [hf]
      refine outs_bind ((good pre c cs ρ ha hp h hc).mono (fun _ ρ1 h1 => outs_bind (h1.mono (fun fl ρ2 h2 => ?_) fun e ρ q => q.elim)) fun _ _ q => q.elim)
      obtain ⟨rfl, h2⟩ := h2
      exact ih (pre ++ [c]) ρ2 (by rw [ha, List.append_assoc]; rfl) (fun x m => by
        rcases List.mem_append.mp m with m | m
        · exact hp x m
        · rcases List.mem_singleton.mp m with rfl; exact hc) h2
def numD (p : PyData × Nat) : PyData := .tuple [.int p.2, p.1]
theorem numbered_zip : ∀ (ds : List PyData) (n : Nat), numbered n ds = (ds.zipIdx n).map numD
  | [], _ => rfl
  | d :: ds, n => by rw [List.zipIdx_cons, List.map_cons, ← numbered_zip ds (n + 1)]; rfl
end
end DL
end
section
set_option Elab.async false
set_option linter.all false
set_option maxRecDepth 100000
set_option maxHeartbeats 4000000
namespace DL
open PySem L2
theorem mbind_eq {α β : Type} {f : M α} {g : α → M β} {ρ ρ1 : Rho} {a : α} (h : f ρ = .ok a ρ1) : mbind f g ρ = g a ρ1 := by
  unfold mbind
  rw [h]
theorem lcG {γ : Type} {vs : List Nat} {g : T → M Unit} {tt : M Bool} {fe : M T} {ρ : Rho} {mk : γ → PyData} (c : γ → Bool) (F : γ → PyData) : ∀ {l : List γ} {acc : List PyData},
    (∀ x ∈ l, ∃ ρ1 ρ2, g (.d (mk x)) ρ = .ok () ρ1 ∧ tt ρ1 = .ok (c x) ρ2 ∧ (c x = true → ∃ ρ3, fe ρ2 = .ok (.d (F x)) ρ3 ∧ wipeR ρ3 vs = ρ) ∧ (c x = false → wipeR ρ2 vs = ρ)) → acc.length + l.length ≤ lim →
    lcGo vs g tt fe ((l.map mk).map T.d) (acc.map T.d) ρ = .ok ((acc ++ (l.filter c).map F).map T.d) ρ
  | [], acc, _, _ => by
    show R.ok (acc.map T.d) ρ = _
    simp
  | d :: ds, acc, h, hl => by
    obtain ⟨ρ1, ρ2, e1, e2, e3, e4⟩ := h d List.mem_cons_self
    have hlt : (acc.map T.d).length < lim := by rw [List.length_map]; rw [List.length_cons] at hl; omega
    cases hc : c d with
    | true =>
      obtain ⟨ρ3, e5, e6⟩ := e3 hc
      have ih := lcG (vs := vs) (g := g) (tt := tt) (fe := fe) (ρ := ρ) (mk := mk) c F (l := ds) (acc := acc ++ [F d]) (fun d' m => h d' (List.mem_cons_of_mem _ m)) (by rw [List.length_append]; rw [List.length_cons] at hl; simp; omega)
      rw [List.map_append, List.map_cons, List.map_nil] at ih
      rw [List.map_cons, List.map_cons, List.filter_cons_of_pos hc]
      unfold lcGo
      rw [hc] at e2
      simp only [mbind, e1, e2, if_true, e5, mwipe, e6, if_pos hlt]
      rw [ih, List.map_cons]
      simp
    | false =>
      have ih := lcG (vs := vs) (g := g) (tt := tt) (fe := fe) (ρ := ρ) (mk := mk) c F (l := ds) (acc := acc) (fun d' m => h d' (List.mem_cons_of_mem _ m)) (by rw [List.length_cons] at hl; omega)
      rw [List.map_cons, List.map_cons, List.filter_cons_of_neg (by rw [hc]; decide)]
      unfold lcGo
      rw [hc] at e2
      simp only [mbind, e1, e2]
      rw [if_neg Bool.false_ne_true]
      simp only [mbind, mwipe, e4 hc]
      exact ih
theorem dlcG {γ : Type} {fi : M (List PyData)} {vs : List Nat} {g : T → M Unit} {tt : M Bool} {fe : M T} {ρ0 ρ1 : Rho} {mk : γ → PyData} {l : List γ} (c : γ → Bool) (F : γ → PyData) (hi : fi ρ0 = .ok (l.map mk) ρ1)
    (h : ∀ x ∈ l, ∃ ρ2 ρ3, g (.d (mk x)) (wipeR ρ1 vs) = .ok () ρ2 ∧ tt ρ2 = .ok (c x) ρ3 ∧ (c x = true → ∃ ρ4, fe ρ3 = .ok (.d (F x)) ρ4 ∧ wipeR ρ4 vs = wipeR ρ1 vs) ∧ (c x = false → wipeR ρ3 vs = wipeR ρ1 vs))
    (hl : l.length ≤ lim) : dlc fi vs g tt fe ρ0 = .ok (.d (.list ((l.filter c).map F))) (wipeR ρ1 vs) := by
  have := lcG (acc := []) c F h (by simpa using hl)
  unfold dlc dthaw dlcO
  simp only [mbind, hi, mwipe, mnoex]
  rw [List.map_nil, List.nil_append] at this
  rw [this]
  simp only [mret, toD, toDs_map]
  rfl
theorem dlcM {γ : Type} {fi : M (List PyData)} {vs : List Nat} {g : T → M Unit} {fe : M T} {ρ0 ρ1 : Rho} {mk : γ → PyData} {l : List γ} (F : γ → PyData) (hi : fi ρ0 = .ok (l.map mk) ρ1)
    (h : ∀ x ∈ l, ∃ ρ2 ρ4, g (.d (mk x)) (wipeR ρ1 vs) = .ok () ρ2 ∧ fe ρ2 = .ok (.d (F x)) ρ4 ∧ wipeR ρ4 vs = wipeR ρ1 vs)
    (hl : l.length ≤ lim) : dlc fi vs g (mret true) fe ρ0 = .ok (.d (.list (l.map F))) (wipeR ρ1 vs) := by
  have q := dlcG (fun _ => true) F hi (tt := mret true) (fun x hx => by
    obtain ⟨ρ2, ρ4, h1, h2, h3⟩ := h x hx
    exact ⟨ρ2, ρ2, h1, rfl, fun _ => ⟨ρ4, h2, h3⟩, fun z => nomatch z⟩) hl
  rw [q, List.filter_eq_self.mpr (fun _ _ => rfl)]
theorem lcMO {γ : Type} {vs : List Nat} {g : T → M Unit} {fe : M T} {ρ : Rho} {mk : γ → PyData} (F : γ → T) : ∀ {l : List γ} {acc : List T},
    (∀ x ∈ l, ∃ ρ1 ρ3, g (.d (mk x)) ρ = .ok () ρ1 ∧ fe ρ1 = .ok (F x) ρ3 ∧ wipeR ρ3 vs = ρ) → acc.length + l.length ≤ lim →
    lcGo vs g (mret true) fe ((l.map mk).map T.d) acc ρ = .ok (acc ++ l.map F) ρ
  | [], acc, _, _ => by
    show R.ok acc ρ = _
    simp
  | d :: ds, acc, h, hl => by
    obtain ⟨ρ1, ρ3, e1, e2, e3⟩ := h d List.mem_cons_self
    have hlt : acc.length < lim := by rw [List.length_cons] at hl; omega
    have ih := lcMO (vs := vs) (g := g) (fe := fe) (ρ := ρ) (mk := mk) F (l := ds) (acc := acc ++ [F d]) (fun d' m => h d' (List.mem_cons_of_mem _ m)) (by rw [List.length_append]; rw [List.length_cons] at hl; simp; omega)
    rw [List.map_cons, List.map_cons]
    unfold lcGo
    simp only [mbind, e1, mret, if_true, e2, mwipe, e3, if_pos hlt]
    rw [ih, List.map_cons]
    simp
theorem dlcMO {γ : Type} {fi : M (List PyData)} {vs : List Nat} {g : T → M Unit} {fe : M T} {ρ0 ρ1 : Rho} {mk : γ → PyData} {l : List γ} (F : γ → T) (hi : fi ρ0 = .ok (l.map mk) ρ1)
    (h : ∀ x ∈ l, ∃ ρ2 ρ4, g (.d (mk x)) (wipeR ρ1 vs) = .ok () ρ2 ∧ fe ρ2 = .ok (F x) ρ4 ∧ wipeR ρ4 vs = wipeR ρ1 vs)
    (hl : l.length ≤ lim) : dlcO fi vs g (mret true) fe ρ0 = .ok (.lst (l.map F)) (wipeR ρ1 vs) := by
  have := lcMO (acc := []) F h (by simpa using hl)
  unfold dlcO
  simp only [mbind, hi, mwipe, mnoex]
  rw [this]
  rfl
theorem ends_lc {vs : List Nat} {g : T → M Unit} {tt : M Bool} {fe : M T} {P : List T → Rho → Prop} (J : List T → List T → Rho → Prop) (hend : ∀ acc ρ, J [] acc ρ → P acc ρ)
    (step : ∀ t ts acc ρ, J (t :: ts) acc ρ → Ends (g t ρ) fun _ ρ1 => Ends (tt ρ1) fun b ρ2 => if b = true then Ends (fe ρ2) (fun u ρ3 => acc.length < lim ∧ J ts (acc ++ [u]) (wipeR ρ3 vs)) else J ts acc (wipeR ρ2 vs)) :
    ∀ {ts acc : List T} {ρ : Rho}, J ts acc ρ → Ends (lcGo vs g tt fe ts acc ρ) P
  | [], acc, ρ, h => hend acc ρ h
  | t :: ts, acc, ρ, h => by
    unfold lcGo
    refine ends_bind ((step t ts acc ρ h).mono fun _ ρ1 h1 => ends_bind (h1.mono fun b ρ2 h2 => ?_))
    cases b with
    | true =>
      rw [if_pos rfl] at h2 ⊢
      refine ends_bind (h2.mono fun u ρ3 h3 => ?_)
      refine ends_bind' (ρ' := wipeR ρ3 vs) (a := ()) rfl ?_
      rw [if_pos h3.1]
      exact ends_lc J hend step h3.2
    | false =>
      rw [if_neg Bool.false_ne_true] at h2 ⊢
      exact ends_bind' (ρ' := wipeR ρ2 vs) (a := ()) rfl (ends_lc J hend step h2)
theorem ends_dlcO {fi : M (List PyData)} {vs : List Nat} {g : T → M Unit} {tt : M Bool} {fe : M T} {ρ0 ρ1 : Rho} {ds : List PyData} {P : T → Rho → Prop} (hi : fi ρ0 = .ok ds ρ1) (h : Ends (lcGo vs g tt fe (ds.map T.d) [] (wipeR ρ1 vs)) fun acc ρ => P (.lst acc) ρ) : Ends (dlcO fi vs g tt fe ρ0) P := by
  refine ends_bind' hi (ends_bind' (ρ' := wipeR ρ1 vs) (a := ()) rfl ?_)
  obtain ⟨acc, ρ, e, q⟩ := h.get
  refine ends_bind' (ρ' := ρ) (a := acc) ?_ q
  unfold mnoex
  rw [e]
theorem ends_dlc {fi : M (List PyData)} {vs : List Nat} {g : T → M Unit} {tt : M Bool} {fe : M T} {ρ0 ρ1 : Rho} {ds : List PyData} {P : T → Rho → Prop} (hi : fi ρ0 = .ok ds ρ1) (h : Ends (lcGo vs g tt fe (ds.map T.d) [] (wipeR ρ1 vs)) fun acc ρ => ∃ out, acc = out.map T.d ∧ P (.d (.list out)) ρ) : Ends (dlc fi vs g tt fe ρ0) P := by
  unfold dlc dthaw
  refine ends_bind (ends_dlcO (P := fun t ρ => ∃ out, t = .lst (out.map T.d) ∧ P (.d (.list out)) ρ) hi (h.mono fun acc ρ q => ?_) |>.mono fun t ρ q => ?_)
  · obtain ⟨out, e, q⟩ := q
    exact ⟨out, by rw [e], q⟩
  · obtain ⟨out, rfl, q⟩ := q
    simp only [toD, toDs_map, Option.map_some]
    exact q
end DL
end
section
set_option maxRecDepth 100000
set_option linter.all false
namespace DL
open PySem L2 PySem.Builtin PySem.Builtin.Str
end DL
end
section
set_option Elab.async false
set_option linter.all false
set_option maxRecDepth 100000
set_option maxHeartbeats 4000000
namespace LW
open PySem L2 DL
abbrev top (i : Nat) : Stmt := PySem.Challenge.pw_readsfrom_k61_programs_called_otherwise.main.body.getD i (.Pass ⟨0, 0, 0, 0⟩)
def D_LETTERS : PyData := .str ("abcdefghijklmnopqrstuvwxyz" : Str)
def D_LONGEST : PyData := .int 6
def D_MOST_NUMBER : PyData := .int 9
def D_MOST_BOXES : PyData := .int 4
def D_MOST_HANDS : PyData := .int 4
def D_MOST_DEEDS : PyData := .int 8
def D_MOST_TOGETHER : PyData := .int 16
def D_MOST_SKIPPED : PyData := .int 8
def D_KINDS : List (Str × T) := [("name", .fn "is_name"), ("number", .fn "is_number"), ("what", .fn "is_what"), ("many", .fn "is_many")]
def D_READING : PyData := .tuple [(.str ("plain" : Str)), (.str ("loose" : Str)), (.str ("taking" : Str))]
def D_WRITING : PyData := .tuple [(.str ("plain" : Str)), (.str ("loose" : Str)), (.str ("giving" : Str))]
def D_CHANGING : PyData := .tuple [(.str ("loose" : Str)), (.str ("giving" : Str)), (.str ("taking" : Str)), (.str ("both" : Str))]
def D_FENCING : PyData := .tuple [(.str ("giving" : Str)), (.str ("taking" : Str)), (.str ("both" : Str))]
def D_WORDS : List (Str × T) := [("reading", .d D_READING), ("writing", .d D_WRITING), ("changing", .d D_CHANGING), ("fencing", .d D_FENCING), ("how", .d (.tuple [(.str ("add" : Str)), (.str ("put" : Str))])), ("word", .d (.tuple [(.str ("is" : Str)), (.str ("isnt" : Str))]))]
def D_FORMS : List (Str × T) := [("read", .d (.tuple [(.str ("name" : Str)), (.str ("box" : Str)), (.str ("reading" : Str))])), ("write", .d (.tuple [(.str ("box" : Str)), (.str ("what" : Str)), (.str ("writing" : Str))])), ("change", .d (.tuple [(.str ("name" : Str)), (.str ("box" : Str)), (.str ("how" : Str)), (.str ("what" : Str)), (.str ("changing" : Str))])), ("swap", .d (.tuple [(.str ("name" : Str)), (.str ("box" : Str)), (.str ("number" : Str)), (.str ("what" : Str)), (.str ("changing" : Str))])), ("wait", .d (.tuple [(.str ("name" : Str)), (.str ("box" : Str)), (.str ("number" : Str)), (.str ("reading" : Str))])), ("grab", .d (.tuple [(.str ("name" : Str)), (.str ("box" : Str)), (.str ("number" : Str)), (.str ("what" : Str)), (.str ("changing" : Str))])), ("fence", .d (.tuple [(.str ("fencing" : Str))])), ("skip", .d (.tuple [(.str ("name" : Str)), (.str ("word" : Str)), (.str ("number" : Str)), (.str ("many" : Str))])), ("claim", .d (.tuple [(.str ("name" : Str)), (.str ("word" : Str)), (.str ("number" : Str))]))]
abbrev i_NoNames : Stmt := methOf (top 2) 0
theorem isc_NoNames : FnScope (("self" : Str) :: ["which"]) (("self" : Str) :: ["which"]) (defScope i_NoNames) := ⟨rfl, rfl, rfl, by decide +kernel, rfl, by decide +kernel, by decide +kernel⟩
theorem y_of_NoNames {P : Program} {w : World} {K : PySem.W.Frag} {mg : Str → Option Value} {base : Heap} (b : BaseOf K mg "ValueError" "ValueError" "ValueError.__init__") (X : HasE K mg "NoNames" "NoNames.__init__" i_NoNames ["which"] "ValueError" "ValueError.__init__") : ExcB P w K mg base "NoNames" 1 ["which"] := by
  obtain ⟨C, fI, fd, hC, hm, T, iC, tI, U, hno⟩ := X.ex
  refine ⟨⟨C, fI, fd, _, _, hC, hm, T, iC, tI, inits_ok U isc_NoNames (fun cd A outer s H E => inb1 T hno b (ini_nil (by decide))), ?_⟩⟩
  exact U.binds (ps := ["self", "which"]) fun _ _ _ _ _ _ us hl => match us, hl with | [_, _], _ => rfl
abbrev i_NoProgram : Stmt := methOf (top 1) 0
theorem isc_NoProgram : FnScope (("self" : Str) :: ["part", "hand", "number"]) (("self" : Str) :: ["part", "hand", "number"]) (defScope i_NoProgram) := ⟨rfl, rfl, rfl, by decide +kernel, rfl, by decide +kernel, by decide +kernel⟩
theorem y_of_NoProgram {P : Program} {w : World} {K : PySem.W.Frag} {mg : Str → Option Value} {base : Heap} (b : BaseOf K mg "ValueError" "ValueError" "ValueError.__init__") (X : HasE K mg "NoProgram" "NoProgram.__init__" i_NoProgram ["part", "hand", "number"] "ValueError" "ValueError.__init__") : ExcB P w K mg base "NoProgram" 1 ["part", "hand", "number"] := by
  obtain ⟨C, fI, fd, hC, hm, T, iC, tI, U, hno⟩ := X.ex
  refine ⟨⟨C, fI, fd, _, _, hC, hm, T, iC, tI, inits_ok U isc_NoProgram (fun cd A outer s H E => inb1 T hno b (inb_cons T hno (by decide) 1 (inb_cons T hno (by decide) 2 (ini_nil (by decide))))), ?_⟩⟩
  exact U.binds (ps := ["self", "part", "hand", "number"]) fun _ _ _ _ _ _ us hl => match us, hl with | [_, _, _, _], _ => rfl
structure Facts (w : World) (K : PySem.W.Frag) (mg : Str → Option Value) : Prop where
  gl : ∀ z a, PySem.W.nsIn K mainGlobals z = some (some (.ref a)) → mg z = some (.ref a)
  n_all : mg "all" = none
  n_bool : mg "bool" = none
  n_dict : mg "dict" = none
  n_enumerate : mg "enumerate" = none
  n_int : mg "int" = none
  n_isinstance : mg "isinstance" = none
  n_len : mg "len" = none
  n_list : mg "list" = none
  n_max : mg "max" = none
  n_min : mg "min" = none
  n_range : mg "range" = none
  n_repr : mg "repr" = none
  n_set : mg "set" = none
  n_sorted : mg "sorted" = none
  n_str : mg "str" = none
  n_sum : mg "sum" = none
  n_tuple : mg "tuple" = none
  n_zip : mg "zip" = none
  g_LETTERS : ∃ v u, mg "LETTERS" = some u ∧ RelV v u ∧ ∀ I, Dr K I v D_LETTERS
  g_LONGEST : ∃ v u, mg "LONGEST" = some u ∧ RelV v u ∧ ∀ I, Dr K I v D_LONGEST
  g_MOST_BOXES : ∃ v u, mg "MOST_BOXES" = some u ∧ RelV v u ∧ ∀ I, Dr K I v D_MOST_BOXES
  g_MOST_DEEDS : ∃ v u, mg "MOST_DEEDS" = some u ∧ RelV v u ∧ ∀ I, Dr K I v D_MOST_DEEDS
  g_MOST_HANDS : ∃ v u, mg "MOST_HANDS" = some u ∧ RelV v u ∧ ∀ I, Dr K I v D_MOST_HANDS
  g_MOST_NUMBER : ∃ v u, mg "MOST_NUMBER" = some u ∧ RelV v u ∧ ∀ I, Dr K I v D_MOST_NUMBER
  g_MOST_SKIPPED : ∃ v u, mg "MOST_SKIPPED" = some u ∧ RelV v u ∧ ∀ I, Dr K I v D_MOST_SKIPPED
  g_MOST_TOGETHER : ∃ v u, mg "MOST_TOGETHER" = some u ∧ RelV v u ∧ ∀ I, Dr K I v D_MOST_TOGETHER
  t_FORMS : ∃ (d : Addr) (es : Array DictEntry) (n : Nat), mg "FORMS" = some (.ref d) ∧ KDict K w d es n ∧ TabIs K es.toList D_FORMS ∧ es.size ≤ sizeLine
  t_KINDS : ∃ (d : Addr) (es : Array DictEntry) (n : Nat), mg "KINDS" = some (.ref d) ∧ KDict K w d es n ∧ TabIs K es.toList D_KINDS ∧ es.size ≤ sizeLine
  t_WORDS : ∃ (d : Addr) (es : Array DictEntry) (n : Nat), mg "WORDS" = some (.ref d) ∧ KDict K w d es n ∧ TabIs K es.toList D_WORDS ∧ es.size ≤ sizeLine
abbrev s__law_take : Stmt := top 39
def b__law_take : M Fl :=
    mseq (sif (dval (dop (onD pGt) (dixO 0 (mret (.d (.int 0)))) (mret (.d (.int 0))))) (mseq (sset 2 (dop (onD pMod) (dixO 0 (mret (.d (.int 0)))) (dget 1))) <|
    mseq (sasg (dop (onD pDiv) (dixO 0 (mret (.d (.int 0)))) (dget 1)) (gput 0 (mret (.d (.int 0))))) <|
    sret (dget 2)) (mret .nx)) <|
    mseq (sasg (dop (onD pMod) (dop (onD pAdd) (dop (onD pMul) (dixO 0 (mret (.d (.int 1)))) (mret (.d (.int 48271)))) (mret (.d (.int 11)))) (mret (.d (.int 2147483647)))) (gput 0 (mret (.d (.int 1))))) <|
    sret (dop (onD pMod) (dop (onD pDiv) (dop (onD pMod) (dop (onD pMul) (dixO 0 (mret (.d (.int 1)))) (dixO 0 (mret (.d (.int 1))))) (mret (.d (.int 2147483629)))) (mret (.d (.int 64)))) (dget 1))
def f__law_take : Fn := dfn 3 [true, true] b__law_take
theorem nd__law_take : (["_law_pool_here", "_law_size", "_law_found"] : List Str).Nodup := by decide +kernel
theorem sc__law_take : FnScope ["_law_pool_here", "_law_size", "_law_found"] ["_law_pool_here", "_law_size"] (defScope s__law_take) := ⟨rfl, rfl, rfl, nd__law_take, rfl, by decide +kernel, by decide +kernel⟩
theorem k__law_take {P : Program} {w : World} {K : PySem.W.Frag} {mg : Str → Option Value} {base : Heap} (c : Facts w K mg)  : BodyOk P w K mg base 0 ["_law_pool_here", "_law_size", "_law_found"] "_law_take" s__law_take [true, true] b__law_take := fun f cd A outer s H E at_ =>
    dss_cons (ds_if (dt_cmp op_gt od_gt (de_ixO 0 de_int) de_int (by with_unfolding_all rfl)) (dss_cons (ds_set 2 nd__law_take (de_op op_mod od_mod (de_ixO 0 de_int) (dv 1)))
    (dss_cons (ds_asg (de_op op_fdiv od_div (de_ixO 0 de_int) (dv 1)) (dg_sub 0 de_int))
    (dss_one (ds_ret (dv 2))))) dss_nil)
    (dss_cons (ds_asg (de_op op_mod od_mod (de_op op_add4 od_add (de_op op_mul2 od_mul (de_ixO 0 de_int) de_int) de_int) de_int) (dg_sub 0 de_int))
    (dss_one (ds_ret (de_op op_mod od_mod (de_op op_fdiv od_div (de_op op_mod od_mod (de_op op_mul2 od_mul (de_ixO 0 de_int) (de_ixO 0 de_int)) de_int) de_int) (dv 1)))))
theorem ok__law_take {P : Program} {w : World} {K : PySem.W.Frag} {mg : Str → Option Value} {base : Heap} {f : Addr} {fd : FuncData} (U : Fun K "_law_take" "_law_take" s__law_take f fd) (hm : mg "_law_take" = some (.ref f)) (bi : Binds K fd ["_law_pool_here", "_law_size"] []) (c : Facts w K mg)  : Def P w K mg base "_law_take" 1 2 f__law_take :=
  Def.of U hm bi (def_ok U sc__law_take rfl (k__law_take c ))
abbrev s__law_picked : Stmt := top 40
def l__law_picked_1 : M T :=
    dlc (drange (dcons (dcallb gMin2 [none, none] (dcons (dget 2) (dcons (dcallb gLen [some 3] (dlate 3 (mret []))) (mret [])))) (mret []))) [4] (mset 4) (mret true) (dmeth "list" 3 oPopAt (dcons (dcall f__law_take [some 0, none] (dlate 0 (dcons (dcallb gLen [some 3] (dlate 3 (mret []))) (mret [])))) (mret [])))
def b__law_picked : M Fl :=
    mseq (sset 3 (dcallb gListO [none] (dcons (dget 1) (mret [])))) <|
    sret l__law_picked_1
def f__law_picked : Fn := dfn 5 [true, true, true] b__law_picked
theorem nd__law_picked : (["_law_pool_here", "_law_menu", "_law_size", "_law_left", "_law_turn"] : List Str).Nodup := by decide +kernel
theorem sc__law_picked : FnScope ["_law_pool_here", "_law_menu", "_law_size", "_law_left", "_law_turn"] ["_law_pool_here", "_law_menu", "_law_size"] (defScope s__law_picked) := ⟨rfl, rfl, rfl, nd__law_picked, rfl, by decide +kernel, by decide +kernel⟩
theorem k__law_picked {P : Program} {w : World} {K : PySem.W.Frag} {mg : Str → Option Value} {base : Heap} (c : Facts w K mg) (d__law_take : Def P w K mg base "_law_take" 1 2 f__law_take) : BodyOk P w K mg base 1 ["_law_pool_here", "_law_menu", "_law_size", "_law_left", "_law_turn"] "_law_picked" s__law_picked [true, true, true] b__law_picked := fun f cd A outer s H E at_ =>
    dss_cons (ds_set 3 nd__law_picked (de_callTy call_list_of ck_listO c.n_list bt_list (da_cons (dv 1) da_nil)))
    (dss_one (ds_ret (de_lc at_ nd__law_picked (di_range1 c.n_range (da_cons (de_callB (call_min2 at_.ca) ck_min2 c.n_min bt_min (da_cons (dv 2) (da_cons (de_callB cr_len2 ck_len c.n_len bt_len (da_own 3 da_nil)) da_nil))) da_nil)) (own := [("_law_turn", 4)]) (by first | (show blkC ["_law_pool_here", "_law_menu", "_law_size", "_law_left", "_law_turn"] (defScope s__law_picked) _ _ = true; decide +kernel) | (show blkC ["_law_pool_here", "_law_menu", "_law_size", "_law_left", "_law_turn"] _ _ _ = true; decide +kernel) | kernel_rfl) (fun b a1 => dg_name nd__law_picked rfl (by first | exact Or.inl rfl | exact Or.inr rfl) (by intro h; cases h)) (fun b a1 => dts_nil) (fun b a1 => de_meth 3 PySem.F.plainAttrs_list PySem.F.slot_list_pop PySem.F.type_list_pop mt_popAt om_popAt (da_cons (de_call d__law_take a1 (da_own 0 (da_cons (de_callB cr_len2 ck_len c.n_len bt_len (da_own 3 da_nil)) da_nil))) da_nil)))))
theorem ok__law_picked {P : Program} {w : World} {K : PySem.W.Frag} {mg : Str → Option Value} {base : Heap} {f : Addr} {fd : FuncData} (U : Fun K "_law_picked" "_law_picked" s__law_picked f fd) (hm : mg "_law_picked" = some (.ref f)) (bi : Binds K fd ["_law_pool_here", "_law_menu", "_law_size"] []) (c : Facts w K mg) (d__law_take : Def P w K mg base "_law_take" 1 2 f__law_take) : Def P w K mg base "_law_picked" 2 3 f__law_picked :=
  Def.of U hm bi (def_ok U sc__law_picked rfl (k__law_picked c d__law_take))
abbrev s__law_new_names : Stmt := top 44
def l__law_new_names_1 : M T :=
    dlc (denum (dcons (dget 2) (mret []))) [3, 4] (mtup [mset 3, mset 4]) (dval (dop (onD pNotIn) (dget 4) (dslice (dget 2) (mret none) (dpart (dget 3))))) (dget 4)
def b__law_new_names : M Fl :=
    mseq (sset 2 (dop (onD pAdd) (dop (onD pIx) (dget 1) (mret (.d (.int 0)))) (dlst (dcons (mret (.d (.str ("a" : Str)))) (dcons (mret (.d (.str ("z" : Str)))) (dcons (mret (.d (.str ("hand" : Str)))) (dcons (mret (.d (.str ("row" : Str)))) (dcons (mret (.d (.str ("zzzzzz" : Str)))) (dcons (mret (.d (.str ("start" : Str)))) (mret [])))))))))) <|
    mseq (sset 2 l__law_new_names_1) <|
    sret (dcall f__law_picked [some 0, none, none] (dlate 0 (dcons (dget 2) (dcons (dcallb gLen [none] (dcons (dop (onD pIx) (dget 1) (mret (.d (.int 0)))) (mret []))) (mret [])))))
def f__law_new_names : Fn := dfn 5 [true, true] b__law_new_names
theorem nd__law_new_names : (["_law_pool_here", "_law_program", "_law_menu", "_law_k", "_law_name"] : List Str).Nodup := by decide +kernel
theorem sc__law_new_names : FnScope ["_law_pool_here", "_law_program", "_law_menu", "_law_k", "_law_name"] ["_law_pool_here", "_law_program"] (defScope s__law_new_names) := ⟨rfl, rfl, rfl, nd__law_new_names, rfl, by decide +kernel, by decide +kernel⟩
theorem k__law_new_names {P : Program} {w : World} {K : PySem.W.Frag} {mg : Str → Option Value} {base : Heap} (c : Facts w K mg) (d__law_picked : Def P w K mg base "_law_picked" 2 3 f__law_picked) : BodyOk P w K mg base 2 ["_law_pool_here", "_law_program", "_law_menu", "_law_k", "_law_name"] "_law_new_names" s__law_new_names [true, true] b__law_new_names := fun f cd A outer s H E at_ =>
    dss_cons (ds_set 2 nd__law_new_names (de_op op_add4 od_add (de_ix (dv 1) de_int) (de_lst (da_cons de_str (da_cons de_str (da_cons de_str (da_cons de_str (da_cons de_str (da_cons de_str da_nil)))))))))
    (dss_cons (ds_set 2 nd__law_new_names (de_lc at_ nd__law_new_names (di_enum c.n_enumerate (da_cons (dv 2) da_nil)) (own := [("_law_k", 3), ("_law_name", 4)]) (by first | (show blkC ["_law_pool_here", "_law_program", "_law_menu", "_law_k", "_law_name"] (defScope s__law_new_names) _ _ = true; decide +kernel) | (show blkC ["_law_pool_here", "_law_program", "_law_menu", "_law_k", "_law_name"] _ _ _ = true; decide +kernel) | kernel_rfl) (fun b a1 => dg_tup a1.ca (dgs_cons (dg_name nd__law_new_names rfl (by first | exact Or.inl rfl | exact Or.inr rfl) (by intro h; cases h)) (dgs_cons (dg_name nd__law_new_names rfl (by first | exact Or.inl rfl | exact Or.inr rfl) (by intro h; cases h)) dgs_nil))) (fun b a1 => dts_one (dt_cmp (op_notInP a1.un) od_notIn (dv 4) (de_slice (dv 2) do_none (do_some (dv 3))) (by with_unfolding_all rfl))) (fun b a1 => dv 4)))
    (dss_one (ds_ret (de_call d__law_picked at_ (da_own 0 (da_cons (dv 2) (da_cons (de_callB cr_len2 ck_len c.n_len bt_len (da_cons (de_ix (dv 1) de_int) da_nil)) da_nil)))))))
theorem ok__law_new_names {P : Program} {w : World} {K : PySem.W.Frag} {mg : Str → Option Value} {base : Heap} {f : Addr} {fd : FuncData} (U : Fun K "_law_new_names" "_law_new_names" s__law_new_names f fd) (hm : mg "_law_new_names" = some (.ref f)) (bi : Binds K fd ["_law_pool_here", "_law_program"] []) (c : Facts w K mg) (d__law_picked : Def P w K mg base "_law_picked" 2 3 f__law_picked) : Def P w K mg base "_law_new_names" 3 2 f__law_new_names :=
  Def.of U hm bi (def_ok U sc__law_new_names rfl (k__law_new_names c d__law_picked))
abbrev s__law_order : Stmt := top 43
def l__law_order_1 : M T :=
    dlc (drange (dcons (dget 1) (mret []))) [3] (mset 3) (mret true) (dmeth "list" 2 oPopAt (dcons (dcall f__law_take [some 0, none] (dlate 0 (dcons (dcallb gLen [some 2] (dlate 2 (mret []))) (mret [])))) (mret [])))
def b__law_order : M Fl :=
    mseq (sset 2 (mbind (dget 1) fun t => mopt (lstRgO t))) <|
    sret l__law_order_1
def f__law_order : Fn := dfn 4 [true, true] b__law_order
theorem nd__law_order : (["_law_pool_here", "_law_size", "_law_left", "_law_turn"] : List Str).Nodup := by decide +kernel
theorem sc__law_order : FnScope ["_law_pool_here", "_law_size", "_law_left", "_law_turn"] ["_law_pool_here", "_law_size"] (defScope s__law_order) := ⟨rfl, rfl, rfl, nd__law_order, rfl, by decide +kernel, by decide +kernel⟩
theorem k__law_order {P : Program} {w : World} {K : PySem.W.Frag} {mg : Str → Option Value} {base : Heap} (c : Facts w K mg) (d__law_take : Def P w K mg base "_law_take" 1 2 f__law_take) : BodyOk P w K mg base 1 ["_law_pool_here", "_law_size", "_law_left", "_law_turn"] "_law_order" s__law_order [true, true] b__law_order := fun f cd A outer s H E at_ =>
    dss_cons (ds_set 2 nd__law_order (de_listRgO at_ c.n_list c.n_range (dv 1)))
    (dss_one (ds_ret (de_lc at_ nd__law_order (di_range1 c.n_range (da_cons (dv 1) da_nil)) (own := [("_law_turn", 3)]) (by first | (show blkC ["_law_pool_here", "_law_size", "_law_left", "_law_turn"] (defScope s__law_order) _ _ = true; decide +kernel) | (show blkC ["_law_pool_here", "_law_size", "_law_left", "_law_turn"] _ _ _ = true; decide +kernel) | kernel_rfl) (fun b a1 => dg_name nd__law_order rfl (by first | exact Or.inl rfl | exact Or.inr rfl) (by intro h; cases h)) (fun b a1 => dts_nil) (fun b a1 => de_meth 2 PySem.F.plainAttrs_list PySem.F.slot_list_pop PySem.F.type_list_pop mt_popAt om_popAt (da_cons (de_call d__law_take a1 (da_own 0 (da_cons (de_callB cr_len2 ck_len c.n_len bt_len (da_own 2 da_nil)) da_nil))) da_nil)))))
theorem ok__law_order {P : Program} {w : World} {K : PySem.W.Frag} {mg : Str → Option Value} {base : Heap} {f : Addr} {fd : FuncData} (U : Fun K "_law_order" "_law_order" s__law_order f fd) (hm : mg "_law_order" = some (.ref f)) (bi : Binds K fd ["_law_pool_here", "_law_size"] []) (c : Facts w K mg) (d__law_take : Def P w K mg base "_law_take" 1 2 f__law_take) : Def P w K mg base "_law_order" 2 2 f__law_order :=
  Def.of U hm bi (def_ok U sc__law_order rfl (k__law_order c d__law_take))
abbrev s__law_pool : Stmt := top 38
def b__law_pool : M Fl :=
    mseq (sset 2 (dop (onD pIx) (dop (onD pAdd) (dslice (dget 0) (dpart (dget 1)) (dpart (dop (onD pAdd) (dget 1) (mret (.d (.int 1)))))) (dlst (dcons (mret (.d (.int 0))) (mret [])))) (mret (.d (.int 0))))) <|
    mseq (sset 3 (dop (onD pMod) (dop (onD pMul) (dop (onD pAdd) (dop (onD pAdd) (dop (onD pMod) (dget 2) (mret (.d (.int 2147483647)))) (dop (onD pMul) (mret (.d (.int 7919))) (dget 1))) (mret (.d (.int 1)))) (mret (.d (.int 48271)))) (mret (.d (.int 2147483629))))) <|
    sret (dlstO (dcons (dop (onD pMul) (dcallb gInt [none] (dcons (dop (onD pGe) (dget 2) (dop (onD pPow) (mret (.d (.int 10))) (mret (.d (.int 18))))) (mret []))) (dget 2)) (dcons (dget 3) (mret []))))
def f__law_pool : Fn := dfn 4 [true, true] b__law_pool
theorem nd__law_pool : (["_law_script", "_law_k", "_law_cell", "_law_seed"] : List Str).Nodup := by decide +kernel
theorem sc__law_pool : FnScope ["_law_script", "_law_k", "_law_cell", "_law_seed"] ["_law_script", "_law_k"] (defScope s__law_pool) := ⟨rfl, rfl, rfl, nd__law_pool, rfl, by decide +kernel, by decide +kernel⟩
theorem k__law_pool {P : Program} {w : World} {K : PySem.W.Frag} {mg : Str → Option Value} {base : Heap} (c : Facts w K mg)  : BodyOk P w K mg base 0 ["_law_script", "_law_k", "_law_cell", "_law_seed"] "_law_pool" s__law_pool [true, true] b__law_pool := fun f cd A outer s H E at_ =>
    dss_cons (ds_set 2 nd__law_pool (de_ix (de_op op_add4 od_add (de_slice (dv 0) (do_some (dv 1)) (do_some (de_op op_add4 od_add (dv 1) de_int))) (de_lst (da_cons de_int da_nil))) de_int))
    (dss_cons (ds_set 3 nd__law_pool (de_op op_mod od_mod (de_op op_mul2 od_mul (de_op op_add4 od_add (de_op op_add4 od_add (de_op op_mod od_mod (dv 2) de_int) (de_op op_mul2 od_mul de_int (dv 1))) de_int) de_int) de_int))
    (dss_one (ds_ret (de_lstO (da_cons (de_op op_mul2 od_mul (de_callTy cr_int3 ck_int c.n_int bt_int (da_cons (de_cmp op_ge od_ge (dv 2) (de_op op_pow od_pow de_int de_int) (by with_unfolding_all rfl)) da_nil)) (dv 2)) (da_cons (dv 3) da_nil))))))
theorem ok__law_pool {P : Program} {w : World} {K : PySem.W.Frag} {mg : Str → Option Value} {base : Heap} {f : Addr} {fd : FuncData} (U : Fun K "_law_pool" "_law_pool" s__law_pool f fd) (hm : mg "_law_pool" = some (.ref f)) (bi : Binds K fd ["_law_script", "_law_k"] []) (c : Facts w K mg)  : Def P w K mg base "_law_pool" 1 2 f__law_pool :=
  Def.of U hm bi (def_ok U sc__law_pool rfl (k__law_pool c ))
abbrev s__law_back : Stmt := top 47
def l__law_back_1 : M T :=
    dlc (drange (dcons (dcallb gLen [none] (dcons (dget 1) (mret []))) (mret []))) [5] (mset 5) (mret true) (dlm1 gIndex (dget 1) (dget 5))
def l__law_back_2 : M T :=
    dlc (dseq (dcallb gSorted [none] (dcons (dget 2) (mret [])))) [6] (mset 6) (mret true) (dop gFget (dget 4) (dget 6))
def b__law_back : M Fl :=
    mseq (sset 3 l__law_back_1) <|
    mseq (sset 4 (mbind (dcons (dget 2) (dcons (dop (onD pIx) (dget 0) (mret (.d (.int 0)))) (mret []))) fun ts => mopt (gDz ts))) <|
    sret (dtup (dcons (dget 3) (dcons l__law_back_2 (mret []))))
def f__law_back : Fn := dfn 7 [true, true, true] b__law_back
theorem nd__law_back : (["_law_program", "_law_order_here", "_law_news", "_law_places", "_law_names", "_law_k", "_law_name"] : List Str).Nodup := by decide +kernel
theorem sc__law_back : FnScope ["_law_program", "_law_order_here", "_law_news", "_law_places", "_law_names", "_law_k", "_law_name"] ["_law_program", "_law_order_here", "_law_news"] (defScope s__law_back) := ⟨rfl, rfl, rfl, nd__law_back, rfl, by decide +kernel, by decide +kernel⟩
theorem k__law_back {P : Program} {w : World} {K : PySem.W.Frag} {mg : Str → Option Value} {base : Heap} (c : Facts w K mg)  : BodyOk P w K mg base 0 ["_law_program", "_law_order_here", "_law_news", "_law_places", "_law_names", "_law_k", "_law_name"] "_law_back" s__law_back [true, true, true] b__law_back := fun f cd A outer s H E at_ =>
    dss_cons (ds_setLc 3 at_ nd__law_back (di_range1 c.n_range (da_cons (de_callB cr_len2 ck_len c.n_len bt_len (da_cons (dv 1) da_nil)) da_nil)) (own := [("_law_k", 5)]) (by first | (show blkC ["_law_program", "_law_order_here", "_law_news", "_law_places", "_law_names", "_law_k", "_law_name"] (defScope s__law_back) _ _ = true; decide +kernel) | (show blkC ["_law_program", "_law_order_here", "_law_news", "_law_places", "_law_names", "_law_k", "_law_name"] _ _ _ = true; decide +kernel) | kernel_rfl) (fun b a1 => dg_name nd__law_back rfl (by first | exact Or.inl rfl | exact Or.inr rfl) (by intro h; cases h)) (fun b a1 => dts_nil) (fun b a1 => de_index a1 (dv 1) (dv 5)) (hsw := sw_true rfl rfl rfl (by decide +kernel)))
    (dss_cons (ds_set 4 nd__law_back (de_dictZip at_ c.n_dict c.n_zip (da_cons (dv 2) (da_cons (de_ix (dv 0) de_int) da_nil))))
    (dss_one (ds_ret (de_tup (da_cons (dv 3) (da_cons (de_lc at_ nd__law_back (di_seq (de_callB cr_sortSI ck_sorted c.n_sorted bt_sorted (da_cons (dv 2) da_nil))) (own := [("_law_name", 6)]) (by first | (show blkC ["_law_program", "_law_order_here", "_law_news", "_law_places", "_law_names", "_law_k", "_law_name"] (defScope s__law_back) _ _ = true; decide +kernel) | (show blkC ["_law_program", "_law_order_here", "_law_news", "_law_places", "_law_names", "_law_k", "_law_name"] _ _ _ = true; decide +kernel) | kernel_rfl) (fun b a2 => dg_name nd__law_back rfl (by first | exact Or.inl rfl | exact Or.inr rfl) (by intro h; cases h)) (fun b a2 => dts_nil) (fun b a2 => de_fget a2.un (dv 4) (dv 6))) da_nil))))))
theorem ok__law_back {P : Program} {w : World} {K : PySem.W.Frag} {mg : Str → Option Value} {base : Heap} {f : Addr} {fd : FuncData} (U : Fun K "_law_back" "_law_back" s__law_back f fd) (hm : mg "_law_back" = some (.ref f)) (bi : Binds K fd ["_law_program", "_law_order_here", "_law_news"] []) (c : Facts w K mg)  : Def P w K mg base "_law_back" 1 3 f__law_back :=
  Def.of U hm bi (def_ok U sc__law_back rfl (k__law_back c ))
abbrev s__law_deed_by : Stmt := top 45
def b__law_deed_by : M Fl :=
    mseq (sif (dval (dop (onD pIn) (dop (onD pIx) (dget 0) (mret (.d (.int 0)))) (dtup (dcons (mret (.d (.str ("fence" : Str)))) (dcons (mret (.d (.str ("skip" : Str)))) (dcons (mret (.d (.str ("claim" : Str)))) (mret []))))))) (sret (dget 0)) (mret .nx)) <|
    mseq (sif (dval (dop (onD pEq) (dop (onD pIx) (dget 0) (mret (.d (.int 0)))) (mret (.d (.str ("write" : Str)))))) (sret (dop (onD pAdd) (dtup (dcons (dop (onD pIx) (dget 0) (mret (.d (.int 0)))) (dcons (dop gFget (dget 1) (dop (onD pIx) (dget 0) (mret (.d (.int 1))))) (mret [])))) (dslice (dget 0) (dpart (mret (.d (.int 2)))) (mret none)))) (mret .nx)) <|
    sret (dop (onD pAdd) (dop (onD pAdd) (dslice (dget 0) (mret none) (dpart (mret (.d (.int 2))))) (dtup (dcons (dop gFget (dget 1) (dop (onD pIx) (dget 0) (mret (.d (.int 2))))) (mret [])))) (dslice (dget 0) (dpart (mret (.d (.int 3)))) (mret none)))
def f__law_deed_by : Fn := dfn 2 [true, true] b__law_deed_by
theorem nd__law_deed_by : (["_law_deed_here", "_law_names"] : List Str).Nodup := by decide +kernel
theorem sc__law_deed_by : FnScope ["_law_deed_here", "_law_names"] ["_law_deed_here", "_law_names"] (defScope s__law_deed_by) := ⟨rfl, rfl, rfl, nd__law_deed_by, rfl, by decide +kernel, by decide +kernel⟩
theorem k__law_deed_by {P : Program} {w : World} {K : PySem.W.Frag} {mg : Str → Option Value} {base : Heap} (c : Facts w K mg)  : BodyOk P w K mg base 0 ["_law_deed_here", "_law_names"] "_law_deed_by" s__law_deed_by [true, true] b__law_deed_by := fun f cd A outer s H E at_ =>
    dss_cons (ds_if (dt_cmp (op_inP at_.un) od_in (de_ix (dv 0) de_int) (de_tup (da_cons de_str (da_cons de_str (da_cons de_str da_nil)))) (by with_unfolding_all rfl)) (dss_one (ds_ret (dv 0))) dss_nil)
    (dss_cons (ds_if (dt_cmp (op_eqP at_.un) od_eq (de_ix (dv 0) de_int) de_str (by with_unfolding_all rfl)) (dss_one (ds_ret (de_op op_add4 od_add (de_tup (da_cons (de_ix (dv 0) de_int) (da_cons (de_fget at_.un (dv 1) (de_ix (dv 0) de_int)) da_nil))) (de_slice (dv 0) (do_some de_int) do_none)))) dss_nil)
    (dss_one (ds_ret (de_op op_add4 od_add (de_op op_add4 od_add (de_slice (dv 0) do_none (do_some de_int)) (de_tup (da_cons (de_fget at_.un (dv 1) (de_ix (dv 0) de_int)) da_nil))) (de_slice (dv 0) (do_some de_int) do_none)))))
theorem ok__law_deed_by {P : Program} {w : World} {K : PySem.W.Frag} {mg : Str → Option Value} {base : Heap} {f : Addr} {fd : FuncData} (U : Fun K "_law_deed_by" "_law_deed_by" s__law_deed_by f fd) (hm : mg "_law_deed_by" = some (.ref f)) (bi : Binds K fd ["_law_deed_here", "_law_names"] []) (c : Facts w K mg)  : Def P w K mg base "_law_deed_by" 1 2 f__law_deed_by :=
  Def.of U hm bi (def_ok U sc__law_deed_by rfl (k__law_deed_by c ))
abbrev s__law_called : Stmt := top 46
def l__law_called_1 : M T :=
    dlc (dseq (dget 6)) [7] (mset 7) (mret true) (dcall f__law_deed_by [none, none] (dcons (dget 7) (dcons (dget 3) (mret []))))
def y__law_called_2 : M Fl :=
    sasg l__law_called_1 (gput 4 (dop (onD pIx) (dget 1) (dget 5)))
def b__law_called : M Fl :=
    mseq (sset 3 (mbind (dcons (dop (onD pIx) (dget 0) (mret (.d (.int 0)))) (dcons (dget 2) (mret []))) fun ts => mopt (gDz ts))) <|
    mseq (sset 4 (dop (pMulO) (dlst (dcons (mret (.d .none)) (mret []))) (dcallb gLen [none] (dcons (dget 1) (mret []))))) <|
    mseq (sfor (denum (dcons (dop (onD pIx) (dget 0) (mret (.d (.int 1)))) (mret []))) (mtup [mset 5, mset 6]) y__law_called_2) <|
    sret (dtup (dcons (dcallb gSorted [none] (dcons (dget 2) (mret []))) (dcons (dfrz 4) (mret []))))
def f__law_called : Fn := dfn 8 [true, true, true] b__law_called
theorem nd__law_called : (["_law_program", "_law_order_here", "_law_news", "_law_names", "_law_found", "_law_k", "_law_deeds", "_law_deed_here"] : List Str).Nodup := by decide +kernel
theorem sc__law_called : FnScope ["_law_program", "_law_order_here", "_law_news", "_law_names", "_law_found", "_law_k", "_law_deeds", "_law_deed_here"] ["_law_program", "_law_order_here", "_law_news"] (defScope s__law_called) := ⟨rfl, rfl, rfl, nd__law_called, rfl, by decide +kernel, by decide +kernel⟩
theorem k__law_called {P : Program} {w : World} {K : PySem.W.Frag} {mg : Str → Option Value} {base : Heap} (c : Facts w K mg) (d__law_deed_by : Def P w K mg base "_law_deed_by" 1 2 f__law_deed_by) : BodyOk P w K mg base 1 ["_law_program", "_law_order_here", "_law_news", "_law_names", "_law_found", "_law_k", "_law_deeds", "_law_deed_here"] "_law_called" s__law_called [true, true, true] b__law_called := fun f cd A outer s H E at_ =>
    dss_cons (ds_set 3 nd__law_called (de_dictZip at_ c.n_dict c.n_zip (da_cons (de_ix (dv 0) de_int) (da_cons (dv 2) da_nil))))
    (dss_cons (ds_set 4 nd__law_called (de_op op_mul2 od_mulO (de_lst (da_cons de_non da_nil)) (de_callB cr_len2 ck_len c.n_len bt_len (da_cons (dv 1) da_nil))))
    (dss_cons (ds_for at_ (di_enum c.n_enumerate (da_cons (de_ix (dv 0) de_int) da_nil)) (dg_tup at_.ca (dgs_cons (dg_name nd__law_called rfl (by first | exact Or.inl rfl | exact Or.inr rfl) (by intro h; cases h)) (dgs_cons (dg_name nd__law_called rfl (by first | exact Or.inl rfl | exact Or.inr rfl) (by intro h; cases h)) dgs_nil))) (dss_one (ds_asg (de_lc at_ nd__law_called (di_seq (dv 6)) (own := [("_law_deed_here", 7)]) (by first | (show blkC ["_law_program", "_law_order_here", "_law_news", "_law_names", "_law_found", "_law_k", "_law_deeds", "_law_deed_here"] (defScope s__law_called) _ _ = true; decide +kernel) | (show blkC ["_law_program", "_law_order_here", "_law_news", "_law_names", "_law_found", "_law_k", "_law_deeds", "_law_deed_here"] _ _ _ = true; decide +kernel) | kernel_rfl) (fun b a1 => dg_name nd__law_called rfl (by first | exact Or.inl rfl | exact Or.inr rfl) (by intro h; cases h)) (fun b a1 => dts_nil) (fun b a1 => de_call d__law_deed_by a1 (da_cons (dv 7) (da_cons (dv 3) da_nil)))) (dg_sub 4 (de_ix (dv 1) (dv 5))))))
    (dss_one (ds_ret (de_tup (da_cons (de_callB cr_sortSI ck_sorted c.n_sorted bt_sorted (da_cons (dv 2) da_nil)) (da_cons (dfz 4) da_nil)))))))
theorem ok__law_called {P : Program} {w : World} {K : PySem.W.Frag} {mg : Str → Option Value} {base : Heap} {f : Addr} {fd : FuncData} (U : Fun K "_law_called" "_law_called" s__law_called f fd) (hm : mg "_law_called" = some (.ref f)) (bi : Binds K fd ["_law_program", "_law_order_here", "_law_news"] []) (c : Facts w K mg) (d__law_deed_by : Def P w K mg base "_law_deed_by" 1 2 f__law_deed_by) : Def P w K mg base "_law_called" 2 3 f__law_called :=
  Def.of U hm bi (def_ok U sc__law_called rfl (k__law_called c d__law_deed_by))
abbrev s_backwards : Stmt := top 35
def y_backwards_1 : M Fl :=
    sasg (dget 2) (gput 1 (dget 3))
def b_backwards : M Fl :=
    mseq (sset 1 (dop (pMulO) (dlst (dcons (mret (.d (.int 0))) (mret []))) (dcallb gLen [none] (dcons (dget 0) (mret []))))) <|
    mseq (sfor (denum (dcons (dget 0) (mret []))) (mtup [mset 2, mset 3]) y_backwards_1) <|
    sret (dfrz 1)
def f_backwards : Fn := dfn 4 [true] b_backwards
theorem nd_backwards : (["order", "found", "hand", "other"] : List Str).Nodup := by decide +kernel
theorem sc_backwards : FnScope ["order", "found", "hand", "other"] ["order"] (defScope s_backwards) := ⟨rfl, rfl, rfl, nd_backwards, rfl, by decide +kernel, by decide +kernel⟩
theorem k_backwards {P : Program} {w : World} {K : PySem.W.Frag} {mg : Str → Option Value} {base : Heap} (c : Facts w K mg)  : BodyOk P w K mg base 0 ["order", "found", "hand", "other"] "backwards" s_backwards [true] b_backwards := fun f cd A outer s H E at_ =>
    dss_cons (ds_set 1 nd_backwards (de_op op_mul2 od_mulO (de_lst (da_cons de_int da_nil)) (de_callB cr_len2 ck_len c.n_len bt_len (da_cons (dv 0) da_nil))))
    (dss_cons (ds_for at_ (di_enum c.n_enumerate (da_cons (dv 0) da_nil)) (dg_tup at_.ca (dgs_cons (dg_name nd_backwards rfl (by first | exact Or.inl rfl | exact Or.inr rfl) (by intro h; cases h)) (dgs_cons (dg_name nd_backwards rfl (by first | exact Or.inl rfl | exact Or.inr rfl) (by intro h; cases h)) dgs_nil))) (dss_one (ds_asg (dv 2) (dg_sub 1 (dv 3)))))
    (dss_one (ds_ret (dfz 1))))
theorem ok_backwards {P : Program} {w : World} {K : PySem.W.Frag} {mg : Str → Option Value} {base : Heap} {f : Addr} {fd : FuncData} (U : Fun K "backwards" "backwards" s_backwards f fd) (hm : mg "backwards" = some (.ref f)) (bi : Binds K fd ["order"] []) (c : Facts w K mg)  : Def P w K mg base "backwards" 1 1 f_backwards :=
  Def.of U hm bi (def_ok U sc_backwards rfl (k_backwards c ))
abbrev s_deed_by : Stmt := top 34
def b_deed_by : M Fl :=
    mseq (sif (dval (dop (onD pIn) (dop (onD pIx) (dget 0) (mret (.d (.int 0)))) (dtup (dcons (mret (.d (.str ("fence" : Str)))) (dcons (mret (.d (.str ("skip" : Str)))) (dcons (mret (.d (.str ("claim" : Str)))) (mret []))))))) (sret (dget 0)) (mret .nx)) <|
    mseq (sif (dval (dop (onD pEq) (dop (onD pIx) (dget 0) (mret (.d (.int 0)))) (mret (.d (.str ("write" : Str)))))) (sret (dop (onD pAdd) (dtup (dcons (dop (onD pIx) (dget 0) (mret (.d (.int 0)))) (dcons (dop gFget (dget 1) (dop (onD pIx) (dget 0) (mret (.d (.int 1))))) (mret [])))) (dslice (dget 0) (dpart (mret (.d (.int 2)))) (mret none)))) (mret .nx)) <|
    sret (dop (onD pAdd) (dop (onD pAdd) (dslice (dget 0) (mret none) (dpart (mret (.d (.int 2))))) (dtup (dcons (dop gFget (dget 1) (dop (onD pIx) (dget 0) (mret (.d (.int 2))))) (mret [])))) (dslice (dget 0) (dpart (mret (.d (.int 3)))) (mret none)))
def f_deed_by : Fn := dfn 2 [true, true] b_deed_by
theorem nd_deed_by : (["deed", "names"] : List Str).Nodup := by decide +kernel
theorem sc_deed_by : FnScope ["deed", "names"] ["deed", "names"] (defScope s_deed_by) := ⟨rfl, rfl, rfl, nd_deed_by, rfl, by decide +kernel, by decide +kernel⟩
theorem k_deed_by {P : Program} {w : World} {K : PySem.W.Frag} {mg : Str → Option Value} {base : Heap} (c : Facts w K mg)  : BodyOk P w K mg base 0 ["deed", "names"] "deed_by" s_deed_by [true, true] b_deed_by := fun f cd A outer s H E at_ =>
    dss_cons (ds_if (dt_cmp (op_inP at_.un) od_in (de_ix (dv 0) de_int) (de_tup (da_cons de_str (da_cons de_str (da_cons de_str da_nil)))) (by with_unfolding_all rfl)) (dss_one (ds_ret (dv 0))) dss_nil)
    (dss_cons (ds_if (dt_cmp (op_eqP at_.un) od_eq (de_ix (dv 0) de_int) de_str (by with_unfolding_all rfl)) (dss_one (ds_ret (de_op op_add4 od_add (de_tup (da_cons (de_ix (dv 0) de_int) (da_cons (de_fget at_.un (dv 1) (de_ix (dv 0) de_int)) da_nil))) (de_slice (dv 0) (do_some de_int) do_none)))) dss_nil)
    (dss_one (ds_ret (de_op op_add4 od_add (de_op op_add4 od_add (de_slice (dv 0) do_none (do_some de_int)) (de_tup (da_cons (de_fget at_.un (dv 1) (de_ix (dv 0) de_int)) da_nil))) (de_slice (dv 0) (do_some de_int) do_none)))))
theorem ok_deed_by {P : Program} {w : World} {K : PySem.W.Frag} {mg : Str → Option Value} {base : Heap} {f : Addr} {fd : FuncData} (U : Fun K "deed_by" "deed_by" s_deed_by f fd) (hm : mg "deed_by" = some (.ref f)) (bi : Binds K fd ["deed", "names"] []) (c : Facts w K mg)  : Def P w K mg base "deed_by" 1 2 f_deed_by :=
  Def.of U hm bi (def_ok U sc_deed_by rfl (k_deed_by c ))
abbrev s_is_one_of : Stmt := top 22
def b_is_one_of : M Fl :=
    sret (dandV (dcallb gIsi [none, none] (dcons (dget 0) (dcons (mret (.ty "str")) (mret [])))) (dop (onD pIn) (dget 0) (dget 1)))
def f_is_one_of : Fn := dfn 2 [true, true] b_is_one_of
theorem nd_is_one_of : (["thing", "words"] : List Str).Nodup := by decide +kernel
theorem sc_is_one_of : FnScope ["thing", "words"] ["thing", "words"] (defScope s_is_one_of) := ⟨rfl, rfl, rfl, nd_is_one_of, rfl, by decide +kernel, by decide +kernel⟩
theorem k_is_one_of {P : Program} {w : World} {K : PySem.W.Frag} {mg : Str → Option Value} {base : Heap} (c : Facts w K mg)  : BodyOk P w K mg base 0 ["thing", "words"] "is_one_of" s_is_one_of [true, true] b_is_one_of := fun f cd A outer s H E at_ =>
    dss_one (ds_ret (de_and (de_callB call_isi ck_isi c.n_isinstance bt_isinstance (da_cons (dv 0) (da_cons (de_ty c.n_str bt_str) da_nil))) (de_one (de_cmp (op_inP at_.un) od_in (dv 0) (dv 1) (by with_unfolding_all rfl)))))
theorem ok_is_one_of {P : Program} {w : World} {K : PySem.W.Frag} {mg : Str → Option Value} {base : Heap} {f : Addr} {fd : FuncData} (U : Fun K "is_one_of" "is_one_of" s_is_one_of f fd) (hm : mg "is_one_of" = some (.ref f)) (bi : Binds K fd ["thing", "words"] []) (c : Facts w K mg)  : Def P w K mg base "is_one_of" 1 2 f_is_one_of :=
  Def.of U hm bi (def_ok U sc_is_one_of rfl (k_is_one_of c ))
abbrev s_is_name : Stmt := top 19
def l_is_name_1 : M T :=
    dlc (dseq (dget 0)) [1] (mset 1) (mret true) (dop (onD pIn) (dget 1) (mret (.d D_LETTERS)))
def b_is_name : M Fl :=
    sret (dandV (dcallb gIsi [none, none] (dcons (dget 0) (dcons (mret (.ty "str")) (mret [])))) (dandV (dchain (onD pLe2) (onD pLe2) (mret (.d (.int 1))) (dcallb gLen [none] (dcons (dget 0) (mret []))) (mret (.d D_LONGEST))) (dcallb gAll [none] (dcons l_is_name_1 (mret [])))))
def f_is_name : Fn := dfn 2 [true] b_is_name
theorem nd_is_name : (["thing", "sign"] : List Str).Nodup := by decide +kernel
theorem sc_is_name : FnScope ["thing", "sign"] ["thing"] (defScope s_is_name) := ⟨rfl, rfl, rfl, nd_is_name, rfl, by decide +kernel, by decide +kernel⟩
theorem k_is_name {P : Program} {w : World} {K : PySem.W.Frag} {mg : Str → Option Value} {base : Heap} (c : Facts w K mg)  : BodyOk P w K mg base 0 ["thing", "sign"] "is_name" s_is_name [true] b_is_name := fun f cd A outer s H E at_ =>
    dss_one (ds_ret (de_and (de_callB call_isi ck_isi c.n_isinstance bt_isinstance (da_cons (dv 0) (da_cons (de_ty c.n_str bt_str) da_nil))) (de_and (de_chain op_le2 od_le2 op_le2 od_le2 de_int (de_callB cr_len2 ck_len c.n_len bt_len (da_cons (dv 0) da_nil)) (de_glob ⟨c.g_LONGEST⟩ rfl)) (de_one (de_callB (cr_all at_.ca) ck_all c.n_all bt_all (da_cons (de_lc at_ nd_is_name (di_seq (dv 0)) (own := [("sign", 1)]) (by first | (show blkC ["thing", "sign"] (defScope s_is_name) _ _ = true; decide +kernel) | (show blkC ["thing", "sign"] _ _ _ = true; decide +kernel) | kernel_rfl) (fun b a1 => dg_name nd_is_name rfl (by first | exact Or.inl rfl | exact Or.inr rfl) (by intro h; cases h)) (fun b a1 => dts_nil) (fun b a1 => de_cmp (op_inP a1.un) od_in (dv 1) (de_glob ⟨c.g_LETTERS⟩ rfl) (by with_unfolding_all rfl))) da_nil))))))
theorem ok_is_name {P : Program} {w : World} {K : PySem.W.Frag} {mg : Str → Option Value} {base : Heap} {f : Addr} {fd : FuncData} (U : Fun K "is_name" "is_name" s_is_name f fd) (hm : mg "is_name" = some (.ref f)) (bi : Binds K fd ["thing"] []) (c : Facts w K mg)  : Def P w K mg base "is_name" 1 1 f_is_name :=
  Def.of U hm bi (def_ok U sc_is_name rfl (k_is_name c ))
abbrev s_is_whole : Stmt := top 16
def b_is_whole : M Fl :=
    sret (dandV (dcallb gIsi [none, none] (dcons (dget 0) (dcons (mret (.ty "int")) (mret [])))) (dnotV (dcallb gIsi [none, none] (dcons (dget 0) (dcons (mret (.ty "bool")) (mret []))))))
def f_is_whole : Fn := dfn 1 [true] b_is_whole
theorem nd_is_whole : (["thing"] : List Str).Nodup := by decide +kernel
theorem sc_is_whole : FnScope ["thing"] ["thing"] (defScope s_is_whole) := ⟨rfl, rfl, rfl, nd_is_whole, rfl, by decide +kernel, by decide +kernel⟩
theorem k_is_whole {P : Program} {w : World} {K : PySem.W.Frag} {mg : Str → Option Value} {base : Heap} (c : Facts w K mg)  : BodyOk P w K mg base 0 ["thing"] "is_whole" s_is_whole [true] b_is_whole := fun f cd A outer s H E at_ =>
    dss_one (ds_ret (de_and (de_callB call_isi ck_isi c.n_isinstance bt_isinstance (da_cons (dv 0) (da_cons (de_ty c.n_int bt_int) da_nil))) (de_one (de_not (de_callB call_isi ck_isi c.n_isinstance bt_isinstance (da_cons (dv 0) (da_cons (de_ty c.n_bool bt_bool) da_nil)))))))
theorem ok_is_whole {P : Program} {w : World} {K : PySem.W.Frag} {mg : Str → Option Value} {base : Heap} {f : Addr} {fd : FuncData} (U : Fun K "is_whole" "is_whole" s_is_whole f fd) (hm : mg "is_whole" = some (.ref f)) (bi : Binds K fd ["thing"] []) (c : Facts w K mg)  : Def P w K mg base "is_whole" 1 1 f_is_whole :=
  Def.of U hm bi (def_ok U sc_is_whole rfl (k_is_whole c ))
abbrev s_is_number : Stmt := top 18
def b_is_number : M Fl :=
    sret (dandV (dcall f_is_whole [none] (dcons (dget 0) (mret []))) (dchain (onD pLe2) (onD pLe2) (mret (.d (.int 0))) (dget 0) (mret (.d D_MOST_NUMBER))))
def f_is_number : Fn := dfn 1 [true] b_is_number
theorem nd_is_number : (["thing"] : List Str).Nodup := by decide +kernel
theorem sc_is_number : FnScope ["thing"] ["thing"] (defScope s_is_number) := ⟨rfl, rfl, rfl, nd_is_number, rfl, by decide +kernel, by decide +kernel⟩
theorem k_is_number {P : Program} {w : World} {K : PySem.W.Frag} {mg : Str → Option Value} {base : Heap} (c : Facts w K mg) (d_is_whole : Def P w K mg base "is_whole" 1 1 f_is_whole) : BodyOk P w K mg base 1 ["thing"] "is_number" s_is_number [true] b_is_number := fun f cd A outer s H E at_ =>
    dss_one (ds_ret (de_and (de_call d_is_whole at_ (da_cons (dv 0) da_nil)) (de_one (de_chain op_le2 od_le2 op_le2 od_le2 de_int (dv 0) (de_glob ⟨c.g_MOST_NUMBER⟩ rfl)))))
theorem ok_is_number {P : Program} {w : World} {K : PySem.W.Frag} {mg : Str → Option Value} {base : Heap} {f : Addr} {fd : FuncData} (U : Fun K "is_number" "is_number" s_is_number f fd) (hm : mg "is_number" = some (.ref f)) (bi : Binds K fd ["thing"] []) (c : Facts w K mg) (d_is_whole : Def P w K mg base "is_whole" 1 1 f_is_whole) : Def P w K mg base "is_number" 2 1 f_is_number :=
  Def.of U hm bi (def_ok U sc_is_number rfl (k_is_number c d_is_whole))
abbrev s_is_what : Stmt := top 20
def b_is_what : M Fl :=
    sret (dorV (dcall f_is_number [none] (dcons (dget 0) (mret []))) (dcall f_is_name [none] (dcons (dget 0) (mret []))))
def f_is_what : Fn := dfn 1 [true] b_is_what
theorem nd_is_what : (["thing"] : List Str).Nodup := by decide +kernel
theorem sc_is_what : FnScope ["thing"] ["thing"] (defScope s_is_what) := ⟨rfl, rfl, rfl, nd_is_what, rfl, by decide +kernel, by decide +kernel⟩
theorem k_is_what {P : Program} {w : World} {K : PySem.W.Frag} {mg : Str → Option Value} {base : Heap} (c : Facts w K mg) (d_is_name : Def P w K mg base "is_name" 1 1 f_is_name) (d_is_number : Def P w K mg base "is_number" 2 1 f_is_number) : BodyOk P w K mg base 2 ["thing"] "is_what" s_is_what [true] b_is_what := fun f cd A outer s H E at_ =>
    dss_one (ds_ret (de_or (de_call d_is_number at_ (da_cons (dv 0) da_nil)) (de_one (de_call d_is_name at_ (da_cons (dv 0) da_nil)))))
theorem ok_is_what {P : Program} {w : World} {K : PySem.W.Frag} {mg : Str → Option Value} {base : Heap} {f : Addr} {fd : FuncData} (U : Fun K "is_what" "is_what" s_is_what f fd) (hm : mg "is_what" = some (.ref f)) (bi : Binds K fd ["thing"] []) (c : Facts w K mg) (d_is_name : Def P w K mg base "is_name" 1 1 f_is_name) (d_is_number : Def P w K mg base "is_number" 2 1 f_is_number) : Def P w K mg base "is_what" 3 1 f_is_what :=
  Def.of U hm bi (def_ok U sc_is_what rfl (k_is_what c d_is_name d_is_number))
abbrev s_is_many : Stmt := top 21
def b_is_many : M Fl :=
    sret (dandV (dcall f_is_whole [none] (dcons (dget 0) (mret []))) (dchain (onD pLe2) (onD pLe2) (mret (.d (.int 1))) (dget 0) (mret (.d D_MOST_SKIPPED))))
def f_is_many : Fn := dfn 1 [true] b_is_many
theorem nd_is_many : (["thing"] : List Str).Nodup := by decide +kernel
theorem sc_is_many : FnScope ["thing"] ["thing"] (defScope s_is_many) := ⟨rfl, rfl, rfl, nd_is_many, rfl, by decide +kernel, by decide +kernel⟩
theorem k_is_many {P : Program} {w : World} {K : PySem.W.Frag} {mg : Str → Option Value} {base : Heap} (c : Facts w K mg) (d_is_whole : Def P w K mg base "is_whole" 1 1 f_is_whole) : BodyOk P w K mg base 1 ["thing"] "is_many" s_is_many [true] b_is_many := fun f cd A outer s H E at_ =>
    dss_one (ds_ret (de_and (de_call d_is_whole at_ (da_cons (dv 0) da_nil)) (de_one (de_chain op_le2 od_le2 op_le2 od_le2 de_int (dv 0) (de_glob ⟨c.g_MOST_SKIPPED⟩ rfl)))))
theorem ok_is_many {P : Program} {w : World} {K : PySem.W.Frag} {mg : Str → Option Value} {base : Heap} {f : Addr} {fd : FuncData} (U : Fun K "is_many" "is_many" s_is_many f fd) (hm : mg "is_many" = some (.ref f)) (bi : Binds K fd ["thing"] []) (c : Facts w K mg) (d_is_whole : Def P w K mg base "is_whole" 1 1 f_is_whole) : Def P w K mg base "is_many" 2 1 f_is_many :=
  Def.of U hm bi (def_ok U sc_is_many rfl (k_is_many c d_is_whole))
abbrev s_is_of_kind : Stmt := top 26
def tab_is_of_kind : Str → Option Fn := (tabCons "is_name" f_is_name (tabCons "is_number" f_is_number (tabCons "is_what" f_is_what (tabCons "is_many" f_is_many (fun _ => none)))))
def b_is_of_kind : M Fl :=
    mseq (sif (dval (dop (onD pEq) (dget 1) (mret (.d (.str ("box" : Str)))))) (sret (dandV (dcallb gIsi [none, none] (dcons (dget 2) (dcons (mret (.ty "str")) (mret [])))) (dop (onD pIn) (dget 2) (dget 0)))) (mret .nx)) <|
    mseq (sif (dval (dkin D_WORDS false (dget 1))) (sret (dcall f_is_one_of [none, none] (dcons (dget 2) (dcons (dkix D_WORDS (dget 1)) (mret []))))) (mret .nx)) <|
    mseq (sset 3 (dkix D_KINDS (dget 1))) <|
    sret (dcallS 3 tab_is_of_kind [none] (dcons (dget 2) (mret [])))
def f_is_of_kind : Fn := dfn 4 [true, true, true] b_is_of_kind
theorem nd_is_of_kind : (["boxes", "kind", "thing", "fits"] : List Str).Nodup := by decide +kernel
theorem sc_is_of_kind : FnScope ["boxes", "kind", "thing", "fits"] ["boxes", "kind", "thing"] (defScope s_is_of_kind) := ⟨rfl, rfl, rfl, nd_is_of_kind, rfl, by decide +kernel, by decide +kernel⟩
theorem k_is_of_kind {P : Program} {w : World} {K : PySem.W.Frag} {mg : Str → Option Value} {base : Heap} (c : Facts w K mg) (d_is_one_of : Def P w K mg base "is_one_of" 1 2 f_is_one_of) (d_is_name : Def P w K mg base "is_name" 1 1 f_is_name) (d_is_number : Def P w K mg base "is_number" 2 1 f_is_number) (d_is_what : Def P w K mg base "is_what" 3 1 f_is_what) (d_is_many : Def P w K mg base "is_many" 2 1 f_is_many) : BodyOk P w K mg base 3 ["boxes", "kind", "thing", "fits"] "is_of_kind" s_is_of_kind [true, true, true] b_is_of_kind := fun f cd A outer s H E at_ =>
    have ft_is_of_kind : FnTab P w K mg base 3 1 tab_is_of_kind := (FnTab.cons c.gl d_is_name (FnTab.cons c.gl d_is_number (FnTab.cons c.gl d_is_what (FnTab.cons c.gl d_is_many FnTab.nil))))
    dss_cons (ds_if (dt_cmp (op_eqP at_.un) od_eq (dv 1) de_str (by with_unfolding_all rfl)) (dss_one (ds_ret (de_and (de_callB call_isi ck_isi c.n_isinstance bt_isinstance (da_cons (dv 2) (da_cons (de_ty c.n_str bt_str) da_nil))) (de_one (de_cmp (op_inP at_.un) od_in (dv 2) (dv 0) (by with_unfolding_all rfl)))))) dss_nil)
    (dss_cons (ds_if (dt_kin ⟨c.t_WORDS⟩ (dv 1)) (dss_one (ds_ret (de_call d_is_one_of at_ (da_cons (dv 2) (da_cons (de_kix ⟨c.t_WORDS⟩ (dv 1)) da_nil))))) dss_nil)
    (dss_cons (ds_set 3 nd_is_of_kind (de_kix ⟨c.t_KINDS⟩ (dv 1)))
    (dss_one (ds_ret (de_callS 3 ft_is_of_kind at_ (da_cons (dv 2) da_nil))))))
theorem ok_is_of_kind {P : Program} {w : World} {K : PySem.W.Frag} {mg : Str → Option Value} {base : Heap} {f : Addr} {fd : FuncData} (U : Fun K "is_of_kind" "is_of_kind" s_is_of_kind f fd) (hm : mg "is_of_kind" = some (.ref f)) (bi : Binds K fd ["boxes", "kind", "thing"] []) (c : Facts w K mg) (d_is_one_of : Def P w K mg base "is_one_of" 1 2 f_is_one_of) (d_is_name : Def P w K mg base "is_name" 1 1 f_is_name) (d_is_number : Def P w K mg base "is_number" 2 1 f_is_number) (d_is_what : Def P w K mg base "is_what" 3 1 f_is_what) (d_is_many : Def P w K mg base "is_many" 2 1 f_is_many) : Def P w K mg base "is_of_kind" 4 3 f_is_of_kind :=
  Def.of U hm bi (def_ok U sc_is_of_kind rfl (k_is_of_kind c d_is_one_of d_is_name d_is_number d_is_what d_is_many))
abbrev s_is_deed : Stmt := top 27
def l_is_deed_1 : M T :=
    dlc (dzip (dcons (dkix D_FORMS (dget 2)) (dcons (dget 3) (mret [])))) [4, 5] (mtup [mset 4, mset 5]) (mret true) (dcall f_is_of_kind [none, none, none] (dcons (dget 0) (dcons (dget 4) (dcons (dget 5) (mret [])))))
def b_is_deed : M Fl :=
    mseq (sif (dor (dnot (dval (dcallb gIsi [none, none] (dcons (dget 1) (dcons (mret (.ty "tuple")) (mret [])))))) (dor (dval (dop (onD pEq) (dget 1) (dtup (mret [])))) (dnot (dval (dcall f_is_one_of [none, none] (dcons (dop (onD pIx) (dget 1) (mret (.d (.int 0)))) (dcons (mret (.d (.tuple (D_FORMS.map fun q => .str q.1)))) (mret [])))))))) (sret (mret (.d (.bool false)))) (mret .nx)) <|
    mseq (sasg (dget 1) (mstar 1 [mset 2, mset 3])) <|
    mseq (sif (dval (dop (onD pNe) (dcallb gLen [none] (dcons (dget 3) (mret []))) (dcallb gLen [none] (dcons (dkix D_FORMS (dget 2)) (mret []))))) (sret (mret (.d (.bool false)))) (mret .nx)) <|
    sret (dcallb gAll [none] (dcons l_is_deed_1 (mret [])))
def f_is_deed : Fn := dfn 6 [true, true] b_is_deed
theorem nd_is_deed : (["boxes", "thing", "word", "rest", "kind", "one"] : List Str).Nodup := by decide +kernel
theorem sc_is_deed : FnScope ["boxes", "thing", "word", "rest", "kind", "one"] ["boxes", "thing"] (defScope s_is_deed) := ⟨rfl, rfl, rfl, nd_is_deed, rfl, by decide +kernel, by decide +kernel⟩
theorem k_is_deed {P : Program} {w : World} {K : PySem.W.Frag} {mg : Str → Option Value} {base : Heap} (c : Facts w K mg) (d_is_of_kind : Def P w K mg base "is_of_kind" 4 3 f_is_of_kind) (d_is_one_of : Def P w K mg base "is_one_of" 1 2 f_is_one_of) : BodyOk P w K mg base 4 ["boxes", "thing", "word", "rest", "kind", "one"] "is_deed" s_is_deed [true, true] b_is_deed := fun f cd A outer s H E at_ =>
    dss_cons (ds_if (DW.t (dw_or (dt_not (dt_val (de_callB call_isi ck_isi c.n_isinstance bt_isinstance (da_cons (dv 1) (da_cons (de_ty c.n_tuple bt_tuple) da_nil))))) (dw_or (dt_cmp (op_eqP at_.un) od_eq (dv 1) (de_tup da_nil) (by with_unfolding_all rfl)) (dw_or1 (dt_not (dt_val (de_call d_is_one_of at_ (da_cons (de_ix (dv 1) de_int) (da_cons (de_ktup at_.ca ⟨c.t_FORMS⟩ c.n_tuple) da_nil))))))))) (dss_one (ds_ret de_bl)) dss_nil)
    (dss_cons (ds_asg (dv 1) (dg_star at_.ca (dgs_cons (dg_name nd_is_deed rfl (by first | exact Or.inl rfl | exact Or.inr rfl) (by intro h; cases h)) (dgs_star (dg_name nd_is_deed rfl (by first | exact Or.inl rfl | exact Or.inr rfl) (by intro h; cases h)) dgs_nil))))
    (dss_cons (ds_if (dt_cmp (op_neP at_.un) od_ne (de_callB cr_len2 ck_len c.n_len bt_len (da_cons (dv 3) da_nil)) (de_callB cr_len2 ck_len c.n_len bt_len (da_cons (de_kix ⟨c.t_FORMS⟩ (dv 2)) da_nil)) (by with_unfolding_all rfl)) (dss_one (ds_ret de_bl)) dss_nil)
    (dss_one (ds_ret (de_callB (cr_all at_.ca) ck_all c.n_all bt_all (da_cons (de_lc at_ nd_is_deed (di_zip c.n_zip (da_cons (de_kix ⟨c.t_FORMS⟩ (dv 2)) (da_cons (dv 3) da_nil))) (own := [("kind", 4), ("one", 5)]) (by first | (show blkC ["boxes", "thing", "word", "rest", "kind", "one"] (defScope s_is_deed) _ _ = true; decide +kernel) | (show blkC ["boxes", "thing", "word", "rest", "kind", "one"] _ _ _ = true; decide +kernel) | kernel_rfl) (fun b a1 => dg_tup a1.ca (dgs_cons (dg_name nd_is_deed rfl (by first | exact Or.inl rfl | exact Or.inr rfl) (by intro h; cases h)) (dgs_cons (dg_name nd_is_deed rfl (by first | exact Or.inl rfl | exact Or.inr rfl) (by intro h; cases h)) dgs_nil))) (fun b a1 => dts_nil) (fun b a1 => de_call d_is_of_kind a1 (da_cons (dv 0) (da_cons (dv 4) (da_cons (dv 5) da_nil))))) da_nil))))))
theorem ok_is_deed {P : Program} {w : World} {K : PySem.W.Frag} {mg : Str → Option Value} {base : Heap} {f : Addr} {fd : FuncData} (U : Fun K "is_deed" "is_deed" s_is_deed f fd) (hm : mg "is_deed" = some (.ref f)) (bi : Binds K fd ["boxes", "thing"] []) (c : Facts w K mg) (d_is_of_kind : Def P w K mg base "is_of_kind" 4 3 f_is_of_kind) (d_is_one_of : Def P w K mg base "is_one_of" 1 2 f_is_one_of) : Def P w K mg base "is_deed" 5 2 f_is_deed :=
  Def.of U hm bi (def_ok U sc_is_deed rfl (k_is_deed c d_is_of_kind d_is_one_of))
abbrev s_look_at_boxes : Stmt := top 28
def y_look_at_boxes_1 : M Fl :=
    sif (dor (dnot (dval (dcall f_is_name [none] (dcons (dget 2) (mret []))))) (dand (dval (dop (onD pGt) (dget 1) (mret (.d (.int 0))))) (dval (dop (onD pLe2) (dget 2) (dop (onD pIx) (dget 0) (dop (onD pSub) (dget 1) (mret (.d (.int 1))))))))) (sraise "NoProgram" ["part", "hand", "number"] (dcons (mret (.d (.str ("boxes" : Str)))) (dcons (mret (.d .none)) (dcons (dget 1) (mret []))))) (mret .nx)
def b_look_at_boxes : M Fl :=
    mseq (sif (dor (dnot (dval (dcallb gIsi [none, none] (dcons (dget 0) (dcons (mret (.ty "list")) (mret [])))))) (dnot (dval (dchain (onD pLe2) (onD pLe2) (mret (.d (.int 1))) (dcallb gLen [none] (dcons (dget 0) (mret []))) (mret (.d D_MOST_BOXES)))))) (sraise "NoProgram" ["part", "hand", "number"] (dcons (mret (.d (.str ("boxes" : Str)))) (dcons (mret (.d .none)) (dcons (mret (.d .none)) (mret []))))) (mret .nx)) <|
    sfor (denum (dcons (dget 0) (mret []))) (mtup [mset 1, mset 2]) y_look_at_boxes_1
def f_look_at_boxes : Fn := dfn 3 [true] b_look_at_boxes
theorem nd_look_at_boxes : (["thing", "number", "name"] : List Str).Nodup := by decide +kernel
theorem sc_look_at_boxes : FnScope ["thing", "number", "name"] ["thing"] (defScope s_look_at_boxes) := ⟨rfl, rfl, rfl, nd_look_at_boxes, rfl, by decide +kernel, by decide +kernel⟩
theorem k_look_at_boxes {P : Program} {w : World} {K : PySem.W.Frag} {mg : Str → Option Value} {base : Heap} (c : Facts w K mg) (d_is_name : Def P w K mg base "is_name" 1 1 f_is_name) (y_NoProgram : ExcB P w K mg base "NoProgram" 1 ["part", "hand", "number"]) : BodyOk P w K mg base 2 ["thing", "number", "name"] "look_at_boxes" s_look_at_boxes [true] b_look_at_boxes := fun f cd A outer s H E at_ =>
    dss_cons (ds_if (DW.t (dw_or (dt_not (dt_val (de_callB call_isi ck_isi c.n_isinstance bt_isinstance (da_cons (dv 0) (da_cons (de_ty c.n_list bt_list) da_nil))))) (dw_or1 (dt_not (dt_chain op_le2 od_le2 op_le2 od_le2 de_int (de_callB cr_len2 ck_len c.n_len bt_len (da_cons (dv 0) da_nil)) (de_glob ⟨c.g_MOST_BOXES⟩ rfl)))))) (dss_one (ds_raiseB y_NoProgram at_ (da_cons de_str (da_cons de_non (da_cons de_non da_nil))))) dss_nil)
    (dss_one (ds_for at_ (di_enum c.n_enumerate (da_cons (dv 0) da_nil)) (dg_tup at_.ca (dgs_cons (dg_name nd_look_at_boxes rfl (by first | exact Or.inl rfl | exact Or.inr rfl) (by intro h; cases h)) (dgs_cons (dg_name nd_look_at_boxes rfl (by first | exact Or.inl rfl | exact Or.inr rfl) (by intro h; cases h)) dgs_nil))) (dss_one (ds_if (DW.t (dw_or (dt_not (dt_val (de_call d_is_name at_ (da_cons (dv 2) da_nil)))) (dw_or1 (DW.t (dw_and (dt_cmp op_gt od_gt (dv 1) de_int (by with_unfolding_all rfl)) (dw_and1 (dt_cmp op_le2 od_le2 (dv 2) (de_ix (dv 0) (de_op op_sub od_sub (dv 1) de_int)) (by with_unfolding_all rfl)))))))) (dss_one (ds_raiseB y_NoProgram at_ (da_cons de_str (da_cons de_non (da_cons (dv 1) da_nil))))) dss_nil))))
theorem ok_look_at_boxes {P : Program} {w : World} {K : PySem.W.Frag} {mg : Str → Option Value} {base : Heap} {f : Addr} {fd : FuncData} (U : Fun K "look_at_boxes" "look_at_boxes" s_look_at_boxes f fd) (hm : mg "look_at_boxes" = some (.ref f)) (bi : Binds K fd ["thing"] []) (c : Facts w K mg) (d_is_name : Def P w K mg base "is_name" 1 1 f_is_name) (y_NoProgram : ExcB P w K mg base "NoProgram" 1 ["part", "hand", "number"]) : Def P w K mg base "look_at_boxes" 3 1 f_look_at_boxes :=
  Def.of U hm bi (def_ok U sc_look_at_boxes rfl (k_look_at_boxes c d_is_name y_NoProgram))
abbrev s_look_at_hands : Stmt := top 29
def y_look_at_hands_1 : M Fl :=
    sif (dor (dnot (dval (dcallb gIsi [none, none] (dcons (dget 2) (dcons (mret (.ty "list")) (mret [])))))) (dval (dop (onD pGt) (dcallb gLen [none] (dcons (dget 2) (mret []))) (mret (.d D_MOST_DEEDS))))) (sraise "NoProgram" ["part", "hand", "number"] (dcons (mret (.d (.str ("hands" : Str)))) (dcons (dget 1) (dcons (mret (.d .none)) (mret []))))) (mret .nx)
def b_look_at_hands : M Fl :=
    mseq (sif (dor (dnot (dval (dcallb gIsi [none, none] (dcons (dget 0) (dcons (mret (.ty "list")) (mret [])))))) (dnot (dval (dchain (onD pLe2) (onD pLe2) (mret (.d (.int 1))) (dcallb gLen [none] (dcons (dget 0) (mret []))) (mret (.d D_MOST_HANDS)))))) (sraise "NoProgram" ["part", "hand", "number"] (dcons (mret (.d (.str ("hands" : Str)))) (dcons (mret (.d .none)) (dcons (mret (.d .none)) (mret []))))) (mret .nx)) <|
    sfor (denum (dcons (dget 0) (mret []))) (mtup [mset 1, mset 2]) y_look_at_hands_1
def f_look_at_hands : Fn := dfn 3 [true] b_look_at_hands
theorem nd_look_at_hands : (["thing", "hand", "deeds"] : List Str).Nodup := by decide +kernel
theorem sc_look_at_hands : FnScope ["thing", "hand", "deeds"] ["thing"] (defScope s_look_at_hands) := ⟨rfl, rfl, rfl, nd_look_at_hands, rfl, by decide +kernel, by decide +kernel⟩
theorem k_look_at_hands {P : Program} {w : World} {K : PySem.W.Frag} {mg : Str → Option Value} {base : Heap} (c : Facts w K mg) (y_NoProgram : ExcB P w K mg base "NoProgram" 1 ["part", "hand", "number"]) : BodyOk P w K mg base 2 ["thing", "hand", "deeds"] "look_at_hands" s_look_at_hands [true] b_look_at_hands := fun f cd A outer s H E at_ =>
    dss_cons (ds_if (DW.t (dw_or (dt_not (dt_val (de_callB call_isi ck_isi c.n_isinstance bt_isinstance (da_cons (dv 0) (da_cons (de_ty c.n_list bt_list) da_nil))))) (dw_or1 (dt_not (dt_chain op_le2 od_le2 op_le2 od_le2 de_int (de_callB cr_len2 ck_len c.n_len bt_len (da_cons (dv 0) da_nil)) (de_glob ⟨c.g_MOST_HANDS⟩ rfl)))))) (dss_one (ds_raiseB y_NoProgram at_ (da_cons de_str (da_cons de_non (da_cons de_non da_nil))))) dss_nil)
    (dss_one (ds_for at_ (di_enum c.n_enumerate (da_cons (dv 0) da_nil)) (dg_tup at_.ca (dgs_cons (dg_name nd_look_at_hands rfl (by first | exact Or.inl rfl | exact Or.inr rfl) (by intro h; cases h)) (dgs_cons (dg_name nd_look_at_hands rfl (by first | exact Or.inl rfl | exact Or.inr rfl) (by intro h; cases h)) dgs_nil))) (dss_one (ds_if (DW.t (dw_or (dt_not (dt_val (de_callB call_isi ck_isi c.n_isinstance bt_isinstance (da_cons (dv 2) (da_cons (de_ty c.n_list bt_list) da_nil))))) (dw_or1 (dt_cmp op_gt od_gt (de_callB cr_len2 ck_len c.n_len bt_len (da_cons (dv 2) da_nil)) (de_glob ⟨c.g_MOST_DEEDS⟩ rfl) (by with_unfolding_all rfl))))) (dss_one (ds_raiseB y_NoProgram at_ (da_cons de_str (da_cons (dv 1) (da_cons de_non da_nil))))) dss_nil))))
theorem ok_look_at_hands {P : Program} {w : World} {K : PySem.W.Frag} {mg : Str → Option Value} {base : Heap} {f : Addr} {fd : FuncData} (U : Fun K "look_at_hands" "look_at_hands" s_look_at_hands f fd) (hm : mg "look_at_hands" = some (.ref f)) (bi : Binds K fd ["thing"] []) (c : Facts w K mg) (y_NoProgram : ExcB P w K mg base "NoProgram" 1 ["part", "hand", "number"]) : Def P w K mg base "look_at_hands" 3 1 f_look_at_hands :=
  Def.of U hm bi (def_ok U sc_look_at_hands rfl (k_look_at_hands c y_NoProgram))
abbrev s_look_at : Stmt := top 30
def y_look_at_1 : M Fl :=
    sif (dnot (dval (dcall f_is_deed [none, none] (dcons (dget 1) (dcons (dget 6) (mret [])))))) (sraise "NoProgram" ["part", "hand", "number"] (dcons (mret (.d (.str ("deeds" : Str)))) (dcons (dget 3) (dcons (dget 5) (mret []))))) (mret .nx)
def y_look_at_2 : M Fl :=
    sfor (denum (dcons (dget 4) (mret []))) (mtup [mset 5, mset 6]) y_look_at_1
def l_look_at_3 : M T :=
    dlc (dseq (dget 2)) [4] (mset 4) (mret true) (dcallb gLen [none] (dcons (dget 4) (mret [])))
def b_look_at : M Fl :=
    mseq (sif (dor (dnot (dval (dcallb gIsi [none, none] (dcons (dget 0) (dcons (mret (.ty "tuple")) (mret [])))))) (dval (dop (onD pNe) (dcallb gLen [none] (dcons (dget 0) (mret []))) (mret (.d (.int 2)))))) (sraise "NoProgram" ["part", "hand", "number"] (dcons (mret (.d (.str ("program" : Str)))) (dcons (mret (.d .none)) (dcons (mret (.d .none)) (mret []))))) (mret .nx)) <|
    mseq (sasg (dget 0) (mtup [mset 1, mset 2])) <|
    mseq (sdrop (dcall f_look_at_boxes [none] (dcons (dget 1) (mret [])))) <|
    mseq (sdrop (dcall f_look_at_hands [none] (dcons (dget 2) (mret [])))) <|
    mseq (sfor (denum (dcons (dget 2) (mret []))) (mtup [mset 3, mset 4]) y_look_at_2) <|
    sif (dval (dop (onD pGt) (dcallb gSum [none] (dcons l_look_at_3 (mret []))) (mret (.d D_MOST_TOGETHER)))) (sraise "NoProgram" ["part", "hand", "number"] (dcons (mret (.d (.str ("deeds" : Str)))) (dcons (mret (.d .none)) (dcons (mret (.d .none)) (mret []))))) (mret .nx)
def f_look_at : Fn := dfn 7 [true] b_look_at
theorem nd_look_at : (["thing", "boxes", "hands", "hand", "deeds", "number", "deed"] : List Str).Nodup := by decide +kernel
theorem sc_look_at : FnScope ["thing", "boxes", "hands", "hand", "deeds", "number", "deed"] ["thing"] (defScope s_look_at) := ⟨rfl, rfl, rfl, nd_look_at, rfl, by decide +kernel, by decide +kernel⟩
theorem k_look_at {P : Program} {w : World} {K : PySem.W.Frag} {mg : Str → Option Value} {base : Heap} (c : Facts w K mg) (d_is_deed : Def P w K mg base "is_deed" 5 2 f_is_deed) (d_look_at_boxes : Def P w K mg base "look_at_boxes" 3 1 f_look_at_boxes) (d_look_at_hands : Def P w K mg base "look_at_hands" 3 1 f_look_at_hands) (y_NoProgram : ExcB P w K mg base "NoProgram" 1 ["part", "hand", "number"]) : BodyOk P w K mg base 5 ["thing", "boxes", "hands", "hand", "deeds", "number", "deed"] "look_at" s_look_at [true] b_look_at := fun f cd A outer s H E at_ =>
    dss_cons (ds_if (DW.t (dw_or (dt_not (dt_val (de_callB call_isi ck_isi c.n_isinstance bt_isinstance (da_cons (dv 0) (da_cons (de_ty c.n_tuple bt_tuple) da_nil))))) (dw_or1 (dt_cmp (op_neP at_.un) od_ne (de_callB cr_len2 ck_len c.n_len bt_len (da_cons (dv 0) da_nil)) de_int (by with_unfolding_all rfl))))) (dss_one (ds_raiseB y_NoProgram at_ (da_cons de_str (da_cons de_non (da_cons de_non da_nil))))) dss_nil)
    (dss_cons (ds_asg (dv 0) (dg_tup at_.ca (dgs_cons (dg_name nd_look_at rfl (by first | exact Or.inl rfl | exact Or.inr rfl) (by intro h; cases h)) (dgs_cons (dg_name nd_look_at rfl (by first | exact Or.inl rfl | exact Or.inr rfl) (by intro h; cases h)) dgs_nil))))
    (dss_cons (ds_expr (de_call d_look_at_boxes at_ (da_cons (dv 1) da_nil)))
    (dss_cons (ds_expr (de_call d_look_at_hands at_ (da_cons (dv 2) da_nil)))
    (dss_cons (ds_for at_ (di_enum c.n_enumerate (da_cons (dv 2) da_nil)) (dg_tup at_.ca (dgs_cons (dg_name nd_look_at rfl (by first | exact Or.inl rfl | exact Or.inr rfl) (by intro h; cases h)) (dgs_cons (dg_name nd_look_at rfl (by first | exact Or.inl rfl | exact Or.inr rfl) (by intro h; cases h)) dgs_nil))) (dss_one (ds_for at_ (di_enum c.n_enumerate (da_cons (dv 4) da_nil)) (dg_tup at_.ca (dgs_cons (dg_name nd_look_at rfl (by first | exact Or.inl rfl | exact Or.inr rfl) (by intro h; cases h)) (dgs_cons (dg_name nd_look_at rfl (by first | exact Or.inl rfl | exact Or.inr rfl) (by intro h; cases h)) dgs_nil))) (dss_one (ds_if (dt_not (dt_val (de_call d_is_deed at_ (da_cons (dv 1) (da_cons (dv 6) da_nil))))) (dss_one (ds_raiseB y_NoProgram at_ (da_cons de_str (da_cons (dv 3) (da_cons (dv 5) da_nil))))) dss_nil)))))
    (dss_one (ds_if (dt_cmp op_gt od_gt (de_callB (cr_sum at_.ca) ck_sum c.n_sum bt_sum (da_cons (de_lc at_ nd_look_at (di_seq (dv 2)) (own := [("deeds", 4)]) (by first | (show blkC ["thing", "boxes", "hands", "hand", "deeds", "number", "deed"] (defScope s_look_at) _ _ = true; decide +kernel) | (show blkC ["thing", "boxes", "hands", "hand", "deeds", "number", "deed"] _ _ _ = true; decide +kernel) | kernel_rfl) (fun b a1 => dg_name nd_look_at rfl (by first | exact Or.inl rfl | exact Or.inr rfl) (by intro h; cases h)) (fun b a1 => dts_nil) (fun b a1 => de_callB cr_len2 ck_len c.n_len bt_len (da_cons (dv 4) da_nil))) da_nil)) (de_glob ⟨c.g_MOST_TOGETHER⟩ rfl) (by with_unfolding_all rfl)) (dss_one (ds_raiseB y_NoProgram at_ (da_cons de_str (da_cons de_non (da_cons de_non da_nil))))) dss_nil))))))
theorem ok_look_at {P : Program} {w : World} {K : PySem.W.Frag} {mg : Str → Option Value} {base : Heap} {f : Addr} {fd : FuncData} (U : Fun K "look_at" "look_at" s_look_at f fd) (hm : mg "look_at" = some (.ref f)) (bi : Binds K fd ["thing"] []) (c : Facts w K mg) (d_is_deed : Def P w K mg base "is_deed" 5 2 f_is_deed) (d_look_at_boxes : Def P w K mg base "look_at_boxes" 3 1 f_look_at_boxes) (d_look_at_hands : Def P w K mg base "look_at_hands" 3 1 f_look_at_hands) (y_NoProgram : ExcB P w K mg base "NoProgram" 1 ["part", "hand", "number"]) : Def P w K mg base "look_at" 6 1 f_look_at :=
  Def.of U hm bi (def_ok U sc_look_at rfl (k_look_at c d_is_deed d_look_at_boxes d_look_at_hands y_NoProgram))
abbrev s_names_by : Stmt := top 33
def l_names_by_1 : M T :=
    dlc (dseq (dget 1)) [2] (mset 2) (mret true) (dcall f_is_name [none] (dcons (dget 2) (mret [])))
def l_names_by_2 : M T :=
    ddc (dzip (dcons (dop (onD pIx) (dget 0) (mret (.d (.int 0)))) (dcons (dget 1) (mret [])))) [3, 2] (mtup [mset 3, mset 2]) (mret true) (dget 3) (dget 2)
def b_names_by : M Fl :=
    mseq (sif (dval (dop (onD pIs) (dget 1) (mret (.d .none)))) (sset 1 (dop (onD pIx) (dget 0) (mret (.d (.int 0))))) (mret .nx)) <|
    mseq (sif (dor (dnot (dval (dcallb gIsi [none, none] (dcons (dget 1) (dcons (mret (.ty "list")) (mret [])))))) (dnot (dval (dcallb gAll [none] (dcons l_names_by_1 (mret [])))))) (sraise "NoNames" ["which"] (dcons (mret (.d (.str ("boxes" : Str)))) (mret []))) (mret .nx)) <|
    mseq (sif (dor (dval (dop (onD pNe) (dap gLenSet (dget 1)) (dcallb gLen [none] (dcons (dget 1) (mret []))))) (dval (dop (onD pNe) (dcallb gLen [none] (dcons (dget 1) (mret []))) (dcallb gLen [none] (dcons (dop (onD pIx) (dget 0) (mret (.d (.int 0)))) (mret [])))))) (sraise "NoNames" ["which"] (dcons (mret (.d (.str ("boxes" : Str)))) (mret []))) (mret .nx)) <|
    sret (mbind l_names_by_2 sealV)
def f_names_by : Fn := dfn 4 [true, false] b_names_by
theorem nd_names_by : (["program", "boxes", "name", "box"] : List Str).Nodup := by decide +kernel
theorem sc_names_by : FnScope ["program", "boxes", "name", "box"] ["program", "boxes"] (defScope s_names_by) := ⟨rfl, rfl, rfl, nd_names_by, rfl, by decide +kernel, by decide +kernel⟩
theorem k_names_by {P : Program} {w : World} {K : PySem.W.Frag} {mg : Str → Option Value} {base : Heap} (c : Facts w K mg) (d_is_name : Def P w K mg base "is_name" 1 1 f_is_name) (y_NoNames : ExcB P w K mg base "NoNames" 1 ["which"]) : BodyOk P w K mg base 2 ["program", "boxes", "name", "box"] "names_by" s_names_by [true, false] b_names_by := fun f cd A outer s H E at_ =>
    dss_cons (ds_if (dt_cmp op_isD od_is (dv 1) de_non (by with_unfolding_all rfl)) (dss_one (ds_set 1 nd_names_by (de_ix (dv 0) de_int))) dss_nil)
    (dss_cons (ds_if (DW.t (dw_or (dt_not (dt_val (de_callB call_isi ck_isi c.n_isinstance bt_isinstance (da_cons (dv 1) (da_cons (de_ty c.n_list bt_list) da_nil))))) (dw_or1 (dt_not (dt_val (de_callB (cr_all at_.ca) ck_all c.n_all bt_all (da_cons (de_lc at_ nd_names_by (di_seq (dv 1)) (own := [("name", 2)]) (by first | (show blkC ["program", "boxes", "name", "box"] (defScope s_names_by) _ _ = true; decide +kernel) | (show blkC ["program", "boxes", "name", "box"] _ _ _ = true; decide +kernel) | kernel_rfl) (fun b a1 => dg_name nd_names_by rfl (by first | exact Or.inl rfl | exact Or.inr rfl) (by intro h; cases h)) (fun b a1 => dts_nil) (fun b a1 => de_call d_is_name a1 (da_cons (dv 2) da_nil))) da_nil))))))) (dss_one (ds_raiseB y_NoNames at_ (da_cons de_str da_nil))) dss_nil)
    (dss_cons (ds_if (DW.t (dw_or (dt_cmp (op_neP at_.un) od_ne (de_lenSet at_ c.n_len c.n_set (dv 1)) (de_callB cr_len2 ck_len c.n_len bt_len (da_cons (dv 1) da_nil)) (by with_unfolding_all rfl)) (dw_or1 (dt_cmp (op_neP at_.un) od_ne (de_callB cr_len2 ck_len c.n_len bt_len (da_cons (dv 1) da_nil)) (de_callB cr_len2 ck_len c.n_len bt_len (da_cons (de_ix (dv 0) de_int) da_nil)) (by with_unfolding_all rfl))))) (dss_one (ds_raiseB y_NoNames at_ (da_cons de_str da_nil))) dss_nil)
    (dss_one (ds_ret (de_sealE (de_dc at_ nd_names_by (di_zip c.n_zip (da_cons (de_ix (dv 0) de_int) (da_cons (dv 1) da_nil))) (own := [("box", 3), ("name", 2)]) (by first | (show blkC ["program", "boxes", "name", "box"] (defScope s_names_by) _ _ = true; decide +kernel) | (show blkC ["program", "boxes", "name", "box"] _ _ _ = true; decide +kernel) | kernel_rfl) (fun b a2 => dg_tup a2.ca (dgs_cons (dg_name nd_names_by rfl (by first | exact Or.inl rfl | exact Or.inr rfl) (by intro h; cases h)) (dgs_cons (dg_name nd_names_by rfl (by first | exact Or.inl rfl | exact Or.inr rfl) (by intro h; cases h)) dgs_nil))) (fun b a2 => dts_nil) (fun b a2 => dv 3) (fun b a2 => dv 2) (by intro i h; simp at h; (first | subst h | rcases h with h | h <;> subst h | rcases h with h | h | h <;> subst h | rcases h with h | h | h | h <;> subst h) <;> (intro z; cases z)) (by decide)))))))
theorem ok_names_by {P : Program} {w : World} {K : PySem.W.Frag} {mg : Str → Option Value} {base : Heap} {f : Addr} {fd : FuncData} (U : Fun K "names_by" "names_by" s_names_by f fd) (hm : mg "names_by" = some (.ref f)) (bi : Binds K fd ["program", "boxes"] []) (c : Facts w K mg) (d_is_name : Def P w K mg base "is_name" 1 1 f_is_name) (y_NoNames : ExcB P w K mg base "NoNames" 1 ["which"]) : Def P w K mg base "names_by" 3 2 f_names_by :=
  Def.of U hm bi (def_ok U sc_names_by rfl (k_names_by c d_is_name y_NoNames))
abbrev s_is_within : Stmt := top 17
def b_is_within : M Fl :=
    sret (dandV (dcall f_is_whole [none] (dcons (dget 0) (mret []))) (dchain (onD pLe2) (onD pLe2) (dget 1) (dget 0) (dget 2)))
def f_is_within : Fn := dfn 3 [true, true, true] b_is_within
theorem nd_is_within : (["thing", "least", "most"] : List Str).Nodup := by decide +kernel
theorem sc_is_within : FnScope ["thing", "least", "most"] ["thing", "least", "most"] (defScope s_is_within) := ⟨rfl, rfl, rfl, nd_is_within, rfl, by decide +kernel, by decide +kernel⟩
theorem k_is_within {P : Program} {w : World} {K : PySem.W.Frag} {mg : Str → Option Value} {base : Heap} (c : Facts w K mg) (d_is_whole : Def P w K mg base "is_whole" 1 1 f_is_whole) : BodyOk P w K mg base 1 ["thing", "least", "most"] "is_within" s_is_within [true, true, true] b_is_within := fun f cd A outer s H E at_ =>
    dss_one (ds_ret (de_and (de_call d_is_whole at_ (da_cons (dv 0) da_nil)) (de_one (de_chain op_le2 od_le2 op_le2 od_le2 (dv 1) (dv 0) (dv 2)))))
theorem ok_is_within {P : Program} {w : World} {K : PySem.W.Frag} {mg : Str → Option Value} {base : Heap} {f : Addr} {fd : FuncData} (U : Fun K "is_within" "is_within" s_is_within f fd) (hm : mg "is_within" = some (.ref f)) (bi : Binds K fd ["thing", "least", "most"] []) (c : Facts w K mg) (d_is_whole : Def P w K mg base "is_whole" 1 1 f_is_whole) : Def P w K mg base "is_within" 2 3 f_is_within :=
  Def.of U hm bi (def_ok U sc_is_within rfl (k_is_within c d_is_whole))
abbrev s_order_by : Stmt := top 32
def l_order_by_1 : M T :=
    dlc (dseq (dget 1)) [3] (mset 3) (mret true) (dcall f_is_within [none, none, none] (dcons (dget 3) (dcons (mret (.d (.int 0))) (dcons (dop (onD pSub) (dget 2) (mret (.d (.int 1)))) (mret [])))))
def b_order_by : M Fl :=
    mseq (sset 2 (dcallb gLen [none] (dcons (dop (onD pIx) (dget 0) (mret (.d (.int 1)))) (mret [])))) <|
    mseq (sif (dval (dop (onD pIs) (dget 1) (mret (.d .none)))) (sret (mbind (dget 2) fun t => mopt (lstRg t))) (mret .nx)) <|
    mseq (sif (dor (dnot (dval (dcallb gIsi [none, none] (dcons (dget 1) (dcons (mret (.ty "list")) (mret [])))))) (dnot (dval (dcallb gAll [none] (dcons l_order_by_1 (mret [])))))) (sraise "NoNames" ["which"] (dcons (mret (.d (.str ("hands" : Str)))) (mret []))) (mret .nx)) <|
    mseq (sif (dval (dop (onD pNe) (dcallb gSorted [none] (dcons (dget 1) (mret []))) (mbind (dget 2) fun t => mopt (lstRg t)))) (sraise "NoNames" ["which"] (dcons (mret (.d (.str ("hands" : Str)))) (mret []))) (mret .nx)) <|
    sret (dcallb gList [none] (dcons (dget 1) (mret [])))
def f_order_by : Fn := dfn 4 [true, true] b_order_by
theorem nd_order_by : (["program", "hands", "many", "hand"] : List Str).Nodup := by decide +kernel
theorem sc_order_by : FnScope ["program", "hands", "many", "hand"] ["program", "hands"] (defScope s_order_by) := ⟨rfl, rfl, rfl, nd_order_by, rfl, by decide +kernel, by decide +kernel⟩
theorem k_order_by {P : Program} {w : World} {K : PySem.W.Frag} {mg : Str → Option Value} {base : Heap} (c : Facts w K mg) (d_is_within : Def P w K mg base "is_within" 2 3 f_is_within) (y_NoNames : ExcB P w K mg base "NoNames" 1 ["which"]) : BodyOk P w K mg base 2 ["program", "hands", "many", "hand"] "order_by" s_order_by [true, true] b_order_by := fun f cd A outer s H E at_ =>
    dss_cons (ds_set 2 nd_order_by (de_callB cr_len2 ck_len c.n_len bt_len (da_cons (de_ix (dv 0) de_int) da_nil)))
    (dss_cons (ds_if (dt_cmp op_isD od_is (dv 1) de_non (by with_unfolding_all rfl)) (dss_one (ds_ret (de_listRg at_ c.n_list c.n_range (dv 2)))) dss_nil)
    (dss_cons (ds_if (DW.t (dw_or (dt_not (dt_val (de_callB call_isi ck_isi c.n_isinstance bt_isinstance (da_cons (dv 1) (da_cons (de_ty c.n_list bt_list) da_nil))))) (dw_or1 (dt_not (dt_val (de_callB (cr_all at_.ca) ck_all c.n_all bt_all (da_cons (de_lc at_ nd_order_by (di_seq (dv 1)) (own := [("hand", 3)]) (by first | (show blkC ["program", "hands", "many", "hand"] (defScope s_order_by) _ _ = true; decide +kernel) | (show blkC ["program", "hands", "many", "hand"] _ _ _ = true; decide +kernel) | kernel_rfl) (fun b a1 => dg_name nd_order_by rfl (by first | exact Or.inl rfl | exact Or.inr rfl) (by intro h; cases h)) (fun b a1 => dts_nil) (fun b a1 => de_call d_is_within a1 (da_cons (dv 3) (da_cons de_int (da_cons (de_op op_sub od_sub (dv 2) de_int) da_nil))))) da_nil))))))) (dss_one (ds_raiseB y_NoNames at_ (da_cons de_str da_nil))) dss_nil)
    (dss_cons (ds_if (dt_cmp (op_neP at_.un) od_ne (de_callB cr_sortSI ck_sorted c.n_sorted bt_sorted (da_cons (dv 1) da_nil)) (de_listRg at_ c.n_list c.n_range (dv 2)) (by with_unfolding_all rfl)) (dss_one (ds_raiseB y_NoNames at_ (da_cons de_str da_nil))) dss_nil)
    (dss_one (ds_ret (de_callTy call_list_of ck_list c.n_list bt_list (da_cons (dv 1) da_nil)))))))
theorem ok_order_by {P : Program} {w : World} {K : PySem.W.Frag} {mg : Str → Option Value} {base : Heap} {f : Addr} {fd : FuncData} (U : Fun K "order_by" "order_by" s_order_by f fd) (hm : mg "order_by" = some (.ref f)) (bi : Binds K fd ["program", "hands"] []) (c : Facts w K mg) (d_is_within : Def P w K mg base "is_within" 2 3 f_is_within) (y_NoNames : ExcB P w K mg base "NoNames" 1 ["which"]) : Def P w K mg base "order_by" 3 2 f_order_by :=
  Def.of U hm bi (def_ok U sc_order_by rfl (k_order_by c d_is_within y_NoNames))
abbrev s_called : Stmt := top 36
def l_called_1 : M T :=
    dlcO (dseq (dop (onD pIx) (dop (onD pIx) (dget 0) (mret (.d (.int 1)))) (dget 6))) [7] (mset 7) (mret true) (dcall f_deed_by [none, none] (dcons (dget 7) (dcons (dget 4) (mret []))))
def l_called_2 : M T :=
    dlcO (dseq (dcall f_backwards [none] (dcons (dget 3) (mret [])))) [6] (mset 6) (mret true) l_called_1
def b_called : M Fl :=
    mseq (sdrop (dcall f_look_at [none] (dcons (dget 0) (mret [])))) <|
    mseq (sset 3 (dcall f_order_by [none, none] (dcons (dget 0) (dcons (dget 1) (mret []))))) <|
    mseq (sset 4 (dcall f_names_by [none, none] (dcons (dget 0) (dcons (dget 2) (mret []))))) <|
    mseq (sset 5 l_called_2) <|
    sret (dtupO (dcons (mbind (dget 4) fun t => mopt (gSortValsO t)) (dcons (dtake 5) (mret []))))
def g_called : Fn := dfn 8 [true, true, true] b_called
def f_called : Fn := cutFn 1 [.none, .none] g_called
theorem nd_called : (["program", "hands", "boxes", "order", "names", "lines", "hand", "deed"] : List Str).Nodup := by decide +kernel
theorem sc_called : FnScope ["program", "hands", "boxes", "order", "names", "lines", "hand", "deed"] ["program", "hands", "boxes"] (defScope s_called) := ⟨rfl, rfl, rfl, nd_called, rfl, by decide +kernel, by decide +kernel⟩
theorem k_called {P : Program} {w : World} {K : PySem.W.Frag} {mg : Str → Option Value} {base : Heap} (c : Facts w K mg) (d_backwards : Def P w K mg base "backwards" 1 1 f_backwards) (d_deed_by : Def P w K mg base "deed_by" 1 2 f_deed_by) (d_look_at : Def P w K mg base "look_at" 6 1 f_look_at) (d_names_by : Def P w K mg base "names_by" 3 2 f_names_by) (d_order_by : Def P w K mg base "order_by" 3 2 f_order_by) : BodyOk P w K mg base 6 ["program", "hands", "boxes", "order", "names", "lines", "hand", "deed"] "called" s_called [true, true, true] b_called := fun f cd A outer s H E at_ =>
    dss_cons (ds_expr (de_call d_look_at at_ (da_cons (dv 0) da_nil)))
    (dss_cons (ds_set 3 nd_called (de_call d_order_by at_ (da_cons (dv 0) (da_cons (dv 1) da_nil))))
    (dss_cons (ds_set 4 nd_called (de_call d_names_by at_ (da_cons (dv 0) (da_cons (dv 2) da_nil))))
    (dss_cons (ds_setLcO 5 at_ nd_called (di_seq (de_call d_backwards at_ (da_cons (dv 3) da_nil))) (own := [("hand", 6)]) (by first | (show blkC ["program", "hands", "boxes", "order", "names", "lines", "hand", "deed"] (defScope s_called) _ _ = true; decide +kernel) | (show blkC ["program", "hands", "boxes", "order", "names", "lines", "hand", "deed"] _ _ _ = true; decide +kernel) | kernel_rfl) (fun b a1 => dg_name nd_called rfl (by first | exact Or.inl rfl | exact Or.inr rfl) (by intro h; cases h)) (fun b a1 => dts_nil) (fun b a1 => de_lcO a1 nd_called (di_seq (de_ix (de_ix (dv 0) de_int) (dv 6))) (own := [("deed", 7)]) (by first | (show blkC ["program", "hands", "boxes", "order", "names", "lines", "hand", "deed"] (defScope s_called) _ _ = true; decide +kernel) | (show blkC ["program", "hands", "boxes", "order", "names", "lines", "hand", "deed"] _ _ _ = true; decide +kernel) | kernel_rfl) (fun b a2 => dg_name nd_called rfl (by first | exact Or.inl rfl | exact Or.inr rfl) (by intro h; cases h)) (fun b a2 => dts_nil) (fun b a2 => de_call d_deed_by a2 (da_cons (dv 7) (da_cons (dv 4) da_nil)))) (hsw := sw_true rfl rfl rfl (by decide +kernel)))
    (dss_one (ds_ret (de_tupO (da_cons (de_sortValsO at_ c.n_sorted (dv 4)) (da_cons (dmv 5) da_nil))))))))
theorem ok_called {P : Program} {w : World} {K : PySem.W.Frag} {mg : Str → Option Value} {base : Heap} {f : Addr} {fd : FuncData} (U : Fun K "called" "called" s_called f fd) (hm : mg "called" = some (.ref f)) (bi : ∃ ds, Vals ([("hands", V.non), ("boxes", V.non)].map (·.2)) ds ∧ Binds K fd ["program", "hands", "boxes"] ds) (c : Facts w K mg) (d_backwards : Def P w K mg base "backwards" 1 1 f_backwards) (d_deed_by : Def P w K mg base "deed_by" 1 2 f_deed_by) (d_look_at : Def P w K mg base "look_at" 6 1 f_look_at) (d_names_by : Def P w K mg base "names_by" 3 2 f_names_by) (d_order_by : Def P w K mg base "order_by" 3 2 f_order_by) : Def P w K mg base "called" 7 1 f_called :=
  Def.ofK U hm (def_ok U sc_called rfl (k_called c d_backwards d_deed_by d_look_at d_names_by d_order_by)) bi fun I => (.cons .non (.cons .non .nil))
abbrev s__law_right : Stmt := top 48
def l__law_right_1 : M T :=
    dthaw (dlcE 8 10 (dop (onD pAdd) (dcallb gLenQ [some 10] (dlate 10 (mret []))) (mret (.d (.int 1)))))
def l__law_right_2 : M T :=
    dthaw (dlcE 8 10 (dcallb gLenQ [some 10] (dlate 10 (mret []))))
def y__law_right_3 : M Fl :=
    mseq (sset 7 (dcall g_called (List.replicate 3 none) (dins 2 (dins 1 (dcons (dget 0) (mret [])) (dget 1)) (dget 2)))) <|
    mseq (sif (dor (dpeekT [7] (dval (dop (onD pNe) (dcallb gRepr [none] (dcons (dget 7) (mret []))) (dget 5)))) (dval (dop (onD pNe) (dcallb gRepr [none] (dcons (dthaw (dcall g_called (List.replicate 3 none) (dins 1 (dins 1 (dcons (dget 0) (mret [])) (dget 2)) (dget 1)))) (mret []))) (dget 5)))) (sret (mret (.d (.bool false)))) (mret .nx)) <|
    mseq (sset 8 (dparts2 7)) <|
    mseq (sset 9 l__law_right_1) <|
    mseq (sforE 8 10 (dmethQ "list" 10 oAppendQ (dcons (mret (.d .none)) (mret [])))) <|
    sif (dor (dval (dop (onD pNe) l__law_right_2 (dget 9))) (dval (dop (onD pNe) (dcallb gRepr [none] (dcons (dlst (dcons (dget 0) (dcons (dget 1) (dcons (dget 2) (mret []))))) (mret []))) (dget 3)))) (sret (mret (.d (.bool false)))) (mret .nx)
def b__law_right : M Fl :=
    mseq (sset 3 (dcallb gRepr [none] (dcons (dlst (dcons (dget 0) (dcons (dget 1) (dcons (dget 2) (mret []))))) (mret [])))) <|
    mseq (sset 4 (mbind (dcallb gLen [none] (dcons (dget 1) (mret []))) fun t => mopt (lstRg t))) <|
    mseq (sset 5 (dcallb gRepr [none] (dcons (dcall f__law_called [none, none, none] (dcons (dget 0) (dcons (dget 1) (dcons (dget 2) (mret []))))) (mret [])))) <|
    mseq (sfor (drange (dcons (mret (.d (.int 2))) (mret []))) (mset 6) y__law_right_3) <|
    mseq (sif (dval (dop (onD pNe) (dcallb gRepr [none] (dcons (dthaw (dcall g_called (List.replicate 3 none) (dins 2 (dins 1 (dcons (dget 0) (mret [])) (dget 1)) (mret (.d .none))))) (mret []))) (dcallb gRepr [none] (dcons (dcall f__law_called [none, none, none] (dcons (dget 0) (dcons (dget 1) (dcons (dop (onD pIx) (dget 0) (mret (.d (.int 0)))) (mret []))))) (mret []))))) (sret (mret (.d (.bool false)))) (mret .nx)) <|
    mseq (sif (dval (dop (onD pNe) (dcallb gRepr [none] (dcons (dthaw (dcall g_called (List.replicate 3 none) (dins 1 (dins 1 (dcons (dget 0) (mret [])) (dget 2)) (mret (.d .none))))) (mret []))) (dcallb gRepr [none] (dcons (dcall f__law_called [none, none, none] (dcons (dget 0) (dcons (dget 4) (dcons (dget 2) (mret []))))) (mret []))))) (sret (mret (.d (.bool false)))) (mret .nx)) <|
    mseq (sif (dor (dval (dop (onD pNe) (dcallb gRepr [none] (dcons (dthaw (dcall f_called [none] (dcons (dget 0) (mret [])))) (mret []))) (dcallb gRepr [none] (dcons (dget 0) (mret []))))) (dval (dop (onD pNe) (dcallb gRepr [none] (dcons (dthaw (dcall g_called (List.replicate 3 none) (dins 2 (dins 1 (dcons (dget 0) (mret [])) (mret (.d .none))) (mret (.d .none))))) (mret []))) (dcallb gRepr [none] (dcons (dget 0) (mret [])))))) (sret (mret (.d (.bool false)))) (mret .nx)) <|
    mseq (sasg (dcall f__law_back [none, none, none] (dcons (dget 0) (dcons (dget 1) (dcons (dget 2) (mret []))))) (mtup [mset 11, mset 12])) <|
    sret (dop (onD pEq) (dcallb gRepr [none] (dcons (dthaw (dcall g_called (List.replicate 3 none) (dins 2 (dins 1 (dcons (dthaw (dcall g_called (List.replicate 3 none) (dins 2 (dins 1 (dcons (dget 0) (mret [])) (dget 1)) (dget 2)))) (mret [])) (dget 11)) (dget 12)))) (mret []))) (dcallb gRepr [none] (dcons (dget 0) (mret []))))
def f__law_right : Fn := dfn 13 [true, true, true] b__law_right
theorem nd__law_right : (["_law_program", "_law_order_here", "_law_news", "_law_kept", "_law_plain", "_law_due", "_law_turn", "_law_found", "_law_lists", "_law_sizes", "_law_one", "_law_places", "_law_names"] : List Str).Nodup := by decide +kernel
theorem sc__law_right : FnScope ["_law_program", "_law_order_here", "_law_news", "_law_kept", "_law_plain", "_law_due", "_law_turn", "_law_found", "_law_lists", "_law_sizes", "_law_one", "_law_places", "_law_names"] ["_law_program", "_law_order_here", "_law_news"] (defScope s__law_right) := ⟨rfl, rfl, rfl, nd__law_right, rfl, by decide +kernel, by decide +kernel⟩
theorem k__law_right {P : Program} {w : World} {K : PySem.W.Frag} {mg : Str → Option Value} {base : Heap} (c : Facts w K mg) (d__law_back : Def P w K mg base "_law_back" 1 3 f__law_back) (d__law_called : Def P w K mg base "_law_called" 2 3 f__law_called) (d_called : Def P w K mg base "called" 7 1 f_called) (d_called_boxes : DefKw P w K mg base "called" 7 1 ["boxes"] 1 1 g_called) (d_called_boxes_hands : DefKw P w K mg base "called" 7 1 ["boxes", "hands"] 1 1 g_called) (d_called_hands : DefKw P w K mg base "called" 7 1 ["hands"] 1 2 g_called) (d_called_hands_boxes : DefKw P w K mg base "called" 7 1 ["hands", "boxes"] 1 2 g_called) : BodyOk P w K mg base 7 ["_law_program", "_law_order_here", "_law_news", "_law_kept", "_law_plain", "_law_due", "_law_turn", "_law_found", "_law_lists", "_law_sizes", "_law_one", "_law_places", "_law_names"] "_law_right" s__law_right [true, true, true] b__law_right := fun f cd A outer s H E at_ =>
    dss_cons (ds_set 3 nd__law_right (de_callB (cr_repr at_.g at_.un) ck_repr c.n_repr bt_repr (da_cons (de_lst (da_cons (dv 0) (da_cons (dv 1) (da_cons (dv 2) da_nil)))) da_nil)))
    (dss_cons (ds_set 4 nd__law_right (de_listRg at_ c.n_list c.n_range (de_callB cr_len2 ck_len c.n_len bt_len (da_cons (dv 1) da_nil))))
    (dss_cons (ds_set 5 nd__law_right (de_callB (cr_repr at_.g at_.un) ck_repr c.n_repr bt_repr (da_cons (de_call d__law_called at_ (da_cons (dv 0) (da_cons (dv 1) (da_cons (dv 2) da_nil)))) da_nil)))
    (dss_cons (ds_for at_ (di_range1 c.n_range (da_cons de_int da_nil)) (dg_name nd__law_right rfl (by first | exact Or.inl rfl | exact Or.inr rfl) (by intro h; cases h)) (dss_cons (ds_set 7 nd__law_right (de_kw2 d_called_hands_boxes at_ (da_cons (dv 0) da_nil) (dv 1) (dv 2)))
    (dss_cons (ds_if (DW.t (dw_or (dt_peek [7] (dt_cmp (op_neP (At.nx at_).un) od_ne (de_callB (cr_repr (At.nx at_).g (At.nx at_).un) ck_repr c.n_repr bt_repr (da_cons (dv 7) da_nil)) (dv 5) (by with_unfolding_all rfl))) (dw_or1 (dt_cmp (op_neP at_.un) od_ne (de_callB (cr_repr at_.g at_.un) ck_repr c.n_repr bt_repr (da_cons (de_frz (de_kw2 d_called_boxes_hands at_ (da_cons (dv 0) da_nil) (dv 2) (dv 1))) da_nil)) (dv 5) (by with_unfolding_all rfl))))) (dss_one (ds_ret de_bl)) dss_nil)
    (dss_cons (ds_set 8 nd__law_right (de_parts2 7))
    (dss_cons (ds_setLcE 9 8 10 at_ nd__law_right (by first | (show blkC ["_law_program", "_law_order_here", "_law_news", "_law_kept", "_law_plain", "_law_due", "_law_turn", "_law_found", "_law_lists", "_law_sizes", "_law_one", "_law_places", "_law_names"] (defScope s__law_right) _ _ = true; decide +kernel) | (show blkC ["_law_program", "_law_order_here", "_law_news", "_law_kept", "_law_plain", "_law_due", "_law_turn", "_law_found", "_law_lists", "_law_sizes", "_law_one", "_law_places", "_law_names"] _ _ _ = true; decide +kernel) | kernel_rfl) (fun b => pg_name nd__law_right rfl (by first | exact Or.inl rfl | exact Or.inr rfl)) (fun b a1 => de_op op_add4 od_add (de_callB cr_len2 ck_lenQ c.n_len bt_len (da_own 10 da_nil)) de_int) (hsw := sw_true rfl rfl rfl (by decide +kernel)))
    (dss_cons (ds_forE 8 10 at_ nd__law_right (de_methQ 10 PySem.F.plainAttrs_list PySem.F.slot_list_append PySem.F.type_list_append mt_append om_appendQ (da_cons de_non da_nil)))
    (dss_one (ds_if (DW.t (dw_or (dt_cmp (op_neP at_.un) od_ne (de_frz (de_lcE 8 10 at_ nd__law_right (by first | (show blkC ["_law_program", "_law_order_here", "_law_news", "_law_kept", "_law_plain", "_law_due", "_law_turn", "_law_found", "_law_lists", "_law_sizes", "_law_one", "_law_places", "_law_names"] (defScope s__law_right) _ _ = true; decide +kernel) | (show blkC ["_law_program", "_law_order_here", "_law_news", "_law_kept", "_law_plain", "_law_due", "_law_turn", "_law_found", "_law_lists", "_law_sizes", "_law_one", "_law_places", "_law_names"] _ _ _ = true; decide +kernel) | kernel_rfl) (fun b => pg_name nd__law_right rfl (by first | exact Or.inl rfl | exact Or.inr rfl)) (fun b a2 => de_callB cr_len2 ck_lenQ c.n_len bt_len (da_own 10 da_nil)))) (dv 9) (by with_unfolding_all rfl)) (dw_or1 (dt_cmp (op_neP at_.un) od_ne (de_callB (cr_repr at_.g at_.un) ck_repr c.n_repr bt_repr (da_cons (de_lst (da_cons (dv 0) (da_cons (dv 1) (da_cons (dv 2) da_nil)))) da_nil)) (dv 3) (by with_unfolding_all rfl))))) (dss_one (ds_ret de_bl)) dss_nil))))))))
    (dss_cons (ds_if (dt_cmp (op_neP at_.un) od_ne (de_callB (cr_repr at_.g at_.un) ck_repr c.n_repr bt_repr (da_cons (de_frz (de_kw1 d_called_hands at_ (da_cons (dv 0) da_nil) (dv 1))) da_nil)) (de_callB (cr_repr at_.g at_.un) ck_repr c.n_repr bt_repr (da_cons (de_call d__law_called at_ (da_cons (dv 0) (da_cons (dv 1) (da_cons (de_ix (dv 0) de_int) da_nil)))) da_nil)) (by with_unfolding_all rfl)) (dss_one (ds_ret de_bl)) dss_nil)
    (dss_cons (ds_if (dt_cmp (op_neP at_.un) od_ne (de_callB (cr_repr at_.g at_.un) ck_repr c.n_repr bt_repr (da_cons (de_frz (de_kw1 d_called_boxes at_ (da_cons (dv 0) da_nil) (dv 2))) da_nil)) (de_callB (cr_repr at_.g at_.un) ck_repr c.n_repr bt_repr (da_cons (de_call d__law_called at_ (da_cons (dv 0) (da_cons (dv 4) (da_cons (dv 2) da_nil)))) da_nil)) (by with_unfolding_all rfl)) (dss_one (ds_ret de_bl)) dss_nil)
    (dss_cons (ds_if (DW.t (dw_or (dt_cmp (op_neP at_.un) od_ne (de_callB (cr_repr at_.g at_.un) ck_repr c.n_repr bt_repr (da_cons (de_frz (de_call d_called at_ (da_cons (dv 0) da_nil))) da_nil)) (de_callB (cr_repr at_.g at_.un) ck_repr c.n_repr bt_repr (da_cons (dv 0) da_nil)) (by with_unfolding_all rfl)) (dw_or1 (dt_cmp (op_neP at_.un) od_ne (de_callB (cr_repr at_.g at_.un) ck_repr c.n_repr bt_repr (da_cons (de_frz (de_kw2 d_called_hands_boxes at_ (da_cons (dv 0) da_nil) de_non de_non)) da_nil)) (de_callB (cr_repr at_.g at_.un) ck_repr c.n_repr bt_repr (da_cons (dv 0) da_nil)) (by with_unfolding_all rfl))))) (dss_one (ds_ret de_bl)) dss_nil)
    (dss_cons (ds_asg (de_call d__law_back at_ (da_cons (dv 0) (da_cons (dv 1) (da_cons (dv 2) da_nil)))) (dg_tup at_.ca (dgs_cons (dg_name nd__law_right rfl (by first | exact Or.inl rfl | exact Or.inr rfl) (by intro h; cases h)) (dgs_cons (dg_name nd__law_right rfl (by first | exact Or.inl rfl | exact Or.inr rfl) (by intro h; cases h)) dgs_nil))))
    (dss_one (ds_ret (de_cmp (op_eqP at_.un) od_eq (de_callB (cr_repr at_.g at_.un) ck_repr c.n_repr bt_repr (da_cons (de_frz (de_kw2 d_called_hands_boxes at_ (da_cons (de_frz (de_kw2 d_called_hands_boxes at_ (da_cons (dv 0) da_nil) (dv 1) (dv 2))) da_nil) (dv 11) (dv 12))) da_nil)) (de_callB (cr_repr at_.g at_.un) ck_repr c.n_repr bt_repr (da_cons (dv 0) da_nil)) (by with_unfolding_all rfl)))))))))))
theorem ok__law_right {P : Program} {w : World} {K : PySem.W.Frag} {mg : Str → Option Value} {base : Heap} {f : Addr} {fd : FuncData} (U : Fun K "_law_right" "_law_right" s__law_right f fd) (hm : mg "_law_right" = some (.ref f)) (bi : Binds K fd ["_law_program", "_law_order_here", "_law_news"] []) (c : Facts w K mg) (d__law_back : Def P w K mg base "_law_back" 1 3 f__law_back) (d__law_called : Def P w K mg base "_law_called" 2 3 f__law_called) (d_called : Def P w K mg base "called" 7 1 f_called) (d_called_boxes : DefKw P w K mg base "called" 7 1 ["boxes"] 1 1 g_called) (d_called_boxes_hands : DefKw P w K mg base "called" 7 1 ["boxes", "hands"] 1 1 g_called) (d_called_hands : DefKw P w K mg base "called" 7 1 ["hands"] 1 2 g_called) (d_called_hands_boxes : DefKw P w K mg base "called" 7 1 ["hands", "boxes"] 1 2 g_called) : Def P w K mg base "_law_right" 8 3 f__law_right :=
  Def.of U hm bi (def_ok U sc__law_right rfl (k__law_right c d__law_back d__law_called d_called d_called_boxes d_called_boxes_hands d_called_hands d_called_hands_boxes))
abbrev s__law_deed : Stmt := top 41
def b__law_deed : M Fl :=
    mseq (sset 4 (dop (onD pIx) (dget 2) (dcall f__law_take [some 0, none] (dlate 0 (dcons (dcallb gLen [none] (dcons (dget 2) (mret []))) (mret [])))))) <|
    mseq (sset 5 (dop (onD pIx) (dget 1) (dcall f__law_take [some 0, none] (dlate 0 (dcons (dcallb gLen [none] (dcons (dget 1) (mret []))) (mret [])))))) <|
    mseq (sset 6 (dop (onD pIx) (dlst (dcons (mret (.d (.int 0))) (dcons (mret (.d (.int 1))) (dcons (mret (.d (.int 1))) (dcons (mret (.d (.int 2))) (dcons (mret (.d (.int 9))) (mret []))))))) (dcall f__law_take [some 0, none] (dlate 0 (dcons (mret (.d (.int 5))) (mret [])))))) <|
    mseq (sset 7 (dop (onD pIx) (dlst (dcons (dget 6) (dcons (dget 6) (dcons (dop (onD pIx) (dget 2) (dcall f__law_take [some 0, none] (dlate 0 (dcons (dcallb gLen [none] (dcons (dget 2) (mret []))) (mret []))))) (mret []))))) (dcall f__law_take [some 0, none] (dlate 0 (dcons (mret (.d (.int 3))) (mret [])))))) <|
    mseq (sset 8 (dop (onD pIx) (dlst (dcons (mret (.d (.str ("plain" : Str)))) (dcons (mret (.d (.str ("loose" : Str)))) (dcons (mret (.d (.str ("taking" : Str)))) (mret []))))) (dcall f__law_take [some 0, none] (dlate 0 (dcons (mret (.d (.int 3))) (mret [])))))) <|
    mseq (sset 9 (dop (onD pIx) (dlst (dcons (mret (.d (.str ("plain" : Str)))) (dcons (mret (.d (.str ("loose" : Str)))) (dcons (mret (.d (.str ("giving" : Str)))) (mret []))))) (dcall f__law_take [some 0, none] (dlate 0 (dcons (mret (.d (.int 3))) (mret [])))))) <|
    mseq (sset 10 (dop (onD pIx) (dlst (dcons (mret (.d (.str ("loose" : Str)))) (dcons (mret (.d (.str ("giving" : Str)))) (dcons (mret (.d (.str ("taking" : Str)))) (dcons (mret (.d (.str ("both" : Str)))) (mret [])))))) (dcall f__law_take [some 0, none] (dlate 0 (dcons (mret (.d (.int 4))) (mret [])))))) <|
    mseq (sset 11 (dop (onD pIx) (dlst (dcons (mret (.d (.str ("is" : Str)))) (dcons (mret (.d (.str ("isnt" : Str)))) (mret [])))) (dcall f__law_take [some 0, none] (dlate 0 (dcons (mret (.d (.int 2))) (mret [])))))) <|
    mseq (sset 12 (dop (onD pAdd) (mret (.d (.int 1))) (dcall f__law_take [some 0, none] (dlate 0 (dcons (mret (.d (.int 3))) (mret [])))))) <|
    mseq (sset 13 (dlstO (dcons (dtup (dcons (mret (.d (.str ("read" : Str)))) (dcons (dget 4) (dcons (dget 5) (dcons (dget 8) (mret [])))))) (dcons (dtup (dcons (mret (.d (.str ("write" : Str)))) (dcons (dget 5) (dcons (dget 7) (dcons (dget 9) (mret [])))))) (mret []))))) <|
    mseq (sdrop (dmeth "list" 13 oAppend (dcons (dtup (dcons (mret (.d (.str ("change" : Str)))) (dcons (dget 4) (dcons (dget 5) (dcons (dop (onD pIx) (dlst (dcons (mret (.d (.str ("add" : Str)))) (dcons (mret (.d (.str ("put" : Str)))) (mret [])))) (dcall f__law_take [some 0, none] (dlate 0 (dcons (mret (.d (.int 2))) (mret []))))) (dcons (dget 7) (dcons (dget 10) (mret [])))))))) (mret [])))) <|
    mseq (sset 13 (dop (onD pAdd) (dfrz 13) (dlst (dcons (dtup (dcons (mret (.d (.str ("swap" : Str)))) (dcons (dget 4) (dcons (dget 5) (dcons (dget 6) (dcons (dget 7) (dcons (dget 10) (mret [])))))))) (dcons (dtup (dcons (mret (.d (.str ("wait" : Str)))) (dcons (dget 4) (dcons (dget 5) (dcons (dget 6) (dcons (dget 8) (mret []))))))) (mret [])))))) <|
    mseq (sset 13 (dop (onD pAdd) (dfrz 13) (dlst (dcons (dtup (dcons (mret (.d (.str ("grab" : Str)))) (dcons (dget 4) (dcons (dget 5) (dcons (dget 6) (dcons (dget 7) (dcons (dget 10) (mret [])))))))) (dcons (dtup (dcons (mret (.d (.str ("fence" : Str)))) (dcons (dop (onD pIx) (dlst (dcons (mret (.d (.str ("giving" : Str)))) (dcons (mret (.d (.str ("taking" : Str)))) (dcons (mret (.d (.str ("both" : Str)))) (mret []))))) (dop (onD pMod) (dget 12) (mret (.d (.int 3))))) (mret [])))) (mret [])))))) <|
    mseq (sset 13 (dop (onD pAdd) (dfrz 13) (dlst (dcons (dtup (dcons (mret (.d (.str ("skip" : Str)))) (dcons (dget 4) (dcons (dget 11) (dcons (dget 6) (dcons (dget 12) (mret []))))))) (dcons (dtup (dcons (mret (.d (.str ("claim" : Str)))) (dcons (dget 4) (dcons (dget 11) (dcons (dget 6) (mret [])))))) (mret [])))))) <|
    sret (dop (onD pIx) (dop (onD pAdd) (dop (onD pAdd) (dfrz 13) (dslice (dfrz 13) (mret none) (dpart (mret (.d (.int 3)))))) (dslice (dfrz 13) (mret none) (dpart (mret (.d (.int 2)))))) (dget 3))
def f__law_deed : Fn := dfn 14 [true, true, true, true] b__law_deed
theorem nd__law_deed : (["_law_pool_here", "_law_shelves", "_law_names", "_law_way", "_law_name", "_law_box", "_law_figure", "_law_what", "_law_reading", "_law_writing", "_law_changing", "_law_word", "_law_size", "_law_some"] : List Str).Nodup := by decide +kernel
theorem sc__law_deed : FnScope ["_law_pool_here", "_law_shelves", "_law_names", "_law_way", "_law_name", "_law_box", "_law_figure", "_law_what", "_law_reading", "_law_writing", "_law_changing", "_law_word", "_law_size", "_law_some"] ["_law_pool_here", "_law_shelves", "_law_names", "_law_way"] (defScope s__law_deed) := ⟨rfl, rfl, rfl, nd__law_deed, rfl, by decide +kernel, by decide +kernel⟩
theorem k__law_deed {P : Program} {w : World} {K : PySem.W.Frag} {mg : Str → Option Value} {base : Heap} (c : Facts w K mg) (d__law_take : Def P w K mg base "_law_take" 1 2 f__law_take) : BodyOk P w K mg base 1 ["_law_pool_here", "_law_shelves", "_law_names", "_law_way", "_law_name", "_law_box", "_law_figure", "_law_what", "_law_reading", "_law_writing", "_law_changing", "_law_word", "_law_size", "_law_some"] "_law_deed" s__law_deed [true, true, true, true] b__law_deed := fun f cd A outer s H E at_ =>
    dss_cons (ds_set 4 nd__law_deed (de_ix (dv 2) (de_call d__law_take at_ (da_own 0 (da_cons (de_callB cr_len2 ck_len c.n_len bt_len (da_cons (dv 2) da_nil)) da_nil)))))
    (dss_cons (ds_set 5 nd__law_deed (de_ix (dv 1) (de_call d__law_take at_ (da_own 0 (da_cons (de_callB cr_len2 ck_len c.n_len bt_len (da_cons (dv 1) da_nil)) da_nil)))))
    (dss_cons (ds_set 6 nd__law_deed (de_ix (de_lst (da_cons de_int (da_cons de_int (da_cons de_int (da_cons de_int (da_cons de_int da_nil)))))) (de_call d__law_take at_ (da_own 0 (da_cons de_int da_nil)))))
    (dss_cons (ds_set 7 nd__law_deed (de_ix (de_lst (da_cons (dv 6) (da_cons (dv 6) (da_cons (de_ix (dv 2) (de_call d__law_take at_ (da_own 0 (da_cons (de_callB cr_len2 ck_len c.n_len bt_len (da_cons (dv 2) da_nil)) da_nil)))) da_nil)))) (de_call d__law_take at_ (da_own 0 (da_cons de_int da_nil)))))
    (dss_cons (ds_set 8 nd__law_deed (de_ix (de_lst (da_cons de_str (da_cons de_str (da_cons de_str da_nil)))) (de_call d__law_take at_ (da_own 0 (da_cons de_int da_nil)))))
    (dss_cons (ds_set 9 nd__law_deed (de_ix (de_lst (da_cons de_str (da_cons de_str (da_cons de_str da_nil)))) (de_call d__law_take at_ (da_own 0 (da_cons de_int da_nil)))))
    (dss_cons (ds_set 10 nd__law_deed (de_ix (de_lst (da_cons de_str (da_cons de_str (da_cons de_str (da_cons de_str da_nil))))) (de_call d__law_take at_ (da_own 0 (da_cons de_int da_nil)))))
    (dss_cons (ds_set 11 nd__law_deed (de_ix (de_lst (da_cons de_str (da_cons de_str da_nil))) (de_call d__law_take at_ (da_own 0 (da_cons de_int da_nil)))))
    (dss_cons (ds_set 12 nd__law_deed (de_op op_add4 od_add de_int (de_call d__law_take at_ (da_own 0 (da_cons de_int da_nil)))))
    (dss_cons (ds_set 13 nd__law_deed (de_lstO (da_cons (de_tup (da_cons de_str (da_cons (dv 4) (da_cons (dv 5) (da_cons (dv 8) da_nil))))) (da_cons (de_tup (da_cons de_str (da_cons (dv 5) (da_cons (dv 7) (da_cons (dv 9) da_nil))))) da_nil))))
    (dss_cons (ds_expr (de_meth 13 PySem.F.plainAttrs_list PySem.F.slot_list_append PySem.F.type_list_append mt_append om_append (da_cons (de_tup (da_cons de_str (da_cons (dv 4) (da_cons (dv 5) (da_cons (de_ix (de_lst (da_cons de_str (da_cons de_str da_nil))) (de_call d__law_take at_ (da_own 0 (da_cons de_int da_nil)))) (da_cons (dv 7) (da_cons (dv 10) da_nil))))))) da_nil)))
    (dss_cons (ds_set 13 nd__law_deed (de_op op_add4 od_add (dfz 13) (de_lst (da_cons (de_tup (da_cons de_str (da_cons (dv 4) (da_cons (dv 5) (da_cons (dv 6) (da_cons (dv 7) (da_cons (dv 10) da_nil))))))) (da_cons (de_tup (da_cons de_str (da_cons (dv 4) (da_cons (dv 5) (da_cons (dv 6) (da_cons (dv 8) da_nil)))))) da_nil)))))
    (dss_cons (ds_set 13 nd__law_deed (de_op op_add4 od_add (dfz 13) (de_lst (da_cons (de_tup (da_cons de_str (da_cons (dv 4) (da_cons (dv 5) (da_cons (dv 6) (da_cons (dv 7) (da_cons (dv 10) da_nil))))))) (da_cons (de_tup (da_cons de_str (da_cons (de_ix (de_lst (da_cons de_str (da_cons de_str (da_cons de_str da_nil)))) (de_op op_mod od_mod (dv 12) de_int)) da_nil))) da_nil)))))
    (dss_cons (ds_set 13 nd__law_deed (de_op op_add4 od_add (dfz 13) (de_lst (da_cons (de_tup (da_cons de_str (da_cons (dv 4) (da_cons (dv 11) (da_cons (dv 6) (da_cons (dv 12) da_nil)))))) (da_cons (de_tup (da_cons de_str (da_cons (dv 4) (da_cons (dv 11) (da_cons (dv 6) da_nil))))) da_nil)))))
    (dss_one (ds_ret (de_ix (de_op op_add4 od_add (de_op op_add4 od_add (dfz 13) (de_slice (dfz 13) do_none (do_some de_int))) (de_slice (dfz 13) do_none (do_some de_int))) (dv 3)))))))))))))))))
theorem ok__law_deed {P : Program} {w : World} {K : PySem.W.Frag} {mg : Str → Option Value} {base : Heap} {f : Addr} {fd : FuncData} (U : Fun K "_law_deed" "_law_deed" s__law_deed f fd) (hm : mg "_law_deed" = some (.ref f)) (bi : Binds K fd ["_law_pool_here", "_law_shelves", "_law_names", "_law_way"] []) (c : Facts w K mg) (d__law_take : Def P w K mg base "_law_take" 1 2 f__law_take) : Def P w K mg base "_law_deed" 2 4 f__law_deed :=
  Def.of U hm bi (def_ok U sc__law_deed rfl (k__law_deed c d__law_take))
abbrev s__law_small : Stmt := top 42
def l__law_small_1 : M T :=
    dlc (drange (dcons (dcall f__law_take [some 0, none] (dlate 0 (dcons (dop (onD pAdd) (dget 2) (mret (.d (.int 1)))) (mret [])))) (mret []))) [7] (mset 7) (mret true) (dcall f__law_deed [some 0, none, none, none] (dlate 0 (dcons (dget 3) (dcons (dget 4) (dcons (dcall f__law_take [some 0, none] (dlate 0 (dcons (mret (.d (.int 14))) (mret [])))) (mret []))))))
def y__law_small_2 : M Fl :=
    sdrop (dmeth "list" 5 oAppend (dcons l__law_small_1 (mret [])))
def b__law_small : M Fl :=
    mseq (sset 3 (dcallb gSorted [none] (dcons (dcall f__law_picked [some 0, none, none] (dlate 0 (dcons (dlst (dcons (mret (.d (.str ("x" : Str)))) (dcons (mret (.d (.str ("y" : Str)))) (dcons (mret (.d (.str ("hand" : Str)))) (dcons (mret (.d (.str ("abc" : Str)))) (mret [])))))) (dcons (dop (onD pAdd) (mret (.d (.int 1))) (dcall f__law_take [some 0, none] (dlate 0 (dcons (mret (.d (.int 4))) (mret []))))) (mret []))))) (mret [])))) <|
    mseq (sset 4 (dcall f__law_picked [some 0, none, none] (dlate 0 (dcons (dlst (dcons (mret (.d (.str ("r" : Str)))) (dcons (mret (.d (.str ("s" : Str)))) (dcons (mret (.d (.str ("x" : Str)))) (mret []))))) (dcons (dop (onD pAdd) (mret (.d (.int 1))) (dcall f__law_take [some 0, none] (dlate 0 (dcons (mret (.d (.int 2))) (mret []))))) (mret [])))))) <|
    mseq (sset 5 (dlstO (mret []))) <|
    mseq (sfor (drange (dcons (dop (onD pAdd) (mret (.d (.int 1))) (dcall f__law_take [some 0, none] (dlate 0 (dcons (dget 1) (mret []))))) (mret []))) (mset 6) y__law_small_2) <|
    mseq (sif (dval (dop (onD pEq) (dcall f__law_take [some 0, none] (dlate 0 (dcons (mret (.d (.int 4))) (mret [])))) (mret (.d (.int 0))))) (sasg (dcallb gList [none] (dcons (dixO 5 (mret (.d (.int 0)))) (mret []))) (gput 5 (dneg (mret (.d (.int 1)))))) (mret .nx)) <|
    sret (dtup (dcons (dget 3) (dcons (dfrz 5) (mret []))))
def f__law_small : Fn := dfn 8 [true, true, true] b__law_small
theorem nd__law_small : (["_law_pool_here", "_law_most", "_law_upto", "_law_shelves", "_law_names", "_law_crew", "_law_turn", "_law_k"] : List Str).Nodup := by decide +kernel
theorem sc__law_small : FnScope ["_law_pool_here", "_law_most", "_law_upto", "_law_shelves", "_law_names", "_law_crew", "_law_turn", "_law_k"] ["_law_pool_here", "_law_most", "_law_upto"] (defScope s__law_small) := ⟨rfl, rfl, rfl, nd__law_small, rfl, by decide +kernel, by decide +kernel⟩
theorem k__law_small {P : Program} {w : World} {K : PySem.W.Frag} {mg : Str → Option Value} {base : Heap} (c : Facts w K mg) (d__law_deed : Def P w K mg base "_law_deed" 2 4 f__law_deed) (d__law_picked : Def P w K mg base "_law_picked" 2 3 f__law_picked) (d__law_take : Def P w K mg base "_law_take" 1 2 f__law_take) : BodyOk P w K mg base 2 ["_law_pool_here", "_law_most", "_law_upto", "_law_shelves", "_law_names", "_law_crew", "_law_turn", "_law_k"] "_law_small" s__law_small [true, true, true] b__law_small := fun f cd A outer s H E at_ =>
    dss_cons (ds_set 3 nd__law_small (de_callB cr_sortSI ck_sorted c.n_sorted bt_sorted (da_cons (de_call d__law_picked at_ (da_own 0 (da_cons (de_lst (da_cons de_str (da_cons de_str (da_cons de_str (da_cons de_str da_nil))))) (da_cons (de_op op_add4 od_add de_int (de_call d__law_take at_ (da_own 0 (da_cons de_int da_nil)))) da_nil)))) da_nil)))
    (dss_cons (ds_set 4 nd__law_small (de_call d__law_picked at_ (da_own 0 (da_cons (de_lst (da_cons de_str (da_cons de_str (da_cons de_str da_nil)))) (da_cons (de_op op_add4 od_add de_int (de_call d__law_take at_ (da_own 0 (da_cons de_int da_nil)))) da_nil)))))
    (dss_cons (ds_set 5 nd__law_small (de_lstO da_nil))
    (dss_cons (ds_for at_ (di_range1 c.n_range (da_cons (de_op op_add4 od_add de_int (de_call d__law_take at_ (da_own 0 (da_cons (dv 1) da_nil)))) da_nil)) (dg_name nd__law_small rfl (by first | exact Or.inl rfl | exact Or.inr rfl) (by intro h; cases h)) (dss_one (ds_expr (de_meth 5 PySem.F.plainAttrs_list PySem.F.slot_list_append PySem.F.type_list_append mt_append om_append (da_cons (de_lc at_ nd__law_small (di_range1 c.n_range (da_cons (de_call d__law_take at_ (da_own 0 (da_cons (de_op op_add4 od_add (dv 2) de_int) da_nil))) da_nil)) (own := [("_law_k", 7)]) (by first | (show blkC ["_law_pool_here", "_law_most", "_law_upto", "_law_shelves", "_law_names", "_law_crew", "_law_turn", "_law_k"] (defScope s__law_small) _ _ = true; decide +kernel) | (show blkC ["_law_pool_here", "_law_most", "_law_upto", "_law_shelves", "_law_names", "_law_crew", "_law_turn", "_law_k"] _ _ _ = true; decide +kernel) | kernel_rfl) (fun b a1 => dg_name nd__law_small rfl (by first | exact Or.inl rfl | exact Or.inr rfl) (by intro h; cases h)) (fun b a1 => dts_nil) (fun b a1 => de_call d__law_deed a1 (da_own 0 (da_cons (dv 3) (da_cons (dv 4) (da_cons (de_call d__law_take a1 (da_own 0 (da_cons de_int da_nil))) da_nil)))))) da_nil)))))
    (dss_cons (ds_if (dt_cmp (op_eqP at_.un) od_eq (de_call d__law_take at_ (da_own 0 (da_cons de_int da_nil))) de_int (by with_unfolding_all rfl)) (dss_one (ds_asg (de_callTy call_list_of ck_list c.n_list bt_list (da_cons (de_ixO 5 de_int) da_nil)) (dg_sub 5 (de_neg de_int)))) dss_nil)
    (dss_one (ds_ret (de_tup (da_cons (dv 3) (da_cons (dfz 5) da_nil)))))))))
theorem ok__law_small {P : Program} {w : World} {K : PySem.W.Frag} {mg : Str → Option Value} {base : Heap} {f : Addr} {fd : FuncData} (U : Fun K "_law_small" "_law_small" s__law_small f fd) (hm : mg "_law_small" = some (.ref f)) (bi : Binds K fd ["_law_pool_here", "_law_most", "_law_upto"] []) (c : Facts w K mg) (d__law_deed : Def P w K mg base "_law_deed" 2 4 f__law_deed) (d__law_picked : Def P w K mg base "_law_picked" 2 3 f__law_picked) (d__law_take : Def P w K mg base "_law_take" 1 2 f__law_take) : Def P w K mg base "_law_small" 3 3 f__law_small :=
  Def.of U hm bi (def_ok U sc__law_small rfl (k__law_small c d__law_deed d__law_picked d__law_take))
abbrev s_law : Stmt := top 49
def y_law_1 : M Fl :=
    mseq (sset 2 (dcall f__law_pool [none, none] (dcons (dget 0) (dcons (dget 1) (mret []))))) <|
    mseq (sset 3 (dcall f__law_small [some 2, none, none] (dlate 2 (dcons (mret (.d (.int 4))) (dcons (mret (.d (.int 4))) (mret [])))))) <|
    mseq (sset 4 (dcall f__law_order [some 2, none] (dlate 2 (dcons (dcallb gLen [none] (dcons (dop (onD pIx) (dget 3) (mret (.d (.int 1)))) (mret []))) (mret []))))) <|
    sif (dnot (dval (dcall f__law_right [none, none, none] (dcons (dget 3) (dcons (dget 4) (dcons (dcall f__law_new_names [some 2, none] (dlate 2 (dcons (dget 3) (mret [])))) (mret []))))))) (sret (mret (.d (.bool false)))) (mret .nx)
def b_law : M Fl :=
    mseq (sfor (drange (dcons (dcallb gMax2 [none, none] (dcons (mret (.d (.int 2))) (dcons (dcallb gMin2 [none, none] (dcons (dcallb gLen [none] (dcons (dget 0) (mret []))) (dcons (mret (.d (.int 30))) (mret [])))) (mret [])))) (mret []))) (mset 1) y_law_1) <|
    sret (mret (.d (.bool true)))
def f_law : Fn := dfn 5 [true] b_law
theorem nd_law : (["_law_script", "_law_k", "_law_pool_here", "_law_program", "_law_order_here"] : List Str).Nodup := by decide +kernel
theorem sc_law : FnScope ["_law_script", "_law_k", "_law_pool_here", "_law_program", "_law_order_here"] ["_law_script"] (defScope s_law) := ⟨rfl, rfl, rfl, nd_law, rfl, by decide +kernel, by decide +kernel⟩
theorem k_law {P : Program} {w : World} {K : PySem.W.Frag} {mg : Str → Option Value} {base : Heap} (c : Facts w K mg) (d__law_new_names : Def P w K mg base "_law_new_names" 3 2 f__law_new_names) (d__law_order : Def P w K mg base "_law_order" 2 2 f__law_order) (d__law_pool : Def P w K mg base "_law_pool" 1 2 f__law_pool) (d__law_right : Def P w K mg base "_law_right" 8 3 f__law_right) (d__law_small : Def P w K mg base "_law_small" 3 3 f__law_small) : BodyOk P w K mg base 8 ["_law_script", "_law_k", "_law_pool_here", "_law_program", "_law_order_here"] "law" s_law [true] b_law := fun f cd A outer s H E at_ =>
    dss_cons (ds_for at_ (di_range1 c.n_range (da_cons (de_callB (call_max2 at_.ca) ck_max2 c.n_max bt_max (da_cons de_int (da_cons (de_callB (call_min2 at_.ca) ck_min2 c.n_min bt_min (da_cons (de_callB cr_len2 ck_len c.n_len bt_len (da_cons (dv 0) da_nil)) (da_cons de_int da_nil))) da_nil))) da_nil)) (dg_name nd_law rfl (by first | exact Or.inl rfl | exact Or.inr rfl) (by intro h; cases h)) (dss_cons (ds_set 2 nd_law (de_call d__law_pool at_ (da_cons (dv 0) (da_cons (dv 1) da_nil))))
    (dss_cons (ds_set 3 nd_law (de_call d__law_small at_ (da_own 2 (da_cons de_int (da_cons de_int da_nil)))))
    (dss_cons (ds_set 4 nd_law (de_call d__law_order at_ (da_own 2 (da_cons (de_callB cr_len2 ck_len c.n_len bt_len (da_cons (de_ix (dv 3) de_int) da_nil)) da_nil))))
    (dss_one (ds_if (dt_not (dt_val (de_call d__law_right at_ (da_cons (dv 3) (da_cons (dv 4) (da_cons (de_call d__law_new_names at_ (da_own 2 (da_cons (dv 3) da_nil))) da_nil)))))) (dss_one (ds_ret de_bl)) dss_nil))))))
    (dss_one (ds_ret de_bl))
theorem all_mk {P : Program} {w : World} {K : PySem.W.Frag} {h : Heap} {mg : Str → Option Value} {fa : Addr} (X : K.In h) (G : h.Ns mainGlobals mg) (hfa : mg "law" = some (.ref fa))
    (F__law_take : HasFn K "_law_take" s__law_take)
    (F__law_picked : HasFn K "_law_picked" s__law_picked)
    (F__law_new_names : HasFn K "_law_new_names" s__law_new_names)
    (F__law_order : HasFn K "_law_order" s__law_order)
    (F__law_pool : HasFn K "_law_pool" s__law_pool)
    (F__law_back : HasFn K "_law_back" s__law_back)
    (F__law_deed_by : HasFn K "_law_deed_by" s__law_deed_by)
    (F__law_called : HasFn K "_law_called" s__law_called)
    (F_backwards : HasFn K "backwards" s_backwards)
    (F_deed_by : HasFn K "deed_by" s_deed_by)
    (F_is_one_of : HasFn K "is_one_of" s_is_one_of)
    (F_is_name : HasFn K "is_name" s_is_name)
    (F_is_whole : HasFn K "is_whole" s_is_whole)
    (F_is_number : HasFn K "is_number" s_is_number)
    (F_is_what : HasFn K "is_what" s_is_what)
    (F_is_many : HasFn K "is_many" s_is_many)
    (F_is_of_kind : HasFn K "is_of_kind" s_is_of_kind)
    (F_is_deed : HasFn K "is_deed" s_is_deed)
    (F_look_at_boxes : HasFn K "look_at_boxes" s_look_at_boxes)
    (F_look_at_hands : HasFn K "look_at_hands" s_look_at_hands)
    (F_look_at : HasFn K "look_at" s_look_at)
    (F_names_by : HasFn K "names_by" s_names_by)
    (F_is_within : HasFn K "is_within" s_is_within)
    (F_order_by : HasFn K "order_by" s_order_by)
    (F_called : HasFnK K "called" s_called [("hands", V.non), ("boxes", V.non)])
    (F__law_right : HasFn K "_law_right" s__law_right)
    (F__law_deed : HasFn K "_law_deed" s__law_deed)
    (F__law_small : HasFn K "_law_small" s__law_small)
    (F_law : HasFn K "law" s_law)
    (N_all : HasNo K "all")
    (N_bool : HasNo K "bool")
    (N_dict : HasNo K "dict")
    (N_enumerate : HasNo K "enumerate")
    (N_int : HasNo K "int")
    (N_isinstance : HasNo K "isinstance")
    (N_len : HasNo K "len")
    (N_list : HasNo K "list")
    (N_max : HasNo K "max")
    (N_min : HasNo K "min")
    (N_range : HasNo K "range")
    (N_repr : HasNo K "repr")
    (N_set : HasNo K "set")
    (N_sorted : HasNo K "sorted")
    (N_str : HasNo K "str")
    (N_sum : HasNo K "sum")
    (N_tuple : HasNo K "tuple")
    (N_zip : HasNo K "zip")
    (G_LETTERS : HasD K "LETTERS" D_LETTERS)
    (G_LONGEST : HasD K "LONGEST" D_LONGEST)
    (G_MOST_BOXES : HasD K "MOST_BOXES" D_MOST_BOXES)
    (G_MOST_DEEDS : HasD K "MOST_DEEDS" D_MOST_DEEDS)
    (G_MOST_HANDS : HasD K "MOST_HANDS" D_MOST_HANDS)
    (G_MOST_NUMBER : HasD K "MOST_NUMBER" D_MOST_NUMBER)
    (G_MOST_SKIPPED : HasD K "MOST_SKIPPED" D_MOST_SKIPPED)
    (G_MOST_TOGETHER : HasD K "MOST_TOGETHER" D_MOST_TOGETHER)
    (T_FORMS : HasTab K w "FORMS" D_FORMS)
    (T_KINDS : HasTab K w "KINDS" D_KINDS)
    (T_WORDS : HasTab K w "WORDS" D_WORDS)
    (N_ValueError : HasNo K "ValueError")
    (BI_ValueError : HasBI K "ValueError" "ValueError.__init__")
    (Y_NoNames : HasE0 K "NoNames" "NoNames.__init__" i_NoNames ["which"] "ValueError" "ValueError.__init__")
    (Y_NoProgram : HasE0 K "NoProgram" "NoProgram.__init__" i_NoProgram ["part", "hand", "number"] "ValueError" "ValueError.__init__") :
    ∃ fd : FuncData, (∀ (s : Shared) (u : Value), BindsTo s fd ⟨[u], []⟩ [("_law_script", u)]) ∧ ∀ base : Heap, K.In base → base.Ns mainGlobals mg → FnG P w K mg base 9 fa fd ["_law_script"] (FnD K mg 1 f_law) := by
  have c : Facts w K mg := ⟨fun z a e => PySem.W.mg_of X G e, N_all.at X G, N_bool.at X G, N_dict.at X G, N_enumerate.at X G, N_int.at X G, N_isinstance.at X G, N_len.at X G, N_list.at X G, N_max.at X G, N_min.at X G, N_range.at X G, N_repr.at X G, N_set.at X G, N_sorted.at X G, N_str.at X G, N_sum.at X G, N_tuple.at X G, N_zip.at X G, G_LETTERS.at X G, G_LONGEST.at X G, G_MOST_BOXES.at X G, G_MOST_DEEDS.at X G, G_MOST_HANDS.at X G, G_MOST_NUMBER.at X G, G_MOST_SKIPPED.at X G, G_MOST_TOGETHER.at X G, T_FORMS.at X G, T_KINDS.at X G, T_WORDS.at X G⟩
  obtain ⟨a__law_take, fd__law_take, e__law_take, U__law_take⟩ := F__law_take.ex
  have bi__law_take := U__law_take.binds (ps := ["_law_pool_here", "_law_size"]) fun _ _ _ _ _ _ us hl => match us, hl with | [_, _], _ => rfl
  obtain ⟨a__law_picked, fd__law_picked, e__law_picked, U__law_picked⟩ := F__law_picked.ex
  have bi__law_picked := U__law_picked.binds (ps := ["_law_pool_here", "_law_menu", "_law_size"]) fun _ _ _ _ _ _ us hl => match us, hl with | [_, _, _], _ => rfl
  obtain ⟨a__law_new_names, fd__law_new_names, e__law_new_names, U__law_new_names⟩ := F__law_new_names.ex
  have bi__law_new_names := U__law_new_names.binds (ps := ["_law_pool_here", "_law_program"]) fun _ _ _ _ _ _ us hl => match us, hl with | [_, _], _ => rfl
  obtain ⟨a__law_order, fd__law_order, e__law_order, U__law_order⟩ := F__law_order.ex
  have bi__law_order := U__law_order.binds (ps := ["_law_pool_here", "_law_size"]) fun _ _ _ _ _ _ us hl => match us, hl with | [_, _], _ => rfl
  obtain ⟨a__law_pool, fd__law_pool, e__law_pool, U__law_pool⟩ := F__law_pool.ex
  have bi__law_pool := U__law_pool.binds (ps := ["_law_script", "_law_k"]) fun _ _ _ _ _ _ us hl => match us, hl with | [_, _], _ => rfl
  obtain ⟨a__law_back, fd__law_back, e__law_back, U__law_back⟩ := F__law_back.ex
  have bi__law_back := U__law_back.binds (ps := ["_law_program", "_law_order_here", "_law_news"]) fun _ _ _ _ _ _ us hl => match us, hl with | [_, _, _], _ => rfl
  obtain ⟨a__law_deed_by, fd__law_deed_by, e__law_deed_by, U__law_deed_by⟩ := F__law_deed_by.ex
  have bi__law_deed_by := U__law_deed_by.binds (ps := ["_law_deed_here", "_law_names"]) fun _ _ _ _ _ _ us hl => match us, hl with | [_, _], _ => rfl
  obtain ⟨a__law_called, fd__law_called, e__law_called, U__law_called⟩ := F__law_called.ex
  have bi__law_called := U__law_called.binds (ps := ["_law_program", "_law_order_here", "_law_news"]) fun _ _ _ _ _ _ us hl => match us, hl with | [_, _, _], _ => rfl
  obtain ⟨a_backwards, fd_backwards, e_backwards, U_backwards⟩ := F_backwards.ex
  have bi_backwards := U_backwards.binds (ps := ["order"]) fun _ _ _ _ _ _ us hl => match us, hl with | [_], _ => rfl
  obtain ⟨a_deed_by, fd_deed_by, e_deed_by, U_deed_by⟩ := F_deed_by.ex
  have bi_deed_by := U_deed_by.binds (ps := ["deed", "names"]) fun _ _ _ _ _ _ us hl => match us, hl with | [_, _], _ => rfl
  obtain ⟨a_is_one_of, fd_is_one_of, e_is_one_of, U_is_one_of⟩ := F_is_one_of.ex
  have bi_is_one_of := U_is_one_of.binds (ps := ["thing", "words"]) fun _ _ _ _ _ _ us hl => match us, hl with | [_, _], _ => rfl
  obtain ⟨a_is_name, fd_is_name, e_is_name, U_is_name⟩ := F_is_name.ex
  have bi_is_name := U_is_name.binds (ps := ["thing"]) fun _ _ _ _ _ _ us hl => match us, hl with | [_], _ => rfl
  obtain ⟨a_is_whole, fd_is_whole, e_is_whole, U_is_whole⟩ := F_is_whole.ex
  have bi_is_whole := U_is_whole.binds (ps := ["thing"]) fun _ _ _ _ _ _ us hl => match us, hl with | [_], _ => rfl
  obtain ⟨a_is_number, fd_is_number, e_is_number, U_is_number⟩ := F_is_number.ex
  have bi_is_number := U_is_number.binds (ps := ["thing"]) fun _ _ _ _ _ _ us hl => match us, hl with | [_], _ => rfl
  obtain ⟨a_is_what, fd_is_what, e_is_what, U_is_what⟩ := F_is_what.ex
  have bi_is_what := U_is_what.binds (ps := ["thing"]) fun _ _ _ _ _ _ us hl => match us, hl with | [_], _ => rfl
  obtain ⟨a_is_many, fd_is_many, e_is_many, U_is_many⟩ := F_is_many.ex
  have bi_is_many := U_is_many.binds (ps := ["thing"]) fun _ _ _ _ _ _ us hl => match us, hl with | [_], _ => rfl
  obtain ⟨a_is_of_kind, fd_is_of_kind, e_is_of_kind, U_is_of_kind⟩ := F_is_of_kind.ex
  have bi_is_of_kind := U_is_of_kind.binds (ps := ["boxes", "kind", "thing"]) fun _ _ _ _ _ _ us hl => match us, hl with | [_, _, _], _ => rfl
  obtain ⟨a_is_deed, fd_is_deed, e_is_deed, U_is_deed⟩ := F_is_deed.ex
  have bi_is_deed := U_is_deed.binds (ps := ["boxes", "thing"]) fun _ _ _ _ _ _ us hl => match us, hl with | [_, _], _ => rfl
  obtain ⟨a_look_at_boxes, fd_look_at_boxes, e_look_at_boxes, U_look_at_boxes⟩ := F_look_at_boxes.ex
  have bi_look_at_boxes := U_look_at_boxes.binds (ps := ["thing"]) fun _ _ _ _ _ _ us hl => match us, hl with | [_], _ => rfl
  obtain ⟨a_look_at_hands, fd_look_at_hands, e_look_at_hands, U_look_at_hands⟩ := F_look_at_hands.ex
  have bi_look_at_hands := U_look_at_hands.binds (ps := ["thing"]) fun _ _ _ _ _ _ us hl => match us, hl with | [_], _ => rfl
  obtain ⟨a_look_at, fd_look_at, e_look_at, U_look_at⟩ := F_look_at.ex
  have bi_look_at := U_look_at.binds (ps := ["thing"]) fun _ _ _ _ _ _ us hl => match us, hl with | [_], _ => rfl
  obtain ⟨a_names_by, fd_names_by, e_names_by, U_names_by⟩ := F_names_by.ex
  have bi_names_by := U_names_by.binds (ps := ["program", "boxes"]) fun _ _ _ _ _ _ us hl => match us, hl with | [_, _], _ => rfl
  obtain ⟨a_is_within, fd_is_within, e_is_within, U_is_within⟩ := F_is_within.ex
  have bi_is_within := U_is_within.binds (ps := ["thing", "least", "most"]) fun _ _ _ _ _ _ us hl => match us, hl with | [_, _, _], _ => rfl
  obtain ⟨a_order_by, fd_order_by, e_order_by, U_order_by⟩ := F_order_by.ex
  have bi_order_by := U_order_by.binds (ps := ["program", "hands"]) fun _ _ _ _ _ _ us hl => match us, hl with | [_, _], _ => rfl
  obtain ⟨a_called, fd_called, e_called, U_called, V_called⟩ := F_called.ex
  obtain ⟨mv_called_w_boxes, bk_called_w_boxes⟩ := FunD_kb0 (ps := ["program", "hands", "boxes"]) V_called 1 ["boxes"] [("hands", V.non)] (fun us mv ws => us ++ (mv ++ ws)) (by simp) (by simp) (fun r1 r2 r3 => Vals.append r1 (Vals.append r2 r3)) fun _ _ _ _ _ _ us mv ws h1 h2 h3 => match us, h1, mv, h2, ws, h3 with | [_], _, [_], _, [_], _ => ⟨_, _, _, _, _, _, rfl, rfl, rfl⟩
  obtain ⟨mv_called_w_boxes_hands, bk_called_w_boxes_hands⟩ := FunD_kb0 (ps := ["program", "hands", "boxes"]) V_called 1 ["boxes", "hands"] [] (fun us _ ws => us ++ swp ws) (by simp) (by simp) (fun r1 _ r3 => Vals.append r1 (vals_swp r3)) fun _ _ _ _ _ _ us mv ws h1 h2 h3 => match us, h1, mv, h2, ws, h3 with | [_], _, [], _, [_, _], _ => rfl
  obtain ⟨mv_called_w_hands, bk_called_w_hands⟩ := FunD_kb0 (ps := ["program", "hands", "boxes"]) V_called 1 ["hands"] [("boxes", V.non)] (fun us mv ws => us ++ (ws ++ mv)) (by simp) (by simp) (fun r1 r2 r3 => Vals.append r1 (Vals.append r3 r2)) fun _ _ _ _ _ _ us mv ws h1 h2 h3 => match us, h1, mv, h2, ws, h3 with | [_], _, [_], _, [_], _ => ⟨_, _, _, _, _, _, rfl, rfl, rfl⟩
  obtain ⟨mv_called_w_hands_boxes, bk_called_w_hands_boxes⟩ := FunD_kb0 (ps := ["program", "hands", "boxes"]) V_called 1 ["hands", "boxes"] [] (fun us _ ws => us ++ ws) (by simp) (by simp) (fun r1 _ r3 => Vals.append r1 r3) fun _ _ _ _ _ _ us mv ws h1 h2 h3 => match us, h1, mv, h2, ws, h3 with | [_], _, [], _, [_, _], _ => rfl
  have bi_called := V_called.binds0 (ps := ["program", "hands", "boxes"]) 1 (by simp) rfl fun _ _ _ _ _ _ us ks hl hk => match us, hl, ks, hk with | [_], _, [_, _], _ => ⟨_, _, _, _, _, _, rfl, rfl, ⟨_, _, _, _, _, _, rfl, rfl, rfl⟩⟩
  obtain ⟨a__law_right, fd__law_right, e__law_right, U__law_right⟩ := F__law_right.ex
  have bi__law_right := U__law_right.binds (ps := ["_law_program", "_law_order_here", "_law_news"]) fun _ _ _ _ _ _ us hl => match us, hl with | [_, _, _], _ => rfl
  obtain ⟨a__law_deed, fd__law_deed, e__law_deed, U__law_deed⟩ := F__law_deed.ex
  have bi__law_deed := U__law_deed.binds (ps := ["_law_pool_here", "_law_shelves", "_law_names", "_law_way"]) fun _ _ _ _ _ _ us hl => match us, hl with | [_, _, _, _], _ => rfl
  obtain ⟨a__law_small, fd__law_small, e__law_small, U__law_small⟩ := F__law_small.ex
  have bi__law_small := U__law_small.binds (ps := ["_law_pool_here", "_law_most", "_law_upto"]) fun _ _ _ _ _ _ us hl => match us, hl with | [_, _, _], _ => rfl
  obtain ⟨a_law, fd_law, e_law, U_law⟩ := F_law.ex
  have bi_law := U_law.binds (ps := ["_law_script"]) fun _ _ _ _ _ _ us hl => match us, hl with | [_], _ => rfl
  have y_NoNames : ∀ {base : Heap}, ExcB P w K mg base "NoNames" 1 ["which"] := y_of_NoNames (base_ValueError (N_ValueError.at X G) BI_ValueError.vV) (Y_NoNames.at X G)
  have y_NoProgram : ∀ {base : Heap}, ExcB P w K mg base "NoProgram" 1 ["part", "hand", "number"] := y_of_NoProgram (base_ValueError (N_ValueError.at X G) BI_ValueError.vV) (Y_NoProgram.at X G)
  have ea := hfa.symm.trans (PySem.W.mg_of X G e_law)
  cases ea
  refine ⟨fd_law, ?_, fun base kb nb => ?_⟩
  · obtain ⟨_, _, _, _, _, _, _, _, _, rfl, _, _⟩ := U_law.ex
    exact fun s v => .of_eq rfl
  have d__law_take := ok__law_take (P := P) (base := base) U__law_take (PySem.W.mg_of X G e__law_take) bi__law_take c 
  have d__law_picked := ok__law_picked (P := P) (base := base) U__law_picked (PySem.W.mg_of X G e__law_picked) bi__law_picked c d__law_take
  have d__law_new_names := ok__law_new_names (P := P) (base := base) U__law_new_names (PySem.W.mg_of X G e__law_new_names) bi__law_new_names c d__law_picked
  have d__law_order := ok__law_order (P := P) (base := base) U__law_order (PySem.W.mg_of X G e__law_order) bi__law_order c d__law_take
  have d__law_pool := ok__law_pool (P := P) (base := base) U__law_pool (PySem.W.mg_of X G e__law_pool) bi__law_pool c 
  have d__law_back := ok__law_back (P := P) (base := base) U__law_back (PySem.W.mg_of X G e__law_back) bi__law_back c 
  have d__law_deed_by := ok__law_deed_by (P := P) (base := base) U__law_deed_by (PySem.W.mg_of X G e__law_deed_by) bi__law_deed_by c 
  have d__law_called := ok__law_called (P := P) (base := base) U__law_called (PySem.W.mg_of X G e__law_called) bi__law_called c d__law_deed_by
  have d_backwards := ok_backwards (P := P) (base := base) U_backwards (PySem.W.mg_of X G e_backwards) bi_backwards c 
  have d_deed_by := ok_deed_by (P := P) (base := base) U_deed_by (PySem.W.mg_of X G e_deed_by) bi_deed_by c 
  have d_is_one_of := ok_is_one_of (P := P) (base := base) U_is_one_of (PySem.W.mg_of X G e_is_one_of) bi_is_one_of c 
  have d_is_name := ok_is_name (P := P) (base := base) U_is_name (PySem.W.mg_of X G e_is_name) bi_is_name c 
  have d_is_whole := ok_is_whole (P := P) (base := base) U_is_whole (PySem.W.mg_of X G e_is_whole) bi_is_whole c 
  have d_is_number := ok_is_number (P := P) (base := base) U_is_number (PySem.W.mg_of X G e_is_number) bi_is_number c d_is_whole
  have d_is_what := ok_is_what (P := P) (base := base) U_is_what (PySem.W.mg_of X G e_is_what) bi_is_what c d_is_name d_is_number
  have d_is_many := ok_is_many (P := P) (base := base) U_is_many (PySem.W.mg_of X G e_is_many) bi_is_many c d_is_whole
  have d_is_of_kind := ok_is_of_kind (P := P) (base := base) U_is_of_kind (PySem.W.mg_of X G e_is_of_kind) bi_is_of_kind c d_is_one_of d_is_name d_is_number d_is_what d_is_many
  have d_is_deed := ok_is_deed (P := P) (base := base) U_is_deed (PySem.W.mg_of X G e_is_deed) bi_is_deed c d_is_of_kind d_is_one_of
  have d_look_at_boxes := ok_look_at_boxes (P := P) (base := base) U_look_at_boxes (PySem.W.mg_of X G e_look_at_boxes) bi_look_at_boxes c d_is_name y_NoProgram
  have d_look_at_hands := ok_look_at_hands (P := P) (base := base) U_look_at_hands (PySem.W.mg_of X G e_look_at_hands) bi_look_at_hands c y_NoProgram
  have d_look_at := ok_look_at (P := P) (base := base) U_look_at (PySem.W.mg_of X G e_look_at) bi_look_at c d_is_deed d_look_at_boxes d_look_at_hands y_NoProgram
  have d_names_by := ok_names_by (P := P) (base := base) U_names_by (PySem.W.mg_of X G e_names_by) bi_names_by c d_is_name y_NoNames
  have d_is_within := ok_is_within (P := P) (base := base) U_is_within (PySem.W.mg_of X G e_is_within) bi_is_within c d_is_whole
  have d_order_by := ok_order_by (P := P) (base := base) U_order_by (PySem.W.mg_of X G e_order_by) bi_order_by c d_is_within y_NoNames
  have d_called := ok_called (P := P) (base := base) U_called (PySem.W.mg_of X G e_called) bi_called c d_backwards d_deed_by d_look_at d_names_by d_order_by
  have d_called_boxes : DefKw P w K mg base "called" 7 1 ["boxes"] 1 1 g_called := DefKw.of U_called (PySem.W.mg_of X G e_called) (def_ok U_called sc_called rfl (k_called c d_backwards d_deed_by d_look_at d_names_by d_order_by)) bk_called_w_boxes rfl (fun vs zs h1 h2 => match vs, h1, zs, h2 with | [_], _, [_], _ => rfl)
  have d_called_boxes_hands : DefKw P w K mg base "called" 7 1 ["boxes", "hands"] 1 1 g_called := DefKw.of U_called (PySem.W.mg_of X G e_called) (def_ok U_called sc_called rfl (k_called c d_backwards d_deed_by d_look_at d_names_by d_order_by)) bk_called_w_boxes_hands rfl (fun vs zs h1 h2 => match vs, h1, zs, h2 with | [_], _, [_, _], _ => rfl)
  have d_called_hands : DefKw P w K mg base "called" 7 1 ["hands"] 1 2 g_called := DefKw.of U_called (PySem.W.mg_of X G e_called) (def_ok U_called sc_called rfl (k_called c d_backwards d_deed_by d_look_at d_names_by d_order_by)) bk_called_w_hands rfl (fun vs zs h1 h2 => match vs, h1, zs, h2 with | [_], _, [_], _ => rfl)
  have d_called_hands_boxes : DefKw P w K mg base "called" 7 1 ["hands", "boxes"] 1 2 g_called := DefKw.of U_called (PySem.W.mg_of X G e_called) (def_ok U_called sc_called rfl (k_called c d_backwards d_deed_by d_look_at d_names_by d_order_by)) bk_called_w_hands_boxes rfl (fun vs zs h1 h2 => match vs, h1, zs, h2 with | [_], _, [_, _], _ => rfl)
  have d__law_right := ok__law_right (P := P) (base := base) U__law_right (PySem.W.mg_of X G e__law_right) bi__law_right c d__law_back d__law_called d_called d_called_boxes d_called_boxes_hands d_called_hands d_called_hands_boxes
  have d__law_deed := ok__law_deed (P := P) (base := base) U__law_deed (PySem.W.mg_of X G e__law_deed) bi__law_deed c d__law_take
  have d__law_small := ok__law_small (P := P) (base := base) U__law_small (PySem.W.mg_of X G e__law_small) bi__law_small c d__law_deed d__law_picked d__law_take
  exact def_ok U_law sc_law rfl (k_law c d__law_new_names d__law_order d__law_pool d__law_right d__law_small)
end LW
end
section
set_option maxRecDepth 100000
set_option linter.all false
open PySem L2 DL
namespace LW
theorem boolsD_map {α : Type} (p : α → Bool) : ∀ l : List α, boolsD (l.map fun a => PyData.bool (p a)) = some (l.map p)
  | [] => rfl
  | a :: l => by rw [List.map_cons, List.map_cons, boolsD, boolsD_map p l]; rfl
def lowC (c : Nat) : Bool := decide (97 ≤ c) && decide (c ≤ 122)
theorem let_in (c : Nat) : strIn ⟨#[c]⟩ ("abcdefghijklmnopqrstuvwxyz" : Str) = lowC c := by
  unfold strIn
  rw [PySem.StrLaws.found_one]
  have e : ("abcdefghijklmnopqrstuvwxyz" : Str).cps.toList = List.range' 97 26 := by decide +kernel
  rw [e]
  unfold lowC
  rw [← Bool.decide_and]
  apply decide_eq_decide.mpr
  rw [List.mem_range'_1]
  omega
def charsD (z : Str) : List PyData := z.cps.toList.map fun c => .str ⟨#[c]⟩
theorem charsD_len (z : Str) : (charsD z).length = z.length := by
  unfold charsD
  rw [List.length_map, Array.length_toList]
  rfl
def inLet : PyData → Bool
  | .str s => strIn s ("abcdefghijklmnopqrstuvwxyz" : Str)
  | _ => false
def nameS (z : Str) : Bool := decide (1 ≤ z.length) && (decide (z.length ≤ 6) && (charsD z).all inLet)
def okS : PyData → Bool
  | .str z => decide (z.length ≤ lim)
  | _ => true
def nameD : PyData → Bool
  | .str z => nameS z
  | _ => false
theorem t_is_name (x : PyData) (h : okS x = true) : f_is_name [.d x] = .ok (.d (.bool (nameD x))) [some (.d x)] := by
  cases x with
  | str z =>
    have hz : z.length ≤ lim := of_decide_eq_true h
    have hC : l_is_name_1 [some (.d (.str z)), none] = .ok (.d (.list ((charsD z).map fun d => .bool (inLet d)))) [some (.d (.str z)), none] := by
      refine dlc_pure (fun d => .bool (inLet d)) (ρ1 := [some (.d (.str z)), none]) (ds := charsD z) rfl (fun d hd => ?_) (by rw [charsD_len]; exact hz)
      obtain ⟨c, _, rfl⟩ := List.mem_map.mp hd
      exact ⟨_, _, rfl, rfl, rfl⟩
    have hg : gLen [.d (.str z)] = some (.d (.int z.length)) := by simp [gLen, hz]
    have hb : gAll [.d (.list ((charsD z).map fun d => .bool (inLet d)))] = some (.d (.bool ((charsD z).all inLet))) := by
      simp only [gAll, gBools, boolsD_map, Option.map_some, List.all_map]
      rfl
    show f_is_name [.d (.str z)] = .ok (.d (.bool (nameS z))) [some (.d (.str z))]
    by_cases h1 : 1 ≤ z.length
    · have i1 : decide ((1 : Int) ≤ (z.length : Int)) = true := decide_eq_true (by omega)
      by_cases h2 : z.length ≤ 6
      · have i2 : decide ((z.length : Int) ≤ 6) = true := decide_eq_true (by omega)
        have hn : nameS z = (charsD z).all inLet := by simp only [nameS, decide_eq_true h1, decide_eq_true h2, Bool.true_and]
        rw [hn]
        generalize (charsD z).all inLet = bb at *
        simp [f_is_name, b_is_name, dfn, mseq, sif, sret, sset, sdrop, sasg, dandV, dorV, dnotV, dand, dor, dnot, dval, dop, dcallb, dcons, dget, mret, mno, mbind, mopt, gIsi, isT, dbackT, restore, dchain, chainMid, chainRest, onD, pLe2, pLt, pGt, pGe, keepm, dlst, dtup, mkLst, mkTup, allD, short, dcall, dcallF, mset, hg, D_LONGEST, i1, i2, hC, hb]
      · have i2 : decide ((z.length : Int) ≤ 6) = false := decide_eq_false (by omega)
        have hn : nameS z = false := by simp only [nameS, decide_eq_true h1, decide_eq_false h2, Bool.true_and, Bool.false_and]
        rw [hn]
        simp [f_is_name, b_is_name, dfn, mseq, sif, sret, sset, sdrop, sasg, dandV, dorV, dnotV, dand, dor, dnot, dval, dop, dcallb, dcons, dget, mret, mno, mbind, mopt, gIsi, isT, dbackT, restore, dchain, chainMid, chainRest, onD, pLe2, pLt, pGt, pGe, keepm, dlst, dtup, mkLst, mkTup, allD, short, dcall, dcallF, mset, hg, D_LONGEST, i1, i2, hC, hb]
    · have i1 : decide ((1 : Int) ≤ (z.length : Int)) = false := decide_eq_false (by omega)
      have hn : nameS z = false := by simp only [nameS, decide_eq_false h1, Bool.false_and]
      rw [hn]
      simp [f_is_name, b_is_name, dfn, mseq, sif, sret, sset, sdrop, sasg, dandV, dorV, dnotV, dand, dor, dnot, dval, dop, dcallb, dcons, dget, mret, mno, mbind, mopt, gIsi, isT, dbackT, restore, dchain, chainMid, chainRest, onD, pLe2, pLt, pGt, pGe, keepm, dlst, dtup, mkLst, mkTup, allD, short, dcall, dcallF, mset, hg, D_LONGEST, i1, hC, hb]
  | _ => rfl
theorem plain_strs {ds : List PyData} (h : ∀ d ∈ ds, ∃ z, d = .str z) : PyData.plainAll ds = true := by
  induction ds with
  | nil => rfl
  | cons d ds ih =>
    obtain ⟨z, rfl⟩ := h d List.mem_cons_self
    simp [PyData.plainAll, PyData.plain, ih fun d m => h d (List.mem_cons_of_mem _ m)]
def wholeD (lo hi : Int) : PyData → Bool
  | .int i => decide (lo ≤ i) && decide (i ≤ hi)
  | _ => false
theorem t_is_number (x : PyData) : f_is_number [.d x] = .ok (.d (.bool (wholeD 0 9 x))) [some (.d x)] := by
  cases x with
  | int i =>
    show f_is_number [.d (.int i)] = .ok (.d (.bool (decide (0 ≤ i) && decide (i ≤ 9)))) [some (.d (.int i))]
    cases h : decide (0 ≤ i) <;> simp [f_is_number, b_is_number, f_is_whole, b_is_whole, dfn, mseq, sif, sret, sset, sdrop, sasg, dandV, dorV, dnotV, dand, dor, dnot, dval, dop, dcallb, dcons, dget, mret, mno, mbind, mopt, gIsi, isT, dbackT, restore, dchain, chainMid, chainRest, onD, pLe2, pLt, pGt, pGe, keepm, dlst, dtup, mkLst, mkTup, allD, short, dcall, dcallF, mset, D_MOST_NUMBER, h]
  | _ => rfl
theorem t_is_many (x : PyData) : f_is_many [.d x] = .ok (.d (.bool (wholeD 1 8 x))) [some (.d x)] := by
  cases x with
  | int i =>
    show f_is_many [.d (.int i)] = .ok (.d (.bool (decide (1 ≤ i) && decide (i ≤ 8)))) [some (.d (.int i))]
    cases h : decide (1 ≤ i) <;> simp [f_is_many, b_is_many, f_is_whole, b_is_whole, dfn, mseq, sif, sret, sset, sdrop, sasg, dandV, dorV, dnotV, dand, dor, dnot, dval, dop, dcallb, dcons, dget, mret, mno, mbind, mopt, gIsi, isT, dbackT, restore, dchain, chainMid, chainRest, onD, pLe2, pLt, pGt, pGe, keepm, dlst, dtup, mkLst, mkTup, allD, short, dcall, dcallF, mset, D_MOST_SKIPPED, h]
  | _ => rfl
def whatD (x : PyData) : Bool := wholeD 0 9 x || nameD x
theorem t_is_what (x : PyData) (h : okS x = true) : f_is_what [.d x] = .ok (.d (.bool (whatD x))) [some (.d x)] := by
  unfold whatD
  cases k : wholeD 0 9 x <;> simp [f_is_what, b_is_what, dfn, mseq, sif, sret, sset, sdrop, sasg, dandV, dorV, dnotV, dand, dor, dnot, dval, dop, dcallb, dcons, dget, mret, mno, mbind, mopt, gIsi, isT, dbackT, restore, dchain, chainMid, chainRest, onD, pLe2, pLt, pGt, pGe, keepm, dlst, dtup, mkLst, mkTup, allD, short, dcall, dcallF, mset, t_is_number, t_is_name x h, k]
def oneOf (x : PyData) (ws : List PyData) : Bool := match x with
  | .str _ => anyEq x ws
  | _ => false
theorem okIn_str (z : Str) {ws : List PyData} (h : ∀ d ∈ ws, ∃ z, d = .str z) : okIn (.str z) ws = true := by
  simp [okIn, PyData.plain, plain_strs h, PyData.depth]
theorem t_is_one_of (x : PyData) {ws : List PyData} (h : ∀ d ∈ ws, ∃ z, d = .str z) : f_is_one_of [.d x, .d (.tuple ws)] = .ok (.d (.bool (oneOf x ws))) [some (.d x), some (.d (.tuple ws))] := by
  cases x with
  | str z => simp [f_is_one_of, b_is_one_of, dfn, mseq, sif, sret, sset, sdrop, sasg, dandV, dorV, dnotV, dand, dor, dnot, dval, dop, dcallb, dcons, dget, mret, mno, mbind, mopt, gIsi, isT, dbackT, restore, dchain, chainMid, chainRest, onD, pLe2, pLt, pGt, pGe, keepm, dlst, dtup, mkLst, mkTup, allD, short, dcall, dcallF, mset, pIn, okIn_str z h, oneOf]
  | _ => rfl

def W_read : List PyData := [.str ("plain" : Str), .str ("loose" : Str), .str ("taking" : Str)]
def W_write : List PyData := [.str ("plain" : Str), .str ("loose" : Str), .str ("giving" : Str)]
def W_change : List PyData := [.str ("loose" : Str), .str ("giving" : Str), .str ("taking" : Str), .str ("both" : Str)]
def W_fence : List PyData := [.str ("giving" : Str), .str ("taking" : Str), .str ("both" : Str)]
def W_how : List PyData := [.str ("add" : Str), .str ("put" : Str)]
def W_word : List PyData := [.str ("is" : Str), .str ("isnt" : Str)]
inductive Kd | name | box | number | what | many | reading | writing | changing | fencing | how | word
def Kd.fits (bs : List PyData) (x : PyData) : Kd → Bool
  | .name => nameD x
  | .box => oneOf x bs
  | .number => wholeD 0 9 x
  | .what => whatD x
  | .many => wholeD 1 8 x
  | .reading => oneOf x W_read
  | .writing => oneOf x W_write
  | .changing => oneOf x W_change
  | .fencing => oneOf x W_fence
  | .how => oneOf x W_how
  | .word => oneOf x W_word
def Kd.nm : Kd → Str
  | .name => "name"
  | .box => "box"
  | .number => "number"
  | .what => "what"
  | .many => "many"
  | .reading => "reading"
  | .writing => "writing"
  | .changing => "changing"
  | .fencing => "fencing"
  | .how => "how"
  | .word => "word"
def Kd.lt : Kd → Nat
  | .name => 110
  | .box => 98
  | .number => 102
  | .what => 119
  | .many => 109
  | .reading => 114
  | .writing => 103
  | .changing => 99
  | .fencing => 107
  | .how => 104
  | .word => 105
theorem strs_W {ws : List PyData} (h : ws = W_read ∨ ws = W_write ∨ ws = W_change ∨ ws = W_fence ∨ ws = W_how ∨ ws = W_word) : ∀ d ∈ ws, ∃ z, d = .str z := by
  intro d hd
  rcases h with rfl | rfl | rfl | rfl | rfl | rfl <;> simp only [W_read, W_write, W_change, W_fence, W_how, W_word, List.mem_cons, List.not_mem_nil, or_false] at hd <;> rcases hd with rfl | rfl | rfl | rfl <;> exact ⟨_, rfl⟩
theorem okEq_ss (a b : Str) : okEq (.str a) (.str b) = true := by simp [okEq, PyData.plain, PyData.depth]
theorem t_is_of_kind (bs : List PyData) (hb : ∀ d ∈ bs, ∃ z, d = .str z) (x : PyData) (hx : okS x = true) (k : Kd) :
    f_is_of_kind [.d (.list bs), .d (.str k.nm), .d x] = .ok (.d (.bool (k.fits bs x))) [some (.d (.list bs)), some (.d (.str k.nm)), some (.d x)] := by
  have w1 := t_is_one_of x (strs_W (.inl rfl))
  have w2 := t_is_one_of x (strs_W (.inr (.inl rfl)))
  have w3 := t_is_one_of x (strs_W (.inr (.inr (.inl rfl))))
  have w4 := t_is_one_of x (strs_W (.inr (.inr (.inr (.inl rfl)))))
  have w5 := t_is_one_of x (strs_W (.inr (.inr (.inr (.inr (.inl rfl))))))
  have w6 := t_is_one_of x (strs_W (.inr (.inr (.inr (.inr (.inr rfl))))))
  have n1 := t_is_name x hx
  have n2 := t_is_what x hx
  cases k with
  | box =>
    cases x with
    | str z => 
      have e : PyData.eqv (.str (Kd.nm .box)) (.str ("box" : Str)) = true := by decide +kernel
      simp [f_is_of_kind, b_is_of_kind, dfn, mseq, sif, sret, sset, sdrop, sasg, dandV, dorV, dnotV, dand, dor, dnot, dval, dop, dcallb, dcons, dget, mret, mno, mbind, mopt, gIsi, isT, dbackT, restore, dchain, chainMid, chainRest, onD, pLe2, pLt, pGt, pGe, keepm, dlst, dtup, mkLst, mkTup, allD, short, dcall, dcallF, mset, pEq, okEq_ss, e, pIn, okIn_str z hb, Kd.fits, oneOf]
    | _ => rfl
  | reading =>
    have e : PyData.eqv (.str (Kd.nm .reading)) (.str ("box" : Str)) = false := by decide +kernel
    have l1 : tlook D_WORDS (Kd.nm .reading) = some (.d (.tuple W_read)) := by kernel_rfl
    simp [f_is_of_kind, b_is_of_kind, dfn, mseq, sif, sret, sset, sdrop, sasg, dandV, dorV, dnotV, dand, dor, dnot, dval, dop, dcallb, dcons, dget, mret, mno, mbind, mopt, gIsi, isT, dbackT, restore, dchain, chainMid, chainRest, onD, pLe2, pLt, pGt, pGe, keepm, dlst, dtup, mkLst, mkTup, allD, short, dcall, dcallF, mset, pEq, okEq_ss, e, dkin, gKin, l1, dkix, gKix, w1, Kd.fits]
  | writing =>
    have e : PyData.eqv (.str (Kd.nm .writing)) (.str ("box" : Str)) = false := by decide +kernel
    have l1 : tlook D_WORDS (Kd.nm .writing) = some (.d (.tuple W_write)) := by kernel_rfl
    simp [f_is_of_kind, b_is_of_kind, dfn, mseq, sif, sret, sset, sdrop, sasg, dandV, dorV, dnotV, dand, dor, dnot, dval, dop, dcallb, dcons, dget, mret, mno, mbind, mopt, gIsi, isT, dbackT, restore, dchain, chainMid, chainRest, onD, pLe2, pLt, pGt, pGe, keepm, dlst, dtup, mkLst, mkTup, allD, short, dcall, dcallF, mset, pEq, okEq_ss, e, dkin, gKin, l1, dkix, gKix, w2, Kd.fits]
  | changing =>
    have e : PyData.eqv (.str (Kd.nm .changing)) (.str ("box" : Str)) = false := by decide +kernel
    have l1 : tlook D_WORDS (Kd.nm .changing) = some (.d (.tuple W_change)) := by kernel_rfl
    simp [f_is_of_kind, b_is_of_kind, dfn, mseq, sif, sret, sset, sdrop, sasg, dandV, dorV, dnotV, dand, dor, dnot, dval, dop, dcallb, dcons, dget, mret, mno, mbind, mopt, gIsi, isT, dbackT, restore, dchain, chainMid, chainRest, onD, pLe2, pLt, pGt, pGe, keepm, dlst, dtup, mkLst, mkTup, allD, short, dcall, dcallF, mset, pEq, okEq_ss, e, dkin, gKin, l1, dkix, gKix, w3, Kd.fits]
  | fencing =>
    have e : PyData.eqv (.str (Kd.nm .fencing)) (.str ("box" : Str)) = false := by decide +kernel
    have l1 : tlook D_WORDS (Kd.nm .fencing) = some (.d (.tuple W_fence)) := by kernel_rfl
    simp [f_is_of_kind, b_is_of_kind, dfn, mseq, sif, sret, sset, sdrop, sasg, dandV, dorV, dnotV, dand, dor, dnot, dval, dop, dcallb, dcons, dget, mret, mno, mbind, mopt, gIsi, isT, dbackT, restore, dchain, chainMid, chainRest, onD, pLe2, pLt, pGt, pGe, keepm, dlst, dtup, mkLst, mkTup, allD, short, dcall, dcallF, mset, pEq, okEq_ss, e, dkin, gKin, l1, dkix, gKix, w4, Kd.fits]
  | how =>
    have e : PyData.eqv (.str (Kd.nm .how)) (.str ("box" : Str)) = false := by decide +kernel
    have l1 : tlook D_WORDS (Kd.nm .how) = some (.d (.tuple W_how)) := by kernel_rfl
    simp [f_is_of_kind, b_is_of_kind, dfn, mseq, sif, sret, sset, sdrop, sasg, dandV, dorV, dnotV, dand, dor, dnot, dval, dop, dcallb, dcons, dget, mret, mno, mbind, mopt, gIsi, isT, dbackT, restore, dchain, chainMid, chainRest, onD, pLe2, pLt, pGt, pGe, keepm, dlst, dtup, mkLst, mkTup, allD, short, dcall, dcallF, mset, pEq, okEq_ss, e, dkin, gKin, l1, dkix, gKix, w5, Kd.fits]
  | word =>
    have e : PyData.eqv (.str (Kd.nm .word)) (.str ("box" : Str)) = false := by decide +kernel
    have l1 : tlook D_WORDS (Kd.nm .word) = some (.d (.tuple W_word)) := by kernel_rfl
    simp [f_is_of_kind, b_is_of_kind, dfn, mseq, sif, sret, sset, sdrop, sasg, dandV, dorV, dnotV, dand, dor, dnot, dval, dop, dcallb, dcons, dget, mret, mno, mbind, mopt, gIsi, isT, dbackT, restore, dchain, chainMid, chainRest, onD, pLe2, pLt, pGt, pGe, keepm, dlst, dtup, mkLst, mkTup, allD, short, dcall, dcallF, mset, pEq, okEq_ss, e, dkin, gKin, l1, dkix, gKix, w6, Kd.fits]
  | name =>
    have e : PyData.eqv (.str (Kd.nm .name)) (.str ("box" : Str)) = false := by decide +kernel
    have l1 : tlook D_WORDS (Kd.nm .name) = none := by kernel_rfl
    have l2 : tlook D_KINDS (Kd.nm .name) = some (.fn "is_name") := by kernel_rfl
    have l3 : tab_is_of_kind "is_name" = some f_is_name := by kernel_rfl
    simp [f_is_of_kind, b_is_of_kind, dfn, mseq, sif, sret, sset, sdrop, sasg, dandV, dorV, dnotV, dand, dor, dnot, dval, dop, dcallb, dcons, dget, mret, mno, mbind, mopt, gIsi, isT, dbackT, restore, dchain, chainMid, chainRest, onD, pLe2, pLt, pGt, pGe, keepm, dlst, dtup, mkLst, mkTup, allD, short, dcall, dcallF, mset, pEq, okEq_ss, e, dkin, gKin, l1, dkix, gKix, l2, dcallS, l3, n1, Kd.fits]
  | number =>
    have e : PyData.eqv (.str (Kd.nm .number)) (.str ("box" : Str)) = false := by decide +kernel
    have l1 : tlook D_WORDS (Kd.nm .number) = none := by kernel_rfl
    have l2 : tlook D_KINDS (Kd.nm .number) = some (.fn "is_number") := by kernel_rfl
    have l3 : tab_is_of_kind "is_number" = some f_is_number := by kernel_rfl
    simp [f_is_of_kind, b_is_of_kind, dfn, mseq, sif, sret, sset, sdrop, sasg, dandV, dorV, dnotV, dand, dor, dnot, dval, dop, dcallb, dcons, dget, mret, mno, mbind, mopt, gIsi, isT, dbackT, restore, dchain, chainMid, chainRest, onD, pLe2, pLt, pGt, pGe, keepm, dlst, dtup, mkLst, mkTup, allD, short, dcall, dcallF, mset, pEq, okEq_ss, e, dkin, gKin, l1, dkix, gKix, l2, dcallS, l3, t_is_number x, Kd.fits]
  | what =>
    have e : PyData.eqv (.str (Kd.nm .what)) (.str ("box" : Str)) = false := by decide +kernel
    have l1 : tlook D_WORDS (Kd.nm .what) = none := by kernel_rfl
    have l2 : tlook D_KINDS (Kd.nm .what) = some (.fn "is_what") := by kernel_rfl
    have l3 : tab_is_of_kind "is_what" = some f_is_what := by kernel_rfl
    simp [f_is_of_kind, b_is_of_kind, dfn, mseq, sif, sret, sset, sdrop, sasg, dandV, dorV, dnotV, dand, dor, dnot, dval, dop, dcallb, dcons, dget, mret, mno, mbind, mopt, gIsi, isT, dbackT, restore, dchain, chainMid, chainRest, onD, pLe2, pLt, pGt, pGe, keepm, dlst, dtup, mkLst, mkTup, allD, short, dcall, dcallF, mset, pEq, okEq_ss, e, dkin, gKin, l1, dkix, gKix, l2, dcallS, l3, n2, Kd.fits]
  | many =>
    have e : PyData.eqv (.str (Kd.nm .many)) (.str ("box" : Str)) = false := by decide +kernel
    have l1 : tlook D_WORDS (Kd.nm .many) = none := by kernel_rfl
    have l2 : tlook D_KINDS (Kd.nm .many) = some (.fn "is_many") := by kernel_rfl
    have l3 : tab_is_of_kind "is_many" = some f_is_many := by kernel_rfl
    simp [f_is_of_kind, b_is_of_kind, dfn, mseq, sif, sret, sset, sdrop, sasg, dandV, dorV, dnotV, dand, dor, dnot, dval, dop, dcallb, dcons, dget, mret, mno, mbind, mopt, gIsi, isT, dbackT, restore, dchain, chainMid, chainRest, onD, pLe2, pLt, pGt, pGe, keepm, dlst, dtup, mkLst, mkTup, allD, short, dcall, dcallF, mset, pEq, okEq_ss, e, dkin, gKin, l1, dkix, gKix, l2, dcallS, l3, t_is_many x, Kd.fits]
def Kd.sg (k : Kd) : Str := ⟨#[k.lt]⟩

def forms : List (Str × List Kd) := [("read", [.name, .box, .reading]), ("write", [.box, .what, .writing]), ("change", [.name, .box, .how, .what, .changing]), ("swap", [.name, .box, .number, .what, .changing]), ("wait", [.name, .box, .number, .reading]),
  ("grab", [.name, .box, .number, .what, .changing]), ("fence", [.fencing]), ("skip", [.name, .word, .number, .many]), ("claim", [.name, .word, .number])]
def formOf (w : Str) : Option (List Kd) := (forms.find? fun p => decide (p.1 = w)).map (·.2)
def kinds (ks : List Kd) : List PyData := ks.map fun k => .str k.nm
theorem find_map {α β : Type} (f : α → β) (p : β → Bool) : ∀ l : List α, (l.map f).find? p = (l.find? fun a => p (f a)).map f
  | [] => rfl
  | a :: l => by
    rw [List.map_cons, List.find?_cons, List.find?_cons, find_map f p l]
    cases p (f a) <;> rfl
theorem D_FORMS_eq : D_FORMS = forms.map fun p => (p.1, T.d (.tuple (kinds p.2))) := by kernel_rfl
theorem look_forms (w : Str) : tlook D_FORMS w = (formOf w).map fun ks => .d (.tuple (kinds ks)) := by
  rw [D_FORMS_eq]
  unfold tlook formOf
  rw [find_map]
  cases forms.find? fun p => decide (p.1 = w) <;> rfl
theorem eqv_ss (a b : Str) : PyData.eqv (.str a) (.str b) = decide (a = b) := by
  show (a == b) = _
  by_cases h : a = b
  · subst h; simp
  · rw [decide_eq_false h]
    simpa using h
theorem any_find {α : Type} (p : α → Bool) : ∀ l : List α, l.any p = (l.find? p).isSome
  | [] => rfl
  | a :: l => by
    rw [List.any_cons, List.find?_cons, any_find p l]
    cases p a <;> rfl
theorem names_in (w : Str) : oneOf (.str w) (D_FORMS.map fun q => .str q.1) = (formOf w).isSome := by
  show anyEq (.str w) _ = _
  rw [D_FORMS_eq]
  unfold anyEq formOf
  rw [List.map_map, List.any_map]
  have e : ((fun y => PyData.eqv y (.str w)) ∘ ((fun q : Str × T => PyData.str q.1) ∘ fun p : Str × List Kd => (p.1, T.d (.tuple (kinds p.2))))) = fun p => decide (p.1 = w) := by
    funext p
    exact eqv_ss p.1 w
  rw [e, Option.isSome_map, any_find]
theorem formOf_len {w : Str} {ks : List Kd} (h : formOf w = some ks) : ks.length ≤ 5 := by
  unfold formOf at h
  cases e : forms.find? fun p => decide (p.1 = w) with
  | none => rw [e] at h; cases h
  | some p =>
    rw [e] at h
    cases h
    have m := List.mem_of_find?_eq_some e
    have all : ∀ p ∈ forms, p.2.length ≤ 5 := by decide
    exact all p m
def fitAt (bs : List PyData) (ks : List Kd) (xs : List PyData) (i : Nat) : Bool := match ks[i]?, xs[i]? with
  | some k, some x => k.fits bs x
  | _, _ => true
def allFit (bs : List PyData) (ks : List Kd) (xs : List PyData) : Bool := (List.range ks.length).all fun i => fitAt bs ks xs i
theorem allFit_cons (bs : List PyData) (k : Kd) (ks : List Kd) (x : PyData) (xs : List PyData) : allFit bs (k :: ks) (x :: xs) = (k.fits bs x && allFit bs ks xs) := by
  unfold allFit
  rw [List.length_cons, List.range_succ_eq_map, List.all_cons, List.all_map]
  rfl
def deedOf (bs : List PyData) : PyData → Bool
  | .tuple (.str w :: xs) => (match formOf w with
    | some ks => decide (xs.length = ks.length) && allFit bs ks xs
    | none => false)
  | _ => false
def Strs (bs : List PyData) : Prop := ∀ d ∈ bs, ∃ z, d = .str z
def zfit (bs : List PyData) (ks : List Kd) : PyData → PyData
  | .tuple [.str n, x] => .bool ((ks.find? fun k => decide (k.nm = n)).elim true fun k => k.fits bs x)
  | d => d
theorem kd_find (ks : List Kd) {k : Kd} (h : k ∈ ks) : (ks.find? fun j => decide (j.nm = k.nm)) = some k := by
  have inj : ∀ a b : Kd, a.nm = b.nm → a = b := by
    intro a b h
    cases a <;> cases b <;> first | rfl | exact absurd h (by decide +kernel)
  induction ks with
  | nil => cases h
  | cons j ks ih =>
    rw [List.find?_cons]
    by_cases q : j.nm = k.nm
    · rw [decide_eq_true q, inj _ _ q]
    · rw [decide_eq_false q]
      exact ih (by
        rcases List.mem_cons.mp h with e | e
        · exact absurd (by rw [e]) q
        · exact e)
theorem pairs_mem {a b : List PyData} {d : PyData} : d ∈ pairsD a b → ∃ x y, d = .tuple [x, y] ∧ x ∈ a ∧ y ∈ b := by
  intro h
  obtain ⟨i, hi, e⟩ := List.getElem_of_mem h
  obtain ⟨x, y, h1, h2, h3⟩ := pairsD_get a b i d (by rw [List.getElem?_eq_getElem hi, e])
  exact ⟨x, y, h3, List.mem_of_getElem? h1, List.mem_of_getElem? h2⟩
theorem zip_all (bs : List PyData) (all : List Kd) : ∀ {ks : List Kd} {xs : List PyData}, (∀ k ∈ ks, k ∈ all) → xs.length = ks.length →
    ((pairsD (kinds ks) xs).map (zfit bs all)) = ((List.range ks.length).map fun i => PyData.bool (fitAt bs ks xs i))
  | [], xs, _, h => by
    have : xs = [] := List.eq_nil_of_length_eq_zero h
    subst this
    rfl
  | k :: ks, [], _, h => by cases h
  | k :: ks, x :: xs, hk, h => by
    have ih := zip_all bs all (ks := ks) (xs := xs) (fun j m => hk j (List.mem_cons_of_mem _ m)) (by simpa using h)
    show zfit bs all (.tuple [.str k.nm, x]) :: (pairsD (kinds ks) xs).map (zfit bs all) = _
    rw [ih, List.length_cons, List.range_succ_eq_map, List.map_cons, List.map_map]
    congr 1
    show PyData.bool ((all.find? fun j => decide (j.nm = k.nm)).elim true fun j => j.fits bs x) = _
    rw [kd_find all (hk k List.mem_cons_self)]
    rfl
theorem bools_range (n : Nat) (p : Nat → Bool) : gAll [.d (.list ((List.range n).map fun i => PyData.bool (p i)))] = some (.d (.bool ((List.range n).all p))) := by
  simp only [gAll, gBools, boolsD_map, Option.map_some, List.all_map]
  rfl
def okThing : PyData → Bool
  | .tuple xs => PyData.plainAll xs && xs.all okS && decide (xs.length ≤ 1000)
  | _ => true
theorem forms_strs : ∀ d ∈ (D_FORMS.map fun q => PyData.str q.1), ∃ z, d = .str z := fun d m => by
  obtain ⟨k, _, rfl⟩ := List.mem_map.mp m
  exact ⟨_, rfl⟩
theorem t_is_deed (bs : List PyData) (hb : Strs bs) (x : PyData) (hx : okThing x = true) : f_is_deed [.d (.list bs), .d x] = .ok (.d (.bool (deedOf bs x))) [some (.d (.list bs)), some (.d x)] := by
  cases x with
  | tuple ys =>
    cases ys with
    | nil => rfl
    | cons y xs =>
      have hx0 := (Bool.and_eq_true _ _).mp ((Bool.and_eq_true _ _).mp hx).1
      have hp := hx0.1
      have hs : ∀ d ∈ xs, okS d = true := fun d m => List.all_eq_true.mp hx0.2 d (List.mem_cons_of_mem _ m)
      have hlen : xs.length ≤ 1000 := by
        have := of_decide_eq_true ((Bool.and_eq_true _ _).mp hx).2
        rw [List.length_cons] at this
        omega
      have hp' : y.plain = true ∧ PyData.plainAll xs = true := by simpa [PyData.plainAll] using hp
      have q1 : okEq (.tuple (y :: xs)) (.tuple []) = true := by simp [okEq, PyData.plain, hp'.1, hp'.2, PyData.plainAll, PyData.depth, PyData.depthAll]
      have q2 : PyData.eqv (.tuple (y :: xs)) (.tuple []) = false := by simp [PyData.eqv, PyData.eqvAll]
      have at0 : atI (y :: xs) 0 = some y := by simp [atI, ixN]
      have one := t_is_one_of y forms_strs
      cases y with
      | str w =>
        have nm := names_in w
        cases hf : formOf w with
        | none =>
          rw [hf] at nm
          rw [nm] at one
          simp [f_is_deed, b_is_deed, dfn, mseq, sif, sret, sset, sdrop, sasg, dandV, dorV, dnotV, dand, dor, dnot, dval, dop, dcallb, dcons, dget, mret, mno, mbind, mopt, gIsi, isT, dbackT, restore, dchain, chainMid, chainRest, onD, pLe2, pLt, pGt, pGe, keepm, dlst, dtup, mkLst, mkTup, allD, short, dcall, dcallF, mset, pEq, q1, q2, pIx, at0, one, deedOf, hf]
        | some ks =>
          rw [hf] at nm
          rw [nm] at one
          have lk := look_forms w
          rw [hf] at lk
          have kl := formOf_len hf
          by_cases hl : xs.length = ks.length
          · have hC : l_is_deed_1 [some (.d (.list bs)), some (.d (.tuple (.str w :: xs))), some (.d (.str w)), some (.d (.list xs)), none, none] =
                .ok (.d (.list ((List.range ks.length).map fun i => PyData.bool (fitAt bs ks xs i)))) [some (.d (.list bs)), some (.d (.tuple (.str w :: xs))), some (.d (.str w)), some (.d (.list xs)), none, none] := by
              have := dlc_pure (fi := dzip (dcons (dkix D_FORMS (dget 2)) (dcons (dget 3) (mret [])))) (vs := [4, 5]) (g := mtup [mset 4, mset 5]) (fe := dcall f_is_of_kind [none, none, none] (dcons (dget 0) (dcons (dget 4) (dcons (dget 5) (mret [])))))
                (ρ0 := [some (.d (.list bs)), some (.d (.tuple (.str w :: xs))), some (.d (.str w)), some (.d (.list xs)), none, none]) (zfit bs ks) (ρ1 := [some (.d (.list bs)), some (.d (.tuple (.str w :: xs))), some (.d (.str w)), some (.d (.list xs)), none, none]) (ds := pairsD (kinds ks) xs) ?_ (fun d hd => ?_) ?_
              · rw [zip_all bs ks (fun k m => m) hl] at this
                exact this
              · simp [dfn, mseq, sif, sret, sset, sdrop, sasg, dandV, dorV, dnotV, dand, dor, dnot, dval, dop, dcallb, dcons, dget, mret, mno, mbind, mopt, gIsi, isT, dbackT, restore, dchain, chainMid, chainRest, onD, pLe2, pLt, pGt, pGe, keepm, dlst, dtup, mkLst, mkTup, allD, short, dcall, dcallF, mset, dzip, dkix, gKix, lk, zipItems]
              · obtain ⟨a, b, rfl, ha, hb'⟩ := pairs_mem hd
                obtain ⟨k, hk, rfl⟩ := List.mem_map.mp ha
                have tk := t_is_of_kind bs hb b (hs b hb') k
                refine ⟨[some (.d (.list bs)), some (.d (.tuple (.str w :: xs))), some (.d (.str w)), some (.d (.list xs)), some (.d (.str k.nm)), some (.d b)], [some (.d (.list bs)), some (.d (.tuple (.str w :: xs))), some (.d (.str w)), some (.d (.list xs)), some (.d (.str k.nm)), some (.d b)], rfl, ?_, rfl⟩
                have e : zfit bs ks (.tuple [.str k.nm, b]) = .bool (k.fits bs b) := by
                  show PyData.bool ((ks.find? fun j => decide (j.nm = k.nm)).elim true fun j => j.fits bs b) = _
                  rw [kd_find ks hk]
                  rfl
                rw [e]
                simp [dfn, mseq, sif, sret, sset, sdrop, sasg, dandV, dorV, dnotV, dand, dor, dnot, dval, dop, dcallb, dcons, dget, mret, mno, mbind, mopt, gIsi, isT, dbackT, restore, dchain, chainMid, chainRest, onD, pLe2, pLt, pGt, pGe, keepm, dlst, dtup, mkLst, mkTup, allD, short, dcall, dcallF, mset, tk]
              · rw [pairsD_len]
                have : ks.length ≤ lim := Nat.le_trans kl (by decide)
                simp only [kinds, List.length_map]
                omega
            have ne : okEq (.int (xs.length : Int)) (.int ((kinds ks).length : Int)) = true := by simp [okEq, PyData.plain, PyData.depth]
            have ne2 : PyData.eqv (.int (xs.length : Int)) (.int ((kinds ks).length : Int)) = true := by simp [PyData.eqv, kinds, hl]
            have hd : deedOf bs (.tuple (.str w :: xs)) = allFit bs ks xs := by simp [deedOf, hf, hl]
            rw [hd]
            simp [f_is_deed, b_is_deed, dfn, mseq, sif, sret, sset, sdrop, sasg, dandV, dorV, dnotV, dand, dor, dnot, dval, dop, dcallb, dcons, dget, mret, mno, mbind, mopt, gIsi, isT, dbackT, restore, dchain, chainMid, chainRest, onD, pLe2, pLt, pGt, pGe, keepm, dlst, dtup, mkLst, mkTup, allD, short, dcall, dcallF, mset, pEq, pNe, q1, q2, pIx, at0, one, mstar, starItems, mgs, gLen, dkix, gKix, lk, ne, ne2, hC, bools_range, allFit]
          · have ne : okEq (.int (xs.length : Int)) (.int ((kinds ks).length : Int)) = true := by simp [okEq, PyData.plain, PyData.depth]
            have ne2 : PyData.eqv (.int (xs.length : Int)) (.int ((kinds ks).length : Int)) = false := by
              simp only [PyData.eqv, kinds, List.length_map]
              simpa using fun h => hl (by exact_mod_cast h)
            have hd : deedOf bs (.tuple (.str w :: xs)) = false := by simp [deedOf, hf, hl]
            rw [hd]
            simp [f_is_deed, b_is_deed, dfn, mseq, sif, sret, sset, sdrop, sasg, dandV, dorV, dnotV, dand, dor, dnot, dval, dop, dcallb, dcons, dget, mret, mno, mbind, mopt, gIsi, isT, dbackT, restore, dchain, chainMid, chainRest, onD, pLe2, pLt, pGt, pGe, keepm, dlst, dtup, mkLst, mkTup, allD, short, dcall, dcallF, mset, pEq, pNe, q1, q2, pIx, at0, one, mstar, starItems, mgs, gLen, dkix, gKix, lk, ne, ne2]
      | _ =>
        simp only [oneOf] at one
        simp [f_is_deed, b_is_deed, dfn, mseq, sif, sret, sset, sdrop, sasg, dandV, dorV, dnotV, dand, dor, dnot, dval, dop, dcallb, dcons, dget, mret, mno, mbind, mopt, gIsi, isT, dbackT, restore, dchain, chainMid, chainRest, onD, pLe2, pLt, pGt, pGe, keepm, dlst, dtup, mkLst, mkTup, allD, short, dcall, dcallF, mset, pEq, q1, q2, pIx, at0, one, deedOf]
  | _ => rfl
theorem atI_nat {α : Type} (xs : List α) (i : Nat) {x : α} (h : xs[i]? = some x) : atI xs (i : Int) = some x := by
  have hlt := (List.getElem?_eq_some_iff.mp h).1
  have e : ixN xs.length (i : Int) = some i := by
    unfold ixN
    simp
    omega
  unfold atI
  rw [e]
  exact h

abbrev Due := PyData × PyData × PyData
def exn (t : Due) : Exn := ⟨"NoProgram", [("number", t.2.2), ("hand", t.2.1), ("part", t.1)]⟩
def notUp : Option PyData → PyData → Bool
  | some (.str a), .str b => !strLt a b
  | _, _ => true
def badBox (bs : List PyData) (p : PyData × Nat) : Bool := !nameD p.1 || (decide (0 < p.2) && notUp bs[p.2 - 1]? p.1)
def dueB : PyData → Option Due
  | .list bs => if 1 ≤ bs.length ∧ bs.length ≤ 4 then (bs.zipIdx.find? (badBox bs)).map fun p => (.str ("boxes" : Str), .none, .int p.2) else some (.str ("boxes" : Str), .none, .none)
  | _ => some (.str ("boxes" : Str), .none, .none)
def okB : PyData → Prop
  | .list bs => bs.length ≤ 1000 ∧ ∀ d ∈ bs, okS d = true
  | _ => True
theorem zip_split {bs : List PyData} {pre post : List (PyData × Nat)} {c : PyData × Nat} (h : bs.zipIdx = pre ++ c :: post) : c.2 = pre.length ∧ bs[c.2]? = some c.1 ∧ ∀ j, j < c.2 → ∃ d, bs[j]? = some d ∧ (d, j) ∈ pre := by
  have e := congrArg (fun l => l[pre.length]?) h
  simp at e
  refine ⟨?_, ?_, fun j hj => ?_⟩
  · obtain ⟨a, _, e2⟩ := e
    rw [← e2]
  · obtain ⟨a, e1, e2⟩ := e
    rw [← e2]
    exact e1
  · obtain ⟨a, e1, e2⟩ := e
    have hc : c.2 = pre.length := by rw [← e2]
    have hj' : j < pre.length := by omega
    have e3 := congrArg (fun l => l[j]?) h
    have e4 : (pre ++ c :: post)[j]? = some pre[j] := by rw [List.getElem?_append_left hj', List.getElem?_eq_getElem hj']
    simp only [e4] at e3
    rw [List.getElem?_zipIdx] at e3
    cases e5 : bs[j]? with
    | none => rw [e5] at e3; cases e3
    | some d =>
      rw [e5] at e3
      simp at e3
      exact ⟨d, rfl, by rw [e3]; exact List.getElem_mem hj'⟩
theorem nameD_str {d : PyData} (h : nameD d = true) : ∃ z, d = .str z := by
  cases d <;> first | exact ⟨_, rfl⟩ | cases h
section
variable {bs : List PyData} {pre post : List (PyData × Nat)} {c : PyData × Nat}
theorem prev_str (ha : bs.zipIdx = pre ++ c :: post) (hp : ∀ x ∈ pre, badBox bs x = false) (h0 : 0 < c.2) : ∃ a, bs[c.2 - 1]? = some (.str a) := by
  obtain ⟨_, _, h⟩ := zip_split ha
  obtain ⟨d, h1, h2⟩ := h (c.2 - 1) (by omega)
  have q := hp _ h2
  simp only [badBox, Bool.or_eq_false_iff, Bool.not_eq_false'] at q
  obtain ⟨z, rfl⟩ := nameD_str q.1
  exact ⟨z, h1⟩
theorem t_box1 (ha : bs.zipIdx = pre ++ c :: post) (hp : ∀ x ∈ pre, badBox bs x = false) (hs : okS c.1 = true) :
    y_look_at_boxes_1 [some (.d (.list bs)), some (.d (.int c.2)), some (.d c.1)] = (if badBox bs c = true then .ex (exn (.str ("boxes" : Str), .none, .int c.2)) [some (.d (.list bs)), some (.d (.int c.2)), some (.d c.1)] else .ok .nx [some (.d (.list bs)), some (.d (.int c.2)), some (.d c.1)]) := by
  obtain ⟨d, k⟩ := c
  have hlim : lim = 100000 := rfl
  have q1 := t_is_name d hs
  simp only at ha hs ⊢
  cases hn : nameD d with
  | false =>
    rw [hn] at q1
    simp [y_look_at_boxes_1, dfn, mseq, sif, sret, sset, sdrop, sasg, dandV, dorV, dnotV, dand, dor, dnot, dval, dop, dcallb, dcons, dget, mret, mno, mbind, mopt, gIsi, isT, dbackT, restore, dchain, chainMid, chainRest, onD, pLe2, pLt, pGt, pGe, keepm, dlst, dtup, mkLst, mkTup, allD, short, dcall, dcallF, mset, sraise, xraise, q1, badBox, hn, exn]
  | true =>
    rw [hn] at q1
    obtain ⟨b, rfl⟩ := nameD_str hn
    by_cases h0 : 0 < k
    · obtain ⟨a, e⟩ := prev_str ha hp h0
      simp only at e
      have e2 : atI bs ((k : Int) - 1) = some (.str a) := by
        have : ((k : Int) - 1) = ((k - 1 : Nat) : Int) := by omega
        rw [this]
        exact atI_nat _ _ e
      have i0 : decide ((0 : Int) < (k : Int)) = true := decide_eq_true (by omega)
      have lb : leS b a = !strLt a b := rfl
      cases hu : strLt a b with
      | true => simp [y_look_at_boxes_1, dfn, mseq, sif, sret, sset, sdrop, sasg, dandV, dorV, dnotV, dand, dor, dnot, dval, dop, dcallb, dcons, dget, mret, mno, mbind, mopt, gIsi, isT, dbackT, restore, dchain, chainMid, chainRest, onD, pLe2, pLt, pGt, pGe, keepm, dlst, dtup, mkLst, mkTup, allD, short, dcall, dcallF, mset, sraise, xraise, q1, badBox, hn, exn, i0, pSub, pII, pIx, e2, lb, hu, h0, e, notUp]
      | false => simp [y_look_at_boxes_1, dfn, mseq, sif, sret, sset, sdrop, sasg, dandV, dorV, dnotV, dand, dor, dnot, dval, dop, dcallb, dcons, dget, mret, mno, mbind, mopt, gIsi, isT, dbackT, restore, dchain, chainMid, chainRest, onD, pLe2, pLt, pGt, pGe, keepm, dlst, dtup, mkLst, mkTup, allD, short, dcall, dcallF, mset, sraise, xraise, q1, badBox, hn, exn, i0, pSub, pII, pIx, e2, lb, hu, h0, e, notUp]
    · have i0 : decide ((0 : Int) < (k : Int)) = false := decide_eq_false (by omega)
      simp [y_look_at_boxes_1, dfn, mseq, sif, sret, sset, sdrop, sasg, dandV, dorV, dnotV, dand, dor, dnot, dval, dop, dcallb, dcons, dget, mret, mno, mbind, mopt, gIsi, isT, dbackT, restore, dchain, chainMid, chainRest, onD, pLe2, pLt, pGt, pGe, keepm, dlst, dtup, mkLst, mkTup, allD, short, dcall, dcallF, mset, sraise, xraise, q1, badBox, hn, exn, i0, h0]
end
theorem mt_num (i j : Nat) (x : PyData) (k : Nat) (ρ : Rho) : mtup [mset i, mset j] (.d (numD (x, k))) ρ = .ok () ((ρ.set i (some (.d (.int k)))).set j (some (.d x))) := rfl
theorem t_look_at_boxes (x : PyData) (hx : okB x) : Outs (f_look_at_boxes [.d x]) (fun v ρ => v = .d .none ∧ ρ = [some (.d x)] ∧ dueB x = none) (fun e ρ => ρ = [some (.d x)] ∧ ∃ t, dueB x = some t ∧ e = exn t) := by
  have hlim : lim = 100000 := rfl
  cases x with
  | list bs =>
    have hl : gLen [.d (.list bs)] = some (.d (.int bs.length)) := rfl
    refine outs_fn ?_
    by_cases hb : 1 ≤ bs.length ∧ bs.length ≤ 4
    · have i1 : decide ((1 : Int) ≤ (bs.length : Int)) = true := decide_eq_true (by omega)
      have i2 : decide ((bs.length : Int) ≤ 4) = true := decide_eq_true (by omega)
      refine outs_nx (ρ' := [some (.d (.list bs)), none, none]) (by simp [dfn, mseq, sif, sret, sset, sdrop, sasg, dandV, dorV, dnotV, dand, dor, dnot, dval, dop, dcallb, dcons, dget, mret, mno, mbind, mopt, gIsi, isT, dbackT, restore, dchain, chainMid, chainRest, onD, pLe2, pLt, pGt, pGe, keepm, dlst, dtup, mkLst, mkTup, allD, short, dcall, dcallF, mset, sraise, xraise, hl, i1, i2, D_MOST_BOXES]) ?_
      refine outs_bind' (a := bs.zipIdx.map numD) (ρ' := [some (.d (.list bs)), none, none]) (by rw [← numbered_zip]; rfl) ?_
      rw [List.map_map]
      have hd : dueB (.list bs) = (bs.zipIdx.find? (badBox bs)).map fun p => (.str ("boxes" : Str), .none, .int p.2) := if_pos hb
      refine (outs_find (fun p => T.d (numD p)) (badBox bs) (fun ρ => ∃ o1 o2, ρ = [some (.d (.list bs)), o1, o2]) (fun c fl ρ => False) (fun c e ρ => (∃ o1 o2, ρ = [some (.d (.list bs)), o1, o2]) ∧ e = exn (.str ("boxes" : Str), .none, .int c.2)) bs.zipIdx ?_ ?_ bs.zipIdx [] _ rfl (fun _ h => nomatch h) ⟨none, none, rfl⟩).mono ?_ ?_
      · rintro pre c post ρ ha hp ⟨o1, o2, rfl⟩ hc
        have q := t_box1 ha hp (hx.2 c.1 (List.mem_of_getElem? (zip_split ha).2.1))
        rw [if_neg (by rw [hc]; decide)] at q
        exact Outs.eq (mt_num 1 2 c.1 c.2 _) (Outs.eq q ⟨rfl, _, _, rfl⟩)
      · rintro pre c post ρ ha hp ⟨o1, o2, rfl⟩ hc
        have q := t_box1 ha hp (hx.2 c.1 (List.mem_of_getElem? (zip_split ha).2.1))
        rw [if_pos hc] at q
        exact Outs.eq (mt_num 1 2 c.1 c.2 _) (Outs.eqX q ⟨⟨_, _, rfl⟩, rfl⟩)
      · rintro fl ρ (⟨h1, rfl, o1, o2, rfl⟩ | ⟨c, _, h⟩)
        · exact ⟨rfl, rfl, by rw [hd, h1]; rfl⟩
        · exact h.elim
      · rintro e ρ ⟨c, h1, ⟨o1, o2, rfl⟩, rfl⟩
        exact ⟨rfl, _, by rw [hd, h1]; rfl, rfl⟩
    · have hd : dueB (.list bs) = some (.str ("boxes" : Str), .none, .none) := if_neg hb
      refine outs_seq ?_
      have q : (decide ((1 : Int) ≤ (bs.length : Int)) = true ∧ decide ((bs.length : Int) ≤ 4) = false) ∨ decide ((1 : Int) ≤ (bs.length : Int)) = false := by
        by_cases h1 : 1 ≤ bs.length
        · exact .inl ⟨decide_eq_true (by omega), decide_eq_false (by omega)⟩
        · exact .inr (decide_eq_false (by omega))
      rw [hd]
      rcases q with ⟨i1, i2⟩ | i1
      · refine Outs.eqX (x := exn (.str ("boxes" : Str), .none, .none)) (ρ := [some (.d (.list bs)), none, none]) (by simp [dfn, mseq, sif, sret, sset, sdrop, sasg, dandV, dorV, dnotV, dand, dor, dnot, dval, dop, dcallb, dcons, dget, mret, mno, mbind, mopt, gIsi, isT, dbackT, restore, dchain, chainMid, chainRest, onD, pLe2, pLt, pGt, pGe, keepm, dlst, dtup, mkLst, mkTup, allD, short, dcall, dcallF, mset, sraise, xraise, hl, i1, i2, D_MOST_BOXES, exn]) ⟨rfl, _, rfl, rfl⟩
      · refine Outs.eqX (x := exn (.str ("boxes" : Str), .none, .none)) (ρ := [some (.d (.list bs)), none, none]) (by simp [dfn, mseq, sif, sret, sset, sdrop, sasg, dandV, dorV, dnotV, dand, dor, dnot, dval, dop, dcallb, dcons, dget, mret, mno, mbind, mopt, gIsi, isT, dbackT, restore, dchain, chainMid, chainRest, onD, pLe2, pLt, pGt, pGe, keepm, dlst, dtup, mkLst, mkTup, allD, short, dcall, dcallF, mset, sraise, xraise, hl, i1, D_MOST_BOXES, exn]) ⟨rfl, _, rfl, rfl⟩
  | _ => exact ⟨rfl, _, rfl, rfl⟩

def badHand (p : PyData × Nat) : Bool := match p.1 with
  | .list ds => decide (8 < ds.length)
  | _ => true
def dueHs : PyData → Option Due
  | .list hs => if 1 ≤ hs.length ∧ hs.length ≤ 4 then (hs.zipIdx.find? badHand).map fun p => (.str ("hands" : Str), .int p.2, .none) else some (.str ("hands" : Str), .none, .none)
  | _ => some (.str ("hands" : Str), .none, .none)
def listOf : PyData → List PyData
  | .list ds => ds
  | _ => []
def badDeed (bs : List PyData) (p : PyData × Nat) : Bool := !deedOf bs p.1
def badLine (bs : List PyData) (p : PyData × Nat) : Bool := ((listOf p.1).zipIdx.find? (badDeed bs)).isSome
def dueDs (bs hs : List PyData) : Option Due := (hs.zipIdx.find? (badLine bs)).bind fun p => ((listOf p.1).zipIdx.find? (badDeed bs)).map fun q => (.str ("deeds" : Str), .int p.2, .int q.2)
def total (hs : List PyData) : Nat := (hs.map fun h => (listOf h).length).sum
def dueT (hs : List PyData) : Option Due := if 16 < total hs then some (.str ("deeds" : Str), .none, .none) else none
def dueH (b h : PyData) : Option Due := match dueHs h with
  | some t => some t
  | none => match dueDs (listOf b) (listOf h) with
    | some t => some t
    | none => dueT (listOf h)
def due : PyData → Option Due
  | .tuple [b, h] => match dueB b with
    | some t => some t
    | none => dueH b h
  | _ => some (.str ("program" : Str), .none, .none)
def okH : PyData → Prop
  | .list hs => hs.length ≤ 1000 ∧ ∀ d ∈ hs, (listOf d).length ≤ 1000 ∧ ∀ y ∈ listOf d, okThing y = true
  | _ => True
theorem t_hand1 (hs : List PyData) (c : PyData × Nat) :
    y_look_at_hands_1 [some (.d (.list hs)), some (.d (.int c.2)), some (.d c.1)] = (if badHand c = true then .ex (exn (.str ("hands" : Str), .int c.2, .none)) [some (.d (.list hs)), some (.d (.int c.2)), some (.d c.1)] else .ok .nx [some (.d (.list hs)), some (.d (.int c.2)), some (.d c.1)]) := by
  obtain ⟨d, k⟩ := c
  cases d with
  | list ds =>
    have hl : gLen [.d (.list ds)] = some (.d (.int ds.length)) := rfl
    by_cases h : 8 < ds.length
    · have i1 : decide ((8 : Int) < (ds.length : Int)) = true := decide_eq_true (by omega)
      simp [y_look_at_hands_1, dfn, mseq, sif, sret, sset, sdrop, sasg, dandV, dorV, dnotV, dand, dor, dnot, dval, dop, dcallb, dcons, dget, mret, mno, mbind, mopt, gIsi, isT, dbackT, restore, dchain, chainMid, chainRest, onD, pLe2, pLt, pGt, pGe, keepm, dlst, dtup, mkLst, mkTup, allD, short, dcall, dcallF, mset, sraise, xraise, hl, i1, badHand, h, exn, D_MOST_DEEDS]
    · have i1 : decide ((8 : Int) < (ds.length : Int)) = false := decide_eq_false (by omega)
      simp [y_look_at_hands_1, dfn, mseq, sif, sret, sset, sdrop, sasg, dandV, dorV, dnotV, dand, dor, dnot, dval, dop, dcallb, dcons, dget, mret, mno, mbind, mopt, gIsi, isT, dbackT, restore, dchain, chainMid, chainRest, onD, pLe2, pLt, pGt, pGe, keepm, dlst, dtup, mkLst, mkTup, allD, short, dcall, dcallF, mset, sraise, xraise, hl, i1, badHand, h, exn, D_MOST_DEEDS]
  | _ => rfl
theorem t_look_at_hands (x : PyData) : Outs (f_look_at_hands [.d x]) (fun v ρ => v = .d .none ∧ ρ = [some (.d x)] ∧ dueHs x = none) (fun e ρ => ρ = [some (.d x)] ∧ ∃ t, dueHs x = some t ∧ e = exn t) := by
  have hlim : lim = 100000 := rfl
  cases x with
  | list bs =>
    have hl : gLen [.d (.list bs)] = some (.d (.int bs.length)) := rfl
    refine outs_fn ?_
    by_cases hb : 1 ≤ bs.length ∧ bs.length ≤ 4
    · have i1 : decide ((1 : Int) ≤ (bs.length : Int)) = true := decide_eq_true (by omega)
      have i2 : decide ((bs.length : Int) ≤ 4) = true := decide_eq_true (by omega)
      refine outs_nx (ρ' := [some (.d (.list bs)), none, none]) (by simp [dfn, mseq, sif, sret, sset, sdrop, sasg, dandV, dorV, dnotV, dand, dor, dnot, dval, dop, dcallb, dcons, dget, mret, mno, mbind, mopt, gIsi, isT, dbackT, restore, dchain, chainMid, chainRest, onD, pLe2, pLt, pGt, pGe, keepm, dlst, dtup, mkLst, mkTup, allD, short, dcall, dcallF, mset, sraise, xraise, hl, i1, i2, D_MOST_HANDS]) ?_
      refine outs_bind' (a := bs.zipIdx.map numD) (ρ' := [some (.d (.list bs)), none, none]) (by rw [← numbered_zip]; rfl) ?_
      rw [List.map_map]
      have hd : dueHs (.list bs) = (bs.zipIdx.find? badHand).map fun p => (.str ("hands" : Str), .int p.2, .none) := if_pos hb
      refine (outs_find (fun p => T.d (numD p)) badHand (fun ρ => ∃ o1 o2, ρ = [some (.d (.list bs)), o1, o2]) (fun c fl ρ => False) (fun c e ρ => (∃ o1 o2, ρ = [some (.d (.list bs)), o1, o2]) ∧ e = exn (.str ("hands" : Str), .int c.2, .none)) bs.zipIdx ?_ ?_ bs.zipIdx [] _ rfl (fun _ h => nomatch h) ⟨none, none, rfl⟩).mono ?_ ?_
      · rintro pre c post ρ ha hp ⟨o1, o2, rfl⟩ hc
        have q := t_hand1 bs c
        rw [if_neg (by rw [hc]; decide)] at q
        exact Outs.eq (mt_num 1 2 c.1 c.2 _) (Outs.eq q ⟨rfl, _, _, rfl⟩)
      · rintro pre c post ρ ha hp ⟨o1, o2, rfl⟩ hc
        have q := t_hand1 bs c
        rw [if_pos hc] at q
        exact Outs.eq (mt_num 1 2 c.1 c.2 _) (Outs.eqX q ⟨⟨_, _, rfl⟩, rfl⟩)
      · rintro fl ρ (⟨h1, rfl, o1, o2, rfl⟩ | ⟨c, _, h⟩)
        · exact ⟨rfl, rfl, by rw [hd, h1]; rfl⟩
        · exact h.elim
      · rintro e ρ ⟨c, h1, ⟨o1, o2, rfl⟩, rfl⟩
        exact ⟨rfl, _, by rw [hd, h1]; rfl, rfl⟩
    · have hd : dueHs (.list bs) = some (.str ("hands" : Str), .none, .none) := if_neg hb
      refine outs_seq ?_
      have q : (decide ((1 : Int) ≤ (bs.length : Int)) = true ∧ decide ((bs.length : Int) ≤ 4) = false) ∨ decide ((1 : Int) ≤ (bs.length : Int)) = false := by
        by_cases h1 : 1 ≤ bs.length
        · exact .inl ⟨decide_eq_true (by omega), decide_eq_false (by omega)⟩
        · exact .inr (decide_eq_false (by omega))
      rw [hd]
      rcases q with ⟨i1, i2⟩ | i1
      · refine Outs.eqX (x := exn (.str ("hands" : Str), .none, .none)) (ρ := [some (.d (.list bs)), none, none]) (by simp [dfn, mseq, sif, sret, sset, sdrop, sasg, dandV, dorV, dnotV, dand, dor, dnot, dval, dop, dcallb, dcons, dget, mret, mno, mbind, mopt, gIsi, isT, dbackT, restore, dchain, chainMid, chainRest, onD, pLe2, pLt, pGt, pGe, keepm, dlst, dtup, mkLst, mkTup, allD, short, dcall, dcallF, mset, sraise, xraise, hl, i1, i2, D_MOST_HANDS, exn]) ⟨rfl, _, rfl, rfl⟩
      · refine Outs.eqX (x := exn (.str ("hands" : Str), .none, .none)) (ρ := [some (.d (.list bs)), none, none]) (by simp [dfn, mseq, sif, sret, sset, sdrop, sasg, dandV, dorV, dnotV, dand, dor, dnot, dval, dop, dcallb, dcons, dget, mret, mno, mbind, mopt, gIsi, isT, dbackT, restore, dchain, chainMid, chainRest, onD, pLe2, pLt, pGt, pGe, keepm, dlst, dtup, mkLst, mkTup, allD, short, dcall, dcallF, mset, sraise, xraise, hl, i1, D_MOST_HANDS, exn]) ⟨rfl, _, rfl, rfl⟩
  | _ => exact ⟨rfl, _, rfl, rfl⟩
theorem dueHs_none {x : PyData} (h : dueHs x = none) : ∃ hs, x = .list hs ∧ 1 ≤ hs.length ∧ hs.length ≤ 4 ∧ ∀ d ∈ hs, ∃ ds, d = .list ds ∧ ds.length ≤ 8 := by
  cases x with
  | list hs =>
    change (if 1 ≤ hs.length ∧ hs.length ≤ 4 then _ else _) = none at h
    by_cases hb : 1 ≤ hs.length ∧ hs.length ≤ 4
    · rw [if_pos hb] at h
      refine ⟨hs, rfl, hb.1, hb.2, fun d m => ?_⟩
      have h := Option.map_eq_none_iff.mp h
      obtain ⟨i, hi, e⟩ := List.getElem_of_mem m
      have q := List.find?_eq_none.mp h (d, i) (by rw [List.mem_zipIdx_iff_getElem?, List.getElem?_eq_getElem hi, e])
      cases d with
      | list ds =>
        refine ⟨ds, rfl, ?_⟩
        simp [badHand] at q
        omega
      | _ => exact absurd rfl q
    · rw [if_neg hb] at h
      cases h
  | _ => cases h
theorem dueB_none {x : PyData} (h : dueB x = none) : ∃ bs, x = .list bs ∧ 1 ≤ bs.length ∧ bs.length ≤ 4 ∧ (∀ d ∈ bs, nameD d = true) ∧ bs.zipIdx.find? (badBox bs) = none := by
  cases x with
  | list bs =>
    change (if 1 ≤ bs.length ∧ bs.length ≤ 4 then _ else _) = none at h
    by_cases hb : 1 ≤ bs.length ∧ bs.length ≤ 4
    · rw [if_pos hb] at h
      have h := Option.map_eq_none_iff.mp h
      refine ⟨bs, rfl, hb.1, hb.2, fun d m => ?_, h⟩
      obtain ⟨i, hi, e⟩ := List.getElem_of_mem m
      have q := List.find?_eq_none.mp h (d, i) (by rw [List.mem_zipIdx_iff_getElem?, List.getElem?_eq_getElem hi, e])
      simp only [badBox, Bool.not_eq_true, Bool.or_eq_false_iff, Bool.not_eq_false'] at q
      exact q.1
    · rw [if_neg hb] at h
      cases h
  | _ => cases h
theorem names_strs {bs : List PyData} (h : ∀ d ∈ bs, nameD d = true) : Strs bs := fun d m => nameD_str (h d m)
theorem t_deed1 (x b h : PyData) (bs : List PyData) (o3 o4 : Option T) (hb : Strs bs) (c : PyData × Nat) (hc : okThing c.1 = true) (k : Nat) :
    y_look_at_1 [some (.d x), some (.d (.list bs)), some (.d h), some (.d (.int k)), o4, some (.d (.int c.2)), some (.d c.1)] =
      (if badDeed bs c = true then .ex (exn (.str ("deeds" : Str), .int k, .int c.2)) [some (.d x), some (.d (.list bs)), some (.d h), some (.d (.int k)), o4, some (.d (.int c.2)), some (.d c.1)]
        else .ok .nx [some (.d x), some (.d (.list bs)), some (.d h), some (.d (.int k)), o4, some (.d (.int c.2)), some (.d c.1)]) := by
  have q := t_is_deed bs hb c.1 hc
  unfold badDeed
  cases hd : deedOf bs c.1 with
  | true => rw [hd] at q; simp [y_look_at_1, dfn, mseq, sif, sret, sset, sdrop, sasg, dandV, dorV, dnotV, dand, dor, dnot, dval, dop, dcallb, dcons, dget, mret, mno, mbind, mopt, gIsi, isT, dbackT, restore, dchain, chainMid, chainRest, onD, pLe2, pLt, pGt, pGe, keepm, dlst, dtup, mkLst, mkTup, allD, short, dcall, dcallF, mset, sraise, xraise, q, exn]
  | false => rw [hd] at q; simp [y_look_at_1, dfn, mseq, sif, sret, sset, sdrop, sasg, dandV, dorV, dnotV, dand, dor, dnot, dval, dop, dcallb, dcons, dget, mret, mno, mbind, mopt, gIsi, isT, dbackT, restore, dchain, chainMid, chainRest, onD, pLe2, pLt, pGt, pGe, keepm, dlst, dtup, mkLst, mkTup, allD, short, dcall, dcallF, mset, sraise, xraise, q, exn]
theorem t_line1 (x h : PyData) (bs : List PyData) (hb : Strs bs) (ds : List PyData) (hd : ∀ y ∈ ds, okThing y = true) (k : Nat) (o5 o6 : Option T) :
    Outs (y_look_at_2 [some (.d x), some (.d (.list bs)), some (.d h), some (.d (.int k)), some (.d (.list ds)), o5, o6])
      (fun fl ρ => fl = .nx ∧ ds.zipIdx.find? (badDeed bs) = none ∧ ∃ o5 o6, ρ = [some (.d x), some (.d (.list bs)), some (.d h), some (.d (.int k)), some (.d (.list ds)), o5, o6])
      (fun e ρ => (∃ o5 o6, ρ = [some (.d x), some (.d (.list bs)), some (.d h), some (.d (.int k)), some (.d (.list ds)), o5, o6]) ∧ ∃ q, ds.zipIdx.find? (badDeed bs) = some q ∧ e = exn (.str ("deeds" : Str), .int k, .int q.2)) := by
  unfold y_look_at_2 sfor
  refine outs_bind' (a := ds.zipIdx.map numD) (ρ' := [some (.d x), some (.d (.list bs)), some (.d h), some (.d (.int k)), some (.d (.list ds)), o5, o6]) (by rw [← numbered_zip]; rfl) ?_
  rw [List.map_map]
  refine (outs_find (fun p => T.d (numD p)) (badDeed bs) (fun ρ => ∃ o5 o6, ρ = [some (.d x), some (.d (.list bs)), some (.d h), some (.d (.int k)), some (.d (.list ds)), o5, o6]) (fun c fl ρ => False) (fun c e ρ => (∃ o5 o6, ρ = [some (.d x), some (.d (.list bs)), some (.d h), some (.d (.int k)), some (.d (.list ds)), o5, o6]) ∧ e = exn (.str ("deeds" : Str), .int k, .int c.2)) ds.zipIdx ?_ ?_ ds.zipIdx [] _ rfl (fun _ h => nomatch h) ⟨_, _, rfl⟩).mono ?_ ?_
  · rintro pre c post ρ ha hp ⟨o1, o2, rfl⟩ hc
    have q := t_deed1 x (.list bs) h bs (some (.d (.int k))) (some (.d (.list ds))) hb c (hd c.1 (List.mem_of_getElem? (zip_split ha).2.1)) k
    rw [if_neg (by rw [hc]; decide)] at q
    exact Outs.eq (mt_num 5 6 c.1 c.2 _) (Outs.eq q ⟨rfl, _, _, rfl⟩)
  · rintro pre c post ρ ha hp ⟨o1, o2, rfl⟩ hc
    have q := t_deed1 x (.list bs) h bs (some (.d (.int k))) (some (.d (.list ds))) hb c (hd c.1 (List.mem_of_getElem? (zip_split ha).2.1)) k
    rw [if_pos hc] at q
    exact Outs.eq (mt_num 5 6 c.1 c.2 _) (Outs.eqX q ⟨⟨_, _, rfl⟩, rfl⟩)
  · rintro fl ρ (⟨h1, rfl, o1, o2, rfl⟩ | ⟨c, _, h⟩)
    · exact ⟨rfl, h1, _, _, rfl⟩
    · exact h.elim
  · rintro e ρ ⟨c, h1, ⟨o1, o2, rfl⟩, rfl⟩
    exact ⟨⟨_, _, rfl⟩, c, h1, rfl⟩
theorem ints_total : ∀ (hs : List PyData), intsD (hs.map fun h => PyData.int ((listOf h).length : Nat)) = some (hs.map fun h => ((listOf h).length : Int))
  | [] => rfl
  | h :: hs => by rw [List.map_cons, intsD, ints_total hs]; rfl
theorem sum_total : ∀ (hs : List PyData), (hs.map fun h => ((listOf h).length : Int)).sum = (total hs : Int)
  | [] => rfl
  | h :: hs => by
    have := sum_total hs
    simp only [total, List.map_cons, List.sum_cons] at this ⊢
    rw [this]
    omega
theorem sum_line (ρ : Rho) (i j : Nat) (hs : List PyData) (hi : ρ[i]? = some (some (.d (.list hs)))) (hij : i ≠ j) (hj : j < ρ.length) (hl : hs.length ≤ 4) (hh : ∀ d ∈ hs, ∃ ds, d = .list ds) :
    dlc (dseq (dget i)) [j] (mset j) (mret true) (dcallb gLen [none] (dcons (dget j) (mret []))) ρ = .ok (.d (.list (hs.map fun h => PyData.int ((listOf h).length : Nat)))) (ρ.set j none) := by
  have hlim : lim = 100000 := rfl
  refine dlc_pure (fi := dseq (dget i)) (vs := [j]) (ρ1 := ρ) (ds := hs) (fun h => PyData.int ((listOf h).length : Nat)) ?_ (fun d hd => ?_) (by omega)
  · simp [dfn, mseq, sif, sret, sset, sdrop, sasg, dandV, dorV, dnotV, dand, dor, dnot, dval, dop, dcallb, dcons, dget, mret, mno, mbind, mopt, gIsi, isT, dbackT, restore, dchain, chainMid, chainRest, onD, pLe2, pLt, pGt, pGe, keepm, dlst, dtup, mkLst, mkTup, allD, short, dcall, dcallF, mset, dseq, hi, seqItems]
  · obtain ⟨ds, rfl⟩ := hh d hd
    refine ⟨(ρ.set j none).set j (some (.d (.list ds))), (ρ.set j none).set j (some (.d (.list ds))), rfl, ?_, ?_⟩
    · have e : ((ρ.set j none).set j (some (.d (.list ds))))[j]? = some (some (.d (.list ds))) := by rw [List.getElem?_set_self (by rw [List.length_set]; exact hj)]
      rw [List.set_set] at e
      simp [dfn, mseq, sif, sret, sset, sdrop, sasg, dandV, dorV, dnotV, dand, dor, dnot, dval, dop, dcallb, dcons, dget, mret, mno, mbind, mopt, gIsi, isT, dbackT, restore, dchain, chainMid, chainRest, onD, pLe2, pLt, pGt, pGe, keepm, dlst, dtup, mkLst, mkTup, allD, short, dcall, dcallF, mset, e, gLen, listOf]
    · simp [wipeR]
theorem sum16 (hs : List PyData) : gSum [.d (.list (hs.map fun h => PyData.int ((listOf h).length : Nat)))] = some (.d (.int (total hs))) := by
  simp only [gSum, ints_total, Option.map_some, sum_total]
def okX : PyData → Prop
  | .tuple [b, h] => okB b ∧ okH h
  | _ => True
theorem len_ne2 {n : Nat} (h : n ≠ 2) : okEq (.int (n : Int)) (.int 2) = true ∧ PyData.eqv (.int (n : Int)) (.int 2) = false := by
  refine ⟨by simp [okEq, PyData.plain, PyData.depth], ?_⟩
  simp only [PyData.eqv]
  simp
  omega
theorem len_eq2 : okEq (.int (2 : Int)) (.int 2) = true ∧ PyData.eqv (.int (2 : Int)) (.int 2) = true := ⟨by decide, by decide⟩
theorem t_lines (x : PyData) (bs hs : List PyData) (hb : Strs bs) (hh : ∀ d ∈ hs, ∃ ds, d = .list ds ∧ ds.length ≤ 8) (hd : ∀ d ∈ hs, ∀ y ∈ listOf d, okThing y = true) (o3 o4 o5 o6 : Option T) :
    Outs (sfor (denum (dcons (dget 2) (mret []))) (mtup [mset 3, mset 4]) y_look_at_2 [some (.d x), some (.d (.list bs)), some (.d (.list hs)), o3, o4, o5, o6])
      (fun fl ρ => fl = .nx ∧ dueDs bs hs = none ∧ ∃ o3 o4 o5 o6, ρ = [some (.d x), some (.d (.list bs)), some (.d (.list hs)), o3, o4, o5, o6])
      (fun e ρ => (∃ o3 o4 o5 o6, ρ = [some (.d x), some (.d (.list bs)), some (.d (.list hs)), o3, o4, o5, o6]) ∧ ∃ t, dueDs bs hs = some t ∧ e = exn t) := by
  refine outs_bind' (a := hs.zipIdx.map numD) (ρ' := [some (.d x), some (.d (.list bs)), some (.d (.list hs)), o3, o4, o5, o6]) (by rw [← numbered_zip]; rfl) ?_
  rw [List.map_map]
  refine (outs_find (fun p => T.d (numD p)) (badLine bs) (fun ρ => ∃ o3 o4 o5 o6, ρ = [some (.d x), some (.d (.list bs)), some (.d (.list hs)), o3, o4, o5, o6]) (fun c fl ρ => False)
    (fun c e ρ => (∃ o3 o4 o5 o6, ρ = [some (.d x), some (.d (.list bs)), some (.d (.list hs)), o3, o4, o5, o6]) ∧ ∃ q, (listOf c.1).zipIdx.find? (badDeed bs) = some q ∧ e = exn (.str ("deeds" : Str), .int c.2, .int q.2)) hs.zipIdx ?_ ?_ hs.zipIdx [] _ rfl (fun _ h => nomatch h) ⟨_, _, _, _, rfl⟩).mono ?_ ?_
  · rintro pre c post ρ ha hp ⟨o1, o2, o3, o4, rfl⟩ hc
    obtain ⟨d, k⟩ := c
    have dm := List.mem_of_getElem? (zip_split ha).2.1
    obtain ⟨ds, rfl, _⟩ := hh d dm
    refine Outs.eq (mt_num 3 4 _ k _) ((t_line1 x (.list hs) bs hb ds (hd _ dm) k o3 o4).mono ?_ ?_)
    · rintro fl ρ ⟨rfl, _, o5, o6, rfl⟩
      exact ⟨rfl, _, _, _, _, rfl⟩
    · rintro e ρ ⟨_, q, h1, _⟩
      have : (ds.zipIdx.find? (badDeed bs)).isSome = false := hc
      rw [h1] at this
      cases this
  · rintro pre c post ρ ha hp ⟨o1, o2, o3, o4, rfl⟩ hc
    obtain ⟨d, k⟩ := c
    have dm := List.mem_of_getElem? (zip_split ha).2.1
    obtain ⟨ds, rfl, _⟩ := hh d dm
    refine Outs.eq (mt_num 3 4 _ k _) ((t_line1 x (.list hs) bs hb ds (hd _ dm) k o3 o4).mono ?_ ?_)
    · rintro fl ρ ⟨_, h1, _⟩
      have : (ds.zipIdx.find? (badDeed bs)).isSome = true := hc
      rw [h1] at this
      cases this
    · rintro e ρ ⟨⟨o5, o6, rfl⟩, q, h1, rfl⟩
      exact ⟨⟨_, _, _, _, rfl⟩, q, h1, rfl⟩
  · rintro fl ρ (⟨h1, rfl, h2⟩ | ⟨c, _, h⟩)
    · exact ⟨rfl, by unfold dueDs; rw [h1]; rfl, h2⟩
    · exact h.elim
  · rintro e ρ ⟨c, h1, h2, q, h3, rfl⟩
    exact ⟨h2, _, by unfold dueDs; rw [h1]; simp [h3], rfl⟩
theorem t_look_at (x : PyData) (hx : okX x) : Outs (f_look_at [.d x]) (fun v ρ => v = .d .none ∧ ρ = [some (.d x)] ∧ due x = none) (fun e ρ => ρ = [some (.d x)] ∧ ∃ t, due x = some t ∧ e = exn t) := by
  have hlim : lim = 100000 := rfl
  cases x with
  | tuple ys =>
    by_cases h2 : ys.length = 2
    · match ys, h2 with
      | [b, h], _ =>
        obtain ⟨l1, l2⟩ := len_eq2
        have gl : gLen [.d (.tuple [b, h])] = some (.d (.int 2)) := rfl
        refine outs_fn ?_
        refine outs_nx (ρ' := [some (.d (.tuple [b, h])), none, none, none, none, none, none]) (by simp [dfn, mseq, sif, sret, sset, sdrop, sasg, dandV, dorV, dnotV, dand, dor, dnot, dval, dop, dcallb, dcons, dget, mret, mno, mbind, mopt, gIsi, isT, dbackT, restore, dchain, chainMid, chainRest, onD, pLe2, pLt, pGt, pGe, keepm, dlst, dtup, mkLst, mkTup, allD, short, dcall, dcallF, mset, gl, pNe, l1, l2]) ?_
        refine outs_nx (ρ' := [some (.d (.tuple [b, h])), some (.d b), some (.d h), none, none, none, none]) rfl ?_
        refine outs_seq (outs_bind (outs_call (vs := [.d b]) (ρ' := [some (.d (.tuple [b, h])), some (.d b), some (.d h), none, none, none, none]) rfl ((t_look_at_boxes b hx.1).mono ?_ ?_)))
        · rintro v ρ ⟨rfl, rfl, hb0⟩
          refine outs_seq (outs_bind (outs_call (vs := [.d h]) (ρ' := [some (.d (.tuple [b, h])), some (.d b), some (.d h), none, none, none, none]) rfl ((t_look_at_hands h).mono ?_ ?_)))
          · rintro v ρ ⟨rfl, rfl, hh0⟩
            obtain ⟨bs, rfl, _, _, hb1, _⟩ := dueB_none hb0
            obtain ⟨hs, rfl, hl1, hl4, hh1⟩ := dueHs_none hh0
            have dd : due (.tuple [.list bs, .list hs]) = (match dueDs bs hs with | some t => some t | none => dueT hs) := by
              simp [due, hb0, dueH, hh0, listOf]
            refine outs_seq ((t_lines (.tuple [.list bs, .list hs]) bs hs (names_strs hb1) hh1 (fun d m => (hx.2.2 d m).2) none none none none).mono ?_ ?_)
            · rintro fl ρ ⟨rfl, hd0, o3, o4, o5, o6, rfl⟩
              rw [hd0] at dd
              have s1 := sum_line [some (.d (.tuple [.list bs, .list hs])), some (.d (.list bs)), some (.d (.list hs)), o3, o4, o5, o6] 2 4 hs rfl (by decide) (by simp) hl4 fun d m => by obtain ⟨ds, e, _⟩ := hh1 d m; exact ⟨ds, e⟩
              have s2 := sum16 hs
              have s3 : l_look_at_3 [some (.d (.tuple [.list bs, .list hs])), some (.d (.list bs)), some (.d (.list hs)), o3, o4, o5, o6] = .ok (.d (.list (hs.map fun h => PyData.int ((listOf h).length : Nat)))) [some (.d (.tuple [.list bs, .list hs])), some (.d (.list bs)), some (.d (.list hs)), o3, none, o5, o6] := s1
              by_cases h16 : 16 < total hs
              · have i1 : decide ((16 : Int) < (total hs : Int)) = true := decide_eq_true (by omega)
                have dt : dueT hs = some (.str ("deeds" : Str), .none, .none) := if_pos h16
                refine Outs.eqX (x := exn (.str ("deeds" : Str), .none, .none)) (ρ := [some (.d (.tuple [.list bs, .list hs])), some (.d (.list bs)), some (.d (.list hs)), o3, none, o5, o6]) (by simp [dfn, mseq, sif, sret, sset, sdrop, sasg, dandV, dorV, dnotV, dand, dor, dnot, dval, dop, dcallb, dcons, dget, mret, mno, mbind, mopt, gIsi, isT, dbackT, restore, dchain, chainMid, chainRest, onD, pLe2, pLt, pGt, pGe, keepm, dlst, dtup, mkLst, mkTup, allD, short, dcall, dcallF, mset, s3, s2, i1, D_MOST_TOGETHER, sraise, xraise, exn]) ⟨rfl, _, by rw [dd, dt], rfl⟩
              · have i1 : decide ((16 : Int) < (total hs : Int)) = false := decide_eq_false (by omega)
                have dt : dueT hs = none := if_neg h16
                refine Outs.eq (a := .nx) (ρ := [some (.d (.tuple [.list bs, .list hs])), some (.d (.list bs)), some (.d (.list hs)), o3, none, o5, o6]) (by simp [dfn, mseq, sif, sret, sset, sdrop, sasg, dandV, dorV, dnotV, dand, dor, dnot, dval, dop, dcallb, dcons, dget, mret, mno, mbind, mopt, gIsi, isT, dbackT, restore, dchain, chainMid, chainRest, onD, pLe2, pLt, pGt, pGe, keepm, dlst, dtup, mkLst, mkTup, allD, short, dcall, dcallF, mset, s3, s2, i1, D_MOST_TOGETHER]) ⟨rfl, rfl, by rw [dd, dt]⟩
            · rintro e ρ ⟨⟨o3, o4, o5, o6, rfl⟩, t, h1, rfl⟩
              exact ⟨rfl, t, by rw [dd, h1], rfl⟩
          · rintro e ρ ⟨rfl, t, h1, rfl⟩
            exact ⟨rfl, t, by simp [due, hb0, dueH, h1], rfl⟩
        · rintro e ρ ⟨rfl, t, h1, rfl⟩
          exact ⟨rfl, t, by simp [due, h1], rfl⟩
    · obtain ⟨l1, l2⟩ := len_ne2 h2
      have hd : due (.tuple ys) = some (.str ("program" : Str), .none, .none) := by
        match ys, h2 with
        | [], _ => rfl
        | [_], _ => rfl
        | [_, _], h => exact absurd rfl h
        | _ :: _ :: _ :: _, _ => rfl
      have gl : gLen [.d (.tuple ys)] = some (.d (.int ys.length)) := rfl
      rw [hd]
      refine outs_fn (outs_seq (Outs.eqX (x := exn (.str ("program" : Str), .none, .none)) (ρ := [some (.d (.tuple ys)), none, none, none, none, none, none]) (by simp [dfn, mseq, sif, sret, sset, sdrop, sasg, dandV, dorV, dnotV, dand, dor, dnot, dval, dop, dcallb, dcons, dget, mret, mno, mbind, mopt, gIsi, isT, dbackT, restore, dchain, chainMid, chainRest, onD, pLe2, pLt, pGt, pGe, keepm, dlst, dtup, mkLst, mkTup, allD, short, dcall, dcallF, mset, gl, pNe, l1, l2, sraise, xraise, exn]) ⟨rfl, _, rfl, rfl⟩))
  | _ => exact ⟨rfl, _, rfl, rfl⟩



def pT (a b : Int) : T := .lst [.d (.int a), .d (.int b)]
def PoolOk (b : Int) : Prop := 0 ≤ b ∧ b < 2147483647
theorem at_in {α : Type} {l : List α} {r : Int} (h0 : 0 ≤ r) (h1 : r < l.length) : ∃ x ∈ l, atI l r = some x := by
  obtain ⟨k, rfl⟩ : ∃ k : Nat, r = k := ⟨r.toNat, by omega⟩
  have hk : k < l.length := by omega
  exact ⟨l[k], List.getElem_mem hk, atI_nat l k (List.getElem?_eq_getElem hk)⟩
theorem oneOf_mem {z : Str} {ws : List PyData} (h : PyData.str z ∈ ws) : oneOf (.str z) ws = true := by
  show ws.any (fun y => PyData.eqv y (.str z)) = true
  rw [List.any_eq_true]
  exact ⟨_, h, by rw [eqv_ss]; simp⟩
theorem mul_small (i j : Int) (h : -(2 ^ 64) < j ∧ j < 2 ^ 64) : cMul i j = true := by
  unfold cMul
  rw [Bool.or_eq_true, Bool.or_eq_true]
  exact .inr (.inr (decide_eq_true h))
theorem mul_small' (i j : Int) (h : -(2 ^ 64) < i ∧ i < 2 ^ 64) : cMul i j = true := by
  unfold cMul
  rw [Bool.or_eq_true, Bool.or_eq_true]
  exact .inr (.inl (decide_eq_true h))
inductive Dd
  | read (n b m : Str) | write (b : Str) (w : PyData) (m : Str) | change (n b h : Str) (w : PyData) (m : Str) | swap (n b : Str) (k : Int) (w : PyData) (m : Str) | wait (n b : Str) (k : Int) (m : Str)
  | grab (n b : Str) (k : Int) (w : PyData) (m : Str) | fence (m : Str) | skip (n w : Str) (k s : Int) | claim (n w : Str) (k : Int)
def Dd.d : Dd → PyData
  | .read n b m => .tuple [.str ("read" : Str), .str n, .str b, .str m]
  | .write b w m => .tuple [.str ("write" : Str), .str b, w, .str m]
  | .change n b h w m => .tuple [.str ("change" : Str), .str n, .str b, .str h, w, .str m]
  | .swap n b k w m => .tuple [.str ("swap" : Str), .str n, .str b, .int k, w, .str m]
  | .wait n b k m => .tuple [.str ("wait" : Str), .str n, .str b, .int k, .str m]
  | .grab n b k w m => .tuple [.str ("grab" : Str), .str n, .str b, .int k, w, .str m]
  | .fence m => .tuple [.str ("fence" : Str), .str m]
  | .skip n w k s => .tuple [.str ("skip" : Str), .str n, .str w, .int k, .int s]
  | .claim n w k => .tuple [.str ("claim" : Str), .str n, .str w, .int k]
def rdS : List Str := ["plain", "loose", "taking"]
def wrS : List Str := ["plain", "loose", "giving"]
def chS : List Str := ["loose", "giving", "taking", "both"]
def feS : List Str := ["giving", "taking", "both"]
def hoS : List Str := ["add", "put"]
def woS : List Str := ["is", "isnt"]
def Dd.ok (bs : List Str) : Dd → Prop
  | .read n b m => nameS n = true ∧ b ∈ bs ∧ m ∈ rdS
  | .write b w m => b ∈ bs ∧ whatD w = true ∧ m ∈ wrS
  | .change n b h w m => nameS n = true ∧ b ∈ bs ∧ h ∈ hoS ∧ whatD w = true ∧ m ∈ chS
  | .swap n b k w m => nameS n = true ∧ b ∈ bs ∧ (0 ≤ k ∧ k ≤ 9) ∧ whatD w = true ∧ m ∈ chS
  | .wait n b k m => nameS n = true ∧ b ∈ bs ∧ (0 ≤ k ∧ k ≤ 9) ∧ m ∈ rdS
  | .grab n b k w m => nameS n = true ∧ b ∈ bs ∧ (0 ≤ k ∧ k ≤ 9) ∧ whatD w = true ∧ m ∈ chS
  | .fence m => m ∈ feS
  | .skip n w k s => nameS n = true ∧ w ∈ woS ∧ (0 ≤ k ∧ k ≤ 9) ∧ 1 ≤ s ∧ s ≤ 8
  | .claim n w k => nameS n = true ∧ w ∈ woS ∧ 0 ≤ k ∧ k ≤ 9
theorem whatD_okS {w : PyData} (h : whatD w = true) : okS w = true ∧ w.plain = true := by
  cases w with
  | str z =>
    have h : nameS z = true := h
    refine ⟨?_, rfl⟩
    unfold nameS at h
    simp only [Bool.and_eq_true, decide_eq_true_eq] at h
    show decide (z.length ≤ lim) = true
    exact decide_eq_true (Nat.le_trans h.2.1 (by decide))
  | int i => exact ⟨rfl, rfl⟩
  | _ => cases h

theorem sD {l : List Str} {z : Str} (h : z ∈ l) : oneOf (.str z) (l.map PyData.str) = true := oneOf_mem (List.mem_map.mpr ⟨z, h, rfl⟩)
theorem numD9 {k : Int} (h : 0 ≤ k ∧ k ≤ 9) : wholeD 0 9 (.int k) = true := by
  show (decide (0 ≤ k) && decide (k ≤ 9)) = true
  rw [decide_eq_true h.1, decide_eq_true h.2]
  rfl
theorem num18 {k : Int} (h : 1 ≤ k ∧ k ≤ 8) : wholeD 1 8 (.int k) = true := by
  show (decide (1 ≤ k) && decide (k ≤ 8)) = true
  rw [decide_eq_true h.1, decide_eq_true h.2]
  rfl
theorem allFit_nil (bs : List PyData) : allFit bs [] [] = true := rfl
theorem form_deed {bs : List PyData} {w : Str} {xs : List PyData} {ks : List Kd} (h : formOf w = some ks) (hl : xs.length = ks.length) (hf : allFit bs ks xs = true) : deedOf bs (.tuple (.str w :: xs)) = true := by
  show (match formOf w with
    | some ks => decide (xs.length = ks.length) && allFit bs ks xs
    | none => false) = true
  rw [h]
  show (decide (xs.length = ks.length) && allFit bs ks xs) = true
  rw [hf, hl]
  simp
theorem Dd.ok.deed {bs : List Str} {d : Dd} (h : d.ok bs) : deedOf (bs.map PyData.str) d.d = true := by
  cases d with
  | read n b m => exact form_deed (ks := [.name, .box, .reading]) (by kernel_rfl) rfl (by rw [allFit_cons, allFit_cons, allFit_cons, allFit_nil]; exact (by rw [show Kd.name.fits _ (.str n) = true from h.1, show Kd.box.fits _ (.str b) = true from sD h.2.1, show Kd.reading.fits _ (.str m) = true from sD h.2.2]; rfl))
  | write b w m => exact form_deed (ks := [.box, .what, .writing]) (by kernel_rfl) rfl (by rw [allFit_cons, allFit_cons, allFit_cons, allFit_nil]; exact (by rw [show Kd.box.fits _ (.str b) = true from sD h.1, show Kd.what.fits _ w = true from h.2.1, show Kd.writing.fits _ (.str m) = true from sD h.2.2]; rfl))
  | change n b x w m => exact form_deed (ks := [.name, .box, .how, .what, .changing]) (by kernel_rfl) rfl (by rw [allFit_cons, allFit_cons, allFit_cons, allFit_cons, allFit_cons, allFit_nil]; exact (by rw [show Kd.name.fits _ (.str n) = true from h.1, show Kd.box.fits _ (.str b) = true from sD h.2.1, show Kd.how.fits _ (.str x) = true from sD h.2.2.1, show Kd.what.fits _ w = true from h.2.2.2.1, show Kd.changing.fits _ (.str m) = true from sD h.2.2.2.2]; rfl))
  | swap n b k w m => exact form_deed (ks := [.name, .box, .number, .what, .changing]) (by kernel_rfl) rfl (by rw [allFit_cons, allFit_cons, allFit_cons, allFit_cons, allFit_cons, allFit_nil]; exact (by rw [show Kd.name.fits _ (.str n) = true from h.1, show Kd.box.fits _ (.str b) = true from sD h.2.1, show Kd.number.fits _ (.int k) = true from numD9 h.2.2.1, show Kd.what.fits _ w = true from h.2.2.2.1, show Kd.changing.fits _ (.str m) = true from sD h.2.2.2.2]; rfl))
  | wait n b k m => exact form_deed (ks := [.name, .box, .number, .reading]) (by kernel_rfl) rfl (by rw [allFit_cons, allFit_cons, allFit_cons, allFit_cons, allFit_nil]; exact (by rw [show Kd.name.fits _ (.str n) = true from h.1, show Kd.box.fits _ (.str b) = true from sD h.2.1, show Kd.number.fits _ (.int k) = true from numD9 h.2.2.1, show Kd.reading.fits _ (.str m) = true from sD h.2.2.2]; rfl))
  | grab n b k w m => exact form_deed (ks := [.name, .box, .number, .what, .changing]) (by kernel_rfl) rfl (by rw [allFit_cons, allFit_cons, allFit_cons, allFit_cons, allFit_cons, allFit_nil]; exact (by rw [show Kd.name.fits _ (.str n) = true from h.1, show Kd.box.fits _ (.str b) = true from sD h.2.1, show Kd.number.fits _ (.int k) = true from numD9 h.2.2.1, show Kd.what.fits _ w = true from h.2.2.2.1, show Kd.changing.fits _ (.str m) = true from sD h.2.2.2.2]; rfl))
  | fence m => exact form_deed (ks := [.fencing]) (by kernel_rfl) rfl (by rw [allFit_cons, allFit_nil]; exact (by rw [show Kd.fencing.fits _ (.str m) = true from sD h]; rfl))
  | skip n x k s => exact form_deed (ks := [.name, .word, .number, .many]) (by kernel_rfl) rfl (by rw [allFit_cons, allFit_cons, allFit_cons, allFit_cons, allFit_nil]; exact (by rw [show Kd.name.fits _ (.str n) = true from h.1, show Kd.word.fits _ (.str x) = true from sD h.2.1, show Kd.number.fits _ (.int k) = true from numD9 h.2.2.1, show Kd.many.fits _ (.int s) = true from num18 h.2.2.2]; rfl))
  | claim n x k => exact form_deed (ks := [.name, .word, .number]) (by kernel_rfl) rfl (by rw [allFit_cons, allFit_cons, allFit_cons, allFit_nil]; exact (by rw [show Kd.name.fits _ (.str n) = true from h.1, show Kd.word.fits _ (.str x) = true from sD h.2.1, show Kd.number.fits _ (.int k) = true from numD9 h.2.2]; rfl))
theorem nameS_okS {n : Str} (h : nameS n = true) : okS (.str n) = true := (whatD_okS (w := .str n) (show whatD (.str n) = true from h)).1
theorem okS_mem {l : List Str} {z : Str} (h : z ∈ l) (hl : l.all (fun z => decide (z.length ≤ 1000)) = true) : okS (.str z) = true := by
  have := List.all_eq_true.mp hl z h
  show decide (z.length ≤ lim) = true
  exact decide_eq_true (Nat.le_trans (of_decide_eq_true this) (by decide))
theorem okT {xs : List PyData} (h1 : PyData.plainAll xs = true) (h2 : xs.all okS = true) (h3 : xs.length ≤ 1000) : okThing (.tuple xs) = true := by
  show (PyData.plainAll xs && xs.all okS && decide (xs.length ≤ 1000)) = true
  rw [h1, h2, decide_eq_true h3]
  rfl
theorem rd_ok {z : Str} (h : z ∈ rdS) : okS (.str z) = true := okS_mem h (by decide)
theorem wr_ok {z : Str} (h : z ∈ wrS) : okS (.str z) = true := okS_mem h (by decide)
theorem ch_ok {z : Str} (h : z ∈ chS) : okS (.str z) = true := okS_mem h (by decide)
theorem fe_ok {z : Str} (h : z ∈ feS) : okS (.str z) = true := okS_mem h (by decide)
theorem ho_ok {z : Str} (h : z ∈ hoS) : okS (.str z) = true := okS_mem h (by decide)
theorem wo_ok {z : Str} (h : z ∈ woS) : okS (.str z) = true := okS_mem h (by decide)
theorem kw_ok (z : Str) (h : z.length ≤ 10) : okS (.str z) = true := by
  show decide (z.length ≤ lim) = true
  exact decide_eq_true (Nat.le_trans h (by decide))
theorem ki_ok (k : Int) : okS (.int k) = true := rfl
def NamesS (bs : List Str) : Prop := ∀ b ∈ bs, nameS b = true
theorem Dd.ok.thing {bs : List Str} (hb : NamesS bs) {d : Dd} (h : d.ok bs) : okThing d.d = true := by
  cases d with
  | read n b m => exact okT rfl (by simp [List.all_cons, kw_ok, nameS_okS h.1, nameS_okS (hb _ h.2.1), rd_ok h.2.2]; exact kw_ok _ (by decide)) (by simp)
  | write b w m => exact okT (by simp [PyData.plainAll, PyData.plain, (whatD_okS h.2.1).2]) (by simp [List.all_cons, (whatD_okS h.2.1).1, nameS_okS (hb _ h.1), wr_ok h.2.2]; exact kw_ok _ (by decide)) (by simp)
  | change n b x w m => exact okT (by simp [PyData.plainAll, PyData.plain, (whatD_okS h.2.2.2.1).2]) (by simp [List.all_cons, nameS_okS h.1, nameS_okS (hb _ h.2.1), ho_ok h.2.2.1, (whatD_okS h.2.2.2.1).1, ch_ok h.2.2.2.2]; exact kw_ok _ (by decide)) (by simp)
  | swap n b k w m => exact okT (by simp [PyData.plainAll, PyData.plain, (whatD_okS h.2.2.2.1).2]) (by simp [List.all_cons, nameS_okS h.1, nameS_okS (hb _ h.2.1), ki_ok, (whatD_okS h.2.2.2.1).1, ch_ok h.2.2.2.2]; exact kw_ok _ (by decide)) (by simp)
  | wait n b k m => exact okT rfl (by simp [List.all_cons, nameS_okS h.1, nameS_okS (hb _ h.2.1), ki_ok, rd_ok h.2.2.2]; exact kw_ok _ (by decide)) (by simp)
  | grab n b k w m => exact okT (by simp [PyData.plainAll, PyData.plain, (whatD_okS h.2.2.2.1).2]) (by simp [List.all_cons, nameS_okS h.1, nameS_okS (hb _ h.2.1), ki_ok, (whatD_okS h.2.2.2.1).1, ch_ok h.2.2.2.2]; exact kw_ok _ (by decide)) (by simp)
  | fence m => exact okT rfl (by simp [List.all_cons, fe_ok (show m ∈ feS from h)]; exact kw_ok _ (by decide)) (by simp)
  | skip n x k s => exact okT rfl (by simp [List.all_cons, nameS_okS h.1, wo_ok h.2.1, ki_ok]; exact kw_ok _ (by decide)) (by simp)
  | claim n x k => exact okT rfl (by simp [List.all_cons, nameS_okS h.1, wo_ok h.2.1, ki_ok]; exact kw_ok _ (by decide)) (by simp)

def lineD (h : List Dd) : PyData := .list (h.map Dd.d)
def handsD (hs : List (List Dd)) : PyData := .list (hs.map lineD)
def boxesD (bs : List Str) : PyData := .list (bs.map PyData.str)
def progD (bs : List Str) (hs : List (List Dd)) : PyData := .tuple [boxesD bs, handsD hs]
def lineT (h : List Dd) : T := .lst (h.map fun d => .d d.d)
theorem ixN_nat {n i : Nat} (h : i < n) : ixN n (i : Int) = some i := by
  unfold ixN
  rw [if_pos (by omega), if_pos (by omega)]
  simp
def total2 (hs : List (List Dd)) : Nat := (hs.map List.length).sum
theorem total_set : ∀ {hs : List (List Dd)} {i : Nat} (h : i < hs.length) (l : List Dd), total2 (hs.set i l) + hs[i].length = total2 hs + l.length
  | _ :: _, 0, _, l => by simp [total2]; omega
  | x :: hs, i + 1, h, l => by
    have ih := total_set (hs := hs) (i := i) (by simpa using h) l
    simp only [total2, List.set_cons_succ, List.map_cons, List.sum_cons, List.getElem_cons_succ] at ih ⊢
    omega
structure HandsOk (bs : List Str) (n m : Nat) (left : Int) (hs : List (List Dd)) : Prop where
  len : hs.length = n
  each : ∀ h ∈ hs, h.length ≤ m ∧ ∀ d ∈ h, Dd.ok bs d
  tot : (total2 hs : Int) + left = 16
  left0 : 0 ≤ left
theorem HandsOk.add {bs : List Str} {n m : Nat} {left : Int} {hs : List (List Dd)} (h : HandsOk bs n m left hs) {i : Nat} (hi : i < hs.length) {d : Dd} (hd : d.ok bs) {m' : Nat} (hm : m ≤ m') (hl : hs[i].length + 1 ≤ m') (h0 : 0 < left) : HandsOk bs n m' (left - 1) (hs.set i (hs[i] ++ [d])) := by
  refine ⟨by rw [List.length_set]; exact h.len, fun x hx => ?_, ?_, by omega⟩
  · rcases List.mem_or_eq_of_mem_set hx with q | q
    · exact ⟨Nat.le_trans (h.each x q).1 hm, (h.each x q).2⟩
    · subst q
      refine ⟨by rw [List.length_append]; exact hl, fun y hy => ?_⟩
      rcases List.mem_append.mp hy with q | q
      · exact (h.each _ (List.getElem_mem hi)).2 y q
      · rw [List.mem_singleton.mp q]; exact hd
  · have := total_set hi (hs[i] ++ [d])
    rw [List.length_append, List.length_singleton] at this
    have := h.tot
    omega
def boxesA : List (List Str) := [["x"], ["x", "y"], ["box", "y"], ["x", "y"], ["b", "x", "y"], ["a", "b", "x", "y"]]
theorem mbind_eq {α β : Type} {f : M α} {g : α → M β} {ρ ρ1 : Rho} {a : α} (h : f ρ = .ok a ρ1) : mbind f g ρ = g a ρ1 := by
  unfold mbind
  rw [h]
def Sh (n k : Nat) (d : PyData) : Prop := d.showable = true ∧ d.shown.length ≤ n ∧ d.depth ≤ k
theorem sh_all {n k : Nat} : ∀ {xs : List PyData}, (∀ x ∈ xs, Sh n k x) → PyData.showableAll xs = true ∧ ((PyData.shownAll xs).map (·.length)).sum ≤ xs.length * n ∧ (PyData.shownAll xs).length = xs.length ∧ PyData.depthAll xs ≤ k
  | [], _ => by simp [PyData.showableAll, PyData.shownAll, PyData.depthAll]
  | x :: xs, h => by
    obtain ⟨h1, h2, h3⟩ := h x List.mem_cons_self
    obtain ⟨i1, i2, i3, i4⟩ := sh_all (xs := xs) fun y m => h y (List.mem_cons_of_mem _ m)
    refine ⟨by simp [PyData.showableAll, h1, i1], ?_, by simp [PyData.shownAll, i3], ?_⟩
    · simp only [PyData.shownAll, List.map_cons, List.sum_cons, List.length_cons]
      rw [Nat.add_mul]
      omega
    · simp only [PyData.depthAll]
      omega
theorem Sh.tuple {n k m : Nat} {xs : List PyData} (h : ∀ x ∈ xs, Sh n k x) (hm : xs.length ≤ m) : Sh (m * n + 2 * m + 3) (k + 1) (.tuple xs) := by
  obtain ⟨i1, i2, i3, i4⟩ := sh_all h
  have := tupleText_len_le (PyData.shownAll xs)
  have e : xs.length * n ≤ m * n := Nat.mul_le_mul_right _ hm
  refine ⟨by simpa [PyData.showable] using i1, ?_, ?_⟩
  · simp only [PyData.shown]
    omega
  · simp only [PyData.depth]
    omega
theorem Sh.list {n k m : Nat} {xs : List PyData} (h : ∀ x ∈ xs, Sh n k x) (hm : xs.length ≤ m) : Sh (m * n + 2 * m + 3) (k + 1) (.list xs) := by
  obtain ⟨i1, i2, i3, i4⟩ := sh_all h
  have := listText_len_le (PyData.shownAll xs)
  have e : xs.length * n ≤ m * n := Nat.mul_le_mul_right _ hm
  refine ⟨by simpa [PyData.showable] using i1, ?_, ?_⟩
  · simp only [PyData.shown]
    omega
  · simp only [PyData.depth]
    omega
theorem Sh.mono {n k n' k' : Nat} {d : PyData} (h : Sh n k d) (hn : n ≤ n') (hk : k ≤ k') : Sh n' k' d := ⟨h.1, Nat.le_trans h.2.1 hn, Nat.le_trans h.2.2 hk⟩
theorem Sh.ok {n k : Nat} {d : PyData} (h : Sh n k d) (hn : n ≤ 100000) (hk : k ≤ 60) : okShow d = true := by
  have : (100000 : Nat) ≤ sizeLine := by rw [sizeLine_eq]; omega
  simp only [okShow, Bool.and_eq_true, decide_eq_true_eq]
  exact ⟨⟨h.1, by have := h.2.1; omega⟩, by have := h.2.2; omega⟩

theorem nameS_chars {z : Str} (h : nameS z = true) : (∀ c ∈ z.cps.toList, lowC c = true) ∧ 1 ≤ z.length ∧ z.length ≤ 6 := by
  unfold nameS at h
  simp only [Bool.and_eq_true, decide_eq_true_eq] at h
  refine ⟨fun c hc => ?_, h.1, h.2.1⟩
  have := List.all_eq_true.mp h.2.2 (.str ⟨#[c]⟩) (List.mem_map.mpr ⟨c, hc, rfl⟩)
  rw [show inLet (.str ⟨#[c]⟩) = strIn ⟨#[c]⟩ ("abcdefghijklmnopqrstuvwxyz" : Str) from rfl, let_in] at this
  exact this
theorem sh_name {z : Str} (h : nameS z = true) : Sh 70 1 (.str z) := by
  obtain ⟨h1, h2, h3⟩ := nameS_chars h
  refine ⟨rfl, ?_, by simp [PyData.depth]⟩
  have := PySem.StrLaws.reprText_len z fun c hc => by
    have := h1 c hc
    unfold lowC at this
    simp only [Bool.and_eq_true, decide_eq_true_eq] at this
    have : (122 : Nat) < 16 ^ 8 := by decide
    omega
  show (reprText z).length ≤ 70
  omega
theorem sh_mem {l : List Str} {z : Str} (h : z ∈ l) (hl : l.all (fun z => decide ((reprText z).length ≤ 70)) = true) : Sh 70 1 (.str z) :=
  ⟨rfl, of_decide_eq_true (List.all_eq_true.mp hl z h), by simp [PyData.depth]⟩
theorem sh_rd {z : Str} (h : z ∈ rdS) : Sh 70 1 (.str z) := sh_mem h (by decide +kernel)
theorem sh_wr {z : Str} (h : z ∈ wrS) : Sh 70 1 (.str z) := sh_mem h (by decide +kernel)
theorem sh_ch {z : Str} (h : z ∈ chS) : Sh 70 1 (.str z) := sh_mem h (by decide +kernel)
theorem sh_fe {z : Str} (h : z ∈ feS) : Sh 70 1 (.str z) := sh_mem h (by decide +kernel)
theorem sh_ho {z : Str} (h : z ∈ hoS) : Sh 70 1 (.str z) := sh_mem h (by decide +kernel)
theorem sh_wo {z : Str} (h : z ∈ woS) : Sh 70 1 (.str z) := sh_mem h (by decide +kernel)
theorem sh_kw {z : Str} (h : z ∈ (["read", "write", "change", "swap", "wait", "grab", "fence", "skip", "claim"] : List Str)) : Sh 70 1 (.str z) := sh_mem h (by decide +kernel)
theorem sh_int {i : Int} (h0 : -1 ≤ i) (h1 : i ≤ 99) : Sh 70 1 (.int i) := by
  have : ∀ n : Fin 101, ((PyData.int ((n.val : Int) - 1)).showable && decide ((PyData.int ((n.val : Int) - 1)).shown.length ≤ 70)) = true := by decide +kernel
  have := this ⟨(i + 1).toNat, by omega⟩
  rw [show (((⟨(i + 1).toNat, by omega⟩ : Fin 101).val : Int) - 1) = i from by show (((i + 1).toNat : Nat) : Int) - 1 = i; omega] at this
  simp only [Bool.and_eq_true, decide_eq_true_eq] at this
  exact ⟨this.1, this.2, by simp [PyData.depth]⟩
theorem sh_what {w : PyData} (h : whatD w = true) : Sh 70 1 w := by
  cases w with
  | str z => exact sh_name h
  | int i =>
    have h : (wholeD 0 9 (.int i) || nameD (.int i)) = true := h
    rw [show nameD (.int i) = false from rfl, Bool.or_false] at h
    have h : (decide (0 ≤ i) && decide (i ≤ 9)) = true := h
    simp only [Bool.and_eq_true, decide_eq_true_eq] at h
    exact sh_int (by omega) (by omega)
  | _ => cases h
theorem Dd.ok.sh {bs : List Str} (hb : NamesS bs) {d : Dd} (h : d.ok bs) : Sh 435 2 d.d := by
  have k := fun (z : Str) (hz : z ∈ (["read", "write", "change", "swap", "wait", "grab", "fence", "skip", "claim"] : List Str)) => sh_kw hz
  cases d with
  | read n b m => exact Sh.tuple (n := 70) (k := 1) (m := 6) (by simp only [List.forall_mem_cons]; exact ⟨k _ (by decide), sh_name h.1, sh_name (hb _ h.2.1), sh_rd h.2.2, fun _ z => nomatch z⟩) (by simp)
  | write b w m => exact Sh.tuple (n := 70) (k := 1) (m := 6) (by simp only [List.forall_mem_cons]; exact ⟨k _ (by decide), sh_name (hb _ h.1), sh_what h.2.1, sh_wr h.2.2, fun _ z => nomatch z⟩) (by simp)
  | change n b x w m => exact Sh.tuple (n := 70) (k := 1) (m := 6) (by simp only [List.forall_mem_cons]; exact ⟨k _ (by decide), sh_name h.1, sh_name (hb _ h.2.1), sh_ho h.2.2.1, sh_what h.2.2.2.1, sh_ch h.2.2.2.2, fun _ z => nomatch z⟩) (by simp)
  | swap n b x w m => exact Sh.tuple (n := 70) (k := 1) (m := 6) (by simp only [List.forall_mem_cons]; exact ⟨k _ (by decide), sh_name h.1, sh_name (hb _ h.2.1), sh_int (by have := h.2.2.1; omega) (by have := h.2.2.1; omega), sh_what h.2.2.2.1, sh_ch h.2.2.2.2, fun _ z => nomatch z⟩) (by simp)
  | wait n b x m => exact Sh.tuple (n := 70) (k := 1) (m := 6) (by simp only [List.forall_mem_cons]; exact ⟨k _ (by decide), sh_name h.1, sh_name (hb _ h.2.1), sh_int (by have := h.2.2.1; omega) (by have := h.2.2.1; omega), sh_rd h.2.2.2, fun _ z => nomatch z⟩) (by simp)
  | grab n b x w m => exact Sh.tuple (n := 70) (k := 1) (m := 6) (by simp only [List.forall_mem_cons]; exact ⟨k _ (by decide), sh_name h.1, sh_name (hb _ h.2.1), sh_int (by have := h.2.2.1; omega) (by have := h.2.2.1; omega), sh_what h.2.2.2.1, sh_ch h.2.2.2.2, fun _ z => nomatch z⟩) (by simp)
  | fence m => exact Sh.tuple (n := 70) (k := 1) (m := 6) (by simp only [List.forall_mem_cons]; exact ⟨k _ (by decide), sh_fe h, fun _ z => nomatch z⟩) (by simp)
  | skip n x y z => exact Sh.tuple (n := 70) (k := 1) (m := 6) (by simp only [List.forall_mem_cons]; exact ⟨k _ (by decide), sh_name h.1, sh_wo h.2.1, sh_int (by have := h.2.2.1; omega) (by have := h.2.2.1; omega), sh_int (by have := h.2.2.2; omega) (by have := h.2.2.2; omega), fun _ z => nomatch z⟩) (by simp)
  | claim n x y => exact Sh.tuple (n := 70) (k := 1) (m := 6) (by simp only [List.forall_mem_cons]; exact ⟨k _ (by decide), sh_name h.1, sh_wo h.2.1, sh_int (by have := h.2.2; omega) (by have := h.2.2; omega), fun _ z => nomatch z⟩) (by simp)
structure GoodP (bs : List Str) (hs : List (List Dd)) : Prop where
  names : NamesS bs
  due : dueB (boxesD bs) = none
  h1 : 1 ≤ hs.length
  h4 : hs.length ≤ 4
  each : ∀ h ∈ hs, h.length ≤ 8 ∧ ∀ d ∈ h, Dd.ok bs d
  tot : total2 hs ≤ 16
theorem boxesA_good {bs : List Str} (h : bs ∈ boxesA) : NamesS bs ∧ dueB (boxesD bs) = none := by
  have h1 : boxesA.all (fun bs => bs.all nameS) = true := by decide +kernel
  have h2 : boxesA.all (fun bs => (dueB (boxesD bs)).isNone) = true := by decide +kernel
  exact ⟨fun b hb => List.all_eq_true.mp (List.all_eq_true.mp h1 bs h) b hb, Option.isNone_iff_eq_none.mp (List.all_eq_true.mp h2 bs h)⟩
theorem HandsOk.good {bs : List Str} {n m : Nat} {left : Int} {hs : List (List Dd)} (h : HandsOk bs n m left hs) (hb : bs ∈ boxesA) (n0 : 0 < n) (n4 : n ≤ 4) (hm : m ≤ 8) : GoodP bs hs :=
  ⟨(boxesA_good hb).1, (boxesA_good hb).2, by rw [h.len]; omega, by rw [h.len]; exact n4, fun x hx => ⟨Nat.le_trans (h.each x hx).1 hm, (h.each x hx).2⟩, by have := h.tot; have := h.left0; omega⟩
section
variable {bs : List Str} {hs : List (List Dd)}
theorem GoodP.lb (g : GoodP bs hs) : bs.length ≤ 4 := by
  obtain ⟨l, e, _, h, _⟩ := dueB_none g.due
  unfold boxesD at e
  cases e
  simpa using h
theorem GoodP.sh (g : GoodP bs hs) : Sh 28021 5 (progD bs hs) := by
  have h1 : Sh 14007 4 (handsD hs) := by
    refine (Sh.list (n := 3499) (k := 3) (m := 4) (xs := hs.map lineD) ?_ (by rw [List.length_map]; exact g.h4)).mono (by decide) (by decide)
    intro x hx
    obtain ⟨h, hh, rfl⟩ := List.mem_map.mp hx
    refine (Sh.list (n := 435) (k := 2) (m := 8) (xs := h.map Dd.d) ?_ (by rw [List.length_map]; exact (g.each h hh).1)).mono (by decide) (by decide)
    intro y hy
    obtain ⟨d, hd, rfl⟩ := List.mem_map.mp hy
    exact ((g.each h hh).2 d hd).sh g.names
  have h2 : Sh 14007 4 (boxesD bs) := by
    refine (Sh.list (n := 70) (k := 1) (m := 4) (xs := bs.map PyData.str) ?_ (by rw [List.length_map]; exact g.lb)).mono (by decide) (by decide)
    intro x hx
    obtain ⟨b, hb, rfl⟩ := List.mem_map.mp hx
    exact sh_name (g.names b hb)
  exact Sh.tuple (n := 14007) (k := 4) (m := 2) (by simp only [List.forall_mem_cons]; exact ⟨h2, h1, fun _ z => nomatch z⟩) (by simp)
theorem GoodP.okX (g : GoodP bs hs) : okX (progD bs hs) := by
  refine ⟨⟨by rw [List.length_map]; have := g.lb; omega, fun d hd => ?_⟩, ⟨by rw [List.length_map]; have := g.h4; omega, fun d hd => ?_⟩⟩
  · obtain ⟨b, hb, rfl⟩ := List.mem_map.mp hd
    exact nameS_okS (g.names b hb)
  · obtain ⟨h, hh, rfl⟩ := List.mem_map.mp hd
    refine ⟨by show (h.map Dd.d).length ≤ 1000; rw [List.length_map]; have := (g.each h hh).1; omega, fun y hy => ?_⟩
    obtain ⟨x, hx, rfl⟩ := List.mem_map.mp (show y ∈ h.map Dd.d from hy)
    exact ((g.each h hh).2 x hx).thing g.names
theorem find_none {α : Type} {p : α → Bool} {l : List α} (h : ∀ x ∈ l, p x = false) : l.find? p = none := List.find?_eq_none.mpr fun x hx => by rw [h x hx]; decide
theorem mem_zip {α : Type} {l : List α} {n : Nat} {p : α × Nat} (h : p ∈ l.zipIdx n) : p.1 ∈ l := (List.mem_zipIdx h).2.2 ▸ List.getElem_mem _
theorem GoodP.due0 (g : GoodP bs hs) : LW.due (progD bs hs) = none := by
  have e1 : dueHs (handsD hs) = none := by
    show (if 1 ≤ (hs.map lineD).length ∧ (hs.map lineD).length ≤ 4 then _ else _) = none
    rw [if_pos (by rw [List.length_map]; exact ⟨g.h1, g.h4⟩), find_none]
    · rfl
    · intro x hx
      obtain ⟨h, hh, e⟩ := List.mem_map.mp (mem_zip hx)
      obtain ⟨x1, x2⟩ := x
      have e : lineD h = x1 := e
      subst e
      show decide (8 < (h.map Dd.d).length) = false
      rw [List.length_map]
      exact decide_eq_false (by have := (g.each h hh).1; omega)
  have e2 : dueDs (bs.map PyData.str) (hs.map lineD) = none := by
    unfold dueDs
    rw [find_none]
    · rfl
    · intro x hx
      obtain ⟨h, hh, e⟩ := List.mem_map.mp (mem_zip hx)
      obtain ⟨x1, x2⟩ := x
      have e : lineD h = x1 := e
      subst e
      unfold badLine
      rw [find_none]
      · rfl
      · intro y hy
        obtain ⟨d, hd, e⟩ := List.mem_map.mp (show y.1 ∈ h.map Dd.d from mem_zip hy)
        unfold badDeed
        rw [← e, ((g.each h hh).2 d hd).deed]
        rfl
  have e3 : dueT (hs.map lineD) = none := by
    have : total (hs.map lineD) = total2 hs := by
      unfold total total2
      rw [List.map_map]
      congr 1
      apply List.map_congr_left
      intro h _
      show (h.map Dd.d).length = _
      rw [List.length_map]
    unfold dueT
    rw [this, if_neg (by have := g.tot; omega)]
  show (match dueB (boxesD bs) with
    | some t => some t
    | none => dueH (boxesD bs) (handsD hs)) = none
  rw [g.due]
  show (match dueHs (handsD hs) with
    | some t => some t
    | none => match dueDs (bs.map PyData.str) (hs.map lineD) with
      | some t => some t
      | none => dueT (hs.map lineD)) = none
  rw [e1, e2, e3]
theorem look_ok {x : PyData} (hx : LW.okX x) (h : LW.due x = none) : f_look_at [.d x] = .ok (.d .none) [some (.d x)] := by
  have q := t_look_at x hx
  cases e : f_look_at [.d x] with
  | ok v ρ =>
    rw [e] at q
    obtain ⟨rfl, rfl, _⟩ := q
    rfl
  | ex y ρ =>
    rw [e] at q
    obtain ⟨_, t, h2, _⟩ := q
    rw [h] at h2
    cases h2
  | no => rw [e] at q; exact q.elim
theorem GoodP.look (g : GoodP bs hs) : f_look_at [.d (progD bs hs)] = .ok (.d .none) [some (.d (progD bs hs))] := look_ok g.okX g.due0
end
end LW
end
section
set_option maxRecDepth 100000
set_option linter.all false
open PySem L2 DL
namespace LW
theorem t_take (a b n : Int) (hb : PoolOk b) (h0 : 0 < n) (h1 : n < 1073741824) :
    ∃ r a' b', f__law_take [pT a b, .d (.int n)] = .ok (.d (.int r)) [some (pT a' b'), some (.d (.int n))] ∧ 0 ≤ r ∧ r < n ∧ PoolOk b' := by
  obtain ⟨b0, b1⟩ := hb
  have m1 : cMod a n = true := by simp [cMod, h0]
  have d1 : cDiv a n = true := by simp [cDiv, h0, h1]
  have ix0 : ∀ u v : T, atI [u, v] 0 = some u := fun u v => rfl
  have ix1 : ∀ u v : T, atI [u, v] 1 = some v := fun u v => rfl
  have n0 : ixN 2 0 = some 0 := rfl
  have n1 : ixN 2 1 = some 1 := rfl
  by_cases ha : 0 < a
  · refine ⟨a % n, a / n, b, ?_, Int.emod_nonneg _ (by omega), Int.emod_lt_of_pos _ h0, b0, b1⟩
    have ga : decide (0 < a) = true := decide_eq_true ha
    simp [f__law_take, b__law_take, dfn, mseq, sif, sret, sset, sdrop, sasg, dandV, dorV, dnotV, dand, dor, dnot, dval, dop, dcallb, dcons, dget, mret, mno, mbind, mopt, gIsi, isT, dbackT, restore, dchain, chainMid, chainRest, onD, pLe2, pLt, pGt, pGe, keepm, dlst, dtup, mkLst, mkTup, allD, short, dcall, dcallF, mset, pT, dixO, dhas, dreadO, tItem, ix0, ix1, ga, pMod, pDiv, pII, m1, d1, gput, dput, tPut, n0, n1]
  · have ga : decide (0 < a) = false := decide_eq_false ha
    have c1 : cMul b 48271 = true := by
      unfold cMul
      rw [Bool.or_eq_true, Bool.or_eq_true]
      exact .inr (.inr (by decide))
    have m2 : ∀ i : Int, cMod i 2147483647 = true := fun i => by simp [cMod, cDiv]
    have m3 : ∀ i : Int, cMod i 2147483629 = true := fun i => by simp [cMod, cDiv]
    have m4 : ∀ i : Int, cMod i n = true := fun i => by simp [cMod, h0]
    have d2 : ∀ i : Int, cDiv i 64 = true := fun i => by simp [cMod, cDiv]
    have g0 : 0 ≤ (b * 48271 + 11) % 2147483647 := Int.emod_nonneg _ (by omega)
    have g1 : (b * 48271 + 11) % 2147483647 < 2147483647 := Int.emod_lt_of_pos _ (by omega)
    have c2 : ∀ x : Int, 0 ≤ x → x < 2147483647 → cMul x x = true := fun x z0 z1 => by
      unfold cMul
      rw [Bool.or_eq_true, Bool.or_eq_true]
      exact .inr (.inl (decide_eq_true ⟨by omega, by omega⟩))
    have c3 := c2 _ g0 g1
    refine ⟨((b * 48271 + 11) % 2147483647 * ((b * 48271 + 11) % 2147483647)) % 2147483629 / 64 % n, a, (b * 48271 + 11) % 2147483647, ?_, ?_, ?_, g0, g1⟩
    · simp [f__law_take, b__law_take, dfn, mseq, sif, sret, sset, sdrop, sasg, dandV, dorV, dnotV, dand, dor, dnot, dval, dop, dcallb, dcons, dget, mret, mno, mbind, mopt, gIsi, isT, dbackT, restore, dchain, chainMid, chainRest, onD, pLe2, pLt, pGt, pGe, keepm, dlst, dtup, mkLst, mkTup, allD, short, dcall, dcallF, mset, pT, dixO, dhas, dreadO, tItem, ix0, ix1, ga, pMod, pDiv, pMul, pAdd, pII, c1, m2, m3, m4, d2, c3, gput, dput, tPut, n0, n1]
    · exact Int.emod_nonneg _ (by omega)
    · exact Int.emod_lt_of_pos _ h0
theorem t_pool (ns : List Int) (k : Nat) (hk : k ≤ 1000) (hn : ns.length ≤ 1000) : ∃ a b, f__law_pool [.scr ns, .d (.int k)] = .ok (pT a b) [some (.scr ns), some (.d (.int k))] ∧ PoolOk b := by
  have hl : ∀ lo hi : Option Int, (cutG ns lo hi).length + 1 ≤ lim := fun lo hi => by
    have := cutG_len ns lo hi
    have : (1001 : Nat) ≤ lim := by decide
    omega
  have hz : ∃ z, atI ((cutG ns (some (k : Int)) (some ((k : Int) + 1))).map PyData.int ++ [.int 0]) 0 = some (.int z) := by
    cases cutG ns (some (k : Int)) (some ((k : Int) + 1)) with
    | nil => exact ⟨0, rfl⟩
    | cons c l => exact ⟨c, atI_nat _ 0 rfl⟩
  obtain ⟨z, hz⟩ := hz
  have h1 := hl (some (k : Int)) (some ((k : Int) + 1))
  have m1 : cMod z 2147483647 = true := by simp [cMod]
  have m2 : ∀ i : Int, cMod i 2147483629 = true := fun i => by simp [cMod]
  have c1 : cMul 7919 (k : Int) = true := mul_small' _ _ (by decide)
  have c2 : ∀ i : Int, cMul i 48271 = true := fun i => mul_small _ _ (by decide)
  have c3 : cMul (if decide ((1000000000000000000 : Int) ≤ z) = true then 1 else 0) z = true := mul_small' _ _ (by split <;> decide)
  have p1 : cPow 10 18 = true := by decide
  have hlim : lim = 100000 := rfl
  rw [hlim] at h1
  refine ⟨(if decide ((1000000000000000000 : Int) ≤ z) = true then 1 else 0) * z, (z % 2147483647 + 7919 * k + 1) * 48271 % 2147483629, ?_, Int.emod_nonneg _ (by omega), by have := Int.emod_lt_of_pos ((z % 2147483647 + 7919 * k + 1) * 48271) (show (0 : Int) < 2147483629 by omega); omega⟩
  simp only [decide_eq_true_eq] at c3 ⊢
  simp [f__law_pool, b__law_pool, dfn, mseq, sif, sret, sset, sdrop, sasg, dandV, dorV, dnotV, dand, dor, dnot, dval, dop, dcallb, dcons, dget, mret, mno, mbind, mopt, gIsi, isT, dbackT, restore, dchain, chainMid, chainRest, onD, pLe2, pLt, pGt, pGe, keepm, dlst, dtup, mkLst, mkTup, allD, short, dcall, dcallF, mset, dslice, dpart, tSlice, pAdd, h1, pIx, hz, pMod, pMul, pII, m1, m2, c1, c2, hlim, dlstO, pPow, p1, gInt, c3, pT]
theorem map_erase {α β : Type} (f : α → β) : ∀ (l : List α) (i : Nat), (l.map f).eraseIdx i = (l.eraseIdx i).map f
  | [], _ => rfl
  | _ :: _, 0 => rfl
  | a :: l, i + 1 => by
    show f a :: (l.map f).eraseIdx i = f a :: (l.eraseIdx i).map f
    rw [map_erase f l i]
theorem erase_perm {α : Type} : ∀ (l : List α) (i : Nat) (x : α), l[i]? = some x → (x :: l.eraseIdx i).Perm l
  | [], i, x, h => by simp at h
  | a :: l, 0, x, h => by
    simp at h
    subst h
    exact List.Perm.refl _
  | a :: l, i + 1, x, h => by
    have ih := erase_perm l i x (by simpa using h)
    exact (List.Perm.swap a x (l.eraseIdx i)).trans (List.Perm.cons a ih)
theorem t_picked (a b : Int) (menu : List PyData) (n : Nat) (hb : PoolOk b) (hm : menu.length ≤ 1000) :
    ∃ out a' b', f__law_picked [pT a b, .d (.list menu), .d (.int n)] = .ok (.d (.list out)) [some (pT a' b'), some (.d (.list menu)), some (.d (.int n))] ∧ PoolOk b' ∧ out.length = min n menu.length ∧ ∃ left, (out ++ left).Perm menu := by
  have hlim : lim = 100000 := rfl
  have key : Ends (f__law_picked [pT a b, .d (.list menu), .d (.int n)]) fun v ρ => ∃ out a' b' left, v = .d (.list out) ∧ ρ = [some (pT a' b'), some (.d (.list menu)), some (.d (.int n))] ∧ PoolOk b' ∧ out.length = min n menu.length ∧ (out ++ left).Perm menu := by
    refine ends_fn ?_
    refine ends_nx (ρ' := [some (pT a b), some (.d (.list menu)), some (.d (.int n)), some (.lst (menu.map T.d)), none]) (by simp [dfn, mseq, sif, sret, sset, sdrop, sasg, dandV, dorV, dnotV, dand, dor, dnot, dval, dop, dcallb, dcons, dget, mret, mno, mbind, mopt, gIsi, isT, dbackT, restore, dchain, chainMid, chainRest, onD, pLe2, pLt, pGt, pGe, keepm, dlst, dtup, mkLst, mkTup, allD, short, dcall, dcallF, mset, gListO]) ?_
    refine ends_bind (f := l__law_picked_1) ?_
    have ok : okRange ((min n menu.length : Nat) : Int) = true := by
      simp only [okRange, Bool.and_eq_true, decide_eq_true_eq]
      omega
    refine ends_dlc (ds := DL.intsFrom 0 (min n menu.length)) (ρ1 := [some (pT a b), some (.d (.list menu)), some (.d (.int n)), some (.lst (menu.map T.d)), none]) ?_ ?_
    · by_cases hc : menu.length < n
      · have em : min n menu.length = menu.length := by omega
        rw [em] at ok ⊢
        simp [dfn, mseq, sif, sret, sset, sdrop, sasg, dandV, dorV, dnotV, dand, dor, dnot, dval, dop, dcallb, dcons, dget, mret, mno, mbind, mopt, gIsi, isT, dbackT, restore, dchain, chainMid, chainRest, onD, pLe2, pLt, pGt, pGe, keepm, dlst, dtup, mkLst, mkTup, allD, short, dcall, dcallF, mset, drange, dlate, dhas, dtake, gMin2, gLen, rangeItems, hc, ok]
      · have em : min n menu.length = n := by omega
        rw [em] at ok ⊢
        simp [dfn, mseq, sif, sret, sset, sdrop, sasg, dandV, dorV, dnotV, dand, dor, dnot, dval, dop, dcallb, dcons, dget, mret, mno, mbind, mopt, gIsi, isT, dbackT, restore, dchain, chainMid, chainRest, onD, pLe2, pLt, pGt, pGe, keepm, dlst, dtup, mkLst, mkTup, allD, short, dcall, dcallF, mset, drange, dlate, dhas, dtake, gMin2, gLen, rangeItems, hc, ok]
    · refine ends_lc (fun ts acc ρ => ∃ a b out left, acc = (out : List PyData).map T.d ∧ ρ = [some (pT a b), some (.d (.list menu)), some (.d (.int n)), some (.lst ((left : List PyData).map T.d)), none] ∧ PoolOk b ∧ (out ++ left).Perm menu ∧ out.length + ts.length = min n menu.length) ?_ ?_ ?_
      · rintro acc ρ ⟨a, b, out, left, rfl, rfl, h1, h2, h3⟩
        exact ⟨out, rfl, out, a, b, left, rfl, rfl, h1, by simpa using h3, h2⟩
      · rintro t ts acc ρ ⟨a, b, out, left, rfl, rfl, h1, h2, h3⟩
        have hp := h2.length_eq
        rw [List.length_append] at hp
        rw [List.length_cons] at h3
        have hl0 : 0 < left.length := by omega
        obtain ⟨r, a', b', e, r0, r1, h4⟩ := t_take a b left.length h1 (by omega) (by omega)
        have hr : r.toNat < left.length := by omega
        refine Ends.eq (ρ := [some (pT a b), some (.d (.list menu)), some (.d (.int n)), some (.lst (left.map T.d)), some t]) (a := ()) rfl ?_
        refine Ends.eq (a := true) (ρ := [some (pT a b), some (.d (.list menu)), some (.d (.int n)), some (.lst (left.map T.d)), some t]) rfl ?_
        rw [if_pos rfl]
        have c1 : decide (0 ≤ r) = true := decide_eq_true r0
        have c2 : decide (r < 1000000) = true := decide_eq_true (by omega)
        have eg : (left.map T.d)[r.toNat]? = some (.d left[r.toNat]) := by rw [List.getElem?_map, List.getElem?_eq_getElem hr]; rfl
        refine Ends.eq (a := .d left[r.toNat]) (ρ := [some (pT a' b'), some (.d (.list menu)), some (.d (.int n)), some (.lst ((left.eraseIdx r.toNat).map T.d)), some t]) ?_ ?_
        · have eg2 := hr
          simp [dfn, mseq, sif, sret, sset, sdrop, sasg, dandV, dorV, dnotV, dand, dor, dnot, dval, dop, dcallb, dcons, dget, mret, mno, mbind, mopt, gIsi, isT, dbackT, restore, dchain, chainMid, chainRest, onD, pLe2, pLt, pGt, pGe, keepm, dlst, dtup, mkLst, mkTup, allD, short, dcall, dcallF, mset, dmeth, dtyp, tyT, dlate, dhas, dtake, gLen, e, down, oPopAt, c1, c2, hr, map_erase]
        · refine ⟨?_, a', b', out ++ [left[r.toNat]], left.eraseIdx r.toNat, ?_, rfl, h4, ?_, ?_⟩
          · rw [List.length_map, hlim]
            omega
          · rw [List.map_append]
            rfl
          · rw [List.append_assoc]
            refine (List.Perm.append_left _ ?_).trans h2
            exact erase_perm left r.toNat _ (List.getElem?_eq_getElem hr)
          · rw [List.length_append]
            simp
            omega
      · refine ⟨a, b, [], menu, rfl, rfl, hb, List.Perm.refl _, ?_⟩
        unfold DL.intsFrom
        simp
  obtain ⟨v, ρ, e, out, a', b', left, rfl, rfl, h1, h2, h3⟩ := key.get
  exact ⟨out, a', b', e, h1, h2, left, h3⟩


theorem strs_of {M : List Str} : ∀ {out : List PyData}, (∀ d ∈ out, ∃ z ∈ M, d = .str z) → ∃ zs : List Str, out = zs.map PyData.str ∧ ∀ z ∈ zs, z ∈ M
  | [], _ => ⟨[], rfl, fun z m => nomatch m⟩
  | d :: out, h => by
    obtain ⟨z, hz, rfl⟩ := h d List.mem_cons_self
    obtain ⟨zs, e, k⟩ := strs_of (out := out) fun d m => h d (List.mem_cons_of_mem _ m)
    exact ⟨z :: zs, by rw [e]; rfl, fun y m => by
      rcases List.mem_cons.mp m with rfl | m
      · exact hz
      · exact k y m⟩
theorem strsD_map : ∀ zs : List Str, strsD (zs.map PyData.str) = some zs
  | [] => rfl
  | z :: zs => by rw [List.map_cons, strsD, strsD_map zs]; rfl
def menu8 : List Str := ["x", "y", "hand", "abc"]
def Names (ns : List PyData) : Prop := ∀ d ∈ ns, ∃ z, d = .str z ∧ nameS z = true
def figs : List PyData := (List.range 10).map fun i => .int (i : Nat)
theorem fin14 {x1 x2 x3 x4 x5 x6 x7 x8 x9 deed : PyData} {way : Nat} (h : pIx (.list [x1, x2, x3, x4, x5, x6, x7, x8, x9, x1, x2, x3, x1, x2]) (.int (way : Int)) = some deed) (o0 o1 o2 o4 o5 o6 o7 o8 o9 o10 o11 o12 : Option T) :
    sret (dop (onD pIx) (dop (onD pAdd) (dop (onD pAdd) (dfrz 13) (dslice (dfrz 13) (mret none) (dpart (mret (.d (.int 3)))))) (dslice (dfrz 13) (mret none) (dpart (mret (.d (.int 2)))))) (dget 3)) [o0, o1, o2, some (.d (.int way)), o4, o5, o6, o7, o8, o9, o10, o11, o12, some (.d (.list [x1, x2, x3, x4, x5, x6, x7, x8, x9]))] =
      .ok (.rt (.d deed)) [o0, o1, o2, some (.d (.int way)), o4, o5, o6, o7, o8, o9, o10, o11, o12, some (.d (.list [x1, x2, x3, x4, x5, x6, x7, x8, x9]))] := by
  have a1 : pAdd (.list [x1, x2, x3, x4, x5, x6, x7, x8, x9]) (.list (cutG [x1, x2, x3, x4, x5, x6, x7, x8, x9] none (some 3))) = some (.list [x1, x2, x3, x4, x5, x6, x7, x8, x9, x1, x2, x3]) := rfl
  have a2 : pAdd (.list [x1, x2, x3, x4, x5, x6, x7, x8, x9, x1, x2, x3]) (.list (cutG [x1, x2, x3, x4, x5, x6, x7, x8, x9] none (some 2))) = some (.list [x1, x2, x3, x4, x5, x6, x7, x8, x9, x1, x2, x3, x1, x2]) := rfl
  generalize PyData.list [x1, x2, x3, x4, x5, x6, x7, x8, x9, x1, x2, x3, x1, x2] = A at h a2
  generalize PyData.list [x1, x2, x3, x4, x5, x6, x7, x8, x9, x1, x2, x3] = B at a1 a2
  generalize [x1, x2, x3, x4, x5, x6, x7, x8, x9] = L at a1 a2 ⊢
  simp [dfn, mseq, sif, sret, sset, sdrop, sasg, dandV, dorV, dnotV, dand, dor, dnot, dval, dop, dcallb, dcons, dget, mret, mno, mbind, mopt, gIsi, isT, dbackT, restore, dchain, chainMid, chainRest, onD, pLe2, pLt, pGt, pGe, keepm, dlst, dtup, mkLst, mkTup, allD, short, dcall, dcallF, mset, dslice, dpart, tSlice, dfrz, toD, a1, a2, h]
theorem t_deed (a b : Int) (bs ns : List PyData) (way : Nat) (hb : PoolOk b) (hbs : Strs bs) (b0 : 0 < bs.length) (b1 : bs.length ≤ 1000) (hn : Names ns) (n0 : 0 < ns.length) (n1 : ns.length ≤ 1000) (hw : way < 14) :
    ∃ deed a' b', f__law_deed [pT a b, .d (.list bs), .d (.list ns), .d (.int way)] = .ok (.d deed) [some (pT a' b'), some (.d (.list bs)), some (.d (.list ns)), some (.d (.int way))] ∧ PoolOk b' ∧
      ∃ name box fig what rd wr chg how word : PyData, ∃ size : Nat, name ∈ ns ∧ box ∈ bs ∧ fig ∈ figs ∧ (what ∈ figs ∨ what ∈ ns) ∧ rd ∈ W_read ∧ wr ∈ W_write ∧ chg ∈ W_change ∧ how ∈ W_how ∧ word ∈ W_word ∧ 1 ≤ size ∧ size ≤ 8 ∧
        ∃ fen ∈ W_fence, deed ∈ ([.tuple [.str ("read" : Str), name, box, rd], .tuple [.str ("write" : Str), box, what, wr], .tuple [.str ("change" : Str), name, box, how, what, chg], .tuple [.str ("swap" : Str), name, box, fig, what, chg], .tuple [.str ("wait" : Str), name, box, fig, rd],
          .tuple [.str ("grab" : Str), name, box, fig, what, chg], .tuple [.str ("fence" : Str), fen], .tuple [.str ("skip" : Str), name, word, fig, .int size], .tuple [.str ("claim" : Str), name, word, fig]] : List PyData) := by
  have hlim : lim = 100000 := rfl
  have key : Ends (f__law_deed [pT a b, .d (.list bs), .d (.list ns), .d (.int way)]) fun v ρ => ∃ deed a' b', v = .d deed ∧ ρ = [some (pT a' b'), some (.d (.list bs)), some (.d (.list ns)), some (.d (.int way))] ∧ PoolOk b' ∧
      ∃ name box fig what rd wr chg how word : PyData, ∃ size : Nat, name ∈ ns ∧ box ∈ bs ∧ fig ∈ figs ∧ (what ∈ figs ∨ what ∈ ns) ∧ rd ∈ W_read ∧ wr ∈ W_write ∧ chg ∈ W_change ∧ how ∈ W_how ∧ word ∈ W_word ∧ 1 ≤ size ∧ size ≤ 8 ∧
        ∃ fen ∈ W_fence, deed ∈ ([.tuple [.str ("read" : Str), name, box, rd], .tuple [.str ("write" : Str), box, what, wr], .tuple [.str ("change" : Str), name, box, how, what, chg], .tuple [.str ("swap" : Str), name, box, fig, what, chg], .tuple [.str ("wait" : Str), name, box, fig, rd],
          .tuple [.str ("grab" : Str), name, box, fig, what, chg], .tuple [.str ("fence" : Str), fen], .tuple [.str ("skip" : Str), name, word, fig, .int size], .tuple [.str ("claim" : Str), name, word, fig]] : List PyData) := by
    refine ends_fn ?_
    obtain ⟨r1, a1, b1, e1, l1, u1, p1⟩ := t_take a b ns.length hb (by omega) (by omega)
    obtain ⟨name, hname, q1⟩ := at_in l1 u1
    refine ends_nx (ρ' := [some (pT a1 b1), some (.d (.list bs)), some (.d (.list ns)), some (.d (.int way)), some (.d name), none, none, none, none, none, none, none, none, none]) (by simp [dfn, mseq, sif, sret, sset, sdrop, sasg, dandV, dorV, dnotV, dand, dor, dnot, dval, dop, dcallb, dcons, dget, mret, mno, mbind, mopt, gIsi, isT, dbackT, restore, dchain, chainMid, chainRest, onD, pLe2, pLt, pGt, pGe, keepm, dlst, dtup, mkLst, mkTup, allD, short, dcall, dcallF, mset, dlate, dhas, dtake, gLen, pIx, pAdd, hlim, e1, q1]) ?_
    obtain ⟨r2, a2, b2, e2, l2, u2, p2⟩ := t_take a1 b1 bs.length p1 (by omega) (by omega)
    obtain ⟨box, hbox, q2⟩ := at_in l2 u2
    refine ends_nx (ρ' := [some (pT a2 b2), some (.d (.list bs)), some (.d (.list ns)), some (.d (.int way)), some (.d name), some (.d box), none, none, none, none, none, none, none, none]) (by simp [dfn, mseq, sif, sret, sset, sdrop, sasg, dandV, dorV, dnotV, dand, dor, dnot, dval, dop, dcallb, dcons, dget, mret, mno, mbind, mopt, gIsi, isT, dbackT, restore, dchain, chainMid, chainRest, onD, pLe2, pLt, pGt, pGe, keepm, dlst, dtup, mkLst, mkTup, allD, short, dcall, dcallF, mset, dlate, dhas, dtake, gLen, pIx, pAdd, hlim, e2, q2]) ?_
    obtain ⟨r3, a5, b5, e3, l3, u3, p5⟩ := t_take a2 b2 5 p2 (by omega) (by omega)
    obtain ⟨fig, hfig, q3⟩ := at_in (l := [PyData.int 0, PyData.int 1, PyData.int 1, PyData.int 2, PyData.int 9]) l3 (by show _ < (5 : Int); exact u3)
    refine ends_nx (ρ' := [some (pT a5 b5), some (.d (.list bs)), some (.d (.list ns)), some (.d (.int way)), some (.d name), some (.d box), some (.d fig), none, none, none, none, none, none, none]) (by simp [dfn, mseq, sif, sret, sset, sdrop, sasg, dandV, dorV, dnotV, dand, dor, dnot, dval, dop, dcallb, dcons, dget, mret, mno, mbind, mopt, gIsi, isT, dbackT, restore, dchain, chainMid, chainRest, onD, pLe2, pLt, pGt, pGe, keepm, dlst, dtup, mkLst, mkTup, allD, short, dcall, dcallF, mset, dlate, dhas, dtake, gLen, pIx, pAdd, hlim, e3, q3]) ?_
    obtain ⟨r6, a6, b6, e6, l6, u6, p6⟩ := t_take a5 b5 ns.length p5 (by omega) (by omega)
    obtain ⟨nm, hnm, q4⟩ := at_in l6 u6
    obtain ⟨r7, a7, b7, e7, l7, u7, p7⟩ := t_take a6 b6 3 p6 (by omega) (by omega)
    obtain ⟨what, hwhat, q5⟩ := at_in (l := [fig, fig, nm]) l7 (by show _ < (3 : Int); exact u7)
    refine ends_nx (ρ' := [some (pT a7 b7), some (.d (.list bs)), some (.d (.list ns)), some (.d (.int way)), some (.d name), some (.d box), some (.d fig), some (.d what), none, none, none, none, none, none]) (by simp [dfn, mseq, sif, sret, sset, sdrop, sasg, dandV, dorV, dnotV, dand, dor, dnot, dval, dop, dcallb, dcons, dget, mret, mno, mbind, mopt, gIsi, isT, dbackT, restore, dchain, chainMid, chainRest, onD, pLe2, pLt, pGt, pGe, keepm, dlst, dtup, mkLst, mkTup, allD, short, dcall, dcallF, mset, dlate, dhas, dtake, gLen, pIx, pAdd, hlim, e6, e7, q4, q5]) ?_
    obtain ⟨r8, a8, b8, e8, l8, u8, p8⟩ := t_take a7 b7 3 p7 (by omega) (by omega)
    obtain ⟨rd, hrd, q6⟩ := at_in (l := W_read) l8 (by show _ < (3 : Int); exact u8)
    unfold W_read at q6
    refine ends_nx (ρ' := [some (pT a8 b8), some (.d (.list bs)), some (.d (.list ns)), some (.d (.int way)), some (.d name), some (.d box), some (.d fig), some (.d what), some (.d rd), none, none, none, none, none]) (by simp [dfn, mseq, sif, sret, sset, sdrop, sasg, dandV, dorV, dnotV, dand, dor, dnot, dval, dop, dcallb, dcons, dget, mret, mno, mbind, mopt, gIsi, isT, dbackT, restore, dchain, chainMid, chainRest, onD, pLe2, pLt, pGt, pGe, keepm, dlst, dtup, mkLst, mkTup, allD, short, dcall, dcallF, mset, dlate, dhas, dtake, gLen, pIx, pAdd, hlim, e8, q6]) ?_
    obtain ⟨r9, a9, b9, e9, l9, u9, p9⟩ := t_take a8 b8 3 p8 (by omega) (by omega)
    obtain ⟨wr, hwr, q7⟩ := at_in (l := W_write) l9 (by show _ < (3 : Int); exact u9)
    unfold W_write at q7
    refine ends_nx (ρ' := [some (pT a9 b9), some (.d (.list bs)), some (.d (.list ns)), some (.d (.int way)), some (.d name), some (.d box), some (.d fig), some (.d what), some (.d rd), some (.d wr), none, none, none, none]) (by simp [dfn, mseq, sif, sret, sset, sdrop, sasg, dandV, dorV, dnotV, dand, dor, dnot, dval, dop, dcallb, dcons, dget, mret, mno, mbind, mopt, gIsi, isT, dbackT, restore, dchain, chainMid, chainRest, onD, pLe2, pLt, pGt, pGe, keepm, dlst, dtup, mkLst, mkTup, allD, short, dcall, dcallF, mset, dlate, dhas, dtake, gLen, pIx, pAdd, hlim, e9, q7]) ?_
    obtain ⟨r10, a10, b10, e10, l10, u10, p10⟩ := t_take a9 b9 4 p9 (by omega) (by omega)
    obtain ⟨chg, hchg, q8⟩ := at_in (l := W_change) l10 (by show _ < (4 : Int); exact u10)
    unfold W_change at q8
    refine ends_nx (ρ' := [some (pT a10 b10), some (.d (.list bs)), some (.d (.list ns)), some (.d (.int way)), some (.d name), some (.d box), some (.d fig), some (.d what), some (.d rd), some (.d wr), some (.d chg), none, none, none]) (by simp [dfn, mseq, sif, sret, sset, sdrop, sasg, dandV, dorV, dnotV, dand, dor, dnot, dval, dop, dcallb, dcons, dget, mret, mno, mbind, mopt, gIsi, isT, dbackT, restore, dchain, chainMid, chainRest, onD, pLe2, pLt, pGt, pGe, keepm, dlst, dtup, mkLst, mkTup, allD, short, dcall, dcallF, mset, dlate, dhas, dtake, gLen, pIx, pAdd, hlim, e10, q8]) ?_
    obtain ⟨r11, a11, b11, e11, l11, u11, p11⟩ := t_take a10 b10 2 p10 (by omega) (by omega)
    obtain ⟨word, hword, q9⟩ := at_in (l := W_word) l11 (by show _ < (2 : Int); exact u11)
    unfold W_word at q9
    refine ends_nx (ρ' := [some (pT a11 b11), some (.d (.list bs)), some (.d (.list ns)), some (.d (.int way)), some (.d name), some (.d box), some (.d fig), some (.d what), some (.d rd), some (.d wr), some (.d chg), some (.d word), none, none]) (by simp [dfn, mseq, sif, sret, sset, sdrop, sasg, dandV, dorV, dnotV, dand, dor, dnot, dval, dop, dcallb, dcons, dget, mret, mno, mbind, mopt, gIsi, isT, dbackT, restore, dchain, chainMid, chainRest, onD, pLe2, pLt, pGt, pGe, keepm, dlst, dtup, mkLst, mkTup, allD, short, dcall, dcallF, mset, dlate, dhas, dtake, gLen, pIx, pAdd, hlim, e11, q9]) ?_
    obtain ⟨r12, a12, b12, e12, l12, u12, p12⟩ := t_take a11 b11 3 p11 (by omega) (by omega)
    obtain ⟨k, rfl⟩ : ∃ k : Nat, r12 = k := ⟨r12.toNat, by omega⟩
    refine ends_nx (ρ' := [some (pT a12 b12), some (.d (.list bs)), some (.d (.list ns)), some (.d (.int way)), some (.d name), some (.d box), some (.d fig), some (.d what), some (.d rd), some (.d wr), some (.d chg), some (.d word), some (.d (.int (1 + (k : Int)))), none]) (by simp [dfn, mseq, sif, sret, sset, sdrop, sasg, dandV, dorV, dnotV, dand, dor, dnot, dval, dop, dcallb, dcons, dget, mret, mno, mbind, mopt, gIsi, isT, dbackT, restore, dchain, chainMid, chainRest, onD, pLe2, pLt, pGt, pGe, keepm, dlst, dtup, mkLst, mkTup, allD, short, dcall, dcallF, mset, dlate, dhas, dtake, gLen, pIx, pAdd, hlim, e12]) ?_
    refine ends_nx (ρ' := [some (pT a12 b12), some (.d (.list bs)), some (.d (.list ns)), some (.d (.int way)), some (.d name), some (.d box), some (.d fig), some (.d what), some (.d rd), some (.d wr), some (.d chg), some (.d word), some (.d (.int (1 + (k : Int)))), some (.lst [.d (.tuple [.str ("read" : Str), name, box, rd]), .d (.tuple [.str ("write" : Str), box, what, wr])])]) (by simp [dfn, mseq, sif, sret, sset, sdrop, sasg, dandV, dorV, dnotV, dand, dor, dnot, dval, dop, dcallb, dcons, dget, mret, mno, mbind, mopt, gIsi, isT, dbackT, restore, dchain, chainMid, chainRest, onD, pLe2, pLt, pGt, pGe, keepm, dlst, dtup, mkLst, mkTup, allD, short, dcall, dcallF, mset, dlate, dhas, dtake, gLen, pIx, pAdd, hlim, dlstO]) ?_
    obtain ⟨r13, a13, b13, e13, l13, u13, p13⟩ := t_take a12 b12 2 p12 (by omega) (by omega)
    obtain ⟨how, hhow, q10⟩ := at_in (l := W_how) l13 (by show _ < (2 : Int); exact u13)
    unfold W_how at q10
    refine ends_nx (ρ' := [some (pT a13 b13), some (.d (.list bs)), some (.d (.list ns)), some (.d (.int way)), some (.d name), some (.d box), some (.d fig), some (.d what), some (.d rd), some (.d wr), some (.d chg), some (.d word), some (.d (.int (1 + (k : Int)))), some (.lst [.d (.tuple [.str ("read" : Str), name, box, rd]), .d (.tuple [.str ("write" : Str), box, what, wr]), .d (.tuple [.str ("change" : Str), name, box, how, what, chg])])]) (by simp [dfn, mseq, sif, sret, sset, sdrop, sasg, dandV, dorV, dnotV, dand, dor, dnot, dval, dop, dcallb, dcons, dget, mret, mno, mbind, mopt, gIsi, isT, dbackT, restore, dchain, chainMid, chainRest, onD, pLe2, pLt, pGt, pGe, keepm, dlst, dtup, mkLst, mkTup, allD, short, dcall, dcallF, mset, dlate, dhas, dtake, gLen, pIx, pAdd, hlim, dmeth, dtyp, tyT, down, oAppend, e13, q10]) ?_
    refine ends_nx (ρ' := [some (pT a13 b13), some (.d (.list bs)), some (.d (.list ns)), some (.d (.int way)), some (.d name), some (.d box), some (.d fig), some (.d what), some (.d rd), some (.d wr), some (.d chg), some (.d word), some (.d (.int (1 + (k : Int)))), some (.d (.list [.tuple [.str ("read" : Str), name, box, rd], .tuple [.str ("write" : Str), box, what, wr], .tuple [.str ("change" : Str), name, box, how, what, chg], .tuple [.str ("swap" : Str), name, box, fig, what, chg], .tuple [.str ("wait" : Str), name, box, fig, rd]]))]) (by simp [dfn, mseq, sif, sret, sset, sdrop, sasg, dandV, dorV, dnotV, dand, dor, dnot, dval, dop, dcallb, dcons, dget, mret, mno, mbind, mopt, gIsi, isT, dbackT, restore, dchain, chainMid, chainRest, onD, pLe2, pLt, pGt, pGe, keepm, dlst, dtup, mkLst, mkTup, allD, short, dcall, dcallF, mset, dlate, dhas, dtake, gLen, pIx, pAdd, hlim, dfrz, toD, toDs]) ?_
    have m3 : cMod (1 + (k : Int)) 3 = true := by simp [cMod]
    obtain ⟨fen, hfen, q11⟩ := at_in (l := W_fence) (r := (1 + (k : Int)) % 3) (Int.emod_nonneg _ (by omega)) (by show _ < (3 : Int); exact Int.emod_lt_of_pos _ (by omega))
    unfold W_fence at q11
    refine ends_nx (ρ' := [some (pT a13 b13), some (.d (.list bs)), some (.d (.list ns)), some (.d (.int way)), some (.d name), some (.d box), some (.d fig), some (.d what), some (.d rd), some (.d wr), some (.d chg), some (.d word), some (.d (.int (1 + (k : Int)))), some (.d (.list [.tuple [.str ("read" : Str), name, box, rd], .tuple [.str ("write" : Str), box, what, wr], .tuple [.str ("change" : Str), name, box, how, what, chg], .tuple [.str ("swap" : Str), name, box, fig, what, chg], .tuple [.str ("wait" : Str), name, box, fig, rd], .tuple [.str ("grab" : Str), name, box, fig, what, chg], .tuple [.str ("fence" : Str), fen]]))]) (by simp [dfn, mseq, sif, sret, sset, sdrop, sasg, dandV, dorV, dnotV, dand, dor, dnot, dval, dop, dcallb, dcons, dget, mret, mno, mbind, mopt, gIsi, isT, dbackT, restore, dchain, chainMid, chainRest, onD, pLe2, pLt, pGt, pGe, keepm, dlst, dtup, mkLst, mkTup, allD, short, dcall, dcallF, mset, dlate, dhas, dtake, gLen, pIx, pAdd, hlim, dfrz, toD, pMod, pII, m3, q11]) ?_
    refine ends_nx (ρ' := [some (pT a13 b13), some (.d (.list bs)), some (.d (.list ns)), some (.d (.int way)), some (.d name), some (.d box), some (.d fig), some (.d what), some (.d rd), some (.d wr), some (.d chg), some (.d word), some (.d (.int (1 + (k : Int)))), some (.d (.list [.tuple [.str ("read" : Str), name, box, rd], .tuple [.str ("write" : Str), box, what, wr], .tuple [.str ("change" : Str), name, box, how, what, chg], .tuple [.str ("swap" : Str), name, box, fig, what, chg], .tuple [.str ("wait" : Str), name, box, fig, rd], .tuple [.str ("grab" : Str), name, box, fig, what, chg], .tuple [.str ("fence" : Str), fen], .tuple [.str ("skip" : Str), name, word, fig, .int (1 + (k : Int))], .tuple [.str ("claim" : Str), name, word, fig]]))]) (by simp [dfn, mseq, sif, sret, sset, sdrop, sasg, dandV, dorV, dnotV, dand, dor, dnot, dval, dop, dcallb, dcons, dget, mret, mno, mbind, mopt, gIsi, isT, dbackT, restore, dchain, chainMid, chainRest, onD, pLe2, pLt, pGt, pGe, keepm, dlst, dtup, mkLst, mkTup, allD, short, dcall, dcallF, mset, dlate, dhas, dtake, gLen, pIx, pAdd, hlim, dfrz, toD]) ?_
    have c3 : ∀ x1 x2 x3 x4 x5 x6 x7 x8 x9 : PyData, cutG [x1, x2, x3, x4, x5, x6, x7, x8, x9] none (some 3) = [x1, x2, x3] := fun _ _ _ _ _ _ _ _ _ => rfl
    have c2 : ∀ x1 x2 x3 x4 x5 x6 x7 x8 x9 : PyData, cutG [x1, x2, x3, x4, x5, x6, x7, x8, x9] none (some 2) = [x1, x2] := fun _ _ _ _ _ _ _ _ _ => rfl
    have pick : ∀ x1 x2 x3 x4 x5 x6 x7 x8 x9 : PyData, ∃ deed, deed ∈ [x1, x2, x3, x4, x5, x6, x7, x8, x9] ∧ pIx (.list [x1, x2, x3, x4, x5, x6, x7, x8, x9, x1, x2, x3, x1, x2]) (.int (way : Int)) = some deed := fun x1 x2 x3 x4 x5 x6 x7 x8 x9 => by
      obtain ⟨deed, hd, q⟩ := at_in (l := [x1, x2, x3, x4, x5, x6, x7, x8, x9, x1, x2, x3, x1, x2]) (r := (way : Int)) (by omega) (by show _ < (14 : Int); omega)
      refine ⟨deed, ?_, q⟩
      simp only [List.mem_cons, List.not_mem_nil, or_false] at hd ⊢
      rcases hd with h | h | h | h | h | h | h | h | h | h | h | h | h | h <;> simp [h]
    obtain ⟨deed, hdeed, q12⟩ := pick (.tuple [.str ("read" : Str), name, box, rd]) (.tuple [.str ("write" : Str), box, what, wr]) (.tuple [.str ("change" : Str), name, box, how, what, chg]) (.tuple [.str ("swap" : Str), name, box, fig, what, chg]) (.tuple [.str ("wait" : Str), name, box, fig, rd]) (.tuple [.str ("grab" : Str), name, box, fig, what, chg]) (.tuple [.str ("fence" : Str), fen]) (.tuple [.str ("skip" : Str), name, word, fig, .int (1 + (k : Int))]) (.tuple [.str ("claim" : Str), name, word, fig])
    refine Ends.eq (a := .rt (.d deed)) (ρ := [some (pT a13 b13), some (.d (.list bs)), some (.d (.list ns)), some (.d (.int way)), some (.d name), some (.d box), some (.d fig), some (.d what), some (.d rd), some (.d wr), some (.d chg), some (.d word), some (.d (.int (1 + (k : Int)))), some (.d (.list [.tuple [.str ("read" : Str), name, box, rd], .tuple [.str ("write" : Str), box, what, wr], .tuple [.str ("change" : Str), name, box, how, what, chg], .tuple [.str ("swap" : Str), name, box, fig, what, chg], .tuple [.str ("wait" : Str), name, box, fig, rd], .tuple [.str ("grab" : Str), name, box, fig, what, chg], .tuple [.str ("fence" : Str), fen], .tuple [.str ("skip" : Str), name, word, fig, .int (1 + (k : Int))], .tuple [.str ("claim" : Str), name, word, fig]]))]) (fin14 q12 ..) ?_
    have ff : ∀ i : Int, 0 ≤ i → i < 10 → PyData.int i ∈ figs := fun i h0 h1 => by
      obtain ⟨j, rfl⟩ : ∃ j : Nat, i = j := ⟨i.toNat, by omega⟩
      exact List.mem_map.mpr ⟨j, List.mem_range.mpr (by omega), rfl⟩
    have hfig2 : fig ∈ figs := by
      simp only [List.mem_cons, List.not_mem_nil, or_false] at hfig
      rcases hfig with rfl | rfl | rfl | rfl | rfl <;> exact ff _ (by omega) (by omega)
    have hwhat2 : what ∈ figs ∨ what ∈ ns := by
      simp only [List.mem_cons, List.not_mem_nil, or_false] at hwhat
      rcases hwhat with rfl | rfl | rfl
      · exact .inl hfig2
      · exact .inl hfig2
      · exact .inr hnm
    exact ⟨deed, a13, b13, rfl, rfl, p13, name, box, fig, what, rd, wr, chg, how, word, 1 + k, hname, hbox, hfig2, hwhat2, hrd, hwr, hchg, hhow, hword, by omega, by omega, fen, hfen, hdeed⟩
  obtain ⟨v, ρ, e, deed, a', b', rfl, rfl, h⟩ := key.get
  exact ⟨deed, a', b', e, h⟩
theorem nl1 : ("\n" : Str).length = 1 := by decide +kernel
def small (d : PyData) : Bool := d.plain && d.showable && decide (d.shown.length ≤ 40) && decide (d.depth ≤ 2) && okS d
theorem small_sh {d : PyData} (h : small d = true) : Sh 40 2 d := by
  simp only [small, Bool.and_eq_true, decide_eq_true_eq] at h
  exact ⟨h.1.1.1.2, h.1.1.2, h.1.2⟩
theorem small_plain {xs : List PyData} (h : ∀ x ∈ xs, small x = true) : PyData.plainAll xs = true ∧ xs.all okS = true := by
  induction xs with
  | nil => exact ⟨rfl, rfl⟩
  | cons x xs ih =>
    obtain ⟨i1, i2⟩ := ih fun y m => h y (List.mem_cons_of_mem _ m)
    have hx := h x List.mem_cons_self
    simp only [small, Bool.and_eq_true] at hx
    exact ⟨by simp [PyData.plainAll, hx.1.1.1.1, i1], by simp [hx.2, i2]⟩
inductive Thing : PyData → Prop
  | tup (xs : List PyData) : (∀ x ∈ xs, small x = true) → xs.length ≤ 20 → Thing (.tuple xs)
  | lst (xs : List PyData) : (∀ x ∈ xs, small x = true) → xs.length ≤ 20 → Thing (.list xs)
  | tt (xs : List PyData) : (∀ x ∈ xs, small x = true) → xs.length ≤ 20 → Thing (.tuple [.tuple xs])
theorem Thing.sh {d : PyData} (h : Thing d) : Sh 2000 10 d := by
  cases h with
  | tup xs h hl => exact (Sh.tuple (fun x m => small_sh (h x m)) hl).mono (by omega) (by omega)
  | lst xs h hl => exact (Sh.list (fun x m => small_sh (h x m)) hl).mono (by omega) (by omega)
  | tt xs h hl =>
    have h1 := Sh.tuple (fun x m => small_sh (h x m)) hl
    exact (Sh.tuple (m := 1) (xs := [.tuple xs]) (fun x m => by rcases List.mem_singleton.mp m with rfl; exact h1) (Nat.le_refl _)).mono (by omega) (by omega)
theorem Thing.ok {d : PyData} (h : Thing d) : okThing d = true := by
  cases h with
  | tup xs h hl =>
    obtain ⟨i1, i2⟩ := small_plain h
    simp only [okThing, i1, i2, Bool.true_and, decide_eq_true_eq]
    omega
  | lst xs h hl => rfl
  | tt xs h hl =>
    obtain ⟨i1, i2⟩ := small_plain h
    simp [okThing, PyData.plainAll, PyData.plain, i1, okS]
theorem oneOf_in {x : PyData} {ws : List PyData} (hw : Strs ws) (h : x ∈ ws) : oneOf x ws = true := by
  obtain ⟨z, rfl⟩ := hw x h
  exact oneOf_mem h
theorem figs_whole {x : PyData} (h : x ∈ figs) : wholeD 0 9 x = true := by
  have all : ∀ x ∈ figs, wholeD 0 9 x = true := by decide
  exact all x h
theorem names_name {ns : List PyData} (hn : Names ns) {x : PyData} (h : x ∈ ns) : nameD x = true := by
  obtain ⟨z, rfl, e⟩ := hn x h
  exact e
theorem drawn_is {bs ns : List PyData} (hb : Strs bs) (hn : Names ns) {deed name box fig what rd wr chg how word : PyData} {size : Nat} {fen : PyData} (h1 : name ∈ ns) (h2 : box ∈ bs) (h3 : fig ∈ figs) (h4 : what ∈ figs ∨ what ∈ ns) (h5 : rd ∈ W_read) (h6 : wr ∈ W_write) (h7 : chg ∈ W_change) (h8 : how ∈ W_how) (h9 : word ∈ W_word)
    (h10 : 1 ≤ size) (h11 : size ≤ 8) (h12 : fen ∈ W_fence) (h : deed ∈ ([.tuple [.str ("read" : Str), name, box, rd], .tuple [.str ("write" : Str), box, what, wr], .tuple [.str ("change" : Str), name, box, how, what, chg], .tuple [.str ("swap" : Str), name, box, fig, what, chg], .tuple [.str ("wait" : Str), name, box, fig, rd],
          .tuple [.str ("grab" : Str), name, box, fig, what, chg], .tuple [.str ("fence" : Str), fen], .tuple [.str ("skip" : Str), name, word, fig, .int size], .tuple [.str ("claim" : Str), name, word, fig]] : List PyData)) : deedOf bs deed = true := by
  have k1 := names_name hn h1
  have k2 := oneOf_in hb h2
  have k3 := figs_whole h3
  have k4 : whatD what = true := by
    unfold whatD
    rcases h4 with h4 | h4
    · rw [figs_whole h4]; rfl
    · rw [names_name hn h4, Bool.or_true]
  have k5 := oneOf_in (strs_W (.inl rfl)) h5
  have k6 := oneOf_in (strs_W (.inr (.inl rfl))) h6
  have k7 := oneOf_in (strs_W (.inr (.inr (.inl rfl)))) h7
  have k8 := oneOf_in (strs_W (.inr (.inr (.inr (.inr (.inl rfl)))))) h8
  have k9 := oneOf_in (strs_W (.inr (.inr (.inr (.inr (.inr rfl)))))) h9
  have k10 : wholeD 1 8 (.int size) = true := by simp [wholeD]; omega
  have k12 := oneOf_in (strs_W (.inr (.inr (.inr (.inl rfl))))) h12
  have nil : allFit bs [] [] = true := rfl
  have f1 : formOf "read" = some [.name, .box, .reading] := by kernel_rfl
  have f2 : formOf "write" = some [.box, .what, .writing] := by kernel_rfl
  have f3 : formOf "change" = some [.name, .box, .how, .what, .changing] := by kernel_rfl
  have f4 : formOf "swap" = some [.name, .box, .number, .what, .changing] := by kernel_rfl
  have f5 : formOf "wait" = some [.name, .box, .number, .reading] := by kernel_rfl
  have f6 : formOf "grab" = some [.name, .box, .number, .what, .changing] := by kernel_rfl
  have f7 : formOf "fence" = some [.fencing] := by kernel_rfl
  have f8 : formOf "skip" = some [.name, .word, .number, .many] := by kernel_rfl
  have f9 : formOf "claim" = some [.name, .word, .number] := by kernel_rfl
  simp only [List.mem_cons, List.not_mem_nil, or_false] at h
  rcases h with rfl | rfl | rfl | rfl | rfl | rfl | rfl | rfl | rfl <;>
    simp [deedOf, f1, f2, f3, f4, f5, f6, f7, f8, f9, allFit_cons, nil, Kd.fits, k1, k2, k3, k4, k5, k6, k7, k8, k9, k10, k12]


theorem small_of {xs : List PyData} (h : xs.all small = true) : ∀ x ∈ xs, small x = true := fun x m => List.all_eq_true.mp h x m
theorem small_W {ws : List PyData} (h : ws = W_read ∨ ws = W_write ∨ ws = W_change ∨ ws = W_fence ∨ ws = W_how ∨ ws = W_word ∨ ws = figs) : ∀ d ∈ ws, small d = true := by
  rcases h with rfl | rfl | rfl | rfl | rfl | rfl | rfl <;> exact small_of (by decide +kernel)
theorem menu_small : ∀ z ∈ menu8, small (.str z) = true := by
  have h : (menu8.all fun z => small (.str z)) = true := by decide +kernel
  exact fun z m => List.all_eq_true.mp h z m
theorem heads_small : ∀ x ∈ ([.str ("read" : Str), .str ("write" : Str), .str ("change" : Str), .str ("swap" : Str), .str ("wait" : Str), .str ("grab" : Str), .str ("fence" : Str), .str ("skip" : Str), .str ("claim" : Str)] : List PyData), small x = true := small_of (by decide +kernel)
theorem drawn_small {bs ns : List PyData} (hbs : ∀ x ∈ bs, small x = true) (hns : ∀ x ∈ ns, small x = true) {deed name box fig what rd wr chg how word : PyData} {size : Nat} {fen : PyData} (h1 : name ∈ ns) (h2 : box ∈ bs) (h3 : fig ∈ figs) (h4 : what ∈ figs ∨ what ∈ ns) (h5 : rd ∈ W_read) (h6 : wr ∈ W_write) (h7 : chg ∈ W_change) (h8 : how ∈ W_how) (h9 : word ∈ W_word)
    (h11 : size ≤ 8) (h12 : fen ∈ W_fence) (h : deed ∈ ([.tuple [.str ("read" : Str), name, box, rd], .tuple [.str ("write" : Str), box, what, wr], .tuple [.str ("change" : Str), name, box, how, what, chg], .tuple [.str ("swap" : Str), name, box, fig, what, chg], .tuple [.str ("wait" : Str), name, box, fig, rd],
          .tuple [.str ("grab" : Str), name, box, fig, what, chg], .tuple [.str ("fence" : Str), fen], .tuple [.str ("skip" : Str), name, word, fig, .int size], .tuple [.str ("claim" : Str), name, word, fig]] : List PyData)) : ∃ ds, deed = .tuple ds ∧ 0 < ds.length ∧ ds.length ≤ 6 ∧ ∀ y ∈ ds, small y = true := by
  have k1 := hns _ h1
  have k2 := hbs _ h2
  have k3 := small_W (.inr (.inr (.inr (.inr (.inr (.inr rfl)))))) _ h3
  have k4 : small what = true := h4.elim (small_W (.inr (.inr (.inr (.inr (.inr (.inr rfl)))))) _) (hns _)
  have k5 := small_W (.inl rfl) _ h5
  have k6 := small_W (.inr (.inl rfl)) _ h6
  have k7 := small_W (.inr (.inr (.inl rfl))) _ h7
  have k8 := small_W (.inr (.inr (.inr (.inr (.inl rfl))))) _ h8
  have k9 := small_W (.inr (.inr (.inr (.inr (.inr (.inl rfl)))))) _ h9
  have k12 := small_W (.inr (.inr (.inr (.inl rfl)))) _ h12
  have k10 : small (.int size) = true := small_W (.inr (.inr (.inr (.inr (.inr (.inr rfl)))))) _ (List.mem_map.mpr ⟨size, List.mem_range.mpr (by omega), rfl⟩)
  have hh := fun z m => heads_small z m
  simp only [List.mem_cons, List.not_mem_nil, or_false, forall_eq_or_imp, forall_eq] at hh
  obtain ⟨z1, z2, z3, z4, z5, z6, z7, z8, z9⟩ := hh
  simp only [List.mem_cons, List.not_mem_nil, or_false] at h
  rcases h with rfl | rfl | rfl | rfl | rfl | rfl | rfl | rfl | rfl <;>
    exact ⟨_, rfl, by simp, by simp, by simp [z1, z2, z3, z4, z5, z6, z7, z8, z9, k1, k2, k3, k4, k5, k6, k7, k8, k9, k10, k12]⟩

def DeedS (y : PyData) : Prop := Sh 256 4 y ∧ okThing y = true
def BoxesOk (zs : List Str) : Prop := 1 ≤ zs.length ∧ zs.length ≤ 4 ∧ (∀ z ∈ zs, z ∈ menu8) ∧ zs.Pairwise fun a b => strLt a b = true
theorem strLt_of {a b : Str} (h : leS a b = true) (ne : a ≠ b) : strLt a b = true := by
  cases q : strLt a b with
  | true => rfl
  | false =>
    have : leS b a = true := by
      show (!strLt a b) = true
      rw [q]
      rfl
    exact absurd (leS_anti h this) ne
theorem rising_of {us left : List Str} (hp : (us ++ left).Perm menu8) : (sortStr us).Pairwise fun a b => strLt a b = true := by
  have nd : menu8.Nodup := by decide +kernel
  have n1 : us.Nodup := (List.nodup_append.mp (hp.nodup_iff.mpr nd)).1
  have n2 : (sortStr us).Nodup := (List.mergeSort_perm us leS).nodup_iff.mpr n1
  have h2 : (sortStr us).Pairwise fun a b => leS a b = true := List.pairwise_mergeSort (le := leS) (fun _ _ _ => leS_trans) leS_total us
  exact (h2.and n2).imp fun ⟨p, q⟩ => strLt_of p q
def menu6 : List PyData := [.str ("r" : Str), .str ("s" : Str), .str ("x" : Str)]
theorem menu6_ok : ∀ d ∈ menu6, ∃ z, d = .str z ∧ nameS z = true := by
  intro d h
  simp only [menu6, List.mem_cons, List.not_mem_nil, or_false] at h
  rcases h with rfl | rfl | rfl | rfl | rfl | rfl <;> exact ⟨_, rfl, by decide +kernel⟩
theorem menu6_small : ∀ x ∈ menu6, small x = true := small_of (by decide +kernel)
end LW
end
section
set_option maxRecDepth 100000
set_option linter.all false
open PySem L2 DL
namespace LW
def LineN (u : Nat) (bs : List PyData) (h : PyData) : Prop := ∃ ds, h = .list ds ∧ ds.length ≤ u ∧ ∀ y ∈ ds, deedOf bs y = true ∧ DeedS y
theorem t_line (a b : Int) (bs ns : List PyData) (u : Nat) (hu : u ≤ 8) (hb : PoolOk b) (hbs : Strs bs) (b0 : 0 < bs.length) (b1 : bs.length ≤ 1000) (bs_ : ∀ x ∈ bs, small x = true) (hn : Names ns) (n0 : 0 < ns.length) (n1 : ns.length ≤ 1000) (ns_ : ∀ x ∈ ns, small x = true) (o1 o5 o6 o7 : Option T) :
    Ends (l__law_small_1 [some (pT a b), o1, some (.d (.int u)), some (.d (.list bs)), some (.d (.list ns)), o5, o6, o7]) fun v ρ => ∃ ds a' b', v = .d (.list ds) ∧ ρ = [some (pT a' b'), o1, some (.d (.int u)), some (.d (.list bs)), some (.d (.list ns)), o5, o6, none] ∧ PoolOk b' ∧ ds.length ≤ u ∧
      ∀ y ∈ ds, deedOf bs y = true ∧ DeedS y := by
  have hlim : lim = 100000 := rfl
  obtain ⟨r, a1, c1, e1, l1, u1, p1⟩ := t_take a b ((u : Int) + 1) hb (by omega) (by omega)
  obtain ⟨m, rfl⟩ : ∃ m : Nat, r = m := ⟨r.toNat, by omega⟩
  have ok : okRange (m : Int) = true := by
    simp only [okRange, Bool.and_eq_true, decide_eq_true_eq]
    omega
  have ea : pAdd (.int (u : Int)) (.int 1) = some (.int ((u : Int) + 1)) := rfl
  refine ends_dlc (ds := DL.intsFrom 0 m) (ρ1 := [some (pT a1 c1), o1, some (.d (.int u)), some (.d (.list bs)), some (.d (.list ns)), o5, o6, o7]) (by simp [dfn, mseq, sif, sret, sset, sdrop, sasg, dandV, dorV, dnotV, dand, dor, dnot, dval, dop, dcallb, dcons, dget, mret, mno, mbind, mopt, gIsi, isT, dbackT, restore, dchain, chainMid, chainRest, onD, pLe2, pLt, pGt, pGe, keepm, dlst, dtup, mkLst, mkTup, allD, short, dcall, dcallF, mset, drange, dlate, dhas, dtake, ea, e1, rangeItems, ok]) ?_
  refine ends_lc (fun ts acc ρ => ∃ ds a' b', acc = (ds : List PyData).map T.d ∧ ρ = [some (pT a' b'), o1, some (.d (.int u)), some (.d (.list bs)), some (.d (.list ns)), o5, o6, none] ∧ PoolOk b' ∧ ds.length + ts.length = m ∧ ∀ y ∈ ds, deedOf bs y = true ∧ DeedS y) ?_ ?_ ?_
  · rintro acc ρ ⟨ds, a', b', rfl, rfl, p, hl, hd⟩
    exact ⟨ds, rfl, ds, a', b', rfl, rfl, p, by simp at hl; omega, hd⟩
  · rintro t ts acc ρ ⟨ds, a', b', rfl, rfl, p, hl, hd⟩
    rw [List.length_cons] at hl
    obtain ⟨r, a2, c2, e2, l2, u2, p2⟩ := t_take a' b' 14 p (by omega) (by omega)
    obtain ⟨j, rfl⟩ : ∃ j : Nat, r = j := ⟨r.toNat, by omega⟩
    obtain ⟨deed, a3, c3, e3, p3, name, box, fig, what, rd, wr, chg, how, word, size', h1, h2, h3, h4, h5, h6, h7, h8, h9, h10, h11, fen, h12, h13⟩ := t_deed a2 c2 bs ns j p2 hbs b0 b1 hn n0 n1 (by omega)
    have isd := drawn_is hbs hn h1 h2 h3 h4 h5 h6 h7 h8 h9 h10 h11 h12 h13
    obtain ⟨ps, rfl, d0, d1, ds_⟩ := drawn_small bs_ ns_ h1 h2 h3 h4 h5 h6 h7 h8 h9 h11 h12 h13
    have th : Thing (.tuple ps) := .tup _ ds_ (by omega)
    have sh : DeedS (.tuple ps) := ⟨(Sh.tuple (fun x m => small_sh (ds_ x m)) d1).mono (by omega) (by omega), th.ok⟩
    refine Ends.eq (ρ := [some (pT a' b'), o1, some (.d (.int u)), some (.d (.list bs)), some (.d (.list ns)), o5, o6, some t]) (a := ()) rfl ?_
    refine Ends.eq (a := true) (ρ := [some (pT a' b'), o1, some (.d (.int u)), some (.d (.list bs)), some (.d (.list ns)), o5, o6, some t]) rfl ?_
    rw [if_pos rfl]
    refine Ends.eq (a := .d (.tuple ps)) (ρ := [some (pT a3 c3), o1, some (.d (.int u)), some (.d (.list bs)), some (.d (.list ns)), o5, o6, some t]) ?_ ?_
    · simp [dfn, mseq, sif, sret, sset, sdrop, sasg, dandV, dorV, dnotV, dand, dor, dnot, dval, dop, dcallb, dcons, dget, mret, mno, mbind, mopt, gIsi, isT, dbackT, restore, dchain, chainMid, chainRest, onD, pLe2, pLt, pGt, pGe, keepm, dlst, dtup, mkLst, mkTup, allD, short, dcall, dcallF, mset, dlate, dhas, dtake, e2, e3]
    · refine ⟨by rw [List.length_map]; omega, ds ++ [.tuple ps], a3, c3, by rw [List.map_append]; rfl, rfl, p3, by rw [List.length_append, List.length_singleton]; omega, fun y m => ?_⟩
      rcases List.mem_append.mp m with m | m
      · exact hd y m
      · rcases List.mem_singleton.mp m with rfl
        exact ⟨isd, sh⟩
  · exact ⟨[], a1, c1, rfl, rfl, p1, by unfold DL.intsFrom; simp, fun _ m => nomatch m⟩
theorem t_small (a b : Int) (u : Nat) (hu : u ≤ 8) (hb : PoolOk b) : ∃ zs hs a' b', f__law_small [pT a b, .d (.int 4), .d (.int u)] = .ok (.d (.tuple [.list ((zs : List Str).map PyData.str), .list hs])) [some (pT a' b'), some (.d (.int 4)), some (.d (.int u))] ∧ PoolOk b' ∧ BoxesOk zs ∧ 1 ≤ hs.length ∧ hs.length ≤ 4 ∧
    (∀ h ∈ hs, LineN u (zs.map PyData.str) h) := by
  have hlim : lim = 100000 := rfl
  have key : Ends (f__law_small [pT a b, .d (.int 4), .d (.int u)]) fun v ρ => ∃ zs hs a' b', v = .d (.tuple [.list ((zs : List Str).map PyData.str), .list hs]) ∧ ρ = [some (pT a' b'), some (.d (.int 4)), some (.d (.int u))] ∧ PoolOk b' ∧ BoxesOk zs ∧ 1 ≤ hs.length ∧ hs.length ≤ 4 ∧ (∀ h ∈ hs, LineN u (zs.map PyData.str) h) := by
    refine ends_fn ?_
    obtain ⟨r, a1, b1, e1, r0, r1, p1⟩ := t_take a b 4 hb (by omega) (by omega)
    obtain ⟨k, rfl⟩ : ∃ k : Nat, r = k := ⟨r.toNat, by omega⟩
    have hm : (menu8.map PyData.str).length = 4 := rfl
    obtain ⟨out, a2, b2, e2, p2, hl, left, hp⟩ := t_picked a1 b1 (menu8.map PyData.str) (1 + k) p1 (by rw [hm]; omega)
    rw [hm] at hl
    rw [show (((1 + k : Nat)) : Int) = 1 + (k : Int) by omega] at e2
    obtain ⟨us, rfl, hus⟩ := strs_of (M := menu8) (out := out) fun d m => by
      obtain ⟨z, hz, e⟩ := List.mem_map.mp (hp.mem_iff.mp (List.mem_append_left _ m))
      exact ⟨z, hz, e.symm⟩
    obtain ⟨ls, rfl, hls⟩ := strs_of (M := menu8) (out := left) fun d m => by
      obtain ⟨z, hz, e⟩ := List.mem_map.mp (hp.mem_iff.mp (List.mem_append_right _ m))
      exact ⟨z, hz, e.symm⟩
    rw [List.length_map] at hl
    have h64 : us.length < 64 := by omega
    have hs : gSorted [.d (.list (us.map PyData.str))] = some (.d (.list ((sortStr us).map PyData.str))) := by
      simp [gSorted, strsD_map, h64]
    have hperm : (us ++ ls).Perm menu8 := by
      have : ((us ++ ls).map PyData.str).Perm (menu8.map PyData.str) := by rw [List.map_append]; exact hp
      have un : ∀ l : List Str, (l.map PyData.str).map (fun d => match d with | .str z => z | _ => "") = l := fun l => by
        rw [List.map_map]
        exact List.map_id l
      have h3 := this.map (fun d => match d with | .str z => z | _ => ("" : Str))
      rw [un, un] at h3
      exact h3
    have zl : (sortStr us).length = us.length := by unfold sortStr; rw [List.length_mergeSort]
    have hz : ∀ z ∈ sortStr us, z ∈ menu8 := fun z m => hperm.subset (List.mem_append_left _ (((List.mergeSort_perm us _).subset m)))
    have bok : BoxesOk (sortStr us) := ⟨by omega, by omega, hz, rising_of hperm⟩
    generalize sortStr us = zs at hs zl hz bok
    have bl : (zs.map PyData.str).length = zs.length := List.length_map _
    have bS : Strs (zs.map PyData.str) := fun d m => by
      obtain ⟨z, _, rfl⟩ := List.mem_map.mp m
      exact ⟨z, rfl⟩
    have bs_ : ∀ y ∈ zs.map PyData.str, small y = true := fun d m => by
      obtain ⟨z, hz2, rfl⟩ := List.mem_map.mp m
      exact menu_small z (hz z hz2)
    have bl1 := bok.1
    have bl4 := bok.2.1
    generalize hbs : zs.map PyData.str = bs at *
    have q : dlst (dcons (mret (.d (.str ("x" : Str)))) (dcons (mret (.d (.str ("y" : Str)))) (dcons (mret (.d (.str ("hand" : Str)))) (dcons (mret (.d (.str ("abc" : Str)))) (mret []))))) [some (pT a b), some (.d (.int 4)), some (.d (.int u)), none, none, none, none, none] = .ok (.d (.list (menu8.map PyData.str))) [some (pT a b), some (.d (.int 4)), some (.d (.int u)), none, none, none, none, none] := by rfl
    generalize PyData.list (menu8.map PyData.str) = M at q e2
    refine ends_nx (ρ' := [some (pT a2 b2), some (.d (.int 4)), some (.d (.int u)), some (.d (.list bs)), none, none, none, none]) ?_ ?_
    · generalize hD : dlst (dcons (mret (.d (.str ("x" : Str)))) (dcons (mret (.d (.str ("y" : Str)))) (dcons (mret (.d (.str ("hand" : Str)))) (dcons (mret (.d (.str ("abc" : Str)))) (mret []))))) = D at q ⊢
      simp [dfn, mseq, sif, sret, sset, sdrop, sasg, dandV, dorV, dnotV, dand, dor, dnot, dval, dop, dcallb, dcons, dget, mret, mno, mbind, mopt, gIsi, isT, dbackT, restore, dchain, chainMid, chainRest, onD, pLe2, pLt, pGt, pGe, keepm, dlst, dtup, mkLst, mkTup, allD, short, dcall, dcallF, mset, q, dlate, dhas, dtake, e1, pAdd, e2, hs]
    obtain ⟨r, a1, c1, e1, l1, u1, p1⟩ := t_take a2 b2 2 p2 (by omega) (by omega)
    obtain ⟨k2, rfl⟩ : ∃ k : Nat, r = k := ⟨r.toNat, by omega⟩
    obtain ⟨ns, a3, c3, e3, p3, hl3, nleft, hnp⟩ := t_picked a1 c1 menu6 (1 + k2) p1 (by decide)
    rw [show (((1 + k2 : Nat)) : Int) = 1 + (k2 : Int) by omega] at e3
    have hl6 : menu6.length = 3 := rfl
    have hnm : ∀ d ∈ ns, d ∈ menu6 := fun d m => hnp.subset (List.mem_append_left _ m)
    have nok : Names ns := fun d m => menu6_ok d (hnm d m)
    have nsm : ∀ x ∈ ns, small x = true := fun x m => menu6_small x (hnm x m)
    have nl0 : 0 < ns.length := by omega
    have nl1 : ns.length ≤ 1000 := by omega
    unfold menu6 at e3
    refine ends_nx (ρ' := [some (pT a3 c3), some (.d (.int 4)), some (.d (.int u)), some (.d (.list bs)), some (.d (.list ns)), none, none, none]) (by simp [dfn, mseq, sif, sret, sset, sdrop, sasg, dandV, dorV, dnotV, dand, dor, dnot, dval, dop, dcallb, dcons, dget, mret, mno, mbind, mopt, gIsi, isT, dbackT, restore, dchain, chainMid, chainRest, onD, pLe2, pLt, pGt, pGe, keepm, dlst, dtup, mkLst, mkTup, allD, short, dcall, dcallF, mset, dlate, dhas, dtake, hlim, e1, pAdd, e3]) ?_
    refine ends_nx (ρ' := [some (pT a3 c3), some (.d (.int 4)), some (.d (.int u)), some (.d (.list bs)), some (.d (.list ns)), some (.lst []), none, none]) rfl ?_
    obtain ⟨r4, a4, c4, e4, l4, u4, p4⟩ := t_take a3 c3 4 p3 (by omega) (by omega)
    obtain ⟨m, rfl⟩ : ∃ m : Nat, r4 = m := ⟨r4.toNat, by omega⟩
    have okm : okRange ((1 + m : Nat) : Int) = true := by
      simp only [okRange, Bool.and_eq_true, decide_eq_true_eq]
      omega
    refine ends_seq (ends_bind' (a := DL.intsFrom 0 (1 + m)) (ρ' := [some (pT a4 c4), some (.d (.int 4)), some (.d (.int u)), some (.d (.list bs)), some (.d (.list ns)), some (.lst []), none, none]) ?_ ?_)
    · have okm' : okRange (1 + (m : Int)) = true := by rw [show 1 + (m : Int) = ((1 + m : Nat) : Int) by omega]; exact okm
      have tn : (1 + (m : Int)).toNat = 1 + m := by omega
      simp [dfn, mseq, sif, sret, sset, sdrop, sasg, dandV, dorV, dnotV, dand, dor, dnot, dval, dop, dcallb, dcons, dget, mret, mno, mbind, mopt, gIsi, isT, dbackT, restore, dchain, chainMid, chainRest, onD, pLe2, pLt, pGt, pGe, keepm, dlst, dtup, mkLst, mkTup, allD, short, dcall, dcallF, mset, dlate, dhas, dtake, drange, e4, pAdd, rangeItems, okm', tn]
    refine ends_for (fun ts ρ => ∃ hs a' c' o6 o7, ρ = [some (pT a' c'), some (.d (.int 4)), some (.d (.int u)), some (.d (.list bs)), some (.d (.list ns)), some (.lst ((hs : List PyData).map T.d)), o6, o7] ∧ PoolOk c' ∧ hs.length + ts.length = 1 + m ∧ ∀ h ∈ hs, LineN u bs h)
      ⟨[], a4, c4, none, none, rfl, p4, by unfold DL.intsFrom; simp, fun _ m => nomatch m⟩ ?_ ?_
    · rintro ρ ⟨hs, a', c', o6, o7, rfl, p', hlen, hh⟩
      have hlen : hs.length = 1 + m := by simpa using hlen
      show Ends _ _
      obtain ⟨r5, a5, c5, e5, l5, u5, p5⟩ := t_take a' c' 4 p' (by omega) (by omega)
      have fin : ∀ hs' : List PyData, hs'.length = 1 + m → (∀ h ∈ hs', LineN u bs h) → Ends (sret (dtup (dcons (dget 3) (dcons (dfrz 5) (mret [])))) [some (pT a5 c5), some (.d (.int 4)), some (.d (.int u)), some (.d (.list bs)), some (.d (.list ns)), some (.lst (hs'.map T.d)), o6, o7]) (OfFn [true, true, true] fun v ρ => ∃ zs hs a' b', v = .d (.tuple [.list ((zs : List Str).map PyData.str), .list hs]) ∧ ρ = [some (pT a' b'), some (.d (.int 4)), some (.d (.int u))] ∧ PoolOk b' ∧ BoxesOk zs ∧ 1 ≤ hs.length ∧ hs.length ≤ 4 ∧ (∀ h ∈ hs, LineN u (zs.map PyData.str) h)) := fun hs' h1 h2 => by
        have e5 : toDs (hs'.map T.d) = some hs' := toDs_map hs'
        have e6 : toD (.lst (hs'.map T.d)) = some (.list hs') := by rw [toD, e5]; rfl
        refine Ends.eq (a := Fl.rt (.d (.tuple [.list bs, .list hs']))) (ρ := [some (pT a5 c5), some (.d (.int 4)), some (.d (.int u)), some (.d (.list bs)), some (.d (.list ns)), some (.d (.list hs')), o6, o7]) ?_ ?_
        · simp only [dfn, mseq, sif, sret, sset, sdrop, sasg, dandV, dorV, dnotV, dand, dor, dnot, dval, dop, dcallb, dcons, dget, mret, mno, mbind, mopt, gIsi, isT, dbackT, restore, dchain, chainMid, chainRest, onD, pLe2, pLt, pGt, pGe, keepm, dlst, dtup, mkLst, mkTup, allD, short, dcall, dcallF, mset, dfrz, List.getElem?_cons_succ, List.getElem?_cons_zero, e6]
          rfl
        · exact ⟨zs, hs', a5, c5, by rw [hbs], rfl, p5, bok, by omega, by omega, by rw [hbs]; exact h2⟩
      by_cases h0 : r5 = 0
      · subst h0
        have gn : gNeg (.d (.int 1)) = some (.d (.int (-1))) := rfl
        have c0 : pEq (.int 0) (.int 0) = some (.bool true) := rfl
        obtain ⟨h, hsr, rfl⟩ : ∃ h r, hs = h :: r := by
          cases hs with
          | nil => simp at hlen; omega
          | cons h r => exact ⟨h, r, rfl⟩
        obtain ⟨ds, rfl, hd1, hd2⟩ := hh h List.mem_cons_self
        have e0 : tItem (.lst (((.list ds : PyData) :: hsr).map T.d)) (.d (.int 0)) = some (.d (.list ds)) := by
          have : atI (((.list ds : PyData) :: hsr).map T.d) 0 = some (.d (.list ds)) := atI_nat _ 0 rfl
          show (match atI (((.list ds : PyData) :: hsr).map T.d) 0 with
            | some (.d x) => some (T.d x)
            | _ => none) = _
          rw [this]
        have el : ixN (((.list ds : PyData) :: hsr).map T.d).length (-1) = some hsr.length := by
          unfold ixN
          simp
          omega
        have ep : tPut (.lst (((.list ds : PyData) :: hsr).map T.d)) (.d (.int (-1))) (.d (.list ds)) = some (.lst ((((.list ds : PyData) :: hsr).set hsr.length (.list ds)).map T.d)) := by
          show (ixN (((.list ds : PyData) :: hsr).map T.d).length (-1)).map _ = _
          rw [el, List.map_set]
          rfl
        generalize hX : ((.list ds : PyData) :: hsr) = X at *
        generalize hY : X.set hsr.length (.list ds) = Y at *
        have hYl : Y.length = 1 + m := by rw [← hY, List.length_set]; exact hlen
        have hYm : ∀ h ∈ Y, LineN u bs h := fun h mh => by
          rw [← hY] at mh
          rcases List.mem_or_eq_of_mem_set mh with z | z
          · exact hh h z
          · rw [z]; exact ⟨ds, rfl, hd1, hd2⟩
        refine ends_nx (ρ' := [some (pT a5 c5), some (.d (.int 4)), some (.d (.int u)), some (.d (.list bs)), some (.d (.list ns)), some (.lst (Y.map T.d)), o6, o7]) ?_ (fin Y hYl hYm)
        generalize T.lst (X.map T.d) = tX at *
        generalize T.lst (Y.map T.d) = tY at *
        simp [sif, dval, dop, onD, mbind, mret, mopt, dcall, dcallF, dbackT, restore, dlate, dhas, dtake, dcons, e5, c0, isT, sasg, dcallb, gList, dixO, dreadO, e0, gput, dneg, gn, dput, ep]
      · have c0 : pEq (.int r5) (.int 0) = some (.bool false) := by
          unfold pEq
          simp [okEq, PyData.plain, PyData.depth, PyData.eqv, h0]
        refine ends_nx (ρ' := [some (pT a5 c5), some (.d (.int 4)), some (.d (.int u)), some (.d (.list bs)), some (.d (.list ns)), some (.lst (hs.map T.d)), o6, o7]) ?_ (fin hs hlen hh)
        simp [sif, dval, dop, onD, mbind, mret, mopt, dcall, dcallF, dbackT, restore, dlate, dhas, dtake, dcons, e5, c0, isT]
    · rintro t ts ρ ⟨hs, a', c', o6, o7, rfl, p', hlen, hh⟩
      rw [List.length_cons] at hlen
      refine Ends.eq (a := ()) (ρ := [some (pT a' c'), some (.d (.int 4)), some (.d (.int u)), some (.d (.list bs)), some (.d (.list ns)), some (.lst (hs.map T.d)), some t, o7]) rfl ?_
      obtain ⟨v, ρ2, e6, ds, a6, c6, rfl, rfl, p6, hdl, hds⟩ := (t_line a' c' bs ns u hu p' bS (by omega) (by omega) bs_ nok nl0 nl1 nsm (some (.d (.int 4))) (some (.lst (hs.map T.d))) (some t) o7).get
      have c9 : hs.length < 100000 := by omega
      refine Ends.eq (a := .nx) (ρ := [some (pT a6 c6), some (.d (.int 4)), some (.d (.int u)), some (.d (.list bs)), some (.d (.list ns)), some (.lst ((hs ++ [PyData.list ds]).map T.d)), some t, none]) ?_ ?_
      · simp [y__law_small_2, dfn, mseq, sif, sret, sset, sdrop, sasg, dandV, dorV, dnotV, dand, dor, dnot, dval, dop, dcallb, dcons, dget, mret, mno, mbind, mopt, gIsi, isT, dbackT, restore, dchain, chainMid, chainRest, onD, pLe2, pLt, pGt, pGe, keepm, dlst, dtup, mkLst, mkTup, allD, short, dcall, dcallF, mset, dmeth, dtyp, tyT, down, oAppend, e6, hlim, c9]
      · refine ⟨hs ++ [.list ds], a6, c6, some t, none, rfl, p6, by rw [List.length_append, List.length_singleton]; omega, fun h m => ?_⟩
        rcases List.mem_append.mp m with m | m
        · exact hh h m
        · rcases List.mem_singleton.mp m with rfl
          exact ⟨ds, rfl, hdl, hds⟩
  obtain ⟨v, ρ, e, zs, hs, a', b', rfl, rfl, h⟩ := key.get
  exact ⟨zs, hs, a', b', e, h⟩
end LW
end
section
set_option maxRecDepth 100000
set_option linter.all false
open PySem L2 DL
namespace LW
def setAll {α : Type} : List α → List (Nat × α) → List α
  | acc, [] => acc
  | acc, (i, x) :: r => setAll (acc.set i x) r
theorem setAll_len {α : Type} : ∀ (ps : List (Nat × α)) (acc : List α), (setAll acc ps).length = acc.length
  | [], _ => rfl
  | (i, x) :: r, acc => by rw [setAll, setAll_len r, List.length_set]
theorem lookup_none {α : Type} {j : Nat} : ∀ {ps : List (Nat × α)}, j ∉ ps.map (·.1) → ps.lookup j = none
  | [], _ => rfl
  | (i, x) :: r, h => by
    rw [List.map_cons, List.mem_cons, not_or] at h
    rw [List.lookup_cons, beq_eq_false_iff_ne.mpr h.1]
    exact lookup_none h.2
theorem setAll_get {α : Type} : ∀ (ps : List (Nat × α)) (acc : List α), (ps.map (·.1)).Nodup → ∀ j (h : j < acc.length), (setAll acc ps)[j]? = some ((ps.lookup j).getD acc[j])
  | [], acc, _, j, h => by simp [setAll, h]
  | (i, x) :: r, acc, nd, j, h => by
    rw [List.map_cons, List.nodup_cons] at nd
    rw [setAll, setAll_get r _ nd.2 j (by rw [List.length_set]; exact h), List.lookup_cons]
    by_cases e : j = i
    · subst e
      rw [lookup_none nd.1]
      simp
    · rw [beq_eq_false_iff_ne.mpr e]
      simp [List.getElem_set, Ne.symm e]
theorem lookup_zip {α : Type} {j : Nat} : ∀ {os : List Nat} {xs : List α}, os.length = xs.length → j ∈ os → (os.zip xs).lookup j = xs[os.idxOf j]?
  | [], _, _, h => nomatch h
  | o :: os, [], l, _ => by simp at l
  | o :: os, x :: xs, l, h => by
    rw [List.zip_cons_cons, List.lookup_cons, List.idxOf_cons]
    by_cases e : j = o
    · subst e
      simp
    · have h2 : j ∈ os := by
        rcases List.mem_cons.mp h with q | q
        · exact absurd q e
        · exact q
      rw [beq_eq_false_iff_ne.mpr e, beq_eq_false_iff_ne.mpr (Ne.symm e)]
      show (os.zip xs).lookup j = (x :: xs)[os.idxOf j + 1]?
      rw [lookup_zip (by simpa using l) h2]
      simp
structure Ord (os : List Nat) (n : Nat) : Prop where
  len : os.length = n
  nd : os.Nodup
  lt : ∀ x ∈ os, x < n
  all : ∀ j, j < n → j ∈ os
theorem Ord.of_perm {os : List Nat} {n : Nat} (h : os.Perm (List.range n)) : Ord os n :=
  ⟨by rw [h.length_eq, List.length_range], h.nodup_iff.mpr List.nodup_range, fun x m => List.mem_range.mp (h.mem_iff.mp m), fun j hj => h.mem_iff.mpr (List.mem_range.mpr hj)⟩
theorem Ord.range (n : Nat) : Ord (List.range n) n := .of_perm (List.Perm.refl _)
def inv (os : List Nat) : List Nat := (List.range os.length).map fun j => os.idxOf j
theorem setAll_zip {α : Type} {os : List Nat} {n : Nat} (o : Ord os n) {xs : List α} (hx : xs.length = n) (d : α) {acc : List α} (ha : acc.length = n) : setAll acc (os.zip xs) = (inv os).map fun k => xs.getD k d := by
  refine List.ext_getElem? fun j => ?_
  unfold inv
  rw [List.map_map, List.getElem?_map, o.len]
  by_cases hj : j < n
  · have fst : (os.zip xs).map (·.1) = os := List.map_fst_zip (by rw [o.len, hx]; exact Nat.le_refl _)
    rw [setAll_get _ _ (by rw [fst]; exact o.nd) j (by omega), lookup_zip (by rw [o.len, hx]) (o.all j hj), List.getElem?_range hj]
    have hi : os.idxOf j < xs.length := by
      have := List.idxOf_lt_length_iff.mpr (o.all j hj)
      rw [hx, ← o.len]
      exact this
    simp [hi]
  · rw [List.getElem?_eq_none (by rw [setAll_len]; omega), List.getElem?_eq_none (by rw [List.length_range]; omega)]
    rfl
theorem Ord.idx {os : List Nat} {n : Nat} (o : Ord os n) {k : Nat} (hk : k < n) : os.idxOf (os[k]'(by rw [o.len]; exact hk)) = k := o.nd.idxOf_getElem k _
theorem Ord.at_ {os : List Nat} {n : Nat} (o : Ord os n) {j : Nat} (hj : j < n) : ∃ h : os.idxOf j < os.length, os[os.idxOf j] = j :=
  ⟨List.idxOf_lt_length_iff.mpr (o.all j hj), List.getElem_idxOf _⟩
theorem inv_len (os : List Nat) : (inv os).length = os.length := by unfold inv; rw [List.length_map, List.length_range]
theorem inv_at {os : List Nat} {j : Nat} (hj : j < os.length) : (inv os)[j]'(by rw [inv_len]; exact hj) = os.idxOf j := by simp [inv]
theorem Ord.inv {os : List Nat} {n : Nat} (o : Ord os n) : Ord (inv os) n := by
  refine ⟨by rw [inv_len, o.len], ?_, fun x m => ?_, fun j hj => ?_⟩
  · unfold LW.inv
    refine List.pairwise_map.mpr (List.Pairwise.imp_of_mem (fun {x y} hx hy ne e => ne ?_) List.nodup_range)
    rw [o.len, List.mem_range] at hx hy
    obtain ⟨h1, e1⟩ := o.at_ hx
    obtain ⟨h2, e2⟩ := o.at_ hy
    rw [← e1, ← e2]
    congr 1
  · obtain ⟨j, hj, rfl⟩ := List.mem_map.mp m
    rw [List.mem_range, o.len] at hj
    rw [← o.len]
    exact (o.at_ hj).1
  · have hk : j < os.length := by rw [o.len]; exact hj
    refine List.mem_map.mpr ⟨os[j], List.mem_range.mpr ?_, o.idx hj⟩
    rw [o.len]
    exact o.lt _ (List.getElem_mem _)
theorem Ord.inv_inv {os : List Nat} {n : Nat} (o : Ord os n) : LW.inv (LW.inv os) = os := by
  refine List.ext_getElem (by rw [inv_len, inv_len]) fun k h1 h2 => ?_
  rw [inv_at (by rw [inv_len]; exact h2)]
  have hk : k < n := by rw [← o.len]; exact h2
  have h3 : os[k] < (LW.inv os).length := by rw [inv_len, o.len]; exact o.lt _ (List.getElem_mem _)
  have e : (LW.inv os)[os[k]] = k := by
    rw [inv_at (by rw [inv_len] at h3; exact h3)]
    exact o.idx hk
  have := o.inv.nd.idxOf_getElem os[k] h3
  rw [e] at this
  exact this
theorem inv_range (n : Nat) : inv (List.range n) = List.range n := by
  unfold inv
  rw [List.length_range]
  conv => rhs; rw [← List.map_id (List.range n)]
  refine List.map_congr_left fun j m => ?_
  have hj := List.mem_range.mp m
  have := List.nodup_range (n := n).idxOf_getElem j (by rw [List.length_range]; exact hj)
  rw [List.getElem_range] at this
  exact this
theorem map_getD_range {α : Type} (L : List α) (d : α) : ((List.range L.length).map fun k => L.getD k d) = L := by
  refine List.ext_getElem (by simp) fun k h1 h2 => ?_
  simp [h2]
def sg : List Str → List Str → Str → Str
  | z :: zs, n :: ns, x => if z = x then n else sg zs ns x
  | _, _, x => x
theorem sg_mem {x : Str} : ∀ {zs ns : List Str}, zs.length = ns.length → x ∈ zs → sg zs ns x ∈ ns
  | [], _, _, h => nomatch h
  | _ :: _, [], l, _ => by simp at l
  | z :: zs, n :: ns, l, h => by
    unfold sg
    by_cases e : z = x
    · rw [if_pos e]; exact List.mem_cons_self
    · rw [if_neg e]
      refine List.mem_cons_of_mem _ (sg_mem (by simpa using l) ?_)
      rcases List.mem_cons.mp h with q | q
      · exact absurd q.symm e
      · exact q
theorem sg_self {x : Str} : ∀ {zs : List Str}, sg zs zs x = x
  | [] => rfl
  | z :: zs => by
    unfold sg
    by_cases e : z = x
    · rw [if_pos e]; exact e
    · rw [if_neg e]; exact sg_self
theorem sg_back {x : Str} : ∀ {zs ns : List Str}, zs.length = ns.length → ns.Nodup → x ∈ zs → sg ns zs (sg zs ns x) = x
  | [], _, _, _, h => nomatch h
  | _ :: _, [], l, _, _ => by simp at l
  | z :: zs, n :: ns, l, nd, h => by
    rw [List.nodup_cons] at nd
    by_cases e : z = x
    · rw [show sg (z :: zs) (n :: ns) x = n from if_pos e, show sg (n :: ns) (z :: zs) n = z from if_pos rfl, e]
    · have hx : x ∈ zs := by
        rcases List.mem_cons.mp h with q | q
        · exact absurd q.symm e
        · exact q
      have hm := sg_mem (zs := zs) (ns := ns) (by simpa using l) hx
      rw [show sg (z :: zs) (n :: ns) x = sg zs ns x from if_neg e, show sg (n :: ns) (z :: zs) (sg zs ns x) = sg ns zs (sg zs ns x) from if_neg fun q => nd.1 (by rw [q]; exact hm)]
      exact sg_back (by simpa using l) nd.2 hx
theorem sg_map {f : Str → Str} {x : Str} : ∀ {ms : List Str}, x ∈ ms → sg ms (ms.map f) x = f x
  | [], h => nomatch h
  | m :: ms, h => by
    rw [List.map_cons]
    by_cases e : m = x
    · rw [show sg (m :: ms) (f m :: ms.map f) x = f m from if_pos e, e]
    · rw [show sg (m :: ms) (f m :: ms.map f) x = sg ms (ms.map f) x from if_neg e]
      refine sg_map ?_
      rcases List.mem_cons.mp h with q | q
      · exact absurd q.symm e
      · exact q
def Dd.by (f : Str → Str) : Dd → Dd
  | .read n b m => .read n (f b) m
  | .write b w m => .write (f b) w m
  | .change n b h w m => .change n (f b) h w m
  | .swap n b k w m => .swap n (f b) k w m
  | .wait n b k m => .wait n (f b) k m
  | .grab n b k w m => .grab n (f b) k w m
  | .fence m => .fence m
  | .skip n w k s => .skip n w k s
  | .claim n w k => .claim n w k
theorem Dd.by_ok {f : Str → Str} {zs ns : List Str} (hf : ∀ z ∈ zs, f z ∈ ns) {d : Dd} (h : d.ok zs) : (d.by f).ok ns := by
  cases d with
  | read n b m => exact ⟨h.1, hf _ h.2.1, h.2.2⟩
  | write b w m => exact ⟨hf _ h.1, h.2⟩
  | change n b x w m => exact ⟨h.1, hf _ h.2.1, h.2.2⟩
  | swap n b k w m => exact ⟨h.1, hf _ h.2.1, h.2.2⟩
  | wait n b k m => exact ⟨h.1, hf _ h.2.1, h.2.2⟩
  | grab n b k w m => exact ⟨h.1, hf _ h.2.1, h.2.2⟩
  | fence m => exact h
  | skip n w k s => exact h
  | claim n w k => exact h
theorem Dd.by_back {f g : Str → Str} {zs : List Str} (hg : ∀ z ∈ zs, g (f z) = z) {d : Dd} (h : d.ok zs) : (d.by f).by g = d := by
  cases d with
  | read n b m => show Dd.read _ (g (f b)) _ = _; rw [hg b h.2.1]
  | write b w m => show Dd.write (g (f b)) _ _ = _; rw [hg b h.1]
  | change n b x w m => show Dd.change _ (g (f b)) _ _ _ = _; rw [hg b h.2.1]
  | swap n b k w m => show Dd.swap _ (g (f b)) _ _ _ = _; rw [hg b h.2.1]
  | wait n b k m => show Dd.wait _ (g (f b)) _ _ = _; rw [hg b h.2.1]
  | grab n b k w m => show Dd.grab _ (g (f b)) _ _ _ = _; rw [hg b h.2.1]
  | fence m => rfl
  | skip n w k s => rfl
  | claim n w k => rfl
theorem Dd.by_id {f : Str → Str} (hf : ∀ z, f z = z) (d : Dd) : d.by f = d := by
  cases d <;> simp [Dd.by, hf]
def calledL (zs : List Str) (L : List (List Dd)) (os : List Nat) (ns : List Str) : List (List Dd) := (inv os).map fun k => (L.getD k []).map (Dd.by (sg zs ns))
theorem calledL_len (zs : List Str) (L : List (List Dd)) (os : List Nat) (ns : List Str) : (calledL zs L os ns).length = os.length := by unfold calledL; rw [List.length_map, inv_len]
theorem called_self (zs : List Str) (L : List (List Dd)) : calledL zs L (List.range L.length) zs = L := by
  unfold calledL
  rw [inv_range]
  have e : (fun k => (L.getD k []).map (Dd.by (sg zs zs))) = fun k => L.getD k [] := by
    funext k
    rw [show (Dd.by (sg zs zs)) = id from funext fun d => Dd.by_id (fun z => sg_self) d, List.map_id]
  rw [e, map_getD_range]
theorem called_back {zs : List Str} {L : List (List Dd)} {os : List Nat} {ns : List Str} (o : Ord os L.length) (hl : zs.length = ns.length) (nd : ns.Nodup) (hd : ∀ l ∈ L, ∀ d ∈ l, Dd.ok zs d) (ms : List Str) (hm : ∀ n ∈ ns, n ∈ ms) :
    calledL ms (calledL zs L os ns) (inv os) (ms.map (sg ns zs)) = L := by
  unfold calledL
  rw [o.inv_inv]
  refine List.ext_getElem (by rw [List.length_map, o.len]) fun k h1 h2 => ?_
  rw [List.length_map] at h1
  rw [List.getElem_map]
  have hk : os[k] < (inv os).length := by rw [inv_len, o.len]; exact o.lt _ (List.getElem_mem _)
  have e1 : (inv os)[os[k]] = k := by
    rw [inv_at (by rw [inv_len] at hk; exact hk)]
    exact o.idx h2
  have e2 : (((inv os).map fun k => (L.getD k []).map (Dd.by (sg zs ns))).getD os[k] []) = L[k].map (Dd.by (sg zs ns)) := by
    rw [List.getD_eq_getElem?_getD, List.getElem?_map, List.getElem?_eq_getElem hk, e1]
    simp [h2]
  rw [e2, List.map_map]
  conv => rhs; rw [← List.map_id L[k]]
  refine List.map_congr_left fun d m => ?_
  refine Dd.by_back (zs := zs) (fun z hz => ?_) (hd _ (List.getElem_mem _) d m)
  have h3 := sg_mem hl hz
  rw [sg_map (hm _ h3)]
  exact sg_back hl nd hz
end LW
end
section
set_option maxRecDepth 100000
set_option linter.all false
open PySem L2 DL
namespace LW
theorem dd_of {bs : List Str} {y : PyData} (h : deedOf (bs.map PyData.str) y = true) : ∃ d : Dd, y = d.d ∧ d.ok bs := by
  have inS : ∀ (x : PyData) (l : List Str), oneOf x (l.map PyData.str) = true → ∃ z, x = .str z ∧ z ∈ l := fun x l h => by
    cases x with
    | str z =>
      have h : (l.map PyData.str).any (fun y => PyData.eqv y (.str z)) = true := h
      rw [List.any_map] at h
      obtain ⟨u, hu, e⟩ := List.any_eq_true.mp h
      have e : PyData.eqv (.str u) (.str z) = true := e
      rw [eqv_ss, decide_eq_true_eq] at e
      exact ⟨z, rfl, by rw [← e]; exact hu⟩
    | _ => cases h
  have nm : ∀ x : PyData, nameD x = true → ∃ z, x = .str z ∧ nameS z = true := fun x h => by
    cases x with
    | str z => exact ⟨z, rfl, h⟩
    | _ => cases h
  have wh : ∀ (x : PyData) (a b : Int), wholeD a b x = true → ∃ k, x = .int k ∧ a ≤ k ∧ k ≤ b := fun x a b h => by
    cases x with
    | int k =>
      have h : (decide (a ≤ k) && decide (k ≤ b)) = true := h
      simp only [Bool.and_eq_true, decide_eq_true_eq] at h
      exact ⟨k, rfl, h⟩
    | _ => cases h
  have rd : ∀ x, oneOf x W_read = true → ∃ z, x = .str z ∧ z ∈ rdS := fun x h => inS x rdS h
  have wr : ∀ x, oneOf x W_write = true → ∃ z, x = .str z ∧ z ∈ wrS := fun x h => inS x wrS h
  have ch : ∀ x, oneOf x W_change = true → ∃ z, x = .str z ∧ z ∈ chS := fun x h => inS x chS h
  have fe : ∀ x, oneOf x W_fence = true → ∃ z, x = .str z ∧ z ∈ feS := fun x h => inS x feS h
  have ho : ∀ x, oneOf x W_how = true → ∃ z, x = .str z ∧ z ∈ hoS := fun x h => inS x hoS h
  have wo : ∀ x, oneOf x W_word = true → ∃ z, x = .str z ∧ z ∈ woS := fun x h => inS x woS h
  cases y with
  | tuple ps =>
    cases ps with
    | nil => cases h
    | cons w xs =>
      cases w with
      | str w =>
        have h : (match formOf w with
          | some ks => decide (xs.length = ks.length) && allFit (bs.map PyData.str) ks xs
          | none => false) = true := h
        cases e : formOf w with
        | none => rw [e] at h; cases h
        | some ks =>
          rw [e] at h
          have h : (decide (xs.length = ks.length) && allFit (bs.map PyData.str) ks xs) = true := h
          simp only [Bool.and_eq_true, decide_eq_true_eq] at h
          obtain ⟨hl, hf⟩ := h
          unfold formOf at e
          obtain ⟨p, hp, e2⟩ := Option.map_eq_some_iff.mp e
          have hm := List.mem_of_find?_eq_some hp
          have hw := of_decide_eq_true (List.find?_some (p := fun p : Str × List Kd => decide (p.1 = w)) hp)
          obtain ⟨w', ks'⟩ := p
          have hw : w' = w := hw
          have e2 : ks' = ks := e2
          subst hw e2
          unfold forms at hm
          simp only [List.mem_cons, Prod.mk.injEq, List.not_mem_nil, or_false] at hm
          rcases hm with ⟨rfl, rfl⟩ | ⟨rfl, rfl⟩ | ⟨rfl, rfl⟩ | ⟨rfl, rfl⟩ | ⟨rfl, rfl⟩ | ⟨rfl, rfl⟩ | ⟨rfl, rfl⟩ | ⟨rfl, rfl⟩ | ⟨rfl, rfl⟩
          · match xs, hl with
            | [a, b, c], _ =>
              simp only [allFit_cons, allFit_nil, Bool.and_eq_true, Kd.fits, and_true] at hf
              obtain ⟨z1, rfl, h1⟩ := nm _ hf.1
              obtain ⟨z2, rfl, h2⟩ := inS _ _ hf.2.1
              obtain ⟨z3, rfl, h3⟩ := rd _ hf.2.2
              exact ⟨.read z1 z2 z3, rfl, h1, h2, h3⟩
          · match xs, hl with
            | [a, b, c], _ =>
              simp only [allFit_cons, allFit_nil, Bool.and_eq_true, Kd.fits, and_true] at hf
              obtain ⟨z1, rfl, h1⟩ := inS _ _ hf.1
              obtain ⟨z3, rfl, h3⟩ := wr _ hf.2.2
              exact ⟨.write z1 b z3, rfl, h1, hf.2.1, h3⟩
          · match xs, hl with
            | [a, b, c, d, f], _ =>
              simp only [allFit_cons, allFit_nil, Bool.and_eq_true, Kd.fits, and_true] at hf
              obtain ⟨z1, rfl, h1⟩ := nm _ hf.1
              obtain ⟨z2, rfl, h2⟩ := inS _ _ hf.2.1
              obtain ⟨z3, rfl, h3⟩ := ho _ hf.2.2.1
              obtain ⟨z4, rfl, h4⟩ := ch _ hf.2.2.2.2
              exact ⟨.change z1 z2 z3 d z4, rfl, h1, h2, h3, hf.2.2.2.1, h4⟩
          · match xs, hl with
            | [a, b, c, d, f], _ =>
              simp only [allFit_cons, allFit_nil, Bool.and_eq_true, Kd.fits, and_true] at hf
              obtain ⟨z1, rfl, h1⟩ := nm _ hf.1
              obtain ⟨z2, rfl, h2⟩ := inS _ _ hf.2.1
              obtain ⟨k3, rfl, h3⟩ := wh _ _ _ hf.2.2.1
              obtain ⟨z4, rfl, h4⟩ := ch _ hf.2.2.2.2
              exact ⟨.swap z1 z2 k3 d z4, rfl, h1, h2, h3, hf.2.2.2.1, h4⟩
          · match xs, hl with
            | [a, b, c, d], _ =>
              simp only [allFit_cons, allFit_nil, Bool.and_eq_true, Kd.fits, and_true] at hf
              obtain ⟨z1, rfl, h1⟩ := nm _ hf.1
              obtain ⟨z2, rfl, h2⟩ := inS _ _ hf.2.1
              obtain ⟨k3, rfl, h3⟩ := wh _ _ _ hf.2.2.1
              obtain ⟨z4, rfl, h4⟩ := rd _ hf.2.2.2
              exact ⟨.wait z1 z2 k3 z4, rfl, h1, h2, h3, h4⟩
          · match xs, hl with
            | [a, b, c, d, f], _ =>
              simp only [allFit_cons, allFit_nil, Bool.and_eq_true, Kd.fits, and_true] at hf
              obtain ⟨z1, rfl, h1⟩ := nm _ hf.1
              obtain ⟨z2, rfl, h2⟩ := inS _ _ hf.2.1
              obtain ⟨k3, rfl, h3⟩ := wh _ _ _ hf.2.2.1
              obtain ⟨z4, rfl, h4⟩ := ch _ hf.2.2.2.2
              exact ⟨.grab z1 z2 k3 d z4, rfl, h1, h2, h3, hf.2.2.2.1, h4⟩
          · match xs, hl with
            | [a], _ =>
              simp only [allFit_cons, allFit_nil, Bool.and_eq_true, Kd.fits, and_true] at hf
              obtain ⟨z1, rfl, h1⟩ := fe _ hf
              exact ⟨.fence z1, rfl, h1⟩
          · match xs, hl with
            | [a, b, c, d], _ =>
              simp only [allFit_cons, allFit_nil, Bool.and_eq_true, Kd.fits, and_true] at hf
              obtain ⟨z1, rfl, h1⟩ := nm _ hf.1
              obtain ⟨z2, rfl, h2⟩ := wo _ hf.2.1
              obtain ⟨k3, rfl, h3⟩ := wh _ _ _ hf.2.2.1
              obtain ⟨k4, rfl, h4⟩ := wh _ _ _ hf.2.2.2
              exact ⟨.skip z1 z2 k3 k4, rfl, h1, h2, h3, h4⟩
          · match xs, hl with
            | [a, b, c], _ =>
              simp only [allFit_cons, allFit_nil, Bool.and_eq_true, Kd.fits, and_true] at hf
              obtain ⟨z1, rfl, h1⟩ := nm _ hf.1
              obtain ⟨z2, rfl, h2⟩ := wo _ hf.2.1
              obtain ⟨k3, rfl, h3⟩ := wh _ _ _ hf.2.2
              exact ⟨.claim z1 z2 k3, rfl, h1, h2, h3⟩
      | _ => cases h
  | _ => cases h
theorem dds_of {bs : List Str} : ∀ {ys : List PyData}, (∀ y ∈ ys, deedOf (bs.map PyData.str) y = true) → ∃ ds : List Dd, ys = ds.map Dd.d ∧ ∀ d ∈ ds, d.ok bs
  | [], _ => ⟨[], rfl, fun _ m => nomatch m⟩
  | y :: ys, h => by
    obtain ⟨d, rfl, hd⟩ := dd_of (h y List.mem_cons_self)
    obtain ⟨ds, rfl, hds⟩ := dds_of (ys := ys) fun x m => h x (List.mem_cons_of_mem _ m)
    refine ⟨d :: ds, rfl, fun x m => ?_⟩
    rcases List.mem_cons.mp m with rfl | m
    · exact hd
    · exact hds x m
theorem lines_of {bs : List Str} {u : Nat} : ∀ {hs : List PyData}, (∀ h ∈ hs, LineN u (bs.map PyData.str) h) → ∃ L : List (List Dd), hs = L.map lineD ∧ ∀ l ∈ L, l.length ≤ u ∧ ∀ d ∈ l, d.ok bs
  | [], _ => ⟨[], rfl, fun _ m => nomatch m⟩
  | h :: hs, hh => by
    obtain ⟨ys, rfl, hl, hy⟩ := hh h List.mem_cons_self
    obtain ⟨ds, rfl, hds⟩ := dds_of fun y m => (hy y m).1
    obtain ⟨L, rfl, hL⟩ := lines_of (hs := hs) fun x m => hh x (List.mem_cons_of_mem _ m)
    refine ⟨ds :: L, rfl, fun x m => ?_⟩
    rcases List.mem_cons.mp m with rfl | m
    · exact ⟨by rw [List.length_map] at hl; exact hl, hds⟩
    · exact hL x m
theorem menu_name : ∀ z ∈ menu8, nameS z = true := by decide +kernel
theorem boxes_due2 {zs : List Str} (h1 : 1 ≤ zs.length) (h4 : zs.length ≤ 4) (hm : NamesS zs) (hp : zs.Pairwise fun a b => strLt a b = true) : dueB (boxesD zs) = none := by
  have hl : 1 ≤ (zs.map PyData.str).length ∧ (zs.map PyData.str).length ≤ 4 := by rw [List.length_map]; omega
  refine (if_pos hl).trans (Option.map_eq_none_iff.mpr (List.find?_eq_none.mpr fun p hpm => ?_))
  obtain ⟨d, k⟩ := p
  rw [List.mem_zipIdx_iff_getElem?] at hpm
  simp only at hpm
  rw [List.getElem?_map] at hpm
  cases e : zs[k]? with
  | none => rw [e] at hpm; cases hpm
  | some z =>
    rw [e] at hpm
    have hd : PyData.str z = d := Option.some.inj hpm
    subst hd
    have hz := hm z (List.mem_of_getElem? e)
    have hn : nameD (.str z) = true := hz
    by_cases h0 : 0 < k
    · have hk := (List.getElem?_eq_some_iff.mp e).1
      have e2 : zs[k - 1]? = some zs[k - 1] := List.getElem?_eq_getElem (by omega)
      have lt : strLt zs[k - 1] zs[k] = true := List.pairwise_iff_getElem.mp hp (k - 1) k (by omega) hk (by omega)
      have ez : zs[k] = z := (List.getElem?_eq_some_iff.mp e).2
      rw [ez] at lt
      simp [badBox, hn, h0, e2, notUp, lt]
    · simp [badBox, hn, h0]
structure GN (zs : List Str) (L : List (List Dd)) : Prop where
  z1 : 1 ≤ zs.length
  z4 : zs.length ≤ 4
  names : NamesS zs
  up : zs.Pairwise fun a b => strLt a b = true
  h1 : 1 ≤ L.length
  h4 : L.length ≤ 4
  lines : ∀ l ∈ L, l.length ≤ 4 ∧ ∀ d ∈ l, Dd.ok zs d
theorem tot_le : ∀ {L : List (List Dd)}, (∀ l ∈ L, l.length ≤ 4) → total2 L ≤ 4 * L.length
  | [], _ => Nat.le_refl _
  | l :: L, h => by
    have ih := tot_le (L := L) fun x m => h x (List.mem_cons_of_mem _ m)
    have := h l List.mem_cons_self
    have e : total2 (l :: L) = l.length + total2 L := rfl
    rw [e, List.length_cons]
    omega
theorem GN.good {zs : List Str} {L : List (List Dd)} (g : GN zs L) : GoodP zs L :=
  ⟨g.names, boxes_due2 g.z1 g.z4 g.names g.up, g.h1, g.h4, fun l m => ⟨by have := (g.lines l m).1; omega, (g.lines l m).2⟩, by have := tot_le fun l m => (g.lines l m).1; have := g.h4; omega⟩
structure NN (zs ns : List Str) : Prop where
  len : zs.length = ns.length
  nd : ns.Nodup
  names : NamesS ns
theorem strLt_ne {a b : Str} (h : strLt a b = true) : a ≠ b := fun e => by
  subst e
  unfold strLt at h
  have h : a.cps < a.cps := by simpa using h
  exact absurd (show a.cps.toList < a.cps.toList from h) (List.lt_irrefl _)
theorem GN.nn {zs : List Str} {L : List (List Dd)} (g : GN zs L) : NN zs zs := ⟨rfl, g.up.imp fun h => strLt_ne h, g.names⟩
theorem sort_up {ns : List Str} (nd : ns.Nodup) : (sortStr ns).Pairwise fun a b => strLt a b = true := by
  have h2 : (sortStr ns).Pairwise fun a b => leS a b = true := List.pairwise_mergeSort (le := leS) (fun _ _ _ => leS_trans) leS_total ns
  have h3 : (sortStr ns).Nodup := (List.mergeSort_perm ns leS).nodup_iff.mpr nd
  exact (List.Pairwise.and h2 h3).imp fun h => strLt_of h.1 h.2
theorem sort_mem {ns : List Str} {z : Str} : z ∈ sortStr ns ↔ z ∈ ns := (List.mergeSort_perm ns leS).mem_iff
theorem sort_len (ns : List Str) : (sortStr ns).length = ns.length := (List.mergeSort_perm ns leS).length_eq
theorem GN.called {zs ns : List Str} {L : List (List Dd)} {os : List Nat} (g : GN zs L) (o : Ord os L.length) (n : NN zs ns) : GN (sortStr ns) (calledL zs L os ns) := by
  refine ⟨by rw [sort_len, ← n.len]; exact g.z1, by rw [sort_len, ← n.len]; exact g.z4, fun z m => n.names z (sort_mem.mp m), sort_up n.nd, by rw [calledL_len, o.len]; exact g.h1, by rw [calledL_len, o.len]; exact g.h4, fun l m => ?_⟩
  obtain ⟨k, hk, rfl⟩ := List.mem_map.mp m
  have hk2 := o.inv.lt k hk
  rw [List.getD_eq_getElem?_getD, List.getElem?_eq_getElem hk2]
  have gl := g.lines L[k] (List.getElem_mem _)
  refine ⟨by rw [List.length_map]; exact gl.1, fun d hd => ?_⟩
  obtain ⟨e, he, rfl⟩ := List.mem_map.mp hd
  exact Dd.by_ok (fun z hz => sort_mem.mpr (sg_mem n.len hz)) (gl.2 e he)
theorem up_sorted {zs : List Str} (h : zs.Pairwise fun a b => strLt a b = true) : sortStr zs = zs := by
  have h1 : zs.Pairwise fun a b => leS a b = true := h.imp fun {a b} q => by
    unfold strLt at q
    exact leS_iff.mpr (List.le_of_lt (by simpa using q))
  have h2 : (sortStr zs).Pairwise fun a b => leS a b = true := List.pairwise_mergeSort (le := leS) (fun _ _ _ => leS_trans) leS_total zs
  exact (List.Perm.eq_of_pairwise (le := fun a b => leS a b = true) (fun a b _ _ h1 h2 => leS_anti h1 h2) h1 h2 (List.mergeSort_perm zs leS).symm).symm
theorem sort_perm_eq {xs ys : List Str} (h : xs.Perm ys) : sortStr xs = sortStr ys := by
  have h1 : (sortStr xs).Pairwise fun a b => leS a b = true := List.pairwise_mergeSort (le := leS) (fun _ _ _ => leS_trans) leS_total xs
  have h2 : (sortStr ys).Pairwise fun a b => leS a b = true := List.pairwise_mergeSort (le := leS) (fun _ _ _ => leS_trans) leS_total ys
  exact List.Perm.eq_of_pairwise (le := fun a b => leS a b = true) (fun a b _ _ h1 h2 => leS_anti h1 h2) h1 h2 ((List.mergeSort_perm xs leS).trans (h.trans (List.mergeSort_perm ys leS).symm))
theorem map_sg_self : ∀ {zs ns : List Str}, zs.length = ns.length → zs.Nodup → zs.map (sg zs ns) = ns
  | [], [], _, _ => rfl
  | [], _ :: _, l, _ => by simp at l
  | _ :: _, [], l, _ => by simp at l
  | z :: zs, n :: ns, l, nd => by
    rw [List.nodup_cons] at nd
    have ih := map_sg_self (zs := zs) (ns := ns) (by simpa using l) nd.2
    have e : zs.map (sg (z :: zs) (n :: ns)) = zs.map (sg zs ns) := List.map_congr_left fun x m => if_neg fun e => nd.1 (by rw [e]; exact m)
    rw [List.map_cons, show sg (z :: zs) (n :: ns) z = n from if_pos rfl, e, ih]
theorem boxes_back {zs ns : List Str} {L : List (List Dd)} (g : GN zs L) (n : NN zs ns) : NN (sortStr ns) ((sortStr ns).map (sg ns zs)) ∧ sortStr ((sortStr ns).map (sg ns zs)) = zs := by
  have hp : ((sortStr ns).map (sg ns zs)).Perm zs := by
    have := (List.mergeSort_perm ns leS).map (sg ns zs)
    rw [map_sg_self n.len.symm n.nd] at this
    exact this
  refine ⟨⟨by rw [List.length_map], hp.nodup_iff.mpr g.nn.nd, fun z m => g.names z (hp.mem_iff.mp m)⟩, ?_⟩
  rw [sort_perm_eq hp, up_sorted g.up]
end LW
end
section
set_option maxRecDepth 100000
set_option linter.all false
open PySem L2 DL
namespace LW
theorem Ord.perm {os : List Nat} {n : Nat} (o : Ord os n) : os.Perm (List.range n) := by
  refine List.perm_iff_count.mpr fun a => ?_
  by_cases h : a < n
  · have h1 := List.count_pos_iff.mpr (o.all a h)
    have h2 := List.nodup_iff_count.mp o.nd a
    have h3 := List.count_pos_iff.mpr (List.mem_range.mpr h)
    have h4 := List.nodup_iff_count.mp (List.nodup_range (n := n)) a
    omega
  · rw [List.count_eq_zero.mpr fun m => h (o.lt a m), List.count_eq_zero.mpr fun m => h (List.mem_range.mp m)]
def natI (k : Nat) : PyData := .int (k : Int)
def natsD (os : List Nat) : PyData := .list (os.map natI)
theorem eqvAll_ints : ∀ xs : List Nat, PyData.eqvAll (xs.map natI) (xs.map natI) = true
  | [] => by simp [PyData.eqvAll]
  | x :: xs => by
    have ih := eqvAll_ints xs
    simp only [List.map_cons, PyData.eqvAll, ih, Bool.and_true]
    simp [natI, PyData.eqv]
theorem plain_ints : ∀ xs : List Nat, PyData.plainAll (xs.map natI) = true
  | [] => by simp [PyData.plainAll]
  | x :: xs => by
    have ih := plain_ints xs
    simp only [List.map_cons, PyData.plainAll, ih, Bool.and_true]
    simp [natI, PyData.plain]
theorem depth_ints : ∀ xs : List Nat, PyData.depthAll (xs.map natI) = 0
  | [] => by simp [PyData.depthAll]
  | x :: xs => by
    have ih := depth_ints xs
    simp only [List.map_cons, PyData.depthAll, ih]
    simp [natI, PyData.depth]
theorem pNe_nats (xs : List Nat) : pNe (natsD xs) (natsD xs) = some (.bool false) := by
  have h : okEq (natsD xs) (natsD xs) = true := by simp [okEq, natsD, PyData.plain, plain_ints, PyData.depth, depth_ints]
  unfold pNe
  rw [if_pos h]
  simp [natsD, PyData.eqv, eqvAll_ints]
theorem intsD_nats : ∀ xs : List Nat, intsD (xs.map natI) = some (xs.map fun k : Nat => (k : Int))
  | [] => rfl
  | x :: xs => by
    rw [List.map_cons]
    show (intsD (xs.map natI)).map ((x : Int) :: ·) = _
    rw [intsD_nats xs]
    rfl
theorem intsFrom_nats (n : Nat) : DL.intsFrom 0 n = (List.range n).map natI := by
  unfold DL.intsFrom natI
  exact List.map_congr_left fun i _ => by rw [Int.zero_add]
theorem lstRg_nat {n : Nat} (h : n ≤ 1000) : lstRg (.d (.int (n : Int))) = some (.d (natsD (List.range n))) := by
  show (if (decide (0 ≤ (n : Int)) && decide ((n : Int) ≤ 1000)) = true then some (T.d (.list (DL.intsFrom 0 (n : Int).toNat))) else none) = _
  rw [if_pos (by simp only [Bool.and_eq_true, decide_eq_true_eq]; omega), Int.toNat_natCast, intsFrom_nats]
  rfl
theorem gSorted_ord {os : List Nat} {n : Nat} (o : Ord os n) (h1 : 1 ≤ n) : gSorted [.d (natsD os)] = some (.d (natsD (List.range n))) := by
  have hs : strsD (os.map natI) = none ∨ os = [] := by
    cases os with
    | nil => exact .inr rfl
    | cons x xs => exact .inl rfl
  rcases hs with hs | rfl
  · have e : sortInt (os.map fun k : Nat => (k : Int)) = (List.range n).map fun k : Nat => (k : Int) := by
      refine (sorted_uniqI (o.perm.symm.map _) ?_).symm
      refine List.pairwise_map.mpr (List.Pairwise.imp (fun {a b} h => ?_) (List.pairwise_lt_range (n := n)))
      omega
    unfold natsD
    show (match strsD (os.map natI) with
      | some xs => if xs.length < 64 then some (T.d (.list ((sortStr xs).map PyData.str))) else none
      | none => (intsD (os.map natI)).map fun ns => T.d (.list ((sortInt ns).map PyData.int))) = _
    rw [hs, intsD_nats]
    show some (T.d (.list ((sortInt (os.map fun k : Nat => (k : Int))).map PyData.int))) = _
    rw [e, List.map_map]
    rfl
  · have : n = 0 := by rw [← o.len]; rfl
    omega
theorem t_within_nat (k a b : Int) : f_is_within [.d (.int k), .d (.int a), .d (.int b)] = .ok (.d (.bool (decide (a ≤ k) && decide (k ≤ b)))) [some (.d (.int k)), some (.d (.int a)), some (.d (.int b))] := by
  have e : f_is_whole [.d (.int k)] = .ok (.d (.bool true)) [some (.d (.int k))] := rfl
  by_cases h1 : a ≤ k <;> by_cases h2 : k ≤ b <;> simp [f_is_within, b_is_within, dfn, mseq, sif, sret, sset, sdrop, sasg, dandV, dorV, dnotV, dand, dor, dnot, dval, dop, dcallb, dcons, dget, mret, mno, mbind, mopt, gIsi, isT, dbackT, restore, dchain, chainMid, chainRest, onD, pLe2, pLt, pGt, pGe, keepm, dlst, dtup, mkLst, mkTup, allD, short, dcall, dcallF, mset, e, h1, h2]
theorem gAll_true {n : Nat} {l : List PyData} (h : ∀ d ∈ l, d = .bool true) : gAll [.d (.list l)] = some (.d (.bool true)) := by
  have e : boolsD l = some (l.map fun _ => true) := by
    induction l with
    | nil => rfl
    | cons x xs ih =>
      rw [h x List.mem_cons_self]
      show (boolsD xs).map (true :: ·) = _
      rw [ih fun d m => h d (List.mem_cons_of_mem _ m)]
      rfl
  have e2 : (l.map fun _ => true).all _root_.id = true := by simp
  simp [gAll, gBools, e]
def HandsArg (n : Nat) (os : List Nat) (x : PyData) : Prop := (x = .none ∧ os = List.range n) ∨ x = natsD os
theorem t_order_by {zs : List Str} {L : List (List Dd)} {os : List Nat} {x : PyData} (o : Ord os L.length) (h1 : 1 ≤ L.length) (hL : L.length ≤ 4) (hx : HandsArg L.length os x) : f_order_by [.d (progD zs L), .d x] = .ok (.d (natsD os)) [some (.d (progD zs L)), some (.d x)] := by
  have hlim : lim = 100000 := rfl
  have e1 : pIx (progD zs L) (.int 1) = some (handsD L) := rfl
  have e2 : gLen [.d (handsD L)] = some (.d (.int (L.length : Int))) := by
    show some (T.d (.int ((L.map lineD).length : Nat))) = _
    rw [List.length_map]
  have e3 := lstRg_nat (n := L.length) (by omega)
  have iN : pIs .none .none = some (.bool true) := rfl
  have m1 : pSub (.int (L.length : Int)) (.int 1) = some (.int ((L.length : Int) - 1)) := rfl
  have key : Ends (f_order_by [.d (progD zs L), .d x]) fun v ρ => v = .d (natsD os) ∧ ρ = [some (.d (progD zs L)), some (.d x)] := by
    generalize handsD L = HD at e1 e2
    generalize progD zs L = P at e1 ⊢
    refine ends_fn ?_
    refine ends_nx (ρ' := [some (.d P), some (.d x), some (.d (.int (L.length : Int))), none]) (by simp [dfn, mseq, sif, sret, sset, sdrop, sasg, dandV, dorV, dnotV, dand, dor, dnot, dval, dop, dcallb, dcons, dget, mret, mno, mbind, mopt, gIsi, isT, dbackT, restore, dchain, chainMid, chainRest, onD, pLe2, pLt, pGt, pGe, keepm, dlst, dtup, mkLst, mkTup, allD, short, dcall, dcallF, mset, e1, e2]) ?_
    rcases hx with ⟨rfl, rfl⟩ | rfl
    · refine ends_seq (Ends.eq (a := .rt (.d (natsD (List.range L.length)))) (ρ := [some (.d P), some (.d .none), some (.d (.int (L.length : Int))), none]) (by simp [dfn, mseq, sif, sret, sset, sdrop, sasg, dandV, dorV, dnotV, dand, dor, dnot, dval, dop, dcallb, dcons, dget, mret, mno, mbind, mopt, gIsi, isT, dbackT, restore, dchain, chainMid, chainRest, onD, pLe2, pLt, pGt, pGe, keepm, dlst, dtup, mkLst, mkTup, allD, short, dcall, dcallF, mset, iN, e3]) ?_)
      exact ⟨rfl, rfl⟩
    · have i1 : pIs (natsD os) .none = some (.bool false) := rfl
      have l1 : l_order_by_1 [some (.d P), some (.d (natsD os)), some (.d (.int (L.length : Int))), none] = .ok (.d (.list (os.map fun _ => .bool true))) [some (.d P), some (.d (natsD os)), some (.d (.int (L.length : Int))), none] := by
        refine dlcM (mk := natI) (l := os) (fun _ => .bool true) rfl (fun k hk => ⟨[some (.d P), some (.d (natsD os)), some (.d (.int (L.length : Int))), some (.d (natI k))], [some (.d P), some (.d (natsD os)), some (.d (.int (L.length : Int))), some (.d (natI k))], rfl, ?_, rfl⟩) (by have := o.len; omega)
        have w := t_within_nat (k : Int) 0 ((L.length : Int) - 1)
        have lt := o.lt k hk
        rw [decide_eq_true (show (0 : Int) ≤ (k : Int) by omega), decide_eq_true (show (k : Int) ≤ (L.length : Int) - 1 by omega)] at w
        simp [dfn, mseq, sif, sret, sset, sdrop, sasg, dandV, dorV, dnotV, dand, dor, dnot, dval, dop, dcallb, dcons, dget, mret, mno, mbind, mopt, gIsi, isT, dbackT, restore, dchain, chainMid, chainRest, onD, pLe2, pLt, pGt, pGe, keepm, dlst, dtup, mkLst, mkTup, allD, short, dcall, dcallF, mset, natI, m1, w]
      have a1 := gAll_true (n := 0) (l := os.map fun _ => .bool true) fun d m => by
        obtain ⟨_, _, rfl⟩ := List.mem_map.mp m
        rfl
      have s1 := gSorted_ord o h1
      have n1 := pNe_nats (List.range L.length)
      have g1 : gIsi [.d (natsD os), .ty "list"] = some (.d (.bool true)) := rfl
      have g2 : gList [.d (natsD os)] = some (.d (natsD os)) := rfl
      generalize natsD os = O at i1 l1 s1 g1 g2 ⊢
      generalize PyData.list (os.map fun _ => .bool true) = A at l1 a1
      generalize natsD (List.range L.length) = R at e3 s1 n1
      refine ends_nx (ρ' := [some (.d P), some (.d O), some (.d (.int (L.length : Int))), none]) (by simp [dfn, mseq, sif, sret, sset, sdrop, sasg, dandV, dorV, dnotV, dand, dor, dnot, dval, dop, dcallb, dcons, dget, mret, mno, mbind, mopt, gIsi, isT, dbackT, restore, dchain, chainMid, chainRest, onD, pLe2, pLt, pGt, pGe, keepm, dlst, dtup, mkLst, mkTup, allD, short, dcall, dcallF, mset, i1]) ?_
      refine ends_nx (ρ' := [some (.d P), some (.d O), some (.d (.int (L.length : Int))), none]) (by simp [dfn, mseq, sif, sret, sset, sdrop, sasg, dandV, dorV, dnotV, dand, dor, dnot, dval, dop, dcallb, dcons, dget, mret, mno, mbind, mopt, dbackT, restore, dchain, chainMid, chainRest, onD, pLe2, pLt, pGt, pGe, keepm, dlst, dtup, mkLst, mkTup, allD, short, dcall, dcallF, mset, g1, l1, a1]) ?_
      refine ends_nx (ρ' := [some (.d P), some (.d O), some (.d (.int (L.length : Int))), none]) (by simp [dfn, mseq, sif, sret, sset, sdrop, sasg, dandV, dorV, dnotV, dand, dor, dnot, dval, dop, dcallb, dcons, dget, mret, mno, mbind, mopt, gIsi, isT, dbackT, restore, dchain, chainMid, chainRest, onD, pLe2, pLt, pGt, pGe, keepm, dlst, dtup, mkLst, mkTup, allD, short, dcall, dcallF, mset, s1, e3, n1]) ?_
      exact Ends.eq (a := .rt (.d O)) (ρ := [some (.d P), some (.d O), some (.d (.int (L.length : Int))), none]) (by simp [dfn, mseq, sif, sret, sset, sdrop, sasg, dandV, dorV, dnotV, dand, dor, dnot, dval, dop, dcallb, dcons, dget, mret, mno, mbind, mopt, gIsi, isT, dbackT, restore, dchain, chainMid, chainRest, onD, pLe2, pLt, pGt, pGe, keepm, dlst, dtup, mkLst, mkTup, allD, short, dcall, dcallF, mset, g2]) ⟨rfl, rfl⟩
  obtain ⟨v, ρ, e, rfl, rfl⟩ := key.get
  exact e
end LW
end
section
set_option maxRecDepth 100000
set_option linter.all false
open PySem L2 DL TX
namespace LW
def pairD2 (p : Str × Str) : PyData := .tuple [.str p.1, .str p.2]
def kvT (p : Str × Str) : Key × T := (Sum.inr p.1, T.d (.str p.2))
theorem dc_zip (A B : Option T) : ∀ (ps done : List (Str × Str)), ((done ++ ps).map (·.1)).Nodup → done.length + ps.length ≤ 1000 →
    dcGo [3, 2] (mtup [mset 3, mset 2]) (mret true) (dget 3) (dget 2) ((ps.map pairD2).map T.d) (done.map kvT) [A, B, none, none] = .ok ((done ++ ps).map kvT) [A, B, none, none]
  | [], done, _, _ => by rw [List.append_nil]; rfl
  | (z, n) :: ps, done, nd, h => by
    rw [List.length_cons] at h
    have ih := dc_zip A B ps (done ++ [(z, n)]) (by rw [List.append_assoc]; exact nd) (by rw [List.length_append, List.length_singleton]; omega)
    rw [List.append_assoc, List.map_append (l₁ := done)] at ih
    have hz : (done.map kvT).any (fun kv => decide (kv.1 = (Sum.inr z : Key))) = false := by
      rw [List.any_eq_false]
      intro q hq
      obtain ⟨p, hp, rfl⟩ := List.mem_map.mp hq
      have : p.1 ≠ z := fun e => by
        rw [List.map_append, List.nodup_append] at nd
        exact nd.2.2 p.1 (List.mem_map.mpr ⟨p, hp, rfl⟩) z (List.mem_map.mpr ⟨(z, n), List.mem_cons_self, rfl⟩) e
      simp [kvT, this]
    have hp : tputK (done.map kvT) (Sum.inr z) (.d (.str n)) = done.map kvT ++ [kvT (z, n)] := by
      unfold tputK
      rw [if_neg (by rw [hz]; exact Bool.false_ne_true)]
      rfl
    have hlt : (done.map kvT).length < lim := by rw [List.length_map]; have : lim = 100000 := rfl; omega
    rw [List.map_cons, List.map_cons]
    show (if (done.map kvT).length < lim then dcGo [3, 2] (mtup [mset 3, mset 2]) (mret true) (dget 3) (dget 2) ((ps.map pairD2).map T.d) (tputK (done.map kvT) (.inr z) (.d (.str n))) else mno) [A, B, none, none] = _
    rw [if_pos hlt, hp]
    exact ih
theorem asDk_kv : ∀ ps : List (Str × Str), asDk (ps.map kvT) = some (ps.map fun p => ((Sum.inr p.1 : Key), PyData.str p.2))
  | [] => rfl
  | p :: ps => by
    rw [List.map_cons]
    show (asDk (ps.map kvT)).map _ = _
    rw [asDk_kv ps]
    rfl
def nmD (zs ns : List Str) : List (Key × PyData) := dzD zs (ns.map PyData.str)
theorem nm_zip (zs ns : List Str) : (zs.zip ns).map (fun p => ((Sum.inr p.1 : Key), PyData.str p.2)) = nmD zs ns := by
  unfold nmD dzD
  rw [List.zip_map_right, List.map_map]
  rfl
theorem uniq_nodup {ns : List Str} (nd : ns.Nodup) : (uniq ns).length = ns.length := (uniq_of nd fun x => Iff.rfl).length_eq.symm
def NamesArg (zs ns : List Str) (x : PyData) : Prop := (x = .none ∧ ns = zs) ∨ x = boxesD ns
theorem strsD_box (ns : List Str) : strsD (ns.map PyData.str) = some ns := dzs_map ns
theorem pairs_zip : ∀ zs ns : List Str, pairsD (zs.map PyData.str) (ns.map PyData.str) = (zs.zip ns).map pairD2
  | [], _ => rfl
  | _ :: _, [] => rfl
  | z :: zs, n :: ns => congrArg (pairD2 (z, n) :: ·) (pairs_zip zs ns)
theorem zip_items (zs ns : List Str) : zipItems [.d (boxesD zs), .d (boxesD ns)] = some ((zs.zip ns).map pairD2) := by
  show some _ = _
  congr 1
  exact pairs_zip zs ns
theorem t_names_by {zs ns : List Str} {L : List (List Dd)} {x : PyData} (n : NN zs ns) (z4 : zs.length ≤ 4) (znd : zs.Nodup) (hx : NamesArg zs ns x) : f_names_by [.d (progD zs L), .d x] = .ok (.fdct (nmD zs ns)) [some (.d (progD zs L)), none] := by
  have hlim : lim = 100000 := rfl
  have nl := n.len
  have e1 : pIx (progD zs L) (.int 0) = some (boxesD zs) := rfl
  have iN : pIs .none .none = some (.bool true) := rfl
  have iB : pIs (boxesD ns) .none = some (.bool false) := rfl
  have g1 : gIsi [.d (boxesD ns), .ty "list"] = some (.d (.bool true)) := rfl
  have gl : gLen [.d (boxesD ns)] = some (.d (.int (ns.length : Int))) := by
    show some (T.d (.int ((ns.map PyData.str).length : Nat))) = _
    rw [List.length_map]
  have gz : gLen [.d (boxesD zs)] = some (.d (.int (ns.length : Int))) := by
    show some (T.d (.int ((zs.map PyData.str).length : Nat))) = _
    rw [List.length_map, nl]
  have gs : gLenSet (.d (boxesD ns)) = some (.d (.int (ns.length : Int))) := by
    show (match strsD (ns.map PyData.str) with
      | some xs => if xs.length < 64 then some (T.d (.int (uniq xs).length)) else none
      | none => none) = _
    rw [strsD_box]
    show (if ns.length < 64 then some (T.d (.int (uniq ns).length)) else none) = _
    rw [if_pos (by omega), uniq_nodup n.nd]
  have ne : pNe (.int (ns.length : Int)) (.int (ns.length : Int)) = some (.bool false) := by simp [pNe, okEq, PyData.plain, PyData.depth, PyData.eqv]
  have l1 : ∀ A : Option T, l_names_by_1 [A, some (.d (boxesD ns)), none, none] = .ok (.d (.list (ns.map fun _ => .bool true))) [A, some (.d (boxesD ns)), none, none] := fun A => by
    refine dlcM (mk := PyData.str) (l := ns) (fun _ => .bool true) rfl (fun z hz => ⟨[A, some (.d (boxesD ns)), some (.d (.str z)), none], [A, some (.d (boxesD ns)), some (.d (.str z)), none], rfl, ?_, rfl⟩) (by omega)
    have nz := n.names z hz
    have w := t_is_name (.str z) (decide_eq_true (by have := (nameS_chars nz).2.2; omega))
    rw [show nameD (.str z) = true from nz] at w
    simp [dfn, mseq, sif, sret, sset, sdrop, sasg, dandV, dorV, dnotV, dand, dor, dnot, dval, dop, dcallb, dcons, dget, mret, mno, mbind, mopt, gIsi, isT, dbackT, restore, dchain, chainMid, chainRest, onD, pLe2, pLt, pGt, pGe, keepm, dlst, dtup, mkLst, mkTup, allD, short, dcall, dcallF, mset, w]
  have a1 := gAll_true (n := 0) (l := ns.map fun _ => .bool true) fun d m => by
    obtain ⟨_, _, rfl⟩ := List.mem_map.mp m
    rfl
  have zi := zip_items zs ns
  have fst : (zs.zip ns).map (·.1) = zs := List.map_fst_zip (by omega)
  have d1 : ∀ A B : Option T, dcGo [3, 2] (mtup [mset 3, mset 2]) (mret true) (dget 3) (dget 2) (((zs.zip ns).map pairD2).map T.d) [] [A, B, none, none] = .ok ((zs.zip ns).map kvT) [A, B, none, none] := fun A B =>
    dc_zip A B (zs.zip ns) [] (by rw [List.nil_append, fst]; exact znd) (by rw [List.length_zip]; simp; omega)
  have l2 : l_names_by_2 [some (.d (progD zs L)), some (.d (boxesD ns)), none, none] = .ok (.dct ((zs.zip ns).map kvT)) [some (.d (progD zs L)), some (.d (boxesD ns)), none, none] := by
    unfold l_names_by_2 ddc
    have z1 : dzip (dcons (dop (onD pIx) (dget 0) (mret (.d (.int 0)))) (dcons (dget 1) (mret []))) [some (.d (progD zs L)), some (.d (boxesD ns)), none, none] = .ok ((zs.zip ns).map pairD2) [some (.d (progD zs L)), some (.d (boxesD ns)), none, none] := by
      generalize progD zs L = P at e1 ⊢
      generalize boxesD ns = O at zi ⊢
      generalize boxesD zs = O2 at zi e1 ⊢
      simp [dzip, dfn, mseq, sif, sret, sset, sdrop, sasg, dandV, dorV, dnotV, dand, dor, dnot, dval, dop, dcallb, dcons, dget, mret, mno, mbind, mopt, gIsi, isT, dbackT, restore, dchain, chainMid, chainRest, onD, pLe2, pLt, pGt, pGe, keepm, dlst, dtup, mkLst, mkTup, allD, short, dcall, dcallF, mset, e1, zi]
    refine (mbind_eq z1).trans ?_
    refine (mbind_eq (f := mwipe [3, 2]) (a := ()) (ρ1 := [some (.d (progD zs L)), some (.d (boxesD ns)), none, none]) rfl).trans ?_
    refine (mbind_eq (a := (zs.zip ns).map kvT) (ρ1 := [some (.d (progD zs L)), some (.d (boxesD ns)), none, none]) ?_).trans rfl
    unfold mnoex
    rw [d1]
  have sv : sealV (.dct ((zs.zip ns).map kvT)) [some (.d (progD zs L)), some (.d (boxesD ns)), none, none] = .ok (.fdct (nmD zs ns)) [some (.d (progD zs L)), some (.d (boxesD ns)), none, none] := by
    have : toF (.dct ((zs.zip ns).map kvT)) = some (.fdct (nmD zs ns)) := by
      show (asDk ((zs.zip ns).map kvT)).map T.fdct = _
      rw [asDk_kv, nm_zip]
      rfl
    unfold sealV
    rw [this]
    rfl
  have key : Ends (f_names_by [.d (progD zs L), .d x]) fun v ρ => v = .fdct (nmD zs ns) ∧ ρ = [some (.d (progD zs L)), none] := by
    generalize T.fdct (nmD zs ns) = F at sv ⊢
    generalize T.dct ((zs.zip ns).map kvT) = D at sv l2
    generalize progD zs L = P at e1 l2 sv ⊢
    generalize PyData.list (ns.map fun _ => .bool true) = A at l1 a1
    refine ends_fn ?_
    refine ends_nx (ρ' := [some (.d P), some (.d (boxesD ns)), none, none]) ?_ ?_
    · rcases hx with ⟨rfl, rfl⟩ | rfl
      · generalize boxesD ns = O at e1 ⊢
        simp [dfn, mseq, sif, sret, sset, sdrop, sasg, dandV, dorV, dnotV, dand, dor, dnot, dval, dop, dcallb, dcons, dget, mret, mno, mbind, mopt, gIsi, isT, dbackT, restore, dchain, chainMid, chainRest, onD, pLe2, pLt, pGt, pGe, keepm, dlst, dtup, mkLst, mkTup, allD, short, dcall, dcallF, mset, iN, e1]
      · generalize boxesD ns = O at iB ⊢
        simp [dfn, mseq, sif, sret, sset, sdrop, sasg, dandV, dorV, dnotV, dand, dor, dnot, dval, dop, dcallb, dcons, dget, mret, mno, mbind, mopt, gIsi, isT, dbackT, restore, dchain, chainMid, chainRest, onD, pLe2, pLt, pGt, pGe, keepm, dlst, dtup, mkLst, mkTup, allD, short, dcall, dcallF, mset, iB]
    · generalize boxesD ns = O at g1 gl gs l1 l2 sv ⊢
      generalize boxesD zs = O2 at gz e1
      refine ends_nx (ρ' := [some (.d P), some (.d O), none, none]) (by simp [dfn, mseq, sif, sret, sset, sdrop, sasg, dandV, dorV, dnotV, dand, dor, dnot, dval, dop, dcallb, dcons, dget, mret, mno, mbind, mopt, dbackT, restore, dchain, chainMid, chainRest, onD, pLe2, pLt, pGt, pGe, keepm, dlst, dtup, mkLst, mkTup, allD, short, dcall, dcallF, mset, g1, l1, a1]) ?_
      refine ends_nx (ρ' := [some (.d P), some (.d O), none, none]) (by simp [dfn, mseq, sif, sret, sset, sdrop, sasg, dandV, dorV, dnotV, dand, dor, dnot, dval, dop, dcallb, dcons, dget, mret, mno, mbind, mopt, gIsi, isT, dbackT, restore, dchain, chainMid, chainRest, onD, pLe2, pLt, pGt, pGe, keepm, dlst, dtup, mkLst, mkTup, allD, short, dcall, dcallF, mset, dap, gs, gl, e1, gz, ne]) ?_
      exact Ends.eq (a := .rt F) (ρ := [some (.d P), some (.d O), none, none]) (by simp [dfn, mseq, sif, sret, sset, sdrop, sasg, dandV, dorV, dnotV, dand, dor, dnot, dval, dop, dcallb, dcons, dget, mret, mno, mbind, mopt, gIsi, isT, dbackT, restore, dchain, chainMid, chainRest, onD, pLe2, pLt, pGt, pGe, keepm, dlst, dtup, mkLst, mkTup, allD, short, dcall, dcallF, mset, l2, sv]) ⟨rfl, rfl⟩
  obtain ⟨v, ρ, e, rfl, rfl⟩ := key.get
  exact e
theorem fget_nm {z : Str} : ∀ {zs ns : List Str}, zs.length = ns.length → z ∈ zs → fget (nmD zs ns) (Sum.inr z) = some (.str (sg zs ns z))
  | [], _, _, h => nomatch h
  | _ :: _, [], l, _ => by simp at l
  | y :: zs, n :: ns, l, h => by
    show (if (Sum.inr y : Key) = Sum.inr z then some (PyData.str n) else fget (nmD zs ns) (Sum.inr z)) = some (.str (sg (y :: zs) (n :: ns) z))
    by_cases e : y = z
    · rw [if_pos (by rw [e]), show sg (y :: zs) (n :: ns) z = n from if_pos e]
    · rw [if_neg (fun q => e (Sum.inr.inj q)), show sg (y :: zs) (n :: ns) z = sg zs ns z from if_neg e]
      refine fget_nm (by simpa using l) ?_
      rcases List.mem_cons.mp h with q | q
      · exact absurd q.symm e
      · exact q
theorem gf_nm {zs ns : List Str} {z : Str} (l : zs.length = ns.length) (h : z ∈ zs) : gFget (.fdct (nmD zs ns)) (.d (.str z)) = some (.d (.str (sg zs ns z))) := by
  show (fget (nmD zs ns) (Sum.inr z)).map T.d = _
  rw [fget_nm l h]
  rfl
theorem deed_run {w n b c : Str} {kv : List (Key × PyData)} {rest : List PyData} (g : gFget (.fdct kv) (.d (.str b)) = some (.d (.str c))) (q1 : pIn (.str w) (.tuple [.str ("fence" : Str), .str ("skip" : Str), .str ("claim" : Str)]) = some (.bool false)) (q2 : pEq (.str w) (.str ("write" : Str)) = some (.bool false)) (h : rest.length ≤ 3) :
    f_deed_by [.d (.tuple (.str w :: .str n :: .str b :: rest)), .fdct kv] = .ok (.d (.tuple (.str w :: .str n :: .str c :: rest))) [some (.d (.tuple (.str w :: .str n :: .str b :: rest))), some (.fdct kv)] := by
  have hlim : lim = 100000 := rfl
  have i0 : pIx (.tuple (.str w :: .str n :: .str b :: rest)) (.int 0) = some (.str w) := by
    match rest, h with
    | [], _ => rfl
    | [_], _ => rfl
    | [_, _], _ => rfl
    | [_, _, _], _ => rfl
  have i2 : pIx (.tuple (.str w :: .str n :: .str b :: rest)) (.int 2) = some (.str b) := by
    match rest, h with
    | [], _ => rfl
    | [_], _ => rfl
    | [_, _], _ => rfl
    | [_, _, _], _ => rfl
  have s1 : dslice (dget 0) (mret none) (dpart (mret (.d (.int 2)))) [some (.d (.tuple (.str w :: .str n :: .str b :: rest))), some (.fdct kv)] = .ok (.d (.tuple [.str w, .str n])) [some (.d (.tuple (.str w :: .str n :: .str b :: rest))), some (.fdct kv)] := by
    match rest, h with
    | [], _ => rfl
    | [_], _ => rfl
    | [_, _], _ => rfl
    | [_, _, _], _ => rfl
  have s2 : dslice (dget 0) (dpart (mret (.d (.int 3)))) (mret none) [some (.d (.tuple (.str w :: .str n :: .str b :: rest))), some (.fdct kv)] = .ok (.d (.tuple rest)) [some (.d (.tuple (.str w :: .str n :: .str b :: rest))), some (.fdct kv)] := by
    match rest, h with
    | [], _ => rfl
    | [_], _ => rfl
    | [_, _], _ => rfl
    | [_, _, _], _ => rfl
  have a1 : pAdd (.tuple [.str w, .str n]) (.tuple [.str c]) = some (.tuple [.str w, .str n, .str c]) := rfl
  have a2 : pAdd (.tuple [.str w, .str n, .str c]) (.tuple rest) = some (.tuple (.str w :: .str n :: .str c :: rest)) := by
    match rest, h with
    | [], _ => rfl
    | [_], _ => rfl
    | [_, _], _ => rfl
    | [_, _, _], _ => rfl
  generalize PyData.tuple (.str w :: .str n :: .str b :: rest) = P at i0 i2 s1 s2 ⊢
  generalize PyData.tuple (.str w :: .str n :: .str c :: rest) = P2 at a2 ⊢
  simp [f_deed_by, b_deed_by, dfn, mseq, sif, sret, sset, sdrop, sasg, dandV, dorV, dnotV, dand, dor, dnot, dval, dop, dcallb, dcons, dget, mret, mno, mbind, mopt, gIsi, isT, dbackT, restore, dchain, chainMid, chainRest, onD, pLe2, pLt, pGt, pGe, keepm, dlst, dtup, mkLst, mkTup, allD, short, dcall, dcallF, mset, hlim, i0, i2, q1, q2, g, s1, s2, a1, a2]
theorem deed_write {b c : Str} {kv : List (Key × PyData)} {x y : PyData} (g : gFget (.fdct kv) (.d (.str b)) = some (.d (.str c))) :
    f_deed_by [.d (.tuple [.str ("write" : Str), .str b, x, y]), .fdct kv] = .ok (.d (.tuple [.str ("write" : Str), .str c, x, y])) [some (.d (.tuple [.str ("write" : Str), .str b, x, y])), some (.fdct kv)] := by
  have hlim : lim = 100000 := rfl
  have i0 : pIx (.tuple [.str ("write" : Str), .str b, x, y]) (.int 0) = some (.str ("write" : Str)) := rfl
  have i2 : pIx (.tuple [.str ("write" : Str), .str b, x, y]) (.int 1) = some (.str b) := rfl
  have q1 : pIn (.str ("write" : Str)) (.tuple [.str ("fence" : Str), .str ("skip" : Str), .str ("claim" : Str)]) = some (.bool false) := by kernel_rfl
  have q2 : pEq (.str ("write" : Str)) (.str ("write" : Str)) = some (.bool true) := by kernel_rfl
  have s2 : dslice (dget 0) (dpart (mret (.d (.int 2)))) (mret none) [some (.d (.tuple [.str ("write" : Str), .str b, x, y])), some (.fdct kv)] = .ok (.d (.tuple [x, y])) [some (.d (.tuple [.str ("write" : Str), .str b, x, y])), some (.fdct kv)] := rfl
  have a2 : pAdd (.tuple [.str ("write" : Str), .str c]) (.tuple [x, y]) = some (.tuple [.str ("write" : Str), .str c, x, y]) := rfl
  generalize PyData.tuple [.str ("write" : Str), .str b, x, y] = P at i0 i2 s2 ⊢
  generalize PyData.tuple [.str ("write" : Str), .str c, x, y] = P2 at a2 ⊢
  simp [f_deed_by, b_deed_by, dfn, mseq, sif, sret, sset, sdrop, sasg, dandV, dorV, dnotV, dand, dor, dnot, dval, dop, dcallb, dcons, dget, mret, mno, mbind, mopt, gIsi, isT, dbackT, restore, dchain, chainMid, chainRest, onD, pLe2, pLt, pGt, pGe, keepm, dlst, dtup, mkLst, mkTup, allD, short, dcall, dcallF, mset, hlim, i0, i2, q1, q2, g, s2, a2]
theorem deed_still {w : Str} {rest : List PyData} {kv : List (Key × PyData)} (q1 : pIn (.str w) (.tuple [.str ("fence" : Str), .str ("skip" : Str), .str ("claim" : Str)]) = some (.bool true)) (h : rest.length ≤ 4) :
    f_deed_by [.d (.tuple (.str w :: rest)), .fdct kv] = .ok (.d (.tuple (.str w :: rest))) [some (.d (.tuple (.str w :: rest))), some (.fdct kv)] := by
  have hlim : lim = 100000 := rfl
  have i0 : pIx (.tuple (.str w :: rest)) (.int 0) = some (.str w) := by
    match rest, h with
    | [], _ => rfl
    | [_], _ => rfl
    | [_, _], _ => rfl
    | [_, _, _], _ => rfl
    | [_, _, _, _], _ => rfl
  generalize PyData.tuple (.str w :: rest) = P at i0 ⊢
  simp [f_deed_by, b_deed_by, dfn, mseq, sif, sret, sset, sdrop, sasg, dandV, dorV, dnotV, dand, dor, dnot, dval, dop, dcallb, dcons, dget, mret, mno, mbind, mopt, gIsi, isT, dbackT, restore, dchain, chainMid, chainRest, onD, pLe2, pLt, pGt, pGe, keepm, dlst, dtup, mkLst, mkTup, allD, short, dcall, dcallF, mset, hlim, i0, q1]
theorem t_deed_by {zs ns : List Str} (l : zs.length = ns.length) {d : Dd} (h : d.ok zs) : f_deed_by [.d d.d, .fdct (nmD zs ns)] = .ok (.d (d.by (sg zs ns)).d) [some (.d d.d), some (.fdct (nmD zs ns))] := by
  cases d with
  | read n b m => exact deed_run (gf_nm l h.2.1) (by kernel_rfl) (by kernel_rfl) (by simp)
  | write b w m => exact deed_write (gf_nm l h.1)
  | change n b x w m => exact deed_run (gf_nm l h.2.1) (by kernel_rfl) (by kernel_rfl) (by simp)
  | swap n b k w m => exact deed_run (gf_nm l h.2.1) (by kernel_rfl) (by kernel_rfl) (by simp)
  | wait n b k m => exact deed_run (gf_nm l h.2.1) (by kernel_rfl) (by kernel_rfl) (by simp)
  | grab n b k w m => exact deed_run (gf_nm l h.2.1) (by kernel_rfl) (by kernel_rfl) (by simp)
  | fence m => exact deed_still (by kernel_rfl) (by simp)
  | skip n w k s => exact deed_still (by kernel_rfl) (by simp)
  | claim n w k => exact deed_still (by kernel_rfl) (by simp)
theorem ldeed_run {w n b c : Str} {kv : List (Key × PyData)} {rest : List PyData} (g : gFget (.fdct kv) (.d (.str b)) = some (.d (.str c))) (q1 : pIn (.str w) (.tuple [.str ("fence" : Str), .str ("skip" : Str), .str ("claim" : Str)]) = some (.bool false)) (q2 : pEq (.str w) (.str ("write" : Str)) = some (.bool false)) (h : rest.length ≤ 3) :
    f__law_deed_by [.d (.tuple (.str w :: .str n :: .str b :: rest)), .fdct kv] = .ok (.d (.tuple (.str w :: .str n :: .str c :: rest))) [some (.d (.tuple (.str w :: .str n :: .str b :: rest))), some (.fdct kv)] := by
  have hlim : lim = 100000 := rfl
  have i0 : pIx (.tuple (.str w :: .str n :: .str b :: rest)) (.int 0) = some (.str w) := by
    match rest, h with
    | [], _ => rfl
    | [_], _ => rfl
    | [_, _], _ => rfl
    | [_, _, _], _ => rfl
  have i2 : pIx (.tuple (.str w :: .str n :: .str b :: rest)) (.int 2) = some (.str b) := by
    match rest, h with
    | [], _ => rfl
    | [_], _ => rfl
    | [_, _], _ => rfl
    | [_, _, _], _ => rfl
  have s1 : dslice (dget 0) (mret none) (dpart (mret (.d (.int 2)))) [some (.d (.tuple (.str w :: .str n :: .str b :: rest))), some (.fdct kv)] = .ok (.d (.tuple [.str w, .str n])) [some (.d (.tuple (.str w :: .str n :: .str b :: rest))), some (.fdct kv)] := by
    match rest, h with
    | [], _ => rfl
    | [_], _ => rfl
    | [_, _], _ => rfl
    | [_, _, _], _ => rfl
  have s2 : dslice (dget 0) (dpart (mret (.d (.int 3)))) (mret none) [some (.d (.tuple (.str w :: .str n :: .str b :: rest))), some (.fdct kv)] = .ok (.d (.tuple rest)) [some (.d (.tuple (.str w :: .str n :: .str b :: rest))), some (.fdct kv)] := by
    match rest, h with
    | [], _ => rfl
    | [_], _ => rfl
    | [_, _], _ => rfl
    | [_, _, _], _ => rfl
  have a1 : pAdd (.tuple [.str w, .str n]) (.tuple [.str c]) = some (.tuple [.str w, .str n, .str c]) := rfl
  have a2 : pAdd (.tuple [.str w, .str n, .str c]) (.tuple rest) = some (.tuple (.str w :: .str n :: .str c :: rest)) := by
    match rest, h with
    | [], _ => rfl
    | [_], _ => rfl
    | [_, _], _ => rfl
    | [_, _, _], _ => rfl
  generalize PyData.tuple (.str w :: .str n :: .str b :: rest) = P at i0 i2 s1 s2 ⊢
  generalize PyData.tuple (.str w :: .str n :: .str c :: rest) = P2 at a2 ⊢
  simp [f__law_deed_by, b__law_deed_by, dfn, mseq, sif, sret, sset, sdrop, sasg, dandV, dorV, dnotV, dand, dor, dnot, dval, dop, dcallb, dcons, dget, mret, mno, mbind, mopt, gIsi, isT, dbackT, restore, dchain, chainMid, chainRest, onD, pLe2, pLt, pGt, pGe, keepm, dlst, dtup, mkLst, mkTup, allD, short, dcall, dcallF, mset, hlim, i0, i2, q1, q2, g, s1, s2, a1, a2]
theorem ldeed_write {b c : Str} {kv : List (Key × PyData)} {x y : PyData} (g : gFget (.fdct kv) (.d (.str b)) = some (.d (.str c))) :
    f__law_deed_by [.d (.tuple [.str ("write" : Str), .str b, x, y]), .fdct kv] = .ok (.d (.tuple [.str ("write" : Str), .str c, x, y])) [some (.d (.tuple [.str ("write" : Str), .str b, x, y])), some (.fdct kv)] := by
  have hlim : lim = 100000 := rfl
  have i0 : pIx (.tuple [.str ("write" : Str), .str b, x, y]) (.int 0) = some (.str ("write" : Str)) := rfl
  have i2 : pIx (.tuple [.str ("write" : Str), .str b, x, y]) (.int 1) = some (.str b) := rfl
  have q1 : pIn (.str ("write" : Str)) (.tuple [.str ("fence" : Str), .str ("skip" : Str), .str ("claim" : Str)]) = some (.bool false) := by kernel_rfl
  have q2 : pEq (.str ("write" : Str)) (.str ("write" : Str)) = some (.bool true) := by kernel_rfl
  have s2 : dslice (dget 0) (dpart (mret (.d (.int 2)))) (mret none) [some (.d (.tuple [.str ("write" : Str), .str b, x, y])), some (.fdct kv)] = .ok (.d (.tuple [x, y])) [some (.d (.tuple [.str ("write" : Str), .str b, x, y])), some (.fdct kv)] := rfl
  have a2 : pAdd (.tuple [.str ("write" : Str), .str c]) (.tuple [x, y]) = some (.tuple [.str ("write" : Str), .str c, x, y]) := rfl
  generalize PyData.tuple [.str ("write" : Str), .str b, x, y] = P at i0 i2 s2 ⊢
  generalize PyData.tuple [.str ("write" : Str), .str c, x, y] = P2 at a2 ⊢
  simp [f__law_deed_by, b__law_deed_by, dfn, mseq, sif, sret, sset, sdrop, sasg, dandV, dorV, dnotV, dand, dor, dnot, dval, dop, dcallb, dcons, dget, mret, mno, mbind, mopt, gIsi, isT, dbackT, restore, dchain, chainMid, chainRest, onD, pLe2, pLt, pGt, pGe, keepm, dlst, dtup, mkLst, mkTup, allD, short, dcall, dcallF, mset, hlim, i0, i2, q1, q2, g, s2, a2]
theorem ldeed_still {w : Str} {rest : List PyData} {kv : List (Key × PyData)} (q1 : pIn (.str w) (.tuple [.str ("fence" : Str), .str ("skip" : Str), .str ("claim" : Str)]) = some (.bool true)) (h : rest.length ≤ 4) :
    f__law_deed_by [.d (.tuple (.str w :: rest)), .fdct kv] = .ok (.d (.tuple (.str w :: rest))) [some (.d (.tuple (.str w :: rest))), some (.fdct kv)] := by
  have hlim : lim = 100000 := rfl
  have i0 : pIx (.tuple (.str w :: rest)) (.int 0) = some (.str w) := by
    match rest, h with
    | [], _ => rfl
    | [_], _ => rfl
    | [_, _], _ => rfl
    | [_, _, _], _ => rfl
    | [_, _, _, _], _ => rfl
  generalize PyData.tuple (.str w :: rest) = P at i0 ⊢
  simp [f__law_deed_by, b__law_deed_by, dfn, mseq, sif, sret, sset, sdrop, sasg, dandV, dorV, dnotV, dand, dor, dnot, dval, dop, dcallb, dcons, dget, mret, mno, mbind, mopt, gIsi, isT, dbackT, restore, dchain, chainMid, chainRest, onD, pLe2, pLt, pGt, pGe, keepm, dlst, dtup, mkLst, mkTup, allD, short, dcall, dcallF, mset, hlim, i0, q1]
theorem t_ldeed_by {zs ns : List Str} (l : zs.length = ns.length) {d : Dd} (h : d.ok zs) : f__law_deed_by [.d d.d, .fdct (nmD zs ns)] = .ok (.d (d.by (sg zs ns)).d) [some (.d d.d), some (.fdct (nmD zs ns))] := by
  cases d with
  | read n b m => exact ldeed_run (gf_nm l h.2.1) (by kernel_rfl) (by kernel_rfl) (by simp)
  | write b w m => exact ldeed_write (gf_nm l h.1)
  | change n b x w m => exact ldeed_run (gf_nm l h.2.1) (by kernel_rfl) (by kernel_rfl) (by simp)
  | swap n b k w m => exact ldeed_run (gf_nm l h.2.1) (by kernel_rfl) (by kernel_rfl) (by simp)
  | wait n b k m => exact ldeed_run (gf_nm l h.2.1) (by kernel_rfl) (by kernel_rfl) (by simp)
  | grab n b k w m => exact ldeed_run (gf_nm l h.2.1) (by kernel_rfl) (by kernel_rfl) (by simp)
  | fence m => exact ldeed_still (by kernel_rfl) (by simp)
  | skip n w k s => exact ldeed_still (by kernel_rfl) (by simp)
  | claim n w k => exact ldeed_still (by kernel_rfl) (by simp)
end LW
end
section
set_option maxRecDepth 100000
set_option linter.all false
open PySem L2 DL TX
namespace LW
def natT (k : Nat) : T := .d (natI k)
theorem bstep {O : PyData} {acc : List T} {k x : Nat} (h : x < acc.length) : y_backwards_1 [some (.d O), some (.lst acc), some (.d (.int (k : Int))), some (.d (.int (x : Int)))] = .ok .nx [some (.d O), some (.lst (acc.set x (.d (.int (k : Int))))), some (.d (.int (k : Int))), some (.d (.int (x : Int)))] := by
  have e := ixN_nat h
  simp [y_backwards_1, dfn, mseq, sif, sret, sset, sdrop, sasg, dandV, dorV, dnotV, dand, dor, dnot, dval, dop, dcallb, dcons, dget, mret, mno, mbind, mopt, gIsi, isT, dbackT, restore, dchain, chainMid, chainRest, onD, pLe2, pLt, pGt, pGe, keepm, dlst, dtup, mkLst, mkTup, allD, short, dcall, dcallF, mset, gput, dhas, dput, tPut, e]
theorem bwd_loop (O : PyData) : ∀ (os : List Nat) (k : Nat) (acc : List Nat) (h o : Option T), (∀ x ∈ os, x < acc.length) → ∃ h' o', mfor (mtup [mset 2, mset 3]) y_backwards_1 ((numbered k (os.map natI)).map T.d) [some (.d O), some (.lst (acc.map natT)), h, o] = .ok .nx [some (.d O), some (.lst ((setAll acc (os.zip (List.range' k os.length))).map natT)), h', o']
  | [], k, acc, h, o, _ => ⟨h, o, rfl⟩
  | x :: os, k, acc, h, o, hx => by
    have hx0 := hx x List.mem_cons_self
    obtain ⟨h', o', ih⟩ := bwd_loop O os (k + 1) (acc.set x k) (some (.d (.int (k : Int)))) (some (.d (.int (x : Int)))) fun y m => by rw [List.length_set]; exact hx y (List.mem_cons_of_mem _ m)
    refine ⟨h', o', ?_⟩
    have st := bstep (O := O) (acc := acc.map natT) (k := k) (x := x) (by rw [List.length_map]; exact hx0)
    have e1 : (acc.map natT).set x (.d (.int (k : Int))) = (acc.set x k).map natT := by rw [List.map_set]; rfl
    rw [e1] at st
    rw [show setAll acc ((x :: os).zip (List.range' k (x :: os).length)) = setAll (acc.set x k) (os.zip (List.range' (k + 1) os.length)) from rfl, ← ih]
    show mbind (mtup [mset 2, mset 3] (.d (.tuple [.int (k : Int), .int (x : Int)]))) _ _ = _
    refine (mbind_eq (f := mtup [mset 2, mset 3] (.d (.tuple [.int (k : Int), .int (x : Int)]))) (a := ()) (ρ1 := [some (.d O), some (.lst (acc.map natT)), some (.d (.int (k : Int))), some (.d (.int (x : Int)))]) rfl).trans ?_
    exact (mbind_eq st).trans rfl
theorem toDs_nat : ∀ xs : List Nat, toDs (xs.map natT) = some (xs.map natI)
  | [] => rfl
  | x :: xs => by
    rw [List.map_cons, toDs, toDs_nat xs]
    rfl
theorem gLen_nats (os : List Nat) : gLen [.d (natsD os)] = some (.d (.int (os.length : Int))) := by
  show some (T.d (.int ((os.map natI).length : Nat))) = _
  rw [List.length_map]
theorem mulO_run {d : PyData} {n : Nat} (h : n ≤ 1000) : pMulO (.d (.list [d])) (.d (.int (n : Int))) = some (.lst (List.replicate n (.d d))) := by
  have ok : okRange (n : Int) = true := by
    simp only [okRange, Bool.and_eq_true, decide_eq_true_eq]
    omega
  have hlim : lim = 100000 := rfl
  have e : (List.replicate n [d]).flatten = List.replicate n d := by
    induction n with
    | zero => rfl
    | succ n ih => rw [List.replicate_succ, List.flatten_cons, ih (by omega) (by simp only [okRange, Bool.and_eq_true, decide_eq_true_eq]; omega)]; rfl
  show (if (okRange (n : Int) && decide ([d].length * (n : Int).toNat ≤ lim)) = true then some (T.lst ((List.replicate (n : Int).toNat [d]).flatten.map T.d)) else none) = _
  rw [Int.toNat_natCast, if_pos (by rw [ok, Bool.true_and, decide_eq_true_eq]; simp; omega), e, List.map_replicate]
theorem t_backwards {os : List Nat} {n : Nat} (o : Ord os n) (hn : n ≤ 1000) : f_backwards [.d (natsD os)] = .ok (.d (natsD (inv os))) [some (.d (natsD os))] := by
  have hlim : lim = 100000 := rfl
  have g1 := gLen_nats os
  have m1 := mulO_run (d := .int 0) (n := os.length) (by rw [o.len]; exact hn)
  obtain ⟨h', o', lp⟩ := bwd_loop (natsD os) os 0 (List.replicate os.length 0) none none fun x m => by rw [List.length_replicate, o.len]; exact o.lt x m
  rw [List.map_replicate] at lp
  have e0 : (List.range' 0 os.length) = List.range n := by rw [o.len, List.range_eq_range']
  rw [e0, setAll_zip o (xs := List.range n) (by rw [List.length_range]) 0 (by rw [List.length_replicate, o.len])] at lp
  have e1 : ((inv os).map fun k => (List.range n).getD k 0) = inv os := by
    conv => rhs; rw [← List.map_id (inv os)]
    refine List.map_congr_left fun k m => ?_
    have := o.inv.lt k m
    simp [List.getD_eq_getElem?_getD, this]
  rw [e1] at lp
  have lp : mfor (mtup [mset 2, mset 3]) y_backwards_1 ((numbered 0 (os.map natI)).map T.d) [some (.d (natsD os)), some (.lst (List.replicate os.length (.d (.int 0)))), none, none] = .ok .nx [some (.d (natsD os)), some (.lst ((inv os).map natT)), h', o'] := lp
  have sf : sfor (denum (dcons (dget 0) (mret []))) (mtup [mset 2, mset 3]) y_backwards_1 [some (.d (natsD os)), some (.lst (List.replicate os.length (.d (.int 0)))), none, none] = .ok .nx [some (.d (natsD os)), some (.lst ((inv os).map natT)), h', o'] :=
    (mbind_eq (f := denum (dcons (dget 0) (mret []))) (a := numbered 0 (os.map natI)) (ρ1 := [some (.d (natsD os)), some (.lst (List.replicate os.length (.d (.int 0)))), none, none]) rfl).trans lp
  have td : toD (.lst ((inv os).map natT)) = some (natsD (inv os)) := by
    rw [toD, toDs_nat]
    rfl
  have key : Ends (f_backwards [.d (natsD os)]) fun v ρ => v = .d (natsD (inv os)) ∧ ρ = [some (.d (natsD os))] := by
    generalize natsD (inv os) = R2 at td ⊢
    generalize natsD os = O at g1 sf ⊢
    refine ends_fn ?_
    refine ends_nx (ρ' := [some (.d O), some (.lst (List.replicate os.length (.d (.int 0)))), none, none]) ?_ ?_
    · have q1 : dlst (dcons (mret (.d (.int 0))) (mret [])) [some (.d O), none, none, none] = .ok (.d (.list [.int 0])) [some (.d O), none, none, none] := by simp [dfn, mseq, sif, sret, sset, sdrop, sasg, dandV, dorV, dnotV, dand, dor, dnot, dval, dop, dcallb, dcons, dget, mret, mno, mbind, mopt, gIsi, isT, dbackT, restore, dchain, chainMid, chainRest, onD, pLe2, pLt, pGt, pGe, keepm, dlst, dtup, mkLst, mkTup, allD, short, dcall, dcallF, mset, hlim]
      have q2 : dcallb gLen [none] (dcons (dget 0) (mret [])) [some (.d O), none, none, none] = .ok (.d (.int (os.length : Int))) [some (.d O), none, none, none] := by simp [dfn, mseq, sif, sret, sset, sdrop, sasg, dandV, dorV, dnotV, dand, dor, dnot, dval, dop, dcallb, dcons, dget, mret, mno, mbind, mopt, gIsi, isT, dbackT, restore, dchain, chainMid, chainRest, onD, pLe2, pLt, pGt, pGe, keepm, dlst, dtup, mkLst, mkTup, allD, short, dcall, dcallF, mset, g1]
      have q3 : dop (pMulO) (dlst (dcons (mret (.d (.int 0))) (mret []))) (dcallb gLen [none] (dcons (dget 0) (mret []))) [some (.d O), none, none, none] = .ok (.lst (List.replicate os.length (.d (.int 0)))) [some (.d O), none, none, none] := by
        unfold dop
        refine (mbind_eq q1).trans ((mbind_eq q2).trans ?_)
        rw [m1]
        rfl
      exact (mbind_eq q3).trans rfl
    refine ends_nx (ρ' := [some (.d O), some (.lst ((inv os).map natT)), h', o']) sf ?_
    exact Ends.eq (a := .rt (.d R2)) (ρ := [some (.d O), some (.d R2), h', o']) (by simp [dfn, mseq, sif, sret, sset, sdrop, sasg, dandV, dorV, dnotV, dand, dor, dnot, dval, dop, dcallb, dcons, dget, mret, mno, mbind, mopt, gIsi, isT, dbackT, restore, dchain, chainMid, chainRest, onD, pLe2, pLt, pGt, pGe, keepm, dlst, dtup, mkLst, mkTup, allD, short, dcall, dcallF, mset, dfrz, td]) ⟨rfl, rfl⟩
  obtain ⟨v, ρ, e, rfl, rfl⟩ := key.get
  exact e
end LW
end
section
set_option maxRecDepth 100000
set_option linter.all false
open PySem L2 DL TX
namespace LW
def boxesT (zs : List Str) : T := .lst ((zs.map PyData.str).map T.d)
def callT (zs : List Str) (L : List (List Dd)) (os : List Nat) (ns : List Str) : T := .tup [boxesT (sortStr ns), .lst ((calledL zs L os ns).map lineT)]
theorem sort_vals {zs ns : List Str} (l : zs.length = ns.length) : gSortValsO (.fdct (nmD zs ns)) = some (boxesT (sortStr ns)) := by
  show (match strsD ((nmD zs ns).map (·.2)) with
    | some zs => some (T.lst (((sortStr zs).map PyData.str).map T.d))
    | none => none) = _
  unfold nmD
  rw [dzD_vals (by rw [List.length_map, l]), strsD_box]
  rfl
theorem l_called2 {zs ns : List Str} {L : List (List Dd)} {os : List Nat} (g : GN zs L) (o : Ord os L.length) (n : NN zs ns) (a b : Option T) : l_called_2 [some (.d (progD zs L)), a, b, some (.d (natsD os)), some (.fdct (nmD zs ns)), none, none, none] = .ok (.lst ((calledL zs L os ns).map lineT)) [some (.d (progD zs L)), a, b, some (.d (natsD os)), some (.fdct (nmD zs ns)), none, none, none] := by
  have hlim : lim = 100000 := rfl
  have h4 := g.h4
  have bw := t_backwards o (by omega)
  have e1 : pIx (progD zs L) (.int 1) = some (handsD L) := rfl
  unfold l_called_2 calledL
  rw [List.map_map]
  refine dlcMO (vs := [6]) (ρ1 := [some (.d (progD zs L)), a, b, some (.d (natsD os)), some (.fdct (nmD zs ns)), none, none, none]) (mk := natI) (l := inv os) (fun k => lineT ((L.getD k []).map (Dd.by (sg zs ns)))) ?_ (fun k hk => ⟨[some (.d (progD zs L)), a, b, some (.d (natsD os)), some (.fdct (nmD zs ns)), none, some (.d (natI k)), none], [some (.d (progD zs L)), a, b, some (.d (natsD os)), some (.fdct (nmD zs ns)), none, some (.d (natI k)), none], rfl, ?_, rfl⟩) (by rw [inv_len, o.len]; omega)
  · have q : seqItems (.d (natsD (inv os))) = some ((inv os).map natI) := rfl
    generalize progD zs L = P at e1 ⊢
    generalize natsD (inv os) = R at bw q ⊢
    generalize natsD os = O at bw ⊢
    simp [dseq, dfn, mseq, sif, sret, sset, sdrop, sasg, dandV, dorV, dnotV, dand, dor, dnot, dval, dop, dcallb, dcons, dget, mret, mno, mbind, mopt, gIsi, isT, dbackT, restore, dchain, chainMid, chainRest, onD, pLe2, pLt, pGt, pGe, keepm, dlst, dtup, mkLst, mkTup, allD, short, dcall, dcallF, mset, bw, q, wipeR]
  · have hk2 := o.inv.lt k hk
    have ix : pIx (handsD L) (.int (k : Int)) = some (lineD L[k]) := atI_nat (L.map lineD) k (by rw [List.getElem?_map, List.getElem?_eq_getElem hk2]; rfl)
    have eg : L.getD k [] = L[k] := by rw [List.getD_eq_getElem?_getD, List.getElem?_eq_getElem hk2]; rfl
    have gl := g.lines L[k] (List.getElem_mem _)
    rw [eg]
    unfold l_called_1
    have e2 : lineT (L[k].map (Dd.by (sg zs ns))) = .lst (L[k].map fun d => T.d (d.by (sg zs ns)).d) := by
      unfold lineT
      rw [List.map_map]
      rfl
    rw [e2]
    refine dlcMO (vs := [7]) (ρ1 := [some (.d (progD zs L)), a, b, some (.d (natsD os)), some (.fdct (nmD zs ns)), none, some (.d (natI k)), none]) (mk := Dd.d) (l := L[k]) (fun d => T.d (d.by (sg zs ns)).d) ?_ (fun d hd => ⟨[some (.d (progD zs L)), a, b, some (.d (natsD os)), some (.fdct (nmD zs ns)), none, some (.d (natI k)), some (.d d.d)], [some (.d (progD zs L)), a, b, some (.d (natsD os)), some (.fdct (nmD zs ns)), none, some (.d (natI k)), some (.d d.d)], rfl, ?_, rfl⟩) (by omega)
    · have q : seqItems (.d (lineD L[k])) = some (L[k].map Dd.d) := rfl
      generalize progD zs L = P at e1 ⊢
      generalize handsD L = HD at e1 ix
      generalize lineD L[k] = LN at ix q
      generalize natsD os = O
      simp [dseq, dfn, mseq, sif, sret, sset, sdrop, sasg, dandV, dorV, dnotV, dand, dor, dnot, dval, dop, dcallb, dcons, dget, mret, mno, mbind, mopt, gIsi, isT, dbackT, restore, dchain, chainMid, chainRest, onD, pLe2, pLt, pGt, pGe, keepm, dlst, dtup, mkLst, mkTup, allD, short, dcall, dcallF, mset, natI, e1, ix, q, wipeR]
    · have td := t_deed_by n.len (gl.2 d hd)
      generalize progD zs L = P
      generalize natsD os = O
      generalize d.d = dd at td ⊢
      generalize (Dd.by (sg zs ns) d).d = dd2 at td ⊢
      simp [dfn, mseq, sif, sret, sset, sdrop, sasg, dandV, dorV, dnotV, dand, dor, dnot, dval, dop, dcallb, dcons, dget, mret, mno, mbind, mopt, gIsi, isT, dbackT, restore, dchain, chainMid, chainRest, onD, pLe2, pLt, pGt, pGe, keepm, dlst, dtup, mkLst, mkTup, allD, short, dcall, dcallF, mset, td]
theorem t_called {zs ns : List Str} {L : List (List Dd)} {os : List Nat} {hx bx : PyData} (g : GN zs L) (o : Ord os L.length) (n : NN zs ns) (hh : HandsArg L.length os hx) (hb : NamesArg zs ns bx) :
    g_called [.d (progD zs L), .d hx, .d bx] = .ok (callT zs L os ns) [some (.d (progD zs L)), some (.d hx), some (.d bx)] := by
  have hlim : lim = 100000 := rfl
  have e1 := g.good.look
  have e2 := t_order_by (zs := zs) o g.h1 g.h4 hh
  have e3 := t_names_by (L := L) n g.z4 g.nn.nd hb
  have e4 := l_called2 g o n (some (.d hx)) (some (.d bx))
  have e5 := sort_vals n.len
  unfold callT
  have key : Ends (g_called [.d (progD zs L), .d hx, .d bx]) fun v ρ => v = .tup [boxesT (sortStr ns), .lst ((calledL zs L os ns).map lineT)] ∧ ρ = [some (.d (progD zs L)), some (.d hx), some (.d bx)] := by
    generalize progD zs L = P at e1 e2 e3 e4 ⊢
    generalize T.lst ((calledL zs L os ns).map lineT) = C at e4 ⊢
    generalize boxesT (sortStr ns) = B at e5 ⊢
    generalize natsD os = O at e2 e4
    generalize nmD zs ns = F at e3 e4 e5
    refine ends_fn ?_
    refine ends_nx (ρ' := [some (.d P), some (.d hx), some (.d bx), none, none, none, none, none]) (by simp [dfn, mseq, sif, sret, sset, sdrop, sasg, dandV, dorV, dnotV, dand, dor, dnot, dval, dop, dcallb, dcons, dget, mret, mno, mbind, mopt, gIsi, isT, dbackT, restore, dchain, chainMid, chainRest, onD, pLe2, pLt, pGt, pGe, keepm, dlst, dtup, mkLst, mkTup, allD, short, dcall, dcallF, mset, e1]) ?_
    refine ends_nx (ρ' := [some (.d P), some (.d hx), some (.d bx), some (.d O), none, none, none, none]) (by simp [dfn, mseq, sif, sret, sset, sdrop, sasg, dandV, dorV, dnotV, dand, dor, dnot, dval, dop, dcallb, dcons, dget, mret, mno, mbind, mopt, gIsi, isT, dbackT, restore, dchain, chainMid, chainRest, onD, pLe2, pLt, pGt, pGe, keepm, dlst, dtup, mkLst, mkTup, allD, short, dcall, dcallF, mset, e2]) ?_
    refine ends_nx (ρ' := [some (.d P), some (.d hx), some (.d bx), some (.d O), some (.fdct F), none, none, none]) (by simp [dfn, mseq, sif, sret, sset, sdrop, sasg, dandV, dorV, dnotV, dand, dor, dnot, dval, dop, dcallb, dcons, dget, mret, mno, mbind, mopt, gIsi, isT, dbackT, restore, dchain, chainMid, chainRest, onD, pLe2, pLt, pGt, pGe, keepm, dlst, dtup, mkLst, mkTup, allD, short, dcall, dcallF, mset, e3]) ?_
    refine ends_nx (ρ' := [some (.d P), some (.d hx), some (.d bx), some (.d O), some (.fdct F), some C, none, none]) (by simp [dfn, mseq, sif, sret, sset, sdrop, sasg, dandV, dorV, dnotV, dand, dor, dnot, dval, dop, dcallb, dcons, dget, mret, mno, mbind, mopt, gIsi, isT, dbackT, restore, dchain, chainMid, chainRest, onD, pLe2, pLt, pGt, pGe, keepm, dlst, dtup, mkLst, mkTup, allD, short, dcall, dcallF, mset, e4]) ?_
    exact Ends.eq (a := .rt (.tup [B, C])) (ρ := [some (.d P), some (.d hx), some (.d bx), some (.d O), some (.fdct F), none, none, none]) (by simp [dfn, mseq, sif, sret, sset, sdrop, sasg, dandV, dorV, dnotV, dand, dor, dnot, dval, dop, dcallb, dcons, dget, mret, mno, mbind, mopt, gIsi, isT, dbackT, restore, dchain, chainMid, chainRest, onD, pLe2, pLt, pGt, pGe, keepm, dlst, dtup, mkLst, mkTup, allD, short, dcall, dcallF, mset, dtupO, dtake, hlim, e5]) ⟨rfl, rfl⟩
  obtain ⟨v, ρ, e, rfl, rfl⟩ := key.get
  exact e
theorem toDs_lns : ∀ L : List (List Dd), toDs (L.map lineT) = some (L.map lineD)
  | [] => rfl
  | l :: L => by
    rw [List.map_cons, toDs, toDs_lns L]
    have : toD (lineT l) = some (lineD l) := by
      unfold lineT lineD
      rw [toD, show (l.map fun d => T.d d.d) = (l.map Dd.d).map T.d by rw [List.map_map]; rfl, toDs_map]
      rfl
    rw [this]
    rfl
theorem toD_call (zs : List Str) (L : List (List Dd)) (os : List Nat) (ns : List Str) : toD (callT zs L os ns) = some (progD (sortStr ns) (calledL zs L os ns)) := by
  unfold callT boxesT
  rw [toD, toDs, toDs, toDs, show toD (.lst (((sortStr ns).map PyData.str).map T.d)) = some (boxesD (sortStr ns)) by rw [toD, toDs_map]; rfl, show toD (.lst ((calledL zs L os ns).map lineT)) = some (handsD (calledL zs L os ns)) by rw [toD, toDs_lns]; rfl]
  rfl
end LW
end
section
set_option maxRecDepth 100000
set_option linter.all false
open PySem L2 DL TX
namespace LW
theorem dz_run {zs ns : List Str} (l : zs.length = ns.length) (nd : zs.Nodup) : gDz [.d (boxesD zs), .d (boxesD ns)] = some (.fdct (nmD zs ns)) := by
  show (match strsD (zs.map PyData.str) with
    | some ys => if (decide ys.Nodup && decide (ys.length = (ns.map PyData.str).length)) = true then some (T.fdct (dzD ys (ns.map PyData.str))) else none
    | none => none) = _
  rw [strsD_box]
  show (if (decide zs.Nodup && decide (zs.length = (ns.map PyData.str).length)) = true then some (T.fdct (dzD zs (ns.map PyData.str))) else none) = _
  rw [if_pos (by rw [decide_eq_true nd, List.length_map, decide_eq_true l]; rfl)]
  rfl
theorem sort_run {ns : List Str} (h : ns.length < 64) : gSorted [.d (boxesD ns)] = some (.d (boxesD (sortStr ns))) := by
  show (match strsD (ns.map PyData.str) with
    | some xs => if xs.length < 64 then some (T.d (.list ((sortStr xs).map PyData.str))) else none
    | none => (intsD (ns.map PyData.str)).map fun ns => T.d (.list ((sortInt ns).map PyData.int))) = _
  rw [strsD_box]
  show (if ns.length < 64 then some (T.d (.list ((sortStr ns).map PyData.str))) else none) = _
  rw [if_pos h]
  rfl
theorem lc_line {zs ns : List Str} (l : zs.length = ns.length) {line : List Dd} (hd : ∀ d ∈ line, d.ok zs) (h8 : line.length ≤ 1000) (P O N : PyData) (acc k : Option T) :
    l__law_called_1 [some (.d P), some (.d O), some (.d N), some (.fdct (nmD zs ns)), acc, k, some (.d (lineD line)), none] = .ok (.d (lineD (line.map (Dd.by (sg zs ns))))) [some (.d P), some (.d O), some (.d N), some (.fdct (nmD zs ns)), acc, k, some (.d (lineD line)), none] := by
  have hlim : lim = 100000 := rfl
  have e : lineD (line.map (Dd.by (sg zs ns))) = .list (line.map fun d => (d.by (sg zs ns)).d) := by
    unfold lineD
    rw [List.map_map]
    rfl
  rw [e]
  unfold l__law_called_1
  refine dlcM (vs := [7]) (ρ1 := [some (.d P), some (.d O), some (.d N), some (.fdct (nmD zs ns)), acc, k, some (.d (lineD line)), none]) (mk := Dd.d) (l := line) (fun d => (d.by (sg zs ns)).d) rfl (fun d m => ⟨[some (.d P), some (.d O), some (.d N), some (.fdct (nmD zs ns)), acc, k, some (.d (lineD line)), some (.d d.d)], [some (.d P), some (.d O), some (.d N), some (.fdct (nmD zs ns)), acc, k, some (.d (lineD line)), some (.d d.d)], rfl, ?_, rfl⟩) (by omega)
  have td := t_ldeed_by l (hd d m)
  generalize d.d = dd at td ⊢
  generalize (Dd.by (sg zs ns) d).d = dd2 at td ⊢
  generalize nmD zs ns = F at td ⊢
  generalize lineD line = LN
  simp [dfn, mseq, sif, sret, sset, sdrop, sasg, dandV, dorV, dnotV, dand, dor, dnot, dval, dop, dcallb, dcons, dget, mret, mno, mbind, mopt, gIsi, isT, dbackT, restore, dchain, chainMid, chainRest, onD, pLe2, pLt, pGt, pGe, keepm, dlst, dtup, mkLst, mkTup, allD, short, dcall, dcallF, mset, td]
def lnX (f : Str → Str) (l : List Dd) : PyData := lineD (l.map (Dd.by f))
theorem lc_step {zs ns : List Str} (l : zs.length = ns.length) {line : List Dd} (hd : ∀ d ∈ line, d.ok zs) (h8 : line.length ≤ 1000) (P N : PyData) {os : List Nat} {k : Nat} (hk : k < os.length) {acc : List T} (hx : os[k] < acc.length) :
    y__law_called_2 [some (.d P), some (.d (natsD os)), some (.d N), some (.fdct (nmD zs ns)), some (.lst acc), some (.d (.int (k : Int))), some (.d (lineD line)), none] = .ok .nx [some (.d P), some (.d (natsD os)), some (.d N), some (.fdct (nmD zs ns)), some (.lst (acc.set os[k] (.d (lnX (sg zs ns) line)))), some (.d (.int (k : Int))), some (.d (lineD line)), none] := by
  have e1 := lc_line l hd h8 P (natsD os) N (some (.lst acc)) (some (.d (.int (k : Int))))
  have ix : pIx (natsD os) (.int (k : Int)) = some (.int ((os[k] : Nat) : Int)) := atI_nat (os.map natI) k (by rw [List.getElem?_map, List.getElem?_eq_getElem hk]; rfl)
  have e := ixN_nat hx
  unfold lnX
  generalize lineD (line.map (Dd.by (sg zs ns))) = R2 at e1 ⊢
  generalize natsD os = O at e1 ix ⊢
  generalize nmD zs ns = F at e1 ⊢
  generalize lineD line = LN at e1 ⊢
  simp [y__law_called_2, dfn, mseq, sif, sret, sset, sdrop, sasg, dandV, dorV, dnotV, dand, dor, dnot, dval, dop, dcallb, dcons, dget, mret, mno, mbind, mopt, gIsi, isT, dbackT, restore, dchain, chainMid, chainRest, onD, pLe2, pLt, pGt, pGe, keepm, dlst, dtup, mkLst, mkTup, allD, short, dcall, dcallF, mset, e1, ix, gput, dhas, dput, tPut, e]
theorem lc_loop {zs ns : List Str} (l : zs.length = ns.length) (P N : PyData) (os : List Nat) : ∀ (Ls : List (List Dd)) (k : Nat) (acc : List PyData) (o5 o6 : Option T), (∀ x ∈ os, x < acc.length) → k + Ls.length = os.length → (∀ line ∈ Ls, line.length ≤ 1000 ∧ ∀ d ∈ line, Dd.ok zs d) →
    ∃ h' o', mfor (mtup [mset 5, mset 6]) y__law_called_2 ((numbered k (Ls.map lineD)).map T.d) [some (.d P), some (.d (natsD os)), some (.d N), some (.fdct (nmD zs ns)), some (.lst (acc.map T.d)), o5, o6, none] =
      .ok .nx [some (.d P), some (.d (natsD os)), some (.d N), some (.fdct (nmD zs ns)), some (.lst ((setAll acc ((os.drop k).zip (Ls.map (lnX (sg zs ns))))).map T.d)), h', o', none]
  | [], k, acc, o5, o6, _, _, _ => ⟨o5, o6, by
      have ez : setAll acc ((os.drop k).zip (([] : List (List Dd)).map (lnX (sg zs ns)))) = acc := by rw [List.map_nil, List.zip_nil_right]; rfl
      rw [ez]
      rfl⟩
  | line :: Ls, k, acc, o5, o6, hx, hl, hL => by
    rw [List.length_cons] at hl
    have hk : k < os.length := by omega
    have hx0 := hx os[k] (List.getElem_mem _)
    obtain ⟨h', o', ih⟩ := lc_loop l P N os Ls (k + 1) (acc.set os[k] (lnX (sg zs ns) line)) (some (.d (.int (k : Int)))) (some (.d (lineD line))) (fun y m => by rw [List.length_set]; exact hx y m) (by omega) (fun x m => hL x (List.mem_cons_of_mem _ m))
    refine ⟨h', o', ?_⟩
    obtain ⟨h8, hd⟩ := hL line List.mem_cons_self
    have st := lc_step l hd h8 P N hk (acc := acc.map T.d) (by rw [List.length_map]; exact hx0)
    have e1 : (acc.map T.d).set os[k] (.d (lnX (sg zs ns) line)) = (acc.set os[k] (lnX (sg zs ns) line)).map T.d := by rw [List.map_set]
    rw [e1] at st
    have es : setAll acc ((os.drop k).zip ((line :: Ls).map (lnX (sg zs ns)))) = setAll (acc.set os[k] (lnX (sg zs ns) line)) ((os.drop (k + 1)).zip (Ls.map (lnX (sg zs ns)))) := by
      rw [List.drop_eq_getElem_cons hk]
      rfl
    rw [es, ← ih]
    refine (mbind_eq (f := mtup [mset 5, mset 6] (.d (.tuple [.int (k : Int), lineD line]))) (a := ()) (ρ1 := [some (.d P), some (.d (natsD os)), some (.d N), some (.fdct (nmD zs ns)), some (.lst (acc.map T.d)), some (.d (.int (k : Int))), some (.d (lineD line)), none]) rfl).trans ?_
    exact (mbind_eq st).trans rfl
theorem t_lcalled {zs ns : List Str} {L : List (List Dd)} {os : List Nat} (g : GN zs L) (o : Ord os L.length) (n : NN zs ns) :
    f__law_called [.d (progD zs L), .d (natsD os), .d (boxesD ns)] = .ok (.d (progD (sortStr ns) (calledL zs L os ns))) [some (.d (progD zs L)), some (.d (natsD os)), some (.d (boxesD ns))] := by
  have hlim : lim = 100000 := rfl
  have h4 := g.h4
  have z4 := g.z4
  have nl := n.len
  have e0 : pIx (progD zs L) (.int 0) = some (boxesD zs) := rfl
  have e1 : pIx (progD zs L) (.int 1) = some (handsD L) := rfl
  have dz := dz_run n.len g.nn.nd
  have sr := sort_run (ns := ns) (by omega)
  have g1 := gLen_nats os
  have m1 := mulO_run (d := .none) (n := os.length) (by rw [o.len]; omega)
  obtain ⟨h', o', lp⟩ := lc_loop n.len (progD zs L) (boxesD ns) os L 0 (List.replicate os.length .none) none none (fun x m => by rw [List.length_replicate, o.len]; exact o.lt x m) (by rw [o.len]; omega) (fun x m => ⟨by have := (g.lines x m).1; omega, (g.lines x m).2⟩)
  rw [List.map_replicate, List.drop_zero, setAll_zip o (xs := L.map (lnX (sg zs ns))) (by rw [List.length_map]) (lnX (sg zs ns) []) (by rw [List.length_replicate, o.len])] at lp
  have e2 : ((inv os).map fun k => (L.map (lnX (sg zs ns))).getD k (lnX (sg zs ns) [])) = (calledL zs L os ns).map lineD := by
    unfold calledL
    rw [List.map_map]
    refine List.map_congr_left fun k m => ?_
    have := o.inv.lt k m
    simp [List.getD_eq_getElem?_getD, this, lnX]
  rw [e2] at lp
  have lp : mfor (mtup [mset 5, mset 6]) y__law_called_2 ((numbered 0 (L.map lineD)).map T.d) [some (.d (progD zs L)), some (.d (natsD os)), some (.d (boxesD ns)), some (.fdct (nmD zs ns)), some (.lst (List.replicate os.length (.d .none))), none, none, none] = .ok .nx [some (.d (progD zs L)), some (.d (natsD os)), some (.d (boxesD ns)), some (.fdct (nmD zs ns)), some (.lst (((calledL zs L os ns).map lineD).map T.d)), h', o', none] := lp
  have td : toD (.lst (((calledL zs L os ns).map lineD).map T.d)) = some (handsD (calledL zs L os ns)) := by
    rw [toD, toDs_map]
    rfl
  have en : enumItems [.d (handsD L)] = some (numbered 0 (L.map lineD)) := rfl
  show f__law_called _ = .ok (.d (.tuple [boxesD (sortStr ns), handsD (calledL zs L os ns)])) _
  have key : Ends (f__law_called [.d (progD zs L), .d (natsD os), .d (boxesD ns)]) fun v ρ => v = .d (.tuple [boxesD (sortStr ns), handsD (calledL zs L os ns)]) ∧ ρ = [some (.d (progD zs L)), some (.d (natsD os)), some (.d (boxesD ns))] := by
    generalize boxesD (sortStr ns) = B2 at sr ⊢
    generalize handsD (calledL zs L os ns) = H2 at td ⊢
    generalize ((calledL zs L os ns).map lineD).map T.d = Q2 at td lp
    generalize numbered 0 (L.map lineD) = NB2 at en lp
    generalize handsD L = HD at e1 en
    generalize progD zs L = P at e0 e1 lp ⊢
    generalize natsD os = O at g1 lp ⊢
    generalize boxesD ns = N at dz sr lp ⊢
    generalize boxesD zs = Z at dz e0
    generalize nmD zs ns = F at dz lp
    refine ends_fn ?_
    refine ends_nx (ρ' := [some (.d P), some (.d O), some (.d N), some (.fdct F), none, none, none, none]) (by simp [dfn, mseq, sif, sret, sset, sdrop, sasg, dandV, dorV, dnotV, dand, dor, dnot, dval, dop, dcallb, dcons, dget, mret, mno, mbind, mopt, gIsi, isT, dbackT, restore, dchain, chainMid, chainRest, onD, pLe2, pLt, pGt, pGe, keepm, dlst, dtup, mkLst, mkTup, allD, short, dcall, dcallF, mset, e0, dz]) ?_
    refine ends_nx (ρ' := [some (.d P), some (.d O), some (.d N), some (.fdct F), some (.lst (List.replicate os.length (.d .none))), none, none, none]) ?_ ?_
    · have q1 : dlst (dcons (mret (.d .none)) (mret [])) [some (.d P), some (.d O), some (.d N), some (.fdct F), none, none, none, none] = .ok (.d (.list [.none])) [some (.d P), some (.d O), some (.d N), some (.fdct F), none, none, none, none] := by simp [dfn, mseq, sif, sret, sset, sdrop, sasg, dandV, dorV, dnotV, dand, dor, dnot, dval, dop, dcallb, dcons, dget, mret, mno, mbind, mopt, gIsi, isT, dbackT, restore, dchain, chainMid, chainRest, onD, pLe2, pLt, pGt, pGe, keepm, dlst, dtup, mkLst, mkTup, allD, short, dcall, dcallF, mset, hlim]
      have q2 : dcallb gLen [none] (dcons (dget 1) (mret [])) [some (.d P), some (.d O), some (.d N), some (.fdct F), none, none, none, none] = .ok (.d (.int (os.length : Int))) [some (.d P), some (.d O), some (.d N), some (.fdct F), none, none, none, none] := by simp [dfn, mseq, sif, sret, sset, sdrop, sasg, dandV, dorV, dnotV, dand, dor, dnot, dval, dop, dcallb, dcons, dget, mret, mno, mbind, mopt, gIsi, isT, dbackT, restore, dchain, chainMid, chainRest, onD, pLe2, pLt, pGt, pGe, keepm, dlst, dtup, mkLst, mkTup, allD, short, dcall, dcallF, mset, g1]
      have q3 : dop (pMulO) (dlst (dcons (mret (.d .none)) (mret []))) (dcallb gLen [none] (dcons (dget 1) (mret []))) [some (.d P), some (.d O), some (.d N), some (.fdct F), none, none, none, none] = .ok (.lst (List.replicate os.length (.d .none))) [some (.d P), some (.d O), some (.d N), some (.fdct F), none, none, none, none] := by
        unfold dop
        refine (mbind_eq q1).trans ((mbind_eq q2).trans ?_)
        rw [m1]
        rfl
      exact (mbind_eq q3).trans rfl
    refine ends_nx (ρ' := [some (.d P), some (.d O), some (.d N), some (.fdct F), some (.lst Q2), h', o', none]) ?_ ?_
    · have q : denum (dcons (dop (onD pIx) (dget 0) (mret (.d (.int 1)))) (mret [])) [some (.d P), some (.d O), some (.d N), some (.fdct F), some (.lst (List.replicate os.length (.d .none))), none, none, none] = .ok NB2 [some (.d P), some (.d O), some (.d N), some (.fdct F), some (.lst (List.replicate os.length (.d .none))), none, none, none] := by
        simp [denum, dfn, mseq, sif, sret, sset, sdrop, sasg, dandV, dorV, dnotV, dand, dor, dnot, dval, dop, dcallb, dcons, dget, mret, mno, mbind, mopt, gIsi, isT, dbackT, restore, dchain, chainMid, chainRest, onD, pLe2, pLt, pGt, pGe, keepm, dlst, dtup, mkLst, mkTup, allD, short, dcall, dcallF, mset, e1, en]
      exact (mbind_eq q).trans lp
    exact Ends.eq (a := .rt (.d (.tuple [B2, H2]))) (ρ := [some (.d P), some (.d O), some (.d N), some (.fdct F), some (.d H2), h', o', none]) (by simp [dfn, mseq, sif, sret, sset, sdrop, sasg, dandV, dorV, dnotV, dand, dor, dnot, dval, dop, dcallb, dcons, dget, mret, mno, mbind, mopt, gIsi, isT, dbackT, restore, dchain, chainMid, chainRest, onD, pLe2, pLt, pGt, pGe, keepm, dlst, dtup, mkLst, mkTup, allD, short, dcall, dcallF, mset, hlim, sr, dfrz, td]) ⟨rfl, rfl⟩
  obtain ⟨v, ρ, e, rfl, rfl⟩ := key.get
  exact e
end LW
end
section
set_option maxRecDepth 100000
set_option linter.all false
open PySem L2 DL TX
namespace LW
theorem canLay_nats : ∀ xs : List Nat, PyData.canLayAll0 (xs.map natI) = true
  | [] => by simp [PyData.canLayAll0]
  | x :: xs => by
    have ih := canLay_nats xs
    simp only [List.map_cons, PyData.canLayAll0, ih, Bool.and_true]
    simp [natI, PyData.canLay0]
theorem find_nat {k : Nat} : ∀ {os : List Nat}, k ∈ os → ((os.map natI).findIdx? fun z => PyData.eqv z (.int (k : Int))) = some (os.idxOf k)
  | [], h => nomatch h
  | o :: os, h => by
    rw [List.map_cons, List.findIdx?_cons, List.idxOf_cons]
    have e : PyData.eqv (natI o) (.int (k : Int)) = decide (o = k) := by
      by_cases q : o = k
      · subst q; simp [natI, PyData.eqv]
      · rw [decide_eq_false q]
        simp [natI, PyData.eqv]
        omega
    by_cases q : o = k
    · subst q
      simp [e]
    · have h2 : k ∈ os := by
        rcases List.mem_cons.mp h with z | z
        · exact absurd z.symm q
        · exact z
      have ih := find_nat h2
      rw [e, decide_eq_false q, beq_eq_false_iff_ne.mpr q]
      simp [ih]
theorem gIndex_nat {os : List Nat} {k : Nat} (h : k ∈ os) : gIndex (os.map natI) (.int (k : Int)) = some (.int ((os.idxOf k : Nat) : Int)) := by
  have ok : okIdx (os.map natI) (.int (k : Int)) = true := by
    simp [okIdx, plain_ints, PyData.plain, SeqAt.shaped, PyData.canLay0, canLay_nats, PyData.depth, depth_ints]
  unfold gIndex
  rw [if_pos ok, find_nat h]
  rfl
theorem okR_nat {n : Nat} (h : n ≤ 1000) : okRange (n : Int) = true := by
  simp only [okRange, Bool.and_eq_true, decide_eq_true_eq]
  omega
theorem rg_items {n : Nat} (h : n ≤ 1000) : rangeItems [.d (.int (n : Int))] = some ((List.range n).map natI) := by
  have ok := okR_nat h
  simp only [rangeItems, ok, if_true, Int.toNat_natCast, intsFrom_nats]
theorem t_lback {zs ns : List Str} {L : List (List Dd)} {os : List Nat} (g : GN zs L) (o : Ord os L.length) (n : NN zs ns) :
    f__law_back [.d (progD zs L), .d (natsD os), .d (boxesD ns)] = .ok (.d (.tuple [natsD (inv os), boxesD ((sortStr ns).map (sg ns zs))])) [some (.d (progD zs L)), some (.d (natsD os)), some (.d (boxesD ns))] := by
  have hlim : lim = 100000 := rfl
  have h4 := g.h4
  have z4 := g.z4
  have nl := n.len
  have e0 : pIx (progD zs L) (.int 0) = some (boxesD zs) := rfl
  have dz := dz_run (zs := ns) (ns := zs) n.len.symm n.nd
  have sr := sort_run (ns := ns) (by omega)
  have g1 := gLen_nats os
  have rg := rg_items (n := os.length) (by rw [o.len]; omega)
  have l1 : ∀ P N : PyData, l__law_back_1 [some (.d P), some (.d (natsD os)), some (.d N), none, none, none, none] = .ok (.d (natsD (inv os))) [some (.d P), some (.d (natsD os)), some (.d N), none, none, none, none] := fun P N => by
    have e : natsD (inv os) = .list ((List.range os.length).map fun k => .int ((os.idxOf k : Nat) : Int)) := by
      unfold natsD inv
      rw [List.map_map]
      rfl
    rw [e]
    unfold l__law_back_1
    refine dlcM (vs := [5]) (ρ1 := [some (.d P), some (.d (natsD os)), some (.d N), none, none, none, none]) (mk := natI) (l := List.range os.length) (fun k => .int ((os.idxOf k : Nat) : Int)) ?_ (fun k m => ⟨[some (.d P), some (.d (natsD os)), some (.d N), none, none, some (.d (natI k)), none], [some (.d P), some (.d (natsD os)), some (.d N), none, none, some (.d (natI k)), none], rfl, ?_, rfl⟩) (by rw [List.length_range, o.len]; omega)
    · generalize natsD os = O at g1 ⊢
      simp [drange, dfn, mseq, sif, sret, sset, sdrop, sasg, dandV, dorV, dnotV, dand, dor, dnot, dval, dop, dcallb, dcons, dget, mret, mno, mbind, mopt, gIsi, isT, dbackT, restore, dchain, chainMid, chainRest, onD, pLe2, pLt, pGt, pGe, keepm, dlst, dtup, mkLst, mkTup, allD, short, dcall, dcallF, mset, g1, rg]
    · have q := gIndex_nat (os := os) (k := k) (o.all k (by rw [← o.len]; exact List.mem_range.mp m))
      unfold natsD natI
      simp [dlm1, dfn, mseq, sif, sret, sset, sdrop, sasg, dandV, dorV, dnotV, dand, dor, dnot, dval, dop, dcallb, dcons, dget, mret, mno, mbind, mopt, gIsi, isT, dbackT, restore, dchain, chainMid, chainRest, onD, pLe2, pLt, pGt, pGe, keepm, dlst, dtup, mkLst, mkTup, allD, short, dcall, dcallF, mset]
      rw [show (os.map fun k : Nat => PyData.int (k : Int)) = os.map natI from rfl, q]
      rfl
  have l2 : ∀ P O : PyData, ∀ a : Option T, l__law_back_2 [some (.d P), some (.d O), some (.d (boxesD ns)), a, some (.fdct (nmD ns zs)), none, none] = .ok (.d (boxesD ((sortStr ns).map (sg ns zs)))) [some (.d P), some (.d O), some (.d (boxesD ns)), a, some (.fdct (nmD ns zs)), none, none] := fun P O a => by
    have e : boxesD ((sortStr ns).map (sg ns zs)) = .list ((sortStr ns).map fun z => .str (sg ns zs z)) := by
      unfold boxesD
      rw [List.map_map]
      rfl
    rw [e]
    unfold l__law_back_2
    refine dlcM (vs := [6]) (ρ1 := [some (.d P), some (.d O), some (.d (boxesD ns)), a, some (.fdct (nmD ns zs)), none, none]) (mk := PyData.str) (l := sortStr ns) (fun z => .str (sg ns zs z)) ?_ (fun z m => ⟨[some (.d P), some (.d O), some (.d (boxesD ns)), a, some (.fdct (nmD ns zs)), none, some (.d (.str z))], [some (.d P), some (.d O), some (.d (boxesD ns)), a, some (.fdct (nmD ns zs)), none, some (.d (.str z))], rfl, ?_, rfl⟩) (by rw [sort_len]; omega)
    · have q : seqItems (.d (boxesD (sortStr ns))) = some ((sortStr ns).map PyData.str) := rfl
      generalize boxesD (sortStr ns) = B2 at sr q
      generalize boxesD ns = N at sr ⊢
      simp [dseq, dfn, mseq, sif, sret, sset, sdrop, sasg, dandV, dorV, dnotV, dand, dor, dnot, dval, dop, dcallb, dcons, dget, mret, mno, mbind, mopt, gIsi, isT, dbackT, restore, dchain, chainMid, chainRest, onD, pLe2, pLt, pGt, pGe, keepm, dlst, dtup, mkLst, mkTup, allD, short, dcall, dcallF, mset, sr, q]
    · have q := gf_nm (zs := ns) (ns := zs) n.len.symm (sort_mem.mp m)
      generalize nmD ns zs = F at q ⊢
      generalize sg ns zs z = y at q ⊢
      simp [dfn, mseq, sif, sret, sset, sdrop, sasg, dandV, dorV, dnotV, dand, dor, dnot, dval, dop, dcallb, dcons, dget, mret, mno, mbind, mopt, gIsi, isT, dbackT, restore, dchain, chainMid, chainRest, onD, pLe2, pLt, pGt, pGe, keepm, dlst, dtup, mkLst, mkTup, allD, short, dcall, dcallF, mset, q]
  have key : Ends (f__law_back [.d (progD zs L), .d (natsD os), .d (boxesD ns)]) fun v ρ => v = .d (.tuple [natsD (inv os), boxesD ((sortStr ns).map (sg ns zs))]) ∧ ρ = [some (.d (progD zs L)), some (.d (natsD os)), some (.d (boxesD ns))] := by
    generalize boxesD ((sortStr ns).map (sg ns zs)) = B2 at l2 ⊢
    generalize natsD (inv os) = O2 at l1 ⊢
    generalize progD zs L = P at e0 ⊢
    generalize natsD os = O at l1 ⊢
    generalize boxesD ns = N at dz l2 ⊢
    generalize boxesD zs = Z at dz e0
    generalize nmD ns zs = F at dz l2
    refine ends_fn ?_
    refine ends_nx (ρ' := [some (.d P), some (.d O), some (.d N), some (.d O2), none, none, none]) (by simp [dfn, mseq, sif, sret, sset, sdrop, sasg, dandV, dorV, dnotV, dand, dor, dnot, dval, dop, dcallb, dcons, dget, mret, mno, mbind, mopt, gIsi, isT, dbackT, restore, dchain, chainMid, chainRest, onD, pLe2, pLt, pGt, pGe, keepm, dlst, dtup, mkLst, mkTup, allD, short, dcall, dcallF, mset, l1]) ?_
    refine ends_nx (ρ' := [some (.d P), some (.d O), some (.d N), some (.d O2), some (.fdct F), none, none]) (by simp [dfn, mseq, sif, sret, sset, sdrop, sasg, dandV, dorV, dnotV, dand, dor, dnot, dval, dop, dcallb, dcons, dget, mret, mno, mbind, mopt, gIsi, isT, dbackT, restore, dchain, chainMid, chainRest, onD, pLe2, pLt, pGt, pGe, keepm, dlst, dtup, mkLst, mkTup, allD, short, dcall, dcallF, mset, e0, dz]) ?_
    exact Ends.eq (a := .rt (.d (.tuple [O2, B2]))) (ρ := [some (.d P), some (.d O), some (.d N), some (.d O2), some (.fdct F), none, none]) (by simp [dfn, mseq, sif, sret, sset, sdrop, sasg, dandV, dorV, dnotV, dand, dor, dnot, dval, dop, dcallb, dcons, dget, mret, mno, mbind, mopt, gIsi, isT, dbackT, restore, dchain, chainMid, chainRest, onD, pLe2, pLt, pGt, pGe, keepm, dlst, dtup, mkLst, mkTup, allD, short, dcall, dcallF, mset, hlim, l2]) ⟨rfl, rfl⟩
  obtain ⟨v, ρ, e, rfl, rfl⟩ := key.get
  exact e
def unI : PyData → Nat
  | .int k => k.toNat
  | _ => 0
theorem t_order (a b : Int) (n : Nat) (hb : PoolOk b) (hn : n ≤ 1000) :
    ∃ os a' b', f__law_order [pT a b, .d (.int (n : Int))] = .ok (.d (natsD os)) [some (pT a' b'), some (.d (.int (n : Int)))] ∧ PoolOk b' ∧ Ord os n := by
  have hlim : lim = 100000 := rfl
  have rg := rg_items hn
  have ls : lstRgO (.d (.int (n : Int))) = some (.lst (((List.range n).map natI).map T.d)) := by
    show (if (decide (0 ≤ (n : Int)) && decide ((n : Int) ≤ 1000)) = true then some (T.lst ((DL.intsFrom 0 (n : Int).toNat).map T.d)) else none) = _
    rw [if_pos (by simp only [Bool.and_eq_true, decide_eq_true_eq]; omega), Int.toNat_natCast, intsFrom_nats]
  have key : Ends (f__law_order [pT a b, .d (.int (n : Int))]) fun v ρ => ∃ out a' b' left, v = .d (.list out) ∧ ρ = [some (pT a' b'), some (.d (.int (n : Int)))] ∧ PoolOk b' ∧ out.length = n ∧ (out ++ left).Perm ((List.range n).map natI) := by
    refine ends_fn ?_
    have ml : ((List.range n).map natI).length = n := by rw [List.length_map, List.length_range]
    generalize hM : (List.range n).map natI = menu at rg ls ml ⊢
    refine ends_nx (ρ' := [some (pT a b), some (.d (.int (n : Int))), some (.lst (menu.map T.d)), none]) (by simp [dfn, mseq, sif, sret, sset, sdrop, sasg, dandV, dorV, dnotV, dand, dor, dnot, dval, dop, dcallb, dcons, dget, mret, mno, mbind, mopt, gIsi, isT, dbackT, restore, dchain, chainMid, chainRest, onD, pLe2, pLt, pGt, pGe, keepm, dlst, dtup, mkLst, mkTup, allD, short, dcall, dcallF, mset, ls]) ?_
    refine ends_bind (f := l__law_order_1) ?_
    refine ends_dlc (ds := menu) (ρ1 := [some (pT a b), some (.d (.int (n : Int))), some (.lst (menu.map T.d)), none]) (by simp [drange, dfn, mseq, sif, sret, sset, sdrop, sasg, dandV, dorV, dnotV, dand, dor, dnot, dval, dop, dcallb, dcons, dget, mret, mno, mbind, mopt, gIsi, isT, dbackT, restore, dchain, chainMid, chainRest, onD, pLe2, pLt, pGt, pGe, keepm, dlst, dtup, mkLst, mkTup, allD, short, dcall, dcallF, mset, rg]) ?_
    refine ends_lc (fun ts acc ρ => ∃ a b out left, acc = (out : List PyData).map T.d ∧ ρ = [some (pT a b), some (.d (.int (n : Int))), some (.lst ((left : List PyData).map T.d)), none] ∧ PoolOk b ∧ (out ++ left).Perm menu ∧ out.length + ts.length = n) ?_ ?_ ?_
    · rintro acc ρ ⟨a, b, out, left, rfl, rfl, h1, h2, h3⟩
      exact ⟨out, rfl, out, a, b, left, rfl, rfl, h1, by simpa using h3, h2⟩
    · rintro t ts acc ρ ⟨a, b, out, left, rfl, rfl, h1, h2, h3⟩
      have hp := h2.length_eq
      rw [List.length_append] at hp
      rw [List.length_cons] at h3
      have hl0 : 0 < left.length := by omega
      obtain ⟨r, a', b', e, r0, r1, h4⟩ := t_take a b left.length h1 (by omega) (by omega)
      have hr : r.toNat < left.length := by omega
      refine Ends.eq (ρ := [some (pT a b), some (.d (.int (n : Int))), some (.lst (left.map T.d)), some t]) (a := ()) rfl ?_
      refine Ends.eq (a := true) (ρ := [some (pT a b), some (.d (.int (n : Int))), some (.lst (left.map T.d)), some t]) rfl ?_
      rw [if_pos rfl]
      have c1 : decide (0 ≤ r) = true := decide_eq_true r0
      have c2 : decide (r < 1000000) = true := decide_eq_true (by omega)
      refine Ends.eq (a := .d left[r.toNat]) (ρ := [some (pT a' b'), some (.d (.int (n : Int))), some (.lst ((left.eraseIdx r.toNat).map T.d)), some t]) ?_ ?_
      · have eg2 := hr
        simp [dfn, mseq, sif, sret, sset, sdrop, sasg, dandV, dorV, dnotV, dand, dor, dnot, dval, dop, dcallb, dcons, dget, mret, mno, mbind, mopt, gIsi, isT, dbackT, restore, dchain, chainMid, chainRest, onD, pLe2, pLt, pGt, pGe, keepm, dlst, dtup, mkLst, mkTup, allD, short, dcall, dcallF, mset, dmeth, dtyp, tyT, dlate, dhas, dtake, gLen, e, down, oPopAt, c1, c2, hr, map_erase]
      · refine ⟨?_, a', b', out ++ [left[r.toNat]], left.eraseIdx r.toNat, ?_, rfl, h4, ?_, ?_⟩
        · rw [List.length_map, hlim]
          omega
        · rw [List.map_append]
          rfl
        · rw [List.append_assoc]
          refine (List.Perm.append_left _ ?_).trans h2
          exact erase_perm left r.toNat _ (List.getElem?_eq_getElem hr)
        · rw [List.length_append]
          simp
          omega
    · exact ⟨a, b, [], menu, rfl, rfl, hb, List.Perm.refl _, by simpa using ml⟩
  obtain ⟨v, ρ, e, out, a', b', left, rfl, rfl, h1, h2, h3⟩ := key.get
  have hl := h3.length_eq
  rw [List.length_append, List.length_map, List.length_range, h2] at hl
  have hleft : left = [] := List.eq_nil_of_length_eq_zero (by omega)
  subst hleft
  rw [List.append_nil] at h3
  have eo : out = (out.map unI).map natI := by
    rw [List.map_map]
    conv => lhs; rw [← List.map_id out]
    refine List.map_congr_left fun d m => ?_
    obtain ⟨k, _, rfl⟩ := List.mem_map.mp (h3.mem_iff.mp m)
    simp [natI, unI]
  have hperm : (out.map unI).Perm (List.range n) := by
    have := h3.map unI
    rw [List.map_map] at this
    have e2 : (unI ∘ natI) = id := by
      funext k
      simp [natI, unI]
    rw [e2, List.map_id] at this
    exact this
  refine ⟨out.map unI, a', b', ?_, h1, .of_perm hperm⟩
  unfold natsD
  rw [← eo]
  exact e
end LW
end
section
set_option maxRecDepth 100000
set_option linter.all false
open PySem L2 DL TX
namespace LW
def sixS : List Str := ["a", "z", "hand", "row", "zzzzzz", "start"]
theorem six_names : ∀ z ∈ sixS, nameS z = true := by decide +kernel
def onceS (ms : List Str) : List Str := (ms.zipIdx.filter fun p => !(ms.take p.2).contains p.1).map (·.1)
theorem once_mem {ms : List Str} {z : Str} (h : z ∈ onceS ms) : z ∈ ms := by
  obtain ⟨p, hp, rfl⟩ := List.mem_map.mp h
  exact List.fst_mem_of_mem_zipIdx (List.mem_filter.mp hp).1
theorem once_nd (ms : List Str) : (onceS ms).Nodup := by
  unfold onceS
  refine List.pairwise_map.mpr ?_
  have h1 : (ms.zipIdx).Pairwise fun p q => p.1 ∈ ms.take q.2 := by
    refine List.pairwise_iff_getElem.mpr fun i j hi hj hij => ?_
    rw [List.getElem_zipIdx, List.getElem_zipIdx]
    simp only [Nat.zero_add]
    have hi2 : i < ms.length := by rw [List.length_zipIdx] at hi; exact hi
    refine List.mem_iff_getElem.mpr ⟨i, by rw [List.length_take]; omega, ?_⟩
    rw [List.getElem_take]
  have h2 := h1.filter (fun p => !(ms.take p.2).contains p.1)
  refine List.Pairwise.imp_of_mem (fun {p q} hp hq h e => ?_) h2
  have hq2 := (List.mem_filter.mp hq).2
  rw [e] at h
  simp only [Bool.not_eq_true', List.contains_eq_mem, decide_eq_false_iff_not] at hq2
  exact hq2 h
theorem once_has {zs r : List Str} (nd : zs.Nodup) : ∀ z ∈ zs, z ∈ onceS (zs ++ r) := fun z m => by
  obtain ⟨k, hk, rfl⟩ := List.mem_iff_getElem.mp m
  unfold onceS
  refine List.mem_map.mpr ⟨(zs[k], k), List.mem_filter.mpr ⟨?_, ?_⟩, rfl⟩
  · rw [List.mem_zipIdx_iff_getElem?]
    simp only
    rw [List.getElem?_append_left hk, List.getElem?_eq_getElem hk]
  · simp only [Bool.not_eq_true', List.contains_eq_mem, decide_eq_false_iff_not]
    intro h
    rw [List.take_append_of_le_length (by omega)] at h
    obtain ⟨j, hj, e⟩ := List.mem_iff_getElem.mp h
    rw [List.getElem_take] at e
    rw [List.length_take] at hj
    exact absurd e (List.pairwise_iff_getElem.mp nd j k (by omega) hk (by omega))
theorem strs_perm {us ls ms : List Str} (h : (us.map PyData.str ++ ls.map PyData.str).Perm (ms.map PyData.str)) : (us ++ ls).Perm ms := by
  have un : ∀ l : List Str, (l.map PyData.str).map (fun d => match d with | .str z => z | _ => "") = l := fun l => by
    rw [List.map_map]
    exact List.map_id l
  have this : ((us ++ ls).map PyData.str).Perm (ms.map PyData.str) := by rw [List.map_append]; exact h
  have h3 := this.map (fun d => match d with | .str z => z | _ => ("" : Str))
  rw [un, un] at h3
  exact h3
theorem notin_run (z : Str) (zs : List Str) : pNotIn (.str z) (.list (zs.map PyData.str)) = some (.bool (!zs.contains z)) := by
  have ok : okIn (.str z) (zs.map PyData.str) = true := okIn_str z fun d m => by
    obtain ⟨y, _, rfl⟩ := List.mem_map.mp m
    exact ⟨y, rfl⟩
  have e : anyEq (.str z) (zs.map PyData.str) = zs.contains z := by
    unfold anyEq
    rw [List.any_map, List.contains_eq_any_beq]
    congr 1
    funext y
    show PyData.eqv (.str y) (.str z) = (z == y)
    rw [eqv_ss]
    by_cases h : y = z
    · subst h; simp
    · rw [decide_eq_false h, beq_eq_false_iff_ne.mpr (Ne.symm h)]
  show (if okIn (.str z) (zs.map PyData.str) = true then some (PyData.bool (!anyEq (.str z) (zs.map PyData.str))) else none) = _
  rw [if_pos ok, e]
theorem numbered_zip {f : Str → PyData} : ∀ (ms : List Str) (k : Nat), DL.numbered k (ms.map f) = (ms.zipIdx k).map fun p => PyData.tuple [.int (p.2 : Int), f p.1]
  | [], _ => rfl
  | m :: ms, k => by
    rw [List.map_cons, List.zipIdx_cons, List.map_cons, DL.numbered, numbered_zip ms (k + 1)]
theorem t_new_names (a b : Int) {zs : List Str} {L : List (List Dd)} (g : GN zs L) (hb : PoolOk b) :
    ∃ ns a' b', f__law_new_names [pT a b, .d (progD zs L)] = .ok (.d (boxesD ns)) [some (pT a' b'), some (.d (progD zs L))] ∧ PoolOk b' ∧ NN zs ns := by
  have hlim : lim = 100000 := rfl
  have z4 := g.z4
  have e0 : pIx (progD zs L) (.int 0) = some (boxesD zs) := rfl
  have g0 : gLen [.d (boxesD zs)] = some (.d (.int (zs.length : Int))) := by
    show some (T.d (.int ((zs.map PyData.str).length : Nat))) = _
    rw [List.length_map]
  have ml : (zs ++ sixS).length = zs.length + 6 := by rw [List.length_append]; rfl
  have ad : pAdd (boxesD zs) (.list [.str ("a" : Str), .str ("z" : Str), .str ("hand" : Str), .str ("row" : Str), .str ("zzzzzz" : Str), .str ("start" : Str)]) = some (boxesD (zs ++ sixS)) := by
    have e : boxesD (zs ++ sixS) = .list (zs.map PyData.str ++ [.str ("a" : Str), .str ("z" : Str), .str ("hand" : Str), .str ("row" : Str), .str ("zzzzzz" : Str), .str ("start" : Str)]) := by
      unfold boxesD
      rw [List.map_append]
      rfl
    rw [e]
    show (if _ then _ else _) = _
    rw [if_pos (by rw [hlim, List.length_map]; simp; omega)]
  have l1 : ∀ A P : Option T, l__law_new_names_1 [A, P, some (.d (boxesD (zs ++ sixS))), none, none] = .ok (.d (boxesD (onceS (zs ++ sixS)))) [A, P, some (.d (boxesD (zs ++ sixS))), none, none] := fun A P => by
    generalize hm : zs ++ sixS = ms at ml ⊢
    have e : boxesD (onceS ms) = .list ((ms.zipIdx.filter fun p => !(ms.take p.2).contains p.1).map fun p => .str p.1) := by
      unfold boxesD onceS
      rw [List.map_map]
      rfl
    rw [e]
    unfold l__law_new_names_1
    refine dlcG (vs := [3, 4]) (ρ1 := [A, P, some (.d (boxesD ms)), none, none]) (mk := fun p : Str × Nat => PyData.tuple [.int (p.2 : Int), .str p.1]) (l := ms.zipIdx) (fun p => !(ms.take p.2).contains p.1) (fun p => .str p.1) ?_ (fun p m => ⟨[A, P, some (.d (boxesD ms)), some (.d (.int (p.2 : Int))), some (.d (.str p.1))], [A, P, some (.d (boxesD ms)), some (.d (.int (p.2 : Int))), some (.d (.str p.1))], rfl, ?_, fun _ => ⟨_, rfl, rfl⟩, fun _ => rfl⟩) (by rw [List.length_zipIdx]; omega)
    · have q : enumItems [.d (boxesD ms)] = some (ms.zipIdx.map fun p => PyData.tuple [.int (p.2 : Int), .str p.1]) := by
        show some (DL.numbered 0 (ms.map PyData.str)) = _
        rw [numbered_zip]
      generalize boxesD ms = B2 at q ⊢
      cases A <;> cases P <;> simp [denum, dfn, mseq, sif, sret, sset, sdrop, sasg, dandV, dorV, dnotV, dand, dor, dnot, dval, dop, dcallb, dcons, dget, mret, mno, mbind, mopt, gIsi, isT, dbackT, restore, dchain, chainMid, chainRest, onD, pLe2, pLt, pGt, pGe, keepm, dlst, dtup, mkLst, mkTup, allD, short, dcall, dcallF, mset, q]
    · have q1 := notin_run p.1 (ms.take p.2)
      have hp2 : p.2 < ms.length := by
        have := List.mem_zipIdx_iff_getElem?.mp m
        exact (List.getElem?_eq_some_iff.mp this).1
      have c1 : cutG (ms.map PyData.str) none (some (p.2 : Int)) = (ms.take p.2).map PyData.str := by
        unfold cutG
        rw [HT.sIx_none, HT.sIx_nat, List.drop_zero, List.map_take, List.length_map]
        congr 1
        omega
      have s1 : dslice (dget 2) (mret none) (dpart (dget 3)) [A, P, some (.d (boxesD ms)), some (.d (.int (p.2 : Int))), some (.d (.str p.1))] = .ok (.d (.list ((ms.take p.2).map PyData.str))) [A, P, some (.d (boxesD ms)), some (.d (.int (p.2 : Int))), some (.d (.str p.1))] := by
        rw [← c1]
        rfl
      have d1 : dget 4 [A, P, some (.d (boxesD ms)), some (.d (.int (p.2 : Int))), some (.d (.str p.1))] = .ok (.d (.str p.1)) [A, P, some (.d (boxesD ms)), some (.d (.int (p.2 : Int))), some (.d (.str p.1))] := rfl
      have d2 : dop (onD pNotIn) (dget 4) (dslice (dget 2) (mret none) (dpart (dget 3))) [A, P, some (.d (boxesD ms)), some (.d (.int (p.2 : Int))), some (.d (.str p.1))] = .ok (.d (.bool (!(ms.take p.2).contains p.1))) [A, P, some (.d (boxesD ms)), some (.d (.int (p.2 : Int))), some (.d (.str p.1))] := by
        unfold dop
        refine (mbind_eq d1).trans ((mbind_eq s1).trans ?_)
        show mopt ((pNotIn (.str p.1) (.list ((ms.take p.2).map PyData.str))).map T.d) _ = _
        rw [q1]
        rfl
      exact (mbind_eq d2).trans rfl
  have ond := once_nd (zs ++ sixS)
  have onm : ∀ z ∈ onceS (zs ++ sixS), nameS z = true := fun z m => by
    rcases List.mem_append.mp (once_mem m) with h | h
    · exact g.names z h
    · exact six_names z h
  have olen : zs.length ≤ (onceS (zs ++ sixS)).length := len_sub g.nn.nd (once_has g.nn.nd)
  have olen2 : (onceS (zs ++ sixS)).length ≤ 1000 := by
    unfold onceS
    rw [List.length_map]
    refine Nat.le_trans (List.length_filter_le _ _) ?_
    rw [List.length_zipIdx, ml]
    omega
  generalize onceS (zs ++ sixS) = ms at l1 ond onm olen olen2
  obtain ⟨out, a', b', e, p, hl, left, hp⟩ := t_picked a b (ms.map PyData.str) zs.length hb (by rw [List.length_map]; exact olen2)
  rw [List.length_map] at hl
  obtain ⟨us, rfl, hus⟩ := strs_of (M := ms) (out := out) fun d m => by
    obtain ⟨z, hz, e⟩ := List.mem_map.mp (hp.mem_iff.mp (List.mem_append_left _ m))
    exact ⟨z, hz, e.symm⟩
  obtain ⟨ls, rfl, hls⟩ := strs_of (M := ms) (out := left) fun d m => by
    obtain ⟨z, hz, e⟩ := List.mem_map.mp (hp.mem_iff.mp (List.mem_append_right _ m))
    exact ⟨z, hz, e.symm⟩
  rw [List.length_map] at hl
  have hperm := strs_perm hp
  have und : us.Nodup := (List.nodup_append.mp (hperm.nodup_iff.mpr ond)).1
  refine ⟨us, a', b', ?_, p, ⟨by rw [hl]; omega, und, fun z m => onm z (hus z m)⟩⟩
  have e : f__law_picked [pT a b, .d (boxesD ms), .d (.int (zs.length : Int))] = .ok (.d (boxesD us)) [some (pT a' b'), some (.d (boxesD ms)), some (.d (.int (zs.length : Int)))] := e
  have key : Ends (f__law_new_names [pT a b, .d (progD zs L)]) fun v ρ => v = .d (boxesD us) ∧ ρ = [some (pT a' b'), some (.d (progD zs L))] := by
    generalize progD zs L = P at e0 ⊢
    generalize boxesD us = U at e ⊢
    generalize boxesD ms = MS at e l1
    generalize boxesD (zs ++ sixS) = B2 at ad l1
    generalize boxesD zs = Z at e0 g0 ad
    refine ends_fn ?_
    refine ends_nx (ρ' := [some (pT a b), some (.d P), some (.d B2), none, none]) (by simp [dfn, mseq, sif, sret, sset, sdrop, sasg, dandV, dorV, dnotV, dand, dor, dnot, dval, dop, dcallb, dcons, dget, mret, mno, mbind, mopt, gIsi, isT, dbackT, restore, dchain, chainMid, chainRest, onD, pLe2, pLt, pGt, pGe, keepm, dlst, dtup, mkLst, mkTup, allD, short, dcall, dcallF, mset, hlim, e0, ad]) ?_
    refine ends_nx (ρ' := [some (pT a b), some (.d P), some (.d MS), none, none]) (by simp [dfn, mseq, sif, sret, sset, sdrop, sasg, dandV, dorV, dnotV, dand, dor, dnot, dval, dop, dcallb, dcons, dget, mret, mno, mbind, mopt, gIsi, isT, dbackT, restore, dchain, chainMid, chainRest, onD, pLe2, pLt, pGt, pGe, keepm, dlst, dtup, mkLst, mkTup, allD, short, dcall, dcallF, mset, l1]) ?_
    exact Ends.eq (a := .rt (.d U)) (ρ := [some (pT a' b'), some (.d P), some (.d MS), none, none]) (by simp [dfn, mseq, sif, sret, sset, sdrop, sasg, dandV, dorV, dnotV, dand, dor, dnot, dval, dop, dcallb, dcons, dget, mret, mno, mbind, mopt, gIsi, isT, dbackT, restore, dchain, chainMid, chainRest, onD, pLe2, pLt, pGt, pGe, keepm, dlst, dtup, mkLst, mkTup, allD, short, dcall, dcallF, mset, dlate, dhas, dtake, e0, g0, e]) ⟨rfl, rfl⟩
  obtain ⟨v, ρ, e, rfl, rfl⟩ := key.get
  exact e
end LW
end
section
set_option maxRecDepth 100000
set_option linter.all false
open PySem L2 DL TX
namespace LW
def qlen : T → Nat
  | .opq n => n
  | .lst xs => xs.length
  | _ => 0
def isQ (t : T) : Prop := (∃ n, t = .opq n ∧ n < 1000) ∨ ∃ xs, t = .lst xs ∧ xs.length < 1000
def appQ : T → T
  | .opq n => .opq (n + 1)
  | .lst xs => .lst (xs ++ [.d .none])
  | t => t
theorem gLenQ_of {t : T} (h : isQ t) : gLenQ [t] = some (.d (.int (qlen t : Nat))) := by
  rcases h with ⟨n, rfl, _⟩ | ⟨xs, rfl, _⟩ <;> rfl
theorem qlen_app {t : T} (h : isQ t) : qlen (appQ t) = qlen t + 1 ∧ (isQ t → True) := by
  rcases h with ⟨n, rfl, _⟩ | ⟨xs, rfl, _⟩ <;> simp [qlen, appQ]
theorem take10 {a b c d e f g p1 p2 p3 p4 p5 : Option T} (t : T) : dtake 10 [a, b, c, d, e, p1, p2, p3, f, g, some t, p4, p5] = .ok t [a, b, c, d, e, p1, p2, p3, f, g, none, p4, p5] := rfl
theorem take8 {a b c d e g h p1 p2 p3 p4 p5 : Option T} (t : T) : dtake 8 [a, b, c, d, e, p1, p2, p3, some t, g, h, p4, p5] = .ok t [a, b, c, d, e, p1, p2, p3, none, g, h, p4, p5] := rfl
theorem lc_lens {a b c d e f g p1 p2 p3 p4 p5 : Option T} {fe : M T} (F : Nat → Int) : ∀ {ts done acc : List T}, (∀ t ∈ ts, fe [a, b, c, d, e, p1, p2, p3, f, g, some t, p4, p5] = .ok (.d (.int (F (qlen t)))) [a, b, c, d, e, p1, p2, p3, f, g, some t, p4, p5]) → acc.length + ts.length ≤ 1000 →
    lcGoE 10 fe done ts acc [a, b, c, d, e, p1, p2, p3, f, g, none, p4, p5] = .ok (done ++ ts, acc ++ ts.map fun t => .d (.int (F (qlen t)))) [a, b, c, d, e, p1, p2, p3, f, g, none, p4, p5]
  | [], done, acc, _, _ => by simp [lcGoE, mret]
  | t :: ts, done, acc, h, hl => by
    have hlim : lim = 100000 := rfl
    rw [List.length_cons] at hl
    have h0 := h t List.mem_cons_self
    have ih := lc_lens F (ts := ts) (done := done ++ [t]) (acc := acc ++ [.d (.int (F (qlen t)))]) (fun u m => h u (List.mem_cons_of_mem _ m)) (by rw [List.length_append, List.length_singleton]; omega)
    unfold lcGoE
    refine (mbind_eq (f := mset 10 t) (a := ()) (ρ1 := [a, b, c, d, e, p1, p2, p3, f, g, some t, p4, p5]) rfl).trans ?_
    refine (mbind_eq h0).trans ?_
    refine (mbind_eq (take10 t)).trans ?_
    refine (mbind_eq (f := mwipe [10]) (a := ()) (ρ1 := [a, b, c, d, e, p1, p2, p3, f, g, none, p4, p5]) rfl).trans ?_
    rw [if_pos (by omega), ih]
    simp
theorem dlcE_lens {a b c d e g p1 p2 p3 p4 p5 : Option T} {fe : M T} (F : Nat → Int) {ts : List T} (h : ∀ t ∈ ts, fe [a, b, c, d, e, p1, p2, p3, none, g, some t, p4, p5] = .ok (.d (.int (F (qlen t)))) [a, b, c, d, e, p1, p2, p3, none, g, some t, p4, p5]) (hl : ts.length ≤ 1000) :
    dthaw (dlcE 8 10 fe) [a, b, c, d, e, p1, p2, p3, some (.lst ts), g, none, p4, p5] = .ok (.d (.list (ts.map fun t => .int (F (qlen t))))) [a, b, c, d, e, p1, p2, p3, some (.lst ts), g, none, p4, p5] := by
  have q := lc_lens (a := a) (b := b) (c := c) (d := d) (e := e) (p1 := p1) (p2 := p2) (p3 := p3) (p4 := p4) (p5 := p5) (f := none) (g := g) F (done := []) (acc := []) h (by simpa using hl)
  have e1 : dlcE 8 10 fe [a, b, c, d, e, p1, p2, p3, some (.lst ts), g, none, p4, p5] = .ok (.lst (ts.map fun t => .d (.int (F (qlen t))))) [a, b, c, d, e, p1, p2, p3, some (.lst ts), g, none, p4, p5] := by
    unfold dlcE
    refine (mbind_eq (take8 (T.lst ts))).trans ?_
    refine (mbind_eq (f := mwipe [10]) (a := ()) (ρ1 := [a, b, c, d, e, p1, p2, p3, none, g, none, p4, p5]) rfl).trans ?_
    refine (mbind_eq (a := (ts, ts.map fun t => T.d (.int (F (qlen t))))) (ρ1 := [a, b, c, d, e, p1, p2, p3, none, g, none, p4, p5]) (by unfold mnoex; rw [q]; rfl)).trans ?_
    rfl
  have e2 : toD (.lst (ts.map fun t => T.d (.int (F (qlen t))))) = some (.list (ts.map fun t => .int (F (qlen t)))) := by
    have := toDs_map (ts.map fun t => PyData.int (F (qlen t)))
    rw [List.map_map] at this
    rw [toD, show (ts.map fun t => T.d (.int (F (qlen t)))) = ts.map (T.d ∘ fun t => PyData.int (F (qlen t))) from rfl, this]
    rfl
  unfold dthaw
  refine (mbind_eq e1).trans ?_
  rw [e2]
  rfl
theorem lend_app {a b c d e g p1 p2 p3 p4 p5 : Option T} : ∀ {ts done : List T}, (∀ t ∈ ts, isQ t) →
    mlend 10 (dmethQ "list" 10 oAppendQ (dcons (mret (.d .none)) (mret []))) done ts [a, b, c, d, e, p1, p2, p3, none, g, none, p4, p5] = .ok (done ++ ts.map appQ) [a, b, c, d, e, p1, p2, p3, none, g, none, p4, p5]
  | [], done, _ => by simp [mlend, mret]
  | t :: ts, done, h => by
    have hlim : lim = 100000 := rfl
    have ih := lend_app (a := a) (b := b) (c := c) (d := d) (e := e) (p1 := p1) (p2 := p2) (p3 := p3) (p4 := p4) (p5 := p5) (g := g) (ts := ts) (done := done ++ [appQ t]) fun u m => h u (List.mem_cons_of_mem _ m)
    have e1 : dmethQ "list" 10 oAppendQ (dcons (mret (.d .none)) (mret [])) [a, b, c, d, e, p1, p2, p3, none, g, some t, p4, p5] = .ok (.d .none) [a, b, c, d, e, p1, p2, p3, none, g, some (appQ t), p4, p5] := by
      rcases h t List.mem_cons_self with ⟨n, rfl, hn⟩ | ⟨xs, rfl, hx⟩
      · have q : oAppendQ (.opq n) [.d .none] = some (.opq (n + 1), .d .none) := by
          simp only [oAppendQ]
          rw [if_pos (by omega)]
        simp [dmethQ, dtypQ, tyQ, dcons, mbind, mret, down, q, appQ]
      · have q : oAppendQ (.lst xs) [.d .none] = some (.lst (xs ++ [.d .none]), .d .none) := by
          simp only [oAppendQ, oAppend]
          rw [if_pos (by omega)]
        simp [dmethQ, dtypQ, tyQ, tyT, dcons, mbind, mret, down, q, appQ]
    unfold mlend
    refine (mbind_eq (f := mset 10 t) (a := ()) (ρ1 := [a, b, c, d, e, p1, p2, p3, none, g, some t, p4, p5]) rfl).trans ?_
    refine (mbind_eq (a := .d .none) (ρ1 := [a, b, c, d, e, p1, p2, p3, none, g, some (appQ t), p4, p5]) (by unfold mnoex; rw [e1])).trans ?_
    refine (mbind_eq (take10 (appQ t))).trans ?_
    rw [ih]
    simp
theorem forE_app {a b c d e g p1 p2 p3 p4 p5 : Option T} {ts : List T} (h : ∀ t ∈ ts, isQ t) : sforE 8 10 (dmethQ "list" 10 oAppendQ (dcons (mret (.d .none)) (mret []))) [a, b, c, d, e, p1, p2, p3, some (.lst ts), g, none, p4, p5] = .ok .nx [a, b, c, d, e, p1, p2, p3, some (.lst (ts.map appQ)), g, none, p4, p5] := by
  have q := lend_app (a := a) (b := b) (c := c) (d := d) (e := e) (p1 := p1) (p2 := p2) (p3 := p3) (p4 := p4) (p5 := p5) (g := g) (ts := ts) (done := []) h
  unfold sforE
  refine (mbind_eq (take8 (T.lst ts))).trans ?_
  refine (mbind_eq (a := ts.map appQ) (ρ1 := [a, b, c, d, e, p1, p2, p3, none, g, none, p4, p5]) q).trans ?_
  rfl
theorem pNe_ss (z : Str) : pNe (.str z) (.str z) = some (.bool false) := by simp [pNe, okEq, PyData.plain, PyData.depth, PyData.eqv]
theorem pEq_ss (z : Str) : pEq (.str z) (.str z) = some (.bool true) := by simp [pEq, okEq, PyData.plain, PyData.depth, PyData.eqv]
end LW
end
section
set_option maxRecDepth 100000
set_option linter.all false
open PySem L2 DL TX
namespace LW
theorem gRepr_ok {x : PyData} (h : okShow x = true) : gRepr [.d x] = some (.d (.str x.shown)) := by simp [gRepr, h]
theorem ints_self (ns : List Int) : pNe (.list (ns.map PyData.int)) (.list (ns.map PyData.int)) = some (.bool false) := by
  have h1 : PyData.plainAll (ns.map PyData.int) = true := by
    induction ns with
    | nil => simp [PyData.plainAll]
    | cons i ns ih => simp only [List.map_cons, PyData.plainAll, ih]; simp [PyData.plain]
  have h2 : PyData.depthAll (ns.map PyData.int) = 0 := by
    induction ns with
    | nil => simp [PyData.depthAll]
    | cons i ns ih => simp only [List.map_cons, PyData.depthAll, ih (by simpa [PyData.plainAll, PyData.plain] using h1)]; simp [PyData.depth]
  have h3 : PyData.eqvAll (ns.map PyData.int) (ns.map PyData.int) = true := by
    clear h1 h2
    induction ns with
    | nil => simp [PyData.eqvAll]
    | cons i ns ih => simp only [List.map_cons, PyData.eqvAll, ih]; simp [PyData.eqv]
  unfold pNe
  rw [if_pos (by simp [okEq, PyData.plain, h1, PyData.depth, h2])]
  simp [PyData.eqv, h3]
theorem r_turn {P O N C : PyData} {F : T} {KT CT : Str} {PL : PyData} {Q : List T} (rk : gRepr [.d (.list [P, O, N])] = some (.d (.str KT))) (rc : gRepr [.d C] = some (.d (.str CT)))
    (cO : g_called [.d P, .d O, .d N] = .ok F [some (.d P), some (.d O), some (.d N)]) (td : toD F = some C) (tf : toF F = some (.d C)) (d8 : ∀ a b c d e f g h i j k l : Option T, dparts2 7 [a, b, c, d, e, f, g, some F, h, i, j, k, l] = .ok (.lst Q) [a, b, c, d, e, f, g, none, h, i, j, k, l])
    (hq : ∀ t ∈ Q, isQ t) (hn : Q.length ≤ 1000) (tup : ∃ xs, F = .tup xs) (t6 : PyData) (o7 o8 o9 : Option T) :
    Ends (y__law_right_3 [some (.d P), some (.d O), some (.d N), some (.d (.str KT)), some (.d PL), some (.d (.str CT)), some (.d t6), o7, o8, o9, none, none, none]) fun fl ρ => fl = .nx ∧ ∃ o7 o8 o9 : Option T, ρ = [some (.d P), some (.d O), some (.d N), some (.d (.str KT)), some (.d PL), some (.d (.str CT)), some (.d t6), o7, o8, o9, none, none, none] := by
  have hlim : lim = 100000 := rfl
  have n1 := pNe_ss CT
  have n2 := pNe_ss KT
  have s1 : ∀ a b c d e f g : PyData, ∃ o8' o9' : Option T, seen [7] 0 [some (.d a), some (.d b), some (.d c), some (.d d), some (.d e), some (.d f), some (.d g), some F, o8, o9, none, none, none] = [some (.d a), some (.d b), some (.d c), some (.d d), some (.d e), some (.d f), some (.d g), some (.d C), o8', o9', none, none, none] := by
    obtain ⟨xs, rfl⟩ := tup
    intro a b c d e f g
    obtain ⟨x, y, e⟩ : ∃ x y : Option T, seen [7] 8 [o8, o9, none, none, none] = [x, y, none, none, none] := ⟨_, _, rfl⟩
    refine ⟨x, y, ?_⟩
    rw [seen, seen, seen, seen, seen, seen, seen, seen, e]
    · simp [td, tf]
    all_goals (intros; rename_i h; cases h)
  refine ends_nx (ρ' := [some (.d P), some (.d O), some (.d N), some (.d (.str KT)), some (.d PL), some (.d (.str CT)), some (.d t6), some F, o8, o9, none, none, none]) (by simp [dfn, mseq, sif, sret, sset, sdrop, sasg, dandV, dorV, dnotV, dand, dor, dnot, dval, dop, dcallb, dcons, dget, mret, mno, mbind, mopt, gIsi, isT, dbackT, restore, dchain, chainMid, chainRest, onD, pLe2, pLt, pGt, pGe, keepm, dlst, dtup, mkLst, mkTup, allD, short, dcall, dcallF, mset, dins, insA, cO]) ?_
  refine ends_nx (ρ' := [some (.d P), some (.d O), some (.d N), some (.d (.str KT)), some (.d PL), some (.d (.str CT)), some (.d t6), some F, o8, o9, none, none, none]) ?_ ?_
  · obtain ⟨o8', o9', s2⟩ := s1 P O N (.str KT) PL (.str CT) t6
    simp [dfn, mseq, sif, sret, sset, sdrop, sasg, dandV, dorV, dnotV, dand, dor, dnot, dval, dop, dcallb, dcons, dget, mret, mno, mbind, mopt, gIsi, isT, dbackT, restore, dchain, chainMid, chainRest, onD, pLe2, pLt, pGt, pGe, keepm, dlst, dtup, mkLst, mkTup, allD, short, dcall, dcallF, mset, dins, insA, dpeekT, s2, rc, n1, cO, dthaw, td]
  refine ends_nx (ρ' := [some (.d P), some (.d O), some (.d N), some (.d (.str KT)), some (.d PL), some (.d (.str CT)), some (.d t6), none, some (.lst Q), o9, none, none, none]) (by simp [dfn, mseq, sif, sret, sset, sdrop, sasg, dandV, dorV, dnotV, dand, dor, dnot, dval, dop, dcallb, dcons, dget, mret, mno, mbind, mopt, gIsi, isT, dbackT, restore, dchain, chainMid, chainRest, onD, pLe2, pLt, pGt, pGe, keepm, dlst, dtup, mkLst, mkTup, allD, short, dcall, dcallF, mset, d8]) ?_
  have l1 : l__law_right_1 [some (.d P), some (.d O), some (.d N), some (.d (.str KT)), some (.d PL), some (.d (.str CT)), some (.d t6), none, some (.lst Q), o9, none, none, none] = .ok (.d (.list (Q.map fun t => .int (((qlen t : Nat) : Int) + 1)))) [some (.d P), some (.d O), some (.d N), some (.d (.str KT)), some (.d PL), some (.d (.str CT)), some (.d t6), none, some (.lst Q), o9, none, none, none] := by
    refine dlcE_lens (fun n => (n : Int) + 1) (fun t m => ?_) hn
    have q := gLenQ_of (hq t m)
    simp [dfn, mseq, sif, sret, sset, sdrop, sasg, dandV, dorV, dnotV, dand, dor, dnot, dval, dop, dcallb, dcons, dget, mret, mno, mbind, mopt, gIsi, isT, dbackT, restore, dchain, chainMid, chainRest, onD, pLe2, pLt, pGt, pGe, keepm, dlst, dtup, mkLst, mkTup, allD, short, dcall, dcallF, mset, dlate, dhas, dtake, q, pAdd]
  refine ends_nx (ρ' := [some (.d P), some (.d O), some (.d N), some (.d (.str KT)), some (.d PL), some (.d (.str CT)), some (.d t6), none, some (.lst Q), some (.d (.list (Q.map fun t => .int (((qlen t : Nat) : Int) + 1)))), none, none, none]) (by simp [dfn, mseq, sif, sret, sset, sdrop, sasg, dandV, dorV, dnotV, dand, dor, dnot, dval, dop, dcallb, dcons, dget, mret, mno, mbind, mopt, gIsi, isT, dbackT, restore, dchain, chainMid, chainRest, onD, pLe2, pLt, pGt, pGe, keepm, dlst, dtup, mkLst, mkTup, allD, short, dcall, dcallF, mset, l1]) ?_
  refine ends_nx (ρ' := [some (.d P), some (.d O), some (.d N), some (.d (.str KT)), some (.d PL), some (.d (.str CT)), some (.d t6), none, some (.lst (Q.map appQ)), some (.d (.list (Q.map fun t => .int (((qlen t : Nat) : Int) + 1)))), none, none, none]) (forE_app hq) ?_
  have l2 : l__law_right_2 [some (.d P), some (.d O), some (.d N), some (.d (.str KT)), some (.d PL), some (.d (.str CT)), some (.d t6), none, some (.lst (Q.map appQ)), some (.d (.list (Q.map fun t => .int (((qlen t : Nat) : Int) + 1)))), none, none, none] = .ok (.d (.list (Q.map fun t => .int (((qlen t : Nat) : Int) + 1)))) [some (.d P), some (.d O), some (.d N), some (.d (.str KT)), some (.d PL), some (.d (.str CT)), some (.d t6), none, some (.lst (Q.map appQ)), some (.d (.list (Q.map fun t => .int (((qlen t : Nat) : Int) + 1)))), none, none, none] := by
    have em : (Q.map appQ).map (fun t => PyData.int ((qlen t : Nat) : Int)) = Q.map fun t => .int (((qlen t : Nat) : Int) + 1) := by
      rw [List.map_map]
      refine List.map_congr_left fun t m => ?_
      show PyData.int ((qlen (appQ t) : Nat) : Int) = _
      rw [(qlen_app (hq t m)).1]
      rfl
    generalize (Q.map fun t => PyData.int (((qlen t : Nat) : Int) + 1)) = Z at em ⊢
    have q := dlcE_lens (a := some (.d P)) (b := some (.d O)) (c := some (.d N)) (d := some (.d (.str KT))) (e := some (.d PL)) (p1 := some (.d (.str CT))) (p2 := some (.d t6)) (p3 := none) (p4 := none) (p5 := none) (g := some (.d (.list Z))) (fe := dcallb gLenQ [some 10] (dlate 10 (mret []))) (ts := Q.map appQ) (fun n => (n : Int)) (fun t m => by
      have q : gLenQ [t] = some (.d (.int (qlen t : Nat))) := by
        obtain ⟨u, hu, rfl⟩ := List.mem_map.mp m
        rcases hq u hu with ⟨n, rfl, _⟩ | ⟨xs, rfl, _⟩ <;> rfl
      simp [dfn, mseq, sif, sret, sset, sdrop, sasg, dandV, dorV, dnotV, dand, dor, dnot, dval, dop, dcallb, dcons, dget, mret, mno, mbind, mopt, gIsi, isT, dbackT, restore, dchain, chainMid, chainRest, onD, pLe2, pLt, pGt, pGe, keepm, dlst, dtup, mkLst, mkTup, allD, short, dcall, dcallF, mset, dlate, dhas, dtake, q]) (by rw [List.length_map]; exact hn)
    rw [em] at q
    exact q
  have i1 := ints_self (Q.map fun t => (((qlen t : Nat) : Int) + 1))
  rw [List.map_map] at i1
  have i1 : pNe (.list (Q.map fun t => .int (((qlen t : Nat) : Int) + 1))) (.list (Q.map fun t => .int (((qlen t : Nat) : Int) + 1))) = some (.bool false) := i1
  generalize (Q.map fun t => PyData.int (((qlen t : Nat) : Int) + 1)) = Z at l2 i1 ⊢
  refine Ends.eq (a := .nx) (ρ := [some (.d P), some (.d O), some (.d N), some (.d (.str KT)), some (.d PL), some (.d (.str CT)), some (.d t6), none, some (.lst (Q.map appQ)), some (.d (.list Z)), none, none, none]) (by simp [dfn, mseq, sif, sret, sset, sdrop, sasg, dandV, dorV, dnotV, dand, dor, dnot, dval, dop, dcallb, dcons, dget, mret, mno, mbind, mopt, gIsi, isT, dbackT, restore, dchain, chainMid, chainRest, onD, pLe2, pLt, pGt, pGe, keepm, dlst, dtup, mkLst, mkTup, allD, short, dcall, dcallF, mset, hlim, l2, i1, rk, n2]) ⟨rfl, _, _, _, rfl⟩
end LW
end
section
set_option maxRecDepth 100000
set_option linter.all false
open PySem L2 DL TX
namespace LW
theorem GN.repr {zs : List Str} {L : List (List Dd)} (g : GN zs L) : gRepr [.d (progD zs L)] = some (.d (.str (progD zs L).shown)) := gRepr_ok (g.good.sh.ok (by omega) (by omega))
theorem kept_repr {zs ns : List Str} {L : List (List Dd)} {os : List Nat} (g : GN zs L) (o : Ord os L.length) (n : NN zs ns) : ∃ KT : Str, gRepr [.d (.list [progD zs L, natsD os, boxesD ns])] = some (.d (.str KT)) := by
  have h4 := g.h4
  have z4 := g.z4
  have nl := n.len
  have s1 : Sh 28021 5 (natsD os) := (Sh.list (n := 70) (k := 1) (m := 4) (fun x m => by
    obtain ⟨k, hk, rfl⟩ := List.mem_map.mp m
    have := o.lt k hk
    exact sh_int (by omega) (by omega)) (by rw [List.length_map, o.len]; exact h4)).mono (by omega) (by omega)
  have s2 : Sh 28021 5 (boxesD ns) := (Sh.list (n := 70) (k := 1) (m := 4) (fun x m => by
    obtain ⟨z, hz, rfl⟩ := List.mem_map.mp m
    exact sh_name (n.names z hz)) (by rw [List.length_map]; omega)).mono (by omega) (by omega)
  exact ⟨_, gRepr_ok ((Sh.list (n := 28021) (k := 5) (m := 3) (xs := [progD zs L, natsD os, boxesD ns]) (by simp only [List.forall_mem_cons]; exact ⟨g.good.sh, s1, s2, fun _ z => nomatch z⟩) (by simp)).ok (by omega) (by omega))⟩
theorem parts_run {zs ns : List Str} {L : List (List Dd)} {os : List Nat} (g : GN zs L) (o : Ord os L.length) (n : NN zs ns) :
    ∃ Q : List T, (∀ a b c d e f g h i j k l : Option T, dparts2 7 [a, b, c, d, e, f, g, some (callT zs L os ns), h, i, j, k, l] = .ok (.lst Q) [a, b, c, d, e, f, g, none, h, i, j, k, l]) ∧ (∀ t ∈ Q, isQ t) ∧ Q.length ≤ 1000 := by
  have hlim : lim = 100000 := rfl
  have h4 := g.h4
  have z4 := g.z4
  have nl := n.len
  have gc := g.called o n
  have cl : (calledL zs L os ns).length ≤ 4 := gc.h4
  refine ⟨boxesT (sortStr ns) :: .opq ((calledL zs L os ns).map lineT).length :: (calledL zs L os ns).map lineT, fun a b c d e f g h i j k l => ?_, fun t m => ?_, ?_⟩
  · unfold callT
    show (if ((calledL zs L os ns).map lineT).length < lim then _ else _) = _
    rw [if_pos (by rw [List.length_map]; omega)]
    rfl
  · rcases List.mem_cons.mp m with rfl | m
    · exact .inr ⟨_, rfl, by rw [List.length_map, List.length_map, sort_len]; omega⟩
    · rcases List.mem_cons.mp m with rfl | m
      · exact .inl ⟨_, rfl, by rw [List.length_map]; omega⟩
      · obtain ⟨l, hl, rfl⟩ := List.mem_map.mp m
        have := (gc.lines l hl).1
        exact .inr ⟨_, rfl, by rw [List.length_map]; omega⟩
  · simp only [List.length_cons, List.length_map]
    omega
theorem t_right {zs ns : List Str} {L : List (List Dd)} {os : List Nat} (g : GN zs L) (o : Ord os L.length) (n : NN zs ns) :
    f__law_right [.d (progD zs L), .d (natsD os), .d (boxesD ns)] = .ok (.d (.bool true)) [some (.d (progD zs L)), some (.d (natsD os)), some (.d (boxesD ns))] := by
  have hlim : lim = 100000 := rfl
  have h4 := g.h4
  obtain ⟨KT, rk⟩ := kept_repr g o n
  obtain ⟨Q, d8, hq, hn⟩ := parts_run g o n
  have oR := Ord.range L.length
  have gc := g.called o n
  have gH := g.called o g.nn
  have gB := g.called oR n
  have rC := gc.repr
  have rH := gH.repr
  have rB := gB.repr
  have rP := g.repr
  have lO := t_lcalled g o n
  have lH := t_lcalled g o g.nn
  have lB := t_lcalled g oR n
  have cO := t_called (hx := natsD os) (bx := boxesD ns) g o n (.inr rfl) (.inr rfl)
  have cH := t_called (hx := natsD os) (bx := .none) g o g.nn (.inr rfl) (.inl ⟨rfl, rfl⟩)
  have cB := t_called (hx := .none) (bx := boxesD ns) g oR n (.inl ⟨rfl, rfl⟩) (.inr rfl)
  have cN := t_called (hx := .none) (bx := .none) g oR g.nn (.inl ⟨rfl, rfl⟩) (.inl ⟨rfl, rfl⟩)
  have tO := toD_call zs L os ns
  have tH := toD_call zs L os zs
  have tB := toD_call zs L (List.range L.length) ns
  have tN := toD_call zs L (List.range L.length) zs
  rw [called_self, up_sorted g.up] at tN
  have bk := t_lback g o n
  obtain ⟨nb, sb⟩ := boxes_back g n
  have cl : (calledL zs L os ns).length = L.length := by rw [calledL_len, o.len]
  have cX := t_called (hx := natsD (inv os)) (bx := boxesD ((sortStr ns).map (sg ns zs))) gc (os := inv os) (by rw [cl]; exact o.inv) nb (.inr rfl) (.inr rfl)
  have tX := toD_call (sortStr ns) (calledL zs L os ns) (inv os) ((sortStr ns).map (sg ns zs))
  rw [sb, called_back o n.len n.nd (fun l m => (g.lines l m).2) (sortStr ns) (fun z m => sort_mem.mpr m)] at tX
  have e0 : pIx (progD zs L) (.int 0) = some (boxesD zs) := rfl
  have gl := gLen_nats os
  have pl := lstRg_nat (n := os.length) (by rw [o.len]; omega)
  rw [o.len] at gl pl
  have tup : ∃ xs, callT zs L os ns = .tup xs := ⟨_, rfl⟩
  have tf : toF (callT zs L os ns) = some (.d (progD (sortStr ns) (calledL zs L os ns))) := by
    show (toD (callT zs L os ns)).map T.d = _
    rw [tO]
    rfl
  have fC : f_called [.d (progD zs L)] = .ok (callT zs L (List.range L.length) zs) [some (.d (progD zs L))] := by
    show (match g_called [.d (progD zs L), .d .none, .d .none] with
      | .ok v ρ => R.ok v (ρ.take 1)
      | .ex e ρ => .ex e (ρ.take 1)
      | .no => .no) = _
    rw [cN]
    rfl
  have key : Ends (f__law_right [.d (progD zs L), .d (natsD os), .d (boxesD ns)]) fun v ρ => v = .d (.bool true) ∧ ρ = [some (.d (progD zs L)), some (.d (natsD os)), some (.d (boxesD ns))] := by
    generalize (progD (sortStr ns) (calledL zs L os ns)).shown = CT at rC
    generalize (progD (sortStr zs) (calledL zs L os zs)).shown = HT2 at rH
    generalize (progD (sortStr ns) (calledL zs L (List.range L.length) ns)).shown = BT at rB
    generalize (progD zs L).shown = PT at rP
    generalize progD (sortStr ns) (calledL zs L os ns) = C at *
    generalize progD (sortStr zs) (calledL zs L os zs) = C1 at *
    generalize progD (sortStr ns) (calledL zs L (List.range L.length) ns) = C2 at *
    generalize callT (sortStr ns) (calledL zs L os ns) (inv os) ((sortStr ns).map (sg ns zs)) = F4 at *
    generalize callT zs L os ns = F0 at *
    generalize callT zs L os zs = F1 at *
    generalize callT zs L (List.range L.length) ns = F2 at *
    generalize callT zs L (List.range L.length) zs = F3 at *
    generalize progD zs L = P at *
    generalize natsD (List.range L.length) = PL at *
    generalize natsD (inv os) = O2 at *
    generalize boxesD ((sortStr ns).map (sg ns zs)) = N2 at *
    generalize natsD os = O at *
    generalize boxesD ns = N at *
    generalize boxesD zs = Z at *
    have n1 := pNe_ss HT2
    have n2 := pNe_ss BT
    have n3 := pNe_ss PT
    have n4 := pEq_ss PT
    refine ends_fn ?_
    refine ends_nx (ρ' := [some (.d P), some (.d O), some (.d N), some (.d (.str KT)), none, none, none, none, none, none, none, none, none]) (by simp [dfn, mseq, sif, sret, sset, sdrop, sasg, dandV, dorV, dnotV, dand, dor, dnot, dval, dop, dcallb, dcons, dget, mret, mno, mbind, mopt, gIsi, isT, dbackT, restore, dchain, chainMid, chainRest, onD, pLe2, pLt, pGt, pGe, keepm, dlst, dtup, mkLst, mkTup, allD, short, dcall, dcallF, mset, hlim, rk]) ?_
    refine ends_nx (ρ' := [some (.d P), some (.d O), some (.d N), some (.d (.str KT)), some (.d PL), none, none, none, none, none, none, none, none]) (by simp [dfn, mseq, sif, sret, sset, sdrop, sasg, dandV, dorV, dnotV, dand, dor, dnot, dval, dop, dcallb, dcons, dget, mret, mno, mbind, mopt, gIsi, isT, dbackT, restore, dchain, chainMid, chainRest, onD, pLe2, pLt, pGt, pGe, keepm, dlst, dtup, mkLst, mkTup, allD, short, dcall, dcallF, mset, gl, pl]) ?_
    refine ends_nx (ρ' := [some (.d P), some (.d O), some (.d N), some (.d (.str KT)), some (.d PL), some (.d (.str CT)), none, none, none, none, none, none, none]) (by simp [dfn, mseq, sif, sret, sset, sdrop, sasg, dandV, dorV, dnotV, dand, dor, dnot, dval, dop, dcallb, dcons, dget, mret, mno, mbind, mopt, gIsi, isT, dbackT, restore, dchain, chainMid, chainRest, onD, pLe2, pLt, pGt, pGe, keepm, dlst, dtup, mkLst, mkTup, allD, short, dcall, dcallF, mset, lO, rC]) ?_
    refine ends_seq (ends_bind' (a := [.int 0, .int 1]) (ρ' := [some (.d P), some (.d O), some (.d N), some (.d (.str KT)), some (.d PL), some (.d (.str CT)), none, none, none, none, none, none, none]) (by simp [drange, dfn, mseq, sif, sret, sset, sdrop, sasg, dandV, dorV, dnotV, dand, dor, dnot, dval, dop, dcallb, dcons, dget, mret, mno, mbind, mopt, gIsi, isT, dbackT, restore, dchain, chainMid, chainRest, onD, pLe2, pLt, pGt, pGe, keepm, dlst, dtup, mkLst, mkTup, allD, short, dcall, dcallF, mset]; rfl) ?_)
    refine ends_for (fun ts ρ => ∃ o6 o7 o8 o9 : Option T, (∀ t ∈ ts, ∃ d : PyData, t = .d d) ∧ ρ = [some (.d P), some (.d O), some (.d N), some (.d (.str KT)), some (.d PL), some (.d (.str CT)), o6, o7, o8, o9, none, none, none]) ⟨none, none, none, none, fun t m => ?_, rfl⟩ ?_ ?_
    · obtain ⟨d, _, rfl⟩ := List.mem_map.mp m
      exact ⟨d, rfl⟩
    · rintro ρ ⟨o6, o7, o8, o9, _, rfl⟩
      unfold AfterS
      refine ends_nx (ρ' := [some (.d P), some (.d O), some (.d N), some (.d (.str KT)), some (.d PL), some (.d (.str CT)), o6, o7, o8, o9, none, none, none]) (by simp [dfn, mseq, sif, sret, sset, sdrop, sasg, dandV, dorV, dnotV, dand, dor, dnot, dval, dop, dcallb, dcons, dget, mret, mno, mbind, mopt, gIsi, isT, dbackT, restore, dchain, chainMid, chainRest, onD, pLe2, pLt, pGt, pGe, keepm, dlst, dtup, mkLst, mkTup, allD, short, dcall, dcallF, mset, dins, insA, dthaw, cH, tH, rH, e0, lH, n1]) ?_
      refine ends_nx (ρ' := [some (.d P), some (.d O), some (.d N), some (.d (.str KT)), some (.d PL), some (.d (.str CT)), o6, o7, o8, o9, none, none, none]) (by simp [dfn, mseq, sif, sret, sset, sdrop, sasg, dandV, dorV, dnotV, dand, dor, dnot, dval, dop, dcallb, dcons, dget, mret, mno, mbind, mopt, gIsi, isT, dbackT, restore, dchain, chainMid, chainRest, onD, pLe2, pLt, pGt, pGe, keepm, dlst, dtup, mkLst, mkTup, allD, short, dcall, dcallF, mset, dins, insA, dthaw, cB, tB, rB, lB, n2]) ?_
      refine ends_nx (ρ' := [some (.d P), some (.d O), some (.d N), some (.d (.str KT)), some (.d PL), some (.d (.str CT)), o6, o7, o8, o9, none, none, none]) (by simp [dfn, mseq, sif, sret, sset, sdrop, sasg, dandV, dorV, dnotV, dand, dor, dnot, dval, dop, dcallb, dcons, dget, mret, mno, mbind, mopt, gIsi, isT, dbackT, restore, dchain, chainMid, chainRest, onD, pLe2, pLt, pGt, pGe, keepm, dlst, dtup, mkLst, mkTup, allD, short, dcall, dcallF, mset, dins, insA, dthaw, fC, cN, tN, rP, n3]) ?_
      refine ends_nx (ρ' := [some (.d P), some (.d O), some (.d N), some (.d (.str KT)), some (.d PL), some (.d (.str CT)), o6, o7, o8, o9, none, some (.d O2), some (.d N2)]) (by simp [dfn, mseq, sif, sret, sset, sdrop, sasg, dandV, dorV, dnotV, dand, dor, dnot, dval, dop, dcallb, dcons, dget, mret, mno, mbind, mopt, gIsi, isT, dbackT, restore, dchain, chainMid, chainRest, onD, pLe2, pLt, pGt, pGe, keepm, dlst, dtup, mkLst, mkTup, allD, short, dcall, dcallF, mset, bk, mtup, mgs, mset]) ?_
      exact Ends.eq (a := .rt (.d (.bool true))) (ρ := [some (.d P), some (.d O), some (.d N), some (.d (.str KT)), some (.d PL), some (.d (.str CT)), o6, o7, o8, o9, none, some (.d O2), some (.d N2)]) (by simp [dfn, mseq, sif, sret, sset, sdrop, sasg, dandV, dorV, dnotV, dand, dor, dnot, dval, dop, dcallb, dcons, dget, mret, mno, mbind, mopt, gIsi, isT, dbackT, restore, dchain, chainMid, chainRest, onD, pLe2, pLt, pGt, pGe, keepm, dlst, dtup, mkLst, mkTup, allD, short, dcall, dcallF, mset, dins, insA, dthaw, cO, tO, cX, tX, rP, n4]) ⟨rfl, rfl⟩
    · rintro t ts ρ ⟨o6, o7, o8, o9, hd, rfl⟩
      obtain ⟨d, rfl⟩ := hd t List.mem_cons_self
      refine Ends.eq (a := ()) (ρ := [some (.d P), some (.d O), some (.d N), some (.d (.str KT)), some (.d PL), some (.d (.str CT)), some (.d d), o7, o8, o9, none, none, none]) rfl ?_
      refine (r_turn rk rC cO tO tf d8 hq hn tup d o7 o8 o9).mono ?_
      rintro fl ρ ⟨rfl, p7, p8, p9, rfl⟩
      exact ⟨_, _, _, _, fun t m => hd t (List.mem_cons_of_mem _ m), rfl⟩
  obtain ⟨v, ρ, e, rfl, rfl⟩ := key.get
  exact e
end LW
end
section
set_option maxRecDepth 100000
set_option linter.all false
open PySem L2 DL TX
namespace LW
theorem t_prog (a b : Int) (hb : PoolOk b) : ∃ zs L a' b', f__law_small [pT a b, .d (.int 4), .d (.int 4)] = .ok (.d (progD zs L)) [some (pT a' b'), some (.d (.int 4)), some (.d (.int 4))] ∧ PoolOk b' ∧ GN zs L := by
  obtain ⟨zs, hs, a', b', e, p, bz, h1, h4, hl⟩ := t_small a b 4 (by omega) hb
  obtain ⟨L, rfl, hL⟩ := lines_of hl
  rw [List.length_map] at h1 h4
  exact ⟨zs, L, a', b', e, p, bz.1, bz.2.1, fun z m => menu_name z (bz.2.2.1 z m), bz.2.2.2, h1, h4, hL⟩
theorem t_cell (ns : List Int) (hn : ns.length ≤ 1000) (k : Nat) (hk : k ≤ 1000) (o2 o3 o4 : Option T) :
    Ends (y_law_1 [some (.scr ns), some (.d (.int k)), o2, o3, o4]) fun fl ρ => fl = .nx ∧ ∃ o2 o3 o4, ρ = [some (.scr ns), some (.d (.int k)), o2, o3, o4] := by
  have hlim : lim = 100000 := rfl
  obtain ⟨a, c, e0, p0⟩ := t_pool ns k hk hn
  obtain ⟨zs, L, a1, c1, e1, p1, g⟩ := t_prog a c p0
  obtain ⟨os, a2, c2, e2, p2, o⟩ := t_order a1 c1 L.length p1 (by have := g.h4; omega)
  obtain ⟨nw, a3, c3, e3, p3, n⟩ := t_new_names a2 c2 g p2
  have r := t_right g o n
  have i1 : pIx (progD zs L) (.int 1) = some (handsD L) := rfl
  have g1 : gLen [.d (handsD L)] = some (.d (.int (L.length : Int))) := by
    show some (T.d (.int ((L.map lineD).length : Nat))) = _
    rw [List.length_map]
  generalize progD zs L = P at e1 e3 r i1
  generalize handsD L = HD at i1 g1
  generalize natsD os = O at e2 r
  generalize boxesD nw = N at e3 r
  refine ends_nx (ρ' := [some (.scr ns), some (.d (.int k)), some (pT a c), o3, o4]) (by simp [dfn, mseq, sif, sret, sset, sdrop, sasg, dandV, dorV, dnotV, dand, dor, dnot, dval, dop, dcallb, dcons, dget, mret, mno, mbind, mopt, gIsi, isT, dbackT, restore, dchain, chainMid, chainRest, onD, pLe2, pLt, pGt, pGe, keepm, dlst, dtup, mkLst, mkTup, allD, short, dcall, dcallF, mset, e0]) ?_
  refine ends_nx (ρ' := [some (.scr ns), some (.d (.int k)), some (pT a1 c1), some (.d P), o4]) (by simp [dfn, mseq, sif, sret, sset, sdrop, sasg, dandV, dorV, dnotV, dand, dor, dnot, dval, dop, dcallb, dcons, dget, mret, mno, mbind, mopt, gIsi, isT, dbackT, restore, dchain, chainMid, chainRest, onD, pLe2, pLt, pGt, pGe, keepm, dlst, dtup, mkLst, mkTup, allD, short, dcall, dcallF, mset, dlate, dhas, dtake, e1]) ?_
  refine ends_nx (ρ' := [some (.scr ns), some (.d (.int k)), some (pT a2 c2), some (.d P), some (.d O)]) (by simp [dfn, mseq, sif, sret, sset, sdrop, sasg, dandV, dorV, dnotV, dand, dor, dnot, dval, dop, dcallb, dcons, dget, mret, mno, mbind, mopt, gIsi, isT, dbackT, restore, dchain, chainMid, chainRest, onD, pLe2, pLt, pGt, pGe, keepm, dlst, dtup, mkLst, mkTup, allD, short, dcall, dcallF, mset, dlate, dhas, dtake, i1, g1, e2]) ?_
  exact Ends.eq (a := .nx) (ρ := [some (.scr ns), some (.d (.int k)), some (pT a3 c3), some (.d P), some (.d O)]) (by simp [dfn, mseq, sif, sret, sset, sdrop, sasg, dandV, dorV, dnotV, dand, dor, dnot, dval, dop, dcallb, dcons, dget, mret, mno, mbind, mopt, gIsi, isT, dbackT, restore, dchain, chainMid, chainRest, onD, pLe2, pLt, pGt, pGe, keepm, dlst, dtup, mkLst, mkTup, allD, short, dcall, dcallF, mset, dlate, dhas, dtake, e3, r]) ⟨rfl, _, _, _, rfl⟩
structure EndsW (r : R Fl) (P : Fl → Rho → Prop) : Prop where
  h : Ends r P
theorem hR (ns : List Int) (hn : ns.length ≤ 63) (r : Rho) : ∃ n : Nat, n ≤ 1000 ∧ drange (dcons (dcallb gMax2 [none, none] (dcons (mret (.d (.int 2))) (dcons (dcallb gMin2 [none, none] (dcons (dcallb gLen [none] (dcons (dget 0) (mret []))) (dcons (mret (.d (.int 30))) (mret [])))) (mret [])))) (mret [])) (some (.scr ns) :: r) = .ok (DL.intsFrom 0 n) (some (.scr ns) :: r) := by
  have okR : ∀ i : Int, 0 ≤ i → i ≤ 1000 → okRange i = true := fun i h0 h1 => by
    simp only [okRange, Bool.and_eq_true, decide_eq_true_eq]
    omega
  have key : ∀ m : Int, 0 ≤ m → m ≤ 1000 → ∃ n : Nat, n ≤ 1000 ∧ rangeItems [.d (.int m)] = some (DL.intsFrom 0 n) := fun m h0 h1 => ⟨m.toNat, by omega, by simp [rangeItems, okR m h0 h1]⟩
  obtain ⟨n, h1, h2⟩ := key (if (if (30 : Int) < ns.length then (30 : Int) else ns.length) > 2 then (if (30 : Int) < ns.length then (30 : Int) else ns.length) else 2) (by split <;> (try split) <;> omega) (by split <;> (try split) <;> omega)
  refine ⟨n, h1, ?_⟩
  simp only [drange, dfn, mseq, sif, sret, sset, sdrop, sasg, dandV, dorV, dnotV, dand, dor, dnot, dval, dop, dcallb, dcons, dget, mret, mno, mbind, mopt, gIsi, isT, dbackT, restore, dchain, chainMid, chainRest, onD, pLe2, pLt, pGt, pGe, keepm, dlst, dtup, mkLst, mkTup, allD, short, dcall, dcallF, mset, gLen, gMin2, gMax2, List.getElem?_cons_zero, List.getD_eq_getElem?_getD, h2]
  rfl
theorem good_body (ns : List Int) (hn : ns.length ≤ 63) : EndsW (b_law [some (.scr ns), none, none, none, none]) (OfFn [true] fun v _ => v = .d (.bool true)) := by
  obtain ⟨n, hn2, e⟩ := hR ns hn [none, none, none, none]
  unfold b_law
  refine ⟨ends_seq (ends_bind' e (ends_for (fun ts ρ => (∃ o1 o2 o3 o4 : Option T, ρ = [some (.scr ns), o1, o2, o3, o4]) ∧ ∀ t ∈ ts, ∃ k : Nat, k ≤ 1000 ∧ t = .d (.int k)) ⟨⟨_, _, _, _, rfl⟩, fun t m => ?_⟩ ?_ ?_))⟩
  · obtain ⟨d, hd, rfl⟩ := List.mem_map.mp m
    obtain ⟨i, hi, rfl⟩ := List.mem_map.mp hd
    have := List.mem_range.mp hi
    exact ⟨i, by omega, by rw [Int.zero_add]⟩
  · rintro ρ ⟨⟨o1, o2, o3, o4, rfl⟩, _⟩
    unfold AfterS
    exact Ends.eq (a := .rt (.d (.bool true))) rfl rfl
  · rintro t ts ρ ⟨⟨o1, o2, o3, o4, rfl⟩, hk⟩
    obtain ⟨k, hk1, rfl⟩ := hk t List.mem_cons_self
    refine Ends.eq (a := ()) (ρ := [some (.scr ns), some (.d (.int k)), o2, o3, o4]) rfl ((t_cell ns (by omega) k hk1 _ _ _).mono ?_)
    rintro fl ρ ⟨rfl, o2, o3, o4, rfl⟩
    exact ⟨⟨_, _, _, _, rfl⟩, fun t m => hk t (List.mem_cons_of_mem _ m)⟩
theorem good_fn {F : M Fl} {ns : List Int} {m : List Bool} {r : Rho} (h : EndsW (F r) (OfFn m fun v _ => v = .d (.bool true))) (n : Nat) (e : ([T.scr ns].map some ++ List.replicate (n - 1) none) = r) : Good (dfn n m F) ns := by
  subst e
  exact Good.of (ends_fn h.h)
theorem good (ns : List Int) (hn : ns.length ≤ 63) (_ : ∀ z ∈ ns, PySem.Builtin.Int.intBits z ≤ 1048576) : DL.Good f_law ns := good_fn (good_body ns hn) 5 rfl
end LW
end
open PySem PySem.W PyProof.Rows
set_option maxRecDepth 100000 in
set_option maxHeartbeats 0 in
theorem PySem.Challenge.cw_readsfrom_k61_programs_called_otherwise_holds : PySem.Challenge.rw_readsfrom_k61_programs_called_otherwise.Holds := by
  w_on; o_law; k_head; (case hw => w_witness2)
  k_fill
  refine DL.walkG (l := PySem.Challenge.rw_readsfrom_k61_programs_called_otherwise) (n := 63) (k := 9) (x := "_law_script") (g := LW.f_law) rfl (by decide) rfl ⟨rfl, by decide, by decide⟩ (fun w h Y => PySem.W.kIn_of Y) ?F LW.good
  case F =>
    intro w mg fa h KX G hmg
    refine' LW.all_mk KX G hmg ?F__law_take ?F__law_picked ?F__law_new_names ?F__law_order ?F__law_pool ?F__law_back ?F__law_deed_by ?F__law_called ?F_backwards ?F_deed_by ?F_is_one_of ?F_is_name ?F_is_whole ?F_is_number ?F_is_what ?F_is_many ?F_is_of_kind ?F_is_deed ?F_look_at_boxes ?F_look_at_hands ?F_look_at ?F_names_by ?F_is_within ?F_order_by ?F_called ?F__law_right ?F__law_deed ?F__law_small ?F_law ?N_all ?N_bool ?N_dict ?N_enumerate ?N_int ?N_isinstance ?N_len ?N_list ?N_max ?N_min ?N_range ?N_repr ?N_set ?N_sorted ?N_str ?N_sum ?N_tuple ?N_zip ?G_LETTERS ?G_LONGEST ?G_MOST_BOXES ?G_MOST_DEEDS ?G_MOST_HANDS ?G_MOST_NUMBER ?G_MOST_SKIPPED ?G_MOST_TOGETHER ?T_FORMS ?T_KINDS ?T_WORDS ?N_ValueError ?BI_ValueError ?Y_NoNames ?Y_NoProgram
    case N_ValueError => exact ⟨by k_is⟩
    case BI_ValueError => exact ⟨by k_is⟩
    case Y_NoNames => (refine' DL.HasE0.by_ PySem.F.excBase_ValueError PySem.F.store_ValueError ?a ?l ?hb ?sa ?ex ?ty ?kp ?hd ?i ?ti ?lf ?cf ?kf ?hno; (case a => k_is); (case l => k_is); (case hb => rfl); (case sa => k_is); (case ex => k_is); (case ty => k_is); (case kp => k_is); (case hd => k_is); (case i => k_is); (case ti => k_is); (case lf => k_is); (case cf => k_is); (case kf => k_is); (case hno => exact (DL.mem_cons (by k_is) DL.mem_nil)))
    case Y_NoProgram => (refine' DL.HasE0.by_ PySem.F.excBase_ValueError PySem.F.store_ValueError ?a ?l ?hb ?sa ?ex ?ty ?kp ?hd ?i ?ti ?lf ?cf ?kf ?hno; (case a => k_is); (case l => k_is); (case hb => rfl); (case sa => k_is); (case ex => k_is); (case ty => k_is); (case kp => k_is); (case hd => k_is); (case i => k_is); (case ti => k_is); (case lf => k_is); (case cf => k_is); (case kf => k_is); (case hno => exact (DL.mem_cons (by k_is) (DL.mem_cons (by k_is) (DL.mem_cons (by k_is) DL.mem_nil)))))
    case F__law_take => (refine' DL.HasFn.by_ ?a ?l ?c ?k; (case a => k_is); (case l => k_is); (case c => k_is); (case k => k_is))
    case F__law_picked => (refine' DL.HasFn.by_ ?a ?l ?c ?k; (case a => k_is); (case l => k_is); (case c => k_is); (case k => k_is))
    case F__law_new_names => (refine' DL.HasFn.by_ ?a ?l ?c ?k; (case a => k_is); (case l => k_is); (case c => k_is); (case k => k_is))
    case F__law_order => (refine' DL.HasFn.by_ ?a ?l ?c ?k; (case a => k_is); (case l => k_is); (case c => k_is); (case k => k_is))
    case F__law_pool => (refine' DL.HasFn.by_ ?a ?l ?c ?k; (case a => k_is); (case l => k_is); (case c => k_is); (case k => k_is))
    case F__law_back => (refine' DL.HasFn.by_ ?a ?l ?c ?k; (case a => k_is); (case l => k_is); (case c => k_is); (case k => k_is))
    case F__law_deed_by => (refine' DL.HasFn.by_ ?a ?l ?c ?k; (case a => k_is); (case l => k_is); (case c => k_is); (case k => k_is))
    case F__law_called => (refine' DL.HasFn.by_ ?a ?l ?c ?k; (case a => k_is); (case l => k_is); (case c => k_is); (case k => k_is))
    case F_backwards => (refine' DL.HasFn.by_ ?a ?l ?c ?k; (case a => k_is); (case l => k_is); (case c => k_is); (case k => k_is))
    case F_deed_by => (refine' DL.HasFn.by_ ?a ?l ?c ?k; (case a => k_is); (case l => k_is); (case c => k_is); (case k => k_is))
    case F_is_one_of => (refine' DL.HasFn.by_ ?a ?l ?c ?k; (case a => k_is); (case l => k_is); (case c => k_is); (case k => k_is))
    case F_is_name => (refine' DL.HasFn.by_ ?a ?l ?c ?k; (case a => k_is); (case l => k_is); (case c => k_is); (case k => k_is))
    case F_is_whole => (refine' DL.HasFn.by_ ?a ?l ?c ?k; (case a => k_is); (case l => k_is); (case c => k_is); (case k => k_is))
    case F_is_number => (refine' DL.HasFn.by_ ?a ?l ?c ?k; (case a => k_is); (case l => k_is); (case c => k_is); (case k => k_is))
    case F_is_what => (refine' DL.HasFn.by_ ?a ?l ?c ?k; (case a => k_is); (case l => k_is); (case c => k_is); (case k => k_is))
    case F_is_many => (refine' DL.HasFn.by_ ?a ?l ?c ?k; (case a => k_is); (case l => k_is); (case c => k_is); (case k => k_is))
    case F_is_of_kind => (refine' DL.HasFn.by_ ?a ?l ?c ?k; (case a => k_is); (case l => k_is); (case c => k_is); (case k => k_is))
    case F_is_deed => (refine' DL.HasFn.by_ ?a ?l ?c ?k; (case a => k_is); (case l => k_is); (case c => k_is); (case k => k_is))
    case F_look_at_boxes => (refine' DL.HasFn.by_ ?a ?l ?c ?k; (case a => k_is); (case l => k_is); (case c => k_is); (case k => k_is))
    case F_look_at_hands => (refine' DL.HasFn.by_ ?a ?l ?c ?k; (case a => k_is); (case l => k_is); (case c => k_is); (case k => k_is))
    case F_look_at => (refine' DL.HasFn.by_ ?a ?l ?c ?k; (case a => k_is); (case l => k_is); (case c => k_is); (case k => k_is))
    case F_names_by => (refine' DL.HasFn.by_ ?a ?l ?c ?k; (case a => k_is); (case l => k_is); (case c => k_is); (case k => k_is))
    case F_is_within => (refine' DL.HasFn.by_ ?a ?l ?c ?k; (case a => k_is); (case l => k_is); (case c => k_is); (case k => k_is))
    case F_order_by => (refine' DL.HasFn.by_ ?a ?l ?c ?k; (case a => k_is); (case l => k_is); (case c => k_is); (case k => k_is))
    case F_called => (refine' DL.HasFnK.by_ ?a ?l ?c ?k ?h; (case a => k_is); (case l => k_is); (case c => k_is); (case k => k_is); (case h => exact (DL.mem_cons ⟨_, by k_is, rfl⟩ (DL.mem_cons ⟨_, by k_is, rfl⟩ DL.mem_nil))))
    case F__law_right => (refine' DL.HasFn.by_ ?a ?l ?c ?k; (case a => k_is); (case l => k_is); (case c => k_is); (case k => k_is))
    case F__law_deed => (refine' DL.HasFn.by_ ?a ?l ?c ?k; (case a => k_is); (case l => k_is); (case c => k_is); (case k => k_is))
    case F__law_small => (refine' DL.HasFn.by_ ?a ?l ?c ?k; (case a => k_is); (case l => k_is); (case c => k_is); (case k => k_is))
    case F_law => (refine' DL.HasFn.by_ ?a ?l ?c ?k; (case a => k_is); (case l => k_is); (case c => k_is); (case k => k_is))
    case N_all => exact ⟨by k_is⟩
    case N_bool => exact ⟨by k_is⟩
    case N_dict => exact ⟨by k_is⟩
    case N_enumerate => exact ⟨by k_is⟩
    case N_int => exact ⟨by k_is⟩
    case N_isinstance => exact ⟨by k_is⟩
    case N_len => exact ⟨by k_is⟩
    case N_list => exact ⟨by k_is⟩
    case N_max => exact ⟨by k_is⟩
    case N_min => exact ⟨by k_is⟩
    case N_range => exact ⟨by k_is⟩
    case N_repr => exact ⟨by k_is⟩
    case N_set => exact ⟨by k_is⟩
    case N_sorted => exact ⟨by k_is⟩
    case N_str => exact ⟨by k_is⟩
    case N_sum => exact ⟨by k_is⟩
    case N_tuple => exact ⟨by k_is⟩
    case N_zip => exact ⟨by k_is⟩
    case G_LETTERS => (refine' DL.HasD.kd ?a ?b; (case a => k_is); (case b => exact (.str _ _)))
    case G_LONGEST => (refine' DL.HasD.kd ?a ?b; (case a => k_is); (case b => exact (.int _ _)))
    case G_MOST_BOXES => (refine' DL.HasD.kd ?a ?b; (case a => k_is); (case b => exact (.int _ _)))
    case G_MOST_DEEDS => (refine' DL.HasD.kd ?a ?b; (case a => k_is); (case b => exact (.int _ _)))
    case G_MOST_HANDS => (refine' DL.HasD.kd ?a ?b; (case a => k_is); (case b => exact (.int _ _)))
    case G_MOST_NUMBER => (refine' DL.HasD.kd ?a ?b; (case a => k_is); (case b => exact (.int _ _)))
    case G_MOST_SKIPPED => (refine' DL.HasD.kd ?a ?b; (case a => k_is); (case b => exact (.int _ _)))
    case G_MOST_TOGETHER => (refine' DL.HasD.kd ?a ?b; (case a => k_is); (case b => exact (.int _ _)))
    case T_FORMS => (refine' DL.HasTab.by_ ?a ?l ?kl ?lo ?t ?z; (case a => k_is); (case l => k_is); (case kl => exact ⟨⟨_, _, rfl, rfl⟩, ⟨_, _, rfl, rfl⟩, ⟨_, _, rfl, rfl⟩, ⟨_, _, rfl, rfl⟩, ⟨_, _, rfl, rfl⟩, ⟨_, _, rfl, rfl⟩, ⟨_, _, rfl, rfl⟩, ⟨_, _, rfl, rfl⟩, ⟨_, _, rfl, rfl⟩, trivial⟩); (case lo => decide); (case t => exact (.consD rfl (.tup (by k_is) (by decide) (.cons (.str _ _) (.cons (.str _ _) (.cons (.str _ _) .nil)))) (.consD rfl (.tup (by k_is) (by decide) (.cons (.str _ _) (.cons (.str _ _) (.cons (.str _ _) .nil)))) (.consD rfl (.tup (by k_is) (by decide) (.cons (.str _ _) (.cons (.str _ _) (.cons (.str _ _) (.cons (.str _ _) (.cons (.str _ _) .nil)))))) (.consD rfl (.tup (by k_is) (by decide) (.cons (.str _ _) (.cons (.str _ _) (.cons (.str _ _) (.cons (.str _ _) (.cons (.str _ _) .nil)))))) (.consD rfl (.tup (by k_is) (by decide) (.cons (.str _ _) (.cons (.str _ _) (.cons (.str _ _) (.cons (.str _ _) .nil))))) (.consD rfl (.tup (by k_is) (by decide) (.cons (.str _ _) (.cons (.str _ _) (.cons (.str _ _) (.cons (.str _ _) (.cons (.str _ _) .nil)))))) (.consD rfl (.tup (by k_is) (by decide) (.cons (.str _ _) .nil)) (.consD rfl (.tup (by k_is) (by decide) (.cons (.str _ _) (.cons (.str _ _) (.cons (.str _ _) (.cons (.str _ _) .nil))))) (.consD rfl (.tup (by k_is) (by decide) (.cons (.str _ _) (.cons (.str _ _) (.cons (.str _ _) .nil)))) .nil)))))))))); (case z => exact (show 9 ≤ sizeLine by decide)))
    case T_KINDS => (refine' DL.HasTab.by_ ?a ?l ?kl ?lo ?t ?z; (case a => k_is); (case l => k_is); (case kl => exact ⟨⟨_, _, rfl, rfl⟩, ⟨_, _, rfl, rfl⟩, ⟨_, _, rfl, rfl⟩, ⟨_, _, rfl, rfl⟩, trivial⟩); (case lo => decide); (case t => exact (.consF rfl rfl (by k_is) (.consF rfl rfl (by k_is) (.consF rfl rfl (by k_is) (.consF rfl rfl (by k_is) .nil))))); (case z => exact (show 4 ≤ sizeLine by decide)))
    case T_WORDS => (refine' DL.HasTab.by_ ?a ?l ?kl ?lo ?t ?z; (case a => k_is); (case l => k_is); (case kl => exact ⟨⟨_, _, rfl, rfl⟩, ⟨_, _, rfl, rfl⟩, ⟨_, _, rfl, rfl⟩, ⟨_, _, rfl, rfl⟩, ⟨_, _, rfl, rfl⟩, ⟨_, _, rfl, rfl⟩, trivial⟩); (case lo => decide); (case t => exact (.consD rfl (.tup (by k_is) (by decide) (.cons (.str _ _) (.cons (.str _ _) (.cons (.str _ _) .nil)))) (.consD rfl (.tup (by k_is) (by decide) (.cons (.str _ _) (.cons (.str _ _) (.cons (.str _ _) .nil)))) (.consD rfl (.tup (by k_is) (by decide) (.cons (.str _ _) (.cons (.str _ _) (.cons (.str _ _) (.cons (.str _ _) .nil))))) (.consD rfl (.tup (by k_is) (by decide) (.cons (.str _ _) (.cons (.str _ _) (.cons (.str _ _) .nil)))) (.consD rfl (.tup (by k_is) (by decide) (.cons (.str _ _) (.cons (.str _ _) .nil))) (.consD rfl (.tup (by k_is) (by decide) (.cons (.str _ _) (.cons (.str _ _) .nil))) .nil))))))); (case z => exact (show 6 ≤ sizeLine by decide)))
