import PyProof.Rows.All
import Wide.All
import OpenK.AllK
import Wide.FinOn
import HandS.ForMost
import HandS.Walk
import HandS.Lambda
import HandS.ExcInit
import HandS.Conv
import HandS.Property
import HandS.SortKw
import KE.SortKeyHeap
import KE.SortData
import HandS.Words
import HandS.EndTab
import PyProof.ReprRoads
import HandS.IsInst
import HandS.RaiseMore
import PyProof.ReprBulk
import PyProof.Rows.ReprShort
import HandS.Style
import HandS.Text
import PyProof.StrOps2
import HandS.ExcValue
import KE.KTryMore
import KE.KExcInit
import KE.KExcLine
import HandS.ExcIs
import HandS.ExcField
import HandS.WordsExc
import HandS.Defaults
import HandS.GenYield
import PyProof.Rows.TupIter
import HandS.TupSets
import KE.KSortTupG
import HandS.DictComp
import KE.KDictSum
import HandS.ExcOwn
import HandS.SlotsOwn
import HandS.Replace
import PyProof.StrLawsOcc
import PySem.Challenge.RW_wordfit_k02_samples_returned
import HandS.TupAny
set_option Elab.async false
set_option linter.all false
set_option maxRecDepth 100000
set_option maxHeartbeats 1000000
/-! Wf: a layer of one's own over HandS: expressions and statements by DATA. A value stands for a datum (Tr); what is being built or changed lies at owned places (M). -/
namespace Wf
open PySem PySem.Spec PyProof.Rows L2 LamX

/-! ### data -/
inductive Tr where
  | non
  | bl (b : Bool)
  | int (i : Int)
  | str (x : Str)
  | lst (xs : List Tr)
  | tup (xs : List Tr)
  | dct (es : List (Key × Tr))
  | ins (C : Addr) (fs : List (Str × Tr))
  | exc (C : Addr) (fs : List (Str × Tr))
  | opq (v : V)
/-- an exception of the program's class C, made or caught; d: its dict -/
def exv (a C : Addr) (d : Option Addr) : HO := .ext fun h => ∃ (oe : Obj) (vs : Array Value), h.get? a = some oe ∧ Zc (.ref C) d oe ∧ oe.data = .fields vs
theorem exv_ok {P : Program} {w : World} {H : Hp} {h : Heap} {a C : Addr} {d : Option Addr} {oe : Obj} {vs : Array Value} (e : h.get? a = some oe) (z : Zc (.ref C) d oe) (f : oe.data = .fields vs) : ObjOk P w H h a (exv a C d) :=
  ⟨⟨oe, vs, e, z, f⟩, ⟨oe, e⟩, fun _ _ ⟨o, v, q, r⟩ k => ⟨o, v, k o q, r⟩⟩

mutual
inductive Dt (K : PySem.W.Frag) (I : Hp) : V → Tr → Prop
  | non : Dt K I .non .non
  | bl (b : Bool) : Dt K I (.bl b) (.bl b)
  | int (i : Int) : Dt K I (.int i) (.int i)
  | str (x : Str) : Dt K I (.str x) (.str x)
  | lst {a : Addr} {xs : List V} {ts : List Tr} : SqL K I a xs → Dts K I xs ts → Dt K I (.ref a) (.lst ts)
  | tup {a : Addr} {xs : List V} {ts : List Tr} : SqT K I a xs → Dts K I xs ts → Dt K I (.ref a) (.tup ts)
  | dct {a : Addr} {kvs : List (Key × V)} {es : List (Key × Tr)} : Rd I a (.dK kvs) → Dkv K I kvs es → Dt K I (.ref a) (.dct es)
  | ins {a C dx : Addr} {fs : List (Str × V)} {es : List (Str × Tr)} : I a = some (.ins C dx fs) → Dfs K I fs es → Dt K I (.ref a) (.ins C es)
  | exc0 {a C : Addr} : I a = some (exv a C none) → Dt K I (.ref a) (.exc C [])
  | exc {a C d : Addr} {fs : List (Str × V)} {es : List (Str × Tr)} : I a = some (exv a C (some d)) → I d = some (.xd fs) → Dfs K I fs es → Dt K I (.ref a) (.exc C es)
  | opq (v : V) : Dt K I v (.opq v)
inductive Dts (K : PySem.W.Frag) (I : Hp) : List V → List Tr → Prop
  | nil : Dts K I [] []
  | cons {v : V} {vs : List V} {t : Tr} {ts : List Tr} : Dt K I v t → Dts K I vs ts → Dts K I (v :: vs) (t :: ts)
inductive Dkv (K : PySem.W.Frag) (I : Hp) : List (Key × V) → List (Key × Tr) → Prop
  | nil : Dkv K I [] []
  | cons {k : Key} {v : V} {vs : List (Key × V)} {t : Tr} {ts : List (Key × Tr)} : Dt K I v t → Dkv K I vs ts → Dkv K I ((k, v) :: vs) ((k, t) :: ts)
inductive Dfs (K : PySem.W.Frag) (I : Hp) : List (Str × V) → List (Str × Tr) → Prop
  | nil : Dfs K I [] []
  | cons {k : Str} {v : V} {vs : List (Str × V)} {t : Tr} {ts : List (Str × Tr)} : Dt K I v t → Dfs K I vs ts → Dfs K I ((k, v) :: vs) ((k, t) :: ts)
end

/-- not a code object's table -/
def NT (o : HO) : Prop := ∀ ps, o ≠ .tbl ps
def Sub (I I' : Hp) : Prop := ∀ b o, NT o → I b = some o → I' b = some o
theorem Sub.refl (I : Hp) : Sub I I := fun _ _ _ h => h
theorem Sub.trans {I J L : Hp} (a : Sub I J) (b : Sub J L) : Sub I L := fun x o n h => b x o n (a x o n h)
theorem Sub.of {H H' : Hp} (s : Same H H') : Sub H H' := fun b o _ h => s b o h
theorem nt_lst {xs : List V} : NT (.lst xs) := fun _ h => nomatch h
theorem nt_tup {xs : List V} : NT (.tup xs) := fun _ h => nomatch h
theorem nt_dK {xs : List (Key × V)} : NT (.dK xs) := fun _ h => nomatch h
theorem nt_ins {C d : Addr} {fs : List (Str × V)} : NT (.ins C d fs) := fun _ h => nomatch h
theorem nt_exv {a C : Addr} {d : Option Addr} : NT (exv a C d) := fun _ h => nomatch h
theorem nt_xd {fs : List (Str × V)} : NT (.xd fs) := fun _ h => nomatch h
theorem nt_frz {o : Obj} {u : HO} : NT (.frz o u) := fun _ h => nomatch h
theorem sub_seqL {K : PySem.W.Frag} {I I' : Hp} (s : Sub I I') {a : Addr} {xs : List V} (h : SqL K I a xs) : SqL K I' a xs := by
  rcases h with (h | ⟨o, h⟩) | h
  · exact .inl (.inl (s _ _ nt_lst h))
  · exact .inl (.inr ⟨o, s _ _ nt_frz h⟩)
  · exact .inr h
theorem sub_seqT {K : PySem.W.Frag} {I I' : Hp} (s : Sub I I') {a : Addr} {xs : List V} (h : SqT K I a xs) : SqT K I' a xs := by
  rcases h with (h | ⟨o, h⟩) | h
  · exact .inl (.inl (s _ _ nt_tup h))
  · exact .inl (.inr ⟨o, s _ _ nt_frz h⟩)
  · exact .inr h
theorem sub_rdK {I I' : Hp} (s : Sub I I') {a : Addr} {xs : List (Key × V)} (h : Rd I a (.dK xs)) : Rd I' a (.dK xs) := by
  rcases h with h | ⟨o, h⟩
  · exact .inl (s _ _ nt_dK h)
  · exact .inr ⟨o, s _ _ nt_frz h⟩
mutual
theorem Dt.mono {K : PySem.W.Frag} {I I' : Hp} (s : Sub I I') : ∀ {v : V} {t : Tr}, Dt K I v t → Dt K I' v t
  | _, _, .non => .non
  | _, _, .bl b => .bl b
  | _, _, .int i => .int i
  | _, _, .str x => .str x
  | _, _, .lst h q => .lst (sub_seqL s h) (Dts.mono s q)
  | _, _, .tup h q => .tup (sub_seqT s h) (Dts.mono s q)
  | _, _, .dct h q => .dct (sub_rdK s h) (Dkv.mono s q)
  | _, _, .ins h q => .ins (s _ _ nt_ins h) (Dfs.mono s q)
  | _, _, .exc0 h => .exc0 (s _ _ nt_exv h)
  | _, _, .exc h g q => .exc (s _ _ nt_exv h) (s _ _ nt_xd g) (Dfs.mono s q)
  | _, _, .opq v => .opq v
theorem Dts.mono {K : PySem.W.Frag} {I I' : Hp} (s : Sub I I') : ∀ {v : List V} {t : List Tr}, Dts K I v t → Dts K I' v t
  | _, _, .nil => .nil
  | _, _, .cons h q => .cons (Dt.mono s h) (Dts.mono s q)
theorem Dkv.mono {K : PySem.W.Frag} {I I' : Hp} (s : Sub I I') : ∀ {v : List (Key × V)} {t : List (Key × Tr)}, Dkv K I v t → Dkv K I' v t
  | _, _, .nil => .nil
  | _, _, .cons h q => .cons (Dt.mono s h) (Dkv.mono s q)
theorem Dfs.mono {K : PySem.W.Frag} {I I' : Hp} (s : Sub I I') : ∀ {v : List (Str × V)} {t : List (Str × Tr)}, Dfs K I v t → Dfs K I' v t
  | _, _, .nil => .nil
  | _, _, .cons h q => .cons (Dt.mono s h) (Dfs.mono s q)
end
theorem Dts.length {K : PySem.W.Frag} {I : Hp} : ∀ {vs : List V} {ts : List Tr}, Dts K I vs ts → vs.length = ts.length
  | _, _, .nil => rfl
  | _, _, .cons _ q => congrArg (· + 1) (Dts.length q)
theorem Dts.get {K : PySem.W.Frag} {I : Hp} : ∀ {vs : List V} {ts : List Tr} {i : Nat} {t : Tr}, Dts K I vs ts → ts[i]? = some t → ∃ v, vs[i]? = some v ∧ Dt K I v t
  | _, _, _, _, .nil, h => by simp at h
  | _, _, 0, _, .cons h q, e => by simp at e; subst e; exact ⟨_, rfl, h⟩
  | _, _, i + 1, _, .cons h q, e => by simpa using Dts.get (i := i) q (by simpa using e)
theorem Dts.getV {K : PySem.W.Frag} {I : Hp} : ∀ {vs : List V} {ts : List Tr} {i : Nat} {v : V}, Dts K I vs ts → vs[i]? = some v → ∃ t, ts[i]? = some t ∧ Dt K I v t
  | _, _, _, _, .nil, h => by simp at h
  | _, _, 0, _, .cons h q, e => by simp at e; subst e; exact ⟨_, rfl, h⟩
  | _, _, i + 1, _, .cons h q, e => by simpa using Dts.getV (i := i) q (by simpa using e)
theorem Dts.append {K : PySem.W.Frag} {I : Hp} : ∀ {vs ws : List V} {ts us : List Tr}, Dts K I vs ts → Dts K I ws us → Dts K I (vs ++ ws) (ts ++ us)
  | _, _, _, _, .nil, q => q
  | _, _, _, _, .cons h r, q => .cons h (Dts.append r q)
theorem Dts.take {K : PySem.W.Frag} {I : Hp} : ∀ {vs : List V} {ts : List Tr} (n : Nat), Dts K I vs ts → Dts K I (vs.take n) (ts.take n)
  | _, _, 0, _ => .nil
  | _, _, _ + 1, .nil => .nil
  | _, _, n + 1, .cons h r => .cons h (Dts.take n r)
theorem Dts.drop {K : PySem.W.Frag} {I : Hp} : ∀ {vs : List V} {ts : List Tr} (n : Nat), Dts K I vs ts → Dts K I (vs.drop n) (ts.drop n)
  | _, _, 0, q => q
  | _, _, _ + 1, .nil => .nil
  | _, _, n + 1, .cons h r => Dts.drop n r
theorem Dts.erase {K : PySem.W.Frag} {I : Hp} : ∀ {vs : List V} {ts : List Tr} (n : Nat), Dts K I vs ts → Dts K I (vs.eraseIdx n) (ts.eraseIdx n)
  | _, _, _, .nil => .nil
  | _, _, 0, .cons h r => r
  | _, _, n + 1, .cons h r => .cons h (Dts.erase n r)
theorem Dts.set {K : PySem.W.Frag} {I : Hp} {v : V} {t : Tr} (h0 : Dt K I v t) : ∀ {vs : List V} {ts : List Tr} (n : Nat), Dts K I vs ts → Dts K I (vs.set n v) (ts.set n t)
  | _, _, _, .nil => .nil
  | _, _, 0, .cons h r => .cons h0 r
  | _, _, n + 1, .cons h r => .cons h (Dts.set h0 n r)
theorem dts_ints {K : PySem.W.Frag} {I : Hp} : ∀ (ns : List Int), Dts K I (ns.map V.int) (ns.map Tr.int)
  | [] => .nil
  | n :: ns => .cons (.int n) (dts_ints ns)
theorem dts_strs {K : PySem.W.Frag} {I : Hp} : ∀ (ns : List Str), Dts K I (ns.map V.str) (ns.map Tr.str)
  | [] => .nil
  | n :: ns => .cons (.str n) (dts_strs ns)
theorem of_ints {K : PySem.W.Frag} {I : Hp} : ∀ (ns : List Int) {vs : List V}, Dts K I vs (ns.map Tr.int) → vs = ns.map V.int
  | [], _, .nil => rfl
  | n :: ns, _, .cons h q => by
    cases h
    rw [of_ints ns q]; rfl
theorem of_strs {K : PySem.W.Frag} {I : Hp} : ∀ (ns : List Str) {vs : List V}, Dts K I vs (ns.map Tr.str) → vs = ns.map V.str
  | [], _, .nil => rfl
  | n :: ns, _, .cons h q => by
    cases h
    rw [of_strs ns q]; rfl
theorem of_bls {K : PySem.W.Frag} {I : Hp} : ∀ (ns : List Bool) {vs : List V}, Dts K I vs (ns.map Tr.bl) → vs = ns.map V.bl
  | [], _, .nil => rfl
  | n :: ns, _, .cons h q => by
    cases h
    rw [of_bls ns q]; rfl

/-! ### the part of a heap that stands still -/
open Classical in
noncomputable def mi (M : Addr → Prop) (H : Hp) : Hp := fun b => if M b then none else H b
theorem mi_some {M : Addr → Prop} {H : Hp} {b : Addr} {o : HO} : mi M H b = some o ↔ ¬ M b ∧ H b = some o := by
  unfold mi
  by_cases h : M b
  · rw [if_pos h]
    exact ⟨fun z => (nomatch z), fun z => absurd h z.1⟩
  · rw [if_neg h]
    exact ⟨fun z => ⟨h, z⟩, fun z => z.2⟩
theorem mi_of {M : Addr → Prop} {H : Hp} {b : Addr} {o : HO} (h : ¬ M b) (e : H b = some o) : mi M H b = some o := mi_some.mpr ⟨h, e⟩
theorem Sub.mi {M : Addr → Prop} {H H' : Hp} (s : Sub H H') : Sub (mi M H) (mi M H') := fun b o n h =>
  have q := mi_some.mp h
  mi_of q.1 (s b o n q.2)
theorem mi_le {M M' : Addr → Prop} {H : Hp} (h : ∀ b, M' b → M b) : Sub (mi M H) (mi M' H) := fun b o _ q =>
  have q := mi_some.mp q
  mi_of (fun z => q.1 (h b z)) q.2
theorem mi_sub {M : Addr → Prop} {H : Hp} : Sub (Wf.mi M H) H := fun _ _ _ h => (mi_some.mp h).2
theorem mi_write {M : Addr → Prop} {H : Hp} {l : Addr} {o : HO} (h : M l) : Sub (mi M H) (mi M (upd H l o)) := fun b u _ q =>
  have q := mi_some.mp q
  mi_of q.1 (by rw [upd_ne (fun z => q.1 (by rw [z]; exact h))]; exact q.2)
theorem sub_new {H : Hp} {l : Addr} {o : HO} (h : H l = none) : Sub H (upd H l o) := fun b u _ q => by
  rw [upd_ne (ne_of_none q h)]; exact q

/-! ### places: owned ones, pens among them -/
structure Pl where
  m : Addr → Prop
  w : Addr → Prop
def ins (M : Pl) (l : Addr) : Pl := ⟨fun b => M.m b ∨ b = l, M.w⟩
/-- all but the pens stays; tables stay tables -/
structure Fe (w : Addr → Prop) (H H' : Hp) : Prop where
  k : ∀ b o, ¬ w b → NT o → H b = some o → H' b = some o
  t : ∀ b ps, H b = some (.tbl ps) → ∃ qs, H' b = some (.tbl qs)
theorem Fe.refl (w : Addr → Prop) (H : Hp) : Fe w H H := ⟨fun _ _ _ _ h => h, fun _ ps h => ⟨ps, h⟩⟩
theorem Fe.trans {w : Addr → Prop} {H H1 H2 : Hp} (a : Fe w H H1) (b : Fe w H1 H2) : Fe w H H2 :=
  ⟨fun x o p n h => b.k x o p n (a.k x o p n h), fun x ps h => let ⟨qs, h1⟩ := a.t x ps h; b.t x qs h1⟩
theorem Fe.same {w : Addr → Prop} {H H' : Hp} (s : Same H H') : Fe w H H' := ⟨fun b o _ _ h => s b o h, fun b ps h => ⟨ps, s b _ h⟩⟩
theorem Fe.imp {w w' : Addr → Prop} {H H' : Hp} (f : Fe w H H') (h : ∀ b o, NT o → w b → H b = some o → w' b) : Fe w' H H' :=
  ⟨fun b o p n e => f.k b o (fun z => p (h b o n z e)) n e, f.t⟩
theorem Fe.free {w : Addr → Prop} {H H' : Hp} (f : Fe w H H') (al : ∀ b, w b → ∃ o, H' b = some o) {p : Addr} (h : H' p = none) : H p = none := by
  cases e : H p with
  | none => rfl
  | some o =>
    by_cases q : w p
    · obtain ⟨o', e'⟩ := al p q
      rw [h] at e'; cases e'
    · by_cases n : NT o
      · rw [f.k p o q n e] at h; cases h
      · exfalso
        refine n fun ps z => ?_
        subst z
        obtain ⟨qs, e'⟩ := f.t p ps e
        rw [h] at e'; cases e'

/-! ### what is known of a slot -/
/-- a pen: its dict, its list of cells -/
structure Pn where
  l : Addr
  a : Addr
  cs : List Int
/-- at most N cells are drawn -/
def PenAt (K : PySem.W.Frag) (I H : Hp) (p : Pn) (N : Nat) : Prop :=
  ∃ (sp mo : Int), H p.l = some (.dK [(.inr "cells", .ref p.a), (.inr "spot", .int sp), (.inr "more", .int mo)]) ∧ SqL K I p.a (p.cs.map V.int) ∧ p.cs.length ≤ 63 ∧ 0 ≤ sp ∧ sp ≤ N ∧ 0 ≤ mo
theorem PenAt.mono {K : PySem.W.Frag} {I I' H H' : Hp} {p : Pn} {N : Nat} (s : Sub I I') (e : ∀ o, NT o → H p.l = some o → H' p.l = some o) (h : PenAt K I H p N) : PenAt K I' H' p N := by
  obtain ⟨sp, mo, h1, h2, r⟩ := h
  exact ⟨sp, mo, e _ nt_dK h1, sub_seqL s h2, r⟩
theorem PenAt.le {K : PySem.W.Frag} {I H : Hp} {p : Pn} {N N' : Nat} (q : N ≤ N') (h : PenAt K I H p N) : PenAt K I H p N' := by
  obtain ⟨sp, mo, h1, h2, h3, h4, h5, h6⟩ := h
  exact ⟨sp, mo, h1, h2, h3, h4, by omega, h6⟩
/-- an owned list, dict or instance at l: its parts stand still -/
def Ow (K : PySem.W.Frag) (I H : Hp) (l : Addr) : Tr → Prop
  | .lst ts => ∃ xs, H l = some (.lst xs) ∧ Dts K I xs ts
  | .dct es => ∃ kvs, H l = some (.dK kvs) ∧ Dkv K I kvs es
  | .ins C es => ∃ dx fs, H l = some (.ins C dx fs) ∧ Dfs K I fs es
  | _ => False
theorem Ow.mono {K : PySem.W.Frag} {I I' H H' : Hp} {l : Addr} (s : Sub I I') (e : ∀ o, NT o → H l = some o → H' l = some o) : ∀ {t : Tr}, Ow K I H l t → Ow K I' H' l t
  | .lst _, ⟨xs, h, q⟩ => ⟨xs, e _ nt_lst h, q.mono s⟩
  | .dct _, ⟨xs, h, q⟩ => ⟨xs, e _ nt_dK h, q.mono s⟩
  | .ins _ _, ⟨dx, xs, h, q⟩ => ⟨dx, xs, e _ nt_ins h, q.mono s⟩
  | .non, h => h.elim
  | .bl _, h => h.elim
  | .int _, h => h.elim
  | .str _, h => h.elim
  | .tup _, h => h.elim
  | .exc _ _, h => h.elim
  | .opq _, h => h.elim
theorem Ow.dt {K : PySem.W.Frag} {I H : Hp} {l : Addr} (e : ∀ o, NT o → H l = some o → I l = some o) : ∀ {t : Tr}, Ow K I H l t → Dt K I (.ref l) t
  | .lst _, ⟨xs, h, q⟩ => .lst (SqL.of (e _ nt_lst h)) q
  | .dct _, ⟨xs, h, q⟩ => .dct (.inl (e _ nt_dK h)) q
  | .ins _ _, ⟨dx, xs, h, q⟩ => .ins (e _ nt_ins h) q
  | .non, h => h.elim
  | .bl _, h => h.elim
  | .int _, h => h.elim
  | .str _, h => h.elim
  | .tup _, h => h.elim
  | .exc _ _, h => h.elim
  | .opq _, h => h.elim
inductive En where
  | any
  | dat (t : Tr)
  | own (l : Addr) (t : Tr)
  | pen (p : Pn) (N : Nat)
  | tab (l : Addr) (as : List Addr) (rs : List (List Tr))
/-- the owned places of a slot -/
def En.has : En → Addr → Prop
  | .own l _, a => l = a
  | .pen p _, a => p.l = a
  | .tab l as _, a => a ∈ l :: as
  | _, _ => False
/-- owned lists at as -/
inductive Rws (K : PySem.W.Frag) (I H : Hp) : List Addr → List (List Tr) → Prop
  | nil : Rws K I H [] []
  | cons {a : Addr} {as : List Addr} {ts : List Tr} {rs : List (List Tr)} : (∃ xs, H a = some (.lst xs) ∧ Dts K I xs ts) → Rws K I H as rs → Rws K I H (a :: as) (ts :: rs)
theorem Rws.mono {K : PySem.W.Frag} {I I' H H' : Hp} (s : Sub I I') : ∀ {as : List Addr} {rs : List (List Tr)}, (∀ b ∈ as, ∀ o, NT o → H b = some o → H' b = some o) → Rws K I H as rs → Rws K I' H' as rs
  | _, _, _, .nil => .nil
  | _, _, e, .cons ⟨xs, h, q⟩ r => .cons ⟨xs, e _ List.mem_cons_self _ nt_lst h, q.mono s⟩ (Rws.mono s (fun b hb => e b (List.mem_cons_of_mem _ hb)) r)
theorem Rws.kind {K : PySem.W.Frag} {I H : Hp} : ∀ {as : List Addr} {rs : List (List Tr)}, Rws K I H as rs → ∀ b ∈ as, ∃ xs, H b = some (.lst xs)
  | _, _, .cons ⟨xs, h, _⟩ r, b, hb => (List.mem_cons.mp hb).elim (fun e => ⟨xs, by rw [e]; exact h⟩) fun z => r.kind b z
/-- an owned list of owned lists -/
def Tb (K : PySem.W.Frag) (I H : Hp) (l : Addr) (as : List Addr) (rs : List (List Tr)) : Prop := H l = some (.lst (as.map V.ref)) ∧ Rws K I H as rs
theorem Tb.mono {K : PySem.W.Frag} {I I' H H' : Hp} {l : Addr} {as : List Addr} {rs : List (List Tr)} (s : Sub I I') (e : ∀ b ∈ l :: as, ∀ o, NT o → H b = some o → H' b = some o) (h : Tb K I H l as rs) : Tb K I' H' l as rs :=
  ⟨e l List.mem_cons_self _ nt_lst h.1, h.2.mono s fun b hb => e b (List.mem_cons_of_mem _ hb)⟩
theorem Tb.kind {K : PySem.W.Frag} {I H : Hp} {l : Addr} {as : List Addr} {rs : List (List Tr)} (h : Tb K I H l as rs) : ∀ b ∈ l :: as, ∃ xs, H b = some (.lst xs) := fun b hb =>
  (List.mem_cons.mp hb).elim (fun e => ⟨as.map V.ref, by rw [e]; exact h.1⟩) fun z => h.2.kind b z
/-- what stays through a def: the tables, what may change (the pen), the heap and the owned places at the entry -/
structure Bs where
  T : List (Addr × Str)
  P : Addr → Prop
  H0 : Hp
  M0 : Addr → Prop
def EnOk (K : PySem.W.Frag) (B : Bs) (M : Pl) (H : Hp) : Option V → En → Prop
  | _, .any => True
  | some v, .dat t => Dt K (mi M.m H) v t
  | some v, .own l t => v = .ref l ∧ M.m l ∧ ¬ B.M0 l ∧ ¬ M.w l ∧ Ow K (mi M.m H) H l t
  | some v, .pen p N => v = .ref p.l ∧ M.w p.l ∧ PenAt K (mi M.m H) H p N
  | some v, .tab l as rs => v = .ref l ∧ (l :: as).Nodup ∧ (∀ b ∈ l :: as, M.m b ∧ ¬ B.M0 b ∧ ¬ M.w b) ∧ Tb K (mi M.m H) H l as rs
  | none, _ => False
structure Sk (K : PySem.W.Frag) (B : Bs) (M : Pl) (H : Hp) (σ : L2.St) (Δ : List En) : Prop where
  len : σ.length = Δ.length
  al : ∀ b, M.m b → ∃ o, H b = some o
  wm : ∀ b, M.w b → M.m b
  m0 : ∀ b, B.M0 b → M.m b
  pm : ∀ b, B.P b → B.M0 b
  own : ∀ b, M.m b → B.M0 b ∨ B.H0 b = none
  wp : ∀ b, M.w b → B.P b ∨ B.H0 b = none
  fr : Fe B.P B.H0 H
  tb : Tabs B.T H
  dis : ∀ (i j : Nat) (e f : En) (l : Addr), Δ[i]? = some e → Δ[j]? = some f → e.has l → f.has l → i = j
  sl : ∀ (i : Nat) (e : En), Δ[i]? = some e → ∃ o, σ[i]? = some o ∧ EnOk K B M H o e

theorem EnOk.mono {K : PySem.W.Frag} {B : Bs} {M M' : Pl} {H H' : Hp} (hm : ∀ b, M.m b → M'.m b) (hw : ∀ b, M.w b ↔ M'.w b) (s : Sub (mi M.m H) (mi M'.m H')) : ∀ {o : Option V} {e : En}, (∀ l, e.has l → ∀ o, NT o → H l = some o → H' l = some o) → EnOk K B M H o e → EnOk K B M' H' o e
  | _, .any, _, _ => True.intro
  | some v, .dat t, _, h => Dt.mono s h
  | some v, .own l t, k, ⟨e, hl, h0, hq, q⟩ => ⟨e, hm _ hl, h0, fun z => hq ((hw _).mpr z), q.mono s (k l rfl)⟩
  | some v, .pen p N, k, ⟨e, hl, q⟩ => ⟨e, (hw _).mp hl, q.mono s (k p.l rfl)⟩
  | some v, .tab l as rs, k, ⟨e, nd, hb, q⟩ => ⟨e, nd, fun b z => ⟨hm _ (hb b z).1, (hb b z).2.1, fun y => (hb b z).2.2 ((hw _).mpr y)⟩, q.mono s fun b z => k b z⟩
  | none, .dat t, _, h => h.elim
  | none, .own l t, _, h => h.elim
  | none, .pen l N, _, h => h.elim
  | none, .tab l as rs, _, h => h.elim
section
variable {K : PySem.W.Frag} {B : Bs} {M M' : Pl} {H H' : Hp} {σ : L2.St} {Δ : List En}
theorem Sk.sub (h : Sk K B M H σ Δ) (f : Fe M.w H H') : Sub (mi M.m H) (mi M.m H') := fun b o n e =>
  have q := mi_some.mp e
  mi_of q.1 (f.k b o (fun z => q.1 (h.wm b z)) n q.2)
theorem Sk.notM (h : Sk K B M H σ Δ) {p : Addr} (hp : H p = none) : ¬ M.m p := fun z => by
  obtain ⟨o, e⟩ := h.al p z
  rw [hp] at e; cases e
theorem Sk.new0 (h : Sk K B M H σ Δ) {p : Addr} (hp : H p = none) : B.H0 p = none := h.fr.free (fun b z => h.al b (h.m0 b (h.pm b z))) hp
theorem mi_new {H H' : Hp} {l : Addr} (h : H l = none) {σ : L2.St} {Δ : List En} (S : Sk K B M H σ Δ) (f : Fe M.w H H') : Sub (mi M.m H) (mi (ins M l).m H') := fun b u n q =>
  have q := mi_some.mp q
  mi_of (fun z => z.elim q.1 fun e => by rw [e, h] at q; cases q.2) (f.k b u (fun z => q.1 (S.wm b z)) n q.2)
/-- the heap grows, all stays -/
theorem Sk.same (h : Sk K B M H σ Δ) (s : Same H H') : Sk K B M H' σ Δ where
  len := h.len
  al := fun b hb => by
    obtain ⟨o, e⟩ := h.al b hb
    exact ⟨o, s b o e⟩
  wm := h.wm
  m0 := h.m0
  pm := h.pm
  own := h.own
  wp := h.wp
  fr := h.fr.trans (Fe.same s)
  tb := h.tb.ext s
  dis := h.dis
  sl := fun i e q => by
    obtain ⟨o, h1, h2⟩ := h.sl i e q
    exact ⟨o, h1, h2.mono (fun _ z => z) (fun _ => Iff.rfl) (Sub.of s).mi fun l _ o n z => s l o z⟩
theorem same_new {p : Addr} {o : HO} (h : H p = none) : Same H (upd H p o) := fun b u e => by
  rw [upd_ne (ne_of_none e h)]; exact e
theorem Sk.dat (h : Sk K B M H σ Δ) {i : Nat} {t : Tr} (e : Δ[i]? = some (.dat t)) : ∃ v, σ[i]? = some (some v) ∧ Dt K (mi M.m H) v t := by
  obtain ⟨o, h1, h2⟩ := h.sl i _ e
  cases o with
  | none => exact h2.elim
  | some v => exact ⟨v, h1, h2⟩
theorem Sk.ownAt (h : Sk K B M H σ Δ) {i : Nat} {l : Addr} {t : Tr} (e : Δ[i]? = some (.own l t)) : σ[i]? = some (some (.ref l)) ∧ M.m l ∧ ¬ B.M0 l ∧ ¬ M.w l ∧ Ow K (mi M.m H) H l t := by
  obtain ⟨o, h1, h2⟩ := h.sl i _ e
  cases o with
  | none => exact h2.elim
  | some v =>
    obtain ⟨q, r⟩ := h2
    exact ⟨by rw [h1, q], r⟩
theorem Sk.penAt (h : Sk K B M H σ Δ) {i : Nat} {p : Pn} {N : Nat} (e : Δ[i]? = some (.pen p N)) : σ[i]? = some (some (.ref p.l)) ∧ M.w p.l ∧ PenAt K (mi M.m H) H p N := by
  obtain ⟨o, h1, h2⟩ := h.sl i _ e
  cases o with
  | none => exact h2.elim
  | some v =>
    obtain ⟨q, r⟩ := h2
    exact ⟨by rw [h1, q], r⟩
/-- a slot is written: e tells the new value; e's place stands in no other slot -/
theorem Sk.put (h : Sk K B M H σ Δ) (i : Nat) {o : Option V} {e : En} (hv : EnOk K B M H o e) (hn : ∀ l, e.has l → ∀ (j : Nat) (f : En), j ≠ i → Δ[j]? = some f → ¬ f.has l) : Sk K B M H (σ.set i o) (Δ.set i e) where
  len := by rw [List.length_set, List.length_set]; exact h.len
  al := h.al
  wm := h.wm
  m0 := h.m0
  pm := h.pm
  own := h.own
  wp := h.wp
  fr := h.fr
  tb := h.tb
  dis := fun a b e1 f l he hf el fl => by
    by_cases ha : a = i
    · by_cases hb : b = i
      · rw [ha, hb]
      · exfalso
        subst ha
        rw [List.getElem?_set_ne (Ne.symm hb)] at hf
        rw [List.getElem?_set] at he
        split at he
        · split at he
          · cases he
            exact hn l el b f hb hf fl
          · cases he
        · rename_i z; exact z rfl
    · rw [List.getElem?_set_ne (Ne.symm ha)] at he
      by_cases hb : b = i
      · exfalso
        subst hb
        rw [List.getElem?_set] at hf
        split at hf
        · split at hf
          · cases hf
            exact hn l fl a e1 ha he el
          · cases hf
        · rename_i z; exact z rfl
      · rw [List.getElem?_set_ne (Ne.symm hb)] at hf
        exact h.dis a b e1 f l he hf el fl
  sl := fun a e1 he => by
    by_cases ha : a = i
    · subst ha
      by_cases hl : a < Δ.length
      · rw [List.getElem?_set_self hl] at he
        cases he
        exact ⟨o, by rw [List.getElem?_set_self (by rw [h.len]; exact hl)], hv⟩
      · rw [List.getElem?_eq_none (by rw [List.length_set]; omega)] at he
        cases he
    · rw [List.getElem?_set_ne (Ne.symm ha)] at he
      obtain ⟨o1, h1, h2⟩ := h.sl a e1 he
      exact ⟨o1, by rw [List.getElem?_set_ne (Ne.symm ha)]; exact h1, h2⟩
theorem Sk.set (h : Sk K B M H σ Δ) (i : Nat) {v : V} {t : Tr} (hv : Dt K (mi M.m H) v t) : Sk K B M H (σ.set i (some v)) (Δ.set i (.dat t)) := h.put i (e := .dat t) hv fun _ z => False.elim z
theorem Sk.forget (h : Sk K B M H σ Δ) (i : Nat) {o : Option V} : Sk K B M H (σ.set i o) (Δ.set i .any) := h.put i (e := .any) (by cases o <;> exact True.intro) fun _ z => False.elim z
end

/-! ### the weakest readings -/
section
variable (X : Cx)
def WE (e : Expr) : TE := fun σ H Q => ∀ pins s, Inv X pins σ H s → wpAny (model X.prog X.w) X.A (eval e X.env) (EP X pins σ Q) X.xe s
def WT (e : Expr) : TT := fun σ H Q => ∀ pins s, Inv X pins σ H s → wpAny (model X.prog X.w) X.A (isTrue e X.env (eval e X.env)) (TP X pins σ Q) X.xe s
def WA (es : List Expr) : TA := fun σ H Q => ∀ (pos : Pos) pins s, Inv X pins σ H s → wpAny (model X.prog X.w) X.A (spliced (backTo pos (starEach es X.env))) (AP X pins σ Q) X.xe s
def WSs (ss : List Stmt) : TS := fun D σ H => ∀ pins s, Inv X pins σ H s → wpAny (model X.prog X.w) X.A (execs ss X.env) (SP X pins D) X.xe s
def WS (st : Stmt) : TS := fun D σ H => ∀ pins s, Inv X pins σ H s → wpAny (model X.prog X.w) X.A (exec st X.env) (SP X pins D) X.xe s
end
section
variable {X : Cx} {e : Expr} {es : List Expr}
theorem pe_self : PE X e (WE X e) := ⟨fun pins s σ H Q I h => h pins s I⟩
theorem pt_self : PT X e (WT X e) := ⟨fun pins s σ H Q I h => h pins s I⟩
theorem pa_self : PA X es (WA X es) := ⟨fun pos pins s σ H Q I h => h pos pins s I⟩
theorem pss_self {ss : List Stmt} : PSs X ss (WSs X ss) := ⟨fun pins s σ H D I h => h pins s I⟩
theorem ps_self {st : Stmt} : PS X st (WS X st) := ⟨fun pins s σ H D I h => h pins s I⟩
theorem PE.to {te : TE} (h : PE X e te) {σ : L2.St} {H : Hp} {Q : VK} (q : te σ H Q) : WE X e σ H Q := fun pins s I => h.run pins s σ H Q I q
theorem PT.to {te : TT} (h : PT X e te) {σ : L2.St} {H : Hp} {Q : Bool → Hp → Prop} (q : te σ H Q) : WT X e σ H Q := fun pins s I => h.run pins s σ H Q I q
theorem PA.to {te : TA} (h : PA X es te) {σ : L2.St} {H : Hp} {Q : List V → Hp → Prop} (q : te σ H Q) : WA X es σ H Q := fun pos pins s I => h.run pos pins s σ H Q I q
theorem PSs.to {ss : List Stmt} {t : TS} (h : PSs X ss t) {D : Ends} {σ : L2.St} {H : Hp} (q : t D σ H) : WSs X ss D σ H := fun pins s I => h.run pins s σ H D I q
theorem PS.to {st : Stmt} {t : TS} (h : PS X st t) {D : Ends} {σ : L2.St} {H : Hp} (q : t D σ H) : WS X st D σ H := fun pins s I => h.run pins s σ H D I q
end

/-! ### expressions by data -/
section
variable (X : Cx) (B : Bs) (M : Pl) (Δ : List En)
/-- e, wherever the slots are Δ, gives a datum t and slots Δ' as Φ says -/
def EE (e : Expr) (Φ : Tr → List En → Prop) : Prop := ∀ σ H, Sk X.K B M H σ Δ → ∀ Q : VK,
  (∀ t Δ' v H', Φ t Δ' → Fe M.w H H' → Sk X.K B M H' σ Δ' → Dt X.K (mi M.m H') v t → Q v H') → WE X e σ H Q
def ET (e : Expr) (Φ : Bool → List En → Prop) : Prop := ∀ σ H, Sk X.K B M H σ Δ → ∀ Q : Bool → Hp → Prop,
  (∀ b Δ' H', Φ b Δ' → Fe M.w H H' → Sk X.K B M H' σ Δ' → Q b H') → WT X e σ H Q
def EA (es : List Expr) (Φ : List Tr → List En → Prop) : Prop := ∀ σ H, Sk X.K B M H σ Δ → ∀ Q : List V → Hp → Prop,
  (∀ ts Δ' vs H', Φ ts Δ' → Fe M.w H H' → Sk X.K B M H' σ Δ' → Dts X.K (mi M.m H') vs ts → Q vs H') → WA X es σ H Q
/-- e gives a new object that nobody else holds: it becomes an owned place -/
def EO (e : Expr) (Φ : Tr → List En → Prop) : Prop := ∀ σ H, Sk X.K B M H σ Δ → ∀ Q : VK,
  (∀ t Δ' l H', Φ t Δ' → Fe M.w H H' → H l = none → Sk X.K B (ins M l) H' σ Δ' → (∀ e ∈ Δ', ¬ e.has l) → Ow X.K (mi (ins M l).m H') H' l t → Q (.ref l) H') → WE X e σ H Q
end
section
variable {X : Cx} {B : Bs} {M : Pl} {Δ : List En} {e a b : Expr} {es : List Expr} {Φ Φ' : Tr → List En → Prop}
theorem EE.mono (h : EE X B M Δ e Φ) (q : ∀ t Δ', Φ t Δ' → Φ' t Δ') : EE X B M Δ e Φ' := fun σ H S Q k => h σ H S Q fun t Δ' v H' p => k t Δ' v H' (q t Δ' p)
/-- an owned place is given out -/
theorem Sk.freeze {K : PySem.W.Frag} {H : Hp} {σ : L2.St} {l : Addr} (h : Sk K B (ins M l) H σ Δ) (hM : ¬ M.m l) (hw : ∀ b, M.w b → M.m b) (h0 : ¬ B.M0 l) (hn : ∀ e ∈ Δ, ¬ e.has l) : Sk K B M H σ Δ where
  len := h.len
  al := fun b z => h.al b (.inl z)
  wm := hw
  m0 := fun b z => (h.m0 b z).elim id fun e => absurd (by rw [← e]; exact z) h0
  pm := h.pm
  own := fun b z => h.own b (.inl z)
  wp := h.wp
  fr := h.fr
  tb := h.tb
  dis := h.dis
  sl := fun i e q => by
    obtain ⟨o, h1, h2⟩ := h.sl i e q
    refine ⟨o, h1, ?_⟩
    have s : Sub (mi (ins M l).m H) (mi M.m H) := mi_le fun b z => .inl z
    have hm := hn e (List.mem_of_getElem? q)
    cases o with
    | none =>
      cases e <;> first | exact True.intro | exact h2.elim
    | some v =>
      cases e with
      | any => exact True.intro
      | dat t => exact Dt.mono s h2
      | own l' t =>
        obtain ⟨h3, h4, h5, h7, h6⟩ := h2
        exact ⟨h3, h4.elim id fun z => absurd (by rw [z]; rfl) hm, h5, h7, h6.mono s fun _ _ z => z⟩
      | pen l' N =>
        obtain ⟨h3, h4, h6⟩ := h2
        exact ⟨h3, h4, h6.mono s fun _ _ z => z⟩
      | tab l' as rs =>
        obtain ⟨h3, h4, h5, h6⟩ := h2
        exact ⟨h3, h4, fun b z => ⟨(h5 b z).1.elim id fun y => absurd (by rw [← y]; exact z) hm, (h5 b z).2⟩, h6.mono s fun _ _ _ _ z => z⟩
theorem EO.ee (h : EO X B M Δ e Φ) : EE X B M Δ e Φ := fun σ H S Q k => h σ H S Q fun t Δ' l H' p f hl S' hn ow => by
  have nM := S.notM hl
  have nM0 : ¬ B.M0 l := fun z => nM (S.m0 l z)
  have s2 : Sub (mi (ins M l).m H') (mi M.m H') := mi_le fun b z => .inl z
  refine k t Δ' (.ref l) H' p f (S'.freeze nM S.wm nM0 hn) ?_
  exact (ow.mono s2 fun _ _ z => z).dt fun o _ z => mi_of nM z
/-! names, constants -/
theorem ee_name (i : Nat) {x : Str} {pos : Pos} {t : Tr} (hN : X.N[i]? = some x) (hΔ : Δ[i]? = some (.dat t)) (q : Φ t Δ)
    (hd : (x == ("__debug__" : Str)) = false := by decide) (hcd : (x == ("__classdict__" : Str)) = false := by decide) (hv : Vis X.env.scope x := by first | exact Or.inl rfl | exact Or.inr (Or.inl rfl) | exact Or.inr (Or.inr rfl)) : EE X B M Δ (.Name x pos) Φ := fun σ H S Q k => by
  obtain ⟨v, h1, h2⟩ := S.dat hΔ
  exact PE.to (pe_var (i := i) hN hv hd hcd) ⟨v, h1, k t Δ v H q (Fe.refl _ _) S h2⟩
theorem ee_int {i : Int} {j : Nat} {pos : Pos} (q : Φ (.int i) Δ) : EE X B M Δ (.Constant (.int i) j pos) Φ := fun σ H S Q k => PE.to pe_int (k _ _ _ H q (Fe.refl _ _) S (.int i))
theorem ee_str {i : Str} {j : Nat} {pos : Pos} (q : Φ (.str i) Δ) : EE X B M Δ (.Constant (.str i) j pos) Φ := fun σ H S Q k => PE.to pe_str (k _ _ _ H q (Fe.refl _ _) S (.str i))
theorem ee_bl {i : Bool} {j : Nat} {pos : Pos} (q : Φ (.bl i) Δ) : EE X B M Δ (.Constant (.bool i) j pos) Φ := fun σ H S Q k => PE.to pe_bl (k _ _ _ H q (Fe.refl _ _) S (.bl i))
theorem ee_non {j : Nat} {pos : Pos} (q : Φ .non Δ) : EE X B M Δ (.Constant .none j pos) Φ := fun σ H S Q k => PE.to pe_non (k _ _ _ H q (Fe.refl _ _) S .non)
/-- a module's constant -/
theorem ee_glob {x : Str} {v : V} {u : Value} {t : Tr} {pos : Pos} (hg : Gl X x) (hm : X.mg x = some u) (r : RelV v u) (ht : ∀ I, Dt X.K I v t) (q : Φ t Δ) (hd : (x == ("__debug__" : Str)) = false := by decide) : EE X B M Δ (.Name x pos) Φ := fun σ H S Q k =>
  PE.to (pe_glob hg hm r hd) (k _ _ _ H q (Fe.refl _ _) S (ht _))
/-! two places -/
/-- a rule by values, from its reading r: what is asked of the data -/
theorem ee_two {E : Expr} {r : R2} (hE : PE X E (tOp r (WE X a) (WE X b))) {Ψ : Tr → List En → Tr → List En → Prop}
    (h : EE X B M Δ a fun x Δ1 => EE X B M Δ1 b fun y Δ2 => Ψ x Δ1 y Δ2)
    (hr : ∀ x Δ1 y Δ2, Ψ x Δ1 y Δ2 → ∀ σ H v w (Q : VK), Sk X.K B M H σ Δ2 → Dt X.K (mi M.m H) v x → Dt X.K (mi M.m H) w y → (∀ t Δ' z H', Φ t Δ' → Fe M.w H H' → Sk X.K B M H' σ Δ' → Dt X.K (mi M.m H') z t → Q z H') → r v w H Q) : EE X B M Δ E Φ := fun σ H S Q k =>
  PE.to hE (h σ H S _ fun x Δ1 v H1 p s1 S1 d1 => p σ H1 S1 _ fun y Δ2 w H2 p2 s2 S2 d2 => hr x Δ1 y Δ2 p2 σ H2 v w Q S2 (d1.mono (S1.sub s2)) d2 fun t Δ' z H' p3 s3 S3 d3 => k t Δ' z H' p3 ((s1.trans s2).trans s3) S3 d3)
theorem ee_I0 {op : Operator} {pos : Pos} {g : Int → Int → Int} (ho : OpR X (binaryOp op) (rI0 fun i j => .int (g i j))) (h : EE X B M Δ a fun x Δ1 => EE X B M Δ1 b fun y Δ2 => ∃ i j, x = .int i ∧ y = .int j ∧ Φ (.int (g i j)) Δ2) : EE X B M Δ (.BinOp a op b pos) Φ :=
  ee_two (pe_op ho pe_self pe_self) h fun x Δ1 y Δ2 p σ H v w Q S d1 d2 k => by
    obtain ⟨i, j, rfl, rfl, q⟩ := p
    cases d1; cases d2
    exact ⟨i, j, rfl, rfl, k _ _ _ H q (Fe.refl _ _) S (.int _)⟩
theorem ee_I {op : Operator} {pos : Pos} {C : Int → Int → Prop} {g : Int → Int → Int} (ho : OpR X (binaryOp op) (rI C fun i j => .int (g i j))) (h : EE X B M Δ a fun x Δ1 => EE X B M Δ1 b fun y Δ2 => ∃ i j, x = .int i ∧ y = .int j ∧ C i j ∧ Φ (.int (g i j)) Δ2) : EE X B M Δ (.BinOp a op b pos) Φ :=
  ee_two (pe_op ho pe_self pe_self) h fun x Δ1 y Δ2 p σ H v w Q S d1 d2 k => by
    obtain ⟨i, j, rfl, rfl, c, q⟩ := p
    cases d1; cases d2
    exact ⟨i, j, rfl, rfl, c, k _ _ _ H q (Fe.refl _ _) S (.int _)⟩
theorem ee_add {pos : Pos} (h : EE X B M Δ a fun x Δ1 => EE X B M Δ1 b fun y Δ2 => ∃ i j, x = .int i ∧ y = .int j ∧ Φ (.int (i + j)) Δ2) : EE X B M Δ (.BinOp a .Add b pos) Φ := ee_I0 op_add h
theorem ee_sub {pos : Pos} (h : EE X B M Δ a fun x Δ1 => EE X B M Δ1 b fun y Δ2 => ∃ i j, x = .int i ∧ y = .int j ∧ Φ (.int (i - j)) Δ2) : EE X B M Δ (.BinOp a .Sub b pos) Φ := ee_I0 op_sub h
theorem ee_mul {pos : Pos} (h : EE X B M Δ a fun x Δ1 => EE X B M Δ1 b fun y Δ2 => ∃ i j, x = .int i ∧ y = .int j ∧ CMul i j ∧ Φ (.int (i * j)) Δ2) : EE X B M Δ (.BinOp a .Mult b pos) Φ := ee_I op_mul h
theorem ee_mod {pos : Pos} (h : EE X B M Δ a fun x Δ1 => EE X B M Δ1 b fun y Δ2 => ∃ i j, x = .int i ∧ y = .int j ∧ 0 < j ∧ Φ (.int (i % j)) Δ2) : EE X B M Δ (.BinOp a .Mod b pos) Φ := ee_I (C := fun _ j => 0 < j) op_mod h
theorem ee_fdiv {pos : Pos} (h : EE X B M Δ a fun x Δ1 => EE X B M Δ1 b fun y Δ2 => ∃ i j, x = .int i ∧ y = .int j ∧ CDiv i j ∧ Φ (.int (i / j)) Δ2) : EE X B M Δ (.BinOp a .FloorDiv b pos) Φ := ee_I op_fdiv h
theorem ee_pow {pos : Pos} (h : EE X B M Δ a fun x Δ1 => EE X B M Δ1 b fun y Δ2 => ∃ i j, x = .int i ∧ y = .int j ∧ CPow i j ∧ Φ (.int (i ^ j.toNat)) Δ2) : EE X B M Δ (.BinOp a .Pow b pos) Φ := ee_I op_pow h
theorem ee_adds {pos : Pos} (h : EE X B M Δ a fun x Δ1 => EE X B M Δ1 b fun y Δ2 => ∃ i j, x = .str i ∧ y = .str j ∧ i.length + j.length ≤ sizeLine ∧ Φ (.str (i ++ j)) Δ2) : EE X B M Δ (.BinOp a .Add b pos) Φ :=
  ee_two (pe_op op_add_str pe_self pe_self) h fun x Δ1 y Δ2 p σ H v w Q S d1 d2 k => by
    obtain ⟨i, j, rfl, rfl, c, q⟩ := p
    cases d1; cases d2
    exact ⟨i, j, rfl, rfl, c, k _ _ _ H q (Fe.refl _ _) S (.str _)⟩
theorem ee_neg {pos : Pos} (h : EE X B M Δ a fun x Δ1 => ∃ i, x = .int i ∧ Φ (.int (-i)) Δ1) : EE X B M Δ (.UnaryOp .USub a pos) Φ := fun σ H S Q k =>
  PE.to (pe_un un_neg pe_self) (h σ H S _ fun x Δ1 v H1 p s1 S1 d1 => by
    obtain ⟨i, rfl, q⟩ := p
    cases d1
    exact ⟨i, rfl, k _ _ _ H1 q s1 S1 (.int _)⟩)
end
end Wf

set_option Elab.async false
set_option linter.all false
set_option maxRecDepth 100000
set_option maxHeartbeats 1000000
namespace Wf
open PySem PySem.Spec PyProof.Rows L2 LamX
section
variable {X : Cx} {B : Bs} {M : Pl} {Δ : List En} {e a b c d : Expr} {es : List Expr} {Φ Φ' : Tr → List En → Prop} {Γ : Bool → List En → Prop}
/-! ### tests -/
theorem ET.mono {Γ' : Bool → List En → Prop} (h : ET X B M Δ e Γ) (q : ∀ t Δ', Γ t Δ' → Γ' t Δ') : ET X B M Δ e Γ' := fun σ H S Q k => h σ H S Q fun t Δ' H' p => k t Δ' H' (q t Δ' p)
theorem et_val (h : EE X B M Δ e fun t Δ' => ∃ k, t = .bl k ∧ Γ k Δ') (he : ∀ whole, isTrue e X.env whole = (do let v ← whole; standAt e.pos; holding [v] (truthy v)) := by intro _; rfl) : ET X B M Δ e Γ := fun σ H S Q k =>
  PT.to (pt_val pe_self he) (h σ H S _ fun t Δ' v H' p f S' dd => by
    obtain ⟨x, rfl, q⟩ := p
    cases dd
    exact ⟨x, rfl, k x Δ' H' q f S'⟩)
def truD : Tr → Bool → Prop
  | .non, k => k = false
  | .int i, k => k = (i != 0)
  | .str x, k => x.length ≤ sizeLine ∧ k = ((x.length : Int) != 0)
  | .bl b, k => k = b
  | .lst ts, k => k = !ts.isEmpty
  | .tup ts, k => k = !ts.isEmpty
  | _, _ => False
/-- a list, a tuple, a text, a number, None as a test -/
theorem et_tru (h : EE X B M Δ e fun t Δ' => ∃ k, truD t k ∧ Γ k Δ')
    (he : ∀ whole, isTrue e X.env whole = (do let v ← whole; standAt e.pos; holding [v] (truthy v)) := by intro _; rfl) : ET X B M Δ e Γ := fun σ H S Q k =>
  PT.to (pt_truth pe_self he) (h σ H S _ fun t Δ' v H' p f S' dd => by
    obtain ⟨x, hx, q⟩ := p
    refine ⟨x, ?_, k x Δ' H' q f S'⟩
    cases dd with
    | non => exact hx
    | bl b => exact hx
    | int i => exact hx
    | str z => exact hx
    | lst h1 h2 =>
      refine Or.inl ⟨_, sub_seqL mi_sub h1, ?_⟩
      rw [hx]
      have := h2.length
      rename_i xs ts
      cases xs <;> cases ts <;> first | rfl | (simp at this)
    | tup h1 h2 =>
      refine Or.inr (.inl ⟨_, sub_seqT mi_sub h1, ?_⟩)
      rw [hx]
      have := h2.length
      rename_i xs ts
      cases xs <;> cases ts <;> first | rfl | (simp at this)
    | dct _ _ => exact hx.elim
    | ins _ _ => exact hx.elim
    | exc0 _ => exact hx.elim
    | exc _ _ _ => exact hx.elim
    | opq _ => exact hx.elim)
theorem et_not {pos : Pos} (h : ET X B M Δ a fun k Δ' => Γ (!k) Δ') : ET X B M Δ (.UnaryOp .Not a pos) Γ := fun σ H S Q k =>
  PT.to (pt_not pt_self) (h σ H S _ fun t Δ' H' p f S' => k _ Δ' H' p f S')
theorem et_and2 {pos : Pos} (h : ET X B M Δ a fun k Δ1 => (k = true → ET X B M Δ1 b Γ) ∧ (k = false → Γ false Δ1)) : ET X B M Δ (.BoolOp .And [a, b] pos) Γ := fun σ H S Q k =>
  PT.to (PW.pt (pw_and pt_self (pw_and1 pt_self))) (h σ H S _ fun t Δ' H' p f S' => by
    cases t with
    | true =>
      refine iteT (p.1 rfl σ H' S' Q fun t2 Δ2 H2 p2 f2 S2 => k t2 Δ2 H2 p2 (f.trans f2) S2)
    | false => exact iteF (k false Δ' H' (p.2 rfl) f S'))
theorem et_or2 {pos : Pos} (h : ET X B M Δ a fun k Δ1 => (k = true → Γ true Δ1) ∧ (k = false → ET X B M Δ1 b Γ)) : ET X B M Δ (.BoolOp .Or [a, b] pos) Γ := fun σ H S Q k =>
  PT.to (PW.pt (pw_or pt_self (pw_or1 pt_self))) (h σ H S _ fun t Δ' H' p f S' => by
    cases t with
    | true => exact iteT (k true Δ' H' (p.1 rfl) f S')
    | false => exact iteF (p.2 rfl σ H' S' Q fun t2 Δ2 H2 p2 f2 S2 => k t2 Δ2 H2 p2 (f.trans f2) S2))
/-- the rest of a chain of and, or: as one of its own -/
def EW (X : Cx) (B : Bs) (M : Pl) (Δ : List En) (e : Expr) (Γ : Bool → List En → Prop) : Prop := ∀ σ H, Sk X.K B M H σ Δ → ∀ Q : Bool → Hp → Prop,
  (∀ b Δ' H', Γ b Δ' → Fe M.w H H' → Sk X.K B M H' σ Δ' → Q b H') → ∀ (whole : Sem Value) pins s, Inv X pins σ H s → wpAny (model X.prog X.w) X.A (isTrue e X.env whole) (TP X pins σ Q) X.xe s
theorem pw_selfW {e : Expr} : PW X e (fun σ H Q => ∀ (whole : Sem Value) pins s, Inv X pins σ H s → wpAny (model X.prog X.w) X.A (isTrue e X.env whole) (TP X pins σ Q) X.xe s) := ⟨fun whole pins s σ H Q I h => h whole pins s I⟩
theorem et_ew (h : EW X B M Δ e Γ) : ET X B M Δ e Γ := fun σ H S Q k => PT.to (PW.pt pw_selfW) (h σ H S Q k)
theorem PW.toW {t : TT} (h : PW X e t) {σ : L2.St} {H : Hp} {Q : Bool → Hp → Prop} (q : t σ H Q) : ∀ (whole : Sem Value) pins s, Inv X pins σ H s → wpAny (model X.prog X.w) X.A (isTrue e X.env whole) (TP X pins σ Q) X.xe s := fun whole pins s I => h.run whole pins s σ H Q I q
theorem ew_and1 {pos : Pos} (h : ET X B M Δ a Γ) : EW X B M Δ (.BoolOp .And [a] pos) Γ := fun σ H S Q k => PW.toW (pw_and1 pt_self) (h σ H S Q k)
theorem ew_or1 {pos : Pos} (h : ET X B M Δ a Γ) : EW X B M Δ (.BoolOp .Or [a] pos) Γ := fun σ H S Q k => PW.toW (pw_or1 pt_self) (h σ H S Q k)
theorem ew_and {pos : Pos} (h : ET X B M Δ a fun k Δ1 => (k = true → EW X B M Δ1 (.BoolOp .And (b :: es) pos) Γ) ∧ (k = false → Γ false Δ1)) : EW X B M Δ (.BoolOp .And (a :: b :: es) pos) Γ := fun σ H S Q k =>
  PW.toW (pw_and pt_self pw_selfW) (h σ H S _ fun t Δ' H' p f S' => by
    cases t with
    | true => exact iteT (p.1 rfl σ H' S' Q fun t2 Δ2 H2 p2 f2 S2 => k t2 Δ2 H2 p2 (f.trans f2) S2)
    | false => exact iteF (k false Δ' H' (p.2 rfl) f S'))
theorem ew_or {pos : Pos} (h : ET X B M Δ a fun k Δ1 => (k = true → Γ true Δ1) ∧ (k = false → EW X B M Δ1 (.BoolOp .Or (b :: es) pos) Γ)) : EW X B M Δ (.BoolOp .Or (a :: b :: es) pos) Γ := fun σ H S Q k =>
  PW.toW (pw_or pt_self pw_selfW) (h σ H S _ fun t Δ' H' p f S' => by
    cases t with
    | true => exact iteT (k true Δ' H' (p.1 rfl) f S')
    | false => exact iteF (p.2 rfl σ H' S' Q fun t2 Δ2 H2 p2 f2 S2 => k t2 Δ2 H2 p2 (f.trans f2) S2))
/-! ### comparisons, as values and as tests -/
theorem et_two {E : Expr} {r : R2} (hE : PT X E (tTest (tOp r (WE X a) (WE X b)))) {Ψ : Tr → List En → Tr → List En → Prop}
    (h : EE X B M Δ a fun x Δ1 => EE X B M Δ1 b fun y Δ2 => Ψ x Δ1 y Δ2)
    (hr : ∀ x Δ1 y Δ2, Ψ x Δ1 y Δ2 → ∀ σ H v w (Q : VK), Sk X.K B M H σ Δ2 → Dt X.K (mi M.m H) v x → Dt X.K (mi M.m H) w y → (∀ t Δ' H', Γ t Δ' → Fe M.w H H' → Sk X.K B M H' σ Δ' → Q (.bl t) H') → r v w H Q) : ET X B M Δ E Γ := fun σ H S Q k =>
  PT.to hE (h σ H S _ fun x Δ1 v H1 p s1 S1 d1 => p σ H1 S1 _ fun y Δ2 w H2 p2 s2 S2 d2 => hr x Δ1 y Δ2 p2 σ H2 v w _ S2 (d1.mono (S1.sub s2)) d2 fun t Δ' H' p3 s3 S3 => ⟨t, rfl, k t Δ' H' p3 ((s1.trans s2).trans s3) S3⟩)
/-- what a comparison of data asks, and its answer -/
def CmpD (X : Cx) (op : CmpOp) (B : Bs) (M : Pl) (Γ : Bool → List En → Prop) (Ψ : Tr → Tr → List En → Prop) : Prop := ∃ r, OpR X (compareOp op) r ∧
  ∀ x y Δ2, Ψ x y Δ2 → ∀ σ H v w (Q : VK), Sk X.K B M H σ Δ2 → Dt X.K (mi M.m H) v x → Dt X.K (mi M.m H) w y → (∀ t Δ' H', Γ t Δ' → Fe M.w H H' → Sk X.K B M H' σ Δ' → Q (.bl t) H') → r v w H Q
theorem et_cmp {op : CmpOp} {pos : Pos} {Ψ : Tr → Tr → List En → Prop} (hc : CmpD X op B M Γ Ψ) (h : EE X B M Δ a fun x Δ1 => EE X B M Δ1 b fun y Δ2 => Ψ x y Δ2) (hm : behindInMarks op b = false := by first | exact nomark _ | rfl | with_unfolding_all rfl) : ET X B M Δ (.Compare a [op] [b] pos) Γ := by
  obtain ⟨r, ho, hr⟩ := hc
  exact et_two (pt_cmpR ho pe_self pe_self hm) h fun x Δ1 y Δ2 p => hr x y Δ2 p
theorem ee_cmp {op : CmpOp} {pos : Pos} {Ψ : Tr → Tr → List En → Prop} (hc : CmpD X op B M (fun k => Φ (.bl k)) Ψ) (h : EE X B M Δ a fun x Δ1 => EE X B M Δ1 b fun y Δ2 => Ψ x y Δ2) (hm : behindInMarks op b = false := by first | exact nomark _ | rfl | with_unfolding_all rfl) : EE X B M Δ (.Compare a [op] [b] pos) Φ := by
  obtain ⟨r, ho, hr⟩ := hc
  exact ee_two (pe_cmpR ho pe_self pe_self hm) h fun x Δ1 y Δ2 p σ H v w Q S d1 d2 k => hr x y Δ2 p σ H v w Q S d1 d2 fun t Δ' H' q f S' => k _ Δ' _ H' q f S' (.bl t)
theorem cd_I {op : CmpOp} {g : Int → Int → Bool} (ho : OpR X (compareOp op) (rI0 fun i j => .bl (g i j))) : CmpD X op B M Γ fun x y Δ2 => ∃ i j, x = .int i ∧ y = .int j ∧ Γ (g i j) Δ2 :=
  ⟨_, ho, fun x y Δ2 p σ H v w Q S d1 d2 k => by
    obtain ⟨i, j, rfl, rfl, q⟩ := p
    cases d1; cases d2
    exact ⟨i, j, rfl, rfl, k _ _ H q (Fe.refl _ _) S⟩⟩
theorem cd_lt : CmpD X .Lt B M Γ fun x y Δ2 => ∃ i j, x = .int i ∧ y = .int j ∧ Γ (decide (i < j)) Δ2 := cd_I op_lt
theorem cd_le : CmpD X .LtE B M Γ fun x y Δ2 => ∃ i j, x = .int i ∧ y = .int j ∧ Γ (decide (i ≤ j)) Δ2 := cd_I op_le
theorem cd_gt : CmpD X .Gt B M Γ fun x y Δ2 => ∃ i j, x = .int i ∧ y = .int j ∧ Γ (decide (j < i)) Δ2 := cd_I op_gt
theorem cd_ge : CmpD X .GtE B M Γ fun x y Δ2 => ∃ i j, x = .int i ∧ y = .int j ∧ Γ (decide (j ≤ i)) Δ2 := cd_I op_ge
/-- is None: of anything that is no opaque value -/
def Tr.isN : Tr → Bool
  | .non => true
  | _ => false
def Tr.clear : Tr → Bool
  | .opq _ => false
  | _ => true
theorem dt_isN {K : PySem.W.Frag} {I : Hp} {v : V} {t : Tr} (h : Dt K I v t) (c : t.clear = true) : decide (v = .non) = t.isN := by
  cases h <;> first | (exact decide_eq_true rfl) | (exact decide_eq_false (fun z => V.noConfusion z)) | (cases c)
theorem cd_isN : CmpD X .Is B M Γ fun x y Δ2 => y = .non ∧ x.clear = true ∧ Γ x.isN Δ2 :=
  ⟨_, op_isN, fun x y Δ2 p σ H v w Q S d1 d2 k => by
    obtain ⟨rfl, c, q⟩ := p
    cases d2
    exact ⟨rfl, by rw [dt_isN d1 c]; exact k _ _ H q (Fe.refl _ _) S⟩⟩
theorem cd_notN : CmpD X .IsNot B M Γ fun x y Δ2 => y = .non ∧ x.clear = true ∧ Γ (!x.isN) Δ2 :=
  ⟨_, op_notN, fun x y Δ2 p σ H v w Q S d1 d2 k => by
    obtain ⟨rfl, c, q⟩ := p
    cases d2
    exact ⟨rfl, by rw [dt_isN d1 c]; exact k _ _ H q (Fe.refl _ _) S⟩⟩
/-- plain data: no dict, no instance -/
def Tr.pys : List Tr → (Tr → PyData) → List PyData := fun ts f => ts.map f
mutual
def Tr.py : Tr → PyData
  | .non => .none
  | .bl b => .bool b
  | .int i => .int i
  | .str x => .str x
  | .lst ts => .list (pyAll ts)
  | .tup ts => .tuple (pyAll ts)
  | .dct _ => .none
  | .ins _ _ => .none
  | .exc _ _ => .none
  | .opq _ => .none
def pyAll : List Tr → List PyData
  | [] => []
  | t :: ts => t.py :: pyAll ts
end
mutual
def Tr.plain : Tr → Bool
  | .non => true
  | .bl _ => true
  | .int _ => true
  | .str _ => true
  | .lst ts => plainAll ts
  | .tup ts => plainAll ts
  | .dct _ => false
  | .ins _ _ => false
  | .exc _ _ => false
  | .opq _ => false
def plainAll : List Tr → Bool
  | [] => true
  | t :: ts => t.plain && plainAll ts
end
mutual
theorem Dt.dp {K : PySem.W.Frag} {I : Hp} : ∀ {v : V} {t : Tr}, Dt K I v t → t.plain = true → Dp K I v t.py
  | _, _, .non, _ => by unfold Tr.py; exact .non
  | _, _, .bl b, _ => by unfold Tr.py; exact .bl b
  | _, _, .int i, _ => by unfold Tr.py; exact .int i
  | _, _, .str x, _ => by unfold Tr.py; exact .str x
  | _, _, .lst h q, c => by
    unfold Tr.plain at c
    unfold Tr.py
    exact .lst h (Dts.dp q c)
  | _, _, .tup h q, c => by
    unfold Tr.plain at c
    unfold Tr.py
    exact .tup h (Dts.dp q c)
  | _, _, .dct h q, c => by unfold Tr.plain at c; cases c
  | _, _, .ins h q, c => by unfold Tr.plain at c; cases c
  | _, _, .exc0 h, c => by unfold Tr.plain at c; cases c
  | _, _, .exc h g q, c => by unfold Tr.plain at c; cases c
  | _, _, .opq v, c => by unfold Tr.plain at c; cases c
theorem Dts.dp {K : PySem.W.Frag} {I : Hp} : ∀ {v : List V} {t : List Tr}, Dts K I v t → plainAll t = true → DpAll K I v (pyAll t)
  | _, _, .nil, _ => by unfold pyAll; exact .nil
  | _, _, .cons h q, c => by
    unfold plainAll at c
    unfold pyAll
    rw [Bool.and_eq_true] at c
    exact .cons (Dt.dp h c.1) (Dts.dp q c.2)
end
def Tr.eqOk (t : Tr) : Prop := t.plain = true ∧ SeqAt.shaped t.py = true
theorem cd_eqD (hu : X.A.units + 64 < cLine) : CmpD X .Eq B M Γ fun x y Δ2 => x.eqOk ∧ y.eqOk ∧ Γ (PyData.eqv x.py y.py) Δ2 :=
  ⟨_, op_eqD hu, fun x y Δ2 p σ H v w Q S d1 d2 k => by
    obtain ⟨c1, c2, q⟩ := p
    exact ⟨x.py, y.py, (d1.mono mi_sub).dp c1.1, (d2.mono mi_sub).dp c2.1, c1.2, c2.2, k _ _ H q (Fe.refl _ _) S⟩⟩
theorem cd_neD (hu : X.A.units + 64 < cLine) : CmpD X .NotEq B M Γ fun x y Δ2 => x.eqOk ∧ y.eqOk ∧ Γ (!PyData.eqv x.py y.py) Δ2 :=
  ⟨_, op_neD hu, fun x y Δ2 p σ H v w Q S d1 d2 k => by
    obtain ⟨c1, c2, q⟩ := p
    exact ⟨x.py, y.py, (d1.mono mi_sub).dp c1.1, (d2.mono mi_sub).dp c2.1, c1.2, c2.2, k _ _ H q (Fe.refl _ _) S⟩⟩
theorem cd_eqI : CmpD X .Eq B M Γ fun x y Δ2 => ∃ i j, x = .int i ∧ y = .int j ∧ Γ (decide (i = j)) Δ2 :=
  ⟨_, op_eq, fun x y Δ2 p σ H v w Q S d1 d2 k => by
    obtain ⟨i, j, rfl, rfl, q⟩ := p
    cases d1; cases d2
    exact ⟨rfl, by rw [dec_int, Bool.beq_eq_decide_eq]; exact k _ _ H q (Fe.refl _ _) S⟩⟩
theorem cd_neI : CmpD X .NotEq B M Γ fun x y Δ2 => ∃ i j, x = .int i ∧ y = .int j ∧ Γ (!decide (i = j)) Δ2 :=
  ⟨_, op_ne, fun x y Δ2 p σ H v w Q S d1 d2 k => by
    obtain ⟨i, j, rfl, rfl, q⟩ := p
    cases d1; cases d2
    exact ⟨rfl, by rw [dec_int, Bool.beq_eq_decide_eq]; exact k _ _ H q (Fe.refl _ _) S⟩⟩
theorem cd_eqS : CmpD X .Eq B M Γ fun x y Δ2 => ∃ i j, x = .str i ∧ y = .str j ∧ Γ (decide (i = j)) Δ2 :=
  ⟨_, op_eq, fun x y Δ2 p σ H v w Q S d1 d2 k => by
    obtain ⟨i, j, rfl, rfl, q⟩ := p
    cases d1; cases d2
    exact ⟨rfl, by rw [dec_str, Bool.beq_eq_decide_eq]; exact k _ _ H q (Fe.refl _ _) S⟩⟩
theorem cd_neS : CmpD X .NotEq B M Γ fun x y Δ2 => ∃ i j, x = .str i ∧ y = .str j ∧ Γ (!decide (i = j)) Δ2 :=
  ⟨_, op_ne, fun x y Δ2 p σ H v w Q S d1 d2 k => by
    obtain ⟨i, j, rfl, rfl, q⟩ := p
    cases d1; cases d2
    exact ⟨rfl, by rw [dec_str, Bool.beq_eq_decide_eq]; exact k _ _ H q (Fe.refl _ _) S⟩⟩
/-- one sign in a text -/
theorem cd_inS : CmpD X .In B M Γ fun x y Δ2 => ∃ (c : Nat) (z : Str), x = .str ⟨#[c]⟩ ∧ y = .str z ∧ Γ (decide (c ∈ z.cps.toList)) Δ2 :=
  ⟨_, op_in_sign, fun x y Δ2 p σ H v w Q S d1 d2 k => by
    obtain ⟨i, j, rfl, rfl, q⟩ := p
    cases d1; cases d2
    exact ⟨i, j, rfl, rfl, k _ _ H q (Fe.refl _ _) S⟩⟩
/-! ### if-expressions, and, or, not as values -/
theorem ee_if {pos : Pos} (h : ET X B M Δ c fun k Δ1 => (k = true → EE X B M Δ1 a Φ) ∧ (k = false → EE X B M Δ1 b Φ)) : EE X B M Δ (.IfExp c a b pos) Φ := fun σ H S Q k =>
  PE.to (pe_ifExp pt_self pe_self pe_self) (h σ H S _ fun t Δ' H' p f S' => by
    cases t with
    | true => exact iteT (p.1 rfl σ H' S' Q fun t2 Δ2 v H2 p2 f2 S2 => k t2 Δ2 v H2 p2 (f.trans f2) S2)
    | false => exact iteF (p.2 rfl σ H' S' Q fun t2 Δ2 v H2 p2 f2 S2 => k t2 Δ2 v H2 p2 (f.trans f2) S2))
theorem ee_one {op : BoolOp} {pos : Pos} (h : EE X B M Δ a Φ) : EE X B M Δ (.BoolOp op [a] pos) Φ := fun σ H S Q k => PE.to (pe_one pe_self) (h σ H S Q k)
theorem ee_and {pos : Pos} (h : EE X B M Δ a fun t Δ1 => ∃ k, t = .bl k ∧ (k = true → EE X B M Δ1 (.BoolOp .And (b :: es) pos) Φ) ∧ (k = false → Φ (.bl false) Δ1)) : EE X B M Δ (.BoolOp .And (a :: b :: es) pos) Φ := fun σ H S Q k =>
  PE.to (pe_and pe_self pe_self) (h σ H S _ fun t Δ' v H' p f S' dd => by
    obtain ⟨x, rfl, p⟩ := p
    cases dd
    refine ⟨x, rfl, ?_⟩
    cases x with
    | true => exact iteT (p.1 rfl σ H' S' Q fun t2 Δ2 v H2 p2 f2 S2 => k t2 Δ2 v H2 p2 (f.trans f2) S2)
    | false => exact iteF (k _ Δ' _ H' (p.2 rfl) f S' (.bl false)))
theorem ee_or {pos : Pos} (h : EE X B M Δ a fun t Δ1 => ∃ k, t = .bl k ∧ (k = true → Φ (.bl true) Δ1) ∧ (k = false → EE X B M Δ1 (.BoolOp .Or (b :: es) pos) Φ)) : EE X B M Δ (.BoolOp .Or (a :: b :: es) pos) Φ := fun σ H S Q k =>
  PE.to (pe_or pe_self pe_self) (h σ H S _ fun t Δ' v H' p f S' dd => by
    obtain ⟨x, rfl, p⟩ := p
    cases dd
    refine ⟨x, rfl, ?_⟩
    cases x with
    | true => exact iteT (k _ Δ' _ H' (p.1 rfl) f S' (.bl true))
    | false => exact iteF (p.2 rfl σ H' S' Q fun t2 Δ2 v H2 p2 f2 S2 => k t2 Δ2 v H2 p2 (f.trans f2) S2))
theorem ee_not {pos : Pos} (h : EE X B M Δ a fun t Δ1 => ∃ k, t = .bl k ∧ Φ (.bl (!k)) Δ1) : EE X B M Δ (.UnaryOp .Not a pos) Φ := fun σ H S Q k =>
  PE.to (pe_not pe_self) (h σ H S _ fun t Δ' v H' p f S' dd => by
    obtain ⟨x, rfl, p⟩ := p
    cases dd
    exact ⟨x, rfl, k _ Δ' _ H' p f S' (.bl _)⟩)
/-! ### argument lists, tuples, lists -/
theorem ea_nil {Θ : List Tr → List En → Prop} (q : Θ [] Δ) : EA X B M Δ [] Θ := fun σ H S Q k => PA.to pa_nil (k [] Δ [] H q (Fe.refl _ _) S .nil)
theorem ea_cons {Θ : List Tr → List En → Prop} (h : EE X B M Δ e fun t Δ1 => EA X B M Δ1 es fun ts Δ2 => Θ (t :: ts) Δ2) (hs : starEach (e :: es) X.env = (false, eval e X.env) :: starEach es X.env := by rfl) : EA X B M Δ (e :: es) Θ := fun σ H S Q k =>
  PA.to (pa_cons pe_self pa_self hs) (h σ H S _ fun t Δ1 v H1 p f S1 d1 => p σ H1 S1 _ fun ts Δ2 vs H2 p2 f2 S2 d2 => k _ Δ2 _ H2 p2 (f.trans f2) S2 (.cons (d1.mono (S1.sub f2)) d2))
theorem ee_tup {x1 : _} {pos : Pos} (h : EA X B M Δ es fun ts Δ1 => ts.length ≤ sizeLine ∧ Φ (.tup ts) Δ1) : EE X B M Δ (.Tuple es x1 pos) Φ := fun σ H S Q k =>
  PE.to (pe_tup pa_self) (h σ H S _ fun ts Δ1 vs H1 p f S1 d1 => by
    refine ⟨by rw [d1.length]; exact p.1, fun q hq => ?_⟩
    have s := same_new (o := .tup vs) hq
    exact k _ Δ1 _ _ p.2 (f.trans (Fe.same s)) (S1.same s) (.tup (SqT.of (mi_of (S1.notM hq) upd_same)) (d1.mono (Sub.of s).mi)))
/-- a new list, owned -/
theorem Sk.newOwn {K : PySem.W.Frag} {H H' : Hp} {σ : L2.St} {l : Addr} {t : Tr} (S : Sk K B M H σ Δ) (hl : H l = none) (s : Same H H') (ow : Ow K (mi M.m H) H' l t) :
    Sk K B (ins M l) H' σ Δ ∧ (∀ e ∈ Δ, ¬ e.has l) ∧ Ow K (mi (ins M l).m H') H' l t := by
  have s2 : Sub (mi M.m H) (mi (ins M l).m H') := mi_new hl S (Fe.same s)
  have hn : ∀ e ∈ Δ, ¬ e.has l := fun e he z => by
    obtain ⟨i, hi⟩ := List.getElem?_of_mem he
    obtain ⟨o, _, h2⟩ := S.sl i e hi
    have hm : M.m l := by
      cases e with
      | any => cases z
      | dat t => cases z
      | own l' t => cases z; cases o with
        | none => exact h2.elim
        | some v => exact h2.2.1
      | pen l' N => cases z; cases o with
        | none => exact h2.elim
        | some v => exact S.wm _ h2.2.1
      | tab l' as rs => cases o with
        | none => exact h2.elim
        | some v => exact (h2.2.2.1 _ z).1
    exact S.notM hl hm
  have hex : ∃ o, H' l = some o := by
    cases t <;> first | exact ow.elim | skip
    · obtain ⟨xs, e, _⟩ := ow; exact ⟨_, e⟩
    · obtain ⟨xs, e, _⟩ := ow; exact ⟨_, e⟩
    · obtain ⟨_, xs, e, _⟩ := ow; exact ⟨_, e⟩
  have S' := S.same s
  refine ⟨{ len := S'.len, al := fun b z => z.elim (S'.al b) fun e => by rw [e]; exact hex, wm := fun b z => Or.inl (S.wm b z), m0 := fun b z => Or.inl (S.m0 b z), pm := S.pm, own := fun b z => z.elim (S.own b) fun e => .inr (by rw [e]; exact S.new0 hl), wp := S.wp, fr := S'.fr, tb := S'.tb, dis := S.dis, sl := fun i e q => ?_ }, hn, ow.mono s2 fun _ _ z => z⟩
  obtain ⟨o, h1, h2⟩ := S.sl i e q
  exact ⟨o, h1, h2.mono (M := M) (M' := ins M l) (fun b z => Or.inl z) (fun _ => Iff.rfl) s2 fun l' _ o _ z => s l' o z⟩
theorem eo_lst {pos : Pos} (h : EA X B M Δ es fun ts Δ1 => ts.length ≤ sizeLine ∧ Φ (.lst ts) Δ1) (hE : PE X (.List es pos) (tLst (WA X es)) := pe_lst pa_self) : EO X B M Δ (.List es pos) Φ := fun σ H S Q k =>
  PE.to hE (h σ H S _ fun ts Δ1 vs H1 p f S1 d1 => by
    refine ⟨by rw [d1.length]; exact p.1, fun q hq => ?_⟩
    have s := same_new (o := .lst vs) hq
    obtain ⟨a1, a2, a3⟩ := S1.newOwn (t := .lst ts) hq s ⟨vs, upd_same, d1⟩
    exact k _ Δ1 q _ p.2 (f.trans (Fe.same s)) (f.free (fun b z => S1.al b (S1.wm b z)) hq) a1 a2 a3)
/-! ### places of lists, tuples, texts -/
theorem atI_dts {K : PySem.W.Frag} {I : Hp} {xs : List V} {ts : List Tr} {i : Int} {t : Tr} (d : Dts K I xs ts) (h : atI ts i = some t) : ∃ v, atI xs i = some v ∧ Dt K I v t := by
  unfold atI at h ⊢
  rw [← d.length] at h
  cases e : ixN xs.length i with
  | none => rw [e] at h; cases h
  | some j =>
    rw [e] at h
    obtain ⟨v, h1, h2⟩ := d.get (i := j) (t := t) h
    exact ⟨v, h1, h2⟩
theorem ee_ixL {pos : Pos} (h : EE X B M Δ a fun x Δ1 => EE X B M Δ1 b fun y Δ2 => ∃ ts i t, x = .lst ts ∧ y = .int i ∧ atI ts i = some t ∧ Φ t Δ2) (hs : PlainIx b := by exact fun _ _ => rfl) : EE X B M Δ (.Subscript a b pos) Φ :=
  ee_two (pe_ix ix_list pe_self pe_self hs) h fun x Δ1 y Δ2 p σ H v w Q S d1 d2 k => by
    obtain ⟨ts, i, t, rfl, rfl, e, q⟩ := p
    cases d2
    cases d1 with
    | lst h1 h2 =>
      obtain ⟨z, e1, e2⟩ := atI_dts h2 e
      exact ⟨_, _, i, z, rfl, rfl, sub_seqL mi_sub h1, e1, k _ _ _ H q (Fe.refl _ _) S e2⟩
theorem ee_ixT {pos : Pos} (h : EE X B M Δ a fun x Δ1 => EE X B M Δ1 b fun y Δ2 => ∃ ts i t, x = .tup ts ∧ y = .int i ∧ atI ts i = some t ∧ Φ t Δ2) (hs : PlainIx b := by exact fun _ _ => rfl) : EE X B M Δ (.Subscript a b pos) Φ :=
  ee_two (pe_ix ix_tup pe_self pe_self hs) h fun x Δ1 y Δ2 p σ H v w Q S d1 d2 k => by
    obtain ⟨ts, i, t, rfl, rfl, e, q⟩ := p
    cases d2
    cases d1 with
    | tup h1 h2 =>
      obtain ⟨z, e1, e2⟩ := atI_dts h2 e
      exact ⟨_, _, i, z, rfl, rfl, sub_seqT mi_sub h1, e1, k _ _ _ H q (Fe.refl _ _) S e2⟩
theorem ee_ixS {pos : Pos} (h : EE X B M Δ a fun x Δ1 => EE X B M Δ1 b fun y Δ2 => ∃ (z : Str) (i : Int) (c : Nat), x = .str z ∧ y = .int i ∧ z.length ≤ sizeLine ∧ atI z.cps.toList i = some c ∧ Φ (.str ⟨#[c]⟩) Δ2) (hs : PlainIx b := by exact fun _ _ => rfl) : EE X B M Δ (.Subscript a b pos) Φ :=
  ee_two (pe_ix ix_str pe_self pe_self hs) h fun x Δ1 y Δ2 p σ H v w Q S d1 d2 k => by
    obtain ⟨z, i, c, rfl, rfl, hz, e, q⟩ := p
    cases d1; cases d2
    exact ⟨z, i, c, rfl, rfl, hz, e, k _ _ _ H q (Fe.refl _ _) S (.str _)⟩
/-! ### built-in calls -/
/-- what a call of f asks of the data, and what it gives -/
def CalD (X : Cx) (f : Value) (B : Bs) (M : Pl) (Φ : Tr → List En → Prop) (Ψ : List Tr → List En → Prop) : Prop := ∃ r, CallR X f r ∧
  ∀ ts Δ2, Ψ ts Δ2 → ∀ σ H vs (Q : VK), Sk X.K B M H σ Δ2 → Dts X.K (mi M.m H) vs ts → (∀ t Δ' v H', Φ t Δ' → Fe M.w H H' → Sk X.K B M H' σ Δ' → Dt X.K (mi M.m H') v t → Q v H') → r vs H Q
theorem ee_callB {x : Str} {id : String} {p pos : Pos} {Ψ : List Tr → List En → Prop} (hc : CalD X (.builtin id) B M Φ Ψ) (hg : Gl X x) (hm : X.mg x = none) (hv : bootBuiltins x = some (.builtin id)) (h : EA X B M Δ (e :: es) Ψ) (hn : x ≠ "__name__" := by decide) (hdb : (x == ("__debug__" : Str)) = false := by decide)
    (he : starEach (e :: es) X.env = (false, eval e X.env) :: starEach es X.env := by rfl) (hpl : (backTo pos (starEach es X.env)).any (·.1) = false := by rfl) : EE X B M Δ (.Call (.Name x p) (e :: es) [] pos) Φ := fun σ H S Q k => by
  obtain ⟨r, h1, h2⟩ := hc
  exact PE.to (pe_callB h1 hg hm hv pa_self hn hdb he hpl) (h σ H S _ fun ts Δ1 vs H1 p f S1 d1 => h2 ts Δ1 p σ H1 vs Q S1 d1 fun t Δ' v H' p2 f2 S2 d2 => k t Δ' v H' p2 (f.trans f2) S2 d2)
theorem ee_callTy {x : Str} {id : String} {p pos : Pos} {Ψ : List Tr → List En → Prop} (hc : CalD X (.type id) B M Φ Ψ) (hg : Gl X x) (hm : X.mg x = none) (hv : bootBuiltins x = some (.type id)) (h : EA X B M Δ (e :: es) Ψ) (hn : x ≠ "__name__" := by decide) (hdb : (x == ("__debug__" : Str)) = false := by decide)
    (he : starEach (e :: es) X.env = (false, eval e X.env) :: starEach es X.env := by rfl) (hpl : (backTo pos (starEach es X.env)).any (·.1) = false := by rfl) : EE X B M Δ (.Call (.Name x p) (e :: es) [] pos) Φ := fun σ H S Q k => by
  obtain ⟨r, h1, h2⟩ := hc
  exact PE.to (pe_callTy h1 hg hm hv pa_self hn hdb he hpl) (h σ H S _ fun ts Δ1 vs H1 p f S1 d1 => h2 ts Δ1 p σ H1 vs Q S1 d1 fun t Δ' v H' p2 f2 S2 d2 => k t Δ' v H' p2 (f.trans f2) S2 d2)
theorem cl_len : CalD X (.builtin "len") B M Φ fun ts Δ2 => ∃ t, ts = [t] ∧ ((∃ us, (t = .lst us ∨ t = .tup us) ∧ Φ (.int us.length) Δ2)) := ⟨_, call_len_seq, fun ts Δ2 p σ H vs Q S d k => by
  obtain ⟨t, rfl, us, ht, q⟩ := p
  cases d with
  | cons d1 d2 =>
    cases d2
    rcases ht with rfl | rfl
    · cases d1 with
      | lst h1 h2 => exact ⟨_, _, rfl, .inl (sub_seqL mi_sub h1), by rw [h2.length]; exact k _ _ _ H q (Fe.refl _ _) S (.int _)⟩
    · cases d1 with
      | tup h1 h2 => exact ⟨_, _, rfl, .inr (sub_seqT mi_sub h1), by rw [h2.length]; exact k _ _ _ H q (Fe.refl _ _) S (.int _)⟩⟩
theorem cl_lenS : CalD X (.builtin "len") B M Φ fun ts Δ2 => ∃ z : Str, ts = [.str z] ∧ z.length ≤ sizeLine ∧ Φ (.int z.length) Δ2 := ⟨_, call_len_str, fun ts Δ2 p σ H vs Q S d k => by
  obtain ⟨z, rfl, hz, q⟩ := p
  cases d with
  | cons d1 d2 =>
    cases d2; cases d1
    exact ⟨z, rfl, hz, k _ _ _ H q (Fe.refl _ _) S (.int _)⟩⟩
theorem cl_abs : CalD X (.builtin "abs") B M Φ fun ts Δ2 => ∃ i : Int, ts = [.int i] ∧ Φ (.int (if i < 0 then -i else i)) Δ2 := ⟨_, call_abs, fun ts Δ2 p σ H vs Q S d k => by
  obtain ⟨z, rfl, q⟩ := p
  cases d with
  | cons d1 d2 =>
    cases d2; cases d1
    exact ⟨z, rfl, k _ _ _ H q (Fe.refl _ _) S (.int _)⟩⟩
theorem cl_tuple : CalD X (.type "tuple") B M Φ fun ts Δ2 => ∃ us, (ts = [.lst us] ∨ ts = [.tup us]) ∧ Φ (.tup us) Δ2 := ⟨_, call_tuple_of, fun ts Δ2 p σ H vs Q S d k => by
  obtain ⟨us, ht, q⟩ := p
  rcases ht with rfl | rfl
  · cases d with
    | cons d1 d2 =>
      cases d2
      cases d1 with
      | lst h1 h2 =>
        refine ⟨_, _, rfl, .inl ⟨sub_seqL mi_sub h1, fun l hl => ?_⟩⟩
        rename_i a xs
        have s := same_new (o := .tup xs) hl
        exact k _ _ _ _ q (Fe.same s) (S.same s) (.tup (SqT.of (mi_of (S.notM hl) upd_same)) (h2.mono (Sub.of s).mi))
  · cases d with
    | cons d1 d2 =>
      cases d2
      cases d1 with
      | tup h1 h2 => exact ⟨_, _, rfl, .inr ⟨sub_seqT mi_sub h1, k _ _ _ H q (Fe.refl _ _) S (.tup h1 h2)⟩⟩⟩
theorem cl_all (hc : X.calm = true) : CalD X (.builtin "all") B M Φ fun ts Δ2 => ∃ bs : List Bool, ts = [.lst (bs.map Tr.bl)] ∧ Φ (.bl (bs.all id)) Δ2 := ⟨_, (cr_all hc), fun ts Δ2 p σ H vs Q S d k => by
  obtain ⟨us, rfl, q⟩ := p
  cases d with
  | cons d1 d2 =>
    cases d2
    cases d1 with
    | lst h1 h2 =>
      have e := of_bls us h2
      subst e
      exact ⟨_, us, rfl, sub_seqL mi_sub h1, k _ _ _ H q (Fe.refl _ _) S (.bl _)⟩⟩
/-- a built-in's call that gives a new list -/
def CalO (X : Cx) (f : Value) (B : Bs) (M : Pl) (Φ : Tr → List En → Prop) (Ψ : List Tr → List En → Prop) : Prop := ∃ r, CallR X f r ∧
  ∀ ts Δ2, Ψ ts Δ2 → ∀ σ H vs (Q : VK), Sk X.K B M H σ Δ2 → Dts X.K (mi M.m H) vs ts → (∀ t l H', Φ t Δ2 → Same H H' → H l = none → Ow X.K (mi M.m H) H' l t → Q (.ref l) H') → r vs H Q
theorem eo_callTy {x : Str} {id : String} {p pos : Pos} {Ψ : List Tr → List En → Prop} (hc : CalO X (.type id) B M Φ Ψ) (hg : Gl X x) (hm : X.mg x = none) (hv : bootBuiltins x = some (.type id)) (h : EA X B M Δ (e :: es) Ψ) (hn : x ≠ "__name__" := by decide) (hdb : (x == ("__debug__" : Str)) = false := by decide)
    (he : starEach (e :: es) X.env = (false, eval e X.env) :: starEach es X.env := by rfl) (hpl : (backTo pos (starEach es X.env)).any (·.1) = false := by rfl) : EO X B M Δ (.Call (.Name x p) (e :: es) [] pos) Φ := fun σ H S Q k => by
  obtain ⟨r, h1, h2⟩ := hc
  refine PE.to (pe_callTy h1 hg hm hv pa_self hn hdb he hpl) (h σ H S _ fun ts Δ1 vs H1 p f S1 d1 => h2 ts Δ1 p σ H1 vs Q S1 d1 fun t l H' p2 s hl ow => ?_)
  obtain ⟨a1, a2, a3⟩ := S1.newOwn hl s ow
  exact k t Δ1 l H' p2 (f.trans (Fe.same s)) (f.free (fun b z => S1.al b (S1.wm b z)) hl) a1 a2 a3
theorem eo_callB {x : Str} {id : String} {p pos : Pos} {Ψ : List Tr → List En → Prop} (hc : CalO X (.builtin id) B M Φ Ψ) (hg : Gl X x) (hm : X.mg x = none) (hv : bootBuiltins x = some (.builtin id)) (h : EA X B M Δ (e :: es) Ψ) (hn : x ≠ "__name__" := by decide) (hdb : (x == ("__debug__" : Str)) = false := by decide)
    (he : starEach (e :: es) X.env = (false, eval e X.env) :: starEach es X.env := by rfl) (hpl : (backTo pos (starEach es X.env)).any (·.1) = false := by rfl) : EO X B M Δ (.Call (.Name x p) (e :: es) [] pos) Φ := fun σ H S Q k => by
  obtain ⟨r, h1, h2⟩ := hc
  refine PE.to (pe_callB h1 hg hm hv pa_self hn hdb he hpl) (h σ H S _ fun ts Δ1 vs H1 p f S1 d1 => h2 ts Δ1 p σ H1 vs Q S1 d1 fun t l H' p2 s hl ow => ?_)
  obtain ⟨a1, a2, a3⟩ := S1.newOwn hl s ow
  exact k t Δ1 l H' p2 (f.trans (Fe.same s)) (f.free (fun b z => S1.al b (S1.wm b z)) hl) a1 a2 a3
theorem co_list : CalO X (.type "list") B M Φ fun ts Δ2 => ∃ us, (ts = [.lst us] ∨ ts = [.tup us]) ∧ Φ (.lst us) Δ2 := ⟨_, call_list_of, fun ts Δ2 p σ H vs Q S d k => by
  obtain ⟨us, ht, q⟩ := p
  rcases ht with rfl | rfl
  · cases d with
    | cons d1 d2 =>
      cases d2
      cases d1 with
      | lst h1 h2 => exact ⟨_, _, rfl, .inl (sub_seqL mi_sub h1), fun l hl => k _ l _ q (same_new hl) hl ⟨_, upd_same, h2⟩⟩
  · cases d with
    | cons d1 d2 =>
      cases d2
      cases d1 with
      | tup h1 h2 => exact ⟨_, _, rfl, .inr (sub_seqT mi_sub h1), fun l hl => k _ l _ q (same_new hl) hl ⟨_, upd_same, h2⟩⟩⟩
theorem co_sortedI : CalO X (.builtin "sorted") B M Φ fun ts Δ2 => ∃ ns : List Int, ts = [.lst (ns.map Tr.int)] ∧ ns.length < 64 ∧ ∀ ns' : List Int, ns'.Perm ns → ns'.Pairwise (· ≤ ·) → Φ (.lst (ns'.map Tr.int)) Δ2 := ⟨_, cr_sorted, fun ts Δ2 p σ H vs Q S d k => by
  obtain ⟨ns, rfl, hz, q⟩ := p
  cases d with
  | cons d1 d2 =>
    cases d2
    cases d1 with
    | lst h1 h2 =>
      have e := of_ints ns h2
      subst e
      exact ⟨_, ns, rfl, sub_seqL mi_sub h1, hz, fun ns' l a1 a2 a3 => k _ l _ (q ns' a1 a2) (same_new a3) a3 ⟨_, upd_same, dts_ints _⟩⟩⟩
end
end Wf

set_option Elab.async false
set_option linter.all false
set_option maxRecDepth 100000
set_option maxHeartbeats 1000000
namespace Wf
open PySem PySem.Spec PyProof.Rows L2 LamX
/-! ### statements -/
structure Eo where
  nx : Pl → List En → Prop
  rt : Tr → List En → Prop
  bk : Pl → List En → Prop := fun _ _ => False
  ct : Pl → List En → Prop := fun _ _ => False
structure Post (K : PySem.W.Frag) (B : Bs) (M : Pl) (H : Hp) (D : Ends) (Ψ : Eo) : Prop where
  nx : ∀ M' Δ' σ' H', Ψ.nx M' Δ' → Sub (mi M.m H) (mi M'.m H') → Sk K B M' H' σ' Δ' → D.nx σ' H'
  rt : ∀ t M' Δ' v σ' H', Ψ.rt t Δ' → Sub (mi M.m H) (mi M'.m H') → Sk K B M' H' σ' Δ' → Dt K (mi M'.m H') v t → D.rt v H'
  bk : ∀ M' Δ' σ' H', Ψ.bk M' Δ' → Sub (mi M.m H) (mi M'.m H') → Sk K B M' H' σ' Δ' → D.bk σ' H'
  ct : ∀ M' Δ' σ' H', Ψ.ct M' Δ' → Sub (mi M.m H) (mi M'.m H') → Sk K B M' H' σ' Δ' → D.ct σ' H'
theorem Post.sub {K : PySem.W.Frag} {B : Bs} {M M1 : Pl} {H H1 : Hp} {D : Ends} {Ψ : Eo} (p : Post K B M H D Ψ) (s : Sub (mi M.m H) (mi M1.m H1)) : Post K B M1 H1 D Ψ :=
  ⟨fun M' Δ' σ' H' a b c => p.nx M' Δ' σ' H' a (s.trans b) c, fun t M' Δ' v σ' H' a b c => p.rt t M' Δ' v σ' H' a (s.trans b) c, fun M' Δ' σ' H' a b c => p.bk M' Δ' σ' H' a (s.trans b) c, fun M' Δ' σ' H' a b c => p.ct M' Δ' σ' H' a (s.trans b) c⟩
def SS (X : Cx) (B : Bs) (M : Pl) (Δ : List En) (ss : List Stmt) (Ψ : Eo) : Prop := ∀ σ H, Sk X.K B M H σ Δ → ∀ D : Ends, Post X.K B M H D Ψ → WSs X ss D σ H
def S1 (X : Cx) (B : Bs) (M : Pl) (Δ : List En) (st : Stmt) (Ψ : Eo) : Prop := ∀ σ H, Sk X.K B M H σ Δ → ∀ D : Ends, Post X.K B M H D Ψ → WS X st D σ H
section
variable {X : Cx} {B : Bs} {M : Pl} {Δ : List En} {e a b c : Expr} {es : List Expr} {Ψ : Eo} {st : Stmt} {ss body : List Stmt} {pos : Pos}
theorem ss_nil (h : Ψ.nx M Δ) : SS X B M Δ [] Ψ := fun σ H S D p => PSs.to pss_nil (p.nx M Δ σ H h (Sub.refl _) S)
theorem ss_cons (h : S1 X B M Δ st { Ψ with nx := fun M1 Δ1 => SS X B M1 Δ1 ss Ψ }) : SS X B M Δ (st :: ss) Ψ := fun σ H S D p =>
  PSs.to (pss_cons ps_self pss_self) (h σ H S { D with nx := WSs X ss D } ⟨fun M1 Δ1 σ1 H1 q s S1 => q σ1 H1 S1 D (p.sub s), p.rt, p.bk, p.ct⟩)
theorem ss_one (h : S1 X B M Δ st Ψ) : SS X B M Δ [st] Ψ := fun σ H S D p => PSs.to (pss_one ps_self) (h σ H S D p)
/-- an owned slot is given out: from now on it stands still -/
def rem (M : Pl) (l : Addr) : Pl := ⟨fun b => M.m b ∧ b ≠ l, M.w⟩
theorem Sk.share {K : PySem.W.Frag} {H : Hp} {σ : L2.St} {i : Nat} {l : Addr} {t : Tr} (S : Sk K B M H σ Δ) (h : Δ[i]? = some (.own l t)) : Sk K B (rem M l) H σ (Δ.set i (.dat t)) := by
  obtain ⟨h1, h2, h3, h4, h5⟩ := S.ownAt h
  have hs : Sub (mi M.m H) (mi (rem M l).m H) := mi_le fun b z => z.1
  have hi : i < Δ.length := (List.getElem?_eq_some_iff.mp h).1
  refine { len := by rw [List.length_set]; exact S.len, al := fun b z => S.al b z.1, wm := fun b z => ⟨S.wm b z, fun e => h4 (e ▸ z)⟩, m0 := fun b z => ⟨S.m0 b z, fun e => h3 (e ▸ z)⟩, pm := S.pm, own := fun b z => S.own b z.1, wp := S.wp, fr := S.fr, tb := S.tb, dis := fun a b e f l' he hf el fl => ?_, sl := fun j e q => ?_ }
  · have ha : a ≠ i := by
      rintro rfl
      rw [List.getElem?_set_self hi] at he
      cases he; cases el
    have hb : b ≠ i := by
      rintro rfl
      rw [List.getElem?_set_self hi] at hf
      cases hf; cases fl
    rw [List.getElem?_set_ne (Ne.symm ha)] at he
    rw [List.getElem?_set_ne (Ne.symm hb)] at hf
    exact S.dis a b e f l' he hf el fl
  · by_cases hj : j = i
    · subst hj
      rw [List.getElem?_set_self hi] at q
      cases q
      exact ⟨_, h1, (h5.mono hs fun _ _ z => z).dt fun o _ z => mi_of (fun y => y.2 rfl) z⟩
    · rw [List.getElem?_set_ne (Ne.symm hj)] at q
      obtain ⟨o, e1, e2⟩ := S.sl j e q
      refine ⟨o, e1, ?_⟩
      have hne : ∀ l', e.has l' → l' ≠ l := fun l' z y => hj (S.dis j i e _ l q h (by rw [← y]; exact z) rfl)
      cases o with
      | none => cases e <;> first | exact True.intro | exact e2.elim
      | some v =>
        cases e with
        | any => exact True.intro
        | dat t => exact Dt.mono hs e2
        | own l' t =>
          obtain ⟨x1, x2, x3, x4, x5⟩ := e2
          exact ⟨x1, ⟨x2, hne l' rfl⟩, x3, x4, x5.mono hs fun _ _ z => z⟩
        | pen l' N =>
          obtain ⟨x1, x2, x3⟩ := e2
          exact ⟨x1, x2, x3.mono hs fun _ _ z => z⟩
        | tab l' as rs =>
          obtain ⟨x1, x2, x3, x4⟩ := e2
          exact ⟨x1, x2, fun b z => ⟨⟨(x3 b z).1, hne b z⟩, (x3 b z).2⟩, x4.mono hs fun _ _ _ _ z => z⟩
theorem ss_share (i : Nat) {l : Addr} {t : Tr} (hi : Δ[i]? = some (.own l t)) (h : SS X B (rem M l) (Δ.set i (.dat t)) ss Ψ) : SS X B M Δ ss Ψ := fun σ H S D p => h σ H (S.share hi) D (p.sub (mi_le fun b z => z.1))
theorem s1_share (i : Nat) {l : Addr} {t : Tr} (hi : Δ[i]? = some (.own l t)) (h : S1 X B (rem M l) (Δ.set i (.dat t)) st Ψ) : S1 X B M Δ st Ψ := fun σ H S D p => h σ H (S.share hi) D (p.sub (mi_le fun b z => z.1))
/-- an owned slot is read, and the answer is no object -/
def Tr.scal : Tr → Bool
  | .non => true
  | .bl _ => true
  | .int _ => true
  | .str _ => true
  | _ => false
theorem Dt.scal {K : PySem.W.Frag} {I I' : Hp} {v : V} {t : Tr} (h : Dt K I v t) (c : t.scal = true) : Dt K I' v t := by
  cases h <;> first | (cases c; done) | exact .non | exact .bl _ | exact .int _ | exact .str _
theorem Sk.back {K : PySem.W.Frag} {H H' : Hp} {σ : L2.St} {i : Nat} {l : Addr} {t : Tr} (S : Sk K B M H σ Δ) (h : Δ[i]? = some (.own l t)) (f : Fe M.w H H') (S' : Sk K B (rem M l) H' σ (Δ.set i (.dat t))) : Sk K B M H' σ Δ := by
  obtain ⟨h1, h2, h3, h4, h5⟩ := S.ownAt h
  have hs := S.sub f
  refine { len := S.len, al := fun b z => ?_, wm := S.wm, m0 := S.m0, pm := S.pm, own := S.own, wp := S.wp, fr := S'.fr, tb := S'.tb, dis := S.dis, sl := fun j e q => ?_ }
  · by_cases hb : b = l
    · subst hb
      have : ∃ o, NT o ∧ H b = some o := by
        cases t <;> first | exact h5.elim | skip
        · obtain ⟨xs, e, _⟩ := h5; exact ⟨_, nt_lst, e⟩
        · obtain ⟨xs, e, _⟩ := h5; exact ⟨_, nt_dK, e⟩
        · obtain ⟨_, xs, e, _⟩ := h5; exact ⟨_, nt_ins, e⟩
      obtain ⟨o, n, e⟩ := this
      exact ⟨o, f.k _ o h4 n e⟩
    · exact S'.al b ⟨z, hb⟩
  · obtain ⟨o, e1, e2⟩ := S.sl j e q
    refine ⟨o, e1, ?_⟩
    cases o with
    | none => cases e <;> first | exact True.intro | exact e2.elim
    | some v =>
      cases e with
      | any => exact True.intro
      | dat t => exact Dt.mono hs e2
      | own l' t =>
        obtain ⟨x1, x2, x3, x4, x5⟩ := e2
        exact ⟨x1, x2, x3, x4, x5.mono hs fun o n z => f.k _ o x4 n z⟩
      | pen l' N =>
        have hj : j ≠ i := by
          rintro rfl
          rw [h] at q; cases q
        obtain ⟨_, y1, sp, mo, z1, z2, z3⟩ := S'.penAt (i := j) (p := l') (N := N) (by rw [List.getElem?_set_ne (Ne.symm hj)]; exact q)
        obtain ⟨x1, x2, _, _, w1, w2, w3⟩ := e2
        exact ⟨x1, x2, sp, mo, z1, sub_seqL hs w2, z3⟩
      | tab l' as rs =>
        obtain ⟨x1, x2, x3, x4⟩ := e2
        exact ⟨x1, x2, x3, x4.mono hs fun b z o n y => f.k _ o (x3 b z).2.2 n y⟩
theorem EE.borrow (i : Nat) {l : Addr} {t : Tr} {Φ : Tr → List En → Prop} (hi : Δ[i]? = some (.own l t)) (h : EE X B (rem M l) (Δ.set i (.dat t)) e fun r Δ' => r.scal = true ∧ Δ' = Δ.set i (.dat t) ∧ Φ r Δ) : EE X B M Δ e Φ := fun σ H S Q k =>
  h σ H (S.share hi) Q fun r Δ' v H' p f S' d => by
    obtain ⟨p1, rfl, p3⟩ := p
    exact k r Δ v H' p3 f (S.back hi f S') (d.scal p1)
theorem ET.borrow (i : Nat) {l : Addr} {t : Tr} {Γ : Bool → List En → Prop} (hi : Δ[i]? = some (.own l t)) (h : ET X B (rem M l) (Δ.set i (.dat t)) e fun r Δ' => Δ' = Δ.set i (.dat t) ∧ Γ r Δ) : ET X B M Δ e Γ := fun σ H S Q k =>
  h σ H (S.share hi) Q fun r Δ' H' p f S' => by
    obtain ⟨rfl, p3⟩ := p
    exact k r Δ H' p3 f (S.back hi f S')
/-! ### assignments, returns, expressions, ifs -/
theorem s_expr {Φ : Tr → List En → Prop} (h : EE X B M Δ e fun _ Δ1 => Ψ.nx M Δ1) (hs : swapsWith e none pos.line X.env = pure false := by rfl) : S1 X B M Δ (.Expr e pos) Ψ := fun σ H S D p =>
  PS.to (ps_expr pe_self hs) (h σ H S _ fun t Δ1 v H1 q f S1 d => p.nx M Δ1 σ H1 q (S.sub f) S1)
theorem s_ret (h : EE X B M Δ e fun t Δ1 => Ψ.rt t Δ1) : S1 X B M Δ (.Return (some e) pos) Ψ := fun σ H S D p =>
  PS.to (ps_ret pe_self) (h σ H S _ fun t Δ1 v H1 q f S1 d => p.rt t M Δ1 v σ H1 q (S.sub f) S1 d)
theorem s_retN (h : Ψ.rt .non Δ) : S1 X B M Δ (.Return none pos) Ψ := fun σ H S D p => PS.to ps_retN (p.rt .non M Δ .non σ H h (Sub.refl _) S .non)
theorem s_pass (h : Ψ.nx M Δ) : S1 X B M Δ (.Pass pos) Ψ := fun σ H S D p => PS.to ps_pass (p.nx M Δ σ H h (Sub.refl _) S)
theorem s_break (h : Ψ.bk M Δ) : S1 X B M Δ (.Break pos) Ψ := fun σ H S D p => PS.to ps_break (p.bk M Δ σ H h (Sub.refl _) S)
theorem s_continue (h : Ψ.ct M Δ) : S1 X B M Δ (.Continue pos) Ψ := fun σ H S D p => PS.to ps_continue (p.ct M Δ σ H h (Sub.refl _) S)
theorem s_if {orelse : List Stmt} (h : ET X B M Δ c fun k Δ1 => (k = true → SS X B M Δ1 body Ψ) ∧ (k = false → SS X B M Δ1 orelse Ψ)) : S1 X B M Δ (.If c body orelse pos) Ψ := fun σ H S D p =>
  PS.to (ps_if pt_self pss_self pss_self) (h σ H S _ fun k Δ1 H1 q f S1 => by
    cases k with
    | true => exact iteT (q.1 rfl σ H1 S1 D (p.sub (S.sub f)))
    | false => exact iteF (q.2 rfl σ H1 S1 D (p.sub (S.sub f))))
/-- x = e -/
theorem s_asg (i : Nat) {x : Str} {p' : Pos} (hN : X.N.Nodup) (hi : X.N[i]? = some x) (h : EE X B M Δ e fun t Δ1 => Ψ.nx M (Δ1.set i (.dat t)))
    (hs : swapsWith e (some (.Name x p')) pos.line X.env = pure false := by rfl) (hf : X.fn x = true ∨ X.env.scope.names.lookup x = some .local := by first | exact .inl rfl | exact .inr rfl) (hx : Loc X.env.scope x := by first | exact Or.inl rfl | exact Or.inr rfl) : S1 X B M Δ (.Assign [.Name x p'] e pos) Ψ := fun σ H S D p =>
  PS.to (ps_set (i := i) hN hi hx pe_self hs hf) (h σ H S _ fun t Δ1 v H1 q f S1 d => p.nx M _ _ H1 q (S.sub f) (S1.set i d))
/-- x = a new list, owned -/
theorem s_asgO (i : Nat) {x : Str} {p' : Pos} (hN : X.N.Nodup) (hi : X.N[i]? = some x) (h : EO X B M Δ e fun t Δ1 => ∀ l, ¬ M.m l → Ψ.nx (ins M l) (Δ1.set i (.own l t)))
    (hs : swapsWith e (some (.Name x p')) pos.line X.env = pure false := by rfl) (hf : X.fn x = true ∨ X.env.scope.names.lookup x = some .local := by first | exact .inl rfl | exact .inr rfl) (hx : Loc X.env.scope x := by first | exact Or.inl rfl | exact Or.inr rfl) : S1 X B M Δ (.Assign [.Name x p'] e pos) Ψ := fun σ H S D p =>
  PS.to (ps_set (i := i) hN hi hx pe_self hs hf) (h σ H S _ fun t Δ1 l H1 q f hl S1 hn ow => by
    have nM := S.notM hl
    refine p.nx (ins M l) _ _ H1 (q l nM) (mi_new hl S f) (S1.put i (o := some (.ref l)) (e := .own l t) ⟨rfl, .inr rfl, fun z => nM (S.m0 l z), fun z => nM (S.wm l z), ow⟩ fun l' z j f' _ hf' y => ?_)
    cases z
    exact hn f' (List.mem_of_getElem? hf') y)
/-- a, b = x, y -/
theorem s_par (i j : Nat) {x y : Str} {px py pt pt2 : Pos} {kt k2 : Nat} (hE : ∀ ta, PA X [a, b] ta → PS X (.Assign [.Tuple [.Name x px, .Name y py] kt pt] (.Tuple [a, b] k2 pt2) pos) (tPar i j ta)) (h : EE X B M Δ a fun t Δ1 => EE X B M Δ1 b fun u Δ2 => Ψ.nx M ((Δ2.set i (.dat t)).set j (.dat u)))
    (hs : starEach [a, b] X.env = (false, eval a X.env) :: starEach [b] X.env := by rfl) (hs2 : starEach [b] X.env = (false, eval b X.env) :: starEach [] X.env := by rfl) : S1 X B M Δ (.Assign [.Tuple [.Name x px, .Name y py] kt pt] (.Tuple [a, b] k2 pt2) pos) Ψ := fun σ H S D p =>
  PS.to (hE _ (pa_cons pe_self (pa_cons pe_self pa_nil hs2) hs)) (h σ H S _ fun t Δ1 v H1 q f S1 d => q σ H1 S1 _ fun u Δ2 w H2 q2 f2 S2 d2 =>
    ⟨v, w, rfl, p.nx M _ _ H2 q2 (S.sub (f.trans f2)) ((S2.set i (d.mono (S1.sub f2))).set j d2)⟩)
/-- a, b = two new lists -/
theorem s_parOO (i j : Nat) {x y : Str} {px py pt pt2 : Pos} {kt k2 : Nat} (hE : ∀ ta, PA X [a, b] ta → PS X (.Assign [.Tuple [.Name x px, .Name y py] kt pt] (.Tuple [a, b] k2 pt2) pos) (tPar i j ta)) (hij : i ≠ j) (h : EO X B M Δ a fun t Δ1 => ∀ l, ¬ M.m l → EO X B (ins M l) Δ1 b fun u Δ2 => ∀ m, ¬ M.m m → m ≠ l → Δ2 = Δ1 ∧ Ψ.nx (ins (ins M l) m) ((Δ2.set i (.own l t)).set j (.own m u)))
    (hs : starEach [a, b] X.env = (false, eval a X.env) :: starEach [b] X.env := by rfl) (hs2 : starEach [b] X.env = (false, eval b X.env) :: starEach [] X.env := by rfl) : S1 X B M Δ (.Assign [.Tuple [.Name x px, .Name y py] kt pt] (.Tuple [a, b] k2 pt2) pos) Ψ := fun σ H S D p =>
  PS.to (hE _ (pa_cons pe_self (pa_cons pe_self pa_nil hs2) hs)) (h σ H S _ fun t Δ1 l H1 q f hl S1 hn ow => q l (S.notM hl) σ H1 S1 _ fun u Δ2 m H2 q2 f2 hm S2 hn2 ow2 => by
    have nM := S.notM hl
    have nm := S1.notM hm
    have hml : m ≠ l := fun z => nm (.inr z)
    obtain ⟨rfl, q3⟩ := q2 m (fun z => nm (.inl z)) hml
    have nw : ¬ M.w l := fun z => nM (S.wm l z)
    have s12 : Sub (mi (ins M l).m H1) (mi (ins (ins M l) m).m H2) := mi_new hm S1 f2
    have ow' : Ow X.K (mi (ins (ins M l) m).m H2) H2 l t := ow.mono s12 fun o n z => f2.k _ o nw n z
    refine ⟨_, _, rfl, p.nx _ _ _ H2 q3 ((mi_new hl S f).trans s12) ?_⟩
    have S3 := S2.put i (o := some (.ref l)) (e := .own l t) ⟨rfl, .inl (.inr rfl), fun z => nM (S.m0 l z), nw, ow'⟩ fun l' z j' f' _ hf' y => by
      cases z
      exact hn f' (List.mem_of_getElem? hf') y
    refine S3.put j (o := some (.ref m)) (e := .own m u) ⟨rfl, .inr rfl, fun z => nm (S1.m0 m z), fun z => nm (S1.wm m z), ow2⟩ fun l' z j' f' hj' hf' y => ?_
    cases z
    by_cases hji : j' = i
    · subst hji
      rw [List.getElem?_set] at hf'
      split at hf'
      · split at hf'
        · cases hf'; cases y; exact hml rfl
        · cases hf'
      · rename_i z; exact z rfl
    · rw [List.getElem?_set_ne (Ne.symm hji)] at hf'
      exact hn2 f' (List.mem_of_getElem? hf') y)
/-- an owned place is written -/
theorem tabs_upd {T : List (Addr × Str)} {H : Hp} {l : Addr} {o : HO} (h : Tabs T H) (h1 : ∀ ps, H l ≠ some (.tbl ps)) (h2 : ∀ q, H l ≠ some (CodeO l q)) : Tabs T (upd H l o) := fun p hp => by
  obtain ⟨ps, e1, e2, e3⟩ := h p hp
  refine ⟨ps, by rw [upd_ne (fun z => by rw [z] at e1; exact h1 ps e1)]; exact e1, e2, fun pos cv hc => ?_⟩
  obtain ⟨c, z1, z2⟩ := e3 pos cv hc
  exact ⟨c, z1, by rw [upd_ne (fun z => h2 p.2 (by subst z; exact z2))]; exact z2⟩
theorem Ow.kind {K : PySem.W.Frag} {I H : Hp} {l : Addr} {t : Tr} (h : Ow K I H l t) : (∃ xs, H l = some (.lst xs)) ∨ (∃ xs, H l = some (.dK xs)) ∨ ∃ C dx fs, H l = some (.ins C dx fs) := by
  cases t <;> first | exact h.elim | skip
  · obtain ⟨xs, e, _⟩ := h; exact .inl ⟨_, e⟩
  · obtain ⟨xs, e, _⟩ := h; exact .inr (.inl ⟨_, e⟩)
  · obtain ⟨_, xs, e, _⟩ := h; exact .inr (.inr ⟨_, _, _, e⟩)
theorem kind_ne {H : Hp} {l : Addr} (h : (∃ xs, H l = some (.lst xs)) ∨ (∃ xs, H l = some (.dK xs)) ∨ ∃ C dx fs, H l = some (.ins C dx fs)) : (∀ ps, H l ≠ some (.tbl ps)) ∧ ∀ q, H l ≠ some (CodeO l q) := by
  rcases h with ⟨_, e⟩ | ⟨_, e⟩ | ⟨_, _, _, e⟩ <;> refine ⟨fun ps z => ?_, fun q z => ?_⟩ <;> (rw [e] at z; have z' := Option.some.inj z; first | exact HO.noConfusion z' | (unfold CodeO at z'; exact HO.noConfusion z'))
theorem Sk.write {K : PySem.W.Frag} {H : Hp} {σ : L2.St} {i : Nat} {l : Addr} {t t' : Tr} {o : HO} (S : Sk K B M H σ Δ) (h : Δ[i]? = some (.own l t)) (ow : Ow K (mi M.m H) (upd H l o) l t') :
    Sk K B M (upd H l o) σ (Δ.set i (.own l t')) ∧ Sub (mi M.m H) (mi M.m (upd H l o)) := by
  obtain ⟨h1, h2, h3, h4, h5⟩ := S.ownAt h
  have s := mi_write (M := M.m) (H := H) (l := l) (o := o) h2
  have kd := kind_ne h5.kind
  have h0 : B.H0 l = none := (S.own l h2).elim (fun z => absurd z h3) id
  have hi : i < Δ.length := (List.getElem?_eq_some_iff.mp h).1
  refine ⟨{ len := by rw [List.length_set]; exact S.len, al := fun b z => ?_, wm := S.wm, m0 := S.m0, pm := S.pm, own := S.own, wp := S.wp, fr := ⟨fun b u p n e => ?_, fun b ps e => ?_⟩, tb := tabs_upd S.tb kd.1 kd.2, dis := fun a b e f l' he hf el fl => ?_, sl := fun j e q => ?_ }, s⟩
  · by_cases hb : b = l
    · exact ⟨o, by rw [hb, upd_same]⟩
    · obtain ⟨u, e⟩ := S.al b z
      exact ⟨u, by rw [upd_ne hb]; exact e⟩
  · have hb : b ≠ l := fun z => by rw [z, h0] at e; cases e
    rw [upd_ne hb]; exact S.fr.k b u p n e
  · have hb : b ≠ l := fun z => by rw [z, h0] at e; cases e
    obtain ⟨qs, e'⟩ := S.fr.t b ps e
    exact ⟨qs, by rw [upd_ne hb]; exact e'⟩
  · have key : ∀ (a : Nat) (e : En), (Δ.set i (.own l t'))[a]? = some e → ∃ e', Δ[a]? = some e' ∧ (∀ z, e.has z → e'.has z) := fun a e he => by
      by_cases ha : a = i
      · subst ha
        rw [List.getElem?_set_self hi] at he
        cases he
        exact ⟨_, h, fun _ z => z⟩
      · rw [List.getElem?_set_ne (Ne.symm ha)] at he
        exact ⟨e, he, fun _ z => z⟩
    obtain ⟨e1, x1, x2⟩ := key a e he
    obtain ⟨f1, y1, y2⟩ := key b f hf
    exact S.dis a b e1 f1 l' x1 y1 (x2 _ el) (y2 _ fl)
  · by_cases hj : j = i
    · subst hj
      rw [List.getElem?_set_self hi] at q
      cases q
      exact ⟨_, h1, rfl, h2, h3, h4, ow.mono s fun _ _ z => z⟩
    · rw [List.getElem?_set_ne (Ne.symm hj)] at q
      obtain ⟨u, e1, e2⟩ := S.sl j e q
      exact ⟨u, e1, e2.mono (fun _ z => z) (fun _ => Iff.rfl) s fun l' z o' _ y => by rw [upd_ne (fun w => hj (S.dis j i e _ l q h (by rw [← w]; exact z) rfl))]; exact y⟩
/-- x.append(e), x owned -/
theorem s_append (i : Nat) {x : Str} {p1 p2 p3 : Pos} (hN : X.N[i]? = some x) {l : Addr} {ts0 : List Tr} (hi : Δ[i]? = some (.own l (.lst ts0)))
    (h : EE X B M Δ e fun t Δ1 => ∃ ts, Δ1[i]? = some (.own l (.lst ts)) ∧ ts.length < sizeLine ∧ Ψ.nx M (Δ1.set i (.own l (.lst (ts ++ [t])))))
    (hE : PS X (.Expr (.Call (.Attribute (.Name x p1) "append" p2) [e] [] p3) pos) (tDrop (tBM X.K "list" rAppend (tVar i) (tCons (WE X e) tNil))) := by
      exact ps_expr (pe_bm PySem.F.plainAttrs_list PySem.F.slot_list_append PySem.F.type_list_append mt_append (pv _) (pa_cons pe_self pa_nil))) (hv : Vis X.env.scope x := by first | exact Or.inl rfl | exact Or.inr (Or.inl rfl) | exact Or.inr (Or.inr rfl)) : S1 X B M Δ (.Expr (.Call (.Attribute (.Name x p1) "append" p2) [e] [] p3) pos) Ψ := fun σ H S D p => by
  obtain ⟨h1, h2, h3, h4, xs0, h5, h6⟩ := S.ownAt hi
  refine PS.to hE ⟨_, h1, .inl ⟨rfl, _, SqL.of h5⟩, h σ H S _ fun t Δ1 v H1 q f S1 d => ?_⟩
  obtain ⟨ts, q1, q2, q3⟩ := q
  obtain ⟨_, _, _, _, xs, h7, h8⟩ := S1.ownAt q1
  refine ⟨l, xs, v, rfl, rfl, h7, by rw [h8.length]; exact q2, ?_⟩
  obtain ⟨S2, s2⟩ := S1.write (o := .lst (xs ++ [v])) (t' := .lst (ts ++ [t])) q1 ⟨_, upd_same, h8.append (.cons d .nil)⟩
  exact p.nx M _ σ _ q3 ((S.sub f).trans s2) S2
end
end Wf

set_option Elab.async false
set_option linter.all false
set_option maxRecDepth 100000
set_option maxHeartbeats 1000000
namespace Wf
open PySem PySem.Spec PyProof.Rows L2 LamX
/-! ### targets -/
inductive Tg where
  | nm (k : Nat)
  | tp (a b : Nat)
def Tg.vs : Tg → List Nat
  | .nm k => [k]
  | .tp a b => [a, b]
def Tg.g (K : PySem.W.Frag) : Tg → TG
  | .nm k => gName k
  | .tp a b => gTup K 2 (gCons (gName a) (gCons (gName b) gNil))
def Tg.ok : Tg → Tr → Prop
  | .nm _, _ => True
  | .tp _ _, t => ∃ x y, t = .tup [x, y]
def Tg.set (Δ : List En) : Tg → Tr → List En
  | .nm k, t => Δ.set k (.dat t)
  | .tp a b, .tup [x, y] => (Δ.set a (.dat x)).set b (.dat y)
  | .tp _ _, _ => Δ
def Tg.put (σ : L2.St) : Tg → List V → L2.St
  | .nm k, [v] => σ.set k (some v)
  | .tp a b, [v, w] => (σ.set a (some v)).set b (some w)
  | _, _ => σ
theorem tg_run {K : PySem.W.Frag} {B : Bs} {M : Pl} {H : Hp} {σ : L2.St} {Δ : List En} (T : Tg) {v : V} {t : Tr} (S : Sk K B M H σ Δ) (d : Dt K (mi M.m H) v t) (ok : T.ok t) (Q : L2.St → Hp → Prop)
    (h : ∀ vs, Sk K B M H (T.put σ vs) (T.set Δ t) → Q (T.put σ vs) H) : T.g K v σ H Q := by
  cases T with
  | nm k => exact h [v] (S.set k d)
  | tp a b =>
    obtain ⟨x, y, rfl⟩ := ok
    cases d with
    | tup h1 h2 =>
      cases h2 with
      | cons d1 h3 =>
        cases h3 with
        | cons d2 h4 =>
          cases h4
          exact ⟨_, _, rfl, sub_seqT mi_sub h1, rfl, _, _, rfl, _, _, rfl, rfl, h [_, _] ((S.set a d1).set b d2)⟩
/-! ### what is walked -/
def EI (X : Cx) (B : Bs) (M : Pl) (Δ : List En) (tg iter : Expr) (Φ : Nat → (Nat → Tr) → List En → Prop) : Prop := ∃ wi, PI X tg iter wi ∧ ∀ σ H, Sk X.K B M H σ Δ → ∀ R : It → Hp → Prop,
  (∀ (n : Nat) (f : Nat → Tr) Δ' (J : It) (G : Hp → Prop) (Y : Nat → Hp → V → Hp → Prop) H', Φ n f Δ' → Fe M.w H H' → Sk X.K B M H' σ Δ' → Walk J n G Y →
    (∀ (M2 : Addr → Prop) H2, Sub (mi M.m H') (mi M2 H2) → G H2) →
    (∀ (i : Nat) x Ha Hb (M2 : Addr → Prop), i < n → Y i Ha x Hb → Sub (mi M.m H') (mi M2 Ha) → (∀ p, Ha p = none → ¬ M2 p) → Same Ha Hb ∧ Dt X.K (mi M2 Hb) x (f i)) → R J H') → wi σ H R
section
variable {X : Cx} {B : Bs} {M : Pl} {Δ : List En} {e l a b c tg iter : Expr} {es : List Expr} {Ψ : Eo} {st : Stmt} {ss body : List Stmt} {pos : Pos} {Φ : Nat → (Nat → Tr) → List En → Prop}
theorem getD_of {α : Type} {ts : List α} {i : Nat} {d t : α} (h : ts[i]? = some t) : ts.getD i d = t := by
  rw [List.getD_eq_getElem?_getD, h]; rfl
theorem ei_list (h : EE X B M Δ l fun t Δ1 => ∃ ts, t = .lst ts ∧ Φ ts.length (fun i => ts.getD i .non) Δ1) : EI X B M Δ tg l Φ :=
  ⟨_, pi_list pe_self, fun σ H S R k => h σ H S _ fun t Δ1 v H1 p f S1 d => by
    obtain ⟨ts, rfl, q⟩ := p
    cases d with
    | lst h1 h2 =>
      rename_i a xs
      refine ⟨a, rfl, ⟨xs, sub_seqL mi_sub h1⟩, k ts.length _ Δ1 (Itl X.K a) _ _ H1 q f S1 (h2.length ▸ walk_list) (fun M2 H2 s => sub_seqL mi_sub (sub_seqL s h1)) fun i x Ha Hb M2 hi y s _ => ?_⟩
      obtain ⟨rfl, y⟩ := y
      obtain ⟨t, e1, e2⟩ := h2.getV y
      exact ⟨fun _ _ z => z, by rw [getD_of e1]; exact e2.mono s⟩⟩
theorem ei_tup (h : EE X B M Δ l fun t Δ1 => ∃ ts, t = .tup ts ∧ Φ ts.length (fun i => ts.getD i .non) Δ1) : EI X B M Δ tg l Φ :=
  ⟨_, pi_tup pe_self, fun σ H S R k => h σ H S _ fun t Δ1 v H1 p f S1 d => by
    obtain ⟨ts, rfl, q⟩ := p
    cases d with
    | tup h1 h2 =>
      rename_i a xs
      refine ⟨a, rfl, ⟨xs, sub_seqT mi_sub h1⟩, k ts.length _ Δ1 (Itt X.K a) _ _ H1 q f S1 (h2.length ▸ walk_tup) (fun M2 H2 s => sub_seqT mi_sub (sub_seqT s h1)) fun i x Ha Hb M2 hi y s _ => ?_⟩
      obtain ⟨rfl, y⟩ := y
      obtain ⟨t, e1, e2⟩ := h2.getV y
      exact ⟨fun _ _ z => z, by rw [getD_of e1]; exact e2.mono s⟩⟩
theorem ei_str (h : EE X B M Δ l fun t Δ1 => ∃ z : Str, t = .str z ∧ Φ z.cps.size (fun i => .str ⟨#[z.cps.getD i 0]⟩) Δ1) : EI X B M Δ tg l Φ :=
  ⟨_, pi_str pe_self, fun σ H S R k => h σ H S _ fun t Δ1 v H1 p f S1 d => by
    obtain ⟨z, rfl, q⟩ := p
    cases d
    refine ⟨z, rfl, k z.cps.size _ Δ1 (Its z) _ _ H1 q f S1 walk_str (fun _ _ _ => True.intro) fun i x Ha Hb M2 hi y s _ => ?_⟩
    obtain ⟨rfl, c, y, rfl⟩ := y
    refine ⟨fun _ _ z => z, ?_⟩
    have : z.cps.getD i 0 = c := by rw [Array.getD_eq_getD_getElem?, y]; rfl
    rw [this]
    exact .str _⟩
theorem ei_range1 {p pos : Pos} (hg : Gl X "range") (hm : X.mg "range" = none) (h : EE X B M Δ a fun t Δ1 => ∃ j : Int, t = .int j ∧ -(2 ^ 62) ≤ j ∧ j < 2 ^ 62 ∧ Φ j.toNat (fun i => .int i) Δ1) (hs : starEach [a] X.env = [(false, eval a X.env)] := by rfl) : EI X B M Δ tg (.Call (.Name "range" p) [a] [] pos) Φ :=
  ⟨_, pi_range1 hg hm (pa_cons pe_self pa_nil hs) hs, fun σ H S R k => h σ H S _ fun t Δ1 v H1 p f S1 d => by
    obtain ⟨j, rfl, h1, h2, q⟩ := p
    cases d
    refine ⟨j, rfl, h1, h2, k j.toNat _ Δ1 _ _ _ H1 q f S1 walk_range (fun _ _ _ => True.intro) fun i x Ha Hb M2 hi y s _ => ?_⟩
    obtain ⟨rfl, rfl⟩ := y
    refine ⟨fun _ _ z => z, ?_⟩
    show Dt X.K _ (.int (0 + (i : Int))) (.int (i : Int))
    rw [Int.zero_add]
    exact .int _⟩
theorem ei_range2 {p pos : Pos} (hg : Gl X "range") (hm : X.mg "range" = none) (h : EE X B M Δ a fun t Δ1 => EE X B M Δ1 b fun u Δ2 => ∃ i j : Int, t = .int i ∧ u = .int j ∧ (-(2 ^ 62) ≤ i ∧ i < 2 ^ 62 ∧ -(2 ^ 62) ≤ j ∧ j < 2 ^ 62) ∧ Φ (j - i).toNat (fun k => .int (i + k)) Δ2)
    (hs : starEach [a, b] X.env = (false, eval a X.env) :: starEach [b] X.env := by rfl) (hs2 : starEach [b] X.env = (false, eval b X.env) :: starEach [] X.env := by rfl) (hE : ∀ ta, PA X [a, b] ta → PI X tg (.Call (.Name "range" p) [a, b] [] pos) (iRng2 ta) := by exact fun _ ha => pi_range2 (by assumption) (by assumption) ha) : EI X B M Δ tg (.Call (.Name "range" p) [a, b] [] pos) Φ :=
  ⟨_, hE _ (pa_cons pe_self (pa_cons pe_self pa_nil hs2) hs), fun σ H S R k => h σ H S _ fun t Δ1 v H1 p f S1 d => p σ H1 S1 _ fun u Δ2 w H2 p2 f2 S2 d2 => by
    obtain ⟨i, j, rfl, rfl, hb, q⟩ := p2
    cases d; cases d2
    refine ⟨i, j, rfl, hb, k _ _ Δ2 _ _ _ H2 q (f.trans f2) S2 walk_range (fun _ _ _ => True.intro) fun i x Ha Hb M2 hi y s _ => ?_⟩
    obtain ⟨rfl, rfl⟩ := y
    exact ⟨fun _ _ z => z, .int _⟩⟩
theorem ei_enum {elts : List Expr} {kk : Nat} {p pos tpos : Pos} (hg : Gl X "enumerate") (hm : X.mg "enumerate" = none) (h : EE X B M Δ a fun t Δ1 => ∃ ts, t = .lst ts ∧ Φ ts.length (fun i => .tup [.int i, ts.getD i .non]) Δ1) (hs : starEach [a] X.env = [(false, eval a X.env)] := by rfl) :
    EI X B M Δ (.Tuple elts kk tpos) (.Call (.Name "enumerate" p) [a] [] pos) Φ :=
  ⟨_, pi_enum hg hm (pa_cons pe_self pa_nil hs) hs, fun σ H S R k => h σ H S _ fun t Δ1 v H1 p f S1 d => by
    obtain ⟨ts, rfl, q⟩ := p
    cases d with
    | lst h1 h2 =>
      rename_i a xs
      refine ⟨a, xs, rfl, sub_seqL mi_sub h1, k ts.length _ Δ1 (Ite X.K a) _ _ H1 q f S1 (h2.length ▸ walk_enum) (fun M2 H2 s => sub_seqL mi_sub (sub_seqL s h1)) fun i x Ha Hb M2 hi y s nM => ?_⟩
      obtain ⟨T, x1, y1, rfl, hT, rfl, ex, ey⟩ := y
      obtain rfl : V.int (i : Nat) = x1 := Option.some.inj ex
      obtain ⟨t, e1, e2⟩ := h2.getV ey
      have sm := same_new (o := .tup [.int (i : Nat), y1]) hT
      refine ⟨sm, ?_⟩
      rw [getD_of e1]
      exact .tup (SqT.of (mi_of (nM T hT) upd_same)) (.cons (.int _) (.cons ((e2.mono s).mono (Sub.of sm).mi) .nil))⟩
theorem ei_zip {elts : List Expr} {kk : Nat} {p pos tpos : Pos} (hg : Gl X "zip") (hm : X.mg "zip" = none) (h : EE X B M Δ a fun t Δ1 => EE X B M Δ1 b fun u Δ2 => ∃ ts us, t = .lst ts ∧ u = .lst us ∧ Φ (min ts.length us.length) (fun i => .tup [ts.getD i .non, us.getD i .non]) Δ2)
    (hs : starEach [a, b] X.env = (false, eval a X.env) :: starEach [b] X.env := by rfl) (hs2 : starEach [b] X.env = (false, eval b X.env) :: starEach [] X.env := by rfl) (hpl : (backTo pos (starEach [b] X.env)).any (·.1) = false := by rfl) :
    EI X B M Δ (.Tuple elts kk tpos) (.Call (.Name "zip" p) [a, b] [] pos) Φ :=
  ⟨_, pi_zip hg hm (pa_cons pe_self (pa_cons pe_self pa_nil hs2) hs) hs hpl, fun σ H S R k => h σ H S _ fun t Δ1 v H1 p f S1 d => p σ H1 S1 _ fun u Δ2 w H2 p2 f2 S2 d2 => by
    obtain ⟨ts, us, rfl, rfl, q⟩ := p2
    have d := d.mono (S1.sub f2)
    cases d with
    | lst h1 h2 =>
      cases d2 with
      | lst g1 g2 =>
        rename_i a1 xs a2 ys
        refine ⟨a1, a2, xs, ys, rfl, sub_seqL mi_sub h1, sub_seqL mi_sub g1, k _ _ Δ2 (Itz X.K a1 a2) _ _ H2 q (f.trans f2) S2 (walk_zip (by rw [h2.length, g2.length])) (fun M2 H2 s => ⟨sub_seqL mi_sub (sub_seqL s h1), sub_seqL mi_sub (sub_seqL s g1)⟩) fun i x Ha Hb M2 hi y s nM => ?_⟩
        obtain ⟨T, x1, y1, rfl, hT, rfl, ex, ey⟩ := y
        obtain ⟨t, e1, e2⟩ := h2.getV ex
        obtain ⟨u, e3, e4⟩ := g2.getV ey
        have sm := same_new (o := .tup [x1, y1]) hT
        refine ⟨sm, ?_⟩
        rw [getD_of e1, getD_of e3]
        exact .tup (SqT.of (mi_of (nM T hT) upd_same)) (.cons ((e2.mono s).mono (Sub.of sm).mi) (.cons ((e4.mono s).mono (Sub.of sm).mi) .nil))⟩
/-! ### for, while -/
theorem s_for (T : Tg) (hp : PassesOwn (model X.prog X.w) X.A X.env X.xe) (hc : X.calm = true) (hg : PG X tg (T.g X.K))
    (h : EI X B M Δ tg iter fun n f Δ1 => ∃ Jv : Nat → Pl → List En → Prop, Jv 0 M Δ1 ∧ (∀ i M' Δ', i < n → Jv i M' Δ' → T.ok (f i) ∧ SS X B M' (T.set Δ' (f i)) body { nx := Jv (i + 1), rt := Ψ.rt, bk := Ψ.nx, ct := Jv (i + 1) }) ∧ ∀ M' Δ', Jv n M' Δ' → Ψ.nx M' Δ')
    (hs : ∀ x, foldedSetIterable iter X.env x = pure x := by intro _; rfl) : S1 X B M Δ (.For tg iter body [] pos) Ψ := fun σ H S D p => by
  obtain ⟨wi, hi, k⟩ := h
  refine PS.to (ps_for hp hc hi hg pss_self hs) (k σ H S _ fun n f Δ1 J G Y H1 q fe S1 w hG hY => ?_)
  obtain ⟨Jv, j0, jt, jd⟩ := q
  have s0 := S.sub fe
  refine for_it w (fun i σ' H' => ∃ M' Δ', Jv i M' Δ' ∧ Sub (mi M.m H1) (mi M'.m H') ∧ Sk X.K B M' H' σ' Δ') ⟨M, Δ1, j0, Sub.refl _, S1⟩ (fun i σ' H' _ ⟨M', Δ', _, s, _⟩ => hG M'.m H' s) ?_ fun σ' H' ⟨M', Δ', j, s, S'⟩ => p.nx M' Δ' σ' H' (jd M' Δ' j) (s0.trans s) S'
  rintro i x σ' Ha Hb hi ⟨M', Δ', j, s, S'⟩ y
  obtain ⟨sm, d⟩ := hY i x Ha Hb M'.m hi y s fun p hp => S'.notM hp
  obtain ⟨ok, hb⟩ := jt i M' Δ' hi j
  have Sb := S'.same sm
  have sab : Sub (mi M.m H1) (mi M'.m Hb) := s.trans (Sub.of sm).mi
  refine tg_run T Sb d ok _ fun vs St => hb _ Hb St _ ⟨fun M2 Δ2 σ2 H2 a b c => ⟨M2, Δ2, a, sab.trans b, c⟩, fun t M2 Δ2 v σ2 H2 a b c d => p.rt t M2 Δ2 v σ2 H2 a (s0.trans (sab.trans b)) c d, fun M2 Δ2 σ2 H2 a b c => p.nx M2 Δ2 σ2 H2 a (s0.trans (sab.trans b)) c, fun M2 Δ2 σ2 H2 a b c => ⟨M2, Δ2, a, sab.trans b, c⟩⟩
theorem s_while (hp : PassesOwn (model X.prog X.w) X.A X.env X.xe) (Jv : Nat → Pl → List En → Prop) (m0 : Nat) (h0 : Jv m0 M Δ)
    (h : ∀ m M' Δ', Jv m M' Δ' → ET X B M' Δ' c fun k Δ2 => (k = true → SS X B M' Δ2 body { nx := fun M3 Δ3 => ∃ m', m' < m ∧ Jv m' M3 Δ3, rt := Ψ.rt, bk := Ψ.nx, ct := fun M3 Δ3 => ∃ m', m' < m ∧ Jv m' M3 Δ3 }) ∧ (k = false → Ψ.nx M' Δ2)) : S1 X B M Δ (.While c body [] pos) Ψ := fun σ H S D p => by
  refine PS.to (ps_while hp pt_self pss_self) ⟨fun m σ' H' => ∃ M' Δ', Jv m M' Δ' ∧ Sub (mi M.m H) (mi M'.m H') ∧ Sk X.K B M' H' σ' Δ', ⟨m0, M, Δ, h0, Sub.refl _, S⟩, ?_⟩
  rintro m σ' H' ⟨M', Δ', j, s, S'⟩
  refine h m M' Δ' j σ' H' S' _ fun k Δ2 H2 q fe S2 => ?_
  have s2 : Sub (mi M.m H) (mi M'.m H2) := s.trans (S'.sub fe)
  cases k with
  | true =>
    refine iteT ⟨fun σ3 H3 => ∃ m', m' < m ∧ ∃ M3 Δ3, Jv m' M3 Δ3 ∧ Sub (mi M.m H) (mi M3.m H3) ∧ Sk X.K B M3 H3 σ3 Δ3, fun _ _ ⟨m', a, b⟩ => ⟨m', a, b⟩, ?_⟩
    refine q.1 rfl σ' H2 S2 _ ⟨fun M3 Δ3 σ3 H3 ⟨m', a, a2⟩ b c => ⟨m', a, M3, Δ3, a2, s2.trans b, c⟩, fun t M3 Δ3 v σ3 H3 a b c d => p.rt t M3 Δ3 v σ3 H3 a (s2.trans b) c d, fun M3 Δ3 σ3 H3 a b c => p.nx M3 Δ3 σ3 H3 a (s2.trans b) c, fun M3 Δ3 σ3 H3 ⟨m', a, a2⟩ b c => ⟨m', a, M3, Δ3, a2, s2.trans b, c⟩⟩
  | false => exact iteF (p.nx M' Δ2 σ' H2 (q.2 rfl) s2 S2)
/-! ### comprehensions -/
def wipeE (Δ : List En) : List Nat → List En
  | [] => Δ
  | v :: vs => (wipeE Δ vs).set v .any
theorem Sk.wipe {K : PySem.W.Frag} {H : Hp} {σ : L2.St} (S : Sk K B M H σ Δ) : ∀ vs : List Nat, Sk K B M H (L2.wipe σ vs) (wipeE Δ vs)
  | [] => S
  | v :: vs => (S.wipe vs).forget v
theorem wipe_get {σ : L2.St} {i : Nat} : ∀ {vs : List Nat}, i ∉ vs → (L2.wipe σ vs)[i]? = σ[i]?
  | [], _ => rfl
  | v :: vs, h => by
    unfold L2.wipe
    rw [List.getElem?_set_ne (fun e => h (by rw [e]; exact List.mem_cons_self))]
    exact wipe_get fun z => h (List.mem_cons_of_mem _ z)
theorem wipeE_any {Δ : List En} {i : Nat} : ∀ {vs : List Nat} {e : En}, i ∈ vs → (wipeE Δ vs)[i]? = some e → e = .any
  | v :: vs, e, h, q => by
    unfold wipeE at q
    by_cases hv : v = i
    · subst hv
      rw [List.getElem?_set] at q
      rw [if_pos rfl] at q
      split at q
      · exact (Option.some.inj q).symm
      · cases q
    · rw [List.getElem?_set_ne hv] at q
      exact wipeE_any ((List.mem_cons.mp h).elim (fun z => absurd z.symm hv) id) q
theorem wipe_put {σ : L2.St} (T : Tg) (vs : List V) (h : T.vs.Nodup) : L2.wipe (T.put (L2.wipe σ T.vs) vs) T.vs = L2.wipe σ T.vs := by
  cases T with
  | nm k =>
    show ((Tg.put _ (.nm k) vs)).set k none = (σ.set k none)
    cases vs with
    | nil => show ((σ.set k none).set k none) = _; rw [List.set_set]
    | cons v r =>
      cases r with
      | nil => show (((σ.set k none).set k (some v)).set k none) = _; rw [List.set_set, List.set_set]
      | cons _ _ => show ((σ.set k none).set k none) = _; rw [List.set_set]
  | tp a b =>
    have hab : a ≠ b := by
      intro e
      subst e
      exact (List.nodup_cons.mp h).1 List.mem_cons_self
    show (((Tg.put ((σ.set b none).set a none) (.tp a b) vs).set b none).set a none) = ((σ.set b none).set a none)
    have z : ((((σ.set b none).set a none).set b none).set a none) = ((σ.set b none).set a none) := by
      rw [List.set_comm _ _ hab, List.set_set, List.set_set]
    match vs with
    | [v, w] =>
      show (((((σ.set b none).set a none).set a (some v)).set b (some w)).set b none).set a none = _
      rw [List.set_set, List.set_set, List.set_comm _ _ hab, List.set_set, List.set_set]
    | [] => exact z
    | [_] => exact z
    | _ :: _ :: _ :: _ => exact z
def WTs (X : Cx) (ifs : List Expr) : TT := fun σ H Q => ∀ pins s, Inv X pins σ H s →
    wpAny (model X.prog X.w) X.A (forIn ifs true fun c r => if r = true then do let ok ← isTrue c X.env (eval c X.env); pure (ForInStep.yield ok) else pure (ForInStep.yield r)) (TP X pins σ Q) X.xe s
theorem pts_self {ifs : List Expr} : PTs X ifs (WTs X ifs) := ⟨fun pins s σ H Q I h => h pins s I⟩
def ETs (X : Cx) (B : Bs) (M : Pl) (Δ : List En) (ifs : List Expr) (Γ : Bool → List En → Prop) : Prop := ∀ σ H, Sk X.K B M H σ Δ → ∀ Q : Bool → Hp → Prop,
  (∀ b Δ' H', Γ b Δ' → Fe M.w H H' → Sk X.K B M H' σ Δ' → Q b H') → WTs X ifs σ H Q
theorem ets_nil {Γ : Bool → List En → Prop} (h : Γ true Δ) : ETs X B M Δ [] Γ := fun σ H S Q k pins s I => pts_nil.run pins s σ H Q I (k true Δ H h (Fe.refl _ _) S)
theorem ets_one {Γ : Bool → List En → Prop} (h : ET X B M Δ c Γ) : ETs X B M Δ [c] Γ := fun σ H S Q k pins s I => (pts_one pt_self).run pins s σ H Q I (h σ H S Q k)
def blkTE (X : Cx) (scope : Scope) (elt : Expr) : TE := fun σ H Q => ∀ (s : Shared) (H0 : Hp) (C : Addr) (cl : List (Str × Addr)) (fp : List Addr), WE (X.blk s H0 scope (compEnvC scope cl C X.env) fp) elt σ H Q
def blkTT (X : Cx) (scope : Scope) (ifs : List Expr) : TT := fun σ H Q => ∀ (s : Shared) (H0 : Hp) (C : Addr) (cl : List (Str × Addr)) (fp : List Addr), WTs (X.blk s H0 scope (compEnvC scope cl C X.env) fp) ifs σ H Q
/-- a comprehension's reading by data -/
def ELc (X : Cx) (B : Bs) (M : Pl) (Δ : List En) (T : Tg) (tg iter elt : Expr) (ifs : List Expr) (scope : Scope) (Φ : Tr → List En → Prop) : Prop := ∃ wi, PI X tg iter wi ∧ ∀ σ H, Sk X.K B M H σ Δ → ∀ Q : VK,
  (∀ t Δ' l H', Φ t Δ' → Fe M.w H H' → H l = none → Sk X.K B (ins M l) H' σ Δ' → (∀ e ∈ Δ', ¬ e.has l) → Ow X.K (mi (ins M l).m H') H' l t → Q (.ref l) H') → tLc wi (T.g X.K) (blkTT X scope ifs) (blkTE X scope elt) T.vs σ H Q
/-- [elt for tg in iter if ..]: Jc tells, by the turn and what is made so far, the slots -/
theorem elc (T : Tg) {elt : Expr} {ifs : List Expr} {scope : Scope} {Φ : Tr → List En → Prop} (hT : T.vs.Nodup)
    (h : EI X B M Δ tg iter fun n f Δ1 => ∃ Jc : Nat → List Tr → List En → Prop, Jc 0 [] (wipeE Δ1 T.vs) ∧
      (∀ i acc Δ' D, i < n → Jc i acc Δ' → ¬ M.m D → T.ok (f i) ∧ ∀ (s : Shared) (H : Hp) (C : Addr) (cl : List (Str × Addr)) (fp : List Addr), ETs (X.blk s H scope (compEnvC scope cl C X.env) fp) B (ins M D) (T.set Δ' (f i)) ifs fun k Δ2 =>
        (k = true → ∀ (s : Shared) (H : Hp) (C : Addr) (cl : List (Str × Addr)) (fp : List Addr), EE (X.blk s H scope (compEnvC scope cl C X.env) fp) B (ins M D) Δ2 elt fun t Δ3 => acc.length < sizeLine ∧ Jc (i + 1) (acc ++ [t]) (wipeE Δ3 T.vs)) ∧ (k = false → Jc (i + 1) acc (wipeE Δ2 T.vs))) ∧
      (∀ i acc Δ', Jc i acc Δ' → ∀ e ∈ Δ', ∀ l, e.has l → ∃ e0 ∈ Δ1, e0.has l) ∧ ∀ acc Δ', Jc n acc Δ' → Φ (.lst acc) Δ') : ELc X B M Δ T tg iter elt ifs scope Φ := by
  obtain ⟨wi, hi, kk⟩ := h
  refine ⟨wi, hi, fun σ H S Q k => kk σ H S _ fun n f Δ1 J G Y H1 q fe S1 w hG hY => ?_⟩
  intro D hD
  obtain ⟨Jc, j0, jt, ja, jd⟩ := q
  have nM := S1.notM hD
  have nM0 : ¬ B.M0 D := fun z => nM (S1.m0 D z)
  have nw : ¬ M.w D := fun z => nM (S1.wm D z)
  have sm0 := same_new (o := .lst []) hD
  obtain ⟨S2, hn2, ow2⟩ := S1.newOwn (t := .lst []) hD sm0 ⟨[], upd_same, .nil⟩
  have s02 : Sub (mi M.m H1) (mi (ins M D).m (upd H1 D (.lst []))) := mi_new hD S1 (Fe.same sm0)
  have noD : ∀ i acc Δ', Jc i acc Δ' → ∀ e ∈ Δ', ¬ e.has D := fun i acc Δ' j e he z => by
    obtain ⟨e0, h1, h2⟩ := ja i acc Δ' j e he D z
    exact hn2 e0 h1 h2
  have fr0 : Fe M.w H1 (upd H1 D (.lst [])) := Fe.same sm0
  refine lc_it (g := T.g X.K) (tt := blkTT X scope ifs) (te := blkTE X scope elt) (vs := T.vs) (σ := σ) (H1 := H1) (D := D) (Qd := fun H => Q (.ref D) H) w (fun i H' => ∃ acc Δ' xs, Jc i acc Δ' ∧ Fe M.w H1 H' ∧ Sub (mi M.m H1) (mi (ins M D).m H') ∧ Sk X.K B (ins M D) H' (L2.wipe σ T.vs) Δ' ∧ H' D = some (.lst xs) ∧ Dts X.K (mi (ins M D).m H') xs acc ∧ (∀ j ∈ T.vs, ∀ e, Δ'[j]? = some e → e = .any))
    ⟨[], _, [], j0, fr0, s02, S2.wipe T.vs, upd_same, .nil, fun j hj e he => wipeE_any hj he⟩ (fun i H' _ ⟨_, _, _, _, _, s, _⟩ => hG _ H' s) ?_ fun H' ⟨acc, Δ', xs, j, fe', s, S', hx, dx, hw⟩ => ?_
  · rintro i x Ha Hb hi ⟨acc, Δ', xs, j, fe', s, S', hx, dx, hw⟩ y
    obtain ⟨sm, d⟩ := hY i x Ha Hb (ins M D).m hi y s fun p hp => S'.notM hp
    obtain ⟨okT, hb⟩ := jt i acc Δ' D hi j nM
    have Sb := S'.same sm
    have sab : Sub (mi M.m H1) (mi (ins M D).m Hb) := s.trans (Sub.of sm).mi
    refine tg_run T Sb d okT _ fun vs St => ⟨wipe_put T vs hT, ?_⟩
    intro s0 H0 C cl fp
    refine hb s0 H0 C cl fp _ Hb St _ fun kq Δ2 H2 q2 f2 St2 => ?_
    have feb : Fe M.w H1 H2 := (fe'.trans (Fe.same sm)).trans f2
    have nx2 : Sub (mi (ins M D).m Hb) (mi (ins M D).m H2) := St.sub f2
    have hx2 : H2 D = some (.lst xs) := f2.k D _ nw nt_lst (sm D _ hx)
    have back : ∀ {H3 : Hp} {Δ3 : List En}, Sk X.K B (ins M D) H3 (T.put (L2.wipe σ T.vs) vs) Δ3 → Sk X.K B (ins M D) H3 (L2.wipe σ T.vs) (wipeE Δ3 T.vs) := fun {H3 Δ3} z => by
      have := z.wipe T.vs
      rw [wipe_put T vs hT] at this
      exact this
    cases kq with
    | true =>
      rw [if_pos rfl]
      intro s0 H0 C cl fp
      refine q2.1 rfl s0 H0 C cl fp _ H2 St2 _ fun t Δ3 v H3 q3 f3 St3 d3 => ?_
      have hx3 : H3 D = some (.lst xs) := f3.k D _ nw nt_lst hx2
      have dx3 : Dts X.K (mi (ins M D).m H3) xs acc := ((dx.mono (Sub.of sm).mi).mono nx2).mono (St2.sub f3)
      refine ⟨xs, hx3, by rw [dx.length]; exact q3.1, acc ++ [t], _, xs ++ [v], q3.2, ?_, ?_, ?_, upd_same, ?_, fun j hj e he => wipeE_any hj he⟩
      · exact ⟨fun b o p n z => by
          have hb : b ≠ D := fun e => by rw [e, hD] at z; cases z
          rw [upd_ne hb]; exact (feb.trans f3).k b o p n z, fun b ps z => by
          have hb : b ≠ D := fun e => by rw [e, hD] at z; cases z
          obtain ⟨qs, e⟩ := (feb.trans f3).t b ps z
          exact ⟨qs, by rw [upd_ne hb]; exact e⟩⟩
      · exact (((sab.trans nx2).trans (St2.sub f3))).trans (mi_write (.inr rfl))
      · -- the new list is longer
        have S4 := back St3
        have kd := kind_ne (H := H3) (l := D) (.inl ⟨xs, hx3⟩)
        have h0D : B.H0 D = none := S1.new0 hD
        have sw : Sub (mi (ins M D).m H3) (mi (ins M D).m (upd H3 D (.lst (xs ++ [v])))) := mi_write (.inr rfl)
        have nd := noD _ _ _ q3.2
        refine { len := S4.len, al := fun b z => ?_, wm := S4.wm, m0 := S4.m0, pm := S4.pm, own := S4.own, wp := S4.wp, fr := ⟨fun b u p n e => ?_, fun b ps e => ?_⟩, tb := tabs_upd S4.tb kd.1 kd.2, dis := S4.dis, sl := fun j e q => ?_ }
        · by_cases hb : b = D
          · exact ⟨_, by rw [hb, upd_same]⟩
          · obtain ⟨u, e⟩ := S4.al b z
            exact ⟨u, by rw [upd_ne hb]; exact e⟩
        · have hb : b ≠ D := fun z => by rw [z, h0D] at e; cases e
          rw [upd_ne hb]; exact S4.fr.k b u p n e
        · have hb : b ≠ D := fun z => by rw [z, h0D] at e; cases e
          obtain ⟨qs, e'⟩ := S4.fr.t b ps e
          exact ⟨qs, by rw [upd_ne hb]; exact e'⟩
        · obtain ⟨u, e1, e2⟩ := S4.sl j e q
          exact ⟨u, e1, e2.mono (fun _ z => z) (fun _ => Iff.rfl) sw fun l' z o' _ y => by rw [upd_ne (fun w => nd e (List.mem_of_getElem? q) (by rw [← w]; exact z))]; exact y⟩
      · exact (dx3.append (.cons d3 .nil)).mono (mi_write (.inr rfl))
    | false =>
      rw [if_neg Bool.false_ne_true]
      exact ⟨acc, _, xs, q2.2 rfl, feb, sab.trans nx2, back St2, hx2, (dx.mono (Sub.of sm).mi).mono nx2, fun j hj e he => wipeE_any hj he⟩
  · refine k (.lst acc) Δ' D H' (jd acc Δ' j) (fe.trans fe') (fe.free (fun b z => S1.al b (S1.wm b z)) hD) ?_ (noD n acc Δ' j) ⟨xs, hx, dx⟩
    refine { len := by rw [← S'.len, wipe_length], al := S'.al, wm := S'.wm, m0 := S'.m0, pm := S'.pm, own := S'.own, wp := S'.wp, fr := S'.fr, tb := S'.tb, dis := S'.dis, sl := fun j e q => ?_ }
    obtain ⟨o, e1, e2⟩ := S'.sl j e q
    by_cases hj : j ∈ T.vs
    · rw [hw j hj e q]
      have hl : j < σ.length := by
        rw [← wipe_length σ T.vs]; exact (List.getElem?_eq_some_iff.mp e1).1
      exact ⟨σ[j], by simp [hl], by cases σ[j] <;> exact True.intro⟩
    · rw [wipe_get hj] at e1
      exact ⟨o, e1, e2⟩
theorem eo_of (T : Tg) {elt : Expr} {ifs : List Expr} {scope : Scope} {own : List (Str × Nat)} {Φ : Tr → List En → Prop} (hc : X.calm = true) (hN : X.N.Nodup) (ho : own.map (·.2) = T.vs) (ok : BlkOk X.N X.env.scope scope own)
    (hg : ∀ (s : Shared) (H : Hp) (C : Addr) (cl : List (Str × Addr)) (fp : List Addr), PG (X.blk s H scope (compEnvC scope cl C X.env) fp) tg (T.g X.K)) (h : ELc X B M Δ T tg iter elt ifs scope Φ)
    (hs : ∀ x, foldedSetIterable iter X.env x = pure x := by intro _; rfl) : EO X B M Δ (.ListComp elt [⟨tg, iter, ifs, 0⟩] scope pos) Φ := fun σ H S Q k => by
  obtain ⟨wi, hi, kk⟩ := h
  refine PE.to (pe_lc (te := blkTE X scope elt) (tt := blkTT X scope ifs) hc hN hi ok hg
    (fun s H C cl fp => ⟨fun pins s' σ' H' Q' I hh => hh s H C cl fp pins s' I⟩) (fun s H C cl fp => ⟨fun pins s' σ' H' Q' I hh => hh s H C cl fp pins s' I⟩) hs) ?_
  rw [ho]
  exact kk σ H S Q k
/-- x = [..], on one line -/
theorem s_of (T : Tg) (i : Nat) {y : Str} {py spos : Pos} {elt : Expr} {ifs : List Expr} {scope : Scope} {own : List (Str × Nat)} (hc : X.calm = true) (hN : X.N.Nodup) (hy : X.N[i]? = some y) (ho : own.map (·.2) = T.vs) (ok : BlkOk X.N X.env.scope scope own)
    (hg : ∀ (s : Shared) (H : Hp) (C : Addr) (cl : List (Str × Addr)) (fp : List Addr), PG (X.blk s H scope (compEnvC scope cl C X.env) fp) tg (T.g X.K)) (h : ELc X B M Δ T tg iter elt ifs scope fun t Δ1 => ∀ l, ¬ M.m l → Ψ.nx (ins M l) (Δ1.set i (.own l t)))
    (hyl : X.env.scope.names.lookup y = some .local := by rfl) (hsw : swapsWith (.ListComp elt [⟨tg, iter, ifs, 0⟩] scope pos) (some (.Name y py)) spos.line X.env = pure true := by exact sw_true rfl rfl rfl rfl)
    (hs : ∀ x, foldedSetIterable iter X.env x = pure x := by intro _; rfl) : S1 X B M Δ (.Assign [.Name y py] (.ListComp elt [⟨tg, iter, ifs, 0⟩] scope pos) spos) Ψ := fun σ H S D p => by
  obtain ⟨wi, hi, kk⟩ := h
  refine PS.to (ps_setLc (i := i) (te := blkTE X scope elt) (tt := blkTT X scope ifs) hc hN hy hyl hsw hi ok hg
    (fun s H C cl fp => ⟨fun pins s' σ' H' Q' I hh => hh s H C cl fp pins s' I⟩) (fun s H C cl fp => ⟨fun pins s' σ' H' Q' I hh => hh s H C cl fp pins s' I⟩) hs) ?_
  show tLc wi (T.g X.K) (blkTT X scope ifs) (blkTE X scope elt) (own.map (·.2)) σ H _
  rw [ho]
  refine kk σ H S _ fun t Δ1 l H1 q f hl S1 hn ow => ?_
  have nM := S.notM hl
  refine p.nx (ins M l) _ _ H1 (q l nM) (mi_new hl S f) (S1.put i (o := some (.ref l)) (e := .own l t) ⟨rfl, .inr rfl, fun z => nM (S.m0 l z), fun z => nM (S.wm l z), ow⟩ fun l' z j f' _ hf' y => ?_)
  cases z
  exact hn f' (List.mem_of_getElem? hf') y
end
end Wf

set_option Elab.async false
set_option linter.all false
set_option maxRecDepth 100000
set_option maxHeartbeats 1000000
namespace Wf
open PySem PySem.Spec PyProof.Rows L2 LamX
/-! ### promises by data -/
abbrev penMax : Nat := 1000000000
/-- a def that makes new objects at most -/
def spF (K : PySem.W.Frag) (T : List (Addr × Str)) (pre : List Tr → Prop) (post : List Tr → Tr → Prop) : Sp := fun vs H Q _ => ∃ (m : Addr → Prop) (ts : List Tr), Dts K (mi m H) vs ts ∧ pre ts ∧ (∀ b, m b → ∃ o, H b = some o) ∧ Tabs T H ∧
  ∀ v t H', post ts t → Fe (fun _ => False) H H' → Tabs T H' → Dt K (mi m H') v t → Q v H'
/-- a def whose first argument is the pen: it draws at most cost cells -/
def spP (K : PySem.W.Frag) (T : List (Addr × Str)) (pre : List Tr → Prop) (cost : List Tr → Nat) (post : List Tr → Tr → Prop) : Sp := fun vs H Q _ => ∃ (m : Addr → Prop) (p : Pn) (N : Nat) (vs' : List V) (ts : List Tr),
  vs = .ref p.l :: vs' ∧ m p.l ∧ PenAt K (mi m H) H p N ∧ N + cost ts ≤ penMax ∧ Dts K (mi m H) vs' ts ∧ pre ts ∧ (∀ b, m b → ∃ o, H b = some o) ∧ Tabs T H ∧
  ∀ v t H', post ts t → Fe (fun b => b = p.l) H H' → Tabs T H' → PenAt K (mi m H') H' p (N + cost ts) → Dt K (mi m H') v t → Q v H'
def slots (N : List Str) (es : List En) : List En := es ++ List.replicate (N.length - es.length) .any
section
variable {P : Program} {w : World} {K : PySem.W.Frag} {mg : Str → Option Value} {base : Heap} {x qual : Str} {st : Stmt} {f : Addr} {fd : FuncData} {N ps : List Str} {k : Nat} {T : List (Addr × Str)} {pre : List Tr → Prop} {post : List Tr → Tr → Prop} {cost : List Tr → Nat}
theorem start_get {N : List Str} {vs : List V} {es : List En} (hl : vs.length = es.length) {i : Nat} {e : En} (h : (slots N es)[i]? = some e) :
    (∃ v, (L2.start N vs)[i]? = some (some v) ∧ vs[i]? = some v ∧ es[i]? = some e) ∨ ((L2.start N vs)[i]? = some none ∧ e = .any) := by
  unfold slots at h
  unfold L2.start
  by_cases hi : i < es.length
  · left
    rw [List.getElem?_append_left hi] at h
    have hv : i < vs.length := by omega
    refine ⟨vs[i], ?_, by simp [hv], h⟩
    rw [List.getElem?_append_left (by simpa using hv), List.getElem?_map]
    simp [hv]
  · right
    rw [List.getElem?_append_right (by omega), List.getElem?_replicate] at h
    split at h
    · rename_i h2
      refine ⟨?_, (Option.some.inj h).symm⟩
      rw [List.getElem?_append_right (by simp; omega), List.getElem?_replicate, if_pos (by simp; omega)]
    · cases h
theorem sk_start {N : List Str} {B : Bs} {M : Pl} {H : Hp} {vs : List V} {es : List En} (hN : es.length ≤ N.length) (hl : vs.length = es.length) (hB : B.H0 = H) (hM : ∀ b, M.m b ↔ B.M0 b) (hw : ∀ b, M.w b ↔ B.P b) (pm : ∀ b, B.P b → B.M0 b) (al : ∀ b, M.m b → ∃ o, H b = some o) (tb : Tabs B.T H)
    (dis : ∀ (i j : Nat) (e f : En) (l : Addr), es[i]? = some e → es[j]? = some f → e.has l → f.has l → i = j)
    (h : ∀ (i : Nat) v e, vs[i]? = some v → es[i]? = some e → EnOk K B M H (some v) e) : Sk K B M H (L2.start N vs) (slots N es) where
  len := by unfold L2.start slots; rw [List.length_append, List.length_append, List.length_map, List.length_replicate, List.length_replicate]; omega
  al := al
  wm := fun b z => (hM b).mpr (pm b ((hw b).mp z))
  m0 := fun b z => (hM b).mpr z
  pm := pm
  own := fun b z => .inl ((hM b).mp z)
  wp := fun b z => .inl ((hw b).mp z)
  fr := by rw [hB]; exact Fe.refl _ _
  tb := tb
  dis := fun i j e f l he hf el fl => by
    rcases start_get (N := N) hl he with ⟨_, _, _, z⟩ | ⟨_, rfl⟩
    · rcases start_get (N := N) hl hf with ⟨_, _, _, z2⟩ | ⟨_, rfl⟩
      · exact dis i j e f l z z2 el fl
      · cases fl
    · cases el
  sl := fun i e q => by
    rcases start_get (N := N) hl q with ⟨v, h1, h2, h3⟩ | ⟨h1, rfl⟩
    · exact ⟨_, h1, h i v e h2 h3⟩
    · exact ⟨_, h1, True.intro⟩
abbrev bF (T : List (Addr × Str)) (H : Hp) (m : Addr → Prop) : Bs := ⟨T, fun _ => False, H, m⟩
abbrev bP (T : List (Addr × Str)) (p : Pn) (H : Hp) (m : Addr → Prop) : Bs := ⟨T, fun b => b = p.l, H, m⟩
/-- a def of the first kind, by its body -/
theorem ok_F (F : Fun K x qual st f fd) (S : FnScope N ps (defScope st)) (hpre : ∀ ts, pre ts → ts.length = ps.length) (hps : ps.length ≤ N.length)
    (hb : ∀ (cdv : Value) (A : Around) (outer : List Env) (s : Shared) (H : Hp) (E : XK) (m : Addr → Prop) (ts : List Tr), Room k (A.deeper (envOfC qual (defScope st) s.heap.objs.size f cdv)) → pre ts →
      SS (cxOf CX0 P w K mg base N qual (defScope st) f cdv A outer s H E).nox (bF T H m) ⟨m, fun _ => False⟩ (slots N (ts.map En.dat)) (defBody st) ⟨fun _ _ => post ts .non, fun t _ => post ts t, fun _ _ => False, fun _ _ => False⟩) :
    FnOk P w K mg base CX0 (k + 1) f fd ps (spF K T pre post) := by
  refine F.ok S (fun vs H Q E h => ?_) (fun cdv A outer s H vs Q E hr h => ?_)
  · obtain ⟨m, ts, d, hp, _⟩ := h
    rw [d.length, hpre ts hp]
  · obtain ⟨m, ts, d, hp, al, tb, q⟩ := h
    have hlen : ts.length = ps.length := hpre ts hp
    have Sk0 : Sk K (bF T H m) ⟨m, fun _ => False⟩ H (L2.start N vs) (slots N (ts.map En.dat)) := by
      refine sk_start (by simp; omega) (by simp [d.length]) rfl (fun _ => Iff.rfl) (fun _ => Iff.rfl) (fun _ z => z.elim) al tb (fun i j e f l he _ el _ => ?_) fun i v e hv he => ?_
      · rw [List.getElem?_map] at he
        cases h : ts[i]? with
        | none => rw [h] at he; cases he
        | some t => rw [h] at he; cases he; cases el
      · rw [List.getElem?_map] at he
        cases h : ts[i]? with
        | none => rw [h] at he; cases he
        | some t =>
          rw [h] at he; cases he
          obtain ⟨v', h1, h2⟩ := d.get h
          rw [hv] at h1; cases h1
          exact h2
    refine ⟨_, pss_self, hb cdv A outer s H E m ts hr hp _ H Sk0 _ ⟨fun M' Δ' σ' H' a b c => ?_, fun t M' Δ' v σ' H' a b c dd => ?_, fun _ _ _ _ z => z.elim, fun _ _ _ _ z => z.elim⟩⟩
    · exact q .non .non H' a c.fr c.tb .non
    · exact q v t H' a c.fr c.tb (dd.mono (mi_le c.m0))
/-- a def of the second kind -/
theorem ok_P {y : Str} (F : Fun K x qual st f fd) (S : FnScope N (y :: ps) (defScope st)) (hpre : ∀ ts, pre ts → ts.length = ps.length) (hps : ps.length + 1 ≤ N.length)
    (hb : ∀ (cdv : Value) (A : Around) (outer : List Env) (s : Shared) (H : Hp) (E : XK) (m : Addr → Prop) (p : Pn) (c : Nat) (ts : List Tr), Room k (A.deeper (envOfC qual (defScope st) s.heap.objs.size f cdv)) → pre ts → c + cost ts ≤ penMax →
      SS (cxOf CX0 P w K mg base N qual (defScope st) f cdv A outer s H E).nox (bP T p H m) ⟨m, fun b => b = p.l⟩ (slots N (.pen p c :: ts.map En.dat)) (defBody st) ⟨fun _ Δ' => post ts .non ∧ ∃ c', c' ≤ c + cost ts ∧ Δ'[0]? = some (.pen p c'), fun t Δ' => post ts t ∧ ∃ c', c' ≤ c + cost ts ∧ Δ'[0]? = some (.pen p c'), fun _ _ => False, fun _ _ => False⟩) :
    FnOk P w K mg base CX0 (k + 1) f fd (y :: ps) (spP K T pre cost post) := by
  refine F.ok S (fun vs H Q E h => ?_) (fun cdv A outer s H vs Q E hr h => ?_)
  · obtain ⟨m, p, c, vs', ts, rfl, _, _, _, d, hp, _⟩ := h
    rw [List.length_cons, List.length_cons, d.length, hpre ts hp]
  · obtain ⟨m, p, c, vs', ts, rfl, hm, pa, hc, d, hp, al, tb, q⟩ := h
    have hlen : ts.length = ps.length := hpre ts hp
    have Sk0 : Sk K (bP T p H m) ⟨m, fun b => b = p.l⟩ H (L2.start N (.ref p.l :: vs')) (slots N (.pen p c :: ts.map En.dat)) := by
      refine sk_start (by simp; omega) (by simp [d.length]) rfl (fun _ => Iff.rfl) (fun _ => Iff.rfl) (fun _ z => by subst z; exact hm) al tb (fun i j e f l he hf el fl => ?_) fun i v e hv he => ?_
      · have key : ∀ (i : Nat) (e : En), (En.pen p c :: ts.map En.dat)[i]? = some e → e.has l → i = 0 := fun i e he el => by
          cases i with
          | zero => rfl
          | succ i =>
            rw [List.getElem?_cons_succ, List.getElem?_map] at he
            cases h : ts[i]? with
            | none => rw [h] at he; cases he
            | some t => rw [h] at he; cases he; cases el
        rw [key i e he el, key j f hf fl]
      · cases i with
        | zero => cases hv; cases he; exact ⟨rfl, rfl, pa⟩
        | succ i =>
          rw [List.getElem?_cons_succ] at hv he
          rw [List.getElem?_map] at he
          cases h : ts[i]? with
          | none => rw [h] at he; cases he
          | some t =>
            rw [h] at he; cases he
            obtain ⟨v', h1, h2⟩ := d.get h
            rw [hv] at h1; cases h1
            exact h2
    have fin : ∀ {M' : Pl} {Δ' : List En} {σ' : L2.St} {H' : Hp} {c' : Nat}, Sk K (bP T p H m) M' H' σ' Δ' → c' ≤ c + cost ts → Δ'[0]? = some (.pen p c') → PenAt K (mi m H') H' p (c + cost ts) := fun {M' Δ' σ' H' c'} S' h1 h2 =>
      ((S'.penAt h2).2.2.mono (mi_le S'.m0) fun _ _ z => z).le h1
    refine ⟨_, pss_self, hb cdv A outer s H E m p c ts hr hp hc _ H Sk0 _ ⟨fun M' Δ' σ' H' a b z => ?_, fun t M' Δ' v σ' H' a b z dd => ?_, fun _ _ _ _ z => z.elim, fun _ _ _ _ z => z.elim⟩⟩
    · obtain ⟨a1, c', a2, a3⟩ := a
      exact q .non .non H' a1 z.fr z.tb (fin z a2 a3) .non
    · obtain ⟨a1, c', a2, a3⟩ := a
      exact q v t H' a1 z.fr z.tb (fin z a2 a3) (dd.mono (mi_le z.m0))
end
/-- a def of the module, by its name: it keeps sp -/
structure Fn (P : Program) (w : World) (K : PySem.W.Frag) (mg : Str → Option Value) (base : Heap) (x : Str) (k : Nat) (ps : List Str) (sp : Sp) : Prop where
  ex : ∃ f fd, FnOk P w K mg base CX0 k f fd ps sp ∧ mg x = some (.ref f) ∧ PySem.W.keepIn K (.ref f) = true ∧ Binds K fd ps []
section
variable {X : Cx} {B : Bs} {M : Pl} {Δ : List En} {e a b c : Expr} {es : List Expr} {Φ : Tr → List En → Prop} {Ψ : Eo} {x : Str} {k : Nat} {ps : List Str} {pre : List Tr → Prop} {post : List Tr → Tr → Prop} {cost : List Tr → Nat}
theorem Sk.feGrow {K : PySem.W.Frag} {H H' : Hp} {σ : L2.St} (S : Sk K B M H σ Δ) (f : Fe (fun _ => False) H H') (tb : Tabs B.T H') : Sk K B M H' σ Δ where
  len := S.len
  al := fun b hb => by
    obtain ⟨o, e⟩ := S.al b hb
    by_cases n : NT o
    · exact ⟨o, f.k b o id n e⟩
    · by_cases q : ∃ ps, o = .tbl ps
      · obtain ⟨ps, rfl⟩ := q
        obtain ⟨qs, e'⟩ := f.t b ps e
        exact ⟨_, e'⟩
      · exact absurd (fun ps z => q ⟨ps, z⟩) n
  wm := S.wm
  m0 := S.m0
  pm := S.pm
  own := S.own
  wp := S.wp
  fr := S.fr.trans (f.imp fun _ _ _ z => z.elim)
  tb := tb
  dis := S.dis
  sl := fun i e q => by
    obtain ⟨o, h1, h2⟩ := S.sl i e q
    exact ⟨o, h1, h2.mono (fun _ z => z) (fun _ => Iff.rfl) (S.sub (f.imp fun _ _ _ z => z.elim)) fun l _ o n z => f.k l o id n z⟩
/-- f(e, ..) -/
theorem ee_call {p pos : Pos} (F : Fn X.prog X.w X.K X.mg X.base x k ps (spF X.K B.T pre post)) (hr : Room k X.A) (hg : Gl X x) (h : EA X B M Δ (e :: es) fun ts Δ1 => pre ts ∧ ∀ t, post ts t → Φ t Δ1)
    (hdb : (x == ("__debug__" : Str)) = false := by decide) (he : starEach (e :: es) X.env = (false, eval e X.env) :: starEach es X.env := by rfl) (hpl : (backTo pos (starEach es X.env)).any (·.1) = false := by rfl) : EE X B M Δ (.Call (.Name x p) (e :: es) [] pos) Φ := fun σ H S Q kk => by
  obtain ⟨f, fd, ok, hm, hk, hb⟩ := F.ex
  refine PE.to (pe_call ok hr hg hm hk hb .nil pass0 pa_self hdb he hpl) (h σ H S _ fun ts Δ1 vs H1 q fe S1 d => ?_)
  rw [List.append_nil]
  refine ⟨M.m, ts, d, q.1, S1.al, S1.tb, fun v t H' hp f2 tb dd => kk t Δ1 v H' (q.2 t hp) (fe.trans (f2.imp fun _ _ _ z => z.elim)) (S1.feGrow f2 tb) dd⟩
theorem ee_call0 {p pos : Pos} (F : Fn X.prog X.w X.K X.mg X.base x k ps (spF X.K B.T pre post)) (hr : Room k X.A) (hg : Gl X x) (h : pre [] ∧ ∀ t, post [] t → Φ t Δ)
    (hdb : (x == ("__debug__" : Str)) = false := by decide) : EE X B M Δ (.Call (.Name x p) [] [] pos) Φ := fun σ H S Q kk => by
  obtain ⟨f, fd, ok, hm, hk, hb⟩ := F.ex
  refine PE.to (pe_call0 ok hr hg hm hk hb .nil pass0 hdb) ?_
  show spF X.K B.T pre post ([] ++ []) H Q E0
  refine ⟨M.m, [], .nil, h.1, S.al, S.tb, fun v t H' hp f2 tb dd => kk t Δ v H' (h.2 t hp) (f2.imp fun _ _ _ z => z.elim) (S.feGrow f2 tb) dd⟩
theorem Sk.pen {K : PySem.W.Frag} {H H' : Hp} {σ : L2.St} {i : Nat} {p : Pn} {c c' : Nat} (S : Sk K B M H σ Δ) (hi : Δ[i]? = some (.pen p c)) (f : Fe (fun b => b = p.l) H H') (tb : Tabs B.T H') (pa : PenAt K (mi M.m H') H' p c') : Sk K B M H' σ (Δ.set i (.pen p c')) ∧ Fe M.w H H' := by
  obtain ⟨h1, h2, h3⟩ := S.penAt hi
  have fw : Fe M.w H H' := f.imp fun b o _ z _ => by rw [z]; exact h2
  have s := S.sub fw
  have hil : i < Δ.length := (List.getElem?_eq_some_iff.mp hi).1
  refine ⟨{ len := by rw [List.length_set]; exact S.len, al := fun b hb => ?_, wm := S.wm, m0 := S.m0, pm := S.pm, own := S.own, wp := S.wp, fr := ?_, tb := tb, dis := fun a b e f l' he hf el fl => ?_, sl := fun j e q => ?_ }, fw⟩
  · by_cases hbl : b = p.l
    · obtain ⟨_, _, z, _⟩ := pa
      exact ⟨_, by rw [hbl]; exact z⟩
    · obtain ⟨o, e⟩ := S.al b hb
      by_cases n : NT o
      · exact ⟨o, f.k b o hbl n e⟩
      · by_cases q : ∃ ps, o = .tbl ps
        · obtain ⟨ps, rfl⟩ := q
          obtain ⟨qs, e'⟩ := f.t b ps e
          exact ⟨_, e'⟩
        · exact absurd (fun ps z => q ⟨ps, z⟩) n
  · rcases S.wp p.l h2 with hp | h0
    · exact S.fr.trans (f.imp fun b o _ z _ => by rw [z]; exact hp)
    · exact ⟨fun b o pn n e => f.k b o (fun z => by rw [z, h0] at e; cases e) n (S.fr.k b o pn n e), fun b ps e => by
        obtain ⟨qs, e'⟩ := S.fr.t b ps e
        exact f.t b qs e'⟩
  · have key : ∀ (a : Nat) (e : En), (Δ.set i (.pen p c'))[a]? = some e → ∃ e', Δ[a]? = some e' ∧ (∀ z, e.has z → e'.has z) := fun a e he => by
      by_cases ha : a = i
      · subst ha
        rw [List.getElem?_set_self hil] at he
        cases he
        exact ⟨_, hi, fun _ z => z⟩
      · rw [List.getElem?_set_ne (Ne.symm ha)] at he
        exact ⟨e, he, fun _ z => z⟩
    obtain ⟨e1, x1, x2⟩ := key a e he
    obtain ⟨f1, y1, y2⟩ := key b f hf
    exact S.dis a b e1 f1 l' x1 y1 (x2 _ el) (y2 _ fl)
  · by_cases hj : j = i
    · subst hj
      rw [List.getElem?_set_self hil] at q
      cases q
      exact ⟨_, h1, rfl, h2, pa⟩
    · rw [List.getElem?_set_ne (Ne.symm hj)] at q
      obtain ⟨u, e1, e2⟩ := S.sl j e q
      exact ⟨u, e1, e2.mono (fun _ z => z) (fun _ => Iff.rfl) s fun l' z o' n y => f.k l' o' (fun w => hj (S.dis j i e _ p.l q hi (by rw [← w]; exact z) rfl)) n y⟩
/-- f(pen, e, ..) -/
theorem ee_callP (i : Nat) {y : Str} {p py pos : Pos} {pn : Pn} {c0 : Nat} (hN : X.N[i]? = some y) (hi : Δ[i]? = some (.pen pn c0)) (F : Fn X.prog X.w X.K X.mg X.base x k ps (spP X.K B.T pre cost post)) (hr : Room k X.A) (hg : Gl X x)
    (h : EA X B M Δ es fun ts Δ1 => ∃ c, Δ1[i]? = some (.pen pn c) ∧ pre ts ∧ c + cost ts ≤ penMax ∧ ∀ t, post ts t → Φ t (Δ1.set i (.pen pn (c + cost ts))))
    (hd : (y == ("__debug__" : Str)) = false := by decide) (hcd : (y == ("__classdict__" : Str)) = false := by decide)
    (hdb : (x == ("__debug__" : Str)) = false := by decide) (he : starEach (.Name y py :: es) X.env = (false, eval (.Name y py) X.env) :: starEach es X.env := by rfl) (hpl : (backTo pos (starEach es X.env)).any (·.1) = false := by rfl) (hv : Vis X.env.scope y := by first | exact Or.inl rfl | exact Or.inr (Or.inl rfl) | exact Or.inr (Or.inr rfl)) : EE X B M Δ (.Call (.Name x p) (.Name y py :: es) [] pos) Φ := fun σ H S Q kk => by
  obtain ⟨f, fd, ok, hm, hk, hb⟩ := F.ex
  obtain ⟨h1, _⟩ := S.penAt hi
  refine PE.to (pe_call ok hr hg hm hk hb .nil pass0 (pa_cons (pe_var (i := i) hN hv hd hcd) pa_self he) hdb he hpl) ⟨_, h1, h σ H S _ fun ts Δ1 vs H1 q fe S1 d => ?_⟩
  obtain ⟨c, q1, q2, q3, q4⟩ := q
  obtain ⟨_, w2, w3⟩ := S1.penAt q1
  rw [List.append_nil]
  refine ⟨M.m, pn, c, vs, ts, rfl, S1.wm _ w2, w3, q3, d, q2, S1.al, S1.tb, fun v t H' hp f2 tb pa dd => ?_⟩
  obtain ⟨S2, fw⟩ := S1.pen q1 f2 tb pa
  exact kk t _ v H' (q4 t hp) (fe.trans fw) S2 dd
/-! ### the pen's own fields -/
theorem key_ne (a b : Str) (h : decide (a = b) = false) : ¬ ((.inr a : Key) = .inr b) := fun z => by
  have := Sum.inr.inj z
  rw [decide_eq_false_iff_not] at h
  exact h this
theorem pen_more {a : Addr} {sp mo : Int} : valV ([((.inr "cells" : Key), V.ref a), (.inr "spot", .int sp), (.inr "more", .int mo)]) (.inr "more") = some (.int mo) := by
  unfold valV
  rw [List.find?_cons_of_neg (by simp; decide +kernel), List.find?_cons_of_neg (by simp; decide +kernel), List.find?_cons_of_pos (by simp)]
  rfl
theorem pen_spot {a : Addr} {sp mo : Int} : valV ([((.inr "cells" : Key), V.ref a), (.inr "spot", .int sp), (.inr "more", .int mo)]) (.inr "spot") = some (.int sp) := by
  unfold valV
  rw [List.find?_cons_of_neg (by simp; decide +kernel), List.find?_cons_of_pos (by simp)]
  rfl
theorem pen_cells {a : Addr} {sp mo : Int} : valV ([((.inr "cells" : Key), V.ref a), (.inr "spot", .int sp), (.inr "more", .int mo)]) (.inr "cells") = some (.ref a) := by
  unfold valV
  rw [List.find?_cons_of_pos (by simp)]
  rfl
theorem ee_penMore (i : Nat) {y : Str} {py pos p1 : Pos} {j : Nat} {pn : Pn} {c : Nat} (hu : X.A.units + 1 < cLine) (hN : X.N[i]? = some y) (hi : Δ[i]? = some (.pen pn c)) (h : ∀ mo : Int, 0 ≤ mo → Φ (.int mo) Δ)
    (hd : (y == ("__debug__" : Str)) = false := by decide) (hcd : (y == ("__classdict__" : Str)) = false := by decide) (hv : Vis X.env.scope y := by first | exact Or.inl rfl | exact Or.inr (Or.inl rfl) | exact Or.inr (Or.inr rfl)) : EE X B M Δ (.Subscript (.Name y py) (.Constant (.str "more") j p1) pos) Φ := fun σ H S Q kk => by
  obtain ⟨h1, _, sp, mo, h2, _, _, _, _, h3⟩ := S.penAt hi
  have g := DGet.k (k := .inr "more") h2
  rw [pen_more] at g
  exact PE.to (pe_dget hu (pe_var (i := i) hN hv hd hcd) pe_str (fun _ _ => rfl)) ⟨_, h1, _, _, rfl, g, kk _ _ _ H (h mo h3) (Fe.refl _ _) S (.int mo)⟩
theorem ee_penSpot (i : Nat) {y : Str} {py pos p1 : Pos} {j : Nat} {pn : Pn} {c : Nat} (hu : X.A.units + 1 < cLine) (hN : X.N[i]? = some y) (hi : Δ[i]? = some (.pen pn c)) (h : ∀ sp : Int, 0 ≤ sp → sp ≤ c → Φ (.int sp) Δ)
    (hd : (y == ("__debug__" : Str)) = false := by decide) (hcd : (y == ("__classdict__" : Str)) = false := by decide) (hv : Vis X.env.scope y := by first | exact Or.inl rfl | exact Or.inr (Or.inl rfl) | exact Or.inr (Or.inr rfl)) : EE X B M Δ (.Subscript (.Name y py) (.Constant (.str "spot") j p1) pos) Φ := fun σ H S Q kk => by
  obtain ⟨h1, _, sp, mo, h2, _, _, h4, h5, h3⟩ := S.penAt hi
  have g := DGet.k (k := .inr "spot") h2
  rw [pen_spot] at g
  exact PE.to (pe_dget hu (pe_var (i := i) hN hv hd hcd) pe_str (fun _ _ => rfl)) ⟨_, h1, _, _, rfl, g, kk _ _ _ H (h sp h4 h5) (Fe.refl _ _) S (.int sp)⟩
theorem ee_penCells (i : Nat) {y : Str} {py pos p1 : Pos} {j : Nat} {pn : Pn} {c : Nat} (hu : X.A.units + 1 < cLine) (hN : X.N[i]? = some y) (hi : Δ[i]? = some (.pen pn c)) (h : pn.cs.length ≤ 63 → Φ (.lst (pn.cs.map Tr.int)) Δ)
    (hd : (y == ("__debug__" : Str)) = false := by decide) (hcd : (y == ("__classdict__" : Str)) = false := by decide) (hv : Vis X.env.scope y := by first | exact Or.inl rfl | exact Or.inr (Or.inl rfl) | exact Or.inr (Or.inr rfl)) : EE X B M Δ (.Subscript (.Name y py) (.Constant (.str "cells") j p1) pos) Φ := fun σ H S Q kk => by
  obtain ⟨h1, _, sp, mo, h2, h6, h7, h4, h5, h3⟩ := S.penAt hi
  have g := DGet.k (k := .inr "cells") h2
  rw [pen_cells] at g
  exact PE.to (pe_dget hu (pe_var (i := i) hN hv hd hcd) pe_str (fun _ _ => rfl)) ⟨_, h1, _, _, rfl, g, kk _ _ _ H (h h7) (Fe.refl _ _) S (.lst h6 (dts_ints _))⟩
theorem pen_putMore {a : Addr} {sp mo mo' : Int} : putK ([((.inr "cells" : Key), V.ref a), (.inr "spot", .int sp), (.inr "more", .int mo)]) (.inr "more") (.int mo') = [((.inr "cells" : Key), V.ref a), (.inr "spot", .int sp), (.inr "more", .int mo')] := by
  have h1 : ¬ ((.inr "cells" : Key) = .inr "more") := by decide +kernel
  have h2 : ¬ ((.inr "spot" : Key) = .inr "more") := by decide +kernel
  simp [putK, valV, h1, h2]
theorem pen_putSpot {a : Addr} {sp mo sp' : Int} : putK ([((.inr "cells" : Key), V.ref a), (.inr "spot", .int sp), (.inr "more", .int mo)]) (.inr "spot") (.int sp') = [((.inr "cells" : Key), V.ref a), (.inr "spot", .int sp'), (.inr "more", .int mo)] := by
  have h1 : ¬ ((.inr "cells" : Key) = .inr "spot") := by decide +kernel
  have h2 : ¬ ((.inr "more" : Key) = .inr "spot") := by decide +kernel
  simp [putK, valV, h1, h2]
theorem Sk.penPut {K : PySem.W.Frag} {H : Hp} {σ : L2.St} {i : Nat} {pn : Pn} {c c' : Nat} {sp mo : Int} (S : Sk K B M H σ Δ) (hi : Δ[i]? = some (.pen pn c)) (h1 : 0 ≤ sp) (h2 : sp ≤ c') (h3 : 0 ≤ mo) :
    Sk K B M (upd H pn.l (.dK [(.inr "cells", .ref pn.a), (.inr "spot", .int sp), (.inr "more", .int mo)])) σ (Δ.set i (.pen pn c')) ∧ Fe M.w H (upd H pn.l (.dK [(.inr "cells", .ref pn.a), (.inr "spot", .int sp), (.inr "more", .int mo)])) := by
  obtain ⟨_, w2, sp0, mo0, e1, e2, e3, _⟩ := S.penAt hi
  have kd := kind_ne (H := H) (l := pn.l) (.inr (.inl ⟨_, e1⟩))
  refine S.pen hi ⟨fun b o p n e => by rw [upd_ne p]; exact e, fun b ps e => ⟨ps, by rw [upd_ne (fun z => kd.1 ps (by rw [← z]; exact e))]; exact e⟩⟩ (tabs_upd S.tb kd.1 kd.2) ⟨sp, mo, upd_same, sub_seqL (mi_write (S.wm _ w2)) e2, e3, h1, h2, h3⟩
theorem s_penMore (i : Nat) {y : Str} {py p0 p1 pos : Pos} {j : Nat} {pn : Pn} {c0 : Nat} (hu : X.A.units + 1 < cLine) (hN : X.N[i]? = some y) (hi : Δ[i]? = some (.pen pn c0)) (h : EE X B M Δ e fun t Δ1 => ∃ (v : Int) (c : Nat), t = .int v ∧ 0 ≤ v ∧ Δ1[i]? = some (.pen pn c) ∧ Ψ.nx M (Δ1.set i (.pen pn c)))
    (hs : swapsWith e (some (.Subscript (.Name y py) (.Constant (.str "more") j p1) p0)) pos.line X.env = pure false := by rfl) (hd : (y == ("__debug__" : Str)) = false := by decide) (hcd : (y == ("__classdict__" : Str)) = false := by decide) (hv : Vis X.env.scope y := by first | exact Or.inl rfl | exact Or.inr (Or.inl rfl) | exact Or.inr (Or.inr rfl)) :
    S1 X B M Δ (.Assign [.Subscript (.Name y py) (.Constant (.str "more") j p1) p0] e pos) Ψ := fun σ H S D p => by
  obtain ⟨h1, _⟩ := S.penAt hi
  refine PS.to (ps_dput hu (pe_var (i := i) hN hv hd hcd) pe_str pe_self hs) (h σ H S _ fun t Δ1 v H1 q fe S1 d => ?_)
  obtain ⟨n, c, rfl, q1, q2, q3⟩ := q
  cases d
  obtain ⟨_, w2, sp, mo, e1, e2, e3, e4, e5, e6⟩ := S1.penAt q2
  have g := DPut.k (k := .inr "more") (v := .int n) e1 (by show 3 < sizeLine; decide)
  rw [pen_putMore] at g
  obtain ⟨S2, f2⟩ := S1.penPut (c' := c) q2 e4 e5 q1
  exact ⟨_, h1, pn.l, _, rfl, g, p.nx M _ σ _ q3 (S.sub (fe.trans f2)) S2⟩
theorem s_penSpot (i : Nat) {y : Str} {py p0 p1 pos : Pos} {j : Nat} {pn : Pn} {c0 : Nat} (hu : X.A.units + 1 < cLine) (hN : X.N[i]? = some y) (hi : Δ[i]? = some (.pen pn c0)) (h : EE X B M Δ e fun t Δ1 => ∃ (v : Int) (c c' : Nat), t = .int v ∧ 0 ≤ v ∧ v ≤ c' ∧ Δ1[i]? = some (.pen pn c) ∧ Ψ.nx M (Δ1.set i (.pen pn c')))
    (hs : swapsWith e (some (.Subscript (.Name y py) (.Constant (.str "spot") j p1) p0)) pos.line X.env = pure false := by rfl) (hd : (y == ("__debug__" : Str)) = false := by decide) (hcd : (y == ("__classdict__" : Str)) = false := by decide) (hv : Vis X.env.scope y := by first | exact Or.inl rfl | exact Or.inr (Or.inl rfl) | exact Or.inr (Or.inr rfl)) :
    S1 X B M Δ (.Assign [.Subscript (.Name y py) (.Constant (.str "spot") j p1) p0] e pos) Ψ := fun σ H S D p => by
  obtain ⟨h1, _⟩ := S.penAt hi
  refine PS.to (ps_dput hu (pe_var (i := i) hN hv hd hcd) pe_str pe_self hs) (h σ H S _ fun t Δ1 v H1 q fe S1 d => ?_)
  obtain ⟨n, c, c', rfl, q1, q1', q2, q3⟩ := q
  cases d
  obtain ⟨_, w2, sp, mo, e1, e2, e3, e4, e5, e6⟩ := S1.penAt q2
  have g := DPut.k (k := .inr "spot") (v := .int n) e1 (by show 3 < sizeLine; decide)
  rw [pen_putSpot] at g
  obtain ⟨S2, f2⟩ := S1.penPut (c' := c') q2 q1 q1' e6
  exact ⟨_, h1, pn.l, _, rfl, g, p.nx M _ σ _ q3 (S.sub (fe.trans f2)) S2⟩
end
end Wf

set_option Elab.async false
set_option linter.all false
set_option maxRecDepth 100000
set_option maxHeartbeats 1000000
namespace Wf
open PySem PySem.Spec PyProof.Rows L2 LamX
/-! ### facts of data -/
theorem plainAll_map {α : Type} (f : α → Tr) : ∀ (l : List α), (∀ a ∈ l, (f a).plain = true) → plainAll (l.map f) = true
  | [], _ => by unfold List.map plainAll; rfl
  | a :: l, h => by
    unfold List.map plainAll
    rw [h a List.mem_cons_self, plainAll_map f l fun b hb => h b (List.mem_cons_of_mem _ hb)] <;> rfl
theorem pyAll_map : ∀ (l : List Tr), pyAll l = l.map Tr.py
  | [] => by unfold pyAll; rfl
  | a :: l => by unfold pyAll; rw [pyAll_map l]; rfl
theorem canLay_map {α : Type} (f : α → PyData) : ∀ (l : List α), (∀ a ∈ l, (f a).canLay0 = true) → PyData.canLayAll0 (l.map f) = true
  | [], _ => by unfold List.map PyData.canLayAll0; rfl
  | a :: l, h => by
    unfold List.map PyData.canLayAll0
    rw [h a List.mem_cons_self, canLay_map f l fun b hb => h b (List.mem_cons_of_mem _ hb)] <;> rfl
theorem depth_map {α : Type} (f : α → PyData) (n : Nat) : ∀ (l : List α), (∀ a ∈ l, (f a).depth ≤ n) → PyData.depthAll (l.map f) ≤ n
  | [], _ => by unfold List.map PyData.depthAll; exact Nat.zero_le _
  | a :: l, h => by
    unfold List.map PyData.depthAll
    exact Nat.max_le.mpr ⟨h a List.mem_cons_self, depth_map f n l fun b hb => h b (List.mem_cons_of_mem _ hb)⟩
/-- data that may be compared: plain, texts of signs, at most d deep -/
structure Tr.good (t : Tr) (d : Nat) : Prop where
  pl : t.plain = true
  cl : t.py.canLay0 = true
  dp : t.py.depth ≤ d
theorem Tr.good.eqOk {t : Tr} {d : Nat} (h : t.good d) (hd : d ≤ 64 := by decide) : t.eqOk := ⟨h.pl, by
  unfold SeqAt.shaped
  rw [h.cl, decide_eq_true (Nat.le_trans h.dp hd)] <;> rfl⟩
theorem Tr.good.le {t : Tr} {d e : Nat} (h : t.good d) (hd : d ≤ e) : t.good e := ⟨h.pl, h.cl, Nat.le_trans h.dp hd⟩
theorem good_non {d : Nat} : Tr.non.good d := ⟨by unfold Tr.plain; rfl, by unfold Tr.py PyData.canLay0; rfl, by unfold Tr.py PyData.depth; exact Nat.zero_le _⟩
theorem good_bl {b : Bool} {d : Nat} : (Tr.bl b).good d := ⟨by unfold Tr.plain; rfl, by unfold Tr.py PyData.canLay0; rfl, by unfold Tr.py PyData.depth; exact Nat.zero_le _⟩
theorem good_int {i : Int} {d : Nat} : (Tr.int i).good d := ⟨by unfold Tr.plain; rfl, by unfold Tr.py PyData.canLay0; rfl, by unfold Tr.py PyData.depth; exact Nat.zero_le _⟩
theorem good_str {x : Str} {d : Nat} (h : PyData.strOk x = true) : (Tr.str x).good d := ⟨by unfold Tr.plain; rfl, by unfold Tr.py PyData.canLay0; exact h, by unfold Tr.py PyData.depth; exact Nat.zero_le _⟩
theorem good_lst {ts : List Tr} {d : Nat} (h : ∀ t ∈ ts, t.good d) : (Tr.lst ts).good (d + 1) := by
  refine ⟨?_, ?_, ?_⟩
  · unfold Tr.plain
    have := plainAll_map id ts fun a ha => (h a ha).pl
    rwa [List.map_id] at this
  · unfold Tr.py PyData.canLay0
    rw [pyAll_map]
    exact canLay_map Tr.py ts fun a ha => (h a ha).cl
  · unfold Tr.py PyData.depth
    rw [pyAll_map]
    exact Nat.succ_le_succ (depth_map Tr.py d ts fun a ha => (h a ha).dp)
theorem good_tup {ts : List Tr} {d : Nat} (h : ∀ t ∈ ts, t.good d) : (Tr.tup ts).good (d + 1) := by
  refine ⟨?_, ?_, ?_⟩
  · unfold Tr.plain
    have := plainAll_map id ts fun a ha => (h a ha).pl
    rwa [List.map_id] at this
  · unfold Tr.py PyData.canLay0
    rw [pyAll_map]
    exact canLay_map Tr.py ts fun a ha => (h a ha).cl
  · unfold Tr.py PyData.depth
    rw [pyAll_map]
    exact Nat.succ_le_succ (depth_map Tr.py d ts fun a ha => (h a ha).dp)
theorem good_ints {ns : List Int} {d : Nat} (hd : 1 ≤ d := by decide) : (Tr.lst (ns.map Tr.int)).good d := (good_lst (d := 0) fun t ht => by
  obtain ⟨n, _, rfl⟩ := List.mem_map.mp ht
  exact good_int).le hd
/-! equal data are equal -/
mutual
theorem eqv_refl' : ∀ {d : PyData}, d.canLay0 = true → PyData.eqv d d = true
  | .none, _ => by unfold PyData.eqv; rfl
  | .bool b, _ => by unfold PyData.eqv; simp
  | .int i, _ => by unfold PyData.eqv; simp
  | .str x, _ => by unfold PyData.eqv; simp
  | .list xs, h => by unfold PyData.eqv; exact eqvAll_refl' (by unfold PyData.canLay0 at h; exact h)
  | .tuple xs, h => by unfold PyData.eqv; exact eqvAll_refl' (by unfold PyData.canLay0 at h; exact h)
  | .dict _, h => by unfold PyData.canLay0 at h; cases h
theorem eqvAll_refl' : ∀ {ds : List PyData}, PyData.canLayAll0 ds = true → PyData.eqvAll ds ds = true
  | [], _ => by unfold PyData.eqvAll; rfl
  | d :: ds, h => by
    unfold PyData.canLayAll0 at h
    rw [Bool.and_eq_true] at h
    unfold PyData.eqvAll
    rw [eqv_refl' h.1, eqvAll_refl' h.2] <;> rfl
end
theorem Tr.good.refl {t : Tr} {d : Nat} (h : t.good d) : PyData.eqv t.py t.py = true := eqv_refl' h.cl
theorem eqv_lst {ts us : List Tr} : PyData.eqv (Tr.lst ts).py (Tr.lst us).py = PyData.eqvAll (ts.map Tr.py) (us.map Tr.py) := by
  show PyData.eqv (Tr.lst ts).py (Tr.lst us).py = _
  unfold Tr.py
  rw [pyAll_map, pyAll_map]
  show PyData.eqv (.list _) (.list _) = _
  unfold PyData.eqv
  rfl
theorem eqv_nil {ts : List Tr} : PyData.eqv (Tr.lst ts).py (Tr.lst []).py = ts.isEmpty := by
  rw [eqv_lst]
  cases ts with
  | nil => rfl
  | cons t ts => rfl
end Wf

set_option Elab.async false
set_option linter.all false
set_option maxRecDepth 100000
set_option maxHeartbeats 1000000
namespace Wf
open PySem PySem.Spec PyProof.Rows L2 LamX
section
variable {X : Cx} {B : Bs} {M : Pl} {Δ : List En} {e a b c o lo hi : Expr} {es : List Expr} {Φ : Tr → List En → Prop} {Ψ : Eo}
theorem EO.mono {Φ' : Tr → List En → Prop} (h : EO X B M Δ e Φ) (q : ∀ t Δ', Φ t Δ' → Φ' t Δ') : EO X B M Δ e Φ' := fun σ H S Q k => h σ H S Q fun t Δ' l H' p => k t Δ' l H' (q t Δ' p)
/-! ### slices -/
def cutL {α : Type} (xs : List α) (lo hi : Option Int) : List α := (xs.drop (HT.sIx xs.length 0 lo)).take (HT.sIx xs.length xs.length hi - HT.sIx xs.length 0 lo)
theorem cut_dts {K : PySem.W.Frag} {I : Hp} {xs : List V} {ts : List Tr} {lo hi : Option Int} (d : Dts K I xs ts) : Dts K I (cutV xs lo hi) (cutL ts lo hi) := by
  unfold cutV cutL
  rw [d.length]
  exact (d.drop _).take _
/-- a part of a slice: an int or left out -/
def EP0 (X : Cx) (B : Bs) (M : Pl) (Δ : List En) (e : Option Expr) (Θ : Option Int → List En → Prop) : Prop := ∃ to, PO X e to ∧ ∀ σ H, Sk X.K B M H σ Δ → ∀ Q : Option Int → Hp → Prop, (∀ i Δ' H', Θ i Δ' → Fe M.w H H' → Sk X.K B M H' σ Δ' → Q i H') → to σ H Q
theorem ep_no {Θ : Option Int → List En → Prop} (h : Θ none Δ) : EP0 X B M Δ none Θ := ⟨_, po_none, fun σ H S Q k => k none Δ H h (Fe.refl _ _) S⟩
theorem ep_some {Θ : Option Int → List En → Prop} (h : EE X B M Δ e fun t Δ1 => ∃ i, t = .int i ∧ Θ (some i) Δ1) : EP0 X B M Δ (some e) Θ := ⟨_, po_some pe_self, fun σ H S Q k => h σ H S _ fun t Δ1 v H1 p f S1 d => by
  obtain ⟨i, rfl, q⟩ := p
  cases d
  exact ⟨i, rfl, k (some i) Δ1 H1 q f S1⟩⟩
theorem eo_slL {lo hi : Option Expr} {p2 pos : Pos} (h : EE X B M Δ a fun x Δ1 => ∃ ts, x = .lst ts ∧ EP0 X B M Δ1 lo fun l Δ2 => EP0 X B M Δ2 hi fun u Δ3 => Φ (.lst (cutL ts l u)) Δ3) : EO X B M Δ (.Subscript a (.Slice lo hi none p2) pos) Φ := fun σ H S Q k => by
  -- the parts' readings are chosen for each datum: all of them at once
  refine PE.to (pe_slice (X := X) (tl := fun σ H Q => ∃ to, PO X lo to ∧ to σ H Q) (th := fun σ H Q => ∃ to, PO X hi to ∧ to σ H Q) sl_list pe_self ⟨fun pins s σ H Q I ⟨to, h1, h2⟩ => h1.run pins s σ H Q I h2⟩ ⟨fun pins s σ H Q I ⟨to, h1, h2⟩ => h1.run pins s σ H Q I h2⟩) (h σ H S _ fun x Δ1 v H1 p f S1 d => ?_)
  obtain ⟨ts, rfl, tl, hl, q⟩ := p
  refine ⟨tl, hl, q σ H1 S1 _ fun l Δ2 H2 ⟨th, hh, q2⟩ f2 S2 => ⟨th, hh, q2 σ H2 S2 _ fun u Δ3 H3 q3 f3 S3 => ?_⟩⟩
  have d := (d.mono (S1.sub f2)).mono (S2.sub f3)
  cases d with
  | lst h1 h2 =>
    refine ⟨_, _, rfl, sub_seqL mi_sub h1, fun p hp => ?_⟩
    rename_i a' xs
    have s := same_new (o := .lst (cutV xs l u)) hp
    obtain ⟨a1, a2, a3⟩ := S3.newOwn (t := .lst (cutL ts l u)) hp s ⟨_, upd_same, cut_dts h2⟩
    exact k _ Δ3 p _ q3 (((f.trans f2).trans f3).trans (Fe.same s)) (((f.trans f2).trans f3).free (fun b z => S3.al b (S3.wm b z)) hp) a1 a2 a3
theorem ee_slS {lo hi : Option Expr} {p2 pos : Pos} (h : EE X B M Δ a fun x Δ1 => ∃ z : Str, x = .str z ∧ z.length ≤ sizeLine ∧ EP0 X B M Δ1 lo fun l Δ2 => EP0 X B M Δ2 hi fun u Δ3 => Φ (.str (cutS z l u)) Δ3) : EE X B M Δ (.Subscript a (.Slice lo hi none p2) pos) Φ := fun σ H S Q k => by
  refine PE.to (pe_slice (X := X) (tl := fun σ H Q => ∃ to, PO X lo to ∧ to σ H Q) (th := fun σ H Q => ∃ to, PO X hi to ∧ to σ H Q) sl_str pe_self ⟨fun pins s σ H Q I ⟨to, h1, h2⟩ => h1.run pins s σ H Q I h2⟩ ⟨fun pins s σ H Q I ⟨to, h1, h2⟩ => h1.run pins s σ H Q I h2⟩) (h σ H S _ fun x Δ1 v H1 p f S1 d => ?_)
  obtain ⟨z, rfl, hz, tl, hl, q⟩ := p
  cases d
  exact ⟨tl, hl, q σ H1 S1 _ fun l Δ2 H2 ⟨th, hh, q2⟩ f2 S2 => ⟨th, hh, q2 σ H2 S2 _ fun u Δ3 H3 q3 f3 S3 => ⟨z, rfl, hz, k _ Δ3 _ H3 q3 ((f.trans f2).trans f3) S3 (.str _)⟩⟩⟩
/-! ### list(range(..)), join, + of lists -/
theorem rg_dts {K : PySem.W.Frag} {I : Hp} (a b : Int) : Dts K I (rgV a b) ((List.range (b - a).toNat).map fun i : Nat => Tr.int (a + i)) := by
  have e : rgV a b = ((List.range (b - a).toNat).map fun i : Nat => a + (i : Int)).map V.int := by unfold rgV; rw [List.map_map]; rfl
  have e2 : ((List.range (b - a).toNat).map fun i : Nat => Tr.int (a + i)) = ((List.range (b - a).toNat).map fun i : Nat => a + (i : Int)).map Tr.int := by rw [List.map_map]; rfl
  rw [e, e2]
  exact dts_ints _
theorem eo_listRange {p q pos pos2 : Pos} (hc : X.calm = true) (hg : Gl X "list") (hm : X.mg "list" = none) (hg2 : Gl X "range") (hm2 : X.mg "range" = none) (h : EE X B M Δ a fun t Δ1 => ∃ n : Int, t = .int n ∧ 0 ≤ n ∧ n ≤ 16777216 ∧ Φ (.lst ((List.range n.toNat).map fun i : Nat => Tr.int i)) Δ1)
    (na : starEach [a] X.env = (false, eval a X.env) :: starEach [] X.env := by rfl) (na2 : starEach [.Call (.Name "range" q) [a] [] pos2] X.env = (false, eval (.Call (.Name "range" q) [a] [] pos2) X.env) :: starEach [] X.env := by rfl) : EO X B M Δ (.Call (.Name "list" p) [.Call (.Name "range" q) [a] [] pos2] [] pos) Φ := fun σ H S Q k =>
  PE.to (pe_listRg hc hg hm (prg_1 hg2 hm2 pe_self na) na2) (h σ H S _ fun t Δ1 v H1 p f S1 d => by
    obtain ⟨n, rfl, h0, h1, q⟩ := p
    cases d
    refine ⟨n, rfl, .of_le (Int.le_refl 0) h1 (by decide) h0, fun l hl => ?_⟩
    have s := same_new (o := .lst (rgV 0 n)) hl
    have e : ((List.range (n - 0).toNat).map fun i : Nat => Tr.int (0 + (i : Int))) = (List.range n.toNat).map fun i : Nat => Tr.int i := by
      rw [Int.sub_zero]
      exact List.map_congr_left fun i _ => by rw [Int.zero_add]
    obtain ⟨a1, a2, a3⟩ := S1.newOwn (t := .lst ((List.range n.toNat).map fun i : Nat => Tr.int i)) hl s ⟨_, upd_same, e ▸ rg_dts 0 n⟩
    exact k _ Δ1 l _ q (f.trans (Fe.same s)) (f.free (fun b z => S1.al b (S1.wm b z)) hl) a1 a2 a3)
theorem ee_join {apos pos : Pos} (h : EE X B M Δ o fun x Δ1 => ∃ z : Str, x = .str z ∧ EE X B M Δ1 e fun y Δ2 => ∃ ys : List Str, (y = .lst (ys.map Tr.str) ∨ y = .tup (ys.map Tr.str)) ∧ (ys.map (·.length)).sum + ys.length * z.length ≤ 16777216 ∧ Φ (.str (Txt.join z ys)) Δ2)
    (hs : starEach [e] X.env = [(false, eval e X.env)] := by rfl) (hbase : attributeBase o "join" X.env (eval o X.env) = eval o X.env := by rfl) (hline : (apos.endLine == pos.line) = true := by rfl) : EE X B M Δ (.Call (.Attribute o "join" apos) [e] [] pos) Φ := fun σ H S Q k =>
  PE.to (pe_join pe_self pe_self hs hbase hline) (h σ H S _ fun x Δ1 v H1 p f S1 d => by
    obtain ⟨z, rfl, p⟩ := p
    cases d
    refine ⟨⟨z, rfl⟩, p σ H1 S1 _ fun y Δ2 w H2 p2 f2 S2 d2 => ?_⟩
    obtain ⟨ys, hy, hz, q⟩ := p2
    rcases hy with rfl | rfl
    · cases d2 with
      | lst g1 g2 =>
        have e := of_strs ys g2
        subst e
        exact ⟨z, _, ys, rfl, rfl, .inl (sub_seqL mi_sub g1), hz, k _ Δ2 _ H2 q (f.trans f2) S2 (.str _)⟩
    · cases d2 with
      | tup g1 g2 =>
        have e := of_strs ys g2
        subst e
        exact ⟨z, _, ys, rfl, rfl, .inr (sub_seqT mi_sub g1), hz, k _ Δ2 _ H2 q (f.trans f2) S2 (.str _)⟩)
/-! ### instances: fields, properties, methods -/
theorem dfs_look {K : PySem.W.Frag} {I : Hp} {f : Str} : ∀ {fs : List (Str × V)} {es : List (Str × Tr)} {t : Tr}, Dfs K I fs es → es.lookup f = some t → ∃ v, fs.lookup f = some v ∧ Dt K I v t
  | _, _, _, .nil, h => by simp at h
  | (k, v) :: fs, (_, t0) :: es, t, .cons d q, h => by
    rw [List.lookup_cons] at h
    rw [List.lookup_cons]
    cases hk : f == k with
    | true =>
      rw [hk] at h
      cases h
      exact ⟨v, rfl, d⟩
    | false =>
      rw [hk] at h
      exact dfs_look q h
theorem dfs_none {K : PySem.W.Frag} {I : Hp} {f : Str} : ∀ {fs : List (Str × V)} {es : List (Str × Tr)}, Dfs K I fs es → es.lookup f = none → fs.lookup f = none
  | _, _, .nil, _ => rfl
  | (k, v) :: fs, (_, t0) :: es, .cons d q, h => by
    rw [List.lookup_cons] at h ⊢
    cases hk : f == k with
    | true => rw [hk] at h; cases h
    | false =>
      rw [hk] at h
      exact dfs_none q h
theorem ee_fld {f : Str} {pos : Pos} (h : EE X B M Δ o fun x Δ1 => ∃ C fs u, x = .ins C fs ∧ Cls X.K C ∧ NoAttr X.K C f ∧ fs.lookup f = some u ∧ Φ u Δ1) (hb : attributeBase o f X.env (eval o X.env) = eval o X.env := by rfl) : EE X B M Δ (.Attribute o f pos) Φ := fun σ H S Q k =>
  PE.to (pe_fld pe_self hb) (h σ H S _ fun x Δ1 v H1 p f S1 d => by
    obtain ⟨C, fs, u, rfl, c1, c2, l, q⟩ := p
    cases d with
    | ins h1 h2 =>
      obtain ⟨w, e1, e2⟩ := dfs_look h2 l
      exact ⟨_, C, _, _, w, rfl, (mi_some.mp h1).2, c1, c2, e1, k u Δ1 w H1 q f S1 e2⟩)
/-- a method's or a property's def -/
structure Mt (P : Program) (w : World) (K : PySem.W.Frag) (mg : Str → Option Value) (base : Heap) (C : Addr) (m : Str) (k : Nat) (ps : List Str) (sp : Sp) : Prop where
  cl : Cls K C
  ex : ∃ f fd, FnOk P w K mg base CX0 k f fd ps sp ∧ Meth K C m f ∧ Binds K fd ps []
structure Pt (P : Program) (w : World) (K : PySem.W.Frag) (mg : Str → Option Value) (base : Heap) (C : Addr) (m : Str) (k : Nat) (ps : List Str) (sp : Sp) : Prop where
  cl : Cls K C
  ex : ∃ p f fd, FnOk P w K mg base CX0 k f fd ps sp ∧ PropOf K C m p f ∧ Binds K fd ps []
theorem passN {X : Cx} : Passes CX0 X.nox E0 := fun _ _ _ _ _ _ _ h => h.elim
theorem ee_prop {m : Str} {C : Addr} {k : Nat} {ps : List Str} {pre : List Tr → Prop} {post : List Tr → Tr → Prop} {pos : Pos} (F : Pt X.prog X.w X.K X.mg X.base C m k ps (spF X.K B.T pre post)) (hr : Room (k + 1) X.A)
    (h : EE X B M Δ o fun x Δ1 => ∃ fs, x = .ins C fs ∧ pre [.ins C fs] ∧ ∀ t, post [.ins C fs] t → Φ t Δ1) (hb : attributeBase o m X.env (eval o X.env) = eval o X.env := by rfl) : EE X B M Δ (.Attribute o m pos) Φ := fun σ H S Q kk => by
  obtain ⟨p, f, fd, ok, hp, hbn⟩ := F.ex
  refine PE.to (pe_prop pe_self F.cl hp ok hr hbn .nil passN hb) (h σ H S _ fun x Δ1 v H1 q fe S1 d => ?_)
  obtain ⟨fs, rfl, q1, q2⟩ := q
  cases d with
  | ins h1 h2 =>
    refine ⟨_, _, _, rfl, (mi_some.mp h1).2, M.m, [.ins C fs], .cons (.ins h1 h2) .nil, q1, S1.al, S1.tb, fun v t H' hp f2 tb dd => kk t Δ1 v H' (q2 t hp) (fe.trans (f2.imp fun _ _ _ z => z.elim)) (S1.feGrow f2 tb) dd⟩
theorem ee_meth {m : Str} {C : Addr} {k : Nat} {ps : List Str} {pre : List Tr → Prop} {post : List Tr → Tr → Prop} {apos pos : Pos} {pl : Sem Bool} (F : Mt X.prog X.w X.K X.mg X.base C m k ps (spF X.K B.T pre post)) (hr : Room k X.A)
    (h : EE X B M Δ o fun x Δ1 => ∃ fs, x = .ins C fs ∧ fs.lookup m = none ∧ EA X B M Δ1 (e :: es) fun ts Δ2 => pre (.ins C fs :: ts) ∧ ∀ t, post (.ins C fs :: ts) t → Φ t Δ2)
    (hst : starEach (e :: es) X.env = (false, eval e X.env) :: starEach es X.env := by rfl) (hpl : (backTo pos (starEach es X.env)).any (·.1) = false := by rfl)
    (ht : eval (.Call (.Attribute o m apos) (e :: es) [] pos) X.env = (do
      let ov ← eval o X.env
      standAt apos.atName
      let (f, first) ← holding [ov] (getMethod ov m pl)
      callWith pos f first (backTo pos (starEach (e :: es) X.env)) (backToKw pos (keywordEach [] X.env))) := by rfl) : EE X B M Δ (.Call (.Attribute o m apos) (e :: es) [] pos) Φ := fun σ H S Q kk => by
  obtain ⟨f, fd, ok, hp, hbn⟩ := F.ex
  refine PE.to (pe_meth pe_self F.cl hp ok hr hbn .nil pass0 pa_self hst hpl ht) (h σ H S _ fun x Δ1 v H1 q fe S1 d => ?_)
  obtain ⟨fs, rfl, q0, q1⟩ := q
  cases d with
  | ins h1 h2 =>
    rename_i a' dx fs'
    refine ⟨_, _, _, rfl, (mi_some.mp h1).2, dfs_none h2 q0, q1 σ H1 S1 _ fun ts Δ2 vs H2 q2 f2 S2 d2 => ?_⟩
    rw [List.append_nil]
    exact ⟨M.m, _, .cons ((Dt.ins h1 h2).mono (S1.sub f2)) d2, q2.1, S2.al, S2.tb, fun v t H' hp f3 tb dd => kk t Δ2 v H' (q2.2 t hp) ((fe.trans f2).trans (f3.imp fun _ _ _ z => z.elim)) (S2.feGrow f3 tb) dd⟩
/-! ### x.append(y.pop(i)), both owned -/
theorem s_appendPop (i j : Nat) {x y : Str} {p1 p2 p3 p4 p5 p6 pos : Pos} (hN : X.N[i]? = some x) (hN2 : X.N[j]? = some y) {l m : Addr} {ts0 us0 : List Tr} (hi : Δ[i]? = some (.own l (.lst ts0))) (hj : Δ[j]? = some (.own m (.lst us0))) (hij : i ≠ j)
    (h : EE X B M Δ e fun t Δ1 => ∃ (n : Nat) (ts us : List Tr) (u : Tr), t = .int n ∧ us[n]? = some u ∧ Δ1[i]? = some (.own l (.lst ts)) ∧ Δ1[j]? = some (.own m (.lst us)) ∧ ts.length < sizeLine ∧ us.length ≤ sizeLine ∧ Ψ.nx M ((Δ1.set j (.own m (.lst (us.eraseIdx n)))).set i (.own l (.lst (ts ++ [u])))))
    (hE : PS X (.Expr (.Call (.Attribute (.Name x p1) "append" p2) [.Call (.Attribute (.Name y p3) "pop" p4) [e] [] p5] [] p6) pos) (tDrop (tBM X.K "list" rAppend (tVar i) (tCons (tBM X.K "list" rPopAt (tVar j) (tCons (WE X e) tNil)) tNil))) := by
      exact ps_expr (pe_bm PySem.F.plainAttrs_list PySem.F.slot_list_append PySem.F.type_list_append mt_append (pv _) (pa_cons (pe_bm PySem.F.plainAttrs_list PySem.F.slot_list_pop PySem.F.type_list_pop mt_popAt (pv _) (pa_cons pe_self pa_nil)) pa_nil))) :
    S1 X B M Δ (.Expr (.Call (.Attribute (.Name x p1) "append" p2) [.Call (.Attribute (.Name y p3) "pop" p4) [e] [] p5] [] p6) pos) Ψ := fun σ H S D p => by
  obtain ⟨h1, h2, h3, h4, xs0, h5, h6⟩ := S.ownAt hi
  obtain ⟨g1, g2, g3, g4, ys0, g5, g6⟩ := S.ownAt hj
  refine PS.to hE ⟨_, h1, .inl ⟨rfl, _, SqL.of h5⟩, _, g1, .inl ⟨rfl, _, SqL.of g5⟩, h σ H S _ fun t Δ1 v H1 q f S1 d => ?_⟩
  obtain ⟨n, ts, us, u, rfl, q0, q1, q2, q3, q5, q4⟩ := q
  cases d
  obtain ⟨_, _, _, _, xs, h7, h8⟩ := S1.ownAt q1
  obtain ⟨_, _, _, _, ys, g7, g8⟩ := S1.ownAt q2
  obtain ⟨w', w1, w2⟩ := g8.get q0
  have hn : n < ys.length := (List.getElem?_eq_some_iff.mp w1).1
  have hsl : sizeLine = 16777216 := sizeLine_eq
  have hyl := g8.length
  refine ⟨m, ys, n, n, w', rfl, rfl, g7, by omega, by omega, ?_, w1, ?_⟩
  · have e1 : (if (n : Int) < 0 then (n : Int) + (ys.length : Int) else (n : Int)) = (n : Int) := if_neg (by omega)
    unfold seqIndex?
    show (if (decide (0 ≤ (if (n : Int) < 0 then (n : Int) + (ys.length : Int) else (n : Int))) && decide ((if (n : Int) < 0 then (n : Int) + (ys.length : Int) else (n : Int)) < (ys.length : Int))) = true then some (if (n : Int) < 0 then (n : Int) + (ys.length : Int) else (n : Int)).toNat else none) = some n
    rw [e1, if_pos (by rw [Bool.and_eq_true]; exact ⟨decide_eq_true (by omega), decide_eq_true (by omega)⟩)]
    rfl
  obtain ⟨S2, s2⟩ := S1.write (o := .lst (ys.eraseIdx n)) (t' := .lst (us.eraseIdx n)) q2 ⟨_, upd_same, g8.erase n⟩
  have hlm : l ≠ m := fun z => hij (S1.dis i j _ _ l q1 q2 rfl (by rw [z]; rfl))
  have q1' : (Δ1.set j (.own m (.lst (us.eraseIdx n))))[i]? = some (.own l (.lst ts)) := by rw [List.getElem?_set_ne (Ne.symm hij)]; exact q1
  obtain ⟨S3, s3⟩ := S2.write (o := .lst (xs ++ [w'])) (t' := .lst (ts ++ [u])) q1' ⟨_, upd_same, (h8.mono s2).append (.cons (w2.mono s2) .nil)⟩
  refine ⟨l, xs, w', rfl, rfl, by rw [upd_ne hlm]; exact h7, by rw [h8.length]; exact q3, ?_⟩
  exact p.nx M _ σ _ q4 (((S.sub f).trans s2).trans s3) S3
end
end Wf

set_option Elab.async false
set_option linter.all false
set_option maxRecDepth 100000
set_option maxHeartbeats 1000000
namespace Wf
open PySem PySem.Spec PyProof.Rows L2 LamX
open PySem.W (EachIs AllAlike Sortable dataLe KeyPure)
/-! ### the values of a list that stands for data, sorted -/
theorem each_of {R : Value → Tr → Prop} {K : PySem.W.Frag} {I : Hp} (h : ∀ u t v, RelV v u → Dt K I v t → R u t) : ∀ {vs : List V} {us : List Value} {ts : List Tr}, Vals vs us → Dts K I vs ts → EachIs R us ts
  | _, _, _, .nil, .nil => .nil
  | _, _, _, .cons r rs, .cons d ds => .cons (h _ _ _ r d) (each_of h rs ds)
theorem each_back {K : PySem.W.Frag} {I : Hp} : ∀ {us : List Value} {ts : List Tr}, EachIs (fun u t => ∃ v, RelV v u ∧ Dt K I v t) us ts → ∃ vs, Vals vs us ∧ Dts K I vs ts
  | _, _, .nil => ⟨[], .nil, .nil⟩
  | _, _, .cons ⟨v, r, d⟩ h => let ⟨vs, h1, h2⟩ := each_back h; ⟨v :: vs, .cons r h1, .cons d h2⟩
theorem plainAll_mem {ts : List Tr} : plainAll ts = true → ∀ t ∈ ts, t.plain = true := by
  induction ts with
  | nil => intro _ t h; simp at h
  | cons x xs ih =>
    intro h t ht
    unfold plainAll at h
    rw [Bool.and_eq_true] at h
    rcases List.mem_cons.mp ht with rfl | ht
    · exact h.1
    · exact ih h.2 t ht
def rSortD (K : PySem.W.Frag) : List V → Hp → VK → Prop := fun vs H Q => ∃ (I : Hp) (a : Addr) (xs : List V) (ts : List Tr), vs = [.ref a] ∧ SqL K H a xs ∧ Sub I H ∧ Dts K I xs ts ∧ (∀ t ∈ ts, t.plain = true) ∧ AllAlike (ts.map Tr.py) ∧ Sortable (ts.map Tr.py) ∧ (∀ t ∈ ts, t.py.depth ≤ 8) ∧
  ∀ ys p, Dts K I ys (ts.mergeSort (dataLe false Tr.py)) → H p = none → Q (.ref p) (upd H p (.lst ys))
section
variable {X : Cx} {B : Bs} {M : Pl} {Δ : List En} {e a b c o lo hi : Expr} {es : List Expr} {Φ : Tr → List En → Prop} {Ψ : Eo}
theorem cr_sortD (hu : X.A.units + 64 < cLine) : CallR X (.builtin "sorted") (rSortD X.K) := by
  intro pins s σ H vs us Q J r h
  obtain ⟨I, a, xs, ts, rfl, hs, sub, d, hp, hal, hk, hdp, q⟩ := h
  obtain rfl := Vals.ref1 r
  obtain ⟨its, rv, hl, hz⟩ := J.list hs
  have ev : EachIs (fun u t => ∃ v, RelV v u ∧ Dt X.K I v t) its ts := each_of (fun u t v r d => ⟨v, r, d⟩) rv d
  have el : ts.length = xs.length := d.length.symm
  have er : EachIs (fun u t => ∃ as, Reads s.heap u (Tr.py t) as) its ts := by
    have key : ∀ {vs : List V} {us : List Value} {ts : List Tr}, Vals vs us → Dts X.K I vs ts → (∀ t ∈ ts, t.plain = true) → EachIs (fun u t => ∃ as, Reads s.heap u (Tr.py t) as) us ts := fun {vs us ts} hv => by
      induction hv generalizing ts with
      | nil => intro dd _; cases dd; exact .nil
      | cons r _ ih =>
        intro dd pp
        cases dd with
        | cons d1 d2 => exact .cons (Dp.reads J _ _ _ ((d1.mono sub).dp (pp _ List.mem_cons_self)) r) (ih d2 fun t ht => pp t (List.mem_cons_of_mem _ ht))
    exact key rv d hp
  refine PySem.W.sorted_data (enc := Tr.py) (bs := ts) hl.isList ev er hal hk (by rw [el]; exact hz) (fun t ht => ?_) fun out ho eo => ?_
  · have := hdp t ht
    omega
  obtain ⟨ys, y1, y2⟩ := each_back eo
  obtain ⟨ep, he⟩ := PyProof.Rows.sortedAll_at s.heap its (List.toArray out)
  have hyl : ys.length ≤ sizeLine := by rw [y1.length, ho, el]; exact hz
  exact ⟨.ref _, upd H (s.heap.objs.size + 1) (.lst ys), J.laid (t' := s.toks) (fun _ _ => PyProof.Rows.sortedAll_old) (Nat.le_succ _) ⟨hyl, out, ep, y1, he⟩, rfl, q _ _ y2 (J.hok.fresh (Nat.le_succ _))⟩
/-- sorted(xs), plain data that compare -/
theorem co_sortD (hu : X.A.units + 64 < cLine) : CalO X (.builtin "sorted") B M Φ fun ts Δ2 => ∃ us : List Tr, ts = [.lst us] ∧ (∀ t ∈ us, t.plain = true) ∧ AllAlike (us.map Tr.py) ∧ Sortable (us.map Tr.py) ∧ (∀ t ∈ us, t.py.depth ≤ 8) ∧ Φ (.lst (us.mergeSort (dataLe false Tr.py))) Δ2 := ⟨_, cr_sortD hu, fun ts Δ2 p σ H vs Q S d k => by
  obtain ⟨us, rfl, p1, p2, p3, p4, q⟩ := p
  cases d with
  | cons d1 d2 =>
    cases d2
    cases d1 with
    | lst h1 h2 =>
      exact ⟨mi M.m H, _, _, us, rfl, sub_seqL mi_sub h1, mi_sub, h2, p1, p2, p3, p4, fun ys p y1 hp => k _ p _ q (same_new hp) hp ⟨ys, upd_same, y1⟩⟩⟩
end
/-! ### the lambda of word order -/
/-- a text's place in word order -/
def wkey (x : Str) : PyData := .tuple [.int x.length, .str x]
section
variable {X : Cx} {pins : List (Addr × Obj)} {σ : L2.St} {H : Hp} {s : Shared}
abbrev lamSc : Scope := ⟨.function, [("word", .local), ("len", .globalImplicit)], false, false, []⟩
abbrev lamBd (p1 p2 p3 p4 p5 : Pos) (k : Nat) : Expr := .Tuple [.Call (.Name "len" p1) [.Name "word" p2] [] p3, .Name "word" p4] k p5
theorem lam_turn {A : Around} {mg : Str → Option Value} {prog : Program} {w : World} {s : Shared} {f c' : Addr} {q : Str} {params : Arguments} {pm ctv : Value} {p1 p2 p3 p4 p5 : Pos} {j : Nat} {x : Str} {t : Tok}
    (hA : A.depth < recursionLimit) (hf : s.heap.get? f = some (PySem.W.kla_obj "<lambda>" q params (lamBd p1 p2 p3 p4 p5 j) lamSc [] pm c' ctv)) (hc : s.heap.CodeRec (.ref c') q)
    (hb : ∀ v : Value, bindArgs (PySem.W.kla_fn "<lambda>" q params (lamBd p1 p2 p3 p4 p5 j) lamSc [] pm (.ref c') ctv) ⟨[v], []⟩ = pure [(("word" : Str), v)])
    (hl : s.heap.NoLimit) (hg : s.heap.Ns mainGlobals mg) (hm : mg "len" = none) (hbn : ∃ mb, s.heap.Ns builtinsNs mb ∧ mb "len" = bootBuiltins "len") (hx : x.length ≤ sizeLine) :
    wpAny (model prog w) A (call (.ref f) [.str x t]) (KeyPure (wkey x) s) (fun _ _ => False) s := by
  obtain ⟨mb, hn1, hn2⟩ := hbn
  refine wpAny_call (PySem.W.kla_callFunE hA hf rfl rfl rfl rfl hc ?_)
  rw [hb]
  refine wpAny_pure (wpAny_newFunctionEnv (fun y hy => ?_) (fun y hy => ?_) (fun h₁ hns hsb => ⟨hl.fresh _ hsb, ?_⟩) rfl)
  · rcases List.mem_cons.mp hy with rfl | hy
    · decide
    · rcases List.mem_cons.mp hy with rfl | hy
      · decide
      · exact absurd hy (by simp)
  · rcases List.mem_cons.mp hy with rfl | hy
    · rfl
    · exact absurd hy (by simp)
  · have kp : ∀ b o, s.heap.get? b = some o → h₁.get? b = some o := fun b o e => hsb.extBut b o (Nat.ne_of_lt (Heap.lt_size e)) (Heap.get?_push_of_some _ e)
    have hw : (fun y => ([("word", (Value.str x t))] : List (Str × Value)).reverse.lookup y) "word" = some (.str x t) := rfl
    refine PySem.W.kla_codeExpr (Tuple_ (Calls.spliced_cons (wpAny_Call_Name_kw (Calls.Name_function_global rfl rfl (Calls.loadGlobal_builtin (hg.keeps kp) hm (hn1.keeps kp) (v := .builtin "len") (by rw [hn2]; decide +kernel) ?_) (by decide)))))
    have hz := sizeLine_eq
    refine callWith_builtin1 (wpAny_Name (wpAny_loadName_local rfl rfl hns hw (PyProof.Rows.len_str (by omega) ?_)) (by decide))
    refine Calls.spliced_cons (wpAny_Name (wpAny_loadName_local rfl rfl hns hw (Calls.spliced_nil ?_)) (by decide))
    refine wpAny_newObj_type ⟨_, _, rfl, fun b o e => Heap.get?_push_of_some _ (kp b o e), ?_⟩ (by size_fits)
    exact .tuple (Heap.get?_push_size _ rfl) rfl rfl (.cons (.int _ _) (.cons (.str _ _) .nil))
end
end Wf

set_option Elab.async false
set_option linter.all false
set_option maxRecDepth 100000
set_option maxHeartbeats 2000000
namespace Wf
open PySem PySem.Spec PyProof.Rows L2 LamX
open PySem.W (EachIs AllAlike Sortable dataLe KeyPure copyHeap)
/-! ### a lambda is made: what stays -/
def TblK (H H' : Hp) : Prop := ∀ b ps, H b = some (.tbl ps) → ∃ qs, H' b = some (.tbl qs)
section
variable {X : Cx} {pins : List (Addr × Obj)} {σ : L2.St} {H : Hp} {s : Shared}
theorem lam_mk {T : List (Addr × Str)} {c P : Addr} {params : Arguments} {body : Expr} {scope : Scope} {pos : Pos} {E Q : Value → Shared → Prop} {q : Str} (I : Inv X pins σ H s) (TB : TabB X.base X.mg c P)
    (hcode : X.env.code = .ref c) (hq : X.env.qual ++ "<lambda>" = q) (hm : (P, q) ∈ T) (hu : ∀ p ∈ T, p.1 = P → p.2 = q) (hT : Tabs T H) (hdef : defaultsOf params X.env = ([], [])) (hfree : ∀ y ∈ scope.names, y.2 = .free → ∃ c, X.env.cells.lookup y.1 = some c)
    (hcl : cloFrom X.env.cells scope.names [] = [])
    (h : ∀ (f c' : Addr) (pm ctv : Value) (H1 : Hp) (s' : Shared), Inv X pins σ H1 s' → ExtN H H1 → TblK H H1 → Tabs T H1 →
      s'.heap.get? f = some (PySem.W.kla_obj "<lambda>" q params body scope [] pm c' ctv) → H1 c' = some (CodeO c' q) → Q (.ref f) s') : wpAny (model X.prog X.w) X.A (eval (.Lambda params body scope pos) X.env) Q E s := by
  subst hq
  obtain ⟨ps, eP, tP, aP⟩ := hT _ hm
  have oP : s.heap.get? P = some { cls := .none, data := .fields ps } := I.hok P _ eP
  refine PySem.W.kla_eval hdef ?_
  cases hc : codeAmong pos ps.toList with
  | some cv =>
    obtain ⟨c', rfl, oc⟩ := aP pos cv hc
    refine PySem.W.kla_makeFunctionHit (mg := X.mg) (c := c) (P := P) (ps := ps) (closure_ok hfree) I.ok.glob (I.mod.glob.keeps I.bk) hcode (TB.code.keeps I.bk) oP tP hc (TB.bm.keeps I.bk) fun ctv h' tk kp ge => ?_
    rw [hcl]
    exact h _ c' _ ctv H _ (I.kept (t' := tk) fun b o z => Heap.get?_push_of_some _ (kp b o z)) (ExtN.refl H) (fun b qs z => ⟨qs, z⟩) hT (Heap.get?_push_size _ rfl) oc
  | none =>
    refine PySem.W.kla_makeFunction (mg := X.mg) (c := c) (P := P) (ps := ps) (closure_ok hfree) I.ok.glob (I.mod.glob.keeps I.bk) hcode (TB.code.keeps I.bk) oP tP hc TB.gP (TB.bm.keeps I.bk) fun c' ctv h' tk ext ge lt rc ot => ?_
    rw [hcl]
    obtain ⟨c2, o1, o2, o3, ec, o4, o5, o6⟩ := rc
    cases ec
    have fr : H c' = none := I.hok.fresh ge
    have ne : P ≠ c' := ne_of_none eP fr
    have J := inv_table (t' := tk) (more := #[rawInt pos.line, rawInt pos.col, .ref c']) (h' := h'.push (PySem.W.kla_obj "<lambda>" (X.env.qual ++ "<lambda>") params body scope [] ((X.mg "__name__").getD .none) c' ctv)) I eP (fun b o nb z => Heap.get?_push_of_some _ (ext b o nb z)) (Heap.get?_push_of_some _ ot) ge ⟨o1, o2, o3, Heap.get?_push_of_some _ o4, o5, o6⟩
    have xt : ExtN H (upd (upd H P (.tbl (ps ++ #[rawInt pos.line, rawInt pos.col, .ref c']))) c' (CodeO c' (X.env.qual ++ "<lambda>"))) := fun b o z nt => by
      have n1 : b ≠ P := fun y => by
        rw [y, eP] at z
        cases z
        exact nt _ rfl
      rw [upd_ne (ne_of_none z fr), upd_ne n1]
      exact z
    have tl : (ps ++ #[rawInt pos.line, rawInt pos.col, .ref c']).toList = ps.toList ++ [rawInt pos.line, rawInt pos.col, .ref c'] := by simp
    refine h _ c' _ ctv _ _ J xt (fun b qs z => ?_) (fun p hp => ?_) (Heap.get?_push_size _ rfl) upd_same
    · by_cases n1 : b = P
      · exact ⟨_, by rw [n1, upd_ne ne, upd_same]⟩
      · exact ⟨qs, by rw [upd_ne (ne_of_none z fr), upd_ne n1]; exact z⟩
    · by_cases n1 : p.1 = P
      · rw [n1, hu p hp n1]
        refine ⟨_, by rw [upd_ne ne, upd_same], by rw [tl]; exact PySem.TriplesOk_snoc _ _ _ _ tP, fun p' cv hcv => ?_⟩
        rw [tl] at hcv
        rcases among_app _ tP hcv with y | y
        · obtain ⟨c0, e1, e2⟩ := aP p' cv y
          exact ⟨c0, e1, xt _ _ e2 codeO_ne⟩
        · exact ⟨c', y, upd_same⟩
      · obtain ⟨qs, a1, a2, a3⟩ := hT p hp
        refine ⟨qs, by rw [upd_ne (ne_of_none a1 fr), upd_ne n1]; exact a1, a2, fun p' cv hcv => ?_⟩
        obtain ⟨c0, e1, e2⟩ := a3 p' cv hcv
        exact ⟨c0, e1, xt _ _ e2 codeO_ne⟩
end
/-! ### sorted(xs, key=f), xs a list or a tuple -/
section
variable {prog : Program} {w : World} {A : Around} {E : Value → Shared → Prop} {s : Shared} {β : Type} {vs : List Value} {bs : List β} {R : Value → β → Prop}
/-- a list or a tuple of these values -/
def SeqO (h : Heap) (l : Addr) (vs : List Value) : Prop := ∃ o n, h.get? l = some o ∧ (o.cls = .type "list" ∨ o.cls = .type "tuple") ∧ o.data = .seq vs.toArray n
theorem collect_sq {l : Addr} {Q : List Value → Shared → Prop} (hl : SeqO s.heap l vs) (hz : vs.length ≤ sizeLine)
    (h : Q vs { s with heap := (s.heap.push (seqObj "list" #[] 0)).update s.heap.objs.size (Obj.mapSeq (· ++ vs.toArray)) }) : wpAny (model prog w) A (collect (.ref l)) Q E s := by
  obtain ⟨o, n, g, cl, da⟩ := hl
  have g2 : (s.heap.push (seqObj "list" #[] 0)).get? l = some o := Heap.get?_push_of_some _ g
  unfold collect
  refine wpAny_bind (wpAny_runValue (codeAny_builtin entry_proto_collect' ?_))
  show wpAny _ _ (newList [] >>= fun l' => again (.builtin "list.__iadd__" ⟨[l', .ref l], []⟩)) _ _ s
  refine wpAny_bind (wpAny_newList (wpAny_pure (And.intro (Code.quiet_builtin _ (by decide +kernel)) (codeAny_builtin entry_list_iadd' ?_))) (Nat.zero_le _))
  show wpAny _ _ (Builtin.List.listExtendWith (.ref s.heap.objs.size) (.ref l) (.ref s.heap.objs.size)) _ _ ({ s with heap := s.heap.push (seqObj "list" #[] 0) } : Shared)
  unfold Builtin.List.listExtendWith
  have new : (s.heap.push (seqObj "list" #[] 0)).get? s.heap.objs.size = some (seqObj "list" #[] 0) := Heap.get?_push_size _ rfl
  obtain ⟨T, ty, hT⟩ : ∃ T : String, o.cls = .type T ∧ ((Value.type T == Value.type "list") = true ∨ (Value.type T == Value.type "tuple") = true) := by
    rcases cl with e | e
    · exact ⟨_, e, .inl (by rfl)⟩
    · exact ⟨_, e, .inr (by rfl)⟩
  refine wpAny_bind (wpAny_typeOf (T := T) ⟨o, g2, ty⟩ ?_)
  rw [if_pos (by rcases hT with e | e <;> rw [e] <;> simp)]
  refine wpAny_bind (listItems_at g2 da (wpAny_bind (listItems_at new rfl ?_)))
  rw [if_neg (by simp)]
  refine wpAny_bind (listUpdate_at new rfl (wpAny_pure ?_) (Nat.zero_le _) (by show (#[] ++ vs.toArray).size ≤ sizeLine + 1; simp only [Array.size_append, List.size_toArray, List.length_nil]; omega))
  show wpAny (model prog w) A (load s.heap.objs.size >>= fun o => match o.data with
      | .seq xs _ => pure xs.toList
      | _ => unsupported "internal:collect") Q E _
  refine wpAny_bind (wpAny_load (get?_update_seq new _) ?_)
  show wpAny _ _ (pure ((#[] : Array Value) ++ vs.toArray).toList) Q E _
  have e : ((#[] : Array Value) ++ vs.toArray).toList = vs := by simp
  rw [e]
  exact wpAny_pure h
theorem sorted_sq {l : Addr} {f : Value} {kw : List (Str × Value)} {Q : Value → Shared → Prop} (k : β → PyData) (hl : SeqO s.heap l vs) (e : EachIs R vs bs) (hal : AllAlike (bs.map k)) (hk : Sortable (bs.map k)) (hL : bs.length ≤ sizeLine)
    (hu : ∀ x, x ∈ bs → A.units + 2 + (k x).depth < cLine) (ha1 : argsOk "sorted" ⟨[.ref l], kw⟩) (ha2 : ∀ x, argsOk "list.sort" ⟨[.ref x], kw⟩) (ht : ∀ x, Builtin.«list.sort» ⟨[.ref x], kw⟩ = ksk_tree x f false)
    (turn : ∀ (v : Value) (x : β), R v x → x ∈ bs → ∀ (h : Heap) (tk : Nat), (∀ b o, s.heap.get? b = some o → h.get? b = some o) → wpAny (model prog w) A.in1.in1 (call f [v]) (KeyPure (k x) { s with heap := h, toks := tk }) (fun _ _ => False) { s with heap := h, toks := tk })
    (h : ∀ out c h' tk, (∀ b o, s.heap.get? b = some o → h'.get? b = some o) → h'.get? (s.heap.objs.size + 1) = some (seqObj "list" (List.toArray out) c) → out.length = bs.length → EachIs R out (bs.mergeSort (dataLe false k)) → Q (.ref (s.heap.objs.size + 1)) { s with heap := h', toks := tk }) :
    wpAny (model prog w) A (call (.builtin "sorted") [.ref l] kw) Q E s := by
  have hz : vs.length ≤ sizeLine := by rw [e.length]; exact hL
  have up : ∀ {g : Heap}, PySem.W.KeepsBut (s.heap.objs.size + 1) (copyHeap s.heap vs) g → ∀ b o, s.heap.get? b = some o → g.get? b = some o := fun {g} kp b o q => kp b o (Nat.ne_of_lt (Nat.lt_succ_of_lt (Heap.lt_size q))) (PySem.W.copyHeap_old q)
  refine call_function_entry_kw kind_sorted plain_sorted entry_sorted ha1 ?_
  unfold Builtin.«sorted»
  refine wpAny_bind (m := checkCount "sorted" 1 1 _) (wpAny_pure (wpAny_bind (collect_sq hl hz (wpAny_bind (wpAny_newList ?_ hz)))))
  have n1 : ((s.heap.push (seqObj "list" #[] 0)).update s.heap.objs.size (Obj.mapSeq (· ++ vs.toArray))).objs.size = s.heap.objs.size + 1 := by rw [Heap.size_update, size_push']
  show wpAny _ _ _ _ _ ({ s with heap := copyHeap s.heap vs } : Shared)
  rw [n1]
  refine wpAny_bind (wpAny_holding (wpAny_call_entry_kw slot_list_sort ⟨_, PySem.W.copyHeap_at s.heap vs, rfl⟩ entry_list_sort ?_ (ha2 _)))
  rw [ht]
  refine PySem.W.keyH_tree (kz := bs.map k) (s := { s with heap := copyHeap s.heap vs }) (PySem.W.copyHeap_at s.heap vs) (by rw [List.length_map, e.length]) hz hal hk (fun d hd => ?_)
    (PySem.W.keyH_turns (s := { s with heap := copyHeap s.heap vs }) e fun v x hR hx h tk kp => turn v x hR hx h tk (up kp)) fun h' tk out c kp hD ko => ⟨Value.none, rfl, wpAny_pure ⟨_, rfl, ?_⟩⟩
  · obtain ⟨x, hx, rfl⟩ := List.mem_map.mp hd
    exact hu x hx
  · exact h out c h' tk (up kp) hD ((ko.length (by rw [List.length_map, e.length])).trans e.length) (PySem.W.keyedOut_each k ko e)
end
theorem dep_wkey (x : Str) : (wkey x).depth = 1 := by simp [wkey, PyData.depth, PyData.depthAll]
theorem alike_wkey (ws : List Str) : AllAlike (ws.map wkey) := AllAlike.of fun _ _ => by simp [wkey, PySem.W.alike, PySem.W.alikeAll]
theorem each_strs {ws : List Str} : ∀ {us : List Value}, Vals (ws.map V.str) us → EachIs (fun u x => ∃ t, u = Value.str x t) us ws := fun {us} h => by
  induction ws generalizing us with
  | nil => cases h; exact .nil
  | cons w ws ih =>
    cases h with
    | cons r rs => exact .cons r (ih rs)
theorem strs_each {ws : List Str} {us : List Value} (h : EachIs (fun u x => ∃ t, u = Value.str x t) us ws) : Vals (ws.map V.str) us := by
  induction h with
  | nil => exact .nil
  | cons r _ ih => exact .cons r ih
section
variable {X : Cx} {B : Bs} {M : Pl} {Δ : List En} {e : Expr} {Φ : Tr → List En → Prop}
theorem seqO_of {pins : List (Addr × Obj)} {σ : L2.St} {H : Hp} {s : Shared} {a : Addr} {xs : List V} (I : Inv X pins σ H s) (h : SqL X.K H a xs ∨ SqT X.K H a xs) : ∃ its, Vals xs its ∧ SeqO s.heap a its ∧ xs.length ≤ sizeLine := by
  rcases h with h | h
  · obtain ⟨its, r, pl, z⟩ := I.list h
    obtain ⟨o, ho, hc, n, hd⟩ := pl.isList
    exact ⟨its, r, ⟨o, n, ho, .inl hc, hd⟩, z⟩
  · obtain ⟨its, r, ⟨o, ho, hc, n, hd⟩, z⟩ := I.tuple h
    exact ⟨its, r, ⟨o, n, ho, .inr hc, hd⟩, z⟩
/-- sorted(xs, key=lambda word: (len(word), word)) -/
theorem eo_sortedKey {k : Nat} {c P : Addr} {q : Str} {p kp lpos pos p1 p2 p3 p4 p5 : Pos} {j : Nat} {params : Arguments} (hg : Gl X "sorted") (hm : X.mg "sorted" = none) (hml : X.mg "len" = none) (TB : TabB X.base X.mg c P) (hcode : X.env.code = .ref c)
    (hq : X.env.qual ++ "<lambda>" = q) (hmT : (P, q) ∈ B.T) (hu : ∀ p ∈ B.T, p.1 = P → p.2 = q) (hr : Room (k + 2) X.A) (hcl : cloFrom X.env.cells lamSc.names [] = [])
    (hbind : ∀ (pm cv ctv v : Value), bindArgs (PySem.W.kla_fn "<lambda>" q params (lamBd p1 p2 p3 p4 p5 j) lamSc [] pm cv ctv) ⟨[v], []⟩ = pure [(("word" : Str), v)])
    (h : EA X B M Δ [e] fun ts Δ1 => ∃ ws : List Str, (ts = [.lst (ws.map Tr.str)] ∨ ts = [.tup (ws.map Tr.str)]) ∧ (∀ w ∈ ws, w.length ≤ sizeLine) ∧ Φ (.lst ((ws.mergeSort (dataLe false wkey)).map Tr.str)) Δ1)
    (hdef : defaultsOf params X.env = ([], []) := by rfl)
    (he : backTo pos (starEach [e] X.env) = (false, eval e X.env) :: backTo pos (starEach [] X.env) := by rfl) (hpl : (backTo pos (starEach [e] X.env)).any (·.1) = false := by rfl) :
    EO X B M Δ (.Call (.Name "sorted" p) [e] [⟨some "key", .Lambda params (lamBd p1 p2 p3 p4 p5 j) lamSc lpos, kp⟩] pos) Φ := fun σ H S Q kk pins s I => by
  refine wpAny_Call_Name_kw (ld_blt (u := .builtin "sorted") I hg hm (by decide +kernel) ?_)
  refine PyProof.Rows.callWith_kw (thn (h σ H S (fun vs H1 => ∃ (Δ1 : List En) (a : Addr) (xs : List V) (ws : List Str), vs = [V.ref a] ∧ (SqL X.K H1 a xs ∨ SqT X.K H1 a xs) ∧ xs = ws.map V.str ∧ (∀ w ∈ ws, w.length ≤ sizeLine) ∧ Φ (.lst ((ws.mergeSort (dataLe false wkey)).map Tr.str)) Δ1 ∧ Fe M.w H H1 ∧ Sk X.K B M H1 σ Δ1) ?_ pos pins s I) fun us s1 hs => ?_) he hpl rfl rfl
  · rintro ts Δ1 vs H1 ⟨ws, ht, hw, hp⟩ f S1 d
    rcases ht with rfl | rfl
    · cases d with
      | cons d1 d2 =>
        cases d2
        cases d1 with
        | lst g1 g2 => exact ⟨Δ1, _, _, ws, rfl, .inl (sub_seqL mi_sub g1), of_strs ws g2, hw, hp, f, S1⟩
    · cases d with
      | cons d1 d2 =>
        cases d2
        cases d1 with
        | tup g1 g2 => exact ⟨Δ1, _, _, ws, rfl, .inr (sub_seqT mi_sub g1), of_strs ws g2, hw, hp, f, S1⟩
  obtain ⟨vs, H1, I1, rv, Δ1, a, xs, ws, rfl, hs, rfl, hw, hp, f, S1⟩ := hs
  obtain rfl := Vals.ref1 rv
  refine evalAll_cons (wpAny_bind (lam_mk (q := q) I1 TB hcode hq hmT hu S1.tb hdef (fun y hy z => ?_) hcl fun fa c' pm ctv H2 s2 I2 xt tk T2 hf hco => wpAny_bind (wpAny_standAt (wpAny_pure (evalAll_nil ?_)))))
  · exfalso
    rcases List.mem_cons.mp hy with rfl | hy
    · cases z
    · rcases List.mem_cons.mp hy with rfl | hy
      · cases z
      · exact absurd hy (by simp)
  have fe : Fe (fun _ => False) H1 H2 := ⟨fun b o _ n z => xt b o z n, tk⟩
  have S2 := S1.feGrow fe T2
  have hs2 : SqL X.K H2 a (ws.map V.str) ∨ SqT X.K H2 a (ws.map V.str) := hs.imp (sub_seqL fun b o n z => xt b o z n) (sub_seqT fun b o n z => xt b o z n)
  obtain ⟨its, r2, so, hz⟩ := seqO_of I2 hs2
  obtain ⟨⟨oc, ovs, ot, o1, o2, o3⟩, _, _⟩ := I2.hok c' _ hco
  have ev := each_strs r2
  have un := hr.un
  obtain ⟨mb, b1, b2⟩ := I2.mod.blt
  show wpAny _ _ (call (.builtin "sorted") [.ref a] [(Str.ofString "key", .ref fa)]) _ _ s2
  refine sorted_sq wkey so ev (alike_wkey ws) (Sortable.tuples fun _ => ⟨_, _, rfl⟩) (by rw [← List.length_map (f := V.str)]; exact hz) (fun x _ => by rw [dep_wkey]; omega) (PyProof.Rows.ksk_s1 _ _) (fun _ => PyProof.Rows.ksk_l1 _ _) (fun _ => PyProof.Rows.ksk_t1 _ _)
    (fun v x hv hx h tk kp => ?_) fun out cc h' tk kp hD ho eo => ?_
  · obtain ⟨t, rfl⟩ := hv
    have kb : ∀ b o, X.base.get? b = some o → h.get? b = some o := fun b o z => kp b o (I2.bk b o z)
    exact lam_turn (s := { s2 with heap := h, toks := tk }) (mg := X.mg) (hr.in1).in1.depth (kp _ _ hf) ⟨c', oc, ovs, ot, rfl, kp _ _ o1, o2, o3⟩ (fun v => hbind _ _ _ _) (I2.mod.nolimit.keeps kb) (I2.mod.glob.keeps kb) hml ⟨mb, b1.keeps kb, b2 _ (by decide)⟩ (hw x hx)
  · have vv := strs_each eo
    have n2 : H2 (s2.heap.objs.size + 1) = none := I2.hok.fresh (Nat.le_succ _)
    have hl : ((ws.mergeSort (dataLe false wkey)).map V.str).length ≤ sizeLine := by
      rw [List.length_map, List.length_mergeSort]
      rw [List.length_map] at hz
      exact hz
    obtain ⟨a1, a2, a3⟩ := S2.newOwn (t := .lst ((ws.mergeSort (dataLe false wkey)).map Tr.str)) n2 (same_new (o := .lst ((ws.mergeSort (dataLe false wkey)).map V.str)) n2) ⟨_, upd_same, dts_strs _⟩
    have fw : Fe M.w H H2 := f.trans (fe.imp fun _ _ _ z => z.elim)
    exact ⟨.ref _, upd H2 (s2.heap.objs.size + 1) (.lst ((ws.mergeSort (dataLe false wkey)).map V.str)), I2.laid (t' := tk) kp (Nat.le_succ _) ⟨hl, out, cc, vv, hD⟩, rfl, kk _ Δ1 _ _ hp (fw.trans (Fe.same (same_new n2))) (fw.free (fun b z => S2.al b (S2.wm b z)) n2) a1 a2 a3⟩
end
end Wf

set_option Elab.async false
set_option linter.all false
set_option maxRecDepth 100000
set_option maxHeartbeats 2000000
namespace Wf
open PySem PySem.Spec PyProof.Rows L2 LamX
/-! ### a law's def at the caller itself: no repr is under way there -/
structure LawOk (CX : CXT) (P : Program) (w : World) (K : PySem.W.Frag) (mg : Str → Option Value) (base : Heap) (f : Addr) (fd : FuncData) (x : Str) (sp : Sp) : Prop where
  run : ∀ (s : Shared) (H : Hp) (u : Value) (v : V) (Q : VK), Env0 P w K mg base callerA [] s H → RelV v u → sp [v] H Q (fun _ _ _ => False) →
    codeAny (model P w) callerA (.call (.ref f) ⟨[u], []⟩) (CR CX [] P w H s Q fun _ _ _ => False) s
section
variable {P : Program} {w : World} {K : PySem.W.Frag} {mg mb : Str → Option Value} {CX : CXT} {k : Nat} {fa a : Addr} {cs : List (Addr × Addr)} {fd : FuncData} {x : Str} {sp : Sp} {s : Shared} {vs : List Value} {ns : List Int}
open Classical in
/-- what is tracked at the law's entry: the tables, and the script if the module does not hold it -/
noncomputable def entryH (K : PySem.W.Frag) (cs : List (Addr × Addr)) (a : Addr) (vs : List Value) (ns : List Int) : Hp := fun b =>
  if b ∈ cs.map (·.2) then some (.tbl #[]) else if b = a ∧ K.lookup a = none then some (.frz { cls := .type "list", data := .seq vs.toArray } (.lst (ns.map V.int))) else none
theorem entry_t {b : Addr} (h : b ∈ cs.map (·.2)) : entryH K cs a vs ns b = some (.tbl #[]) := if_pos h
theorem entry_a (h : a ∉ cs.map (·.2)) (k : K.lookup a = none) : entryH K cs a vs ns a = some (.frz { cls := .type "list", data := .seq vs.toArray } (.lst (ns.map V.int))) := (if_neg h).trans (if_pos ⟨rfl, k⟩)
theorem entry_of {b : Addr} {u : HO} (h : entryH K cs a vs ns b = some u) : (b ∈ cs.map (·.2) ∧ u = .tbl #[]) ∨ (b = a ∧ K.lookup a = none ∧ u = .frz { cls := .type "list", data := .seq vs.toArray } (.lst (ns.map V.int))) := by
  unfold entryH at h
  by_cases h1 : b ∈ cs.map (·.2)
  · rw [if_pos h1] at h
    exact .inl ⟨h1, (Option.some.inj h).symm⟩
  · rw [if_neg h1] at h
    by_cases h2 : b = a ∧ K.lookup a = none
    · rw [if_pos h2] at h
      exact .inr ⟨h2.1, h2.2, (Option.some.inj h).symm⟩
    · rw [if_neg h2] at h
      cases h
theorem entry_no {b : Addr} {o : Obj} (tabs : ∀ b ∈ cs.map (·.2), s.heap.get? b = some { cls := .none, data := .fields #[] }) (ha : s.heap.get? a = some { cls := .type "list", data := .seq vs.toArray }) (e : s.heap.get? b = some o)
    (n1 : o.data ≠ .fields #[]) (n2 : ∀ v n, o.data ≠ .seq v n) : entryH K cs a vs ns b = none := by
  cases q : entryH K cs a vs ns b with
  | none => rfl
  | some u =>
    exfalso
    rcases entry_of q with ⟨h1, _⟩ | ⟨rfl, _, _⟩
    · rw [tabs b h1] at e
      cases e
      exact n1 rfl
    · rw [ha] at e
      cases e
      exact n2 _ _ rfl
theorem law_callG (KX : K.In s.heap) (hns : s.heap.Ns mainGlobals mg) (hb : s.heap.Ns builtinsNs mb) (hbb : ∀ y : Str, y ≠ "__name__" → mb y = bootBuiltins y) (hlim : s.heap.NoLimit) (hg : s.gens = #[])
    (hT : ∀ p ∈ cs, s.heap.get? p.2 = some { cls := .none, data := .fields #[] }) (nT : ∀ p ∈ cs, K.lookup p.2 = none) (C : ∀ p ∈ cs, PySem.W.CodeHd s.heap p.1 p.2)
    (hbm : ∃ (bm : Addr) (ob : Obj), mg "__builtins__" = some (.ref bm) ∧ bm ≠ builtinsNs ∧ s.heap.get? bm = some ob ∧ ob.cls = .type "module" ∧ ob.dict = some builtinsNs ∧ ob.data = .plain)
    (ha : s.heap.get? a = some { cls := .type "list", data := .seq vs.toArray }) (hi : IntsAre vs ns) (hl : ns.length ≤ sizeLine)
    (F : ∀ base : Heap, K.In base → base.Ns mainGlobals mg → (∀ p ∈ cs, TabB base mg p.1 p.2) → LawOk CX P w K mg base fa fd x sp)
    (hsp : ∀ H : Hp, (∀ p ∈ cs, H p.2 = some (.tbl #[])) → SqL K H a (ns.map V.int) → sp [.ref a] H (fun v _ => v = .bl true) fun _ _ _ => False)
    (hCX : ∀ H e s', CX [] H s (fun _ _ _ => False) e s' → False) :
    codeAny (model P w) callerA (.call (.ref fa) ⟨[.ref a], []⟩) (fun r s' => r = .ok (.ret (.bool true)) ∧ OldK s.heap s'.heap ∧ s'.os = s.os ∧ AllBare s'.gens) s := by
  have tabs : ∀ b ∈ cs.map (·.2), s.heap.get? b = some { cls := .none, data := .fields #[] } := fun b h => by
    obtain ⟨p, h1, rfl⟩ := List.mem_map.mp h
    exact hT p h1
  have inT : ∀ p ∈ cs, p.2 ∈ cs.map (·.2) := fun p h => List.mem_map_of_mem h
  have naT : a ∉ cs.map (·.2) := fun z => by
    have e := ha.symm.trans (tabs a z)
    cases Option.some.inj e
  have atT : ∀ p ∈ cs, entryH K cs a vs ns p.2 = some (.tbl #[]) := fun p h => entry_t (inT p h)
  have sq : SqL K (entryH K cs a vs ns) a (ns.map V.int) := by
    cases e : K.lookup a with
    | none => exact .inl (.inr ⟨_, entry_a naT e⟩)
    | some o =>
      obtain rfl := Option.some.inj (ha.symm.trans (KX a o e))
      exact .inr ⟨_, vs.toArray, _, e, rfl, rfl, rfl, by rw [List.size_toArray, hi.length]; exact hl, by simpa using vals_ints hi⟩
  have hok : HOk P w (entryH K cs a vs ns) s.heap := fun b u z => by
    rcases entry_of z with ⟨h1, rfl⟩ | ⟨rfl, _, rfl⟩
    · exact tabs b h1
    · exact ⟨ha, by rw [List.length_map]; exact hl, vs, _, vals_ints hi, ha⟩
  have give : ∀ {b : Addr} {o : Obj}, s.heap.get? b = some o → o.data ≠ .fields #[] → (∀ v n, o.data ≠ .seq v n) → (hidT s.heap (entryH K cs a vs ns)).get? b = some o := fun e n1 n2 => hidT_get e (entry_no tabs ha e n1 n2)
  have ns' : ∀ {b : Addr} {m : Str → Option Value}, s.heap.Ns b m → (hidT s.heap (entryH K cs a vs ns)).Ns b m := fun {b m} h => by
    obtain ⟨o, es, ep, e, d, r⟩ := h
    exact ⟨o, es, ep, give e (by rw [d]; intro z; cases z) (by intro v n z; rw [d] at z; cases z), d, r⟩
  have kin : K.In (hidT s.heap (entryH K cs a vs ns)) := fun b o e => by
    refine hidT_get (KX b o e) ?_
    cases q : entryH K cs a vs ns b with
    | none => rfl
    | some u =>
      exfalso
      rcases entry_of q with ⟨h1, _⟩ | ⟨rfl, h2, _⟩
      · obtain ⟨p, hp, rfl⟩ := List.mem_map.mp h1
        rw [nT p hp] at e
        cases e
      · rw [h2] at e
        cases e
  have tb : ∀ p ∈ cs, TabB (hidT s.heap (entryH K cs a vs ns)) mg p.1 p.2 := fun p hp => by
    refine ⟨?_, ?_, ?_⟩
    · obtain ⟨o, fs, file, tf, flags, tg, inF, text, tt, c1, c2, c3, c4, cr⟩ := C p hp
      refine ⟨o, fs, file, tf, flags, tg, inF, text, tt, give c1 (fun z => ?_) (fun v n z => ?_), c2, c3, c4, cr⟩
      · have e := c3.symm.trans z
        injection e with e
        rw [e] at c4
        simp at c4
      · have e := c3.symm.trans z
        cases e
    · obtain ⟨bm, ob, m1, m2, m3, m4, m5, m6⟩ := hbm
      refine ⟨bm, ob, m1, m2, ?_, ?_, give m3 (by rw [m6]; intro z; cases z) (by intro v n z; rw [m6] at z; cases z), m4, m5, m6⟩
      · rintro rfl
        obtain ⟨o, es, ep, g1, g2, _⟩ := hns
        obtain rfl := Option.some.inj (g1.symm.trans m3)
        cases g2.symm.trans m6
      · rintro rfl
        obtain rfl := Option.some.inj ((hT p hp).symm.trans m3)
        cases m6
    · intro z
      obtain ⟨o, es, ep, g1, g2, _⟩ := hns
      rw [z] at g1
      obtain rfl := Option.some.inj ((hT p hp).symm.trans g1)
      cases g2
  have md : L2.Mod K mg (hidT s.heap (entryH K cs a vs ns)) := by
    obtain ⟨mc, l1, l2⟩ := hlim
    exact ⟨kin, ns' hns, ⟨mb, ns' hb, hbb⟩, ⟨mc, ns' l1, l2⟩⟩
  have e0 : Env0 P w K mg (hidT s.heap (entryH K cs a vs ns)) callerA [] s (entryH K cs a vs ns) :=
    { frames := rfl, mod := md, bs := fun b o e => of_hidT e, bsz := Nat.le_of_eq (hidT_size _ _), funs := trivial, frf := fun b h => absurd (show b ∈ ([] : List Addr) from h) (by simp), hok := hok, bare := .of_eq hg }
  refine codeAny_mono ((F _ kin (ns' hns) tb).run s _ (.ref a) (.ref a) (fun v _ => v = .bl true) e0 rfl (hsp _ atT sq)) fun r s' h => ?_
  cases r with
  | error e => exact (hCX _ e s' h).elim
  | ok fl =>
    cases fl with
    | next => exact h.elim
    | brk => exact h.elim
    | cont => exact h.elim
    | ret u =>
      obtain ⟨v, H', h1, h2, h3, h4, h5, rfl⟩ := h
      obtain rfl : u = Value.bool true := h5
      have grows : ∀ b ∈ cs.map (·.2), ∃ more : Array Value, s'.heap.get? b = some { cls := .none, data := .fields more } := fun b hb => by
        obtain ⟨more, z⟩ := h3.tbls b #[] (entry_t hb)
        exact ⟨_, h4 b _ z⟩
      have stays : ∀ b o, b ∉ cs.map (·.2) → s.heap.get? b = some o → s'.heap.get? b = some o := fun b o nb e => by
        cases q : entryH K cs a vs ns b with
        | none => exact h3.keep b o e q (fun z => absurd (show b ∈ ([] : List Addr) from z) (by simp)) (by simp)
        | some u =>
          rcases entry_of q with ⟨z, _⟩ | ⟨rfl, _, rfl⟩
          · exact absurd z nb
          · have z1 := (hok b _ q).1
            have z2 := (h4 b _ (h3.frzs b _ _ q)).1
            exact z2.trans (z1.symm.trans e)
      refine ⟨rfl, ⟨fun b o e => ?_, fun b o e => ?_⟩, h1, h2⟩
      · by_cases hb : b ∈ cs.map (·.2)
        · obtain ⟨p, hp, rfl⟩ := List.mem_map.mp hb
          obtain ⟨more, hm⟩ := grows _ hb
          obtain rfl := Option.some.inj ((hT p hp).symm.trans e)
          exact .inr (.inl ⟨((C p hp).tab (hT p hp)).isCodeTable, rfl, #[], more, rfl, by rw [Array.empty_append]; exact hm⟩)
        · exact .inl (stays b o hb e)
      · by_cases hb : b ∈ cs.map (·.2)
        · obtain ⟨more, hm⟩ := grows _ hb
          exact ⟨_, hm⟩
        · exact ⟨o, stays b o hb e⟩
/-- what is known of the law at the head's heap h -/
def LawAtG (l : PySem.W.OpenLaw) (w : World) (K : PySem.W.Frag) (CX : CXT) (n : Nat) (x : Str) (mg : Str → Option Value) (fa : Addr) (h : Heap) : Prop :=
  ∃ (fd : FuncData) (cs : List (Addr × Addr)) (sp : Sp), (∀ p ∈ cs, h.get? p.2 = some { cls := .none, data := .fields #[] }) ∧ (∀ p ∈ cs, K.lookup p.2 = none) ∧ (∀ p ∈ cs, PySem.W.CodeHd h p.1 p.2) ∧
    (∀ (H : Hp) (a : Addr) (ns : List Int), ns.length ≤ n → (∀ z ∈ ns, Builtin.Int.intBits z ≤ 1048576) → (∀ p ∈ cs, H p.2 = some (.tbl #[])) → SqL K H a (ns.map V.int) → sp [.ref a] H (fun v _ => v = .bl true) fun _ _ _ => False) ∧
    ∀ base : Heap, K.In base → base.Ns mainGlobals mg → (∀ p ∈ cs, TabB base mg p.1 p.2) → LawOk CX l.prog w K mg base fa fd x sp
theorem walk_ofG {l : PySem.W.OpenLaw} {n : Nat} {q : Program} {loose : List Str} {XP : (Str → Option Value) → Heap → Prop} {YP : World → Heap → Prop} {d : DefRec} {K : Params → PySem.W.Frag} {CX : World → CXT} {x : Str}
    (hn : l.most = some n) (hn2 : n ≤ sizeLine) (hdf : d.params.defaults = []) (hY : ∀ (w : World) (h : Heap), YP w h → (K w.params).In h)
    (F : ∀ (w : World) (mg : Str → Option Value) (fa : Addr) (h : Heap), YP w h → (K w.params).In h → h.Ns mainGlobals mg → mg d.name = some (.ref fa) → LawAtG l w (K w.params) (CX w) n x mg fa h)
    (hCX : ∀ (w : World) (H : Hp) (s : Shared) (e : Value) (s' : Shared), CX w [] H s (fun _ _ _ => False) e s' → False) :
    PySem.W.WalkO q loose XP YP l.row.toRowW d [] (fun f vs => PySem.call f vs) := by
  refine Att.attach_callB hn hdf fun w s₀ s mg mb fa o pm cd doc a vs ns G Y ho hd hcd hmg hobj hints hlen hbits hg => ?_
  obtain ⟨fd, cs, sp, h1, h2, h3, h4, h5⟩ := F w mg fa _ Y (hY w _ Y) G.T.g hmg
  exact law_callG (hY w _ Y) G.T.g G.T.b G.T.builtins G.T.nolimit hg h1 h2 h3 G.T.bmain hobj hints (Nat.le_trans hlen hn2) h5 (fun H t q => h4 H a ns hlen hbits t q) fun H e s' => hCX w H s e s'
end
/-! ### a law's def by its body, as data -/
/-- what a law promises: of every script it gives True -/
def spLawD (K : PySem.W.Frag) (T : List (Addr × Str)) : Sp := fun vs H Q _ => ∃ ns : List Int, Dts K H vs [.lst (ns.map Tr.int)] ∧ ns.length ≤ 63 ∧ (∀ z ∈ ns, Builtin.Int.intBits z ≤ 1048576) ∧ Tabs T H ∧ ∀ v H', v = .bl true → Q v H'
abbrev lawA (f : Addr) (scope : Scope) (cdv : Value) (s : Shared) : Around := callerA.deeper (envOfC "law" scope s.heap.objs.size f cdv)
theorem caller_room : Room 200 callerA := ⟨rfl, by decide, by decide⟩
theorem lawA_guards {f : Addr} {scope : Scope} {cdv : Value} {s : Shared} : (lawA f scope cdv s).guards = some [] := rfl
section
variable {P : Program} {w : World} {K : PySem.W.Frag} {mg : Str → Option Value} {base : Heap} {st : Stmt} {f : Addr} {fd : FuncData} {N : List Str} {T : List (Addr × Str)} {x : Str}
theorem law_okD (F : Fun K "law" "law" st f fd) (S : FnScope N [x] (defScope st)) (hbn : Binds K fd [x] [])
    (hb : ∀ (cdv : Value) (s : Shared) (H : Hp) (ns : List Int), ns.length ≤ 63 → (∀ z ∈ ns, Builtin.Int.intBits z ≤ 1048576) →
      SS (cxOf CX0 P w K mg base N "law" (defScope st) f cdv callerA [] s H fun _ _ _ => False).nox (bF T H fun _ => False) ⟨fun _ => False, fun _ => False⟩ (slots N [.dat (.lst (ns.map Tr.int))]) (defBody st)
        ⟨fun _ _ => False, fun t _ => t = .bl true, fun _ _ => False, fun _ _ => False⟩) : LawOk CX0 P w K mg base f fd x (spLawD K T) := by
  obtain ⟨oc, od, kV, doc, pm, an, cdv, ct, osl, rfl, lk, hcd⟩ := F.ex
  refine ⟨fun s H u v Q e0 r sp => ?_⟩
  obtain ⟨ns, d, hn, hbits, tb, q⟩ := sp
  have KX : K.In s.heap := e0.mod.kin.keeps fun b o e => (e0.bs b o e).1
  refine run_ofS (k := 199) (N := N) (ps := [x]) (us := [u]) (vs := [v]) lk hcd S caller_room e0 (hbn s [u] KX rfl) (.cons r .nil) rfl fun _ => ?_
  have hpl : 1 ≤ N.length := by
    have := congrArg List.length S.pre
    rw [List.length_take] at this
    simp at this
    omega
  have Sk0 : Sk K (bF T H fun _ => False) ⟨fun _ => False, fun _ => False⟩ H (L2.start N [v]) (slots N [.dat (.lst (ns.map Tr.int))]) := by
    refine sk_start hpl rfl rfl (fun _ => Iff.rfl) (fun _ => Iff.rfl) (fun _ z => z.elim) (fun _ z => z.elim) tb (fun i j e f l he _ el _ => ?_) fun i v e hv he => ?_
    · cases i with
      | zero => cases he; cases el
      | succ i => simp at he
    · cases i with
      | zero =>
        cases hv; cases he
        cases d with
        | cons d1 _ =>
          exact d1.mono fun b o n z => mi_of (fun y => y) z
      | succ i => simp at he
  have J := hb cdv s H ns hn hbits _ H Sk0 { nx := fun _ H' => Q .non H', rt := Q, bk := fun _ _ => False, ct := fun _ _ => False } ⟨fun M' Δ' σ' H' a _ _ => a.elim, fun t M' Δ' v σ' H' a _ c dd => ?_, fun _ _ _ _ z => z.elim, fun _ _ _ _ z => z.elim⟩
  · exact ⟨_, (pss_self (X := (cxOf CX0 P w K mg base N "law" (defScope st) f cdv callerA [] s H fun _ _ _ => False).nox)).nox, J⟩
  · subst a
    cases dd
    exact q _ _ rfl
end
end Wf

set_option Elab.async false
set_option linter.all false
set_option maxRecDepth 100000
set_option maxHeartbeats 1000000
namespace Wf
open PySem PySem.Spec PyProof.Rows L2 LamX
section
variable {X : Cx} {B : Bs} {M : Pl} {Δ : List En} {tg iter elt c : Expr} {Φ : Tr → List En → Prop} {scope : Scope} {pos : Pos} {Ψ : Eo}
theorem wipeE_adr {Δ : List En} : ∀ {vs : List Nat} {e : En} {l : Addr}, e ∈ wipeE Δ vs → e.has l → ∃ e0 ∈ Δ, e0.has l
  | [], e, l, h, q => ⟨e, h, q⟩
  | v :: vs, e, l, h, q => by
    unfold wipeE at h
    rcases List.mem_or_eq_of_mem_set h with h | h
    · exact wipeE_adr h q
    · rw [h] at q; cases q
/-- the elements draw from the pen at slot q -/
theorem elc_lcPen (T : Tg) (hT : T.vs.Nodup)
    (h : EI X B M Δ tg iter fun n f Δ1 => ∃ (q : Nat) (pn : Pn) (c0 cst : Nat) (R : Nat → Tr → Prop), (wipeE Δ1 T.vs)[q]? = some (.pen pn c0) ∧ n ≤ sizeLine ∧
      (∀ i c D, i < n → c ≤ c0 + i * cst → T.ok (f i) ∧ ∀ (s : Shared) (H : Hp) (C : Addr) (cl : List (Str × Addr)) (fp : List Addr), EE (X.blk s H scope (compEnvC scope cl C X.env) fp) B (ins M D) (T.set ((wipeE Δ1 T.vs).set q (.pen pn c)) (f i)) elt fun t Δ3 =>
        R i t ∧ ∃ c', c' ≤ c + cst ∧ wipeE Δ3 T.vs = (wipeE Δ1 T.vs).set q (.pen pn c')) ∧
      ∀ ts c, ts.length = n → (∀ (i : Nat) t, ts[i]? = some t → R i t) → c ≤ c0 + n * cst → Φ (.lst ts) ((wipeE Δ1 T.vs).set q (.pen pn c))) : ELc X B M Δ T tg iter elt [] scope Φ := by
  refine elc T hT ?_
  obtain ⟨wi, h1, h2⟩ := h
  refine ⟨wi, h1, fun σ H S R k => h2 σ H S R fun n f Δ' J G Y H' p => k n f Δ' J G Y H' ?_⟩
  obtain ⟨q, pn, c0, cst, Rl, hq, hn, ht, hd⟩ := p
  have hq0 : (wipeE Δ' T.vs).set q (.pen pn c0) = wipeE Δ' T.vs := by
    obtain ⟨hl, he⟩ := List.getElem?_eq_some_iff.mp hq
    rw [← he]
    exact List.set_getElem_self hl
  refine ⟨fun i acc Δ2 => ∃ c, Δ2 = (wipeE Δ' T.vs).set q (.pen pn c) ∧ c ≤ c0 + i * cst ∧ acc.length = i ∧ ∀ (j : Nat) t, acc[j]? = some t → Rl j t, ⟨c0, hq0.symm, by omega, rfl, fun j t z => by simp at z⟩, ?_, ?_, ?_⟩
  · rintro i acc Δ2 D hi ⟨c, rfl, hc', hl, hR⟩ hD
    obtain ⟨okT, he⟩ := ht i c D hi hc'
    refine ⟨okT, fun s H C cl fp => ets_nil ⟨fun _ s H C cl fp => EE.mono (he s H C cl fp) fun t Δ3 ⟨r, c', hc2, e3⟩ => ⟨by omega, c', e3, ?_, by rw [List.length_append, hl]; rfl, fun j t' z => ?_⟩, fun z => Bool.noConfusion z⟩⟩
    · rw [Nat.add_mul]; omega
    · by_cases hj : j < acc.length
      · rw [List.getElem?_append_left hj] at z
        exact hR j t' z
      · rw [List.getElem?_append_right (by omega)] at z
        have : j - acc.length = 0 := by
          cases e : j - acc.length with
          | zero => rfl
          | succ m => rw [e] at z; simp at z
        rw [this] at z
        cases z
        have : j = i := by omega
        rw [this]; exact r
  · rintro i acc Δ2 ⟨c, rfl, _⟩ e he l el
    rcases List.mem_or_eq_of_mem_set he with he | rfl
    · exact wipeE_adr he el
    · obtain rfl : pn.l = l := el
      exact wipeE_adr (List.mem_of_getElem? hq) rfl
  · rintro acc Δ2 ⟨c, rfl, hc', hl, hR⟩
    exact hd acc c hl hR hc'
/-- the elements are pure: a map -/
theorem elc_lcMap (T : Tg) (hT : T.vs.Nodup)
    (h : EI X B M Δ tg iter fun n f Δ1 => ∃ g : Nat → Tr, n ≤ sizeLine ∧ (∀ i D, i < n → T.ok (f i) ∧ ∀ (s : Shared) (H : Hp) (C : Addr) (cl : List (Str × Addr)) (fp : List Addr), EE (X.blk s H scope (compEnvC scope cl C X.env) fp) B (ins M D) (T.set (wipeE Δ1 T.vs) (f i)) elt fun t Δ3 =>
        t = g i ∧ wipeE Δ3 T.vs = wipeE Δ1 T.vs) ∧ Φ (.lst ((List.range n).map g)) (wipeE Δ1 T.vs)) : ELc X B M Δ T tg iter elt [] scope Φ := by
  refine elc T hT ?_
  obtain ⟨wi, h1, h2⟩ := h
  refine ⟨wi, h1, fun σ H S R k => h2 σ H S R fun n f Δ' J G Y H' p => k n f Δ' J G Y H' ?_⟩
  obtain ⟨g, hn, ht, hd⟩ := p
  refine ⟨fun i acc Δ2 => Δ2 = wipeE Δ' T.vs ∧ acc = (List.range i).map g, ⟨rfl, rfl⟩, ?_, ?_, ?_⟩
  · rintro i acc Δ2 D hi ⟨rfl, rfl⟩ hD
    obtain ⟨okT, he⟩ := ht i D hi
    refine ⟨okT, fun s H C cl fp => ets_nil ⟨fun _ s H C cl fp => EE.mono (he s H C cl fp) fun t Δ3 ⟨r, e3⟩ => ⟨by rw [List.length_map, List.length_range]; omega, e3, by rw [List.range_succ, List.map_append, r]; rfl⟩, fun z => Bool.noConfusion z⟩⟩
  · rintro i acc Δ2 ⟨rfl, _⟩ e he l el
    exact wipeE_adr he el
  · rintro acc Δ2 ⟨rfl, rfl⟩
    exact hd
/-- the same with a test -/
theorem elc_lcFilter (T : Tg) (hT : T.vs.Nodup)
    (h : EI X B M Δ tg iter fun n f Δ1 => ∃ (g : Nat → Tr) (p : Nat → Bool), n ≤ sizeLine ∧ (∀ i D, i < n → T.ok (f i) ∧ ∀ (s : Shared) (H : Hp) (C : Addr) (cl : List (Str × Addr)) (fp : List Addr), ET (X.blk s H scope (compEnvC scope cl C X.env) fp) B (ins M D) (T.set (wipeE Δ1 T.vs) (f i)) c fun k Δ2 =>
        k = p i ∧ wipeE Δ2 T.vs = wipeE Δ1 T.vs ∧ (k = true → ∀ (s : Shared) (H : Hp) (C : Addr) (cl : List (Str × Addr)) (fp : List Addr), EE (X.blk s H scope (compEnvC scope cl C X.env) fp) B (ins M D) Δ2 elt fun t Δ3 => t = g i ∧ wipeE Δ3 T.vs = wipeE Δ1 T.vs)) ∧ Φ (.lst (((List.range n).filter p).map g)) (wipeE Δ1 T.vs)) : ELc X B M Δ T tg iter elt [c] scope Φ := by
  refine elc T hT ?_
  obtain ⟨wi, h1, h2⟩ := h
  refine ⟨wi, h1, fun σ H S R k => h2 σ H S R fun n f Δ' J G Y H' p => k n f Δ' J G Y H' ?_⟩
  obtain ⟨g, pr, hn, ht, hd⟩ := p
  refine ⟨fun i acc Δ2 => Δ2 = wipeE Δ' T.vs ∧ acc = ((List.range i).filter pr).map g, ⟨rfl, rfl⟩, ?_, ?_, ?_⟩
  · rintro i acc Δ2 D hi ⟨rfl, rfl⟩ hD
    obtain ⟨okT, he⟩ := ht i D hi
    refine ⟨okT, fun s H C cl fp => ets_one (ET.mono (he s H C cl fp) fun k Δ2 ⟨hk, e2, hkt⟩ => ⟨fun z s H C cl fp => EE.mono (hkt z s H C cl fp) fun t Δ3 ⟨r, e3⟩ => ⟨?_, e3, ?_⟩, fun z => ⟨e2, ?_⟩⟩)⟩
    · have := List.length_filter_le pr (List.range i)
      rw [List.length_range] at this
      rw [List.length_map]; omega
    · subst z
      rw [List.range_succ, List.filter_append, List.map_append, r]
      have : List.filter pr [i] = [i] := by rw [List.filter_cons, ← hk]; rfl
      rw [this]; rfl
    · subst z
      rw [List.range_succ, List.filter_append]
      have : List.filter pr [i] = [] := by rw [List.filter_cons, ← hk]; rfl
      rw [this, List.append_nil]
  · rintro i acc Δ2 ⟨rfl, _⟩ e he l el
    exact wipeE_adr he el
  · rintro acc Δ2 ⟨rfl, rfl⟩
    exact hd
theorem eo_lcPen (T : Tg) {own : List (Str × Nat)} (hc : X.calm = true) (hN : X.N.Nodup) (hT : T.vs.Nodup) (ho : own.map (·.2) = T.vs) (ok : BlkOk X.N X.env.scope scope own)
    (hg : ∀ (s : Shared) (H : Hp) (C : Addr) (cl : List (Str × Addr)) (fp : List Addr), PG (X.blk s H scope (compEnvC scope cl C X.env) fp) tg (T.g X.K))
    (h : EI X B M Δ tg iter fun n f Δ1 => ∃ (q : Nat) (pn : Pn) (c0 cst : Nat) (R : Nat → Tr → Prop), (wipeE Δ1 T.vs)[q]? = some (.pen pn c0) ∧ n ≤ sizeLine ∧
      (∀ i c D, i < n → c ≤ c0 + i * cst → T.ok (f i) ∧ ∀ (s : Shared) (H : Hp) (C : Addr) (cl : List (Str × Addr)) (fp : List Addr), EE (X.blk s H scope (compEnvC scope cl C X.env) fp) B (ins M D) (T.set ((wipeE Δ1 T.vs).set q (.pen pn c)) (f i)) elt fun t Δ3 =>
        R i t ∧ ∃ c', c' ≤ c + cst ∧ wipeE Δ3 T.vs = (wipeE Δ1 T.vs).set q (.pen pn c')) ∧
      ∀ ts c, ts.length = n → (∀ (i : Nat) t, ts[i]? = some t → R i t) → c ≤ c0 + n * cst → Φ (.lst ts) ((wipeE Δ1 T.vs).set q (.pen pn c)))
    (hs : ∀ x, foldedSetIterable iter X.env x = pure x := by intro _; rfl) : EO X B M Δ (.ListComp elt [⟨tg, iter, [], 0⟩] scope pos) Φ := eo_of T hc hN ho ok hg (elc_lcPen T hT h) hs
theorem eo_lcMap (T : Tg) {own : List (Str × Nat)} (hc : X.calm = true) (hN : X.N.Nodup) (hT : T.vs.Nodup) (ho : own.map (·.2) = T.vs) (ok : BlkOk X.N X.env.scope scope own)
    (hg : ∀ (s : Shared) (H : Hp) (C : Addr) (cl : List (Str × Addr)) (fp : List Addr), PG (X.blk s H scope (compEnvC scope cl C X.env) fp) tg (T.g X.K))
    (h : EI X B M Δ tg iter fun n f Δ1 => ∃ g : Nat → Tr, n ≤ sizeLine ∧ (∀ i D, i < n → T.ok (f i) ∧ ∀ (s : Shared) (H : Hp) (C : Addr) (cl : List (Str × Addr)) (fp : List Addr), EE (X.blk s H scope (compEnvC scope cl C X.env) fp) B (ins M D) (T.set (wipeE Δ1 T.vs) (f i)) elt fun t Δ3 =>
        t = g i ∧ wipeE Δ3 T.vs = wipeE Δ1 T.vs) ∧ Φ (.lst ((List.range n).map g)) (wipeE Δ1 T.vs))
    (hs : ∀ x, foldedSetIterable iter X.env x = pure x := by intro _; rfl) : EO X B M Δ (.ListComp elt [⟨tg, iter, [], 0⟩] scope pos) Φ := eo_of T hc hN ho ok hg (elc_lcMap T hT h) hs
theorem eo_lcFilter (T : Tg) {own : List (Str × Nat)} (hc : X.calm = true) (hN : X.N.Nodup) (hT : T.vs.Nodup) (ho : own.map (·.2) = T.vs) (ok : BlkOk X.N X.env.scope scope own)
    (hg : ∀ (s : Shared) (H : Hp) (C : Addr) (cl : List (Str × Addr)) (fp : List Addr), PG (X.blk s H scope (compEnvC scope cl C X.env) fp) tg (T.g X.K))
    (h : EI X B M Δ tg iter fun n f Δ1 => ∃ (g : Nat → Tr) (p : Nat → Bool), n ≤ sizeLine ∧ (∀ i D, i < n → T.ok (f i) ∧ ∀ (s : Shared) (H : Hp) (C : Addr) (cl : List (Str × Addr)) (fp : List Addr), ET (X.blk s H scope (compEnvC scope cl C X.env) fp) B (ins M D) (T.set (wipeE Δ1 T.vs) (f i)) c fun k Δ2 =>
        k = p i ∧ wipeE Δ2 T.vs = wipeE Δ1 T.vs ∧ (k = true → ∀ (s : Shared) (H : Hp) (C : Addr) (cl : List (Str × Addr)) (fp : List Addr), EE (X.blk s H scope (compEnvC scope cl C X.env) fp) B (ins M D) Δ2 elt fun t Δ3 => t = g i ∧ wipeE Δ3 T.vs = wipeE Δ1 T.vs)) ∧ Φ (.lst (((List.range n).filter p).map g)) (wipeE Δ1 T.vs))
    (hs : ∀ x, foldedSetIterable iter X.env x = pure x := by intro _; rfl) : EO X B M Δ (.ListComp elt [⟨tg, iter, [c], 0⟩] scope pos) Φ := eo_of T hc hN ho ok hg (elc_lcFilter T hT h) hs
end
end Wf

set_option Elab.async false
set_option linter.all false
set_option maxRecDepth 100000
set_option maxHeartbeats 1000000
namespace Wf
open PySem PySem.Spec PyProof.Rows L2 LamX
/-! ### texts by their signs -/
def sgn (c : Nat) : Str := ⟨#[c]⟩
def txt (cs : List Nat) : Str := ⟨cs.toArray⟩
theorem txt_len (cs : List Nat) : (txt cs).length = cs.length := by simp [txt, Str.length]
theorem txt_cps (cs : List Nat) : (txt cs).cps.toList = cs := by simp [txt]
theorem txt_of (z : Str) : txt z.cps.toList = z := by cases z; simp [txt]
theorem txt_inj {a b : List Nat} (h : txt a = txt b) : a = b := by
  have := congrArg (fun z : Str => z.cps.toList) h
  simpa [txt] using this
theorem append_txt (a b : List Nat) : txt a ++ txt b = txt (a ++ b) := by
  show (⟨a.toArray ++ b.toArray⟩ : Str) = ⟨(a ++ b).toArray⟩
  simp
theorem join_txt (e : Str) (he : e.cps = #[]) : ∀ ls : List (List Nat), Txt.join e (ls.map txt) = txt ls.flatten := by
  intro ls
  show Builtin.Str.glued e (ls.map txt) = _
  rw [StrLaws.glued_eq_join]
  have h0 : e = txt [] := by cases e; simp at he; subst he; rfl
  induction ls with
  | nil => rfl
  | cons a r ih =>
    cases r with
    | nil => show txt a = _; simp
    | cons b r =>
      show txt a ++ e ++ Str.join e (txt b :: r.map txt) = _
      rw [show Str.join e (txt b :: r.map txt) = Str.join e ((b :: r).map txt) from rfl, ih, h0, append_txt, append_txt]
      simp
theorem join_sgn (e : Str) (he : e.cps = #[]) (cs : List Nat) : Txt.join e (cs.map sgn) = txt cs := by
  have h : cs.map sgn = (cs.map fun c => [c]).map txt := by rw [List.map_map]; rfl
  rw [h, join_txt e he]
  congr 1
  clear h
  induction cs with
  | nil => rfl
  | cons c cs ih =>
    rw [List.map_cons, List.flatten_cons, ih]
    rfl
theorem sgn_len (cs : List Nat) : ((cs.map sgn).map (·.length)).sum = cs.length := by
  induction cs with
  | nil => rfl
  | cons c cs ih =>
    rw [List.map_cons, List.map_cons, List.sum_cons, ih]
    show 1 + cs.length = cs.length + 1
    omega
theorem strOk_txt {cs : List Nat} (h : ∀ c ∈ cs, c < 128) : PyData.strOk (txt cs) = true := by
  unfold PyData.strOk
  simp only [txt, List.all_toArray]
  rw [List.all_eq_true]
  intro c hc
  have := h c hc
  simp
  omega
theorem map_range {α β : Type} (F : α → β) (d : α) : ∀ l : List α, (List.range l.length).map (fun i => F (l.getD i d)) = l.map F := by
  intro l
  apply List.ext_getElem?
  intro i
  rw [List.getElem?_map, List.getElem?_map]
  by_cases h : i < l.length
  · rw [List.getElem?_range h]
    simp [h]
  · rw [List.getElem?_eq_none (by simpa using h), List.getElem?_eq_none (by omega)]
    rfl
end Wf

set_option Elab.async false
set_option linter.all false
set_option maxRecDepth 100000
set_option maxHeartbeats 2000000
namespace Wf
open PySem PySem.Spec PyProof.Rows L2 LamX
/-! ### data that are shown -/
/-- good data, d deep, of at most b signs and items -/
structure Tr.rep (t : Tr) (d b : Nat) : Prop where
  gd : t.good d
  sh : t.py.showable = true
  ls : t.py.leavesShort 640 = true
  bk : t.py.bulk ≤ b
theorem Tr.rep.le {t : Tr} {d b e c : Nat} (h : t.rep d b) (h1 : d ≤ e) (h2 : b ≤ c) : t.rep e c := ⟨h.gd.le h1, h.sh, h.ls, Nat.le_trans h.bk h2⟩
theorem Tr.rep.fits {t : Tr} {d b : Nat} (h : t.rep d b) (hb : b ≤ 26000) : t.py.shown.length ≤ sizeLine := by
  have h1 := PyData.shown_le_bulk 640 (by decide) t.py h.ls
  have h2 := h.bk
  have h3 : (640 + 2) * t.py.bulk ≤ 642 * b := Nat.mul_le_mul_left _ h2
  rw [sizeLine_eq]
  omega
theorem rep_non {d b : Nat} : Tr.non.rep d b := ⟨good_non, by unfold Tr.py; rfl, by unfold Tr.py; rfl, by unfold Tr.py PyData.bulk; exact Nat.zero_le _⟩
theorem rep_bl {k : Bool} {d b : Nat} : (Tr.bl k).rep d b := ⟨good_bl, by unfold Tr.py; rfl, by unfold Tr.py; rfl, by unfold Tr.py PyData.bulk; exact Nat.zero_le _⟩
theorem log2_small {i : Int} (h : i.natAbs < 2 ^ 100) : i.natAbs.log2 < 1920 := by
  by_cases h0 : i.natAbs = 0
  · rw [h0]; decide
  · have := (Nat.log2_lt h0).mpr h
    omega
theorem rep_int {i : Int} {d b : Nat} (h1 : -999999999999 ≤ i) (h2 : i ≤ 999999999999) : (Tr.int i).rep d b := ⟨good_int, by
  unfold Tr.py PyData.showable
  refine decide_eq_true (log2_small (Nat.lt_of_lt_of_le (m := 2 ^ 40) ?_ (Nat.pow_le_pow_right (by decide) (by decide))))
  have e : (2 : Nat) ^ 40 = 1099511627776 := by decide
  omega, by
  unfold Tr.py PyData.leavesShort
  exact decide_eq_true (Nat.le_trans (PyData.shown_int_le2 h1 h2) (by decide)), by unfold Tr.py PyData.bulk; exact Nat.zero_le _⟩
theorem rep_txt {cs : List Nat} {d b : Nat} (h : ∀ c ∈ cs, c < 128) (hl : cs.length ≤ b) : (Tr.str (txt cs)).rep d b := ⟨good_str (strOk_txt h), by unfold Tr.py; rfl, by
  unfold Tr.py PyData.leavesShort
  rw [List.all_eq_true]
  intro c hc
  rw [txt_cps] at hc
  have e : (16 : Nat) ^ 8 = 4294967296 := by decide
  have := h c hc
  exact decide_eq_true (by omega), by
  unfold Tr.py PyData.bulk
  have : (txt cs).cps.size = cs.length := txt_len cs
  omega⟩
theorem rep_all {ts : List Tr} {d b : Nat} (h : ∀ t ∈ ts, t.rep d b) : PyData.showableAll (pyAll ts) = true ∧ PyData.leavesShortAll 640 (pyAll ts) = true ∧ PyData.bulkAll (pyAll ts) ≤ ts.length * (b + 1) := by
  induction ts with
  | nil => exact ⟨by unfold pyAll; rfl, by unfold pyAll; rfl, by unfold pyAll PyData.bulkAll; exact Nat.zero_le _⟩
  | cons t ts ih =>
    obtain ⟨i1, i2, i3⟩ := ih fun u hu => h u (List.mem_cons_of_mem _ hu)
    have ht := h t List.mem_cons_self
    refine ⟨?_, ?_, ?_⟩
    · unfold pyAll PyData.showableAll
      rw [ht.sh, i1] <;> rfl
    · unfold pyAll PyData.leavesShortAll
      rw [ht.ls, i2] <;> rfl
    · unfold pyAll PyData.bulkAll
      have := ht.bk
      rw [List.length_cons, Nat.succ_mul]
      omega
theorem rep_lst {ts : List Tr} {d b c : Nat} (h : ∀ t ∈ ts, t.rep d b) (hc : ts.length * (b + 1) ≤ c) : (Tr.lst ts).rep (d + 1) c := by
  obtain ⟨i1, i2, i3⟩ := rep_all h
  exact ⟨good_lst fun t ht => (h t ht).gd, by unfold Tr.py PyData.showable; exact i1, by unfold Tr.py PyData.leavesShort; exact i2, by unfold Tr.py PyData.bulk; omega⟩
theorem rep_tup {ts : List Tr} {d b c : Nat} (h : ∀ t ∈ ts, t.rep d b) (hc : ts.length * (b + 1) ≤ c) : (Tr.tup ts).rep (d + 1) c := by
  obtain ⟨i1, i2, i3⟩ := rep_all h
  exact ⟨good_tup fun t ht => (h t ht).gd, by unfold Tr.py PyData.showable; exact i1, by unfold Tr.py PyData.leavesShort; exact i2, by unfold Tr.py PyData.bulk; omega⟩
def Tr.isSq : Tr → Bool
  | .lst _ => true
  | .tup _ => true
  | _ => false
section
variable {X : Cx} {B : Bs} {M : Pl} {Δ : List En} {e a b c : Expr} {es : List Expr} {Φ : Tr → List En → Prop} {Ψ : Eo}
theorem cr_reprD (hg : X.A.guards = some []) (hu : X.A.units + 64 < cLine) : CallR X (.builtin "repr") (fun vs H Q => ∃ (a : Addr) (p : PyData), vs = [.ref a] ∧ Dp X.K H (.ref a) p ∧ p.showable = true ∧ p.canLay0 = true ∧ p.depth ≤ 8 ∧ p.shown.length ≤ sizeLine ∧ Q (.str p.shown) H) := by
  intro pins s σ H vs us Q I r h
  obtain ⟨a, p, rfl, d, h1, h2, h3, h4, q⟩ := h
  obtain rfl := Vals.ref1 r
  obtain ⟨as, rd⟩ := Dp.reads I p (.ref a) (.ref a) d rfl
  exact PySem.repr_of_reads' rd h1 (PyData.noDict_hsm (PyData.hasDict_of_canLay p h2)) hg (by omega) (fun _ _ z => z) (fun h' u tk kp => ⟨.str p.shown, H, I.kept kp, ⟨u, rfl⟩, q⟩) h4
/-- repr of a list, of a tuple -/
theorem cl_repr (hg : X.A.guards = some []) (hu : X.A.units + 64 < cLine) : CalD X (.builtin "repr") B M Φ fun ts Δ2 => ∃ t, ts = [t] ∧ t.isSq = true ∧ t.rep 8 26000 ∧ Φ (.str t.py.shown) Δ2 := ⟨_, cr_reprD hg hu, fun ts Δ2 p σ H vs Q S d k => by
  obtain ⟨t, rfl, p1, p2, q⟩ := p
  cases d with
  | cons d1 d2 =>
    cases d2
    have dp := (d1.mono mi_sub).dp p2.gd.pl
    cases t with
    | lst us => cases d1 with
      | lst g1 g2 => exact ⟨_, _, rfl, dp, p2.sh, p2.gd.cl, p2.gd.dp, p2.fits (Nat.le_refl _), k _ _ _ H q (Fe.refl _ _) S (.str _)⟩
    | tup us => cases d1 with
      | tup g1 g2 => exact ⟨_, _, rfl, dp, p2.sh, p2.gd.cl, p2.gd.dp, p2.fits (Nat.le_refl _), k _ _ _ H q (Fe.refl _ _) S (.str _)⟩
    | _ => cases p1⟩
/-! ### isinstance(x, T) -/
def Tr.cls : Tr → Option String
  | .non => some "NoneType"
  | .bl _ => some "bool"
  | .int _ => some "int"
  | .str _ => some "str"
  | .lst _ => some "list"
  | .tup _ => some "tuple"
  | .dct _ => some "dict"
  | _ => none
theorem dt_tyx {K : PySem.W.Frag} {I H : Hp} {v : V} {t : Tr} {n : String} (s : Sub I H) (d : Dt K I v t) (h : t.cls = some n) : TyX K H v (.type n) := by
  cases d with
  | non => cases h; exact .base .non
  | bl b => cases h; exact .base (.bl b)
  | int i => cases h; exact .base (.int i)
  | str i => cases h; exact .base (.str i)
  | lst g _ =>
    cases h
    rcases sub_seqL s g with (g | ⟨o, g⟩) | ⟨o, its, k, g, c, _⟩
    · exact .base (.lst g)
    · exact .base (.frz g)
    · exact .kList g c
  | tup g _ =>
    cases h
    rcases sub_seqT s g with (g | ⟨o, g⟩) | ⟨o, its, k, g, c, _⟩
    · exact .base (.tup g)
    · exact .fTuple g
    · exact .kTuple g c
  | dct g _ =>
    cases h
    rcases sub_rdK s g with g | ⟨o, g⟩
    · exact .base (.dK g)
    · exact .fDict g
  | ins _ _ => cases h
  | exc0 _ => cases h
  | exc _ _ _ => cases h
  | opq _ => cases h
theorem ee_isi {y : Str} {T : String} {p p2 pos : Pos} (hg : Gl X "isinstance") (hm : X.mg "isinstance" = none) (hg2 : Gl X y) (hm2 : X.mg y = none) (hv2 : bootBuiltins y = some (.type T)) (hv : bootBuiltins "isinstance" = some (.builtin "isinstance"))
    (h : EE X B M Δ e fun t Δ1 => ∃ n b, t.cls = some n ∧ kitB n T = some b ∧ Φ (.bl b) Δ1)
    (hn2 : y ≠ "__name__" := by decide) (hdb2 : (y == ("__debug__" : Str)) = false := by decide)
    (hs : starEach [e, .Name y p2] X.env = (false, eval e X.env) :: starEach [.Name y p2] X.env := by rfl) (hs2 : starEach [.Name y p2] X.env = (false, eval (.Name y p2) X.env) :: starEach [] X.env := by rfl)
    (hpl : (backTo pos (starEach [.Name y p2] X.env)).any (·.1) = false := by rfl) : EE X B M Δ (.Call (.Name "isinstance" p) [e, .Name y p2] [] pos) Φ := fun σ H S Q k =>
  PE.to (pe_callB (X := X) call_isi hg hm hv (pa_cons pe_self (pa_cons (pe_bltn (v := .ty T) hg2 hm2 hv2 rfl hn2 hdb2) pa_nil hs2) hs) (by decide) (by decide) hs hpl) (h σ H S _ fun t Δ1 v H1 p f S1 d => by
    obtain ⟨n, b, h1, h2, q⟩ := p
    exact ⟨v, .ty T, .type n, .type T, b, rfl, .ty T, dt_tyx mi_sub d h1, kit_ty h2, k _ Δ1 _ H1 q f S1 (.bl b)⟩)
/-! ### x + a new list -/
theorem eo_cat (i : Nat) {x : Str} {px pos : Pos} {l : Addr} {ts0 : List Tr} (hN : X.N[i]? = some x) (hi : Δ[i]? = some (.own l (.lst ts0)))
    (h : EO X B M Δ b fun u Δ1 => ∃ ts us, u = .lst us ∧ Δ1[i]? = some (.own l (.lst ts)) ∧ ts.length + us.length ≤ sizeLine ∧ Φ (.lst (ts ++ us)) Δ1)
    (hd : (x == ("__debug__" : Str)) = false := by decide) (hcd : (x == ("__classdict__" : Str)) = false := by decide) (hv : Vis X.env.scope x := by first | exact Or.inl rfl | exact Or.inr (Or.inl rfl) | exact Or.inr (Or.inr rfl)) :
    EO X B M Δ (.BinOp (.Name x px) .Add b pos) Φ := fun σ H S Q k => by
  obtain ⟨h1, _⟩ := S.ownAt hi
  refine PE.to (pe_op op_cat (pe_var (i := i) hN hv hd hcd) pe_self) ⟨_, h1, h σ H S _ fun u Δ1 m H1 p f hl S1 hn ow => ?_⟩
  obtain ⟨ts, us, rfl, q1, q2, q⟩ := p
  obtain ⟨_, _, _, _, xs, g1, g2⟩ := S1.ownAt q1
  obtain ⟨ys, y1, y2⟩ := ow
  have nm := S.notM hl
  have S2 := S1.freeze nm S.wm (fun z => nm (S.m0 m z)) hn
  refine ⟨l, m, xs, ys, rfl, rfl, g1, y1, by rw [g2.length, y2.length]; exact q2, fun p hp => ?_⟩
  have s := same_new (o := .lst (xs ++ ys)) hp
  have le : Sub (mi (ins M m).m H1) (mi M.m H1) := mi_le fun b z => .inl z
  obtain ⟨a1, a2, a3⟩ := S2.newOwn (t := .lst (ts ++ us)) hp s ⟨_, upd_same, (g2.append y2).mono le⟩
  exact k _ Δ1 p _ q (f.trans (Fe.same s)) (f.free (fun b z => S2.al b (S2.wm b z)) hp) a1 a2 a3
end
/-! ### a def that gives a new object, whole -/
def spO (K : PySem.W.Frag) (T : List (Addr × Str)) (pre : List Tr → Prop) (post : List Tr → Tr → Prop) : Sp := fun vs H Q _ => ∃ (m : Addr → Prop) (ts : List Tr), Dts K (mi m H) vs ts ∧ pre ts ∧ (∀ b, m b → ∃ o, H b = some o) ∧ Tabs T H ∧
  ∀ l t H', post ts t → Fe (fun _ => False) H H' → Tabs T H' → H l = none → Ow K (mi (fun b => m b ∨ b = l) H') H' l t → Q (.ref l) H'
section
variable {P : Program} {w : World} {K : PySem.W.Frag} {mg : Str → Option Value} {base : Heap} {x qual : Str} {st : Stmt} {f : Addr} {fd : FuncData} {N ps : List Str} {k : Nat} {T : List (Addr × Str)} {pre : List Tr → Prop} {post : List Tr → Tr → Prop} {e : Expr} {pos : Pos}
/-- a def whose code object is known -/
structure FunC (K : PySem.W.Frag) (x qual : Str) (st : Stmt) (f : Addr) (fd : FuncData) (cdv : Value) : Prop where
  ex : ∃ (oc : Value) (od : Option Addr) (kV doc pm : Value) (an : Option Addr) (ct : Value) (osl : Array (Option Value)),
    fd = PySem.W.fnOf x qual (defArgs st) (defBody st) (defScope st) .none kV doc pm an cdv ct ∧ K.lookup f = some ⟨oc, od, .func fd, osl⟩ ∧ PySem.W.codeIn K cdv qual = true
  kp : PySem.W.keepIn K (.ref f) = true
theorem FunC.fn {cdv : Value} (F : FunC K x qual st f fd cdv) : Fun K x qual st f fd := by
  obtain ⟨oc, od, kV, doc, pm, an, ct, osl, e, lk, hcd⟩ := F.ex
  exact ⟨⟨oc, od, kV, doc, pm, an, cdv, ct, osl, e, lk, hcd⟩, F.kp⟩
theorem funC_mk {oc : Value} {od an : Option Addr} {osl : Array (Option Value)} {kV doc pm cdv ct : Value} (l : K.lookup f = some ⟨oc, od, .func (PySem.W.fnOf x qual (defArgs st) (defBody st) (defScope st) .none kV doc pm an cdv ct), osl⟩)
    (c : PySem.W.codeIn K cdv qual = true) (k : PySem.W.keepIn K (.ref f) = true) : FunC K x qual st f (PySem.W.fnOf x qual (defArgs st) (defBody st) (defScope st) .none kV doc pm an cdv ct) cdv := ⟨⟨oc, od, kV, doc, pm, an, ct, osl, rfl, l, c⟩, k⟩
/-- def f(..): return a new object -/
theorem ok_O {cdv : Value} (F : FunC K x qual st f fd cdv) (S : FnScope N ps (defScope st)) (hpre : ∀ ts, pre ts → ts.length = ps.length) (hps : ps.length ≤ N.length) (hbody : defBody st = [.Return (some e) pos])
    (hb : ∀ (A : Around) (outer : List Env) (s : Shared) (H : Hp) (E : XK) (m : Addr → Prop) (ts : List Tr), Room k (A.deeper (envOfC qual (defScope st) s.heap.objs.size f cdv)) → pre ts →
      EO (cxOf CX0 P w K mg base N qual (defScope st) f cdv A outer s H E).nox (bF T H m) ⟨m, fun _ => False⟩ (slots N (ts.map En.dat)) e fun t _ => post ts t) :
    FnOk P w K mg base CX0 (k + 1) f fd ps (spO K T pre post) := by
  obtain ⟨oc, od, kV, doc, pm, an, ct, osl, rfl, lk, hcd⟩ := F.ex
  refine fn_of lk hcd S (fun vs H Q E h => ?_) (fun A outer s H vs Q E hr h => ?_)
  · obtain ⟨m, ts, d, hp, _⟩ := h
    rw [d.length, hpre ts hp]
  · obtain ⟨m, ts, d, hp, al, tb, q⟩ := h
    have hlen : ts.length = ps.length := hpre ts hp
    have Sk0 : Sk K (bF T H m) ⟨m, fun _ => False⟩ H (L2.start N vs) (slots N (ts.map En.dat)) := by
      refine sk_start (by simp; omega) (by simp [d.length]) rfl (fun _ => Iff.rfl) (fun _ => Iff.rfl) (fun _ z => z.elim) al tb (fun i j e f l he _ el _ => ?_) fun i v e hv he => ?_
      · rw [List.getElem?_map] at he
        cases h : ts[i]? with
        | none => rw [h] at he; cases he
        | some t => rw [h] at he; cases he; cases el
      · rw [List.getElem?_map] at he
        cases h : ts[i]? with
        | none => rw [h] at he; cases he
        | some t =>
          rw [h] at he; cases he
          obtain ⟨v', h1, h2⟩ := d.get h
          rw [hv] at h1; cases h1
          exact h2
    refine ⟨_, PSs.nox (pss_self (X := (cxOf CX0 P w K mg base N qual (defScope st) f cdv A outer s H E).nox)), ?_⟩
    show WSs _ (defBody st) _ _ _
    rw [hbody]
    exact PSs.to (pss_one (ps_ret pe_self)) (hb A outer s H E m ts hr hp _ H Sk0 _ fun t Δ' l H' a fe hl S' hn ow => q l t H' a S'.fr S'.tb hl ow)
end
section
variable {X : Cx} {B : Bs} {M : Pl} {Δ : List En} {e : Expr} {es : List Expr} {Φ : Tr → List En → Prop} {x : Str} {k : Nat} {ps : List Str} {pre : List Tr → Prop} {post : List Tr → Tr → Prop}
/-- a new place, made behind a call -/
theorem Sk.grab {K : PySem.W.Frag} {H H' : Hp} {σ : L2.St} {l : Addr} (S : Sk K B M H σ Δ) (f : Fe (fun _ => False) H H') (tb : Tabs B.T H') (hl : H l = none) (ex : ∃ o, H' l = some o) : Sk K B (ins M l) H' σ Δ ∧ ∀ e ∈ Δ, ¬ e.has l := by
  have S' := S.feGrow f tb
  have fw : Fe M.w H H' := f.imp fun _ _ _ z => z.elim
  have s2 : Sub (mi M.m H) (mi (ins M l).m H') := mi_new hl S fw
  have hn : ∀ e ∈ Δ, ¬ e.has l := fun e he z => by
    obtain ⟨i, hi⟩ := List.getElem?_of_mem he
    obtain ⟨o, _, h2⟩ := S.sl i e hi
    have hm : M.m l := by
      cases e with
      | any => cases z
      | dat t => cases z
      | own l' t => cases z; cases o with
        | none => exact h2.elim
        | some v => exact h2.2.1
      | pen l' N => cases z; cases o with
        | none => exact h2.elim
        | some v => exact S.wm _ h2.2.1
      | tab l' as rs => cases o with
        | none => exact h2.elim
        | some v => exact (h2.2.2.1 _ z).1
    exact S.notM hl hm
  refine ⟨{ len := S'.len, al := fun b z => z.elim (S'.al b) fun e => by rw [e]; exact ex, wm := fun b z => Or.inl (S.wm b z), m0 := fun b z => Or.inl (S.m0 b z), pm := S.pm, own := fun b z => z.elim (S.own b) fun e => .inr (by rw [e]; exact S.new0 hl), wp := S.wp, fr := S'.fr, tb := S'.tb, dis := S.dis, sl := fun i e q => ?_ }, hn⟩
  obtain ⟨o, h1, h2⟩ := S.sl i e q
  exact ⟨o, h1, h2.mono (M := M) (M' := ins M l) (fun b z => Or.inl z) (fun _ => Iff.rfl) s2 fun l' _ o n z => f.k l' o id n z⟩
/-- f(e, ..), its new object held -/
theorem eo_call {p pos : Pos} (F : Fn X.prog X.w X.K X.mg X.base x k ps (spO X.K B.T pre post)) (hr : Room k X.A) (hg : Gl X x) (h : EA X B M Δ (e :: es) fun ts Δ1 => pre ts ∧ ∀ t, post ts t → Φ t Δ1)
    (hdb : (x == ("__debug__" : Str)) = false := by decide) (he : starEach (e :: es) X.env = (false, eval e X.env) :: starEach es X.env := by rfl) (hpl : (backTo pos (starEach es X.env)).any (·.1) = false := by rfl) : EO X B M Δ (.Call (.Name x p) (e :: es) [] pos) Φ := fun σ H S Q kk => by
  obtain ⟨f, fd, ok, hm, hk, hb⟩ := F.ex
  refine PE.to (pe_call ok hr hg hm hk hb .nil pass0 pa_self hdb he hpl) (h σ H S _ fun ts Δ1 vs H1 q fe S1 d => ?_)
  rw [List.append_nil]
  refine ⟨M.m, ts, d, q.1, S1.al, S1.tb, fun l t H' hp f2 tb hl ow => ?_⟩
  have fw : Fe M.w H H' := fe.trans (f2.imp fun _ _ _ z => z.elim)
  have ex : ∃ o, H' l = some o := by
    cases t <;> first | exact ow.elim | skip
    · obtain ⟨xs, e, _⟩ := ow; exact ⟨_, e⟩
    · obtain ⟨xs, e, _⟩ := ow; exact ⟨_, e⟩
    · obtain ⟨_, xs, e, _⟩ := ow; exact ⟨_, e⟩
  obtain ⟨S2, hn⟩ := S1.grab f2 tb hl ex
  exact kk t Δ1 l H' (q.2 t hp) fw (fe.free (fun b z => S1.al b (S1.wm b z)) hl) S2 hn ow
end
end Wf

set_option Elab.async false
set_option linter.all false
set_option maxRecDepth 100000
set_option maxHeartbeats 2000000
namespace Wf
open PySem PySem.Spec PyProof.Rows L2 LamX
/-! ### a new pen -/
def spPen (K : PySem.W.Frag) (T : List (Addr × Str)) : Sp := fun vs H Q _ => ∃ (m : Addr → Prop) (ns : List Int), Dts K (mi m H) vs [.lst (ns.map Tr.int)] ∧ ns.length ≤ 63 ∧ (∀ b, m b → ∃ o, H b = some o) ∧ Tabs T H ∧
  ∀ (p : Pn) H', Fe (fun _ => False) H H' → Tabs T H' → H p.l = none → PenAt K (mi (fun b => m b ∨ b = p.l) H') H' p 0 → Q (.ref p.l) H'
section
variable {P : Program} {w : World} {K : PySem.W.Frag} {mg : Str → Option Value} {base : Heap} {x qual : Str} {st : Stmt} {f : Addr} {fd : FuncData} {N : List Str} {k : Nat} {T : List (Addr × Str)} {e : Expr} {pos p1 p2 p3 p4 p5 p6 : Pos} {y : Str} {j1 j2 j3 j4 j5 : Nat}
theorem ok_newPen (F : Fun K x qual st f fd) (S : FnScope N [y] (defScope st)) (hbody : defBody st = [.Return (some (.Dict [some (.Constant (.str "cells") j1 p1), some (.Constant (.str "spot") j2 p2), some (.Constant (.str "more") j3 p3)] [e, .Constant (.int 0) j4 p4, .Constant (.int 0) j5 p5] p6)) pos])
    (hb : ∀ (cdv : Value) (A : Around) (outer : List Env) (s : Shared) (H : Hp) (E : XK) (m : Addr → Prop) (ns : List Int), ns.length ≤ 63 → Room k (A.deeper (envOfC qual (defScope st) s.heap.objs.size f cdv)) →
      EO (cxOf CX0 P w K mg base N qual (defScope st) f cdv A outer s H E).nox (bF T H m) ⟨m, fun _ => False⟩ (slots N [.dat (.lst (ns.map Tr.int))]) e fun t _ => t = .lst (ns.map Tr.int)) :
    FnOk P w K mg base CX0 (k + 1) f fd [y] (spPen K T) := by
  have hpl : 1 ≤ N.length := by
    have := congrArg List.length S.pre
    rw [List.length_take] at this
    simp at this
    omega
  refine F.ok S (fun vs H Q E h => ?_) (fun cdv A outer s H vs Q E hr h => ?_)
  · obtain ⟨m, ns, d, _⟩ := h
    rw [d.length]; rfl
  · obtain ⟨m, ns, d, hn, al, tb, q⟩ := h
    have Sk0 : Sk K (bF T H m) ⟨m, fun _ => False⟩ H (L2.start N vs) (slots N [.dat (.lst (ns.map Tr.int))]) := by
      refine sk_start hpl (by rw [d.length]; rfl) rfl (fun _ => Iff.rfl) (fun _ => Iff.rfl) (fun _ z => z.elim) al tb (fun i j e f l he _ el _ => ?_) fun i v e hv he => ?_
      · cases i with
        | zero => cases he; cases el
        | succ i => simp at he
      · cases i with
        | zero =>
          cases he
          obtain ⟨v', h1, h2⟩ := d.get (i := 0) rfl
          rw [hv] at h1; cases h1
          exact h2
        | succ i => simp at he
    have hD := pe_disp (X := (cxOf CX0 P w K mg base N qual (defScope st) f cdv A outer s H E).nox) (pos := p6) (keys := [some (.Constant (.str "cells") j1 p1), some (.Constant (.str "spot") j2 p2), some (.Constant (.str "more") j3 p3)]) (values := [e, .Constant (.int 0) j4 p4, .Constant (.int 0) j5 p5])
      (pps_cons pe_str pe_self (pps_cons pe_str pe_int (pps_cons pe_str pe_int pps_nil))) rfl rfl (by simp) (by show 3 ≤ 15; decide)
    refine ⟨_, PSs.nox (pss_self (X := (cxOf CX0 P w K mg base N qual (defScope st) f cdv A outer s H E).nox)), ?_⟩
    show WSs _ (defBody st) _ _ _
    rw [hbody]
    refine PSs.to (pss_one (ps_ret hD)) fun a ha => ?_
    have s1 := same_new (o := .dK []) ha
    refine hb cdv A outer s H E m ns hn hr _ _ (Sk0.same s1) _ fun t Δ' l H1 ht fe hl S1 hnn ow => ?_
    subst ht
    obtain ⟨xs, x1, x2⟩ := ow
    have ex := of_ints ns x2
    subst ex
    have ha1 : H1 a = some (.dK []) := fe.k a _ id nt_dK upd_same
    have hal : a ≠ l := fun z => by rw [← z, upd_same] at hl; cases hl
    have nma : ¬ m a := fun z => by obtain ⟨o, e⟩ := al a z; rw [ha] at e; cases e
    refine ⟨ha1, [(.inr "cells", .ref l), (.inr "spot", .int 0), (.inr "more", .int 0)], rfl, by simp, ?_⟩
    have em : mergeK [] [((.inr "cells" : Key), V.ref l), (.inr "spot", .int 0), (.inr "more", .int 0)] = [(.inr "cells", .ref l), (.inr "spot", .int 0), (.inr "more", .int 0)] := rfl
    rw [em]
    have fe2 : Fe (fun _ => False) H (upd H1 a (.dK [(.inr "cells", .ref l), (.inr "spot", .int 0), (.inr "more", .int 0)])) := by
      refine ⟨fun b o _ n z => ?_, fun b qs z => ?_⟩
      · rw [upd_ne (ne_of_none z ha)]
        exact fe.k b o id n (s1 b o z)
      · obtain ⟨rs, y⟩ := fe.t b qs (s1 b _ z)
        exact ⟨rs, by rw [upd_ne (ne_of_none z ha)]; exact y⟩
    refine q ⟨a, l, ns⟩ _ fe2 (fun p hp => ?_) ha ⟨0, 0, upd_same, ?_, hn, Int.le_refl _, Int.le_refl _, Int.le_refl _⟩
    · obtain ⟨ps, z1, z2, z3⟩ := S1.tb p hp
      have ne : ∀ b o, H1 b = some o → (∀ o', o ≠ .dK o') → b ≠ a := fun b o z n y => by
        rw [y, ha1] at z
        cases z
        exact n [] rfl
      refine ⟨ps, by rw [upd_ne (ne _ _ z1 fun _ y => nomatch y)]; exact z1, z2, fun pos cv hc => ?_⟩
      obtain ⟨c, c1, c2⟩ := z3 pos cv hc
      exact ⟨c, c1, by rw [upd_ne (ne _ _ c2 fun o' y => by unfold CodeO at y; cases y)]; exact c2⟩
    · refine SqL.of (mi_of (fun z => ?_) (by rw [upd_ne hal.symm]; exact x1))
      have nm : ¬ m l := fun y => by
        obtain ⟨o, e⟩ := al l y
        rw [s1 l o e] at hl
        cases hl
      exact z.elim nm fun y => hal y.symm
end
section
variable {X : Cx} {B : Bs} {M : Pl} {Δ : List En} {e : Expr} {x y : Str} {k : Nat} {Ψ : Eo}
def insP (M : Pl) (l : Addr) : Pl := ⟨fun b => M.m b ∨ b = l, fun b => M.w b ∨ b = l⟩
theorem s_newPen (i : Nat) {ya : Str} {p p' pos pos2 : Pos} (F : Fn X.prog X.w X.K X.mg X.base x k [ya] (spPen X.K B.T)) (hr : Room k X.A) (hg : Gl X x) (hN : X.N.Nodup) (hi : X.N[i]? = some y)
    (h : EA X B M Δ [e] fun ts Δ1 => ∃ ns : List Int, ts = [.lst (ns.map Tr.int)] ∧ ns.length ≤ 63 ∧ ∀ pn : Pn, ¬ M.m pn.l → Ψ.nx (insP M pn.l) (Δ1.set i (.pen pn 0)))
    (hdb : (x == ("__debug__" : Str)) = false := by decide) (he : starEach [e] X.env = (false, eval e X.env) :: starEach [] X.env := by rfl) (hpl : (backTo pos2 (starEach [] X.env)).any (·.1) = false := by rfl)
    (hs : swapsWith (.Call (.Name x p) [e] [] pos2) (some (.Name y p')) pos.line X.env = pure false := by rfl) (hf : X.fn y = true ∨ X.env.scope.names.lookup y = some .local := by first | exact .inl rfl | exact .inr rfl) (hx : Loc X.env.scope y := by first | exact Or.inl rfl | exact Or.inr rfl) :
    S1 X B M Δ (.Assign [.Name y p'] (.Call (.Name x p) [e] [] pos2) pos) Ψ := fun σ H S D p => by
  obtain ⟨f, fd, ok, hm, hk, hb⟩ := F.ex
  refine PS.to (ps_set (i := i) hN hi hx (pe_call ok hr hg hm hk hb .nil pass0 pa_self hdb he hpl) hs hf) (h σ H S _ fun ts Δ1 vs H1 q fe S1 d => ?_)
  obtain ⟨ns, rfl, hn, q⟩ := q
  rw [List.append_nil]
  refine ⟨M.m, ns, d, hn, S1.al, S1.tb, fun pn H' f2 tb hl pa => ?_⟩
  have fw : Fe M.w H1 H' := f2.imp fun _ _ _ z => z.elim
  have S2 := S1.feGrow f2 tb
  have nm : ¬ M.m pn.l := S1.notM hl
  have s2 : Sub (mi M.m H1) (mi (insP M pn.l).m H') := mi_new hl S1 fw
  have S3 : Sk X.K B (insP M pn.l) H' σ Δ1 := by
    refine { len := S2.len, al := fun b z => z.elim (S2.al b) fun e => ?_, wm := fun b z => z.imp (S1.wm b) id, m0 := fun b z => .inl (S1.m0 b z), pm := S1.pm, own := fun b z => z.elim (S1.own b) fun e => .inr (by rw [e]; exact S1.new0 hl), wp := fun b z => z.elim (S1.wp b) fun e => .inr (by rw [e]; exact S1.new0 hl), fr := S2.fr, tb := S2.tb, dis := S1.dis, sl := fun j e z => ?_ }
    · obtain ⟨_, _, z, _⟩ := pa
      exact ⟨_, by rw [e]; exact z⟩
    · obtain ⟨o, h1, h2⟩ := S1.sl j e z
      refine ⟨o, h1, ?_⟩
      cases o with
      | none => cases e <;> first | exact True.intro | exact h2.elim
      | some v =>
        cases e with
        | any => exact True.intro
        | dat t => exact Dt.mono s2 h2
        | own l' t =>
          obtain ⟨h3, h4, h5, h7, h6⟩ := h2
          exact ⟨h3, .inl h4, h5, fun y => y.elim h7 fun e => nm (by rw [← e]; exact h4), h6.mono s2 fun o n y => f2.k _ o id n y⟩
        | pen l' N =>
          obtain ⟨h3, h4, h6⟩ := h2
          exact ⟨h3, .inl h4, h6.mono s2 fun o n y => f2.k _ o id n y⟩
        | tab l' as rs =>
          obtain ⟨h3, h4, h5, h6⟩ := h2
          exact ⟨h3, h4, fun b y => ⟨.inl (h5 b y).1, (h5 b y).2.1, fun x => x.elim (h5 b y).2.2 fun e => nm (by rw [← e]; exact (h5 b y).1)⟩, h6.mono s2 fun b _ o n y => f2.k _ o id n y⟩
  refine p.nx (insP M pn.l) _ _ H' (q pn nm) ((S.sub fe).trans s2) (S3.put i (o := some (.ref pn.l)) (e := .pen pn 0) ⟨rfl, .inr rfl, pa⟩ fun l' z j f' _ hf' y => ?_)
  cases z
  obtain ⟨o, _, h2⟩ := S1.sl j f' hf'
  cases f' with
  | any => cases y
  | dat t => cases y
  | own l' t =>
    cases y
    cases o with
    | none => exact h2.elim
    | some v => exact nm h2.2.1
  | pen l' N =>
    cases o with
    | none => exact h2.elim
    | some v => exact nm (by rw [show pn.l = l'.l from (show l'.l = pn.l from y).symm]; exact S1.wm _ h2.2.1)
  | tab l' as rs =>
    cases o with
    | none => exact h2.elim
    | some v => exact nm (h2.2.2.1 _ y).1
end
end Wf

set_option Elab.async false
set_option linter.all false
set_option maxRecDepth 100000
set_option maxHeartbeats 2000000
namespace Wf
open PySem PySem.Spec PyProof.Rows L2 LamX
section
variable {X : Cx} {B : Bs} {M : Pl} {Δ : List En} {e a b c : Expr} {es : List Expr} {Φ : Tr → List En → Prop} {Ψ : Eo}
/-! ### lists that are read, one behind the other -/
def rCatD (K : PySem.W.Frag) : R2 := fun x y H Q => ∃ l b xs zs, x = .ref l ∧ y = .ref b ∧ SqL K H l xs ∧ SqL K H b zs ∧ xs.length + zs.length ≤ sizeLine ∧ ∀ p, H p = none → Q (.ref p) (upd H p (.lst (xs ++ zs)))
theorem op_catD : OpR X (binaryOp .Add) (rCatD X.K) := by
  intro pins s σ H x y v u Q I rx ry h
  obtain ⟨l, b, xs, zs, rfl, rfl, hx, hy, hz, q⟩ := h
  cases rx
  cases ry
  obtain ⟨us, r1, p1, z1⟩ := I.list hx
  obtain ⟨ws, r2, p2, z2⟩ := I.list hy
  obtain ⟨⟨k1, d1, t1, s1⟩, g1, rfl, n1, c1⟩ := p1.isList
  obtain ⟨⟨k2, d2, t2, s2⟩, g2, rfl, n2, c2⟩ := p2.isList
  obtain rfl : t1 = _ := c1
  obtain rfl : t2 = _ := c2
  have hs : us.toArray.size + ws.toArray.size ≤ sizeLine := by rw [List.size_toArray, List.size_toArray, ← r1.length, ← r2.length]; exact hz
  have ea : us.toArray ++ ws.toArray = (us ++ ws).toArray := by simp
  refine concat_meets ⟨_, g1, rfl⟩ ⟨_, g2, rfl⟩ noFill_list_add seq_list_add PySem.F.slot_list_add PySem.F.entry_list_add (PySem.F.args_list_add_2 _ _) (list_addW l b us.toArray ws.toArray n1 n2 d1 d2 s1 s2 hs) ⟨g1, g2, ?_⟩
  rw [ea]
  exact ⟨.ref _, upd H s.heap.objs.size (.lst (xs ++ zs)), I.lnew (t' := s.toks) (r1.append r2) (by rw [List.length_append]; omega), rfl, q _ I.fresh⟩
theorem eo_catD {pos : Pos} (h : EE X B M Δ a fun x Δ1 => EE X B M Δ1 b fun y Δ2 => ∃ ts us, x = .lst ts ∧ y = .lst us ∧ ts.length + us.length ≤ sizeLine ∧ Φ (.lst (ts ++ us)) Δ2) : EO X B M Δ (.BinOp a .Add b pos) Φ := fun σ H S Q k =>
  PE.to (pe_op op_catD pe_self pe_self) (h σ H S _ fun x Δ1 v H1 p1 f1 S1 d1 => p1 σ H1 S1 _ fun y Δ2 w H2 p2 f2 S2 d2 => by
    obtain ⟨ts, us, rfl, rfl, hz, q⟩ := p2
    have d1 := d1.mono (S1.sub f2)
    cases d1 with
    | lst g1 g2 =>
      cases d2 with
      | lst g3 g4 =>
        refine ⟨_, _, _, _, rfl, rfl, sub_seqL mi_sub g1, sub_seqL mi_sub g3, by rw [g2.length, g4.length]; exact hz, fun p hp => ?_⟩
        rename_i l1 xs l2 ys
        have s := same_new (o := .lst (xs ++ ys)) hp
        obtain ⟨a1, a2, a3⟩ := S2.newOwn (t := .lst (ts ++ us)) hp s ⟨_, upd_same, g2.append g4⟩
        exact k _ Δ2 p _ q ((f1.trans f2).trans (Fe.same s)) ((f1.trans f2).free (fun b z => S2.al b (S2.wm b z)) hp) a1 a2 a3)
/-- a module's int -/
theorem ee_globI {x : Str} {i : Int} {tk : Tok} {pos : Pos} (hg : Gl X x) (hm : X.mg x = some (.int i tk)) (q : Φ (.int i) Δ) (hd : (x == ("__debug__" : Str)) = false := by decide) : EE X B M Δ (.Name x pos) Φ :=
  ee_glob (v := .int i) (u := .int i tk) hg hm ⟨tk, rfl⟩ (fun _ => .int i) q hd
end
end Wf

set_option Elab.async false
set_option linter.all false
set_option maxRecDepth 100000
set_option maxHeartbeats 2000000
namespace Wf
open PySem PySem.Spec PyProof.Rows L2 LamX
section
variable {X : Cx} {B : Bs} {M : Pl} {Δ : List En} {e a b c o : Expr} {es : List Expr} {Φ : Tr → List En → Prop} {Γ : Bool → List En → Prop} {Ψ : Eo}
/-! ### isinstance(x, (S, T)) -/
theorem ee_isi2 {y z : Str} {S T : String} {p p2 p3 p4 pos : Pos} {j : Nat} (hg : Gl X "isinstance") (hm : X.mg "isinstance" = none) (hg2 : Gl X y) (hm2 : X.mg y = none) (hv2 : bootBuiltins y = some (.type S)) (hg3 : Gl X z) (hm3 : X.mg z = none) (hv3 : bootBuiltins z = some (.type T))
    (hv : bootBuiltins "isinstance" = some (.builtin "isinstance")) (h : EE X B M Δ e fun t Δ1 => ∃ n b, t.cls = some n ∧ PySem.W.kitAny X.K (.type n) [.type S, .type T] = some b ∧ Φ (.bl b) Δ1)
    (hn2 : y ≠ "__name__" := by decide) (hdb2 : (y == ("__debug__" : Str)) = false := by decide) (hn3 : z ≠ "__name__" := by decide) (hdb3 : (z == ("__debug__" : Str)) = false := by decide)
    (hs : starEach [e, .Tuple [.Name y p2, .Name z p3] j p4] X.env = (false, eval e X.env) :: starEach [.Tuple [.Name y p2, .Name z p3] j p4] X.env := by rfl) (hs2 : starEach [.Tuple [.Name y p2, .Name z p3] j p4] X.env = (false, eval (.Tuple [.Name y p2, .Name z p3] j p4) X.env) :: starEach [] X.env := by rfl)
    (hs3 : starEach [.Name y p2, .Name z p3] X.env = (false, eval (.Name y p2) X.env) :: starEach [.Name z p3] X.env := by rfl) (hs4 : starEach [.Name z p3] X.env = (false, eval (.Name z p3) X.env) :: starEach [] X.env := by rfl)
    (hpl : (backTo pos (starEach [.Tuple [.Name y p2, .Name z p3] j p4] X.env)).any (·.1) = false := by rfl) : EE X B M Δ (.Call (.Name "isinstance" p) [e, .Tuple [.Name y p2, .Name z p3] j p4] [] pos) Φ := fun σ H Sk0 Q k =>
  PE.to (pe_callB (X := X) call_isiT hg hm hv (pa_cons pe_self (pa_cons (pe_tup (pa_cons (pe_bltn (v := .ty S) hg2 hm2 hv2 rfl hn2 hdb2) (pa_cons (pe_bltn (v := .ty T) hg3 hm3 hv3 rfl hn3 hdb3) pa_nil hs4) hs3)) pa_nil hs2) hs) (by decide) (by decide) hs hpl) (h σ H Sk0 _ fun t Δ1 v H1 p f S1 d => by
    obtain ⟨n, b, h1, h2, q⟩ := p
    refine ⟨by show 2 ≤ sizeLine; decide, fun tp htp => ?_⟩
    have s := same_new (o := .tup [.ty S, .ty T]) htp
    exact ⟨v, tp, [.ty S, .ty T], .type n, [.type S, .type T], b, rfl, upd_same, .cons (.ty S) (.cons (.ty T) .nil), dt_tyx mi_sub (d.mono (Sub.of s).mi) h1, h2, k _ Δ1 _ _ q (f.trans (Fe.same s)) (S1.same s) (.bl b)⟩)
/-! ### a op b op c, of ints -/
theorem et_chain {op op' : CmpOp} {f g : Int → Int → Bool} {pos : Pos} (ho : OpR X (compareOp op) (rI0 fun i j => .bl (f i j))) (ho' : OpR X (compareOp op') (rI0 fun i j => .bl (g i j)))
    (h : EE X B M Δ a fun x Δ1 => EE X B M Δ1 b fun y Δ2 => ∃ i j, x = .int i ∧ y = .int j ∧ (f i j = true → EE X B M Δ2 c fun z Δ3 => ∃ k, z = .int k ∧ Γ (g j k) Δ3) ∧ (f i j = false → Γ false Δ2))
    (hm : lastMarks [op, op'] [b, c] = false := by with_unfolding_all rfl) : ET X B M Δ (.Compare a [op, op'] [b, c] pos) Γ := fun σ H S Q k =>
  PT.to (pt_chain ho ho' pe_self pe_self pe_self hm) (h σ H S _ fun x Δ1 v H1 p f1 S1 d1 => p σ H1 S1 _ fun y Δ2 u H2 p2 f2 S2 d2 => by
    obtain ⟨i, j, rfl, rfl, q1, q2⟩ := p2
    cases d1; cases d2
    refine ⟨i, j, rfl, rfl, _, rfl, ?_⟩
    cases e : f i j with
    | true =>
      exact iteT (q1 e σ H2 S2 _ fun z Δ3 w H3 p3 f3 S3 d3 => by
        obtain ⟨n, rfl, q⟩ := p3
        cases d3
        exact ⟨j, n, rfl, rfl, _, rfl, k _ Δ3 H3 q ((f1.trans f2).trans f3) S3⟩)
    | false => exact iteF ⟨_, rfl, k _ Δ2 H2 (q2 e) (f1.trans f2) S2⟩)
theorem ee_chain {op op' : CmpOp} {f g : Int → Int → Bool} {pos : Pos} (ho : OpR X (compareOp op) (rI0 fun i j => .bl (f i j))) (ho' : OpR X (compareOp op') (rI0 fun i j => .bl (g i j)))
    (h : EE X B M Δ a fun x Δ1 => EE X B M Δ1 b fun y Δ2 => ∃ i j, x = .int i ∧ y = .int j ∧ (f i j = true → EE X B M Δ2 c fun z Δ3 => ∃ k, z = .int k ∧ Φ (.bl (g j k)) Δ3) ∧ (f i j = false → Φ (.bl false) Δ2))
    (hm : lastMarks [op, op'] [b, c] = false := by with_unfolding_all rfl) : EE X B M Δ (.Compare a [op, op'] [b, c] pos) Φ := fun σ H S Q k =>
  PE.to (pe_chain ho ho' pe_self pe_self pe_self hm) (h σ H S _ fun x Δ1 v H1 p f1 S1 d1 => p σ H1 S1 _ fun y Δ2 u H2 p2 f2 S2 d2 => by
    obtain ⟨i, j, rfl, rfl, q1, q2⟩ := p2
    cases d1; cases d2
    refine ⟨i, j, rfl, rfl, _, rfl, ?_⟩
    cases e : f i j with
    | true =>
      exact iteT (q1 e σ H2 S2 _ fun z Δ3 w H3 p3 f3 S3 d3 => by
        obtain ⟨n, rfl, q⟩ := p3
        cases d3
        exact ⟨j, n, rfl, rfl, k _ Δ3 _ H3 q ((f1.trans f2).trans f3) S3 (.bl _)⟩)
    | false => exact iteF (k _ Δ2 _ H2 (q2 e) (f1.trans f2) S2 (.bl false)))
/-! ### x is True, x is False -/
theorem cd_isB : CmpD X .Is B M Γ fun x y Δ2 => ∃ i j : Bool, x = .bl i ∧ y = .bl j ∧ Γ (decide (i = j)) Δ2 :=
  ⟨_, op_isBl, fun x y Δ2 p σ H v w Q S d1 d2 k => by
    obtain ⟨i, j, rfl, rfl, q⟩ := p
    cases d1; cases d2
    exact ⟨i, j, rfl, rfl, k _ _ H q (Fe.refl _ _) S⟩⟩
/-! ### s.find(t) -/
theorem ee_find {apos pos : Pos} (h : EE X B M Δ o fun x Δ1 => ∃ y : Str, x = .str y ∧ EA X B M Δ1 [e] fun ts Δ2 => ∃ z : Str, ts = [.str z] ∧ Φ (.int (Txt.find y z)) Δ2)
    (hE : PE X (.Call (.Attribute o "find" apos) [e] [] pos) (tBM X.K "str" (fun x xs H Q => ∃ a b, x = .str a ∧ xs = [.str b] ∧ Q (.int (Txt.find a b)) H) (WE X o) (WA X [e])) := by
      exact pe_bm PySem.F.plainAttrs_str PySem.F.slot_str_find PySem.F.type_str_find mt_find pe_self pa_self) : EE X B M Δ (.Call (.Attribute o "find" apos) [e] [] pos) Φ := fun σ H S Q k =>
  PE.to hE (h σ H S _ fun x Δ1 v H1 p f S1 d => by
    obtain ⟨y, rfl, p⟩ := p
    cases d
    refine ⟨rfl, p σ H1 S1 _ fun ts Δ2 vs H2 p2 f2 S2 d2 => ?_⟩
    obtain ⟨z, rfl, q⟩ := p2
    cases d2 with
    | cons g1 g2 =>
      cases g2; cases g1
      exact ⟨y, z, rfl, rfl, k _ Δ2 _ H2 q (f.trans f2) S2 (.int _)⟩)
/-! ### instances that are being made -/
def putT (f : Str) (t : Tr) : List (Str × Tr) → List (Str × Tr)
  | [] => [(f, t)]
  | (g, x) :: r => if g = f then (g, t) :: r else (g, x) :: putT f t r
theorem dfs_put {K : PySem.W.Frag} {I : Hp} {f : Str} {v : V} {t : Tr} (d : Dt K I v t) : ∀ {fs : List (Str × V)} {es : List (Str × Tr)}, Dfs K I fs es → Dfs K I (putF f v fs) (putT f t es)
  | _, _, .nil => .cons d .nil
  | (g, x) :: fs, (_, u) :: es, .cons h q => by
    unfold putF putT
    by_cases hg : g = f
    · rw [if_pos hg, if_pos hg]
      exact .cons d q
    · rw [if_neg hg, if_neg hg]
      exact .cons h (dfs_put d q)
theorem dfs_len {K : PySem.W.Frag} {I : Hp} : ∀ {fs : List (Str × V)} {es : List (Str × Tr)}, Dfs K I fs es → fs.length = es.length
  | _, _, .nil => rfl
  | _, _, .cons _ q => congrArg (· + 1) (dfs_len q)
/-- self.f = e, self being made -/
theorem s_fld (i : Nat) {x f : Str} {px pa pos : Pos} (hN : X.N[i]? = some x)
    (h : EE X B M Δ e fun t Δ1 => ∃ l C fs, Δ1[i]? = some (.own l (.ins C fs)) ∧ Cls X.K C ∧ NoAttr X.K C f ∧ fs.length < 1000 ∧ Ψ.nx M (Δ1.set i (.own l (.ins C (putT f t fs)))))
    (hs : swapsWith e (some (.Attribute (.Name x px) f pa)) pos.line X.env = pure false := by rfl) (hd : (x == ("__debug__" : Str)) = false := by decide) (hcd : (x == ("__classdict__" : Str)) = false := by decide) (hv : Vis X.env.scope x := by first | exact Or.inl rfl | exact Or.inr (Or.inl rfl) | exact Or.inr (Or.inr rfl)) :
    S1 X B M Δ (.Assign [.Attribute (.Name x px) f pa] e pos) Ψ := fun σ H S D p =>
  PS.to (ps_fld (pe_var (i := i) hN hv hd hcd) pe_self hs) (h σ H S _ fun t Δ1 v H1 q fe S1 d => by
    obtain ⟨l, C, fs, q1, c1, c2, ql, q⟩ := q
    obtain ⟨h1, h2, h3, h4, dx, vs, h5, h6⟩ := S1.ownAt q1
    refine ⟨_, h1, l, C, dx, vs, rfl, h5, c1, c2, by rw [dfs_len h6]; exact ql, ?_⟩
    obtain ⟨S2, s2⟩ := S1.write (o := .ins C dx (putF f v vs)) (t' := .ins C (putT f t fs)) q1 ⟨dx, _, upd_same, dfs_put d h6⟩
    exact p.nx M _ σ _ q ((S.sub fe).trans s2) S2)
/-- self.f, self being made -/
theorem ee_fldO (i : Nat) {x f : Str} {px pos : Pos} {l C : Addr} {fs : List (Str × Tr)} {u : Tr} (hN : X.N[i]? = some x) (hi : Δ[i]? = some (.own l (.ins C fs))) (c1 : Cls X.K C) (c2 : NoAttr X.K C f) (hl : fs.lookup f = some u) (q : Φ u Δ)
    (hd : (x == ("__debug__" : Str)) = false := by decide) (hcd : (x == ("__classdict__" : Str)) = false := by decide) (hb : attributeBase (.Name x px) f X.env (eval (.Name x px) X.env) = eval (.Name x px) X.env := by rfl) (hv : Vis X.env.scope x := by first | exact Or.inl rfl | exact Or.inr (Or.inl rfl) | exact Or.inr (Or.inr rfl)) : EE X B M Δ (.Attribute (.Name x px) f pos) Φ := fun σ H S Q k => by
  obtain ⟨h1, h2, h3, h4, dx, vs, h5, h6⟩ := S.ownAt hi
  obtain ⟨v, e1, e2⟩ := dfs_look h6 hl
  exact PE.to (pe_fld (pe_var (i := i) hN hv hd hcd) hb) ⟨_, h1, l, C, dx, vs, v, rfl, h5, c1, c2, e1, k u Δ v H q (Fe.refl _ _) S e2⟩
end
/-- an __init__: the instance at l has no fields yet -/
def spI (K : PySem.W.Frag) (T : List (Addr × Str)) (C : Addr) (pre : List Tr → Prop) (post : List Tr → List (Str × Tr) → Prop) : Sp := fun vs H Q _ => ∃ (m : Addr → Prop) (l dx : Addr) (vs' : List V) (ts : List Tr), vs = .ref l :: vs' ∧ ¬ m l ∧ H l = some (.ins C dx []) ∧ Dts K (mi (fun b => m b ∨ b = l) H) vs' ts ∧ pre ts ∧ (∀ b, m b → ∃ o, H b = some o) ∧ Tabs T H ∧
  ∀ fs H', post ts fs → Fe (fun b => b = l) H H' → Tabs T H' → Ow K (mi (fun b => m b ∨ b = l) H') H' l (.ins C fs) → Q .non H'
/-- the heap without a place -/
noncomputable def without (H : Hp) (l : Addr) : Hp := mi (fun b => b = l) H
theorem without_some {H : Hp} {l b : Addr} {o : HO} : without H l b = some o ↔ b ≠ l ∧ H b = some o := mi_some
section
variable {P : Program} {w : World} {K : PySem.W.Frag} {mg : Str → Option Value} {base : Heap} {x qual y : Str} {st : Stmt} {f : Addr} {fd : FuncData} {N ps : List Str} {k : Nat} {T : List (Addr × Str)} {C : Addr} {pre : List Tr → Prop} {post : List Tr → List (Str × Tr) → Prop}
theorem fe_without {H H' : Hp} {l : Addr} (f : Fe (fun _ => False) (without H l) H') (hl : ∀ ps, H l ≠ some (.tbl ps)) : Fe (fun b => b = l) H H' :=
  ⟨fun b o p n e => f.k b o id n (without_some.mpr ⟨p, e⟩), fun b ps e => f.t b ps (without_some.mpr ⟨fun z => hl ps (by rw [← z]; exact e), e⟩)⟩
theorem ok_I (F : Fun K x qual st f fd) (S : FnScope N (y :: ps) (defScope st)) (hpre : ∀ ts, pre ts → ts.length = ps.length) (hps : ps.length + 1 ≤ N.length)
    (hb : ∀ (cdv : Value) (A : Around) (outer : List Env) (s : Shared) (H H0 : Hp) (E : XK) (m : Addr → Prop) (l : Addr) (ts : List Tr), Room k (A.deeper (envOfC qual (defScope st) s.heap.objs.size f cdv)) → pre ts →
      SS (cxOf CX0 P w K mg base N qual (defScope st) f cdv A outer s H E).nox ⟨T, fun _ => False, H0, m⟩ ⟨fun b => m b ∨ b = l, fun _ => False⟩ (slots N (.own l (.ins C []) :: ts.map En.dat)) (defBody st)
        ⟨fun M' Δ' => (∀ b, M'.m b ↔ m b ∨ b = l) ∧ ∃ fs, post ts fs ∧ Δ'[0]? = some (.own l (.ins C fs)), fun _ _ => False, fun _ _ => False, fun _ _ => False⟩) :
    FnOk P w K mg base CX0 (k + 1) f fd (y :: ps) (spI K T C pre post) := by
  refine F.ok S (fun vs H Q E h => ?_) (fun cdv A outer s H vs Q E hr h => ?_)
  · obtain ⟨m, l, dx, vs', ts, rfl, _, _, d, hp, _⟩ := h
    rw [List.length_cons, List.length_cons, d.length, hpre ts hp]
  · obtain ⟨m, l, dx, vs', ts, rfl, nm, hl, d, hp, al, tb, q⟩ := h
    have hlen : ts.length = ps.length := hpre ts hp
    have e0 : ∀ (i : Nat) (e : En), (En.own l (.ins C []) :: ts.map En.dat)[i]? = some e → ∀ a, e.has a → i = 0 := fun i e he a ea => by
      cases i with
      | zero => rfl
      | succ i =>
        rw [List.getElem?_cons_succ, List.getElem?_map] at he
        cases h : ts[i]? with
        | none => rw [h] at he; cases he
        | some t => rw [h] at he; cases he; cases ea
    have Sk0 : Sk K ⟨T, fun _ => False, without H l, m⟩ ⟨fun b => m b ∨ b = l, fun _ => False⟩ H (L2.start N (.ref l :: vs')) (slots N (.own l (.ins C []) :: ts.map En.dat)) := by
      have hl2 : (V.ref l :: vs').length = (En.own l (.ins C []) :: ts.map En.dat).length := by simp [d.length]
      refine { len := ?_, al := fun b z => z.elim (al b) fun e => ⟨.ins C dx [], by rw [e]; exact hl⟩, wm := fun b z => z.elim, m0 := fun b z => .inl z, pm := fun b z => z.elim, own := fun b z => z.elim .inl fun e => .inr ?_, wp := fun b z => z.elim, fr := ⟨fun b o _ n e => (without_some.mp e).2, fun b ps e => ⟨ps, (without_some.mp e).2⟩⟩, tb := tb, dis := fun i j e f a he hf ea fa => ?_, sl := fun i e q => ?_ }
      · unfold L2.start slots
        rw [List.length_append, List.length_append, List.length_map, List.length_replicate, List.length_replicate]
        simp [d.length]
      · rw [e]
        cases z : without H l l with
        | none => exact z
        | some o => exact absurd rfl (without_some.mp z).1
      · rcases start_get (N := N) hl2 he with ⟨_, _, _, z⟩ | ⟨_, rfl⟩
        · rcases start_get (N := N) hl2 hf with ⟨_, _, _, z2⟩ | ⟨_, rfl⟩
          · rw [e0 i e z a ea, e0 j f z2 a fa]
          · cases fa
        · cases ea
      · rcases start_get (N := N) hl2 q with ⟨v, h1, h2, h3⟩ | ⟨h1, rfl⟩
        · refine ⟨_, h1, ?_⟩
          cases i with
          | zero => cases h2; cases h3; exact ⟨rfl, .inr rfl, nm, id, dx, [], hl, .nil⟩
          | succ i =>
            rw [List.getElem?_cons_succ] at h2 h3
            rw [List.getElem?_map] at h3
            cases h : ts[i]? with
            | none => rw [h] at h3; cases h3
            | some t =>
              rw [h] at h3; cases h3
              obtain ⟨v', g1, g2⟩ := d.get h
              rw [h2] at g1; cases g1
              exact g2
        · exact ⟨_, h1, True.intro⟩
    refine ⟨_, pss_self, hb cdv A outer s H (without H l) E m l ts hr hp _ H Sk0 _ ⟨fun M' Δ' σ' H' a b z => ?_, fun _ _ _ _ _ _ z => z.elim, fun _ _ _ _ z => z.elim, fun _ _ _ _ z => z.elim⟩⟩
    obtain ⟨hM, fs, a1, a2⟩ := a
    have ow := (z.ownAt a2).2.2.2.2
    exact q fs H' a1 (fe_without z.fr fun ps e => by rw [hl] at e; cases e) z.tb (ow.mono (mi_le fun b y => (hM b).mpr y) fun _ _ y => y)
end
/-- a class of the module, made by its __init__ -/
structure Mc (P : Program) (w : World) (K : PySem.W.Frag) (mg : Str → Option Value) (base : Heap) (x : Str) (C : Addr) (k : Nat) (ps : List Str) (sp : Sp) : Prop where
  cl : Cls K C
  at_ : mg x = some (.ref C)
  ex : ∃ f fd, FnOk P w K mg base CX0 k f fd ps sp ∧ L2.Mk K C f ∧ Binds K fd ps []
section
variable {X : Cx} {B : Bs} {M : Pl} {Δ : List En} {e : Expr} {es : List Expr} {Φ : Tr → List En → Prop} {x : Str} {k : Nat} {ps : List Str} {C : Addr} {pre : List Tr → Prop} {post : List Tr → List (Str × Tr) → Prop}
/-- C(e, ..) -/
theorem eo_make {p pos : Pos} (F : Mc X.prog X.w X.K X.mg X.base x C k ps (spI X.K B.T C pre post)) (hr : Room (k + 1) X.A) (hg : Gl X x) (h : EA X B M Δ (e :: es) fun ts Δ1 => pre ts ∧ ∀ fs, post ts fs → Φ (.ins C fs) Δ1)
    (hdb : (x == ("__debug__" : Str)) = false := by decide) (he : starEach (e :: es) X.env = (false, eval e X.env) :: starEach es X.env := by rfl) (hpl : (backTo pos (starEach es X.env)).any (·.1) = false := by rfl) : EO X B M Δ (.Call (.Name x p) (e :: es) [] pos) Φ := fun σ H S Q kk => by
  obtain ⟨f, fd, ok, hm, hb⟩ := F.ex
  refine PE.to (pe_make hm ok hr hg F.at_ hb .nil pass0 pa_self hdb he hpl) (h σ H S _ fun ts Δ1 vs H1 q fe S1 d => fun l dx hl hdx hne => ?_)
  rw [List.append_nil]
  have s1 : Same H1 (upd (upd H1 dx (.own l)) l (.ins C dx [])) := fun b o z => by
    rw [upd_ne (ne_of_none z hl), upd_ne (ne_of_none z hdx)]; exact z
  have nm : ¬ M.m l := S1.notM hl
  have s2 : Sub (mi M.m H1) (mi (fun b => M.m b ∨ b = l) (upd (upd H1 dx (.own l)) l (.ins C dx []))) := mi_new hl S1 (Fe.same s1)
  refine ⟨M.m, l, dx, vs, ts, rfl, nm, upd_same, d.mono s2, q.1, fun b z => ?_, S1.tb.ext s1, fun fs H' hp f2 tb ow => ⟨rfl, ?_⟩⟩
  · obtain ⟨o, e⟩ := S1.al b z
    exact ⟨o, s1 b o e⟩
  · have fn : Fe (fun _ => False) H1 H' := ((Fe.same s1).trans f2).imp fun b o n z e => by rw [z, hl] at e; cases e
    have ex : ∃ o, H' l = some o := by
      obtain ⟨_, _, z, _⟩ := ow
      exact ⟨_, z⟩
    obtain ⟨S2, hn⟩ := S1.grab fn tb hl ex
    exact kk _ Δ1 l H' (q.2 fs hp) (fe.trans (fn.imp fun _ _ _ z => z.elim)) (fe.free (fun b z => S1.al b (S1.wm b z)) hl) S2 hn ow
end
end Wf

set_option Elab.async false
set_option linter.all false
set_option maxRecDepth 100000
set_option maxHeartbeats 2000000
namespace Wf
open PySem PySem.Spec PyProof.Rows L2 LamX
/-! ### calls with keywords -/
def WK (X : Cx) (kws : List Keyword) : TA := fun σ H Q => ∀ (pos : Pos) pins s, Inv X pins σ H s → wpAny (model X.prog X.w) X.A (evalAll ((backToKw pos (keywordEach kws X.env)).map (·.2))) (AP X pins σ Q) X.xe s
theorem pk_self {X : Cx} {kws : List Keyword} : PK X kws (WK X kws) := ⟨fun pos pins s σ H Q I h => h pos pins s I⟩
theorem PK.to {X : Cx} {kws : List Keyword} {t : TA} (h : PK X kws t) {σ : L2.St} {H : Hp} {Q : List V → Hp → Prop} (q : t σ H Q) : WK X kws σ H Q := fun pos pins s I => h.run pos pins s σ H Q I q
def EK (X : Cx) (B : Bs) (M : Pl) (Δ : List En) (kws : List Keyword) (Φ : List Tr → List En → Prop) : Prop := ∀ σ H, Sk X.K B M H σ Δ → ∀ Q : List V → Hp → Prop,
  (∀ ts Δ' vs H', Φ ts Δ' → Fe M.w H H' → Sk X.K B M H' σ Δ' → Dts X.K (mi M.m H') vs ts → Q vs H') → WK X kws σ H Q
/-- the positional values, then the keywords' -/
def gK {α : Type} (n j : Nat) (us ws : List α) : List α := if us.length = n ∧ ws.length = j then us ++ ws else []
theorem vals_app {vs zs : List V} {us ws : List Value} (h : Vals vs us) (q : Vals zs ws) : Vals (vs ++ zs) (us ++ ws) := by
  induction h with
  | nil => exact q
  | cons r _ ih => exact .cons r ih
theorem gK_rel {n j : Nat} {vs zs : List V} {us ws : List Value} (h : Vals vs us) (q : Vals zs ws) : Vals (gK n j vs zs) (gK n j us ws) := by
  unfold gK
  rw [h.length, q.length]
  by_cases c : us.length = n ∧ ws.length = j
  · rw [if_pos c, if_pos c]; exact vals_app h q
  · rw [if_neg c, if_neg c]; exact .nil
structure FnK (P : Program) (w : World) (K : PySem.W.Frag) (mg : Str → Option Value) (base : Heap) (x : Str) (k n j : Nat) (ps ks : List Str) (sp : Sp) : Prop where
  ex : ∃ f fd, FnOk P w K mg base CX0 k f fd ps sp ∧ mg x = some (.ref f) ∧ PySem.W.keepIn K (.ref f) = true ∧ KBinds K fd ps ks (gK n j) (gK n j)
theorem kbinds_of {K : PySem.W.Frag} {fd : FuncData} {ps ks : List Str} {n j : Nat} (hp : 0 < ps.length) (h : ∀ us ws : List Value, us.length = n → ws.length = j → bindArgs fd ⟨us, ks.zip ws⟩ = pure (ps.zip (us ++ ws))) : KBinds K fd ps ks (gK n j) (gK n j) where
  to := fun s us ws _ hl => by
    unfold gK at hl ⊢
    by_cases c : us.length = n ∧ ws.length = j
    · rw [if_pos c] at hl ⊢
      exact .of_eq (h us ws c.1 c.2)
    · rw [if_neg c] at hl
      simp at hl
      omega
  rel := fun h q => gK_rel h q
section
variable {X : Cx} {B : Bs} {M : Pl} {Δ : List En} {e : Expr} {es : List Expr} {kws : List Keyword} {Φ : Tr → List En → Prop} {x : Str} {k n j : Nat} {ps ks : List Str} {pre : List Tr → Prop} {post : List Tr → Tr → Prop} {Θ : List Tr → List En → Prop}
theorem ek_nil (q : Θ [] Δ) : EK X B M Δ [] Θ := fun σ H S Q k => PK.to pk_nil (k [] Δ [] H q (Fe.refl _ _) S .nil)
theorem ek_cons {nm : Option Str} {kpos : Pos} (h : EE X B M Δ e fun t Δ1 => EK X B M Δ1 kws fun ts Δ2 => Θ (t :: ts) Δ2) : EK X B M Δ (⟨nm, e, kpos⟩ :: kws) Θ := fun σ H S Q k =>
  PK.to (pk_cons pe_self pk_self) (h σ H S _ fun t Δ1 v H1 p f S1 d1 => p σ H1 S1 _ fun ts Δ2 vs H2 p2 f2 S2 d2 => k _ Δ2 _ H2 p2 (f.trans f2) S2 (.cons (d1.mono (S1.sub f2)) d2))
/-- f(e, .., k = v, ..) -/
theorem ee_callK {p pos : Pos} (F : FnK X.prog X.w X.K X.mg X.base x k n j ps ks (spF X.K B.T pre post)) (hr : Room k X.A) (hg : Gl X x)
    (h : EA X B M Δ (e :: es) fun ts Δ1 => EK X B M Δ1 kws fun us Δ2 => ts.length = n ∧ us.length = j ∧ pre (ts ++ us) ∧ ∀ t, post (ts ++ us) t → Φ t Δ2)
    (hall : (backToKw pos (keywordEach kws X.env)).all (·.1.isSome) = true := by rfl) (hks : (backToKw pos (keywordEach kws X.env)).filterMap (·.1) = ks := by rfl)
    (hdb : (x == ("__debug__" : Str)) = false := by decide) (he : starEach (e :: es) X.env = (false, eval e X.env) :: starEach es X.env := by rfl)
    (hpl : ((backTo pos (starEach (e :: es) X.env)).any (·.1) || (backToKw pos (keywordEach kws X.env)).any (·.1.isNone)) = false := by rfl) : EE X B M Δ (.Call (.Name x p) (e :: es) kws pos) Φ := fun σ H S Q kk => by
  obtain ⟨f, fd, ok, hm, hk, hb⟩ := F.ex
  refine PE.to (pe_callK ok hr hg hm hk hb pass0 pa_self pk_self hall hks hdb he hpl) (h σ H S _ fun ts Δ1 vs H1 q fe S1 d => q σ H1 S1 _ fun us Δ2 zs H2 q2 f2 S2 d2 => ?_)
  obtain ⟨l1, l2, q3, q4⟩ := q2
  have e : gK n j vs zs = vs ++ zs := if_pos ⟨by rw [d.length]; exact l1, by rw [d2.length]; exact l2⟩
  rw [e]
  exact ⟨M.m, ts ++ us, (d.mono (S1.sub f2)).append d2, q3, S2.al, S2.tb, fun v t H' hp f3 tb dd => kk t Δ2 v H' (q4 t hp) ((fe.trans f2).trans (f3.imp fun _ _ _ z => z.elim)) (S2.feGrow f3 tb) dd⟩
end
end Wf

set_option Elab.async false
set_option linter.all false
set_option maxRecDepth 100000
set_option maxHeartbeats 2000000
namespace Wf
open PySem PySem.Spec PyProof.Rows L2 LamX
/-! ### def f(*xs) -/
/-- what a call that has bound its one starred parameter goes on to do -/
def VRun (P : Program) (w : World) (K : PySem.W.Frag) (mg : Str → Option Value) (base : Heap) (k : Nat) (f : Addr) (fd : FuncData) (body : List Stmt) (y : Str) (sp : Sp) : Prop :=
  ∀ (A : Around) (outer : List Env) (s : Shared) (H : Hp) (u : Value) (v : V) (Q : VK), Room k A → Env0 P w K mg base A outer s H → RelV v u → sp [v] H Q E0 →
    wpAny (model P w) A.in1 (newFunctionEnv fd.scope fd.globals fd.closure [(y, u)] (fd.qualname ++ ".<locals>.") (some f) fd.code none fd.builtins)
      (fun env s₂ => s₂.heap.NoLimit ∧ codeAny (model P w) A (.func body env) (CR CX0 outer P w H s Q E0) s₂) (fun e s' => CR CX0 outer P w H s Q E0 (.error e) s') s
structure FnV (P : Program) (w : World) (K : PySem.W.Frag) (mg : Str → Option Value) (base : Heap) (x : Str) (k : Nat) (y : Str) (sp : Sp) : Prop where
  ex : ∃ (f : Addr) (fd : FuncData) (body : List Stmt) (o : Obj), K.lookup f = some o ∧ o.data = .func fd ∧ fd.scope.isCoroutine = false ∧ fd.scope.isGenerator = false ∧ fd.body = .stmts body ∧ PySem.W.codeIn K fd.code fd.qualname = true ∧
    (∀ us : List Value, bindArgs fd ⟨us, []⟩ = (newTuple us >>= fun t => pure [(y, t)])) ∧ VRun P w K mg base k f fd body y sp ∧ mg x = some (.ref f) ∧ PySem.W.keepIn K (.ref f) = true
section
variable {P : Program} {w : World} {K : PySem.W.Frag} {mg : Str → Option Value} {base : Heap} {x y : Str} {st : Stmt} {f : Addr} {fd : FuncData} {N : List Str} {k : Nat} {T : List (Addr × Str)} {pre : List Tr → Prop} {post : List Tr → Tr → Prop}
/-- such a def by its body: its parameter is the tuple -/
theorem ok_V (F : Fun K x x st f fd) (S : FnScope N [y] (defScope st)) (hm : mg x = some (.ref f)) (hpre : ∀ ts, pre ts → ts.length = 1) (hbind : ∀ us : List Value, bindArgs fd ⟨us, []⟩ = (newTuple us >>= fun t => pure [(y, t)]))
    (hb : ∀ (cdv : Value) (A : Around) (outer : List Env) (s : Shared) (H : Hp) (E : XK) (m : Addr → Prop) (ts : List Tr), Room k (A.deeper (envOfC x (defScope st) s.heap.objs.size f cdv)) → pre ts →
      SS (cxOf CX0 P w K mg base N x (defScope st) f cdv A outer s H E).nox (bF T H m) ⟨m, fun _ => False⟩ (slots N (ts.map En.dat)) (defBody st) ⟨fun _ _ => post ts .non, fun t _ => post ts t, fun _ _ => False, fun _ _ => False⟩) :
    FnV P w K mg base x (k + 1) y (spF K T pre post) := by
  have hps : 1 ≤ N.length := by
    have := congrArg List.length S.pre
    rw [List.length_take] at this
    simp at this
    omega
  obtain ⟨oc, od, kV, doc, pm, an, cdv, ct, osl, rfl, lk, hcd⟩ := F.ex
  refine ⟨f, _, defBody st, _, lk, rfl, S.co, S.gen, rfl, hcd, hbind, fun A outer s H u v Q hr e0 r h => ?_, hm, F.kp⟩
  obtain ⟨m, ts, d, hp, al, tb, q⟩ := h
  have hlen := hpre ts hp
  have lim : s.heap.NoLimit := e0.mod.nolimit.keeps fun b o e => (e0.bs b o e).1
  have hkind : ∀ z ∈ [y].zip [u], (defScope st).names.lookup z.1 = some .local ∨ ((defScope st).names.lookup z.1 = some .cell ∧ ((cellsFrom (s.heap.objs.size + 1) (defScope st).names []).lookup z.1).isSome = true) := fun z hz => by
    rcases S.par z.1 (List.of_mem_zip hz).1 with q | q
    · exact .inl q
    · exact .inr ⟨q, PySem.W.cellsFrom_some _ _ _ (.inl q)⟩
  refine wpAny_newFunctionEnv_cells (binds := [y].zip [u]) S.kind hkind fun env he s1 x1 => ?_
  subst he
  refine ⟨lim.keeps x1.toInCall.keep, codeAny_func ?_⟩
  have Sk0 : Sk K (bF T H m) ⟨m, fun _ => False⟩ H (L2.start N [v]) (slots N (ts.map En.dat)) := by
    refine sk_start (by simp; omega) (by simp [hlen]) rfl (fun _ => Iff.rfl) (fun _ => Iff.rfl) (fun _ z => z.elim) al tb (fun i j e f l he _ el _ => ?_) fun i v e hv he => ?_
    · rw [List.getElem?_map] at he
      cases h : ts[i]? with
      | none => rw [h] at he; cases he
      | some t => rw [h] at he; cases he; cases el
    · rw [List.getElem?_map] at he
      cases h : ts[i]? with
      | none => rw [h] at he; cases he
      | some t =>
        rw [h] at he; cases he
        obtain ⟨v', h1, h2⟩ := d.get h
        rw [hv] at h1; cases h1
        exact h2
  have J := hb cdv A outer s H E0 m ts (hr.deeper _) hp _ H Sk0 { nx := fun _ H' => Q .non H', rt := Q, bk := fun _ _ => False, ct := fun _ _ => False } ⟨fun M' Δ' σ' H' a b c => q .non .non H' a c.fr c.tb .non, fun t M' Δ' v σ' H' a b c dd => q v t H' a c.fr c.tb (dd.mono (mi_le c.m0)), fun _ _ _ _ z => z.elim, fun _ _ _ _ z => z.elim⟩
  have hS := (PSs.nox (pss_self (X := (cxOf CX0 P w K mg base N x (defScope st) f cdv A outer s H E0).nox) (ss := defBody st)))
  have I : Inv (cxOf CX0 P w K mg base N x (defScope st) f cdv A outer s H E0) [] (L2.start N [v]) H s1 := inv_start S hr.hd e0 rfl (.cons r .nil) x1
  refine wpAny_mono (hS.run [] s1 (L2.start N [v]) H _ I J) (fun fl s' hs => ?_) fun e s' hs => hs
  cases fl with
  | ret u' =>
    obtain ⟨v', σ', H', J', rv, q'⟩ := hs
    exact ⟨v', H', J'.os, J'.bare, J'.base, J'.hok, rv, q'⟩
  | next =>
    obtain ⟨σ', H', J', q'⟩ := hs
    exact ⟨.non, H', J'.os, J'.bare, J'.base, J'.hok, rfl, q'⟩
  | brk =>
    obtain ⟨_, _, _, z⟩ := hs
    exact z.elim
  | cont =>
    obtain ⟨_, _, _, z⟩ := hs
    exact z.elim
end
section
variable {X : Cx} {B : Bs} {M : Pl} {Δ : List En} {e : Expr} {es : List Expr} {Φ : Tr → List En → Prop} {x y : Str} {k : Nat} {pre : List Tr → Prop} {post : List Tr → Tr → Prop}
/-- f(e, ..), f's parameter starred -/
theorem ee_callV {p pos : Pos} (F : FnV X.prog X.w X.K X.mg X.base x k y (spF X.K B.T pre post)) (hr : Room k X.A) (hg : Gl X x) (h : EA X B M Δ (e :: es) fun ts Δ1 => ts.length ≤ sizeLine ∧ pre [.tup ts] ∧ ∀ t, post [.tup ts] t → Φ t Δ1)
    (hdb : (x == ("__debug__" : Str)) = false := by decide) (he : starEach (e :: es) X.env = (false, eval e X.env) :: starEach es X.env := by rfl) (hpl : (backTo pos (starEach es X.env)).any (·.1) = false := by rfl) : EE X B M Δ (.Call (.Name x p) (e :: es) [] pos) Φ := fun σ H S Q kk pins s I => by
  obtain ⟨f, fd, body, o, lk, ho, h1, h2, h3, hcd, hbind, run, hm, hk⟩ := F.ex
  refine wpAny_Call_Name_kw (ld_glob I hg hm ?_ hdb)
  refine PySem.W.callWith_K (h₀ := X.base) I.ok.mod.kin hk (thn (h σ H S (fun vs H1 => ∃ ts Δ1, ts.length ≤ sizeLine ∧ pre [.tup ts] ∧ (∀ t, post [.tup ts] t → Φ t Δ1) ∧ Fe M.w H H1 ∧ Sk X.K B M H1 σ Δ1 ∧ Dts X.K (mi M.m H1) vs ts) (fun ts Δ1 vs H1 q f S1 d => ⟨ts, Δ1, q.1, q.2.1, q.2.2, f, S1, d⟩) pos pins s I) fun us s1 ⟨vs, H1, I1, r, ts, Δ1, q0, q1, q2, f1, S1, d⟩ => ⟨I1.kIn, ?_⟩) he hpl
  have hz : us.length ≤ sizeLine := by rw [← r.length, d.length]; exact q0
  have nq : H1 s1.heap.objs.size = none := I1.hok.fresh (Nat.le_refl _)
  have I2 : Inv X pins σ (upd H1 s1.heap.objs.size (.tup vs)) { s1 with heap := s1.heap.push { cls := .type "tuple", data := .seq us.toArray }, toks := s1.toks } := I1.laid (t' := s1.toks) (fun b u e => Heap.get?_push_of_some _ e) (Nat.le_refl _) ⟨by rw [r.length]; exact hz, us, r, ⟨_, Heap.get?_push_size _ rfl, rfl, _, rfl⟩⟩
  have sm := same_new (o := .tup vs) nq
  have S2 := S1.same sm
  have dt : Dt X.K (mi M.m (upd H1 s1.heap.objs.size (.tup vs))) (.ref s1.heap.objs.size) (.tup ts) := .tup (SqT.of (mi_of (S1.notM nq) upd_same)) (d.mono (Sub.of sm).mi)
  have fin := run X.A X.stack { s1 with heap := s1.heap.push { cls := .type "tuple", data := .seq us.toArray }, toks := s1.toks } (upd H1 s1.heap.objs.size (.tup vs)) (.ref s1.heap.objs.size) (.ref s1.heap.objs.size) Q hr I2.env0 rfl
    ⟨M.m, [.tup ts], .cons dt .nil, q1, S2.al, S2.tb, fun v t H' hp f2 tb dd => kk t Δ1 v H' (q2 t hp) ((f1.trans (Fe.same sm)).trans (f2.imp fun _ _ _ z => z.elim)) (S2.feGrow f2 tb) dd⟩
  refine wpAny_call (codeAny_mono (R := CR CX0 X.stack X.prog X.w (upd H1 s1.heap.objs.size (.tup vs)) { s1 with heap := s1.heap.push { cls := .type "tuple", data := .seq us.toArray }, toks := s1.toks } Q E0) ?_ fun rr s' hq => ?_)
  · refine codeAny_call_function hr.depth (I1.kIn _ _ lk) ho h1 h2 h3 (PySem.W.codeRec_of I1.kIn hcd) ?_
    rw [List.nil_append, hbind us]
    refine wpAny_bind (wpAny_newObj_type (wpAny_pure fin) ?_)
    show us.toArray.size ≤ sizeLine
    rw [List.size_toArray]
    exact hz
  · cases rr with
    | error e => exact (show False from hq).elim
    | ok fl =>
      cases fl with
      | ret u => exact I2.after hq
      | next => exact False.elim hq
      | brk => exact False.elim hq
      | cont => exact False.elim hq
theorem cl_any (hc : X.calm = true) : CalD X (.builtin "any") B M Φ fun ts Δ2 => ∃ bs : List Bool, ts = [.lst (bs.map Tr.bl)] ∧ Φ (.bl (bs.any id)) Δ2 := ⟨_, (cr_any hc), fun ts Δ2 p σ H vs Q S d k => by
  obtain ⟨us, rfl, q⟩ := p
  cases d with
  | cons d1 d2 =>
    cases d2
    cases d1 with
    | lst h1 h2 =>
      have e := of_bls us h2
      subst e
      exact ⟨_, us, rfl, sub_seqL mi_sub h1, k _ _ _ H q (Fe.refl _ _) S (.bl _)⟩⟩
end
end Wf

set_option Elab.async false
set_option linter.all false
set_option maxRecDepth 100000
set_option maxHeartbeats 2000000
namespace Wf
open PySem PySem.Spec PyProof.Rows L2 LamX
section
variable {X : Cx} {B : Bs} {M : Pl} {Δ : List En} {e : Expr} {pos : Pos} {Ψ : Eo}
/-- x op= e, ints -/
theorem s_augI (i : Nat) {x : Str} {p' : Pos} {op : Operator} {C : Int → Int → Prop} {g : Int → Int → Int} {a : Int} (ho : OpR X (inplaceOp op) (rI C fun i j => .int (g i j))) (hN : X.N.Nodup) (hi : X.N[i]? = some x) (hd : Δ[i]? = some (.dat (.int a)))
    (h : EE X B M Δ e fun t Δ1 => ∃ j, t = .int j ∧ C a j ∧ Ψ.nx M (Δ1.set i (.dat (.int (g a j)))))
    (hf : X.fn x = true ∨ X.env.scope.names.lookup x = some .local := by first | exact .inl rfl | exact .inr rfl) (hx : Loc X.env.scope x := by first | exact Or.inl rfl | exact Or.inr rfl) : S1 X B M Δ (.AugAssign (.Name x p') op e pos) Ψ := fun σ H S D p => by
  obtain ⟨v, h1, h2⟩ := S.dat hd
  cases h2
  refine PS.to (ps_aug (i := i) hN hi hx pe_self ho hf) ⟨_, h1, h σ H S _ fun t Δ1 v H1 q f S1 d => ?_⟩
  obtain ⟨j, rfl, c, q⟩ := q
  cases d
  exact ⟨_, _, rfl, rfl, c, p.nx M _ _ H1 q (S.sub f) (S1.set i (.int _))⟩
theorem s_fdiv (i : Nat) {x : Str} {p' : Pos} {a : Int} (hN : X.N.Nodup) (hi : X.N[i]? = some x) (hd : Δ[i]? = some (.dat (.int a)))
    (h : EE X B M Δ e fun t Δ1 => ∃ j, t = .int j ∧ CDiv a j ∧ Ψ.nx M (Δ1.set i (.dat (.int (a / j)))))
    (hf : X.fn x = true ∨ X.env.scope.names.lookup x = some .local := by first | exact .inl rfl | exact .inr rfl) (hx : Loc X.env.scope x := by first | exact Or.inl rfl | exact Or.inr rfl) : S1 X B M Δ (.AugAssign (.Name x p') .FloorDiv e pos) Ψ :=
  s_augI i (g := fun i j => i / j) iop_fdiv hN hi hd h hf hx
end
end Wf

set_option Elab.async false
set_option linter.all false
set_option maxRecDepth 100000
set_option maxHeartbeats 2000000
namespace Wf
open PySem PySem.Spec PyProof.Rows L2 LamX
section
variable {X : Cx} {B : Bs} {M : Pl} {Δ : List En} {e : Expr} {pos : Pos} {Ψ : Eo}
/-- a, b = e -/
theorem s_unp2 (i j : Nat) {x y : Str} {px py pt : Pos} {kt : Nat} (hc : X.calm = true) (hN : X.N.Nodup) (hi : X.N[i]? = some x) (hj : X.N[j]? = some y)
    (h : EE X B M Δ e fun t Δ1 => ∃ a b, t = .tup [a, b] ∧ Ψ.nx M ((Δ1.set i (.dat a)).set j (.dat b)))
    (hf : X.fn x = true ∨ X.env.scope.names.lookup x = some .local := by first | exact .inl rfl | exact .inr rfl) (hx : Loc X.env.scope x := by first | exact Or.inl rfl | exact Or.inr rfl)
    (hf2 : X.fn y = true ∨ X.env.scope.names.lookup y = some .local := by first | exact .inl rfl | exact .inr rfl) (hx2 : Loc X.env.scope y := by first | exact Or.inl rfl | exact Or.inr rfl)
    (hs : swapsWithSole [.Tuple [.Name x px, .Name y py] kt pt] e pos.line X.env = pure false := by rfl) (hw : swappedStores [.Tuple [.Name x px, .Name y py] kt pt] e X.env = pure none := by rfl)
    (h1 : (assignEach [.Tuple [.Name x px, .Name y py] kt pt] X.env).map (·.2) = [assign (.Tuple [.Name x px, .Name y py] kt pt) X.env] := by rfl)
    (ha : (assignEach [.Name x px, .Name y py] X.env).map (·.2) = assign (.Name x px) X.env :: (assignEach [.Name y py] X.env).map (·.2) := by rfl)
    (hb : (assignEach [.Name y py] X.env).map (·.2) = assign (.Name y py) X.env :: (assignEach [] X.env).map (·.2) := by rfl)
    (hn : (assignEach [.Name x px, .Name y py] X.env).length = 2 := by rfl) (hst : (assignEach [.Name x px, .Name y py] X.env).findIdx? (·.1) = none := by rfl) :
    S1 X B M Δ (.Assign [.Tuple [.Name x px, .Name y py] kt pt] e pos) Ψ := fun σ H S D p =>
  PS.to (ps_asg pe_self (pg_tup hc (pgs_cons (pg_name (i := i) hN hi hx hf) (pgs_cons (pg_name (i := j) hN hj hx2 hf2) pgs_nil hb) ha) hn hst) hs hw h1) (h σ H S _ fun t Δ1 v H1 q f S1 d => by
    obtain ⟨a, b, rfl, q⟩ := q
    cases d with
    | tup g1 g2 =>
      cases g2 with
      | cons d1 g3 =>
        cases g3 with
        | cons d2 g4 =>
          cases g4
          exact ⟨_, _, rfl, sub_seqT mi_sub g1, rfl, _, _, rfl, _, _, rfl, rfl, p.nx M _ _ H1 q (S.sub f) ((S1.set i d1).set j d2)⟩)
/-- a, b, c = e -/
theorem s_unp3 (i j k : Nat) {x y z : Str} {px py pz pt : Pos} {kt : Nat} (hc : X.calm = true) (hN : X.N.Nodup) (hi : X.N[i]? = some x) (hj : X.N[j]? = some y) (hk : X.N[k]? = some z)
    (h : EE X B M Δ e fun t Δ1 => ∃ a b c, t = .tup [a, b, c] ∧ Ψ.nx M (((Δ1.set i (.dat a)).set j (.dat b)).set k (.dat c)))
    (hf : X.fn x = true ∨ X.env.scope.names.lookup x = some .local := by first | exact .inl rfl | exact .inr rfl) (hx : Loc X.env.scope x := by first | exact Or.inl rfl | exact Or.inr rfl)
    (hf2 : X.fn y = true ∨ X.env.scope.names.lookup y = some .local := by first | exact .inl rfl | exact .inr rfl) (hx2 : Loc X.env.scope y := by first | exact Or.inl rfl | exact Or.inr rfl)
    (hf3 : X.fn z = true ∨ X.env.scope.names.lookup z = some .local := by first | exact .inl rfl | exact .inr rfl) (hx3 : Loc X.env.scope z := by first | exact Or.inl rfl | exact Or.inr rfl)
    (hs : swapsWithSole [.Tuple [.Name x px, .Name y py, .Name z pz] kt pt] e pos.line X.env = pure false := by rfl) (hw : swappedStores [.Tuple [.Name x px, .Name y py, .Name z pz] kt pt] e X.env = pure none := by rfl)
    (h1 : (assignEach [.Tuple [.Name x px, .Name y py, .Name z pz] kt pt] X.env).map (·.2) = [assign (.Tuple [.Name x px, .Name y py, .Name z pz] kt pt) X.env] := by rfl)
    (ha : (assignEach [.Name x px, .Name y py, .Name z pz] X.env).map (·.2) = assign (.Name x px) X.env :: (assignEach [.Name y py, .Name z pz] X.env).map (·.2) := by rfl)
    (hb : (assignEach [.Name y py, .Name z pz] X.env).map (·.2) = assign (.Name y py) X.env :: (assignEach [.Name z pz] X.env).map (·.2) := by rfl)
    (hb2 : (assignEach [.Name z pz] X.env).map (·.2) = assign (.Name z pz) X.env :: (assignEach [] X.env).map (·.2) := by rfl)
    (hn : (assignEach [.Name x px, .Name y py, .Name z pz] X.env).length = 3 := by rfl) (hst : (assignEach [.Name x px, .Name y py, .Name z pz] X.env).findIdx? (·.1) = none := by rfl) :
    S1 X B M Δ (.Assign [.Tuple [.Name x px, .Name y py, .Name z pz] kt pt] e pos) Ψ := fun σ H S D p =>
  PS.to (ps_asg pe_self (pg_tup hc (pgs_cons (pg_name (i := i) hN hi hx hf) (pgs_cons (pg_name (i := j) hN hj hx2 hf2) (pgs_cons (pg_name (i := k) hN hk hx3 hf3) pgs_nil hb2) hb) ha) hn hst) hs hw h1) (h σ H S _ fun t Δ1 v H1 q f S1 d => by
    obtain ⟨a, b, c, rfl, q⟩ := q
    cases d with
    | tup g1 g2 =>
      cases g2 with
      | cons d1 g3 =>
        cases g3 with
        | cons d2 g4 =>
          cases g4 with
          | cons d3 g5 =>
            cases g5
            exact ⟨_, _, rfl, sub_seqT mi_sub g1, rfl, _, _, rfl, _, _, rfl, _, _, rfl, rfl, p.nx M _ _ H1 q (S.sub f) (((S1.set i d1).set j d2).set k d3)⟩)
end
end Wf

set_option Elab.async false
set_option linter.all false
set_option maxRecDepth 100000
set_option maxHeartbeats 2000000
namespace Wf
open PySem PySem.Spec PyProof.Rows L2 LamX
theorem foldl_arr (z : List Nat) : ∀ (n : Nat) (a : Array Nat), (List.replicate n z.toArray).foldl (· ++ ·) a = a ++ (List.replicate n z).flatten.toArray
  | 0, a => by simp
  | n + 1, a => by
    rw [List.replicate_succ, List.foldl_cons, foldl_arr z n, List.replicate_succ, List.flatten_cons]
    simp [Array.append_assoc]
section
variable {X : Cx} {B : Bs} {M : Pl} {Δ : List En} {a b : Expr} {Φ : Tr → List En → Prop}
/-- a str, several times -/
theorem op_mulS : OpR X (binaryOp .Mult) (fun x y H Q => ∃ (z : List Nat) (n : Nat), x = .str (txt z) ∧ y = .int n ∧ n ≤ sizeLine ∧ z.length * n ≤ sizeLine ∧ Q (.str (txt (List.replicate n z).flatten)) H) := by
  intro pins s σ H x y v u Q I rx ry h
  obtain ⟨z, n, rfl, rfl, hn, hz, q⟩ := h
  obtain ⟨t, rfl⟩ := rx
  obtain ⟨t', rfl⟩ := ry
  have hsl : sizeLine = 16777216 := sizeLine_eq
  have hlen : (txt z).length = z.length := txt_len z
  refine PySem.P.mul_str ?_ ?_ ?_ ?_
  · rw [decide_eq_false (by omega), decide_eq_false (by omega)]
    rfl
  · intro h1 h2
    have hn1 : 0 < (n : Int) := by omega
    rw [hlen]
    intro h3
    have h4 : (2 ^ 63 - 1) / (n : Int) < (z.length : Int) := h3
    have h5 : (2 ^ 63 - 1 : Int) < (z.length : Int) * n := (Int.ediv_lt_iff_lt_mul hn1).mp h4
    have h6 : ((z.length * n : Nat) : Int) = (z.length : Int) * n := Int.natCast_mul _ _
    omega
  · intro h1 h2
    rw [hlen]
    show decide (_ > sizeLine) = false
    exact decide_eq_false (by rw [Int.toNat_natCast]; omega)
  by_cases c : (n : Int) < 1
  · rw [if_pos c]
    have e : n = 0 := by omega
    subst e
    exact ⟨by decide, .str _, H, I.tok _, ⟨_, rfl⟩, q⟩
  · rw [if_neg c]
    by_cases c2 : ((n : Int) == 1 || (txt z).length == 0) = true
    · rw [if_pos c2]
      refine ⟨.str _, H, I, ⟨t, rfl⟩, ?_⟩
      rw [Bool.or_eq_true, beq_iff_eq, beq_iff_eq, hlen] at c2
      have : (List.replicate n z).flatten = z := by
        rcases c2 with c2 | c2
        · have e : n = 1 := by omega
          subst e
          simp
        · have e : z = [] := List.length_eq_zero_iff.mp c2
          subst e
          simp
      rw [this] at q
      exact q
    · rw [if_neg c2]
      have e : (⟨(List.replicate ((n : Int)).toNat (txt z).cps).foldl (· ++ ·) #[]⟩ : Str) = txt (List.replicate n z).flatten := by
        rw [Int.toNat_natCast]
        show Str.mk ((List.replicate n z.toArray).foldl (· ++ ·) #[]) = _
        rw [foldl_arr]
        unfold txt
        simp
      rw [e]
      refine ⟨?_, .str _, H, I.tok _, ⟨_, rfl⟩, q⟩
      rw [txt_len]
      simp only [List.length_flatten, List.map_replicate, List.sum_replicate_nat]
      rw [Nat.mul_comm]
      omega
theorem ee_mulS {pos : Pos} (h : EE X B M Δ a fun x Δ1 => EE X B M Δ1 b fun y Δ2 => ∃ (z : List Nat) (n : Nat), x = .str (txt z) ∧ y = .int n ∧ n ≤ sizeLine ∧ z.length * n ≤ sizeLine ∧ Φ (.str (txt (List.replicate n z).flatten)) Δ2) : EE X B M Δ (.BinOp a .Mult b pos) Φ :=
  ee_two (pe_op op_mulS pe_self pe_self) h fun x Δ1 y Δ2 p σ H v w Q S d1 d2 k => by
    obtain ⟨z, n, rfl, rfl, c1, c2, q⟩ := p
    cases d1; cases d2
    exact ⟨z, n, rfl, rfl, c1, c2, k _ _ _ H q (Fe.refl _ _) S (.str _)⟩
end
end Wf

set_option Elab.async false
set_option linter.all false
set_option maxRecDepth 100000
set_option maxHeartbeats 2000000
namespace Wf
open PySem PySem.Spec PyProof.Rows L2 LamX
theorem Dts.rep {K : PySem.W.Frag} {I : Hp} {xs : List V} {ts : List Tr} (h : Dts K I xs ts) : ∀ n : Nat, Dts K I (List.replicate n xs).flatten (List.replicate n ts).flatten
  | 0 => .nil
  | n + 1 => by
    rw [List.replicate_succ, List.replicate_succ, List.flatten_cons, List.flatten_cons]
    exact h.append (Dts.rep h n)
section
variable {X : Cx} {B : Bs} {M : Pl} {Δ : List En} {a b : Expr} {Φ : Tr → List En → Prop}
/-- a new list, several times -/
theorem eo_rep {pos : Pos} (h : EO X B M Δ a fun x Δ1 => EE X B M Δ1 b fun y Δ2 => ∃ ts k, x = .lst ts ∧ y = .int k ∧ -(2 ^ 63) ≤ k ∧ k < 2 ^ 63 ∧ ts.length * k.toNat ≤ sizeLine ∧ Φ (.lst (List.replicate k.toNat ts).flatten) Δ2) : EO X B M Δ (.BinOp a .Mult b pos) Φ := fun σ H S Q k =>
  PE.to (pe_op op_rep pe_self pe_self) (h σ H S _ fun x Δ1 l H1 p1 f1 hl S1 hn ow => by
    have nM := S.notM hl
    have nM0 : ¬ B.M0 l := fun z => nM (S.m0 l z)
    have nw : ¬ M.w l := fun z => nM (S.wm l z)
    have s2 : Sub (mi (ins M l).m H1) (mi M.m H1) := mi_le fun b z => .inl z
    have S1f := S1.freeze nM S.wm nM0 hn
    have ow' := ow.mono s2 fun _ _ z => z
    exact p1 σ H1 S1f _ fun y Δ2 w H2 p2 f2 S2 d2 => by
      obtain ⟨ts, n, rfl, rfl, b1, b2, b3, q⟩ := p2
      cases d2
      have ow2 := ow'.mono (S1f.sub f2) fun o nt z => f2.k _ o nw nt z
      obtain ⟨xs, e1, e2⟩ := ow2
      refine ⟨l, n, xs, rfl, rfl, e1, b1, b2, by rw [e2.length]; exact b3, fun p hp => ?_⟩
      have s := same_new (o := .lst (List.replicate n.toNat xs).flatten) hp
      obtain ⟨a1, a2, a3⟩ := S2.newOwn (t := .lst (List.replicate n.toNat ts).flatten) hp s ⟨_, upd_same, e2.rep n.toNat⟩
      exact k _ Δ2 p _ q ((f1.trans f2).trans (Fe.same s)) ((f1.trans f2).free (fun b z => S2.al b (S2.wm b z)) hp) a1 a2 a3)
end
end Wf

set_option Elab.async false
set_option linter.all false
set_option maxRecDepth 100000
set_option maxHeartbeats 2000000
namespace Wf
open PySem PySem.Spec PyProof.Rows L2 LamX
theorem dts_nats {K : PySem.W.Frag} {I : Hp} : ∀ {ks : List Nat} {xs : List V}, Dts K I xs (ks.map fun k : Nat => Tr.int k) → xs = ks.map fun k : Nat => V.int k
  | [], xs, h => by cases h; rfl
  | k :: ks, xs, h => by
    cases h with
    | cons a b =>
      cases a
      rw [dts_nats b]
      rfl
section
variable {X : Cx} {B : Bs} {M : Pl} {Δ : List En} {o e : Expr} {Φ : Tr → List En → Prop}
/-- xs.index(k), ints -/
theorem ee_lindex {apos pos : Pos} (h : EE X B M Δ o fun x Δ1 => ∃ ks : List Nat, x = .lst (ks.map fun k : Nat => Tr.int k) ∧ EA X B M Δ1 [e] fun ts Δ2 => ∃ k : Nat, ts = [.int k] ∧ k ∈ ks ∧ Φ (.int (ks.idxOf k : Nat)) Δ2)
    (hE : PE X (.Call (.Attribute o "index" apos) [e] [] pos) (tBM X.K "list" (rIndex X.K) (WE X o) (WA X [e])) := by
      exact pe_bm PySem.F.plainAttrs_list PySem.F.slot_list_index PySem.F.type_list_index mt_index pe_self pa_self) : EE X B M Δ (.Call (.Attribute o "index" apos) [e] [] pos) Φ := fun σ H S Q k =>
  PE.to hE (h σ H S _ fun x Δ1 v H1 p f S1 d => by
    obtain ⟨ks, rfl, p⟩ := p
    have d0 := d
    cases d with
    | lst g1 g2 =>
      refine ⟨.inl ⟨rfl, _, sub_seqL mi_sub g1⟩, p σ H1 S1 _ fun ts Δ2 vs H2 p2 f2 S2 d2 => ?_⟩
      obtain ⟨n, rfl, hn, q⟩ := p2
      cases d2 with
      | cons a b =>
        cases b; cases a
        have d3 := d0.mono (S1.sub f2)
        cases d3 with
        | lst g3 g4 =>
          have e1 := dts_nats g4
          have hlt := List.idxOf_lt_length_of_mem hn
          refine ⟨_, _, _, ks.idxOf n, .int (ks[ks.idxOf n] : Nat), rfl, rfl, sub_seqL mi_sub g3, rfl, ?_, ?_, ?_, fun m z' hm hz => ?_, k _ Δ2 _ H2 q (f.trans f2) S2 (.int _)⟩
          · rw [e1, List.all_eq_true]
            intro y hy
            obtain ⟨j, _, rfl⟩ := List.mem_map.mp hy
            rfl
          · rw [e1, List.getElem?_map, List.getElem?_eq_getElem hlt]
            rfl
          · rw [List.getElem_idxOf hlt]
            show decide _ = true
            simp
          · rw [e1, List.getElem?_map] at hz
            have hm2 : m < ks.length := by omega
            rw [List.getElem?_eq_getElem hm2] at hz
            injection hz with hz
            subst hz
            show decide _ = false
            refine decide_eq_false fun h => ?_
            have h' : ks[m] = n := by omega
            exact absurd (List.not_of_lt_findIdx (p := (· == n)) (by unfold List.idxOf at hm; exact hm)) (by simp [h']))
end
end Wf

set_option Elab.async false
set_option linter.all false
set_option maxRecDepth 100000
set_option maxHeartbeats 2000000
namespace Wf
open PySem PySem.Spec PyProof.Rows L2 LamX
theorem Dts.setAt {K : PySem.W.Frag} {I : Hp} {v : V} {t : Tr} (d : Dt K I v t) : ∀ {xs : List V} {ts : List Tr}, Dts K I xs ts → ∀ j, Dts K I (xs.set j v) (ts.set j t)
  | _, _, .nil, _ => .nil
  | _, _, .cons a b, 0 => .cons d b
  | _, _, .cons a b, j + 1 => .cons a (Dts.setAt d b j)
section
variable {X : Cx} {B : Bs} {M : Pl} {Δ : List En} {e1 e2 rhs : Expr} {Ψ : Eo}
/-- xs[i], xs[j] = a, b on an owned list -/
theorem s_set2 (i : Nat) {x : Str} {px py p1 p2 pt pos : Pos} {kt : Nat} {l : Addr} (hc : X.calm = true) (hN : X.N[i]? = some x)
    (h : EE X B M Δ rhs fun t Δ1 => ∃ u w ts0, t = .tup [u, w] ∧ Δ1[i]? = some (.own l (.lst ts0)) ∧ EE X B M Δ1 e1 fun k1 Δ2 => ∃ ts j1 z1, Δ2[i]? = some (.own l (.lst ts)) ∧ k1 = .int z1 ∧ ixN ts.length z1 = some j1 ∧
      EE X B M (Δ2.set i (.own l (.lst (ts.set j1 u)))) e2 fun k2 Δ3 => ∃ ts' j2 z2, Δ3[i]? = some (.own l (.lst ts')) ∧ k2 = .int z2 ∧ ixN ts'.length z2 = some j2 ∧ Ψ.nx M (Δ3.set i (.own l (.lst (ts'.set j2 w)))))
    (hE : PS X (.Assign [.Tuple [.Subscript (.Name x px) e1 p1, .Subscript (.Name x py) e2 p2] kt pt] rhs pos) (tAsg (WE X rhs) (gTup X.K 2 (gCons (gSub (tVar i) (WE X e1) rSetL) (gCons (gSub (tVar i) (WE X e2) rSetL) gNil))))) :
    S1 X B M Δ (.Assign [.Tuple [.Subscript (.Name x px) e1 p1, .Subscript (.Name x py) e2 p2] kt pt] rhs pos) Ψ := fun σ H S D p =>
  PS.to hE (h σ H S _ fun t Δ1 v H1 q f S1 d => by
    obtain ⟨u, w, ts0, rfl, g0, q⟩ := q
    cases d with
    | tup g1 g2 =>
      cases g2 with
      | cons d1 g3 =>
        cases g3 with
        | cons d2 g4 =>
          cases g4
          obtain ⟨a1, _⟩ := S1.ownAt g0
          refine ⟨_, _, rfl, sub_seqT mi_sub g1, rfl, _, _, rfl, ⟨_, a1, q σ H1 S1 _ fun k1 Δ2 v1 H2 q2 f2 S2 dk => ?_⟩⟩
          obtain ⟨ts, j1, z1, b1, rfl, b2, q3⟩ := q2
          cases dk
          obtain ⟨c1, _, _, _, xs, c2, c3⟩ := S2.ownAt b1
          have dd1 := d1.mono (S1.sub f2)
          have dd2 := d2.mono (S1.sub f2)
          have ea := a1.symm.trans c1
          injection ea with ea
          injection ea with ea
          refine ⟨l, xs, z1, j1, ea, rfl, c2, by rw [c3.length]; exact b2, ?_⟩
          obtain ⟨S3, s3⟩ := S2.write (o := .lst (xs.set j1 _)) (t' := .lst (ts.set j1 u)) b1 ⟨_, upd_same, Dts.setAt dd1 c3 j1⟩
          have hi2 : i < Δ2.length := (List.getElem?_eq_some_iff.mp b1).1
          obtain ⟨a4, _⟩ := S3.ownAt (i := i) (by rw [List.getElem?_set_self hi2])
          refine ⟨_, _, rfl, ⟨_, a4, q3 σ _ S3 _ fun k2 Δ3 v2 H4 q4 f4 S4 dk2 => ?_⟩⟩
          obtain ⟨ts', j2, z2, b3, rfl, b4, q5⟩ := q4
          cases dk2
          obtain ⟨c4, _, _, _, xs', c5, c6⟩ := S4.ownAt b3
          refine ⟨l, xs', z2, j2, rfl, rfl, c5, by rw [c6.length]; exact b4, rfl, ?_⟩
          obtain ⟨S5, s5⟩ := S4.write (o := .lst (xs'.set j2 _)) (t' := .lst (ts'.set j2 w)) b3 ⟨_, upd_same, Dts.setAt ((dd2.mono s3).mono (S3.sub f4)) c6 j2⟩
          exact p.nx M _ σ _ q5 ((((S.sub f).trans (S1.sub f2)).trans s3).trans ((S3.sub f4).trans s5)) S5)
end
end Wf

set_option Elab.async false
set_option linter.all false
set_option maxRecDepth 100000
set_option maxHeartbeats 2000000
namespace Wf
open PySem PySem.Spec PyProof.Rows L2 LamX
section
variable {X : Cx} {B : Bs} {M : Pl} {Δ : List En} {e1 rhs : Expr} {Ψ : Eo} {Φ : Tr → List En → Prop}
/-- xs[i] = a on an owned list -/
theorem s_set1 (i : Nat) {x : Str} {px p1 pos : Pos} {l : Addr} (hN : X.N[i]? = some x)
    (h : EE X B M Δ rhs fun t Δ1 => ∃ ts0, Δ1[i]? = some (.own l (.lst ts0)) ∧ EE X B M Δ1 e1 fun k1 Δ2 => ∃ ts j1 z1, Δ2[i]? = some (.own l (.lst ts)) ∧ k1 = .int z1 ∧ ixN ts.length z1 = some j1 ∧ Ψ.nx M (Δ2.set i (.own l (.lst (ts.set j1 t)))))
    (hE : PS X (.Assign [.Subscript (.Name x px) e1 p1] rhs pos) (tAsg (WE X rhs) (gSub (tVar i) (WE X e1) rSetL))) :
    S1 X B M Δ (.Assign [.Subscript (.Name x px) e1 p1] rhs pos) Ψ := fun σ H S D p =>
  PS.to hE (h σ H S _ fun t Δ1 v H1 q f S1 d => by
    obtain ⟨ts0, g0, q⟩ := q
    obtain ⟨a1, _⟩ := S1.ownAt g0
    refine ⟨_, a1, q σ H1 S1 _ fun k1 Δ2 v1 H2 q2 f2 S2 dk => ?_⟩
    obtain ⟨ts, j1, z1, b1, rfl, b2, q3⟩ := q2
    cases dk
    obtain ⟨c1, _, _, _, xs, c2, c3⟩ := S2.ownAt b1
    have ea := a1.symm.trans c1
    injection ea with ea
    injection ea with ea
    refine ⟨l, xs, z1, j1, ea, rfl, c2, by rw [c3.length]; exact b2, ?_⟩
    obtain ⟨S3, s3⟩ := S2.write (o := .lst (xs.set j1 v)) (t' := .lst (ts.set j1 t)) b1 ⟨_, upd_same, Dts.setAt (d.mono (S1.sub f2)) c3 j1⟩
    exact p.nx M _ σ _ q3 (((S.sub f).trans (S1.sub f2)).trans s3) S3)
/-! repr of None, True, False -/
def markS : Option Bool → Str
  | none => "None"
  | some b => if b then "True" else "False"
def markT : Option Bool → Tr
  | none => .non
  | some b => .bl b
def markV : Option Bool → V
  | none => .non
  | some b => .bl b
theorem call_reprM : CallR X (.builtin "repr") (fun xs H Q => ∃ o, xs = [markV o] ∧ Q (.str (markS o)) H) := by
  intro pins s σ H xs us Q I r h
  obtain ⟨o, rfl, q⟩ := h
  obtain ⟨u, rfl, ru⟩ := vals1 r
  cases o with
  | none =>
    obtain rfl : u = Value.none := ru
    exact PySem.P.repr_of_none ⟨.str _, H, I.tok _, ⟨_, rfl⟩, q⟩
  | some b =>
    obtain rfl : u = Value.bool b := ru
    exact PySem.P.repr_of_bool ⟨.str _, H, I.tok _, ⟨_, rfl⟩, q⟩
theorem cl_reprM : CalD X (.builtin "repr") B M Φ fun ts Δ2 => ∃ o, ts = [markT o] ∧ Φ (.str (markS o)) Δ2 :=
  ⟨_, call_reprM, fun ts Δ2 p σ H vs Q S d k => by
    obtain ⟨o, rfl, q⟩ := p
    cases d with
    | cons d1 d2 =>
      cases d2
      refine ⟨o, ?_, k _ _ _ H q (Fe.refl _ _) S (.str _)⟩
      cases o with
      | none => cases d1; rfl
      | some b => cases d1; rfl⟩
end
end Wf

set_option Elab.async false
set_option linter.all false
set_option maxRecDepth 100000
set_option maxHeartbeats 2000000
namespace Wf
open PySem PySem.Spec PyProof.Rows L2 LamX
/-! ### owned lists of owned lists -/
def remL (M : Pl) (ps : List Addr) : Pl := ⟨fun b => M.m b ∧ b ∉ ps, M.w⟩
def insL (M : Pl) (ps : List Addr) : Pl := ⟨fun b => M.m b ∨ b ∈ ps, M.w⟩
theorem Rws.len {K : PySem.W.Frag} {I H : Hp} : ∀ {as : List Addr} {rs : List (List Tr)}, Rws K I H as rs → as.length = rs.length
  | _, _, .nil => rfl
  | _, _, .cons _ r => congrArg (· + 1) r.len
theorem Rws.dts {K : PySem.W.Frag} {I J H : Hp} (s : Sub I J) : ∀ {as : List Addr} {rs : List (List Tr)}, (∀ b ∈ as, ∀ o, H b = some o → J b = some o) → Rws K I H as rs → Dts K J (as.map V.ref) (rs.map Tr.lst)
  | _, _, _, .nil => .nil
  | _, _, e, .cons ⟨xs, h, q⟩ r => .cons (.lst (SqL.of (e _ List.mem_cons_self _ h)) (q.mono s)) (Rws.dts s (fun b hb => e b (List.mem_cons_of_mem _ hb)) r)
theorem Rws.get {K : PySem.W.Frag} {I H : Hp} {a : Addr} : ∀ {as : List Addr} {rs : List (List Tr)} {j : Nat}, Rws K I H as rs → as[j]? = some a → ∃ ts xs, rs[j]? = some ts ∧ H a = some (.lst xs) ∧ Dts K I xs ts
  | _, _, _, .nil, h => by simp at h
  | _, _, 0, .cons (ts := ts) ⟨xs, h, q⟩ r, e => by
    rw [List.getElem?_cons_zero] at e
    cases e
    exact ⟨ts, xs, rfl, h, q⟩
  | _, _, j + 1, .cons _ r, e => by
    rw [List.getElem?_cons_succ] at e ⊢
    exact r.get e
theorem Rws.set {K : PySem.W.Frag} {I J H : Hp} {a : Addr} {xs : List V} {ts : List Tr} (s : Sub I J) (d : Dts K J xs ts) : ∀ {as : List Addr} {rs : List (List Tr)} {j : Nat}, Rws K I H as rs → as.Nodup → as[j]? = some a → Rws K J (upd H a (.lst xs)) as (rs.set j ts)
  | _, _, _, .nil, _, h => by simp at h
  | _, _, 0, .cons (rs := rs) q r, nd, e => by
    rw [List.getElem?_cons_zero] at e
    cases e
    refine .cons ⟨xs, upd_same, d⟩ (r.mono s fun b hb o _ z => ?_)
    rw [upd_ne (fun y => (List.nodup_cons.mp nd).1 (by rw [← y]; exact hb))]
    exact z
  | _, _, j + 1, .cons (rs := rs) ⟨ys, h, q⟩ r, nd, e => by
    rw [List.getElem?_cons_succ] at e
    have ne := (List.nodup_cons.mp nd)
    refine .cons ⟨ys, ?_, q.mono s⟩ (r.set s d ne.2 e)
    rw [upd_ne (fun y => ne.1 (by rw [y]; exact List.mem_of_getElem? e))]
    exact h
theorem Rws.snoc {K : PySem.W.Frag} {I H : Hp} {a : Addr} {ts : List Tr} (h : ∃ xs, H a = some (.lst xs) ∧ Dts K I xs ts) : ∀ {as : List Addr} {rs : List (List Tr)}, Rws K I H as rs → Rws K I H (as ++ [a]) (rs ++ [ts])
  | _, _, .nil => .cons h .nil
  | _, _, .cons q r => .cons q (r.snoc h)
section
variable {K : PySem.W.Frag} {B : Bs} {M : Pl} {H H' : Hp} {σ : L2.St} {Δ : List En}
theorem Sk.tabAt (h : Sk K B M H σ Δ) {i : Nat} {l : Addr} {as : List Addr} {rs : List (List Tr)} (e : Δ[i]? = some (.tab l as rs)) : σ[i]? = some (some (.ref l)) ∧ (l :: as).Nodup ∧ (∀ b ∈ l :: as, M.m b ∧ ¬ B.M0 b ∧ ¬ M.w b) ∧ Tb K (mi M.m H) H l as rs := by
  obtain ⟨o, h1, h2⟩ := h.sl i _ e
  cases o with
  | none => exact h2.elim
  | some v =>
    obtain ⟨q, r⟩ := h2
    exact ⟨by rw [h1, q], r⟩
/-- a slot is told anew: its places were the slot's before -/
theorem Sk.key {i : Nat} {e1 e2 : En} (h : Δ[i]? = some e1) (hh : ∀ z, e2.has z → e1.has z) : ∀ (a : Nat) (e : En), (Δ.set i e2)[a]? = some e → ∃ e', Δ[a]? = some e' ∧ ∀ z, e.has z → e'.has z := fun a e he => by
  by_cases ha : a = i
  · subst ha
    rw [List.getElem?_set_self (List.getElem?_eq_some_iff.mp h).1] at he
    cases he
    exact ⟨e1, h, hh⟩
  · rw [List.getElem?_set_ne (Ne.symm ha)] at he
    exact ⟨e, he, fun _ z => z⟩
theorem Sk.disNew (S : Sk K B M H σ Δ) {i : Nat} {e2 : En} (hh : ∀ z, e2.has z → ∀ (j : Nat) (f : En), j ≠ i → Δ[j]? = some f → ¬ f.has z) : ∀ (a b : Nat) (e f : En) (l : Addr), (Δ.set i e2)[a]? = some e → (Δ.set i e2)[b]? = some f → e.has l → f.has l → a = b := fun a b e f l he hf el fl => by
  have back : ∀ {a : Nat} {e : En}, (Δ.set i e2)[a]? = some e → (a = i ∧ e = e2) ∨ (a ≠ i ∧ Δ[a]? = some e) := fun {a e} he => by
    by_cases ha : a = i
    · subst ha
      rw [List.getElem?_set] at he
      rw [if_pos rfl] at he
      split at he
      · exact .inl ⟨rfl, (Option.some.inj he).symm⟩
      · cases he
    · rw [List.getElem?_set_ne (Ne.symm ha)] at he
      exact .inr ⟨ha, he⟩
  rcases back he with ⟨ha, ea⟩ | ⟨ha, ea⟩
  · rcases back hf with ⟨hb, _⟩ | ⟨hb, fb⟩
    · rw [ha, hb]
    · exact absurd fl (hh l (by rw [← ea]; exact el) b f hb fb)
  · rcases back hf with ⟨hb, fb⟩ | ⟨hb, fb⟩
    · exact absurd el (hh l (by rw [← fb]; exact fl) a e ha ea)
    · exact S.dis a b e f l ea fb el fl
theorem Sk.disKey (S : Sk K B M H σ Δ) {i : Nat} {e1 e2 : En} (h : Δ[i]? = some e1) (hh : ∀ z, e2.has z → e1.has z) : ∀ (a b : Nat) (e f : En) (l : Addr), (Δ.set i e2)[a]? = some e → (Δ.set i e2)[b]? = some f → e.has l → f.has l → a = b := fun a b e f l he hf el fl => by
  obtain ⟨e', x1, x2⟩ := Sk.key h hh a e he
  obtain ⟨f', y1, y2⟩ := Sk.key h hh b f hf
  exact S.dis a b e' f' l x1 y1 (x2 _ el) (y2 _ fl)
/-- the inner lists stand still from now on -/
theorem Sk.tabOwn {i : Nat} {l : Addr} {as : List Addr} {rs : List (List Tr)} (S : Sk K B M H σ Δ) (h : Δ[i]? = some (.tab l as rs)) : Sk K B (remL M as) H σ (Δ.set i (.own l (.lst (rs.map Tr.lst)))) := by
  obtain ⟨h1, h2, h3, h4, h5⟩ := S.tabAt h
  have hs : Sub (mi M.m H) (mi (remL M as).m H) := mi_le fun b z => z.1
  have hi : i < Δ.length := (List.getElem?_eq_some_iff.mp h).1
  have nl := (List.nodup_cons.mp h2).1
  refine { len := by rw [List.length_set]; exact S.len, al := fun b z => S.al b z.1, wm := fun b z => ⟨S.wm b z, fun e => (h3 b (List.mem_cons_of_mem _ e)).2.2 z⟩, m0 := fun b z => ⟨S.m0 b z, fun e => (h3 b (List.mem_cons_of_mem _ e)).2.1 z⟩, pm := S.pm, own := fun b z => S.own b z.1, wp := S.wp, fr := S.fr, tb := S.tb, dis := S.disKey h fun z (y : l = z) => by rw [← y]; exact List.mem_cons_self, sl := fun j e q => ?_ }
  by_cases hj : j = i
  · subst hj
    rw [List.getElem?_set_self hi] at q
    cases q
    have hl := h3 l List.mem_cons_self
    exact ⟨_, h1, rfl, ⟨hl.1, nl⟩, hl.2.1, hl.2.2, _, h4, h5.dts hs fun b hb o z => mi_of (fun y => y.2 hb) z⟩
  · rw [List.getElem?_set_ne (Ne.symm hj)] at q
    obtain ⟨o, e1, e2⟩ := S.sl j e q
    have hne : ∀ l', e.has l' → l' ∉ as := fun l' z y => hj (S.dis j i e _ l' q h z (List.mem_cons_of_mem _ y))
    refine ⟨o, e1, ?_⟩
    cases o with
    | none => cases e <;> first | exact True.intro | exact e2.elim
    | some v =>
      cases e with
      | any => exact True.intro
      | dat t => exact Dt.mono hs e2
      | own l' t =>
        obtain ⟨x1, x2, x3, x4, x5⟩ := e2
        exact ⟨x1, ⟨x2, hne l' rfl⟩, x3, x4, x5.mono hs fun _ _ z => z⟩
      | pen l' N =>
        obtain ⟨x1, x2, x3⟩ := e2
        exact ⟨x1, x2, x3.mono hs fun _ _ z => z⟩
      | tab l' bs qs =>
        obtain ⟨x1, x2, x3, x4⟩ := e2
        exact ⟨x1, x2, fun b z => ⟨⟨(x3 b z).1, hne b z⟩, (x3 b z).2⟩, x4.mono hs fun _ _ _ _ z => z⟩
/-- an owned empty list: a table without rows -/
theorem Sk.toTab {i : Nat} {l : Addr} (S : Sk K B M H σ Δ) (h : Δ[i]? = some (.own l (.lst []))) : Sk K B M H σ (Δ.set i (.tab l [] [])) := by
  obtain ⟨h1, h2, h3, h4, xs, h5, h6⟩ := S.ownAt h
  have hi : i < Δ.length := (List.getElem?_eq_some_iff.mp h).1
  cases h6
  refine { len := by rw [List.length_set]; exact S.len, al := S.al, wm := S.wm, m0 := S.m0, pm := S.pm, own := S.own, wp := S.wp, fr := S.fr, tb := S.tb, dis := S.disKey h fun z y => (List.mem_singleton.mp y).symm, sl := fun j e q => ?_ }
  by_cases hj : j = i
  · subst hj
    rw [List.getElem?_set_self hi] at q
    cases q
    exact ⟨_, h1, rfl, by simp, fun b hb => by rw [List.mem_singleton.mp hb]; exact ⟨h2, h3, h4⟩, h5, .nil⟩
  · rw [List.getElem?_set_ne (Ne.symm hj)] at q
    exact S.sl j e q
/-- an owned place is written: what the slots say of it is told by the caller -/
theorem Sk.writeAt {i : Nat} {l : Addr} {e1 e2 : En} {o : HO} (S : Sk K B M H σ Δ) (h : Δ[i]? = some e1) (hl : e1.has l) (hm : M.m l) (h3 : ¬ B.M0 l) (kd : (∃ xs, H l = some (.lst xs)) ∨ (∃ xs, H l = some (.dK xs)) ∨ ∃ C dx fs, H l = some (.ins C dx fs))
    (hh : ∀ z, e2.has z → ∀ (j : Nat) (f : En), j ≠ i → Δ[j]? = some f → ¬ f.has z) (ok : ∀ v, EnOk K B M H (some v) e1 → EnOk K B M (upd H l o) (some v) e2) : Sk K B M (upd H l o) σ (Δ.set i e2) ∧ Sub (mi M.m H) (mi M.m (upd H l o)) := by
  have s := mi_write (M := M.m) (H := H) (l := l) (o := o) hm
  have kn := kind_ne kd
  have h0 : B.H0 l = none := (S.own l hm).elim (fun z => absurd z h3) id
  have hi : i < Δ.length := (List.getElem?_eq_some_iff.mp h).1
  refine ⟨{ len := by rw [List.length_set]; exact S.len, al := fun b z => ?_, wm := S.wm, m0 := S.m0, pm := S.pm, own := S.own, wp := S.wp, fr := ⟨fun b u p n e => ?_, fun b ps e => ?_⟩, tb := tabs_upd S.tb kn.1 kn.2, dis := S.disNew hh, sl := fun j e q => ?_ }, s⟩
  · by_cases hb : b = l
    · exact ⟨o, by rw [hb, upd_same]⟩
    · obtain ⟨u, e⟩ := S.al b z
      exact ⟨u, by rw [upd_ne hb]; exact e⟩
  · have hb : b ≠ l := fun z => by rw [z, h0] at e; cases e
    rw [upd_ne hb]; exact S.fr.k b u p n e
  · have hb : b ≠ l := fun z => by rw [z, h0] at e; cases e
    obtain ⟨qs, e'⟩ := S.fr.t b ps e
    exact ⟨qs, by rw [upd_ne hb]; exact e'⟩
  · by_cases hj : j = i
    · subst hj
      rw [List.getElem?_set_self hi] at q
      cases q
      obtain ⟨u, g1, g2⟩ := S.sl j e1 h
      cases u with
      | none => cases e1 <;> first | exact hl.elim | exact g2.elim
      | some v => exact ⟨_, g1, ok v g2⟩
    · rw [List.getElem?_set_ne (Ne.symm hj)] at q
      obtain ⟨u, g1, g2⟩ := S.sl j e q
      exact ⟨u, g1, g2.mono (fun _ z => z) (fun _ => Iff.rfl) s fun l' z o' _ y => by rw [upd_ne (fun w => hj (S.dis j i e _ l q h (by rw [← w]; exact z) hl))]; exact y⟩
/-- places that are new are owned from now on; the pen at slot q was drawn from -/
theorem Sk.penGrab {q : Nat} {p : Pn} {c c' : Nat} (S : Sk K B M H σ Δ) (hi : Δ[q]? = some (.pen p c)) (f : Fe (fun b => b = p.l) H H') (tb : Tabs B.T H') (pa : PenAt K (mi M.m H') H' p c') (ps : List Addr) (hn : ∀ b ∈ ps, H b = none) (ex : ∀ b ∈ ps, ∃ o, H' b = some o) :
    Sk K B (insL M ps) H' σ (Δ.set q (.pen p c')) ∧ Fe M.w H H' ∧ Sub (mi M.m H) (mi (insL M ps).m H') ∧ ∀ e ∈ Δ.set q (.pen p c'), ∀ b ∈ ps, ¬ e.has b := by
  obtain ⟨S2, fw⟩ := S.pen hi f tb pa
  obtain ⟨h1, h2, h3⟩ := S.penAt hi
  have hil : q < Δ.length := (List.getElem?_eq_some_iff.mp hi).1
  have nM : ∀ b ∈ ps, ¬ M.m b := fun b hb => S.notM (hn b hb)
  have s2 : Sub (mi M.m H) (mi (insL M ps).m H') := fun b u n z => by
    have z := mi_some.mp z
    exact mi_of (fun y => y.elim z.1 fun y => by rw [hn b y] at z; cases z.2) (fw.k b u (fun y => z.1 (S.wm b y)) n z.2)
  refine ⟨{ len := S2.len, al := fun b z => z.elim (S2.al b) (ex b), wm := fun b z => .inl (S.wm b z), m0 := fun b z => .inl (S.m0 b z), pm := S.pm, own := fun b z => z.elim (S.own b) fun y => .inr (S.new0 (hn b y)), wp := S.wp, fr := S2.fr, tb := tb, dis := S2.dis, sl := fun j e g => ?_ }, fw, s2, fun e he b hb z => ?_⟩
  · by_cases hj : j = q
    · subst hj
      rw [List.getElem?_set_self hil] at g
      cases g
      obtain ⟨sp, mo, z1, z2, z3⟩ := pa
      obtain ⟨_, _, _, w2, _⟩ := h3
      exact ⟨_, h1, rfl, h2, sp, mo, z1, sub_seqL s2 w2, z3⟩
    · rw [List.getElem?_set_ne (Ne.symm hj)] at g
      obtain ⟨u, e1, e2⟩ := S.sl j e g
      exact ⟨u, e1, e2.mono (M := M) (M' := insL M ps) (fun _ z => Or.inl z) (fun _ => Iff.rfl) s2 fun l' z o' n y => f.k l' o' (fun w => hj (S.dis j q e _ p.l g hi (by rw [← w]; exact z) rfl)) n y⟩
  · obtain ⟨j, hj⟩ := List.getElem?_of_mem he
    obtain ⟨u, _, g2⟩ := S2.sl j e hj
    have hm : M.m b := by
      cases u with
      | none => cases e <;> first | exact z.elim | exact g2.elim
      | some v =>
        cases e with
        | any => exact z.elim
        | dat t => exact z.elim
        | own l' t => rw [← show l' = b from z]; exact g2.2.1
        | pen l' N => rw [← show l'.l = b from z]; exact S.wm _ g2.2.1
        | tab l' as rs => exact (g2.2.2.1 _ z).1
    exact nM b hb hm
end
section
variable {X : Cx} {B : Bs} {M : Pl} {Δ : List En} {e e1 rhs : Expr} {ss : List Stmt} {Ψ : Eo} {Φ : Tr → List En → Prop}
theorem ss_tabOwn (i : Nat) {l : Addr} {as : List Addr} {rs : List (List Tr)} (hi : Δ[i]? = some (.tab l as rs)) (h : SS X B (remL M as) (Δ.set i (.own l (.lst (rs.map Tr.lst)))) ss Ψ) : SS X B M Δ ss Ψ := fun σ H S D p => h σ H (S.tabOwn hi) D (p.sub (mi_le fun b z => z.1))
theorem ss_toTab (i : Nat) {l : Addr} (hi : Δ[i]? = some (.own l (.lst []))) (h : SS X B M (Δ.set i (.tab l [] [])) ss Ψ) : SS X B M Δ ss Ψ := fun σ H S D p => h σ H (S.toTab hi) D p
/-- the object itself, whatever it holds -/
theorem ee_nameTab (i : Nat) {x : Str} {pos : Pos} {l : Addr} {as : List Addr} {rs : List (List Tr)} (hN : X.N[i]? = some x) (hΔ : Δ[i]? = some (.tab l as rs)) (q : Φ (.opq (.ref l)) Δ)
    (hd : (x == ("__debug__" : Str)) = false := by decide) (hcd : (x == ("__classdict__" : Str)) = false := by decide) (hv : Vis X.env.scope x := by first | exact Or.inl rfl | exact Or.inr (Or.inl rfl) | exact Or.inr (Or.inr rfl)) : EE X B M Δ (.Name x pos) Φ := fun σ H S Q k =>
  PE.to (pe_var (i := i) hN hv hd hcd) ⟨_, (S.tabAt hΔ).1, k _ Δ _ H q (Fe.refl _ _) S (.opq _)⟩
theorem ee_nameOwn (i : Nat) {x : Str} {pos : Pos} {l : Addr} {t : Tr} (hN : X.N[i]? = some x) (hΔ : Δ[i]? = some (.own l t)) (q : Φ (.opq (.ref l)) Δ)
    (hd : (x == ("__debug__" : Str)) = false := by decide) (hcd : (x == ("__classdict__" : Str)) = false := by decide) (hv : Vis X.env.scope x := by first | exact Or.inl rfl | exact Or.inr (Or.inl rfl) | exact Or.inr (Or.inr rfl)) : EE X B M Δ (.Name x pos) Φ := fun σ H S Q k =>
  PE.to (pe_var (i := i) hN hv hd hcd) ⟨_, (S.ownAt hΔ).1, k _ Δ _ H q (Fe.refl _ _) S (.opq _)⟩
/-- a row of a table, the object itself -/
theorem ee_ixTab (i : Nat) {x : Str} {px pos : Pos} {l : Addr} {as0 : List Addr} {rs0 : List (List Tr)} (hN : X.N[i]? = some x) (hi : Δ[i]? = some (.tab l as0 rs0)) (h : EE X B M Δ e fun t Δ1 => ∃ as rs z a, Δ1[i]? = some (.tab l as rs) ∧ t = .int z ∧ atI as z = some a ∧ Φ (.opq (.ref a)) Δ1)
    (hs : PlainIx e := by exact fun _ _ => rfl) (hd : (x == ("__debug__" : Str)) = false := by decide) (hcd : (x == ("__classdict__" : Str)) = false := by decide) (hv : Vis X.env.scope x := by first | exact Or.inl rfl | exact Or.inr (Or.inl rfl) | exact Or.inr (Or.inr rfl)) :
    EE X B M Δ (.Subscript (.Name x px) e pos) Φ := fun σ H S Q k =>
  PE.to (pe_ix ix_list (pe_var (i := i) hN hv hd hcd) pe_self hs) ⟨_, (S.tabAt hi).1, h σ H S _ fun t Δ1 v H1 p f S1 d => by
    obtain ⟨as, rs, z, a, q1, rfl, q2, q3⟩ := p
    cases d
    obtain ⟨_, _, _, g1, g2⟩ := S1.tabAt q1
    refine ⟨l, as.map V.ref, z, .ref a, rfl, rfl, SqL.of g1, ?_, k _ _ _ H1 q3 f S1 (.opq _)⟩
    unfold atI at q2 ⊢
    rw [List.length_map]
    cases w : ixN as.length z with
    | none => rw [w] at q2; cases q2
    | some j =>
      rw [w] at q2
      show (as.map V.ref)[j]? = _
      rw [List.getElem?_map, show as[j]? = some a from q2]
      rfl⟩
/-- an item of an owned list -/
theorem ee_ixOwn (i : Nat) {x : Str} {px pos : Pos} {l : Addr} {ts0 : List Tr} (hN : X.N[i]? = some x) (hi : Δ[i]? = some (.own l (.lst ts0))) (h : EE X B M Δ e fun t Δ1 => ∃ ts z u, Δ1[i]? = some (.own l (.lst ts)) ∧ t = .int z ∧ atI ts z = some u ∧ Φ u Δ1)
    (hs : PlainIx e := by exact fun _ _ => rfl) (hd : (x == ("__debug__" : Str)) = false := by decide) (hcd : (x == ("__classdict__" : Str)) = false := by decide) (hv : Vis X.env.scope x := by first | exact Or.inl rfl | exact Or.inr (Or.inl rfl) | exact Or.inr (Or.inr rfl)) :
    EE X B M Δ (.Subscript (.Name x px) e pos) Φ := fun σ H S Q k =>
  PE.to (pe_ix ix_list (pe_var (i := i) hN hv hd hcd) pe_self hs) ⟨_, (S.ownAt hi).1, h σ H S _ fun t Δ1 v H1 p f S1 d => by
    obtain ⟨ts, z, u, q1, rfl, q2, q3⟩ := p
    cases d
    obtain ⟨_, _, _, _, xs, g1, g2⟩ := S1.ownAt q1
    obtain ⟨y, y1, y2⟩ := atI_dts g2 q2
    exact ⟨l, xs, z, y, rfl, rfl, SqL.of g1, y1, k _ _ _ H1 q3 f S1 y2⟩⟩
/-- r[e1] = rhs, r a row of the table at slot k -/
theorem s_setTab (i k : Nat) {x : Str} {px p1 pos : Pos} {a : Addr} (hN : X.N[i]? = some x)
    (h : EE X B M Δ rhs fun t Δ1 => Δ1[i]? = some (.dat (.opq (.ref a))) ∧ EE X B M Δ1 e1 fun k1 Δ2 => ∃ l as rs j ts z1 j1, Δ2[k]? = some (.tab l as rs) ∧ as[j]? = some a ∧ rs[j]? = some ts ∧ k1 = .int z1 ∧ ixN ts.length z1 = some j1 ∧ Ψ.nx M (Δ2.set k (.tab l as (rs.set j (ts.set j1 t)))))
    (hE : PS X (.Assign [.Subscript (.Name x px) e1 p1] rhs pos) (tAsg (WE X rhs) (gSub (tVar i) (WE X e1) rSetL))) :
    S1 X B M Δ (.Assign [.Subscript (.Name x px) e1 p1] rhs pos) Ψ := fun σ H S D p =>
  PS.to hE (h σ H S _ fun t Δ1 v H1 q f S1 d => by
    obtain ⟨g0, q⟩ := q
    obtain ⟨v0, a1, a2⟩ := S1.dat g0
    cases a2
    refine ⟨_, a1, q σ H1 S1 _ fun k1 Δ2 v1 H2 q2 f2 S2 dk => ?_⟩
    obtain ⟨l, as, rs, j, ts, z1, j1, b1, b2, b3, rfl, b4, b5⟩ := q2
    cases dk
    obtain ⟨c1, c2, c3, c4, c5⟩ := S2.tabAt b1
    obtain ⟨ts', xs, w1, w2, w3⟩ := c5.get b2
    rw [b3] at w1
    cases w1
    have ha : a ∈ l :: as := List.mem_cons_of_mem _ (List.mem_of_getElem? b2)
    refine ⟨a, xs, z1, j1, rfl, rfl, w2, by rw [w3.length]; exact b4, ?_⟩
    have dv := d.mono (S1.sub f2)
    have sw : Sub (mi M.m H2) (mi M.m (upd H2 a (.lst (xs.set j1 v)))) := mi_write (c3 a ha).1
    obtain ⟨S3, s3⟩ := S2.writeAt (o := .lst (xs.set j1 v)) (e2 := .tab l as (rs.set j (ts.set j1 t))) b1 ha (c3 a ha).1 (c3 a ha).2.1 (.inl ⟨_, w2⟩) (fun z hz j' f' hj' hf' fz => hj' (S2.dis j' k f' _ z hf' b1 fz hz)) fun v' hv' => by
      obtain ⟨x1, x2, x3, x4, x5⟩ := hv'
      have nal : l ≠ a := fun z => (List.nodup_cons.mp x2).1 (by rw [z]; exact List.mem_of_getElem? b2)
      exact ⟨x1, x2, x3, by rw [upd_ne nal]; exact x4, x5.set sw ((Dts.setAt dv w3 j1).mono sw) (List.nodup_cons.mp x2).2 b2⟩
    exact p.nx M _ σ _ b5 (((S.sub f).trans (S1.sub f2)).trans s3) S3)
/-- x.append(a new list), x a table -/
theorem s_appendTab (i : Nat) {x : Str} {p1 p2 p3 pos : Pos} (hN : X.N[i]? = some x) {l : Addr} {as0 : List Addr} {rs0 : List (List Tr)} (hi : Δ[i]? = some (.tab l as0 rs0))
    (h : EO X B M Δ e fun t Δ1 => ∀ a, ¬ M.m a → ∃ as rs ts, Δ1[i]? = some (.tab l as rs) ∧ t = .lst ts ∧ rs.length < sizeLine ∧ Ψ.nx (ins M a) (Δ1.set i (.tab l (as ++ [a]) (rs ++ [ts]))))
    (hE : PS X (.Expr (.Call (.Attribute (.Name x p1) "append" p2) [e] [] p3) pos) (tDrop (tBM X.K "list" rAppend (tVar i) (tCons (WE X e) tNil))) := by
      exact ps_expr (pe_bm PySem.F.plainAttrs_list PySem.F.slot_list_append PySem.F.type_list_append mt_append (pv _) (pa_cons pe_self pa_nil))) : S1 X B M Δ (.Expr (.Call (.Attribute (.Name x p1) "append" p2) [e] [] p3) pos) Ψ := fun σ H S D p => by
  obtain ⟨h1, h2, h3, h5, h6⟩ := S.tabAt hi
  refine PS.to hE ⟨_, h1, .inl ⟨rfl, _, SqL.of h5⟩, h σ H S _ fun t Δ1 a H1 q f ha S1 hn ow => ?_⟩
  have nM := S.notM ha
  obtain ⟨as, rs, ts, q1, rfl, q2, q3⟩ := q a nM
  obtain ⟨_, g2, g3, g4, g5⟩ := S1.tabAt q1
  have nh := hn _ (List.mem_of_getElem? q1)
  have na : a ∉ l :: as := fun z => nh z
  have nal : a ≠ l := fun z => na (by rw [z]; exact List.mem_cons_self)
  refine ⟨l, as.map V.ref, .ref a, rfl, rfl, g4, by rw [List.length_map, g5.len]; exact q2, ?_⟩
  have s12 : Sub (mi M.m H) (mi (ins M a).m H1) := mi_new ha S f
  have hil : i < Δ1.length := (List.getElem?_eq_some_iff.mp q1).1
  have hm := (g3 l List.mem_cons_self)
  have nM0a : ¬ B.M0 a := fun z => nM (S.m0 a z)
  have nwa : ¬ M.w a := fun z => nM (S.wm a z)
  have sw : Sub (mi (ins M a).m H1) (mi (ins M a).m (upd H1 l (.lst (as.map V.ref ++ [.ref a])))) := mi_write hm.1
  have mem : ∀ z, z ∈ l :: (as ++ [a]) → z ∈ l :: as ∨ z = a := fun z hz => by
    rcases List.mem_cons.mp hz with rfl | hz
    · exact .inl List.mem_cons_self
    · rcases List.mem_append.mp hz with hz | hz
      · exact .inl (List.mem_cons_of_mem _ hz)
      · exact .inr (List.mem_singleton.mp hz)
  obtain ⟨S3, s3⟩ := S1.writeAt (o := .lst (as.map V.ref ++ [.ref a])) (e2 := .tab l (as ++ [a]) (rs ++ [ts])) q1 (show l ∈ l :: as from List.mem_cons_self) hm.1 hm.2.1 (.inl ⟨_, g4⟩) (fun z hz j' f' hj' hf' fz => by
    rcases mem z hz with hz | rfl
    · exact hj' (S1.dis j' i f' _ z hf' q1 fz hz)
    · exact hn _ (List.mem_of_getElem? hf') fz) fun v' hv' => by
    obtain ⟨x1, x2, x3, x4, x5⟩ := hv'
    have nd := List.nodup_cons.mp x2
    refine ⟨x1, List.nodup_cons.mpr ⟨fun z => ?_, List.nodup_append.mpr ⟨nd.2, by simp, fun b hb c hc e => ?_⟩⟩, fun b hb => ?_, by rw [upd_same, List.map_append]; rfl, ?_⟩
    · rcases List.mem_append.mp z with z | z
      · exact nd.1 z
      · exact nal (List.mem_singleton.mp z).symm
    · rw [List.mem_singleton.mp hc] at e
      exact na (List.mem_cons_of_mem _ (by rw [← e]; exact hb))
    · rcases mem b hb with hb | rfl
      · exact x3 b hb
      · exact ⟨.inr rfl, nM0a, nwa⟩
    · have x5' : Rws X.K (mi (ins M a).m (upd H1 l (.lst (as.map V.ref ++ [.ref a])))) (upd H1 l (.lst (as.map V.ref ++ [.ref a]))) as rs := x5.mono sw fun b hb o _ z => by
        rw [upd_ne (fun y => nd.1 (by rw [← y]; exact hb))]
        exact z
      refine x5'.snoc ?_
      obtain ⟨xs, e1, e2⟩ := ow
      exact ⟨xs, by rw [upd_ne nal]; exact e1, e2.mono sw⟩
  exact p.nx (ins M a) _ σ _ q3 (s12.trans s3) S3
/-- an owned table is read: the answer is no object -/
theorem Sk.backL {K : PySem.W.Frag} {H H' : Hp} {σ : L2.St} {i : Nat} {l : Addr} {as : List Addr} {rs : List (List Tr)} {Δ' : List En} (S : Sk K B M H σ Δ) (h : Δ[i]? = some (.tab l as rs)) (f : Fe M.w H H') (S' : Sk K B (remL M (l :: as)) H' σ Δ') (hp : ∀ (j : Nat) p N, Δ[j]? = some (.pen p N) → Δ'[j]? = some (.pen p N)) : Sk K B M H' σ Δ := by
  obtain ⟨h1, h2, h3, h4⟩ := S.tabAt h
  have hs := S.sub f
  refine { len := S.len, al := fun b z => ?_, wm := S.wm, m0 := S.m0, pm := S.pm, own := S.own, wp := S.wp, fr := S'.fr, tb := S'.tb, dis := S.dis, sl := fun j e q => ?_ }
  · by_cases hb : b ∈ l :: as
    · obtain ⟨xs, e⟩ := h4.kind b hb
      exact ⟨_, f.k b _ (h3 b hb).2.2 nt_lst e⟩
    · exact S'.al b ⟨z, hb⟩
  · obtain ⟨o, e1, e2⟩ := S.sl j e q
    refine ⟨o, e1, ?_⟩
    cases o with
    | none => cases e <;> first | exact True.intro | exact e2.elim
    | some v =>
      cases e with
      | any => exact True.intro
      | dat t => exact Dt.mono hs e2
      | own l' t =>
        obtain ⟨x1, x2, x3, x4, x5⟩ := e2
        exact ⟨x1, x2, x3, x4, x5.mono hs fun o n z => f.k _ o x4 n z⟩
      | pen l' N =>
        obtain ⟨_, y1, sp, mo, z1, z2, z3⟩ := S'.penAt (hp j _ _ q)
        obtain ⟨x1, x2, _, _, w1, w2, w3⟩ := e2
        exact ⟨x1, x2, sp, mo, z1, sub_seqL hs w2, z3⟩
      | tab l' bs qs =>
        obtain ⟨x1, x2, x3, x4⟩ := e2
        exact ⟨x1, x2, x3, x4.mono hs fun b z o n y => f.k _ o (x3 b z).2.2 n y⟩
theorem Sk.tabShare {K : PySem.W.Frag} {H : Hp} {σ : L2.St} {i : Nat} {l : Addr} {as : List Addr} {rs : List (List Tr)} (S : Sk K B M H σ Δ) (h : Δ[i]? = some (.tab l as rs)) : Sk K B (remL M (l :: as)) H σ (Δ.set i (.dat (.lst (rs.map Tr.lst)))) := by
  have hi : i < Δ.length := (List.getElem?_eq_some_iff.mp h).1
  have S2 := (S.tabOwn h).share (i := i) (l := l) (t := .lst (rs.map Tr.lst)) (by rw [List.getElem?_set_self hi])
  rw [List.set_set] at S2
  have e : rem (remL M as) l = remL M (l :: as) := by
    unfold rem remL
    congr 1
    funext b
    exact propext ⟨fun z => ⟨z.1.1, fun y => (List.mem_cons.mp y).elim z.2 z.1.2⟩, fun z => ⟨⟨z.1, fun y => z.2 (List.mem_cons_of_mem _ y)⟩, fun y => z.2 (by rw [y]; exact List.mem_cons_self)⟩⟩
  rw [e] at S2
  exact S2
theorem ss_tabShare (i : Nat) {l : Addr} {as : List Addr} {rs : List (List Tr)} (hi : Δ[i]? = some (.tab l as rs)) (h : SS X B (remL M (l :: as)) (Δ.set i (.dat (.lst (rs.map Tr.lst)))) ss Ψ) : SS X B M Δ ss Ψ := fun σ H S D p => h σ H (S.tabShare hi) D (p.sub (mi_le fun b z => z.1))
theorem EE.borrowT (i : Nat) {l : Addr} {as : List Addr} {rs : List (List Tr)} (hi : Δ[i]? = some (.tab l as rs)) (h : EE X B (remL M (l :: as)) (Δ.set i (.dat (.lst (rs.map Tr.lst)))) e fun r Δ' => r.scal = true ∧ Δ' = Δ.set i (.dat (.lst (rs.map Tr.lst))) ∧ Φ r Δ) : EE X B M Δ e Φ := fun σ H S Q k =>
  h σ H (S.tabShare hi) Q fun r Δ' v H' p f S' d => by
    obtain ⟨p1, rfl, p3⟩ := p
    refine k r Δ v H' p3 f (S.backL hi f S' fun j p N q => ?_) (d.scal p1)
    rw [List.getElem?_set_ne (fun z => by rw [← z, hi] at q; cases q)]
    exact q
end
/-! ### defs that give a table -/
section
variable {P : Program} {w : World} {K : PySem.W.Frag} {mg : Str → Option Value} {base : Heap} {x qual : Str} {st : Stmt} {f : Addr} {fd : FuncData} {N ps : List Str} {k : Nat} {T : List (Addr × Str)} {pre : List Tr → Prop} {cost : List Tr → Nat} {post : List Tr → List (List Tr) → List Tr → Prop}
/-- a def whose first argument is the pen; it gives a pair: a table and a list, both new and nobody else's -/
def spPT (K : PySem.W.Frag) (T : List (Addr × Str)) (pre : List Tr → Prop) (cost : List Tr → Nat) (post : List Tr → List (List Tr) → List Tr → Prop) : Sp := fun vs H Q _ => ∃ (m : Addr → Prop) (p : Pn) (N : Nat) (vs' : List V) (ts : List Tr),
  vs = .ref p.l :: vs' ∧ m p.l ∧ PenAt K (mi m H) H p N ∧ N + cost ts ≤ penMax ∧ Dts K (mi m H) vs' ts ∧ pre ts ∧ (∀ b, m b → ∃ o, H b = some o) ∧ Tabs T H ∧
  ∀ t l as u rs ms H', post ts rs ms → Fe (fun b => b = p.l) H H' → Tabs T H' → PenAt K (mi m H') H' p (N + cost ts) → (∀ b ∈ u :: l :: as, H b = none) → (u :: l :: as).Nodup → SqT K (mi (fun b => m b ∨ b ∈ u :: l :: as) H') t [.ref l, .ref u] →
    Tb K (mi (fun b => m b ∨ b ∈ u :: l :: as) H') H' l as rs → Ow K (mi (fun b => m b ∨ b ∈ u :: l :: as) H') H' u (.lst ms) → Q (.ref t) H'
theorem ok_PT {y : Str} (F : Fun K x qual st f fd) (S : FnScope N (y :: ps) (defScope st)) (hpre : ∀ ts, pre ts → ts.length = ps.length) (hps : ps.length + 1 ≤ N.length)
    (hb : ∀ (cdv : Value) (A : Around) (outer : List Env) (s : Shared) (H : Hp) (E : XK) (m : Addr → Prop) (p : Pn) (c : Nat) (ts : List Tr), Room k (A.deeper (envOfC qual (defScope st) s.heap.objs.size f cdv)) → pre ts → c + cost ts ≤ penMax →
      SS (cxOf CX0 P w K mg base N qual (defScope st) f cdv A outer s H E).nox (bP T p H m) ⟨m, fun b => b = p.l⟩ (slots N (.pen p c :: ts.map En.dat)) (defBody st) ⟨fun _ _ => False, fun t Δ' => ∃ (rs : List (List Tr)) (ms : List Tr) (i j : Nat) (l u : Addr) (as : List Addr), t = .tup [.opq (.ref l), .opq (.ref u)] ∧ i ≠ j ∧ Δ'[i]? = some (.tab l as rs) ∧ Δ'[j]? = some (.own u (.lst ms)) ∧ post ts rs ms ∧ ∃ c', c' ≤ c + cost ts ∧ Δ'[0]? = some (.pen p c'), fun _ _ => False, fun _ _ => False⟩) :
    FnOk P w K mg base CX0 (k + 1) f fd (y :: ps) (spPT K T pre cost post) := by
  refine F.ok S (fun vs H Q E h => ?_) (fun cdv A outer s H vs Q E hr h => ?_)
  · obtain ⟨m, p, c, vs', ts, rfl, _, _, _, d, hp, _⟩ := h
    rw [List.length_cons, List.length_cons, d.length, hpre ts hp]
  · obtain ⟨m, p, c, vs', ts, rfl, hm, pa, hc, d, hp, al, tb, q⟩ := h
    have hlen : ts.length = ps.length := hpre ts hp
    have Sk0 : Sk K (bP T p H m) ⟨m, fun b => b = p.l⟩ H (L2.start N (.ref p.l :: vs')) (slots N (.pen p c :: ts.map En.dat)) := by
      refine sk_start (by simp; omega) (by simp [d.length]) rfl (fun _ => Iff.rfl) (fun _ => Iff.rfl) (fun _ z => by subst z; exact hm) al tb (fun i j e f l he hf el fl => ?_) fun i v e hv he => ?_
      · have key : ∀ (i : Nat) (e : En), (En.pen p c :: ts.map En.dat)[i]? = some e → e.has l → i = 0 := fun i e he el => by
          cases i with
          | zero => rfl
          | succ i =>
            rw [List.getElem?_cons_succ, List.getElem?_map] at he
            cases h : ts[i]? with
            | none => rw [h] at he; cases he
            | some t => rw [h] at he; cases he; exact el.elim
        rw [key i e he el, key j f hf fl]
      · cases i with
        | zero => cases hv; cases he; exact ⟨rfl, rfl, pa⟩
        | succ i =>
          rw [List.getElem?_cons_succ] at hv he
          rw [List.getElem?_map] at he
          cases h : ts[i]? with
          | none => rw [h] at he; cases he
          | some t =>
            rw [h] at he; cases he
            obtain ⟨v', h1, h2⟩ := d.get h
            rw [hv] at h1; cases h1
            exact h2
    refine ⟨_, pss_self, hb cdv A outer s H E m p c ts hr hp hc _ H Sk0 _ ⟨fun _ _ _ _ z => z.elim, fun t M' Δ' v σ' H' a b z dd => ?_, fun _ _ _ _ z => z.elim, fun _ _ _ _ z => z.elim⟩⟩
    obtain ⟨rs, ms, i, j, l, u, as, rfl, hij, e1, e2, a1, c', a2, a3⟩ := a
    obtain ⟨_, t2, t3, t4⟩ := z.tabAt e1
    obtain ⟨_, o2, o3, o4, o5⟩ := z.ownAt e2
    have sub : Sub (mi M'.m H') (mi (fun b => m b ∨ b ∈ u :: l :: as) H') := mi_le fun b y => y.elim (z.m0 b) fun y => (List.mem_cons.mp y).elim (fun e => by rw [e]; exact o2) fun y => (t3 b y).1
    cases dd with
    | tup g1 g2 =>
      cases g2 with
      | cons d1 g3 =>
        cases g3 with
        | cons d2 g4 =>
          cases g4
          cases d1
          cases d2
          have fresh : ∀ b, M'.m b → ¬ m b → H b = none := fun b y n => (z.own b y).elim (fun h => absurd h n) id
          refine q _ l as u rs ms H' a1 z.fr z.tb (((z.penAt a3).2.2.mono (mi_le z.m0) fun _ _ y => y).le a2) (fun b hb => ?_) (List.nodup_cons.mpr ⟨fun y => hij (z.dis i j _ _ u e1 e2 y rfl), t2⟩) (sub_seqT sub g1) (t4.mono sub fun _ _ _ _ y => y) (o5.mono sub fun _ _ y => y)
          rcases List.mem_cons.mp hb with rfl | hb
          · exact fresh _ o2 o3
          · exact fresh b (t3 b hb).1 (t3 b hb).2.1
end
section
variable {X : Cx} {B : Bs} {M : Pl} {Δ : List En} {es : List Expr} {Ψ : Eo} {x y z f : Str} {k : Nat} {ps : List Str} {pre : List Tr → Prop} {cost : List Tr → Nat} {post : List Tr → List (List Tr) → List Tr → Prop}
/-- a, b = f(pen, e, ..), f such a def -/
theorem s_unpPT (i j q : Nat) {px py pt p pz pos pos2 : Pos} {kt : Nat} {pn : Pn} {c0 : Nat} (hc : X.calm = true) (hN : X.N.Nodup) (hi : X.N[i]? = some x) (hj : X.N[j]? = some y) (hq : X.N[q]? = some z) (hiq : i ≠ q) (hjq : j ≠ q) (hij : i ≠ j) (hΔ : Δ[q]? = some (.pen pn c0)) (F : Fn X.prog X.w X.K X.mg X.base f k ps (spPT X.K B.T pre cost post)) (hr : Room k X.A) (hg : Gl X f)
    (h : EA X B M Δ es fun ts Δ1 => ∃ c, Δ1[q]? = some (.pen pn c) ∧ pre ts ∧ c + cost ts ≤ penMax ∧ ∀ l as u rs ms, post ts rs ms → (∀ b ∈ u :: l :: as, ¬ M.m b) → Ψ.nx (insL M (u :: l :: as)) (((Δ1.set q (.pen pn (c + cost ts))).set i (.tab l as rs)).set j (.own u (.lst ms))))
    (hd : (z == ("__debug__" : Str)) = false := by decide) (hcd : (z == ("__classdict__" : Str)) = false := by decide)
    (hdb : (f == ("__debug__" : Str)) = false := by decide) (he : starEach (.Name z pz :: es) X.env = (false, eval (.Name z pz) X.env) :: starEach es X.env := by rfl) (hpl : (backTo pos (starEach es X.env)).any (·.1) = false := by rfl) (hv : Vis X.env.scope z := by first | exact Or.inl rfl | exact Or.inr (Or.inl rfl) | exact Or.inr (Or.inr rfl))
    (hf : X.fn x = true ∨ X.env.scope.names.lookup x = some .local := by first | exact .inl rfl | exact .inr rfl) (hx : Loc X.env.scope x := by first | exact Or.inl rfl | exact Or.inr rfl)
    (hf2 : X.fn y = true ∨ X.env.scope.names.lookup y = some .local := by first | exact .inl rfl | exact .inr rfl) (hx2 : Loc X.env.scope y := by first | exact Or.inl rfl | exact Or.inr rfl)
    (hs : swapsWithSole [.Tuple [.Name x px, .Name y py] kt pt] (.Call (.Name f p) (.Name z pz :: es) [] pos) pos2.line X.env = pure false := by rfl) (hw : swappedStores [.Tuple [.Name x px, .Name y py] kt pt] (.Call (.Name f p) (.Name z pz :: es) [] pos) X.env = pure none := by rfl)
    (h1 : (assignEach [.Tuple [.Name x px, .Name y py] kt pt] X.env).map (·.2) = [assign (.Tuple [.Name x px, .Name y py] kt pt) X.env] := by rfl)
    (ha : (assignEach [.Name x px, .Name y py] X.env).map (·.2) = assign (.Name x px) X.env :: (assignEach [.Name y py] X.env).map (·.2) := by rfl)
    (hb : (assignEach [.Name y py] X.env).map (·.2) = assign (.Name y py) X.env :: (assignEach [] X.env).map (·.2) := by rfl)
    (hn : (assignEach [.Name x px, .Name y py] X.env).length = 2 := by rfl) (hst : (assignEach [.Name x px, .Name y py] X.env).findIdx? (·.1) = none := by rfl) :
    S1 X B M Δ (.Assign [.Tuple [.Name x px, .Name y py] kt pt] (.Call (.Name f p) (.Name z pz :: es) [] pos) pos2) Ψ := fun σ H S D pp => by
  obtain ⟨fa, fd, ok, hm, hk, hbi⟩ := F.ex
  obtain ⟨g1, _⟩ := S.penAt hΔ
  refine PS.to (ps_asg (pe_call ok hr hg hm hk hbi .nil pass0 (pa_cons (pe_var (i := q) hq hv hd hcd) pa_self he) hdb he hpl) (pg_tup hc (pgs_cons (pg_name (i := i) hN hi hx hf) (pgs_cons (pg_name (i := j) hN hj hx2 hf2) pgs_nil hb) ha) hn hst) hs hw h1) ⟨_, g1, h σ H S _ fun ts Δ1 vs H1 qq fe S1 d => ?_⟩
  obtain ⟨c, q1, q2, q3, q4⟩ := qq
  obtain ⟨_, w2, w3⟩ := S1.penAt q1
  rw [List.append_nil]
  refine ⟨M.m, pn, c, vs, ts, rfl, S1.wm _ w2, w3, q3, d, q2, S1.al, S1.tb, fun t l as u rs ms H' hp f2 tb pa fr nd sq tt oo => ?_⟩
  have nM : ∀ b ∈ u :: l :: as, ¬ M.m b := fun b hb => S1.notM (fr b hb)
  obtain ⟨S2, fw, s2, hno⟩ := S1.penGrab q1 f2 tb pa (u :: l :: as) fr fun b hb => by
    rcases List.mem_cons.mp hb with rfl | hb
    · obtain ⟨xs, e, _⟩ := oo; exact ⟨_, e⟩
    · obtain ⟨xs, e⟩ := tt.kind b hb; exact ⟨_, e⟩
  have S3 := S2.put i (o := some (.ref l)) (e := .tab l as rs) ⟨rfl, (List.nodup_cons.mp nd).2, fun b hb => ⟨.inr (List.mem_cons_of_mem _ hb), fun y => nM b (List.mem_cons_of_mem _ hb) (S1.m0 b y), fun y => nM b (List.mem_cons_of_mem _ hb) (S1.wm b y)⟩, tt⟩ fun b hb j' f' _ hf' => hno f' (List.mem_of_getElem? hf') b (List.mem_cons_of_mem _ hb)
  have S4 := S3.put j (o := some (.ref u)) (e := .own u (.lst ms)) ⟨rfl, .inr List.mem_cons_self, fun y => nM u List.mem_cons_self (S1.m0 u y), fun y => nM u List.mem_cons_self (S1.wm u y), oo⟩ fun b hb j' f' hj' hf' fb => by
    obtain rfl : u = b := hb
    by_cases hji : j' = i
    · subst hji
      rw [List.getElem?_set] at hf'
      rw [if_pos rfl] at hf'
      split at hf'
      · cases hf'
        exact (List.nodup_cons.mp nd).1 fb
      · cases hf'
    · rw [List.getElem?_set_ne (Ne.symm hji)] at hf'
      exact hno f' (List.mem_of_getElem? hf') _ List.mem_cons_self fb
  exact ⟨_, _, rfl, sub_seqT mi_sub sq, rfl, _, _, rfl, _, _, rfl, rfl, pp.nx _ _ _ H' (q4 l as u rs ms hp nM) ((S.sub fe).trans s2) S4⟩
end
end Wf

set_option Elab.async false
set_option linter.all false
set_option maxRecDepth 100000
set_option maxHeartbeats 2000000
namespace Wf
open PySem PySem.Spec PyProof.Rows L2 LamX
/-! ### exceptions of the program's classes, over any built-in class that keeps its fields in a dict -/
/-- T.__init__ -/
structure ExIni (B initId : String) : Prop where
  init : Slot B "__init__" initId
  entry : entryFor table initId = some Builtin.«BaseException.__init__»
  split : splitId initId = some (B, "__init__")
  kind : builtinKind initId = some .slot
  row : Manifest.signature? initId = some ⟨.positional, "*", B, .self, [⟨"args", .varPos, false⟩]⟩
  noStar : (B != "*") = true
section
open PySem.HandSPX
variable {prog : Program} {w : World} {A : Around} {M : Model} {E : Value → Shared → Prop} {R : Result → Shared → Prop} {h : Heap} {g : Array GenState} {d : Drawn} {t : Nat} {os : OsState}
variable {nm q : Str} {C N : Addr} {bs bm : List Value} {hdct : Bool} {sn : List Str} {sub : List Value} {ab : Bool} {col : Option Bool} {dd : Option Addr} {k0 k1 k2 k3 k5 : Option Value} {B newId initId : String}
theorem xi_check (F : ExIni B initId) (hB : bm.contains (.type B) = true) {e : Addr} {oe : Obj} {rest : List Value} {Q : Unit → Shared → Prop}
    (hC : h.get? C = some (excClassObj nm q C N bs bm hdct sn sub ab col dd k0 k1 k2 k3 k5 newId)) (he : h.get? e = some oe) (hcls : oe.cls = .ref C) (hq : Q () ⟨h, g, d, t, os⟩) : wpAny M A (checkBuiltinCall initId ⟨.ref e :: rest, []⟩) Q E ⟨h, g, d, t, os⟩ := by
  have has : (Value.ref C :: bm).contains (.type B) = true := by rw [List.contains_cons, hB, Bool.or_true]
  have := F.noStar
  simp only [checkBuiltinCall, F.kind, F.split, F.row]
  repeat (first | (with_reducible refine wpAny_loadPart_at he ?_; rw [hcls]) | with_reducible refine wpAny_loadPart_at hC ?_ | (with_reducible refine wpAny_isSubtype_exc hC ?_; rw [has]) | wp_step)
  refine wpAny_onRaise ?_
  rw [show ∀ (a b : String) (n : Nat), Bind.check ⟨.positional, "*", B, .self, [⟨"args", .varPos, false⟩]⟩ a b n (List.map (fun x => x.fst) ({ pos := Value.ref e :: rest } : Args).kw) = pure () from fun a b n => check_star_args _ _ _ _ _ _]
  exact wpAny_pure hq
theorem xi_base (F : ExIni B initId) (hB : bm.contains (.type B) = true) {e t0 : Addr} {rest : List Value}
    (hC : h.get? C = some (excClassObj nm q C N bs bm hdct sn sub ab col dd k0 k1 k2 k3 k5 newId)) (he : h.get? e = some (excO C t0)) (hr : rest.length ≤ sizeLine)
    (hq : ∀ h' t1, (∀ b o, b ≠ e → h.get? b = some o → h'.get? b = some o) → h'.get? e = some (excO C t1) → R (.ok (.ret .none)) ⟨h', g, d, t, os⟩) : codeAny (model prog w) A (.call (.builtin initId) ⟨.ref e :: rest, []⟩) R ⟨h, g, d, t, os⟩ := by
  refine codeAny_call_builtin F.init.plain F.entry (xi_check F hB hC he rfl ?_)
  wp_walk
  refine hq _ h.objs.size (fun b o hb ho => ?_) ?_
  · rw [Heap.get?_update_other _ _ (Ne.symm hb)]
    exact Heap.get?_push_of_some _ ho
  · rw [Heap.get?_update_self _ (Heap.get?_push_of_some _ he) rfl]
    rfl
end
/-! ### the class called with keywords -/
section
open PySem.HandSPX
variable {prog : Program} {w : World} {A : Around} {E : Value → Shared → Prop} {R : Result → Shared → Prop} {h : Heap} {g : Array GenState} {d : Drawn} {t : Nat} {os : OsState}
variable {nm q : Str} {C N : Addr} {bs bm bmB : List Value} {hdct : Bool} {sn : List Str} {sub : List Value} {ab : Bool} {col : Option Bool} {dd : Option Addr} {k0 k1 k2 k3 k5 : Option Value} {B newId initId : String}
theorem xk_check {M : Model} (F : ExcBaseFacts B newId initId bmB) (hB : bm.contains (.type B) = true) {rest : List Value} {kw : List (Str × Value)} {Q : Unit → Shared → Prop}
    (hC : h.get? C = some (excClassObj nm q C N bs bm hdct sn sub ab col dd k0 k1 k2 k3 k5 newId)) (hq : Q () ⟨h, g, d, t, os⟩) : wpAny M A (checkBuiltinCall newId ⟨.ref C :: rest, kw⟩) Q E ⟨h, g, d, t, os⟩ := by
  have has : (Value.ref C :: bm).contains (.type B) = true := by rw [List.contains_cons, hB, Bool.or_true]
  have := F.noStar
  simp only [checkBuiltinCall, F.newKind, F.newSplit, F.newRow]
  repeat (first | refine wpAny_loadPart_at hC ?_ | (refine wpAny_isSubtype_exc hC ?_; rw [has]) | refine wpAny_staticBase_exc hC ?_ | refine wpAny_madeBy_exc hC ?_ | simp only [bne_self_eq_false, Bool.false_eq_true, if_false] | wp_step)
  exact hq
theorem xk_new (F : ExcBaseFacts B newId initId bmB) (hB : bm.contains (.type B) = true) (hA : bm.contains (.type "AttributeError") = false) (hN : bm.contains (.type "NameError") = false) {rest : List Value} {kw : List (Str × Value)}
    (hC : h.get? C = some (excClassObj nm q C N bs bm hdct sn sub ab col dd k0 k1 k2 k3 k5 newId))
    (hq : R (.ok (.ret (.ref (h.objs.size + 1)))) ⟨(h.push { cls := .type "tuple", data := .seq rest.toArray }).push { cls := .ref C, data := .fields #[.ref h.objs.size, .none, .none, .none, .bool false, .none] }, g, d, t, os⟩) (hr : rest.length ≤ sizeLine) :
    codeAny (model prog w) A (.builtin newId ⟨.ref C :: rest, kw⟩) R ⟨h, g, d, t, os⟩ := by
  have := F.ends
  have has : (Value.ref C :: bm).contains (.type B) = true := by rw [List.contains_cons, hB, Bool.or_true]
  have noA : (Value.ref C :: bm).contains (.type "AttributeError") = false := by rw [List.contains_cons, hA]; rfl
  have noN : (Value.ref C :: bm).contains (.type "NameError") = false := by rw [List.contains_cons, hN]; rfl
  refine codeAny_builtinAt F.entry ?_
  unfold Builtin.«BaseException.__new__»
  refine PySem.wpAt_bind ?_
  show PySem.wpAt _ _ _ (stack >>= _) _ _ _
  refine PySem.wpAt_bind (PySem.wpAt_stack fun p below => PySem.wpAt_of_wpAny ?_)
  wp_walk
  refine PySem.wpAt_of_wpAny ?_
  rw [F.owner]
  repeat (first | with_reducible refine wpAny_madeHere_exc F.canon hC ?_ | with_reducible refine wpAny_loadPart_at hC ?_ | (with_reducible refine wpAny_isSubtype_exc hC ?_; first | rw [has] | rw [noA] | rw [noN]) | wp_step)
  show R _ _
  rw [Heap.size_push]
  exact hq
theorem xk_type (F : ExcBaseFacts B newId initId bmB) (hB : bm.contains (.type B) = true) (hA : bm.contains (.type "AttributeError") = false) (hN : bm.contains (.type "NameError") = false) {rest : List Value} {kw : List (Str × Value)} {fI : Addr} {Q : Fin → Shared → Prop}
    (hC : h.get? C = some (excClassObj nm q C N bs bm hdct sn sub ab col dd k0 k1 k2 k3 k5 newId))
    (hi : W.Looks (model prog w) h (typeLookup (.ref C) "__init__") (some (.ref fI))) (hb : ∀ self, W.Looks (model prog w) h (bindSpecial (.ref fI) self) (.ref fI, [self])) (hr : rest.length ≤ sizeLine)
    (hq : codeAny (model prog w) A (.call (.ref fI) ⟨.ref (h.objs.size + 1) :: rest, kw⟩)
      (fun r s' => match r with | .ok (.ret v) => v = .none ∧ Q (.done (.ret (.ref (h.objs.size + 1)))) s' | .ok _ => False | .error e => E e s') ⟨(h.push (W.kdv_tup rest)).push (excO C h.objs.size), g, d, t, os⟩) :
    wpAny (model prog w) A (Builtin.«type.__call__» ⟨.ref C :: rest, kw⟩) Q E ⟨h, g, d, t, os⟩ := by
  repeat (first | with_reducible refine wpAny_loadPart_at hC ?_ | with_reducible refine wpAny_madeBy_exc hC ?_ | wp_step)
  refine codeAny_call_builtin_code (Code.quiet_builtin _ F.quiet) (xk_check F hB hC ?_)
  refine xk_new F hB hA hN hC ?_ hr
  show wpAny _ _ _ _ _ _
  have kp : ∀ b o, h.get? b = some o → ((h.push (W.kdv_tup rest)).push (excO C h.objs.size)).get? b = some o := fun b o e => Heap.get?_push_of_some _ (Heap.get?_push_of_some _ e)
  have hC2 := kp _ _ hC
  have new : ((h.push (W.kdv_tup rest)).push (excO C h.objs.size)).get? (h.objs.size + 1) = some (excO C h.objs.size) := by heap_get
  have self : (Value.ref C :: bm).contains (.ref C) = true := by simp
  have i2 := hi.keeps kp
  have b2 := (hb (.ref (h.objs.size + 1))).keeps kp
  unfold isInstance
  repeat (first | with_reducible refine wpAny_loadPart_at new ?_ | (with_reducible refine wpAny_isSubtype_exc hC2 ?_; rw [self]) | wp_step)
  show wpAny _ _ (typeLookup (.ref C) _) _ _ _
  refine i2.at ?_
  refine wpAny_holding (wpAny_bind (b2.at ?_))
  refine wpAny_bind (wpAny_call (codeAny_mono hq fun r s' z => ?_))
  rcases r with e | (v | _ | _ | _) <;> first | exact z | exact z.elim | skip
  obtain ⟨rfl, z⟩ := z
  first
    | exact wpAny_pure (wpAny_pure z)
    | (wp_walk; exact z)
theorem xk_call (F : ExcBaseFacts B newId initId bmB) (hB : bm.contains (.type B) = true) (hA : bm.contains (.type "AttributeError") = false) (hN : bm.contains (.type "NameError") = false) {rest : List Value} {kw : List (Str × Value)} {fI : Addr}
    (hC : h.get? C = some (excClassObj nm q C N bs bm hdct sn sub ab col dd k0 k1 k2 k3 k5 newId))
    (hi : W.Looks (model prog w) h (typeLookup (.ref C) "__init__") (some (.ref fI))) (hb : ∀ self, W.Looks (model prog w) h (bindSpecial (.ref fI) self) (.ref fI, [self])) (hr : rest.length ≤ sizeLine)
    (hq : codeAny (model prog w) (A.under (.builtin "type.__call__" ⟨.ref C :: rest, kw⟩)) (.call (.ref fI) ⟨.ref (h.objs.size + 1) :: rest, kw⟩) (W.InitBack (h.objs.size + 1) R) ⟨(h.push (W.kdv_tup rest)).push (excO C h.objs.size), g, d, t, os⟩) :
    codeAny (model prog w) A (.call (.ref C) ⟨rest, kw⟩) R ⟨h, g, d, t, os⟩ := by
  have := tc_lookup
  have := tc_bind (.ref C)
  have hTy : (⟨h, g, d, t, os⟩ : Shared).TypeIs (.ref C) "type" := ⟨_, hC, rfl⟩
  refine codeAny_of_tree ?_
  show wpAny _ _ (callAny (.ref C) _) _ _ _
  repeat (any_goals (first | assumption | with_reducible refine wpAny_loadPart_at hC ?_ | wp_step))
  refine ⟨rfl, ?_⟩
  refine codeAny_call_builtin_at (Code.quiet_builtin _ (by decide +kernel)) entry_typeCall (wpAny_check_type_call_sub hC (xk_type F hB hA hN hC hi hb hr ?_))
  refine codeAny_mono hq fun r s' z => ?_
  rcases r with e | (v | _ | _ | _) <;> exact z
end
/-- the built-in class: nw makes its objects -/
structure ExBase (T nw ini : String) (mb : List Value) : Prop where
  nf : ∃ Bn iN bn, ExcBaseFacts Bn nw iN bn ∧ mb.contains (.type Bn) = true
  noA : mb.contains (.type "AttributeError") = false
  noN : mb.contains (.type "NameError") = false
  it : ExIni T ini
  hasT : mb.contains (.type T) = true
  st : StoreFacts T mb "object.__setattr__" "object"
  ty : typeOf (.type T) = pure (.type "type")
theorem ExBase.of {T nw ini : String} {mb : List Value} (F : ExcBaseFacts T nw ini mb) (S : StoreFacts T mb "object.__setattr__" "object") (t : typeOf (.type T) = pure (.type "type")) : ExBase T nw ini mb :=
  ⟨⟨T, ini, mb, F, F.hasB⟩, F.noAttr, F.noName, ⟨F.init, F.initEntry, F.initSplit, F.initKind, F.initRow, F.noStar⟩, F.hasB, S, t⟩
theorem exb_V : ExBase "ValueError" "ValueError.__new__" "ValueError.__init__" [.type "ValueError", .type "Exception", .type "BaseException", .type "object"] := .of PySem.F.excBase_ValueError PySem.F.store_ValueError (by kernel_rfl)
theorem exb_I : ExBase "IndexError" "IndexError.__new__" "IndexError.__init__" [.type "IndexError", .type "LookupError", .type "Exception", .type "BaseException", .type "object"] := .of PySem.F.excBase_IndexError PySem.F.store_IndexError (by kernel_rfl)
theorem exb_A : ExBase "ArithmeticError" "ArithmeticError.__new__" "ArithmeticError.__init__" [.type "ArithmeticError", .type "Exception", .type "BaseException", .type "object"] := .of PySem.F.excBase_ArithmeticError PySem.F.store_ArithmeticError (by kernel_rfl)
theorem exb_L : ExBase "LookupError" "LookupError.__new__" "LookupError.__init__" [.type "LookupError", .type "Exception", .type "BaseException", .type "object"] := .of PySem.F.excBase_LookupError PySem.F.store_LookupError (by kernel_rfl)
section
open PySem.F
theorem xini_K : ExIni "KeyError" "KeyError.__init__" where
  init := .of (owner := "KeyError") (n := "__init__") (by rw [typeLookup_type, builtinLookup_eq_fast]; kernel_rfl) (by decide +kernel) (by decide +kernel) (by decide +kernel)
    (by first | exact .inl (by decide +kernel) | exact .inr (by decide +kernel)) (by rw [isSubtype_type]; kernel_rfl)
  entry := entryFor_alias (id' := "BaseException.__init__") (by rw [fastTable_eq_tree]; kernel_rfl) (by first | rfl | decide +kernel) (by decide +kernel) (by rw [fastTable_eq_tree]; kernel_rfl)
  split := by kernel_rfl
  kind := by kernel_rfl
  row := by kernel_rfl
  noStar := by decide +kernel
theorem xstore_K : StoreFacts "KeyError" [.type "KeyError", .type "LookupError", .type "Exception", .type "BaseException", .type "object"] "object.__setattr__" "object" where
  mro := by kernel_rfl
  slot := .of (owner := "object") (n := "__setattr__") (by rw [typeLookup_type, builtinLookup_eq_fast]; kernel_rfl) (by decide +kernel) (by decide +kernel) (by decide +kernel)
    (by first | exact .inl (by decide +kernel) | exact .inr (by decide +kernel)) (by rw [isSubtype_type]; kernel_rfl)
  entry := entry_object_sa
  kind := by decide +kernel
  split := by decide +kernel
  hasOwner := by decide +kernel
  args := fun a b c => by unfold argsOk; kernel_rfl
  passes := fun self => by kernel_rfl
end
/-- KeyError: LookupError's __new__, an __init__ of its own -/
theorem exb_K : ExBase "KeyError" "LookupError.__new__" "KeyError.__init__" [.type "KeyError", .type "LookupError", .type "Exception", .type "BaseException", .type "object"] :=
  ⟨⟨_, _, _, PySem.F.excBase_LookupError, by decide +kernel⟩, by decide +kernel, by decide +kernel, xini_K, by decide +kernel, xstore_K, by kernel_rfl⟩
/-- what the written part says of the class at C -/
structure ExCls (K : PySem.W.Frag) (C : Addr) (nw : String) (mb : List Value) : Prop where
  ini : PySem.W.excInitIn K C mb nw = true
  ovr : PySem.W.excOver K C mb = true
  dct : PySem.W.hasDictIn K C = true
  sa : PySem.W.findIn K (.ref C) "__setattr__" = some (some (.builtin "object.__setattr__"))
  exC : PySem.W.subIn K (.ref C) (.type "BaseException") = some true
  tyC : PySem.W.typeIn K (.ref C) = some (.type "type")
  kC : PySem.W.keepIn K (.ref C) = true
theorem ExCls.cls {K : PySem.W.Frag} {C : Addr} {nw : String} {mb : List Value} (E : ExCls K C nw mb) : ∃ cd, PySem.W.clsIn K C = some cd ∧ PySem.W.excTail mb cd.mro = true ∧ cd.mro.isEmpty = false ∧ cd.hasDict = true := by
  obtain ⟨cd, e1, e2⟩ := PySem.W.any_some E.ovr
  obtain ⟨cd', e3, e4⟩ := PySem.W.any_some E.dct
  rw [e1] at e3
  cases e3
  refine ⟨cd, e1, ?_, ?_, e4⟩
  · split at e2
    · rename_i C' bm h
      rw [h]
      rw [Bool.and_eq_true] at e2
      exact e2.2
    · cases e2
  · split at e2
    · rename_i C' bm h
      rw [h] <;> rfl
    · cases e2
section
open PySem.W PySem.Calls Builtin Builtin.ObjectAttr
variable {prog : Program} {w : World} {A : Around} {E : Value → Shared → Prop} {R : Result → Shared → Prop} {hp : Heap} {g : Array GenState} {d : Drawn} {t : Nat} {os : OsState}
/-- the first field of such an exception: its dict is laid -/
theorem exk_store {K : Frag} {T nw ini : String} {mb : List Value} {name : Str} {tk : Tok} {v : Value} {x C : Addr} {fv : Array Value} (EB : ExBase T nw ini mb) (EC : ExCls K C nw mb)
    (X : K.In hp) (hx : hp.get? x = some { cls := .ref C, data := .fields fv }) (ha : findIn K (.ref C) name = some none)
    (hq : ∀ h' tk' dx, (∀ b o, b ≠ x → hp.get? b = some o → h'.get? b = some o) → hp.objs.size ≤ dx → dx ≠ x → h'.get? x = some { cls := .ref C, dict := some dx, data := .fields fv } →
      h'.Ns1 dx (fun y => if y = name then some v else none) → R (.ok (.ret .none)) ⟨h', g, d, tk', os⟩) :
    codeAny (model prog w) A (.call (.builtin "object.__setattr__") ⟨[.ref x, .str name tk, v], []⟩) R ⟨hp, g, d, t, os⟩ := by
  obtain ⟨cd, hcd, hm, ne, hh⟩ := EC.cls
  have SF := EB.st
  have J : InstAt hp x { cls := .ref C, data := .fields fv } C none := ⟨hx, rfl, rfl, trivial⟩
  have hxs : x ≠ hp.objs.size := Nat.ne_of_lt (Heap.lt_size hx)
  have hob : cd.mro.contains (.type "object") = true := (excTail_contains "object" _ hm).trans SF.hasOwner
  have isO : Looks (model prog w) hp (isInstance (.ref x) (.type "object")) true := J.type.andThen (looks_mroIn X (show mroIn K C (.type "object") = some true by
    unfold mroIn
    rw [hcd, Option.bind_some, ne, hob] <;> rfl))
  have lm : Looks (model prog w) hp (mroOf (.ref C)) cd.mro := (looks_clsIn X hcd).andThen .now
  have lc : Looks (model prog w) hp (classData C) cd := looks_clsIn X hcd
  have ls : Looks (model prog w) hp (storeTaker? none) none := .now
  refine codeAny_call_builtin SF.slot.plain SF.entry (@check_slot (model prog w) _ _ ⟨hp, g, d, t, os⟩ "object.__setattr__" "object" "__setattr__" (.ref x) [.str name tk, v] [] _ SF.kind SF.split isO (SF.args (.ref x) (.str name tk) v) ?_)
  rw [osa_eq, refuse_eq]
  refine wpAny_bind (wpAny_bind (J.type.at (wpAny_bind (lm.at ?_))))
  rw [excTail_pass (.ref x) (SF.passes (.ref x)) _ hm]
  refine wpAny_pure (wpAny_bind (J.type.at (wpAny_bind ((looks_findIn X ha).at (wpAny_bind (ls.at ?_))))))
  show wpAny _ _ (storeInOwnDict (.ref x) (.ref C) (.str name tk) name v false) _ _ _
  obtain ⟨nm, bs, mro, ns, qn, hd, sn, sb, ab, col, del⟩ := cd
  dsimp only at hh
  subst hh
  unfold storeInOwnDict ownDictForStores
  repeat (first | with_reducible refine PySem.HandSPX.store_in_new ?_ ?_ | with_reducible refine wpAny_loadPart_at hx ?_ | with_reducible refine lc.at ?_ | wp_step)
  · exact ⟨_, #[], _, (Heap.get?_update_ne _ _ _ _ hxs.symm).trans (Heap.get?_push_at rfl rfl), rfl, fun e he => absurd he (by simp), fun _ => rfl⟩
  · intro h' tk' hn' hs
    have hx1 : (hp.push { cls := .type "dict", data := .dict #[] }).get? x = some { cls := .ref C, data := .fields fv } := Heap.get?_push_of_some _ hx
    exact hq h' tk' hp.objs.size (fun b o hb ho => (hs.2 b (Nat.ne_of_lt (Heap.lt_size ho))).trans ((Heap.get?_update_ne _ _ _ _ hb).trans (Heap.get?_push_of_some _ ho))) (Nat.le_refl _) hxs.symm ((hs.2 x hxs).trans (Heap.get?_update_self _ hx1 rfl)) hn'
end
section
variable {X : Cx} {pins : List (Addr × Obj)} {σ : L2.St} {H : Hp} {s : Shared} {a C : Addr} {f : Str} {y : V} {u : Value} {E : Value → Shared → Prop} {A : Around} {T nw ini : String} {mb : List Value}
/-- self.f = y in the __init__ -/
theorem exk_set {Q : Unit → Shared → Prop} (EB : ExBase T nw ini mb) (EC : ExCls X.K C nw mb) (I : Inv X pins σ H s) (e : H a = some (exo a C none)) (hno : PySem.W.findIn X.K (.ref C) f = some none) (ry : RelV y u)
    (h : ∀ dx s', H dx = none → dx ≠ a → Inv X pins σ (upd (upd H dx (exd dx [(f, y)])) a (exo a C (some dx))) s' → Q () s') : wpAny (model X.prog X.w) A (setAttr (.ref a) f u) Q E s := by
  obtain ⟨t1, ho⟩ := exo_at I.hok e
  obtain ⟨hp, g, d, t, os⟩ := s
  refine PySem.W.set_plain I.kIn (ox := { cls := .ref C, dict := none, data := .fields #[.ref t1, .none, .none, .none, .bool false, .none] }) (od := none) ⟨ho, rfl, rfl, trivial⟩ EC.sa ?_
  refine exk_store EB EC I.kIn ho hno (fun h' tk' dx k dn dne hx hn => ?_)
  have hnd : H dx = none := I.hok.fresh dn
  have nd : ∀ {b : Addr} {o : Obj}, hp.get? b = some o → b ≠ dx := fun {b o} q => Nat.ne_of_lt (Nat.lt_of_lt_of_le (Heap.lt_size q) dn)
  have na : ∀ {b : Addr}, H b = none → b ≠ a := fun {b} n z => by rw [z, e] at n; cases n
  have stays : ∀ {b : Addr} {o : HO}, H b = some o → exo a C none ≠ o → upd (upd H dx (exd dx [(f, y)])) a (exo a C (some dx)) b = some o := fun {b o} q z => by
    rw [upd_ne (at_ne e q z), upd_ne (ne_of_none q hnd)]
    exact q
  have un : Un X.fs [] H (upd (upd H dx (exd dx [(f, y)])) a (exo a C (some dx))) hp h' := {
    keep := fun b o q n _ _ => k b o (na n) q
    slot := fun b o q n _ _ => ⟨o.slots, k b o (na n) q⟩
    free := fun b o q n _ => by rw [upd_ne (na n), upd_ne (nd q)]; exact n
    there := fun b o q _ => by
      by_cases hb : b = a
      · exact ⟨_, by rw [hb]; exact hx⟩
      · exact ⟨o, k b o hb q⟩
    tups := fun b xs q => stays q exo_tup
    frzs := fun b o v q => stays q exo_frz
    tbls := fun b ps q => ⟨#[], by rw [stays q exo_tbl]; simp⟩ }
  refine h dx _ hnd dne (I.un (t' := tk') un fun b o q => ?_)
  by_cases hb : b = a
  · subst hb
    rw [upd_same] at q
    cases q
    exact exo_ok hx
  · rw [upd_ne hb] at q
    by_cases hd : b = dx
    · subst hd
      rw [upd_same] at q
      cases q
      exact exd_ok hn (relO_put (fs := []) ry fun g => True.intro)
    · rw [upd_ne hd] at q
      exact (I.hok b o q).stay (fun c v hc z => k c v (hc.elim (fun hc => by rw [hc]; exact hb) fun hc => at_ne e hc exo_own) z) (fun c hc => stays hc exo_own) fun c xs hc => stays hc exo_tup
/-- T.__init__(self, ..): nothing of it is told -/
theorem exk_base {us : List Value} {Q : Value → Shared → Prop} (EB : ExBase T nw ini mb) (EC : ExCls X.K C nw mb) (I : Inv X pins σ H s) (e : H a = some (exo a C none)) (hl : us.length ≤ sizeLine) (h : ∀ s', Inv X pins σ H s' → Q .none s') :
    wpAny (model X.prog X.w) A (call (.builtin ini) (.ref a :: us)) Q E s := by
  obtain ⟨t1, ho⟩ := exo_at I.hok e
  obtain ⟨nm, N, qn, bs, bm, hdct, sn, sub, ab, col, dd, k0, k1, k2, k3, k5, hC, hT⟩ := PySem.W.excInit_of I.kIn EC.ini
  obtain ⟨hp, g, d, t, os⟩ := s
  refine wpAny_call (xi_base EB.it ((hT _).trans EB.hasT) hC ho hl fun h' t2 k hx => ?_)
  have J := I.write (t' := t) (x := a) (e := a) (o := exo a C none) (by rw [e]; exact True.intro) (.inl rfl) k ⟨_, hx⟩ (exo_ok hx)
  have eu : upd H a (exo a C none) = H := funext fun b => by
    by_cases hb : b = a
    · rw [hb, upd_same, e]
    · rw [upd_ne hb]
  rw [eu] at J
  exact h _ J
end
section
variable {X : Cx} {o e : Expr} {es : List Expr} {to te : TE} {ta : TA} {f : Str} {p p' p1 p2 pos : Pos} {T nw ini : String} {mb : List Value}
def tExB (K : PySem.W.Frag) (nw : String) (mb : List Value) (ta : TA) : TE := fun σ H Q => ta σ H fun vs H1 => ∃ (a C : Addr) (ws : List V), vs = .ref a :: ws ∧ ws.length ≤ 1000 ∧ ExCls K C nw mb ∧ H1 a = some (exo a C none) ∧ Q .non H1
def tExS (K : PySem.W.Frag) (nw : String) (mb : List Value) (f : Str) (to te : TE) : TS := fun D σ H => te σ H fun y H1 => to σ H1 fun x H2 => ∃ a C : Addr, x = .ref a ∧ ExCls K C nw mb ∧ PySem.W.findIn K (.ref C) f = some none ∧
  H2 a = some (exo a C none) ∧ ∀ dx, H2 dx = none → dx ≠ a → D.nx σ (upd (upd H2 dx (exd dx [(f, y)])) a (exo a C (some dx)))
theorem pe_exb {x : Str} {pl : Sem Bool} (EB : ExBase T nw ini mb) (hg : Gl X x) (hm : X.mg x = none) (hv : bootBuiltins x = some (.type T)) (vV : PySem.W.findCls X.K (.type T) (.type "type") "__init__" = some (.val (.builtin ini))) (ha : PA X (e :: es) ta)
    (hc : eval (.Call (.Attribute (.Name x p1) "__init__" p2) (e :: es) [] pos) X.env = (do
      let ov ← eval (.Name x p1) X.env
      standAt p2.atName
      let (f, first) ← holding [ov] (getMethod ov "__init__" pl)
      callWith pos f first (backTo pos (starEach (e :: es) X.env)) (backToKw pos (keywordEach [] X.env))) := by rfl)
    (he : starEach (e :: es) X.env = (false, eval e X.env) :: starEach es X.env := by rfl) (hpl : (backTo pos (starEach es X.env)).any (·.1) = false := by rfl) (hn : x ≠ "__name__" := by decide) (hdb : (x == ("__debug__" : Str)) = false := by decide)
    (hst : Manifest.isStub T = false := by decide +kernel) (hin : PySem.W.handedIn (.builtin ini) = true := by decide +kernel) :
    PE X (.Call (.Attribute (.Name x p1) "__init__" p2) (e :: es) [] pos) (tExB X.K nw mb ta) := by
  refine ⟨fun pins s σ H Q I h => ?_⟩
  refine PySem.W.methodCall_KW (ld_blt I hg hm hv ?_ hn hdb) hc
  obtain ⟨m, fr⟩ := I.fr
  refine PySem.W.method_type fr I.ok.mod.kin EB.ty hst vV hin ?_
  show wpAny _ _ (callWith pos (Value.builtin ini) [] (backTo pos (starEach (e :: es) X.env)) []) _ _ _
  refine PyProof.Rows.callWith_method1 (thn (ha.run pos pins _ σ H _ (I.tok _) h) fun us s1 ⟨vs, H1, I1, r1, a, C, ws, ev, hl, EC, ea, q⟩ => ?_) he hpl
  subst ev
  cases r1 with
  | @cons _ u0 _ ur ra rw' =>
    obtain rfl : u0 = Value.ref a := ra
    exact exk_base EB EC I1 ea (by rw [← Paired.length rw', sizeLine_eq]; omega) fun s' J => ⟨.non, H1, J, rfl, q⟩
theorem ps_exs (EB : ExBase T nw ini mb) (ho : PE X o to) (he : PE X e te) (hs : swapsWith e (some (.Attribute o f p')) pos.line X.env = pure false := by rfl) : PS X (.Assign [.Attribute o f p'] e pos) (tExS X.K nw mb f to te) := by
  refine ⟨fun pins s σ H D I h => ?_⟩
  refine plainObj_wpAny_Assign_Attribute (thn (he.run pins s σ H _ I h) fun v s1 ⟨y, H1, I1, r1, q1⟩ => thn (ho.run pins s1 σ H1 _ I1 q1) fun u s2 ⟨x, H2, I2, r2, a, C, ex, EC, hno, ea, q⟩ => ?_) hs
  subst ex
  obtain rfl : u = Value.ref a := r2
  exact exk_set EB EC I2 ea hno r1 fun dx s' n ne J => ⟨σ, _, J, q dx n ne⟩
/-- C(e, ..), C's own __init__ keeping sp -/
theorem pmk_exk {CX : CXT} {x : Str} {C fI : Addr} {k : Nat} {fd : FuncData} {ps : List Str} {sp : Sp} {ds : List Value} {dvs : List V} (EB : ExBase T nw ini mb) (EC : ExCls X.K C nw mb) (iC : PySem.W.findIn X.K (.ref C) "__init__" = some (some (.ref fI))) (tI : PySem.W.typeIn X.K (.ref fI) = some (.type "function"))
    (F1 : FnOk X.prog X.w X.K X.mg X.base CX k fI fd ps sp) (hr : Room (k + 1) X.A) (hb : Binds X.K fd ps ds) (hd : Vals dvs ds) (hx : Passes CX X (fun _ _ _ => False)) (hg : Gl X x) (hm : X.mg x = some (.ref C)) (ha : PA X (e :: es) ta)
    (hdb : (x == ("__debug__" : Str)) = false := by decide) (he : starEach (e :: es) X.env = (false, eval e X.env) :: starEach es X.env := by rfl) (hpl : (backTo pos (starEach es X.env)).any (·.1) = false := by rfl) :
    PMk X (.Call (.Name x p) (e :: es) [] pos) (tMkO C sp dvs ta) := by
  intro pins s σ H Q I h
  refine wpAny_Call_Name_kw (ld_glob I hg hm ?_ hdb)
  refine PySem.W.callWith_K (h₀ := X.base) I.ok.mod.kin EC.kC (thn (ha.run pos pins s σ H _ I h) fun us s1 ⟨vs, H1, I1, r1, hz, q1⟩ => ⟨I1.kIn, ?_⟩) he hpl
  show wpAny _ _ (call (.ref C) us) _ _ _
  obtain ⟨nm, N, qn, bs, bm, hdct, sn, sub, ab, col, dd, k0, k1, k2, k3, k5, hC, hT⟩ := PySem.W.excInit_of I1.kIn EC.ini
  obtain ⟨hp, g, dr, tk, os⟩ := s1
  have above : hp.objs.size ≤ hp.objs.size + 1 := Nat.le_succ _
  have fresh : H1 (hp.objs.size + 1) = none := I1.hok.fresh above
  have hq := q1 (hp.objs.size + 1) fresh
  have kp : ∀ b o, hp.get? b = some o → ((hp.push (PySem.W.kdv_tup us)).push (PySem.HandSPX.excO C hp.objs.size)).get? b = some o := fun b o e => Heap.get?_push_of_some _ (Heap.get?_push_of_some _ e)
  have new : ((hp.push (PySem.W.kdv_tup us)).push (PySem.HandSPX.excO C hp.objs.size)).get? (hp.objs.size + 1) = some (PySem.HandSPX.excO C hp.objs.size) := by heap_get
  have I2 : Inv X pins σ (upd H1 (hp.objs.size + 1) (exo (hp.objs.size + 1) C none)) ⟨(hp.push (PySem.W.kdv_tup us)).push (PySem.HandSPX.excO C hp.objs.size), g, dr, tk, os⟩ := I1.laid kp above (exo_ok new)
  have r2 : Vals (V.ref (hp.objs.size + 1) :: (vs ++ dvs)) (Value.ref (hp.objs.size + 1) :: (us ++ ds)) := .cons rfl (r1.append hd)
  have len : (Value.ref (hp.objs.size + 1) :: us ++ ds).length = ps.length := r2.length.symm.trans (F1.len _ _ _ _ hq)
  obtain ⟨Bn, iN, bn, NF, hBn⟩ := EB.nf
  refine wpAny_call (xk_call NF ((hT _).trans hBn) ((hT _).trans EB.noA) ((hT _).trans EB.noN) hC (PySem.W.looks_findIn I1.kIn iC) (fun self => PySem.W.bind_fn I1.kIn self tI) (by rw [← Paired.length r1, sizeLine_eq]; omega)
    (codeAny_mono (F1.run _ X.stack _ _ ⟨Value.ref (hp.objs.size + 1) :: us, []⟩ (Value.ref (hp.objs.size + 1) :: (us ++ ds)) _ _ (fun _ _ _ => False) (hr.make C us []) (I2.env0.make C us []) (hb _ (Value.ref (hp.objs.size + 1) :: us) I2.kIn len) r2 hq) fun r s' back => ?_))
  cases r with
  | error er => exact hx pins σ _ _ er s' I2 back
  | ok fl =>
    cases fl with
    | ret u =>
      obtain ⟨v, H2, os2, bare2, un2, hok2, rv, ev, d, fs, ea, ed, hd1, q2⟩ := back
      subst ev
      obtain ⟨h2, g2, d2, t2, os'⟩ := s'
      exact ⟨rv, mk_end (raises_own EC.exC EC.tyC) I1 above kp un2 hok2 os2 bare2 ea ed hd1 q2⟩
    | next => exact False.elim back
    | brk => exact False.elim back
    | cont => exact False.elim back
end
end Wf

set_option Elab.async false
set_option linter.all false
set_option maxRecDepth 100000
set_option maxHeartbeats 2000000
namespace Wf
open PySem PySem.Spec PyProof.Rows L2 LamX
/-! ### try: .., except (A, B) as n: ..; the exception may be kept -/
theorem flying_up {B h h' : Heap} {l : List Env} {a : Addr} {Z : Obj → Prop} (fl : HandSPX.FlyingZ B l a Z h) (k : ∀ b o, h.get? b = some o → h'.get? b = some o) : HandSPX.FlyingZ B l a Z h' := by
  obtain ⟨f1, f2, f3, oe, vs, T, oT, ts, y1, y2, y3, y4, y5, y6, y7, y8, y9⟩ := fl
  exact ⟨fun b o q => k b o (f1 b o q), f2, f3.of_keeps fun b o q _ => ⟨o, k b o q, rfl⟩, oe, vs, T, oT, ts, k _ _ y1, y2, y3, y4, y5, y6, k _ _ y7, y8, y9⟩
section
variable {X : Cx} {pins : List (Addr × Obj)} {σ : L2.St} {H : Hp} {s : Shared}
/-- what came into being since the entry is tracked from now on -/
theorem Inv.track {a : Addr} {o : HO} {oe : Obj} {vs : Array Value} (I : Inv X pins σ H s) (n : H a = none) (e : s.heap.get? a = some oe) (d : oe.data = .fields vs) (nL : a ≠ X.env.locals) (old : X.s_0.heap.get? a = none) (np : ∀ p ∈ X.pn ++ pins, p.1 ≠ a)
    (new : ObjOk X.prog X.w (upd H a o) s.heap a o) : Inv X pins σ (upd H a o) s := by
  have up : ∀ {b : Addr} {u : HO}, H b = some u → upd H a o b = some u := fun {b u} z => by rw [upd_ne (ne_of_none z n)]; exact z
  have notA : ∀ {b : Addr} {u : Obj}, X.s_0.heap.get? b = some u → b ≠ a := fun {b u} z y => by rw [y, old] at z; cases z
  refine ⟨I.ok, I.os, I.bare, ⟨I.base.keep, I.base.slot, fun b u z y x => ?_, I.base.there, fun b xs z => up (I.base.tups b xs z), fun b u v z => up (I.base.frzs b u v z), fun b ps z => ?_⟩, I.loc, I.cell, ?_, fun x c z => ?_, fun p hp => ?_, fun b u z => ?_, I.len⟩
  · rw [upd_ne (notA z)]
    exact I.base.free b u z y x
  · obtain ⟨more, q⟩ := I.base.tbls b ps z
    exact ⟨more, up q⟩
  · rw [upd_ne (Ne.symm nL)]
    exact I.free
  · have nc : c ≠ a := fun y => by
      obtain ⟨v, oc, q1, q2⟩ := I.cell x c z
      rw [y, e] at q1
      cases q1
      rw [d] at q2
      cases q2
    rw [upd_ne nc]
    exact I.freeC x c z
  · obtain ⟨q1, q2, q3⟩ := I.pin p hp
    exact ⟨q1, by rw [upd_ne (np p hp)]; exact q2, q3⟩
  · by_cases hb : b = a
    · subst hb
      rw [upd_same] at z
      cases z
      exact new
    · rw [upd_ne hb] at z
      exact (I.hok b u z).stay (fun _ _ _ q => q) (fun _ q => up q) fun _ _ q => up q
end
/-- both classes are named, the suite runs to its end, the exception stays tracked -/
def wAs2 (K : PySem.W.Frag) (c1 c2 : Value) (i : Nat) (ts : Addr → Value → Option Addr → TS) (D : Ends) : WX := fun cls d σ H =>
  ∃ C, cls = .ref C ∧ PySem.W.exmAny K cls [c1, c2] = some true ∧ ∀ a, H a = none → ts a cls d { nx := fun σ' H' => H' a = none → D.nx (σ'.set i none) (upd H' a (exv a C d)), rt := fun _ _ => False, bk := fun _ _ => False, ct := fun _ _ => False } (σ.set i (some (.ref a))) H
section
variable {X : Cx} {x1 x2 n : Str} {c1 c2 : Value} {i kk : Nat} {body suite : List Stmt} {b₀ : Stmt} {p1 p2 tp pos pos' : Pos} {tb : WX → TS} {ts : Addr → Value → Option Addr → TS}
theorem ps_try2 (hex : X.ex = []) (hs : X.stack = X.env :: X.outer) (hf : X.env.frame = some X.env.locals) (hN : X.N.Nodup) (hi : X.N[i]? = some n) (hln : X.env.kindOf n = some .local) (hc1 : Names X x1 c1) (hc2 : Names X x2 c2)
    (hb : ∀ (W : WX) (pn : List (Addr × Obj)) (xe : Value → Shared → Prop), Takes (X.tr pn xe) W → PSs (X.tr pn xe) body (tb W))
    (hsu : ∀ (a : Addr) (oe : Obj) (cls : Value) (d : Option Addr) (pn : List (Addr × Obj)), Zc cls d oe → (∃ vs, oe.data = .fields vs) → PSs (X.suite a ((a, oe) :: pn)) (b₀ :: suite) (ts a cls d)) :
    PS X (.Try body [.ExceptHandler (some (.Tuple [.Name x1 p1, .Name x2 p2] kk tp)) (some n) (b₀ :: suite) pos'] [] [] pos) (fun D σ H => tb (wAs2 X.K c1 c2 i ts D) D σ H) := by
  refine ⟨fun pins s σ H D I h => ?_⟩
  have ok := I.ok
  have frm : X.A.frames = some (X.env :: X.outer) := by rw [ok.frames, hs]
  refine wpAny_Try_except (wpAny_mono ((hb (wAs2 X.K c1 c2 i ts D) (X.pn ++ pins) (fun e z1 => wpAny (model X.prog X.w) X.A (noteFrame e X.env) (fun _ z2 => wpAny (model X.prog X.w) X.A (setFlight e none) (fun _ z3 =>
    wpAny (model X.prog X.w) X.A (handleBy e X.env [.ExceptHandler (some (.Tuple [.Name x1 p1, .Name x2 p2] kk tp)) (some n) (b₀ :: suite) pos']) (SP X pins D) X.xe z3) X.xe z2) X.xe z1) (fun u s' air => ?_)).run [] s σ H D (I.toTry _) h) (fun f s1 q => ?_) fun _ _ q => q)
  · obtain ⟨a, B, sI, pins', σ', H', cls, d, rfl, J', nb, up, sky, na, os, ag, C, rfl, hm, w⟩ := air
    have J : Inv X pins σ' H' sI := J'.ofTry ok
    show wpAny (model X.prog X.w) X.A (noteFrame (.ref a) X.env) _ _ _
    refine Sky.land Zc.steady frm hf (show Sky B (X.env :: X.outer) a (Zc (.ref C) d) X.env.locals s'.heap by rw [← hs]; exact sky) fun h3 fl3 up3 => ?_
    have noFr : ∀ {h : Heap} {o : Obj} {vs : Array Value}, h.FunFrames B (X.env :: X.outer) → h.get? a = some o → o.data = .fields vs → a ∉ frs (X.env :: X.outer) := fun {h o vs} ff e dd m => by
      obtain ⟨_, o', e', no⟩ := ff.mem m
      rw [e] at e'; cases e'
      exact no _ dd
    obtain ⟨oe3, vs3, he3, hz3, hd3⟩ := fl3.there
    have nfr := noFr fl3.2.2.1 he3 hd3
    have nL : a ≠ X.env.locals := fun z => nfr (List.mem_filterMap.mpr ⟨X.env, List.mem_cons_self, by rw [hf, z]⟩)
    have nF : a ∉ X.fs := fun m => by
      obtain ⟨e, he, q⟩ := List.mem_filterMap.mp m
      exact nfr (List.mem_filterMap.mpr ⟨e, List.mem_cons_of_mem _ he, q⟩)
    have nI : sI.heap.get? a = none := by
      cases z : sI.heap.get? a with
      | none => rfl
      | some o =>
        have y := nb a o z (by rw [hs]; exact nfr)
        rw [fl3.2.1] at y
        cases y
    have old : X.s_0.heap.get? a = none := by
      cases z : X.s_0.heap.get? a with
      | none => rfl
      | some o =>
        obtain ⟨o', y⟩ := J.base.there a o z (by rw [hex]; simp)
        rw [nI] at y
        cases y
    have J3 : Inv X pins σ' H' { s' with heap := h3 } := J.landed nb fl3.1 (up.trans up3) os ag
    have S3 := J3.suite he3 hd3 na nL nF
    refine wpAny_handleBy_cons (codeAny_handlers_test ?_) (by intro q; cases q)
    have asks : ∀ {x : Str} {c : Value} {np : Pos} {Q : Value → Shared → Prop} {E : Value → Shared → Prop}, Names X x c → Q c { s' with heap := h3 } → wpAny (model X.prog X.w) (X.A.mark (some (.ref a))) (eval (.Name x np) X.env) Q E { s' with heap := h3 } := fun {x c np Q E} hc q => by
      obtain ⟨hg, hdbg, hm | ⟨hm, hv, hnn⟩⟩ := hc
      · exact ld_glob (X := X.suite a ((a, oe3) :: (X.pn ++ pins))) S3 hg hm q hdbg
      · exact ld_blt (X := X.suite a ((a, oe3) :: (X.pn ++ pins))) S3 hg hm hv q hnn hdbg
    refine wpAny_Tuple (wpAny_items_cons (asks hc1 (wpAny_items_cons (asks hc2 (wpAny_items_nil ⟨by size_fits, ?_⟩)))))
    have kp : ∀ q o, h3.get? q = some o → (h3.push { cls := .type "tuple", data := .seq [c1, c2].toArray }).get? q = some o := fun _ _ z => Heap.get?_push_of_some _ z
    have LT : PySem.W.Looks (model X.prog X.w) h3 (typeOf (.ref a)) (.ref C) := fun A Q E s k q => wpAny_typeOf_ref (k _ _ he3) (by rw [hz3.1]; exact q)
    refine (PySem.W.exm_tup2 (J3.kIn.keeps kp) (LT.keeps kp) (Heap.get?_push_size h3 rfl) hm).here ?_
    refine codeAny_handlers_suite_as (HandSPX.lands_againZ (flying_up fl3 kp) fun h4 fl4 up4 => ?_)
    have J4 : Inv X pins σ' H' { s' with heap := h4 } := J.landed nb fl4.1 ((up.trans up3).trans ((Heap.UpToSlots.of_keeps kp).trans up4)) os ag
    obtain ⟨oe4, vs4, he4, hz4, hd4⟩ := fl4.there
    have S4 := J4.suite he4 hd4 na nL nF
    refine store_ok (X := X.suite a ((a, oe4) :: (X.pn ++ pins))) (v := .ref a) S4 hN hi (.inl hln) rfl (fun s5 S5 => ?_) (.inr hln)
    refine wpAny_mono ((hsu a oe4 (.ref C) d (X.pn ++ pins) hz4 ⟨_, hd4⟩).run [] s5 _ H' _ S5 (w a na)) (fun f s6 q => ?_) (fun _ _ z => False.elim z)
    cases f with
    | next =>
      obtain ⟨σ6, H6, S6, q6⟩ := q
      obtain ⟨g1, g2, _⟩ := S6.pin (a, oe4) (List.mem_append_left _ List.mem_cons_self)
      have J6 := S6.unsuite (pins := pins) ok
      have ap : ∀ p ∈ X.pn ++ pins, p.1 ≠ a := fun p hp z => by
        have y := (J.pin p hp).1
        rw [z, nI] at y
        cases y
      exact gone_ok (Inv.track (o := exv a C d) J6 g2 g1 hd4 nL old ap (exv_ok g1 hz4 hd4)) hN hi hln fun s7 J7 => ⟨_, _, J7, q6 g2⟩
    | brk =>
      obtain ⟨σ6, H6, S6, q6⟩ := q
      exact False.elim q6
    | cont =>
      obtain ⟨σ6, H6, S6, q6⟩ := q
      exact False.elim q6
    | ret u =>
      obtain ⟨v6, σ6, H6, S6, r6, q6⟩ := q
      exact False.elim q6
  · cases f with
    | next =>
      obtain ⟨σ1, H1, J1, q⟩ := q
      exact wpAny_execs_nil ⟨σ1, H1, J1.ofTry ok, q⟩
    | brk =>
      obtain ⟨σ1, H1, J1, q⟩ := q
      exact ⟨σ1, H1, J1.ofTry ok, q⟩
    | cont =>
      obtain ⟨σ1, H1, J1, q⟩ := q
      exact ⟨σ1, H1, J1.ofTry ok, q⟩
    | ret u =>
      obtain ⟨v, σ1, H1, J1, r, q⟩ := q
      exact ⟨v, σ1, H1, J1.ofTry ok, r, q⟩
end
end Wf

set_option Elab.async false
set_option linter.all false
set_option maxRecDepth 100000
set_option maxHeartbeats 2000000
namespace Wf
open PySem PySem.Spec PyProof.Rows L2 LamX
/-! ### promises of defs that may raise -/
/-- the fields of an exception, in its dict at d -/
def Xd (K : PySem.W.Frag) (I : Hp) : Option Addr → List (Str × Tr) → Prop
  | none, es => es = []
  | some d, es => ∃ fs, I d = some (.xd fs) ∧ Dfs K I fs es
theorem Xd.mono {K : PySem.W.Frag} {I I' : Hp} (s : Sub I I') : ∀ {d : Option Addr} {es : List (Str × Tr)}, Xd K I d es → Xd K I' d es
  | none, _, h => h
  | some _, _, ⟨fs, h, q⟩ => ⟨fs, s _ _ nt_xd h, q.mono s⟩
theorem Xd.dt {K : PySem.W.Frag} {I : Hp} {a C : Addr} : ∀ {d : Option Addr} {es : List (Str × Tr)}, Xd K I d es → I a = some (exv a C d) → Dt K I (.ref a) (.exc C es)
  | none, _, h, e => by
    have h : _ = _ := h
    subst h
    exact .exc0 e
  | some _, _, ⟨fs, h, q⟩, e => .exc e h q
/-- which exceptions: class, fields -/
abbrev XQ := Addr → List (Str × Tr) → Prop
def spX (K : PySem.W.Frag) (T : List (Addr × Str)) (pre : List Tr → Prop) (post : List Tr → Tr → Prop) (xp : List Tr → XQ) : Sp := fun vs H Q E => ∃ (m : Addr → Prop) (ts : List Tr), Dts K (mi m H) vs ts ∧ pre ts ∧ (∀ b, m b → ∃ o, H b = some o) ∧ Tabs T H ∧
  (∀ v t H', post ts t → Fe (fun _ => False) H H' → Tabs T H' → Dt K (mi m H') v t → Q v H') ∧
  ∀ C d es H', xp ts C es → Fe (fun _ => False) H H' → Tabs T H' → Xd K (mi m H') d es → E (.ref C) d H'
/-- what the context lets out -/
def Xo (X : Cx) (B : Bs) (xq : XQ) : Prop := ∃ E : XK, Takes X (fun cls d _ H => E cls d H) ∧ ∀ (M : Pl) (Δ : List En) (σ : L2.St) (H : Hp) C d es, xq C es → Sk X.K B M H σ Δ → Xd X.K (mi M.m H) d es → E (.ref C) d H
structure FnX (P : Program) (w : World) (K : PySem.W.Frag) (mg : Str → Option Value) (base : Heap) (x : Str) (k : Nat) (ps : List Str) (sp : Sp) : Prop where
  ex : ∃ f fd, FnOk P w K mg base (L2.CX P w) k f fd ps sp ∧ mg x = some (.ref f) ∧ PySem.W.keepIn K (.ref f) = true ∧ Binds K fd ps []
structure FnKX (P : Program) (w : World) (K : PySem.W.Frag) (mg : Str → Option Value) (base : Heap) (x : Str) (k n j : Nat) (ps ks : List Str) (sp : Sp) : Prop where
  ex : ∃ f fd, FnOk P w K mg base (L2.CX P w) k f fd ps sp ∧ mg x = some (.ref f) ∧ PySem.W.keepIn K (.ref f) = true ∧ KBinds K fd ps ks (gK n j) (gK n j)
section
variable {P : Program} {w : World} {K : PySem.W.Frag} {mg : Str → Option Value} {base : Heap} {x qual : Str} {st : Stmt} {f : Addr} {fd : FuncData} {N ps : List Str} {k : Nat} {T : List (Addr × Str)} {pre : List Tr → Prop} {post : List Tr → Tr → Prop} {xp : List Tr → XQ}
/-- such a def, by its body -/
theorem ok_X (F : Fun K x qual st f fd) (S : FnScope N ps (defScope st)) (hpre : ∀ ts, pre ts → ts.length = ps.length) (hps : ps.length ≤ N.length)
    (hb : ∀ (cdv : Value) (A : Around) (outer : List Env) (s : Shared) (H : Hp) (E : XK) (m : Addr → Prop) (ts : List Tr), Room k (A.deeper (envOfC qual (defScope st) s.heap.objs.size f cdv)) → pre ts →
      Xo (cxOf (L2.CX P w) P w K mg base N qual (defScope st) f cdv A outer s H E) (bF T H m) (xp ts) →
      SS (cxOf (L2.CX P w) P w K mg base N qual (defScope st) f cdv A outer s H E) (bF T H m) ⟨m, fun _ => False⟩ (slots N (ts.map En.dat)) (defBody st) ⟨fun _ _ => post ts .non, fun t _ => post ts t, fun _ _ => False, fun _ _ => False⟩) :
    FnOk P w K mg base (L2.CX P w) (k + 1) f fd ps (spX K T pre post xp) := by
  refine F.okX S (fun vs H Q E h => ?_) (fun cdv A outer s H vs Q E hr h => ?_)
  · obtain ⟨m, ts, d, hp, _⟩ := h
    rw [d.length, hpre ts hp]
  · obtain ⟨m, ts, d, hp, al, tb, q, qx⟩ := h
    have hlen : ts.length = ps.length := hpre ts hp
    have noA : ∀ (i : Nat) (e : En) (l : Addr), (ts.map En.dat)[i]? = some e → ¬ e.has l := fun i e l he y => by
      rw [List.getElem?_map] at he
      cases h : ts[i]? with
      | none => rw [h] at he; cases he
      | some t => rw [h] at he; cases he; cases y
    have Sk0 : Sk K (bF T H m) ⟨m, fun _ => False⟩ H (L2.start N vs) (slots N (ts.map En.dat)) := by
      refine sk_start (by simp; omega) (by simp [d.length]) rfl (fun _ => Iff.rfl) (fun _ => Iff.rfl) (fun _ z => z.elim) al tb (fun i j e f l he _ el _ => absurd el (noA i e l he)) fun i v e hv he => ?_
      rw [List.getElem?_map] at he
      cases h : ts[i]? with
      | none => rw [h] at he; cases he
      | some t =>
        rw [h] at he; cases he
        obtain ⟨v', h1, h2⟩ := d.get h
        rw [hv] at h1; cases h1
        exact h2
    have out : Xo (cxOf (L2.CX P w) P w K mg base N qual (defScope st) f cdv A outer s H E) (bF T H m) (xp ts) :=
      ⟨E, takes_of rfl rfl rfl rfl, fun M Δ σ H' C d es hx S' xd => qx C d es H' hx S'.fr S'.tb (xd.mono (mi_le S'.m0))⟩
    refine ⟨_, pss_self, hb cdv A outer s H E m ts hr hp out _ H Sk0 _ ⟨fun M' Δ' σ' H' a b c => ?_, fun t M' Δ' v σ' H' a b c dd => ?_, fun _ _ _ _ z => z.elim, fun _ _ _ _ z => z.elim⟩⟩
    · exact q .non .non H' a c.fr c.tb .non
    · exact q v t H' a c.fr c.tb (dd.mono (mi_le c.m0))
end
section
variable {X : Cx} {B : Bs} {M : Pl} {Δ : List En} {e : Expr} {es : List Expr} {kws : List Keyword} {Φ : Tr → List En → Prop} {Ψ : Eo} {x : Str} {k n j : Nat} {ps ks : List Str} {pre : List Tr → Prop} {post : List Tr → Tr → Prop} {xp : List Tr → XQ} {xq : XQ}
/-- f(e, ..), f may raise -/
theorem ee_callX {p pos : Pos} (xo : Xo X B xq) (F : FnX X.prog X.w X.K X.mg X.base x k ps (spX X.K B.T pre post xp)) (hr : Room k X.A) (hg : Gl X x) (h : EA X B M Δ (e :: es) fun ts Δ1 => pre ts ∧ (∀ t, post ts t → Φ t Δ1) ∧ ∀ C es', xp ts C es' → xq C es')
    (hdb : (x == ("__debug__" : Str)) = false := by decide) (he : starEach (e :: es) X.env = (false, eval e X.env) :: starEach es X.env := by rfl) (hpl : (backTo pos (starEach es X.env)).any (·.1) = false := by rfl) : EE X B M Δ (.Call (.Name x p) (e :: es) [] pos) Φ := fun σ H S Q kk => by
  obtain ⟨f, fd, ok, hm, hk, hb⟩ := F.ex
  obtain ⟨E, tk, ho⟩ := xo
  refine PE.to (pe_call ok hr hg hm hk hb .nil (E := E) (passes_call tk fun _ _ _ _ z => z) pa_self hdb he hpl) (h σ H S _ fun ts Δ1 vs H1 q fe S1 d => ?_)
  rw [List.append_nil]
  exact ⟨M.m, ts, d, q.1, S1.al, S1.tb, fun v t H' hp f2 tb dd => kk t Δ1 v H' (q.2.1 t hp) (fe.trans (f2.imp fun _ _ _ z => z.elim)) (S1.feGrow f2 tb) dd, fun C d es' H' hx f2 tb xd => ho M Δ1 σ H' C d es' (q.2.2 C es' hx) (S1.feGrow f2 tb) xd⟩
/-- f(e, .., k = v), f may raise -/
theorem ee_callKX {p pos : Pos} (xo : Xo X B xq) (F : FnKX X.prog X.w X.K X.mg X.base x k n j ps ks (spX X.K B.T pre post xp)) (hr : Room k X.A) (hg : Gl X x)
    (h : EA X B M Δ (e :: es) fun ts Δ1 => EK X B M Δ1 kws fun us Δ2 => ts.length = n ∧ us.length = j ∧ pre (ts ++ us) ∧ (∀ t, post (ts ++ us) t → Φ t Δ2) ∧ ∀ C es', xp (ts ++ us) C es' → xq C es')
    (hall : (backToKw pos (keywordEach kws X.env)).all (·.1.isSome) = true := by rfl) (hks : (backToKw pos (keywordEach kws X.env)).filterMap (·.1) = ks := by rfl)
    (hdb : (x == ("__debug__" : Str)) = false := by decide) (he : starEach (e :: es) X.env = (false, eval e X.env) :: starEach es X.env := by rfl)
    (hpl : ((backTo pos (starEach (e :: es) X.env)).any (·.1) || (backToKw pos (keywordEach kws X.env)).any (·.1.isNone)) = false := by rfl) : EE X B M Δ (.Call (.Name x p) (e :: es) kws pos) Φ := fun σ H S Q kk => by
  obtain ⟨f, fd, ok, hm, hk, hb⟩ := F.ex
  obtain ⟨E, tk, ho⟩ := xo
  refine PE.to (pe_callK ok hr hg hm hk hb (E := E) (passes_call tk fun _ _ _ _ z => z) pa_self pk_self hall hks hdb he hpl) (h σ H S _ fun ts Δ1 vs H1 q fe S1 d => q σ H1 S1 _ fun us Δ2 zs H2 q2 f2 S2 d2 => ?_)
  obtain ⟨l1, l2, q3, q4, q5⟩ := q2
  rw [show gK n j vs zs = vs ++ zs from if_pos ⟨by rw [d.length]; exact l1, by rw [d2.length]; exact l2⟩]
  exact ⟨M.m, ts ++ us, (d.mono (S1.sub f2)).append d2, q3, S2.al, S2.tb, fun v t H' hp f3 tb dd => kk t Δ2 v H' (q4 t hp) ((fe.trans f2).trans (f3.imp fun _ _ _ z => z.elim)) (S2.feGrow f3 tb) dd,
    fun C d es' H' hx f3 tb xd => ho M Δ2 σ H' C d es' (q5 C es' hx) (S2.feGrow f3 tb) xd⟩
/-! ### raise C(e) -/
/-- what an __init__(self, v) with self.f = v promises -/
def spE1 (f : Str) (C : Addr) : Sp := fun vs H Q _ => ∃ (a : Addr) (y : V), vs = [.ref a, y] ∧ H a = some (exo a C none) ∧ ∀ dx, H dx = none → dx ≠ a → Q .non (upd (upd H dx (exd dx [(f, y)])) a (exo a C (some dx)))
/-- an exception class with one field -/
structure ExFn (P : Program) (w : World) (K : PySem.W.Frag) (mg : Str → Option Value) (base : Heap) (x f : Str) (C : Addr) (k : Nat) (T nw ini : String) (mb : List Value) : Prop where
  eb : ExBase T nw ini mb
  ec : ExCls K C nw mb
  gl : mg x = some (.ref C)
  fn : ∃ fI fd ps, PySem.W.findIn K (.ref C) "__init__" = some (some (.ref fI)) ∧ PySem.W.typeIn K (.ref fI) = some (.type "function") ∧ FnOk P w K mg base CX0 k fI fd ps (spE1 f C) ∧ Binds K fd ps []
theorem s_raise1 {f : Str} {C : Addr} {T nw ini : String} {mb : List Value} {p pos pos2 : Pos} (xo : Xo X B xq) (F : ExFn X.prog X.w X.K X.mg X.base x f C k T nw ini mb) (hc : X.calm = true) (hr : Room (k + 1) X.A) (hg : Gl X x) (h : EE X B M Δ e fun t Δ1 => xq C [(f, t)])
    (hdb : (x == ("__debug__" : Str)) = false := by decide) (he : starEach [e] X.env = (false, eval e X.env) :: starEach [] X.env := by rfl) :
    S1 X B M Δ (.Raise (some (.Call (.Name x p) [e] [] pos)) none pos2) Ψ := fun σ H S D pp => by
  obtain ⟨fI, fd, ps, h1, h2, h3, h4⟩ := F.fn
  obtain ⟨E, tk, ho⟩ := xo
  refine PS.to (ps_raise hc tk (pmk_exk F.eb F.ec h1 h2 h3 hr h4 .nil pass0 hg F.gl (pa_cons pe_self pa_nil he) hdb he rfl)) (h σ H S _ fun t Δ1 v H1 q fe S1 d => ?_)
  refine ⟨show 1 ≤ 1000 by decide, fun a ha => ⟨a, v, rfl, upd_same, fun dx hd1 hd2 => ⟨rfl, dx, [(f, v)], upd_same, by rw [upd_ne hd2, upd_same], by rw [upd_ne hd2] at hd1; exact hd1, ?_⟩⟩⟩
  rw [upd_ne hd2] at hd1
  have eH : upd (del (upd (upd (upd H1 a (exo a C none)) dx (exd dx [(f, v)])) a (exo a C (some dx))) a) dx (.xd [(f, v)]) = upd H1 dx (.xd [(f, v)]) := funext fun b => by
    by_cases hb : b = dx
    · rw [hb, upd_same, upd_same]
    · rw [upd_ne hb, upd_ne hb]
      by_cases hb2 : b = a
      · rw [hb2, del_same, ha]
      · rw [del_ne hb2, upd_ne hb2, upd_ne hb, upd_ne hb2]
  rw [eH]
  have S2 := S1.same (same_new (o := .xd [(f, v)]) hd1)
  exact ho M Δ1 σ _ C (some dx) [(f, t)] q S2 ⟨_, mi_of (S1.notM hd1) upd_same, .cons (d.mono (Sub.mi (sub_new hd1))) .nil⟩
end
section
variable {P : Program} {w : World} {K : PySem.W.Frag} {mg : Str → Option Value} {base : Heap} {qual : Str} {st : Stmt} {f : Addr} {fd : FuncData} {T nw ini : String} {mb : List Value} {y fld msg t : Str} {C : Addr} {j : Nat} {p1 p2 p3 p4 p5 p6 p7 p8 p9 p10 : Pos}
/-- such an __init__, by its text -/
theorem ok_exc1 (F : Fun K "__init__" qual st f fd) (S : FnScope ["self", y] ["self", y] (defScope st)) (EB : ExBase T nw ini mb) (EC : ExCls K C nw mb) (hm : mg t = none) (hv : bootBuiltins t = some (.type T)) (vV : PySem.W.findCls K (.type T) (.type "type") "__init__" = some (.val (.builtin ini)))
    (ht : (defScope st).names.lookup t = some .globalImplicit) (hy : (defScope st).names.lookup y = some .local) (hs0 : (defScope st).names.lookup ("self" : Str) = some .local) (hno : PySem.W.findIn K (.ref C) fld = some none)
    (hb : defBody st = [.Expr (.Call (.Attribute (.Name t p1) "__init__" p2) [.Name "self" p3, .Constant (.str msg) j p4] [] p5) p6, .Assign [.Attribute (.Name "self" p7) fld p8] (.Name y p9) p10])
    (hc : ∀ (s : Shared) (cdv : Value), ∃ pl : Sem Bool, eval (.Call (.Attribute (.Name t p1) "__init__" p2) [.Name "self" p3, .Constant (.str msg) j p4] [] p5) (envOfC qual (defScope st) s.heap.objs.size f cdv) = (do
      let ov ← eval (.Name t p1) (envOfC qual (defScope st) s.heap.objs.size f cdv)
      standAt p2.atName
      let (g, first) ← holding [ov] (getMethod ov "__init__" pl)
      callWith p5 g first (backTo p5 (starEach [.Name "self" p3, .Constant (.str msg) j p4] (envOfC qual (defScope st) s.heap.objs.size f cdv))) (backToKw p5 (keywordEach [] (envOfC qual (defScope st) s.heap.objs.size f cdv)))))
    (hs1 : ∀ (s : Shared) (cdv : Value), swapsWith (.Call (.Attribute (.Name t p1) "__init__" p2) [.Name "self" p3, .Constant (.str msg) j p4] [] p5) none p6.line (envOfC qual (defScope st) s.heap.objs.size f cdv) = pure false)
    (hs2 : ∀ (s : Shared) (cdv : Value), swapsWith (.Name y p9) (some (.Attribute (.Name "self" p7) fld p8)) p10.line (envOfC qual (defScope st) s.heap.objs.size f cdv) = pure false)
    (hn : t ≠ "__name__" := by decide) (hdb : (t == ("__debug__" : Str)) = false := by decide) (hy1 : (y == ("__debug__" : Str)) = false := by decide) (hy2 : (y == ("__classdict__" : Str)) = false := by decide) (hst : Manifest.isStub T = false := by decide +kernel) (hin : PySem.W.handedIn (.builtin ini) = true := by decide +kernel) :
    FnOk P w K mg base CX0 2 f fd ["self", y] (spE1 fld C) := by
  refine F.ok S (fun vs H Q E h => ?_) (fun cdv A outer s H vs Q E hr h => ?_)
  · obtain ⟨a, v, rfl, _⟩ := h
    rfl
  · obtain ⟨a, v, rfl, ea, q⟩ := h
    rw [hb]
    obtain ⟨pl, hcq⟩ := hc s cdv
    have vs0 : Vis (cxOf CX0 P w K mg base ["self", y] qual (defScope st) f cdv A outer s H E).nox.env.scope "self" := .inl hs0
    refine ⟨_, pss_cons (ps_expr (pe_exb (nw := nw) (mb := mb) EB ht hm hv vV (pa_cons (pe_var (i := 0) rfl vs0) (pa_cons pe_str pa_nil)) (pl := pl) (hc := hcq) (hn := hn) (hdb := hdb) (hst := hst) (hin := hin)) (hs1 s cdv))
      (pss_one (ps_exs (nw := nw) (mb := mb) EB (pe_var (i := 0) rfl vs0) (pe_var (i := 1) rfl (.inl hy) hy1 hy2) (hs2 s cdv))), ?_⟩
    exact ⟨.ref a, rfl, a, C, [.str msg], rfl, show 1 ≤ 1000 by decide, EC, ea, v, rfl, .ref a, rfl, a, C, rfl, EC, hno, ea, fun dx n ne => q dx n ne⟩
end
end Wf

set_option Elab.async false
set_option linter.all false
set_option maxRecDepth 100000
set_option maxHeartbeats 2000000
namespace Wf
open PySem PySem.Spec PyProof.Rows L2 LamX
/-! ### f(lambda: e), e may raise -/
section
variable {X : Cx} {pins : List (Addr × Obj)} {σ : L2.St} {H HZ : Hp} {s : Shared}
/-- a lambda is made, whatever it captures -/
theorem lam_mkC {T : List (Addr × Str)} {c P : Addr} {params : Arguments} {body : Expr} {scope : Scope} {pos : Pos} {E Q : Value → Shared → Prop} {q : Str} (I : Inv X pins σ H s) (TB : TabB X.base X.mg c P)
    (hcode : X.env.code = .ref c) (hq : X.env.qual ++ "<lambda>" = q) (hm : (P, q) ∈ T) (hu : ∀ p ∈ T, p.1 = P → p.2 = q) (hT : Tabs T H) (hdef : defaultsOf params X.env = ([], [])) (hfree : ∀ y ∈ scope.names, y.2 = .free → ∃ c, X.env.cells.lookup y.1 = some c)
    (h : ∀ (f c' : Addr) (pm ctv : Value) (H1 : Hp) (s' : Shared), Inv X pins σ H1 s' → ExtN H H1 → TblK H H1 → Tabs T H1 →
      s'.heap.get? f = some (PySem.W.kla_obj "<lambda>" q params body scope (cloFrom X.env.cells scope.names []) pm c' ctv) → H1 f = none → f ∉ frs X.stack → H1 c' = some (CodeO c' q) → Q (.ref f) s') : wpAny (model X.prog X.w) X.A (eval (.Lambda params body scope pos) X.env) Q E s := by
  subst hq
  obtain ⟨ps, eP, tP, aP⟩ := hT _ hm
  have oP : s.heap.get? P = some { cls := .none, data := .fields ps } := I.hok P _ eP
  have new : ∀ {f : Addr}, s.heap.objs.size ≤ f → f ∉ frs X.stack := fun {f} z y => by
    rcases List.mem_cons.mp (I.stkSub _ y) with e | e
    · exact Nat.lt_irrefl _ (Nat.lt_of_lt_of_le (e ▸ I.lt) z)
    · exact I.nofs z e
  refine PySem.W.kla_eval hdef ?_
  cases hc : codeAmong pos ps.toList with
  | some cv =>
    obtain ⟨c', rfl, oc⟩ := aP pos cv hc
    refine PySem.W.kla_makeFunctionHit (mg := X.mg) (c := c) (P := P) (ps := ps) (closure_ok hfree) I.ok.glob (I.mod.glob.keeps I.bk) hcode (TB.code.keeps I.bk) oP tP hc (TB.bm.keeps I.bk) fun ctv h' tk kp ge => ?_
    exact h _ c' _ ctv H _ (I.kept (t' := tk) fun b o z => Heap.get?_push_of_some _ (kp b o z)) (ExtN.refl H) (fun b qs z => ⟨qs, z⟩) hT (Heap.get?_push_size _ rfl) (I.hok.fresh ge) (new ge) oc
  | none =>
    refine PySem.W.kla_makeFunction (mg := X.mg) (c := c) (P := P) (ps := ps) (closure_ok hfree) I.ok.glob (I.mod.glob.keeps I.bk) hcode (TB.code.keeps I.bk) oP tP hc TB.gP (TB.bm.keeps I.bk) fun c' ctv h' tk ext ge lt rc ot => ?_
    obtain ⟨c2, o1, o2, o3, ec, o4, o5, o6⟩ := rc
    cases ec
    have fr : H c' = none := I.hok.fresh ge
    have ne : P ≠ c' := ne_of_none eP fr
    have bigger : s.heap.objs.size ≤ h'.objs.size := Nat.le_trans ge (Nat.le_of_lt lt)
    have J := inv_table (t' := tk) (more := #[rawInt pos.line, rawInt pos.col, .ref c']) (h' := h'.push (PySem.W.kla_obj "<lambda>" (X.env.qual ++ "<lambda>") params body scope (cloFrom X.env.cells scope.names []) ((X.mg "__name__").getD .none) c' ctv)) I eP (fun b o nb z => Heap.get?_push_of_some _ (ext b o nb z)) (Heap.get?_push_of_some _ ot) ge ⟨o1, o2, o3, Heap.get?_push_of_some _ o4, o5, o6⟩
    have xt : ExtN H (upd (upd H P (.tbl (ps ++ #[rawInt pos.line, rawInt pos.col, .ref c']))) c' (CodeO c' (X.env.qual ++ "<lambda>"))) := fun b o z nt => by
      have n1 : b ≠ P := fun y => by
        rw [y, eP] at z
        cases z
        exact nt _ rfl
      rw [upd_ne (ne_of_none z fr), upd_ne n1]
      exact z
    have tl : (ps ++ #[rawInt pos.line, rawInt pos.col, .ref c']).toList = ps.toList ++ [rawInt pos.line, rawInt pos.col, .ref c'] := by simp
    refine h _ c' _ ctv _ _ J xt (fun b qs z => ?_) (fun p hp => ?_) (Heap.get?_push_size _ rfl) ?_ (new bigger) upd_same
    · by_cases n1 : b = P
      · exact ⟨_, by rw [n1, upd_ne ne, upd_same]⟩
      · exact ⟨qs, by rw [upd_ne (ne_of_none z fr), upd_ne n1]; exact z⟩
    · by_cases n1 : p.1 = P
      · rw [n1, hu p hp n1]
        refine ⟨_, by rw [upd_ne ne, upd_same], by rw [tl]; exact PySem.TriplesOk_snoc _ _ _ _ tP, fun p' cv hcv => ?_⟩
        rw [tl] at hcv
        rcases among_app _ tP hcv with y | y
        · obtain ⟨c0, e1, e2⟩ := aP p' cv y
          exact ⟨c0, e1, xt _ _ e2 codeO_ne⟩
        · exact ⟨c', y, upd_same⟩
      · obtain ⟨qs, a1, a2, a3⟩ := hT p hp
        refine ⟨qs, by rw [upd_ne (ne_of_none a1 fr), upd_ne n1]; exact a1, a2, fun p' cv hcv => ?_⟩
        obtain ⟨c0, e1, e2⟩ := a3 p' cv hcv
        exact ⟨c0, e1, xt _ _ e2 codeO_ne⟩
    · rw [upd_ne (Nat.ne_of_gt lt), upd_ne (Nat.ne_of_gt (Nat.lt_of_lt_of_le (Heap.lt_size oP) bigger))]
      exact I.hok.fresh bigger
/-- the context of the def g that got the lambda -/
abbrev usrCx (X : Cx) (Ng : List Str) (x : Str) (sg : Scope) (g : Addr) (cdg : Value) (s : Shared) (H : Hp) : Cx := cxOf CX0 X.prog X.w X.K X.mg X.base Ng x sg g cdg X.A X.stack s H E0
/-- a(), a the lambda: what flies out of it may hang on the slots -/
theorem pe_actS {Ng : List Str} {qg : Str} {sg : Scope} {g f c' : Addr} {cdg pm ctv : Value} {params : Arguments} {body : Expr} {scope : Scope} {k i : Nat} {a : Str} {pn : List (Addr × Obj)} {xe : Value → Shared → Prop} {W : WX} {tb : XK → TE} {p1 p2 : Pos}
    (I : Inv X pins σ H s) (L : LamS X.env.scope scope) (hf : s.heap.get? f = some (PySem.W.kla_obj "<lambda>" (X.env.qual ++ "<lambda>") params body scope (cloFrom X.env.cells scope.names []) pm c' ctv)) (hfn : H f = none) (hfr : f ∉ frs X.stack)
    (hbind : bindArgs (PySem.W.kla_fn "<lambda>" (X.env.qual ++ "<lambda>") params body scope (cloFrom X.env.cells scope.names []) pm (.ref c') ctv) ⟨[], []⟩ = pure [])
    (tk : Takes ((usrCx X Ng qg sg g cdg s H).tr pn xe) W) (hr : Room (k + 1) (X.A.deeper (envOfC qg sg s.heap.objs.size g cdg)))
    (hbody : ∀ (E : XK) (A : Around) (outer : List Env) (s : Shared) (H : Hp), Room k (A.deeper (lamEnv X scope s.heap.objs.size f c')) → PE (lamCx X A outer s H E scope f c') body (tb E))
    (hN : Ng[i]? = some a) (hv : Vis sg a) (hd : (a == ("__debug__" : Str)) = false) (hcd : (a == ("__classdict__" : Str)) = false) :
    PE ((usrCx X Ng qg sg g cdg s H).tr pn xe) (.Call (.Name a p1) [] [] p2)
      (fun σZ HZ Q => ∃ E : XK, (∀ cls d H', E cls d H' → W cls d σZ H') ∧ σZ[i]? = some (some (.ref f)) ∧ HZ c' = some (CodeO c' (X.env.qual ++ "<lambda>")) ∧ tb E σ HZ Q) := by
  refine ⟨fun pinsZ sZ σZ HZ Q IZ h => ?_⟩
  obtain ⟨E, hW, hs, hc, ht⟩ := h
  refine wpAny_Call_Name_kw (thn ((pe_var (pos := p1) (i := i) hN hv hd hcd).run pinsZ sZ σZ HZ (fun v H1 => v = .ref f ∧ H1 = HZ) IZ ⟨.ref f, hs, rfl, rfl⟩) fun u s1 ⟨v, H1, I1, r1, ev, eH⟩ => ?_)
  subst ev
  rw [eH] at I1
  obtain rfl : u = Value.ref f := r1
  have here : s1.heap.get? f = some (PySem.W.kla_obj "<lambda>" (X.env.qual ++ "<lambda>") params body scope (cloFrom X.env.cells scope.names []) pm c' ctv) := I1.base.keep f _ hf hfn hfr (fun z => nomatch (show f ∈ ([] : List Addr) from z))
  refine PySem.W.callWith_F0 ⟨_, _, _, _, here⟩ ?_
  have un : Un (frs X.stack) [] H HZ s.heap s1.heap := I1.base
  obtain ⟨⟨oc, vs, t, hoc, hdc, hvc⟩, _, _⟩ := I1.hok c' _ hc
  have rc : codeAny (model X.prog X.w) (X.A.deeper (envOfC qg sg s.heap.objs.size g cdg)) (.call (.ref f) ⟨[], []⟩) (CR (L2.CX X.prog X.w) (envOfC qg sg s.heap.objs.size g cdg :: X.stack) X.prog X.w HZ s1 Q E) s1 := by
    refine PySem.W.kla_callFunE hr.depth here rfl L.co L.gen rfl ⟨c', oc, vs, t, rfl, hoc, hdc, hvc⟩ ?_
    rw [hbind]
    refine wpAny_pure (wpAny_newFunctionEnv (fun y hy => (L.own y hy).2) (fun y hy => absurd hy (by simp)) (fun h1 hns hsb => ⟨I1.nolimit.fresh _ hsb, ?_⟩) L.kind)
    show codeAny _ _ (.expr body (lamEnv X scope s1.heap.objs.size f c')) _ _
    have J : Inv (lamCx X (X.A.deeper (envOfC qg sg s.heap.objs.size g cdg)) (envOfC qg sg s.heap.objs.size g cdg :: X.stack) s1 HZ E scope f c') [] σ HZ { s1 with heap := h1, toks := s1.toks + ([] : List (Str × Value)).length } :=
      lam_start2 I L I1.env0 hr.hd un hns fun b o e => hsb.extBut b o (Nat.ne_of_lt (Heap.lt_size e)) (Heap.get?_push_of_some _ e)
    refine PySem.W.kla_codeExpr (wpAny_mono ((hbody E _ _ s1 HZ (hr.deeper _)).run [] _ _ HZ Q J ht) (fun v s' q => ?_) fun e s' q => q)
    obtain ⟨w', H', J', rv, q⟩ := q
    exact ⟨w', H', J'.os, J'.bare, J'.base, J'.hok, rv, q⟩
  refine wpAny_call (codeAny_mono rc fun r s' q => ?_)
  cases r with
  | error e => exact tk e s' (XE.of_call I1 (fun cls d H' y => hW cls d H' y) q)
  | ok fl =>
    cases fl with
    | ret u => exact I1.after q
    | next => exact False.elim q
    | brk => exact False.elim q
    | cont => exact False.elim q
end
/-- the def that calls what it got -/
def GivesS (X : Cx) (Ng : List Str) (x : Str) (sg : Scope) (g : Addr) (cdg : Value) (bg : List Stmt) (a q : Str) (TT : (XK → Hp → VK → Prop) → Hp → VK → Prop) : Prop :=
  ∀ (f c' : Addr) (s : Shared) (H : Hp) (Q : VK) (tl : XK → Hp → VK → Prop),
    (∀ (W : WX) (pn : List (Addr × Obj)) (xe : Value → Shared → Prop) (p1 p2 : Pos), Takes ((usrCx X Ng x sg g cdg s H).tr pn xe) W →
      PE ((usrCx X Ng x sg g cdg s H).tr pn xe) (.Call (.Name a p1) [] [] p2) (fun σZ HZ Q' => ∃ E : XK, (∀ cls d H', E cls d H' → W cls d σZ H') ∧ σZ[0]? = some (some (.ref f)) ∧ HZ c' = some (CodeO c' q) ∧ tl E HZ Q')) →
    H c' = some (CodeO c' q) → TT tl H Q → ∃ t, PSs (usrCx X Ng x sg g cdg s H).nox bg t ∧ t { nx := fun _ H' => Q .non H', rt := Q } (L2.start Ng [.ref f]) H
def tLamS (T : List (Addr × Str)) (TT : (XK → Hp → VK → Prop) → Hp → VK → Prop) (t : XK → TE) : TE := fun σ H Q => Tabs T H ∧ ∀ H1, ExtN H H1 → TblK H H1 → Tabs T H1 → TT (fun E H' Q' => t E σ H' Q') H1 Q
section
variable {X : Cx}
theorem pe_lamS {T : List (Addr × Str)} {TT : (XK → Hp → VK → Prop) → Hp → VK → Prop} {x a : Str} {g c P : Addr} {k : Nat} {pg : Arguments} {bg : List Stmt} {sg : Scope} {dV kV doc pm cdv ct oc : Value} {an od : Option Addr} {osl : Array (Option Value)} {Ng : List Str}
    {params : Arguments} {body : Expr} {scope : Scope} {t : XK → TE} {p lpos pos : Pos} (hg : Gl X x) (hm : X.mg x = some (.ref g)) (hk : PySem.W.keepIn X.K (.ref g) = true)
    (lk : X.K.lookup g = some ⟨oc, od, .func (PySem.W.fnOf x x pg bg sg dV kV doc pm an cdv ct), osl⟩) (hcg : PySem.W.codeIn X.K cdv x = true) (hb : L2.Binds X.K (PySem.W.fnOf x x pg bg sg dV kV doc pm an cdv ct) [a] []) (Sg : FnScope Ng [a] sg) (hNg : Ng[0]? = some a) (hva : Vis sg a)
    (hG : GivesS X Ng x sg g cdv bg a (X.env.qual ++ "<lambda>") TT)
    (TB : TabB X.base X.mg c P) (hcode : X.env.code = .ref c) (hmT : (P, X.env.qual ++ "<lambda>") ∈ T) (hu : ∀ p ∈ T, p.1 = P → p.2 = X.env.qual ++ "<lambda>") (hr : Room (k + 2) X.A) (L : LamS X.env.scope scope) (hdef : defaultsOf params X.env = ([], []))
    (hbind : ∀ (q : Str) (cl : List (Str × Addr)) (pm cv ctv : Value), bindArgs (PySem.W.kla_fn "<lambda>" q params body scope cl pm cv ctv) ⟨[], []⟩ = pure [])
    (hbody : ∀ (E : XK) (A : Around) (outer : List Env) (s : Shared) (H : Hp) (f c' : Addr), Room k (A.deeper (lamEnv X scope s.heap.objs.size f c')) → PE (lamCx X A outer s H E scope f c') body (t E))
    (hdb : (x == ("__debug__" : Str)) = false := by decide) (hd : (a == ("__debug__" : Str)) = false := by decide) (hcd : (a == ("__classdict__" : Str)) = false := by decide) :
    PE X (.Call (.Name x p) [.Lambda params body scope lpos] [] pos) (tLamS T TT t) := by
  refine ⟨fun pins s σ H Q I h => ?_⟩
  obtain ⟨hT, h⟩ := h
  refine wpAny_Call_Name_kw (ld_glob I hg hm ?_ hdb)
  refine PySem.W.callWith_K (h₀ := X.base) I.ok.mod.kin hk ?_ (by rfl) (by rfl)
  show wpAny _ _ (spliced ((false, eval (.Lambda params body scope lpos) X.env) :: backTo pos (starEach [] X.env))) _ _ s
  refine Calls.spliced_cons (lam_mkC I TB hcode rfl hmT hu hT hdef (L.has I.ok) fun f c' pm' ctv H1 s' I1 eN tK T1 hf hfn hfr hco => ?_)
  refine Calls.spliced_nil ⟨I1.kIn, ?_⟩
  have rc : codeAny (model X.prog X.w) X.A (.call (.ref g) ⟨[.ref f], []⟩) (CR CX0 X.stack X.prog X.w H1 s' Q E0) s' := by
    refine run_ofS (N := Ng) (ps := [a]) (us := [.ref f]) (vs := [.ref f]) lk hcg Sg hr I1.env0 (hb s' [.ref f] I1.kIn rfl) (.cons rfl .nil) rfl fun hr' => ?_
    obtain ⟨t', ht', hq'⟩ := hG f c' s' H1 Q (fun E H' Q' => t E σ H' Q') (fun W pn xe p1 p2 tk => pe_actS (i := 0) I1 L hf hfn hfr (hbind _ _ _ _ _) tk hr' (fun E A outer s H hr2 => hbody E A outer s H f c' hr2) hNg hva hd hcd) hco (h H1 eN tK T1)
    exact ⟨t', ht'.nox, hq'⟩
  refine wpAny_call (codeAny_mono rc fun r s2 q => ?_)
  cases r with
  | error e => exact (show False from q).elim
  | ok fl =>
    cases fl with
    | ret u => exact I1.after q
    | next => exact False.elim q
    | brk => exact False.elim q
    | cont => exact False.elim q
/-- what such a def makes of a lambda that raises exceptions of xq (or gives what R says): post -/
def TTd (K : PySem.W.Frag) (T : List (Addr × Str)) (R : Tr → Prop) (xq : XQ) (post : Tr → Prop) : (XK → Hp → VK → Prop) → Hp → VK → Prop := fun tl H Q => ∃ m : Addr → Prop, (∀ b, m b → ∃ o, H b = some o) ∧ Tabs T H ∧
  (∀ (H1 : Hp) (E : XK) (Q' : VK), Fe (fun _ => False) H H1 → Tabs T H1 → (∀ C d es H', xq C es → Fe (fun _ => False) H1 H' → Tabs T H' → Xd K (mi m H') d es → E (.ref C) d H') →
    (∀ v t H', R t → Fe (fun _ => False) H1 H' → Tabs T H' → Dt K (mi m H') v t → Q' v H') → tl E H1 Q') ∧
  ∀ v t H', post t → Fe (fun _ => False) H H' → Tabs T H' → Dt K (mi m H') v t → Q v H'
/-- what is data only -/
def En.onlyD : En → En
  | .dat t => .dat t
  | _ => .any
theorem Sk.onlyD {K : PySem.W.Frag} {B : Bs} {M : Pl} {H : Hp} {σ : L2.St} {Δ : List En} (S : Sk K B M H σ Δ) : Sk K (bF B.T H M.m) ⟨M.m, fun _ => False⟩ H σ (Δ.map En.onlyD) where
  len := by rw [List.length_map]; exact S.len
  al := S.al
  wm := fun b z => z.elim
  m0 := fun b z => z
  pm := fun b z => z.elim
  own := fun b z => .inl z
  wp := fun b z => z.elim
  fr := Fe.refl _ _
  tb := S.tb
  dis := fun i j e f l he hf el fl => by
    rw [List.getElem?_map] at he
    cases h : Δ[i]? with
    | none => rw [h] at he; cases he
    | some u => rw [h] at he; cases he; cases u <;> cases el
  sl := fun i e q => by
    rw [List.getElem?_map] at q
    cases h : Δ[i]? with
    | none => rw [h] at q; cases q
    | some u =>
      rw [h] at q
      cases q
      obtain ⟨o, h1, h2⟩ := S.sl i u h
      refine ⟨o, h1, ?_⟩
      cases u with
      | dat t => cases o <;> exact h2
      | any => cases o <;> exact True.intro
      | own l t => cases o <;> exact True.intro
      | pen p N => cases o <;> exact True.intro
      | tab l as rs => cases o <;> exact True.intro
/-- the rule for g(lambda: body) by data -/
theorem ee_lam {B : Bs} {M : Pl} {Δ : List En} {Φ : Tr → List En → Prop} {R : Tr → Prop} {xq : XQ} {post : Tr → Prop} {x a : Str} {g c P : Addr} {k : Nat} {pg : Arguments} {bg : List Stmt} {sg : Scope} {dV kV doc pm cdv ct oc : Value} {an od : Option Addr} {osl : Array (Option Value)} {Ng : List Str}
    {params : Arguments} {body : Expr} {scope : Scope} {p lpos pos : Pos} (hg : Gl X x) (hm : X.mg x = some (.ref g)) (hk : PySem.W.keepIn X.K (.ref g) = true)
    (lk : X.K.lookup g = some ⟨oc, od, .func (PySem.W.fnOf x x pg bg sg dV kV doc pm an cdv ct), osl⟩) (hcg : PySem.W.codeIn X.K cdv x = true) (hb : L2.Binds X.K (PySem.W.fnOf x x pg bg sg dV kV doc pm an cdv ct) [a] []) (Sg : FnScope Ng [a] sg) (hNg : Ng[0]? = some a) (hva : Vis sg a)
    (hG : GivesS X Ng x sg g cdv bg a (X.env.qual ++ "<lambda>") (TTd X.K B.T R xq post))
    (TB : TabB X.base X.mg c P) (hcode : X.env.code = .ref c) (hmT : (P, X.env.qual ++ "<lambda>") ∈ B.T) (hu : ∀ p ∈ B.T, p.1 = P → p.2 = X.env.qual ++ "<lambda>") (hr : Room (k + 2) X.A) (L : LamS X.env.scope scope) (hdef : defaultsOf params X.env = ([], []))
    (hbind : ∀ (q : Str) (cl : List (Str × Addr)) (pm cv ctv : Value), bindArgs (PySem.W.kla_fn "<lambda>" q params body scope cl pm cv ctv) ⟨[], []⟩ = pure [])
    (hbody : ∀ (E : XK) (A : Around) (outer : List Env) (s : Shared) (H H2 : Hp) (f c' : Addr), Room k (A.deeper (lamEnv X scope s.heap.objs.size f c')) → Xo (lamCx X A outer s H E scope f c') (bF B.T H2 M.m) xq →
      EE (lamCx X A outer s H E scope f c') (bF B.T H2 M.m) ⟨M.m, fun _ => False⟩ (Δ.map En.onlyD) body fun t _ => R t)
    (hq : ∀ t, post t → Φ t Δ) (hdb : (x == ("__debug__" : Str)) = false := by decide) (hd : (a == ("__debug__" : Str)) = false := by decide) (hcd : (a == ("__classdict__" : Str)) = false := by decide) :
    EE X B M Δ (.Call (.Name x p) [.Lambda params body scope lpos] [] pos) Φ := fun σ H S Q kk => by
  refine PE.to (pe_lamS (T := B.T) (TT := TTd X.K B.T R xq post) (k := k) (t := fun E σ' H' Q' => ∀ (A : Around) (outer : List Env) (s : Shared) (H0 : Hp) (f c' : Addr), Room k (A.deeper (lamEnv X scope s.heap.objs.size f c')) → Wf.WE (lamCx X A outer s H0 E scope f c') body σ' H' Q')
    hg hm hk lk hcg hb Sg hNg hva hG TB hcode hmT hu hr L hdef hbind (fun E A outer s H0 f c' hr2 => ⟨fun pins s' σ' H' Q' I h => h A outer s H0 f c' hr2 pins s' I⟩) hdb hd hcd) ⟨S.tb, fun H1 xt tK tb1 => ?_⟩
  have fe1 : Fe (fun _ => False) H H1 := ⟨fun b o _ n z => xt b o z n, tK⟩
  have S1 := S.feGrow fe1 tb1
  refine ⟨M.m, S1.al, tb1, fun H2 E Q' fe2 tb2 hE hR A outer s H0 f c' hr2 => ?_, fun v t H' hp fe tb dd => kk t Δ v H' (hq t hp) ((fe1.trans fe).imp fun _ _ _ z => z.elim) (S1.feGrow fe tb) dd⟩
  have S2 := (S1.feGrow fe2 tb2).onlyD
  have xo : Xo (lamCx X A outer s H0 E scope f c') (bF B.T H2 M.m) xq := ⟨E, takes_of rfl rfl rfl rfl, fun M' Δ' σ' H' C d es hx S' xd => hE C d es H' hx S'.fr S'.tb (xd.mono (mi_le S'.m0))⟩
  exact hbody E A outer s H0 H2 f c' hr2 xo σ H2 S2 Q' fun t Δ' v H' ht fe S' dd => hR v t H' ht (fe.imp fun _ _ _ z _ => z) S'.tb dd
end
end Wf

set_option Elab.async false
set_option linter.all false
set_option maxRecDepth 100000
set_option maxHeartbeats 2000000
namespace Wf
open PySem PySem.Spec PyProof.Rows L2 LamX
/-! ### isinstance of an exception that is held, with or without a dict -/
section
open PySem.W
variable {prog : Program} {w : World} {A : Around} {E : Value → Shared → Prop} {s : Shared} {K : Frag} {x C : Addr} {ox : Obj} {od : Option Obj}
theorem exc_class {Q : Option Value → Shared → Prop} (T : ExcC K C) (X : K.In s.heap) (J : InstAt s.heap x ox C od) (h : Q (some (.ref C)) { s with toks := s.toks + 1 }) : wpAny (model prog w) A (getAttr? (.ref x) "__class__") Q E s := by
  have ff : findObj K C od "__class__" = some (.bind (.builtin "getset_descriptor.__get__") (.builtin "object.__class__")) := by
    obtain ⟨cd, hc, _⟩ := any_some T.hd
    unfold findObj
    rw [hc, Option.bind_some, T.ha, Option.bind_some]
    simp [T.hn, T.ht]
  obtain ⟨hp, g, d, t, os⟩ := s
  have l0 := J.type (M := model prog w)
  have l3 := looks_find (M := model prog w) X J ff
  have isB : Looks (model prog w) hp (isInstance (.ref x) (.type "BaseException")) true := l0.andThen (looks_subIn X T.hs)
  have ne : (Value.builtin "BaseException.__getattribute__" == Value.builtin "object.__getattribute__") = false := by decide +kernel
  have n2 : (onTheHeap (Value.ref C) && Value.builtin "BaseException.__getattribute__" == Value.builtin "object.__getattribute__") = false := by rw [ne]; rfl
  unfold getAttr? getAttrBy? getAttrBy
  refine wpAny_bind (wpAny_mkText (wpAny_bind (wpAny_attempt (wpAny_holding (wpAny_bind (l0.at (wpAny_bind ((looks_findIn (M := model prog w) X T.hg).at ?_))))))))
  show wpAny _ _ (if (onTheHeap (Value.ref C) && Value.builtin "BaseException.__getattribute__" == Value.builtin "object.__getattribute__") = true then _ else _) _ _ _
  rw [n2, if_neg Bool.false_ne_true]
  unfold getAttrByItsOwn hookBefore
  refine wpAny_bind ?_
  rw [if_pos (show onTheHeap (Value.ref C) = true from rfl)]
  refine (looks_findIn (M := model prog w) X T.hk).at (wpAny_bind (wpAny_attempt (wpAny_holding ?_)))
  unfold callGetattribute
  rw [show (false && onTheHeap (Value.builtin "BaseException.__getattribute__")) = false from rfl, if_neg Bool.false_ne_true]
  unfold boundAndCalled
  rw [PySem.F.excAttr_ValueError.ga.bind (.ref x)]
  refine wpAny_bind (wpAny_pure ?_)
  show wpAny _ _ (call (.builtin "BaseException.__getattribute__") [.ref x, .str "__class__" t]) _ _ _
  refine wpAny_call (codeAny_call_builtin PySem.F.excAttr_ValueError.ga.plain PySem.F.entry_bexc_ga (@check_slot (model prog w) _ _ ⟨hp, g, d, t + 1, os⟩ "BaseException.__getattribute__" "BaseException" "__getattribute__" (.ref x) [.str "__class__" t] [] _ (by decide +kernel) (by decide +kernel) isB (PySem.F.args_bexc_ga (.ref x) (.str "__class__" t)) ?_))
  unfold Builtin.«object.__getattribute__»
  refine wpAny_bind (wpAny_of_eq (a := ((Value.ref x : Value), [Value.str "__class__" t])) (by first | rfl | (simp only [slotArgs]; rfl)) (wpAny_bind (wpAny_pure (wpAny_bind (l0.at (wpAny_bind (l3.at ?_)))))))
  show wpAny _ _ (holding [Value.builtin "object.__class__"] (call (.builtin "getset_descriptor.__get__") [.builtin "object.__class__", .ref x, .ref C]) >>= ret) _ _ _
  refine wpAny_bind (wpAny_holding (wpAny_call (class_get (s := ⟨hp, g, d, t + 1, os⟩) (ox := ox) (od := od) X J T.hm (wpAny_pure ?_))))
  show wpAny _ _ (handedOut (.ref C)) _ _ _
  rw [handedOut_of (v := .ref C) rfl]
  first
    | exact wpAny_pure (wpAny_pure h)
    | exact wpAny_pure h
    | exact wpAny_pure (wpAny_bind (wpAny_pure (wpAny_pure h)))
theorem exc_kit (T : ExcC K C) : KitX K (.ref x) (.ref C) (fun h => ∃ ox od, InstAt h x ox C od) where
  ty := fun _ _ _ ⟨_, _, J⟩ => J.type
  it := fun M h X _ => by
    have old := (PySem.W.handS_kitx_exc (x := x) (ox := { cls := .ref C, data := .fields #[] }) T.hg T.hk T.hs T.hd T.ha T.hn T.ht T.hm)
    obtain ⟨cd, hc, _⟩ := any_some T.hd
    unfold clsIn at hc
    split at hc
    · rename_i ho
      intro A' Q' E' s' k q
      unfold isType loadHead
      exact wpAny_bind (wpAny_loadPart (k _ _ (X _ _ ho)) (wpAny_pure q))
    · cases hc
  ne := fun h tp dd its n sl X htp => by
    obtain ⟨cd, hc, _⟩ := any_some T.hd
    refine Bool.eq_false_iff.mpr fun q => ?_
    obtain rfl : C = tp := Value.ref.inj (beq_iff_eq.mp q)
    unfold clsIn at hc
    split at hc
    · rename_i ho
      have z := (X _ _ ho).symm.trans htp
      cases z
    · cases hc
  ca := fun X ⟨_, _, J⟩ k => exc_class T X J k
end
/-- isinstance(e, c), e an exception that is held -/
def rIsX (K : PySem.W.Frag) : List V → Hp → VK → Prop := fun xs H Q => ∃ (a C : Addr) (d : Option Addr) (c : V) (cv : Value) (b : Bool), xs = [.ref a, c] ∧ H a = some (exv a C d) ∧ (∀ dd, d = some dd → ∃ fs, H dd = some (.xd fs)) ∧ ExcC K C ∧ (∀ u, RelV c u → u = cv) ∧ PySem.W.kitOne K (.ref C) cv = some b ∧ Q (.bl b) H
section
variable {X : Cx} {B : Bs} {M : Pl} {Δ : List En} {e : Expr} {es : List Expr} {Φ : Tr → List En → Prop} {Ψ : Eo}
theorem exv_inst {pins : List (Addr × Obj)} {σ : L2.St} {H : Hp} {s : Shared} {a C : Addr} {d : Option Addr} (I : Inv X pins σ H s) (e : H a = some (exv a C d)) (hd : ∀ dd, d = some dd → ∃ fs, H dd = some (.xd fs)) : ∃ ox od, PySem.W.InstAt s.heap a ox C od ∧ ox.dict = d := by
  obtain ⟨⟨oe, vs, h1, h2, h3⟩, _⟩ := I.hok a _ e
  have nc : PySem.W.notCls oe = true := by unfold PySem.W.notCls; rw [h3] <;> rfl
  cases d with
  | none => exact ⟨oe, none, ⟨h1, h2.1, nc, by rw [h2.2]; exact True.intro⟩, h2.2⟩
  | some dd =>
    obtain ⟨fs, q⟩ := hd dd rfl
    obtain ⟨mA, hns, _⟩ : ObjOk X.prog X.w H s.heap dd (.xd fs) := I.hok dd _ q
    obtain ⟨o, _, _, ho, _⟩ := hns
    exact ⟨oe, some o, ⟨h1, h2.1, nc, by rw [h2.2]; exact ho⟩, h2.2⟩
theorem call_isX : CallR X (.builtin "isinstance") (rIsX X.K) := by
  intro pins s σ H xs us Q I r h
  obtain ⟨a, C, d, c, cv, b, rfl, ea, hd, T, hcv, e, q⟩ := h
  cases r with
  | cons rx rr =>
    cases rr with
    | cons rt rr =>
      cases rr
      cases rx
      have ec := hcv _ rt
      subst ec
      obtain ⟨ox, od, J, _⟩ := exv_inst I ea hd
      exact PySem.W.kia_one (exc_kit T) I.kIn ⟨ox, od, J⟩ e (fun z => nomatch z) fun tk => ⟨.bl b, H, I.kept (t' := tk) fun _ _ z => z, rfl, q⟩
theorem Dt.excAt {K : PySem.W.Frag} {I : Hp} {v : V} {C : Addr} {es : List (Str × Tr)} (d : Dt K I v (.exc C es)) : ∃ a dd, v = .ref a ∧ I a = some (exv a C dd) ∧ Xd K I dd es := by
  cases d with
  | exc0 h => exact ⟨_, none, rfl, h, rfl⟩
  | exc h g q => exact ⟨_, some _, rfl, h, _, g, q⟩
/-- isinstance(e, name) -/
theorem ee_isX {y : Str} {cv : Value} {c : V} {p p2 pos : Pos} (hg : Gl X "isinstance") (hm : X.mg "isinstance" = none) (hg2 : Gl X y) (hc : (X.mg y = some cv ∧ ∃ D, cv = .ref D ∧ c = .ref D) ∨ (X.mg y = none ∧ bootBuiltins y = some cv ∧ ∃ n, cv = .type n ∧ c = .ty n))
    (h : EE X B M Δ e fun t Δ1 => ∃ C es b, t = .exc C es ∧ ExcC X.K C ∧ PySem.W.kitOne X.K (.ref C) cv = some b ∧ Φ (.bl b) Δ1)
    (hn2 : y ≠ "__name__" := by decide) (hdb2 : (y == ("__debug__" : Str)) = false := by decide)
    (hs : starEach [e, .Name y p2] X.env = (false, eval e X.env) :: starEach [.Name y p2] X.env := by rfl) (hs2 : starEach [.Name y p2] X.env = (false, eval (.Name y p2) X.env) :: starEach [] X.env := by rfl)
    (hpl : (backTo pos (starEach [.Name y p2] X.env)).any (·.1) = false := by rfl) : EE X B M Δ (.Call (.Name "isinstance" p) [e, .Name y p2] [] pos) Φ := fun σ H S Q k => by
  have name : PE X (.Name y p2) (tC c) := by
    rcases hc with ⟨h1, D, rfl, rfl⟩ | ⟨h1, h2, n, rfl, rfl⟩
    · exact pe_glob hg2 h1 rfl hdb2
    · exact pe_bltn hg2 h1 h2 rfl hn2 hdb2
  have only : ∀ u, RelV c u → u = cv := by
    rcases hc with ⟨_, D, rfl, rfl⟩ | ⟨_, _, n, rfl, rfl⟩ <;> exact fun u r => r
  refine PE.to (pe_callB (X := X) call_isX hg hm (by decide +kernel) (pa_cons pe_self (pa_cons name pa_nil hs2) hs) (by decide) (by decide) hs hpl) (h σ H S _ fun t Δ1 v H1 p f S1 d => ?_)
  obtain ⟨C, es, b, rfl, T, h2, q⟩ := p
  obtain ⟨a, dd, rfl, ea, xd⟩ := d.excAt
  refine ⟨a, C, dd, c, cv, b, rfl, (mi_some.mp ea).2, fun d' z => ?_, T, only, h2, k _ Δ1 _ H1 q f S1 (.bl b)⟩
  subst z
  obtain ⟨fs, y1, _⟩ := xd
  exact ⟨fs, (mi_some.mp y1).2⟩
theorem Dfs.lookup {K : PySem.W.Frag} {I : Hp} {n : Str} : ∀ {fs : List (Str × V)} {es : List (Str × Tr)} {t : Tr}, Dfs K I fs es → es.lookup n = some t → ∃ v, fs.lookup n = some v ∧ Dt K I v t
  | _, _, _, .nil, h => by cases h
  | _, _, _, .cons (k := k) d r, h => by
    rw [List.lookup_cons] at h
    rw [List.lookup_cons]
    cases q : (n == k) with
    | true => rw [q] at h; cases h; exact ⟨_, rfl, d⟩
    | false => rw [q] at h; exact Dfs.lookup r h
/-- e.n, e an exception that is held -/
theorem ee_xattr {n : Str} {pos : Pos} (h : EE X B M Δ e fun t Δ1 => ∃ C es u, t = .exc C es ∧ XfC X.K C ∧ PySem.W.findIn X.K (.ref C) n = some none ∧ es.lookup n = some u ∧ Φ u Δ1) (hb : attributeBase e n X.env (eval e X.env) = eval e X.env := by rfl) : EE X B M Δ (.Attribute e n pos) Φ := fun σ H S Q k pins s I => by
  refine attr_of hb (thn (h σ H S (fun v H1 => ∃ (C : Addr) (es : List (Str × Tr)) (u : Tr) (Δ1 : List En), XfC X.K C ∧ PySem.W.findIn X.K (.ref C) n = some none ∧ es.lookup n = some u ∧ Φ u Δ1 ∧ Fe M.w H H1 ∧ Sk X.K B M H1 σ Δ1 ∧ Dt X.K (mi M.m H1) v (.exc C es)) ?_ pins s I) fun u s1 hh => ?_)
  · rintro t Δ1 v H1 ⟨C, es, u, rfl, x1, x2, x3, x4⟩ f S1 d
    exact ⟨C, es, u, Δ1, x1, x2, x3, x4, f, S1, d⟩
  · obtain ⟨v, H1, I1, rv, C, es, t, Δ1, x1, x2, x3, x4, f, S1, d⟩ := hh
    obtain ⟨a, dd, rfl, ea, xd⟩ := d.excAt
    obtain rfl : u = Value.ref a := rv
    cases dd with
    | none =>
      have xd : es = [] := xd
      rw [xd] at x3
      cases x3
    | some dd =>
      obtain ⟨fs, y1, y2⟩ := xd
      obtain ⟨w, l1, l2⟩ := Dfs.lookup y2 x3
      have y3 := (mi_some.mp y1).2
      obtain ⟨⟨oe, vs, h1, h2, h3⟩, _⟩ := I1.hok a _ (mi_some.mp ea).2
      obtain ⟨mA, hns, hr⟩ : ObjOk X.prog X.w H1 s1.heap dd (.xd fs) := I1.hok dd _ y3
      obtain ⟨od, ho, hl⟩ := lookIn_ns hns
      obtain ⟨u2, hu, ru⟩ := RelO.some_of (v := w) (o := mA n) (by rw [← l1]; exact hr n)
      have J : PySem.W.InstAt s1.heap a oe C (some od) := ⟨h1, h2.1, by unfold PySem.W.notCls; rw [h3] <;> rfl, by rw [h2.2]; exact ho⟩
      exact HandSPX.exc_get I1.kIn J x1.ga x1.gg x1.exC (PySem.W.findObj_own x1.hdC x2 rfl (by rw [hl, hu])) (handed_of ru) ⟨w, H1, I1.tok _, ru, k t Δ1 w H1 x4 f S1 l2⟩
end
/-! ### try: a(), except (A, B) as n: y = n -/
section
variable {X : Cx} {T : List (Addr × Str)} {H0 : Hp} {m : Addr → Prop} {Δ : List En} {Ψ : Eo} {x1 x2 n y a q : Str} {c1 c2 : Value} {f c' : Addr} {i j kk : Nat} {p1 p2 p3 q1 q2 q3 q4 q5 tp pos pos' : Pos} {tl : XK → Hp → VK → Prop} {R : Tr → Prop} {xq : XQ}
theorem s_tryKeep (hex : X.ex = []) (hs : X.stack = X.env :: X.outer) (hf : X.env.frame = some X.env.locals) (hN : X.N.Nodup) (hi : X.N[i]? = some n) (hj : X.N[j]? = some y) (hln : X.env.kindOf n = some .local) (hly : X.env.kindOf y = some .local) (hc1 : Names X x1 c1) (hc2 : Names X x2 c2)
    (act : ∀ (W : WX) (pn : List (Addr × Obj)) (xe : Value → Shared → Prop) (p1 p2 : Pos), Takes (X.tr pn xe) W →
      PE (X.tr pn xe) (.Call (.Name a p1) [] [] p2) (fun σZ HZ Q' => ∃ E : XK, (∀ cls d H', E cls d H' → W cls d σZ H') ∧ σZ[0]? = some (some (.ref f)) ∧ HZ c' = some (CodeO c' q) ∧ tl E HZ Q'))
    (hil : i < Δ.length) (h0 : Δ[0]? = some (.dat (.opq (.ref f)))) (hco : H0 c' = some (CodeO c' q))
    (run : ∀ (H1 : Hp) (E : XK) (Q' : VK), Fe (fun _ => False) H0 H1 → Tabs T H1 → (∀ C d es H', xq C es → Fe (fun _ => False) H1 H' → Tabs T H' → Xd X.K (mi m H') d es → E (.ref C) d H') →
      (∀ v t H', R t → Fe (fun _ => False) H1 H' → Tabs T H' → Dt X.K (mi m H') v t → Q' v H') → tl E H1 Q')
    (hm : ∀ C es, xq C es → PySem.W.exmAny X.K (.ref C) [c1, c2] = some true)
    (hR : ∀ t, R t → Ψ.nx ⟨m, fun _ => False⟩ Δ) (hX : ∀ C es, xq C es → Ψ.nx ⟨m, fun _ => False⟩ (((Δ.set i .any).set j (.dat (.exc C es))).set i .any))
    (hsw : ∀ (Y : Env), Y = X.env → swapsWith (.Name n q4) (some (.Name y q3)) q5.line Y = pure false) (hsw2 : ∀ (Y : Env), Y = X.env → swapsWith (.Call (.Name a p1) [] [] p2) none p3.line Y = pure false)
    (hn1 : (n == ("__debug__" : Str)) = false := by decide) (hn2 : (n == ("__classdict__" : Str)) = false := by decide) :
    S1 X (bF T H0 m) ⟨m, fun _ => False⟩ Δ (.Try [.Expr (.Call (.Name a p1) [] [] p2) p3] [.ExceptHandler (some (.Tuple [.Name x1 q1, .Name x2 q2] kk tp)) (some n) [.Assign [.Name y q3] (.Name n q4) q5] pos'] [] [] pos) Ψ := fun σ H S D pp => by
  refine PS.to (ps_try2 (i := i) (tb := fun W D σ H => ∃ E : XK, (∀ cls d H', E cls d H' → W cls d σ H') ∧ σ[0]? = some (some (.ref f)) ∧ H c' = some (CodeO c' q) ∧ tl E H fun _ H' => D.nx σ H')
    (ts := fun _ _ _ D σ H => ∃ v, σ[i]? = some (some v) ∧ D.nx (σ.set j (some v)) H) hex hs hf hN hi hln hc1 hc2 (fun W pn xe tk => ?_) (fun a' oe cls d pn _ _ => ?_)) ?_
  · exact ⟨fun pins s σ H D I h => (pss_one (ps_expr (act W pn xe p1 p2 tk) (hsw2 _ rfl))).run pins s σ H D I h⟩
  · exact ⟨fun pins s σ H D I h => (pss_one (ps_set (X := X.suite a' ((a', oe) :: pn)) (i := j) hN hj (.inl hly) (pe_var (i := i) hi (.inl hln) hn1 hn2) (hsw _ rfl) (.inr hly))).run pins s σ H D I h⟩
  · obtain ⟨v0, e0, d0⟩ := S.dat h0
    cases d0
    have fe := S.fr
    refine ⟨fun cls d H' => wAs2 X.K c1 c2 i (fun _ _ _ D σ H => ∃ v, σ[i]? = some (some v) ∧ D.nx (σ.set j (some v)) H) D cls d σ H', fun _ _ _ z => z, e0, fe.k c' _ (fun z => z) (fun ps => codeO_ne ps) hco, run H _ _ fe S.tb (fun C d es H' hx f2 tb xd => ?_) fun v t H' ht f2 tb dd => ?_⟩
    · refine ⟨C, rfl, hm C es hx, fun a' na => ⟨.ref a', ?_, fun n2 => ?_⟩⟩
      · have hl : i < σ.length := by
          rw [S.len]
          exact hil
        rw [List.getElem?_set_self hl]
      · have S2 := S.feGrow f2 tb
        have S3 := S2.same (same_new (o := exv a' C d) n2)
        have nm : ¬ m a' := S2.notM n2
        have xd3 := xd.mono (Sub.mi (M := m) (sub_new (o := exv a' C d) n2))
        have S4 := ((S3.forget i (o := some (.ref a'))).set j (xd3.dt (mi_of nm upd_same))).forget i (o := none)
        exact pp.nx _ _ _ _ (hX C es hx) ((S.sub (f2.imp fun _ _ _ z => z.elim)).trans (Sub.mi (sub_new n2))) S4
    · exact pp.nx _ _ _ _ (hR t ht) (S.sub (f2.imp fun _ _ _ z => z.elim)) (S.feGrow f2 tb)
end
/-! ### defs that show values: called where no repr is under way -/
structure FnOkG (P : Program) (w : World) (K : PySem.W.Frag) (mg : Str → Option Value) (base : Heap) (k : Nat) (f : Addr) (fd : FuncData) (ps : List Str) (sp : Sp) : Prop where
  len : ∀ vs H Q E, sp vs H Q E → vs.length = ps.length
  run : ∀ (A : Around) (outer : List Env) (s : Shared) (H : Hp) (args : Args) (us : List Value) (vs : List V) (Q : VK), Room k A → A.guards = some [] → Env0 P w K mg base A outer s H → BindsTo s fd args (ps.zip us) → Vals vs us → sp vs H Q E0 →
    codeAny (model P w) A (.call (.ref f) args) (CR CX0 outer P w H s Q E0) s
structure FnG (P : Program) (w : World) (K : PySem.W.Frag) (mg : Str → Option Value) (base : Heap) (x : Str) (k : Nat) (ps : List Str) (sp : Sp) : Prop where
  ex : ∃ f fd, FnOkG P w K mg base k f fd ps sp ∧ mg x = some (.ref f) ∧ PySem.W.keepIn K (.ref f) = true ∧ Binds K fd ps []
section
variable {P : Program} {w : World} {K : PySem.W.Frag} {mg : Str → Option Value} {base : Heap} {x qual : Str} {st : Stmt} {f : Addr} {fd : FuncData} {N ps : List Str} {k : Nat} {T : List (Addr × Str)} {pre : List Tr → Prop} {post : List Tr → Tr → Prop} {cdv : Value}
theorem ok_G (F : FunC K x qual st f fd cdv) (S : FnScope N ps (defScope st)) (hpre : ∀ ts, pre ts → ts.length = ps.length) (hps : ps.length ≤ N.length)
    (hb : ∀ (A : Around) (outer : List Env) (s : Shared) (H : Hp) (m : Addr → Prop) (ts : List Tr), Room k (A.deeper (envOfC qual (defScope st) s.heap.objs.size f cdv)) → (A.deeper (envOfC qual (defScope st) s.heap.objs.size f cdv)).guards = some [] → pre ts →
      SS (cxOf CX0 P w K mg base N qual (defScope st) f cdv A outer s H E0).nox (bF T H m) ⟨m, fun _ => False⟩ (slots N (ts.map En.dat)) (defBody st) ⟨fun _ _ => post ts .non, fun t _ => post ts t, fun _ _ => False, fun _ _ => False⟩) :
    FnOkG P w K mg base (k + 1) f fd ps (spF K T pre post) := by
  obtain ⟨oc, od, kV, doc, pm, an, ct, osl, rfl, lk, hcd⟩ := F.ex
  refine ⟨fun vs H Q E h => ?_, fun A outer s H args us vs Q hr hg e0 hbd r h => ?_⟩
  · obtain ⟨m, ts, d, hp, _⟩ := h
    rw [d.length, hpre ts hp]
  · obtain ⟨m, ts, d, hp, al, tb, q⟩ := h
    have hlen : ts.length = ps.length := hpre ts hp
    have Sk0 : Sk K (bF T H m) ⟨m, fun _ => False⟩ H (L2.start N vs) (slots N (ts.map En.dat)) := by
      refine sk_start (by simp; omega) (by simp [d.length]) rfl (fun _ => Iff.rfl) (fun _ => Iff.rfl) (fun _ z => z.elim) al tb (fun i j e f l he _ el _ => ?_) fun i v e hv he => ?_
      · rw [List.getElem?_map] at he
        cases h : ts[i]? with
        | none => rw [h] at he; cases he
        | some t => rw [h] at he; cases he; cases el
      · rw [List.getElem?_map] at he
        cases h : ts[i]? with
        | none => rw [h] at he; cases he
        | some t =>
          rw [h] at he; cases he
          obtain ⟨v', h1, h2⟩ := d.get h
          rw [hv] at h1; cases h1
          exact h2
    refine run_ofS (k := k) (N := N) (ps := ps) lk hcd S hr e0 hbd r (by rw [d.length]; exact hlen) fun hr' => ⟨_, PSs.nox (pss_self (X := (cxOf CX0 P w K mg base N qual (defScope st) f cdv A outer s H E0).nox)), ?_⟩
    exact hb A outer s H m ts hr' hg hp _ H Sk0 _ ⟨fun M' Δ' σ' H' a b c => q .non .non H' a c.fr c.tb .non, fun t M' Δ' v σ' H' a b c dd => q v t H' a c.fr c.tb (dd.mono (mi_le c.m0)), fun _ _ _ _ z => z.elim, fun _ _ _ _ z => z.elim⟩
end
section
variable {X : Cx} {B : Bs} {M : Pl} {Δ : List En} {e : Expr} {es : List Expr} {Φ : Tr → List En → Prop} {x : Str} {k : Nat} {ps : List Str} {pre : List Tr → Prop} {post : List Tr → Tr → Prop}
theorem ee_callG {p pos : Pos} (gu : X.A.guards = some []) (F : FnG X.prog X.w X.K X.mg X.base x k ps (spF X.K B.T pre post)) (hr : Room k X.A) (hg : Gl X x) (h : EA X B M Δ (e :: es) fun ts Δ1 => pre ts ∧ ∀ t, post ts t → Φ t Δ1)
    (hdb : (x == ("__debug__" : Str)) = false := by decide) (he : starEach (e :: es) X.env = (false, eval e X.env) :: starEach es X.env := by rfl) (hpl : (backTo pos (starEach es X.env)).any (·.1) = false := by rfl) : EE X B M Δ (.Call (.Name x p) (e :: es) [] pos) Φ := fun σ H S Q kk pins s I => by
  obtain ⟨f, fd, ok, hm, hk, hb⟩ := F.ex
  refine wpAny_Call_Name_kw (ld_glob I hg hm ?_ hdb)
  refine PySem.W.callWith_K (h₀ := X.base) I.ok.mod.kin hk (thn (h σ H S (fun vs H1 => spF X.K B.T pre post vs H1 Q E0) (fun ts Δ1 vs H1 q fe S1 d => ?_) pos pins s I) fun us s1 ⟨vs, H1, I1, r, q⟩ => ⟨I1.kIn, ?_⟩) he hpl
  · exact ⟨M.m, ts, d, q.1, S1.al, S1.tb, fun v t H' hp f2 tb dd => kk t Δ1 v H' (q.2 t hp) (fe.trans (f2.imp fun _ _ _ z => z.elim)) (S1.feGrow f2 tb) dd⟩
  · have len : us.length = ps.length := by rw [← r.length]; exact ok.len _ _ _ _ q
    have b := hb s1 us I1.kIn (by rw [List.append_nil]; exact len)
    rw [List.append_nil] at b
    refine wpAny_call (codeAny_mono (ok.run X.A X.stack s1 H1 ⟨us, []⟩ us vs Q hr gu I1.env0 b r q) fun r s' back => ?_)
    cases r with
    | error e => exact (show False from back).elim
    | ok fl =>
      cases fl with
      | ret u => exact I1.after back
      | next => exact False.elim back
      | brk => exact False.elim back
      | cont => exact False.elim back
end
end Wf

set_option Elab.async false
set_option linter.all false
set_option maxRecDepth 100000
set_option maxHeartbeats 2000000
namespace Wf
open PySem PySem.Spec PyProof.Rows L2 LamX
/-! ### a def whose last parameters lack at the call: their defaults dts -/
structure FnD (P : Program) (w : World) (K : PySem.W.Frag) (mg : Str → Option Value) (base : Heap) (x : Str) (k : Nat) (ps : List Str) (dts : List Tr) (sp : Sp) : Prop where
  ex : ∃ f fd dvs ds, FnOk P w K mg base CX0 k f fd ps sp ∧ mg x = some (.ref f) ∧ PySem.W.keepIn K (.ref f) = true ∧ Binds K fd ps ds ∧ Vals dvs ds ∧ ∀ I, Dts K I dvs dts
section
variable {X : Cx} {B : Bs} {M : Pl} {Δ : List En} {e a b c : Expr} {es : List Expr} {Φ : Tr → List En → Prop} {x : Str} {k : Nat} {ps : List Str} {dts : List Tr} {pre : List Tr → Prop} {post : List Tr → Tr → Prop} {Ψ : Eo} {pos : Pos}
theorem ee_callD {p : Pos} (F : FnD X.prog X.w X.K X.mg X.base x k ps dts (spF X.K B.T pre post)) (hr : Room k X.A) (hg : Gl X x) (h : EA X B M Δ (e :: es) fun ts Δ1 => pre (ts ++ dts) ∧ ∀ t, post (ts ++ dts) t → Φ t Δ1)
    (hdb : (x == ("__debug__" : Str)) = false := by decide) (he : starEach (e :: es) X.env = (false, eval e X.env) :: starEach es X.env := by rfl) (hpl : (backTo pos (starEach es X.env)).any (·.1) = false := by rfl) : EE X B M Δ (.Call (.Name x p) (e :: es) [] pos) Φ := fun σ H S Q kk => by
  obtain ⟨f, fd, dvs, ds, ok, hm, hk, hb, hv, hd⟩ := F.ex
  refine PE.to (pe_call ok hr hg hm hk hb hv pass0 pa_self hdb he hpl) (h σ H S _ fun ts Δ1 vs H1 q fe S1 d => ?_)
  exact ⟨M.m, ts ++ dts, d.append (hd _), q.1, S1.al, S1.tb, fun v t H' hp f2 tb dd => kk t Δ1 v H' (q.2 t hp) (fe.trans (f2.imp fun _ _ _ z => z.elim)) (S1.feGrow f2 tb) dd⟩
/-- a, b, c = x, y, z -/
theorem s_par3 (i j l : Nat) {x y z : Str} {px py pz pt pt2 : Pos} {kt k2 : Nat} (hE : ∀ ta, PA X [a, b, c] ta → PS X (.Assign [.Tuple [.Name x px, .Name y py, .Name z pz] kt pt] (.Tuple [a, b, c] k2 pt2) pos) (tPar3 i j l ta)) (h : EE X B M Δ a fun t Δ1 => EE X B M Δ1 b fun u Δ2 => EE X B M Δ2 c fun v Δ3 => Ψ.nx M (((Δ3.set i (.dat t)).set j (.dat u)).set l (.dat v)))
    (hs : starEach [a, b, c] X.env = (false, eval a X.env) :: starEach [b, c] X.env := by rfl) (hs2 : starEach [b, c] X.env = (false, eval b X.env) :: starEach [c] X.env := by rfl) (hs3 : starEach [c] X.env = (false, eval c X.env) :: starEach [] X.env := by rfl) : S1 X B M Δ (.Assign [.Tuple [.Name x px, .Name y py, .Name z pz] kt pt] (.Tuple [a, b, c] k2 pt2) pos) Ψ := fun σ H S D p =>
  PS.to (hE _ (pa_cons pe_self (pa_cons pe_self (pa_cons pe_self pa_nil hs3) hs2) hs)) (h σ H S _ fun t Δ1 v H1 q f S1 d => q σ H1 S1 _ fun u Δ2 w H2 q2 f2 S2 d2 => q2 σ H2 S2 _ fun u3 Δ3 w3 H3 q3 f3 S3 d3 =>
    ⟨v, w, w3, rfl, p.nx M _ _ H3 q3 (S.sub ((f.trans f2).trans f3)) (((S3.set i ((d.mono (S1.sub f2)).mono (S2.sub f3))).set j (d2.mono (S2.sub f3))).set l d3)⟩)
end
end Wf

set_option Elab.async false
set_option linter.all false
set_option maxRecDepth 100000
set_option maxHeartbeats 2000000
namespace Wf
open PySem PySem.Spec PyProof.Rows L2 LamX
/-! ### repr of any plain datum -/
section
variable {X : Cx} {B : Bs} {M : Pl} {Δ : List En} {Φ : Tr → List En → Prop}
theorem shown_atom : (PyData.none.shown = "None") ∧ (∀ b, (PyData.bool b).shown = if b then "True" else "False") ∧ (∀ i, (PyData.int i).shown = toString i) ∧ ∀ x, (PyData.str x).shown = reprText x := by
  refine ⟨?_, fun b => ?_, fun i => ?_, fun x => ?_⟩ <;> (unfold PyData.shown; first | rfl | (cases b <;> rfl))
theorem cr_reprA (hg : X.A.guards = some []) (hu : X.A.units + 64 < cLine) : CallR X (.builtin "repr") (fun vs H Q => ∃ (v : V) (p : PyData), vs = [v] ∧ Dp X.K H v p ∧ p.showable = true ∧ p.canLay0 = true ∧ p.depth ≤ 8 ∧ p.shown.length ≤ sizeLine ∧ Q (.str p.shown) H) := by
  intro pins s σ H vs us Q I r h
  obtain ⟨v, p, rfl, d, h1, h2, h3, h4, q⟩ := h
  obtain ⟨u, rfl, ru⟩ := vals1 r
  cases d with
  | non =>
    obtain rfl : u = Value.none := ru
    rw [shown_atom.1] at q
    exact PySem.P.repr_of_none ⟨.str _, H, I.tok _, ⟨_, rfl⟩, q⟩
  | bl b =>
    obtain rfl : u = Value.bool b := ru
    rw [shown_atom.2.1] at q
    refine PySem.P.repr_of_bool ⟨.str _, H, I.tok _, ⟨_, rfl⟩, ?_⟩
    cases b <;> exact q
  | int i =>
    obtain ⟨tk, rfl⟩ : ∃ tk, u = Value.int i tk := ru
    rw [shown_atom.2.2.1] at q
    exact PySem.P.repr_of_int (of_decide_eq_true (by unfold PyData.showable at h1; exact h1)) ⟨.str _, H, I.tok _, ⟨_, rfl⟩, q⟩
  | str x =>
    obtain ⟨tk, rfl⟩ : ∃ tk, u = Value.str x tk := ru
    rw [shown_atom.2.2.2] at q h4
    exact PySem.P.repr_of_str ⟨.str _, H, I.tok _, ⟨_, rfl⟩, q⟩ h4
  | lst a b =>
    rename_i aa _ _
    obtain ⟨as, rd⟩ := Dp.reads I _ (.ref aa) u (.lst a b) ru
    obtain rfl : u = Value.ref aa := ru
    exact PySem.repr_of_reads' rd h1 (PyData.noDict_hsm (PyData.hasDict_of_canLay _ h2)) hg (by omega) (fun _ _ z => z) (fun h' u tk kp => ⟨.str _, H, I.kept kp, ⟨u, rfl⟩, q⟩) h4
  | tup a b =>
    rename_i aa _ _
    obtain ⟨as, rd⟩ := Dp.reads I _ (.ref aa) u (.tup a b) ru
    obtain rfl : u = Value.ref aa := ru
    exact PySem.repr_of_reads' rd h1 (PyData.noDict_hsm (PyData.hasDict_of_canLay _ h2)) hg (by omega) (fun _ _ z => z) (fun h' u tk kp => ⟨.str _, H, I.kept kp, ⟨u, rfl⟩, q⟩) h4
theorem cl_reprA (hg : X.A.guards = some []) (hu : X.A.units + 64 < cLine) : CalD X (.builtin "repr") B M Φ fun ts Δ2 => ∃ t, ts = [t] ∧ t.rep 8 26000 ∧ Φ (.str t.py.shown) Δ2 := ⟨_, cr_reprA hg hu, fun ts Δ2 p σ H vs Q S d k => by
  obtain ⟨t, rfl, p2, q⟩ := p
  cases d with
  | cons d1 d2 =>
    cases d2
    exact ⟨_, _, rfl, (d1.mono mi_sub).dp p2.gd.pl, p2.sh, p2.gd.cl, p2.gd.dp, p2.fits (Nat.le_refl _), k _ _ _ H q (Fe.refl _ _) S (.str _)⟩⟩
end
end Wf

set_option Elab.async false
set_option linter.all false
set_option maxRecDepth 100000
set_option maxHeartbeats 2000000
namespace Wf
open PySem PySem.Spec PyProof.Rows L2 LamX
/-! ### a def that may raise, its last parameters lacking at the call -/
structure FnDX (P : Program) (w : World) (K : PySem.W.Frag) (mg : Str → Option Value) (base : Heap) (x : Str) (k : Nat) (ps : List Str) (dts : List Tr) (sp : Sp) : Prop where
  ex : ∃ f fd dvs ds, FnOk P w K mg base (L2.CX P w) k f fd ps sp ∧ mg x = some (.ref f) ∧ PySem.W.keepIn K (.ref f) = true ∧ Binds K fd ps ds ∧ Vals dvs ds ∧ ∀ I, Dts K I dvs dts
section
variable {X : Cx} {B : Bs} {M : Pl} {Δ : List En} {e : Expr} {es : List Expr} {Φ : Tr → List En → Prop} {x : Str} {k : Nat} {ps : List Str} {dts : List Tr} {pre : List Tr → Prop} {post : List Tr → Tr → Prop} {xp : List Tr → XQ} {xq : XQ}
theorem ee_callDX {p pos : Pos} (xo : Xo X B xq) (F : FnDX X.prog X.w X.K X.mg X.base x k ps dts (spX X.K B.T pre post xp)) (hr : Room k X.A) (hg : Gl X x) (h : EA X B M Δ (e :: es) fun ts Δ1 => pre (ts ++ dts) ∧ (∀ t, post (ts ++ dts) t → Φ t Δ1) ∧ ∀ C es', xp (ts ++ dts) C es' → xq C es')
    (hdb : (x == ("__debug__" : Str)) = false := by decide) (he : starEach (e :: es) X.env = (false, eval e X.env) :: starEach es X.env := by rfl) (hpl : (backTo pos (starEach es X.env)).any (·.1) = false := by rfl) : EE X B M Δ (.Call (.Name x p) (e :: es) [] pos) Φ := fun σ H S Q kk => by
  obtain ⟨f, fd, dvs, ds, ok, hm, hk, hb, hv, hd⟩ := F.ex
  obtain ⟨E, tk, ho⟩ := xo
  refine PE.to (pe_call ok hr hg hm hk hb hv (E := E) (passes_call tk fun _ _ _ _ z => z) pa_self hdb he hpl) (h σ H S _ fun ts Δ1 vs H1 q fe S1 d => ?_)
  exact ⟨M.m, ts ++ dts, d.append (hd _), q.1, S1.al, S1.tb, fun v t H' hp f2 tb dd => kk t Δ1 v H' (q.2.1 t hp) (fe.trans (f2.imp fun _ _ _ z => z.elim)) (S1.feGrow f2 tb) dd, fun C d es' H' hx f2 tb xd => ho M Δ1 σ H' C d es' (q.2.2 C es' hx) (S1.feGrow f2 tb) xd⟩
end
/-! ### shown texts -/
theorem reprChar_ok : ∀ q ∈ [34, 39], ∀ c ∈ List.range 128, (Builtin.Str.reprChar q c).all (· < 0x110000) = true := by decide +kernel
theorem strOk_repr {cs : List Nat} (h : ∀ c ∈ cs, c < 128) : PyData.strOk (PySem.reprText (txt cs)) = true := by
  have hq : ∀ x : Str, PySem.reprQuote x ∈ [34, 39] := fun x => by
    unfold PySem.reprQuote
    split <;> simp
  have key : ∀ (q : Nat), q ∈ [34, 39] → ∀ (l : List Nat) (acc : Array Nat), (∀ c ∈ l, c < 128) → (∀ c ∈ acc.toList, c < 0x110000) → ∀ c ∈ (l.foldl (fun out c => out ++ (Builtin.Str.reprChar q c).toArray) acc).toList, c < 0x110000 := fun q hq l => by
    induction l with
    | nil => intro acc _ ha; exact ha
    | cons c l ih =>
      intro acc hl ha
      refine ih _ (fun d hd => hl d (List.mem_cons_of_mem _ hd)) fun d hd => ?_
      rw [Array.toList_append, List.mem_append] at hd
      rcases hd with hd | hd
      · exact ha d hd
      · have := List.all_eq_true.mp (reprChar_ok q hq c (List.mem_range.mpr (hl c List.mem_cons_self))) d (by simpa using hd)
        simpa using this
  have b : PySem.reprQuote (txt cs) < 0x110000 := by
    have := hq (txt cs)
    simp at this
    omega
  unfold PyData.strOk PySem.reprText
  rw [Array.all_eq_true']
  intro c hc
  rw [decide_eq_true_eq]
  rw [Array.mem_push] at hc
  rcases hc with hc | rfl
  · rw [← Array.foldl_toList] at hc
    refine key _ (hq (txt cs)) (txt cs).cps.toList #[reprQuote (txt cs)] (fun d hd => h d (by simpa [txt] using hd)) (fun d hd => ?_) c (Array.mem_toList_iff.mpr hc)
    obtain rfl : d = reprQuote (txt cs) := by simpa using hd
    exact b
  · exact b
theorem strOk_app {x y : Str} (h1 : PyData.strOk x = true) (h2 : PyData.strOk y = true) : PyData.strOk (x ++ y) = true := by
  unfold PyData.strOk at *
  rw [show (x ++ y).cps = x.cps ++ y.cps from rfl, Array.all_append, h1, h2] <;> rfl
end Wf

set_option Elab.async false
set_option linter.all false
set_option maxRecDepth 100000
set_option maxHeartbeats 2000000
namespace Wf
open PySem PySem.Spec PyProof.Rows L2 LamX
/-! ### an exception as a value -/
section
variable {X : Cx} {e : Expr} {es : List Expr} {ta tk : TA} {p pos : Pos} {T nw ini : String} {mb : List Value}
theorem exv_end {pins : List (Addr × Obj)} {σ : L2.St} {H1 H2 : Hp} {hp hp2 h2 : Heap} {g1 g2 : Array GenState} {d1 d2 : Drawn} {t1 t2 : Nat} {os1 : OsState} {a C d : Addr} {fs : List (Str × V)} (I1 : Inv X pins σ H1 ⟨hp, g1, d1, t1, os1⟩)
    (ha : hp.objs.size ≤ a) (k : ∀ b o, hp.get? b = some o → hp2.get? b = some o) (un : Un (frs X.stack) [] (upd H1 a (exo a C none)) H2 hp2 h2) (hok : HOk X.prog X.w H2 h2) (hb : AllBare g2)
    (ea : H2 a = some (exo a C (some d))) (ed : H2 d = some (exd d fs)) (hd1 : H1 d = none) : Inv X pins σ (upd (upd H2 a (exv a C (some d))) d (.xd fs)) ⟨h2, g2, d2, t2, os1⟩ := by
  obtain ⟨t0, hoe⟩ := exo_at hok ea
  obtain ⟨mA, hns, rel⟩ := exd_at hok ed
  have hn : H1 a = none := I1.hok.fresh ha
  have nha : ∀ {b : Addr} {o : Obj}, hp.get? b = some o → b ≠ a := fun {b o} z => Nat.ne_of_lt (Nat.lt_of_lt_of_le (Heap.lt_size z) ha)
  have up : ∀ {b : Addr}, b ≠ a → H1 b = none → upd H1 a (exo a C none) b = none := fun {b} hb n => by rw [upd_ne hb]; exact n
  have nd : ∀ {b : Addr} {o : Obj}, hp.get? b = some o → H1 b = none → b ≠ d := fun {b o} z n e => by
    have y := un.free b o (k b o z) (up (nha z) n) (by simp)
    rw [e, ed] at y
    cases y
  have U : Un (frs X.stack) [] H1 (upd (upd H2 a (exv a C (some d))) d (.xd fs)) hp h2 := {
    keep := fun b o z n hf hx => un.keep b o (k b o z) (up (nha z) n) hf hx
    slot := fun b o z n hf hx => un.slot b o (k b o z) (up (nha z) n) hf hx
    free := fun b o z n hx => by
      rw [upd_ne (nd z n), upd_ne (nha z)]
      exact un.free b o (k b o z) (up (nha z) n) hx
    there := fun b o z hx => un.there b o (k b o z) hx
    tups := fun b xs z => by
      rw [upd_ne (ne_of_none z hd1), upd_ne (ne_of_none z hn)]
      exact un.tups b xs (by rw [upd_ne (ne_of_none z hn)]; exact z)
    frzs := fun b o v z => by
      rw [upd_ne (ne_of_none z hd1), upd_ne (ne_of_none z hn)]
      exact un.frzs b o v (by rw [upd_ne (ne_of_none z hn)]; exact z)
    tbls := fun b ps z => by
      rw [upd_ne (ne_of_none z hd1), upd_ne (ne_of_none z hn)]
      exact un.tbls b ps (by rw [upd_ne (ne_of_none z hn)]; exact z) }
  refine I1.call' (ch := []) rfl U (fun b o z => ?_) hb (fun b z => absurd z (by simp))
  by_cases hbd : b = d
  · subst hbd
    rw [upd_same] at z
    cases z
    exact ⟨mA, hns, rel⟩
  · rw [upd_ne hbd] at z
    by_cases hba : b = a
    · subst hba
      rw [upd_same] at z
      cases z
      exact exv_ok hoe ⟨rfl, rfl⟩ rfl
    · rw [upd_ne hba] at z
      exact (hok b o z).stay (fun c v hc y => y) (fun c hc => by rw [upd_ne (at_ne ed hc exd_own), upd_ne (at_ne ea hc exo_own)]; exact hc) (fun c xs hc => by rw [upd_ne (at_ne ed hc exd_tup), upd_ne (at_ne ea hc exo_tup)]; exact hc)
theorem exv_end0 {pins : List (Addr × Obj)} {σ : L2.St} {H1 H2 : Hp} {hp hp2 h2 : Heap} {g1 g2 : Array GenState} {d1 d2 : Drawn} {t1 t2 : Nat} {os1 : OsState} {a C : Addr} (I1 : Inv X pins σ H1 ⟨hp, g1, d1, t1, os1⟩)
    (ha : hp.objs.size ≤ a) (k : ∀ b o, hp.get? b = some o → hp2.get? b = some o) (un : Un (frs X.stack) [] (upd H1 a (exo a C none)) H2 hp2 h2) (hok : HOk X.prog X.w H2 h2) (hb : AllBare g2)
    (ea : H2 a = some (exo a C none)) : Inv X pins σ (upd H2 a (exv a C none)) ⟨h2, g2, d2, t2, os1⟩ := by
  obtain ⟨t0, hoe⟩ := exo_at hok ea
  have hn : H1 a = none := I1.hok.fresh ha
  have nha : ∀ {b : Addr} {o : Obj}, hp.get? b = some o → b ≠ a := fun {b o} z => Nat.ne_of_lt (Nat.lt_of_lt_of_le (Heap.lt_size z) ha)
  have up : ∀ {b : Addr}, b ≠ a → H1 b = none → upd H1 a (exo a C none) b = none := fun {b} hb n => by rw [upd_ne hb]; exact n
  have U : Un (frs X.stack) [] H1 (upd H2 a (exv a C none)) hp h2 := {
    keep := fun b o z n hf hx => un.keep b o (k b o z) (up (nha z) n) hf hx
    slot := fun b o z n hf hx => un.slot b o (k b o z) (up (nha z) n) hf hx
    free := fun b o z n hx => by
      rw [upd_ne (nha z)]
      exact un.free b o (k b o z) (up (nha z) n) hx
    there := fun b o z hx => un.there b o (k b o z) hx
    tups := fun b xs z => by
      rw [upd_ne (ne_of_none z hn)]
      exact un.tups b xs (by rw [upd_ne (ne_of_none z hn)]; exact z)
    frzs := fun b o v z => by
      rw [upd_ne (ne_of_none z hn)]
      exact un.frzs b o v (by rw [upd_ne (ne_of_none z hn)]; exact z)
    tbls := fun b ps z => by
      rw [upd_ne (ne_of_none z hn)]
      exact un.tbls b ps (by rw [upd_ne (ne_of_none z hn)]; exact z) }
  refine I1.call' (ch := []) rfl U (fun b o z => ?_) hb (fun b z => absurd z (by simp))
  by_cases hba : b = a
  · subst hba
    rw [upd_same] at z
    cases z
    exact exv_ok hoe ⟨rfl, rfl⟩ rfl
  · rw [upd_ne hba] at z
    exact (hok b o z).stay (fun c v hc y => y) (fun c hc => by rw [upd_ne (at_ne ea hc exo_own)]; exact hc) (fun c xs hc => by rw [upd_ne (at_ne ea hc exo_tup)]; exact hc)
/-- what stands behind C(..) -/
def xvQ (C a : Addr) (H1 : Hp) (Q : VK) : VK := fun v H2 => v = .non ∧ ((∃ (d : Addr) (fs : List (Str × V)), H2 a = some (exo a C (some d)) ∧ H2 d = some (exd d fs) ∧ H1 d = none ∧ Q (.ref a) (upd (upd H2 a (exv a C (some d))) d (.xd fs))) ∨ (H2 a = some (exo a C none) ∧ Q (.ref a) (upd H2 a (exv a C none))))
/-- C is called -/
theorem run_exv {C fI : Addr} {k : Nat} {fd : FuncData} {ps ks : List Str} {sp : Sp} {pins : List (Addr × Obj)} {σ : L2.St} {H1 : Hp} {s1 : Shared} {us ws : List Value} {vs : List V} {Q : VK} {E : Value → Shared → Prop} (EB : ExBase T nw ini mb) (EC : ExCls X.K C nw mb) (iC : PySem.W.findIn X.K (.ref C) "__init__" = some (some (.ref fI))) (tI : PySem.W.typeIn X.K (.ref fI) = some (.type "function"))
    (F1 : FnOk X.prog X.w X.K X.mg X.base CX0 k fI fd ps sp) (hr : Room (k + 1) X.A) (hb : ∀ (s : Shared) (self : Value), X.K.In s.heap → BindsTo s fd ⟨self :: us, ks.zip ws⟩ (ps.zip (self :: (us ++ ws))))
    (I1 : Inv X pins σ H1 s1) (r1 : Vals vs (us ++ ws)) (hz : vs.length ≤ 1000) (q1 : ∀ a, H1 a = none → sp (.ref a :: vs) (upd H1 a (exo a C none)) (xvQ C a H1 Q) (fun _ _ _ => False)) :
    wpAny (model X.prog X.w) X.A (call (.ref C) us (ks.zip ws)) (EP X pins σ Q) E s1 := by
  obtain ⟨nm, N, qn, bs, bm, hdct, sn, sub, ab, col, dd, k0, k1, k2, k3, k5, hC, hT⟩ := PySem.W.excInit_of I1.kIn EC.ini
  obtain ⟨hp, g, dr, tk, os⟩ := s1
  have above : hp.objs.size ≤ hp.objs.size + 1 := Nat.le_succ _
  have fresh : H1 (hp.objs.size + 1) = none := I1.hok.fresh above
  have hq := q1 (hp.objs.size + 1) fresh
  have kp : ∀ b o, hp.get? b = some o → ((hp.push (PySem.W.kdv_tup us)).push (PySem.HandSPX.excO C hp.objs.size)).get? b = some o := fun b o e => Heap.get?_push_of_some _ (Heap.get?_push_of_some _ e)
  have new : ((hp.push (PySem.W.kdv_tup us)).push (PySem.HandSPX.excO C hp.objs.size)).get? (hp.objs.size + 1) = some (PySem.HandSPX.excO C hp.objs.size) := by heap_get
  have I2 : Inv X pins σ (upd H1 (hp.objs.size + 1) (exo (hp.objs.size + 1) C none)) ⟨(hp.push (PySem.W.kdv_tup us)).push (PySem.HandSPX.excO C hp.objs.size), g, dr, tk, os⟩ := I1.laid kp above (exo_ok new)
  have r2 : Vals (V.ref (hp.objs.size + 1) :: vs) (Value.ref (hp.objs.size + 1) :: (us ++ ws)) := .cons rfl r1
  have lu : us.length ≤ sizeLine := by
    have e := r1.length
    rw [List.length_append] at e
    rw [sizeLine_eq]
    omega
  obtain ⟨Bn, iN, bn, NF, hBn⟩ := EB.nf
  refine wpAny_call (xk_call NF ((hT _).trans hBn) ((hT _).trans EB.noA) ((hT _).trans EB.noN) hC (PySem.W.looks_findIn I1.kIn iC) (fun self => PySem.W.bind_fn I1.kIn self tI) lu
    (codeAny_mono (F1.run _ X.stack _ _ ⟨Value.ref (hp.objs.size + 1) :: us, ks.zip ws⟩ (Value.ref (hp.objs.size + 1) :: (us ++ ws)) _ _ (fun _ _ _ => False) (hr.make C us _) (I2.env0.make C us _) (hb _ (Value.ref (hp.objs.size + 1)) I2.kIn) r2 hq) fun r s' back => ?_))
  cases r with
  | error er => exact False.elim back
  | ok fl =>
    cases fl with
    | ret u =>
      obtain ⟨v, H2, os2, bare2, un2, hok2, rv, ev, q2⟩ := back
      subst ev
      obtain ⟨h2, g2, d2, t2, os'⟩ := s'
      obtain rfl : os' = os := os2
      rcases q2 with ⟨d, fs, ea, ed, hd1, q⟩ | ⟨ea, q⟩
      · exact ⟨rv, .ref (hp.objs.size + 1), _, exv_end I1 above kp un2 hok2 bare2 ea ed hd1, rfl, q⟩
      · exact ⟨rv, .ref (hp.objs.size + 1), _, exv_end0 I1 above kp un2 hok2 bare2 ea, rfl, q⟩
    | next => exact False.elim back
    | brk => exact False.elim back
    | cont => exact False.elim back
end
end Wf

set_option Elab.async false
set_option linter.all false
set_option maxRecDepth 100000
set_option maxHeartbeats 2000000
namespace Wf
open PySem PySem.Spec PyProof.Rows L2 LamX
/-- an exception class with one field, its parameter named like the field -/
structure ExC1 (P : Program) (w : World) (K : PySem.W.Frag) (mg : Str → Option Value) (base : Heap) (x f : Str) (C : Addr) : Prop where
  gl : mg x = some (.ref C)
  ex : ∃ T nw ini mb fI fd, ExBase T nw ini mb ∧ ExCls K C nw mb ∧ PySem.W.findIn K (.ref C) "__init__" = some (some (.ref fI)) ∧ PySem.W.typeIn K (.ref fI) = some (.type "function") ∧ FnOk P w K mg base CX0 2 fI fd ["self", f] (spE1 f C) ∧
    (∀ (s : Shared) (self v : Value), K.In s.heap → BindsTo s fd ⟨[self, v], []⟩ [("self", self), (f, v)]) ∧ (∀ (s : Shared) (self v : Value), K.In s.heap → BindsTo s fd ⟨[self], [(f, v)]⟩ [("self", self), (f, v)])
/-- an exception class without a field -/
def spE0 (C : Addr) : Sp := fun vs H Q _ => ∃ a : Addr, vs = [.ref a] ∧ H a = some (exo a C none) ∧ Q .non H
structure ExC0 (P : Program) (w : World) (K : PySem.W.Frag) (mg : Str → Option Value) (base : Heap) (x : Str) (C : Addr) : Prop where
  gl : mg x = some (.ref C)
  ex : ∃ T nw ini mb fI fd, ExBase T nw ini mb ∧ ExCls K C nw mb ∧ PySem.W.findIn K (.ref C) "__init__" = some (some (.ref fI)) ∧ PySem.W.typeIn K (.ref fI) = some (.type "function") ∧ FnOk P w K mg base CX0 2 fI fd ["self"] (spE0 C) ∧
    (∀ (s : Shared) (self : Value), K.In s.heap → BindsTo s fd ⟨[self], []⟩ [("self", self)])
section
variable {X : Cx} {B : Bs} {M : Pl} {Δ Δ1 : List En} {e : Expr} {Φ : Tr → List En → Prop} {x f : Str} {C : Addr} {p pos kpos : Pos}
/-- the exception that was made stands among the data -/
theorem made1 {σ : L2.St} {H1 : Hp} {v : V} {t : Tr} (S1 : Sk X.K B M H1 σ Δ1) (d : Dt X.K (mi M.m H1) v t) {Q : VK} (q : ∀ v' H', Fe M.w H1 H' → Sk X.K B M H' σ Δ1 → Dt X.K (mi M.m H') v' (.exc C [(f, t)]) → Q v' H') :
    ∀ a, H1 a = none → spE1 f C [.ref a, v] (upd H1 a (exo a C none)) (xvQ C a H1 Q) (fun _ _ _ => False) := fun a ha => by
  refine ⟨a, v, rfl, upd_same, fun dx hd1 hd2 => ⟨rfl, .inl ⟨dx, [(f, v)], upd_same, by rw [upd_ne hd2, upd_same], by rw [upd_ne hd2] at hd1; exact hd1, ?_⟩⟩⟩
  rw [upd_ne hd2] at hd1
  have eH : upd (upd (upd (upd (upd H1 a (exo a C none)) dx (exd dx [(f, v)])) a (exo a C (some dx))) a (exv a C (some dx))) dx (.xd [(f, v)]) = upd (upd H1 a (exv a C (some dx))) dx (.xd [(f, v)]) := funext fun b => by
    by_cases hb : b = dx
    · rw [hb, upd_same, upd_same]
    · rw [upd_ne hb, upd_ne hb]
      by_cases hb2 : b = a
      · rw [hb2, upd_same, upd_same]
      · rw [upd_ne hb2, upd_ne hb2, upd_ne hb, upd_ne hb2, upd_ne hb2]
  rw [eH]
  have s1 := same_new (o := exv a C (some dx)) ha
  have hd3 : upd H1 a (exv a C (some dx)) dx = none := by rw [upd_ne hd2]; exact hd1
  have s2 := same_new (o := .xd [(f, v)]) hd3
  have S2 := S1.same s1
  have S3 := S2.same s2
  have xd : Xd X.K (mi M.m (upd (upd H1 a (exv a C (some dx))) dx (.xd [(f, v)]))) (some dx) [(f, t)] := ⟨_, mi_of (S2.notM hd3) upd_same, .cons ((d.mono (Sub.of s1).mi).mono (Sub.of s2).mi) .nil⟩
  refine q _ _ ((Fe.same s1).trans (Fe.same s2)) S3 (xd.dt (mi_of (S1.notM ha) ?_))
  rw [upd_ne (Ne.symm hd2), upd_same]
/-- C(e) -/
theorem ee_exc1 (F : ExC1 X.prog X.w X.K X.mg X.base x f C) (hr : Room 3 X.A) (hg : Gl X x) (h : EE X B M Δ e fun t Δ1 => Φ (.exc C [(f, t)]) Δ1)
    (hdb : (x == ("__debug__" : Str)) = false := by decide) (he : starEach [e] X.env = (false, eval e X.env) :: starEach [] X.env := by rfl) : EE X B M Δ (.Call (.Name x p) [e] [] pos) Φ := fun σ H S Q kk pins s I => by
  obtain ⟨T, nw, ini, mb, fI, fd, EB, EC, iC, tI, ok, b1, b2⟩ := F.ex
  refine wpAny_Call_Name_kw (ld_glob I hg F.gl ?_ hdb)
  refine PySem.W.callWith_K (h₀ := X.base) I.ok.mod.kin EC.kC (thn ((pa_cons pe_self pa_nil he).run pos pins s σ H (fun vs H1 => ∃ v, vs = [v] ∧ ∀ a, H1 a = none → spE1 f C [.ref a, v] (upd H1 a (exo a C none)) (xvQ C a H1 Q) (fun _ _ _ => False)) I (h σ H S _ fun t Δ1 v H1 q fe S1 d => ?_)) fun us s1 ⟨vs, H1, I1, r1, v, ev, q1⟩ => ⟨I1.kIn, ?_⟩) he rfl
  · exact ⟨v, rfl, made1 S1 d fun v' H' f2 S2 d2 => kk _ Δ1 v' H' q (fe.trans f2) S2 d2⟩
  · subst ev
    obtain ⟨u, rfl, ru⟩ := vals1 r1
    exact run_exv (us := [u]) (ws := []) (ks := []) EB EC iC tI ok hr (fun s self k => b1 s self u k) I1 (.cons ru .nil) (show 1 ≤ 1000 by decide) q1
/-- C(f = e) -/
theorem ee_exc1K (F : ExC1 X.prog X.w X.K X.mg X.base x f C) (hr : Room 3 X.A) (hg : Gl X x) (h : EE X B M Δ e fun t Δ1 => Φ (.exc C [(f, t)]) Δ1)
    (hall : (backToKw pos (keywordEach [⟨some f, e, kpos⟩] X.env)).all (·.1.isSome) = true := by rfl) (hks : (backToKw pos (keywordEach [⟨some f, e, kpos⟩] X.env)).filterMap (·.1) = [f] := by rfl)
    (hdb : (x == ("__debug__" : Str)) = false := by decide) (hpl : ((backTo pos (starEach [] X.env)).any (·.1) || (backToKw pos (keywordEach [⟨some f, e, kpos⟩] X.env)).any (·.1.isNone)) = false := by rfl) :
    EE X B M Δ (.Call (.Name x p) [] [⟨some f, e, kpos⟩] pos) Φ := fun σ H S Q kk pins s I => by
  obtain ⟨T, nw, ini, mb, fI, fd, EB, EC, iC, tI, ok, b1, b2⟩ := F.ex
  refine wpAny_Call_Name_kw (ld_glob I hg F.gl ?_ hdb)
  refine PySem.W.callWith_KW0 (h₀ := X.base) I.ok.mod.kin EC.kC hall (thn ((pk_cons pe_self pk_nil).run pos pins s σ H (fun vs H1 => ∃ v, vs = [v] ∧ ∀ a, H1 a = none → spE1 f C [.ref a, v] (upd H1 a (exo a C none)) (xvQ C a H1 Q) (fun _ _ _ => False)) I (h σ H S _ fun t Δ1 v H1 q fe S1 d => ?_)) fun us s1 ⟨vs, H1, I1, r1, v, ev, q1⟩ => ⟨I1.kIn, ?_⟩) hpl
  · exact ⟨v, rfl, made1 S1 d fun v' H' f2 S2 d2 => kk _ Δ1 v' H' q (fe.trans f2) S2 d2⟩
  · subst ev
    obtain ⟨u, rfl, ru⟩ := vals1 r1
    rw [hks]
    exact run_exv (us := []) (ws := [u]) (ks := [f]) EB EC iC tI ok hr (fun s self k => b2 s self u k) I1 (.cons ru .nil) (show 1 ≤ 1000 by decide) q1
/-- C() -/
theorem ee_exc0 (F : ExC0 X.prog X.w X.K X.mg X.base x C) (hr : Room 3 X.A) (hg : Gl X x) (q : Φ (.exc C []) Δ) (hdb : (x == ("__debug__" : Str)) = false := by decide) : EE X B M Δ (.Call (.Name x p) [] [] pos) Φ := fun σ H S Q kk pins s I => by
  obtain ⟨T, nw, ini, mb, fI, fd, EB, EC, iC, tI, ok, b1⟩ := F.ex
  refine wpAny_Call_Name_kw (ld_glob I hg F.gl ?_ hdb)
  refine PySem.W.callWith_K0 I.kIn EC.kC (run_exv (us := []) (ws := []) (ks := []) (vs := []) EB EC iC tI ok hr (fun s self k => b1 s self k) I .nil (by decide) fun a ha => ⟨a, rfl, upd_same, rfl, .inr ⟨upd_same, ?_⟩⟩)
  have eH : upd (upd H a (exo a C none)) a (exv a C none) = upd H a (exv a C none) := funext fun b => by
    by_cases hb : b = a
    · rw [hb, upd_same, upd_same]
    · rw [upd_ne hb, upd_ne hb, upd_ne hb]
  rw [eH]
  have s1 := same_new (o := exv a C none) ha
  exact kk _ Δ _ _ q (Fe.same s1) (S.same s1) (.exc0 (mi_of (S.notM ha) upd_same))
end
section
variable {P : Program} {w : World} {K : PySem.W.Frag} {mg : Str → Option Value} {base : Heap} {qual : Str} {st : Stmt} {f : Addr} {fd : FuncData} {T nw ini : String} {mb : List Value} {msg t : Str} {C : Addr} {j : Nat} {p1 p2 p3 p4 p5 p6 : Pos}
/-- the __init__ of a class without a field -/
theorem ok_exc0 (F : Fun K "__init__" qual st f fd) (S : FnScope ["self"] ["self"] (defScope st)) (EB : ExBase T nw ini mb) (EC : ExCls K C nw mb) (hm : mg t = none) (hv : bootBuiltins t = some (.type T)) (vV : PySem.W.findCls K (.type T) (.type "type") "__init__" = some (.val (.builtin ini)))
    (ht : (defScope st).names.lookup t = some .globalImplicit) (hs0 : (defScope st).names.lookup ("self" : Str) = some .local)
    (hb : defBody st = [.Expr (.Call (.Attribute (.Name t p1) "__init__" p2) [.Name "self" p3, .Constant (.str msg) j p4] [] p5) p6])
    (hc : ∀ (s : Shared) (cdv : Value), ∃ pl : Sem Bool, eval (.Call (.Attribute (.Name t p1) "__init__" p2) [.Name "self" p3, .Constant (.str msg) j p4] [] p5) (envOfC qual (defScope st) s.heap.objs.size f cdv) = (do
      let ov ← eval (.Name t p1) (envOfC qual (defScope st) s.heap.objs.size f cdv)
      standAt p2.atName
      let (g, first) ← holding [ov] (getMethod ov "__init__" pl)
      callWith p5 g first (backTo p5 (starEach [.Name "self" p3, .Constant (.str msg) j p4] (envOfC qual (defScope st) s.heap.objs.size f cdv))) (backToKw p5 (keywordEach [] (envOfC qual (defScope st) s.heap.objs.size f cdv)))))
    (hs1 : ∀ (s : Shared) (cdv : Value), swapsWith (.Call (.Attribute (.Name t p1) "__init__" p2) [.Name "self" p3, .Constant (.str msg) j p4] [] p5) none p6.line (envOfC qual (defScope st) s.heap.objs.size f cdv) = pure false)
    (hn : t ≠ "__name__" := by decide) (hdb : (t == ("__debug__" : Str)) = false := by decide) (hst : Manifest.isStub T = false := by decide +kernel) (hin : PySem.W.handedIn (.builtin ini) = true := by decide +kernel) :
    FnOk P w K mg base CX0 2 f fd ["self"] (spE0 C) := by
  refine F.ok S (fun vs H Q E h => ?_) (fun cdv A outer s H vs Q E hr h => ?_)
  · obtain ⟨a, rfl, _⟩ := h
    rfl
  · obtain ⟨a, rfl, ea, q⟩ := h
    rw [hb]
    obtain ⟨pl, hcq⟩ := hc s cdv
    have vs0 : Vis (cxOf CX0 P w K mg base ["self"] qual (defScope st) f cdv A outer s H E).nox.env.scope "self" := .inl hs0
    refine ⟨_, pss_one (ps_expr (pe_exb (nw := nw) (mb := mb) EB ht hm hv vV (pa_cons (pe_var (i := 0) rfl vs0) (pa_cons pe_str pa_nil)) (pl := pl) (hc := hcq) (hn := hn) (hdb := hdb) (hst := hst) (hin := hin)) (hs1 s cdv)), ?_⟩
    exact ⟨.ref a, rfl, a, C, [.str msg], rfl, show 1 ≤ 1000 by decide, EC, ea, q⟩
end
/-! ### for a, b, c in .. -/
def g3 (K : PySem.W.Frag) (a b c : Nat) : TG := gTup K 3 (gCons (gName a) (gCons (gName b) (gCons (gName c) gNil)))
section
variable {X : Cx} {B : Bs} {M : Pl} {Δ : List En} {tg iter : Expr} {body : List Stmt} {pos : Pos} {Ψ : Eo}
theorem s_for3 {a b c : Nat} (hp : PassesOwn (model X.prog X.w) X.A X.env X.xe) (hc : X.calm = true) (hg : PG X tg (g3 X.K a b c))
    (h : EI X B M Δ tg iter fun n f Δ1 => ∃ Jv : Nat → Pl → List En → Prop, Jv 0 M Δ1 ∧ (∀ i M' Δ', i < n → Jv i M' Δ' → ∃ x y z, f i = .tup [x, y, z] ∧ SS X B M' (((Δ'.set a (.dat x)).set b (.dat y)).set c (.dat z)) body { nx := Jv (i + 1), rt := Ψ.rt, bk := Ψ.nx, ct := Jv (i + 1) }) ∧ ∀ M' Δ', Jv n M' Δ' → Ψ.nx M' Δ')
    (hs : ∀ x, foldedSetIterable iter X.env x = pure x := by intro _; rfl) : S1 X B M Δ (.For tg iter body [] pos) Ψ := fun σ H S D p => by
  obtain ⟨wi, hi, k⟩ := h
  refine PS.to (ps_for hp hc hi hg pss_self hs) (k σ H S _ fun n f Δ1 J G Y H1 q fe S1 w hG hY => ?_)
  obtain ⟨Jv, j0, jt, jd⟩ := q
  have s0 := S.sub fe
  refine for_it w (fun i σ' H' => ∃ M' Δ', Jv i M' Δ' ∧ Sub (mi M.m H1) (mi M'.m H') ∧ Sk X.K B M' H' σ' Δ') ⟨M, Δ1, j0, Sub.refl _, S1⟩ (fun i σ' H' _ ⟨M', Δ', _, s, _⟩ => hG M'.m H' s) ?_ fun σ' H' ⟨M', Δ', j, s, S'⟩ => p.nx M' Δ' σ' H' (jd M' Δ' j) (s0.trans s) S'
  rintro i x σ' Ha Hb hi ⟨M', Δ', j, s, S'⟩ y
  obtain ⟨sm, d⟩ := hY i x Ha Hb M'.m hi y s fun p hp => S'.notM hp
  obtain ⟨t1, t2, t3, et, hb⟩ := jt i M' Δ' hi j
  rw [et] at d
  have Sb := S'.same sm
  have sab : Sub (mi M.m H1) (mi M'.m Hb) := s.trans (Sub.of sm).mi
  cases d with
  | tup h1 h2 =>
    cases h2 with
    | cons d1 h3 =>
      cases h3 with
      | cons d2 h4 =>
        cases h4 with
        | cons d3 h5 =>
          cases h5
          refine ⟨_, _, rfl, sub_seqT mi_sub h1, rfl, _, _, rfl, _, _, rfl, _, _, rfl, rfl, ?_⟩
          exact hb _ Hb (((Sb.set a d1).set b d2).set c d3) _ ⟨fun M2 Δ2 σ2 H2 a b c => ⟨M2, Δ2, a, sab.trans b, c⟩, fun t M2 Δ2 v σ2 H2 a b c d => p.rt t M2 Δ2 v σ2 H2 a (s0.trans (sab.trans b)) c d, fun M2 Δ2 σ2 H2 a b c => p.nx M2 Δ2 σ2 H2 a (s0.trans (sab.trans b)) c, fun M2 Δ2 σ2 H2 a b c => ⟨M2, Δ2, a, sab.trans b, c⟩⟩
end
/-! ### {} and {k: n} as values; what repr shows of them -/
section
variable {X : Cx} {B : Bs} {M : Pl} {Δ : List En} {Φ : Tr → List En → Prop} {pos p1 p2 : Pos} {k : Str} {n : Int} {j1 j2 : Nat}
theorem ee_dict0 (q : Φ (.dct []) Δ) : EE X B M Δ (.Dict [] [] pos) Φ := fun σ H S Q kk => PE.to pe_dnewK fun a ha => by
  have s1 := same_new (o := .dK []) ha
  exact kk _ Δ _ _ q (Fe.same s1) (S.same s1) (.dct (.inl (mi_of (S.notM ha) upd_same)) .nil)
theorem ee_dict1 (q : Φ (.dct [(.inr k, .int n)]) Δ) : EE X B M Δ (.Dict [some (.Constant (.str k) j1 p1)] [.Constant (.int n) j2 p2] pos) Φ := fun σ H S Q kk =>
  PE.to (pe_disp (pps_cons pe_str pe_int pps_nil) rfl rfl (by simp) (by simp)) fun a ha => by
    have s1 := same_new (o := .dK [(.inr k, .int n)]) ha
    refine ⟨upd_same, [(.inr k, .int n)], rfl, by simp, ?_⟩
    have eH : upd (upd H a (.dK [])) a (.dK (mergeK [] [(.inr k, .int n)])) = upd H a (.dK [(.inr k, .int n)]) := funext fun b => by
      by_cases hb : b = a
      · rw [hb, upd_same, upd_same]
        rfl
      · rw [upd_ne hb, upd_ne hb, upd_ne hb]
    rw [eH]
    exact kk _ Δ _ _ q (Fe.same s1) (S.same s1) (.dct (.inl (mi_of (S.notM ha) upd_same)) (.cons (.int n) .nil))
/-- flat dicts with text keys and int values -/
def dpy (es : List (Str × Int)) : PyData := .dict (es.map fun p => (.str p.1, .int p.2))
def dtr (es : List (Str × Int)) : Tr := .dct (es.map fun p => (.inr p.1, .int p.2))
theorem dreads {h : Heap} {P : Program} {w : World} : ∀ {es : List (Str × Int)} {kvs : List (Key × V)} {vs : List (Key × Value)} {ens : List DictEntry} {K : PySem.W.Frag} {I : Hp}, Dkv K I kvs (es.map fun p => (.inr p.1, .int p.2)) → KV kvs vs → Pairs (mixKind P w) ens vs →
    ReadsAll h (ens.map (·.key)) ((es.map fun p => (PyData.str p.1, PyData.int p.2)).map (·.1)) [] ∧ ReadsAll h (ens.map (·.val)) ((es.map fun p => (PyData.str p.1, PyData.int p.2)).map (·.2)) []
  | [], _, _, _, _, _, .nil, r, q => by
    cases r
    cases q
    exact ⟨.nil, .nil⟩
  | (k, n) :: es, _, _, _, _, _, .cons d ds, r, q => by
    cases d
    cases r with
    | cons hr tr =>
      cases q with
      | cons h1 h2 tq =>
        obtain ⟨e1, e2⟩ := hr
        have h1 := e1 ▸ h1
        obtain ⟨a1, a2⟩ := dreads (h := h) (P := P) (w := w) ds tr tq
        rcases keyIs_shape (k := .inr k) h1 with ⟨i, t, z, _⟩ | ⟨x, t, z, ek⟩
        · cases z
        · cases z
          obtain ⟨tk, ev⟩ := e2
          refine ⟨?_, ?_⟩
          · rw [List.map_cons, List.map_cons, List.map_cons, ek]
            exact ReadsAll.cons (as := []) (.str _ _) a1
          · rw [List.map_cons, List.map_cons, List.map_cons, h2, ev]
            exact ReadsAll.cons (as := []) (.int _ _) a2
theorem cr_reprDc (hg : X.A.guards = some []) (hu : X.A.units + 64 < cLine) : CallR X (.builtin "repr") (fun vs H Q => ∃ (a : Addr) (kvs : List (Key × V)) (es : List (Str × Int)) (K : PySem.W.Frag) (I : Hp), vs = [.ref a] ∧ Rd H a (.dK kvs) ∧ Dkv K I kvs (es.map fun p => (.inr p.1, .int p.2)) ∧ (dpy es).showable = true ∧ (dpy es).depth ≤ 8 ∧ (dpy es).shown.length ≤ sizeLine ∧ Q (.str (dpy es).shown) H) := by
  intro pins s σ H vs us Q I r h
  obtain ⟨a, kvs, es, K', I', rfl, e, d, h1, h3, h4, q⟩ := h
  obtain ⟨u, rfl, ru⟩ := vals1 r
  obtain rfl : u = Value.ref a := ru
  obtain ⟨z, hd, vs0, r0, o, ens, ep, ho, ex, hdt, hk, hpair, hnd⟩ := dk_rd I.hok e
  obtain ⟨a1, a2⟩ := dreads (h := s.heap) d r0 hpair
  have rd : Reads s.heap (.ref a) (dpy es) [a] := by
    have z := Reads.dict ho ex.1 hdt a1 a2
    exact z
  exact PySem.repr_of_reads' rd h1 (fun _ m => by
    rw [List.mem_singleton] at m
    rw [m] at hd
    simp at hd) hg (by omega) (fun _ _ z => z) (fun h' u tk kp => ⟨.str _, H, I.kept kp, ⟨u, rfl⟩, q⟩) h4
theorem cl_reprDc (hg : X.A.guards = some []) (hu : X.A.units + 64 < cLine) : CalD X (.builtin "repr") B M Φ fun ts Δ2 => ∃ es, ts = [dtr es] ∧ (dpy es).showable = true ∧ (dpy es).depth ≤ 8 ∧ (dpy es).shown.length ≤ sizeLine ∧ Φ (.str (dpy es).shown) Δ2 := ⟨_, cr_reprDc hg hu, fun ts Δ2 p σ H vs Q S d k => by
  obtain ⟨es, rfl, h1, h2, h3, q⟩ := p
  cases d with
  | cons d1 d2 =>
    cases d2
    cases d1 with
    | dct hr hk => exact ⟨_, _, es, _, _, rfl, sub_rdK mi_sub hr, hk, h1, h2, h3, k _ _ _ H q (Fe.refl _ _) S (.str _)⟩⟩
end
end Wf

set_option Elab.async false
set_option linter.all false
set_option maxRecDepth 100000
set_option maxHeartbeats 2000000
namespace Wf
open PySem PySem.Spec PyProof.Rows L2 LamX
/-! ### repr of data with dicts in them -/
def keyPd : Key → PyData
  | .inl i => .int i
  | .inr x => .str x
mutual
def Tr.pd : Tr → PyData
  | .non => .none
  | .bl b => .bool b
  | .int i => .int i
  | .str x => .str x
  | .lst ts => .list (pdAll ts)
  | .tup ts => .tuple (pdAll ts)
  | .dct es => .dict (pdKv es)
  | .ins _ _ => .none
  | .exc _ _ => .none
  | .opq _ => .none
def pdAll : List Tr → List PyData
  | [] => []
  | t :: ts => t.pd :: pdAll ts
def pdKv : List (Key × Tr) → List (PyData × PyData)
  | [] => []
  | (k, t) :: es => (keyPd k, t.pd) :: pdKv es
end
mutual
def Tr.vis : Tr → Bool
  | .non => true
  | .bl _ => true
  | .int _ => true
  | .str _ => true
  | .lst ts => visAll ts
  | .tup ts => visAll ts
  | .dct es => visKv es
  | .ins _ _ => false
  | .exc _ _ => false
  | .opq _ => false
def visAll : List Tr → Bool
  | [] => true
  | t :: ts => t.vis && visAll ts
def visKv : List (Key × Tr) → Bool
  | [] => true
  | (_, t) :: es => t.vis && visKv es
end
theorem read_key {h : Heap} {k : Key} {P : Program} {w : World} {u : Value} (g : (mixKind P w).is k u = true) : ∃ ds, Reads h u (keyPd k) ds := by
  rcases keyIs_shape (k := k) g with ⟨i, t, rfl, ek⟩ | ⟨x, t, rfl, ek⟩
  · rw [ek]; exact ⟨_, Reads.int i t⟩
  · rw [ek]; exact ⟨_, Reads.str x t⟩
section
variable {X : Cx} {pins : List (Addr × Obj)} {σ : L2.St} {H J : Hp} {s : Shared}
mutual
theorem Dt.readsD (I : Inv X pins σ H s) (sb : Sub J H) : ∀ {v : V} {t : Tr}, Dt X.K J v t → t.vis = true → ∀ {u : Value}, RelV v u → ∃ as, Reads s.heap u t.pd as
  | _, _, .non, _, _, r => by
    cases r
    unfold Tr.pd
    exact ⟨_, .none⟩
  | _, _, .bl b, _, _, r => by
    cases r
    unfold Tr.pd
    exact ⟨_, .bool b⟩
  | _, _, .int i, _, _, r => by
    obtain ⟨k, rfl⟩ := r
    unfold Tr.pd
    exact ⟨_, .int i k⟩
  | _, _, .str x, _, _, r => by
    obtain ⟨k, rfl⟩ := r
    unfold Tr.pd
    exact ⟨_, .str x k⟩
  | _, _, .lst h q, c, _, r => by
    cases r
    unfold Tr.vis at c
    obtain ⟨its, rv, ⟨o, n, g1, g2, _, g3⟩, _⟩ := I.list (sub_seqL sb h)
    obtain ⟨as, z⟩ := Dts.readsD I sb q c rv
    unfold Tr.pd
    exact ⟨_, .list g1 g2 g3 z⟩
  | _, _, .tup h q, c, _, r => by
    cases r
    unfold Tr.vis at c
    obtain ⟨its, rv, ⟨o, g1, g2, n, g3⟩, _⟩ := I.tuple (sub_seqT sb h)
    obtain ⟨as, z⟩ := Dts.readsD I sb q c rv
    unfold Tr.pd
    exact ⟨_, .tuple g1 g2 g3 z⟩
  | _, _, .dct h q, c, _, r => by
    cases r
    unfold Tr.vis at c
    obtain ⟨_, _, vs, r0, o, ens, ep, g1, ex, g2, _, g3, _⟩ := dk_rd I.hok (sub_rdK sb h)
    obtain ⟨as, bs, z1, z2⟩ := Dkv.readsD I sb q c r0 g3
    unfold Tr.pd
    exact ⟨_, .dict g1 ex.1 g2 z1 z2⟩
  | _, _, .ins _ _, c, _, _ => by unfold Tr.vis at c; cases c
  | _, _, .exc0 _, c, _, _ => by unfold Tr.vis at c; cases c
  | _, _, .exc _ _ _, c, _, _ => by unfold Tr.vis at c; cases c
  | _, _, .opq _, c, _, _ => by unfold Tr.vis at c; cases c
theorem Dts.readsD (I : Inv X pins σ H s) (sb : Sub J H) : ∀ {vs : List V} {ts : List Tr}, Dts X.K J vs ts → visAll ts = true → ∀ {us : List Value}, Vals vs us → ∃ as, ReadsAll s.heap us (pdAll ts) as
  | _, _, .nil, _, _, r => by
    cases r
    unfold pdAll
    exact ⟨_, .nil⟩
  | _, _, .cons h q, c, _, r => by
    unfold visAll at c
    rw [Bool.and_eq_true] at c
    cases r with
    | cons r1 r2 =>
      obtain ⟨as, z1⟩ := Dt.readsD I sb h c.1 r1
      obtain ⟨bs, z2⟩ := Dts.readsD I sb q c.2 r2
      unfold pdAll
      exact ⟨_, .cons z1 z2⟩
theorem Dkv.readsD (I : Inv X pins σ H s) (sb : Sub J H) : ∀ {kvs : List (Key × V)} {es : List (Key × Tr)}, Dkv X.K J kvs es → visKv es = true → ∀ {vs : List (Key × Value)} {ens : List DictEntry}, KV kvs vs → Pairs (mixKind X.prog X.w) ens vs →
    ∃ as bs, ReadsAll s.heap (ens.map (·.key)) ((pdKv es).map (·.1)) as ∧ ReadsAll s.heap (ens.map (·.val)) ((pdKv es).map (·.2)) bs
  | _, _, .nil, _, _, _, r, g => by
    cases r
    cases g
    unfold pdKv
    exact ⟨_, _, .nil, .nil⟩
  | _, _, .cons (k := k) h q, c, _, _, r, g => by
    unfold visKv at c
    rw [Bool.and_eq_true] at c
    cases r with
    | cons hr tr =>
      cases g with
      | cons g1 g2 tg =>
        obtain ⟨e1, e2⟩ := hr
        have g1 := e1 ▸ g1
        rw [← g2] at e2
        obtain ⟨as, bs, z1, z2⟩ := Dkv.readsD I sb q c.2 tr tg
        obtain ⟨cs, z3⟩ := Dt.readsD I sb h c.1 e2
        obtain ⟨ds, z4⟩ := read_key (h := s.heap) g1
        unfold pdKv
        exact ⟨ds ++ as, cs ++ bs, ReadsAll.cons z4 z1, ReadsAll.cons z3 z2⟩
end
theorem rk_key {h₀ : Heap} {k : Key} {P : Program} {w : World} {u : Value} {n : Nat} {bs : List Addr} (h : (mixKind P w).is k u = true) (s1 : (keyPd k).showable = true) (s2 : (keyPd k).shown.length ≤ sizeLine) : ReprK P w bs h₀ n u (keyPd k).shown := by
  rcases keyIs_shape (k := k) h with ⟨i, t, rfl, ek⟩ | ⟨x, t, rfl, ek⟩
  · rw [ek]
    have e : (keyPd (.inl i)).shown = toString i := by show (PyData.int i).shown = _; unfold PyData.shown; rfl
    rw [e]
    exact .of_is (ReprIs.int t (by simpa [keyPd, PyData.showable] using s1)) _ _ _
  · rw [ek]
    have e : (keyPd (.inr x)).shown = reprText x := by show (PyData.str x).shown = _; unfold PyData.shown; rfl
    rw [e] at s2 ⊢
    exact .of_is (ReprIs.str x t s2) _ _ _
theorem depth_key (k : Key) : (keyPd k).depth = 0 := by cases k <;> (unfold keyPd PyData.depth; rfl)
/-- how the repr of a datum goes -/
def RpK (P : Program) (w : World) (h : Heap) (u : Value) (d : PyData) : Prop := ∃ bs, ReadAtMost h d.depth bs ∧ ReprK P w bs h d.depth u d.shown
def RpA (P : Program) (w : World) (h : Heap) (us : List Value) (ds : List PyData) : Prop := ∃ bs, ReadAtMost h (PyData.depthAll ds) bs ∧ ReprAllK P w bs h (PyData.depthAll ds) us (PyData.shownAll ds)
def RpE (P : Program) (w : World) (h : Heap) (ens : List DictEntry) (ds : List (PyData × PyData)) : Prop := ∃ bs, ReadAtMost h (PyData.depthKv ds) bs ∧ ReprEntriesK P w bs h (PyData.depthKv ds) ens (PyData.shownKv ds)
theorem rpa_cons {P : Program} {w : World} {h : Heap} {u : Value} {us : List Value} {d : PyData} {ds : List PyData} (a : RpK P w h u d) (b : RpA P w h us ds) : RpA P w h (u :: us) (d :: ds) := by
  obtain ⟨b1, r1, k1⟩ := a
  obtain ⟨b2, r2, k2⟩ := b
  have e1 : d.depth ≤ PyData.depthAll (d :: ds) := by unfold PyData.depthAll; exact Nat.le_max_left _ _
  have e2 : PyData.depthAll ds ≤ PyData.depthAll (d :: ds) := by
    show _ ≤ max _ _
    exact Nat.le_max_right _ _
  refine ⟨b1 ++ b2, (r1.mono e1).append (r2.mono e2), ?_⟩
  have e3 : PyData.shownAll (d :: ds) = d.shown :: PyData.shownAll ds := by simp only [PyData.shownAll]
  rw [e3]
  exact .cons ((k1.more fun b m => List.mem_append_left _ m).level_le e1) (k2.more_le (fun b m => List.mem_append_right _ m) e2)
theorem rpe_cons {P : Program} {w : World} {h : Heap} {en : DictEntry} {ens : List DictEntry} {k : Key} {d : PyData} {ds : List (PyData × PyData)} (g : (mixKind P w).is k en.key = true) (s1 : (keyPd k).showable = true) (s2 : (keyPd k).shown.length ≤ sizeLine) (a : RpK P w h en.val d) (b : RpE P w h ens ds) : RpE P w h (en :: ens) ((keyPd k, d) :: ds) := by
  obtain ⟨b1, r1, k1⟩ := a
  obtain ⟨b2, r2, k2⟩ := b
  have e0 : PyData.depthKv ((keyPd k, d) :: ds) = max (max (keyPd k).depth d.depth) (PyData.depthKv ds) := by simp only [PyData.depthKv]
  have e1 : d.depth ≤ PyData.depthKv ((keyPd k, d) :: ds) := by rw [e0]; omega
  have e2 : PyData.depthKv ds ≤ PyData.depthKv ((keyPd k, d) :: ds) := by rw [e0]; omega
  refine ⟨b1 ++ b2, (r1.mono e1).append (r2.mono e2), ?_⟩
  have e3 : PyData.shownKv ((keyPd k, d) :: ds) = ((keyPd k).shown ++ ": " ++ d.shown) :: PyData.shownKv ds := by simp only [PyData.shownKv]
  rw [e3]
  refine .cons (rk_key g s1 s2) ((k1.more fun b m => List.mem_append_left _ m).level_le e1) ?_
  have up : ∀ {l : List DictEntry} {ts : List Str}, ReprEntriesK P w b2 h (PyData.depthKv ds) l ts → ReprEntriesK P w (b1 ++ b2) h (PyData.depthKv ((keyPd k, d) :: ds)) l ts := by
    intro l ts z
    induction z with
    | nil => exact .nil
    | cons x y _ ih => exact .cons ((x.more fun b m => List.mem_append_right _ m).level_le e2) ((y.more fun b m => List.mem_append_right _ m).level_le e2) ih
  exact up k2
mutual
theorem Dt.rpK (I : Inv X pins σ H s) (sb : Sub J H) : ∀ {v : V} {t : Tr}, Dt X.K J v t → t.vis = true → ∀ {u : Value}, RelV v u → t.pd.showable = true → t.pd.shown.length ≤ sizeLine → RpK X.prog X.w s.heap u t.pd
  | _, _, .non, _, _, r, _, _ => by
    cases r
    unfold Tr.pd
    exact ⟨[], nofun, by simp only [PyData.shown]; exact .of_is ReprIs.none _ _ _⟩
  | _, _, .bl b, _, _, r, _, _ => by
    cases r
    unfold Tr.pd
    exact ⟨[], nofun, by simp only [PyData.shown]; exact .of_is (ReprIs.bool b) _ _ _⟩
  | _, _, .int i, _, _, r, s1, _ => by
    obtain ⟨k, rfl⟩ := r
    unfold Tr.pd at s1 ⊢
    exact ⟨[], nofun, by simp only [PyData.shown]; exact .of_is (ReprIs.int k (by simpa [PyData.showable] using s1)) _ _ _⟩
  | _, _, .str x, _, _, r, _, s2 => by
    obtain ⟨k, rfl⟩ := r
    unfold Tr.pd at s2 ⊢
    exact ⟨[], nofun, by simp only [PyData.shown] at s2 ⊢; exact .of_is (ReprIs.str x k s2) _ _ _⟩
  | _, _, .lst (a := a) (ts := ts) h q, c, _, r, s1, s2 => by
    cases r
    obtain ⟨ra, rr⟩ := Dt.readsD I sb (.lst h q) c (u := .ref a) rfl
    unfold Tr.vis at c
    unfold Tr.pd at s1 s2 rr ⊢
    obtain ⟨its, rv, ⟨o, n, g1, g2, _, g3⟩, _⟩ := I.list (sub_seqL sb h)
    simp only [PyData.shown] at s2
    obtain ⟨bs, hb, hk⟩ := Dts.rpA I sb q c rv (by simpa [PyData.showable] using s1) fun t ht => Nat.le_trans (listText_mem_le ht) s2
    have hna : a ∉ bs := not_mem_of_deeper rr (by simp only [PyData.depth]; omega) hb
    refine ⟨a :: bs, ReadAtMost.cons rr (by simp only [PyData.depth]; omega) hb, ?_⟩
    simp only [PyData.depth, PyData.shown]
    cases its with
    | nil =>
      generalize pdAll ts = ds at hk ⊢
      cases ds with
      | nil =>
        simp only [PyData.shownAll, listText_nil]
        exact ReprK.listEmpty g1 g2 g3
      | cons d ds =>
        simp only [PyData.shownAll] at hk
        cases hk
    | cons x l => exact ReprK.list g1 g2 g3 hna (by simpa using hk.length_eq) fun i y e => hk.item i y (by simpa using e)
  | _, _, .tup (a := a) (ts := ts) h q, c, _, r, s1, s2 => by
    cases r
    obtain ⟨ra, rr⟩ := Dt.readsD I sb (.tup h q) c (u := .ref a) rfl
    unfold Tr.vis at c
    unfold Tr.pd at s1 s2 rr ⊢
    obtain ⟨its, rv, ⟨o, g1, g2, n, g3⟩, _⟩ := I.tuple (sub_seqT sb h)
    simp only [PyData.shown] at s2
    obtain ⟨bs, hb, hk⟩ := Dts.rpA I sb q c rv (by simpa [PyData.showable] using s1) fun t ht => Nat.le_trans (tupleText_mem_le ht) s2
    have hna : a ∉ bs := not_mem_of_deeper rr (by simp only [PyData.depth]; omega) hb
    refine ⟨a :: bs, ReadAtMost.cons rr (by simp only [PyData.depth]; omega) hb, ?_⟩
    simp only [PyData.depth, PyData.shown]
    exact ReprK.tuple g1 g2 g3 hna (by simpa using hk)
  | _, _, .dct (a := a) (es := es) h q, c, _, r, s1, s2 => by
    cases r
    obtain ⟨ra, rr⟩ := Dt.readsD I sb (.dct h q) c (u := .ref a) rfl
    unfold Tr.vis at c
    unfold Tr.pd at s1 s2 rr ⊢
    obtain ⟨_, hd, vs, r0, o, ens, ep, g1, ex, g2, _, g3, _⟩ := dk_rd I.hok (sub_rdK sb h)
    simp only [PyData.shown] at s2
    obtain ⟨bs, hb, hk⟩ := Dkv.rpE I sb q c r0 g3 (by simpa [PyData.showable] using s1) fun t ht => Nat.le_trans (dictText_mem_le ht) s2
    have hna : a ∉ bs := not_mem_of_deeper rr (by simp only [PyData.depth]; omega) hb
    refine ⟨a :: bs, ReadAtMost.cons rr (by simp only [PyData.depth]; omega) hb, ?_⟩
    simp only [PyData.depth, PyData.shown]
    exact ReprK.dict g1 ex.1 g2 hd hna (by simpa using hk)
  | _, _, .ins _ _, c, _, _, _, _ => by unfold Tr.vis at c; cases c
  | _, _, .exc0 _, c, _, _, _, _ => by unfold Tr.vis at c; cases c
  | _, _, .exc _ _ _, c, _, _, _, _ => by unfold Tr.vis at c; cases c
  | _, _, .opq _, c, _, _, _, _ => by unfold Tr.vis at c; cases c
theorem Dts.rpA (I : Inv X pins σ H s) (sb : Sub J H) : ∀ {vs : List V} {ts : List Tr}, Dts X.K J vs ts → visAll ts = true → ∀ {us : List Value}, Vals vs us → PyData.showableAll (pdAll ts) = true → (∀ t ∈ PyData.shownAll (pdAll ts), t.length ≤ sizeLine) → RpA X.prog X.w s.heap us (pdAll ts)
  | _, _, .nil, _, _, r, _, _ => by
    cases r
    unfold pdAll
    exact ⟨[], nofun, by simp only [PyData.shownAll]; exact .nil⟩
  | _, _, .cons h q, c, _, r, s1, s2 => by
    unfold visAll at c
    rw [Bool.and_eq_true] at c
    unfold pdAll at s1 s2 ⊢
    simp only [PyData.showableAll, Bool.and_eq_true] at s1
    simp only [PyData.shownAll, List.mem_cons] at s2
    cases r with
    | cons r1 r2 => exact rpa_cons (Dt.rpK I sb h c.1 r1 s1.1 (s2 _ (.inl rfl))) (Dts.rpA I sb q c.2 r2 s1.2 fun t ht => s2 t (.inr ht))
theorem Dkv.rpE (I : Inv X pins σ H s) (sb : Sub J H) : ∀ {kvs : List (Key × V)} {es : List (Key × Tr)}, Dkv X.K J kvs es → visKv es = true → ∀ {vs : List (Key × Value)} {ens : List DictEntry}, KV kvs vs → Pairs (mixKind X.prog X.w) ens vs → PyData.showableKv (pdKv es) = true → (∀ t ∈ PyData.shownKv (pdKv es), t.length ≤ sizeLine) →
    RpE X.prog X.w s.heap ens (pdKv es)
  | _, _, .nil, _, _, _, r, g, _, _ => by
    cases r
    cases g
    unfold pdKv
    exact ⟨[], nofun, by simp only [PyData.shownKv]; exact .nil⟩
  | _, _, .cons (k := k) h q, c, _, _, r, g, s1, s2 => by
    unfold visKv at c
    rw [Bool.and_eq_true] at c
    unfold pdKv at s1 s2 ⊢
    simp only [PyData.showableKv, Bool.and_eq_true] at s1
    simp only [PyData.shownKv, List.mem_cons] at s2
    have z := s2 _ (.inl rfl)
    rw [strLen_append, strLen_append] at z
    cases r with
    | cons hr tr =>
      cases g with
      | cons g1 g2 tg =>
        obtain ⟨e1, e2⟩ := hr
        have g1 := e1 ▸ g1
        rw [← g2] at e2
        exact rpe_cons g1 s1.1.1 (by omega) (Dt.rpK I sb h c.1 e2 s1.1.2 (by omega)) (Dkv.rpE I sb q c.2 tr tg s1.2 fun t ht => s2 t (.inr ht))
end
end
/-! ### data that may be shown: d deep, of at most b signs and items -/
structure Tr.vw (t : Tr) (d b : Nat) : Prop where
  vi : t.vis = true
  sh : t.pd.showable = true
  ls : t.pd.leavesShort 640 = true
  bk : t.pd.bulk ≤ b
  dp : t.pd.depth ≤ d
theorem Tr.vw.le {t : Tr} {d b e c : Nat} (h : t.vw d b) (h1 : d ≤ e) (h2 : b ≤ c) : t.vw e c := ⟨h.vi, h.sh, h.ls, Nat.le_trans h.bk h2, Nat.le_trans h.dp h1⟩
theorem Tr.vw.fits {t : Tr} {d b : Nat} (h : t.vw d b) (hb : b ≤ 26000) : t.pd.shown.length ≤ sizeLine := by
  have h1 := PyData.shown_le_bulk 640 (by decide) t.pd h.ls
  have h3 : (640 + 2) * t.pd.bulk ≤ 642 * b := Nat.mul_le_mul_left _ h.bk
  rw [sizeLine_eq]
  omega
theorem vw_all {ts : List Tr} {d b : Nat} (h : ∀ t ∈ ts, t.vw d b) : visAll ts = true ∧ PyData.showableAll (pdAll ts) = true ∧ PyData.leavesShortAll 640 (pdAll ts) = true ∧ PyData.bulkAll (pdAll ts) ≤ ts.length * (b + 1) ∧ PyData.depthAll (pdAll ts) ≤ d := by
  induction ts with
  | nil => exact ⟨by unfold visAll; rfl, by unfold pdAll; rfl, by unfold pdAll; rfl, by unfold pdAll PyData.bulkAll; exact Nat.zero_le _, by unfold pdAll PyData.depthAll; exact Nat.zero_le _⟩
  | cons t ts ih =>
    obtain ⟨i1, i2, i3, i4, i5⟩ := ih fun u hu => h u (List.mem_cons_of_mem _ hu)
    have ht := h t List.mem_cons_self
    unfold visAll pdAll PyData.showableAll PyData.leavesShortAll PyData.bulkAll PyData.depthAll
    refine ⟨by rw [ht.vi, i1]; rfl, by rw [ht.sh, i2]; rfl, by rw [ht.ls, i3]; rfl, ?_, Nat.max_le.mpr ⟨ht.dp, i5⟩⟩
    have := ht.bk
    rw [List.length_cons, Nat.succ_mul]
    omega
theorem vw_lst {ts : List Tr} {d b c : Nat} (h : ∀ t ∈ ts, t.vw d b) (hc : ts.length * (b + 1) ≤ c) : (Tr.lst ts).vw (d + 1) c := by
  obtain ⟨i1, i2, i3, i4, i5⟩ := vw_all h
  exact ⟨by unfold Tr.vis; exact i1, by unfold Tr.pd PyData.showable; exact i2, by unfold Tr.pd PyData.leavesShort; exact i3, by unfold Tr.pd PyData.bulk; omega, by unfold Tr.pd PyData.depth; omega⟩
theorem vw_tup {ts : List Tr} {d b c : Nat} (h : ∀ t ∈ ts, t.vw d b) (hc : ts.length * (b + 1) ≤ c) : (Tr.tup ts).vw (d + 1) c := by
  obtain ⟨i1, i2, i3, i4, i5⟩ := vw_all h
  exact ⟨by unfold Tr.vis; exact i1, by unfold Tr.pd PyData.showable; exact i2, by unfold Tr.pd PyData.leavesShort; exact i3, by unfold Tr.pd PyData.bulk; omega, by unfold Tr.pd PyData.depth; omega⟩
theorem vw_non {d b : Nat} : Tr.non.vw d b := ⟨rfl, by unfold Tr.pd; rfl, by unfold Tr.pd; rfl, by unfold Tr.pd PyData.bulk; exact Nat.zero_le _, by unfold Tr.pd PyData.depth; exact Nat.zero_le _⟩
theorem vw_bl {k : Bool} {d b : Nat} : (Tr.bl k).vw d b := ⟨rfl, by unfold Tr.pd; rfl, by unfold Tr.pd; rfl, by unfold Tr.pd PyData.bulk; exact Nat.zero_le _, by unfold Tr.pd PyData.depth; exact Nat.zero_le _⟩
theorem vw_int {i : Int} {d b : Nat} (h1 : -999999999999 ≤ i) (h2 : i ≤ 999999999999) : (Tr.int i).vw d b := by
  have z := rep_int (i := i) (d := 0) (b := 0) h1 h2
  have e : (Tr.int i).py = (Tr.int i).pd := by unfold Tr.py Tr.pd; rfl
  exact ⟨rfl, e ▸ z.sh, e ▸ z.ls, by unfold Tr.pd PyData.bulk; exact Nat.zero_le _, by unfold Tr.pd PyData.depth; exact Nat.zero_le _⟩
theorem vw_txt {cs : List Nat} {d b : Nat} (h : ∀ c ∈ cs, c < 128) (hl : cs.length ≤ b) : (Tr.str (txt cs)).vw d b := by
  have z := rep_txt (d := 0) h hl
  have e : (Tr.str (txt cs)).py = (Tr.str (txt cs)).pd := by unfold Tr.py Tr.pd; rfl
  exact ⟨rfl, e ▸ z.sh, e ▸ z.ls, e ▸ z.bk, by unfold Tr.pd PyData.depth; exact Nat.zero_le _⟩
def vwB (t : Tr) (d b : Nat) : Bool := t.vis && (t.pd.showable && (t.pd.leavesShort 640 && (Nat.ble t.pd.bulk b && Nat.ble t.pd.depth d)))
theorem vw_of {t : Tr} {d b : Nat} (h : vwB t d b = true) : t.vw d b := by
  unfold vwB at h
  rw [Bool.and_eq_true, Bool.and_eq_true, Bool.and_eq_true, Bool.and_eq_true] at h
  exact ⟨h.1, h.2.1, h.2.2.1, Nat.le_of_ble_eq_true h.2.2.2.1, Nat.le_of_ble_eq_true h.2.2.2.2⟩
section
variable {X : Cx} {B : Bs} {M : Pl} {Δ : List En} {Φ : Tr → List En → Prop}
theorem cr_reprV (hg : X.A.guards = some []) (hu : X.A.units + 64 < cLine) : CallR X (.builtin "repr") (fun vs H Q => ∃ (v : V) (t : Tr) (J : Hp), vs = [v] ∧ Sub J H ∧ Dt X.K J v t ∧ t.vw 8 26000 ∧ Q (.str t.pd.shown) H) := by
  intro pins s σ H vs us Q I r h
  obtain ⟨v, t, J, rfl, sb, d, hv, q⟩ := h
  obtain ⟨u, rfl, ru⟩ := vals1 r
  have hz := hv.fits (Nat.le_refl _)
  have hs := hv.sh
  have hd := hv.dp
  have hi := hv.vi
  cases d with
  | non =>
    obtain rfl : u = Value.none := ru
    unfold Tr.pd at q
    simp only [PyData.shown] at q
    exact PySem.P.repr_of_none ⟨.str _, H, I.tok _, ⟨_, rfl⟩, q⟩
  | bl b =>
    obtain rfl : u = Value.bool b := ru
    unfold Tr.pd at q
    simp only [PyData.shown] at q
    exact PySem.P.repr_of_bool ⟨.str _, H, I.tok _, ⟨_, rfl⟩, by cases b <;> exact q⟩
  | int i =>
    obtain ⟨tk, rfl⟩ : ∃ tk, u = Value.int i tk := ru
    unfold Tr.pd at q hs
    simp only [PyData.shown] at q
    exact PySem.P.repr_of_int (by simpa [PyData.showable] using hs) ⟨.str _, H, I.tok _, ⟨_, rfl⟩, q⟩
  | str x =>
    obtain ⟨tk, rfl⟩ : ∃ tk, u = Value.str x tk := ru
    unfold Tr.pd at q hz
    simp only [PyData.shown] at q hz
    exact PySem.P.repr_of_str ⟨.str _, H, I.tok _, ⟨_, rfl⟩, q⟩ hz
  | lst h g =>
    rename_i a xs ts
    obtain rfl : u = Value.ref a := ru
    obtain ⟨ra, rr⟩ := Dt.readsD I sb (.lst h g) hi (u := .ref a) rfl
    unfold Tr.vis at hi
    unfold Tr.pd at hz hs hd q rr
    obtain ⟨its, rv, ⟨o, n, g1, g2, _, g3⟩, _⟩ := I.list (sub_seqL sb h)
    simp only [PyData.shown] at hz q
    simp only [PyData.depth] at hd
    obtain ⟨bs, hb, hk⟩ := Dts.rpA I sb g hi rv (by simpa [PyData.showable] using hs) fun t ht => Nat.le_trans (listText_mem_le ht) hz
    have hna : a ∉ bs := not_mem_of_deeper rr (by simp only [PyData.depth]; omega) hb
    refine call_repr_slot (by omega) ⟨o, g1, g2⟩ PySem.F.slot_list_repr.toG ?_
    cases its with
    | nil =>
      generalize pdAll ts = ds at hk q
      cases ds with
      | nil =>
        simp only [PyData.shownAll, listText_nil] at q
        exact call_list_repr_empty ⟨o, g1, g2⟩ g1 g3 ⟨_, _, rfl, .str _, H, I.tok _, ⟨_, rfl⟩, q⟩
      | cons d ds =>
        simp only [PyData.shownAll] at hk
        cases hk
    | cons x l =>
      exact call_list_reprK g1 g2 g3 hna (by simpa using hk.length_eq) (fun i y e => hk.item i y (by simpa using e)) hg (fun b _ => Clear.nil b) (by show X.A.units + 1 + _ < cLine; omega) (fun _ _ z => z) (fun h' u tk kp => ⟨_, _, rfl, .str _, H, I.kept kp, ⟨u, rfl⟩, q⟩) hz
  | tup h g =>
    rename_i a xs ts
    obtain rfl : u = Value.ref a := ru
    obtain ⟨ra, rr⟩ := Dt.readsD I sb (.tup h g) hi (u := .ref a) rfl
    unfold Tr.vis at hi
    unfold Tr.pd at hz hs hd q rr
    obtain ⟨its, rv, ⟨o, g1, g2, n, g3⟩, _⟩ := I.tuple (sub_seqT sb h)
    simp only [PyData.shown] at hz q
    simp only [PyData.depth] at hd
    obtain ⟨bs, hb, hk⟩ := Dts.rpA I sb g hi rv (by simpa [PyData.showable] using hs) fun t ht => Nat.le_trans (tupleText_mem_le ht) hz
    have hna : a ∉ bs := not_mem_of_deeper rr (by simp only [PyData.depth]; omega) hb
    refine call_repr_slot (by omega) ⟨o, g1, g2⟩ PySem.F.slot_tuple_repr ?_
    exact call_tuple_reprK g1 g2 g3 hna (by simpa using hk) hg (fun b _ => Clear.nil b) (by show X.A.units + 1 + _ < cLine; omega) (fun _ _ z => z) (fun h' u tk kp => ⟨_, _, rfl, .str _, H, I.kept kp, ⟨u, rfl⟩, q⟩) hz
  | dct h g =>
    rename_i a kvs es
    obtain rfl : u = Value.ref a := ru
    obtain ⟨ra, rr⟩ := Dt.readsD I sb (.dct h g) hi (u := .ref a) rfl
    unfold Tr.vis at hi
    unfold Tr.pd at hz hs hd q rr
    obtain ⟨_, hno, vs, r0, o, ens, ep, g1, ex, g2, _, g3, _⟩ := dk_rd I.hok (sub_rdK sb h)
    simp only [PyData.shown] at hz q
    simp only [PyData.depth] at hd
    obtain ⟨bs, hb, hk⟩ := Dkv.rpE I sb g hi r0 g3 (by simpa [PyData.showable] using hs) fun t ht => Nat.le_trans (dictText_mem_le ht) hz
    have hna : a ∉ bs := not_mem_of_deeper rr (by simp only [PyData.depth]; omega) hb
    refine call_repr_slot (by omega) ⟨o, g1, ex.1⟩ PySem.F.slot_dict_repr ?_
    exact call_dict_reprK g1 ex.1 g2 hno hna (by simpa using hk) hg (fun b _ => Clear.nil b) (by show X.A.units + 1 + _ < cLine; omega) (fun _ _ z => z) (fun h' u tk kp => ⟨_, _, rfl, .str _, H, I.kept kp, ⟨u, rfl⟩, q⟩) hz
  | ins _ _ => unfold Tr.vis at hi; cases hi
  | exc0 _ => unfold Tr.vis at hi; cases hi
  | exc _ _ _ => unfold Tr.vis at hi; cases hi
  | opq _ => unfold Tr.vis at hi; cases hi
/-- repr of any datum -/
theorem cl_reprV (hg : X.A.guards = some []) (hu : X.A.units + 64 < cLine) : CalD X (.builtin "repr") B M Φ fun ts Δ2 => ∃ t, ts = [t] ∧ t.vw 8 26000 ∧ Φ (.str t.pd.shown) Δ2 := ⟨_, cr_reprV hg hu, fun ts Δ2 p σ H vs Q S d k => by
  obtain ⟨t, rfl, p2, q⟩ := p
  cases d with
  | cons d1 d2 =>
    cases d2
    exact ⟨_, t, _, rfl, mi_sub, d1, p2, k _ _ _ H q (Fe.refl _ _) S (.str _)⟩⟩
end
end Wf

set_option Elab.async false
set_option linter.all false
set_option maxRecDepth 100000
set_option maxHeartbeats 2000000
namespace Wf
open PySem PySem.Spec PyProof.Rows L2 LamX
/-! ### comparisons with values of any kind -/
def Tr.isB : Tr → Bool → Bool
  | .bl c, b => c == b
  | _, _ => false
def vB : V → Bool → Bool
  | .bl c, b => c == b
  | _, _ => false
def noTy : V → Prop
  | .ty _ => False
  | _ => True
section
variable {X : Cx} {B : Bs} {M : Pl} {Δ : List En} {e : Expr} {Γ : Bool → List En → Prop} {Φ : Tr → List En → Prop}
theorem op_isA : OpR X (compareOp .Is) (fun x y H Q => ∃ b : Bool, y = .bl b ∧ noTy x ∧ Q (.bl (vB x b)) H) := by
  intro pins s σ H x y v u Q I rx ry h
  obtain ⟨b, rfl, nt, q⟩ := h
  obtain rfl : u = Value.bool b := ry
  have no : ∀ w : Value, (∀ c, w ≠ Value.bool c) → plainIs w (.bool b) = true → Q (.bl false) H → wpAny (model X.prog X.w) X.A (compareOp .Is w (.bool b)) (EP X pins σ Q) X.xe s := fun w ne pl q =>
    wpAny_is_other pl (ne b) ⟨.bl false, H, I, rfl, q⟩
  cases x with
  | bl a =>
    obtain rfl : v = Value.bool a := rx
    by_cases e : a = b
    · subst e
      exact wpAny_is_self rfl ⟨.bl true, H, I, rfl, by simpa [vB] using q⟩
    · exact wpAny_is_other rfl (fun z => e (Value.bool.inj z)) ⟨.bl false, H, I, rfl, by
        have : (a == b) = false := by simpa using e
        simpa [vB, this] using q⟩
  | non => obtain rfl : v = Value.none := rx; exact no _ (fun _ z => nomatch z) rfl q
  | int i => obtain ⟨t, rfl⟩ := rx; exact no _ (fun _ z => nomatch z) rfl q
  | str i => obtain ⟨t, rfl⟩ := rx; exact no _ (fun _ z => nomatch z) rfl q
  | byt i => obtain ⟨t, rfl⟩ := rx; exact no _ (fun _ z => nomatch z) rfl q
  | flt i => obtain ⟨t, rfl⟩ := rx; exact no _ (fun _ z => nomatch z) rfl q
  | ref a => obtain rfl : v = Value.ref a := rx; exact no _ (fun _ z => nomatch z) rfl q
  | ty n => exact nt.elim
theorem dt_vB {K : PySem.W.Frag} {I : Hp} {v : V} {t : Tr} (h : Dt K I v t) (c : t.clear = true) (b : Bool) : vB v b = t.isB b ∧ noTy v := by
  cases h <;> first | (cases c; done) | exact ⟨rfl, True.intro⟩
theorem cd_isA : CmpD X .Is B M Γ fun x y Δ2 => ∃ b, y = .bl b ∧ x.clear = true ∧ Γ (x.isB b) Δ2 :=
  ⟨_, op_isA, fun x y Δ2 p σ H v w Q S d1 d2 k => by
    obtain ⟨b, rfl, c, q⟩ := p
    cases d2
    obtain ⟨e1, e2⟩ := dt_vB d1 c b
    exact ⟨b, rfl, e2, by rw [e1]; exact k _ _ H q (Fe.refl _ _) S⟩⟩
/-- texts by their order -/
theorem cd_geS : CmpD X .GtE B M Γ fun x y Δ2 => ∃ i j : Str, x = .str i ∧ y = .str j ∧ Γ (!decide (i.cps.toList < j.cps.toList)) Δ2 :=
  ⟨_, op_ge_str, fun x y Δ2 p σ H v w Q S d1 d2 k => by
    obtain ⟨i, j, rfl, rfl, q⟩ := p
    cases d1; cases d2
    exact ⟨i, j, rfl, rfl, k _ _ H q (Fe.refl _ _) S⟩⟩
theorem cd_notInS : CmpD X .NotIn B M Γ fun x y Δ2 => ∃ (c : Nat) (z : Str), x = .str ⟨#[c]⟩ ∧ y = .str z ∧ Γ (!decide (c ∈ z.cps.toList)) Δ2 :=
  ⟨_, op_notIn_sign, fun x y Δ2 p σ H v w Q S d1 d2 k => by
    obtain ⟨i, j, rfl, rfl, q⟩ := p
    cases d1; cases d2
    exact ⟨i, j, rfl, rfl, k _ _ H q (Fe.refl _ _) S⟩⟩
theorem inV_strs (z : Str) : ∀ ys : List Str, inV (.str z) (ys.map V.str) = decide (z ∈ ys) := by
  intro ys
  unfold inV
  induction ys with
  | nil => rfl
  | cons y ys ih =>
    rw [List.map_cons, List.any_cons, ih]
    by_cases e : y = z
    · subst e
      have : eqV (.str y) (.str y) = true := by simp [eqV]
      rw [this]
      simp
    · have : eqV (.str y) (.str z) = false := by simp [eqV, e]
      rw [this]
      have e' : ¬ z = y := fun h => e h.symm
      simp [e']
/-- z not in (.., ..), texts -/
theorem cd_notInT : CmpD X .NotIn B M Γ fun x y Δ2 => ∃ (z : Str) (ys : List Str), x = .str z ∧ y = .tup (ys.map Tr.str) ∧ Γ (!decide (z ∈ ys)) Δ2 :=
  ⟨_, op_notIn_seq, fun x y Δ2 p σ H v w Q S d1 d2 k => by
    obtain ⟨z, ys, rfl, rfl, q⟩ := p
    cases d1
    cases d2 with
    | tup g1 g2 =>
      have e := of_strs ys g2
      subst e
      refine ⟨_, _, rfl, .inr (sub_seqT mi_sub g1), rfl, ?_, ?_⟩
      · rw [List.all_map]
        exact List.all_eq_true.mpr fun _ _ => rfl
      · rw [if_pos rfl, inV_strs]
        exact k _ _ H q (Fe.refl _ _) S⟩
/-- s[::-1]: some text of the signs of s -/
theorem rev_len : ∀ n : Nat, n < 40 → (Builtin.Str.strSliceIndices none none (-1) n).length ≤ 40 := by decide +kernel
def tRevS (te : TE) : TE := fun σ H Q => te σ H fun x H1 => ∃ z : Str, x = .str z ∧ z.length < 40 ∧ ∀ y : Str, y.length ≤ 40 → (∀ c ∈ y.cps.toList, c ∈ z.cps.toList) → Q (.str y) H1
theorem pe_revS {te : TE} {k : Nat} {p1 p2 p3 pos : Pos} (he : PE X e te) : PE X (.Subscript e (.Slice none none (some (.UnaryOp .USub (.Constant (.int 1) k p1) p2)) p3) pos) (tRevS te) := by
  refine ⟨fun pins s σ H Q I h => ?_⟩
  refine Subscript_ (thn (he.run pins s σ H _ I h) fun v s1 q0 => ?_)
  obtain ⟨x, H1, I1, r1, z, rfl, hz, q⟩ := q0
  obtain ⟨t, rfl⟩ := r1
  have neg : PO X (some (.UnaryOp .USub (.Constant (.int 1) k p1) p2)) (tPart (tUn (rU fun i => .int (-i)) (tC (.int 1)))) := po_some (pe_un un_neg pe_int)
  refine wpAny_Slice (thn (po_none.run pins s1 σ H1 (fun o H2 => o = none ∧ H2 = H1) I1 ⟨rfl, rfl⟩) fun vl s2 a2 => ?_)
  obtain ⟨l, H2, I2, pl, rfl, rfl⟩ := a2
  refine thn (po_none.run pins s2 σ H2 (fun o H3 => o = none ∧ H3 = H2) I2 ⟨rfl, rfl⟩) fun vu s3 a3 => ?_
  obtain ⟨u, H3, I3, pu, rfl, rfl⟩ := a3
  refine thn (neg.run pins s3 σ H3 (fun o H4 => o = some (-1) ∧ H4 = H3) I3 ⟨1, rfl, -1, rfl, rfl, rfl⟩) fun vs s4 a4 => ?_
  obtain ⟨o, H4, I4, ps, rfl, rfl⟩ := a4
  have I5 : Inv X pins σ H4 { s4 with heap := s4.heap.push { cls := .type "slice", data := .fields #[vl, vu, vs] } } := I4.kept (t' := s4.toks) fun b ob q => Heap.get?_push_of_some _ q
  show wpAny (model X.prog X.w) X.A (subscriptTail e (.Slice none none (some (.UnaryOp .USub (.Constant (.int 1) k p1) p2)) p3) (.str z t) (.ref s4.heap.objs.size)) (EP X pins σ Q) X.xe { s4 with heap := s4.heap.push { cls := .type "slice", data := .fields #[vl, vu, vs] } }
  refine tail_any (ops := [.ref s4.heap.objs.size, .str z t]) (typeIs_str _ _ _) PySem.F.slot_str_getitem.lookup ?_ (by with_unfolding_all rfl)
  obtain ⟨l', rfl, el⟩ := IsPart.raw pl
  obtain ⟨u', rfl, eu⟩ := IsPart.raw pu
  obtain ⟨w', rfl, ew⟩ := IsPart.raw ps
  cases l' with
  | some _ => cases el
  | none =>
    cases u' with
    | some _ => cases eu
    | none =>
      cases w' with
      | none => cases ew
      | some w' =>
        obtain ⟨i, tk⟩ := w'
        obtain rfl : i = (-1 : Int) := Option.some.inj ew
        refine wpAny_getItem_str_slice (l := none) (u := none) (st := some (-1, tk)) ⟨_, Heap.get?_push_size _ rfl, rfl, rfl⟩ rfl ?_
        have hl := rev_len z.length hz
        have hf : ((Builtin.Str.strSliceIndices none none (-1) z.length).filterMap (z.cps[·]?)).length ≤ 40 := Nat.le_trans (List.length_filterMap_le _ _) hl
        show Made.post (if ((-1 : Int) == 1 && (Builtin.Str.strSliceIndices none none (-1) z.length).length == z.length) = true then Made.val (.str z t)
          else Made.str ⟨((Builtin.Str.strSliceIndices none none (-1) z.length).filterMap (z.cps[·]?)).toArray⟩) (EP X pins σ Q) _
        rw [if_neg (by rw [show ((-1 : Int) == 1) = false by decide, Bool.false_and]; exact Bool.false_ne_true)]
        refine ⟨?_, .str _, H4, I5.tok _, ⟨_, rfl⟩, q _ ?_ fun c hc => ?_⟩
        · show ((Builtin.Str.strSliceIndices none none (-1) z.length).filterMap (z.cps[·]?)).toArray.size ≤ sizeLine
          rw [List.size_toArray, sizeLine_eq]
          omega
        · show ((Builtin.Str.strSliceIndices none none (-1) z.length).filterMap (z.cps[·]?)).toArray.size ≤ 40
          rw [List.size_toArray]
          exact hf
        · have hc' : c ∈ (Builtin.Str.strSliceIndices none none (-1) z.length).filterMap (z.cps[·]?) := by simpa using hc
          obtain ⟨i, _, hi⟩ := List.mem_filterMap.mp hc'
          exact Array.mem_toList_iff.mpr (Array.mem_of_getElem? hi)
theorem ee_revS {k : Nat} {p1 p2 p3 pos : Pos} (h : EE X B M Δ e fun x Δ1 => ∃ z : Str, x = .str z ∧ z.length < 40 ∧ ∀ y : Str, y.length ≤ 40 → (∀ c ∈ y.cps.toList, c ∈ z.cps.toList) → Φ (.str y) Δ1) : EE X B M Δ (.Subscript e (.Slice none none (some (.UnaryOp .USub (.Constant (.int 1) k p1) p2)) p3) pos) Φ := fun σ H S Q kk =>
  PE.to (pe_revS pe_self) (h σ H S _ fun x Δ1 v H1 p f S1 d => by
    obtain ⟨z, rfl, hz, q⟩ := p
    cases d
    exact ⟨z, rfl, hz, fun y hy hc => kk _ Δ1 _ H1 (q y hy hc) f S1 (.str y)⟩)
end
end Wf

set_option Elab.async false
set_option linter.all false
set_option maxRecDepth 100000
set_option maxHeartbeats 2000000
namespace Wf
open PySem PySem.Spec PyProof.Rows L2 LamX
/-! ### try: .., except A as n: .., except B as n: .. -/
/-- what the clauses wish of an exception, one after the other; slot i is n's -/
def wAsM (K : PySem.W.Frag) (i : Nat) (D : Ends) : List (Value × (Addr → Value → Option Addr → TS)) → WX
  | [] => fun _ _ _ _ => False
  | (c, ts) :: r => fun cls d σ H => ∃ b, PySem.W.exmOne K cls c = some b ∧
      (b = true → ∀ a, H a = none → ts a cls d { nx := fun σ' H' => D.nx (σ'.set i none) H', rt := fun _ _ => False, bk := fun _ _ => False, ct := fun _ _ => False } (σ.set i (some (.ref a))) H) ∧ (b = false → wAsM K i D r cls d σ H)
inductive HdsAs (X : Cx) (n : Str) : List ExceptHandler → List (Value × (Addr → Value → Option Addr → TS)) → Prop
  | nil : HdsAs X n [] []
  | cons {x : Str} {c : Value} {ts : Addr → Value → Option Addr → TS} {b₀ : Stmt} {suite : List Stmt} {np pos' : Pos} {hds : List ExceptHandler} {l : List (Value × (Addr → Value → Option Addr → TS))} (hc : Names X x c)
      (hsu : ∀ (a : Addr) (oe : Obj) (cls : Value) (d : Option Addr) (pn : List (Addr × Obj)), Zc cls d oe → (∃ vs, oe.data = .fields vs) → PSs (X.suite a ((a, oe) :: pn)) (b₀ :: suite) (ts a cls d)) (r : HdsAs X n hds l) :
      HdsAs X n (.ExceptHandler (some (.Name x np)) (some n) (b₀ :: suite) pos' :: hds) ((c, ts) :: l)
section
variable {X : Cx} {n : Str} {i : Nat} {body : List Stmt} {h₀ : ExceptHandler} {hds : List ExceptHandler} {l : List (Value × (Addr → Value → Option Addr → TS))} {pos : Pos} {tb : WX → TS}
theorem ps_tryAsM (hs : X.stack = X.env :: X.outer) (hf : X.env.frame = some X.env.locals) (hN : X.N.Nodup) (hi : X.N[i]? = some n) (hln : X.env.kindOf n = some .local)
    (hb : ∀ (W : WX) (pn : List (Addr × Obj)) (xe : Value → Shared → Prop), Takes (X.tr pn xe) W → PSs (X.tr pn xe) body (tb W)) (hh : HdsAs X n (h₀ :: hds) l) :
    PS X (.Try body (h₀ :: hds) [] [] pos) (fun D σ H => tb (wAsM X.K i D l) D σ H) := by
  refine ⟨fun pins s σ H D I h => ?_⟩
  have ok := I.ok
  have frm : X.A.frames = some (X.env :: X.outer) := by rw [ok.frames, hs]
  refine wpAny_Try_except (wpAny_mono ((hb (wAsM X.K i D l) (X.pn ++ pins) (fun e z1 => wpAny (model X.prog X.w) X.A (noteFrame e X.env) (fun _ z2 => wpAny (model X.prog X.w) X.A (setFlight e none) (fun _ z3 =>
    wpAny (model X.prog X.w) X.A (handleBy e X.env (h₀ :: hds)) (SP X pins D) X.xe z3) X.xe z2) X.xe z1) (fun u s' air => ?_)).run [] s σ H D (I.toTry _) h) (fun f s1 q => ?_) fun _ _ q => q)
  · obtain ⟨a, B, sI, pins', σ', H', cls, d, rfl, J', nb, up, sky, na, os, ag, w⟩ := air
    have J : Inv X pins σ' H' sI := J'.ofTry ok
    show wpAny (model X.prog X.w) X.A (noteFrame (.ref a) X.env) _ _ _
    refine Sky.land Zc.steady frm hf (show Sky B (X.env :: X.outer) a (Zc cls d) X.env.locals s'.heap by rw [← hs]; exact sky) fun h3 fl3 up3 => ?_
    have noFr : ∀ {h : Heap} {o : Obj} {vs : Array Value}, h.FunFrames B (X.env :: X.outer) → h.get? a = some o → o.data = .fields vs → a ∉ frs (X.env :: X.outer) := fun {h o vs} ff e dd m => by
      obtain ⟨_, o', e', no⟩ := ff.mem m
      rw [e] at e'; cases e'
      exact no _ dd
    obtain ⟨oe3, vs3, he3, hz3, hd3⟩ := fl3.there
    have nfr := noFr fl3.2.2.1 he3 hd3
    have nL : a ≠ X.env.locals := fun z => nfr (List.mem_filterMap.mpr ⟨X.env, List.mem_cons_self, by rw [hf, z]⟩)
    have nF : a ∉ X.fs := fun m => by
      obtain ⟨e, he, q⟩ := List.mem_filterMap.mp m
      exact nfr (List.mem_filterMap.mpr ⟨e, List.mem_cons_of_mem _ he, q⟩)
    have J3 : Inv X pins σ' H' { s' with heap := h3 } := J.landed nb fl3.1 (up.trans up3) os ag
    have S3 := J3.suite he3 hd3 na nL nF
    have go : ∀ {hds' : List ExceptHandler} {l' : List (Value × (Addr → Value → Option Addr → TS))}, HdsAs X n hds' l' → wAsM X.K i D l' cls d σ' H' →
        wpAny (model X.prog X.w) X.A (handleBy (.ref a) X.env hds') (SP X pins D) X.xe { s' with heap := h3 } := by
      intro hds' l' hk
      induction hk with
      | nil =>
        intro w
        exact w.elim
      | @cons x c ts b₀ suite np pos' hds2 l2 hc hsu r ih =>
        intro w
        obtain ⟨b, hb1, yes, no⟩ := w
        refine wpAny_handleBy_cons (codeAny_handlers_test ?_) (by intro q; cases q)
        have LT : PySem.W.Looks (model X.prog X.w) h3 (typeOf (.ref a)) cls := fun A Q E s k q => wpAny_typeOf_ref (k _ _ he3) (by rw [hz3.1]; exact q)
        have LM := PySem.W.exm_one (M := model X.prog X.w) (J3.kIn) LT hb1
        have test : ∀ {Q : Value → Shared → Prop} {E : Value → Shared → Prop}, Q c { s' with heap := h3 } → wpAny (model X.prog X.w) (X.A.mark (some (.ref a))) (eval (.Name x np) X.env) Q E { s' with heap := h3 } := fun {Q E} q => by
          obtain ⟨hg, hdbg, hm | ⟨hm, hv, hnn⟩⟩ := hc
          · exact ld_glob (X := X.suite a ((a, oe3) :: (X.pn ++ pins))) S3 hg hm q hdbg
          · exact ld_blt (X := X.suite a ((a, oe3) :: (X.pn ++ pins))) S3 hg hm hv q hnn hdbg
        refine test (LM.here ?_)
        cases b with
        | true =>
          refine codeAny_handlers_suite_as (HandSPX.lands_againZ fl3 fun h4 fl4 up4 => ?_)
          have J4 : Inv X pins σ' H' { s' with heap := h4 } := J.landed nb fl4.1 ((up.trans up3).trans up4) os ag
          obtain ⟨oe4, vs4, he4, hz4, hd4⟩ := fl4.there
          have S4 := J4.suite he4 hd4 na nL nF
          refine store_ok (X := X.suite a ((a, oe4) :: (X.pn ++ pins))) (v := .ref a) S4 hN hi (.inl hln) rfl (fun s5 S5 => ?_) (.inr hln)
          refine wpAny_mono ((hsu a oe4 cls d (X.pn ++ pins) hz4 ⟨_, hd4⟩).run [] s5 _ H' _ S5 (yes rfl a na)) (fun f s6 q => ?_) (fun _ _ z => False.elim z)
          cases f with
          | next =>
            obtain ⟨σ6, H6, S6, q6⟩ := q
            exact gone_ok (S6.unsuite (pins := pins) ok) hN hi hln fun s7 J7 => ⟨_, _, J7, q6⟩
          | brk =>
            obtain ⟨σ6, H6, S6, q6⟩ := q
            exact False.elim q6
          | cont =>
            obtain ⟨σ6, H6, S6, q6⟩ := q
            exact False.elim q6
          | ret u =>
            obtain ⟨v6, σ6, H6, S6, r6, q6⟩ := q
            exact False.elim q6
        | false =>
          show wpAny _ X.A (handleBy (.ref a) X.env hds2) _ _ _
          exact ih (no rfl)
    exact go hh w
  · cases f with
    | next =>
      obtain ⟨σ1, H1, J1, q⟩ := q
      exact wpAny_execs_nil ⟨σ1, H1, J1.ofTry ok, q⟩
    | brk =>
      obtain ⟨σ1, H1, J1, q⟩ := q
      exact ⟨σ1, H1, J1.ofTry ok, q⟩
    | cont =>
      obtain ⟨σ1, H1, J1, q⟩ := q
      exact ⟨σ1, H1, J1.ofTry ok, q⟩
    | ret u =>
      obtain ⟨v, σ1, H1, J1, r, q⟩ := q
      exact ⟨v, σ1, H1, J1.ofTry ok, r, q⟩
end
end Wf

set_option Elab.async false
set_option linter.all false
set_option maxRecDepth 100000
set_option maxHeartbeats 2000000
namespace Wf
open PySem PySem.Spec PyProof.Rows L2 LamX
/-! ### C(..), C's __init__ may raise -/
def spIX (K : PySem.W.Frag) (T : List (Addr × Str)) (C : Addr) (pre : List Tr → Prop) (post : List Tr → List (Str × Tr) → Prop) (xp : List Tr → XQ) : Sp := fun vs H Q E => ∃ (m : Addr → Prop) (l dx : Addr) (vs' : List V) (ts : List Tr), vs = .ref l :: vs' ∧ ¬ m l ∧ H l = some (.ins C dx []) ∧ Dts K (mi (fun b => m b ∨ b = l) H) vs' ts ∧ pre ts ∧ (∀ b, m b → ∃ o, H b = some o) ∧ Tabs T H ∧
  (∀ fs H', post ts fs → Fe (fun b => b = l) H H' → Tabs T H' → Ow K (mi (fun b => m b ∨ b = l) H') H' l (.ins C fs) → Q .non H') ∧
  ∀ D d es H', xp ts D es → Fe (fun b => b = l) H H' → Tabs T H' → Xd K (mi m H') d es → E (.ref D) d H'
section
variable {P : Program} {w : World} {K : PySem.W.Frag} {mg : Str → Option Value} {base : Heap} {x qual y : Str} {st : Stmt} {f : Addr} {fd : FuncData} {N ps : List Str} {k : Nat} {T : List (Addr × Str)} {C : Addr} {pre : List Tr → Prop} {post : List Tr → List (Str × Tr) → Prop} {xp : List Tr → XQ}
theorem ok_IX (F : Fun K x qual st f fd) (S : FnScope N (y :: ps) (defScope st)) (hpre : ∀ ts, pre ts → ts.length = ps.length) (hps : ps.length + 1 ≤ N.length)
    (hb : ∀ (cdv : Value) (A : Around) (outer : List Env) (s : Shared) (H H0 : Hp) (E : XK) (m : Addr → Prop) (l : Addr) (ts : List Tr), Room k (A.deeper (envOfC qual (defScope st) s.heap.objs.size f cdv)) → pre ts →
      Xo (cxOf (L2.CX P w) P w K mg base N qual (defScope st) f cdv A outer s H E) ⟨T, fun _ => False, H0, m⟩ (xp ts) →
      SS (cxOf (L2.CX P w) P w K mg base N qual (defScope st) f cdv A outer s H E) ⟨T, fun _ => False, H0, m⟩ ⟨fun b => m b ∨ b = l, fun _ => False⟩ (slots N (.own l (.ins C []) :: ts.map En.dat)) (defBody st)
        ⟨fun M' Δ' => (∀ b, M'.m b ↔ m b ∨ b = l) ∧ ∃ fs, post ts fs ∧ Δ'[0]? = some (.own l (.ins C fs)), fun _ _ => False, fun _ _ => False, fun _ _ => False⟩) :
    FnOk P w K mg base (L2.CX P w) (k + 1) f fd (y :: ps) (spIX K T C pre post xp) := by
  refine F.okX S (fun vs H Q E h => ?_) (fun cdv A outer s H vs Q E hr h => ?_)
  · obtain ⟨m, l, dx, vs', ts, rfl, _, _, d, hp, _⟩ := h
    rw [List.length_cons, List.length_cons, d.length, hpre ts hp]
  · obtain ⟨m, l, dx, vs', ts, rfl, nm, hl, d, hp, al, tb, q, qx⟩ := h
    have hlen : ts.length = ps.length := hpre ts hp
    have noT : ∀ ps, H l ≠ some (.tbl ps) := fun ps e => by rw [hl] at e; cases e
    have e0 : ∀ (i : Nat) (e : En), (En.own l (.ins C []) :: ts.map En.dat)[i]? = some e → ∀ a, e.has a → i = 0 := fun i e he a ea => by
      cases i with
      | zero => rfl
      | succ i =>
        rw [List.getElem?_cons_succ, List.getElem?_map] at he
        cases h : ts[i]? with
        | none => rw [h] at he; cases he
        | some t => rw [h] at he; cases he; cases ea
    have Sk0 : Sk K ⟨T, fun _ => False, without H l, m⟩ ⟨fun b => m b ∨ b = l, fun _ => False⟩ H (L2.start N (.ref l :: vs')) (slots N (.own l (.ins C []) :: ts.map En.dat)) := by
      have hl2 : (V.ref l :: vs').length = (En.own l (.ins C []) :: ts.map En.dat).length := by simp [d.length]
      refine { len := ?_, al := fun b z => z.elim (al b) fun e => ⟨.ins C dx [], by rw [e]; exact hl⟩, wm := fun b z => z.elim, m0 := fun b z => .inl z, pm := fun b z => z.elim, own := fun b z => z.elim .inl fun e => .inr ?_, wp := fun b z => z.elim, fr := ⟨fun b o _ n e => (without_some.mp e).2, fun b ps e => ⟨ps, (without_some.mp e).2⟩⟩, tb := tb, dis := fun i j e f a he hf ea fa => ?_, sl := fun i e q => ?_ }
      · unfold L2.start slots
        rw [List.length_append, List.length_append, List.length_map, List.length_replicate, List.length_replicate]
        simp [d.length]
      · rw [e]
        cases z : without H l l with
        | none => exact z
        | some o => exact absurd rfl (without_some.mp z).1
      · rcases start_get (N := N) hl2 he with ⟨_, _, _, z⟩ | ⟨_, rfl⟩
        · rcases start_get (N := N) hl2 hf with ⟨_, _, _, z2⟩ | ⟨_, rfl⟩
          · rw [e0 i e z a ea, e0 j f z2 a fa]
          · cases fa
        · cases ea
      · rcases start_get (N := N) hl2 q with ⟨v, h1, h2, h3⟩ | ⟨h1, rfl⟩
        · refine ⟨_, h1, ?_⟩
          cases i with
          | zero => cases h2; cases h3; exact ⟨rfl, .inr rfl, nm, id, dx, [], hl, .nil⟩
          | succ i =>
            rw [List.getElem?_cons_succ] at h2 h3
            rw [List.getElem?_map] at h3
            cases h : ts[i]? with
            | none => rw [h] at h3; cases h3
            | some t =>
              rw [h] at h3; cases h3
              obtain ⟨v', g1, g2⟩ := d.get h
              rw [h2] at g1; cases g1
              exact g2
        · exact ⟨_, h1, True.intro⟩
    have out : Xo (cxOf (L2.CX P w) P w K mg base N qual (defScope st) f cdv A outer s H E) ⟨T, fun _ => False, without H l, m⟩ (xp ts) :=
      ⟨E, takes_of rfl rfl rfl rfl, fun M Δ σ H' C d es hx S' xd => qx C d es H' hx (fe_without S'.fr noT) S'.tb (xd.mono (mi_le S'.m0))⟩
    refine ⟨_, pss_self, hb cdv A outer s H (without H l) E m l ts hr hp out _ H Sk0 _ ⟨fun M' Δ' σ' H' a b z => ?_, fun _ _ _ _ _ _ z => z.elim, fun _ _ _ _ z => z.elim, fun _ _ _ _ z => z.elim⟩⟩
    obtain ⟨hM, fs, a1, a2⟩ := a
    have ow := (z.ownAt a2).2.2.2.2
    exact q fs H' a1 (fe_without z.fr noT) z.tb (ow.mono (mi_le fun b y => (hM b).mpr y) fun _ _ y => y)
end
/-- a class of the module, its __init__ may raise -/
structure McX (P : Program) (w : World) (K : PySem.W.Frag) (mg : Str → Option Value) (base : Heap) (x : Str) (C : Addr) (k : Nat) (ps : List Str) (sp : Sp) : Prop where
  cl : Cls K C
  at_ : mg x = some (.ref C)
  ex : ∃ f fd, FnOk P w K mg base (L2.CX P w) k f fd ps sp ∧ L2.Mk K C f ∧ Binds K fd ps []
section
variable {X : Cx} {B : Bs} {M : Pl} {Δ : List En} {e : Expr} {es : List Expr} {Φ : Tr → List En → Prop} {x : Str} {k : Nat} {ps : List Str} {C : Addr} {pre : List Tr → Prop} {post : List Tr → List (Str × Tr) → Prop} {xp : List Tr → XQ} {xq : XQ}
theorem eo_makeX {p pos : Pos} (xo : Xo X B xq) (F : McX X.prog X.w X.K X.mg X.base x C k ps (spIX X.K B.T C pre post xp)) (hr : Room (k + 1) X.A) (hg : Gl X x) (h : EA X B M Δ (e :: es) fun ts Δ1 => pre ts ∧ (∀ fs, post ts fs → Φ (.ins C fs) Δ1) ∧ ∀ D es', xp ts D es' → xq D es')
    (hdb : (x == ("__debug__" : Str)) = false := by decide) (he : starEach (e :: es) X.env = (false, eval e X.env) :: starEach es X.env := by rfl) (hpl : (backTo pos (starEach es X.env)).any (·.1) = false := by rfl) : EO X B M Δ (.Call (.Name x p) (e :: es) [] pos) Φ := fun σ H S Q kk => by
  obtain ⟨f, fd, ok, hm, hb⟩ := F.ex
  obtain ⟨E, tk, ho⟩ := xo
  refine PE.to (pe_make hm ok hr hg F.at_ hb .nil (E := E) (passes_call tk fun _ _ _ _ z => z) pa_self hdb he hpl) (h σ H S _ fun ts Δ1 vs H1 q fe S1 d => fun l dx hl hdx hne => ?_)
  rw [List.append_nil]
  have s1 : Same H1 (upd (upd H1 dx (.own l)) l (.ins C dx [])) := fun b o z => by
    rw [upd_ne (ne_of_none z hl), upd_ne (ne_of_none z hdx)]; exact z
  have nm : ¬ M.m l := S1.notM hl
  have s2 : Sub (mi M.m H1) (mi (fun b => M.m b ∨ b = l) (upd (upd H1 dx (.own l)) l (.ins C dx []))) := mi_new hl S1 (Fe.same s1)
  have low : ∀ H', Fe (fun b => b = l) (upd (upd H1 dx (.own l)) l (.ins C dx [])) H' → Fe (fun _ => False) H1 H' := fun H' f2 => ((Fe.same s1).trans f2).imp fun b o n z e => by rw [z, hl] at e; cases e
  refine ⟨M.m, l, dx, vs, ts, rfl, nm, upd_same, d.mono s2, q.1, fun b z => ?_, S1.tb.ext s1, fun fs H' hp f2 tb ow => ⟨rfl, ?_⟩, fun D dd es' H' hx f2 tb xd => ho M Δ1 σ H' D dd es' (q.2.2 D es' hx) (S1.feGrow (low H' f2) tb) xd⟩
  · obtain ⟨o, e⟩ := S1.al b z
    exact ⟨o, s1 b o e⟩
  · have fn := low H' f2
    have ex : ∃ o, H' l = some o := by
      obtain ⟨_, _, z, _⟩ := ow
      exact ⟨_, z⟩
    obtain ⟨S2, hn⟩ := S1.grab fn tb hl ex
    exact kk _ Δ1 l H' (q.2.1 fs hp) (fe.trans (fn.imp fun _ _ _ z => z.elim)) (fe.free (fun b z => S1.al b (S1.wm b z)) hl) S2 hn ow
end
/-! ### raise C() -/
section
variable {X : Cx} {B : Bs} {M : Pl} {Δ : List En} {x : Str} {C : Addr} {Ψ : Eo} {xq : XQ} {T nw ini : String} {mb : List Value}
theorem exO_end {pins : List (Addr × Obj)} {σ : L2.St} {H1 H2 : Hp} {hp hp2 h2 : Heap} {g1 g2 : Array GenState} {d1 d2 : Drawn} {t1 t2 : Nat} {os1 : OsState} {a C : Addr} (I1 : Inv X pins σ H1 ⟨hp, g1, d1, t1, os1⟩)
    (ha : hp.objs.size ≤ a) (k : ∀ b o, hp.get? b = some o → hp2.get? b = some o) (un : Un (frs X.stack) [] (upd H1 a (exo a C none)) H2 hp2 h2) (hok : HOk X.prog X.w H2 h2) (hb : AllBare g2)
    (ea : H2 a = some (exo a C none)) : Inv X pins σ (upd H2 a (ExO (.ref C) a)) ⟨h2, g2, d2, t2, os1⟩ := by
  obtain ⟨t0, hoe⟩ := exo_at hok ea
  have hn : H1 a = none := I1.hok.fresh ha
  have nha : ∀ {b : Addr} {o : Obj}, hp.get? b = some o → b ≠ a := fun {b o} z => Nat.ne_of_lt (Nat.lt_of_lt_of_le (Heap.lt_size z) ha)
  have up : ∀ {b : Addr}, b ≠ a → H1 b = none → upd H1 a (exo a C none) b = none := fun {b} hb n => by rw [upd_ne hb]; exact n
  have U : Un (frs X.stack) [] H1 (upd H2 a (ExO (.ref C) a)) hp h2 := {
    keep := fun b o z n hf hx => un.keep b o (k b o z) (up (nha z) n) hf hx
    slot := fun b o z n hf hx => un.slot b o (k b o z) (up (nha z) n) hf hx
    free := fun b o z n hx => by
      rw [upd_ne (nha z)]
      exact un.free b o (k b o z) (up (nha z) n) hx
    there := fun b o z hx => un.there b o (k b o z) hx
    tups := fun b xs z => by
      rw [upd_ne (ne_of_none z hn)]
      exact un.tups b xs (by rw [upd_ne (ne_of_none z hn)]; exact z)
    frzs := fun b o v z => by
      rw [upd_ne (ne_of_none z hn)]
      exact un.frzs b o v (by rw [upd_ne (ne_of_none z hn)]; exact z)
    tbls := fun b ps z => by
      rw [upd_ne (ne_of_none z hn)]
      exact un.tbls b ps (by rw [upd_ne (ne_of_none z hn)]; exact z) }
  refine I1.call' (ch := []) rfl U (fun b o z => ?_) hb (fun b z => absurd z (by simp))
  by_cases hba : b = a
  · subst hba
    rw [upd_same] at z
    cases z
    exact exO_ok hoe ⟨rfl, rfl⟩ rfl rfl rfl (show 4 < 6 by decide)
  · rw [upd_ne hba] at z
    exact (hok b o z).stay (fun c v hc y => y) (fun c hc => by rw [upd_ne (at_ne ea hc exo_own)]; exact hc) (fun c xs hc => by rw [upd_ne (at_ne ea hc exo_tup)]; exact hc)
theorem F1run {pins : List (Addr × Obj)} {σ : L2.St} {H1 : Hp} {s1 : Shared} {C fI a : Addr} {k : Nat} {fd : FuncData} (ok : FnOk X.prog X.w X.K X.mg X.base CX0 k fI fd ["self"] (spE0 C)) (hr : Room (k + 1) X.A) (I2 : Inv X pins σ (upd H1 a (exo a C none)) s1)
    (b1 : ∀ (s : Shared) (self : Value), X.K.In s.heap → BindsTo s fd ⟨[self], []⟩ [("self", self)]) (Q : VK) (q : Q .non (upd H1 a (exo a C none))) :
    codeAny (model X.prog X.w) (X.A.under (.builtin "type.__call__" ⟨[.ref C], []⟩)) (.call (.ref fI) ⟨[.ref a], []⟩) (CR CX0 X.stack X.prog X.w (upd H1 a (exo a C none)) s1 Q (fun _ _ _ => False)) s1 :=
  ok.run _ X.stack _ _ ⟨[Value.ref a], []⟩ [Value.ref a] [V.ref a] _ (fun _ _ _ => False) (hr.make C [] []) (I2.env0.make C [] []) (b1 _ _ I2.kIn) (.cons rfl .nil) ⟨a, rfl, upd_same, q⟩
theorem pe_exO {p pos : Pos} (F : ExC0 X.prog X.w X.K X.mg X.base x C) (hr : Room 3 X.A) (hg : Gl X x) (hdb : (x == ("__debug__" : Str)) = false := by decide) :
    PE X (.Call (.Name x p) [] [] pos) (fun σ H Q => ∀ a, H a = none → Raises X (.ref C) → Q (.ref a) (upd H a (ExO (.ref C) a))) := by
  refine ⟨fun pins s σ H Q I h => ?_⟩
  obtain ⟨T, nw, ini, mb, fI, fd, EB, EC, iC, tI, ok, b1⟩ := F.ex
  refine wpAny_Call_Name_kw (ld_glob I hg F.gl ?_ hdb)
  refine PySem.W.callWith_K0 I.kIn EC.kC ?_
  show wpAny _ _ (call (.ref C) []) _ _ _
  obtain ⟨nm, N, qn, bs, bm, hdct, sn, sub, ab, col, dd, k0, k1, k2, k3, k5, hC, hT⟩ := PySem.W.excInit_of I.kIn EC.ini
  obtain ⟨hp, g, dr, tk, os⟩ := s
  have above : hp.objs.size ≤ hp.objs.size + 1 := Nat.le_succ _
  have fresh : H (hp.objs.size + 1) = none := I.hok.fresh above
  have hq := h (hp.objs.size + 1) fresh (raises_own EC.exC EC.tyC)
  have kp : ∀ b o, hp.get? b = some o → ((hp.push (PySem.W.kdv_tup [])).push (PySem.HandSPX.excO C hp.objs.size)).get? b = some o := fun b o e => Heap.get?_push_of_some _ (Heap.get?_push_of_some _ e)
  have new : ((hp.push (PySem.W.kdv_tup [])).push (PySem.HandSPX.excO C hp.objs.size)).get? (hp.objs.size + 1) = some (PySem.HandSPX.excO C hp.objs.size) := by heap_get
  have I2 : Inv X pins σ (upd H (hp.objs.size + 1) (exo (hp.objs.size + 1) C none)) ⟨(hp.push (PySem.W.kdv_tup [])).push (PySem.HandSPX.excO C hp.objs.size), g, dr, tk, os⟩ := I.laid kp above (exo_ok new)
  obtain ⟨Bn, iN, bn, NF, hBn⟩ := EB.nf
  refine wpAny_call (xk_call (kw := []) NF ((hT _).trans hBn) ((hT _).trans EB.noA) ((hT _).trans EB.noN) hC (PySem.W.looks_findIn I.kIn iC) (fun self => PySem.W.bind_fn I.kIn self tI) (Nat.zero_le _)
    (codeAny_mono (F1run ok hr I2 b1 (fun v H2 => v = .non ∧ H2 (hp.objs.size + 1) = some (exo (hp.objs.size + 1) C none) ∧ upd H2 (hp.objs.size + 1) (ExO (.ref C) (hp.objs.size + 1)) = upd H (hp.objs.size + 1) (ExO (.ref C) (hp.objs.size + 1))) ⟨rfl, upd_same, funext fun b => ?_⟩) fun r s' back => ?_))
  · by_cases hb : b = hp.objs.size + 1
    · rw [hb, upd_same, upd_same]
    · rw [upd_ne hb, upd_ne hb, upd_ne hb]
  · cases r with
    | error er => exact False.elim back
    | ok fl =>
      cases fl with
      | ret u =>
        obtain ⟨v, H2, os2, bare2, un2, hok2, rv, ev, e2, e3⟩ := back
        subst ev
        obtain ⟨h2, g2, d2, t2, os'⟩ := s'
        obtain rfl : os' = os := os2
        have J := exO_end (d2 := d2) (t2 := t2) I above kp un2 hok2 bare2 e2
        rw [e3] at J
        exact ⟨rv, .ref (hp.objs.size + 1), _, J, rfl, hq⟩
      | next => exact False.elim back
      | brk => exact False.elim back
      | cont => exact False.elim back
theorem s_raise0 {p pos pos2 : Pos} (xo : Xo X B xq) (F : ExC0 X.prog X.w X.K X.mg X.base x C) (hc : X.calm = true) (hex : X.ex = []) (hB : B.H0 = X.H_0) (hr : Room 3 X.A) (hg : Gl X x) (q : xq C [])
    (hdb : (x == ("__debug__" : Str)) = false := by decide) : S1 X B M Δ (.Raise (some (.Call (.Name x p) [] [] pos)) none pos2) Ψ := fun σ H S D pp => by
  obtain ⟨E, tk, ho⟩ := xo
  refine PS.to (ps_raise hc tk (pmk_ret hex (pe_exO F hr hg hdb))) fun a ha hra => ⟨a, .ref C, rfl, upd_same, ?_, hra, ?_⟩
  · rw [← hB]
    exact fr0_none (S.new0 ha)
  · rw [delH_new ha]
    exact ho M Δ σ H C none [] q S rfl
end
end Wf

set_option Elab.async false
set_option linter.all false
set_option maxRecDepth 100000
set_option maxHeartbeats 2000000
/-! WfEnT: enumerate over a tuple. -/
namespace PySem
open Sem (wp)
open PyProof.Rows L2
theorem ent_new (l : Addr) (its : Array Value) (n : Nat) (dct : Option Addr) (sl : Array (Option Value)) : Meets (Builtin.«enumerate.__new__» ⟨[.type "enumerate", .ref l], []⟩) (fun _ R s => s.heap.get? l = some { cls := .type "tuple", dict := dct, data := .seq its n, slots := sl } ∧
      R (.ok (.ret (.ref (s.heap.push { cls := .type "tuple_iterator", data := .fields #[.ref l, .int 0 0] }).objs.size)))
        { s with heap := (s.heap.push { cls := .type "tuple_iterator", data := .fields #[.ref l, .int 0 0] }).push { cls := .type "enumerate", data := .fields #[.none, .bool false, .ref s.heap.objs.size, rawInt 0, .none, .none] } }) :=
  .of_wp fun prog w A R s h => by
    obtain ⟨hp, g, d, tk, os⟩ := s
    obtain ⟨ht0, h⟩ := h
    have se := sub_enumerate
    have tp : IsTup (Shared.heap ⟨hp, g, d, tk, os⟩) l its := ⟨_, ht0, rfl, n, rfl⟩
    wp_walk using AutoSeq1.wpAny_loadPart' ht0
    refine wpAny_stack_any fun stk => wpAny_pure ?_
    split
    · rename_i cl0 _ _ _ _ _
      cases (cl0 == Value.type "enumerate") <;>
      · wp_walk using AutoSeq1.wpAny_loadPart' ht0, iter_tuple tp
        exact ⟨_, rfl, h⟩
    · wp_walk using AutoSeq1.wpAny_loadPart' ht0, iter_tuple tp
      exact ⟨_, rfl, h⟩
end PySem
namespace PySem
open Sem (wp)
open PyProof.Rows L2
section
variable {prog : Program} {w : World} {A : Around} {E : Value → Shared → Prop} {s : Shared} {it t e : Addr} {i : Nat} {its : Array Value} {x old : Value}
theorem ent_item {Q : Value → Shared → Prop} (hit : IsTupIter s.heap it t i) (ht : IsTup s.heap t its) (hx : its[i]? = some x) (hQ : ∀ h1, IsTupIter h1 it t (i + 1) → Heap.SameBut it s.heap h1 → Q x { s with heap := h1 }) : wpAny (model prog w) A (Builtin.SmallTypes.nextOf (.ref it)) Q E s := by
  unfold Builtin.SmallTypes.nextOf
  exact wpAny_bind (special_tup_item hit ht hx fun h1 a b => wpAny_pure (hQ h1 a b))
theorem ent_stop {Q : Value → Shared → Prop} (hh : A.handled = none) (hit : IsTupIter s.heap it t i) (ht : IsTup s.heap t its) (hx : its[i]? = none) (hE : ∀ v h1, StopX v h1 → Heap.ExtBut it s.heap h1 → E v { s with heap := h1 }) : wpAny (model prog w) A (Builtin.SmallTypes.nextOf (.ref it)) Q E s := by
  unfold Builtin.SmallTypes.nextOf
  exact wpAny_bind (special_tup_end hh hit ht hx fun v h1 a b => hE v h1 a b)
theorem IsTupIter.past {h h' : Heap} {a t b : Addr} {i : Nat} (z : IsTupIter h a t i) (k : Heap.ExtBut b h h') (n : a ≠ b) : IsTupIter h' a t i := let ⟨o, ho, r⟩ := z; ⟨o, k a o n ho, r⟩
/-- the enumerate at e hands out a pair -/
theorem ent_next {Q : Option Value → Shared → Prop} (he : IsEnum s.heap e it i old) (hit : IsTupIter s.heap it t i) (ht : IsTup s.heap t its) (hx : its[i]? = some x) (hne : e ≠ it)
    (hQ : ∀ h1, IsEnumOut h1 e it ((i : Int) + 1) x s.heap.objs.size → IsTupIter h1 it t (i + 1) → h1.get? s.heap.objs.size = some { cls := .type "tuple", data := .seq #[.int i s.toks, x] } →
      (∀ b o, b ≠ e → b ≠ it → s.heap.get? b = some o → h1.get? b = some o) → Q (some (.ref s.heap.objs.size)) { s with heap := h1, toks := s.toks + 1 }) : wpAny (model prog w) A (pyNext (.ref e)) Q E s := by
  have ty : s.TypeIs (.ref e) "enumerate" := ⟨_, he, rfl⟩
  unfold pyNext
  refine wpAny_bind (wpAny_attempt (wpAny_callSpecial?_slot (name := Str.ofString "__next__") ty F.slot_enumerate_next (wpAny_call_entry F.slot_enumerate_next ty F.entry_enumerate_next ?_ (F.args_enumerate_next_1 _))))
  obtain ⟨hp, g, d, tk, os⟩ := s
  have e0 : e < hp.objs.size := Heap.lt_size he
  have ez : hp.objs.size ≠ e := Nat.ne_of_gt e0
  change wpAny _ _ (field (.ref e) 2 >>= _) _ _ _; refine wpAny_bind (wpAny_field he rfl (x := .ref it) rfl (wpAny_bind (ent_item hit ht hx fun ha ia sa => ?_)))
  have sa : Heap.SameBut it hp ha := sa
  have ea : IsEnum ha e it i old := (sa.2 e hne).trans he
  change wpAny _ _ (field (.ref e) 3 >>= _) _ _ ⟨ha, g, d, tk, os⟩; refine wpAny_bind (wpAny_field ea rfl (x := rawInt i) rfl ?_)
  change wpAny _ _ (field (.ref e) 4 >>= _) _ _ ⟨ha, g, d, tk, os⟩; refine wpAny_bind (wpAny_field ea rfl (x := .none) rfl ?_)
  change wpAny _ _ (mkInt i >>= _) _ _ ⟨ha, g, d, tk, os⟩; refine wpAny_bind (wpAny_mkInt ?_)
  change wpAny _ _ (setField (.ref e) 3 (rawInt ((i : Int) + 1)) >>= _) _ _ ⟨ha, g, d, tk + 1, os⟩; refine wpAny_bind (wpAny_setField_rec ea (by simp) fun hb eb sb => ?_)
  have sb : Heap.SameBut e ha hb := sb
  have eb : IsEnum hb e it ((i : Int) + 1) old := eb
  change wpAny _ _ (setField (.ref e) 4 .none >>= _) _ _ ⟨hb, g, d, tk + 1, os⟩; refine wpAny_bind (wpAny_setField_rec eb (by simp) fun hc ec sc => ?_)
  have sc : Heap.SameBut e hb hc := sc
  have ec : IsEnum hc e it ((i : Int) + 1) old := ec
  change wpAny _ _ (newTuple [.int i tk, x] >>= _) _ _ ⟨hc, g, d, tk + 1, os⟩; refine wpAny_bind (wpAny_newTuple ?_)
  have zc : hc.objs.size = hp.objs.size := by rw [sc.1, sb.1, sa.1]
  obtain ⟨hd, rfl⟩ : ∃ q, q = hc.push { cls := .type "tuple", data := .seq #[.int i tk, x] } := ⟨_, rfl⟩
  have ed : IsEnum (hc.push { cls := .type "tuple", data := .seq #[.int i tk, x] }) e it ((i : Int) + 1) old := Heap.get?_push_of_some _ ec
  have td : (hc.push { cls := .type "tuple", data := .seq #[.int i tk, x] }).get? hp.objs.size = some { cls := .type "tuple", data := .seq #[.int i tk, x] } := by
    rw [← zc]; exact Heap.get?_push_size _ rfl
  have kd : ∀ b o, b ≠ e → b ≠ it → hp.get? b = some o → (hc.push { cls := .type "tuple", data := .seq #[.int i tk, x] }).get? b = some o := fun b o n1 n2 z => Heap.get?_push_of_some _ (sc.extBut b o n1 (sb.extBut b o n1 (sa.extBut b o n2 z)))
  have idd : IsTupIter (hc.push { cls := .type "tuple", data := .seq #[.int i tk, x] }) it t (i + 1) := by
    obtain ⟨o, ho, r⟩ := (IsTupIter.past (IsTupIter.past ia sb.extBut (Ne.symm hne)) sc.extBut (Ne.symm hne))
    exact ⟨o, Heap.get?_push_of_some _ ho, r⟩
  revert ed td kd idd
  generalize hc.push { cls := .type "tuple", data := .seq #[.int i tk, x] } = hd
  intro ed td kd idd
  rw [zc]
  clear ec sc eb sb ea sa ia zc
  change wpAny _ _ (Builtin.SmallTypes.ownedTupleIsFree (.ref e) >>= _) _ _ ⟨hd, g, d, tk + 1, os⟩; refine wpAny_bind ?_
  unfold Builtin.SmallTypes.ownedTupleIsFree; refine wpAny_bind (wpAny_field ed rfl (x := .none) rfl (wpAny_pure ?_))
  simp only [if_true]; refine wpAny_bind (wpAny_rule (wpAny_bind (wpAny_field ed rfl (x := old) rfl (wpAny_bind (wpAny_setField_rec ed (by simp) fun hf ef sf => ?_)))))
  have sf : Heap.SameBut e hd hf := sf
  have ef : IsEnum hf e it ((i : Int) + 1) x := ef
  change wpAny _ _ (Builtin.SmallTypes.ownedTupleHandOut (.ref e) (.ref hp.objs.size) >>= _) _ _ ⟨hf, g, d, tk + 1, os⟩; refine wpAny_bind ?_
  unfold Builtin.SmallTypes.ownedTupleHandOut; refine wpAny_bind (wpAny_setField_rec ef (by simp) fun hg eg sg => ?_)
  have sg : Heap.SameBut e hf hg := sg
  have eg : IsEnumOut hg e it ((i : Int) + 1) x hp.objs.size := eg
  refine wpAny_setField_rec eg (by simp) fun hk ek sk => ?_
  have sk : Heap.SameBut e hg hk := sk
  have ek : IsEnumOut hk e it ((i : Int) + 1) x hp.objs.size := ek
  refine wpAny_bind (wpAny_letGo (wpAny_pure ⟨_, rfl, wpAny_pure (hQ hk ek (IsTupIter.past (IsTupIter.past (IsTupIter.past idd sf.extBut (Ne.symm hne)) sg.extBut (Ne.symm hne)) sk.extBut (Ne.symm hne)) ?_ fun b o n1 n2 z => ?_)⟩))
  · exact sk.extBut _ _ ez (sg.extBut _ _ ez (sf.extBut _ _ ez td))
  · exact sk.extBut b o n1 (sg.extBut b o n1 (sf.extBut b o n1 (kd b o n1 n2 z)))
theorem ent_done {Q : Option Value → Shared → Prop} (hh : A.handled = none) (he : IsEnum s.heap e it i old) (hit : IsTupIter s.heap it t i) (ht : IsTup s.heap t its) (hx : its[i]? = none) (hQ : ∀ h1, Heap.ExtBut it s.heap h1 → Q none { s with heap := h1 }) : wpAny (model prog w) A (pyNext (.ref e)) Q E s := by
  have ty : s.TypeIs (.ref e) "enumerate" := ⟨_, he, rfl⟩
  unfold pyNext
  refine wpAny_bind (wpAny_attempt (wpAny_callSpecial?_slot (name := Str.ofString "__next__") ty F.slot_enumerate_next (wpAny_call_entry F.slot_enumerate_next ty F.entry_enumerate_next ?_ (F.args_enumerate_next_1 _))))
  change wpAny _ _ (field (.ref e) 2 >>= _) _ _ _; refine wpAny_bind (wpAny_field he rfl (x := .ref it) rfl (wpAny_bind (ent_stop hh hit ht hx fun v h1 st k => ?_)))
  obtain ⟨a, o, vs, rfl, ho, hc, _⟩ := st
  exact wpAny_bind (wpAny_isInstance (T := "StopIteration") (b := true) ⟨o, ho, hc⟩ isSubtype_stop (wpAny_pure (hQ _ k)))
theorem ent_call {Q : Value → Shared → Prop} (ht : IsTup s.heap t its) (h : ∀ h1, IsEnum h1 (s.heap.objs.size + 1) s.heap.objs.size 0 .none → IsTupIter h1 s.heap.objs.size t 0 → (∀ b o, s.heap.get? b = some o → h1.get? b = some o) → Q (.ref (s.heap.objs.size + 1)) { s with heap := h1 }) : wpAny (model prog w) A (call (.type "enumerate") [.ref t]) Q E s := by
  obtain ⟨⟨c, dct, dt, sl⟩, hl, hc, n, hd⟩ := ht
  obtain rfl : c = .type "tuple" := hc
  obtain rfl : dt = .seq its n := hd
  refine callType_new F.called_enumerate (by decide) (F.typeCall_enumerate_1 _) (F.newCall_enumerate_1 _) (fun obj => F.args_object_init_2 obj _) F.entry_enumerate_new (ent_new t its n dct sl) ⟨hl, ?_⟩
  have z1 : (s.heap.push { cls := .type "tuple_iterator", data := .fields #[.ref t, .int 0 0] }).objs.size = s.heap.objs.size + 1 := Heap.size_push ..
  show _ ∧ _
  rw [z1]
  have ez := Heap.get?_push_size (s.heap.push { cls := .type "tuple_iterator", data := .fields #[.ref t, .int 0 0] }) (o := { cls := .type "enumerate", data := .fields #[.none, .bool false, .ref s.heap.objs.size, rawInt 0, .none, .none] }) rfl
  rw [z1] at ez
  exact ⟨⟨_, ez, rfl⟩, h _ ez ⟨_, Heap.get?_push_of_some _ (Heap.get?_push_size _ rfl), rfl, rfl⟩ fun b o z => Heap.get?_push_of_some _ (Heap.get?_push_of_some _ z)⟩
end
end PySem
namespace Wf
open PySem PySem.Spec PyProof.Rows L2 LamX
/-- the tuple at a, each item with its number in a new pair -/
def Ient (K : PySem.W.Frag) (a : Addr) : It where
  go := fun i H => ∃ (xs : List V) (x : V), SqT K H a xs ∧ xs[i]? = some x
  yld := fun i H v H' => ∃ T x, v = .ref T ∧ H T = none ∧ H' = upd H T (.tup [.int (i : Nat), x]) ∧ ∀ xs, SqT K H a xs → xs[i]? = some x
  stop := fun i H => ∃ xs : List V, SqT K H a xs ∧ xs.length ≤ i
theorem ent_turn {P : Program} {w : World} {K : PySem.W.Frag} {elts : List Expr} {kk : Nat} {tpos : Pos} (a e it : Addr) : Turn P w K (.Tuple elts kk tpos) (Ient K a) [e, it] e (fun i h => (∃ old, IsEnum h e it ((i : Nat) : Int) old) ∧ IsTupIter h it a i ∧ e ≠ it) where
  mem := List.mem_cons_self
  obj := fun i h st b hb => by
    obtain ⟨⟨old, he⟩, ⟨o, ho, hc, hd⟩, _⟩ := st
    rcases List.mem_cons.mp hb with z | z
    · rw [z]
      exact ⟨_, he, fun v q => (nomatch q)⟩
    · rw [List.mem_singleton.mp z]
      exact ⟨o, ho, fun v q => by rw [hd] at q; cases q⟩
  keep := fun i h h' st k => by
    obtain ⟨⟨old, he⟩, ⟨o, ho, r⟩, hne⟩ := st
    exact ⟨⟨old, k e List.mem_cons_self _ he⟩, ⟨o, k it (List.mem_cons_of_mem _ List.mem_cons_self) _ ho, r⟩, hne⟩
  item := fun X hP hw hK hc i pins s σ H E I hf st hg => by
    subst hP hw hK
    obtain ⟨⟨old, he⟩, hit, hne⟩ := st
    obtain ⟨xs, x, hq, hx⟩ := hg
    obtain ⟨its, rv, tp, hz⟩ := I.tuple hq
    obtain ⟨u, hu, ru⟩ := rv.get hx
    have e0 : e < s.heap.objs.size := Heap.lt_size he
    have i0 : it < s.heap.objs.size := let ⟨_, q, _⟩ := hit; Heap.lt_size q
    refine ent_next he hit tp (x := u) (by simpa using hu) hne fun h1 ho it1 t1 k1 => ⟨_, rfl, wpAny_letOwnedTupleGo_enum (s := { s with heap := h1, toks := s.toks + 1 }) ho fun h2 he2 sb => ?_⟩
    have t2 : h2.get? s.heap.objs.size = some { cls := .type "tuple", data := .seq #[.int i s.toks, u] } := (sb.2 _ (Nat.ne_of_gt e0)).trans t1
    have new : ObjOk X.prog X.w (upd H s.heap.objs.size (.tup [.int (i : Nat), x])) h2 s.heap.objs.size (.tup [.int (i : Nat), x]) := ⟨by show 2 ≤ sizeLine; decide, [.int i s.toks, u], .cons ⟨_, rfl⟩ (.cons ru .nil), ⟨_, t2, rfl, _, rfl⟩⟩
    have I1 : Inv X pins σ (upd H s.heap.objs.size (.tup [.int (i : Nat), x])) { s with heap := h2, toks := s.toks + 1 } :=
      I.turnedNew (ch := [e, it]) (fun b ob hb q => have n1 : b ≠ e := fun z => hb (by simp [z]); have n2 : b ≠ it := fun z => hb (by simp [z]); (sb.2 b n1).trans (k1 b ob n1 n2 q)) hf (Nat.le_refl _) new
    refine ⟨.ref s.heap.objs.size, _, I1, rfl, ⟨_, x, rfl, I.hok.fresh (Nat.le_refl _), rfl, fun ys hy => by rw [I.tuple_inj hy hq]; exact hx⟩, ⟨⟨u, ?_⟩, ?_, hne⟩, fun b hb => ?_⟩
    · rw [show ((i + 1 : Nat) : Int) = (i : Int) + 1 by omega]
      exact he2
    · obtain ⟨o, h3, r⟩ := it1
      exact ⟨o, (sb.2 it (Ne.symm hne)).trans h3, r⟩
    · have hb' : b < s.heap.objs.size := by
        rcases List.mem_cons.mp hb with z | z
        · rw [z]; exact e0
        · rw [List.mem_singleton.mp z]; exact i0
      rw [upd_ne (Nat.ne_of_lt hb')]
      exact (hf b hb).1
  done := fun X hP hw hK hc i pins s σ H E I hf st hg => by
    subst hP hw hK
    obtain ⟨⟨old, he⟩, hit, hne⟩ := st
    obtain ⟨xs, hq, hx⟩ := hg
    obtain ⟨its, rv, tp, hz⟩ := I.tuple hq
    obtain ⟨f0, f1, f2, f3, f4, f5⟩ := hf it (List.mem_cons_of_mem _ List.mem_cons_self)
    have hl := rv.length
    exact ent_done (I.ok.hd hc) he hit tp (by simp; omega) fun h1 eb => ⟨rfl, I.turned (t' := s.toks) (fun b o hb q => eb b o hb q) f0 f1 f3 f4 f5⟩
  self := fun A i s Q E st h => by
    obtain ⟨⟨_, he⟩, _⟩ := st
    exact wpAny_pyIter_enum he h
def ientI (K : PySem.W.Frag) (ta : TA) : TI := fun σ H R => ta σ H fun vs H1 => ∃ a xs, vs = [.ref a] ∧ SqT K H1 a xs ∧ R (Ient K a) H1
section
variable {X : Cx} {B : Bs} {M : Pl} {Δ : List En} {a : Expr} {Φ : Nat → (Nat → Tr) → List En → Prop} {elts : List Expr} {kk : Nat} {p pos tpos : Pos}
theorem pi_ent {ta : TA} (hg : Gl X "enumerate") (hm : X.mg "enumerate" = none) (ha : PA X [a] ta) (hs : starEach [a] X.env = [(false, eval a X.env)]) : PI X (.Tuple elts kk tpos) (.Call (.Name "enumerate" p) [a] [] pos) (ientI X.K ta) := by
  refine ⟨fun pins s σ H R I h => Call_ (ld_blt I hg hm boot_enumerate (PyProof.Rows.callWith_type1 (thn (ha.run pos pins s σ H _ I h) fun us s1 ⟨vs, H1, I1, r1, q1⟩ => ?_) hs rfl))⟩
  obtain ⟨a, xs, rfl, hq, q⟩ := q1
  cases r1 with
  | cons r rr =>
    cases rr
    cases r
    obtain ⟨its, rv, tp, hz⟩ := I1.tuple hq
    refine ent_call tp fun h1 he hit hk => wpAny_pyIter_enum he ?_
    refine ⟨s1.heap.objs.size + 1, [s1.heap.objs.size + 1, s1.heap.objs.size], _, _, H1, rfl, I1.kept (t' := s1.toks) hk, ent_turn a _ _, ⟨⟨.none, he⟩, hit, Nat.succ_ne_self _⟩, fun b hb => ?_, q⟩
    have hle : s1.heap.objs.size ≤ b := by
      rcases List.mem_cons.mp hb with z | z
      · rw [z]; exact Nat.le_add_right _ _
      · rw [List.mem_singleton.mp z]; exact Nat.le_refl _
    exact I1.fpOk hle (I1.hok.fresh hle)
theorem ent_walk {K : PySem.W.Frag} {a : Addr} {xs : List V} : Walk (Ient K a) xs.length (fun H => SqT K H a xs) (YPair (fun i => some (.int (i : Nat))) (fun i => xs[i]?)) where
  goes := fun i _ hi q => ⟨xs, xs[i], q, List.getElem?_eq_getElem hi⟩
  stops := fun _ q => ⟨xs, q, Nat.le_refl _⟩
  yields := fun i H v H' _ q ⟨T, x, h1, h2, h3, h4⟩ => ⟨T, .int (i : Nat), x, h1, h2, h3, rfl, h4 xs q⟩
/-- enumerate(t), t a tuple -/
theorem ei_enumT (hg : Gl X "enumerate") (hm : X.mg "enumerate" = none) (h : EE X B M Δ a fun t Δ1 => ∃ ts, t = .tup ts ∧ Φ ts.length (fun i => .tup [.int i, ts.getD i .non]) Δ1) (hs : starEach [a] X.env = [(false, eval a X.env)] := by rfl) : EI X B M Δ (.Tuple elts kk tpos) (.Call (.Name "enumerate" p) [a] [] pos) Φ :=
  ⟨_, pi_ent hg hm (pa_cons pe_self pa_nil hs) hs, fun σ H S R k => h σ H S _ fun t Δ1 v H1 p f S1 d => by
    obtain ⟨ts, rfl, q⟩ := p
    cases d with
    | tup h1 h2 =>
      rename_i a xs
      refine ⟨a, xs, rfl, sub_seqT mi_sub h1, k ts.length _ Δ1 (Ient X.K a) _ _ H1 q f S1 (h2.length ▸ ent_walk) (fun M2 H2 s => sub_seqT mi_sub (sub_seqT s h1)) fun i x Ha Hb M2 hi y s nM => ?_⟩
      obtain ⟨T, x1, y1, rfl, hT, rfl, ex, ey⟩ := y
      obtain rfl : V.int (i : Nat) = x1 := Option.some.inj ex
      obtain ⟨t, e1, e2⟩ := h2.getV ey
      have sm := same_new (o := .tup [.int (i : Nat), y1]) hT
      refine ⟨sm, ?_⟩
      rw [getD_of e1]
      exact .tup (SqT.of (mi_of (nM T hT) upd_same)) (.cons (.int _) (.cons ((e2.mono s).mono (Sub.of sm).mi) .nil))⟩
end
end Wf

set_option Elab.async false
set_option linter.all false
set_option maxRecDepth 100000
set_option maxHeartbeats 2000000
namespace Wf
open PySem PySem.Spec PyProof.Rows L2 LamX
/-! ### displays of constants: one relation instead of a chain of steps -/
/-- e gives t, whatever is known, and changes nothing that is known -/
def Kst (X : Cx) (B : Bs) (M : Pl) (e : Expr) (t : Tr) : Prop := ∀ (Δ : List En) (Φ : Tr → List En → Prop), Φ t Δ → EE X B M Δ e Φ
def KstL (X : Cx) (B : Bs) (M : Pl) (es : List Expr) (ts : List Tr) : Prop := ts.length = es.length ∧ ∀ (Δ : List En) (Θ : List Tr → List En → Prop), Θ ts Δ → EA X B M Δ es Θ
theorem small_le {n : Nat} (h : Nat.ble n 1000 = true) : n ≤ sizeLine := Nat.le_trans (Nat.le_of_ble_eq_true h) (by rw [sizeLine_eq]; decide)
section
variable {X : Cx} {B : Bs} {M : Pl} {e : Expr} {es : List Expr} {t : Tr} {ts : List Tr} {j j1 j2 : Nat} {pos p1 p2 : Pos}
theorem kl_nil : KstL X B M [] [] := ⟨rfl, fun _ _ q => ea_nil q⟩
theorem kl_cons (h : Kst X B M e t) (r : KstL X B M es ts) (hs : starEach (e :: es) X.env = (false, eval e X.env) :: starEach es X.env := by rfl) : KstL X B M (e :: es) (t :: ts) :=
  ⟨by rw [List.length_cons, List.length_cons, r.1], fun Δ Θ q => ea_cons (h Δ _ (r.2 Δ _ q)) hs⟩
theorem ks_non : Kst X B M (.Constant .none j pos) .non := fun _ _ q => ee_non q
theorem ks_bl {b : Bool} : Kst X B M (.Constant (.bool b) j pos) (.bl b) := fun _ _ q => ee_bl q
theorem ks_int {i : Int} : Kst X B M (.Constant (.int i) j pos) (.int i) := fun _ _ q => ee_int q
theorem ks_str {i : Str} : Kst X B M (.Constant (.str i) j pos) (.str i) := fun _ _ q => ee_str q
theorem ks_neg {i : Int} : Kst X B M (.UnaryOp .USub (.Constant (.int i) j p1) pos) (.int (-i)) := fun _ _ q => ee_neg (ee_int ⟨_, rfl, q⟩)
theorem ks_tup {x1 : _} (h : KstL X B M es ts) (hl : es.length ≤ 1000 := by exact Nat.le_of_ble_eq_true rfl) : Kst X B M (.Tuple es x1 pos) (.tup ts) := fun Δ _ q => ee_tup (h.2 Δ _ ⟨by rw [h.1]; exact Nat.le_trans hl (by rw [sizeLine_eq]; decide), q⟩)
theorem ks_lst (h : KstL X B M es ts) (hl : es.length ≤ 1000 := by exact Nat.le_of_ble_eq_true rfl) : Kst X B M (.List es pos) (.lst ts) := fun Δ _ q => EO.ee (eo_lst (h.2 Δ _ ⟨by rw [h.1]; exact Nat.le_trans hl (by rw [sizeLine_eq]; decide), q⟩))
theorem ks_dict0 : Kst X B M (.Dict [] [] pos) (.dct []) := fun _ _ q => ee_dict0 q
theorem ks_dict1 {k : Str} {n : Int} : Kst X B M (.Dict [some (.Constant (.str k) j1 p1)] [.Constant (.int n) j2 p2] pos) (.dct [(.inr k, .int n)]) := fun _ _ q => ee_dict1 q
/-- a new list of constants, owned -/
theorem eo_kst {Δ : List En} {Φ : Tr → List En → Prop} (h : KstL X B M es ts) (q : Φ (.lst ts) Δ) (hl : es.length ≤ 1000 := by exact Nat.le_of_ble_eq_true rfl) : EO X B M Δ (.List es pos) Φ := eo_lst (h.2 Δ _ ⟨by rw [h.1]; exact Nat.le_trans hl (by rw [sizeLine_eq]; decide), q⟩)
end
end Wf

set_option Elab.async false
set_option linter.all false
set_option maxRecDepth 100000
set_option maxHeartbeats 2000000
namespace Wf
open PySem PySem.Spec PyProof.Rows L2 LamX
/-! ### C(..) where what is raised is wished for at the slots -/
section
variable {X : Cx} {CX : CXT} {k : Nat} {f C : Addr} {fd : FuncData} {ps : List Str} {sp : Sp} {E : L2.St → XK} {x : Str} {p pos : Pos} {e : Expr} {es : List Expr} {t : TA}
def tMakeS (C : Addr) (sp : Sp) (E : L2.St → XK) (t : TA) : TE := fun σ H Q => t σ H fun vs H1 => ∀ y dx, H1 y = none → H1 dx = none → dx ≠ y → sp (.ref y :: vs) (upd (upd H1 dx (.own y)) y (.ins C dx [])) (fun v H2 => v = .non ∧ Q (.ref y) H2) (E σ)
theorem pe_makeS (M : L2.Mk X.K C f) (F : FnOk X.prog X.w X.K X.mg X.base CX k f fd ps sp) (hr : Room (k + 1) X.A) (hg : Gl X x) (hm : X.mg x = some (.ref C)) (hb : Binds X.K fd ps []) (hx : ∀ σ, PassesAt CX X σ (E σ)) (ha : PA X (e :: es) t)
    (hdb : (x == ("__debug__" : Str)) = false := by decide) (he : starEach (e :: es) X.env = (false, eval e X.env) :: starEach es X.env := by rfl) (hpl : (backTo pos (starEach es X.env)).any (·.1) = false := by rfl) :
    PE X (.Call (.Name x p) (e :: es) [] pos) (tMakeS C sp E t) := by
  refine ⟨fun pins s σ H Q I h => wpAny_Call_Name_kw (ld_glob I hg hm (PySem.W.callWith_K (h₀ := X.base) I.ok.mod.kin M.kp (thn (ha.run pos pins s σ H _ I h) fun us s1 z => ?_) he hpl) hdb)⟩
  obtain ⟨vs, H1, I1, r, q⟩ := z
  refine ⟨I1.kIn, ?_⟩
  have go := q (s1.heap.objs.size + 1) s1.heap.objs.size (I1.hok.fresh (Nat.le_succ _)) (I1.hok.fresh (Nat.le_refl _)) (Nat.ne_of_lt (Nat.lt_succ_self _))
  have J := Inv.made (C := C) I1
  have rr : Vals (V.ref (s1.heap.objs.size + 1) :: vs) (Value.ref (s1.heap.objs.size + 1) :: us) := .cons rfl r
  have hl : (Value.ref (s1.heap.objs.size + 1) :: us ++ []).length = ps.length := by
    rw [List.append_nil, ← rr.length]
    exact F.len _ _ _ _ go
  have bd := hb _ (Value.ref (s1.heap.objs.size + 1) :: us) J.kIn hl
  rw [List.append_nil] at bd
  refine wpAny_call (make_map (f := f) I1.kIn M.makes M.init (beq_iff_eq.mp M.fn) (codeAny_mono (F.run _ X.stack _ _ ⟨Value.ref (s1.heap.objs.size + 1) :: us, []⟩ (Value.ref (s1.heap.objs.size + 1) :: us) _ _ (E σ) (hr.make C us []) (J.env0.make C us []) bd rr go) fun r s' back => ?_))
  cases r with
  | error er => exact hx σ pins _ _ er s' J back
  | ok fl =>
    cases fl with
    | ret u =>
      obtain ⟨v, H', I3, rv, ev, q3⟩ := J.after back
      subst ev
      exact ⟨rv, V.ref (s1.heap.objs.size + 1), H', I3, rfl, q3⟩
    | next => exact False.elim back
    | brk => exact False.elim back
    | cont => exact False.elim back
end
/-! ### except suites: the exception is at hand -/
/-- the exception a, of class C, its dict d -/
structure Hand (a C : Addr) (d : Option Addr) (oe : Obj) : Prop where
  z : Zc (.ref C) d oe
  f : ∃ vs, oe.data = .fields vs
section
variable {X : Cx} {a C : Addr} {d : Option Addr} {oe : Obj} {pn : List (Addr × Obj)}
theorem call_isP (T : ExcC X.K C) (hd : Hand a C d oe) : CallR (X.suite a ((a, oe) :: pn)) (.builtin "isinstance") (fun xs H Q => ∃ (c : V) (cv : Value) (b : Bool), xs = [.ref a, c] ∧ (∀ u, RelV c u → u = cv) ∧ (∀ dd, d = some dd → ∃ fs, H dd = some (.xd fs)) ∧ PySem.W.kitOne X.K (.ref C) cv = some b ∧ Q (.bl b) H) := by
  intro pins s σ H xs us Q I r h
  obtain ⟨c, cv, b, rfl, hcv, hdd, e, q⟩ := h
  cases r with
  | cons rx rr =>
    cases rr with
    | cons rt rr =>
      cases rr
      cases rx
      have ec := hcv _ rt
      subst ec
      obtain ⟨hget, _⟩ := I.pin (a, oe) (List.mem_append.mpr (.inl List.mem_cons_self))
      obtain ⟨vs, hv⟩ := hd.f
      have nc : PySem.W.notCls oe = true := by unfold PySem.W.notCls; rw [hv] <;> rfl
      have J : ∃ ox od, PySem.W.InstAt s.heap a ox C od := by
        cases d with
        | none => exact ⟨oe, none, hget, hd.z.1, nc, by rw [hd.z.2]; exact True.intro⟩
        | some dd =>
          obtain ⟨fs, q⟩ := hdd dd rfl
          obtain ⟨mA, hns, _⟩ : ObjOk X.prog X.w H s.heap dd (.xd fs) := I.hok dd _ q
          obtain ⟨o, _, _, ho, _⟩ := hns
          exact ⟨oe, some o, hget, hd.z.1, nc, by rw [hd.z.2]; exact ho⟩
      exact PySem.W.kia_one (exc_kit T) I.kIn J e (fun z => nomatch z) fun tk => ⟨.bl b, H, I.kept (t' := tk) fun _ _ z => z, rfl, q⟩
end
/-- e gives a datum; the exception's fields es stand by -/
def EX (X : Cx) (B : Bs) (M : Pl) (Δ : List En) (d : Option Addr) (es : List (Str × Tr)) (e : Expr) (Φ : Tr → Prop) : Prop := ∀ σ H, Sk X.K B M H σ Δ → Xd X.K (mi M.m H) d es → ∀ Q : VK,
  (∀ t v H', Φ t → Fe M.w H H' → Sk X.K B M H' σ Δ → Dt X.K (mi M.m H') v t → Q v H') → WE X e σ H Q
def EXA (X : Cx) (B : Bs) (M : Pl) (Δ : List En) (d : Option Addr) (es : List (Str × Tr)) (l : List Expr) (Φ : List Tr → Prop) : Prop := ∀ σ H, Sk X.K B M H σ Δ → Xd X.K (mi M.m H) d es → ∀ Q : List V → Hp → Prop,
  (∀ ts vs H', Φ ts → Fe M.w H H' → Sk X.K B M H' σ Δ → Dts X.K (mi M.m H') vs ts → Q vs H') → WA X l σ H Q
section
variable {X : Cx} {B : Bs} {M : Pl} {Δ : List En} {d : Option Addr} {es : List (Str × Tr)} {e o : Expr} {l : List Expr} {Φ : Tr → Prop} {pos p p2 : Pos}
theorem ex_of (h : EE X B M Δ e fun t Δ' => Δ' = Δ ∧ Φ t) : EX X B M Δ d es e Φ := fun σ H S _ Q k => h σ H S Q fun t Δ' v H' q f S' dd => by
  obtain ⟨rfl, q⟩ := q
  exact k t v H' q f S' dd
theorem exa_nil {Θ : List Tr → Prop} (q : Θ []) : EXA X B M Δ d es [] Θ := fun σ H S _ Q k => PA.to pa_nil (k [] [] H q (Fe.refl _ _) S .nil)
theorem exa_cons {Θ : List Tr → Prop} (h : EX X B M Δ d es e fun t => EXA X B M Δ d es l fun ts => Θ (t :: ts)) (hs : starEach (e :: l) X.env = (false, eval e X.env) :: starEach l X.env := by rfl) : EXA X B M Δ d es (e :: l) Θ := fun σ H S xd Q k =>
  PA.to (pa_cons pe_self pa_self hs) (h σ H S xd _ fun t v H1 q f S1 d1 => q σ H1 S1 (xd.mono (S.sub f)) _ fun ts vs H2 q2 f2 S2 d2 => k _ _ H2 q2 (f.trans f2) S2 (.cons (d1.mono (S1.sub f2)) d2))
theorem ex_tup {x1 : _} (h : EXA X B M Δ d es l fun ts => ts.length ≤ sizeLine ∧ Φ (.tup ts)) : EX X B M Δ d es (.Tuple l x1 pos) Φ := fun σ H S xd Q k =>
  PE.to (pe_tup pa_self) (h σ H S xd _ fun ts vs H1 q f S1 d1 => by
    refine ⟨by rw [d1.length]; exact q.1, fun y hy => ?_⟩
    have s := same_new (o := .tup vs) hy
    exact k _ _ _ q.2 (f.trans (Fe.same s)) (S1.same s) (.tup (SqT.of (mi_of (S1.notM hy) upd_same)) (d1.mono (Sub.of s).mi)))
end
section
variable {X : Cx} {a C : Addr} {oe : Obj} {pn : List (Addr × Obj)} {B : Bs} {M : Pl} {Δ : List En} {d : Option Addr} {es : List (Str × Tr)} {e o : Expr} {Φ : Tr → Prop} {i : Nat} {n y : Str} {pos p p2 : Pos}
theorem xd_look {K : PySem.W.Frag} {I : Hp} {n : Str} {t : Tr} (h : Xd K I d es) (l : es.lookup n = some t) : ∃ dd fs v, d = some dd ∧ I dd = some (.xd fs) ∧ fs.lookup n = some v ∧ Dt K I v t := by
  cases d with
  | none =>
    have e : es = [] := h
    subst e
    cases l
  | some dd =>
    obtain ⟨fs, h1, h2⟩ := h
    obtain ⟨v, h3, h4⟩ := h2.lookup l
    exact ⟨dd, fs, v, rfl, h1, h3, h4⟩
theorem xd_dict {K : PySem.W.Frag} {H : Hp} (h : Xd K (mi M.m H) d es) : ∀ dd, d = some dd → ∃ fs, H dd = some (.xd fs) := fun dd e => by
  subst e
  obtain ⟨fs, h1, _⟩ := h
  exact ⟨fs, (mi_some.mp h1).2⟩
/-- n.f, n the exception's name -/
theorem ex_fld {f : Str} {t : Tr} (hd : Hand a C d oe) (T : XfC X.K C) (no : PySem.W.findIn X.K (.ref C) f = some none) (hN : X.N[i]? = some n) (hi : Δ[i]? = some (.dat (.opq (.ref a)))) (hl : es.lookup f = some t) (q : Φ t) (hv : Vis X.env.scope n := by first | exact Or.inl rfl | exact Or.inr (Or.inl rfl) | exact Or.inr (Or.inr rfl))
    (h1 : (n == ("__debug__" : Str)) = false := by decide) (h2 : (n == ("__classdict__" : Str)) = false := by decide) (hb : attributeBase (.Name n p) f X.env (eval (.Name n p) X.env) = eval (.Name n p) X.env := by rfl) :
    EX (X.suite a ((a, oe) :: pn)) B M Δ d es (.Attribute (.Name n p) f pos) Φ := fun σ H S xd Q k => by
  obtain ⟨v, g1, g2⟩ := S.dat hi
  cases g2
  obtain ⟨dd, fs, v, e1, e2, e3, e4⟩ := xd_look xd hl
  exact PE.to (pe_xf T no hd.z hd.f (pe_var (X := X.suite a ((a, oe) :: pn)) (i := i) hN hv h1 h2) hb) ⟨_, g1, rfl, rfl, dd, fs, v, e1, (mi_some.mp e2).2, e3, k t v H q (Fe.refl _ _) S e4⟩
/-- isinstance(n, y) -/
theorem ex_isi {p3 : Pos} {cv : Value} {c : V} {b : Bool} (hd : Hand a C d oe) (T : ExcC X.K C) (hg : Gl X "isinstance") (hm : X.mg "isinstance" = none) (hg2 : Gl X y) (hm2 : X.mg y = none) (hv2 : bootBuiltins y = some cv) (hc : ∃ m, cv = .type m ∧ c = .ty m) (hN : X.N[i]? = some n) (hi : Δ[i]? = some (.dat (.opq (.ref a))))
    (hk : PySem.W.kitOne X.K (.ref C) cv = some b) (q : Φ (.bl b)) (hv : Vis X.env.scope n := by first | exact Or.inl rfl | exact Or.inr (Or.inl rfl) | exact Or.inr (Or.inr rfl))
    (h1 : (n == ("__debug__" : Str)) = false := by decide) (h2 : (n == ("__classdict__" : Str)) = false := by decide) (hn2 : y ≠ "__name__" := by decide) (hdb2 : (y == ("__debug__" : Str)) = false := by decide)
    (hs : starEach [.Name n p, .Name y p2] X.env = (false, eval (.Name n p) X.env) :: starEach [.Name y p2] X.env := by rfl) (hs2 : starEach [.Name y p2] X.env = (false, eval (.Name y p2) X.env) :: starEach [] X.env := by rfl) (hpl : (backTo pos (starEach [.Name y p2] X.env)).any (·.1) = false := by rfl) :
    EX (X.suite a ((a, oe) :: pn)) B M Δ d es (.Call (.Name "isinstance" p3) [.Name n p, .Name y p2] [] pos) Φ := fun σ H S xd Q k => by
  obtain ⟨m, rfl, rfl⟩ := hc
  obtain ⟨v, g1, g2⟩ := S.dat hi
  cases g2
  refine PE.to (pe_callB (call_isP T hd) hg hm (by decide +kernel) (pa_cons (pe_var (X := X.suite a ((a, oe) :: pn)) (i := i) hN hv h1 h2) (pa_cons (pe_bltn (X := X.suite a ((a, oe) :: pn)) (v := .ty m) hg2 hm2 hv2 rfl hn2 hdb2) pa_nil hs2) hs) (by decide) (by decide) hs hpl) ?_
  exact ⟨_, g1, .ty m, .type m, b, rfl, fun u r => r, xd_dict xd, hk, k _ _ H q (Fe.refl _ _) S (.bl b)⟩
/-- repr(n.f) -/
theorem ex_repr (hg0 : (X.suite a ((a, oe) :: pn)).A.guards = some []) (hu : (X.suite a ((a, oe) :: pn)).A.units + 64 < cLine) (hg : Gl X "repr") (hm : X.mg "repr" = none) {p3 : Pos} (h : EX (X.suite a ((a, oe) :: pn)) B M Δ d es e fun t => t.vw 8 26000 ∧ Φ (.str t.pd.shown))
    (hs : starEach [e] X.env = (false, eval e X.env) :: starEach [] X.env := by rfl) : EX (X.suite a ((a, oe) :: pn)) B M Δ d es (.Call (.Name "repr" p3) [e] [] pos) Φ := fun σ H S xd Q k => by
  refine PE.to (pe_callB (X := X.suite a ((a, oe) :: pn)) (cr_reprV hg0 hu) hg hm (by decide +kernel) (pa_cons pe_self pa_nil hs) (by decide) (by decide) hs (by rfl)) ?_
  refine h σ H S xd _ fun t v H1 q f S1 dd => ?_
  exact ⟨v, t, _, rfl, mi_sub, dd, q.1, k _ _ H1 q.2 f S1 (.str _)⟩
end
/-- a suite, its exception at hand in slot i: it ends as Ψ says -/
def SU (X : Cx) (B : Bs) (M : Pl) (Δ : List En) (i : Nat) (C : Addr) (es : List (Str × Tr)) (suite : List Stmt) (Ψ : List En → Prop) : Prop := ∀ (a : Addr) (oe : Obj) (d : Option Addr) (pn : List (Addr × Obj)), Hand a C d oe → ∀ σ H, H a = none → Sk X.K B M H σ (Δ.set i (.dat (.opq (.ref a)))) → Xd X.K (mi M.m H) d es →
  ∀ D : Ends, (∀ Δ' σ' H', Ψ Δ' → Fe M.w H H' → Sk X.K B M H' σ' Δ' → D.nx σ' H') → WSs (X.suite a ((a, oe) :: pn)) suite D σ H
/-- y = e in a suite -/
theorem su_asg {X : Cx} {B : Bs} {M : Pl} {Δ : List En} {i j : Nat} {C : Addr} {es : List (Str × Tr)} {y : Str} {e : Expr} {q1 q2 : Pos} {Ψ : List En → Prop} (hN : X.N.Nodup) (hj : X.N[j]? = some y) (hly : X.env.kindOf y = some .local)
    (h : ∀ (a : Addr) (oe : Obj) (d : Option Addr) (pn : List (Addr × Obj)), Hand a C d oe → EX (X.suite a ((a, oe) :: pn)) B M (Δ.set i (.dat (.opq (.ref a)))) d es e fun t => Ψ ((Δ.set i (.dat (.opq (.ref a)))).set j (.dat t)))
    (hsw : swapsWith e (some (.Name y q1)) q2.line X.env = pure false := by rfl) : SU X B M Δ i C es [.Assign [.Name y q1] e q2] Ψ := fun a oe d pn hd σ H na S xd D k =>
  PSs.to (pss_one (ps_set (X := X.suite a ((a, oe) :: pn)) (i := j) hN hj (.inl hly) pe_self hsw (.inr hly))) (h a oe d pn hd σ H S xd _ fun t v H1 q f S1 dd => k _ _ H1 q f (S1.set j dd))
/-! ### try: C(..), except A as n: .., except B as n: .. -/
inductive Hds (X : Cx) (n : Str) : List ExceptHandler → List (Value × List Stmt) → Prop
  | nil : Hds X n [] []
  | cons {x : Str} {c : Value} {b₀ : Stmt} {suite : List Stmt} {np pos' : Pos} {hds : List ExceptHandler} {l : List (Value × List Stmt)} (hc : Names X x c) (r : Hds X n hds l) :
      Hds X n (.ExceptHandler (some (.Name x np)) (some n) (b₀ :: suite) pos' :: hds) ((c, b₀ :: suite) :: l)
def tSuite (X : Cx) (suite : List Stmt) : Addr → Value → Option Addr → TS := fun a cls d D σ H => ∀ (oe : Obj) (pn : List (Addr × Obj)), Zc cls d oe → (∃ vs, oe.data = .fields vs) → WSs (X.suite a ((a, oe) :: pn)) suite D σ H
theorem Hds.as {X : Cx} {n : Str} : ∀ {hds : List ExceptHandler} {l : List (Value × List Stmt)}, Hds X n hds l → HdsAs X n hds (l.map fun p => (p.1, tSuite X p.2))
  | _, _, .nil => .nil
  | _, _, .cons hc r => .cons hc (fun a oe cls d pn z f => ⟨fun pins s σ H D I h => h oe pn z f pins s I⟩) r.as
/-- which clause takes an exception of class C, and what it does -/
def Takes1 (X : Cx) (B : Bs) (M : Pl) (Δ : List En) (i : Nat) (C : Addr) (es : List (Str × Tr)) (Ψ : List En → Prop) : List (Value × List Stmt) → Prop
  | [] => False
  | (c, suite) :: r => (PySem.W.exmOne X.K (.ref C) c = some true ∧ SU X B M Δ i C es suite fun Δ' => Ψ (Δ'.set i .any)) ∨ (PySem.W.exmOne X.K (.ref C) c = some false ∧ Takes1 X B M Δ i C es Ψ r)
theorem takes1_w {X : Cx} {B : Bs} {M : Pl} {Δ : List En} {i : Nat} {C : Addr} {es : List (Str × Tr)} {Ψ : List En → Prop} {D : Ends} {d : Option Addr} {σ : L2.St} {H : Hp} (hi : i < Δ.length) (S : Sk X.K B M H σ Δ) (xd : Xd X.K (mi M.m H) d es) (k : ∀ Δ' σ' H', Ψ Δ' → Fe M.w H H' → Sk X.K B M H' σ' Δ' → D.nx σ' H') :
    ∀ {l : List (Value × List Stmt)}, Takes1 X B M Δ i C es Ψ l → wAsM X.K i D (l.map fun p => (p.1, tSuite X p.2)) (.ref C) d σ H
  | [], h => h.elim
  | (c, suite) :: r, h => by
    rcases h with ⟨h1, h2⟩ | ⟨h1, h2⟩
    · refine ⟨true, h1, fun _ a na oe pn z f => ?_, fun z => Bool.noConfusion z⟩
      have S2 : Sk X.K B M H (σ.set i (some (.ref a))) (Δ.set i (.dat (.opq (.ref a)))) := S.set i (.opq _)
      exact h2 a oe d pn ⟨z, f⟩ _ H na S2 xd _ fun Δ' σ' H' q fe S3 => k _ _ _ q fe (S3.forget i)
    · exact ⟨false, h1, fun z => Bool.noConfusion z, fun _ => takes1_w hi S xd k h2⟩
section
variable {X : Cx} {B : Bs} {M : Pl} {Δ : List En} {e : Expr} {es : List Expr} {x n : Str} {k : Nat} {ps : List Str} {C : Addr} {pre : List Tr → Prop} {post : List Tr → List (Str × Tr) → Prop} {xp : List Tr → XQ} {Ψ : Eo} {h₀ : ExceptHandler} {hds : List ExceptHandler} {l : List (Value × List Stmt)} {i : Nat}
theorem s_tryMake {p pos pos2 tpos : Pos} (hs : X.stack = X.env :: X.outer) (hf : X.env.frame = some X.env.locals) (hN : X.N.Nodup) (hi : X.N[i]? = some n) (hln : X.env.kindOf n = some .local) (hil : i < Δ.length) (F : McX X.prog X.w X.K X.mg X.base x C k ps (spIX X.K B.T C pre post xp)) (hr : Room (k + 1) X.A) (hg : Gl X x) (hh : Hds X n (h₀ :: hds) l)
    (h : ∀ (pn : List (Addr × Obj)) (xe : Value → Shared → Prop), EA (X.tr pn xe) B M Δ (e :: es) fun ts Δ1 => Δ1 = Δ ∧ pre ts ∧ (∀ fs, post ts fs → Ψ.nx M Δ) ∧ ∀ D es', xp ts D es' → Takes1 X B M Δ i D es' (Ψ.nx M) l)
    (hsw : ∀ Y : Env, Y = X.env → swapsWith (.Call (.Name x p) (e :: es) [] pos) none pos2.line Y = pure false)
    (hdb : (x == ("__debug__" : Str)) = false := by decide) (he : starEach (e :: es) X.env = (false, eval e X.env) :: starEach es X.env := by rfl) (hpl : (backTo pos (starEach es X.env)).any (·.1) = false := by rfl) :
    S1 X B M Δ (.Try [.Expr (.Call (.Name x p) (e :: es) [] pos) pos2] (h₀ :: hds) [] [] tpos) Ψ := fun σ H S D pp => by
  obtain ⟨f, fd, ok, hm, hb⟩ := F.ex
  refine PS.to (ps_tryAsM (i := i) (tb := fun W D σ H => ∀ (pn : List (Addr × Obj)) (xe : Value → Shared → Prop), WA (X.tr pn xe) (e :: es) σ H fun vs H1 => ∀ y dx, H1 y = none → H1 dx = none → dx ≠ y → spIX X.K B.T C pre post xp (.ref y :: vs) (upd (upd H1 dx (.own y)) y (.ins C dx [])) (fun v H2 => v = .non ∧ D.nx σ H2) fun cls d H2 => W cls d σ H2) hs hf hN hi hln (fun W pn xe tk => ?_) hh.as) ?_
  · refine ⟨fun pins s σ H D I hw => (pss_one (ps_expr (pe_makeS (X := X.tr pn xe) (E := fun σ => L2.WE W σ) hm ok hr hg F.at_ hb (fun σ => passAt tk σ) pa_self hdb he hpl) (hsw _ rfl))).run pins s σ H D I (hw pn xe)⟩
  · intro pn xe
    refine h pn xe σ H S _ fun ts Δ1 vs H1 q fe S1 d => ?_
    obtain ⟨rfl, q1, q2, q3⟩ := q
    intro y dx hy hdx hne
    have s1 : Same H1 (upd (upd H1 dx (.own y)) y (.ins C dx [])) := fun b o z => by
      rw [upd_ne (ne_of_none z hy), upd_ne (ne_of_none z hdx)]; exact z
    have s2 : Sub (mi M.m H1) (mi (fun b => M.m b ∨ b = y) (upd (upd H1 dx (.own y)) y (.ins C dx []))) := mi_new hy S1 (Fe.same s1)
    have low : ∀ H', Fe (fun b => b = y) (upd (upd H1 dx (.own y)) y (.ins C dx [])) H' → Fe (fun _ => False) H1 H' := fun H' f2 => ((Fe.same s1).trans f2).imp fun b o n z e => by rw [z, hy] at e; cases e
    have up : ∀ H', Fe (fun _ => False) H1 H' → Sub (mi M.m H) (mi M.m H') := fun H' f => (S.sub fe).trans (S1.sub (f.imp fun _ _ _ z => z.elim))
    refine ⟨M.m, y, dx, vs, ts, rfl, S1.notM hy, upd_same, d.mono s2, q1, fun b z => ?_, S1.tb.ext s1, fun fs H' hp f2 tb ow => ⟨rfl, ?_⟩, fun E dd es' H' hx f2 tb xd => ?_⟩
    · obtain ⟨o, e⟩ := S1.al b z
      exact ⟨o, s1 b o e⟩
    · exact pp.nx M _ _ _ (q2 fs hp) (up H' (low H' f2)) (S1.feGrow (low H' f2) tb)
    · have S2 := S1.feGrow (low H' f2) tb
      exact takes1_w (X := X) hil S2 xd (fun Δ' σ' H2 q f3 S3 => pp.nx M Δ' σ' H2 q ((up H' (low H' f2)).trans (S2.sub f3)) S3) (q3 E es' hx)
end
end Wf

set_option Elab.async false
set_option linter.all false
set_option maxRecDepth 100000
set_option maxHeartbeats 2000000
namespace Wf
open PySem PySem.Spec PyProof.Rows L2 LamX
/-! ### the first sign of a shown datum -/
def fst0 (s : Str) : Option Nat := s.cps.toList.head?
theorem app_cps (a b : Str) : (a ++ b).cps.toList = a.cps.toList ++ b.cps.toList := by
  show (a.cps ++ b.cps).toList = _
  simp
theorem fst0_app {a b : Str} {c : Nat} (h : fst0 a = some c) : fst0 (a ++ b) = some c := by
  unfold fst0 at h ⊢
  rw [app_cps, List.head?_append, h]
  rfl
theorem fst0_from {c : Nat} : ∀ {ts : List Str} {k : Nat} {acc : Str}, fst0 acc = some c → fst0 (textFrom k acc ts) = some c
  | [], _, _, h => h
  | t :: ts, k, acc, h => by
    unfold textFrom
    exact fst0_from (fst0_app (fst0_app h))
theorem fst0_list (ts : List Str) : fst0 (listText ts) = some 91 := fst0_app (fst0_from (by decide +kernel))
theorem fst0_tuple (ts : List Str) : fst0 (tupleText ts) = some 40 := fst0_app (fst0_app (by decide +kernel))
theorem fst0_dict (ts : List Str) : fst0 (dictText ts) = some 123 := fst0_app (fst0_app (by decide +kernel))
theorem fst0_text (x : Str) : fst0 (reprText x) = some 39 ∨ fst0 (reprText x) = some 34 := by
  have key : ∀ (F : Nat → List Nat) (l : List Nat) (acc : Array Nat) (c : Nat), acc.toList.head? = some c → (l.foldl (fun out c => out ++ (F c).toArray) acc).toList.head? = some c := by
    intro F l
    induction l with
    | nil => exact fun _ _ h => h
    | cons y l ih =>
      intro acc c h
      rw [List.foldl_cons]
      refine ih _ c ?_
      rw [Array.toList_append, List.head?_append, h]
      rfl
  have e : fst0 (reprText x) = some (reprQuote x) := by
    unfold fst0 reprText
    rw [← Array.foldl_toList]
    show (Array.push _ _).toList.head? = _
    rw [Array.toList_push, List.head?_append, key _ x.cps.toList #[reprQuote x] (reprQuote x) rfl]
    rfl
  rw [e]
  unfold reprQuote
  split
  · exact .inr rfl
  · exact .inl rfl
theorem fst0_int (i : Int) : ∃ c, fst0 (Str.ofString (toString i)) = some c ∧ c < 58 := by
  unfold fst0
  rw [Str.ofString_eq_toList]
  cases i with
  | ofNat m =>
    have e : toString (Int.ofNat m) = String.ofList (Nat.toDigits 10 m) := rfl
    rw [e, String.toList_ofList]
    cases hd : Nat.toDigits 10 m with
    | nil =>
      exfalso
      have := Nat.length_toDigits_pos (b := 10) (n := m)
      rw [hd] at this
      exact absurd this (by decide)
    | cons ch r =>
      refine ⟨ch.toNat, rfl, ?_⟩
      have h := Nat.isDigit_of_mem_toDigits (by decide : 0 < 10) (by decide : 10 ≤ 10) (show ch ∈ Nat.toDigits 10 m by rw [hd]; exact List.mem_cons_self)
      unfold Char.isDigit at h
      rw [Bool.and_eq_true, decide_eq_true_eq, decide_eq_true_eq] at h
      have := h.2
      have h2 : ch.val.toNat ≤ ('9' : Char).val.toNat := UInt32.le_iff_toNat_le.mp this
      have h3 : ('9' : Char).val.toNat = 57 := rfl
      show ch.val.toNat < 58
      omega
  | negSucc m =>
    have e : toString (Int.negSucc m) = "-" ++ Nat.repr (m + 1) := rfl
    rw [e, String.toList_append]
    exact ⟨45, rfl, by decide⟩
/-- the data that show themselves as one of the three words -/
def wds : List Str := ["True", "False", "None"]
theorem wds_fst {s : Str} (h : s ∈ wds) : ∃ c, fst0 s = some c ∧ (c = 84 ∨ c = 70 ∨ c = 78) := by
  unfold wds at h
  rw [List.mem_cons, List.mem_cons, List.mem_singleton] at h
  rcases h with rfl | rfl | rfl
  · exact ⟨84, by decide +kernel, .inl rfl⟩
  · exact ⟨70, by decide +kernel, .inr (.inl rfl)⟩
  · exact ⟨78, by decide +kernel, .inr (.inr rfl)⟩
theorem shown_wds {t : Tr} (h : t.vis = true) : t.pd.shown ∈ wds ↔ t = .non ∨ ∃ b, t = .bl b := by
  have no : ∀ {s : Str} {c : Nat}, fst0 s = some c → c ≠ 84 → c ≠ 70 → c ≠ 78 → ¬ s ∈ wds := fun h1 a b d h2 => by
    obtain ⟨c', e, q⟩ := wds_fst h2
    rw [h1] at e
    cases e
    rcases q with q | q | q
    · exact a q
    · exact b q
    · exact d q
  cases t with
  | non =>
    refine ⟨fun _ => .inl rfl, fun _ => ?_⟩
    unfold Tr.pd PyData.shown
    decide +kernel
  | bl b =>
    refine ⟨fun _ => .inr ⟨b, rfl⟩, fun _ => ?_⟩
    unfold Tr.pd PyData.shown
    cases b <;> decide +kernel
  | int i =>
    refine ⟨fun z => ?_, fun z => ?_⟩
    · exfalso
      unfold Tr.pd PyData.shown at z
      obtain ⟨c, e, hc⟩ := fst0_int i
      exact no e (by omega) (by omega) (by omega) z
    · rcases z with z | ⟨_, z⟩ <;> cases z
  | str x =>
    refine ⟨fun z => ?_, fun z => ?_⟩
    · exfalso
      unfold Tr.pd PyData.shown at z
      rcases fst0_text x with e | e
      · exact no e (by decide) (by decide) (by decide) z
      · exact no e (by decide) (by decide) (by decide) z
    · rcases z with z | ⟨_, z⟩ <;> cases z
  | lst ts =>
    refine ⟨fun z => ?_, fun z => ?_⟩
    · exfalso
      unfold Tr.pd PyData.shown at z
      exact no (fst0_list _) (by decide) (by decide) (by decide) z
    · rcases z with z | ⟨_, z⟩ <;> cases z
  | tup ts =>
    refine ⟨fun z => ?_, fun z => ?_⟩
    · exfalso
      unfold Tr.pd PyData.shown at z
      exact no (fst0_tuple _) (by decide) (by decide) (by decide) z
    · rcases z with z | ⟨_, z⟩ <;> cases z
  | dct es =>
    refine ⟨fun z => ?_, fun z => ?_⟩
    · exfalso
      unfold Tr.pd PyData.shown at z
      exact no (fst0_dict _) (by decide) (by decide) (by decide) z
    · rcases z with z | ⟨_, z⟩ <;> cases z
  | ins _ _ => unfold Tr.vis at h; cases h
  | exc _ _ => unfold Tr.vis at h; cases h
  | opq _ => unfold Tr.vis at h; cases h
end Wf

set_option Elab.async false
set_option linter.all false
set_option maxRecDepth 100000
set_option maxHeartbeats 2000000
namespace Wf
open PySem PySem.Spec PyProof.Rows L2 LamX
theorem inV_ints (z : Int) : ∀ ys : List Int, inV (.int z) (ys.map V.int) = decide (z ∈ ys) := by
  intro ys
  unfold inV
  induction ys with
  | nil => rfl
  | cons y ys ih =>
    rw [List.map_cons, List.any_cons, ih]
    by_cases e : y = z
    · subst e
      have : eqV (.int y) (.int y) = true := by simp [eqV]
      rw [this]
      simp
    · have : eqV (.int y) (.int z) = false := by simp [eqV, e]
      rw [this]
      have e' : ¬ z = y := fun h => e h.symm
      simp [e']
section
variable {X : Cx} {B : Bs} {M : Pl} {Γ : Bool → List En → Prop}
/-- z in (.., ..), numbers -/
theorem cd_inI : CmpD X .In B M Γ fun x y Δ2 => ∃ (z : Int) (ys : List Int), x = .int z ∧ y = .tup (ys.map Tr.int) ∧ Γ (decide (z ∈ ys)) Δ2 :=
  ⟨_, op_in_seq, fun x y Δ2 p σ H v w Q S d1 d2 k => by
    obtain ⟨z, ys, rfl, rfl, q⟩ := p
    cases d1
    cases d2 with
    | tup g1 g2 =>
      have e := of_ints ys g2
      subst e
      refine ⟨_, _, rfl, .inr (sub_seqT mi_sub g1), rfl, ?_, ?_⟩
      · rw [List.all_map]
        exact List.all_eq_true.mpr fun _ _ => rfl
      · rw [if_neg Bool.false_ne_true, inV_ints]
        exact k _ _ H q (Fe.refl _ _) S⟩
end
end Wf

set_option Elab.async false
set_option linter.all false
set_option maxRecDepth 100000
set_option maxHeartbeats 2000000
namespace Wf
open PySem PySem.Spec PyProof.Rows L2 LamX
section
variable {X : Cx} {B : Bs} {M : Pl} {Γ : Bool → List En → Prop}
/-- z in (.., ..) or [.., ..], texts -/
theorem cd_inT : CmpD X .In B M Γ fun x y Δ2 => ∃ (z : Str) (ys : List Str), x = .str z ∧ (y = .tup (ys.map Tr.str) ∨ y = .lst (ys.map Tr.str)) ∧ Γ (decide (z ∈ ys)) Δ2 :=
  ⟨_, op_in_seq, fun x y Δ2 p σ H v w Q S d1 d2 k => by
    obtain ⟨z, ys, rfl, hy, q⟩ := p
    cases d1
    rcases hy with rfl | rfl
    · cases d2 with
      | tup g1 g2 =>
        have e := of_strs ys g2
        subst e
        refine ⟨_, _, rfl, .inr (sub_seqT mi_sub g1), rfl, ?_, ?_⟩
        · rw [List.all_map]
          exact List.all_eq_true.mpr fun _ _ => rfl
        rw [if_neg Bool.false_ne_true, inV_strs]
        exact k _ _ H q (Fe.refl _ _) S
    · cases d2 with
      | lst g1 g2 =>
        have e := of_strs ys g2
        subst e
        refine ⟨_, _, rfl, .inl (sub_seqL mi_sub g1), rfl, ?_, ?_⟩
        · rw [List.all_map]
          exact List.all_eq_true.mpr fun _ _ => rfl
        rw [if_neg Bool.false_ne_true, inV_strs]
        exact k _ _ H q (Fe.refl _ _) S⟩
/-- z not in (.., ..) or [.., ..], texts -/
theorem cd_notInT2 : CmpD X .NotIn B M Γ fun x y Δ2 => ∃ (z : Str) (ys : List Str), x = .str z ∧ (y = .tup (ys.map Tr.str) ∨ y = .lst (ys.map Tr.str)) ∧ Γ (!decide (z ∈ ys)) Δ2 :=
  ⟨_, op_notIn_seq, fun x y Δ2 p σ H v w Q S d1 d2 k => by
    obtain ⟨z, ys, rfl, hy, q⟩ := p
    cases d1
    rcases hy with rfl | rfl
    · cases d2 with
      | tup g1 g2 =>
        have e := of_strs ys g2
        subst e
        refine ⟨_, _, rfl, .inr (sub_seqT mi_sub g1), rfl, ?_, ?_⟩
        · rw [List.all_map]
          exact List.all_eq_true.mpr fun _ _ => rfl
        rw [if_pos rfl, inV_strs]
        exact k _ _ H q (Fe.refl _ _) S
    · cases d2 with
      | lst g1 g2 =>
        have e := of_strs ys g2
        subst e
        refine ⟨_, _, rfl, .inl (sub_seqL mi_sub g1), rfl, ?_, ?_⟩
        · rw [List.all_map]
          exact List.all_eq_true.mpr fun _ _ => rfl
        rw [if_pos rfl, inV_strs]
        exact k _ _ H q (Fe.refl _ _) S⟩
end
end Wf

set_option Elab.async false
set_option linter.all false
set_option maxRecDepth 100000
set_option maxHeartbeats 2000000
namespace Wf
open PySem PySem.Spec PyProof.Rows L2 LamX
section
variable {X : Cx} {B : Bs} {M : Pl} {Δ : List En} {o : Expr} {Φ : Tr → List En → Prop}
/-- s.upper() -/
theorem ee_upper {apos pos : Pos} (h : EE X B M Δ o fun x Δ1 => ∃ y : Str, x = .str y ∧ y.length ≤ 5592405 ∧ Φ (.str (Txt.upper y)) Δ1) (hbase : attributeBase o "upper" X.env (eval o X.env) = eval o X.env := by rfl) (hline : (apos.endLine == pos.line) = true := by rfl) :
    EE X B M Δ (.Call (.Attribute o "upper" apos) [] [] pos) Φ := fun σ H S Q k =>
  PE.to (pe_upper pe_self hbase hline) (h σ H S _ fun x Δ1 v H1 p f S1 d => by
    obtain ⟨y, rfl, p1, p2⟩ := p
    cases d
    exact ⟨⟨y, rfl⟩, y, rfl, rfl, p1, k _ Δ1 _ H1 p2 f S1 (.str _)⟩)
end
def up1 (c : Nat) : Nat := if 97 ≤ c ∧ c < 123 then c - 32 else c
theorem up_one : ∀ c : Nat, c < 128 → Unicode.upperOf c = [up1 c] := by decide +kernel
theorem upper_list {x : Str} (h : ∀ c ∈ x.cps.toList, c < 128) : (Txt.upper x).cps.toList = x.cps.toList.map up1 := by
  have key : ∀ l : List Nat, (∀ c ∈ l, c < 128) → (l.map fun c => ((Unicode.upperOf c).toArray).toList).flatten = l.map up1 := by
    intro l
    induction l with
    | nil => exact fun _ => rfl
    | cons c l ih =>
      intro hl
      rw [List.map_cons, List.flatten_cons, ih fun d hd => hl d (List.mem_cons_of_mem _ hd), up_one c (hl c List.mem_cons_self)]
      rfl
  show ((Array.mapIdx (fun i c => (Unicode.upperOf c).toArray) x.cps).flatten).toList = _
  rw [Array.toList_flatten, ← key _ h, Array.toList_mapIdx]
  congr 1
  apply List.ext_getElem
  · simp
  · intro n h1 h2
    simp
end Wf

set_option Elab.async false
set_option linter.all false
set_option maxRecDepth 100000
set_option maxHeartbeats 2000000
namespace Wf
open PySem PySem.Spec PyProof.Rows L2 LamX
/-! ### defs that are handed a table and a list to keep: the caller's are given up -/
section
variable {K : PySem.W.Frag} {B : Bs} {M : Pl} {H H' : Hp} {σ : L2.St} {Δ : List En}
/-- owned places ad that nobody names any more are given up; the pen at slot q was drawn from -/
theorem Sk.penDrop {q : Nat} {p : Pn} {c c' : Nat} {ad : List Addr} (S : Sk K B M H σ Δ) (hi : Δ[q]? = some (.pen p c)) (ha : ∀ b ∈ ad, M.m b ∧ ¬ B.M0 b ∧ ¬ M.w b) (hno : ∀ (j : Nat) e, Δ[j]? = some e → ∀ b ∈ ad, ¬ e.has b)
    (f : Fe (fun b => b = p.l ∨ b ∈ ad) H H') (tb : Tabs B.T H') (pa : PenAt K (mi (remL M ad).m H') H' p c') : Sk K B (remL M ad) H' σ (Δ.set q (.pen p c')) ∧ Sub (mi M.m H) (mi (remL M ad).m H') := by
  obtain ⟨h1, h2, h3⟩ := S.penAt hi
  have hil : q < Δ.length := (List.getElem?_eq_some_iff.mp hi).1
  have s : Sub (mi M.m H) (mi (remL M ad).m H') := fun b u n z => by
    have z := mi_some.mp z
    exact mi_of (fun y => z.1 y.1) (f.k b u (fun y => y.elim (fun y => z.1 (by rw [y]; exact S.wm _ h2)) fun y => z.1 (ha b y).1) n z.2)
  have al : ∀ b, (remL M ad).m b → ∃ o, H' b = some o := fun b hb => by
    by_cases hbl : b = p.l
    · obtain ⟨_, _, z, _⟩ := pa
      exact ⟨_, by rw [hbl]; exact z⟩
    · obtain ⟨o, e⟩ := S.al b hb.1
      by_cases n : NT o
      · exact ⟨o, f.k b o (fun y => y.elim hbl hb.2) n e⟩
      · by_cases q : ∃ ps, o = .tbl ps
        · obtain ⟨ps, rfl⟩ := q
          obtain ⟨qs, e'⟩ := f.t b ps e
          exact ⟨_, e'⟩
        · exact absurd (fun ps z => q ⟨ps, z⟩) n
  have key : ∀ (a : Nat) (e : En), (Δ.set q (.pen p c'))[a]? = some e → ∃ e', Δ[a]? = some e' ∧ (∀ z, e.has z → e'.has z) := fun a e he => by
    by_cases ha : a = q
    · subst ha
      rw [List.getElem?_set_self hil] at he
      cases he
      exact ⟨_, hi, fun _ z => z⟩
    · rw [List.getElem?_set_ne (Ne.symm ha)] at he
      exact ⟨_, he, fun _ z => z⟩
  refine ⟨{ len := by rw [List.length_set]; exact S.len, al := al, wm := fun b z => ⟨S.wm b z, fun e => (ha b e).2.2 z⟩, m0 := fun b z => ⟨S.m0 b z, fun e => (ha b e).2.1 z⟩, pm := S.pm, own := fun b z => S.own b z.1, wp := S.wp, fr := ?_, tb := tb, dis := fun a b e f l' he hf el fl => ?_, sl := fun j e g => ?_ }, s⟩
  · have out : ∀ b o, B.H0 b = some o → b ∉ ad := fun b o e z => (S.own b (ha b z).1).elim (ha b z).2.1 fun y => by rw [y] at e; cases e
    rcases S.wp p.l h2 with hp | h0
    · exact ⟨fun b o pn n e => f.k b o (fun z => z.elim (fun z => pn (by rw [z]; exact hp)) (out b o e)) n (S.fr.k b o pn n e), fun b ps e => by
        obtain ⟨qs, e'⟩ := S.fr.t b ps e
        exact f.t b qs e'⟩
    · exact ⟨fun b o pn n e => f.k b o (fun z => z.elim (fun z => by rw [z, h0] at e; cases e) (out b o e)) n (S.fr.k b o pn n e), fun b ps e => by
        obtain ⟨qs, e'⟩ := S.fr.t b ps e
        exact f.t b qs e'⟩
  · obtain ⟨e', x1, x2⟩ := key a e he
    obtain ⟨f', y1, y2⟩ := key b f hf
    exact S.dis a b e' f' l' x1 y1 (x2 _ el) (y2 _ fl)
  · by_cases hj : j = q
    · subst hj
      rw [List.getElem?_set_self hil] at g
      cases g
      obtain ⟨sp, mo, z1, z2, z3⟩ := pa
      exact ⟨_, h1, rfl, h2, sp, mo, z1, z2, z3⟩
    · rw [List.getElem?_set_ne (Ne.symm hj)] at g
      obtain ⟨u, e1, e2⟩ := S.sl j e g
      refine ⟨u, e1, ?_⟩
      have nl : ∀ l', e.has l' → l' ∉ ad := fun l' z y => hno j e g l' y z
      have np : ∀ l', e.has l' → l' ≠ p.l := fun l' z y => hj (S.dis j q e _ p.l g hi (by rw [← y]; exact z) rfl)
      cases u with
      | none => cases e <;> first | exact True.intro | exact e2.elim
      | some v =>
        cases e with
        | any => exact True.intro
        | dat t => exact Dt.mono s e2
        | own l' t =>
          obtain ⟨x1, x2, x3, x4, x5⟩ := e2
          exact ⟨x1, ⟨x2, nl l' rfl⟩, x3, x4, x5.mono s fun o n z => f.k l' o (fun y => y.elim (np l' rfl) (nl l' rfl)) n z⟩
        | pen l' N =>
          obtain ⟨x1, x2, sp, mo, w1, w2, w3⟩ := e2
          exact ⟨x1, x2, sp, mo, f.k l'.l _ (fun y => y.elim (np l'.l rfl) (nl l'.l rfl)) (fun _ => nofun) w1, sub_seqL s w2, w3⟩
        | tab l' bs qs =>
          obtain ⟨x1, x2, x3, x4⟩ := e2
          exact ⟨x1, x2, fun b z => ⟨⟨(x3 b z).1, nl b z⟩, (x3 b z).2⟩, x4.mono s fun b z o n y => f.k b o (fun y => y.elim (np b z) (nl b z)) n y⟩
/-- a slot is told nothing of -/
theorem Sk.drop (S : Sk K B M H σ Δ) (i : Nat) : Sk K B M H σ (Δ.set i .any) where
  len := by rw [List.length_set]; exact S.len
  al := S.al
  wm := S.wm
  m0 := S.m0
  pm := S.pm
  own := S.own
  wp := S.wp
  fr := S.fr
  tb := S.tb
  dis := fun a b e f l he hf el fl => by
    have back : ∀ {a : Nat} {e : En}, (Δ.set i .any)[a]? = some e → e.has l → Δ[a]? = some e := fun {a e} he el => by
      by_cases ha : a = i
      · subst ha
        rw [List.getElem?_set] at he
        rw [if_pos rfl] at he
        split at he
        · cases he; exact el.elim
        · cases he
      · rwa [List.getElem?_set_ne (Ne.symm ha)] at he
    exact S.dis a b e f l (back he el) (back hf fl) el fl
  sl := fun j e g => by
    by_cases hj : j = i
    · subst hj
      have hl : j < Δ.length := by
        have := (List.getElem?_eq_some_iff.mp g).1
        rwa [List.length_set] at this
      rw [List.getElem?_set_self hl] at g
      cases g
      obtain ⟨o, h1, _⟩ := S.sl j _ (List.getElem?_eq_getElem hl)
      exact ⟨o, h1, by cases o <;> exact True.intro⟩
    · rw [List.getElem?_set_ne (Ne.symm hj)] at g
      exact S.sl j e g
end
section
variable {P : Program} {w : World} {K : PySem.W.Frag} {mg : Str → Option Value} {base : Heap} {x qual : Str} {st : Stmt} {f : Addr} {fd : FuncData} {N : List Str} {k : Nat} {T : List (Addr × Str)} {pre : Tr → List (List Tr) → List Tr → Prop} {cost : Nat} {post : Tr → List (List Tr) → List Tr → Tr → Prop}
def spPC (K : PySem.W.Frag) (T : List (Addr × Str)) (pre : Tr → List (List Tr) → List Tr → Prop) (cost : Nat) (post : Tr → List (List Tr) → List Tr → Tr → Prop) : Sp := fun vs H Q _ => ∃ (m : Addr → Prop) (p : Pn) (c : Nat) (v : V) (t : Tr) (l : Addr) (as : List Addr) (rs : List (List Tr)) (u : Addr) (ms : List Tr),
  vs = [.ref p.l, v, .ref l, .ref u] ∧ m p.l ∧ PenAt K (mi m H) H p c ∧ c + cost ≤ penMax ∧ Dt K (mi m H) v t ∧ (u :: l :: as).Nodup ∧ (∀ b ∈ u :: l :: as, m b ∧ b ≠ p.l) ∧ Tb K (mi m H) H l as rs ∧ Ow K (mi m H) H u (.lst ms) ∧ pre t rs ms ∧ (∀ b, m b → ∃ o, H b = some o) ∧ Tabs T H ∧
  ∀ r tr H', post t rs ms tr → Fe (fun b => b = p.l ∨ b ∈ u :: l :: as) H H' → Tabs T H' → PenAt K (mi (fun b => m b ∧ b ∉ u :: l :: as) H') H' p (c + cost) → Dt K (mi (fun b => m b ∧ b ∉ u :: l :: as) H') r tr → Q r H'
def bC (T : List (Addr × Str)) (p : Pn) (H : Hp) (m : Addr → Prop) (ad : List Addr) : Bs := ⟨T, fun b => b = p.l, fun b => if b ∈ ad then none else H b, fun b => m b ∧ b ∉ ad⟩
theorem ok_PC {y1 y2 y3 y4 : Str} (F : Fun K x qual st f fd) (S : FnScope N [y1, y2, y3, y4] (defScope st)) (hps : 4 ≤ N.length)
    (hb : ∀ (cdv : Value) (A : Around) (outer : List Env) (s : Shared) (H : Hp) (E : XK) (m : Addr → Prop) (p : Pn) (c : Nat) (t : Tr) (l : Addr) (as : List Addr) (rs : List (List Tr)) (u : Addr) (ms : List Tr), Room k (A.deeper (envOfC qual (defScope st) s.heap.objs.size f cdv)) → pre t rs ms → c + cost ≤ penMax → as.length = rs.length →
      SS (cxOf CX0 P w K mg base N qual (defScope st) f cdv A outer s H E).nox (bC T p H m (u :: l :: as)) ⟨m, fun b => b = p.l⟩ (slots N [.pen p c, .dat t, .tab l as rs, .own u (.lst ms)]) (defBody st) ⟨fun _ _ => False, fun tr Δ' => post t rs ms tr ∧ ∃ c', c' ≤ c + cost ∧ Δ'[0]? = some (.pen p c'), fun _ _ => False, fun _ _ => False⟩) :
    FnOk P w K mg base CX0 (k + 1) f fd [y1, y2, y3, y4] (spPC K T pre cost post) := by
  refine F.ok S (fun vs H Q E h => ?_) (fun cdv A outer s H vs Q E hr h => ?_)
  · obtain ⟨m, p, c, v, t, l, as, rs, u, ms, rfl, _⟩ := h
    rfl
  · obtain ⟨m, p, c, v, t, l, as, rs, u, ms, rfl, hm, pa, hc, d, nd, had, ht, ho, hp, al, tb, q⟩ := h
    have ha0 : ∀ b ∈ u :: l :: as, m b ∧ ¬ (m b ∧ b ∉ u :: l :: as) ∧ ¬ b = p.l := fun b hb => ⟨(had b hb).1, fun z => z.2 hb, (had b hb).2⟩
    have pl : p.l ∉ u :: l :: as := fun z => (had p.l z).2 rfl
    have nd1 := List.nodup_cons.mp nd
    have Sk0 : Sk K (bC T p H m (u :: l :: as)) ⟨m, fun b => b = p.l⟩ H (L2.start N [.ref p.l, v, .ref l, .ref u]) (slots N [.pen p c, .dat t, .tab l as rs, .own u (.lst ms)]) := by
      refine { len := by unfold L2.start slots; simp, al := al, wm := fun b z => by rw [z]; exact hm, m0 := fun b z => z.1, pm := fun b z => by rw [show b = p.l from z]; exact ⟨hm, pl⟩, own := fun b z => ?_, wp := fun b z => .inl z, fr := ⟨fun b o _ _ e => ?_, fun b ps e => ?_⟩, tb := tb, dis := fun i j e f l' he hf el fl => ?_, sl := fun i e g => ?_ }
      · by_cases hb : b ∈ u :: l :: as
        · exact .inr (if_pos hb)
        · exact .inl ⟨z, hb⟩
      · have e : (if b ∈ u :: l :: as then none else H b) = some o := e
        split at e
        · cases e
        · exact e
      · have e : (if b ∈ u :: l :: as then none else H b) = some (.tbl ps) := e
        split at e
        · cases e
        · exact ⟨ps, e⟩
      · have key : ∀ (i : Nat) (e : En), (slots N [En.pen p c, .dat t, .tab l as rs, .own u (.lst ms)])[i]? = some e → e.has l' → (i = 0 ∧ l' = p.l) ∨ (i = 2 ∧ l' ∈ l :: as) ∨ (i = 3 ∧ l' = u) := fun i e he el => by
          rcases start_get (N := N) (vs := [.ref p.l, v, .ref l, .ref u]) rfl he with ⟨_, _, _, z⟩ | ⟨_, rfl⟩
          · match i, z with
            | 0, z => cases z; exact .inl ⟨rfl, el.symm⟩
            | 1, z => cases z; exact el.elim
            | 2, z => cases z; exact .inr (.inl ⟨rfl, el⟩)
            | 3, z => cases z; exact .inr (.inr ⟨rfl, el.symm⟩)
          · exact el.elim
        rcases key i e he el with ⟨rfl, h1⟩ | ⟨rfl, h1⟩ | ⟨rfl, h1⟩ <;> rcases key j f hf fl with ⟨rfl, h2⟩ | ⟨rfl, h2⟩ | ⟨rfl, h2⟩
        · rfl
        · exact absurd (List.mem_cons_of_mem _ (h1 ▸ h2)) pl
        · exact absurd (show p.l ∈ u :: l :: as by rw [← h1, h2]; exact List.mem_cons_self) pl
        · exact absurd (List.mem_cons_of_mem _ (h2 ▸ h1)) pl
        · rfl
        · exact absurd (h2 ▸ h1) nd1.1
        · exact absurd (show p.l ∈ u :: l :: as by rw [← h2, h1]; exact List.mem_cons_self) pl
        · exact absurd (h1 ▸ h2) nd1.1
        · rfl
      · rcases start_get (N := N) (vs := [.ref p.l, v, .ref l, .ref u]) rfl g with ⟨v', h1, h2, h3⟩ | ⟨h1, rfl⟩
        · refine ⟨_, h1, ?_⟩
          match i, h2, h3 with
          | 0, h2, h3 => cases h2; cases h3; exact ⟨rfl, rfl, pa⟩
          | 1, h2, h3 => cases h2; cases h3; exact d
          | 2, h2, h3 => cases h2; cases h3; exact ⟨rfl, nd1.2, fun b hb => ha0 b (List.mem_cons_of_mem _ hb), ht⟩
          | 3, h2, h3 =>
            cases h2; cases h3
            have := ha0 u List.mem_cons_self
            exact ⟨rfl, this.1, this.2.1, this.2.2, ho⟩
        · exact ⟨_, h1, True.intro⟩
    refine ⟨_, pss_self, hb cdv A outer s H E m p c t l as rs u ms hr hp hc ht.2.len _ H Sk0 _ ⟨fun _ _ _ _ z => z.elim, fun tr M' Δ' v' σ' H' a b z dd => ?_, fun _ _ _ _ z => z.elim, fun _ _ _ _ z => z.elim⟩⟩
    obtain ⟨a1, c', a2, a3⟩ := a
    refine q _ tr H' a1 ⟨fun b o nb n e => ?_, fun b ps e => ?_⟩ z.tb (((z.penAt a3).2.2.mono (mi_le z.m0) fun _ _ y => y).le a2) (dd.mono (mi_le z.m0))
    · exact z.fr.k b o (fun y => nb (.inl y)) n (show (if b ∈ u :: l :: as then none else H b) = some o by rw [if_neg fun y => nb (.inr y)]; exact e)
    · have nb : b ∉ u :: l :: as := fun y => by
        rcases List.mem_cons.mp y with rfl | y
        · obtain ⟨xs, e1, _⟩ := ho
          rw [e1] at e; cases e
        · obtain ⟨xs, e1⟩ := ht.kind b y
          rw [e1] at e; cases e
      exact z.fr.t b ps (show (if b ∈ u :: l :: as then none else H b) = some (.tbl ps) by rw [if_neg nb]; exact e)
end
section
variable {X : Cx} {B : Bs} {M : Pl} {Δ : List En} {Ψ : Eo} {x y z f : Str} {k : Nat} {ps : List Str} {pre : Tr → List (List Tr) → List Tr → Prop} {cost : Nat} {post : Tr → List (List Tr) → List Tr → Tr → Prop}
/-- x, y, z = f(pen, a, b, c): b a table, c a list, both given up -/
theorem s_unpPC (i j h q i1 i2 i3 : Nat) {n0 n1 n2 n3 : Str} {px py pw pt p p0 p1 p2 p3 pos pos2 : Pos} {kt : Nat} {pn : Pn} {c : Nat} {t : Tr} {l u : Addr} {as : List Addr} {rs : List (List Tr)} {ms : List Tr} (hc : X.calm = true) (hN : X.N.Nodup) (hi : X.N[i]? = some x) (hj : X.N[j]? = some y) (hh : X.N[h]? = some z)
    (hq : X.N[q]? = some n0) (h1 : X.N[i1]? = some n1) (h2 : X.N[i2]? = some n2) (h3 : X.N[i3]? = some n3) (dq : Δ[q]? = some (.pen pn c)) (d1 : Δ[i1]? = some (.dat t)) (d2 : Δ[i2]? = some (.tab l as rs)) (d3 : Δ[i3]? = some (.own u (.lst ms))) (F : Fn X.prog X.w X.K X.mg X.base f k ps (spPC X.K B.T pre cost post)) (hr : Room k X.A) (hg : Gl X f)
    (hp : pre t rs ms) (hcc : c + cost ≤ penMax) (hnx : ∀ tr, post t rs ms tr → ∃ a b d, tr = .tup [a, b, d] ∧ Ψ.nx (remL M (u :: l :: as)) ((((((Δ.set i2 .any).set i3 .any).set q (.pen pn (c + cost))).set i (.dat a)).set j (.dat b)).set h (.dat d)))
    (hne : i2 ≠ q ∧ i3 ≠ q ∧ i2 ≠ i3 := by decide)
    (hd0 : (n0 == ("__debug__" : Str)) = false := by decide) (hcd0 : (n0 == ("__classdict__" : Str)) = false := by decide) (hv0 : Vis X.env.scope n0 := by first | exact Or.inl rfl | exact Or.inr (Or.inl rfl) | exact Or.inr (Or.inr rfl))
    (hd1 : (n1 == ("__debug__" : Str)) = false := by decide) (hcd1 : (n1 == ("__classdict__" : Str)) = false := by decide) (hv1 : Vis X.env.scope n1 := by first | exact Or.inl rfl | exact Or.inr (Or.inl rfl) | exact Or.inr (Or.inr rfl))
    (hd2 : (n2 == ("__debug__" : Str)) = false := by decide) (hcd2 : (n2 == ("__classdict__" : Str)) = false := by decide) (hv2 : Vis X.env.scope n2 := by first | exact Or.inl rfl | exact Or.inr (Or.inl rfl) | exact Or.inr (Or.inr rfl))
    (hd3 : (n3 == ("__debug__" : Str)) = false := by decide) (hcd3 : (n3 == ("__classdict__" : Str)) = false := by decide) (hv3 : Vis X.env.scope n3 := by first | exact Or.inl rfl | exact Or.inr (Or.inl rfl) | exact Or.inr (Or.inr rfl))
    (hdb : (f == ("__debug__" : Str)) = false := by decide)
    (e0 : starEach [.Name n0 p0, .Name n1 p1, .Name n2 p2, .Name n3 p3] X.env = (false, eval (.Name n0 p0) X.env) :: starEach [.Name n1 p1, .Name n2 p2, .Name n3 p3] X.env := by rfl) (e1 : starEach [.Name n1 p1, .Name n2 p2, .Name n3 p3] X.env = (false, eval (.Name n1 p1) X.env) :: starEach [.Name n2 p2, .Name n3 p3] X.env := by rfl) (e2 : starEach [.Name n2 p2, .Name n3 p3] X.env = (false, eval (.Name n2 p2) X.env) :: starEach [.Name n3 p3] X.env := by rfl) (e3 : starEach [.Name n3 p3] X.env = (false, eval (.Name n3 p3) X.env) :: starEach [] X.env := by rfl)
    (hpl : (backTo pos (starEach [.Name n1 p1, .Name n2 p2, .Name n3 p3] X.env)).any (·.1) = false := by rfl)
    (hf : X.fn x = true ∨ X.env.scope.names.lookup x = some .local := by first | exact .inl rfl | exact .inr rfl) (hx : Loc X.env.scope x := by first | exact Or.inl rfl | exact Or.inr rfl)
    (hf2 : X.fn y = true ∨ X.env.scope.names.lookup y = some .local := by first | exact .inl rfl | exact .inr rfl) (hx2 : Loc X.env.scope y := by first | exact Or.inl rfl | exact Or.inr rfl)
    (hf3 : X.fn z = true ∨ X.env.scope.names.lookup z = some .local := by first | exact .inl rfl | exact .inr rfl) (hx3 : Loc X.env.scope z := by first | exact Or.inl rfl | exact Or.inr rfl)
    (hs : swapsWithSole [.Tuple [.Name x px, .Name y py, .Name z pw] kt pt] (.Call (.Name f p) [.Name n0 p0, .Name n1 p1, .Name n2 p2, .Name n3 p3] [] pos) pos2.line X.env = pure false := by rfl) (hw : swappedStores [.Tuple [.Name x px, .Name y py, .Name z pw] kt pt] (.Call (.Name f p) [.Name n0 p0, .Name n1 p1, .Name n2 p2, .Name n3 p3] [] pos) X.env = pure none := by rfl)
    (g1 : (assignEach [.Tuple [.Name x px, .Name y py, .Name z pw] kt pt] X.env).map (·.2) = [assign (.Tuple [.Name x px, .Name y py, .Name z pw] kt pt) X.env] := by rfl)
    (ga : (assignEach [.Name x px, .Name y py, .Name z pw] X.env).map (·.2) = assign (.Name x px) X.env :: (assignEach [.Name y py, .Name z pw] X.env).map (·.2) := by rfl)
    (gb : (assignEach [.Name y py, .Name z pw] X.env).map (·.2) = assign (.Name y py) X.env :: (assignEach [.Name z pw] X.env).map (·.2) := by rfl)
    (gb2 : (assignEach [.Name z pw] X.env).map (·.2) = assign (.Name z pw) X.env :: (assignEach [] X.env).map (·.2) := by rfl)
    (hn : (assignEach [.Name x px, .Name y py, .Name z pw] X.env).length = 3 := by rfl) (hst : (assignEach [.Name x px, .Name y py, .Name z pw] X.env).findIdx? (·.1) = none := by rfl) :
    S1 X B M Δ (.Assign [.Tuple [.Name x px, .Name y py, .Name z pw] kt pt] (.Call (.Name f p) [.Name n0 p0, .Name n1 p1, .Name n2 p2, .Name n3 p3] [] pos) pos2) Ψ := fun σ H S D pp => by
  obtain ⟨fa, fd, ok, hm, hk, hbi⟩ := F.ex
  obtain ⟨s1, s2, s3⟩ := S.penAt dq
  obtain ⟨v, v1, v2⟩ := S.dat d1
  obtain ⟨t1, t2, t3, t4⟩ := S.tabAt d2
  obtain ⟨o1, o2, o3, o4, o5⟩ := S.ownAt d3
  have hul : ∀ b ∈ l :: as, b ≠ u := fun b hb e => hne.2.2 (S.dis i2 i3 _ _ u d2 d3 (by rw [← e]; exact hb) rfl)
  have ha : ∀ b ∈ u :: l :: as, M.m b ∧ ¬ B.M0 b ∧ ¬ M.w b := fun b hb => by
    rcases List.mem_cons.mp hb with rfl | hb
    · exact ⟨o2, o3, o4⟩
    · exact t3 b hb
  refine PS.to (ps_asg (pe_call ok hr hg hm hk hbi .nil pass0 (pa_cons (pe_var (i := q) hq hv0 hd0 hcd0) (pa_cons (pe_var (i := i1) h1 hv1 hd1 hcd1) (pa_cons (pe_var (i := i2) h2 hv2 hd2 hcd2) (pa_cons (pe_var (i := i3) h3 hv3 hd3 hcd3) pa_nil e3) e2) e1) e0) hdb e0 hpl) (pg_tup hc (pgs_cons (pg_name (i := i) hN hi hx hf) (pgs_cons (pg_name (i := j) hN hj hx2 hf2) (pgs_cons (pg_name (i := h) hN hh hx3 hf3) pgs_nil gb2) gb) ga) hn hst) hs hw g1) ⟨_, s1, _, v1, _, t1, _, o1, ?_⟩
  refine ⟨M.m, pn, c, v, t, l, as, rs, u, ms, rfl, S.wm _ s2, s3, hcc, v2, List.nodup_cons.mpr ⟨fun z => hul u z rfl, t2⟩, fun b hb => ⟨(ha b hb).1, fun e => (ha b hb).2.2 (by rw [e]; exact s2)⟩, t4, o5, hp, S.al, S.tb, fun r tr H' hpo f2 tb pa d => ?_⟩
  have S1 := (S.drop i2).drop i3
  have dq1 : ((Δ.set i2 .any).set i3 .any)[q]? = some (.pen pn c) := by rw [List.getElem?_set_ne hne.2.1, List.getElem?_set_ne hne.1]; exact dq
  have hno : ∀ (j : Nat) e, ((Δ.set i2 .any).set i3 .any)[j]? = some e → ∀ b ∈ u :: l :: as, ¬ e.has b := fun j' e he b hb eb => by
    by_cases hj3 : j' = i3
    · subst hj3
      rw [List.getElem?_set] at he
      rw [if_pos rfl] at he
      split at he
      · cases he; exact eb
      · cases he
    rw [List.getElem?_set_ne (Ne.symm hj3)] at he
    by_cases hj2 : j' = i2
    · subst hj2
      rw [List.getElem?_set] at he
      rw [if_pos rfl] at he
      split at he
      · cases he; exact eb
      · cases he
    rw [List.getElem?_set_ne (Ne.symm hj2)] at he
    rcases List.mem_cons.mp hb with rfl | hb
    · exact hj3 (S.dis j' i3 e _ b he d3 eb rfl)
    · exact hj2 (S.dis j' i2 e _ b he d2 eb hb)
  obtain ⟨S2, s⟩ := S1.penDrop dq1 ha hno f2 tb pa
  obtain ⟨a, b, d', rfl, qq⟩ := hnx tr hpo
  cases d with
  | tup y1 y2 =>
    cases y2 with
    | cons x1 y3 =>
      cases y3 with
      | cons x2 y4 =>
        cases y4 with
        | cons x3 y5 =>
          cases y5
          exact ⟨_, _, rfl, sub_seqT mi_sub y1, rfl, _, _, rfl, _, _, rfl, _, _, rfl, rfl, pp.nx _ _ _ H' qq s (((S2.set i x1).set j x2).set h x3)⟩
end
end Wf

set_option Elab.async false
set_option linter.all false
set_option maxRecDepth 100000
set_option maxHeartbeats 2000000
namespace Wf
open PySem PySem.Spec PyProof.Rows L2
/-! ### the hash table of a set, whatever its members are

`Tbl w h a R es ep t`: at a stands a set, its rows (hash, member) are R. A question x of hash hx is asked by
`look`: which member equals x is told by a function eqf. -/
structure Tbl (w : World) (h : Heap) (a : Addr) (R : List (Int × Value)) (es : Array (Int × Value)) (ep : Nat) (t : SetTable) : Prop where
  ob : ∃ o, h.get? a = some o ∧ o.ExactSet ∧ o.data = .set es ep t
  rows : es.toList = R
  tab : TabOk t (R.map Prod.fst)
  led : w.params.followText "set-order" = true ∨ t.led = true
  room : R.length * 5 < t.mask * 3
section
variable {P : Program} {w : World} {A : Around} {E : Value → Shared → Prop} {s : Shared} {a : Addr} {R : List (Int × Value)} {es : Array (Int × Value)} {ep : Nat} {t : SetTable}
theorem Tbl.sz {h : Heap} (S : Tbl w h a R es ep t) : es.size = R.length := by rw [← S.rows, Array.length_toList]
theorem Tbl.psz {h : Heap} (S : Tbl w h a R es ep t) : t.place.toList.length = R.length := by
  have := S.tab.sz
  rw [List.length_map] at this
  rw [Array.length_toList]
  exact this
theorem Tbl.fits {h : Heap} (S : Tbl w h a R es ep t) : t.fits es.size = true := by
  have h1 := S.psz
  have h2 := S.sz
  have h3 := S.room
  rw [Array.length_toList] at h1
  unfold SetTable.fits SetTable.fill
  rw [S.tab.dm, Bool.and_eq_true, beq_iff_eq, decide_eq_true_eq]
  refine ⟨by omega, ?_⟩
  show t.place.size + 0 ≤ t.mask
  omega
theorem Tbl.at_ {h : Heap} (S : Tbl w h a R es ep t) (i : Nat) : es[i]? = R[i]? := by rw [← Array.getElem?_toList, S.rows]
theorem Tbl.odd {h : Heap} (S : Tbl w h a R es ep t) : ¬ t.gaveWay = true := by
  unfold SetTable.gaveWay
  rw [mask_odd S.tab.mok]
  decide
/-- the c-th state of the way of a hash -/
abbrev prb (m : Nat) (h : Int) (c : Nat) : SetTable.Probe := nth m (runAt m (SetTable.bits h % (m + 1)) (SetTable.bits h)) c
theorem prb_on (m : Nat) (h : Int) (c q : Nat) : nth m (prb m h c) q = prb m h (c + q) := (nth_add m c _ q).symm
theorem prb_clean (m : Nat) (h : Int) : ∀ c, (prb m h c).dummy = none := by
  intro c
  induction c with
  | zero => rfl
  | succ c ih =>
    show (nth m _ (c + 1)).dummy = none
    rw [nth_succ]
    show (adv m (prb m h c)).dummy = none
    unfold adv
    split <;> exact ih
/-- how the members answer when they are asked for x -/
structure Asks (P : Program) (w : World) (A : Around) (s : Shared) (R : List (Int × Value)) (x : Value) (hx : Int) (eqf : Value → Bool) : Prop where
  eq : ∀ {E : Value → Shared → Prop} {Q : Bool → Shared → Prop} (y : Value), (∃ g, (g, y) ∈ R) → Q (eqf y) s → wpAny (model P w) A (eqBool y x) Q E s
  same : ∀ {E : Value → Shared → Prop} {Q : Bool → Shared → Prop} (y : Value), (∃ g, (g, y) ∈ R) → Q true s → wpAny (model P w) A (isSame y y) Q E s
  seen : ∀ {E : Value → Shared → Prop} {Q : Bool → Shared → Prop} (ys : List Value), (∀ y ∈ ys, ∃ g, (g, y) ∈ R) → Q false s → wpAny (model P w) A (searchCouldBeSeen x ys) Q E s
/-- x stands among the rows -/
def Hit (R : List (Int × Value)) (hx : Int) (eqf : Value → Bool) : Prop := ∃ r ∈ R, r.1 = hx ∧ eqf r.2 = true
theorem look (S : Tbl w s.heap a R es ep t) {x : Value} {hx : Int} {eqf : Value → Bool} (ak : Asks P w A s R x hx eqf) {K : Nat} (hK : way t.mask hx K ∉ t.place.toList) (hKb : ∀ c, c < K → way t.mask hx c ∈ t.place.toList) (hKf : K < 10 * SetTable.turns t.mask)
    {Q : SetFound → Shared → Prop} (yes : Hit R hx eqf → Q (.there none) s) (no : ¬ Hit R hx eqf → Q (.free (way t.mask hx K) false) s) :
    ∀ (f c : Nat) (st : Option SetTable.Probe), st.getD (t.probeStart hx) = prb t.mask hx c → c ≤ K → K - c < f →
      (∀ (i : Nat) r, R[i]? = some r → r.1 = hx → eqf r.2 = true → ∃ c', c ≤ c' ∧ c' < K ∧ t.place.toList[i]? = some (way t.mask hx c')) → wpAny (model P w) A (setSearchFrom a x hx true f st) Q E s := by
  obtain ⟨o, ho, hex, hd⟩ := S.ob
  intro f
  induction f with
  | zero => exact fun c st _ _ hf _ => absurd hf (Nat.not_lt_zero _)
  | succ f ih =>
    intro c st hst hc hf left
    rw [setSearchFrom_succ]
    refine wpAny_bind (wpAny_setState_of ho hd S.fits ?_)
    dsimp only
    refine wp_if_neg S.odd ?_
    try refine wpAny_bind (wpAny_pure ?_)
    have jj : ∀ q, (nth t.mask (prb t.mask hx c) q).j = way t.mask hx (c + q) := fun q => congrArg SetTable.Probe.j (prb_on t.mask hx c q)
    have hash : ∀ (i : Nat) r, R[i]? = some r → ((es[i]?.map (·.1)).getD 0) = r.1 := fun i r e => by rw [S.at_ i, e]; rfl
    rcases go_spec t S.tab.ris S.tab.dm (fun i => (es[i]?.map (·.1)).getD 0) hx (10 * SetTable.turns t.mask) (K - c) (prb t.mask hx c) (prb_clean _ _ _) (by omega) (fun q hq => by rw [jj]; exact hKb _ (by omega)) (by rw [jj, show c + (K - c) = K by omega]; exact hK) with ⟨q, i, hq, hi, hh, before, res⟩ | ⟨before, res⟩
    · have res' : t.probe (fun i => (es[i]?.map (·.1)).getD 0) hx (st.getD (t.probeStart hx)) = some (.candidate (way t.mask hx (c + q)) i (prb t.mask hx (c + (q + 1)))) := by
        rw [hst, ← jj, ← prb_on]
        exact res
      rw [res']
      dsimp only
      rw [jj] at hi
      have hil : i < R.length := by rw [← S.psz]; exact (List.getElem?_eq_some_iff.mp hi).1
      obtain ⟨r, hr⟩ : ∃ r, R[i]? = some r := ⟨_, List.getElem?_eq_getElem hil⟩
      have hrm : r ∈ R := List.mem_of_getElem? hr
      have hr1 : r.1 = hx := (hash i r hr).symm.trans hh
      have mine : ∃ g, (g, r.2) ∈ R := ⟨r.1, hrm⟩
      have tail : wpAny (model P w) A (searchRest a x hx true f es t (way t.mask hx (c + q)) i (prb t.mask hx (c + (q + 1)))) Q E s := by
        unfold searchRest
        rw [S.at_ i, hr]
        dsimp only
        refine wpAny_bind (wpAny_holding (ak.eq r.2 mine ?_))
        refine wpAny_bind (wpAny_setState_of ho hd S.fits ?_)
        dsimp only
        cases ht : eqf r.2 with
        | true =>
          refine wp_if_pos rfl ?_
          exact wpAny_pure (yes ⟨r, hrm, hr1, ht⟩)
        | false =>
          refine wp_if_neg (by decide) ?_
          try refine wpAny_bind (wpAny_pure ?_)
          rw [sameMem]
          dsimp only
          have here : t.slot (way t.mask hx (c + q)) = .live i := slot_live S.tab.ris hi
          simp only [if_true, here, S.at_ i, hr]
          refine wpAny_bind (ak.same r.2 mine (wpAny_bind (wpAny_pure ?_)))
          simp only [if_true]
          refine wp_if_neg (by decide) ?_
          refine ih (c + (q + 1)) _ rfl (by omega) (by omega) fun i' r' e1 e2 e3 => ?_
          obtain ⟨c', g1, g2, g3⟩ := left i' r' e1 e2 e3
          refine ⟨c', ?_, g2, g3⟩
          by_cases z : c' < c + q
          · refine absurd ((hash i' r' e1).trans e2) (before (c' - c) i' (by omega) ?_)
            rw [jj, show c + (c' - c) = c' by omega]
            exact g3
          · by_cases z2 : c' = c + q
            · subst z2
              have there := slot_live S.tab.ris g3
              rw [here] at there
              injection there with there
              subst there
              rw [hr] at e1
              cases e1
              rw [ht] at e3
              cases e3
            · omega
      by_cases hl : t.led = true
      · refine wp_if_neg (by simp [hl]) ?_
        try refine wpAny_bind (wpAny_pure ?_)
        exact tail
      · refine wp_if_pos (by simp [hl]) ?_
        refine wpAny_bind (ak.seen _ (fun y hy => ?_) ?_)
        · obtain ⟨e, he, rfl⟩ := List.mem_map.mp hy
          have he1 : e ∈ es ∧ e.1 = hx := by simpa using he
          exact ⟨e.1, by rw [← S.rows]; exact Array.mem_toList_iff.mpr he1.1⟩
        · refine wp_if_neg (by decide) ?_
          try refine wpAny_bind (wpAny_pure ?_)
          exact tail
    · have res' : t.probe (fun i => (es[i]?.map (·.1)).getD 0) hx (st.getD (t.probeStart hx)) = some (.empty (way t.mask hx K) none) := by
        have e2 : way t.mask hx K = (nth t.mask (prb t.mask hx c) (K - c)).j := by rw [jj, show c + (K - c) = K by omega]
        rw [hst, e2]
        exact res
      rw [res']
      dsimp only
      refine wpAny_pure (no ?_)
      rintro ⟨r, hrm, e2, e3⟩
      obtain ⟨i, e1⟩ := List.getElem?_of_mem hrm
      obtain ⟨c', g1, g2, g3⟩ := left i r e1 e2 e3
      refine absurd ((hash i r e1).trans e2) (before (c' - c) i (by omega) ?_)
      rw [jj, show c + (c' - c) = c' by omega]
      exact g3
theorem search (S : Tbl w s.heap a R es ep t) {x : Value} {hx : Int} {eqf : Value → Bool} (ak : Asks P w A s R x hx eqf) {Q : SetFound → Shared → Prop} (yes : Hit R hx eqf → Q (.there none) s)
    (no : ∀ K, ¬ Hit R hx eqf → way t.mask hx K ∉ t.place.toList → (∀ c, c < K → way t.mask hx c ∈ t.place.toList) → Q (.free (way t.mask hx K) false) s) : wpAny (model P w) A (setSearch a x hx true) Q E s := by
  have hroom := S.room
  obtain ⟨K, g1, g2, g3⟩ := S.tab.first (by rw [List.length_map]; omega) hx
  have big : K < 100000 := by
    have : 10 * SetTable.turns t.mask ≤ 1420 := by
      unfold SetTable.turns
      rcases S.tab.mok with e | e | e <;> omega
    omega
  unfold setSearch
  refine look S ak g2 g3 g1 yes (fun n => no K n g2 g3) 100000 0 none rfl (Nat.zero_le _) (by omega) fun i r e1 e2 _ => ?_
  have hi : (R.map Prod.fst)[i]? = some hx := by rw [List.getElem?_map, e1, ← e2]; rfl
  have hil : i < t.place.toList.length := by rw [S.psz]; exact (List.getElem?_eq_some_iff.mp e1).1
  have hj := List.getElem?_eq_getElem hil
  obtain ⟨c, hc, e⟩ := S.tab.before g2 hi hj
  exact ⟨c, Nat.zero_le _, hc, by rw [hj, e]⟩
end
end Wf

set_option Elab.async false
set_option linter.all false
set_option maxRecDepth 100000
set_option maxHeartbeats 2000000
namespace Wf
open PySem PySem.Spec PyProof.Rows L2
theorem pick_range {α : Type} : ∀ (R : List α), (List.range R.length).filterMap (fun i => R[i]?) = R
  | [] => rfl
  | r :: R => by
    rw [List.length_cons, List.range_succ_eq_map, List.filterMap_cons_some (show (r :: R)[0]? = some r from rfl), List.filterMap_map]
    exact congrArg (r :: ·) (pick_range R)
theorem pick_len {α : Type} {R : List α} : ∀ {l : List Nat}, (∀ i ∈ l, i < R.length) → (l.filterMap fun (i : Nat) => R[i]?).length = l.length
  | [], _ => rfl
  | i :: l, h => by
    rw [List.filterMap_cons_some (List.getElem?_eq_getElem (h i List.mem_cons_self)), List.length_cons, List.length_cons, pick_len fun j hj => h j (List.mem_cons_of_mem _ hj)]
theorem pick_map {α β : Type} (g : α → β) (d : β) {R : List α} : ∀ {l : List Nat}, (∀ i ∈ l, i < R.length) → (l.filterMap fun (i : Nat) => R[i]?).map g = l.map fun i => (R.map g).getD i d
  | [], _ => rfl
  | i :: l, h => by
    have hi := h i List.mem_cons_self
    rw [List.filterMap_cons_some (List.getElem?_eq_getElem hi), List.map_cons, List.map_cons, pick_map g d fun j hj => h j (List.mem_cons_of_mem _ hj)]
    congr 1
    rw [List.getD_eq_getElem?_getD, List.getElem?_map, List.getElem?_eq_getElem hi]
    rfl
section
variable {P : Program} {w : World} {A : Around} {E : Value → Shared → Prop} {s : Shared} {a : Addr} {R : List (Int × Value)} {es : Array (Int × Value)} {ep : Nat} {t : SetTable}
/-- the rows laid out anew in a larger table -/
theorem relay {o : Obj} (ho : s.heap.get? a = some o) (hex : o.ExactSet) (hd : o.data = .set es ep t) (hR : es.toList = R) (psz : t.place.size = es.size) (hdm : t.dummies = #[]) (hfl : es.size ≤ t.mask) (ld : w.params.followText "set-order" = true ∨ t.led = true)
    {wanted M : Nat} (hw : SetTable.sizeAbove wanted - 1 = M) (hM : MaskOk M) (hw2 : SetTable.sizeAbove wanted ≤ 128) (hn : R.length * 5 < M * 3) {Q : Unit → Shared → Prop}
    (hQ : ∀ h' R' es' ep' t', Heap.SameBut a s.heap h' → Tbl w h' a R' es' ep' t' → R'.Perm R → Q () { s with heap := h' }) : wpAny (model P w) A (setRelay a wanted) Q E s := by
  have hsz : es.size = R.length := by rw [← hR, Array.length_toList]
  have hfits : t.fits es.size = true := by
    unfold SetTable.fits SetTable.fill
    rw [hdm, Bool.and_eq_true, beq_iff_eq, decide_eq_true_eq]
    refine ⟨psz, ?_⟩
    show t.place.size + 0 ≤ t.mask
    omega
  obtain ⟨t', order, e, hp, T, em, el, _, ed⟩ := relaid_ok t (hs := es.map (·.1)) (wanted := wanted) hw hM (by rw [Array.size_map]; omega)
  rw [Array.size_map, hsz] at hp
  have inR : ∀ i ∈ order.toList, i < R.length := fun i hi => List.mem_range.mp (hp.mem_iff.mp hi)
  have e1 : (order.filterMap (es[·]?)).toList = order.toList.filterMap fun (i : Nat) => R[i]? := by
    have : (fun (i : Nat) => es[i]?) = fun i => R[i]? := by funext i; rw [← Array.getElem?_toList, hR]
    rw [Array.toList_filterMap, this]
  have p1 : (order.toList.filterMap fun (i : Nat) => R[i]?).Perm R := by
    have := hp.filterMap (fun (i : Nat) => R[i]?)
    rwa [pick_range] at this
  have e2 : (order.toList.filterMap fun (i : Nat) => R[i]?).map Prod.fst = order.toList.map fun i => (es.map (·.1)).getD i 0 := by
    rw [pick_map Prod.fst 0 inR]
    have : ∀ i, (R.map Prod.fst).getD i 0 = (es.map (·.1)).getD i 0 := fun i => by
      rw [List.getD_eq_getElem?_getD, Array.getD_eq_getD_getElem?, List.getElem?_map, Array.getElem?_map, ← Array.getElem?_toList, hR]
    exact List.map_congr_left fun i _ => this i
  rw [← e2] at T
  have s2 : (order.filterMap (es[·]?)).size = es.size := by
    rw [← Array.length_toList, e1, p1.length_eq, hsz]
  rw [setRelay_eq]
  refine wpAny_bind (wpAny_setState_of ho hd hfits ?_)
  dsimp only
  refine wp_if_neg (by rw [sizeLine_eq]; omega) ?_
  try refine wpAny_bind (wpAny_pure ?_)
  rw [e]
  dsimp only
  refine wpAny_bind ?_
  refine wp_if_neg (by rw [s2]; simp) ?_
  try refine wpAny_bind (wpAny_pure ?_)
  refine wpAny_pure ?_
  dsimp only
  refine wpAny_storeSet_of ho hd ?_ (by rw [s2, sizeLine_eq]; omega)
  refine hQ _ _ (order.filterMap (es[·]?)) (ep + 1) t' (Heap.SameBut.update ..) ⟨⟨_, store_at ho hd, ⟨hex.1, hex.2.1, hex.2.2⟩, rfl⟩, e1, T, by rw [el]; exact ld, by rw [p1.length_eq, em]; exact hn⟩ p1
/-- one more member, if it isn't there -/
theorem addOne (S : Tbl w s.heap a R es ep t) {x : Value} {hx : Int} {eqf : Value → Bool} (ak : Asks P w A s R x hx eqf) (few : R.length < 75) (nsc : x.scannable = false)
    (hb : ∀ {E : Value → Shared → Prop} {Q : Bool → Shared → Prop}, (∀ b, Q b s) → wpAny (model P w) A (hashByValue 8 x) Q E s) {Q : Bool → Shared → Prop}
    (hQ : ∀ b h' R' es' ep' t', Heap.SameBut a s.heap h' → Tbl w h' a R' es' ep' t' → (Hit R hx eqf → R' = R) → (¬ Hit R hx eqf → R'.Perm ((hx, x) :: R)) → Q b { s with heap := h' }) :
    wpAny (model P w) A (setAddHashed a x hx) Q E s := by
  obtain ⟨o, ho, hex, hd⟩ := S.ob
  have hsl := S.sz
  have hroom := S.room
  unfold setAddHashed
  refine wpAny_holding ?_
  rw [show (100000 : Nat) = 99999 + 1 from rfl, setAddHashedIn_succ]
  refine wpAny_bind (wpAny_setState_of ho hd S.fits ?_)
  dsimp only
  refine wp_if_neg (by unfold byScan; rw [nsc]; simp) ?_
  try refine wpAny_bind (wpAny_pure ?_)
  refine wpAny_bind (search S ak (fun hm => ?_) fun K hm hK hKb => ?_)
  · dsimp only
    exact wpAny_pure (hQ false s.heap R es ep t (Heap.SameBut.refl a s.heap) S (fun _ => rfl) fun z => absurd hm z)
  · dsimp only
    refine wpAny_bind (wpAny_setState_of ho hd S.fits ?_)
    dsimp only
    obtain ⟨q1, q2, q3, q4, q5, q6, q7, q8, q9⟩ := S.tab.put hK hKb
    generalize hpt : t.put (way t.mask hx K) = pt at q1 q3 q4 q5 q6 q7 q8 q9 ⊢
    obtain ⟨t1, p⟩ := pt
    dsimp only at q1 q3 q4 q5 q6 q7 q8 q9 ⊢
    subst q1
    rw [List.length_map] at q9
    generalize SetTable.below t.place (way t.mask hx K) = p at q2 q3 ⊢
    have ein : (SetTable.insertAt es p (hx, x)).toList = R.take p ++ (hx, x) :: R.drop p := by
      rw [SetTable.toList_insertAt, S.rows]
    have pm := put_perm R p (hx, x)
    rw [← List.map_take, ← List.map_drop, ← List.map_cons (f := Prod.fst) (a := (hx, x)), ← List.map_append] at q3
    generalize R.take p ++ (hx, x) :: R.drop p = R1 at ein pm q3
    have hlen : R1.length = R.length + 1 := pm.length_eq
    have hes : (SetTable.insertAt es p (hx, x)).size = R.length + 1 := by rw [← Array.length_toList, ein, hlen]
    generalize SetTable.insertAt es p (hx, x) = es1 at ein hes ⊢
    -- whether the hash is a value's own makes no difference here
    have go : ∀ (t2 : SetTable), TabOk t2 (R1.map Prod.fst) → t2.mask = t.mask → t2.led = t.led → t2.fill = R.length + 1 → wpAny (model P w) A (do
        storeSet a es1 t2
        if !false && t2.tooFull then setRelay a (SetTable.grown (es.size + 1))
        return true) Q E s := fun t2 T2 em el ef => by
      refine wpAny_bind (wpAny_storeSet_of ho hd ?_ (by rw [hes, sizeLine_eq]; omega))
      have sb : Heap.SameBut a s.heap (s.heap.update a (Obj.putSet es1 t2)) := Heap.SameBut.update ..
      have ho1 := store_at (es' := es1) (t' := t2) ho hd
      generalize s.heap.update a (Obj.putSet es1 t2) = h1 at sb ho1 ⊢
      have ld1 : w.params.followText "set-order" = true ∨ t2.led = true := by rw [el]; exact S.led
      by_cases hf : t2.tooFull = true
      · first
          | (refine wpAny_bind ?_; refine wp_if_pos (by simp [hf]) ?_)
          | (refine wp_if_pos (by simp [hf]) ?_; refine wpAny_bind ?_)
        have hfull : (R.length + 1) * 5 ≥ t.mask * 3 := by
          have h := hf
          unfold SetTable.tooFull at h
          rw [decide_eq_true_eq, ef, em] at h
          exact h
        rw [hsl]
        have psz1 : t2.place.size = es1.size := by
          have h := T2.sz
          rw [List.length_map, hlen] at h
          rw [h, hes]
        have cases2 : (t.mask = 7 ∧ R.length = 4) ∨ (t.mask = 31 ∧ R.length = 18) := by
          rcases S.tab.mok with e | e | e
          · left; rw [e] at hfull hroom; exact ⟨e, by omega⟩
          · right; rw [e] at hfull hroom; exact ⟨e, by omega⟩
          · exfalso; rw [e] at hfull; omega
        have go2 : ∀ M, SetTable.sizeAbove (SetTable.grown (R.length + 1)) - 1 = M → MaskOk M → SetTable.sizeAbove (SetTable.grown (R.length + 1)) ≤ 128 → (R.length + 1) * 5 < M * 3 →
            wpAny (model P w) A (setRelay a (SetTable.grown (R.length + 1))) (fun _ s' => wpAny (model P w) A (pure true) Q E s') E { s with heap := h1 } := fun M m1 m2 m3 m4 => by
          refine relay (s := { s with heap := h1 }) ho1 ⟨hex.1, hex.2.1, hex.2.2⟩ rfl ein psz1 T2.dm (by rw [hes, em]; rcases cases2 with ⟨e, e2⟩ | ⟨e, e2⟩ <;> omega) ld1 m1 m2 m3 (by rw [hlen]; exact m4) ?_
          intro h2 R2 es2 ep2 t3 sb2 S2 pm2
          exact wpAny_pure (hQ true h2 R2 es2 ep2 t3 (sb.trans sb2) S2 (fun z => absurd z hm) fun _ => pm2.trans pm)
        rcases cases2 with ⟨_, e2⟩ | ⟨_, e2⟩
        · exact go2 31 (by rw [e2, size_20]) (.inr (.inl rfl)) (by rw [e2, size_20]; decide) (by omega)
        · exact go2 127 (by rw [e2, size_76]) (.inr (.inr rfl)) (by rw [e2, size_76]; decide) (by omega)
      · first
          | refine wp_if_neg (by simp [hf]) ?_
          | (refine wpAny_bind ?_; refine wp_if_neg (by simp [hf]) ?_; refine wpAny_pure ?_)
        refine wpAny_pure (hQ true h1 R1 es1 (ep + 1) t2 sb ⟨⟨_, ho1, ⟨hex.1, hex.2.1, hex.2.2⟩, rfl⟩, ein, T2, ld1, ?_⟩ (fun z => absurd z hm) fun _ => pm)
        have h := hf
        unfold SetTable.tooFull at h
        rw [decide_eq_true_eq, ef] at h
        rw [hlen]
        omega
    have T1 : TabOk { t1 with plain := false } (R1.map Prod.fst) := ⟨q3.ris, q3.dm, q3.sz, q3.mok, q3.bd, q3.reach⟩
    have two : ∀ b : Bool, wpAny (model P w) A (do
        storeSet a es1 (if b then t1 else { t1 with plain := false })
        if !false && (if b then t1 else { t1 with plain := false }).tooFull then setRelay a (SetTable.grown (es.size + 1))
        return true) Q E s := fun b => by
      cases b with
      | true => exact go t1 q3 q4 q5 q9
      | false => exact go { t1 with plain := false } T1 q4 q5 q9
    by_cases hp : t1.plain = true
    · first
        | (refine wpAny_bind ?_; refine wp_if_pos hp ?_; exact hb fun b => two b)
        | (refine wp_if_pos hp (wpAny_bind (hb fun b => ?_)); exact two b)
    · first
        | (refine wpAny_bind ?_; refine wp_if_neg hp ?_; exact wpAny_pure (two true))
        | (refine wp_if_neg hp ?_; first | exact wpAny_bind (wpAny_pure (two true)) | exact two true)
end
end Wf

set_option Elab.async false
set_option linter.all false
set_option maxRecDepth 100000
set_option maxHeartbeats 2000000
namespace Wf
open PySem PySem.Spec PyProof.Rows L2
/-! ### sets of tuples of numbers and texts -/
/-- the tuple at a holds these keys -/
abbrev IsP (P : Program) (w : World) (h : Heap) (k : List Key) (a : Addr) : Prop := IsTupleKey (mixKind P w) h k a
section
variable {P : Program} {w : World} {A : Around} {E : Value → Shared → Prop} {s : Shared}
def Atom (v : Value) : Prop := (∃ i t, v = .int i t) ∨ ∃ x t, v = .str x t
theorem items_atom {k : List Key} {vs : List Value} (h : ItemsAre (mixKind P w) k vs) : ∀ v ∈ vs, Atom v := by
  induction h with
  | nil => exact fun v hv => nomatch hv
  | @cons k0 v' ks vs h1 _ ih =>
    intro v hv
    rcases List.mem_cons.mp hv with rfl | hv
    · rcases keyIs_shape h1 with ⟨i, t, _, e⟩ | ⟨x, t, _, e⟩
      · exact .inl ⟨i, t, e⟩
      · exact .inr ⟨x, t, e⟩
    · exact ih v hv
theorem atom_cls {v : Value} (h : Atom v) (n : Nat) : ofAClassStatement n v = pure false := by
  rcases h with ⟨i, t, rfl⟩ | ⟨x, t, rfl⟩ <;> (cases n <;> rfl)
theorem atom_hash {v : Value} (h : Atom v) (n : Nat) : ∃ b, hashByValue n v = pure b := by
  rcases h with ⟨i, t, rfl⟩ | ⟨x, t, rfl⟩ <;> (cases n <;> exact ⟨_, rfl⟩)
/-- a tuple of atoms is of no class statement -/
theorem cls_pair {k : List Key} {b : Addr} {Q : Bool → Shared → Prop} (hk : IsP P w s.heap k b) (h : Q false s) : wpAny (model P w) A (ofAClassStatement 8 (.ref b)) Q E s := by
  have hT := hk.typeIs
  obtain ⟨o, its, n, ho, _, hd, hi⟩ := hk
  unfold ofAClassStatement
  refine wpAny_bind (wpAny_typeOf hT ?_)
  dsimp only
  simp only [show (("tuple" : String) == "tuple") = true by decide, if_true, Bool.not_true, Bool.false_eq_true, if_false]
  try refine wpAny_bind (wpAny_pure ?_)
  try simp only [Bool.not_true, Bool.false_eq_true, if_false]
  show wpAny _ _ (seqItems? (.ref b) >>= _) _ _ s
  refine wpAny_bind (wpAny_seqItems ho hd ?_)
  dsimp only
  refine wpAny_bind ?_
  show wpAny _ _ (forIn its _ _) _ _ s
  rw [← Array.forIn_toList]
  refine wpAny_forIn_list _ (fun rest r s' => (r.1 = none ∧ s' = s) ∧ ∀ v ∈ rest, Atom v) _ ?_ ?_ _ _ ⟨⟨rfl, rfl⟩, items_atom hi⟩
  · rintro v rest r s' ⟨⟨hr, rfl⟩, all⟩
    rw [atom_cls (all v List.mem_cons_self)]
    refine wpAny_bind (wpAny_pure ?_)
    simp only [Bool.false_eq_true, if_false]
    exact wpAny_pure ⟨⟨rfl, rfl⟩, fun u hu => all u (List.mem_cons_of_mem _ hu)⟩
  · rintro ⟨r1, r2⟩ s' ⟨⟨hr, rfl⟩, _⟩
    simp only at hr
    subst hr
    exact wpAny_pure h
/-- whether its hash is its value's own: either may be -/
theorem hash_pair {k : List Key} {b : Addr} {Q : Bool → Shared → Prop} (hk : IsP P w s.heap k b) (h : ∀ c, Q c s) : wpAny (model P w) A (hashByValue 8 (.ref b)) Q E s := by
  have hT := hk.typeIs
  obtain ⟨o, its, n, ho, _, hd, hi⟩ := hk
  unfold hashByValue
  refine wpAny_bind (wpAny_specialOf hT F.slot_tuple_hash.lookup ?_)
  show wpAny _ _ (seqItems? (.ref b) >>= _) _ _ s
  refine wpAny_bind (wpAny_seqItems ho hd ?_)
  refine wpAny_bind ?_
  show wpAny _ _ (forIn its _ _) _ _ s
  rw [← Array.forIn_toList]
  refine wpAny_forIn_list _ (fun rest r s' => s' = s ∧ ∀ v ∈ rest, Atom v) _ ?_ ?_ _ _ ⟨rfl, items_atom hi⟩
  · rintro v rest r s' ⟨rfl, all⟩
    obtain ⟨c, e⟩ := atom_hash (all v List.mem_cons_self) 7
    have rest' : ∀ u ∈ rest, Atom u := fun u hu => all u (List.mem_cons_of_mem _ hu)
    rw [e]
    refine wpAny_bind (wpAny_pure ?_)
    cases c with
    | true =>
      simp only [Bool.not_true, Bool.false_eq_true, if_false]
      exact wpAny_pure ⟨rfl, rest'⟩
    | false =>
      simp only [Bool.not_false, if_true]
      exact wpAny_pure (wpAny_pure (h _))
  · rintro ⟨r1, r2⟩ s' ⟨rfl, _⟩
    cases r1 with
    | none => exact wpAny_pure (h _)
    | some c => exact wpAny_pure (h _)
/-- the hash of a tuple's keys -/
abbrev phash (P : Program) (w : World) (k : List Key) : Int := tupleKeyHash (mixKind P w) k
open Classical in
/-- the member y holds the keys k -/
noncomputable def eqP (P : Program) (w : World) (h : Heap) (k : List Key) (y : Value) : Bool := decide (∃ c, y = .ref c ∧ IsP P w h k c)
theorem eqP_ref {h : Heap} {k k' : List Key} {c : Addr} (x : IsP P w h k' c) : eqP P w h k (.ref c) = decide (k' = k) := by
  unfold eqP
  refine decide_eq_decide.mpr ⟨?_, ?_⟩
  · rintro ⟨c', e, y⟩
    injection e with e
    subst e
    exact x.inj y
  · rintro rfl
    exact ⟨c, rfl, x⟩
theorem seen_pair {k : List Key} {b : Addr} {Q : Bool → Shared → Prop} (hk : IsP P w s.heap k b) {ys : List Value} (hy : ∀ y ∈ ys, ∃ c k', y = Value.ref c ∧ IsP P w s.heap k' c) (h : Q false s) : wpAny (model P w) A (searchCouldBeSeen (.ref b) ys) Q E s := by
  unfold searchCouldBeSeen
  refine wpAny_bind ?_
  refine wpAny_forIn_list _ (fun rest r s' => (r.1 = none ∧ s' = s) ∧ ∀ y ∈ rest, ∃ c k', y = Value.ref c ∧ IsP P w s.heap k' c) _ ?_ ?_ _ _ ⟨⟨rfl, rfl⟩, hy⟩
  · rintro v rest r s' ⟨⟨hr, rfl⟩, all⟩
    obtain ⟨c, k', rfl, hc⟩ := all v List.mem_cons_self
    have rest' : ∀ y ∈ rest, ∃ c k', y = Value.ref c ∧ IsP P w s'.heap k' c := fun u hu => all u (List.mem_cons_of_mem _ hu)
    dsimp only
    by_cases hv : (b == c || (carriedByValue (.ref b) && carriedByValue (.ref c))) = true
    · refine wp_if_pos hv ?_
      exact wpAny_pure ⟨⟨rfl, rfl⟩, rest'⟩
    · refine wp_if_neg hv ?_
      refine wpAny_bind (wpAny_eqIsQuiet_tuple hk ?_)
      simp only [Bool.not_true, Bool.false_eq_true, if_false]
      refine wpAny_bind (wpAny_eqIsQuiet_tuple hc ?_)
      simp only [Bool.not_true, Bool.false_eq_true, if_false]
      refine wpAny_bind (cls_pair hk ?_)
      simp only [Bool.false_eq_true, if_false]
      refine wpAny_bind (cls_pair hc ?_)
      simp only [Bool.false_eq_true, if_false]
      exact wpAny_pure ⟨⟨rfl, rfl⟩, rest'⟩
  · rintro ⟨r1, r2⟩ s' ⟨⟨hr, rfl⟩, _⟩
    simp only at hr
    subst hr
    exact wpAny_pure h
theorem asks_pair {R : List (Int × Value)} {k : List Key} {b : Addr} (hu : A.units < cLine) (hk : IsP P w s.heap k b) (hR : ∀ r ∈ R, ∃ c k', r.2 = Value.ref c ∧ IsP P w s.heap k' c) : Asks P w A s R (.ref b) (phash P w k) (eqP P w s.heap k) where
  eq := fun y ⟨g, hy⟩ q => by
    obtain ⟨c, k', e, hc⟩ := hR _ hy
    have e : y = .ref c := e
    subst e
    rw [eqP_ref hc] at q
    exact wpAny_eqBool_tuple hu hc hk q
  same := fun y ⟨g, hy⟩ q => by
    obtain ⟨c, k', e, hc⟩ := hR _ hy
    have e : y = .ref c := e
    subst e
    exact wpAny_isSame_ref_self q
  seen := fun ys hys q => seen_pair hk (fun y hy => by
    obtain ⟨g, hg⟩ := hys y hy
    exact hR _ hg) q
/-! ### the set -/
def rowP (P : Program) (w : World) (p : Addr × List Key) : Int × Value := (phash P w p.2, .ref p.1)
structure SetP (P : Program) (w : World) (h : Heap) (a : Addr) (L : List (Addr × List Key)) : Prop where
  tb : ∃ es ep t, Tbl w h a (L.map (rowP P w)) es ep t
  nd : (L.map Prod.snd).Nodup
  tu : ∀ p ∈ L, IsP P w h p.2 p.1
theorem perm_unmap {α β : Type} {f : α → β} {l1 l2 : List β} (h : l1.Perm l2) : ∀ l : List α, l2 = l.map f → ∃ l' : List α, l1 = l'.map f ∧ l'.Perm l := by
  induction h with
  | nil => exact fun l e => ⟨l, e, .refl _⟩
  | cons x _ ih =>
    intro l e
    cases l with
    | nil => cases e
    | cons a l =>
      rw [List.map_cons] at e
      injection e with e1 e2
      obtain ⟨l', g1, g2⟩ := ih l e2
      exact ⟨a :: l', by rw [List.map_cons, g1, e1], g2.cons a⟩
  | swap x y r =>
    intro l e
    match l, e with
    | a :: b :: l, e =>
      rw [List.map_cons, List.map_cons] at e
      injection e with e1 e
      injection e with e2 e3
      exact ⟨b :: a :: l, by rw [List.map_cons, List.map_cons, e1, e2, e3], .swap a b l⟩
    | [_], e => cases e
    | [], e => cases e
  | trans _ _ ih1 ih2 =>
    intro l e
    obtain ⟨l', g1, g2⟩ := ih2 l e
    obtain ⟨l'', g3, g4⟩ := ih1 l' g1
    exact ⟨l'', g3, g4.trans g2⟩
theorem IsP.up {h h' : Heap} {k : List Key} {b : Addr} (x : IsP P w h k b) (e : ∀ o, h.get? b = some o → h'.get? b = some o) : IsP P w h' k b := by
  obtain ⟨o, its, n, ho, r⟩ := x
  exact ⟨o, its, n, e o ho, r⟩
theorem SetP.rows {h : Heap} {a : Addr} {L : List (Addr × List Key)} (S : SetP P w h a L) : ∀ r ∈ L.map (rowP P w), ∃ c k', r.2 = Value.ref c ∧ IsP P w h k' c := fun r hr => by
  obtain ⟨p, hp, rfl⟩ := List.mem_map.mp hr
  exact ⟨p.1, p.2, rfl, S.tu p hp⟩
theorem SetP.hit {h : Heap} {a : Addr} {L : List (Addr × List Key)} (S : SetP P w h a L) {k : List Key} : Hit (L.map (rowP P w)) (phash P w k) (eqP P w h k) ↔ k ∈ L.map Prod.snd := by
  constructor
  · rintro ⟨r, hr, _, e⟩
    obtain ⟨p, hp, rfl⟩ := List.mem_map.mp hr
    have e : eqP P w h k (.ref p.1) = true := e
    rw [eqP_ref (S.tu p hp), decide_eq_true_eq] at e
    exact List.mem_map.mpr ⟨p, hp, e⟩
  · intro hk
    obtain ⟨p, hp, rfl⟩ := List.mem_map.mp hk
    refine ⟨rowP P w p, List.mem_map.mpr ⟨p, hp, rfl⟩, rfl, ?_⟩
    show eqP P w h p.2 (.ref p.1) = true
    rw [eqP_ref (S.tu p hp), decide_eq_true rfl]
/-- one more tuple -/
theorem SetP.add {a : Addr} {L : List (Addr × List Key)} (S : SetP P w s.heap a L) {b : Addr} {k : List Key} (hk : IsP P w s.heap k b) (hu : A.units < cLine) (few : L.length < 75) {Q : Bool → Shared → Prop}
    (hQ : ∀ c h' L', Heap.SameBut a s.heap h' → SetP P w h' a L' → (k ∈ L.map Prod.snd → L' = L) → (k ∉ L.map Prod.snd → L'.Perm ((b, k) :: L)) → Q c { s with heap := h' }) : wpAny (model P w) A (setAddHashed a (.ref b) (phash P w k)) Q E s := by
  obtain ⟨es, ep, t, T⟩ := S.tb
  obtain ⟨o, ho, hex, hd⟩ := T.ob
  refine addOne T (asks_pair hu hk S.rows) (by rw [List.length_map]; exact few) rfl (fun h => hash_pair hk h) fun c h' R' es' ep' t' sb T' h1 h2 => ?_
  have up : ∀ {k' : List Key} {c : Addr}, IsP P w s.heap k' c → IsP P w h' k' c := fun {k' c} x => by
    obtain ⟨o', its, n, ho', hc', hd', hi'⟩ := x
    have ne : c ≠ a := fun e => by
      subst e
      rw [ho] at ho'
      cases ho'
      rw [hd] at hd'
      cases hd'
    exact ⟨o', its, n, (sb.2 c ne).trans ho', hc', hd', hi'⟩
  by_cases hm : k ∈ L.map Prod.snd
  · have e := h1 (S.hit.mpr hm)
    subst e
    exact hQ c h' L sb ⟨⟨es', ep', t', T'⟩, S.nd, fun p hp => up (S.tu p hp)⟩ (fun _ => rfl) fun z => absurd hm z
  · have pm := h2 fun z => hm (S.hit.mp z)
    obtain ⟨L', e, pl⟩ := perm_unmap (f := rowP P w) pm ((b, k) :: L) rfl
    subst e
    refine hQ c h' L' sb ⟨⟨es', ep', t', T'⟩, (pl.map Prod.snd).nodup_iff.mpr (List.nodup_cons.mpr ⟨hm, S.nd⟩), fun p hp => ?_⟩ (fun z => absurd z hm) fun _ => pl
    rcases List.mem_cons.mp (pl.mem_iff.mp hp) with rfl | hp
    · exact up hk
    · exact up (S.tu p hp)
theorem SetP.up {h h' : Heap} {a : Addr} {L : List (Addr × List Key)} (S : SetP P w h a L) (ha : ∀ o, h.get? a = some o → h'.get? a = some o) (ht : ∀ p ∈ L, IsP P w h' p.2 p.1) : SetP P w h' a L := by
  obtain ⟨es, ep, t, T⟩ := S.tb
  obtain ⟨o, ho, r⟩ := T.ob
  exact ⟨⟨es, ep, t, ⟨o, ha o ho, r⟩, T.rows, T.tab, T.led, T.room⟩, S.nd, ht⟩
theorem setP_new {h : Heap} {a : Addr} (ho : h.get? a = some { cls := .type "set", dict := none, data := .set #[] 0 (.fresh 0 0 (!w.params.followText "set-order")) }) : SetP P w h a [] where
  tb := ⟨#[], 0, .fresh 0 0 (!w.params.followText "set-order"), ⟨_, ho, ⟨rfl, rfl, rfl⟩, rfl⟩, rfl, ⟨List.Pairwise.nil, rfl, rfl, .inl rfl, fun x hx => (nomatch hx), fun i h j hi => by simp at hi⟩, by
    show _ ∨ (!w.params.followText "set-order") = true
    cases w.params.followText "set-order"
    · exact .inr rfl
    · exact .inl rfl, by show 0 * 5 < 7 * 3; decide⟩
  nd := List.nodup_nil
  tu := fun p hp => nomatch hp
/-- what the set has of the first i of ks -/
structure Has (ks : List (Addr × List Key)) (i : Nat) (L : List (Addr × List Key)) : Prop where
  sub : ∀ p ∈ L, p ∈ ks
  all : ∀ j p, j < i → ks[j]? = some p → p.2 ∈ L.map Prod.snd
  len : L.length ≤ i
/-- the loop of set.update -/
theorem fillP {I : Addr} {fp wr : List Addr} {G : Array GenState → Array GenState → Prop} {n : Nat} {Pv : Nat → Value → Prop} {St : Nat → Shared → Prop} {R : Result → Shared → Prop}
    (W : WalksS P w A.in1 I fp wr G n Pv St) (S : Addr) (hSf : S ∉ fp) (ks : List (Addr × List Key)) (hn : n = ks.length) (few : ks.length ≤ 75) (hval : ∀ i v, Pv i v → ∃ p, ks[i]? = some p ∧ v = .ref p.1)
    (h0 : Heap) (hk : ∀ p ∈ ks, IsP P w h0 p.2 p.1) (hS0 : h0.get? S = none) (hw0 : ∀ b ∈ wr, h0.get? b = none) (hu : A.in1.units < cLine) :
    ∀ (k i : Nat) (s : Shared), n - i = k → i ≤ n → St i s → (∀ b o, h0.get? b = some o → s.heap.get? b = some o) → (∃ L, SetP P w s.heap S L ∧ Has ks i L) →
      (∀ s' L, Moved (S :: wr) G s s' → SetP P w s'.heap S L → Has ks n L → (∀ b o, h0.get? b = some o → s'.heap.get? b = some o) → R (.ok (.ret .none)) s') →
      codeAny (model P w) A (.builtin "set.update.loop" ⟨[.ref S, .ref I], []⟩) R s := by
  have hSw : S ∉ wr := fun h => hSf (W.sub _ h)
  have wider : ∀ b ∈ wr, b ∈ S :: wr := fun b hb => List.mem_cons_of_mem _ hb
  have kept : ∀ {s s' : Shared}, Moved wr G s s' → (∀ b o, h0.get? b = some o → s.heap.get? b = some o) → ∀ b o, h0.get? b = some o → s'.heap.get? b = some o := fun hm hkp b o e =>
    hm.heap b o (fun hb => by rw [hw0 b hb] at e; cases e) (hkp b o e)
  intro k
  induction k with
  | zero =>
    rintro i s hk' hi hst hkp ⟨L, hS, g⟩ hR
    obtain rfl : i = n := by omega
    refine codeAny_builtin F.entry_set_update_loop ?_
    rw [Around.under_plainId F.plain_set_update_loop _]
    show wpAny _ A.in1 (pyNext (.ref I) >>= _) _ _ s
    refine wpAny_bind (W.done s _ _ hst fun s' hm => ?_)
    show wpAny _ A.in1 (ret Value.none) _ _ s'
    have hkp' := kept hm hkp
    exact wpAny_pure (hR s' L (hm.mono wider) (hS.up (fun o e => hm.heap S o hSw e) fun p hp => (hk p (g.sub p hp)).up fun o e => hkp' _ o e) g hkp')
  | succ k ih =>
    rintro i s hk' hi hst hkp ⟨L, hS, g⟩ hR
    have hlt : i < n := by omega
    refine codeAny_builtin F.entry_set_update_loop ?_
    rw [Around.under_plainId F.plain_set_update_loop _]
    show wpAny _ A.in1 (pyNext (.ref I) >>= _) _ _ s
    refine wpAny_bind (W.item i s _ _ hlt hst fun v s' hP hst' hm => ?_)
    obtain ⟨p, hp, rfl⟩ := hval i v hP
    have hpm := List.mem_of_getElem? hp
    have hkp' := kept hm hkp
    have hS' : SetP P w s'.heap S L := hS.up (fun o e => hm.heap S o hSw e) fun q hq => (hk q (g.sub q hq)).up fun o e => hkp' _ o e
    have hx : IsP P w s'.heap p.2 p.1 := (hk p hpm).up fun o e => hkp' _ o e
    show wpAny _ A.in1 (holding [Value.ref p.1] (setAdd S (.ref p.1)) >>= _) _ _ s'
    refine wpAny_bind (wpAny_holding ?_)
    unfold setAdd
    refine wpAny_holding ?_
    refine wpAny_bind (wpAny_pyHash_tuple hu hx ?_)
    refine SetP.add (s := { s' with toks := s'.toks + (p.2.length + 1) }) hS' hx hu (by have := g.len; omega) fun b h' L' sb hS2 c1 c2 => ?_
    have g' : Has ks (i + 1) L' := by
      by_cases c : p.2 ∈ L.map Prod.snd
      · rw [c1 c]
        refine ⟨g.sub, fun j q hj hq => ?_, by have := g.len; omega⟩
        rcases Nat.lt_succ_iff_lt_or_eq.mp hj with hj | rfl
        · exact g.all j q hj hq
        · rw [hp] at hq; cases hq; exact c
      · have pm := c2 c
        refine ⟨fun q hq => ?_, fun j q hj hq => ?_, ?_⟩
        · rcases List.mem_cons.mp (pm.mem_iff.mp hq) with rfl | hq
          · exact hpm
          · exact g.sub q hq
        · refine (pm.map Prod.snd).mem_iff.mpr ?_
          rw [List.map_cons]
          rcases Nat.lt_succ_iff_lt_or_eq.mp hj with hj | rfl
          · exact List.mem_cons_of_mem _ (g.all j q hj hq)
          · rw [hp] at hq; cases hq; exact List.mem_cons_self
        · have := g.len
          rw [pm.length_eq, List.length_cons]
          omega
    have hkp2 : ∀ b o, h0.get? b = some o → h'.get? b = some o := fun b o e => (sb.2 b (fun z => by rw [z, hS0] at e; cases e)).trans (hkp' b o e)
    refine wpAny_pure ⟨plainId_quiet F.plain_set_update_loop _, ih (i + 1) _ (by omega) hlt (W.frame _ s' _ _ hst' (Nat.le_add_right _ _) fun b hb o e => ?_) hkp2 ⟨L', hS2, g'⟩ fun s'' L2 hm'' hS'' g'' hkp'' => ?_⟩
    · rw [sb.2 b fun h => hSf (by rw [← h]; exact hb)]; exact e
    · refine hR s'' L2 (Moved.trans W.gtrans ((hm.mono wider).then_heap (Nat.le_add_right _ _) fun b o hb e => ?_) hm'') hS'' g'' hkp''
      rw [sb.2 b fun h => hb (by rw [h]; exact List.mem_cons_self)]; exact e
end
end Wf

set_option Elab.async false
set_option linter.all false
set_option maxRecDepth 100000
set_option maxHeartbeats 3200000
namespace Wf
open PySem PySem.Spec PyProof.Rows L2
section
variable {P : Program} {w : World} {A : Around} {E : Value → Shared → Prop} {s : Shared}
/-- set(xs), xs a list of tuples of atoms -/
theorem call_setP {l : Addr} {items : Array Value} (ks : List (Addr × List Key)) {Q : Value → Shared → Prop} (hh : A.handled = none) (hl : s.heap.IsList l items) (hit : items.toList = ks.map fun p => Value.ref p.1)
    (hk : ∀ p ∈ ks, IsP P w s.heap p.2 p.1) (few : ks.length ≤ 75) (hu : A.units + 3 < cLine)
    (h : ∀ (h' : Heap) (tk : Nat) L, SetP P w h' s.heap.objs.size L → Has ks ks.length L → (∀ b o, s.heap.get? b = some o → h'.get? b = some o) → Q (.ref s.heap.objs.size) { s with heap := h', toks := tk }) :
    wpAny (model P w) A (call (.type "set") [.ref l]) Q E s := by
  have isz : items.size = ks.length := by
    rw [← Array.length_toList, hit, List.length_map]
  obtain ⟨c, tl, hmro⟩ := F.called_set.mro
  have hmade := F.called_set.made
  have hsub := F.called_set.sub
  refine wpAny_call (codeAny_of_tree ?_)
  show wpAny _ _ (callAny (.type "set") _) _ _ _
  refine wpAny_pure ⟨Code.quiet_builtin _ (by decide +kernel), codeAny_builtin F.entry_type_call ?_⟩
  rw [Around.under_plain (weight_type_call_type "set" [.ref l] []) rfl]
  have h1 := F.called_set.notType
  have h2 := F.called_set.canCreate
  have hct := F.typeCall_set_1 (.ref l)
  repeat (any_goals (first | assumption | wp_step))
  -- the empty set
  obtain ⟨h0, eh0⟩ : ∃ h0, h0 = s.heap.push { cls := .type "set", dict := none, data := .set #[] 0 (.fresh 0 0 (!w.params.followText "set-order")) } := ⟨_, rfl⟩
  refine codeAny_mono (code_set_led1 (.ref l) (E := E) (Q₁ := fun obj s₁ => obj = .ref s.heap.objs.size ∧ s₁ = { s with heap := h0 }) ⟨rfl, by rw [eh0]⟩) fun r s₁ hr => ?_
  cases r with
  | error e => exact hr
  | ok fl =>
    cases fl with
    | ret obj =>
      obtain ⟨rfl, rfl⟩ := hr
      have hS : h0.get? s.heap.objs.size = some { cls := .type "set", dict := none, data := .set #[] 0 (.fresh 0 0 (!w.params.followText "set-order")) } := by rw [eh0]; exact Heap.get?_push_size _ rfl
      have up0 : ∀ b o, s.heap.get? b = some o → h0.get? b = some o := fun b o e => by rw [eh0]; exact Heap.get?_push_of_some _ e
      have z0 : h0.objs.size = s.heap.objs.size + 1 := by rw [eh0]; exact Heap.size_push ..
      have hT : Shared.TypeIs { s with heap := h0 } (.ref s.heap.objs.size) "set" := ⟨_, hS, rfl⟩
      have hli := F.called_set.init.lookup
      have hbi := F.called_set.init.bind (.ref s.heap.objs.size)
      repeat (any_goals (first | assumption | wp_step))
      refine codeAny_mono (codeAny_call_builtin (R := wants (fun r s₂ => r = .none ∧ ∃ h' tk L, s₂ = { s with heap := h', toks := tk } ∧ SetP P w h' s.heap.objs.size L ∧ Has ks ks.length L ∧
          (∀ b o, s.heap.get? b = some o → h'.get? b = some o)) E) F.called_set.init.plain F.entry_set_init (check_set_init_1 hT ?_)) fun r₂ s₂ hr₂ => ?_
      · obtain ⟨ol, hol, hcl, nl, hdl⟩ := hl
        obtain ⟨ocls, odict, odata, oslots⟩ := ol
        simp only at hcl hdl
        subst hcl; subst hdl
        have hol' := up0 _ _ hol
        have hsls := F.sub_list_set
        have hslf := F.sub_list_frozenset
        have hne : (Value.type "list" == Value.type "dict") = false := by decide
        have hl1 : h0.IsList l items := ⟨_, hol', rfl, nl, rfl⟩
        unfold Builtin.«set.__init__» noKeywords Builtin.Frozenset.updateFrom
        generalize hPI : pyIter = PI
        wp_walk
        subst hPI
        refine wpAny_pyIter_list hl1 ?_
        refine wpAny_bind (wpAny_runValue ?_)
        have hlS : l < s.heap.objs.size := Heap.lt_size hol
        have hh3 : A.in1.in1.in1.handled = none := by simp [hh]
        have hneI : l ≠ h0.objs.size := by rw [z0]; exact Nat.ne_of_lt (Nat.lt_succ_of_lt hlS)
        have hSf : s.heap.objs.size ∉ [h0.objs.size, l] := by
          rw [z0]; simp only [List.mem_cons, List.not_mem_nil, or_false, not_or]
          exact ⟨Nat.ne_of_lt (Nat.lt_succ_self _), Nat.ne_of_gt hlS⟩
        have hval : ∀ (i : Nat) (v : Value), items[i]? = some v → ∃ p, ks[i]? = some p ∧ v = .ref p.1 := fun i v hv => by
          rw [← Array.getElem?_toList, hit, List.getElem?_map] at hv
          cases hq : ks[i]? with
          | none => rw [hq] at hv; cases hv
          | some p => rw [hq] at hv; exact ⟨p, rfl, (Option.some.inj hv).symm⟩
        have fresh : ∀ b, s.heap.objs.size ≤ b → s.heap.get? b = none := fun b hb => by
          cases q : s.heap.get? b with
          | none => rfl
          | some o => exact absurd (Nat.lt_of_lt_of_le (Heap.lt_size q) hb) (Nat.lt_irrefl _)
        refine fillP ((Walks.list hh3 _ l hneI items).toS) s.heap.objs.size hSf ks isz few hval s.heap hk (fresh _ (Nat.le_refl _)) (fun b hb => fresh b (by
            rw [List.mem_singleton.mp hb, z0]
            exact Nat.le_succ _)) hu (items.size - 0) 0 _ (by omega) (Nat.zero_le _)
          ⟨⟨_, Heap.get?_push_size _ rfl, rfl, rfl⟩, (hl1.push _)⟩ (fun b o e => Heap.get?_push_of_some _ (up0 b o e)) ?hS0 ?hR
        case hS0 =>
          exact ⟨[], setP_new (Heap.get?_push_of_some _ hS), ⟨fun p hp => (nomatch hp), fun j p hj => absurd hj (Nat.not_lt_zero _), Nat.le_refl _⟩⟩
        case hR =>
          intro s' L hm hS' g' hkp
          obtain ⟨h', g2, d', tk', os'⟩ := s'
          have eg : g2 = s.gens := hm.gens
          have ed : d' = s.drawn := hm.drawn
          have eo : os' = s.os := hm.os
          subst eg; subst ed; subst eo
          show wpAny _ _ _ _ _ _
          refine wpAny_pure ?_
          show wpAny _ _ (ret Value.none) _ _ _
          rw [isz] at g'
          exact wpAny_pure ⟨rfl, h', tk', L, rfl, hS', g', hkp⟩
      · cases r₂ with
        | error e => exact hr₂
        | ok fl₂ =>
          cases fl₂ with
          | ret r =>
            obtain ⟨rfl, h', tk, L, rfl, hS', g', hk'⟩ := hr₂
            repeat (any_goals (first | assumption | wp_step))
            exact h _ _ _ hS' g' hk'
          | _ => exact hr₂.elim
    | _ => exact hr.elim
end
end Wf

set_option Elab.async false
set_option linter.all false
set_option maxRecDepth 100000
set_option maxHeartbeats 3200000
namespace Wf
open PySem PySem.Spec PyProof.Rows PyProof.Rows.G L2
/-! ### sorted(a set of pairs (number, text)) -/
def itm : Key → Int ⊕ List Nat
  | .inl n => .inl n
  | .inr x => .inr x.cps.toList
def kLt (a b : List Key) : Bool := lexLt itemOrd (a.map itm) (b.map itm)
def shp : Nat → Bool := fun i => i == 1
def pk (q : Int × Str) : List Key := [.inl q.1, .inr q.2]
section
variable {P : Program} {w : World} {A : Around} {E : Value → Shared → Prop} {s : Shared}
theorem pair_shape {h : Heap} {q : Int × Str} {b : Addr} (x : IsP P w h (pk q) b) : ∃ o n t u, h.get? b = some o ∧ o.cls = .type "tuple" ∧ o.data = .seq #[.int q.1 t, .str q.2 u] n := by
  obtain ⟨o, its, n, ho, hc, hd, hi⟩ := x
  generalize el : its.toList = l at hi
  unfold pk at hi
  cases hi with
  | cons h1 hi =>
    cases hi with
    | cons h2 hi =>
      cases hi
      have h1 : keyIs (.inl q.1) _ = true := h1
      have h2 : keyIs (.inr q.2) _ = true := h2
      rcases keyIs_shape h1 with ⟨i, t, e1, e2⟩ | ⟨_, _, e1, _⟩
      · rcases keyIs_shape h2 with ⟨_, _, e3, _⟩ | ⟨y, u, e3, e4⟩
        · cases e3
        · cases e1; cases e3
          refine ⟨o, n, t, u, ho, hc, ?_⟩
          rw [hd]
          have : its = #[Value.int q.1 t, Value.str q.2 u] := by
            apply Array.ext'
            rw [el, e2, e4]
          rw [this]
      · cases e1
theorem key_of {h : Heap} {q : Int × Str} {b : Addr} (x : IsP P w h (pk q) b) : tupKeyC h shp (.ref b) = some ((pk q).map itm) := by
  obtain ⟨o, n, t, u, ho, hc, hd⟩ := pair_shape x
  unfold tupKeyC
  have e1 : isTupObj h (.ref b) = true := by simp [isTupObj, ho, hc]
  rw [if_pos e1]
  simp only [tupKey, ho, hd]
  rfl
theorem tup_of {h : Heap} {q : Int × Str} {b : Addr} (x : IsP P w h (pk q) b) : ∃ t, TupOf h shp (.ref b) (.int q.1 t) := by
  obtain ⟨o, n, t, u, ho, hc, hd⟩ := pair_shape x
  exact ⟨t, b, o, _, n, rfl, ho, hc, hd, rfl, fun _ => ⟨_, _, rfl⟩, fun e => absurd e (by decide)⟩
theorem tups_of {h : Heap} : ∀ {L : List (Addr × (Int × Str))}, (∀ p ∈ L, IsP P w h (pk p.2) p.1) → ∃ fs, TupsOf h shp (L.map fun p => Value.ref p.1) fs
  | [], _ => ⟨[], .nil⟩
  | p :: L, hk => by
    obtain ⟨t, x⟩ := tup_of (hk p List.mem_cons_self)
    obtain ⟨fs, y⟩ := tups_of (L := L) fun q hq => hk q (List.mem_cons_of_mem _ hq)
    exact ⟨_, .cons x y⟩
/-- what sorting leaves, by the keys -/
theorem out_keys {h : Heap} {arr : Array Keyed} {L' : List (Addr × (Int × Str))} {vs : List Value} (hp : arr.Perm (pairsOf vs)) (hs : SortedToK (tupKindC h shp) arr (pairsOf vs).size) (ho : (arr.map (·.2)).toList = L'.map fun p => Value.ref p.1)
    (hk : ∀ p ∈ L', IsP P w h (pk p.2) p.1) : L'.Pairwise fun q r => kLt (pk r.2) (pk q.2) = false := by
  have hl : arr.toList.Perm (vs.zip vs) := by
    have e := Array.perm_iff_toList_perm.mp hp
    rwa [pairsOf_toList] at e
  have same : ∀ p ∈ arr.toList, p.1 = p.2 := fun p hm => (mem_zip_self (hl.mem_iff.mp hm)).1
  have sz : arr.size = L'.length := by
    have := congrArg List.length ho
    rw [Array.length_toList, Array.size_map, List.length_map] at this
    exact this
  have szp : (pairsOf vs).size = arr.size := hp.size_eq.symm
  have at_ : ∀ i (hi : i < L'.length), KK (tupKindC h shp) arr i = (pk L'[i].2).map itm := fun i hi => by
    have hia : i < arr.size := by omega
    have e1 : arr[i]? = some arr[i] := Array.getElem?_eq_getElem hia
    have e2 : arr[i].2 = Value.ref L'[i].1 := by
      have := congrArg (fun l : List Value => l[i]?) ho
      simp only [Array.getElem?_toList, Array.getElem?_map, List.getElem?_map, e1, List.getElem?_eq_getElem hi, Option.map_some, Option.some.injEq] at this
      exact this
    have e3 : arr[i].1 = Value.ref L'[i].1 := (same _ (Array.getElem_mem_toList hia)).trans e2
    unfold KK
    rw [e1]
    show ((tupKeyC h shp arr[i].1).getD []) = _
    rw [e3, key_of (hk _ (List.getElem_mem hi))]
    rfl
  refine List.pairwise_iff_getElem.mpr fun i j hi hj hij => ?_
  have := hs i j (Nat.le_of_lt hij) (by omega)
  rw [at_ i hi, at_ j hj] at this
  exact this
theorem sorted_setP {a : Addr} {L : List (Addr × (Int × Str))} {Q : Value → Shared → Prop} (S : SetP P w s.heap a (L.map fun p => (p.1, pk p.2))) (hh : A.handled = none) (few : L.length ≤ 75)
    (hQ : ∀ s' p (L' : List (Addr × (Int × Str))) (c : Nat), (∀ b o, s.heap.get? b = some o → s'.heap.get? b = some o) → s'.gens = s.gens → s'.os = s.os → s.heap.objs.size ≤ p →
      s'.heap.get? p = some (seqObj "list" (L'.map fun q => Value.ref q.1).toArray c) → L'.Perm L → (L'.Pairwise fun q r => kLt (pk r.2) (pk q.2) = false) → Q (.ref p) s') :
    wpAny (model P w) A (call (.builtin "sorted") [.ref a]) Q E s := by
  obtain ⟨es, ep, t, T⟩ := S.tb
  obtain ⟨o, ho, hex, hd⟩ := T.ob
  have hsz : es.size = L.length := by rw [T.sz, List.length_map, List.length_map]
  have tu : ∀ p ∈ L, IsP P w s.heap (pk p.2) p.1 := fun p hp => S.tu (p.1, pk p.2) (List.mem_map.mpr ⟨p, hp, rfl⟩)
  refine Calls.call_function_entry kind_sorted plain_sorted entry_sorted (args_sorted1 _) ?_
  unfold Builtin.«sorted»
  refine wpAny_bind (m := checkCount "sorted" 1 1 _) (wpAny_pure ?_)
  refine wpAny_bind (collect_set (A := A.in1) hh ⟨o, ho, hex.1, hd⟩ T.fits (by unfold scanBound; omega) T.tab.ris T.led fun s1 vs k1 hz g1 o1 pm => ?_)
  have evs : es.toList.map (·.2) = L.map fun p => Value.ref p.1 := by
    rw [T.rows, List.map_map, List.map_map]
    rfl
  rw [evs] at pm
  obtain ⟨L1, rfl, p1⟩ := perm_unmap pm L rfl
  have hvl : (L1.map fun p => Value.ref p.1).length ≤ 75 := by rw [List.length_map, p1.length_eq]; exact few
  refine wpAny_bind (wpAny_newList ?_ (by rw [sizeLine_eq]; omega))
  have hoL : (s1.heap.push (seqObj "list" (L1.map fun p => Value.ref p.1).toArray 0)).get? s1.heap.objs.size = some (seqObj "list" (L1.map fun p => Value.ref p.1).toArray 0) := Heap.get?_push_size _ rfl
  have tu1 : ∀ p ∈ L1, IsP P w (s1.heap.push (seqObj "list" (L1.map fun p => Value.ref p.1).toArray 0)) (pk p.2) p.1 := fun p hp => (tu p (p1.mem_iff.mp hp)).up fun o e => Heap.get?_push_of_some _ (k1 _ o e)
  obtain ⟨fs, tf⟩ := tups_of tu1
  refine wpAny_bind (wpAny_holding (wpAny_call_entry slot_list_sort ⟨_, hoL, rfl⟩ entry_list_sort (list_sort_tups (s := { s1 with heap := s1.heap.push (seqObj "list" (L1.map fun p => Value.ref p.1).toArray 0) }) hoL tf (fun v hv => by
    obtain ⟨p, hp, rfl⟩ := List.mem_map.mp hv
    exact ⟨_, key_of (tu1 p hp)⟩) (by rw [sizeLine_eq]; omega) fun st' hp hs _ => ⟨_, rfl, ?_⟩) (args_list_sort _)))
  refine wpAny_pure ⟨_, rfl, ?_⟩
  have po : ((arrOf st').map (·.2)).toList.Perm (L1.map fun p => Value.ref p.1) := by
    have e := Array.perm_iff_toList_perm.mp hp
    rw [pairsOf_toList] at e
    have e2 := e.map Prod.snd
    rw [List.map_snd_zip (Nat.le_refl _)] at e2
    rw [Array.toList_map]
    exact e2
  obtain ⟨L', eo, p2⟩ := perm_unmap po L1 rfl
  have tu2 : ∀ p ∈ L', IsP P w (s1.heap.push (seqObj "list" (L1.map fun p => Value.ref p.1).toArray 0)) (pk p.2) p.1 := fun p hp => tu1 p (p2.mem_iff.mp hp)
  have pw := out_keys hp hs eo tu2
  obtain ⟨c, hc⟩ := sortedHeap_at (vs := L1.map fun p => Value.ref p.1) (out := (arrOf st').map (·.2)) hoL
  have eo2 : (arrOf st').map (·.2) = (L'.map fun q => Value.ref q.1).toArray := by
    apply Array.ext'
    rw [eo]
  refine hQ _ s1.heap.objs.size L' c (fun b u e => ?_) g1 o1 hz (by rw [← eo2]; exact hc) (p2.trans p1) pw
  have q := k1 b u e
  have hlt := Heap.lt_size q
  show (sortedHeap (s1.heap.push (seqObj "list" (L1.map fun p => Value.ref p.1).toArray 0)) s1.heap.objs.size (L1.map fun p => Value.ref p.1) ((arrOf st').map (·.2))).get? b = some u
  rw [sortedHeap_old (Nat.ne_of_lt hlt) (by rw [size_push']; exact Nat.lt_succ_of_lt hlt)]
  exact Heap.get?_push_of_some _ q
end
end Wf

set_option Elab.async false
set_option linter.all false
set_option maxRecDepth 100000
set_option maxHeartbeats 3200000
namespace Wf
open PySem PySem.Spec PyProof.Rows PyProof.Rows.G L2
theorem kLt_total {a b : List Key} (h : kLt a b = false) (g : kLt b a = false) : a.map itm = b.map itm := lex_total _ _ h g
theorem itm_inj : ∀ {a b : Key}, itm a = itm b → a = b
  | .inl n, .inl m, h => by
    injection h with h
    rw [h]
  | .inl n, .inr y, h => by cases h
  | .inr x, .inl m, h => by cases h
  | .inr x, .inr y, h => by
    injection h with h
    have : x = y := by
      cases x; cases y
      congr 1
      exact Array.ext' h
    rw [this]
theorem pk_inj {q r : Int × Str} (h : (pk q).map itm = (pk r).map itm) : q = r := by
  unfold pk at h
  rw [List.map_cons, List.map_cons, List.map_cons, List.map_cons] at h
  injection h with h1 h
  injection h with h2 _
  have e1 := itm_inj h1
  have e2 := itm_inj h2
  injection e1 with e1
  injection e2 with e2
  exact Prod.ext e1 e2
/-- pairs in ascending order -/
def pLt (q r : Int × Str) : Prop := kLt (pk q) (pk r) = true
theorem pLt_iff {q r : Int × Str} : pLt q r ↔ q.1 < r.1 ∨ (q.1 = r.1 ∧ q.2.cps.toList < r.2.cps.toList) := by
  unfold pLt kLt pk
  show lexLt itemOrd [.inl q.1, .inr q.2.cps.toList] [.inl r.1, .inr r.2.cps.toList] = true ↔ _
  rw [lex_true]
  show decide (q.1 < r.1) = true ∨ (decide (r.1 < q.1) = false ∧ lexLt itemOrd [.inr q.2.cps.toList] [.inr r.2.cps.toList] = true) ↔ _
  rw [lex_true]
  show decide (q.1 < r.1) = true ∨ (decide (r.1 < q.1) = false ∧ (decide (q.2.cps.toList < r.2.cps.toList) = true ∨ (_ ∧ lexLt itemOrd [] [] = true))) ↔ _
  rw [decide_eq_true_eq, decide_eq_false_iff_not, decide_eq_true_eq]
  constructor
  · rintro (h | ⟨h1, h2 | ⟨_, h2⟩⟩)
    · exact .inl h
    · by_cases e : q.1 < r.1
      · exact .inl e
      · exact .inr ⟨by omega, h2⟩
    · cases h2
  · rintro (h | ⟨h1, h2⟩)
    · exact .inl h
    · exact .inr ⟨by omega, .inl h2⟩
section
variable {X : Cx}
theorem itemsP {P : Program} {w : World} {q : Int × Str} {us : List Value} (r : Vals [V.int q.1, V.str q.2] us) : ItemsAre (mixKind P w) (pk q) us := by
  cases r with
  | cons r1 r =>
    cases r with
    | cons r2 r =>
      cases r
      obtain ⟨t, rfl⟩ := r1
      obtain ⟨u, rfl⟩ := r2
      refine .cons ?_ (.cons ?_ .nil)
      · show keyIs (.inl q.1) (.int q.1 t) = true
        unfold keyIs
        simp [Value.isInt]
      · show keyIs (.inr q.2) (.str q.2 u) = true
        unfold keyIs
        simp [Value.isStr, Value.isStrOf]
theorem isP_of {pins : List (Addr × Obj)} {σ : L2.St} {H : Hp} {s : Shared} {b : Addr} {q : Int × Str} (I : Inv X pins σ H s) (h : SqT X.K H b [V.int q.1, V.str q.2]) : IsP X.prog X.w s.heap (pk q) b := by
  obtain ⟨its, r, ⟨o, ho, hc, n, hd⟩, _⟩ := I.tuple h
  exact ⟨o, its.toArray, n, ho, hc, hd, by simpa using itemsP r⟩
theorem vals_refs : ∀ (ks : List (Addr × (Int × Str))), Vals (ks.map fun p => V.ref p.1) (ks.map fun p => Value.ref p.1)
  | [] => .nil
  | _ :: ks => .cons rfl (vals_refs ks)
theorem refs_vals : ∀ {ks : List (Addr × (Int × Str))} {us : List Value}, Vals (ks.map fun p => V.ref p.1) us → us = ks.map fun p => Value.ref p.1
  | [], _, .nil => rfl
  | p :: ks, _, .cons r t => by
    cases r
    rw [refs_vals t]
    rfl
def tSortSet (K : PySem.W.Frag) (ta : TE) : TE := fun σ H Q => ta σ H fun x H1 => ∃ (l : Addr) (ks : List (Addr × (Int × Str))), x = V.ref l ∧ SqL K H1 l (ks.map fun p => V.ref p.1) ∧ (∀ p ∈ ks, SqT K H1 p.1 [V.int p.2.1, V.str p.2.2]) ∧ ks.length ≤ 75 ∧
  ∀ (L : List (Addr × (Int × Str))) (p : Addr), (∀ q ∈ L, q ∈ ks) → (∀ q ∈ ks, q.2 ∈ L.map Prod.snd) → (L.map Prod.snd).Pairwise pLt → H1 p = none → Q (.ref p) (upd H1 p (.lst (L.map fun q => V.ref q.1)))
theorem pe_sortSet {a : Expr} {ta : TE} {p p2 q pos : Pos} (hc : X.calm = true) (hu : X.A.units + 64 < cLine) (hg : Gl X "sorted") (hm : X.mg "sorted" = none) (hg2 : Gl X "set") (hm2 : X.mg "set" = none) (ha : PE X a ta)
    (na : starEach [a] X.env = (false, eval a X.env) :: starEach [] X.env := by rfl) : PE X (.Call (.Name "sorted" p) [.Call (.Name "set" p2) [a] [] q] [] pos) (tSortSet X.K ta) := by
  refine ⟨fun pins s σ H Q I h => ?_⟩
  refine Call_ (ld_blt (u := .builtin "sorted") I hg hm (by decide +kernel) ?_)
  refine PyProof.Rows.callWith_builtin1 (PyProof.Rows.args_cons ?_ rfl) rfl rfl
  refine Call_ (ld_blt I hg2 hm2 PyProof.Rows.boot_set ?_)
  refine PyProof.Rows.callWith_type1 (PyProof.Rows.args_cons (thn (ha.run pins s σ H _ I h) fun v s1 ⟨x, H1, I1, r1, q1⟩ => PyProof.Rows.args_nil ?_) na) na rfl
  obtain ⟨l, ks, rfl, hl, hk, few, q1⟩ := q1
  cases r1
  obtain ⟨its, r, pl, hz⟩ := I1.list hl
  have er := refs_vals r
  refine call_setP (P := X.prog) (w := X.w) (ks.map fun p => (p.1, pk p.2)) (I1.ok.hd hc) pl.isList (by
      rw [List.map_map, er, List.toList_toArray]
      rfl) (fun p hp => ?_) (by rw [List.length_map]; exact few) (by omega) fun h' tk L S g kp => ?_
  · obtain ⟨q', hq, rfl⟩ := List.mem_map.mp hp
    exact isP_of I1 (hk q' hq)
  refine PyProof.Rows.args_nil ?_
  have I2 : Inv X pins σ H1 { s1 with heap := h', toks := tk } := I1.kept kp
  -- the members are among ks
  obtain ⟨L0, eL, hL0⟩ : ∃ L0 : List (Addr × (Int × Str)), L = L0.map (fun p => (p.1, pk p.2)) ∧ ∀ q ∈ L0, q ∈ ks := by
    have key : ∀ L : List (Addr × List Key), (∀ p ∈ L, p ∈ ks.map fun p => (p.1, pk p.2)) → ∃ L0 : List (Addr × (Int × Str)), L = L0.map (fun p => (p.1, pk p.2)) ∧ ∀ q ∈ L0, q ∈ ks := by
      intro L
      induction L with
      | nil => exact fun _ => ⟨[], rfl, fun _ h => nomatch h⟩
      | cons p L ih =>
        intro hp
        obtain ⟨L0, e, h0⟩ := ih fun r hr => hp r (List.mem_cons_of_mem _ hr)
        obtain ⟨q', hq, e2⟩ := List.mem_map.mp (hp p List.mem_cons_self)
        refine ⟨q' :: L0, by rw [List.map_cons, ← e, e2], fun r hr => ?_⟩
        rcases List.mem_cons.mp hr with rfl | hr
        · exact hq
        · exact h0 r hr
    exact key L g.sub
  subst eL
  have lenL : L0.length ≤ 75 := by
    have := g.len
    rw [List.length_map, List.length_map] at this
    omega
  refine sorted_setP (s := { s1 with heap := h', toks := tk }) S (I1.ok.hd hc) lenL fun s' p' L' c k3 g3 o3 hp' hget pm pw => ?_
  have hn : H1 p' = none := I2.hok.fresh hp'
  have hlen : (L'.map fun q => V.ref q.1).length ≤ sizeLine := by rw [List.length_map, pm.length_eq, sizeLine_eq]; omega
  have J : Inv X pins σ (upd H1 p' (.lst (L'.map fun q => V.ref q.1))) { s1 with heap := s'.heap, gens := s'.gens, drawn := s'.drawn, toks := s'.toks } :=
    Inv.call (s := { s1 with heap := h', toks := tk }) (ch := []) I2 (Un.laid k3 hp' hn) (I2.hok.laid k3 hp' ⟨hlen, _, c, vals_refs L', hget⟩) (by rw [g3]; exact I2.bare) (fun _ z => nomatch z)
  have e : s' = { s1 with heap := s'.heap, gens := s'.gens, drawn := s'.drawn, toks := s'.toks } := by
    cases s'
    cases s1
    cases o3
    rfl
  rw [e]
  refine ⟨.ref p', _, J, rfl, q1 L' p' (fun q hq => hL0 q (pm.mem_iff.mp hq)) (fun q hq => ?_) ?_ hn⟩
  · obtain ⟨j, hj⟩ := List.getElem?_of_mem hq
    have hjl : j < (ks.map fun p => (p.1, pk p.2)).length := by rw [List.length_map]; exact (List.getElem?_eq_some_iff.mp hj).1
    have := g.all j (q.1, pk q.2) hjl (by rw [List.getElem?_map, hj]; rfl)
    rw [List.map_map] at this
    obtain ⟨r', hr, er'⟩ := List.mem_map.mp this
    have er' : pk r'.2 = pk q.2 := er'
    have : r'.2 = q.2 := pk_inj (by rw [er'])
    exact List.mem_map.mpr ⟨r', pm.mem_iff.mpr hr, this⟩
  · have nd : (L'.map fun p => pk p.2).Nodup := by
      have := S.nd
      rw [List.map_map] at this
      exact (pm.map (fun p : Addr × (Int × Str) => pk p.2)).nodup_iff.mpr this
    rw [List.pairwise_map]
    have nd2 := List.pairwise_map.mp nd
    refine List.Pairwise.imp₂ ?_ pw nd2
    intro q' r' h1 h2
    unfold pLt
    cases h3 : kLt (pk q'.2) (pk r'.2) with
    | true => rfl
    | false =>
      exfalso
      have := pk_inj (kLt_total h3 h1)
      exact h2 (by rw [this])
end
/-! ### over data -/
def prT (q : Int × Str) : Tr := .tup [.int q.1, .str q.2]
section
variable {X : Cx} {B : Bs} {M : Pl} {Δ : List En} {a : Expr} {Φ : Tr → List En → Prop}
theorem of_prs {K : PySem.W.Frag} {I : Hp} : ∀ {qs : List (Int × Str)} {vs : List V}, Dts K I vs (qs.map prT) → ∃ ks : List (Addr × (Int × Str)), vs = ks.map (fun p => V.ref p.1) ∧ ks.map Prod.snd = qs ∧ ∀ p ∈ ks, SqT K I p.1 [V.int p.2.1, V.str p.2.2]
  | [], _, .nil => ⟨[], rfl, rfl, fun _ h => nomatch h⟩
  | q :: qs, _, .cons d r => by
    obtain ⟨ks, rfl, e2, e3⟩ := of_prs r
    unfold prT at d
    cases d with
    | tup g1 g2 =>
      cases g2 with
      | cons d1 g2 =>
        cases g2 with
        | cons d2 g2 =>
          cases g2
          cases d1
          cases d2
          rename_i ad
          refine ⟨(ad, q) :: ks, rfl, by rw [List.map_cons, e2], fun p hp => ?_⟩
          rcases List.mem_cons.mp hp with rfl | hp
          · exact g1
          · exact e3 p hp
theorem prs_of {K : PySem.W.Frag} {I : Hp} : ∀ {ks : List (Addr × (Int × Str))}, (∀ p ∈ ks, SqT K I p.1 [V.int p.2.1, V.str p.2.2]) → Dts K I (ks.map fun p => V.ref p.1) ((ks.map Prod.snd).map prT)
  | [], _ => .nil
  | p :: ks, h => .cons (.tup (h p List.mem_cons_self) (.cons (.int _) (.cons (.str _) .nil))) (prs_of fun q hq => h q (List.mem_cons_of_mem _ hq))
/-- sorted(set(e)), e a list of pairs -/
theorem eo_sortSet {p p2 q pos : Pos} (hc : X.calm = true) (hu : X.A.units + 64 < cLine) (hg : Gl X "sorted") (hm : X.mg "sorted" = none) (hg2 : Gl X "set") (hm2 : X.mg "set" = none)
    (h : EE X B M Δ a fun t Δ1 => ∃ qs : List (Int × Str), t = .lst (qs.map prT) ∧ qs.length ≤ 75 ∧ ∀ rs : List (Int × Str), (∀ q, q ∈ rs ↔ q ∈ qs) → rs.Pairwise pLt → Φ (.lst (rs.map prT)) Δ1)
    (na : starEach [a] X.env = (false, eval a X.env) :: starEach [] X.env := by rfl) : EO X B M Δ (.Call (.Name "sorted" p) [.Call (.Name "set" p2) [a] [] q] [] pos) Φ := fun σ H S Q k =>
  PE.to (pe_sortSet hc hu hg hm hg2 hm2 pe_self na) (h σ H S _ fun t Δ1 v H1 qq f S1 d => by
    obtain ⟨qs, rfl, few, q1⟩ := qq
    cases d with
    | lst g1 g2 =>
      obtain ⟨ks, rfl, e2, e3⟩ := of_prs g2
      have elen : ks.length = qs.length := by rw [← e2, List.length_map]
      refine ⟨_, ks, rfl, sub_seqL mi_sub g1, fun p hp => sub_seqT mi_sub (e3 p hp), by rw [elen]; exact few, fun L' l h1 h2 h3 hl => ?_⟩
      have s : Same H1 (upd H1 l (.lst (L'.map fun q => V.ref q.1))) := fun b o z => by
        rw [upd_ne (ne_of_none z hl)]
        exact z
      have ow : Ow X.K (mi M.m H1) (upd H1 l (.lst (L'.map fun q => V.ref q.1))) l (.lst ((L'.map Prod.snd).map prT)) := ⟨_, upd_same, prs_of fun p hp => e3 p (h1 p hp)⟩
      obtain ⟨a1, a2, a3⟩ := S1.newOwn hl s ow
      refine k _ Δ1 l _ (q1 (L'.map Prod.snd) (fun q => ⟨fun hq => ?_, fun hq => ?_⟩) h3) (f.trans (Fe.same s)) (f.free (fun b z => S1.al b (S1.wm b z)) hl) a1 a2 a3
      · obtain ⟨p, hp, rfl⟩ := List.mem_map.mp hq
        rw [← e2]
        exact List.mem_map.mpr ⟨p, h1 p hp, rfl⟩
      · rw [← e2] at hq
        obtain ⟨p, hp, rfl⟩ := List.mem_map.mp hq
        exact h2 p hp)
end
end Wf

set_option Elab.async false
set_option linter.all false
set_option maxRecDepth 100000
set_option maxHeartbeats 2000000
namespace Wf
open PySem PySem.Spec PyProof.Rows L2 LamX
/-! ### dicts of texts, each with the value True -/
def addW (ws : List Str) (w : Str) : List Str := if w ∈ ws then ws else ws ++ [w]
def kvT (ws : List Str) : List (Key × V) := ws.map fun w => (.inr w, .bl true)
def kT (ws : List Str) : Tr := .dct (ws.map fun w => (.inr w, .bl true))
theorem put_kvT (ws : List Str) (w : Str) : putK (kvT ws) (.inr w) (.bl true) = kvT (addW ws w) := by
  unfold putK kvT addW
  have e : ((ws.map fun w => ((.inr w : Key), V.bl true)).any fun kv => decide (kv.1 = .inr w)) = decide (w ∈ ws) := by
    rw [List.any_map]
    induction ws with
    | nil => rfl
    | cons x ws ih =>
      rw [List.any_cons, ih]
      show (decide ((.inr x : Key) = .inr w) || decide (w ∈ ws)) = decide (w ∈ x :: ws)
      by_cases h : x = w
      · subst h; simp
      · have h' : ¬ w = x := fun z => h z.symm
        simp [h, h']
  rw [e]
  by_cases h : w ∈ ws
  · rw [decide_eq_true h, if_pos rfl, if_pos h, List.map_map]
    refine List.map_congr_left fun x hx => ?_
    show (if (.inr x : Key) = .inr w then ((.inr x : Key), V.bl true) else ((.inr x : Key), V.bl true)) = _
    split <;> rfl
  · rw [decide_eq_false h, if_neg Bool.false_ne_true, if_neg h, List.map_append]
    rfl
theorem addW_len (ws : List Str) (w : Str) : (addW ws w).length ≤ ws.length + 1 := by
  unfold addW
  split
  · omega
  · rw [List.length_append]; exact Nat.le_refl _
theorem dkv_kvT {K : PySem.W.Frag} {I : Hp} : ∀ (ws : List Str), Dkv K I (kvT ws) (ws.map fun w => (.inr w, .bl true))
  | [] => .nil
  | _ :: ws => .cons (.bl _) (dkv_kvT ws)
theorem of_kvT {K : PySem.W.Frag} {I : Hp} : ∀ {ws : List Str} {kvs : List (Key × V)}, Dkv K I kvs (ws.map fun w => (.inr w, .bl true)) → kvs = kvT ws
  | [], _, .nil => rfl
  | w :: ws, _, .cons d r => by
    cases d
    rw [of_kvT r]
    rfl
theorem kvT_len (ws : List Str) : (kvT ws).length = ws.length := by unfold kvT; rw [List.length_map]
theorem dc_it {K : PySem.W.Frag} {J : It} {n : Nat} {G : Hp → Prop} {Y : Nat → Hp → V → Hp → Prop} (w : Walk J n G Y) {g : TG} {tt : TT} {tk tv : TE} {vs : List Nat} {σ : L2.St} {H1 : Hp} {D : Addr} {Qd : Hp → Prop} (Pv : Nat → Hp → Prop) (h0 : Pv 0 (upd H1 D (.dK []))) (hG : ∀ i H, i ≤ n → Pv i H → G H)
    (hs : ∀ i x H H', i < n → Pv i H → Y i H x H' → g x (wipe σ vs) H' fun σ2 H2 => wipe σ2 vs = wipe σ vs ∧ tt σ2 H2 fun b H3 =>
      if b = true then tk σ2 H3 fun y H4 => tv σ2 H4 fun z H5 => ∃ kvs k, y = kV k ∧ H5 D = some (.dK kvs) ∧ kvs.length < sizeLine ∧ Pv (i + 1) (upd H5 D (.dK (putK kvs k z))) else Pv (i + 1) H3) (hd : ∀ H, Pv n H → Qd H) :
    ∃ W : Nat → Nat → Hp → Prop, (∃ m, W 0 m (upd H1 D (.dK []))) ∧ ∀ i m H, W i m H →
      (J.stop i H ∧ Qd H) ∨ (J.go i H ∧ ∃ Nx : Hp → Prop, (∀ H', Nx H' → ∃ m', m' < m ∧ W (i + 1) m' H') ∧ ∀ x H', J.yld i H x H' → g x (wipe σ vs) H' fun σ2 H2 => wipe σ2 vs = wipe σ vs ∧ tt σ2 H2 fun b H3 =>
        if b = true then tk σ2 H3 fun y H4 => tv σ2 H4 fun z H5 => ∃ kvs k, y = kV k ∧ H5 D = some (.dK kvs) ∧ kvs.length < sizeLine ∧ Nx (upd H5 D (.dK (putK kvs k z))) else Nx H3) := by
  refine ⟨fun i m H => m = n - i ∧ i ≤ n ∧ Pv i H, ⟨n, by simp, Nat.zero_le _, h0⟩, ?_⟩
  rintro i m H ⟨rfl, hi, p⟩
  by_cases lt : i < n
  · exact .inr ⟨w.goes i H lt (hG i H hi p), Pv (i + 1), fun H' p' => ⟨n - (i + 1), by omega, rfl, lt, p'⟩, fun x H' y => hs i x H H' lt p (w.yields i H x H' lt (hG i H hi p) y)⟩
  · obtain rfl : i = n := by omega
    exact .inl ⟨w.stops H (hG i H hi p), hd H p⟩
section
variable {X : Cx} {B : Bs} {M : Pl} {Δ : List En} {tg iter kx e e1 rhs : Expr} {Φ : Tr → List En → Prop} {scope : Scope} {pos : Pos} {Ψ : Eo}
/-- {k: True for tg in iter} -/
theorem eo_dcT (T : Tg) {own : List (Str × Nat)} {j : Nat} {vp : Pos} (hc : X.calm = true) (hN : X.N.Nodup) (hT : T.vs.Nodup) (ho : own.map (·.2) = T.vs) (ok : BlkOk X.N X.env.scope scope own)
    (hg : ∀ (s : Shared) (H : Hp) (C : Addr) (cl : List (Str × Addr)) (fp : List Addr), PG (X.blk s H scope (compEnvC scope cl C X.env) fp) tg (T.g X.K))
    (h : EI X B M Δ tg iter fun n f Δ1 => ∃ kf : Nat → Str, n < sizeLine ∧ (∀ i D, i < n → T.ok (f i) ∧ ∀ (s : Shared) (H : Hp) (C : Addr) (cl : List (Str × Addr)) (fp : List Addr), EE (X.blk s H scope (compEnvC scope cl C X.env) fp) B (ins M D) (T.set (wipeE Δ1 T.vs) (f i)) kx fun t Δ3 =>
        t = .str (kf i) ∧ wipeE Δ3 T.vs = wipeE Δ1 T.vs) ∧ Φ (kT (((List.range n).map kf).foldl addW [])) (wipeE Δ1 T.vs))
    (hs : ∀ x, foldedSetIterable iter X.env x = pure x := by intro _; rfl) : EO X B M Δ (.DictComp kx (.Constant (.bool true) j vp) [⟨tg, iter, [], 0⟩] scope pos) Φ := fun σ H S Q k => by
  obtain ⟨wi, hi, kk⟩ := h
  refine PE.to (pe_dc (tk := blkTE X scope kx) (tv := tC (.bl true)) (tt := fun σ H Q => Q true H) hc hN hi ok hg (fun s H C cl fp => pts_nil) (fun s H C cl fp => ⟨fun pins s' σ' H' Q' I hh => hh s H C cl fp pins s' I⟩) (fun s H C cl fp => pe_bl) hs) ?_
  rw [ho]
  refine kk σ H S _ fun n f Δ1 J G Y H1 q fe S1 w hG hY => ?_
  intro D hD
  obtain ⟨kf, hn, jt, jd⟩ := q
  have nM := S1.notM hD
  have nw : ¬ M.w D := fun z => nM (S1.wm D z)
  have sm0 := same_new (o := .dK []) hD
  obtain ⟨S2, hn2, ow2⟩ := S1.newOwn (t := .dct []) hD sm0 ⟨[], upd_same, .nil⟩
  have s02 : Sub (mi M.m H1) (mi (ins M D).m (upd H1 D (.dK []))) := mi_new hD S1 (Fe.same sm0)
  have fr0 : Fe M.w H1 (upd H1 D (.dK [])) := Fe.same sm0
  have wpD : ∀ e ∈ wipeE Δ1 T.vs, ¬ e.has D := fun e he z => by
    obtain ⟨e0, h1, h2⟩ := wipeE_adr he z
    exact hn2 e0 h1 h2
  have ws_len : ∀ i, (((List.range i).map kf).foldl addW []).length ≤ i := by
    intro i
    induction i with
    | zero => exact Nat.le_refl _
    | succ i ih =>
      rw [List.range_succ, List.map_append, List.foldl_append]
      have := addW_len (((List.range i).map kf).foldl addW []) (kf i)
      show (addW _ _).length ≤ _
      omega
  refine dc_it (K := X.K) (g := T.g X.K) (tt := fun σ H Q => Q true H) (tk := blkTE X scope kx) (tv := tC (.bl true)) (vs := T.vs) (σ := σ) (H1 := H1) (D := D) (Qd := fun H => Q (.ref D) H) w (fun i H' => Fe M.w H1 H' ∧ Sub (mi M.m H1) (mi (ins M D).m H') ∧ Sk X.K B (ins M D) H' (L2.wipe σ T.vs) (wipeE Δ1 T.vs) ∧ H' D = some (.dK (kvT (((List.range i).map kf).foldl addW []))))
    ⟨fr0, s02, S2.wipe T.vs, upd_same⟩ (fun i H' _ ⟨_, s, _, _⟩ => hG _ H' s) ?_ fun H' ⟨fe', s, S', hx⟩ => ?_
  · rintro i x Ha Hb hi ⟨fe', s, S', hx⟩ y
    obtain ⟨sm, d⟩ := hY i x Ha Hb (ins M D).m hi y s fun p hp => S'.notM hp
    obtain ⟨okT, hb⟩ := jt i D hi
    have Sb := S'.same sm
    have sab : Sub (mi M.m H1) (mi (ins M D).m Hb) := s.trans (Sub.of sm).mi
    refine tg_run T Sb d okT _ fun vs St => ⟨wipe_put T vs hT, ?_⟩
    show (if (true : Bool) = true then _ else _)
    rw [if_pos rfl]
    intro s0 H0 C cl fp
    refine hb s0 H0 C cl fp _ Hb St _ fun t Δ3 v H3 q3 f3 St3 d3 => ?_
    obtain ⟨rfl, q3⟩ := q3
    cases d3
    have hx3 : H3 D = some (.dK (kvT (((List.range i).map kf).foldl addW []))) := f3.k D _ nw nt_dK (sm D _ hx)
    refine ⟨_, .inr (kf i), rfl, hx3, by rw [kvT_len]; have := ws_len i; omega, ?_⟩
    rw [put_kvT]
    have eW : addW (((List.range i).map kf).foldl addW []) (kf i) = ((List.range (i + 1)).map kf).foldl addW [] := by
      rw [List.range_succ, List.map_append, List.foldl_append]
      rfl
    rw [eW]
    have S4 : Sk X.K B (ins M D) H3 (L2.wipe σ T.vs) (wipeE Δ3 T.vs) := by
      have := St3.wipe T.vs
      rwa [wipe_put T vs hT] at this
    rw [q3] at S4
    refine ⟨⟨fun b o p n z => ?_, fun b ps z => ?_⟩, (sab.trans (St.sub f3)).trans (mi_write (.inr rfl)), ?_, upd_same⟩
    · have hb : b ≠ D := fun e => by rw [e, hD] at z; cases z
      rw [upd_ne hb]; exact ((fe'.trans (Fe.same sm)).trans f3).k b o p n z
    · have hb : b ≠ D := fun e => by rw [e, hD] at z; cases z
      obtain ⟨qs, e⟩ := ((fe'.trans (Fe.same sm)).trans f3).t b ps z
      exact ⟨qs, by rw [upd_ne hb]; exact e⟩
    · have kd := kind_ne (H := H3) (l := D) (.inr (.inl ⟨_, hx3⟩))
      have h0D : B.H0 D = none := S1.new0 hD
      have sw : Sub (mi (ins M D).m H3) (mi (ins M D).m (upd H3 D (.dK (kvT (((List.range (i + 1)).map kf).foldl addW []))))) := mi_write (.inr rfl)
      refine { len := S4.len, al := fun b z => ?_, wm := S4.wm, m0 := S4.m0, pm := S4.pm, own := S4.own, wp := S4.wp, fr := ⟨fun b u p n e => ?_, fun b ps e => ?_⟩, tb := tabs_upd S4.tb kd.1 kd.2, dis := S4.dis, sl := fun j e q => ?_ }
      · by_cases hb : b = D
        · exact ⟨_, by rw [hb, upd_same]⟩
        · obtain ⟨u, e⟩ := S4.al b z
          exact ⟨u, by rw [upd_ne hb]; exact e⟩
      · have hb : b ≠ D := fun z => by rw [z, h0D] at e; cases e
        rw [upd_ne hb]; exact S4.fr.k b u p n e
      · have hb : b ≠ D := fun z => by rw [z, h0D] at e; cases e
        obtain ⟨qs, e'⟩ := S4.fr.t b ps e
        exact ⟨qs, by rw [upd_ne hb]; exact e'⟩
      · obtain ⟨u, e1, e2⟩ := S4.sl j e q
        exact ⟨u, e1, e2.mono (fun _ z => z) (fun _ => Iff.rfl) sw fun l' z o' _ y => by rw [upd_ne (fun w => wpD e (List.mem_of_getElem? q) (by rw [← w]; exact z))]; exact y⟩
  · refine k (kT (((List.range n).map kf).foldl addW [])) (wipeE Δ1 T.vs) D H' jd (fe.trans fe') (fe.free (fun b z => S1.al b (S1.wm b z)) hD) ?_ wpD ⟨_, hx, dkv_kvT _⟩
    refine { len := by rw [← S'.len, wipe_length], al := S'.al, wm := S'.wm, m0 := S'.m0, pm := S'.pm, own := S'.own, wp := S'.wp, fr := S'.fr, tb := S'.tb, dis := S'.dis, sl := fun j' e q => ?_ }
    obtain ⟨o, e1, e2⟩ := S'.sl j' e q
    by_cases hj : j' ∈ T.vs
    · rw [wipeE_any hj q]
      have hl : j' < σ.length := by
        rw [← wipe_length σ T.vs]; exact (List.getElem?_eq_some_iff.mp e1).1
      exact ⟨σ[j'], by simp [hl], by cases σ[j'] <;> exact True.intro⟩
    · rw [wipe_get hj] at e1
      exact ⟨o, e1, e2⟩
/-- {k: True} -/
theorem eo_d1 {j1 j2 : Nat} {p1 p2 p3 : Pos} {x : Str} (q : Φ (kT [x]) Δ) : EO X B M Δ (.Dict [some (.Constant (.str x) j1 p1)] [.Constant (.bool true) j2 p2] p3) Φ := fun σ H S Q kk =>
  PE.to (pe_disp (pps_cons pe_str pe_bl pps_nil) rfl rfl (by simp) (by simp)) fun a ha => by
    refine ⟨upd_same, [(.inr x, .bl true)], rfl, by simp, ?_⟩
    have eH : upd (upd H a (.dK [])) a (.dK (mergeK [] [(.inr x, .bl true)])) = upd H a (.dK [(.inr x, .bl true)]) := funext fun b => by
      by_cases hb : b = a
      · rw [hb, upd_same, upd_same]
        rfl
      · rw [upd_ne hb, upd_ne hb, upd_ne hb]
    rw [eH]
    have s1 := same_new (o := .dK [(.inr x, .bl true)]) ha
    obtain ⟨a1, a2, a3⟩ := S.newOwn (t := kT [x]) ha s1 ⟨_, upd_same, dkv_kvT [x]⟩
    exact kk _ Δ a _ q (Fe.same s1) ha a1 a2 a3
/-- x[e1] = True, x an owned dict of texts -/
theorem s_putT (i : Nat) {y : Str} {py p0 p1 pos : Pos} {j : Nat} {l : Addr} {ws0 : List Str} (hu : X.A.units + 1 < cLine) (hN : X.N[i]? = some y) (hi : Δ[i]? = some (.own l (kT ws0)))
    (h : EE X B M Δ e1 fun t Δ1 => ∃ (w : Str) (ws : List Str), t = .str w ∧ Δ1[i]? = some (.own l (kT ws)) ∧ ws.length < sizeLine ∧ Ψ.nx M (Δ1.set i (.own l (kT (addW ws w)))))
    (hs : swapsWith (.Constant (.bool true) j p1) (some (.Subscript (.Name y py) e1 p0)) pos.line X.env = pure false := by rfl) (hd : (y == ("__debug__" : Str)) = false := by decide) (hcd : (y == ("__classdict__" : Str)) = false := by decide) (hv : Vis X.env.scope y := by first | exact Or.inl rfl | exact Or.inr (Or.inl rfl) | exact Or.inr (Or.inr rfl)) :
    S1 X B M Δ (.Assign [.Subscript (.Name y py) e1 p0] (.Constant (.bool true) j p1) pos) Ψ := fun σ H S D p => by
  obtain ⟨h1, _⟩ := S.ownAt hi
  refine PS.to (ps_dput hu (pe_var (i := i) hN hv hd hcd) pe_self pe_bl hs) ⟨_, h1, h σ H S _ fun t Δ1 v H1 q fe S1 d => ?_⟩
  obtain ⟨w, ws, rfl, q1, q2, q3⟩ := q
  cases d
  obtain ⟨_, m1, m2, m3, kvs, e1, e2⟩ := S1.ownAt q1
  obtain rfl := of_kvT e2
  have g := DPut.k (k := .inr w) (v := .bl true) e1 (by rw [kvT_len]; exact q2)
  rw [put_kvT] at g
  have sw : Sub (mi M.m H1) (mi M.m (upd H1 l (.dK (kvT (addW ws w))))) := mi_write m1
  obtain ⟨S2, s2⟩ := S1.writeAt (o := .dK (kvT (addW ws w))) (e2 := .own l (kT (addW ws w))) q1 rfl m1 m2 (.inr (.inl ⟨_, e1⟩)) (fun z hz j' f' hj' hf' fz => hj' (S1.dis j' i f' _ z hf' q1 fz hz)) fun v' hv' => by
    obtain ⟨x1, x2, x3, x4, x5⟩ := hv'
    exact ⟨x1, x2, x3, x4, _, upd_same, dkv_kvT _⟩
  exact ⟨l, _, rfl, g, p.nx M _ σ _ q3 ((S.sub fe).trans s2) S2⟩
end
end Wf

set_option Elab.async false
set_option linter.all false
set_option maxRecDepth 100000
set_option maxHeartbeats 2000000
namespace Wf
open PySem PySem.Spec PyProof.Rows L2 LamX
open PySem.W (EachIs AllAlike Sortable dataLe KeyPure copyHeap)
/-! ### sorted(d, key=f), d a dict of texts -/
section
variable {prog : Program} {w : World} {A : Around} {E : Value → Shared → Prop} {s : Shared} {β : Type} {R : Value → β → Prop}
theorem sorted_cl {r : Addr} {bs : List β} {f : Value} {kw : List (Str × Value)} {Q : Value → Shared → Prop} (k : β → PyData)
    (col : ∀ {A' : Around} {R' : List Value → Shared → Prop} {E' : Value → Shared → Prop}, A'.handled = A.handled → (∀ (h' : Heap) (tk : Nat) (vs : List Value), (∀ b o, s.heap.get? b = some o → h'.get? b = some o) → EachIs R vs bs → R' vs { s with heap := h', toks := tk }) → wpAny (model prog w) A' (collect (.ref r)) R' E' s)
    (hal : AllAlike (bs.map k)) (hk : Sortable (bs.map k)) (hL : bs.length ≤ sizeLine)
    (hu : ∀ x, x ∈ bs → A.units + 2 + (k x).depth < cLine) (ha1 : argsOk "sorted" ⟨[.ref r], kw⟩) (ha2 : ∀ x, argsOk "list.sort" ⟨[.ref x], kw⟩) (ht : ∀ x, Builtin.«list.sort» ⟨[.ref x], kw⟩ = ksk_tree x f false)
    (turn : ∀ (v : Value) (x : β), R v x → x ∈ bs → ∀ (h : Heap) (tk : Nat), (∀ b o, s.heap.get? b = some o → h.get? b = some o) → wpAny (model prog w) A.in1.in1 (call f [v]) (KeyPure (k x) { s with heap := h, toks := tk }) (fun _ _ => False) { s with heap := h, toks := tk })
    (h : ∀ p out c h' tk, s.heap.get? p = none → (∀ b o, s.heap.get? b = some o → h'.get? b = some o) → h'.get? p = some (seqObj "list" (List.toArray out) c) → out.length = bs.length → EachIs R out (bs.mergeSort (dataLe false k)) → Q (.ref p) { s with heap := h', toks := tk }) :
    wpAny (model prog w) A (call (.builtin "sorted") [.ref r] kw) Q E s := by
  refine call_function_entry_kw kind_sorted plain_sorted entry_sorted ha1 ?_
  unfold Builtin.«sorted»
  refine wpAny_bind (m := checkCount "sorted" 1 1 _) (wpAny_pure (wpAny_bind (col rfl fun h1 tk1 vs kp1 e => wpAny_bind (wpAny_newList ?_ (by rw [e.length]; exact hL)))))
  have hz : vs.length ≤ sizeLine := by rw [e.length]; exact hL
  have np : s.heap.get? h1.objs.size = none := by
    cases e : s.heap.get? h1.objs.size with
    | none => rfl
    | some o => exact absurd (Heap.lt_size (kp1 _ o e)) (Nat.lt_irrefl _)
  have hoL : (h1.push (seqObj "list" vs.toArray 0)).get? h1.objs.size = some (seqObj "list" vs.toArray 0) := Heap.get?_push_size _ rfl
  have up : ∀ {g : Heap}, PySem.W.KeepsBut h1.objs.size (h1.push (seqObj "list" vs.toArray 0)) g → ∀ b o, s.heap.get? b = some o → g.get? b = some o := fun {g} kp b o q =>
    kp b o (Nat.ne_of_lt (Heap.lt_size (kp1 b o q))) (Heap.get?_push_of_some _ (kp1 b o q))
  refine wpAny_bind (wpAny_holding (wpAny_call_entry_kw slot_list_sort ⟨_, hoL, rfl⟩ entry_list_sort ?_ (ha2 _)))
  rw [ht]
  refine PySem.W.keyH_tree (kz := bs.map k) (s := { s with heap := h1.push (seqObj "list" vs.toArray 0), toks := tk1 }) hoL (by rw [List.length_map, e.length]) hz hal hk (fun d hd => ?_)
    (PySem.W.keyH_turns (s := { s with heap := h1.push (seqObj "list" vs.toArray 0), toks := tk1 }) e fun v x hR hx h tk kp => turn v x hR hx h tk (up kp)) fun h' tk out c kp hD ko => ⟨Value.none, rfl, wpAny_pure ⟨_, rfl, ?_⟩⟩
  · obtain ⟨x, hx, rfl⟩ := List.mem_map.mp hd
    exact hu x hx
  · exact h _ out c h' tk np (up kp) hD ((ko.length (by rw [List.length_map, e.length])).trans e.length) (PySem.W.keyedOut_each k ko e)
end
section
variable {X : Cx} {B : Bs} {M : Pl} {Δ : List En} {e : Expr} {Φ : Tr → List En → Prop}
theorem keys_each {P : Program} {w : World} : ∀ {ws : List Str} {vs : List (Key × Value)} {ens : List DictEntry}, KV (kvT ws) vs → Pairs (mixKind P w) ens vs → EachIs (fun u x => ∃ t, u = Value.str x t) (ens.map (·.key)) ws
  | [], _, _, r, g => by
    cases r
    cases g
    exact .nil
  | x :: ws, _, _, r, g => by
    cases r with
    | cons hr tr =>
      cases g with
      | cons g1 g2 tg =>
        refine .cons ?_ (keys_each tr tg)
        obtain ⟨e1, _⟩ := hr
        have g1 : keyIs (.inr x) _ = true := e1 ▸ g1
        rcases keyIs_shape g1 with ⟨_, _, e, _⟩ | ⟨y, t, e, e2⟩
        · cases e
        · cases e
          exact ⟨t, e2⟩
/-- sorted(d, key=lambda word: (len(word), word)) -/
theorem eo_sortedKeyD {k : Nat} {c P : Addr} {q : Str} {p kp lpos pos p1 p2 p3 p4 p5 : Pos} {j : Nat} {params : Arguments} (hg : Gl X "sorted") (hm : X.mg "sorted" = none) (hml : X.mg "len" = none) (TB : TabB X.base X.mg c P) (hcode : X.env.code = .ref c)
    (hq : X.env.qual ++ "<lambda>" = q) (hmT : (P, q) ∈ B.T) (hu : ∀ p ∈ B.T, p.1 = P → p.2 = q) (hc : X.calm = true) (hr : Room (k + 2) X.A) (hcl : cloFrom X.env.cells lamSc.names [] = [])
    (hbind : ∀ (pm cv ctv v : Value), bindArgs (PySem.W.kla_fn "<lambda>" q params (lamBd p1 p2 p3 p4 p5 j) lamSc [] pm cv ctv) ⟨[v], []⟩ = pure [(("word" : Str), v)])
    (h : EA X B M Δ [e] fun ts Δ1 => ∃ ws : List Str, ts = [kT ws] ∧ (∀ w ∈ ws, w.length ≤ sizeLine) ∧ Φ (.lst ((ws.mergeSort (dataLe false wkey)).map Tr.str)) Δ1)
    (hdef : defaultsOf params X.env = ([], []) := by rfl)
    (he : backTo pos (starEach [e] X.env) = (false, eval e X.env) :: backTo pos (starEach [] X.env) := by rfl) (hpl : (backTo pos (starEach [e] X.env)).any (·.1) = false := by rfl) :
    EO X B M Δ (.Call (.Name "sorted" p) [e] [⟨some "key", .Lambda params (lamBd p1 p2 p3 p4 p5 j) lamSc lpos, kp⟩] pos) Φ := fun σ H S Q kk pins s I => by
  refine wpAny_Call_Name_kw (ld_blt (u := .builtin "sorted") I hg hm (by decide +kernel) ?_)
  refine PyProof.Rows.callWith_kw (thn (h σ H S (fun vs H1 => ∃ (Δ1 : List En) (a : Addr) (ws : List Str), vs = [V.ref a] ∧ Rd H1 a (.dK (kvT ws)) ∧ (∀ w ∈ ws, w.length ≤ sizeLine) ∧ Φ (.lst ((ws.mergeSort (dataLe false wkey)).map Tr.str)) Δ1 ∧ Fe M.w H H1 ∧ Sk X.K B M H1 σ Δ1) ?_ pos pins s I) fun us s1 hs => ?_) he hpl
  · rintro ts Δ1 vs H1 ⟨ws, rfl, hw, hp⟩ f S1 d
    cases d with
    | cons d1 d2 =>
      cases d2
      unfold kT at d1
      cases d1 with
      | dct g1 g2 =>
        obtain rfl := of_kvT g2
        exact ⟨Δ1, _, ws, rfl, sub_rdK mi_sub g1, hw, hp, f, S1⟩
  obtain ⟨vs, H1, I1, rv, Δ1, a, ws, rfl, hd, hw, hp, f, S1⟩ := hs
  obtain rfl := Vals.ref1 rv
  refine evalAll_cons (wpAny_bind (lam_mk (q := q) I1 TB hcode hq hmT hu S1.tb hdef (fun y hy z => ?_) hcl fun fa c' pm ctv H2 s2 I2 xt tk T2 hf hco => wpAny_bind (wpAny_standAt (wpAny_pure (evalAll_nil ?_)))))
  · exfalso
    rcases List.mem_cons.mp hy with rfl | hy
    · cases z
    · rcases List.mem_cons.mp hy with rfl | hy
      · cases z
      · exact absurd hy (by simp)
  have fe : Fe (fun _ => False) H1 H2 := ⟨fun b o _ n z => xt b o z n, tk⟩
  have S2 := S1.feGrow fe T2
  have hd2 : Rd H2 a (.dK (kvT ws)) := sub_rdK (fun b o n z => xt b o z n) hd
  obtain ⟨hz, hs, vs, rv2, o, ens, ep, g1, ex, g2, _, g3, _⟩ := dk_rd I2.hok hd2
  have ev := keys_each rv2 g3
  have hzl : ws.length ≤ sizeLine := by rw [kvT_len] at hz; exact hz
  have esz : ens.toList.length = ws.length := by
    have := ev.length
    rw [List.length_map] at this
    exact this
  obtain ⟨⟨oc, ovs, ot, o1, o2, o3⟩, _, _⟩ := I2.hok c' _ hco
  have un := hr.un
  obtain ⟨mb, b1, b2⟩ := I2.mod.blt
  show wpAny _ _ (call (.builtin "sorted") [.ref a] [(Str.ofString "key", .ref fa)]) _ _ s2
  refine sorted_cl wkey (R := fun u x => ∃ t, u = Value.str x t) (bs := ws) (fun {A' R' E'} hA hR => ?_) (alike_wkey ws) (Sortable.tuples fun _ => ⟨_, _, rfl⟩) hzl (fun x _ => by rw [dep_wkey]; omega) (PyProof.Rows.ksk_s1 _ _) (fun _ => PyProof.Rows.ksk_l1 _ _) (fun _ => PyProof.Rows.ksk_t1 _ _)
    (fun v x hv hx h tk kp => ?_) fun p' out cc h' tk hp' kp hD ho eo => ?_
  · refine PySem.W.kdu_collect (kdl_raw hs ex g2) (hA.trans (I2.ok.hd hc)) g1 (by
        rw [← Array.length_toList]
        omega) fun h' tk acc kp it => hR h' tk acc.toList kp ?_
    have ea : acc.toList = ens.toList.map (·.key) := by
      apply List.ext_getElem?
      intro j
      rw [List.getElem?_map]
      have hl : acc.toList.length = ens.toList.length := by rw [Array.length_toList, it.1, Array.length_toList]
      cases hj : acc.toList[j]? with
      | none =>
        have h1 := List.getElem?_eq_none_iff.mp hj
        rw [List.getElem?_eq_none (by omega)]
        rfl
      | some v =>
        obtain ⟨en, hen, hv⟩ := it.2 j v (by rw [← Array.getElem?_toList]; exact hj)
        rw [Array.getElem?_toList, hen, hv]
        rfl
    rw [ea]
    exact ev
  · obtain ⟨t, rfl⟩ := hv
    have kb : ∀ b o, X.base.get? b = some o → h.get? b = some o := fun b o z => kp b o (I2.bk b o z)
    exact lam_turn (s := { s2 with heap := h, toks := tk }) (mg := X.mg) (hr.in1).in1.depth (kp _ _ hf) ⟨c', oc, ovs, ot, rfl, kp _ _ o1, o2, o3⟩ (fun v => hbind _ _ _ _) (I2.mod.nolimit.keeps kb) (I2.mod.glob.keeps kb) hml ⟨mb, b1.keeps kb, b2 _ (by decide)⟩ (hw x hx)
  · have vv := strs_each eo
    have n2 : H2 p' = none := I2.hok.gone hp'
    have hl : ((ws.mergeSort (dataLe false wkey)).map V.str).length ≤ sizeLine := by
      rw [List.length_map, List.length_mergeSort]
      exact hzl
    obtain ⟨a1, a2, a3⟩ := S2.newOwn (t := .lst ((ws.mergeSort (dataLe false wkey)).map Tr.str)) n2 (same_new (o := .lst ((ws.mergeSort (dataLe false wkey)).map V.str)) n2) ⟨_, upd_same, dts_strs _⟩
    have fw : Fe M.w H H2 := f.trans (fe.imp fun _ _ _ z => z.elim)
    exact ⟨.ref _, upd H2 p' (.lst ((ws.mergeSort (dataLe false wkey)).map V.str)), I2.laidN (t' := tk) kp hp' n2 ⟨hl, out, cc, vv, hD⟩, rfl, kk _ Δ1 _ _ hp (fw.trans (Fe.same (same_new n2))) (fw.free (fun b z => S2.al b (S2.wm b z)) n2) a1 a2 a3⟩
end
end Wf

set_option Elab.async false
set_option linter.all false
set_option maxRecDepth 100000
set_option maxHeartbeats 2000000
namespace Wf
open PySem PySem.Spec PyProof.Rows L2 LamX
open PySem.W (dataLe)
/-! ### sets of words in word order -/
def wLt (a b : Str) : Prop := a.length < b.length ∨ (a.length = b.length ∧ a.cps.toList < b.cps.toList)
theorem natlist_trans {a b c : List Nat} (h : a < b) (g : b < c) : a < c := List.lt_trans h g
theorem natlist_irrefl {a : List Nat} : ¬ a < a := List.lt_irrefl a
theorem str_eq {x y : Str} (h : x.cps.toList = y.cps.toList) : x = y := by
  cases x; cases y
  congr 1
  exact Array.ext' h
theorem wLt_trans {a b c : Str} (h : wLt a b) (g : wLt b c) : wLt a c := by
  rcases h with h | ⟨h1, h2⟩
  · rcases g with g | ⟨g1, _⟩
    · exact .inl (by omega)
    · exact .inl (by omega)
  · rcases g with g | ⟨g1, g2⟩
    · exact .inl (by omega)
    · exact .inr ⟨by omega, natlist_trans h2 g2⟩
theorem wLt_irrefl {a : Str} : ¬ wLt a a := fun h => h.elim (fun h => Nat.lt_irrefl _ h) fun h => natlist_irrefl h.2
/-- words in strictly ascending order -/
def WOrd (ws : List Str) : Prop := ws.Pairwise wLt
theorem wOrd_nodup {ws : List Str} (h : WOrd ws) : ws.Nodup := List.Pairwise.imp (S := fun a b => a ≠ b) (fun {a b} (h : wLt a b) (e : a = b) => wLt_irrefl (a := b) (by rw [e] at h; exact h)) h
/-- the same words in order: the same list -/
theorem wOrd_unique : ∀ {as bs : List Str}, WOrd as → WOrd bs → (∀ w, w ∈ as ↔ w ∈ bs) → as = bs
  | [], [], _, _, _ => rfl
  | [], b :: bs, _, _, h => absurd ((h b).mpr List.mem_cons_self) (by simp)
  | a :: as, [], _, _, h => absurd ((h a).mp List.mem_cons_self) (by simp)
  | a :: as, b :: bs, ha, hb, h => by
    have ha' := List.pairwise_cons.mp ha
    have hb' := List.pairwise_cons.mp hb
    have e : a = b := by
      rcases List.mem_cons.mp ((h a).mp List.mem_cons_self) with e | h1
      · exact e
      · rcases List.mem_cons.mp ((h b).mpr List.mem_cons_self) with e | h2
        · exact e.symm
        · exact absurd (wLt_trans (hb'.1 a h1) (ha'.1 b h2)) wLt_irrefl
    subst e
    congr 1
    refine wOrd_unique ha'.2 hb'.2 fun w => ⟨fun hw => ?_, fun hw => ?_⟩
    · rcases List.mem_cons.mp ((h w).mp (List.mem_cons_of_mem _ hw)) with e | h1
      · exact absurd (ha'.1 w hw) (by rw [e]; exact wLt_irrefl)
      · exact h1
    · rcases List.mem_cons.mp ((h w).mpr (List.mem_cons_of_mem _ hw)) with e | h1
      · exact absurd (hb'.1 w hw) (by rw [e]; exact wLt_irrefl)
      · exact h1
/-! what sorted(.., key=(len, word)) leaves -/
theorem dLe_wkey {a b : Str} : dataLe false wkey a b = true ↔ ¬ wLt b a := by
  show (!PyProof.Rows.lexLt itemOrd (PySem.W.keyToks (wkey b)) (PySem.W.keyToks (wkey a))) = true ↔ _
  have e : ∀ x : Str, PySem.W.keyToks (wkey x) = [.inl 1, .inl (x.length : Int), .inl 1, .inr x.cps.toList, .inl 0] := fun x => by
    unfold wkey
    simp [PySem.W.keyToks, PySem.W.keyToksAll]
  rw [e, e]
  rw [Bool.not_eq_true']
  have key : PyProof.Rows.lexLt itemOrd [.inl 1, .inl (b.length : Int), .inl 1, .inr b.cps.toList, .inl 0] [.inl 1, .inl (a.length : Int), .inl 1, .inr a.cps.toList, .inl 0] = true ↔ wLt b a := by
    rw [lex_true, lex_true, lex_true, lex_true, lex_true]
    show decide ((1 : Int) < 1) = true ∨ (decide ((1 : Int) < 1) = false ∧ (decide ((b.length : Int) < a.length) = true ∨ (decide ((a.length : Int) < b.length) = false ∧ (decide ((1 : Int) < 1) = true ∨ (decide ((1 : Int) < 1) = false ∧
      (decide (b.cps.toList < a.cps.toList) = true ∨ (decide (a.cps.toList < b.cps.toList) = false ∧ (decide ((0 : Int) < 0) = true ∨ (decide ((0 : Int) < 0) = false ∧ lexLt itemOrd [] [] = true))))))))) ↔ _
    have h1 : decide ((1 : Int) < 1) = false := rfl
    have h0 : decide ((0 : Int) < 0) = false := rfl
    have h2 : lexLt itemOrd [] [] = false := rfl
    rw [h1, h0, h2]
    simp only [Bool.false_eq_true, false_or, true_and, and_false, or_false, decide_eq_true_eq, decide_eq_false_iff_not]
    unfold wLt
    constructor
    · rintro (h | ⟨h1, h2⟩)
      · exact .inl (by omega)
      · by_cases e : b.length < a.length
        · exact .inl e
        · exact .inr ⟨by omega, h2⟩
    · rintro (h | ⟨h1, h2⟩)
      · exact .inl (by omega)
      · exact .inr ⟨by omega, h2⟩
  rw [← key, Bool.not_eq_true]
theorem wLt_total {a b : Str} (h : ¬ wLt a b) (g : ¬ wLt b a) : a = b := by
  have e : a.length = b.length := by
    have h1 : ¬ a.length < b.length := fun z => h (.inl z)
    have h2 : ¬ b.length < a.length := fun z => g (.inl z)
    omega
  have h1 : ¬ a.cps.toList < b.cps.toList := fun z => h (.inr ⟨e, z⟩)
  have h2 : ¬ b.cps.toList < a.cps.toList := fun z => g (.inr ⟨e.symm, z⟩)
  exact str_eq (List.le_antisymm (List.not_lt.mp h2) (List.not_lt.mp h1))
/-- different words, sorted -/
theorem sort_wOrd {ws : List Str} (nd : ws.Nodup) : WOrd (ws.mergeSort (dataLe false wkey)) := by
  have p1 := PySem.W.sort_pairwise (PySem.W.sortLe_total (listOrd itemOrd) false fun b => PySem.W.keyToks (wkey b)) ws
  have nd2 : (ws.mergeSort (dataLe false wkey)).Nodup := (List.mergeSort_perm ws _).nodup_iff.mpr nd
  refine List.Pairwise.imp₂ ?_ p1 nd2
  intro a b h1 h2
  have h1 := dLe_wkey.mp h1
  by_cases e : wLt a b
  · exact e
  · exact absurd (wLt_total e h1) h2
theorem mem_sort {ws : List Str} {w : Str} : w ∈ ws.mergeSort (dataLe false wkey) ↔ w ∈ ws := (List.mergeSort_perm ws _).mem_iff
/-! the words of a dict -/
theorem addW_mem {ws : List Str} {w x : Str} : x ∈ addW ws w ↔ x ∈ ws ∨ x = w := by
  unfold addW
  split
  · rename_i h
    exact ⟨.inl, fun z => z.elim id fun e => by rw [e]; exact h⟩
  · rw [List.mem_append, List.mem_singleton]
theorem addW_nodup {ws : List Str} {w : Str} (h : ws.Nodup) : (addW ws w).Nodup := by
  unfold addW
  split
  · exact h
  · rename_i hn
    rw [List.nodup_append]
    refine ⟨h, by simp, fun a ha b hb => ?_⟩
    rw [List.mem_singleton.mp hb]
    rintro rfl
    exact hn ha
theorem foldW_mem : ∀ {l ws : List Str} {x : Str}, x ∈ l.foldl addW ws ↔ x ∈ ws ∨ x ∈ l
  | [], ws, x => by simp
  | w :: l, ws, x => by
    rw [List.foldl_cons, foldW_mem, addW_mem, List.mem_cons]
    constructor
    · rintro ((h | h) | h)
      · exact .inl h
      · exact .inr (.inl h)
      · exact .inr (.inr h)
    · rintro (h | h | h)
      · exact .inl (.inl h)
      · exact .inl (.inr h)
      · exact .inr h
theorem foldW_nodup : ∀ {l ws : List Str}, ws.Nodup → (l.foldl addW ws).Nodup
  | [], _, h => h
  | _ :: _, _, h => by
    rw [List.foldl_cons]
    exact foldW_nodup (addW_nodup h)
/-- the words of a list, each once, in word order -/
def wset (ws : List Str) : List Str := (ws.foldl addW []).mergeSort (dataLe false wkey)
theorem wset_ord (ws : List Str) : WOrd (wset ws) := sort_wOrd (foldW_nodup List.nodup_nil)
theorem wset_mem {ws : List Str} {w : Str} : w ∈ wset ws ↔ w ∈ ws := by
  unfold wset
  rw [mem_sort, foldW_mem]
  simp
theorem wset_eq {ws rs : List Str} (h : WOrd rs) (m : ∀ w, w ∈ rs ↔ w ∈ ws) : rs = wset ws := wOrd_unique h (wset_ord ws) fun w => (m w).trans wset_mem.symm
theorem wset_of {ws : List Str} (h : WOrd ws) : wset ws = ws := (wset_eq h fun _ => Iff.rfl).symm
theorem wset_congr {as bs : List Str} (h : ∀ w, w ∈ as ↔ w ∈ bs) : wset as = wset bs := wset_eq (wset_ord as) fun w => wset_mem.trans (h w)
theorem wset_len (ws : List Str) : (wset ws).length ≤ ws.length := by
  have key : ∀ (l acc : List Str), (l.foldl addW acc).length ≤ acc.length + l.length := by
    intro l
    induction l with
    | nil => exact fun acc => Nat.le_refl _
    | cons x l ih =>
      intro acc
      rw [List.foldl_cons, List.length_cons]
      have h1 := ih (addW acc x)
      have h2 := addW_len acc x
      omega
  unfold wset
  rw [List.length_mergeSort]
  have := key ws []
  simpa using this
/-- pairs (length, word) in order: their words in word order -/
theorem pairs_ord {rs : List (Int × Str)} (hl : ∀ q ∈ rs, q.1 = q.2.length) (h : rs.Pairwise pLt) : WOrd (rs.map Prod.snd) := by
  unfold WOrd
  rw [List.pairwise_map]
  refine List.Pairwise.imp_of_mem (fun {q r} hq hr hqr => ?_) h
  have e1 := hl q hq
  have e2 := hl r hr
  rcases pLt_iff.mp hqr with h1 | ⟨h1, h2⟩
  · exact .inl (by omega)
  · exact .inr ⟨by omega, h2⟩
end Wf

set_option Elab.async false
set_option linter.all false
set_option maxRecDepth 100000
set_option maxHeartbeats 2000000
namespace Wf
open PySem PySem.Spec PyProof.Rows L2 LamX
/-! ### defs that may raise, called where they don't -/
section
variable {P : Program} {w : World} {K : PySem.W.Frag} {mg : Str → Option Value} {base : Heap} {x : Str} {f C : Addr} {fd : FuncData} {ps : List Str} {k : Nat} {T : List (Addr × Str)} {pre : List Tr → Prop} {post : List Tr → Tr → Prop} {postI : List Tr → List (Str × Tr) → Prop} {xp : List Tr → XQ}
def noX (pre : List Tr → Prop) (xp : List Tr → XQ) (ts : List Tr) : Prop := pre ts ∧ ∀ C es, ¬ xp ts C es
theorem cr_calm {outer : List Env} {H : Hp} {s : Shared} {Q : VK} {E : XK} {r : Result} {s' : Shared} (h : CR (L2.CX P w) outer P w H s Q E0 r s') : CR CX0 outer P w H s Q E r s' := by
  cases r with
  | error e =>
    obtain ⟨a, B, H', cls, d, _, _, _, _, _, _, _, z⟩ := h
    exact z.elim
  | ok fl => cases fl <;> exact h
theorem fnOk_calm (F : FnOk P w K mg base (L2.CX P w) k f fd ps (spX K T pre post xp)) : FnOk P w K mg base CX0 k f fd ps (spF K T (noX pre xp) post) := by
  refine ⟨fun vs H Q E h => ?_, fun A outer s H args us vs Q E hr e0 hb r h => ?_⟩
  · obtain ⟨m, ts, d, ⟨hp, hx⟩, al, tb, q⟩ := h
    exact F.len vs H Q E0 ⟨m, ts, d, hp, al, tb, q, fun C d es H' z => absurd z (hx C es)⟩
  · obtain ⟨m, ts, d, ⟨hp, hx⟩, al, tb, q⟩ := h
    exact codeAny_mono (F.run A outer s H args us vs Q E0 hr e0 hb r ⟨m, ts, d, hp, al, tb, q, fun C d es H' z => absurd z (hx C es)⟩) fun _ _ z => cr_calm z
theorem fnOk_calmI (F : FnOk P w K mg base (L2.CX P w) k f fd ps (spIX K T C pre postI xp)) : FnOk P w K mg base CX0 k f fd ps (spI K T C (noX pre xp) postI) := by
  refine ⟨fun vs H Q E h => ?_, fun A outer s H args us vs Q E hr e0 hb r h => ?_⟩
  · obtain ⟨m, l, dx, vs', ts, e, n, hi, d, ⟨hp, hx⟩, al, tb, q⟩ := h
    exact F.len vs H Q E0 ⟨m, l, dx, vs', ts, e, n, hi, d, hp, al, tb, q, fun C d es H' z => absurd z (hx C es)⟩
  · obtain ⟨m, l, dx, vs', ts, e, n, hi, d, ⟨hp, hx⟩, al, tb, q⟩ := h
    exact codeAny_mono (F.run A outer s H args us vs Q E0 hr e0 hb r ⟨m, l, dx, vs', ts, e, n, hi, d, hp, al, tb, q, fun C d es H' z => absurd z (hx C es)⟩) fun _ _ z => cr_calm z
theorem FnX.calm (F : FnX P w K mg base x k ps (spX K T pre post xp)) : Fn P w K mg base x k ps (spF K T (noX pre xp) post) := by
  obtain ⟨f, fd, ok, h1, h2, h3⟩ := F.ex
  exact ⟨f, fd, fnOk_calm ok, h1, h2, h3⟩
theorem McX.calm (F : McX P w K mg base x C k ps (spIX K T C pre postI xp)) : Mc P w K mg base x C k ps (spI K T C (noX pre xp) postI) := by
  obtain ⟨f, fd, ok, h1, h2⟩ := F.ex
  exact ⟨F.cl, F.at_, f, fd, fnOk_calmI ok, h1, h2⟩
end
end Wf

set_option Elab.async false
set_option linter.all false
set_option maxRecDepth 100000
set_option maxHeartbeats 2000000
namespace Wf
open PySem PySem.Spec PyProof.Rows L2 LamX
/-! ### the program's own classes: isinstance, == by __eq__ -/
structure InsTy (K : PySem.W.Frag) (C : Addr) : Prop where
  cl : Cls K C
  ha : PySem.W.findIn K (.ref C) "__class__" = some (some (.builtin "object.__class__"))
  hn : PySem.W.specialIn K (.builtin "object.__class__") "__get__" = some (some (.builtin "getset_descriptor.__get__"))
  htk : PySem.W.takesIn K (.builtin "object.__class__") = some true
  hm : PySem.W.mroIn K C (.type "object") = some true
inductive Tr.ty (K : PySem.W.Frag) : Tr → Value → Prop
  | data {t : Tr} {n : String} : t.cls = some n → Tr.ty K t (.type n)
  | ins {C : Addr} {fs : List (Str × Tr)} : InsTy K C → Tr.ty K (.ins C fs) (.ref C)
theorem dt_ty {K : PySem.W.Frag} {I H : Hp} {v : V} {t : Tr} {u : Value} (s : Sub I H) (d : Dt K I v t) (h : t.ty K u) : TyX K H v u := by
  cases h with
  | data h => exact dt_tyx s d h
  | ins h =>
    cases d with
    | ins g _ => exact .base (.ins (s _ _ nt_ins g) h.cl h.ha h.hn h.htk h.hm)
section
variable {X : Cx} {B : Bs} {M : Pl} {Δ : List En} {e : Expr} {Γ : Bool → List En → Prop} {Φ : Tr → List En → Prop}
/-- isinstance(e, C), C a class of the module -/
theorem ee_isiC {y : Str} {C : Addr} {p p2 pos : Pos} (hg : Gl X "isinstance") (hm : X.mg "isinstance" = none) (hg2 : Gl X y) (hm2 : X.mg y = some (.ref C)) (hv : bootBuiltins "isinstance" = some (.builtin "isinstance"))
    (h : EE X B M Δ e fun t Δ1 => ∃ u b, t.ty X.K u ∧ PySem.W.kitOne X.K u (.ref C) = some b ∧ Φ (.bl b) Δ1)
    (hdb2 : (y == ("__debug__" : Str)) = false := by decide)
    (hs : starEach [e, .Name y p2] X.env = (false, eval e X.env) :: starEach [.Name y p2] X.env := by rfl) (hs2 : starEach [.Name y p2] X.env = (false, eval (.Name y p2) X.env) :: starEach [] X.env := by rfl)
    (hpl : (backTo pos (starEach [.Name y p2] X.env)).any (·.1) = false := by rfl) : EE X B M Δ (.Call (.Name "isinstance" p) [e, .Name y p2] [] pos) Φ := fun σ H S Q k =>
  PE.to (pe_callB (X := X) call_isi hg hm hv (pa_cons pe_self (pa_cons (pe_glob (v := .ref C) hg2 hm2 rfl hdb2) pa_nil hs2) hs) (by decide) (by decide) hs hpl) (h σ H S _ fun t Δ1 v H1 p f S1 d => by
    obtain ⟨u, b, h1, h2, q⟩ := p
    exact ⟨v, .ref C, u, .ref C, b, rfl, .own C, dt_ty mi_sub d h1, h2, k _ Δ1 _ H1 q f S1 (.bl b)⟩)
end
/-- C's __eq__ keeps sp -/
structure EqOwn (P : Program) (w : World) (K : PySem.W.Frag) (mg : Str → Option Value) (base : Heap) (C : Addr) (k : Nat) (sp : Sp) : Prop where
  ex : ∃ f fd ps, FnOk P w K mg base CX0 k f fd ps sp ∧ PySem.W.findIn K (.ref C) "__eq__" = some (some (.ref f)) ∧ PySem.W.isFn K (.ref f) = true ∧ Binds K fd ps []
def rEqO (K : PySem.W.Frag) (C : Addr) (sp : Sp) : R2 := fun x y H Q => ∃ a dx fs u, x = .ref a ∧ H a = some (.ins C dx fs) ∧ TyX K H y u ∧ PySem.W.notFirst K C u = true ∧ sp [x, y] H Q E0
theorem op_eqO {X : Cx} {C : Addr} {k : Nat} {sp : Sp} (F : EqOwn X.prog X.w X.K X.mg X.base C k sp) (hr : Room k X.A) : OpR X (compareOp .Eq) (rEqO X.K C sp) := by
  intro pins s σ H x y v u Q I rx ry h
  obtain ⟨a, dx, fs, tb, rfl, ha, ty, hn, q⟩ := h
  obtain ⟨f, fd, ps, ok, hs, hf, hb⟩ := F.ex
  cases (show v = Value.ref a from rx)
  obtain ⟨mA, J, _⟩ := ins_get I.hok ha
  obtain ⟨od, J, _⟩ := J.look
  obtain ⟨m, hF⟩ := I.fr
  obtain ⟨P, Z, p, hx⟩ := kit_of I ry ty
  show wpAny (model X.prog X.w) X.A (richCompare .Eq (.ref a) u) (EP X pins σ Q) X.xe s
  refine PySem.W.cmp_K (op := .Eq) (tb := tb) hr.units0 hF I.ok.mod.kin J (Z.ty _ _ I.kIn p) hn hs hf ?_
  have e0 : Env0 X.prog X.w X.K X.mg X.base X.A X.stack s H := I.env0
  have hl := ok.len _ _ _ _ q
  have r2 : Vals [V.ref a, y] [Value.ref a, u] := .cons rfl (.cons ry .nil)
  have call : wpAny (model X.prog X.w) X.A (PySem.call (.ref f) [.ref a, u]) (EP X pins σ Q) X.xe s := by
    refine wpAny_call (codeAny_mono (ok.run X.A X.stack s H ⟨[.ref a, u], []⟩ [.ref a, u] [.ref a, y] Q E0 hr e0 (by
      have := hb s [.ref a, u] I.kIn (by simpa using hl)
      simpa using this) r2 q) fun r s' hq => ?_)
    cases r with
    | error e => exact False.elim (by simpa [CR, CX0] using hq)
    | ok fl =>
      cases fl with
      | ret w =>
        obtain ⟨z, H', I', rz, qz⟩ := I.after hq
        exact ⟨z, H', I', rz, qz⟩
      | next => exact False.elim hq
      | brk => exact False.elim hq
      | cont => exact False.elim hq
  refine wpAny_mono call (fun w s' z => ?_) fun _ _ x => x
  obtain ⟨z', H', I', rz, qz⟩ := z
  exact SlX.cmpback rz ⟨z', H', I', rz, qz⟩
section
variable {X : Cx} {B : Bs} {M : Pl} {Γ : Bool → List En → Prop} {C : Addr} {k : Nat} {pre : List Tr → Prop} {post : List Tr → Tr → Prop}
theorem cd_eqOwn (F : EqOwn X.prog X.w X.K X.mg X.base C k (spF X.K B.T pre post)) (hr : Room k X.A) : CmpD X .Eq B M Γ fun x y Δ2 => ∃ fs u, x = .ins C fs ∧ y.ty X.K u ∧ PySem.W.notFirst X.K C u = true ∧ pre [x, y] ∧ ∀ t, post [x, y] t → ∃ b, t = .bl b ∧ Γ b Δ2 :=
  ⟨_, op_eqO F hr, fun x y Δ2 p σ H v w Q S d1 d2 kk => by
    obtain ⟨fs, u, rfl, hy, hn, hp, q⟩ := p
    have d1' := d1
    cases d1 with
    | ins h1 h2 =>
      refine ⟨_, _, _, u, rfl, mi_sub _ _ nt_ins h1, dt_ty mi_sub d2 hy, hn, M.m, [.ins C fs, y], .cons d1' (.cons d2 .nil), hp, S.al, S.tb, fun v t H' ho f2 tb dd => ?_⟩
      obtain ⟨b, rfl, qb⟩ := q t ho
      cases dd
      exact kk b Δ2 H' qb (f2.imp fun _ _ _ z => z.elim) (S.feGrow f2 tb)⟩
end
end Wf

set_option Elab.async false
set_option linter.all false
set_option maxRecDepth 100000
set_option maxHeartbeats 2000000
namespace Wf
open PySem PySem.Spec PyProof.Rows L2 LamX
/-! ### defs whose first argument is the pen and that give a new object, nobody else's -/
def spPO (K : PySem.W.Frag) (T : List (Addr × Str)) (pre : List Tr → Prop) (cost : List Tr → Nat) (post : List Tr → Tr → Prop) : Sp := fun vs H Q _ => ∃ (m : Addr → Prop) (p : Pn) (N : Nat) (vs' : List V) (ts : List Tr),
  vs = .ref p.l :: vs' ∧ m p.l ∧ PenAt K (mi m H) H p N ∧ N + cost ts ≤ penMax ∧ Dts K (mi m H) vs' ts ∧ pre ts ∧ (∀ b, m b → ∃ o, H b = some o) ∧ Tabs T H ∧
  ∀ l t H', post ts t → Fe (fun b => b = p.l) H H' → Tabs T H' → H l = none → PenAt K (mi (fun b => m b ∨ b = l) H') H' p (N + cost ts) → Ow K (mi (fun b => m b ∨ b = l) H') H' l t → Q (.ref l) H'
theorem Ow.there {K : PySem.W.Frag} {I H : Hp} {l : Addr} {t : Tr} (ow : Ow K I H l t) : ∃ o, H l = some o ∧ NT o := by
  cases t <;> first | exact ow.elim | skip
  · obtain ⟨xs, e, _⟩ := ow; exact ⟨_, e, nt_lst⟩
  · obtain ⟨xs, e, _⟩ := ow; exact ⟨_, e, nt_dK⟩
  · obtain ⟨_, xs, e, _⟩ := ow; exact ⟨_, e, nt_ins⟩
section
variable {P : Program} {w : World} {K : PySem.W.Frag} {mg : Str → Option Value} {base : Heap} {x qual : Str} {st : Stmt} {f : Addr} {fd : FuncData} {N ps : List Str} {k : Nat} {T : List (Addr × Str)} {pre : List Tr → Prop} {cost : List Tr → Nat} {post : List Tr → Tr → Prop}
theorem sk_pen0 {y : Str} {m : Addr → Prop} {H : Hp} {p : Pn} {c : Nat} {vs' : List V} {ts : List Tr} (hps : ps.length + 1 ≤ N.length) (hlen : ts.length = ps.length) (hm : m p.l) (pa : PenAt K (mi m H) H p c) (d : Dts K (mi m H) vs' ts) (al : ∀ b, m b → ∃ o, H b = some o) (tb : Tabs T H) :
    Sk K (bP T p H m) ⟨m, fun b => b = p.l⟩ H (L2.start N (.ref p.l :: vs')) (slots N (.pen p c :: ts.map En.dat)) := by
  refine sk_start (by simp; omega) (by simp [d.length]) rfl (fun _ => Iff.rfl) (fun _ => Iff.rfl) (fun _ z => by subst z; exact hm) al tb (fun i j e f l he hf el fl => ?_) fun i v e hv he => ?_
  · have key : ∀ (i : Nat) (e : En), (En.pen p c :: ts.map En.dat)[i]? = some e → e.has l → i = 0 := fun i e he el => by
      cases i with
      | zero => rfl
      | succ i =>
        rw [List.getElem?_cons_succ, List.getElem?_map] at he
        cases h : ts[i]? with
        | none => rw [h] at he; cases he
        | some t => rw [h] at he; cases he; cases el
    rw [key i e he el, key j f hf fl]
  · cases i with
    | zero => cases hv; cases he; exact ⟨rfl, rfl, pa⟩
    | succ i =>
      rw [List.getElem?_cons_succ] at hv he
      rw [List.getElem?_map] at he
      cases h : ts[i]? with
      | none => rw [h] at he; cases he
      | some t =>
        rw [h] at he; cases he
        obtain ⟨v', h1, h2⟩ := d.get h
        rw [hv] at h1; cases h1
        exact h2
theorem po_end {m : Addr → Prop} {H H' : Hp} {p : Pn} {c' n : Nat} {M' : Pl} {σ' : L2.St} {Δ' : List En} {l : Addr} {t : Tr} (z : Sk K (bP T p H m) M' H' σ' Δ') (hl : M'.m l) (h1 : c' ≤ n) (h2 : Δ'[0]? = some (.pen p c')) (ow : Ow K (mi M'.m H') H' l t) :
    PenAt K (mi (fun b => m b ∨ b = l) H') H' p n ∧ Ow K (mi (fun b => m b ∨ b = l) H') H' l t := by
  have sub : Sub (mi M'.m H') (mi (fun b => m b ∨ b = l) H') := mi_le fun b y => y.elim (z.m0 b) fun e => by rw [e]; exact hl
  exact ⟨((z.penAt h2).2.2.mono sub fun _ _ y => y).le h1, ow.mono sub fun _ _ y => y⟩
/-- .. return name, the name's object its own -/
theorem ok_PO {y : Str} (F : Fun K x qual st f fd) (S : FnScope N (y :: ps) (defScope st)) (hpre : ∀ ts, pre ts → ts.length = ps.length) (hps : ps.length + 1 ≤ N.length)
    (hb : ∀ (cdv : Value) (A : Around) (outer : List Env) (s : Shared) (H : Hp) (E : XK) (m : Addr → Prop) (p : Pn) (c : Nat) (ts : List Tr), Room k (A.deeper (envOfC qual (defScope st) s.heap.objs.size f cdv)) → pre ts → c + cost ts ≤ penMax →
      SS (cxOf CX0 P w K mg base N qual (defScope st) f cdv A outer s H E).nox (bP T p H m) ⟨m, fun b => b = p.l⟩ (slots N (.pen p c :: ts.map En.dat)) (defBody st) ⟨fun _ _ => False, fun t Δ' => ∃ (l : Addr) (i : Nat) (u : Tr), t = .opq (.ref l) ∧ Δ'[i]? = some (.own l u) ∧ post ts u ∧ ∃ c', c' ≤ c + cost ts ∧ Δ'[0]? = some (.pen p c'), fun _ _ => False, fun _ _ => False⟩) :
    FnOk P w K mg base CX0 (k + 1) f fd (y :: ps) (spPO K T pre cost post) := by
  refine F.ok S (fun vs H Q E h => ?_) (fun cdv A outer s H vs Q E hr h => ?_)
  · obtain ⟨m, p, c, vs', ts, rfl, _, _, _, d, hp, _⟩ := h
    rw [List.length_cons, List.length_cons, d.length, hpre ts hp]
  · obtain ⟨m, p, c, vs', ts, rfl, hm, pa, hc, d, hp, al, tb, q⟩ := h
    refine ⟨_, pss_self, hb cdv A outer s H E m p c ts hr hp hc _ H (sk_pen0 (y := y) hps (hpre ts hp) hm pa d al tb) _ ⟨fun _ _ _ _ z => z.elim, fun t M' Δ' v σ' H' a b z dd => ?_, fun _ _ _ _ z => z.elim, fun _ _ _ _ z => z.elim⟩⟩
    obtain ⟨l, i, u, rfl, e1, a1, c', a2, a3⟩ := a
    obtain ⟨_, o2, o3, o4, o5⟩ := z.ownAt e1
    cases dd
    obtain ⟨g1, g2⟩ := po_end z o2 a2 a3 o5
    exact q l u H' a1 z.fr z.tb ((z.own l o2).elim (fun h => absurd h o3) id) g1 g2
/-- return e, a new object -/
theorem ok_POr {y : Str} {cdv : Value} {e : Expr} {pos : Pos} (F : FunC K x qual st f fd cdv) (S : FnScope N (y :: ps) (defScope st)) (hpre : ∀ ts, pre ts → ts.length = ps.length) (hps : ps.length + 1 ≤ N.length) (hbody : defBody st = [.Return (some e) pos])
    (hb : ∀ (A : Around) (outer : List Env) (s : Shared) (H : Hp) (E : XK) (m : Addr → Prop) (p : Pn) (c : Nat) (ts : List Tr), Room k (A.deeper (envOfC qual (defScope st) s.heap.objs.size f cdv)) → pre ts → c + cost ts ≤ penMax →
      EO (cxOf CX0 P w K mg base N qual (defScope st) f cdv A outer s H E).nox (bP T p H m) ⟨m, fun b => b = p.l⟩ (slots N (.pen p c :: ts.map En.dat)) e fun t Δ' => post ts t ∧ ∃ c', c' ≤ c + cost ts ∧ Δ'[0]? = some (.pen p c')) :
    FnOk P w K mg base CX0 (k + 1) f fd (y :: ps) (spPO K T pre cost post) := by
  obtain ⟨oc, od, kV, doc, pm, an, ct, osl, rfl, lk, hcd⟩ := F.ex
  refine fn_of lk hcd S (fun vs H Q E h => ?_) (fun A outer s H vs Q E hr h => ?_)
  · obtain ⟨m, p, c, vs', ts, rfl, _, _, _, d, hp, _⟩ := h
    rw [List.length_cons, List.length_cons, d.length, hpre ts hp]
  · obtain ⟨m, p, c, vs', ts, rfl, hm, pa, hc, d, hp, al, tb, q⟩ := h
    refine ⟨_, PSs.nox (pss_self (X := (cxOf CX0 P w K mg base N qual (defScope st) f cdv A outer s H E).nox)), ?_⟩
    show WSs _ (defBody st) _ _ _
    rw [hbody]
    refine PSs.to (pss_one (ps_ret pe_self)) (hb A outer s H E m p c ts hr hp hc _ H (sk_pen0 (y := y) hps (hpre ts hp) hm pa d al tb) _ fun t Δ' l H' a fe hl S' hn ow => ?_)
    obtain ⟨a1, c', a2, a3⟩ := a
    obtain ⟨g1, g2⟩ := po_end S' (.inr rfl) a2 a3 ow
    exact q l t H' a1 S'.fr S'.tb hl g1 g2
end
section
variable {X : Cx} {B : Bs} {M : Pl} {Δ : List En} {es : List Expr} {e a b : Expr} {Ψ : Eo} {Φ : Tr → List En → Prop} {x : Str} {k : Nat} {ps : List Str} {pre : List Tr → Prop} {cost : List Tr → Nat} {post : List Tr → Tr → Prop}
theorem Sk.penGrabO {K : PySem.W.Frag} {H H' : Hp} {σ : L2.St} {i : Nat} {p : Pn} {c c' : Nat} {l : Addr} {t : Tr} (S : Sk K B M H σ Δ) (hi : Δ[i]? = some (.pen p c)) (f : Fe (fun b => b = p.l) H H') (tb : Tabs B.T H') (hl : H l = none) (pa : PenAt K (mi (fun b => M.m b ∨ b = l) H') H' p c') (ow : Ow K (mi (fun b => M.m b ∨ b = l) H') H' l t) :
    Sk K B (ins M l) H' σ (Δ.set i (.pen p c')) ∧ Fe M.w H H' ∧ ∀ e ∈ Δ.set i (.pen p c'), ¬ e.has l := by
  obtain ⟨o, eo, no⟩ := ow.there
  have same : Same H (upd H l o) := fun b o' z => by rw [upd_ne (ne_of_none z hl)]; exact z
  obtain ⟨S1, hn⟩ := S.grab (Fe.same same) (S.tb.ext same) hl ⟨o, upd_same⟩
  have f1 : Fe (fun b => b = p.l) (upd H l o) H' := by
    refine ⟨fun b o' n nt z => ?_, fun b qs z => ?_⟩
    · by_cases hb : b = l
      · subst hb
        rw [upd_same] at z
        cases z
        exact eo
      · rw [upd_ne hb] at z
        exact f.k b o' n nt z
    · by_cases hb : b = l
      · subst hb
        rw [upd_same] at z
        cases z
        exact absurd rfl (no qs)
      · rw [upd_ne hb] at z
        exact f.t b qs z
  obtain ⟨S2, _⟩ := S1.pen hi f1 tb pa
  obtain ⟨h1, h2, h3⟩ := S.penAt hi
  refine ⟨S2, f.imp fun b o _ z _ => by rw [z]; exact h2, fun e he z => ?_⟩
  rcases List.mem_or_eq_of_mem_set he with he | rfl
  · exact hn e he z
  · have : p.l = l := z
    exact S.notM hl (by rw [← this]; exact S.wm _ h2)
/-- f(pen, e, ..), its new object held -/
theorem eo_callP (i : Nat) {y : Str} {p py pos : Pos} {pn : Pn} {c0 : Nat} (hN : X.N[i]? = some y) (hi : Δ[i]? = some (.pen pn c0)) (F : Fn X.prog X.w X.K X.mg X.base x k ps (spPO X.K B.T pre cost post)) (hr : Room k X.A) (hg : Gl X x)
    (h : EA X B M Δ es fun ts Δ1 => ∃ c, Δ1[i]? = some (.pen pn c) ∧ pre ts ∧ c + cost ts ≤ penMax ∧ ∀ t, post ts t → Φ t (Δ1.set i (.pen pn (c + cost ts))))
    (hd : (y == ("__debug__" : Str)) = false := by decide) (hcd : (y == ("__classdict__" : Str)) = false := by decide)
    (hdb : (x == ("__debug__" : Str)) = false := by decide) (he : starEach (.Name y py :: es) X.env = (false, eval (.Name y py) X.env) :: starEach es X.env := by rfl) (hpl : (backTo pos (starEach es X.env)).any (·.1) = false := by rfl) (hv : Vis X.env.scope y := by first | exact Or.inl rfl | exact Or.inr (Or.inl rfl) | exact Or.inr (Or.inr rfl)) : EO X B M Δ (.Call (.Name x p) (.Name y py :: es) [] pos) Φ := fun σ H S Q kk => by
  obtain ⟨f, fd, ok, hm, hk, hb⟩ := F.ex
  obtain ⟨s1, s2, s3⟩ := S.penAt hi
  refine PE.to (pe_call ok hr hg hm hk hb .nil pass0 (pa_cons (pe_var (i := i) hN hv hd hcd) pa_self he) hdb he hpl) ⟨_, s1, h σ H S _ fun ts Δ1 vs H1 q fe S1 d => ?_⟩
  obtain ⟨c, q1, q2, q3, q4⟩ := q
  obtain ⟨r1, r2, r3⟩ := S1.penAt q1
  rw [List.append_nil]
  refine ⟨M.m, pn, c, vs, ts, rfl, S1.wm _ r2, r3, q3, d, q2, S1.al, S1.tb, fun l t H' hp f2 tb hl pa ow => ?_⟩
  obtain ⟨S2, fw, hn⟩ := S1.penGrabO q1 f2 tb hl pa ow
  exact kk t _ l H' (q4 t hp) (fe.trans fw) (fe.free (fun b z => S1.al b (S1.wm b z)) hl) S2 hn ow
/-- a, b = new object, value -/
theorem s_parOE (i j : Nat) {x y : Str} {px py pt pt2 : Pos} {kt k2 : Nat} {pos : Pos} (hE : ∀ ta, PA X [a, b] ta → PS X (.Assign [.Tuple [.Name x px, .Name y py] kt pt] (.Tuple [a, b] k2 pt2) pos) (tPar i j ta)) (hij : i ≠ j)
    (h : EO X B M Δ a fun t Δ1 => ∀ l, ¬ M.m l → EE X B (ins M l) Δ1 b fun u Δ2 => (∀ e ∈ Δ1, ¬ e.has l) → (∀ e ∈ Δ2, ¬ e.has l) ∧ Ψ.nx (ins M l) ((Δ2.set i (.own l t)).set j (.dat u)))
    (hs : starEach [a, b] X.env = (false, eval a X.env) :: starEach [b] X.env := by rfl) (hs2 : starEach [b] X.env = (false, eval b X.env) :: starEach [] X.env := by rfl) : S1 X B M Δ (.Assign [.Tuple [.Name x px, .Name y py] kt pt] (.Tuple [a, b] k2 pt2) pos) Ψ := fun σ H S D p =>
  PS.to (hE _ (pa_cons pe_self (pa_cons pe_self pa_nil hs2) hs)) (h σ H S _ fun t Δ1 l H1 q f hl S1 hn ow => q l (S.notM hl) σ H1 S1 _ fun u Δ2 v H2 q2 f2 S2 d2 => by
    have nM := S.notM hl
    have nw : ¬ M.w l := fun z => nM (S.wm l z)
    obtain ⟨hn2, q3⟩ := q2 hn
    have ow' : Ow X.K (mi (ins M l).m H2) H2 l t := ow.mono (S1.sub f2) fun o n z => f2.k _ o nw n z
    refine ⟨_, _, rfl, p.nx _ _ _ H2 q3 ((mi_new hl S f).trans (S1.sub f2)) ?_⟩
    have S3 := S2.put i (o := some (.ref l)) (e := .own l t) ⟨rfl, .inr rfl, fun z => nM (S.m0 l z), nw, ow'⟩ fun l' z j' f' _ hf' y => by
      cases z
      exact hn2 f' (List.mem_of_getElem? hf') y
    exact S3.set j d2)
/-- x.clear() -/
theorem s_clear (i : Nat) {x : Str} {p1 p2 p3 pos : Pos} {l : Addr} {ts : List Tr} (hN : X.N[i]? = some x) (hi : Δ[i]? = some (.own l (.lst ts))) (h : Ψ.nx M (Δ.set i (.own l (.lst []))))
    (hE : PS X (.Expr (.Call (.Attribute (.Name x p1) "clear" p2) [] [] p3) pos) (tDrop (tBM0 X.K "list" rClear (tVar i))) := by
      exact ps_expr (pe_bm0 PySem.F.plainAttrs_list PySem.F.slot_list_clear PySem.F.type_list_clear mt_clear (pv _))) (hv : Vis X.env.scope x := by first | exact Or.inl rfl | exact Or.inr (Or.inl rfl) | exact Or.inr (Or.inr rfl)) : S1 X B M Δ (.Expr (.Call (.Attribute (.Name x p1) "clear" p2) [] [] p3) pos) Ψ := fun σ H S D p => by
  obtain ⟨h1, h2, h3, h4, xs, h5, h6⟩ := S.ownAt hi
  refine PS.to hE ⟨_, h1, .inl ⟨rfl, _, SqL.of h5⟩, l, xs, rfl, rfl, h5, ?_⟩
  obtain ⟨S2, s2⟩ := S.write (o := .lst []) (t' := .lst []) hi ⟨_, upd_same, .nil⟩
  exact p.nx M _ σ _ h s2 S2
/-- x.extend(new list) -/
theorem s_extend (i : Nat) {x : Str} {p1 p2 p3 pos : Pos} {l : Addr} {ts0 : List Tr} (hN : X.N[i]? = some x) (hi : Δ[i]? = some (.own l (.lst ts0)))
    (h : EO X B M Δ e fun t Δ1 => ∃ ts us, t = .lst us ∧ Δ1[i]? = some (.own l (.lst ts)) ∧ ts.length + us.length ≤ sizeLine ∧ Ψ.nx M (Δ1.set i (.own l (.lst (ts ++ us)))))
    (hE : PS X (.Expr (.Call (.Attribute (.Name x p1) "extend" p2) [e] [] p3) pos) (tDrop (tBM X.K "list" rExtend (tVar i) (tCons (WE X e) tNil))) := by
      exact ps_expr (pe_bm PySem.F.plainAttrs_list PySem.F.slot_list_extend PySem.F.type_list_extend mt_extend (pv _) (pa_cons pe_self pa_nil))) (hv : Vis X.env.scope x := by first | exact Or.inl rfl | exact Or.inr (Or.inl rfl) | exact Or.inr (Or.inr rfl)) : S1 X B M Δ (.Expr (.Call (.Attribute (.Name x p1) "extend" p2) [e] [] p3) pos) Ψ := fun σ H S D p => by
  obtain ⟨h1, h2, h3, h4, xs0, h5, h6⟩ := S.ownAt hi
  refine PS.to hE ⟨_, h1, .inl ⟨rfl, _, SqL.of h5⟩, h σ H S _ fun t Δ1 m H1 q f hl S1 hn ow => ?_⟩
  obtain ⟨ts, us, rfl, q1, q2, q3⟩ := q
  obtain ⟨_, g2, _, _, xs, h7, h8⟩ := S1.ownAt q1
  obtain ⟨ys, y1, y2⟩ := ow
  refine ⟨l, m, xs, ys, rfl, rfl, h7, y1, by rw [h8.length, y2.length]; exact q2, ?_⟩
  obtain ⟨S2, s2⟩ := S1.write (o := .lst (xs ++ ys)) (t' := .lst (ts ++ us)) q1 ⟨_, upd_same, h8.append y2⟩
  have nM := S.notM hl
  have nM0 : ¬ B.M0 m := fun z => nM (S.m0 m z)
  have hn2 : ∀ e ∈ Δ1.set i (.own l (.lst (ts ++ us))), ¬ e.has m := fun e he z => by
    rcases List.mem_or_eq_of_mem_set he with he | rfl
    · exact hn e he z
    · exact hn _ (List.mem_of_getElem? q1) z
  exact p.nx M _ σ _ q3 (((mi_new hl S f).trans s2).trans (mi_le fun b z => .inl z)) (S2.freeze nM S.wm nM0 hn2)
end
end Wf

set_option Elab.async false
set_option linter.all false
set_option maxRecDepth 100000
set_option maxHeartbeats 2000000
namespace Wf
open PySem PySem.Spec PyProof.Rows L2 LamX
/-! ### an owned list is lent to a call whose answer holds no lists -/
mutual
def Tr.nol : Tr → Bool
  | .lst _ => false
  | .opq _ => false
  | .tup ts => Tr.nols ts
  | .dct es => Tr.nolk es
  | .ins _ es => Tr.nolf es
  | .exc _ es => Tr.nolf es
  | _ => true
def Tr.nols : List Tr → Bool
  | [] => true
  | t :: ts => t.nol && Tr.nols ts
def Tr.nolk : List (Key × Tr) → Bool
  | [] => true
  | (_, t) :: ts => t.nol && Tr.nolk ts
def Tr.nolf : List (Str × Tr) → Bool
  | [] => true
  | (_, t) :: ts => t.nol && Tr.nolf ts
end
def SubN (I I' : Hp) : Prop := ∀ b o, NT o → (∀ xs, o ≠ .lst xs) → I b = some o → I' b = some o
theorem subn_seqT {K : PySem.W.Frag} {I I' : Hp} (s : SubN I I') {a : Addr} {xs : List V} (h : SqT K I a xs) : SqT K I' a xs := by
  rcases h with (h | ⟨o, h⟩) | h
  · exact .inl (.inl (s _ _ nt_tup (fun _ z => nomatch z) h))
  · exact .inl (.inr ⟨o, s _ _ nt_frz (fun _ z => nomatch z) h⟩)
  · exact .inr h
theorem subn_rdK {I I' : Hp} (s : SubN I I') {a : Addr} {xs : List (Key × V)} (h : Rd I a (.dK xs)) : Rd I' a (.dK xs) := by
  rcases h with h | ⟨o, h⟩
  · exact .inl (s _ _ nt_dK (fun _ z => nomatch z) h)
  · exact .inr ⟨o, s _ _ nt_frz (fun _ z => nomatch z) h⟩
mutual
theorem Dt.back {K : PySem.W.Frag} {I I' : Hp} (s : SubN I I') : ∀ {v : V} {t : Tr}, Dt K I v t → t.nol = true → Dt K I' v t
  | _, _, .non, _ => .non
  | _, _, .bl b, _ => .bl b
  | _, _, .int i, _ => .int i
  | _, _, .str x, _ => .str x
  | _, _, .lst h q, n => by unfold Tr.nol at n; cases n
  | _, _, .tup h q, n => by
    unfold Tr.nol at n
    exact .tup (subn_seqT s h) (Dts.back s q n)
  | _, _, .dct h q, n => by
    unfold Tr.nol at n
    exact .dct (subn_rdK s h) (Dkv.back s q n)
  | _, _, .ins h q, n => by
    unfold Tr.nol at n
    exact .ins (s _ _ nt_ins (fun _ z => nomatch z) h) (Dfs.back s q n)
  | _, _, .exc0 h, n => .exc0 (s _ _ nt_exv (fun _ z => nomatch z) h)
  | _, _, .exc h g q, n => by
    unfold Tr.nol at n
    exact .exc (s _ _ nt_exv (fun _ z => nomatch z) h) (s _ _ nt_xd (fun _ z => nomatch z) g) (Dfs.back s q n)
  | _, _, .opq v, n => by unfold Tr.nol at n; cases n
theorem Dts.back {K : PySem.W.Frag} {I I' : Hp} (s : SubN I I') : ∀ {v : List V} {t : List Tr}, Dts K I v t → Tr.nols t = true → Dts K I' v t
  | _, _, .nil, _ => .nil
  | _, _, .cons h q, n => by
    unfold Tr.nols at n
    rw [Bool.and_eq_true] at n
    exact .cons (Dt.back s h n.1) (Dts.back s q n.2)
theorem Dkv.back {K : PySem.W.Frag} {I I' : Hp} (s : SubN I I') : ∀ {v : List (Key × V)} {t : List (Key × Tr)}, Dkv K I v t → Tr.nolk t = true → Dkv K I' v t
  | _, _, .nil, _ => .nil
  | _, _, .cons h q, n => by
    unfold Tr.nolk at n
    rw [Bool.and_eq_true] at n
    exact .cons (Dt.back s h n.1) (Dkv.back s q n.2)
theorem Dfs.back {K : PySem.W.Frag} {I I' : Hp} (s : SubN I I') : ∀ {v : List (Str × V)} {t : List (Str × Tr)}, Dfs K I v t → Tr.nolf t = true → Dfs K I' v t
  | _, _, .nil, _ => .nil
  | _, _, .cons h q, n => by
    unfold Tr.nolf at n
    rw [Bool.and_eq_true] at n
    exact .cons (Dt.back s h n.1) (Dfs.back s q n.2)
end
def Tr.nolO : Tr → Bool
  | .lst ts => Tr.nols ts
  | t => t.nol
theorem Ow.back {K : PySem.W.Frag} {I I' H : Hp} {l : Addr} (s : SubN I I') : ∀ {t : Tr}, t.nolO = true → Ow K I H l t → Ow K I' H l t
  | .lst _, n, ⟨xs, h, q⟩ => ⟨xs, h, Dts.back s q n⟩
  | .dct _, n, ⟨xs, h, q⟩ => ⟨xs, h, Dkv.back s q (by unfold Tr.nolO Tr.nol at n; exact n)⟩
  | .ins _ _, n, ⟨dx, xs, h, q⟩ => ⟨dx, xs, h, Dfs.back s q (by unfold Tr.nolO Tr.nol at n; exact n)⟩
  | .non, _, h => h.elim
  | .bl _, _, h => h.elim
  | .int _, _, h => h.elim
  | .str _, _, h => h.elim
  | .tup _, _, h => h.elim
  | .exc _ _, _, h => h.elim
  | .opq _, _, h => h.elim
section
variable {X : Cx} {B : Bs} {M M' : Pl} {Δ : List En} {e : Expr} {Φ : Tr → List En → Prop} {i : Nat} {l : Addr} {us : List Tr}
theorem Sk.backO {K : PySem.W.Frag} {H H' : Hp} {σ : L2.St} {Δ' : List En} (S : Sk K B M H σ Δ) (h : Δ[i]? = some (.own l (.lst us))) (f : Fe M.w H H') (S' : Sk K B M' H' σ Δ') (hm : ∀ b, M.m b → b = l ∨ M'.m b) (hp : ∀ (j : Nat) p N, Δ[j]? = some (.pen p N) → Δ'[j]? = some (.pen p N)) : Sk K B M H' σ Δ := by
  obtain ⟨h1, h2, h3, h4, h5⟩ := S.ownAt h
  have hs := S.sub f
  refine { len := S.len, al := fun b z => ?_, wm := S.wm, m0 := S.m0, pm := S.pm, own := S.own, wp := S.wp, fr := S'.fr, tb := S'.tb, dis := S.dis, sl := fun j e q => ?_ }
  · rcases hm b z with rfl | y
    · obtain ⟨xs, e, _⟩ := h5
      exact ⟨_, f.k b _ h4 nt_lst e⟩
    · exact S'.al b y
  · obtain ⟨o, e1, e2⟩ := S.sl j e q
    refine ⟨o, e1, ?_⟩
    cases o with
    | none => cases e <;> first | exact True.intro | exact e2.elim
    | some v =>
      cases e with
      | any => exact True.intro
      | dat t => exact Dt.mono hs e2
      | own l' t =>
        obtain ⟨x1, x2, x3, x4, x5⟩ := e2
        exact ⟨x1, x2, x3, x4, x5.mono hs fun o n z => f.k _ o x4 n z⟩
      | pen l' N =>
        obtain ⟨_, y1, sp, mo, z1, z2, z3⟩ := S'.penAt (hp j _ _ q)
        obtain ⟨x1, x2, _, _, w1, w2, w3⟩ := e2
        exact ⟨x1, x2, sp, mo, z1, sub_seqL hs w2, z3⟩
      | tab l' bs qs =>
        obtain ⟨x1, x2, x3, x4⟩ := e2
        exact ⟨x1, x2, x3, x4.mono hs fun b z o n y => f.k _ o (x3 b z).2.2 n y⟩
theorem pen_set {t : Tr} (h : Δ[i]? = some (.own l (.lst us))) (j : Nat) (p : Pn) (N : Nat) (q : Δ[j]? = some (.pen p N)) : (Δ.set i (.dat t))[j]? = some (.pen p N) := by
  rw [List.getElem?_set_ne (fun z => by rw [← z, h] at q; cases q)]
  exact q
theorem EE.lend (i : Nat) (h : Δ[i]? = some (.own l (.lst us))) (q : EE X B (rem M l) (Δ.set i (.dat (.lst us))) e fun r Δ' => r.nol = true ∧ Δ' = Δ.set i (.dat (.lst us)) ∧ Φ r Δ) : EE X B M Δ e Φ := fun σ H S Q k =>
  q σ H (S.share h) Q fun r Δ' v H' p f S' d => by
    obtain ⟨p1, rfl, p3⟩ := p
    obtain ⟨h1, h2, h3, h4, xs, h5, _⟩ := S.ownAt h
    have e5 : H' l = some (.lst xs) := f.k l _ h4 nt_lst h5
    refine k r Δ v H' p3 f (S.backO h f S' (fun b z => (Classical.em (b = l)).imp id fun n => ⟨z, n⟩) fun j p N q => pen_set h j p N q) (d.back (fun b o n1 n2 z => ?_) p1)
    obtain ⟨z1, z2⟩ := mi_some.mp z
    refine mi_of (fun y => ?_) z2
    by_cases hb : b = l
    · rw [hb, e5] at z2
      cases z2
      exact n2 xs rfl
    · exact z1 ⟨y, hb⟩
theorem EO.lend (i : Nat) (h : Δ[i]? = some (.own l (.lst us))) (q : EO X B (rem M l) (Δ.set i (.dat (.lst us))) e fun r Δ' => r.nolO = true ∧ Δ' = Δ.set i (.dat (.lst us)) ∧ Φ r Δ) : EO X B M Δ e Φ := fun σ H S Q k =>
  q σ H (S.share h) Q fun r Δ' l' H' p f hl S' hn ow => by
    obtain ⟨p1, rfl, p3⟩ := p
    obtain ⟨h1, h2, h3, h4, xs, h5, _⟩ := S.ownAt h
    obtain ⟨o, eo, no⟩ := ow.there
    have hne : l ≠ l' := fun z => by rw [z] at h5; rw [hl] at h5; cases h5
    have e5 : H' l = some (.lst xs) := f.k l _ h4 nt_lst h5
    have same : Same H (upd H l' o) := fun b o' z => by rw [upd_ne (ne_of_none z hl)]; exact z
    obtain ⟨S1, hn1⟩ := S.grab (Fe.same same) (S.tb.ext same) hl ⟨o, upd_same⟩
    have f1 : Fe M.w (upd H l' o) H' := by
      refine ⟨fun b o' n nt z => ?_, fun b qs z => ?_⟩
      · by_cases hb : b = l'
        · subst hb
          rw [upd_same] at z
          cases z
          exact eo
        · rw [upd_ne hb] at z
          exact f.k b o' n nt z
      · by_cases hb : b = l'
        · subst hb
          rw [upd_same] at z
          cases z
          exact absurd rfl (no qs)
        · rw [upd_ne hb] at z
          exact f.t b qs z
    refine k r Δ l' H' p3 f hl (S1.backO h f1 S' (fun b z => (Classical.em (b = l)).imp id fun n => z.imp (fun y => ⟨y, n⟩) id) fun j p N q => pen_set h j p N q) hn1 (ow.back (fun b o n1 n2 z => ?_) p1)
    obtain ⟨z1, z2⟩ := mi_some.mp z
    refine mi_of (fun y => ?_) z2
    by_cases hb : b = l
    · rw [hb, e5] at z2
      cases z2
      exact n2 xs rfl
    · exact z1 (y.imp (fun y => ⟨y, hb⟩) id)
end
/-! ### for .. in an owned list that stands still meanwhile -/
theorem walk_own {K : PySem.W.Frag} {a : Addr} {n : Nat} : Walk (Itl K a) n (fun H => ∃ xs, SqL K H a xs ∧ xs.length = n) (fun i H x H' => H' = H ∧ ∀ xs, SqL K H a xs → xs[i]? = some x) :=
  ⟨fun i H hi ⟨xs, q, e⟩ => ⟨xs, xs[i]'(by omega), q, by simp [show i < xs.length by omega]⟩, fun _ ⟨xs, q, e⟩ => ⟨xs, q, by omega⟩, fun _ _ _ _ _ _ y => ⟨y.1, y.2⟩⟩
section
variable {X : Cx} {B : Bs} {M : Pl} {Δ : List En} {tg : Expr} {body : List Stmt} {pos p : Pos} {Ψ : Eo} {l : Addr} {ts : List Tr} {x : Str}
theorem s_forOwn (T : Tg) (k : Nat) (hp : PassesOwn (model X.prog X.w) X.A X.env X.xe) (hc : X.calm = true) (hg : PG X tg (T.g X.K)) (hN : X.N[k]? = some x) (hk : Δ[k]? = some (.own l (.lst ts)))
    (h : ∃ Jv : Nat → Pl → List En → Prop, Jv 0 M Δ ∧ (∀ i M' Δ', i < ts.length → Jv i M' Δ' → Δ'[k]? = some (.own l (.lst ts)) ∧ T.ok (ts.getD i .non) ∧ SS X B M' (T.set Δ' (ts.getD i .non)) body { nx := Jv (i + 1), rt := Ψ.rt, bk := Ψ.nx, ct := Jv (i + 1) }) ∧ ∀ M' Δ', Jv ts.length M' Δ' → Δ'[k]? = some (.own l (.lst ts)) ∧ Ψ.nx M' Δ')
    (hs : ∀ y, foldedSetIterable (.Name x p) X.env y = pure y := by intro _; rfl) (hd : (x == ("__debug__" : Str)) = false := by decide) (hcd : (x == ("__classdict__" : Str)) = false := by decide) (hv : Vis X.env.scope x := by first | exact Or.inl rfl | exact Or.inr (Or.inl rfl) | exact Or.inr (Or.inr rfl)) : S1 X B M Δ (.For tg (.Name x p) body [] pos) Ψ := fun σ H S D pp => by
  obtain ⟨Jv, j0, jt, jd⟩ := h
  obtain ⟨h1, _, _, _, xs, h5, h6⟩ := S.ownAt hk
  have own : ∀ (i : Nat) M' Δ' σ' H', i ≤ ts.length → Jv i M' Δ' → Sk X.K B M' H' σ' Δ' → ∃ ys, H' l = some (.lst ys) ∧ Dts X.K (mi M'.m H') ys ts := fun i M' Δ' σ' H' hi j S' => by
    rcases Nat.lt_or_ge i ts.length with hi | hi'
    · exact (S'.ownAt (jt i M' Δ' hi j).1).2.2.2.2
    · have e : i = ts.length := by omega
      subst e
      exact (S'.ownAt (jd M' Δ' j).1).2.2.2.2
  refine PS.to (ps_for hp hc (pi_list (pe_var (i := k) hN hv hd hcd)) hg pss_self hs) ⟨_, h1, l, rfl, ⟨xs, SqL.of h5⟩, ?_⟩
  refine for_it (walk_own (n := ts.length)) (fun i σ' H' => ∃ M' Δ', i ≤ ts.length ∧ Jv i M' Δ' ∧ Sub (mi M.m H) (mi M'.m H') ∧ Sk X.K B M' H' σ' Δ') ⟨M, Δ, Nat.zero_le _, j0, Sub.refl _, S⟩ (fun i σ' H' _ ⟨M', Δ', hi, j, s, S'⟩ => ?_) ?_ fun σ' H' ⟨M', Δ', _, j, s, S'⟩ => pp.nx M' Δ' σ' H' (jd M' Δ' j).2 s S'
  · obtain ⟨ys, y1, y2⟩ := own i M' Δ' σ' H' hi j S'
    exact ⟨ys, SqL.of y1, y2.length⟩
  rintro i v σ' Ha Hb hi ⟨M', Δ', _, j, s, S'⟩ ⟨rfl, y⟩
  obtain ⟨e1, ok, hb⟩ := jt i M' Δ' hi j
  obtain ⟨ys, y1, y2⟩ := own i M' Δ' σ' Hb (Nat.le_of_lt hi) j S'
  obtain ⟨t, t1, t2⟩ := y2.getV (y ys (SqL.of y1))
  have d : Dt X.K (mi M'.m Hb) v (ts.getD i .non) := by rw [getD_of t1]; exact t2
  refine tg_run T S' d ok _ fun vs St => hb _ Hb St _ ⟨fun M2 Δ2 σ2 H2 a b c => ⟨M2, Δ2, hi, a, s.trans b, c⟩, fun t M2 Δ2 v σ2 H2 a b c d => pp.rt t M2 Δ2 v σ2 H2 a (s.trans b) c d, fun M2 Δ2 σ2 H2 a b c => pp.nx M2 Δ2 σ2 H2 a (s.trans b) c, fun M2 Δ2 σ2 H2 a b c => ⟨M2, Δ2, hi, a, s.trans b, c⟩⟩
end
end Wf

set_option Elab.async false
set_option linter.all false
set_option maxRecDepth 100000
set_option maxHeartbeats 2000000
namespace Wf
open PySem PySem.Spec PyProof.Rows L2 LamX
/-! ### __init__ with defaults -/
section
variable {P : Program} {w : World} {K : PySem.W.Frag} {mg : Str → Option Value} {base : Heap} {x qual y : Str} {st : Stmt} {f : Addr} {fd : FuncData} {N ps : List Str} {k : Nat} {T : List (Addr × Str)} {C : Addr} {pre : List Tr → Prop} {post : List Tr → List (Str × Tr) → Prop} {xp : List Tr → XQ}
theorem ok_IXD {dfs : List V} {kws : List (Str × V)} (F : FunD K x qual (defArgs st) (defBody st) (defScope st) dfs kws f fd) (S : FnScope N (y :: ps) (defScope st)) (hpre : ∀ ts, pre ts → ts.length = ps.length) (hps : ps.length + 1 ≤ N.length)
    (hb : ∀ (cdv : Value) (A : Around) (outer : List Env) (s : Shared) (H H0 : Hp) (E : XK) (m : Addr → Prop) (l : Addr) (ts : List Tr), Room k (A.deeper (envOfC qual (defScope st) s.heap.objs.size f cdv)) → pre ts →
      Xo (cxOf (L2.CX P w) P w K mg base N qual (defScope st) f cdv A outer s H E) ⟨T, fun _ => False, H0, m⟩ (xp ts) →
      SS (cxOf (L2.CX P w) P w K mg base N qual (defScope st) f cdv A outer s H E) ⟨T, fun _ => False, H0, m⟩ ⟨fun b => m b ∨ b = l, fun _ => False⟩ (slots N (.own l (.ins C []) :: ts.map En.dat)) (defBody st)
        ⟨fun M' Δ' => (∀ b, M'.m b ↔ m b ∨ b = l) ∧ ∃ fs, post ts fs ∧ Δ'[0]? = some (.own l (.ins C fs)), fun _ _ => False, fun _ _ => False, fun _ _ => False⟩) :
    FnOk P w K mg base (L2.CX P w) (k + 1) f fd (y :: ps) (spIX K T C pre post xp) := by
  refine FunD.ok (CX := L2.CX P w) F S (fun vs H Q E h => ?_) (fun cdv A outer s H vs Q E hr h => ?_)
  · obtain ⟨m, l, dx, vs', ts, rfl, _, _, d, hp, _⟩ := h
    rw [List.length_cons, List.length_cons, d.length, hpre ts hp]
  · obtain ⟨m, l, dx, vs', ts, rfl, nm, hl, d, hp, al, tb, q, qx⟩ := h
    have hlen : ts.length = ps.length := hpre ts hp
    have noT : ∀ ps, H l ≠ some (.tbl ps) := fun ps e => by rw [hl] at e; cases e
    have e0 : ∀ (i : Nat) (e : En), (En.own l (.ins C []) :: ts.map En.dat)[i]? = some e → ∀ a, e.has a → i = 0 := fun i e he a ea => by
      cases i with
      | zero => rfl
      | succ i =>
        rw [List.getElem?_cons_succ, List.getElem?_map] at he
        cases h : ts[i]? with
        | none => rw [h] at he; cases he
        | some t => rw [h] at he; cases he; cases ea
    have Sk0 : Sk K ⟨T, fun _ => False, without H l, m⟩ ⟨fun b => m b ∨ b = l, fun _ => False⟩ H (L2.start N (.ref l :: vs')) (slots N (.own l (.ins C []) :: ts.map En.dat)) := by
      have hl2 : (V.ref l :: vs').length = (En.own l (.ins C []) :: ts.map En.dat).length := by simp [d.length]
      refine { len := ?_, al := fun b z => z.elim (al b) fun e => ⟨.ins C dx [], by rw [e]; exact hl⟩, wm := fun b z => z.elim, m0 := fun b z => .inl z, pm := fun b z => z.elim, own := fun b z => z.elim .inl fun e => .inr ?_, wp := fun b z => z.elim, fr := ⟨fun b o _ n e => (without_some.mp e).2, fun b ps e => ⟨ps, (without_some.mp e).2⟩⟩, tb := tb, dis := fun i j e f a he hf ea fa => ?_, sl := fun i e q => ?_ }
      · unfold L2.start slots
        rw [List.length_append, List.length_append, List.length_map, List.length_replicate, List.length_replicate]
        simp [d.length]
      · rw [e]
        cases z : without H l l with
        | none => exact z
        | some o => exact absurd rfl (without_some.mp z).1
      · rcases start_get (N := N) hl2 he with ⟨_, _, _, z⟩ | ⟨_, rfl⟩
        · rcases start_get (N := N) hl2 hf with ⟨_, _, _, z2⟩ | ⟨_, rfl⟩
          · rw [e0 i e z a ea, e0 j f z2 a fa]
          · cases fa
        · cases ea
      · rcases start_get (N := N) hl2 q with ⟨v, h1, h2, h3⟩ | ⟨h1, rfl⟩
        · refine ⟨_, h1, ?_⟩
          cases i with
          | zero => cases h2; cases h3; exact ⟨rfl, .inr rfl, nm, id, dx, [], hl, .nil⟩
          | succ i =>
            rw [List.getElem?_cons_succ] at h2 h3
            rw [List.getElem?_map] at h3
            cases h : ts[i]? with
            | none => rw [h] at h3; cases h3
            | some t =>
              rw [h] at h3; cases h3
              obtain ⟨v', g1, g2⟩ := d.get h
              rw [h2] at g1; cases g1
              exact g2
        · exact ⟨_, h1, True.intro⟩
    have out : Xo (cxOf (L2.CX P w) P w K mg base N qual (defScope st) f cdv A outer s H E) ⟨T, fun _ => False, without H l, m⟩ (xp ts) :=
      ⟨E, takes_of rfl rfl rfl rfl, fun M Δ σ H' C d es hx S' xd => qx C d es H' hx (fe_without S'.fr noT) S'.tb (xd.mono (mi_le S'.m0))⟩
    refine ⟨_, pss_self, hb cdv A outer s H (without H l) E m l ts hr hp out _ H Sk0 _ ⟨fun M' Δ' σ' H' a b z => ?_, fun _ _ _ _ _ _ z => z.elim, fun _ _ _ _ z => z.elim, fun _ _ _ _ z => z.elim⟩⟩
    obtain ⟨hM, fs, a1, a2⟩ := a
    have ow := (z.ownAt a2).2.2.2.2
    exact q fs H' a1 (fe_without z.fr noT) z.tb (ow.mono (mi_le fun b y => (hM b).mpr y) fun _ _ y => y)
end
/-- a class of the module, its __init__ may raise; the last parameters' defaults dts -/
structure McXD (P : Program) (w : World) (K : PySem.W.Frag) (mg : Str → Option Value) (base : Heap) (x : Str) (C : Addr) (k : Nat) (ps : List Str) (dts : List Tr) (sp : Sp) : Prop where
  cl : Cls K C
  at_ : mg x = some (.ref C)
  ex : ∃ f fd dvs ds, FnOk P w K mg base (L2.CX P w) k f fd ps sp ∧ L2.Mk K C f ∧ Binds K fd ps ds ∧ Vals dvs ds ∧ ∀ I, Dts K I dvs dts
theorem McXD.full {P : Program} {w : World} {K : PySem.W.Frag} {mg : Str → Option Value} {base : Heap} {x : Str} {C : Addr} {k : Nat} {ps : List Str} {sp : Sp} (F : McXD P w K mg base x C k ps [] sp) : McX P w K mg base x C k ps sp := by
  obtain ⟨f, fd, dvs, ds, h1, h2, h3, h4, h5⟩ := F.ex
  have e : dvs = [] := by
    have := (h5 (fun _ => none)).length
    exact List.length_eq_zero_iff.mp this
  subst e
  cases h4
  exact ⟨F.cl, F.at_, f, fd, h1, h2, h3⟩
section
variable {X : Cx} {B : Bs} {M : Pl} {Δ : List En} {e : Expr} {es : List Expr} {Φ : Tr → List En → Prop} {x : Str} {k : Nat} {ps : List Str} {C : Addr} {pre : List Tr → Prop} {post : List Tr → List (Str × Tr) → Prop} {xp : List Tr → XQ} {xq : XQ}
/-- C(e, ..), the last ones by default -/
theorem eo_makeXD {dts : List Tr} {p pos : Pos} (xo : Xo X B xq) (F : McXD X.prog X.w X.K X.mg X.base x C k ps dts (spIX X.K B.T C pre post xp)) (hr : Room (k + 1) X.A) (hg : Gl X x) (h : EA X B M Δ (e :: es) fun ts Δ1 => pre (ts ++ dts) ∧ (∀ fs, post (ts ++ dts) fs → Φ (.ins C fs) Δ1) ∧ ∀ D es', xp (ts ++ dts) D es' → xq D es')
    (hdb : (x == ("__debug__" : Str)) = false := by decide) (he : starEach (e :: es) X.env = (false, eval e X.env) :: starEach es X.env := by rfl) (hpl : (backTo pos (starEach es X.env)).any (·.1) = false := by rfl) : EO X B M Δ (.Call (.Name x p) (e :: es) [] pos) Φ := fun σ H S Q kk => by
  obtain ⟨f, fd, dvs, ds, ok, hm, hb, hv, hd⟩ := F.ex
  obtain ⟨E, tk, ho⟩ := xo
  refine PE.to (pe_make hm ok hr hg F.at_ hb hv (E := E) (passes_call tk fun _ _ _ _ z => z) pa_self hdb he hpl) (h σ H S _ fun ts Δ1 vs H1 q fe S1 d => fun l dx hl hdx hne => ?_)
  have s1 : Same H1 (upd (upd H1 dx (.own l)) l (.ins C dx [])) := fun b o z => by
    rw [upd_ne (ne_of_none z hl), upd_ne (ne_of_none z hdx)]; exact z
  have nm : ¬ M.m l := S1.notM hl
  have s2 : Sub (mi M.m H1) (mi (fun b => M.m b ∨ b = l) (upd (upd H1 dx (.own l)) l (.ins C dx []))) := mi_new hl S1 (Fe.same s1)
  have low : ∀ H', Fe (fun b => b = l) (upd (upd H1 dx (.own l)) l (.ins C dx [])) H' → Fe (fun _ => False) H1 H' := fun H' f2 => ((Fe.same s1).trans f2).imp fun b o n z e => by rw [z, hl] at e; cases e
  refine ⟨M.m, l, dx, vs ++ dvs, ts ++ dts, rfl, nm, upd_same, (d.mono s2).append (hd _), q.1, fun b z => ?_, S1.tb.ext s1, fun fs H' hp f2 tb ow => ⟨rfl, ?_⟩, fun D dd es' H' hx f2 tb xd => ho M Δ1 σ H' D dd es' (q.2.2 D es' hx) (S1.feGrow (low H' f2) tb) xd⟩
  · obtain ⟨o, e⟩ := S1.al b z
    exact ⟨o, s1 b o e⟩
  · have fn := low H' f2
    have ex : ∃ o, H' l = some o := by
      obtain ⟨_, _, z, _⟩ := ow
      exact ⟨_, z⟩
    obtain ⟨S2, hn⟩ := S1.grab fn tb hl ex
    exact kk _ Δ1 l H' (q.2.1 fs hp) (fe.trans (fn.imp fun _ _ _ z => z.elim)) (fe.free (fun b z => S1.al b (S1.wm b z)) hl) S2 hn ow
end
/-! ### defaults that are empty tuples -/
def emptyT (K : PySem.W.Frag) : Value → Bool
  | .ref a => match K.lookup a with
    | some ⟨.type "tuple", _, .seq its _, _⟩ => its.toList.isEmpty
    | _ => false
  | _ => false
def dflT (K : PySem.W.Frag) (n : Nat) : Value → Bool
  | .ref T => match K.lookup T with
    | some ⟨_, _, .seq its _, _⟩ => its.toList.length == n && its.toList.all (emptyT K)
    | _ => false
  | _ => false
theorem emptyT_dt {K : PySem.W.Frag} {v : Value} (h : emptyT K v = true) : ∃ x : V, RelV x v ∧ ∀ I, Dt K I x (.tup []) := by
  unfold emptyT at h
  split at h
  · rename_i a
    split at h
    · rename_i cl dd its n sl lk
      have e : its = #[] := by
        have : its.toList = [] := List.isEmpty_iff.mp h
        simpa using this
      subst e
      exact ⟨.ref a, rfl, fun I => .tup (.inr ⟨_, #[], n, lk, rfl, rfl, Nat.zero_le _, .nil⟩) .nil⟩
    · cases h
  · cases h
theorem emptyT_all {K : PySem.W.Frag} : ∀ {vs : List Value}, vs.all (emptyT K) = true → ∃ xs : List V, Vals xs vs ∧ ∀ I, Dts K I xs (List.replicate vs.length (.tup []))
  | [], _ => ⟨[], .nil, fun _ => .nil⟩
  | v :: vs, h => by
    rw [List.all_cons, Bool.and_eq_true] at h
    obtain ⟨x, r, d⟩ := emptyT_dt h.1
    obtain ⟨xs, rs, ds⟩ := emptyT_all h.2
    exact ⟨x :: xs, .cons r rs, fun I => .cons (d I) (ds I)⟩
theorem dflT_ok {K : PySem.W.Frag} {n : Nat} {dV : Value} (hn : n ≠ 0) (h : dflT K n dV = true) : ∃ dvs, DflV K dV dvs ∧ dvs.length = n ∧ ∀ I, Dts K I dvs (List.replicate n (.tup [])) := by
  unfold dflT at h
  split at h
  · rename_i T
    split at h
    · rename_i cl dd its k sl lk
      rw [Bool.and_eq_true, beq_iff_eq] at h
      obtain ⟨xs, r, d⟩ := emptyT_all h.2
      rw [h.1] at d
      refine ⟨xs, .inr ⟨fun e => ?_, T, _, its.toList, k, rfl, lk, rfl, r⟩, by rw [r.length]; exact h.1, d⟩
      subst e
      have hl := r.length
      rw [h.1] at hl
      exact hn hl.symm
    · cases h
  · cases h
theorem Dts.tl {K : PySem.W.Frag} {I : Hp} {vs : List V} {ts : List Tr} (h : Dts K I vs ts) (n : Nat) : Dts K I (vs.drop n) (ts.drop n) := h.drop n
end Wf

set_option Elab.async false
set_option linter.all false
set_option maxRecDepth 100000
set_option maxHeartbeats 2000000
namespace Wf
open PySem PySem.Spec PyProof.Rows L2 LamX
theorem occ_bound (s sub : Str) (hi limit : Nat) : ∀ (l : List Nat) (st : Array Nat × Nat), (∀ i ∈ st.fst.toList, i + sub.length ≤ hi) → ∀ i ∈ (forIn l st (StrLaws.occBody s sub hi limit)).run.fst.toList, i + sub.length ≤ hi
  | [], st, h => h
  | a :: l, st, h => by
    rw [List.forIn_cons]
    unfold StrLaws.occBody
    split
    · rename_i hc
      refine occ_bound s sub hi limit l _ fun i hi' => ?_
      rw [Array.toList_push] at hi'
      rcases List.mem_append.mp hi' with y | y
      · exact h i y
      · rw [List.mem_singleton.mp y]
        exact hc.1.2
    · exact occ_bound s sub hi limit l _ h
theorem occ_le {s sub : Str} {lo hi limit i : Nat} (h : i ∈ Builtin.Str.occurrences s sub lo hi limit) : i + sub.length ≤ hi := by
  rw [StrLaws.occ_eq] at h
  exact occ_bound s sub hi limit _ _ (fun i z => by simp at z) i h
theorem occ_one {s : Str} {c : Nat} (h : c ∈ s.cps.toList) : ∃ i rest, Builtin.Str.occurrences s ⟨#[c]⟩ 0 s.length 1 = i :: rest ∧ i < s.length := by
  have f := StrLaws.found_one s c
  rw [decide_eq_true h] at f
  cases e : Builtin.Str.occurrences s ⟨#[c]⟩ 0 s.length 1 with
  | nil => rw [e] at f; cases f
  | cons i rest =>
    refine ⟨i, rest, rfl, ?_⟩
    have := occ_le (s := s) (sub := ⟨#[c]⟩) (lo := 0) (hi := s.length) (limit := 1) (i := i) (by rw [e]; exact List.mem_cons_self)
    have : i + 1 ≤ s.length := this
    omega
section
variable {X : Cx} {B : Bs} {M : Pl} {Δ : List En} {e o : Expr} {Φ : Tr → List En → Prop}
/-- s.index(sign) -/
theorem ee_sindex {apos pos : Pos} (h : EE X B M Δ o fun x Δ1 => ∃ y : Str, x = .str y ∧ EA X B M Δ1 [e] fun ts Δ2 => ∃ c : Nat, ts = [.str ⟨#[c]⟩] ∧ c ∈ y.cps.toList ∧ ∀ i : Nat, i < y.length → Φ (.int i) Δ2)
    (hE : PE X (.Call (.Attribute o "index" apos) [e] [] pos) (tBM X.K "str" (fun x xs H Q => ∃ a b i rest, x = .str a ∧ xs = [.str b] ∧ Builtin.Str.occurrences a b 0 a.length 1 = i :: rest ∧ Q (.int (i : Nat)) H) (WE X o) (WA X [e])) := by
      exact pe_bm PySem.F.plainAttrs_str PySem.F.slot_str_index PySem.F.type_str_index mt_sindex pe_self pa_self) : EE X B M Δ (.Call (.Attribute o "index" apos) [e] [] pos) Φ := fun σ H S Q k =>
  PE.to hE (h σ H S _ fun x Δ1 v H1 p f S1 d => by
    obtain ⟨y, rfl, p⟩ := p
    cases d
    refine ⟨rfl, p σ H1 S1 _ fun ts Δ2 vs H2 p2 f2 S2 d2 => ?_⟩
    obtain ⟨c, rfl, hc, q⟩ := p2
    obtain ⟨i, rest, e1, e2⟩ := occ_one hc
    cases d2 with
    | cons g1 g2 =>
      cases g2; cases g1
      exact ⟨y, _, i, rest, rfl, rfl, e1, k _ Δ2 _ H2 (q i e2) (f.trans f2) S2 (.int _)⟩)
end
end Wf

set_option Elab.async false
set_option linter.all false
set_option maxRecDepth 100000
set_option maxHeartbeats 4000000
namespace Toy
open PySem PySem.Spec PyProof.Rows L2 LamX Wf
def top (i : Nat) : Stmt := PySem.Challenge.pw_wordfit_k02_samples_returned.main.body.getD i (.Pass ⟨0, 0, 0, 0⟩)
abbrev s_wall : Stmt := top 0
theorem sc_wall : FnScope ["k"] ["k"] (defScope s_wall) := ⟨rfl, rfl, rfl, by decide +kernel, rfl, by decide +kernel, by decide +kernel⟩
abbrev s_InvalidLetters__init_ : Stmt := inClass (top 2) 0
theorem sc_InvalidLetters__init_ : FnScope ["self"] ["self"] (defScope s_InvalidLetters__init_) := ⟨rfl, rfl, rfl, by decide +kernel, rfl, by decide +kernel, by decide +kernel⟩
abbrev s_InvalidWord__init_ : Stmt := inClass (top 3) 0
theorem sc_InvalidWord__init_ : FnScope ["self", "word"] ["self", "word"] (defScope s_InvalidWord__init_) := ⟨rfl, rfl, rfl, by decide +kernel, rfl, by decide +kernel, by decide +kernel⟩
abbrev s_InvalidSample__init_ : Stmt := inClass (top 4) 0
theorem sc_InvalidSample__init_ : FnScope ["self", "word"] ["self", "word"] (defScope s_InvalidSample__init_) := ⟨rfl, rfl, rfl, by decide +kernel, rfl, by decide +kernel, by decide +kernel⟩
abbrev s_InvalidText__init_ : Stmt := inClass (top 5) 0
theorem sc_InvalidText__init_ : FnScope ["self", "line"] ["self", "line"] (defScope s_InvalidText__init_) := ⟨rfl, rfl, rfl, by decide +kernel, rfl, by decide +kernel, by decide +kernel⟩
abbrev s_TooLarge__init_ : Stmt := inClass (top 6) 0
theorem sc_TooLarge__init_ : FnScope ["self", "limit"] ["self", "limit"] (defScope s_TooLarge__init_) := ⟨rfl, rfl, rfl, by decide +kernel, rfl, by decide +kernel, by decide +kernel⟩
abbrev s_is_sequence : Stmt := top 13
theorem sc_is_sequence : FnScope ["value"] ["value"] (defScope s_is_sequence) := ⟨rfl, rfl, rfl, by decide +kernel, rfl, by decide +kernel, by decide +kernel⟩
abbrev s_is_letters : Stmt := top 14
theorem sc_is_letters : FnScope ["value", "places", "letter", "at"] ["value"] (defScope s_is_letters) := ⟨rfl, rfl, rfl, by decide +kernel, rfl, by decide +kernel, by decide +kernel⟩
abbrev s_need_letters : Stmt := top 15
theorem sc_need_letters : FnScope ["value"] ["value"] (defScope s_need_letters) := ⟨rfl, rfl, rfl, by decide +kernel, rfl, by decide +kernel, by decide +kernel⟩
abbrev s_is_word : Stmt := top 16
theorem sc_is_word : FnScope ["letters", "value", "letter"] ["letters", "value"] (defScope s_is_word) := ⟨rfl, rfl, rfl, by decide +kernel, rfl, by decide +kernel, by decide +kernel⟩
abbrev s_word_order : Stmt := top 17
theorem sc_word_order : FnScope ["words"] ["words"] (defScope s_word_order) := ⟨rfl, rfl, rfl, by decide +kernel, rfl, by decide +kernel, by decide +kernel⟩
abbrev s_lines_of : Stmt := top 20
theorem sc_lines_of : FnScope ["text"] ["text"] (defScope s_lines_of) := ⟨rfl, rfl, rfl, by decide +kernel, rfl, by decide +kernel, by decide +kernel⟩
abbrev s_letters_in : Stmt := top 21
theorem sc_letters_in : FnScope ["line", "head", "parts"] ["line", "head"] (defScope s_letters_in) := ⟨rfl, rfl, rfl, by decide +kernel, rfl, by decide +kernel, by decide +kernel⟩
abbrev s_written : Stmt := top 22
theorem sc_written : FnScope ["word"] ["word"] (defScope s_written) := ⟨rfl, rfl, rfl, by decide +kernel, rfl, by decide +kernel, by decide +kernel⟩
abbrev s_word_in : Stmt := top 23
theorem sc_word_in : FnScope ["part", "letters"] ["part", "letters"] (defScope s_word_in) := ⟨rfl, rfl, rfl, by decide +kernel, rfl, by decide +kernel, by decide +kernel⟩
abbrev s_entry_text : Stmt := top 24
theorem sc_entry_text : FnScope ["word", "mark"] ["word", "mark"] (defScope s_entry_text) := ⟨rfl, rfl, rfl, by decide +kernel, rfl, by decide +kernel, by decide +kernel⟩
abbrev s_entry_in : Stmt := top 25
theorem sc_entry_in : FnScope ["line", "letters", "parts", "word"] ["line", "letters"] (defScope s_entry_in) := ⟨rfl, rfl, rfl, by decide +kernel, rfl, by decide +kernel, by decide +kernel⟩
abbrev s_sample_text : Stmt := top 26
theorem sc_sample_text : FnScope ["letters", "yes", "no", "words", "rows", "word"] ["letters", "yes", "no"] (defScope s_sample_text) := ⟨rfl, rfl, rfl, by decide +kernel, rfl, by decide +kernel, by decide +kernel⟩
abbrev s_is_before : Stmt := top 27
theorem sc_is_before : FnScope ["one", "other"] ["one", "other"] (defScope s_is_before) := ⟨rfl, rfl, rfl, by decide +kernel, rfl, by decide +kernel, by decide +kernel⟩
abbrev s_sample_parts : Stmt := top 28
theorem sc_sample_parts : FnScope ["text", "head", "rows", "letters", "entries", "prefixes", "number", "line", "entry", "yes", "no", "word", "mark", "end"] ["text"] (defScope s_sample_parts) := ⟨rfl, rfl, rfl, by decide +kernel, rfl, by decide +kernel, by decide +kernel⟩
abbrev s_need_short : Stmt := top 30
theorem sc_need_short : FnScope ["letters", "value"] ["letters", "value"] (defScope s_need_short) := ⟨rfl, rfl, rfl, by decide +kernel, rfl, by decide +kernel, by decide +kernel⟩
abbrev s_need_words : Stmt := top 31
theorem sc_need_words : FnScope ["letters", "words", "word"] ["letters", "words"] (defScope s_need_words) := ⟨rfl, rfl, rfl, by decide +kernel, rfl, by decide +kernel, by decide +kernel⟩
abbrev s_prefixes_of : Stmt := top 32
theorem sc_prefixes_of : FnScope ["words", "found", "word", "end"] ["words"] (defScope s_prefixes_of) := ⟨rfl, rfl, rfl, by decide +kernel, rfl, by decide +kernel, by decide +kernel⟩
abbrev s_Sample__init_ : Stmt := inClass (top 33) 0
theorem sc_Sample__init_ : FnScope ["self", "letters", "yes", "no", "word"] ["self", "letters", "yes", "no"] (defScope s_Sample__init_) := ⟨rfl, rfl, rfl, by decide +kernel, rfl, by decide +kernel, by decide +kernel⟩
abbrev s_Sample__eq_ : Stmt := inClass (top 33) 1
theorem sc_Sample__eq_ : FnScope ["self", "other"] ["self", "other"] (defScope s_Sample__eq_) := ⟨rfl, rfl, rfl, by decide +kernel, rfl, by decide +kernel, by decide +kernel⟩
abbrev s_Sample_read : Stmt := inClass (top 33) 2
theorem sc_Sample_read : FnScope ["cls", "text", "letters", "yes", "no"] ["cls", "text"] (defScope s_Sample_read) := ⟨rfl, rfl, rfl, by decide +kernel, rfl, by decide +kernel, by decide +kernel⟩
abbrev s_Sample_text : Stmt := inClass (top 33) 3
theorem sc_Sample_text : FnScope ["self"] ["self"] (defScope s_Sample_text) := ⟨rfl, rfl, rfl, by decide +kernel, rfl, by decide +kernel, by decide +kernel⟩
abbrev s_Sample_letters : Stmt := inClass (top 33) 4
theorem sc_Sample_letters : FnScope ["self"] ["self"] (defScope s_Sample_letters) := ⟨rfl, rfl, rfl, by decide +kernel, rfl, by decide +kernel, by decide +kernel⟩
abbrev s_Sample_yes : Stmt := inClass (top 33) 5
theorem sc_Sample_yes : FnScope ["self"] ["self"] (defScope s_Sample_yes) := ⟨rfl, rfl, rfl, by decide +kernel, rfl, by decide +kernel, by decide +kernel⟩
abbrev s_Sample_no : Stmt := inClass (top 33) 6
theorem sc_Sample_no : FnScope ["self"] ["self"] (defScope s_Sample_no) := ⟨rfl, rfl, rfl, by decide +kernel, rfl, by decide +kernel, by decide +kernel⟩
abbrev s_Sample_prefixes : Stmt := inClass (top 33) 7
theorem sc_Sample_prefixes : FnScope ["self"] ["self"] (defScope s_Sample_prefixes) := ⟨rfl, rfl, rfl, by decide +kernel, rfl, by decide +kernel, by decide +kernel⟩
abbrev s_Sample_size : Stmt := inClass (top 33) 8
theorem sc_Sample_size : FnScope ["self"] ["self"] (defScope s_Sample_size) := ⟨rfl, rfl, rfl, by decide +kernel, rfl, by decide +kernel, by decide +kernel⟩
abbrev s_Sample_mark : Stmt := inClass (top 33) 9
theorem sc_Sample_mark : FnScope ["self", "word"] ["self", "word"] (defScope s_Sample_mark) := ⟨rfl, rfl, rfl, by decide +kernel, rfl, by decide +kernel, by decide +kernel⟩
abbrev s_Sample_adding : Stmt := inClass (top 33) 10
theorem sc_Sample_adding : FnScope ["self", "mark", "words"] ["self", "mark", "words"] (defScope s_Sample_adding) := ⟨rfl, rfl, rfl, by decide +kernel, rfl, by decide +kernel, by decide +kernel⟩
abbrev s_Sample_without : Stmt := inClass (top 33) 11
theorem sc_Sample_without : FnScope ["self", "words"] ["self", "words"] (defScope s_Sample_without) := ⟨rfl, rfl, rfl, by decide +kernel, rfl, by decide +kernel, by decide +kernel⟩
abbrev s_law_pen : Stmt := top 35
theorem sc_law_pen : FnScope ["script"] ["script"] (defScope s_law_pen) := ⟨rfl, rfl, rfl, by decide +kernel, rfl, by decide +kernel, by decide +kernel⟩
abbrev s_law_draw : Stmt := top 36
theorem sc_law_draw : FnScope ["pen", "many", "digit", "spot", "cell", "mix"] ["pen", "many"] (defScope s_law_draw) := ⟨rfl, rfl, rfl, by decide +kernel, rfl, by decide +kernel, by decide +kernel⟩
abbrev s_law_pick : Stmt := top 37
theorem sc_law_pick : FnScope ["pen", "some"] ["pen", "some"] (defScope s_law_pick) := ⟨rfl, rfl, rfl, by decide +kernel, rfl, by decide +kernel, by decide +kernel⟩
abbrev s_law_shuffled : Stmt := top 38
theorem sc_law_shuffled : FnScope ["pen", "some", "rest", "found"] ["pen", "some"] (defScope s_law_shuffled) := ⟨rfl, rfl, rfl, by decide +kernel, rfl, by decide +kernel, by decide +kernel⟩
abbrev s_law_letters : Stmt := top 39
theorem sc_law_letters : FnScope ["pen", "most", "alphabet", "places", "at"] ["pen", "most"] (defScope s_law_letters) := ⟨rfl, rfl, rfl, by decide +kernel, rfl, by decide +kernel, by decide +kernel⟩
abbrev s_law_word : Stmt := top 40
theorem sc_law_word : FnScope ["pen", "letters", "most", "at"] ["pen", "letters", "most"] (defScope s_law_word) := ⟨rfl, rfl, rfl, by decide +kernel, rfl, by decide +kernel, by decide +kernel⟩
abbrev s_law_sorted : Stmt := top 41
theorem sc_law_sorted : FnScope ["words", "size", "word"] ["words"] (defScope s_law_sorted) := ⟨rfl, rfl, rfl, by decide +kernel, rfl, by decide +kernel, by decide +kernel⟩
abbrev s_law_table : Stmt := top 42
theorem sc_law_table : FnScope ["pen", "letters", "size", "is_full", "rows", "marks", "state", "row", "letter", "target"] ["pen", "letters", "size", "is_full"] (defScope s_law_table) := ⟨rfl, rfl, rfl, by decide +kernel, rfl, by decide +kernel, by decide +kernel⟩
abbrev s_law_led : Stmt := top 43
theorem sc_law_led : FnScope ["letters", "rows", "word", "state", "letter"] ["letters", "rows", "word"] (defScope s_law_led) := ⟨rfl, rfl, rfl, by decide +kernel, rfl, by decide +kernel, by decide +kernel⟩
abbrev s_law_raw : Stmt := top 44
theorem sc_law_raw : FnScope ["pen", "most_letters", "many", "most", "letters", "words", "rows", "marks", "is_random", "yes", "no", "word", "sign", "at"] ["pen", "most_letters", "many", "most"] (defScope s_law_raw) := ⟨rfl, rfl, rfl, by decide +kernel, rfl, by decide +kernel, by decide +kernel⟩
abbrev s_law_made : Stmt := top 45
theorem sc_law_made : FnScope ["raw"] ["raw"] (defScope s_law_made) := ⟨rfl, rfl, rfl, by decide +kernel, rfl, by decide +kernel, by decide +kernel⟩
abbrev s_law_prefixes : Stmt := top 46
theorem sc_law_prefixes : FnScope ["raw", "found", "word", "end"] ["raw"] (defScope s_law_prefixes) := ⟨rfl, rfl, rfl, by decide +kernel, rfl, by decide +kernel, by decide +kernel⟩
abbrev s_law_odd : Stmt := top 47
theorem sc_law_odd : FnScope ["pen", "some"] ["pen"] (defScope s_law_odd) := ⟨rfl, rfl, rfl, by decide +kernel, rfl, by decide +kernel, by decide +kernel⟩
abbrev s_law_mixed : Stmt := top 48
theorem sc_law_mixed : FnScope ["pen", "words"] ["pen", "words"] (defScope s_law_mixed) := ⟨rfl, rfl, rfl, by decide +kernel, rfl, by decide +kernel, by decide +kernel⟩
abbrev s_law : Stmt := top 49
theorem sc_law : FnScope ["script", "pen", "known", "bout", "raw", "yes", "no", "sample", "told", "due", "value", "mark", "other", "sign", "empty"] ["script"] (defScope s_law) := ⟨rfl, rfl, rfl, by decide +kernel, rfl, by decide +kernel, by decide +kernel⟩
end Toy


set_option Elab.async false
set_option linter.all false
set_option maxRecDepth 100000
set_option maxHeartbeats 4000000
namespace Toy
open PySem PySem.Spec PyProof.Rows L2 LamX Wf
section
variable {P : Program} {w : World} {K : PySem.W.Frag} {mg : Str → Option Value} {base : Heap} {T : List (Addr × Str)} {f : Addr} {fd : FuncData}
def drawPre (ts : List Tr) : Prop := ∃ n : Int, ts = [.int n] ∧ 1 ≤ n ∧ n < 1073741824
def drawPost (ts : List Tr) (t : Tr) : Prop := ∃ n i : Int, ts = [.int n] ∧ t = .int i ∧ 0 ≤ i ∧ i < n
theorem mod_lt' {a b : Int} (h : 0 < b) : 0 ≤ a % b ∧ a % b < b := ⟨Int.emod_nonneg a (by omega), Int.emod_lt_of_pos a h⟩
theorem div_nn {a b : Int} (h : 0 ≤ a) (hb : 0 < b) : 0 ≤ a / b := Int.ediv_nonneg h (by omega)
theorem cmulL {i j : Int} (h1 : 0 ≤ i) (h2 : i < 18446744073709551616) : CMul i j := .inl ⟨by omega, by omega⟩
theorem cmulR {i j : Int} (h1 : 0 ≤ j) (h2 : j < 18446744073709551616) : CMul i j := .inr ⟨by omega, by omega⟩
theorem atI_map {ns : List Int} {i : Int} (h0 : 0 ≤ i) (h : i < ns.length) : ∃ n, atI (ns.map Tr.int) i = some (.int n) := by
  have hl : i.toNat < ns.length := by omega
  refine ⟨ns[i.toNat], ?_⟩
  unfold atI ixN
  rw [List.length_map, if_pos h0, if_pos h]
  show (ns.map Tr.int)[i.toNat]? = _
  rw [List.getElem?_map]
  simp [hl]
theorem ok_draw (F : Fun K "_law_draw" "_law_draw" s_law_draw f fd) (zL : mg "len" = none) (zA : mg "abs" = none) : FnOk P w K mg base CX0 2 f fd ["pen", "many"] (spP K T drawPre (fun _ => 1) drawPost) := by
  refine ok_P F sc_law_draw (by rintro _ ⟨n, rfl, _⟩; rfl) (by decide) (fun cdv A outer s H E m p c ts hr hp hc => ?_)
  obtain ⟨n, rfl, h1, h2⟩ := hp
  have hu := hu_of hr
  have hu2 := hr.units
  refine ss_cons ?_
  refine s_if ?_
  refine et_cmp cd_gt ?_
  refine ee_penMore 0 hu rfl rfl fun mo hmo => ?_
  refine ee_int ?_
  refine ⟨_, _, rfl, rfl, fun h => ?_, fun h => ?_⟩
  · refine ss_cons (s_asg 2 sc_law_draw.nd rfl ?_)
    refine ee_mod (ee_penMore 0 hu rfl rfl fun mo2 hm2 => ?_)
    refine ee_name 1 rfl rfl ⟨_, _, rfl, rfl, by omega, ?_⟩
    have hb := mod_lt' (a := mo2) (b := n) (by omega)
    refine ss_cons (s_penMore 0 hu rfl rfl ?_)
    refine ee_fdiv (ee_penMore 0 hu rfl rfl fun mo3 hm3 => ?_)
    refine ee_name 1 rfl rfl ⟨_, _, rfl, rfl, ⟨by omega, by omega⟩, ?_⟩
    refine ⟨_, _, rfl, div_nn hm3 (by omega), rfl, ?_⟩
    refine ss_one (s_ret (ee_name 2 rfl rfl ?_))
    exact ⟨⟨_, _, rfl, rfl, hb.1, hb.2⟩, c, Nat.le_succ _, rfl⟩
  · refine ss_nil ?_
    refine ss_cons (s_asg 3 sc_law_draw.nd rfl ?_)
    refine ee_penSpot 0 hu rfl rfl fun sp hs1 hs2 => ?_
    have hspm : sp < 18446744073709551616 := by
      have : c + 1 ≤ 1000000000 := hc
      omega
    refine ss_cons (s_penSpot 0 hu rfl rfl ?_)
    refine ee_add (ee_name 3 rfl rfl (ee_int ⟨_, _, rfl, rfl, ?_⟩))
    refine ⟨_, c, c + 1, rfl, by omega, by omega, rfl, ?_⟩
    refine ss_cons (s_asg 4 sc_law_draw.nd rfl ?_)
    -- the cell: some number
    refine EE.mono (Φ := fun t Δ' => (∃ z : Int, t = .int z) ∧ Δ' = slots ["pen", "many", "digit", "spot", "cell", "mix"] [.pen p (c + 1), .dat (.int n), .any, .dat (.int sp)]) ?_ ?_
    · refine ee_if ?_
      refine et_cmp (cd_neD hu2) ?_
      refine ee_penCells 0 hu rfl rfl fun hl => ?_
      refine (eo_lst (ea_nil ⟨Nat.zero_le _, ?_⟩)).ee
      refine ⟨(good_ints (d := 1)).eqOk, (good_ints (ns := []) (d := 1)).eqOk, fun h => ?_, fun h => ?_⟩
      · have hne : 0 < p.cs.length := by
          have h := h
          rw [eqv_nil] at h
          cases e : p.cs with
          | nil => rw [e] at h; cases h
          | cons _ _ => simp
        refine ee_ixL (ee_penCells 0 hu rfl rfl fun hl => ?_)
        refine ee_mod (ee_name 3 rfl rfl ?_)
        refine ee_callB cl_len rfl zL PySem.boot_len (ea_cons (ee_penCells 0 hu rfl rfl fun hl => ea_nil ?_))
        have hb := mod_lt' (a := sp) (b := (p.cs.length : Int)) (by omega)
        obtain ⟨z, hz⟩ := atI_map (ns := p.cs) hb.1 hb.2
        refine ⟨_, rfl, _, .inl rfl, _, _, rfl, rfl, ?_, _, _, _, rfl, rfl, ?_, ⟨z, rfl⟩, rfl⟩
        · rw [List.length_map]; omega
        · rw [List.length_map]; exact hz
      · refine ee_add (ee_mul (ee_int (ee_name 3 rfl rfl ⟨_, _, rfl, rfl, cmulL (by decide) (by decide), ee_int ⟨_, _, rfl, rfl, ⟨_, rfl⟩, rfl⟩⟩)))
    rintro _ _ ⟨⟨cell, rfl⟩, rfl⟩
    refine ss_cons (s_if ?_)
    refine et_and2 ?_
    refine et_cmp cd_lt (ee_name 3 rfl rfl ?_)
    refine ee_callB cl_len rfl zL PySem.boot_len (ea_cons (ee_penCells 0 hu rfl rfl fun hl => ea_nil ⟨_, rfl, _, .inl rfl, ?_⟩))
    have tail : SS (cxOf CX0 P w K mg base ["pen", "many", "digit", "spot", "cell", "mix"] "_law_draw" (defScope s_law_draw) f cdv A outer s H E).nox (bP T p H m) ⟨m, fun b => b = p.l⟩ [.pen p (c + 1), .dat (.int n), .any, .dat (.int sp), .dat (.int cell), .any] ((defBody s_law_draw).drop 5)
        ⟨fun _ Δ' => drawPost [.int n] .non ∧ ∃ c', c' ≤ c + 1 ∧ Δ'[0]? = some (.pen p c'), fun t Δ' => drawPost [.int n] t ∧ ∃ c', c' ≤ c + 1 ∧ Δ'[0]? = some (.pen p c'), fun _ _ => False, fun _ _ => False⟩ := by
      have b1 := mod_lt' (a := cell) (b := 2147483647) (by decide)
      refine ss_cons (s_asg 5 sc_law_draw.nd rfl ?_)
      refine EE.mono (Φ := fun t Δ' => (∃ z : Int, t = .int z ∧ 0 ≤ z ∧ z < 2147483629) ∧ Δ' = [.pen p (c + 1), .dat (.int n), .any, .dat (.int sp), .dat (.int cell), .any]) ?_ ?_
      · 
        refine ee_mod ?_
        refine ee_add ?_
        refine ee_add ?_
        refine ee_add ?_
        refine ee_mul ?_
        refine ee_mod ?_
        refine ee_name 4 rfl rfl ?_
        refine ee_int ?_
        refine ⟨_, _, rfl, rfl, (by first | decide | omega | assumption), ?_⟩
        refine ee_int ?_
        refine ⟨_, _, rfl, rfl, (by first | exact cmulL (by decide) (by decide) | exact cmulR (by decide) (by decide) | (apply cmulL <;> omega) | (apply cmulR <;> omega)), ?_⟩
        refine ee_mul ?_
        refine ee_mul ?_
        refine ee_int ?_
        refine ee_name 3 rfl rfl ?_
        refine ⟨_, _, rfl, rfl, (by first | exact cmulL (by decide) (by decide) | exact cmulR (by decide) (by decide) | (apply cmulL <;> omega) | (apply cmulR <;> omega)), ?_⟩
        refine ee_name 3 rfl rfl ?_
        refine ⟨_, _, rfl, rfl, (by first | exact cmulL (by decide) (by decide) | exact cmulR (by decide) (by decide) | (apply cmulL <;> omega) | (apply cmulR <;> omega)), ?_⟩
        refine ⟨_, _, rfl, rfl, ?_⟩
        refine ee_mul ?_
        refine ee_int ?_
        refine ee_name 3 rfl rfl ?_
        refine ⟨_, _, rfl, rfl, (by first | exact cmulL (by decide) (by decide) | exact cmulR (by decide) (by decide) | (apply cmulL <;> omega) | (apply cmulR <;> omega)), ?_⟩
        refine ⟨_, _, rfl, rfl, ?_⟩
        refine ee_int ?_
        refine ⟨_, _, rfl, rfl, ?_⟩
        refine ee_int ?_
        refine ⟨_, _, rfl, rfl, (by first | decide | omega | assumption), ?_⟩
        exact ⟨⟨_, rfl, mod_lt' (by decide)⟩, rfl⟩
      rintro _ _ ⟨⟨mix, rfl, m1, m2⟩, rfl⟩
      refine ss_cons (s_asg 5 sc_law_draw.nd rfl ?_)
      refine EE.mono (Φ := fun t Δ' => (∃ z : Int, t = .int z ∧ 0 ≤ z ∧ z < 2147483587) ∧ Δ' = [.pen p (c + 1), .dat (.int n), .any, .dat (.int sp), .dat (.int cell), .dat (.int mix)]) ?_ ?_
      · 
        refine ee_mod ?_
        refine ee_add ?_
        refine ee_add ?_
        refine ee_add ?_
        refine ee_mul ?_
        refine ee_name 5 rfl rfl ?_
        refine ee_name 5 rfl rfl ?_
        refine ⟨_, _, rfl, rfl, (by first | exact cmulL (by decide) (by decide) | exact cmulR (by decide) (by decide) | (apply cmulL <;> omega) | (apply cmulR <;> omega)), ?_⟩
        refine ee_mul ?_
        refine ee_int ?_
        refine ee_name 5 rfl rfl ?_
        refine ⟨_, _, rfl, rfl, (by first | exact cmulL (by decide) (by decide) | exact cmulR (by decide) (by decide) | (apply cmulL <;> omega) | (apply cmulR <;> omega)), ?_⟩
        refine ⟨_, _, rfl, rfl, ?_⟩
        refine ee_mul ?_
        refine ee_int ?_
        refine ee_name 3 rfl rfl ?_
        refine ⟨_, _, rfl, rfl, (by first | exact cmulL (by decide) (by decide) | exact cmulR (by decide) (by decide) | (apply cmulL <;> omega) | (apply cmulR <;> omega)), ?_⟩
        refine ⟨_, _, rfl, rfl, ?_⟩
        refine ee_int ?_
        refine ⟨_, _, rfl, rfl, ?_⟩
        refine ee_int ?_
        refine ⟨_, _, rfl, rfl, (by first | decide | omega | assumption), ?_⟩
        exact ⟨⟨_, rfl, mod_lt' (by decide)⟩, rfl⟩
      rintro _ _ ⟨⟨mix, rfl, m1, m2⟩, rfl⟩
      refine ss_one (s_ret ?_)
      refine ee_mod ?_
      refine ee_fdiv ?_
      refine ee_mod ?_
      refine ee_mul ?_
      refine ee_name 5 rfl rfl ?_
      refine ee_add ?_
      refine ee_name 5 rfl rfl ?_
      refine ee_int ?_
      refine ⟨_, _, rfl, rfl, ?_⟩
      refine ⟨_, _, rfl, rfl, (by first | exact cmulL (by decide) (by decide) | exact cmulR (by decide) (by decide) | (apply cmulL <;> omega) | (apply cmulR <;> omega)), ?_⟩
      refine ee_int ?_
      refine ⟨_, _, rfl, rfl, (by first | decide | omega | assumption), ?_⟩
      refine ee_int ?_
      refine ⟨_, _, rfl, rfl, ⟨by omega, by omega⟩, ?_⟩
      refine ee_name 1 rfl rfl ?_
      refine ⟨_, _, rfl, rfl, (by first | decide | omega | assumption), ?_⟩
      exact ⟨⟨_, _, rfl, rfl, mod_lt' (by omega)⟩, c + 1, Nat.le_refl _, rfl⟩
    refine ⟨_, _, rfl, rfl, fun hk => ?_, fun hk => ⟨fun z => Bool.noConfusion z, fun _ => ss_nil ?_⟩⟩
    · refine et_cmp cd_ge ?_
      refine ee_callB cl_abs rfl zA PyProof.Rows.boot_abs (ea_cons ?_)
      refine ee_name 4 rfl rfl ?_
      refine ea_nil ⟨_, rfl, ?_⟩
      refine ee_pow ?_
      refine ee_int ?_
      refine ee_int ?_
      refine ⟨_, _, rfl, rfl, ⟨by decide, by decide, by decide⟩, ?_⟩
      refine ⟨_, _, rfl, rfl, fun hk2 => ?_, fun _ => ss_nil tail⟩
      have hk3 := of_decide_eq_true hk2
      refine ss_cons (s_penMore 0 hu rfl rfl ?_)
      refine ee_fdiv ?_
      refine ee_sub ?_
      refine ee_callB cl_abs rfl zA PyProof.Rows.boot_abs (ea_cons ?_)
      refine ee_name 4 rfl rfl ?_
      refine ea_nil ⟨_, rfl, ?_⟩
      refine ee_pow ?_
      refine ee_int ?_
      refine ee_int ?_
      refine ⟨_, _, rfl, rfl, ⟨by decide, by decide, by decide⟩, ?_⟩
      refine ⟨_, _, rfl, rfl, ?_⟩
      refine ee_name 1 rfl rfl ?_
      refine ⟨_, _, rfl, rfl, ⟨by omega, by omega⟩, ?_⟩
      refine ⟨_, c + 1, rfl, div_nn (by omega) (by omega), rfl, ?_⟩
      refine ss_one (s_ret ?_)
      refine ee_mod ?_
      refine ee_sub ?_
      refine ee_callB cl_abs rfl zA PyProof.Rows.boot_abs (ea_cons ?_)
      refine ee_name 4 rfl rfl ?_
      refine ea_nil ⟨_, rfl, ?_⟩
      refine ee_pow ?_
      refine ee_int ?_
      refine ee_int ?_
      refine ⟨_, _, rfl, rfl, ⟨by decide, by decide, by decide⟩, ?_⟩
      refine ⟨_, _, rfl, rfl, ?_⟩
      refine ee_name 1 rfl rfl ?_
      refine ⟨_, _, rfl, rfl, (by first | decide | omega | assumption), ?_⟩
      exact ⟨⟨_, _, rfl, rfl, mod_lt' (by omega)⟩, c + 1, Nat.le_refl _, rfl⟩
    · exact tail
end
end Toy

set_option Elab.async false
set_option linter.all false
set_option maxRecDepth 100000
set_option maxHeartbeats 4000000
namespace Toy
open PySem PySem.Spec PyProof.Rows L2 LamX Wf
section
variable {P : Program} {w : World} {K : PySem.W.Frag} {mg : Str → Option Value} {base : Heap} {T : List (Addr × Str)} {f : Addr} {fd : FuncData}
abbrev FnDraw (P : Program) (w : World) (K : PySem.W.Frag) (mg : Str → Option Value) (base : Heap) (T : List (Addr × Str)) : Prop := Fn P w K mg base "_law_draw" 2 ["pen", "many"] (spP K T drawPre (fun _ => 1) drawPost)
/-! ### _law_pick -/
def pickPre (ts : List Tr) : Prop := (∃ us : List Tr, (ts = [.lst us] ∨ ts = [.tup us]) ∧ 0 < us.length ∧ us.length < 1073741824) ∨ ∃ z : Str, ts = [.str z] ∧ 0 < z.length ∧ z.length ≤ sizeLine
def pickPost (ts : List Tr) (t : Tr) : Prop := (∃ us : List Tr, (ts = [.lst us] ∨ ts = [.tup us]) ∧ t ∈ us) ∨ ∃ (z : Str) (c : Nat), ts = [.str z] ∧ c ∈ z.cps.toList ∧ t = .str ⟨#[c]⟩
theorem atI_mem {α : Type} {us : List α} {i : Int} (h0 : 0 ≤ i) (h : i < us.length) : ∃ t, atI us i = some t ∧ t ∈ us := by
  have hl : i.toNat < us.length := by omega
  refine ⟨us[i.toNat], ?_, List.getElem_mem _⟩
  unfold atI ixN
  rw [if_pos h0, if_pos h]
  show us[i.toNat]? = _
  simp [hl]
theorem strLen (z : Str) : z.cps.toList.length = z.length := by simp [Str.length]
theorem ok_pick (F : Fun K "_law_pick" "_law_pick" s_law_pick f fd) (zL : mg "len" = none) (Fd : FnDraw P w K mg base T) : FnOk P w K mg base CX0 3 f fd ["pen", "some"] (spP K T pickPre (fun _ => 1) pickPost) := by
  refine ok_P F sc_law_pick (by rintro _ (⟨us, rfl | rfl, _⟩ | ⟨z, rfl, _⟩) <;> rfl) (by decide) (fun cdv A outer s H E m p c ts hr hp hc => ?_)
  have hsl : sizeLine = 16777216 := sizeLine_eq
  refine ss_one (s_ret ?_)
  rcases hp with ⟨us, rfl | rfl, h1, h2⟩ | ⟨z, rfl, h1, h2⟩
  · refine ee_ixL (ee_name 1 rfl rfl ?_)
    refine ee_callP 0 rfl rfl Fd hr rfl ?_
    refine ea_cons (ee_callB cl_len rfl zL PySem.boot_len (ea_cons (ee_name 1 rfl rfl (ea_nil ⟨_, rfl, us, .inl rfl, ea_nil ?_⟩))))
    refine ⟨c, rfl, ⟨_, rfl, by omega, by omega⟩, hc, ?_⟩
    rintro _ ⟨n, i, e, rfl, h3, h4⟩
    cases e
    obtain ⟨t, e1, e2⟩ := atI_mem h3 h4
    exact ⟨us, i, t, rfl, rfl, e1, .inl ⟨us, .inl rfl, e2⟩, c + 1, Nat.le_refl _, rfl⟩
  · refine ee_ixT (ee_name 1 rfl rfl ?_)
    refine ee_callP 0 rfl rfl Fd hr rfl ?_
    refine ea_cons (ee_callB cl_len rfl zL PySem.boot_len (ea_cons (ee_name 1 rfl rfl (ea_nil ⟨_, rfl, us, .inr rfl, ea_nil ?_⟩))))
    refine ⟨c, rfl, ⟨_, rfl, by omega, by omega⟩, hc, ?_⟩
    rintro _ ⟨n, i, e, rfl, h3, h4⟩
    cases e
    obtain ⟨t, e1, e2⟩ := atI_mem h3 h4
    exact ⟨us, i, t, rfl, rfl, e1, .inl ⟨us, .inr rfl, e2⟩, c + 1, Nat.le_refl _, rfl⟩
  · refine ee_ixS (ee_name 1 rfl rfl ?_)
    refine ee_callP 0 rfl rfl Fd hr rfl ?_
    refine ea_cons (ee_callB cl_lenS rfl zL PySem.boot_len (ea_cons (ee_name 1 rfl rfl (ea_nil ⟨_, rfl, h2, ea_nil ?_⟩))))
    refine ⟨c, rfl, ⟨_, rfl, by omega, by omega⟩, hc, ?_⟩
    rintro _ ⟨n, i, e, rfl, h3, h4⟩
    cases e
    obtain ⟨t, e1, e2⟩ := atI_mem (us := z.cps.toList) h3 (by rw [strLen]; exact h4)
    exact ⟨z, i, t, rfl, rfl, h2, e1, .inr ⟨z, t, rfl, e2, rfl⟩, c + 1, Nat.le_refl _, rfl⟩
/-! ### _law_shuffled -/
def shufPre (ts : List Tr) : Prop := ∃ us : List Tr, (ts = [.lst us] ∨ ts = [.tup us]) ∧ us.length ≤ 100000 ∧ ∀ u ∈ us, u.good 8
def shufCost (ts : List Tr) : Nat := match ts with | [.lst us] => us.length | [.tup us] => us.length | _ => 0
def shufPost (ts : List Tr) (t : Tr) : Prop := ∃ us vs : List Tr, (ts = [.lst us] ∨ ts = [.tup us]) ∧ t = .lst vs ∧ vs.Perm us
theorem perm_cons_erase {α : Type} : ∀ {us : List α} {n : Nat} {u : α}, us[n]? = some u → (u :: us.eraseIdx n).Perm us
  | [], _, _, h => by simp at h
  | a :: us, 0, u, h => by
    obtain rfl : a = u := Option.some.inj h
    exact List.Perm.refl _
  | a :: us, n + 1, u, h => (List.Perm.swap a u _).trans ((perm_cons_erase (us := us) (n := n) h).cons a)
theorem perm_erase {α : Type} {us ts : List α} {n : Nat} {u : α} (h : us[n]? = some u) : (us.eraseIdx n ++ (ts ++ [u])).Perm (us ++ ts) := by
  have h1 : (u :: us.eraseIdx n).Perm us := perm_cons_erase h
  have h2 : (us.eraseIdx n ++ (ts ++ [u])).Perm (u :: (us.eraseIdx n ++ ts)) := by
    rw [← List.append_assoc]
    exact List.perm_append_singleton u _
  exact h2.trans (List.Perm.append_right ts h1)
theorem ok_shuffled (F : Fun K "_law_shuffled" "_law_shuffled" s_law_shuffled f fd) (zL : mg "len" = none) (zT : mg "list" = none) (Fd : FnDraw P w K mg base T) : FnOk P w K mg base CX0 3 f fd ["pen", "some"] (spP K T shufPre shufCost shufPost) := by
  refine ok_P F sc_law_shuffled (by rintro _ ⟨us, rfl | rfl, _⟩ <;> rfl) (by decide) (fun cdv A outer s H E m p c ts hr hp hc => ?_)
  have hsl : sizeLine = 16777216 := sizeLine_eq
  obtain ⟨us, hts, h1, h2⟩ := hp
  have hcost : shufCost ts = us.length := by rcases hts with rfl | rfl <;> rfl
  obtain ⟨t0, rfl, ht0⟩ : ∃ t0, ts = [t0] ∧ (t0 = .lst us ∨ t0 = .tup us) := by rcases hts with rfl | rfl <;> exact ⟨_, rfl, by simp⟩
  refine ss_cons (s_parOO 2 3 (fun ta ha => ps_par rfl sc_law_shuffled.nd rfl rfl (by decide) rfl rfl ha (by rfl)) (by decide) ?_)
  refine eo_callTy co_list rfl zT (by decide +kernel) (ea_cons (ee_name 1 rfl rfl (ea_nil ⟨us, by rcases ht0 with rfl | rfl <;> simp, fun l1 hl1 => ?_⟩)))
  refine eo_lst (ea_nil ⟨Nat.zero_le _, fun l2 hl2 h21 => ⟨rfl, ?_⟩⟩)
  refine ss_cons (s_while PassesOwn.never (fun n M' Δ' => ∃ xs ys c', M' = ins (ins ⟨m, fun b => b = p.l⟩ l1) l2 ∧ Δ' = [.pen p c', .dat t0, .own l1 (.lst xs), .own l2 (.lst ys)] ∧ (xs ++ ys).Perm us ∧ n = xs.length ∧ c' + xs.length = c + us.length) us.length ⟨us, [], c, rfl, rfl, by rw [List.append_nil], rfl, rfl⟩ ?_)
  rintro n _ _ ⟨xs, ys, c', rfl, rfl, hp, rfl, hc'⟩
  have hlen := hp.length_eq
  rw [List.length_append] at hlen
  refine ET.borrow 2 rfl ?_
  refine et_cmp (cd_neD hr.units) (ee_name 2 rfl rfl (eo_lst (ea_nil ⟨Nat.zero_le _, ?_⟩)).ee)
  refine ⟨(good_lst (d := 8) fun u hu => h2 u (hp.mem_iff.mp (List.mem_append_left _ hu))).eqOk, (good_ints (ns := []) (d := 1)).eqOk, rfl, ?_⟩
  rw [eqv_nil]
  refine ⟨fun h => ?_, fun h => ?_⟩
  · have hx : 0 < xs.length := by
      cases xs with
      | nil => cases h
      | cons _ _ => simp
    refine ss_one (s_appendPop 3 2 rfl rfl rfl rfl (by decide) ?_)
    refine ee_callP 0 rfl rfl Fd hr rfl ?_
    refine ea_cons (EE.borrow 2 rfl (ee_callB cl_len rfl zL PySem.boot_len (ea_cons (ee_name 2 rfl rfl (ea_nil ⟨_, rfl, xs, .inl rfl, rfl, rfl, ea_nil ?_⟩)))))
    refine ⟨c', rfl, ⟨_, rfl, by omega, by omega⟩, by rw [hcost] at hc; show c' + 1 ≤ penMax; omega, ?_⟩
    rintro _ ⟨k, i, e, rfl, h3, h4⟩
    cases e
    have hi : i.toNat < xs.length := by omega
    refine ⟨i.toNat, ys, xs, xs[i.toNat], by rw [Int.toNat_of_nonneg h3], by simp [hi], rfl, rfl, by omega, by omega, ?_⟩
    refine ⟨xs.length - 1, by omega, xs.eraseIdx i.toNat, ys ++ [xs[i.toNat]], c' + 1, rfl, rfl, (perm_erase (by simp [hi])).trans hp, by rw [List.length_eraseIdx, if_pos hi], by rw [List.length_eraseIdx, if_pos hi]; omega⟩
  · have hx : xs = [] := by
      cases xs with
      | nil => rfl
      | cons _ _ => cases h
    subst hx
    refine ss_share 3 rfl (ss_one (s_ret (ee_name 3 rfl rfl ?_)))
    exact ⟨⟨us, ys, by rcases ht0 with rfl | rfl <;> simp, rfl, hp⟩, c', by rw [hcost]; simp at hc'; omega, rfl⟩
end
end Toy

set_option Elab.async false
set_option linter.all false
set_option maxRecDepth 100000
set_option maxHeartbeats 4000000
namespace Toy
open PySem PySem.Spec PyProof.Rows L2 LamX Wf
section
variable {P : Program} {w : World} {K : PySem.W.Frag} {mg : Str → Option Value} {base : Heap} {T : List (Addr × Str)} {f : Addr} {fd : FuncData}
/-- letters: at most n different ones, in order -/
def IsLets (ls : List Nat) (n : Nat) : Prop := 1 ≤ ls.length ∧ ls.length ≤ n ∧ ls.Pairwise (· < ·) ∧ ∀ k ∈ ls, 97 ≤ k ∧ k < 123
abbrev FnShuf (P : Program) (w : World) (K : PySem.W.Frag) (mg : Str → Option Value) (base : Heap) (T : List (Addr × Str)) : Prop := Fn P w K mg base "_law_shuffled" 3 ["pen", "some"] (spP K T shufPre shufCost shufPost)
abbrev FnPick (P : Program) (w : World) (K : PySem.W.Frag) (mg : Str → Option Value) (base : Heap) (T : List (Addr × Str)) : Prop := Fn P w K mg base "_law_pick" 3 ["pen", "some"] (spP K T pickPre (fun _ => 1) pickPost)
def letPre (ts : List Tr) : Prop := ∃ n : Nat, ts = [.int n] ∧ 1 ≤ n ∧ n ≤ 26
def letPost (ts : List Tr) (t : Tr) : Prop := ∃ (n : Nat) (ls : List Nat), ts = [.int n] ∧ t = .str (txt ls) ∧ IsLets ls n
theorem perm_ints {vs : List Tr} {ns : List Int} (h : vs.Perm (ns.map Tr.int)) : ∃ ms : List Int, vs = ms.map Tr.int ∧ ms.Perm ns := by
  have key : ∀ {vs us : List Tr}, vs.Perm us → (∀ t ∈ us, ∃ n, t = Tr.int n) → ∃ ms : List Int, vs = ms.map Tr.int := fun {vs us} h hu => by
    have : ∀ t ∈ vs, ∃ n, t = Tr.int n := fun t ht => hu t (h.mem_iff.mp ht)
    clear h hu
    induction vs with
    | nil => exact ⟨[], rfl⟩
    | cons v vs ih =>
      obtain ⟨n, rfl⟩ := this v List.mem_cons_self
      obtain ⟨ms, rfl⟩ := ih fun t ht => this t (List.mem_cons_of_mem _ ht)
      exact ⟨n :: ms, rfl⟩
  obtain ⟨ms, rfl⟩ := key h fun t ht => by
    obtain ⟨n, _, e⟩ := List.mem_map.mp ht
    exact ⟨n, e.symm⟩
  refine ⟨ms, rfl, ?_⟩
  have g : Tr → Int := fun t => match t with | .int i => i | _ => 0
  have h2 := h.map (fun t : Tr => match t with | .int i => i | _ => (0 : Int))
  rw [List.map_map, List.map_map] at h2
  have e : ((fun t : Tr => match t with | .int i => i | _ => (0 : Int)) ∘ Tr.int) = id := by funext i; rfl
  rw [e, List.map_id, List.map_id] at h2
  exact h2
theorem cut_take {α : Type} {xs : List α} {k : Nat} : cutL xs none (some (k : Int)) = xs.take k := by
  unfold cutL
  rw [HT.sIx_nat, HT.sIx_none, List.drop_zero, Nat.sub_zero]
  by_cases h : k ≤ xs.length
  · rw [Nat.min_eq_left h]
  · rw [Nat.min_eq_right (by omega), List.take_of_length_le (by omega), List.take_of_length_le (by omega)]
abbrev alphaS : Str := "abcdefghijklmnopqrstuvwxyz"
theorem alpha_at {i : Int} (h0 : 0 ≤ i) (h : i < 26) : atI alphaS.cps.toList i = some (i.toNat + 97) := by
  have hl : alphaS.cps.toList.length = 26 := by decide +kernel
  unfold atI ixN
  rw [hl, if_pos h0, if_pos (by omega)]
  show alphaS.cps.toList[i.toNat]? = _
  have key : ∀ j : Nat, j < 26 → alphaS.cps.toList[j]? = some (j + 97) := by decide +kernel
  exact key _ (by omega)
theorem ok_letters (F : Fun K "_law_letters" "_law_letters" s_law_letters f fd) (zT : mg "list" = none) (zR : mg "range" = none) (zS : mg "sorted" = none) (Fd : FnDraw P w K mg base T) (Fs : FnShuf P w K mg base T) :
    FnOk P w K mg base CX0 4 f fd ["pen", "most"] (spP K T letPre (fun _ => 27) letPost) := by
  refine ok_P F sc_law_letters (by rintro _ ⟨n, rfl, _⟩; rfl) (by decide) (fun cdv A outer s H E m p c ts hr hp hc => ?_)
  obtain ⟨n, rfl, h1, h2⟩ := hp
  have hc' : c + 27 ≤ 1000000000 := hc
  have hsl : sizeLine = 16777216 := sizeLine_eq
  refine ss_cons (s_asg 2 sc_law_letters.nd rfl (ee_str ?_))
  refine ss_cons (s_asg 3 sc_law_letters.nd rfl (EO.ee ?_))
  refine eo_callB co_sortedI rfl zS (by decide +kernel) (ea_cons (EO.ee (eo_slL ?_)))
  refine ee_callP 0 rfl rfl Fs hr rfl ?_
  refine ea_cons (EO.ee (eo_listRange rfl rfl zT rfl zR (ee_int ⟨26, rfl, by decide, by decide, ea_nil ?_⟩)))
  have e26 : ((List.range (26 : Int).toNat).map fun i : Nat => Tr.int i) = ((List.range 26).map fun i : Nat => (i : Int)).map Tr.int := by rw [List.map_map]; rfl
  rw [e26]
  refine ⟨c, rfl, ⟨_, .inl rfl, by simp, fun u hu => ?_⟩, ?_, ?_⟩
  · obtain ⟨k, _, rfl⟩ := List.mem_map.mp hu
    exact good_int
  · show c + ((((List.range 26).map fun i : Nat => (i : Int)).map Tr.int)).length ≤ penMax
    simp
    omega
  rintro _ ⟨us, vs, hus, rfl, hperm⟩
  have hus' : us = ((List.range 26).map fun i : Nat => (i : Int)).map Tr.int := by
    rcases hus with e | e
    · cases e; rfl
    · cases e
  subst hus'
  obtain ⟨ms, rfl, hms⟩ := perm_ints hperm
  refine ⟨_, rfl, ep_no (ep_some (ee_add (ee_int ?_)))⟩
  refine ee_callP 0 rfl rfl Fd (hr.mono (by decide)) rfl ?_
  refine ea_cons (ee_name 1 rfl rfl (ea_nil ?_))
  refine ⟨c + 26, rfl, ⟨_, rfl, by omega, by omega⟩, by show c + 26 + 1 ≤ penMax; omega, ?_⟩
  rintro _ ⟨n', i, e, rfl, h3, h4⟩
  cases e
  obtain ⟨k, rfl⟩ : ∃ k : Nat, i = (k : Int) := ⟨i.toNat, by omega⟩
  refine ⟨_, _, rfl, rfl, _, rfl, ea_nil ?_⟩
  rw [show (1 : Int) + (k : Int) = ((k + 1 : Nat) : Int) by omega, cut_take, ← List.map_take]
  have hml : ms.length = 26 := by rw [hms.length_eq]; simp
  refine ⟨ms.take (k + 1), rfl, by rw [List.length_take]; omega, ?_⟩
  intro ns' hp' hs'
  -- the places are different and below 26
  have hnd : ms.Nodup := hms.nodup_iff.mpr (by decide)
  have hlt : ∀ x ∈ ns', 0 ≤ x ∧ x < 26 := fun x hx => by
    have hx2 := (List.take_subset _ _) (hp'.mem_iff.mp hx)
    obtain ⟨j, hj, rfl⟩ := List.mem_map.mp (hms.mem_iff.mp hx2)
    have := List.mem_range.mp hj
    omega
  have hnd' : ns'.Nodup := hp'.nodup_iff.mpr (hnd.sublist (List.take_sublist _ _))
  have hlen : ns'.length = k + 1 := by rw [hp'.length_eq, List.length_take]; omega
  refine ss_one (s_ret (ee_join (ee_str ⟨_, rfl, EO.ee ?_⟩)))
  refine eo_lcMap (.nm 4) (own := [("at", 4)]) rfl sc_law_letters.nd (by decide) rfl (blkOk_by (N := ["pen", "most", "alphabet", "places", "at"]) (sc := defScope s_law_letters) (by decide +kernel)) (fun _ _ _ _ _ => pg_name (i := 4) sc_law_letters.nd rfl (Or.inl rfl)) ?_
  refine ei_list (ee_name 3 rfl rfl ⟨_, rfl, fun i => .str (sgn ((ns'.getD i 0).toNat + 97)), by rw [List.length_map]; omega, fun i D hi => ⟨True.intro, fun _ _ _ _ _ => ?_⟩, ?_⟩)
  · rw [List.length_map] at hi
    have hx : ns'[i] ∈ ns' := List.getElem_mem _
    have hb := hlt _ hx
    have e1 : (ns'.map Tr.int).getD i .non = .int ns'[i] := by
      rw [List.getD_eq_getElem?_getD, List.getElem?_map]
      simp [hi]
    have e2 : ns'.getD i 0 = ns'[i] := by simp [hi]
    refine ee_ixS (ee_name 2 rfl rfl (ee_name 4 rfl rfl ?_))
    show ∃ (z : Str) (j : Int) (c : Nat), _
    refine ⟨_, ns'[i], _, rfl, e1, by decide +kernel, alpha_at hb.1 hb.2, by show Tr.str _ = Tr.str (sgn ((ns'.getD i 0).toNat + 97)); rw [e2]; rfl, rfl⟩
  · have e3 : ((List.range (ns'.map Tr.int).length).map fun i => Tr.str (sgn ((ns'.getD i 0).toNat + 97))) = ((ns'.map fun x => x.toNat + 97).map sgn).map Tr.str := by
      rw [List.length_map, map_range (fun x : Int => Tr.str (sgn (x.toNat + 97))) 0 ns', List.map_map, List.map_map]
      rfl
    refine ⟨(ns'.map fun x => x.toNat + 97).map sgn, .inl (by rw [e3]), ?_, ?_⟩
    · rw [sgn_len]
      show (ns'.map fun x => x.toNat + 97).length + ((ns'.map fun x => x.toNat + 97).map sgn).length * 0 ≤ _
      simp
      omega
    · rw [join_sgn _ (by decide +kernel)]
      refine ⟨⟨n, _, rfl, rfl, by simp; omega, by simp; omega, ?_, ?_⟩, c + 27, Nat.le_refl _, rfl⟩
      · rw [List.pairwise_map]
        have hlt2 : ns'.Pairwise (· < ·) := by
          have := hs'.and hnd'
          exact this.imp fun ⟨a, b⟩ => by omega
        refine List.Pairwise.imp_of_mem ?_ hlt2
        intro a b ha hb hab
        have := hlt a ha
        have := hlt b hb
        omega
      · intro k hk
        obtain ⟨x, hx, rfl⟩ := List.mem_map.mp hk
        have := hlt x hx
        omega
end
end Toy

set_option Elab.async false
set_option linter.all false
set_option maxRecDepth 100000
set_option maxHeartbeats 4000000
namespace Toy
open PySem PySem.Spec PyProof.Rows L2 LamX Wf
section
variable {P : Program} {w : World} {K : PySem.W.Frag} {mg : Str → Option Value} {base : Heap} {T : List (Addr × Str)} {f : Addr} {fd : FuncData}
theorem ok_pen (F : Fun K "_law_pen" "_law_pen" s_law_pen f fd) (zL : mg "list" = none) : FnOk P w K mg base CX0 2 f fd ["script"] (spPen K T) := by
  refine ok_newPen F sc_law_pen rfl fun cdv A outer s H E m ns hn hr => ?_
  refine eo_callTy co_list rfl zL (by decide +kernel) (ea_cons (EO.ee (eo_slL (ee_name 0 rfl rfl ⟨_, rfl, ep_no (ep_some (ee_int ⟨63, rfl, ea_nil ?_⟩))⟩))))
  have e63 : cutL (ns.map Tr.int) none (some (63 : Int)) = ns.map Tr.int := by
    rw [show (63 : Int) = ((63 : Nat) : Int) from rfl, cut_take, List.take_of_length_le (by rw [List.length_map]; exact hn)]
  rw [e63]
  exact ⟨_, .inl rfl, rfl⟩
end
end Toy

set_option Elab.async false
set_option linter.all false
set_option maxRecDepth 100000
set_option maxHeartbeats 4000000
namespace Toy
open PySem PySem.Spec PyProof.Rows L2 LamX Wf
section
variable {P : Program} {w : World} {K : PySem.W.Frag} {mg : Str → Option Value} {base : Heap} {T : List (Addr × Str)} {f : Addr} {fd : FuncData}
def wordPre (ts : List Tr) : Prop := ∃ (z : Str) (n : Nat), ts = [.str z, .int n] ∧ 0 < z.length ∧ z.length ≤ sizeLine ∧ n ≤ 1000
def wordPost (ts : List Tr) (t : Tr) : Prop := ∃ (z : Str) (n : Nat) (cs : List Nat), ts = [.str z, .int n] ∧ t = .str (txt cs) ∧ cs.length ≤ n ∧ ∀ c ∈ cs, c ∈ z.cps.toList
theorem sgns_of {z : Str} {n : Nat} : ∀ {ts : List Tr}, (∀ (i : Nat) t, ts[i]? = some t → ∃ c, c ∈ z.cps.toList ∧ t = Tr.str (sgn c)) → ∃ cs : List Nat, ts = (cs.map sgn).map Tr.str ∧ ∀ c ∈ cs, c ∈ z.cps.toList
  | [], _ => ⟨[], rfl, fun _ h => by simp at h⟩
  | t :: ts, h => by
    obtain ⟨c, hc, rfl⟩ := h 0 t rfl
    obtain ⟨cs, rfl, hcs⟩ := sgns_of (z := z) (n := n) (ts := ts) fun i t' ht => h (i + 1) t' ht
    exact ⟨c :: cs, rfl, fun c' h' => (List.mem_cons.mp h').elim (fun e => e ▸ hc) (hcs c')⟩
theorem ok_word (F : Fun K "_law_word" "_law_word" s_law_word f fd) (zR : mg "range" = none) (Fd : FnDraw P w K mg base T) (Fp : FnPick P w K mg base T) :
    FnOk P w K mg base CX0 4 f fd ["pen", "letters", "most"] (spP K T wordPre (fun _ => 2000) wordPost) := by
  refine ok_P F sc_law_word (by rintro _ ⟨z, n, rfl, _⟩; rfl) (by decide) (fun cdv A outer s H E m p c ts hr hp hc => ?_)
  obtain ⟨z, n, rfl, h1, h2, h3⟩ := hp
  have hc' : c + 2000 ≤ 1000000000 := hc
  have hsl : sizeLine = 16777216 := sizeLine_eq
  refine ss_one (s_ret (ee_join (ee_str ⟨_, rfl, EO.ee ?_⟩)))
  refine eo_lcPen (.nm 3) (own := [("at", 3)]) rfl sc_law_word.nd (by decide) rfl (blkOk_by (N := ["pen", "letters", "most", "at"]) (sc := defScope s_law_word) (by decide +kernel)) (fun _ _ _ _ _ => pg_name (i := 3) sc_law_word.nd rfl (Or.inl rfl)) ?_
  refine ei_range1 rfl zR ?_
  refine ee_callP 0 rfl rfl Fd (hr.mono (by decide)) rfl (ea_cons (ee_add (ee_name 2 rfl rfl (ee_int ⟨_, _, rfl, rfl, ea_nil ?_⟩))))
  refine ⟨c, rfl, ⟨_, rfl, by omega, by omega⟩, by show c + 1 ≤ penMax; omega, ?_⟩
  rintro _ ⟨n', i, e, rfl, h4, h5⟩
  cases e
  obtain ⟨k, rfl⟩ : ∃ k : Nat, i = (k : Int) := ⟨i.toNat, by omega⟩
  refine ⟨_, rfl, by omega, by omega, 0, p, c + 1, 1, fun _ t => ∃ c, c ∈ z.cps.toList ∧ t = Tr.str (sgn c), rfl, by omega, fun j c1 D hj hc1 => ⟨True.intro, fun _ _ _ _ _ => ?_⟩, fun us c1 hl hu hc1 => ?_⟩
  · refine ee_callP 0 rfl rfl Fp hr rfl (ea_cons (ee_name 1 rfl rfl (ea_nil ?_)))
    refine ⟨c1, rfl, .inr ⟨z, rfl, h1, h2⟩, by show c1 + 1 ≤ penMax; omega, ?_⟩
    rintro _ (⟨us, e | e, _⟩ | ⟨z', ch, e, hm, rfl⟩)
    · cases e
    · cases e
    · cases e
      exact ⟨⟨ch, hm, rfl⟩, c1 + 1, Nat.le_refl _, rfl⟩
  · obtain ⟨cs, rfl, hcs⟩ := sgns_of (n := 0) hu
    rw [List.length_map, List.length_map] at hl
    refine ⟨cs.map sgn, .inl rfl, ?_, ?_⟩
    · rw [sgn_len]
      show cs.length + (cs.map sgn).length * 0 ≤ _
      omega
    · rw [join_sgn _ (by decide +kernel)]
      exact ⟨⟨z, n, cs, rfl, rfl, by omega, hcs⟩, c1, by omega, rfl⟩
end
end Toy

set_option Elab.async false
set_option linter.all false
set_option maxRecDepth 100000
set_option maxHeartbeats 4000000
namespace Toy
open PySem PySem.Spec PyProof.Rows L2 LamX Wf
/-! the defs of wordfit.words -/
def Tr.intL : Tr → Bool
  | .int _ => true
  | .bl _ => true
  | _ => false
def Tr.isBl : Tr → Bool
  | .bl _ => true
  | _ => false
def Tr.isSt : Tr → Bool
  | .str _ => true
  | _ => false
theorem kit_int {t : Tr} {n : String} (h : t.cls = some n) : kitB n "int" = some (Tr.intL t) := by
  cases t <;> cases h <;> first | (show kitB _ _ = some true; decide +kernel) | (show kitB _ _ = some false; decide +kernel)
theorem kit_bl {t : Tr} {n : String} (h : t.cls = some n) : kitB n "bool" = some (Tr.isBl t) := by
  cases t <;> cases h <;> first | (show kitB _ _ = some true; decide +kernel) | (show kitB _ _ = some false; decide +kernel)
theorem kit_st {t : Tr} {n : String} (h : t.cls = some n) : kitB n "str" = some (Tr.isSt t) := by
  cases t <;> cases h <;> first | (show kitB _ _ = some true; decide +kernel) | (show kitB _ _ = some false; decide +kernel)
theorem kit_two {K : PySem.W.Frag} {n a b : String} {k l : Bool} (h1 : kitB n a = some k) (h2 : kitB n b = some l) : PySem.W.kitAny K (.type n) [.type a, .type b] = some (k || l) := by
  refine kitAny_cons (kit_ty h1) (fun e => ?_) (fun e => by rw [e]; rfl)
  refine kitAny_cons (kit_ty h2) (fun e2 => ?_) (fun e2 => by rw [e2, Bool.or_true])
  rw [e, e2]
  rfl
theorem kit_sq {K : PySem.W.Frag} {t : Tr} {n : String} (h : t.cls = some n) : PySem.W.kitAny K (.type n) [.type "list", .type "tuple"] = some t.isSq := by
  cases t <;> cases h
  · exact kit_two (k := false) (l := false) (by decide +kernel) (by decide +kernel)
  · exact kit_two (k := false) (l := false) (by decide +kernel) (by decide +kernel)
  · exact kit_two (k := false) (l := false) (by decide +kernel) (by decide +kernel)
  · exact kit_two (k := false) (l := false) (by decide +kernel) (by decide +kernel)
  · exact kit_two (k := true) (l := false) (by decide +kernel) (by decide +kernel)
  · exact kit_two (k := false) (l := true) (by decide +kernel) (by decide +kernel)
  · exact kit_two (k := false) (l := false) (by decide +kernel) (by decide +kernel)
section
variable {P : Program} {w : World} {K : PySem.W.Frag} {mg : Str → Option Value} {base : Heap} {T : List (Addr × Str)} {f : Addr} {fd : FuncData}
def anyPre (ts : List Tr) : Prop := ∃ t n, ts = [t] ∧ t.cls = some n
def seqPost (ts : List Tr) (r : Tr) : Prop := ∃ t, ts = [t] ∧ r = .bl t.isSq
theorem ok_is_sequence (F : Fun K "is_sequence" "is_sequence" s_is_sequence f fd) (zI : mg "isinstance" = none) (zl : mg "list" = none) (zt : mg "tuple" = none) : FnOk P w K mg base CX0 2 f fd ["value"] (spF K T anyPre seqPost) := by
  refine ok_F F sc_is_sequence (by rintro _ ⟨t, n, rfl, _⟩; rfl) (by decide) fun cdv A outer s H E m ts hr hp => ?_
  obtain ⟨t, n, rfl, hn⟩ := hp
  exact ss_one (s_ret (ee_isi2 (S := "list") (T := "tuple") rfl zI rfl zl (by decide +kernel) rfl zt (by decide +kernel) (by decide +kernel) (ee_name 0 rfl rfl ⟨n, _, hn, kit_sq hn, t, rfl, rfl⟩)))
def markPre (ts : List Tr) : Prop := ∃ t, ts = [t] ∧ (t = .non ∨ ∃ b, t = .bl b)
def truePost (ts : List Tr) (r : Tr) : Prop := r = .bl true
/-! letters -/
def GoodLets (ls : List Nat) : Prop := IsLets ls 4
theorem find_alpha {c : Nat} (h1 : 97 ≤ c) (h2 : c < 123) : Txt.find alphaS (sgn c) = ((c - 97 : Nat) : Int) := by
  have key : ∀ j : Nat, j < 26 → Txt.find alphaS (sgn (j + 97)) = (j : Int) := by decide +kernel
  have := key (c - 97) (by omega)
  rwa [show c - 97 + 97 = c by omega] at this
def letsPre (ts : List Tr) : Prop := ∃ ls, ts = [.str (txt ls)] ∧ GoodLets ls
theorem str_sgn (ls : List Nat) (i : Nat) : Tr.str ⟨#[(txt ls).cps.getD i 0]⟩ = Tr.str (sgn (ls.getD i 0)) := by
  show Tr.str ⟨#[ls.toArray.getD i 0]⟩ = Tr.str ⟨#[ls.getD i 0]⟩
  congr 3
  simp [List.getD_eq_getElem?_getD]
theorem atI_ofNat {α : Type} {ts : List α} {k : Nat} {t : α} (h : ts[k]? = some t) : atI ts (k : Int) = some t := by
  have hl := (List.getElem?_eq_some_iff.mp h).1
  unfold atI ixN
  rw [if_pos (by omega), if_pos (by omega)]
  exact h
theorem ok_is_letters (F : Fun K "is_letters" "is_letters" s_is_letters f fd) (zI : mg "isinstance" = none) (zs : mg "str" = none) (zl : mg "len" = none) (zr : mg "range" = none) (za : mg "all" = none) (mA : ∃ t, mg "ALPHABET" = some (.str alphaS t)) (mL : ∃ t, mg "MOST_LETTERS" = some (.int 4 t)) :
    FnOk P w K mg base CX0 2 f fd ["value"] (spF K T letsPre truePost) := by
  refine ok_F F sc_is_letters (by rintro _ ⟨ls, rfl, _⟩; rfl) (by decide) fun cdv A outer s H E m ts hr hp => ?_
  obtain ⟨ls, rfl, hl1, hl2, hl3, hl4⟩ := hp
  obtain ⟨tA, mA⟩ := mA
  obtain ⟨tL, mL⟩ := mL
  have hsl : sizeLine = 16777216 := sizeLine_eq
  refine ss_cons (s_if (et_ew (ew_or (et_not (et_val (ee_isi (T := "str") rfl zI rfl zs (by decide +kernel) (by decide +kernel) (ee_name 0 rfl rfl ⟨"str", true, rfl, by decide +kernel, true, rfl, fun h => Bool.noConfusion h, fun _ => ?_⟩)))))))
  refine ew_or1 (et_not (et_chain op_le op_le (ee_int (ee_callB cl_lenS rfl zl (by decide +kernel) (ea_cons (ee_name 0 rfl rfl (ea_nil ⟨txt ls, rfl, by rw [txt_len]; omega, _, _, rfl, rfl, fun _ => ee_globI rfl mL ⟨_, rfl, ?_⟩, fun h => ?_⟩)))))))
  · rw [txt_len]
    refine ⟨fun h => ?_, fun _ => ss_nil ?_⟩
    · have : decide ((ls.length : Int) ≤ 4) = true := by simp; omega
      rw [this] at h; cases h
    refine ss_cons (s_asg 1 sc_is_letters.nd rfl (EO.ee ?_))
    refine eo_lcMap (.nm 2) (own := [("letter", 2)]) rfl sc_is_letters.nd (by decide) rfl (blkOk_by (N := ["value", "places", "letter", "at"]) (sc := defScope s_is_letters) (by decide +kernel)) (fun _ _ _ _ _ => pg_name (i := 2) sc_is_letters.nd rfl (Or.inl rfl)) ?_
    refine ei_str (ee_name 0 rfl rfl ⟨txt ls, rfl, fun i => .int ((ls.getD i 0 : Nat) - 97 : Int), by show (txt ls).length ≤ _; rw [txt_len]; omega, fun i D hi => ⟨True.intro, fun _ _ _ _ _ => ?_⟩, ?_⟩)
    · have hi' : i < ls.length := by have : i < (txt ls).length := hi; rwa [txt_len] at this
      have hm : ls.getD i 0 ∈ ls := by
        rw [List.getD_eq_getElem?_getD, List.getElem?_eq_getElem hi']
        exact List.getElem_mem hi'
      have hb := hl4 _ hm
      refine ee_find (ee_glob (v := .str alphaS) rfl mA ⟨_, rfl⟩ (fun _ => .str _) ⟨alphaS, rfl, ea_cons (ee_name 2 rfl rfl (ea_nil ⟨sgn (ls.getD i 0), congrArg (fun z => [z]) (str_sgn ls i), ?_, rfl⟩))⟩)
      rw [find_alpha hb.1 hb.2]
      congr 1
      omega
    have hsz : (txt ls).cps.size = ls.length := txt_len ls
    rw [hsz]
    have hlen : ((List.range ls.length).map fun i => Tr.int ((ls.getD i 0 : Nat) - 97 : Int)).length = ls.length := by simp
    have hat : ∀ k : Nat, k < ls.length → atI ((List.range ls.length).map fun i => Tr.int ((ls.getD i 0 : Nat) - 97 : Int)) (k : Int) = some (.int ((ls.getD k 0 : Nat) - 97 : Int)) := fun k hk => atI_ofNat (by simp [hk])
    refine ss_one (s_ret (ee_and (ee_cmp cd_ge (ee_ixL (ee_name 1 rfl rfl (ee_int ⟨_, 0, _, rfl, rfl, hat 0 (by omega), ee_int ⟨_, _, rfl, rfl, _, rfl, fun _ => ?_, fun h => ?_⟩⟩))))))
    · refine ee_one (ee_callB (cl_all rfl) rfl za (by decide +kernel) (ea_cons (EO.ee ?_)))
      refine eo_lcMap (.nm 3) (own := [("at", 3)]) rfl sc_is_letters.nd (by decide) rfl (blkOk_by (N := ["value", "places", "letter", "at"]) (sc := defScope s_is_letters) (by decide +kernel)) (fun _ _ _ _ _ => pg_name (i := 3) sc_is_letters.nd rfl (Or.inl rfl)) ?_
      refine ei_range1 rfl zr (ee_sub (ee_callB cl_len rfl zl (by decide +kernel) (ea_cons (ee_name 1 rfl rfl (ea_nil ⟨_, rfl, _, .inl rfl, ee_int ⟨_, _, rfl, rfl, _, rfl, ?_, ?_, fun i => .bl true, ?_, fun i D hi => ⟨True.intro, fun _ _ _ _ _ => ?_⟩, ?_⟩⟩)))))
      · rw [hlen]; omega
      · rw [hlen]; omega
      · rw [hlen]; omega
      · rw [hlen] at hi
        have hi2 : i + 1 < ls.length := by omega
        refine ee_cmp cd_lt (ee_ixL (ee_name 1 rfl rfl (ee_name 3 rfl rfl ⟨_, _, _, rfl, rfl, hat i (by omega), ?_⟩)))
        refine ee_ixL (ee_name 1 rfl rfl (ee_add (ee_name 3 rfl rfl (ee_int ⟨_, _, rfl, rfl, _, _, _, rfl, rfl, hat (i + 1) hi2, _, _, rfl, rfl, ?_, rfl⟩))))
        have := List.pairwise_iff_getElem.mp hl3 i (i + 1) (by omega) hi2 (by omega)
        have e1 : ls.getD i 0 = ls[i] := by simp [show i < ls.length by omega]
        have e2 : ls.getD (i + 1) 0 = ls[i + 1] := by simp [hi2]
        rw [e1, e2]
        show Tr.bl _ = Tr.bl true
        congr 1
        exact decide_eq_true (by omega)
      · refine ea_nil ⟨(List.range _).map fun _ => true, by rw [List.map_map]; rfl, ?_⟩
        show Tr.bl _ = Tr.bl true
        congr 1
        rw [List.all_eq_true]
        intro x hx
        obtain ⟨_, _, rfl⟩ := List.mem_map.mp hx
        rfl
    · have hm : ls.getD 0 0 ∈ ls := by
        rw [List.getD_eq_getElem?_getD, List.getElem?_eq_getElem (by omega)]
        exact List.getElem_mem _
      have := hl4 _ hm
      exfalso
      have e : decide (0 ≤ ((ls.getD 0 0 : Nat) - 97 : Int)) = true := decide_eq_true (by omega)
      rw [e] at h
      cases h
  · exfalso
    rw [txt_len] at h
    have : decide ((1 : Int) ≤ (ls.length : Int)) = true := by simp; omega
    rw [this] at h; cases h
end
end Toy

set_option Elab.async false
set_option linter.all false
set_option maxRecDepth 100000
set_option maxHeartbeats 8000000
namespace Toy
open PySem PySem.Spec PyProof.Rows L2 LamX Wf
def optN : Option Nat → Tr
  | none => .non
  | some k => .int k
def optB : Option Bool → Tr
  | none => .non
  | some b => .bl b
def rowT (rows : List (List (Option Nat))) : List (List Tr) := rows.map fun r => r.map optN
theorem collect_of {α : Type} {f : α → Tr} {Q : α → Prop} : ∀ {ts : List Tr}, (∀ (i : Nat) t, ts[i]? = some t → ∃ o, t = f o ∧ Q o) → ∃ os : List α, ts = os.map f ∧ ∀ o ∈ os, Q o
  | [], _ => ⟨[], rfl, fun _ h => by simp at h⟩
  | t :: ts, h => by
    obtain ⟨o, rfl, q⟩ := h 0 t rfl
    obtain ⟨os, rfl, qs⟩ := collect_of (ts := ts) fun i t' ht => h (i + 1) t' ht
    exact ⟨o :: os, rfl, fun x hx => (List.mem_cons.mp hx).elim (fun e => e ▸ q) (qs x)⟩
/-- a table of that size, whole or not -/
structure TabOk (ls : List Nat) (n : Nat) (full : Bool) (rows : List (List (Option Nat))) (marks : List (Option Bool)) : Prop where
  r : rows.length = n
  m : marks.length = n
  row : ∀ row ∈ rows, row.length = ls.length ∧ ∀ o ∈ row, (∀ k, o = some k → k < n) ∧ (full = true → o ≠ none)
  mks : full = true → ∀ o ∈ marks, o ≠ none
def tabPre (ts : List Tr) : Prop := ∃ (ls : List Nat) (n : Nat) (full : Bool), ts = [.str (txt ls), .int n, .bl full] ∧ ls.length ≤ 4 ∧ 1 ≤ n ∧ n ≤ 1000
def tabPost (ts : List Tr) (rs : List (List Tr)) (ms : List Tr) : Prop := ∃ (ls : List Nat) (n : Nat) (full : Bool) (rows : List (List (Option Nat))) (marks : List (Option Bool)), ts = [.str (txt ls), .int n, .bl full] ∧ TabOk ls n full rows marks ∧ rs = rowT rows ∧ ms = marks.map optB
section
variable {P : Program} {w : World} {K : PySem.W.Frag} {mg : Str → Option Value} {base : Heap} {T : List (Addr × Str)} {f : Addr} {fd : FuncData}
abbrev nTab : List Str := ["pen", "letters", "size", "is_full", "rows", "marks", "state", "row", "letter", "target"]
abbrev xTab (P : Program) (w : World) (K : PySem.W.Frag) (mg : Str → Option Value) (base : Heap) (f : Addr) (cdv : Value) (A : Around) (outer : List Env) (s : Shared) (H : Hp) (E : XK) : Cx := (cxOf CX0 P w K mg base nTab "_law_table" (defScope s_law_table) f cdv A outer s H E).nox
abbrev lpTab : List Stmt := match (defBody s_law_table).getD 1 (.Pass ⟨0, 0, 0, 0⟩) with
  | .For _ _ b _ _ => b
  | _ => []
theorem tab_turn {cdv : Value} {A : Around} {outer : List Env} {s : Shared} {H : Hp} {E : XK} {B : Bs} (hB : B.T = T) {M' : Pl} {Ψ : Eo} {p : Pn} {c : Nat} {ls : List Nat} {n : Nat} {full : Bool} {l1 l2 : Addr} {as : List Addr} {ts : List (List Tr)} {us : List Tr} {e6 e7 e8 e9 : En} (hr : Room 3 (A.deeper (envOfC "_law_table" (defScope s_law_table) s.heap.objs.size f cdv)))
    (Fd : FnDraw P w K mg base T) (hl : ls.length ≤ 4) (h1 : 1 ≤ n) (h2 : n ≤ 1000) (hc : c + 9 ≤ 1000000000) (hts : ts.length ≤ 1000) (hus : us.length ≤ 1000)
    (hnx : ∀ (M2 : Pl) (c' : Nat) (as2 : List Addr) (row : List (Option Nat)) (mk : Option Bool) (e6 e7 e8 e9 : En), c' ≤ c + 9 → row.length = ls.length → (∀ o ∈ row, (∀ k, o = some k → k < n) ∧ (full = true → o ≠ none)) → (full = true → mk ≠ none) →
      Ψ.nx M2 [.pen p c', .dat (.str (txt ls)), .dat (.int n), .dat (.bl full), .tab l1 as2 (ts ++ [row.map optN]), .own l2 (.lst (us ++ [optB mk])), e6, e7, e8, e9]) :
    SS (xTab P w K mg base f cdv A outer s H E) B M' [.pen p c, .dat (.str (txt ls)), .dat (.int n), .dat (.bl full), .tab l1 as ts, .own l2 (.lst us), e6, e7, e8, e9] lpTab Ψ := by
  subst hB
  have hsl : sizeLine = 16777216 := sizeLine_eq
  refine ss_cons (s_of (.nm 8) 7 (own := [("letter", 8)]) rfl sc_law_table.nd rfl rfl (blkOk_by (N := nTab) (sc := defScope s_law_table) (by decide +kernel)) (fun _ _ _ _ _ => pg_name (i := 8) sc_law_table.nd rfl (Or.inl rfl)) (elc_lcPen (.nm 8) (by decide) ?_))
  refine ei_str (ee_name 1 rfl rfl ⟨txt ls, rfl, 0, p, c, 1, fun _ t => ∃ k : Nat, t = Tr.int k ∧ k < n, rfl, by show (txt ls).length ≤ _; rw [txt_len]; omega, fun i c1 D hi hc1 => ⟨True.intro, fun _ _ _ _ _ => ?_⟩, fun vs c1 hvl hv hc1 l7 hl7 => ?_⟩)
  · have hi' : i < ls.length := by have h : i < (txt ls).length := hi; rwa [txt_len] at h
    refine ee_callP 0 rfl rfl Fd (hr.mono (by decide)) rfl (ea_cons (ee_name 2 rfl rfl (ea_nil ⟨c1, rfl, ⟨_, rfl, by omega, by omega⟩, by show c1 + 1 ≤ 1000000000; omega, ?_⟩)))
    rintro _ ⟨n', i', e, rfl, g1, g2⟩
    injection e with e _
    injection e with e
    exact ⟨⟨i'.toNat, by rw [Int.toNat_of_nonneg g1], by omega⟩, c1 + 1, Nat.le_refl _, rfl⟩
  have hsz : (txt ls).cps.size = ls.length := txt_len ls
  rw [hsz] at hvl hc1
  obtain ⟨ks, rfl, hks⟩ := collect_of (f := fun k : Nat => Tr.int k) (Q := fun k => k < n) hv
  have hkl : ks.length = ls.length := by simpa using hvl
  refine ss_share 7 rfl ?_
  refine ss_cons (s_append 5 rfl rfl (ee_ixL (EO.ee (eo_lst ?_))))
  refine ea_cons (ee_bl (ea_cons (ee_bl (ea_cons (ee_non (ea_nil ⟨by show 3 ≤ sizeLine; omega, ?_⟩))))))
  have key : ∀ i : Int, 0 ≤ i → i < (if full = true then 2 else 3) → ∃ mk : Option Bool, atI [Tr.bl false, Tr.bl true, Tr.non] i = some (optB mk) ∧ (full = true → mk ≠ none) := fun i g1 g2 => by
    have : i = 0 ∨ i = 1 ∨ i = 2 := by
      cases full <;> simp at g2 <;> omega
    rcases this with rfl | rfl | rfl
    · exact ⟨some false, rfl, fun _ => by simp⟩
    · exact ⟨some true, rfl, fun _ => by simp⟩
    · refine ⟨none, rfl, fun h => ?_⟩
      rw [h] at g2
      simp at g2
  have hfull : full = true ∨ full = false := by cases full <;> simp
  refine ee_callP 0 rfl rfl Fd (hr.mono (by decide)) rfl (ea_cons (EE.mono (Φ := fun t Δ' => t = .int (if full = true then 2 else 3) ∧ Δ' = [.pen p c1, .dat (.str (txt ls)), .dat (.int n), .dat (.bl full), .tab l1 as ts, .own l2 (.lst us), e6, .dat (.lst (ks.map fun k : Nat => Tr.int k)), .any, e9]) (ee_if (et_val (ee_name 3 rfl rfl ⟨full, rfl, fun h => ee_int ⟨by rw [if_pos h], rfl⟩, fun h => ee_int ⟨by rw [h]; rfl, rfl⟩⟩))) ?_))
  rintro _ _ ⟨rfl, rfl⟩
  refine ea_nil ⟨c1, rfl, ⟨_, rfl, by split <;> decide, by split <;> decide⟩, by show c1 + 1 ≤ 1000000000; omega, ?_⟩
  rintro _ ⟨q, i, e, rfl, g1, g2⟩
  injection e with e _
  injection e with e
  obtain ⟨mk, k1, k2⟩ := key i g1 (by rw [e]; exact g2)
  refine ⟨_, _, _, rfl, rfl, k1, us, rfl, by omega, ?_⟩
  -- the row
  refine ss_one (s_appendTab 4 rfl rfl ?_)
  refine eo_lcPen (.nm 9) (own := [("target", 9)]) rfl sc_law_table.nd (by decide) rfl (blkOk_by (N := nTab) (sc := defScope s_law_table) (by decide +kernel)) (fun _ _ _ _ _ => pg_name (i := 9) sc_law_table.nd rfl (Or.inl rfl)) ?_
  refine ei_list (ee_name 7 rfl rfl ⟨_, rfl, 0, p, c1 + 1, 1, fun _ t => ∃ o : Option Nat, t = optN o ∧ ((∀ k, o = some k → k < n) ∧ (full = true → o ≠ none)), rfl, by rw [List.length_map]; omega, fun i c2 D hi hc2 => ⟨True.intro, fun _ _ _ _ _ => ?_⟩, fun vs c2 hvl2 hv2 hc2 => ?_⟩)
  · rw [List.length_map] at hi
    have ek : (ks.map fun k : Nat => Tr.int k).getD i .non = .int ((ks[i] : Nat) : Int) := by simp [List.getD_eq_getElem?_getD, hi]
    have hkn := hks _ (List.getElem_mem hi)
    rcases hfull with h | h
    · refine ee_if (et_ew (ew_or (et_val (ee_name 3 rfl rfl ⟨full, rfl, fun _ => ⟨fun _ => ee_name 9 rfl rfl ?_, fun h' => Bool.noConfusion h'⟩, fun h' => ?_⟩))))
      · exact ⟨⟨some ks[i], ek, fun k hk => by cases hk; exact hkn, fun _ => by simp⟩, c2, by omega, rfl⟩
      · rw [h] at h'; cases h'
    · refine ee_if (et_ew (ew_or (et_val (ee_name 3 rfl rfl ⟨full, rfl, fun h' => ?_, fun _ => ew_or1 (et_cmp cd_gt ?_)⟩))))
      · rw [h] at h'; cases h'
      have hi' : i * 1 ≤ 4 := by omega
      refine ee_callP 0 rfl rfl Fd (hr.mono (by decide)) rfl (ea_cons (ee_int (ea_nil ⟨c2, rfl, ⟨_, rfl, by decide, by decide⟩, by show c2 + 1 ≤ 1000000000; omega, ?_⟩)))
      rintro _ ⟨q', i', _, rfl, _, _⟩
      refine ee_int ⟨_, _, rfl, rfl, fun _ => ee_name 9 rfl rfl ?_, fun _ => ee_non ?_⟩
      · exact ⟨⟨some ks[i], ek, fun k hk => by cases hk; exact hkn, fun h' => by rw [h] at h'; cases h'⟩, c2 + 1, Nat.le_refl _, rfl⟩
      · exact ⟨⟨none, rfl, ⟨fun k hk => (nomatch hk), fun h' => Bool.noConfusion (h.symm.trans h')⟩⟩, c2 + 1, Nat.le_refl _, rfl⟩
  obtain ⟨row, rfl, hrow⟩ := collect_of (f := optN) (Q := fun o => (∀ k, o = some k → k < n) ∧ (full = true → o ≠ none)) hv2
  have hrl : row.length = ls.length := by
    rw [List.length_map, List.length_map] at hvl2
    rw [hvl2, hkl]
  refine fun a ha => ⟨as, ts, row.map optN, rfl, rfl, by omega, hnx _ c2 _ row mk _ _ _ _ ?_ hrl hrow k2⟩
  rw [List.length_map, hkl] at hc2
  omega
theorem ok_table (F : Fun K "_law_table" "_law_table" s_law_table f fd) (zr : mg "range" = none) (Fd : FnDraw P w K mg base T) : FnOk P w K mg base CX0 4 f fd ["pen", "letters", "size", "is_full"] (spPT K T tabPre (fun _ => 9000) tabPost) := by
  refine ok_PT F sc_law_table (by rintro _ ⟨ls, n, full, rfl, _⟩; rfl) (by decide) (fun cdv A outer s H E m p c ts hr hp hc => ?_)
  obtain ⟨ls, n, full, rfl, hl, h1, h2⟩ := hp
  have hc' : c + 9000 ≤ 1000000000 := hc
  have hsl : sizeLine = 16777216 := sizeLine_eq
  refine ss_cons (s_parOO 4 5 (hE := fun ta ha => ps_par rfl sc_law_table.nd rfl rfl (by decide) rfl rfl ha (by rfl)) (by decide) (eo_lst (ea_nil ⟨Nat.zero_le _, fun l1 hl1 => eo_lst (ea_nil ⟨Nat.zero_le _, fun l2 hl2 hne => ⟨rfl, ?_⟩⟩)⟩)))
  refine ss_toTab 4 rfl ?_
  refine ss_cons (s_for (.nm 6) PassesOwn.never rfl (pg_name (i := 6) sc_law_table.nd rfl (Or.inl rfl)) ?_)
  refine ei_range1 rfl zr (ee_name 2 rfl rfl ⟨_, rfl, by omega, by omega, ?_⟩)
  have hn : ((n : Int)).toNat = n := by omega
  refine ⟨fun i M' Δ' => ∃ (c' : Nat) (as : List Addr) (rows : List (List (Option Nat))) (marks : List (Option Bool)) (e6 e7 e8 e9 : En), c' ≤ c + i * 9 ∧ rows.length = i ∧ marks.length = i ∧ (full = true → ∀ o ∈ marks, o ≠ none) ∧ (∀ row ∈ rows, row.length = ls.length ∧ ∀ o ∈ row, (∀ k, o = some k → k < n) ∧ (full = true → o ≠ none)) ∧
    Δ' = [.pen p c', .dat (.str (txt ls)), .dat (.int n), .dat (.bl full), .tab l1 as (rowT rows), .own l2 (.lst (marks.map optB)), e6, e7, e8, e9], ?_, ?_, ?_⟩
  · exact ⟨c, [], [], [], _, _, _, _, by omega, rfl, rfl, fun _ o h => by simp at h, fun r h => by simp at h, rfl⟩
  · rintro i M' Δ' hi ⟨c', as, rows, marks, e6, e7, e8, e9, g1, g2, g3, g4, g5, rfl⟩
    have hi2 : i < n := by have h : i < ((n : Int)).toNat := hi; rwa [hn] at h
    have hi9 : i * 9 + 9 ≤ 9000 := by omega
    refine ⟨True.intro, tab_turn (B := bP T p H m) rfl hr Fd hl h1 h2 (by omega) (by unfold rowT; rw [List.length_map, g2]; omega) (by rw [List.length_map, g3]; omega) fun M2 c2 as2 row mk e6 e7 e8 e9 k1 k2 k3 k4 => ?_⟩
    refine ⟨c2, as2, rows ++ [row], marks ++ [mk], e6, e7, e8, e9, by omega, by simp [g2], by simp [g3], fun h o ho => ?_, fun r hr => ?_, ?_⟩
    · rcases List.mem_append.mp ho with ho | ho
      · exact g4 h o ho
      · rw [List.mem_singleton.mp ho]; exact k4 h
    · rcases List.mem_append.mp hr with hr | hr
      · exact g5 r hr
      · rw [List.mem_singleton.mp hr]; exact ⟨k2, k3⟩
    · unfold rowT
      rw [List.map_append, List.map_append]
      rfl
  · rintro M' Δ' ⟨c', as, rows, marks, e6, e7, e8, e9, g1, g2, g3, g4, g5, rfl⟩
    rw [hn] at g1 g2 g3
    refine ss_one (s_ret (ee_tup (ea_cons (ee_nameTab 4 rfl rfl (ea_cons (ee_nameOwn 5 rfl rfl (ea_nil ⟨by show 2 ≤ sizeLine; omega, _, _, 4, 5, l1, l2, as, rfl, by decide, rfl, rfl, ⟨ls, n, full, rows, marks, rfl, ⟨g2, g3, g5, g4⟩, rfl, rfl⟩, c', by show c' ≤ c + 9000; omega, rfl⟩)))))))
abbrev FnTab (P : Program) (w : World) (K : PySem.W.Frag) (mg : Str → Option Value) (base : Heap) (T : List (Addr × Str)) : Prop := Fn P w K mg base "_law_table" 4 ["pen", "letters", "size", "is_full"] (spPT K T tabPre (fun _ => 9000) tabPost)
end
end Toy

set_option Elab.async false
set_option linter.all false
set_option maxRecDepth 100000
set_option maxHeartbeats 2000000
namespace Wf
open PySem PySem.Spec PyProof.Rows L2 LamX
section
variable {X : Cx} {B : Bs} {M : Pl} {Δ : List En} {a b : Expr} {Φ : Tr → List En → Prop}
/-- tuple + tuple -/
theorem ee_catT {pos : Pos} (h : EE X B M Δ a fun x Δ1 => EE X B M Δ1 b fun y Δ2 => ∃ ts us, x = .tup ts ∧ y = .tup us ∧ ts.length + us.length ≤ sizeLine ∧ Φ (.tup (ts ++ us)) Δ2) : EE X B M Δ (.BinOp a .Add b pos) Φ := fun σ H S Q k =>
  PE.to (pe_op op_catA pe_self pe_self) (h σ H S _ fun x Δ1 v H1 p1 f1 S1 d1 => p1 σ H1 S1 _ fun y Δ2 w H2 p2 f2 S2 d2 => by
    obtain ⟨ts, us, rfl, rfl, hz, q⟩ := p2
    have d1 := d1.mono (S1.sub f2)
    have e1 := d1
    have e2 := d2
    cases d1 with
    | tup g1 g2 =>
      cases d2 with
      | tup g3 g4 =>
        refine ⟨_, _, _, _, rfl, rfl, sub_seqT mi_sub g1, sub_seqT mi_sub g3, by rw [g2.length, g4.length]; exact hz, fun e => ?_, fun _ e => ?_, fun _ _ p hp => ?_⟩
        · subst e
          cases g2
          exact k _ Δ2 _ H2 q (f1.trans f2) S2 e2
        · subst e
          cases g4
          rw [List.append_nil] at q
          exact k _ Δ2 _ H2 q (f1.trans f2) S2 e1
        · rename_i a0 xs a1 ys _ _
          have s := same_new (o := .tup (xs ++ ys)) hp
          refine k _ Δ2 _ _ q ((f1.trans f2).trans (Fe.same s)) (S2.same s) (.tup (.inl (.inl (mi_of (S2.notM hp) upd_same))) ((g2.append g4).mono (Sub.of s).mi)))
end
end Wf

set_option Elab.async false
set_option linter.all false
set_option maxRecDepth 100000
set_option maxHeartbeats 4000000
namespace Toy
open PySem PySem.Spec PyProof.Rows L2 LamX Wf
/-! samples of good arguments: nothing is raised -/
def sT (ws : List Str) : List Tr := ws.map Tr.str
/-- a word over these letters, not too long -/
def Short (z x : Str) : Prop := x.length ≤ 12 ∧ ∀ c ∈ x.cps.toList, c ∈ z.cps.toList
def isWs (t : Tr) (ws : List Str) : Prop := t = .lst (sT ws) ∨ t = .tup (sT ws)
section
variable {P : Program} {w : World} {K : PySem.W.Frag} {mg : Str → Option Value} {base : Heap} {T : List (Addr × Str)} {f : Addr} {fd : FuncData}
abbrev FnSeq (P : Program) (w : World) (K : PySem.W.Frag) (mg : Str → Option Value) (base : Heap) (T : List (Addr × Str)) : Prop := Fn P w K mg base "is_sequence" 2 ["value"] (spF K T anyPre seqPost)
abbrev FnLtr (P : Program) (w : World) (K : PySem.W.Frag) (mg : Str → Option Value) (base : Heap) (T : List (Addr × Str)) : Prop := Fn P w K mg base "is_letters" 2 ["value"] (spF K T letsPre truePost)
def nonePost (ts : List Tr) (r : Tr) : Prop := r = .non
theorem ok_need_letters (F : Fun K "need_letters" "need_letters" s_need_letters f fd) (Fl : FnLtr P w K mg base T) : FnOk P w K mg base CX0 4 f fd ["value"] (spF K T letsPre nonePost) := by
  refine ok_F F sc_need_letters (by rintro _ ⟨ls, rfl, _⟩; rfl) (by decide) fun cdv A outer s H E m ts hr hp => ?_
  obtain ⟨ls, rfl, hl⟩ := hp
  refine ss_one (s_if (et_not (et_val (ee_call Fl (hr.mono (by decide)) rfl (ea_cons (ee_name 0 rfl rfl (ea_nil ⟨⟨ls, rfl, hl⟩, ?_⟩)))))))
  rintro t rfl
  exact ⟨true, rfl, fun h => Bool.noConfusion h, fun _ => ss_nil rfl⟩
abbrev FnNL (P : Program) (w : World) (K : PySem.W.Frag) (mg : Str → Option Value) (base : Heap) (T : List (Addr × Str)) : Prop := Fn P w K mg base "need_letters" 4 ["value"] (spF K T letsPre nonePost)
def wordPreM (ts : List Tr) : Prop := ∃ (z x : Str), ts = [.str z, .str x] ∧ x.length ≤ sizeLine ∧ ∀ c ∈ x.cps.toList, c ∈ z.cps.toList
theorem ok_is_word (F : Fun K "is_word" "is_word" s_is_word f fd) (zI : mg "isinstance" = none) (zs : mg "str" = none) (za : mg "all" = none) : FnOk P w K mg base CX0 2 f fd ["letters", "value"] (spF K T wordPreM truePost) := by
  refine ok_F F sc_is_word (by rintro _ ⟨z, x, rfl, _⟩; rfl) (by decide) fun cdv A outer s H E m ts hr hp => ?_
  obtain ⟨z, x, rfl, hx, hin⟩ := hp
  refine ss_one (s_ret (ee_and (ee_isi (T := "str") rfl zI rfl zs (by decide +kernel) (by decide +kernel) (ee_name 1 rfl rfl ⟨"str", true, rfl, by decide +kernel, _, rfl, fun _ => ?_, fun h => Bool.noConfusion h⟩))))
  refine ee_one (ee_callB (cl_all rfl) rfl za (by decide +kernel) (ea_cons (EO.ee ?_)))
  refine eo_lcMap (.nm 2) (own := [("letter", 2)]) rfl sc_is_word.nd (by decide) rfl (blkOk_by (N := ["letters", "value", "letter"]) (sc := defScope s_is_word) (by decide +kernel)) (fun _ _ _ _ _ => pg_name (i := 2) sc_is_word.nd rfl (Or.inl rfl)) ?_
  refine ei_str (ee_name 1 rfl rfl ⟨x, rfl, fun i => .bl true, hx, fun i D hi => ⟨True.intro, fun _ _ _ _ _ => ?_⟩, ?_⟩)
  · refine ee_cmp cd_inS (ee_name 2 rfl rfl (ee_name 0 rfl rfl ⟨x.cps.getD i 0, z, rfl, rfl, ?_, rfl⟩))
    congr 1
    refine decide_eq_true (hin _ ?_)
    have hi' : i < x.cps.size := hi
    rw [Array.getD_eq_getD_getElem?, Array.getElem?_eq_getElem hi']
    exact Array.getElem_mem_toList hi'
  · refine ea_nil ⟨(List.range x.cps.size).map fun _ => true, by rw [List.map_map]; rfl, ?_⟩
    show Tr.bl _ = Tr.bl true
    congr 1
    rw [List.all_eq_true]
    intro y hy
    obtain ⟨_, _, rfl⟩ := List.mem_map.mp hy
    rfl
abbrev FnIsW (P : Program) (w : World) (K : PySem.W.Frag) (mg : Str → Option Value) (base : Heap) (T : List (Addr × Str)) : Prop := Fn P w K mg base "is_word" 2 ["letters", "value"] (spF K T wordPreM truePost)
def shortPre (ts : List Tr) : Prop := ∃ (z x : Str), ts = [.str z, .str x] ∧ Short z x
theorem ok_need_short (F : Fun K "need_short" "need_short" s_need_short f fd) (zl : mg "len" = none) (mL : ∃ t, mg "LENGTH" = some (.int 12 t)) (Fw : FnIsW P w K mg base T) : FnOk P w K mg base CX0 4 f fd ["letters", "value"] (spF K T shortPre nonePost) := by
  refine ok_F F sc_need_short (by rintro _ ⟨z, x, rfl, _⟩; rfl) (by decide) fun cdv A outer s H E m ts hr hp => ?_
  obtain ⟨z, x, rfl, hx, hin⟩ := hp
  obtain ⟨tL, mL⟩ := mL
  have hsl : sizeLine = 16777216 := sizeLine_eq
  refine ss_one (s_if (et_or2 (et_not (et_val (ee_call Fw (hr.mono (by decide)) rfl (ea_cons (ee_name 0 rfl rfl (ea_cons (ee_name 1 rfl rfl (ea_nil ⟨⟨z, x, rfl, by omega, hin⟩, ?_⟩))))))))))
  rintro t rfl
  refine ⟨true, rfl, fun h => Bool.noConfusion h, fun _ => et_cmp cd_gt (ee_callB cl_lenS rfl zl (by decide +kernel) (ea_cons (ee_name 1 rfl rfl (ea_nil ⟨x, rfl, by omega, ee_globI rfl mL ⟨_, _, rfl, rfl, fun h => ?_, fun _ => ss_nil rfl⟩⟩))))⟩
  have : ¬ ((x.length : Int) > 12) := by omega
  simp at h
  omega
abbrev FnNS (P : Program) (w : World) (K : PySem.W.Frag) (mg : Str → Option Value) (base : Heap) (T : List (Addr × Str)) : Prop := Fn P w K mg base "need_short" 4 ["letters", "value"] (spF K T shortPre nonePost)
abbrev lamQ : Str := "word_order" ++ ".<locals>." ++ "<lambda>"
def orderOf (ws : List Str) : List Str := ws.mergeSort (PySem.W.dataLe false wkey)
def orderPre (ts : List Tr) : Prop := ∃ ws : List Str, (ts = [.lst (sT ws)] ∨ ts = [.tup (sT ws)] ∨ ts = [kT ws]) ∧ ∀ w ∈ ws, w.length ≤ sizeLine
def orderPost (ts : List Tr) (t : Tr) : Prop := ∃ ws : List Str, (ts = [.lst (sT ws)] ∨ ts = [.tup (sT ws)] ∨ ts = [kT ws]) ∧ t = .lst (sT (orderOf ws))
theorem ok_order {c Pt : Addr} (F : FunC K "word_order" "word_order" s_word_order f fd (.ref c)) (zS : mg "sorted" = none) (zL : mg "len" = none) (TB : TabB base mg c Pt) (hT : (Pt, lamQ) ∈ T) (hu : ∀ p ∈ T, p.1 = Pt → p.2 = lamQ) :
    FnOk P w K mg base CX0 3 f fd ["words"] (spO K T orderPre orderPost) := by
  refine ok_O F sc_word_order (by rintro _ ⟨ws, rfl | rfl | rfl, _⟩ <;> rfl) (by decide) rfl (fun A outer s H E m ts hr hp => ?_)
  obtain ⟨ws, hts, hw⟩ := hp
  rcases hts with rfl | rfl | rfl
  · refine eo_sortedKey (k := 0) (q := lamQ) rfl zS zL TB rfl rfl hT hu hr rfl (fun _ _ _ _ => rfl) ?_
    exact ea_cons (ee_name 0 rfl rfl (ea_nil ⟨ws, .inl rfl, hw, ws, .inl rfl, rfl⟩))
  · refine eo_sortedKey (k := 0) (q := lamQ) rfl zS zL TB rfl rfl hT hu hr rfl (fun _ _ _ _ => rfl) ?_
    exact ea_cons (ee_name 0 rfl rfl (ea_nil ⟨ws, .inr rfl, hw, ws, .inr (.inl rfl), rfl⟩))
  · refine eo_sortedKeyD (k := 0) (q := lamQ) rfl zS zL TB rfl rfl hT hu rfl hr rfl (fun _ _ _ _ => rfl) ?_
    exact ea_cons (ee_name 0 rfl rfl (ea_nil ⟨ws, rfl, hw, ws, .inr (.inr rfl), rfl⟩))
abbrev FnOrd (P : Program) (w : World) (K : PySem.W.Frag) (mg : Str → Option Value) (base : Heap) (T : List (Addr × Str)) : Prop := Fn P w K mg base "word_order" 3 ["words"] (spO K T orderPre orderPost)
end
end Toy

set_option Elab.async false
set_option linter.all false
set_option maxRecDepth 100000
set_option maxHeartbeats 4000000
namespace Toy
open PySem PySem.Spec PyProof.Rows L2 LamX Wf
/-! need_words, prefixes_of -/
def begS (x : Str) (k : Nat) : Str := cutS x none (some ((k : Int) + 1))
def begs (x : Str) : List Str := (List.range x.length).map (begS x)
def prefL (ws : List Str) : List Str := Str.ofString "" :: ws.flatMap begs
theorem begS_len (x : Str) (k : Nat) : (begS x k).length ≤ x.length := by
  unfold begS cutS Str.length
  rw [List.size_toArray, List.length_take, List.length_drop, Array.length_toList]
  omega
theorem begS_mem {x : Str} {k c : Nat} (h : c ∈ (begS x k).cps.toList) : c ∈ x.cps.toList := by
  unfold begS cutS at h
  exact List.mem_of_mem_drop (List.mem_of_mem_take h)
theorem begs_len (x : Str) : (begs x).length = x.length := by unfold begs; rw [List.length_map, List.length_range]
theorem begs_mem {x b : Str} (h : b ∈ begs x) : ∃ k, k < x.length ∧ b = begS x k := by
  obtain ⟨k, hk, rfl⟩ := List.mem_map.mp h
  exact ⟨k, List.mem_range.mp hk, rfl⟩
theorem flat_len {n : Nat} : ∀ {ws : List Str}, (∀ x ∈ ws, x.length ≤ n) → (ws.flatMap begs).length ≤ ws.length * n
  | [], _ => by simp
  | x :: ws, h => by
    have h1 := flat_len (n := n) (ws := ws) fun y hy => h y (List.mem_cons_of_mem _ hy)
    have h2 := h x List.mem_cons_self
    rw [List.flatMap_cons, List.length_append, begs_len, List.length_cons, Nat.succ_mul]
    omega
theorem prefL_len {ws : List Str} {n : Nat} (h : ∀ x ∈ ws, x.length ≤ n) : (prefL ws).length ≤ ws.length * n + 1 := by
  unfold prefL
  rw [List.length_cons]
  have := flat_len h
  omega
theorem prefL_mem {ws : List Str} {n : Nat} (h : ∀ x ∈ ws, x.length ≤ n) {b : Str} (hb : b ∈ prefL ws) : b.length ≤ n := by
  rcases List.mem_cons.mp hb with rfl | hb
  · exact Nat.zero_le _
  · obtain ⟨x, hx, hb⟩ := List.mem_flatMap.mp hb
    obtain ⟨k, _, rfl⟩ := begs_mem hb
    exact Nat.le_trans (begS_len x k) (h x hx)
theorem fold_len : ∀ (l acc : List Str), (l.foldl addW acc).length ≤ acc.length + l.length := by
  intro l
  induction l with
  | nil => exact fun acc => Nat.le_refl _
  | cons x l ih =>
    intro acc
    rw [List.foldl_cons, List.length_cons]
    have h1 := ih (addW acc x)
    have h2 := addW_len acc x
    omega
theorem getD_sT {ws : List Str} {i : Nat} (hi : i < ws.length) : (sT ws).getD i .non = .str (ws.getD i (Str.ofString "")) := by
  unfold sT
  rw [List.getD_eq_getElem?_getD, List.getElem?_map, List.getElem?_eq_getElem hi, List.getD_eq_getElem?_getD, List.getElem?_eq_getElem hi]
  rfl
theorem getD_mem' {ws : List Str} {i : Nat} (hi : i < ws.length) : ws.getD i (Str.ofString "") ∈ ws := by
  rw [List.getD_eq_getElem?_getD, List.getElem?_eq_getElem hi]
  exact List.getElem_mem hi
theorem take_getD {ws : List Str} {i : Nat} (hi : i < ws.length) : ws.take (i + 1) = ws.take i ++ [ws.getD i (Str.ofString "")] := by
  rw [List.take_succ_eq_append_getElem hi, List.getD_eq_getElem?_getD, List.getElem?_eq_getElem hi]
  rfl
theorem sT_len (ws : List Str) : (sT ws).length = ws.length := List.length_map ..
theorem map_getD {ws : List Str} : (List.range ws.length).map (fun i => ws.getD i (Str.ofString "")) = ws := by
  refine List.ext_getElem (by simp) fun i h1 h2 => ?_
  simp only [List.getElem_map, List.getElem_range, List.getD_eq_getElem?_getD, List.getElem?_eq_getElem h2]
  rfl
section
variable {P : Program} {w : World} {K : PySem.W.Frag} {mg : Str → Option Value} {base : Heap} {T : List (Addr × Str)} {f : Addr} {fd : FuncData}
def wordsPre (ts : List Tr) : Prop := ∃ (z : Str) (ws : List Str) (t : Tr), ts = [.str z, t] ∧ isWs t ws ∧ ws.length ≤ 1000 ∧ ∀ x ∈ ws, Short z x
def wordsPost (ts : List Tr) (r : Tr) : Prop := ∃ (z : Str) (ws : List Str) (t : Tr), ts = [.str z, t] ∧ isWs t ws ∧ r = .tup (sT (wset ws))
/-- walking words, list or tuple -/
theorem ei_ws {X : Cx} {B : Bs} {M : Pl} {Δ : List En} {tg e : Expr} {Φ : Nat → (Nat → Tr) → List En → Prop} {t : Tr} {ws : List Str} (h : isWs t ws) (q : ∀ Θ : Tr → List En → Prop, Θ t Δ → EE X B M Δ e Θ) (k : Φ ws.length (fun i => (sT ws).getD i .non) Δ) : EI X B M Δ tg e Φ := by
  rcases h with rfl | rfl
  · exact ei_list (q _ ⟨sT ws, rfl, by rw [sT_len]; exact k⟩)
  · exact ei_tup (q _ ⟨sT ws, rfl, by rw [sT_len]; exact k⟩)
theorem ok_need_words (F : Fun K "need_words" "need_words" s_need_words f fd) (zt : mg "tuple" = none) (Fs : FnSeq P w K mg base T) (Fn : FnNS P w K mg base T) (Fo : FnOrd P w K mg base T) : FnOk P w K mg base CX0 6 f fd ["letters", "words"] (spF K T wordsPre wordsPost) := by
  refine ok_F F sc_need_words (by rintro _ ⟨z, ws, t, rfl, _⟩; rfl) (by decide) fun cdv A outer s H E m ts hr hp => ?_
  obtain ⟨z, ws, t, rfl, ht, hl, hs⟩ := hp
  have hsl : sizeLine = 16777216 := sizeLine_eq
  have hcl : ∃ n, t.cls = some n := by rcases ht with rfl | rfl <;> exact ⟨_, rfl⟩
  obtain ⟨n, hcl⟩ := hcl
  refine ss_cons (s_if (et_not (et_val (ee_call Fs (hr.mono (by decide)) rfl (ea_cons (ee_name 1 rfl rfl (ea_nil ⟨⟨t, n, rfl, hcl⟩, ?_⟩)))))))
  rintro _ ⟨t', e, rfl⟩
  cases e
  have hsq : t.isSq = true := by rcases ht with rfl | rfl <;> rfl
  rw [hsq]
  refine ⟨true, rfl, fun h => Bool.noConfusion h, fun _ => ss_nil ?_⟩
  refine ss_cons (s_for (.nm 2) PassesOwn.never rfl (pg_name (i := 2) sc_need_words.nd rfl (Or.inl rfl)) (ei_ws ht (fun Θ q => ee_name 1 rfl rfl q) ⟨fun i M' Δ' => ∃ e2, Δ' = [.dat (.str z), .dat t, e2], ⟨_, rfl⟩, ?_, ?_⟩))
  · rintro i M' Δ' hi ⟨e2, rfl⟩
    refine ⟨True.intro, ?_⟩
    show SS _ _ _ (Tg.set _ _ ((sT ws).getD i .non)) _ _
    rw [getD_sT hi]
    refine ss_one (s_expr (Φ := fun _ _ => True) (ee_call Fn (hr.mono (by decide)) rfl (ea_cons (ee_name 0 rfl rfl (ea_cons (ee_name 2 rfl rfl (ea_nil ⟨⟨z, _, rfl, hs _ (getD_mem' hi)⟩, fun _ _ => ?_⟩)))))))
    exact ⟨_, rfl⟩
  · rintro M' Δ' ⟨e2, rfl⟩
    refine ss_one (s_ret (ee_callTy cl_tuple rfl zt (by decide +kernel) (ea_cons (EO.ee (eo_call Fo (hr.mono (by decide)) rfl (ea_cons (EO.ee ?_)))))))
    refine eo_dcT (.nm 2) (own := [("word", 2)]) rfl sc_need_words.nd (by decide) rfl (blkOk_by (N := ["letters", "words", "word"]) (sc := defScope s_need_words) (by decide +kernel)) (fun _ _ _ _ _ => pg_name (i := 2) sc_need_words.nd rfl (Or.inl rfl)) ?_
    refine ei_ws ht (fun Θ q => ee_name 1 rfl rfl q) ⟨fun i => ws.getD i (Str.ofString ""), by omega, fun i D hi => ⟨True.intro, fun _ _ _ _ _ => ?_⟩, ?_⟩
    · show EE _ _ _ (Tg.set _ _ ((sT ws).getD i .non)) _ _
      rw [getD_sT hi]
      exact ee_name 2 rfl rfl ⟨rfl, rfl⟩
    · rw [map_getD]
      refine ea_nil ⟨⟨ws.foldl addW [], .inr (.inr rfl), fun x hx => ?_⟩, ?_⟩
      · have hx' := (foldW_mem.mp hx).elim (fun h => absurd h (by simp)) id
        have := (hs x hx').1
        omega
      · rintro _ ⟨us, e | e | e, rfl⟩
        · injection e with e _; cases e
        · injection e with e _; cases e
        · injection e with e _
          have eu : us = ws.foldl addW [] := by
            unfold kT at e
            injection e with e
            have e2 := congrArg (List.map fun p : Key × Tr => p.1) e
            rw [List.map_map, List.map_map] at e2
            have inj : Function.Injective (((fun p : Key × Tr => p.1) ∘ fun w : Str => ((.inr w : Key), Tr.bl true))) := fun a b h => Sum.inr.inj h
            exact ((List.map_inj_right (fun a b h => inj h)).mp e2).symm
          subst eu
          exact ea_nil ⟨_, .inl rfl, z, ws, t, rfl, ht, rfl⟩
end
end Toy

set_option Elab.async false
set_option linter.all false
set_option maxRecDepth 100000
set_option maxHeartbeats 4000000
namespace Toy
open PySem PySem.Spec PyProof.Rows L2 LamX Wf
section
variable {P : Program} {w : World} {K : PySem.W.Frag} {mg : Str → Option Value} {base : Heap} {T : List (Addr × Str)} {f : Addr} {fd : FuncData}
abbrev FnNW (P : Program) (w : World) (K : PySem.W.Frag) (mg : Str → Option Value) (base : Heap) (T : List (Addr × Str)) : Prop := Fn P w K mg base "need_words" 6 ["letters", "words"] (spF K T wordsPre wordsPost)
def prefPre (ts : List Tr) : Prop := ∃ ws : List Str, ts = [.tup (sT ws)] ∧ ws.length ≤ 1000 ∧ ∀ x ∈ ws, x.length ≤ 12
def prefPost (ts : List Tr) (r : Tr) : Prop := ∃ ws : List Str, ts = [.tup (sT ws)] ∧ r = .tup (sT (wset (prefL ws)))
theorem sT_inj {as bs : List Str} (h : sT as = sT bs) : as = bs := (List.map_inj_right (fun a b h => Tr.str.inj h)).mp h
theorem kT_inj {as bs : List Str} (h : kT as = kT bs) : as = bs := by
  unfold kT at h
  injection h with e
  have e2 := congrArg (List.map fun p : Key × Tr => p.1) e
  rw [List.map_map, List.map_map] at e2
  have inj : ∀ a b, ((fun p : Key × Tr => p.1) ∘ fun w : Str => ((.inr w : Key), Tr.bl true)) a = ((fun p : Key × Tr => p.1) ∘ fun w : Str => ((.inr w : Key), Tr.bl true)) b → a = b := fun a b h => Sum.inr.inj h
  exact (List.map_inj_right (fun a b h => inj a b h)).mp e2
theorem ok_prefixes_of (F : Fun K "prefixes_of" "prefixes_of" s_prefixes_of f fd) (zt : mg "tuple" = none) (zr : mg "range" = none) (zl : mg "len" = none) (Fo : FnOrd P w K mg base T) : FnOk P w K mg base CX0 5 f fd ["words"] (spF K T prefPre prefPost) := by
  refine ok_F F sc_prefixes_of (by rintro _ ⟨ws, rfl, _⟩; rfl) (by decide) fun cdv A outer s H E m ts hr hp => ?_
  obtain ⟨ws, rfl, hl, hs⟩ := hp
  have hsl : sizeLine = 16777216 := sizeLine_eq
  refine ss_cons (s_asgO 1 sc_prefixes_of.nd rfl (eo_d1 fun l hl0 => ?_))
  refine ss_cons (s_for (.nm 2) PassesOwn.never rfl (pg_name (i := 2) sc_prefixes_of.nd rfl (Or.inl rfl)) (ei_tup (ee_name 0 rfl rfl ⟨sT ws, rfl, ?_⟩)))
  rw [sT_len]
  refine ⟨fun i M' Δ' => ∃ e2 e3, Δ' = [.dat (.tup (sT ws)), .own l (kT ((prefL (ws.take i)).foldl addW [])), e2, e3], ⟨_, _, rfl⟩, ?_, ?_⟩
  · rintro i M' Δ' hi ⟨e2, e3, rfl⟩
    refine ⟨True.intro, ?_⟩
    show SS _ _ _ (Tg.set _ _ ((sT ws).getD i .non)) _ _
    rw [getD_sT hi]
    have hx := hs _ (getD_mem' hi)
    generalize hxe : ws.getD i (Str.ofString "") = x at *
    refine ss_one (s_for (.nm 3) PassesOwn.never rfl (pg_name (i := 3) sc_prefixes_of.nd rfl (Or.inl rfl)) (ei_range1 rfl zr (ee_callB cl_lenS rfl zl (by decide +kernel) (ea_cons (ee_name 2 rfl rfl (ea_nil ⟨x, rfl, by omega, _, rfl, by omega, by omega, ?_⟩))))))
    refine ⟨fun j M2 Δ2 => ∃ e3, Δ2 = [.dat (.tup (sT ws)), .own l (kT ((prefL (ws.take i) ++ (List.range j).map (begS x)).foldl addW [])), .dat (.str x), e3], ?_, ?_, ?_⟩
    · show ∃ e3, _
      rw [List.range_zero, List.map_nil, List.append_nil]
      exact ⟨_, rfl⟩
    · rintro j M2 Δ2 hj ⟨e3, rfl⟩
      refine ⟨True.intro, ?_⟩
      have hj' : j < x.length := by simpa using hj
      refine ss_one (s_putT 1 (Nat.lt_of_le_of_lt (Nat.add_le_add_left (by decide : 1 ≤ 64) _) hr.units) rfl rfl (ee_slS (ee_name 2 rfl rfl ⟨x, rfl, by omega, ep_no (ep_some (ee_add (ee_name 3 rfl rfl (ee_int ⟨_, _, rfl, rfl, _, rfl, _, _, rfl, rfl, ?_, ?_⟩))))⟩)))
      · have h1 := fold_len (prefL (ws.take i) ++ (List.range j).map (begS x)) []
        have h2 := prefL_len (ws := ws.take i) (n := 12) fun y hy => hs y (List.mem_of_mem_take hy)
        rw [List.length_append, List.length_map, List.length_range] at h1
        rw [List.length_take] at h2
        have h3 : min i ws.length * 12 ≤ 12000 := by have : min i ws.length ≤ 1000 := by omega
                                                     omega
        simp only [List.length_nil, Nat.zero_add] at h1
        omega
      · show ∃ e3, _ = _
        rw [List.range_succ, List.map_append, ← List.append_assoc, List.foldl_append (l := prefL (ws.take i) ++ (List.range j).map (begS x))]
        exact ⟨_, rfl⟩
    · rintro M2 Δ2 ⟨e3, rfl⟩
      have e1 : prefL (ws.take (i + 1)) = prefL (ws.take i) ++ begs x := by
        unfold prefL
        rw [take_getD hi, hxe, List.flatMap_append, List.flatMap_cons, List.flatMap_nil, List.append_nil]
        rfl
      have e4 : ((x.length : Int) - 0).toNat = x.length := by omega
      show ∃ e2 e3, _ = _
      rw [e1]
      exact ⟨_, _, rfl⟩
  · rintro M' Δ' ⟨e2, e3, rfl⟩
    rw [List.take_length]
    refine ss_share 1 rfl ?_
    refine ss_one (s_ret (ee_callTy cl_tuple rfl zt (by decide +kernel) (ea_cons (EO.ee (eo_call Fo (hr.mono (by decide)) rfl (ea_cons (ee_name 1 rfl rfl (ea_nil ⟨⟨_, .inr (.inr rfl), fun x hx => ?_⟩, ?_⟩))))))))
    · have hx' := (foldW_mem.mp hx).elim (fun h => absurd h (by simp)) id
      have := prefL_mem hs hx'
      omega
    · rintro _ ⟨us, e | e | e, rfl⟩
      · injection e with e _; cases e
      · injection e with e _; cases e
      · injection e with e _
        have eu := kT_inj e
        subst eu
        exact ea_nil ⟨_, .inl rfl, ws, rfl, rfl⟩
end
end Toy

set_option Elab.async false
set_option linter.all false
set_option maxRecDepth 100000
set_option maxHeartbeats 2000000
namespace Wf
open PySem PySem.Spec PyProof.Rows L2 LamX
/-- a class of the module, the last parameters of its __init__ by default -/
structure McD (P : Program) (w : World) (K : PySem.W.Frag) (mg : Str → Option Value) (base : Heap) (x : Str) (C : Addr) (k : Nat) (ps : List Str) (dts : List Tr) (sp : Sp) : Prop where
  cl : Cls K C
  at_ : mg x = some (.ref C)
  ex : ∃ f fd dvs ds, FnOk P w K mg base CX0 k f fd ps sp ∧ L2.Mk K C f ∧ Binds K fd ps ds ∧ Vals dvs ds ∧ ∀ I, Dts K I dvs dts
section
variable {P : Program} {w : World} {K : PySem.W.Frag} {mg : Str → Option Value} {base : Heap} {x : Str} {C : Addr} {k : Nat} {ps : List Str} {dts : List Tr} {T : List (Addr × Str)} {pre : List Tr → Prop} {postI : List Tr → List (Str × Tr) → Prop} {xp : List Tr → XQ} {sp : Sp}
theorem McXD.calm (F : McXD P w K mg base x C k ps dts (spIX K T C pre postI xp)) : McD P w K mg base x C k ps dts (spI K T C (noX pre xp) postI) := by
  obtain ⟨f, fd, dvs, ds, ok, h1, h2, h3, h4⟩ := F.ex
  exact ⟨F.cl, F.at_, f, fd, dvs, ds, fnOk_calmI ok, h1, h2, h3, h4⟩
theorem McD.full (F : McD P w K mg base x C k ps [] sp) : Mc P w K mg base x C k ps sp := by
  obtain ⟨f, fd, dvs, ds, h1, h2, h3, h4, h5⟩ := F.ex
  have e : dvs = [] := List.length_eq_zero_iff.mp (h5 (fun _ => none)).length
  subst e
  cases h4
  exact ⟨F.cl, F.at_, f, fd, h1, h2, h3⟩
end
section
variable {X : Cx} {B : Bs} {M : Pl} {Δ : List En} {e : Expr} {es : List Expr} {Φ : Tr → List En → Prop} {x : Str} {k : Nat} {ps : List Str} {C : Addr} {pre : List Tr → Prop} {post : List Tr → List (Str × Tr) → Prop}
/-- C(e, ..) -/
theorem eo_makeD {dts : List Tr} {p pos : Pos} (F : McD X.prog X.w X.K X.mg X.base x C k ps dts (spI X.K B.T C pre post)) (hr : Room (k + 1) X.A) (hg : Gl X x) (h : EA X B M Δ (e :: es) fun ts Δ1 => pre (ts ++ dts) ∧ ∀ fs, post (ts ++ dts) fs → Φ (.ins C fs) Δ1)
    (hdb : (x == ("__debug__" : Str)) = false := by decide) (he : starEach (e :: es) X.env = (false, eval e X.env) :: starEach es X.env := by rfl) (hpl : (backTo pos (starEach es X.env)).any (·.1) = false := by rfl) : EO X B M Δ (.Call (.Name x p) (e :: es) [] pos) Φ := fun σ H S Q kk => by
  obtain ⟨f, fd, dvs, ds, ok, hm, hb, hv, hd⟩ := F.ex
  refine PE.to (pe_make hm ok hr hg F.at_ hb hv pass0 pa_self hdb he hpl) (h σ H S _ fun ts Δ1 vs H1 q fe S1 d => fun l dx hl hdx hne => ?_)
  have s1 : Same H1 (upd (upd H1 dx (.own l)) l (.ins C dx [])) := fun b o z => by
    rw [upd_ne (ne_of_none z hl), upd_ne (ne_of_none z hdx)]; exact z
  have nm : ¬ M.m l := S1.notM hl
  have s2 : Sub (mi M.m H1) (mi (fun b => M.m b ∨ b = l) (upd (upd H1 dx (.own l)) l (.ins C dx []))) := mi_new hl S1 (Fe.same s1)
  refine ⟨M.m, l, dx, vs ++ dvs, ts ++ dts, rfl, nm, upd_same, (d.mono s2).append (hd _), q.1, fun b z => ?_, S1.tb.ext s1, fun fs H' hp f2 tb ow => ⟨rfl, ?_⟩⟩
  · obtain ⟨o, e⟩ := S1.al b z
    exact ⟨o, s1 b o e⟩
  · have fn : Fe (fun _ => False) H1 H' := ((Fe.same s1).trans f2).imp fun b o n z e => by rw [z, hl] at e; cases e
    have ex : ∃ o, H' l = some o := by
      obtain ⟨_, _, z, _⟩ := ow
      exact ⟨_, z⟩
    obtain ⟨S2, hn⟩ := S1.grab fn tb hl ex
    exact kk _ Δ1 l H' (q.2 fs hp) (fe.trans (fn.imp fun _ _ _ z => z.elim)) (fe.free (fun b z => S1.al b (S1.wm b z)) hl) S2 hn ow
end
end Wf

set_option Elab.async false
set_option linter.all false
set_option maxRecDepth 100000
set_option maxHeartbeats 4000000
namespace Toy
open PySem PySem.Spec PyProof.Rows L2 LamX Wf
/-! Sample.__init__ -/
def sF4 (z : Str) (ys ns ps : List Str) : List (Str × Tr) := [(("own_letters" : Str), .str z), (("own_yes" : Str), .tup (sT ys)), (("own_no" : Str), .tup (sT ns)), (("own_prefixes" : Str), .tup (sT ps))]
def sPr (z : Str) (ys ns : List Str) : Tr := .tup [.str z, .tup (sT ys), .tup (sT ns)]
def sF (z : Str) (ys ns ps : List Str) : List (Str × Tr) := [(("own_letters" : Str), .str z), (("own_yes" : Str), .tup (sT ys)), (("own_no" : Str), .tup (sT ns)), (("own_prefixes" : Str), .tup (sT ps)), (("own_parts" : Str), sPr z ys ns)]
/-- the sample with these letters and these words -/
def smpT (C : Addr) (z : Str) (ys ns : List Str) : Tr := .ins C (sF z ys ns (wset (prefL (ys ++ ns))))
structure SmpC (K : PySem.W.Frag) (C : Addr) : Prop where
  cl : Cls K C
  n1 : NoAttr K C "own_letters"
  n2 : NoAttr K C "own_yes"
  n3 : NoAttr K C "own_no"
  n4 : NoAttr K C "own_prefixes"
  n5 : NoAttr K C "own_parts"
theorem putT_new {f : Str} {t : Tr} : ∀ {fs : List (Str × Tr)}, (∀ p ∈ fs, p.1 ≠ f) → putT f t fs = fs ++ [(f, t)]
  | [], _ => rfl
  | (g, x) :: fs, h => by
    unfold putT
    rw [if_neg (h (g, x) List.mem_cons_self), putT_new fun p hp => h p (List.mem_cons_of_mem _ hp)]
    rfl
theorem kYL : (("own_yes" : Str) == "own_letters") = false := by decide +kernel
theorem kNL : (("own_no" : Str) == "own_letters") = false := by decide +kernel
theorem kNY : (("own_no" : Str) == "own_yes") = false := by decide +kernel
theorem kPL : (("own_prefixes" : Str) == "own_letters") = false := by decide +kernel
theorem kPY : (("own_prefixes" : Str) == "own_yes") = false := by decide +kernel
theorem kPN : (("own_prefixes" : Str) == "own_no") = false := by decide +kernel
theorem kAL : (("own_parts" : Str) == "own_letters") = false := by decide +kernel
theorem kAY : (("own_parts" : Str) == "own_yes") = false := by decide +kernel
theorem kAN : (("own_parts" : Str) == "own_no") = false := by decide +kernel
theorem kAP : (("own_parts" : Str) == "own_prefixes") = false := by decide +kernel
theorem ne_of_k {a b : Str} (h : (a == b) = false) : b ≠ a := fun e => by rw [e, beq_self_eq_true] at h; cases h
theorem sput1 {t : Tr} : putT "own_letters" t [] = [(("own_letters" : Str), t)] := rfl
theorem sput2 {a t : Tr} : putT "own_yes" t [(("own_letters" : Str), a)] = [(("own_letters" : Str), a), (("own_yes" : Str), t)] := putT_new (by
  intro p hp
  simp only [List.mem_cons, List.not_mem_nil, or_false] at hp
  rcases hp with rfl
  exact ne_of_k kYL)
theorem sput3 {a b t : Tr} : putT "own_no" t [(("own_letters" : Str), a), (("own_yes" : Str), b)] = [(("own_letters" : Str), a), (("own_yes" : Str), b), (("own_no" : Str), t)] := putT_new (by
  intro p hp
  simp only [List.mem_cons, List.not_mem_nil, or_false] at hp
  rcases hp with rfl | rfl
  · exact ne_of_k kNL
  · exact ne_of_k kNY)
theorem sput4 {a b c t : Tr} : putT "own_prefixes" t [(("own_letters" : Str), a), (("own_yes" : Str), b), (("own_no" : Str), c)] = [(("own_letters" : Str), a), (("own_yes" : Str), b), (("own_no" : Str), c), (("own_prefixes" : Str), t)] := putT_new (by
  intro p hp
  simp only [List.mem_cons, List.not_mem_nil, or_false] at hp
  rcases hp with rfl | rfl | rfl
  · exact ne_of_k kPL
  · exact ne_of_k kPY
  · exact ne_of_k kPN)
theorem sput5 {a b c d t : Tr} : putT "own_parts" t [(("own_letters" : Str), a), (("own_yes" : Str), b), (("own_no" : Str), c), (("own_prefixes" : Str), d)] = [(("own_letters" : Str), a), (("own_yes" : Str), b), (("own_no" : Str), c), (("own_prefixes" : Str), d), (("own_parts" : Str), t)] := putT_new (by
  intro p hp
  simp only [List.mem_cons, List.not_mem_nil, or_false] at hp
  rcases hp with rfl | rfl | rfl | rfl
  · exact ne_of_k kAL
  · exact ne_of_k kAY
  · exact ne_of_k kAN
  · exact ne_of_k kAP)
theorem slkL {a : Tr} {r : List (Str × Tr)} : ((("own_letters" : Str), a) :: r).lookup ("own_letters" : Str) = some a := by
  rw [List.lookup_cons, beq_self_eq_true]
theorem slkY {a b : Tr} {r : List (Str × Tr)} : ((("own_letters" : Str), a) :: (("own_yes" : Str), b) :: r).lookup ("own_yes" : Str) = some b := by
  rw [List.lookup_cons, kYL, List.lookup_cons, beq_self_eq_true]
theorem slkN {a b c : Tr} {r : List (Str × Tr)} : ((("own_letters" : Str), a) :: (("own_yes" : Str), b) :: (("own_no" : Str), c) :: r).lookup ("own_no" : Str) = some c := by
  rw [List.lookup_cons, kNL, List.lookup_cons, kNY, List.lookup_cons, beq_self_eq_true]
theorem slkP {a b c d : Tr} {r : List (Str × Tr)} : ((("own_letters" : Str), a) :: (("own_yes" : Str), b) :: (("own_no" : Str), c) :: (("own_prefixes" : Str), d) :: r).lookup ("own_prefixes" : Str) = some d := by
  rw [List.lookup_cons, kPL, List.lookup_cons, kPY, List.lookup_cons, kPN, List.lookup_cons, beq_self_eq_true]
theorem slkA {a b c d e : Tr} {r : List (Str × Tr)} : ((("own_letters" : Str), a) :: (("own_yes" : Str), b) :: (("own_no" : Str), c) :: (("own_prefixes" : Str), d) :: (("own_parts" : Str), e) :: r).lookup ("own_parts" : Str) = some e := by
  rw [List.lookup_cons, kAL, List.lookup_cons, kAY, List.lookup_cons, kAN, List.lookup_cons, kAP, List.lookup_cons, beq_self_eq_true]
section
variable {P : Program} {w : World} {K : PySem.W.Frag} {mg : Str → Option Value} {base : Heap} {T : List (Addr × Str)} {f : Addr} {fd : FuncData} {C : Addr}
abbrev FnPO (P : Program) (w : World) (K : PySem.W.Frag) (mg : Str → Option Value) (base : Heap) (T : List (Addr × Str)) : Prop := Fn P w K mg base "prefixes_of" 5 ["words"] (spF K T prefPre prefPost)
def smpPre (ts : List Tr) : Prop := ∃ (ls : List Nat) (yes no : List Str) (ty tn : Tr), ts = [.str (txt ls), ty, tn] ∧ GoodLets ls ∧ isWs ty yes ∧ isWs tn no ∧ yes.length + no.length ≤ 45 ∧ (∀ x ∈ yes, Short (txt ls) x) ∧ (∀ x ∈ no, Short (txt ls) x) ∧ ∀ x ∈ yes, x ∉ no
def smpPost (ts : List Tr) (fs : List (Str × Tr)) : Prop := ∃ (ls : List Nat) (yes no : List Str) (ty tn : Tr), ts = [.str (txt ls), ty, tn] ∧ isWs ty yes ∧ isWs tn no ∧ fs = sF (txt ls) (wset yes) (wset no) (wset (prefL (wset yes ++ wset no)))
abbrev bdSmp : List Stmt := defBody s_Sample__init_
theorem ok_sinit {dfs : List V} {kws : List (Str × V)} (F : FunD K "__init__" "Sample.__init__" (defArgs s_Sample__init_) (defBody s_Sample__init_) (defScope s_Sample__init_) dfs kws f fd) (MC : SmpC K C) (zl : mg "len" = none) (mW : ∃ t, mg "WORDS" = some (.int 200 t)) (mP : ∃ t, mg "PREFIXES" = some (.int 600 t)) (Fl : FnNL P w K mg base T) (Fw : FnNW P w K mg base T) (Fp : FnPO P w K mg base T) :
    FnOk P w K mg base (L2.CX P w) 8 f fd ["self", "letters", "yes", "no"] (spIX K T C smpPre smpPost (fun _ _ _ => False)) := by
  refine ok_IXD F sc_Sample__init_ (by rintro _ ⟨ls, yes, no, ty, tn, rfl, _⟩; rfl) (by decide) fun cdv A outer s H H0 E m l ts hr hp xo => ?_
  obtain ⟨ls, yes, no, ty, tn, rfl, hl, hy, hn, hlen, hsy, hsn, hd⟩ := hp
  have hsl : sizeLine = 16777216 := sizeLine_eq
  obtain ⟨tW, mW⟩ := mW
  obtain ⟨tP, mP⟩ := mP
  refine ss_cons (s_expr (Φ := fun _ _ => True) (ee_call Fl (hr.mono (by decide)) rfl (ea_cons (ee_name 1 rfl rfl (ea_nil ⟨⟨ls, rfl, hl⟩, fun _ _ => ?_⟩)))))
  refine ss_cons (s_fld 0 rfl (ee_name 1 rfl rfl ⟨l, C, [], rfl, MC.cl, MC.n1, by decide, ?_⟩))
  rw [sput1]
  refine ss_cons (s_fld 0 rfl (ee_call Fw (hr.mono (by decide)) rfl (ea_cons (ee_name 1 rfl rfl (ea_cons (ee_name 2 rfl rfl (ea_nil ⟨⟨_, yes, ty, rfl, hy, by omega, hsy⟩, ?_⟩)))))))
  have uniq : ∀ {t : Tr} {as bs : List Str}, isWs t as → isWs t bs → as = bs := fun {t as bs} h g => by
    rcases h with rfl | rfl <;> rcases g with g | g <;> first | (injection g with g; exact sT_inj g) | cases g
  rintro _ ⟨z', ws', t', e, hw', rfl⟩
  injection e with e1 e
  injection e with e2 _
  subst e2
  have e3 := uniq hy hw'
  subst e3
  refine ⟨l, C, _, rfl, MC.cl, MC.n2, by show 1 < 1000; omega, ?_⟩
  rw [sput2]
  refine ss_cons (s_fld 0 rfl (ee_call Fw (hr.mono (by decide)) rfl (ea_cons (ee_name 1 rfl rfl (ea_cons (ee_name 3 rfl rfl (ea_nil ⟨⟨_, no, tn, rfl, hn, by omega, hsn⟩, ?_⟩)))))))
  rintro _ ⟨z2, ws2, t2, e, hw2, rfl⟩
  injection e with e4 e
  injection e with e5 _
  subst e5
  have e6 := uniq hn hw2
  subst e6
  refine ⟨l, C, _, rfl, MC.cl, MC.n3, by show 2 < 1000; omega, ?_⟩
  rw [sput3]
  have ly := wset_len yes
  have ln := wset_len no
  have my : ∀ x ∈ wset yes, x ∈ yes := fun x hx => wset_mem.mp hx
  have mn : ∀ x ∈ wset no, x ∈ no := fun x hx => wset_mem.mp hx
  have big : (wset (prefL (wset yes ++ wset no))).length ≤ 541 := by
    have h1 := wset_len (prefL (wset yes ++ wset no))
    have h2 := prefL_len (ws := wset yes ++ wset no) (n := 12) fun x hx => (List.mem_append.mp hx).elim (fun h => (hsy x (my x h)).1) fun h => (hsn x (mn x h)).1
    rw [List.length_append] at h2
    omega
  refine ss_cons (s_for (.nm 4) (L2.passes_of rfl) rfl (pg_name (i := 4) sc_Sample__init_.nd rfl (Or.inl rfl)) (ei_tup (ee_fldO 0 rfl rfl MC.cl MC.n2 slkY ⟨sT (wset yes), rfl, ?_⟩)))
  refine ⟨fun i M' Δ' => (∀ b, M'.m b ↔ m b ∨ b = l) ∧ ∃ e4, Δ' = [.own l (.ins C [(("own_letters" : Str), .str (txt ls)), (("own_yes" : Str), .tup (sT (wset yes))), (("own_no" : Str), .tup (sT (wset no)))]), .dat (.str (txt ls)), .dat ty, .dat tn, e4], ⟨fun b => Iff.rfl, _, rfl⟩, ?_, ?_⟩
  · rintro i M' Δ' hi ⟨hM, e4, rfl⟩
    refine ⟨True.intro, ?_⟩
    rw [sT_len] at hi
    show SS _ _ _ (Tg.set _ _ ((sT (wset yes)).getD i .non)) _ _
    rw [getD_sT hi]
    have hx := my _ (getD_mem' hi)
    generalize (wset yes).getD i (Str.ofString "") = x at *
    refine ss_one (s_if (et_cmp cd_inT (ee_name 4 rfl rfl (ee_fldO 0 rfl rfl MC.cl MC.n3 slkN ⟨x, wset no, rfl, .inl rfl, fun h => ?_, fun _ => ss_nil ⟨hM, _, rfl⟩⟩))))
    exact absurd (mn x (of_decide_eq_true h)) (hd x hx)
  · rintro M' Δ' ⟨hM, e4, rfl⟩
    refine ss_cons (s_if (et_cmp cd_gt (ee_add (ee_callB cl_len rfl zl (by decide +kernel) (ea_cons (ee_fldO 0 rfl rfl MC.cl MC.n2 slkY (ea_nil ⟨_, rfl, _, .inr rfl, ee_callB cl_len rfl zl (by decide +kernel) (ea_cons (ee_fldO 0 rfl rfl MC.cl MC.n3 slkN (ea_nil ⟨_, rfl, _, .inr rfl, _, _, rfl, rfl, ee_globI rfl mW ⟨_, _, rfl, rfl, fun h => ?_, fun _ => ss_nil ?_⟩⟩)))⟩)))))))
    · rw [sT_len, sT_len] at h
      have h := of_decide_eq_true h
      omega
    refine ss_cons (s_fld 0 rfl (ee_call Fp (hr.mono (by decide)) rfl (ea_cons (ee_catT (ee_fldO 0 rfl rfl MC.cl MC.n2 slkY (ee_fldO 0 rfl rfl MC.cl MC.n3 slkN ⟨_, _, rfl, rfl, ?_, ea_nil ⟨⟨wset yes ++ wset no, ?_, ?_, ?_⟩, ?_⟩⟩))))))
    · rw [sT_len, sT_len]; omega
    · unfold sT; rw [List.map_append]
    · rw [List.length_append]; omega
    · exact fun x hx => (List.mem_append.mp hx).elim (fun h => (hsy x (my x h)).1) fun h => (hsn x (mn x h)).1
    rintro _ ⟨ws3, e, rfl⟩
    have e7 : ws3 = wset yes ++ wset no := by
      injection e with e _
      injection e with e
      refine (sT_inj ?_).symm
      rw [← e]
      unfold sT
      rw [List.map_append]
    subst e7
    refine ⟨l, C, _, rfl, MC.cl, MC.n4, by show 3 < 1000; omega, ?_⟩
    rw [sput4]
    refine ss_cons (s_if (et_cmp cd_gt (ee_callB cl_len rfl zl (by decide +kernel) (ea_cons (ee_fldO 0 rfl rfl MC.cl MC.n4 slkP (ea_nil ⟨_, rfl, _, .inr rfl, ee_globI rfl mP ⟨_, _, rfl, rfl, fun h => ?_, fun _ => ss_nil ?_⟩⟩))))))
    · rw [sT_len] at h
      have h := of_decide_eq_true h
      omega
    refine ss_one (s_fld 0 rfl (ee_tup (ea_cons (ee_name 1 rfl rfl (ea_cons (ee_fldO 0 rfl rfl MC.cl MC.n2 slkY (ea_cons (ee_fldO 0 rfl rfl MC.cl MC.n3 slkN (ea_nil ⟨by show 3 ≤ sizeLine; omega, l, C, _, rfl, MC.cl, MC.n5, by show 4 < 1000; omega, ?_⟩)))))))))
    rw [sput5]
    exact ⟨hM, _, ⟨ls, yes, no, ty, tn, rfl, hy, hn, rfl⟩, rfl⟩
end
end Toy

set_option Elab.async false
set_option linter.all false
set_option maxRecDepth 100000
set_option maxHeartbeats 4000000
namespace Toy
open PySem PySem.Spec PyProof.Rows L2 LamX Wf
/-! Sample's properties, mark, == -/
theorem eqvAll_sT : ∀ as bs : List Str, PyData.eqvAll (pyAll (sT as)) (pyAll (sT bs)) = decide (as = bs)
  | [], [] => by simp [sT, pyAll, PyData.eqvAll]
  | [], b :: bs => by simp [sT, pyAll, PyData.eqvAll]
  | a :: as, [] => by simp [sT, pyAll, PyData.eqvAll]
  | a :: as, b :: bs => by
    have ih := eqvAll_sT as bs
    have e : PyData.eqvAll (pyAll (sT (a :: as))) (pyAll (sT (b :: bs))) = (PyData.eqv (.str a) (.str b) && PyData.eqvAll (pyAll (sT as)) (pyAll (sT bs))) := by
      show PyData.eqvAll (pyAll (Tr.str a :: sT as)) (pyAll (Tr.str b :: sT bs)) = _
      rw [pyAll_map, pyAll_map, pyAll_map, pyAll_map, List.map_cons, List.map_cons]
      simp only [PyData.eqvAll, Tr.py]
    rw [e, ih]
    unfold PyData.eqv
    by_cases h : a = b <;> by_cases g : as = bs <;> simp [h, g]
theorem eqv_tsT (as bs : List Str) : PyData.eqv (Tr.tup (sT as)).py (Tr.tup (sT bs)).py = decide (as = bs) := by
  rw [← eqvAll_sT]
  conv => lhs; unfold Tr.py
  unfold PyData.eqv
  rfl
theorem eqv_sPr (z z' : Str) (ys ns ys' ns' : List Str) : PyData.eqv (sPr z ys ns).py (sPr z' ys' ns').py = decide (z = z' ∧ ys = ys' ∧ ns = ns') := by
  have e : PyData.eqv (sPr z ys ns).py (sPr z' ys' ns').py = (PyData.eqv (Tr.str z).py (Tr.str z').py && (PyData.eqv (Tr.tup (sT ys)).py (Tr.tup (sT ys')).py && (PyData.eqv (Tr.tup (sT ns)).py (Tr.tup (sT ns')).py && true))) := by
    unfold sPr
    conv => lhs; unfold Tr.py
    simp only [pyAll, PyData.eqv, PyData.eqvAll]
  have e2 : PyData.eqv (Tr.str z).py (Tr.str z').py = decide (z = z') := by
    unfold Tr.py PyData.eqv
    by_cases h : z = z' <;> simp [h]
  rw [e, e2, eqv_tsT, eqv_tsT]
  by_cases h : z = z' <;> by_cases g : ys = ys' <;> by_cases k : ns = ns' <;> simp [h, g, k]
def markT (ys ns : List Str) : Tr → Tr
  | .str x => if x ∈ ys then .bl true else if x ∈ ns then .bl false else .non
  | _ => .non
def AllOk (ws : List Str) : Prop := ∀ x ∈ ws, PyData.strOk x = true
theorem good_sT {ws : List Str} (h : AllOk ws) : (Tr.tup (sT ws)).good 1 := good_tup fun t ht => by
  obtain ⟨x, hx, rfl⟩ := List.mem_map.mp ht
  exact good_str (h x hx)
theorem good_sL {ws : List Str} (h : AllOk ws) : (Tr.lst (sT ws)).good 1 := good_lst fun t ht => by
  obtain ⟨x, hx, rfl⟩ := List.mem_map.mp ht
  exact good_str (h x hx)
theorem good_sPr {z : Str} {ys ns : List Str} (hz : PyData.strOk z = true) (hy : AllOk ys) (hn : AllOk ns) : (sPr z ys ns).good 2 := good_tup fun t ht => by
  simp only [List.mem_cons, List.not_mem_nil, or_false] at ht
  rcases ht with rfl | rfl | rfl
  · exact good_str hz
  · exact good_sT hy
  · exact good_sT hn
/-- the class and isinstance -/
structure SmpI (K : PySem.W.Frag) (C : Addr) : Prop where
  ty : InsTy K C
  self : PySem.W.kitOne K (.ref C) (.ref C) = some true
  oth : ∀ n ∈ ["NoneType", "bool", "int", "str", "list", "tuple", "dict"], PySem.W.kitOne K (.type n) (.ref C) = some false
  nf : ∀ n ∈ ["NoneType", "bool", "int", "str", "list", "tuple", "dict"], PySem.W.notFirst K C (.type n) = true
theorem cls_mem {t : Tr} {n : String} (h : t.cls = some n) : n ∈ ["NoneType", "bool", "int", "str", "list", "tuple", "dict"] := by
  cases t <;> cases h <;> decide
theorem sF_self {K : PySem.W.Frag} {C : Addr} : PySem.W.notFirst K C (.ref C) = true := by simp [PySem.W.notFirst]
section
variable {P : Program} {w : World} {K : PySem.W.Frag} {mg : Str → Option Value} {base : Heap} {T : List (Addr × Str)} {f : Addr} {fd : FuncData} {C : Addr}
def sPre (C : Addr) (ts : List Tr) : Prop := ∃ z ys ns, ts = [smpT C z ys ns]
def slPost (C : Addr) (ts : List Tr) (r : Tr) : Prop := ∃ z ys ns, ts = [smpT C z ys ns] ∧ r = .str z
def syPost (C : Addr) (ts : List Tr) (r : Tr) : Prop := ∃ z ys ns, ts = [smpT C z ys ns] ∧ r = .tup (sT ys)
def snPost (C : Addr) (ts : List Tr) (r : Tr) : Prop := ∃ z ys ns, ts = [smpT C z ys ns] ∧ r = .tup (sT ns)
def spPost (C : Addr) (ts : List Tr) (r : Tr) : Prop := ∃ z ys ns, ts = [smpT C z ys ns] ∧ r = .tup (sT (wset (prefL (ys ++ ns))))
def ssPost (C : Addr) (ts : List Tr) (r : Tr) : Prop := ∃ z ys ns, ts = [smpT C z ys ns] ∧ r = .int ((ys.length : Int) + ns.length)
theorem smp_inj {C : Addr} {z z' : Str} {ys ns ys' ns' : List Str} (h : smpT C z ys ns = smpT C z' ys' ns') : z = z' ∧ ys = ys' ∧ ns = ns' := by
  unfold smpT sF at h
  injection h with _ h
  injection h with h1 h
  injection h with h2 h
  injection h with h3 h
  have e1 : Tr.str z = Tr.str z' := congrArg Prod.snd h1
  have e2 : Tr.tup (sT ys) = Tr.tup (sT ys') := congrArg Prod.snd h2
  have e3 : Tr.tup (sT ns) = Tr.tup (sT ns') := congrArg Prod.snd h3
  exact ⟨Tr.str.inj e1, sT_inj (Tr.tup.inj e2), sT_inj (Tr.tup.inj e3)⟩
theorem ok_sletters (F : Fun K "letters" "Sample.letters" s_Sample_letters f fd) (MC : SmpC K C) : FnOk P w K mg base CX0 1 f fd ["self"] (spF K T (sPre C) (slPost C)) := by
  refine ok_F F sc_Sample_letters (by rintro _ ⟨z, ys, ns, rfl⟩; rfl) (by decide) fun cdv A outer s H E m ts hr hp => ?_
  obtain ⟨z, ys, ns, rfl⟩ := hp
  exact ss_one (s_ret (ee_fld (ee_name 0 rfl rfl ⟨C, _, _, rfl, MC.cl, MC.n1, slkL, z, ys, ns, rfl, rfl⟩)))
theorem ok_syes (F : Fun K "yes" "Sample.yes" s_Sample_yes f fd) (MC : SmpC K C) : FnOk P w K mg base CX0 1 f fd ["self"] (spF K T (sPre C) (syPost C)) := by
  refine ok_F F sc_Sample_yes (by rintro _ ⟨z, ys, ns, rfl⟩; rfl) (by decide) fun cdv A outer s H E m ts hr hp => ?_
  obtain ⟨z, ys, ns, rfl⟩ := hp
  exact ss_one (s_ret (ee_fld (ee_name 0 rfl rfl ⟨C, _, _, rfl, MC.cl, MC.n2, slkY, z, ys, ns, rfl, rfl⟩)))
theorem ok_sno (F : Fun K "no" "Sample.no" s_Sample_no f fd) (MC : SmpC K C) : FnOk P w K mg base CX0 1 f fd ["self"] (spF K T (sPre C) (snPost C)) := by
  refine ok_F F sc_Sample_no (by rintro _ ⟨z, ys, ns, rfl⟩; rfl) (by decide) fun cdv A outer s H E m ts hr hp => ?_
  obtain ⟨z, ys, ns, rfl⟩ := hp
  exact ss_one (s_ret (ee_fld (ee_name 0 rfl rfl ⟨C, _, _, rfl, MC.cl, MC.n3, slkN, z, ys, ns, rfl, rfl⟩)))
theorem ok_sprefixes (F : Fun K "prefixes" "Sample.prefixes" s_Sample_prefixes f fd) (MC : SmpC K C) : FnOk P w K mg base CX0 1 f fd ["self"] (spF K T (sPre C) (spPost C)) := by
  refine ok_F F sc_Sample_prefixes (by rintro _ ⟨z, ys, ns, rfl⟩; rfl) (by decide) fun cdv A outer s H E m ts hr hp => ?_
  obtain ⟨z, ys, ns, rfl⟩ := hp
  exact ss_one (s_ret (ee_fld (ee_name 0 rfl rfl ⟨C, _, _, rfl, MC.cl, MC.n4, slkP, z, ys, ns, rfl, rfl⟩)))
theorem ok_ssize (F : Fun K "size" "Sample.size" s_Sample_size f fd) (MC : SmpC K C) (zl : mg "len" = none) : FnOk P w K mg base CX0 1 f fd ["self"] (spF K T (sPre C) (ssPost C)) := by
  refine ok_F F sc_Sample_size (by rintro _ ⟨z, ys, ns, rfl⟩; rfl) (by decide) fun cdv A outer s H E m ts hr hp => ?_
  obtain ⟨z, ys, ns, rfl⟩ := hp
  refine ss_one (s_ret (ee_add (ee_callB cl_len rfl zl (by decide +kernel) (ea_cons (ee_fld (ee_name 0 rfl rfl ⟨C, _, _, rfl, MC.cl, MC.n2, slkY, ea_nil ⟨_, rfl, sT ys, .inr rfl, ee_callB cl_len rfl zl (by decide +kernel) (ea_cons (ee_fld (ee_name 0 rfl rfl ⟨C, _, _, rfl, MC.cl, MC.n3, slkN, ea_nil ⟨_, rfl, sT ns, .inr rfl, _, _, rfl, rfl, z, ys, ns, rfl, ?_⟩⟩)))⟩⟩))))))
  rw [sT_len, sT_len]
def smPre (C : Addr) (ts : List Tr) : Prop := ∃ z ys ns t n, ts = [smpT C z ys ns, t] ∧ t.cls = some n
def smPost (C : Addr) (ts : List Tr) (r : Tr) : Prop := ∃ z ys ns t, ts = [smpT C z ys ns, t] ∧ r = markT ys ns t
theorem ok_smark (F : Fun K "mark" "Sample.mark" s_Sample_mark f fd) (MC : SmpC K C) (zI : mg "isinstance" = none) (zs : mg "str" = none) : FnOk P w K mg base CX0 2 f fd ["self", "word"] (spF K T (smPre C) (smPost C)) := by
  refine ok_F F sc_Sample_mark (by rintro _ ⟨z, ys, ns, t, n, rfl, _⟩; rfl) (by decide) fun cdv A outer s H E m ts hr hp => ?_
  obtain ⟨z, ys, ns, t, n, rfl, hn⟩ := hp
  refine ss_cons (s_if (et_not (et_val (ee_isi (T := "str") rfl zI rfl zs (by decide +kernel) (by decide +kernel) (ee_name 1 rfl rfl ⟨n, _, hn, kit_st hn, _, rfl, fun h => ?_, fun h => ?_⟩)))))
  · refine ss_one (s_ret (ee_non ⟨z, ys, ns, t, rfl, ?_⟩))
    cases t <;> first | rfl | exact Bool.noConfusion h
  · refine ss_nil ?_
    cases t <;> first | exact Bool.noConfusion h | skip
    rename_i x
    refine ss_one (s_ret (ee_if (et_cmp cd_inT (ee_name 1 rfl rfl (ee_fld (ee_name 0 rfl rfl ⟨C, _, _, rfl, MC.cl, MC.n2, slkY, x, ys, rfl, .inl rfl, fun h1 => ee_bl ⟨z, ys, ns, .str x, rfl, ?_⟩, fun h1 => ee_if (et_cmp cd_inT (ee_name 1 rfl rfl (ee_fld (ee_name 0 rfl rfl ⟨C, _, _, rfl, MC.cl, MC.n3, slkN, x, ns, rfl, .inl rfl, fun h2 => ee_bl ⟨z, ys, ns, .str x, rfl, ?_⟩, fun h2 => ee_non ⟨z, ys, ns, .str x, rfl, ?_⟩⟩))))⟩))))))
    · show _ = if x ∈ ys then _ else _
      rw [if_pos (of_decide_eq_true h1)]
    · show _ = if x ∈ ys then _ else _
      rw [if_neg (of_decide_eq_false h1), if_pos (of_decide_eq_true h2)]
    · show _ = if x ∈ ys then _ else _
      rw [if_neg (of_decide_eq_false h1), if_neg (of_decide_eq_false h2)]
def seqPre2 (C : Addr) (ts : List Tr) : Prop := ∃ z ys ns, PyData.strOk z = true ∧ AllOk ys ∧ AllOk ns ∧ ((∃ z' ys' ns', ts = [smpT C z ys ns, smpT C z' ys' ns'] ∧ PyData.strOk z' = true ∧ AllOk ys' ∧ AllOk ns') ∨ ∃ t n, ts = [smpT C z ys ns, t] ∧ t.cls = some n)
def seqPost2 (C : Addr) (ts : List Tr) (r : Tr) : Prop := ∃ z ys ns, ((∃ z' ys' ns', ts = [smpT C z ys ns, smpT C z' ys' ns'] ∧ r = .bl (decide (z = z' ∧ ys = ys' ∧ ns = ns'))) ∨ ∃ t n, ts = [smpT C z ys ns, t] ∧ t.cls = some n ∧ r = .bl false)
theorem ok_seq (F : Fun K "__eq__" "Sample.__eq__" s_Sample__eq_ f fd) (MC : SmpC K C) (SI : SmpI K C) (zI : mg "isinstance" = none) (mS : mg "Sample" = some (.ref C)) : FnOk P w K mg base CX0 2 f fd ["self", "other"] (spF K T (seqPre2 C) (seqPost2 C)) := by
  refine ok_F F sc_Sample__eq_ (by rintro _ ⟨z, ys, ns, _, _, _, ⟨z', ys', ns', rfl, _⟩ | ⟨t, n, rfl, _⟩⟩ <;> rfl) (by decide) fun cdv A outer s H E m ts hr hp => ?_
  obtain ⟨z, ys, ns, hz, hy, hn, ⟨z', ys', ns', rfl, hz', hy', hn'⟩ | ⟨t, n, rfl, ht⟩⟩ := hp
  · refine ss_one (s_ret (ee_and (ee_isiC rfl zI rfl mS (by decide +kernel) (ee_name 1 rfl rfl ⟨_, true, .ins SI.ty, SI.self, _, rfl, fun _ => ?_, fun h => Bool.noConfusion h⟩))))
    refine ee_one (ee_cmp (cd_eqD hr.units) (ee_fld (ee_name 0 rfl rfl ⟨C, _, _, rfl, MC.cl, MC.n5, slkA, ee_fld (ee_name 1 rfl rfl ⟨C, _, _, rfl, MC.cl, MC.n5, slkA, (good_sPr hz hy hn).eqOk, (good_sPr hz' hy' hn').eqOk, ?_⟩)⟩)))
    rw [eqv_sPr]
    exact ⟨z, ys, ns, .inl ⟨z', ys', ns', rfl, rfl⟩⟩
  · refine ss_one (s_ret (ee_and (ee_isiC rfl zI rfl mS (by decide +kernel) (ee_name 1 rfl rfl ⟨_, false, .data ht, SI.oth _ (cls_mem ht), _, rfl, fun h => Bool.noConfusion h, fun _ => ?_⟩))))
    exact ⟨z, ys, ns, .inr ⟨t, n, rfl, ht, rfl⟩⟩
end
end Toy

set_option Elab.async false
set_option linter.all false
set_option maxRecDepth 100000
set_option maxHeartbeats 4000000
namespace Toy
open PySem PySem.Spec PyProof.Rows L2 LamX Wf
/-! _law_sorted, _law_shuffled, _law_mixed, _law_made, _law_prefixes -/
section
variable {P : Program} {w : World} {K : PySem.W.Frag} {mg : Str → Option Value} {base : Heap} {T : List (Addr × Str)} {f : Addr} {fd : FuncData} {C : Addr}
theorem fnOk_POP {k : Nat} {ps : List Str} {pre : List Tr → Prop} {cost : List Tr → Nat} {post : List Tr → Tr → Prop} (F : FnOk P w K mg base CX0 k f fd ps (spPO K T pre cost post)) : FnOk P w K mg base CX0 k f fd ps (spP K T pre cost post) := by
  have key : ∀ vs H Q E, spP K T pre cost post vs H Q E → spPO K T pre cost post vs H Q E := by
    rintro vs H Q E ⟨m, p, N, vs', ts, e, hm, pa, hc, d, hp, al, tb, q⟩
    refine ⟨m, p, N, vs', ts, e, hm, pa, hc, d, hp, al, tb, fun l t H' ho f2 tb' hl pa' ow => ?_⟩
    have nm : ¬ m l := fun z => by
      obtain ⟨o, e⟩ := al l z
      rw [hl] at e
      cases e
    have sub : Sub (mi (fun b => m b ∨ b = l) H') (mi m H') := mi_le fun b y => .inl y
    exact q (.ref l) t H' ho f2 tb' (pa'.mono sub fun _ _ y => y) ((ow.mono sub fun _ _ y => y).dt fun o _ y => mi_of nm y)
  exact ⟨fun vs H Q E h => F.len vs H Q E (key _ _ _ _ h), fun A outer s H args us vs Q E hr e0 hb r h => F.run A outer s H args us vs Q E hr e0 hb r (key _ _ _ _ h)⟩
/-! ### _law_sorted -/
def sortPre (ts : List Tr) : Prop := ∃ ws : List Str, ts = [.lst (sT ws)] ∧ ws.length ≤ 75 ∧ ∀ x ∈ ws, x.length ≤ 1000
def sortPost (ts : List Tr) (r : Tr) : Prop := ∃ ws : List Str, ts = [.lst (sT ws)] ∧ r = .lst (sT (wset ws))
theorem ok_lsorted (F : Fun K "_law_sorted" "_law_sorted" s_law_sorted f fd) (zS : mg "sorted" = none) (zE : mg "set" = none) (zL : mg "len" = none) : FnOk P w K mg base CX0 2 f fd ["words"] (spF K T sortPre sortPost) := by
  refine ok_F F sc_law_sorted (by rintro _ ⟨ws, rfl, _⟩; rfl) (by decide) fun cdv A outer s H E m ts hr hp => ?_
  obtain ⟨ws, rfl, hl, hs⟩ := hp
  have hsl : sizeLine = 16777216 := sizeLine_eq
  refine ss_one (s_ret (EO.ee ?_))
  refine eo_lcMap (.tp 1 2) (own := [("size", 1), ("word", 2)]) rfl sc_law_sorted.nd (by decide) rfl (blkOk_by (N := ["words", "size", "word"]) (sc := defScope s_law_sorted) (by decide +kernel)) (fun _ _ _ _ _ => pg_tup rfl (pgs_cons (pg_name (i := 1) sc_law_sorted.nd rfl (Or.inl rfl)) (pgs_cons (pg_name (i := 2) sc_law_sorted.nd rfl (Or.inl rfl)) pgs_nil))) ?_
  refine ei_list (EO.ee (eo_sortSet rfl hr.units rfl zS rfl zE (EO.ee ?_)))
  refine eo_lcMap (.nm 2) (own := [("word", 2)]) rfl sc_law_sorted.nd (by decide) rfl (blkOk_by (N := ["words", "size", "word"]) (sc := defScope s_law_sorted) (by decide +kernel)) (fun _ _ _ _ _ => pg_name (i := 2) sc_law_sorted.nd rfl (Or.inl rfl)) ?_
  refine ei_list (ee_name 0 rfl rfl ⟨sT ws, rfl, ?_⟩)
  rw [sT_len]
  refine ⟨fun i => prT (((ws.getD i (Str.ofString "")).length : Int), ws.getD i (Str.ofString "")), by omega, fun i D hi => ⟨True.intro, fun _ _ _ _ _ => ?_⟩, ?_⟩
  · show EE _ _ _ (Tg.set _ _ ((sT ws).getD i .non)) _ _
    rw [getD_sT hi]
    have := hs _ (getD_mem' hi)
    exact ee_tup (ea_cons (ee_callB cl_lenS rfl zL (by decide +kernel) (ea_cons (ee_name 2 rfl rfl (ea_nil ⟨_, rfl, by omega, ea_cons (ee_name 2 rfl rfl (ea_nil ⟨by show 2 ≤ sizeLine; omega, rfl, rfl⟩))⟩)))))
  · have e : (List.range ws.length).map (fun i => prT (((ws.getD i (Str.ofString "")).length : Int), ws.getD i (Str.ofString ""))) = (ws.map fun x => ((x.length : Int), x)).map prT := by
      rw [List.map_map]
      conv => rhs; rw [← map_getD (ws := ws)]
      rw [List.map_map]
      rfl
    rw [e]
    refine ⟨_, rfl, by rw [List.length_map]; exact hl, fun rs hm ho => ⟨rs.map prT, rfl, ?_⟩⟩
    have hfst : ∀ q ∈ rs, q.1 = q.2.length ∧ q.2 ∈ ws := fun q hq => by
      obtain ⟨x, hx, rfl⟩ := List.mem_map.mp ((hm q).mp hq)
      exact ⟨rfl, hx⟩
    have hw : rs.map Prod.snd = wset ws := wset_eq (pairs_ord (fun q hq => (hfst q hq).1) ho) fun x => ⟨fun hx => by
      obtain ⟨q, hq, rfl⟩ := List.mem_map.mp hx
      exact (hfst q hq).2, fun hx => List.mem_map.mpr ⟨_, (hm _).mpr (List.mem_map.mpr ⟨x, hx, rfl⟩), rfl⟩⟩
    have hrl : rs.length = (wset ws).length := by rw [← hw, List.length_map]
    have hwl := wset_len ws
    refine ⟨fun i => (sT (wset ws)).getD i .non, by rw [List.length_map]; omega, fun i D hi => ?_, ?_⟩
    · rw [List.length_map] at hi
      have eg : (rs.map prT).getD i .non = prT rs[i] := by simp [List.getD_eq_getElem?_getD, hi]
      have eh : (sT (wset ws)).getD i .non = .str rs[i].2 := by
        rw [← hw]
        unfold sT
        simp [List.getD_eq_getElem?_getD, hi]
      refine ⟨⟨_, _, eg⟩, fun _ _ _ _ _ => ?_⟩
      show EE _ _ _ (Tg.set _ _ ((rs.map prT).getD i .non)) _ _
      rw [eg]
      exact ee_name 2 rfl rfl ⟨eh.symm, rfl⟩
    · refine ⟨ws, rfl, ?_⟩
      rw [List.length_map, hrl, ← sT_len]
      congr 1
      exact map_range id .non (sT (wset ws)) |>.trans (List.map_id _)
end
end Toy

set_option Elab.async false
set_option linter.all false
set_option maxRecDepth 100000
set_option maxHeartbeats 4000000
namespace Toy
open PySem PySem.Spec PyProof.Rows L2 LamX Wf
/-! _law_shuffled, _law_mixed, _law_made, _law_prefixes -/
theorem cutL_mem {ts : List Tr} {l u : Option Int} {t : Tr} (h : t ∈ cutL ts l u) : t ∈ ts := by
  unfold cutL at h
  exact List.mem_of_mem_drop (List.mem_of_mem_take h)
theorem cutL_len (ts : List Tr) (l u : Option Int) : (cutL ts l u).length ≤ ts.length := by
  unfold cutL
  rw [List.length_take, List.length_drop]
  omega
theorem strs_of {ws : List Str} : ∀ {ts : List Tr}, (∀ t ∈ ts, t ∈ sT ws) → ∃ vs : List Str, ts = sT vs ∧ ∀ x ∈ vs, x ∈ ws
  | [], _ => ⟨[], rfl, fun _ h => by simp at h⟩
  | t :: ts, h => by
    obtain ⟨x, hx, rfl⟩ := List.mem_map.mp (h t List.mem_cons_self)
    obtain ⟨vs, rfl, hv⟩ := strs_of (ws := ws) (ts := ts) fun u hu => h u (List.mem_cons_of_mem _ hu)
    exact ⟨x :: vs, rfl, fun y hy => (List.mem_cons.mp hy).elim (fun e => e ▸ hx) (hv y)⟩
theorem mem_sT {ws : List Str} {x : Str} : Tr.str x ∈ sT ws ↔ x ∈ ws := by
  unfold sT
  constructor
  · intro h
    obtain ⟨y, hy, e⟩ := List.mem_map.mp h
    rw [← Tr.str.inj e]
    exact hy
  · exact fun h => List.mem_map.mpr ⟨x, h, rfl⟩
def rawT (z : Str) (ys ns : List Str) : Tr := .tup [.str z, .lst (sT ys), .lst (sT ns)]
section
variable {P : Program} {w : World} {K : PySem.W.Frag} {mg : Str → Option Value} {base : Heap} {T : List (Addr × Str)} {f : Addr} {fd : FuncData} {C : Addr}
theorem ok_shuffledO (F : Fun K "_law_shuffled" "_law_shuffled" s_law_shuffled f fd) (zL : mg "len" = none) (zT : mg "list" = none) (Fd : FnDraw P w K mg base T) : FnOk P w K mg base CX0 3 f fd ["pen", "some"] (spPO K T shufPre shufCost shufPost) := by
  refine ok_PO F sc_law_shuffled (by rintro _ ⟨us, rfl | rfl, _⟩ <;> rfl) (by decide) (fun cdv A outer s H E m p c ts hr hp hc => ?_)
  have hsl : sizeLine = 16777216 := sizeLine_eq
  obtain ⟨us, hts, h1, h2⟩ := hp
  have hcost : shufCost ts = us.length := by rcases hts with rfl | rfl <;> rfl
  obtain ⟨t0, rfl, ht0⟩ : ∃ t0, ts = [t0] ∧ (t0 = .lst us ∨ t0 = .tup us) := by rcases hts with rfl | rfl <;> exact ⟨_, rfl, by simp⟩
  refine ss_cons (s_parOO 2 3 (fun ta ha => ps_par rfl sc_law_shuffled.nd rfl rfl (by decide) rfl rfl ha (by rfl)) (by decide) ?_)
  refine eo_callTy co_list rfl zT (by decide +kernel) (ea_cons (ee_name 1 rfl rfl (ea_nil ⟨us, by rcases ht0 with rfl | rfl <;> simp, fun l1 hl1 => ?_⟩)))
  refine eo_lst (ea_nil ⟨Nat.zero_le _, fun l2 hl2 h21 => ⟨rfl, ?_⟩⟩)
  refine ss_cons (s_while PassesOwn.never (fun n M' Δ' => ∃ xs ys c', M' = ins (ins ⟨m, fun b => b = p.l⟩ l1) l2 ∧ Δ' = [.pen p c', .dat t0, .own l1 (.lst xs), .own l2 (.lst ys)] ∧ (xs ++ ys).Perm us ∧ n = xs.length ∧ c' + xs.length = c + us.length) us.length ⟨us, [], c, rfl, rfl, by rw [List.append_nil], rfl, rfl⟩ ?_)
  rintro n _ _ ⟨xs, ys, c', rfl, rfl, hp, rfl, hc'⟩
  have hlen := hp.length_eq
  rw [List.length_append] at hlen
  refine ET.borrow 2 rfl ?_
  refine et_cmp (cd_neD hr.units) (ee_name 2 rfl rfl (eo_lst (ea_nil ⟨Nat.zero_le _, ?_⟩)).ee)
  refine ⟨(good_lst (d := 8) fun u hu => h2 u (hp.mem_iff.mp (List.mem_append_left _ hu))).eqOk, (good_ints (ns := []) (d := 1)).eqOk, rfl, ?_⟩
  rw [eqv_nil]
  refine ⟨fun h => ?_, fun h => ?_⟩
  · have hx : 0 < xs.length := by
      cases xs with
      | nil => cases h
      | cons _ _ => simp
    refine ss_one (s_appendPop 3 2 rfl rfl rfl rfl (by decide) ?_)
    refine ee_callP 0 rfl rfl Fd hr rfl ?_
    refine ea_cons (EE.borrow 2 rfl (ee_callB cl_len rfl zL PySem.boot_len (ea_cons (ee_name 2 rfl rfl (ea_nil ⟨_, rfl, xs, .inl rfl, rfl, rfl, ea_nil ?_⟩)))))
    refine ⟨c', rfl, ⟨_, rfl, by omega, by omega⟩, by rw [hcost] at hc; show c' + 1 ≤ penMax; omega, ?_⟩
    rintro _ ⟨k, i, e, rfl, h3, h4⟩
    cases e
    have hi : i.toNat < xs.length := by omega
    refine ⟨i.toNat, ys, xs, xs[i.toNat], by rw [Int.toNat_of_nonneg h3], by simp [hi], rfl, rfl, by omega, by omega, ?_⟩
    refine ⟨xs.length - 1, by omega, xs.eraseIdx i.toNat, ys ++ [xs[i.toNat]], c' + 1, rfl, rfl, (perm_erase (by simp [hi])).trans hp, by rw [List.length_eraseIdx, if_pos hi], by rw [List.length_eraseIdx, if_pos hi]; omega⟩
  · have hx : xs = [] := by
      cases xs with
      | nil => rfl
      | cons _ _ => cases h
    subst hx
    refine ss_one (s_ret (ee_nameOwn 3 rfl rfl ?_))
    exact ⟨l2, 3, _, rfl, rfl, ⟨us, ys, by rcases ht0 with rfl | rfl <;> simp, rfl, hp⟩, c', by rw [hcost]; simp at hc'; omega, rfl⟩
abbrev FnShufO (P : Program) (w : World) (K : PySem.W.Frag) (mg : Str → Option Value) (base : Heap) (T : List (Addr × Str)) : Prop := Fn P w K mg base "_law_shuffled" 3 ["pen", "some"] (spPO K T shufPre shufCost shufPost)
/-! ### _law_mixed -/
def mixPre (ts : List Tr) : Prop := ∃ ws : List Str, ts = [.lst (sT ws)] ∧ ws.length ≤ 1000 ∧ AllOk ws
def mixCost (_ : List Tr) : Nat := 3000
def mixPost (ts : List Tr) (t : Tr) : Prop := ∃ ws vs : List Str, ts = [.lst (sT ws)] ∧ t = .lst (sT vs) ∧ vs.length ≤ 2 * ws.length ∧ ∀ x, x ∈ vs ↔ x ∈ ws
theorem ok_mixed {cdv : Value} (F : FunC K "_law_mixed" "_law_mixed" s_law_mixed f fd cdv) (Fd : FnDraw P w K mg base T) (Fs : FnShufO P w K mg base T) : FnOk P w K mg base CX0 4 f fd ["pen", "words"] (spPO K T mixPre mixCost mixPost) := by
  refine ok_POr F sc_law_mixed (by rintro _ ⟨ws, rfl, _⟩; rfl) (by decide) rfl (fun A outer s H E m p c ts hr hp hc => ?_)
  obtain ⟨ws, rfl, hl, ha⟩ := hp
  have hsl : sizeLine = 16777216 := sizeLine_eq
  have hc' : c + 3000 ≤ 1000000000 := hc
  refine eo_callP 0 rfl rfl Fs hr rfl (ea_cons (EO.ee (eo_catD (ee_name 1 rfl rfl (EO.ee (eo_slL (ee_name 1 rfl rfl ⟨sT ws, rfl, ep_no (ep_some ?_)⟩)))))))
  refine ee_callP 0 rfl rfl Fd (hr.mono (by decide)) rfl (ea_cons (ee_int (ea_nil ⟨c, rfl, ⟨2, rfl, by omega, by omega⟩, by show c + 1 ≤ 1000000000; omega, ?_⟩)))
  rintro _ ⟨n', i, e, rfl, h4, h5⟩
  have hcl := cutL_len (sT ws) none (some i)
  rw [sT_len] at hcl
  refine ⟨i, rfl, sT ws, cutL (sT ws) none (some i), rfl, rfl, by rw [sT_len]; omega, ea_nil ⟨c + 1, rfl, ⟨_, .inl rfl, by rw [List.length_append, sT_len]; omega, fun t ht => ?_⟩, ?_, ?_⟩⟩
  · have : t ∈ sT ws := (List.mem_append.mp ht).elim id cutL_mem
    obtain ⟨x, hx, rfl⟩ := List.mem_map.mp this
    exact good_str (ha x hx)
  · show c + 1 + (sT ws ++ cutL (sT ws) none (some i)).length ≤ 1000000000
    rw [List.length_append, sT_len]
    omega
  · rintro t ⟨us, vs, e, rfl, hp⟩
    have eu : us = sT ws ++ cutL (sT ws) none (some i) := by
      rcases e with e | e
      · injection e with e _
        exact (Tr.lst.inj e).symm
      · injection e with e _
        cases e
    subst eu
    obtain ⟨xs, rfl, hx⟩ := strs_of (ws := ws) (ts := vs) fun t ht => (List.mem_append.mp (hp.mem_iff.mp ht)).elim id cutL_mem
    refine ⟨⟨ws, xs, rfl, rfl, ?_, fun x => ⟨hx x, fun h => mem_sT.mp (hp.mem_iff.mpr (List.mem_append_left _ (mem_sT.mpr h)))⟩⟩, _, ?_, rfl⟩
    · have := hp.length_eq
      rw [List.length_append, sT_len, sT_len] at this
      omega
    · show c + 1 + (sT ws ++ cutL (sT ws) none (some i)).length ≤ c + 3000
      rw [List.length_append, sT_len]
      omega
abbrev FnMix (P : Program) (w : World) (K : PySem.W.Frag) (mg : Str → Option Value) (base : Heap) (T : List (Addr × Str)) : Prop := Fn P w K mg base "_law_mixed" 4 ["pen", "words"] (spPO K T mixPre mixCost mixPost)
/-! ### _law_made -/
abbrev McS (P : Program) (w : World) (K : PySem.W.Frag) (mg : Str → Option Value) (base : Heap) (T : List (Addr × Str)) (C : Addr) (dts : List Tr) : Prop := McD P w K mg base "Sample" C 8 ["self", "letters", "yes", "no"] dts (spI K T C (noX smpPre (fun _ _ _ => False)) smpPost)
/-- a sample of such words can be made -/
structure RawG (ls : List Nat) (ys ns : List Str) : Prop where
  lets : GoodLets ls
  oy : WOrd ys
  on : WOrd ns
  dis : ∀ x ∈ ys, x ∉ ns
  few : ys.length + ns.length ≤ 20
  sy : ∀ x ∈ ys, Short (txt ls) x
  sn : ∀ x ∈ ns, Short (txt ls) x
def madePre (ts : List Tr) : Prop := ∃ ls ys ns, ts = [rawT (txt ls) ys ns] ∧ RawG ls ys ns
def madePost (C : Addr) (ts : List Tr) (r : Tr) : Prop := ∃ ls ys ns, ts = [rawT (txt ls) ys ns] ∧ RawG ls ys ns ∧ r = smpT C (txt ls) ys ns
/-- what such a call gives -/
theorem smpPost_at {C : Addr} {ls : List Nat} {yes no : List Str} {ty tn : Tr} {fs : List (Str × Tr)} (h : smpPost [.str (txt ls), ty, tn] fs) (hy : isWs ty yes) (hn : isWs tn no) : Tr.ins C fs = smpT C (txt ls) (wset yes) (wset no) := by
  have uniq : ∀ {t : Tr} {as bs : List Str}, isWs t as → isWs t bs → as = bs := fun {t as bs} h g => by
    rcases h with rfl | rfl <;> rcases g with g | g <;> first | (injection g with g; exact sT_inj g) | cases g
  obtain ⟨ls', yes', no', ty', tn', e, h1, h2, rfl⟩ := h
  injection e with e1 e
  injection e with e2 e
  injection e with e3 _
  subst e2 e3
  rw [uniq hy h1, uniq hn h2, Tr.str.inj e1]
  rfl
theorem ok_made (F : Fun K "_law_made" "_law_made" s_law_made f fd) (Fm : McS P w K mg base T C []) : FnOk P w K mg base CX0 10 f fd ["raw"] (spF K T madePre (madePost C)) := by
  refine ok_F F sc_law_made (by rintro _ ⟨ls, ys, ns, rfl, _⟩; rfl) (by decide) fun cdv A outer s H E m ts hr hp => ?_
  obtain ⟨ls, ys, ns, rfl, hg⟩ := hp
  refine ss_one (s_ret (EO.ee (eo_makeD Fm hr rfl ?_)))
  refine ea_cons (ee_ixT (ee_name 0 rfl rfl (ee_int ⟨_, _, _, rfl, rfl, rfl, ?_⟩)))
  refine ea_cons (ee_ixT (ee_name 0 rfl rfl (ee_int ⟨_, _, _, rfl, rfl, rfl, ?_⟩)))
  refine ea_cons (ee_ixT (ee_name 0 rfl rfl (ee_int ⟨_, _, _, rfl, rfl, rfl, ea_nil ⟨⟨⟨ls, ys, ns, _, _, rfl, hg.lets, .inl rfl, .inl rfl, by have := hg.few; omega, hg.sy, hg.sn, hg.dis⟩, fun _ _ h => h⟩, fun fs hfs => ?_⟩⟩)))
  refine ⟨ls, ys, ns, rfl, hg, ?_⟩
  rw [smpPost_at hfs (.inl rfl) (.inl rfl), wset_of hg.oy, wset_of hg.on]
abbrev FnMade (P : Program) (w : World) (K : PySem.W.Frag) (mg : Str → Option Value) (base : Heap) (T : List (Addr × Str)) (C : Addr) : Prop := Fn P w K mg base "_law_made" 10 ["raw"] (spF K T madePre (madePost C))
end
end Toy

set_option Elab.async false
set_option linter.all false
set_option maxRecDepth 100000
set_option maxHeartbeats 4000000
namespace Toy
open PySem PySem.Spec PyProof.Rows L2 LamX Wf
/-! _law_prefixes, _law_led -/
theorem prefL_take {ws : List Str} {i : Nat} (hi : i < ws.length) : prefL (ws.take (i + 1)) = prefL (ws.take i) ++ begs (ws.getD i (Str.ofString "")) := by
  unfold prefL
  rw [take_getD hi, List.flatMap_append, List.flatMap_cons, List.flatMap_nil, List.append_nil]
  rfl
theorem flat_sub : ∀ (ws : List Str) (i : Nat), ((ws.take i).flatMap begs).length ≤ (ws.flatMap begs).length
  | [], i => by simp
  | x :: ws, 0 => by simp
  | x :: ws, i + 1 => by
    have := flat_sub ws i
    rw [List.take_succ_cons, List.flatMap_cons, List.flatMap_cons, List.length_append, List.length_append]
    omega
theorem prefL_sub (ws : List Str) (i : Nat) : (prefL (ws.take i)).length ≤ (prefL ws).length := by
  unfold prefL
  rw [List.length_cons, List.length_cons]
  have := flat_sub ws i
  omega
theorem rowT_get {rows : List (List (Option Nat))} {k : Nat} (hk : k < rows.length) : ((rowT rows).map Tr.lst)[k]? = some (.lst ((rows.getD k []).map optN)) := by
  unfold rowT
  rw [List.getElem?_map, List.getElem?_map, List.getElem?_eq_getElem hk, List.getD_eq_getElem?_getD, List.getElem?_eq_getElem hk]
  rfl
section
variable {P : Program} {w : World} {K : PySem.W.Frag} {mg : Str → Option Value} {base : Heap} {T : List (Addr × Str)} {f : Addr} {fd : FuncData} {C : Addr}
abbrev FnSrt (P : Program) (w : World) (K : PySem.W.Frag) (mg : Str → Option Value) (base : Heap) (T : List (Addr × Str)) : Prop := Fn P w K mg base "_law_sorted" 2 ["words"] (spF K T sortPre sortPost)
def lpPre (ts : List Tr) : Prop := ∃ z ys ns, ts = [rawT z ys ns] ∧ (prefL (ys ++ ns)).length ≤ 75 ∧ (∀ x ∈ ys ++ ns, x.length ≤ 12) ∧ (ys ++ ns).length ≤ 1000
def lpPost (ts : List Tr) (r : Tr) : Prop := ∃ z ys ns, ts = [rawT z ys ns] ∧ r = .lst (sT (wset (prefL (ys ++ ns))))
theorem raw_inj {z z' : Str} {ys ns ys' ns' : List Str} (h : rawT z ys ns = rawT z' ys' ns') : z = z' ∧ ys = ys' ∧ ns = ns' := by
  unfold rawT at h
  injection h with h
  injection h with h1 h
  injection h with h2 h
  injection h with h3 _
  exact ⟨Tr.str.inj h1, sT_inj (Tr.lst.inj h2), sT_inj (Tr.lst.inj h3)⟩
theorem ok_lprefixes (F : Fun K "_law_prefixes" "_law_prefixes" s_law_prefixes f fd) (zl : mg "len" = none) (zr : mg "range" = none) (Fs : FnSrt P w K mg base T) : FnOk P w K mg base CX0 4 f fd ["raw"] (spF K T lpPre lpPost) := by
  refine ok_F F sc_law_prefixes (by rintro _ ⟨z, ys, ns, rfl, _⟩; rfl) (by decide) fun cdv A outer s H E m ts hr hp => ?_
  obtain ⟨z, ys, ns, rfl, hl, hs, hn⟩ := hp
  have hsl : sizeLine = 16777216 := sizeLine_eq
  refine ss_cons (s_asgO 1 sc_law_prefixes.nd rfl (eo_lst (ea_cons (ee_str (ea_nil ⟨by show 1 ≤ sizeLine; omega, fun l hl0 => ?_⟩)))))
  have hn2 : ys.length + ns.length ≤ 1000 := by rw [← List.length_append]; exact hn
  refine ss_cons (s_for (.nm 2) PassesOwn.never rfl (pg_name (i := 2) sc_law_prefixes.nd rfl (Or.inr rfl)) (ei_list (EO.ee (eo_catD (ee_ixT (ee_name 0 rfl rfl (ee_int ⟨_, _, _, rfl, rfl, rfl, ee_ixT (ee_name 0 rfl rfl (ee_int ⟨_, _, _, rfl, rfl, rfl, sT ys, sT ns, rfl, rfl, by rw [sT_len, sT_len]; omega, _, rfl, ?_⟩))⟩)))))))
  have ecat : sT ys ++ sT ns = sT (ys ++ ns) := by unfold sT; rw [List.map_append]
  rw [ecat, sT_len]
  generalize hws : ys ++ ns = ws at *
  refine ⟨fun i M' Δ' => ∃ e2 e3, Δ' = [.dat (rawT z ys ns), .own l (.lst (sT (prefL (ws.take i)))), e2, e3], ⟨_, _, rfl⟩, ?_, ?_⟩
  · rintro i M' Δ' hi ⟨e2, e3, rfl⟩
    refine ⟨True.intro, ?_⟩
    show SS _ _ _ (Tg.set _ _ ((sT ws).getD i .non)) _ _
    rw [getD_sT hi]
    have hx := hs _ (getD_mem' hi)
    have hpt := prefL_take hi
    have hsub := prefL_sub ws (i + 1)
    generalize hxe : ws.getD i (Str.ofString "") = x at *
    refine ss_one (s_extend 1 rfl rfl ?_)
    refine eo_lcMap (.nm 3) (own := [("end", 3)]) rfl sc_law_prefixes.nd (by decide) rfl (blkOk_by (N := ["raw", "found", "word", "end"]) (sc := defScope s_law_prefixes) (by decide +kernel)) (fun _ _ _ _ _ => pg_name (i := 3) sc_law_prefixes.nd rfl (Or.inl rfl)) ?_
    refine ei_range1 rfl zr (ee_callB cl_lenS rfl zl (by decide +kernel) (ea_cons (ee_name 2 rfl rfl (ea_nil ⟨x, rfl, by omega, _, rfl, by omega, by omega, ?_⟩))))
    refine ⟨fun i => .str (begS x i), by omega, fun j D hj => ⟨True.intro, fun _ _ _ _ _ => ?_⟩, ?_⟩
    · exact ee_slS (ee_name 2 rfl rfl ⟨x, rfl, by omega, ep_no (ep_some (ee_add (ee_name 3 rfl rfl (ee_int ⟨_, _, rfl, rfl, _, rfl, rfl, rfl⟩))))⟩)
    · have e4 : ((x.length : Int)).toNat = x.length := by omega
      rw [e4]
      have e5 : (List.range x.length).map (fun i => Tr.str (begS x i)) = sT (begs x) := by
        unfold sT begs
        rw [List.map_map]
        rfl
      rw [e5]
      refine ⟨sT (prefL (ws.take i)), sT (begs x), rfl, rfl, ?_, ?_⟩
      · rw [sT_len, sT_len, ← List.length_append, ← hpt]
        omega
      · show ∃ e2 e3, _ = _
        rw [hpt]
        have e6 : sT (prefL (ws.take i) ++ begs x) = sT (prefL (ws.take i)) ++ sT (begs x) := by unfold sT; rw [List.map_append]
        rw [e6]
        exact ⟨_, _, rfl⟩
  · rintro M' Δ' ⟨e2, e3, rfl⟩
    rw [List.take_length]
    refine ss_share 1 rfl (ss_one (s_ret (ee_call Fs (hr.mono (by decide)) rfl (ea_cons (ee_name 1 rfl rfl (ea_nil ⟨⟨prefL ws, rfl, hl, fun x hx => ?_⟩, ?_⟩))))))
    · have := prefL_mem hs hx
      omega
    · rintro _ ⟨ws', e, rfl⟩
      injection e with e _
      have e7 := sT_inj (Tr.lst.inj e)
      subst e7
      exact ⟨z, ys, ns, rfl, by rw [hws]⟩
abbrev FnLP (P : Program) (w : World) (K : PySem.W.Frag) (mg : Str → Option Value) (base : Heap) (T : List (Addr × Str)) : Prop := Fn P w K mg base "_law_prefixes" 4 ["raw"] (spF K T lpPre lpPost)
/-! ### _law_led: some state -/
def ledPre (ts : List Tr) : Prop := ∃ (ls : List Nat) (n : Nat) (rows : List (List (Option Nat))) (marks : List (Option Bool)) (x : Str), ts = [.str (txt ls), .lst ((rowT rows).map Tr.lst), .str x] ∧ TabOk ls n true rows marks ∧ 1 ≤ n ∧ ls.length ≤ 4 ∧ x.length ≤ 1000 ∧ ∀ c ∈ x.cps.toList, c ∈ (txt ls).cps.toList
def ledPost (ts : List Tr) (r : Tr) : Prop := ∃ (t1 t3 : Tr) (rows : List (List (Option Nat))) (k : Nat), ts = [t1, .lst ((rowT rows).map Tr.lst), t3] ∧ k < rows.length ∧ r = .int k
theorem ok_led (F : Fun K "_law_led" "_law_led" s_law_led f fd) : FnOk P w K mg base CX0 2 f fd ["letters", "rows", "word"] (spF K T ledPre ledPost) := by
  refine ok_F F sc_law_led (by rintro _ ⟨ls, n, rows, marks, x, rfl, _⟩; rfl) (by decide) fun cdv A outer s H E m ts hr hp => ?_
  obtain ⟨ls, n, rows, marks, x, rfl, tk, hn, hls, hx, hc⟩ := hp
  have hsl : sizeLine = 16777216 := sizeLine_eq
  refine ss_cons (s_asg 3 sc_law_led.nd rfl (ee_int ?_))
  refine ss_cons (s_for (.nm 4) PassesOwn.never rfl (pg_name (i := 4) sc_law_led.nd rfl (Or.inl rfl)) (ei_str (ee_name 2 rfl rfl ⟨x, rfl, ?_⟩)))
  refine ⟨fun i M' Δ' => ∃ (k : Nat) (e4 : En), k < rows.length ∧ Δ' = [.dat (.str (txt ls)), .dat (.lst ((rowT rows).map Tr.lst)), .dat (.str x), .dat (.int k), e4], ⟨0, _, by rw [tk.r]; exact hn, rfl⟩, ?_, ?_⟩
  · rintro i M' Δ' hi ⟨k, e4, hk, rfl⟩
    refine ⟨True.intro, ?_⟩
    have hi' : i < x.cps.size := hi
    have hm : x.cps.getD i 0 ∈ x.cps.toList := by
      rw [Array.getD_eq_getD_getElem?, Array.getElem?_eq_getElem hi']
      exact Array.getElem_mem_toList hi'
    refine ss_one (s_asg 3 sc_law_led.nd rfl (ee_if (et_cmp cd_isN (ee_name 3 rfl rfl (ee_non ⟨rfl, rfl, fun h => ?_, fun _ => ?_⟩)))))
    · exact Bool.noConfusion h
    · refine ee_ixL (ee_ixL (ee_name 1 rfl rfl (ee_name 3 rfl rfl ⟨_, _, _, rfl, rfl, atI_ofNat (rowT_get hk), ?_⟩)))
      refine ee_sindex (ee_name 0 rfl rfl ⟨txt ls, rfl, ea_cons (ee_name 4 rfl rfl (ea_nil ⟨x.cps.getD i 0, rfl, hc _ hm, fun j hj => ?_⟩))⟩)
      have hj' : j < ls.length := by rwa [txt_len] at hj
      have hrow : rows.getD k [] ∈ rows := by
        rw [List.getD_eq_getElem?_getD, List.getElem?_eq_getElem hk]
        exact List.getElem_mem hk
      obtain ⟨r1, r2⟩ := tk.row _ hrow
      have hj2 : j < (rows.getD k []).length := by rw [r1]; exact hj'
      have ho := r2 _ (List.getElem_mem hj2)
      cases eo : (rows.getD k [])[j] with
      | none => exact absurd eo (ho.2 rfl)
      | some k' =>
        refine ⟨_, _, .int k', rfl, rfl, atI_ofNat (by rw [List.getElem?_map, List.getElem?_eq_getElem hj2, eo]; rfl), k', _, ?_, rfl⟩
        rw [tk.r]
        exact ho.1 k' eo
  · rintro M' Δ' ⟨k, e4, hk, rfl⟩
    exact ss_one (s_ret (ee_name 3 rfl rfl ⟨_, _, rows, k, rfl, hk, rfl⟩))
abbrev FnLed (P : Program) (w : World) (K : PySem.W.Frag) (mg : Str → Option Value) (base : Heap) (T : List (Addr × Str)) : Prop := Fn P w K mg base "_law_led" 2 ["letters", "rows", "word"] (spF K T ledPre ledPost)
end
end Toy

set_option Elab.async false
set_option linter.all false
set_option maxRecDepth 100000
set_option maxHeartbeats 4000000
namespace Toy
open PySem PySem.Spec PyProof.Rows L2 LamX Wf
/-! _law_raw -/
structure RawP (ls : List Nat) (ys ns : List Str) (b d : Nat) : Prop where
  lets : GoodLets ls
  oy : WOrd ys
  on : WOrd ns
  dis : ∀ x ∈ ys, x ∉ ns
  few : ys.length + ns.length ≤ b
  sy : ∀ x ∈ ys, x.length ≤ d ∧ ∀ c ∈ x.cps.toList, c ∈ (txt ls).cps.toList
  sn : ∀ x ∈ ns, x.length ≤ d ∧ ∀ c ∈ x.cps.toList, c ∈ (txt ls).cps.toList
def rawPre (ts : List Tr) : Prop := ∃ a b d : Nat, ts = [.int a, .int b, .int d] ∧ 1 ≤ a ∧ a ≤ 4 ∧ b ≤ 12 ∧ d ≤ 12
def rawPost (ts : List Tr) (r : Tr) : Prop := ∃ (a b d : Nat) (ls : List Nat) (ys ns : List Str), ts = [.int a, .int b, .int d] ∧ r = rawT (txt ls) ys ns ∧ RawP ls ys ns b d ∧ ls.length ≤ a
theorem strs_get {R : Str → Prop} : ∀ {ts : List Tr}, (∀ (i : Nat) t, ts[i]? = some t → ∃ x, t = .str x ∧ R x) → ∃ ws : List Str, ts = sT ws ∧ ∀ x ∈ ws, R x
  | [], _ => ⟨[], rfl, fun _ h => by simp at h⟩
  | t :: ts, h => by
    obtain ⟨x, rfl, hx⟩ := h 0 t rfl
    obtain ⟨ws, rfl, hw⟩ := strs_get (R := R) (ts := ts) fun i t' ht => h (i + 1) t' ht
    exact ⟨x :: ws, rfl, fun y hy => (List.mem_cons.mp hy).elim (fun e => e ▸ hx) (hw y)⟩
section
variable {P : Program} {w : World} {K : PySem.W.Frag} {mg : Str → Option Value} {base : Heap} {T : List (Addr × Str)} {f : Addr} {fd : FuncData} {C : Addr}
abbrev FnLet (P : Program) (w : World) (K : PySem.W.Frag) (mg : Str → Option Value) (base : Heap) (T : List (Addr × Str)) : Prop := Fn P w K mg base "_law_letters" 4 ["pen", "most"] (spP K T letPre (fun _ => 27) letPost)
abbrev FnWd (P : Program) (w : World) (K : PySem.W.Frag) (mg : Str → Option Value) (base : Heap) (T : List (Addr × Str)) : Prop := Fn P w K mg base "_law_word" 4 ["pen", "letters", "most"] (spP K T wordPre (fun _ => 2000) wordPost)
abbrev nRaw : List Str := ["pen", "most_letters", "many", "most", "letters", "words", "rows", "marks", "is_random", "yes", "no", "word", "sign", "at"]
abbrev xRaw (P : Program) (w : World) (K : PySem.W.Frag) (mg : Str → Option Value) (base : Heap) (f : Addr) (cdv : Value) (A : Around) (outer : List Env) (s : Shared) (H : Hp) (E : XK) : Cx := (cxOf CX0 P w K mg base nRaw "_law_raw" (defScope s_law_raw) f cdv A outer s H E).nox
abbrev lpRaw : List Stmt := match (defBody s_law_raw).getD 5 (.Pass ⟨0, 0, 0, 0⟩) with
  | .For _ _ b _ _ => b
  | _ => []
theorem raw_turn {cdv : Value} {A : Around} {outer : List Env} {s : Shared} {H : Hp} {E : XK} {B : Bs} (hB : B.T = T) {M' : Pl} {Ψ : Eo} {p : Pn} {c : Nat} {ls : List Nat} {n : Nat} {rows : List (List (Option Nat))} {marks : List (Option Bool)} {l1 l2 : Addr} {yes no : List Str} {x : Str} {rd : Bool} {e1 e2 e3 e5 e12 e13 : En} (hr : Room 9 (A.deeper (envOfC "_law_raw" (defScope s_law_raw) s.heap.objs.size f cdv)))
    (Fd : FnDraw P w K mg base T) (Fl : FnLed P w K mg base T) (hl : ls.length ≤ 4) (hn : 1 ≤ n) (tk : TabOk ls n true rows marks) (hc : c + 1 ≤ 1000000000) (hx : x.length ≤ 1000) (hxc : ∀ c ∈ x.cps.toList, c ∈ (txt ls).cps.toList) (hy : yes.length ≤ 1000) (hno : no.length ≤ 1000)
    (hnx : ∀ (b : Bool) (c' : Nat) (e12 : En), c' ≤ c + 1 →
      Ψ.nx M' [.pen p c', e1, e2, e3, .dat (.str (txt ls)), e5, .dat (.lst ((rowT rows).map Tr.lst)), .dat (.lst (marks.map optB)), .dat (.bl rd), .own l1 (.lst (sT (if b = true then yes ++ [x] else yes))), .own l2 (.lst (sT (if b = true then no else no ++ [x]))), .dat (.str x), e12, e13]) :
    SS (xRaw P w K mg base f cdv A outer s H E) B M' [.pen p c, e1, e2, e3, .dat (.str (txt ls)), e5, .dat (.lst ((rowT rows).map Tr.lst)), .dat (.lst (marks.map optB)), .dat (.bl rd), .own l1 (.lst (sT yes)), .own l2 (.lst (sT no)), .dat (.str x), e12, e13] lpRaw Ψ := by
  subst hB
  have hsl : sizeLine = 16777216 := sizeLine_eq
  have fin : ∀ (b : Bool) (c' : Nat), c' ≤ c + 1 → SS (xRaw P w K mg base f cdv A outer s H E) B M' [.pen p c', e1, e2, e3, .dat (.str (txt ls)), e5, .dat (.lst ((rowT rows).map Tr.lst)), .dat (.lst (marks.map optB)), .dat (.bl rd), .own l1 (.lst (sT yes)), .own l2 (.lst (sT no)), .dat (.str x), .dat (.bl b), e13] (lpRaw.drop 1) Ψ := fun b c' hc' => by
    refine ss_one (s_if (et_val (ee_name 12 rfl rfl ⟨b, rfl, fun h => ?_, fun h => ?_⟩)))
    · refine ss_one (s_append 9 rfl rfl (ee_name 11 rfl rfl ⟨sT yes, rfl, by rw [sT_len]; omega, ?_⟩))
      have := hnx b c' (.dat (.bl b)) hc'
      rw [if_pos h, if_pos h] at this
      have e : sT (yes ++ [x]) = sT yes ++ [.str x] := by unfold sT; rw [List.map_append]; rfl
      rw [e] at this
      exact this
    · refine ss_one (s_append 10 rfl rfl (ee_name 11 rfl rfl ⟨sT no, rfl, by rw [sT_len]; omega, ?_⟩))
      have := hnx b c' (.dat (.bl b)) hc'
      rw [if_neg (by rw [h]; decide), if_neg (by rw [h]; decide)] at this
      have e : sT (no ++ [x]) = sT no ++ [.str x] := by unfold sT; rw [List.map_append]; rfl
      rw [e] at this
      exact this
  refine ss_cons (s_asg 12 sc_law_raw.nd rfl (ee_if (et_val (ee_name 8 rfl rfl ⟨rd, rfl, fun h => ?_, fun h => ?_⟩))))
  · refine ee_cmp cd_eqI (ee_callP 0 rfl rfl Fd (hr.mono (by decide)) rfl (ea_cons (ee_int (ea_nil ⟨c, rfl, ⟨2, rfl, by omega, by omega⟩, hc, ?_⟩))))
    rintro _ ⟨n', i, e, rfl, h4, h5⟩
    exact ee_int ⟨i, 0, rfl, rfl, fin _ (c + 1) (Nat.le_refl _)⟩
  · refine ee_ixL (ee_name 7 rfl rfl (ee_call Fl (hr.mono (by decide)) rfl (ea_cons (ee_name 4 rfl rfl (ea_cons (ee_name 6 rfl rfl (ea_cons (ee_name 11 rfl rfl (ea_nil ⟨⟨ls, n, rows, marks, x, rfl, tk, hn, hl, hx, hxc⟩, ?_⟩)))))))))
    rintro _ ⟨t1, t3, rows', k, e, hk, rfl⟩
    have ek : k < marks.length := by
      injection e with _ e
      injection e with e _
      have e := congrArg List.length (Tr.lst.inj e)
      rw [List.length_map, List.length_map] at e
      unfold rowT at e
      rw [List.length_map, List.length_map] at e
      rw [tk.m, ← tk.r]
      omega
    have hm := tk.mks rfl _ (List.getElem_mem ek)
    cases em : marks[k] with
    | none => exact absurd em hm
    | some b =>
      refine ⟨_, _, .bl b, rfl, rfl, atI_ofNat (by rw [List.getElem?_map, List.getElem?_eq_getElem ek, em]; rfl), fin b c (by omega)⟩
end
end Toy

set_option Elab.async false
set_option linter.all false
set_option maxRecDepth 100000
set_option maxHeartbeats 4000000
namespace Toy
open PySem PySem.Spec PyProof.Rows L2 LamX Wf
/-! _law_raw, whole -/
section
variable {P : Program} {w : World} {K : PySem.W.Frag} {mg : Str → Option Value} {base : Heap} {T : List (Addr × Str)} {f : Addr} {fd : FuncData} {C : Addr}
structure Split (W yes no : List Str) : Prop where
  y : yes.Sublist W
  n : no.Sublist W
  p : (yes ++ no).Perm W
theorem Split.step {W yes no : List Str} {x : Str} (h : Split W yes no) (b : Bool) : Split (W ++ [x]) (if b = true then yes ++ [x] else yes) (if b = true then no else no ++ [x]) := by
  cases b with
  | true =>
    rw [if_pos rfl, if_pos rfl]
    refine ⟨List.Sublist.append h.y (List.Sublist.refl _), h.n.trans (List.sublist_append_left _ _), ?_⟩
    rw [List.append_assoc]
    refine (List.Perm.append_left yes (List.perm_append_comm (l₁ := [x]) (l₂ := no))).trans ?_
    rw [← List.append_assoc]
    exact h.p.append_right _
  | false =>
    rw [if_neg (by decide), if_neg (by decide)]
    refine ⟨h.y.trans (List.sublist_append_left _ _), List.Sublist.append h.n (List.Sublist.refl _), ?_⟩
    rw [← List.append_assoc]
    exact h.p.append_right _
theorem Split.raw {ls : List Nat} {W yes no : List Str} {b d : Nat} (h : Split W yes no) (hl : GoodLets ls) (hW : WOrd W) (hb : W.length ≤ b) (hw : ∀ x ∈ W, x.length ≤ d ∧ ∀ c ∈ x.cps.toList, c ∈ (txt ls).cps.toList) : RawP ls yes no b d := by
  have nd : (yes ++ no).Nodup := h.p.nodup_iff.mpr (wOrd_nodup hW)
  refine ⟨hl, hW.sublist h.y, hW.sublist h.n, fun x hx hn => (List.nodup_append.mp nd).2.2 x hx x hn rfl, ?_, fun x hx => hw x (h.y.subset hx), fun x hx => hw x (h.n.subset hx)⟩
  have := h.p.length_eq
  rw [List.length_append] at this
  omega
theorem ok_raw (F : Fun K "_law_raw" "_law_raw" s_law_raw f fd) (zr : mg "range" = none) (Fd : FnDraw P w K mg base T) (Fl : FnLet P w K mg base T) (Fw : FnWd P w K mg base T) (Fs : FnSrt P w K mg base T) (Ft : FnTab P w K mg base T) (Fe : FnLed P w K mg base T) :
    FnOk P w K mg base CX0 10 f fd ["pen", "most_letters", "many", "most"] (spP K T rawPre (fun _ => 40000) rawPost) := by
  refine ok_P F sc_law_raw (by rintro _ ⟨a, b, d, rfl, _⟩; rfl) (by decide) (fun cdv A outer s H E m p c ts hr hp hc => ?_)
  obtain ⟨a, b, d, rfl, ha, ha4, hb, hd⟩ := hp
  have hc' : c + 40000 ≤ 1000000000 := hc
  have hsl : sizeLine = 16777216 := sizeLine_eq
  refine ss_cons (s_asg 4 sc_law_raw.nd rfl (ee_callP 0 rfl rfl Fl (hr.mono (by decide)) rfl (ea_cons (ee_name 1 rfl rfl (ea_nil ⟨c, rfl, ⟨a, rfl, ha, by omega⟩, by show c + 27 ≤ 1000000000; omega, ?_⟩)))))
  rintro _ ⟨a', ls, e, rfl, hls⟩
  injection e with e _
  injection e with e
  have ea : a' = a := by omega
  subst ea
  have hgl : GoodLets ls := ⟨hls.1, Nat.le_trans hls.2.1 ha4, hls.2.2.1, hls.2.2.2⟩
  refine ss_cons (s_asg 5 sc_law_raw.nd rfl (ee_call Fs (hr.mono (by decide)) rfl (ea_cons (EO.ee ?_))))
  refine eo_lcPen (.nm 13) (own := [("at", 13)]) rfl sc_law_raw.nd (by decide) rfl (blkOk_by (N := nRaw) (sc := defScope s_law_raw) (by decide +kernel)) (fun _ _ _ _ _ => pg_name (i := 13) sc_law_raw.nd rfl (Or.inl rfl)) ?_
  refine ei_range1 rfl zr ?_
  refine ee_callP 0 rfl rfl Fd (hr.mono (by decide)) rfl (ea_cons (ee_add (ee_name 2 rfl rfl (ee_int ⟨_, _, rfl, rfl, ea_nil ⟨c + 27, rfl, ⟨_, rfl, by omega, by omega⟩, by show c + 27 + 1 ≤ 1000000000; omega, ?_⟩⟩))))
  rintro _ ⟨n', i, e, rfl, h4, h5⟩
  injection e with e _
  injection e with e
  subst e
  obtain ⟨k, rfl⟩ : ∃ k : Nat, i = (k : Int) := ⟨i.toNat, by omega⟩
  have hk : k ≤ b := by omega
  refine ⟨_, rfl, by omega, by omega, 0, p, c + 28, 2000, fun _ t => ∃ x : Str, t = .str x ∧ x.length ≤ d ∧ ∀ c ∈ x.cps.toList, c ∈ (txt ls).cps.toList, rfl, by omega, fun j c1 D hj hc1 => ⟨True.intro, fun _ _ _ _ _ => ?_⟩, fun us c1 hul hu hc1 => ?_⟩
  · have hj' : j < k := by omega
    have hm : j * 2000 + 2000 ≤ 24000 := by omega
    refine ee_callP 0 rfl rfl Fw (hr.mono (by decide)) rfl (ea_cons (ee_name 4 rfl rfl (ea_cons (ee_name 3 rfl rfl (ea_nil ⟨c1, rfl, ⟨txt ls, d, rfl, by rw [txt_len]; exact hls.1, by rw [txt_len]; have := hls.2.1; omega, by omega⟩, by show c1 + 2000 ≤ 1000000000; omega, ?_⟩)))))
    rintro _ ⟨z, n, cs, e, rfl, g1, g2⟩
    injection e with e1 e
    injection e with e2 _
    injection e1 with e1
    injection e2 with e2
    subst e1
    have en : n = d := by omega
    subst en
    refine ⟨⟨txt cs, rfl, by rw [txt_len]; exact g1, fun ch hch => g2 ch ?_⟩, c1 + 2000, Nat.le_refl _, rfl⟩
    rwa [txt_cps] at hch
  have hkk : ((k : Int)).toNat = k := by omega
  rw [hkk] at hul hc1
  obtain ⟨ws, rfl, hws⟩ := strs_get hu
  rw [sT_len] at hul
  have hk2 : k * 2000 ≤ 24000 := by omega
  refine ea_nil ⟨⟨ws, rfl, by omega, fun x hx => by have := (hws x hx).1; omega⟩, ?_⟩
  rintro _ ⟨ws', e, rfl⟩
  injection e with e _
  have ew := sT_inj (Tr.lst.inj e)
  subst ew
  have hWl := wset_len ws
  have hWm : ∀ x ∈ wset ws, x.length ≤ d ∧ ∀ c ∈ x.cps.toList, c ∈ (txt ls).cps.toList := fun x hx => hws x (wset_mem.mp hx)
  have hWo := wset_ord ws
  generalize wset ws = W at *
  refine ss_cons (s_unpPT 6 7 0 rfl sc_law_raw.nd rfl rfl rfl (by decide) (by decide) (by decide) rfl Ft (hr.mono (by decide)) rfl ?_)
  refine ea_cons (ee_name 4 rfl rfl (ea_cons (ee_add (ee_int (ee_callP 0 rfl rfl Fd (hr.mono (by decide)) rfl (ea_cons (ee_int (ea_nil ⟨c1, rfl, ⟨_, rfl, by decide, by decide⟩, by show c1 + 1 ≤ 1000000000; omega, ?_⟩))))))))
  rintro _ ⟨n2, i2, e, rfl, g4, g5⟩
  injection e with e _
  injection e with e
  subst e
  refine ⟨_, _, rfl, rfl, ea_cons (ee_bl (ea_nil ⟨c1 + 1, rfl, ⟨ls, (1 + i2).toNat, true, ?_, hgl.2.1, by omega, by omega⟩, by show c1 + 1 + 9000 ≤ 1000000000; omega, ?_⟩))⟩
  · have : ((1 + i2).toNat : Int) = 1 + i2 := by omega
    rw [this]
  rintro lt as u rs ms ⟨ls', n, full, rows, marks, e, tk, rfl, rfl⟩ hfr
  injection e with e1 e
  injection e with e2 e
  injection e with e3 _
  injection e2 with e2
  have hlsl : ls' = ls := by
    have := Tr.str.inj e1
    have h2 := congrArg (fun z : Str => z.cps.toList) this
    show ls' = ls
    have h3 : (txt ls).cps.toList = (txt ls').cps.toList := h2
    rw [txt_cps, txt_cps] at h3
    exact h3.symm
  subst hlsl
  have hfull : full = true := (Tr.bl.inj e3).symm
  subst hfull
  have hn1 : 1 ≤ n := by omega
  refine ss_tabShare 6 rfl (ss_share 7 rfl ?_)
  refine ss_cons (s_asg 8 sc_law_raw.nd rfl (ee_cmp cd_eqI (ee_callP 0 rfl rfl Fd (hr.mono (by decide)) rfl (ea_cons (ee_int (ea_nil ⟨c1 + 1 + 9000, rfl, ⟨4, rfl, by omega, by omega⟩, by show c1 + 1 + 9000 + 1 ≤ 1000000000; omega, ?_⟩))))))
  rintro _ ⟨n3, i3, e, rfl, g6, g7⟩
  refine ee_int ⟨i3, 0, rfl, rfl, ?_⟩
  refine ss_cons (s_parOO 9 10 (hE := fun ta ha => ps_par rfl sc_law_raw.nd rfl rfl (by decide) rfl rfl ha (by rfl)) (by decide) (eo_lst (ea_nil ⟨Nat.zero_le _, fun l1 hl1 => eo_lst (ea_nil ⟨Nat.zero_le _, fun l2 hl2 hne => ⟨rfl, ?_⟩⟩)⟩)))
  refine ss_cons (s_for (.nm 11) PassesOwn.never rfl (pg_name (i := 11) sc_law_raw.nd rfl (Or.inl rfl)) (ei_list (ee_name 5 rfl rfl ⟨sT W, rfl, ?_⟩)))
  rw [sT_len]
  refine ⟨fun i M' Δ' => ∃ (c' : Nat) (yes no : List Str) (e11 e12 e13 : En), c' ≤ c1 + 9002 + i ∧ Split (W.take i) yes no ∧ Δ' = [.pen p c', .dat (.int a'), .dat (.int b), .dat (.int d), .dat (.str (txt ls')), .dat (.lst (sT W)), .dat (.lst ((rowT rows).map Tr.lst)), .dat (.lst (marks.map optB)), .dat (.bl (decide (i3 = 0))), .own l1 (.lst (sT yes)), .own l2 (.lst (sT no)), e11, e12, e13], ⟨c1 + 1 + 9000 + 1, [], [], _, _, _, by omega, ⟨List.nil_sublist _, List.nil_sublist _, List.Perm.refl _⟩, rfl⟩, ?_, ?_⟩
  · rintro i M' Δ' hi ⟨c', yes, no, e11, e12, e13, q1, q2, rfl⟩
    refine ⟨True.intro, ?_⟩
    show SS _ _ _ (Tg.set _ _ ((sT W).getD i .non)) _ _
    rw [getD_sT hi]
    have hx := hWm _ (getD_mem' hi)
    have hstep := fun b => q2.step (x := W.getD i (Str.ofString "")) b
    rw [← take_getD hi] at hstep
    have hyl := q2.y.length_le
    have hnl := q2.n.length_le
    rw [List.length_take] at hyl hnl
    refine raw_turn (B := bP T p H m) rfl hr Fd Fe hgl.2.1 hn1 tk (by omega) (by omega) hx.2 (by omega) (by omega) fun b c2 e12 hc2 => ?_
    exact ⟨c2, _, _, _, _, _, by omega, hstep b, rfl⟩
  · rintro M' Δ' ⟨c', yes, no, e11, e12, e13, q1, q2, rfl⟩
    rw [List.take_length] at q2
    refine ss_share 9 rfl (ss_share 10 rfl (ss_one (s_ret (ee_tup (ea_cons (ee_name 4 rfl rfl (ea_cons (ee_name 9 rfl rfl (ea_cons (ee_name 10 rfl rfl (ea_nil ⟨by show 3 ≤ sizeLine; omega, ?_⟩)))))))))))
    refine ⟨⟨a', b, d, ls', yes, no, rfl, rfl, q2.raw hgl hWo (by omega) hWm, hls.2.1⟩, c', ?_, rfl⟩
    show c' ≤ c + 40000
    omega
abbrev FnRaw (P : Program) (w : World) (K : PySem.W.Frag) (mg : Str → Option Value) (base : Heap) (T : List (Addr × Str)) : Prop := Fn P w K mg base "_law_raw" 10 ["pen", "most_letters", "many", "most"] (spP K T rawPre (fun _ => 40000) rawPost)
end
end Toy

set_option Elab.async false
set_option linter.all false
set_option maxRecDepth 100000
set_option maxHeartbeats 400000
set_option pp.maxSteps 150
namespace Toy
open PySem PySem.Spec PyProof.Rows L2 LamX Wf
@[irreducible] def big : Int := 10 ^ 60
def odds1 : List Tr := [.non, .bl true, .bl false, .int 0, .int 1, .int (-1), .int 2, .int big, .str "", .str "a", .str "ab", .str "ba", .str "A", .str "a b", .str "zz", .str "abcde", .tup [], .tup [.str "a"], .lst []]
def odds2 : List Tr := [.lst [.str "a"], .dct [], .dct [(.inr "a", .int 1)], .tup [.tup []], .tup [.int 0], .lst [.int 0], .tup [.non], .lst [.lst []], .tup [.bl true, .bl false], .tup [.tup [.int 0]]]
def oddQ (t : Tr) : Prop := t ∈ odds1 ++ odds2
section
variable {P : Program} {w : World} {K : PySem.W.Frag} {mg : Str → Option Value} {base : Heap} {T : List (Addr × Str)} {f : Addr} {fd : FuncData}
theorem e60 : ((10 : Int) ^ (60 : Int).toNat) = big := by unfold big; rfl
theorem ks_big {X : Cx} {B : Bs} {M : Pl} {j1 j2 : Nat} {p1 p2 pos : Pos} : Kst X B M (.BinOp (.Constant (.int 10) j1 p1) .Pow (.Constant (.int 60) j2 p2) pos) (.int big) := fun Δ Φ q => by
  refine ee_pow (ee_int (ee_int ⟨10, 60, rfl, rfl, ⟨by decide, by decide, by decide⟩, ?_⟩))
  rw [e60]
  exact q
theorem odd_pick {t : Tr} (h : pickPost [.lst (odds1 ++ odds2)] t) : oddQ t := by
  rcases h with ⟨us, h | h, ht⟩ | ⟨z, c2, h, _⟩
  · injection h with h _
    injection h with h
    rw [← h] at ht
    exact ht
  · injection h with h _
    injection h
  · injection h with h _
    injection h
theorem odd_pre : pickPre [.lst (odds1 ++ odds2)] := .inl ⟨odds1 ++ odds2, .inl rfl, Nat.le_of_ble_eq_true rfl, Nat.le_of_ble_eq_true rfl⟩
theorem ok_odd (F : Fun K "_law_odd" "_law_odd" s_law_odd f fd) (Fp : FnPick P w K mg base T) : FnOk P w K mg base CX0 4 f fd ["pen"] (spP K T (fun ts => ts = []) (fun _ => 1) (fun _ t => oddQ t)) := by
  refine ok_P F sc_law_odd (by rintro _ rfl; rfl) (by decide) (fun cdv A outer s H E m p c ts hr hp hc => ?_)
  obtain rfl := hp
  refine ss_cons ?_
  refine s_asgO 1 sc_law_odd.nd rfl ?_
  refine eo_kst (ts := odds1) ?_ ?_
  · exact (kl_cons ks_non (kl_cons ks_bl (kl_cons ks_bl (kl_cons ks_int (kl_cons ks_int (kl_cons ks_neg (kl_cons ks_int (kl_cons ks_big (kl_cons ks_str (kl_cons ks_str (kl_cons ks_str (kl_cons ks_str (kl_cons ks_str (kl_cons ks_str (kl_cons ks_str (kl_cons ks_str (kl_cons (ks_tup kl_nil) (kl_cons (ks_tup (kl_cons ks_str kl_nil)) (kl_cons (ks_lst kl_nil) kl_nil)))))))))))))))))))
  intro l nl
  refine ss_share 1 rfl ?_
  refine ss_one ?_
  refine s_ret ?_
  refine ee_callP 0 rfl rfl Fp hr rfl ?_
  refine ea_cons ?_
  refine EO.ee ?_
  refine eo_catD ?_
  refine ee_name 1 rfl rfl ?_
  refine EO.ee ?_
  refine eo_kst (ts := odds2) ?_ ?_
  · exact (kl_cons (ks_lst (kl_cons ks_str kl_nil)) (kl_cons ks_dict0 (kl_cons ks_dict1 (kl_cons (ks_tup (kl_cons (ks_tup kl_nil) kl_nil)) (kl_cons (ks_tup (kl_cons ks_int kl_nil)) (kl_cons (ks_lst (kl_cons ks_int kl_nil)) (kl_cons (ks_tup (kl_cons ks_non kl_nil)) (kl_cons (ks_lst (kl_cons (ks_lst kl_nil) kl_nil)) (kl_cons (ks_tup (kl_cons ks_bl (kl_cons ks_bl kl_nil))) (kl_cons (ks_tup (kl_cons (ks_tup (kl_cons ks_int kl_nil)) kl_nil)) kl_nil))))))))))
  exact ⟨odds1, odds2, rfl, rfl, small_le rfl, ea_nil ⟨c, rfl, odd_pre, hc, fun t h => ⟨odd_pick h, c + 1, Nat.le_refl _, rfl⟩⟩⟩
abbrev FnOddv (P : Program) (w : World) (K : PySem.W.Frag) (mg : Str → Option Value) (base : Heap) (T : List (Addr × Str)) : Prop := Fn P w K mg base "_law_odd" 4 ["pen"] (spP K T (fun ts => ts = []) (fun _ => 1) (fun _ t => oddQ t))
end
end Toy

set_option Elab.async false
set_option linter.all false
set_option maxRecDepth 100000
set_option maxHeartbeats 2000000
namespace Toy
open PySem PySem.Spec PyProof.Rows L2 LamX Wf PySem.Builtin PySem.Builtin.Str
/-! what is shown of (letters, [words], [words]) tells them all -/
def Low (x : Str) : Prop := ∀ c ∈ x.cps.toList, 97 ≤ c ∧ c < 123
theorem low_char {c : Nat} (h : 97 ≤ c ∧ c < 123) : reprChar 39 c = [c] := by
  have key : ∀ j : Nat, j < 26 → reprChar 39 (j + 97) = [j + 97] := by decide +kernel
  have := key (c - 97) (by omega)
  rwa [show c - 97 + 97 = c by omega] at this
theorem low_fold : ∀ (l : List Nat) (acc : Array Nat), (∀ c ∈ l, 97 ≤ c ∧ c < 123) → (l.foldl (fun out c => out ++ (reprChar 39 c).toArray) acc).toList = acc.toList ++ l
  | [], acc, _ => by simp
  | c :: l, acc, h => by
    rw [List.foldl_cons, low_fold l _ fun d hd => h d (List.mem_cons_of_mem _ hd), low_char (h c List.mem_cons_self), Array.toList_append]
    simp
theorem low_text {x : Str} (h : Low x) : (reprText x).cps.toList = 39 :: (x.cps.toList ++ [39]) := by
  have hq : reprQuote x = 39 := by
    unfold reprQuote
    have : x.cps.contains 39 = false := by
      rw [Bool.eq_false_iff]
      intro hc
      have := h 39 (by simpa using hc)
      omega
    rw [this]
    rfl
  unfold reprText
  rw [hq, ← Array.foldl_toList]
  show (Array.push _ 39).toList = _
  rw [Array.toList_push, low_fold _ _ h]
  simp
theorem split_at' {k : Nat} : ∀ {a b r s : List Nat}, (∀ c ∈ a, c ≠ k) → (∀ c ∈ b, c ≠ k) → a ++ k :: r = b ++ k :: s → a = b ∧ r = s
  | [], [], r, s, _, _, e => by injection e with _ e; exact ⟨rfl, e⟩
  | [], d :: b, r, s, _, hb, e => by
    injection e with e _
    exact absurd e.symm (hb d List.mem_cons_self)
  | c :: a, [], r, s, ha, _, e => by
    injection e with e _
    exact absurd e (ha c List.mem_cons_self)
  | c :: a, d :: b, r, s, ha, hb, e => by
    injection e with e1 e
    obtain ⟨h1, h2⟩ := split_at' (fun x hx => ha x (List.mem_cons_of_mem _ hx)) (fun x hx => hb x (List.mem_cons_of_mem _ hx)) e
    exact ⟨by rw [e1, h1], h2⟩
theorem low_no {x : Str} (h : Low x) : ∀ c ∈ x.cps.toList, c ≠ 39 := fun c hc e => by have := h c hc; omega
theorem word_split {x y : Str} {r s : List Nat} (hx : Low x) (hy : Low y) (e : 39 :: (x.cps.toList ++ 39 :: r) = 39 :: (y.cps.toList ++ 39 :: s)) : x = y ∧ r = s := by
  injection e with _ e
  obtain ⟨h1, h2⟩ := split_at' (low_no hx) (low_no hy) e
  exact ⟨str_eq h1, h2⟩
def tailb : List Str → List Nat
  | [] => []
  | y :: r => 44 :: 32 :: 39 :: (y.cps.toList ++ 39 :: tailb r)
def bodyb : List Str → List Nat
  | [] => []
  | y :: r => 39 :: (y.cps.toList ++ 39 :: tailb r)
def LowAll (ws : List Str) : Prop := ∀ x ∈ ws, Low x
theorem tailb_inj : ∀ {as bs : List Str} {r s : List Nat}, LowAll as → LowAll bs → tailb as ++ 93 :: r = tailb bs ++ 93 :: s → as = bs ∧ r = s
  | [], [], r, s, _, _, e => by injection e with _ e; exact ⟨rfl, e⟩
  | [], b :: bs, r, s, _, _, e => by injection e with e _; omega
  | a :: as, [], r, s, _, _, e => by injection e with e _; omega
  | a :: as, b :: bs, r, s, ha, hb, e => by
    unfold tailb at e
    injection e with _ e
    injection e with _ e
    have e' : 39 :: (a.cps.toList ++ 39 :: (tailb as ++ 93 :: r)) = 39 :: (b.cps.toList ++ 39 :: (tailb bs ++ 93 :: s)) := by simpa using e
    obtain ⟨h1, h2⟩ := word_split (ha a List.mem_cons_self) (hb b List.mem_cons_self) e'
    obtain ⟨h3, h4⟩ := tailb_inj (fun x hx => ha x (List.mem_cons_of_mem _ hx)) (fun x hx => hb x (List.mem_cons_of_mem _ hx)) h2
    exact ⟨by rw [h1, h3], h4⟩
theorem bodyb_inj {as bs : List Str} {r s : List Nat} (ha : LowAll as) (hb : LowAll bs) (e : bodyb as ++ 93 :: r = bodyb bs ++ 93 :: s) : as = bs ∧ r = s := by
  cases as with
  | nil =>
    cases bs with
    | nil => injection e with _ e; exact ⟨rfl, e⟩
    | cons b bs => injection e with e _; omega
  | cons a as =>
    cases bs with
    | nil => injection e with e _; omega
    | cons b bs =>
      have e' : 39 :: (a.cps.toList ++ 39 :: (tailb as ++ 93 :: r)) = 39 :: (b.cps.toList ++ 39 :: (tailb bs ++ 93 :: s)) := by
        unfold bodyb at e
        simpa using e
      obtain ⟨h1, h2⟩ := word_split (ha a List.mem_cons_self) (hb b List.mem_cons_self) e'
      obtain ⟨h3, h4⟩ := tailb_inj (fun x hx => ha x (List.mem_cons_of_mem _ hx)) (fun x hx => hb x (List.mem_cons_of_mem _ hx)) h2
      exact ⟨by rw [h1, h3], h4⟩
theorem textFrom_tail : ∀ (ws : List Str) (k : Nat) (acc : Str), LowAll ws → 0 < k → (textFrom k acc (ws.map reprText)).cps.toList = acc.cps.toList ++ tailb ws
  | [], k, acc, _, _ => by
    rw [List.map_nil]
    unfold textFrom tailb
    rw [List.append_nil]
  | y :: ws, k, acc, h, hk => by
    rw [List.map_cons]
    unfold textFrom
    rw [textFrom_tail ws (k + 1) _ (fun x hx => h x (List.mem_cons_of_mem _ hx)) (by omega), if_pos hk, app_cps, app_cps, low_text (h y List.mem_cons_self)]
    have : (Str.ofString ", ").cps.toList = [44, 32] := by decide +kernel
    show acc.cps.toList ++ (Str.ofString ", ").cps.toList ++ _ ++ tailb ws = acc.cps.toList ++ tailb (y :: ws)
    rw [this]
    conv => rhs; unfold tailb
    simp
theorem listText_codes {ws : List Str} (h : LowAll ws) : (listText (ws.map reprText)).cps.toList = 91 :: (bodyb ws ++ [93]) := by
  unfold listText
  rw [app_cps]
  have h1 : (Str.ofString "[").cps.toList = [91] := by decide +kernel
  have h2 : (Str.ofString "]").cps.toList = [93] := by decide +kernel
  show (textFrom 0 (Str.ofString "[") (ws.map reprText)).cps.toList ++ (Str.ofString "]").cps.toList = _
  rw [h2]
  cases ws with
  | nil =>
    rw [List.map_nil]
    unfold textFrom
    rw [h1]
    rfl
  | cons y ws =>
    rw [List.map_cons]
    unfold textFrom
    rw [textFrom_tail ws 1 _ (fun x hx => h x (List.mem_cons_of_mem _ hx)) (by omega), if_neg (by omega), app_cps, app_cps, h1, low_text (h y List.mem_cons_self)]
    have h3 : (Str.ofString "").cps.toList = [] := by decide +kernel
    show [91] ++ (Str.ofString "").cps.toList ++ _ ++ tailb ws ++ [93] = _
    rw [h3]
    conv => rhs; unfold bodyb
    simp
theorem shownAll_sT : ∀ ws : List Str, PyData.shownAll (pdAll (sT ws)) = ws.map reprText
  | [] => by simp [sT, pdAll, PyData.shownAll]
  | x :: ws => by
    have ih := shownAll_sT ws
    show PyData.shownAll (pdAll (Tr.str x :: sT ws)) = _
    unfold pdAll PyData.shownAll Tr.pd PyData.shown
    rw [ih]
    rfl
theorem shown_sL (ws : List Str) : (Tr.lst (sT ws)).pd.shown = listText (ws.map reprText) := by
  unfold Tr.pd PyData.shown
  rw [shownAll_sT]
theorem raw_codes {z : Str} {ys ns : List Str} (hz : Low z) (hy : LowAll ys) (hn : LowAll ns) : (rawT z ys ns).pd.shown.cps.toList = 40 :: 39 :: (z.cps.toList ++ 39 :: 44 :: 32 :: 91 :: (bodyb ys ++ 93 :: 44 :: 32 :: 91 :: (bodyb ns ++ 93 :: [41]))) := by
  have e : (rawT z ys ns).pd.shown = tupleText [reprText z, listText (ys.map reprText), listText (ns.map reprText)] := by
    unfold rawT Tr.pd
    simp only [pdAll, PyData.shown, PyData.shownAll]
    rw [← shown_sL ys, ← shown_sL ns]
    unfold Tr.pd PyData.shown
    rfl
  have e2 : tupleText [reprText z, listText (ys.map reprText), listText (ns.map reprText)] = Str.ofString "(" ++ (reprText z ++ Str.ofString ", " ++ (listText (ys.map reprText) ++ Str.ofString ", " ++ listText (ns.map reprText))) ++ Str.ofString ")" := rfl
  rw [e, e2, app_cps, app_cps, app_cps, app_cps, app_cps, app_cps, low_text hz, listText_codes hy, listText_codes hn]
  have h1 : (Str.ofString "(").cps.toList = [40] := by decide +kernel
  have h2 : (Str.ofString ")").cps.toList = [41] := by decide +kernel
  have h3 : (Str.ofString ", ").cps.toList = [44, 32] := by decide +kernel
  rw [h1, h2, h3]
  simp
theorem raw_shown_inj {z z' : Str} {ys ns ys' ns' : List Str} (hz : Low z) (hy : LowAll ys) (hn : LowAll ns) (hz' : Low z') (hy' : LowAll ys') (hn' : LowAll ns') (e : (rawT z ys ns).pd.shown = (rawT z' ys' ns').pd.shown) : z = z' ∧ ys = ys' ∧ ns = ns' := by
  have e := congrArg (fun s : Str => s.cps.toList) e
  have e : (rawT z ys ns).pd.shown.cps.toList = (rawT z' ys' ns').pd.shown.cps.toList := e
  rw [raw_codes hz hy hn, raw_codes hz' hy' hn'] at e
  injection e with _ e
  obtain ⟨h1, e⟩ := word_split hz hz' e
  injection e with _ e
  injection e with _ e
  injection e with _ e
  obtain ⟨h2, e⟩ := bodyb_inj hy hy' e
  injection e with _ e
  injection e with _ e
  injection e with _ e
  obtain ⟨h3, _⟩ := bodyb_inj hn hn' e
  exact ⟨h1, h2, h3⟩
end Toy

set_option Elab.async false
set_option linter.all false
set_option maxRecDepth 100000
set_option maxHeartbeats 2000000
namespace Wf
open PySem PySem.Spec PyProof.Rows L2 LamX
section
variable {X : Cx} {B : Bs} {M : Pl} {Δ : List En} {e b : Expr} {x y z : Str} {k : Nat} {Ψ : Eo}
theorem Sk.toPen {K : PySem.W.Frag} {H : Hp} {σ : L2.St} {pn : Pn} {c : Nat} (i : Nat) (S : Sk K B M H σ Δ) (hm : M.m pn.l) (h0 : ¬ B.M0 pn.l) (hH : B.H0 pn.l = none) (hn : ∀ e ∈ Δ, ¬ e.has pn.l) (pa : PenAt K (mi M.m H) H pn c) :
    Sk K B ⟨M.m, fun b => M.w b ∨ b = pn.l⟩ H (σ.set i (some (.ref pn.l))) (Δ.set i (.pen pn c)) := by
  have S3 : Sk K B ⟨M.m, fun b => M.w b ∨ b = pn.l⟩ H σ Δ := by
    refine { len := S.len, al := S.al, wm := fun b z => z.elim (S.wm b) fun e => by rw [e]; exact hm, m0 := S.m0, pm := S.pm, own := S.own, wp := fun b z => z.elim (S.wp b) fun e => .inr (by rw [e]; exact hH), fr := S.fr, tb := S.tb, dis := S.dis, sl := fun j e z => ?_ }
    obtain ⟨o, h1, h2⟩ := S.sl j e z
    refine ⟨o, h1, ?_⟩
    have nh := hn e (List.mem_of_getElem? z)
    cases o with
    | none => cases e <;> first | exact True.intro | exact h2.elim
    | some v =>
      cases e with
      | any => exact True.intro
      | dat t => exact h2
      | own l' t =>
        obtain ⟨h3, h4, h5, h7, h6⟩ := h2
        exact ⟨h3, h4, h5, fun y => y.elim h7 fun e => nh e, h6⟩
      | pen l' N =>
        obtain ⟨h3, h4, h6⟩ := h2
        exact ⟨h3, .inl h4, h6⟩
      | tab l' as rs =>
        obtain ⟨h3, h4, h5, h6⟩ := h2
        exact ⟨h3, h4, fun b y => ⟨(h5 b y).1, (h5 b y).2.1, fun x => x.elim (h5 b y).2.2 fun e => nh (by rw [← e]; exact y)⟩, h6⟩
  exact S3.put i (o := some (.ref pn.l)) (e := .pen pn c) ⟨rfl, .inr rfl, pa⟩ fun l' z j f' _ hf' y => by
    cases z
    exact hn f' (List.mem_of_getElem? hf') y
/-- x, y = f(script), a new object; f makes the pen -/
theorem s_parPenO (i j : Nat) {ya : Str} {px py p pt pt2 pos pos2 : Pos} {kt k2 : Nat} (hE : ∀ ta, PA X [.Call (.Name z p) [e] [] pos2, b] ta → PS X (.Assign [.Tuple [.Name x px, .Name y py] kt pt] (.Tuple [.Call (.Name z p) [e] [] pos2, b] k2 pt2) pos) (tPar i j ta))
    (F : Fn X.prog X.w X.K X.mg X.base z k [ya] (spPen X.K B.T)) (hr : Room k X.A) (hg : Gl X z)
    (h : EA X B M Δ [e] fun ts Δ1 => ∃ ns : List Int, ts = [.lst (ns.map Tr.int)] ∧ ns.length ≤ 63 ∧ ∀ pn : Pn, ¬ M.m pn.l → EO X B (ins M pn.l) Δ1 b fun u Δ2 => ∀ m, ¬ M.m m → m ≠ pn.l → Δ2 = Δ1 ∧ Ψ.nx ⟨(ins (ins M pn.l) m).m, fun b => M.w b ∨ b = pn.l⟩ ((Δ2.set i (.pen pn 0)).set j (.own m u)))
    (hij : i ≠ j := by decide) (hdb : (z == ("__debug__" : Str)) = false := by decide) (he : starEach [e] X.env = (false, eval e X.env) :: starEach [] X.env := by rfl) (hpl : (backTo pos2 (starEach [] X.env)).any (·.1) = false := by rfl)
    (hs : starEach [.Call (.Name z p) [e] [] pos2, b] X.env = (false, eval (.Call (.Name z p) [e] [] pos2) X.env) :: starEach [b] X.env := by rfl) (hs2 : starEach [b] X.env = (false, eval b X.env) :: starEach [] X.env := by rfl) :
    S1 X B M Δ (.Assign [.Tuple [.Name x px, .Name y py] kt pt] (.Tuple [.Call (.Name z p) [e] [] pos2, b] k2 pt2) pos) Ψ := fun σ H S D pp => by
  obtain ⟨f, fd, ok, hm, hk, hb⟩ := F.ex
  refine PS.to (hE _ (pa_cons (pe_call ok hr hg hm hk hb .nil pass0 pa_self hdb he hpl) (pa_cons pe_self pa_nil hs2) hs)) (h σ H S _ fun ts Δ1 vs H1 q fe S1 d => ?_)
  obtain ⟨ns, rfl, hn, q⟩ := q
  rw [List.append_nil]
  refine ⟨M.m, ns, d, hn, S1.al, S1.tb, fun pn H' f2 tb hl pa => ?_⟩
  have fw : Fe M.w H1 H' := f2.imp fun _ _ _ z => z.elim
  have nm : ¬ M.m pn.l := S1.notM hl
  have nw : ¬ M.w pn.l := fun z => nm (S1.wm _ z)
  have ex : ∃ o, H' pn.l = some o := by
    obtain ⟨_, _, z, _⟩ := pa
    exact ⟨_, z⟩
  obtain ⟨S2, hn2⟩ := S1.grab f2 tb hl ex
  have s2 : Sub (mi M.m H1) (mi (ins M pn.l).m H') := mi_new hl S1 fw
  refine q pn nm σ H' S2 _ fun u Δ2 m H3 q3 f3 hm3 S3 hn3 ow => ?_
  have nm3 := S2.notM hm3
  have hml : m ≠ pn.l := fun z => nm3 (.inr z)
  obtain ⟨rfl, q4⟩ := q3 m (fun z => nm3 (.inl z)) hml
  have s3 : Sub (mi (ins M pn.l).m H') (mi (ins (ins M pn.l) m).m H3) := mi_new hm3 S2 f3
  have pa3 : PenAt X.K (mi (ins (ins M pn.l) m).m H3) H3 pn 0 := PenAt.mono s3 (fun o n z => f3.k _ o nw n z) pa
  have S4 := S3.toPen i (pn := pn) (c := 0) (.inl (.inr rfl)) (fun z => nm (S1.m0 _ z)) (S1.new0 hl) hn2 pa3
  refine ⟨_, _, rfl, pp.nx _ _ _ H3 q4 (((S.sub fe).trans s2).trans s3) ?_⟩
  refine S4.put j (o := some (.ref m)) (e := .own m u) ⟨rfl, .inr rfl, fun z => nm3 (S2.m0 m z), fun z => z.elim (fun z => nm3 (S2.wm m z)) hml, ow⟩ fun l' z j' f' hj' hf' y => ?_
  cases z
  rcases List.mem_or_eq_of_mem_set (List.mem_of_getElem? hf') with hf | rfl
  · exact hn3 f' hf y
  · exact hml y.symm
end
end Wf

set_option Elab.async false
set_option linter.all false
set_option maxRecDepth 100000
set_option maxHeartbeats 4000000
set_option pp.maxSteps 150
namespace Toy
open PySem PySem.Spec PyProof.Rows L2 LamX Wf
/-! the law, its parts -/
theorem low_of {ls : List Nat} {x : Str} (hl : GoodLets ls) (h : ∀ c ∈ x.cps.toList, c ∈ (txt ls).cps.toList) : Low x := fun c hc => by
  have := h c hc
  rw [txt_cps] at this
  exact hl.2.2.2 c this
theorem low_txt {ls : List Nat} (hl : GoodLets ls) : Low (txt ls) := fun c hc => by
  rw [txt_cps] at hc
  exact hl.2.2.2 c hc
theorem low_ok {x : Str} (h : Low x) : PyData.strOk x = true := by
  unfold PyData.strOk
  rw [Array.all_eq_true']
  intro c hc
  have := h c (Array.mem_toList_iff.mpr hc)
  simp
  omega
theorem vw_low {x : Str} {d b : Nat} (h : Low x) (hl : x.length ≤ b) : (Tr.str x).vw d b := by
  refine ⟨rfl, by unfold Tr.pd; rfl, ?_, ?_, by unfold Tr.pd PyData.depth; exact Nat.zero_le _⟩
  · unfold Tr.pd PyData.leavesShort
    rw [List.all_eq_true]
    intro c hc
    have := h c hc
    exact decide_eq_true (by omega)
  · unfold Tr.pd PyData.bulk
    exact hl
theorem vw_sT {ws : List Str} (h : LowAll ws) (hl : ∀ x ∈ ws, x.length ≤ 12) (hn : ws.length ≤ 61) : (Tr.tup (sT ws)).vw 1 800 := vw_tup (d := 0) (b := 12) (fun t ht => by
  obtain ⟨x, hx, rfl⟩ := List.mem_map.mp ht
  exact vw_low (h x hx) (hl x hx)) (by rw [sT_len]; omega)
theorem vw_sL {ws : List Str} (h : LowAll ws) (hl : ∀ x ∈ ws, x.length ≤ 12) (hn : ws.length ≤ 61) : (Tr.lst (sT ws)).vw 1 800 := vw_lst (d := 0) (b := 12) (fun t ht => by
  obtain ⟨x, hx, rfl⟩ := List.mem_map.mp ht
  exact vw_low (h x hx) (hl x hx)) (by rw [sT_len]; omega)
/-- letters, words: as _law_raw gives them -/
structure RW (ls : List Nat) (ys ns : List Str) : Prop where
  g : RawP ls ys ns 10 6
section
variable {ls : List Nat} {ys ns : List Str}
theorem RW.ly (h : RW ls ys ns) : LowAll ys := fun x hx => low_of h.g.lets (h.g.sy x hx).2
theorem RW.ln (h : RW ls ys ns) : LowAll ns := fun x hx => low_of h.g.lets (h.g.sn x hx).2
theorem RW.lz (h : RW ls ys ns) : Low (txt ls) := low_txt h.g.lets
theorem RW.raw (h : RW ls ys ns) : RawG ls ys ns := ⟨h.g.lets, h.g.oy, h.g.on, h.g.dis, by have := h.g.few; omega, fun x hx => ⟨by have := (h.g.sy x hx).1; omega, (h.g.sy x hx).2⟩, fun x hx => ⟨by have := (h.g.sn x hx).1; omega, (h.g.sn x hx).2⟩⟩
theorem RW.swap (h : RW ls ys ns) : RW ls ns ys := ⟨h.g.lets, h.g.on, h.g.oy, fun x hx hy => h.g.dis x hy hx, by have := h.g.few; omega, h.g.sn, h.g.sy⟩
theorem RW.all6 (h : RW ls ys ns) : ∀ x ∈ ys ++ ns, x.length ≤ 6 := fun x hx => (List.mem_append.mp hx).elim (fun y => (h.g.sy x y).1) fun y => (h.g.sn x y).1
theorem RW.pl (h : RW ls ys ns) : (prefL (ys ++ ns)).length ≤ 61 := by
  have := prefL_len h.all6
  rw [List.length_append] at this
  have := h.g.few
  omega
theorem RW.lowP (h : RW ls ys ns) : ∀ x ∈ wset (prefL (ys ++ ns)), Low x ∧ x.length ≤ 6 := fun x hx => by
  have hx := wset_mem.mp hx
  refine ⟨?_, prefL_mem h.all6 hx⟩
  rcases List.mem_cons.mp hx with rfl | hx
  · exact fun c hc => by
      have e : (Str.ofString "").cps.toList = [] := by decide +kernel
      rw [e] at hc
      cases hc
  · obtain ⟨y, hy, hb⟩ := List.mem_flatMap.mp hx
    obtain ⟨k, _, rfl⟩ := begs_mem hb
    have ly : Low y := (List.mem_append.mp hy).elim (fun z => h.ly y z) fun z => h.ln y z
    exact fun c hc => ly c (begS_mem hc)
theorem RW.vraw (h : RW ls ys ns) : (rawT (txt ls) ys ns).vw 2 2500 := vw_tup (d := 1) (b := 800) (fun t ht => by
  have hf := h.g.few
  simp only [List.mem_cons, List.not_mem_nil, or_false] at ht
  rcases ht with rfl | rfl | rfl
  · exact vw_low h.lz (by rw [txt_len]; have := h.g.lets.2.1; omega)
  · exact vw_sL h.ly (fun x hx => by have := (h.g.sy x hx).1; omega) (by omega)
  · exact vw_sL h.ln (fun x hx => by have := (h.g.sn x hx).1; omega) (by omega)) (by show 3 * 801 ≤ 2500; decide)
end
theorem vw_mark (ys ns : List Str) (v : Tr) : (markT ys ns v).vw 8 26000 := by
  cases v with
  | str x =>
    show (if x ∈ ys then _ else _ : Tr).vw 8 26000
    split
    · exact vw_bl
    · split
      · exact vw_bl
      · exact vw_non
  | _ => exact vw_non
theorem sF_no {z : Str} {ys ns ps : List Str} : (sF z ys ns ps).lookup ("mark" : Str) = none := by
  unfold sF
  rw [List.lookup_cons, show (("mark" : Str) == "own_letters") = false by decide +kernel, List.lookup_cons, show (("mark" : Str) == "own_yes") = false by decide +kernel, List.lookup_cons, show (("mark" : Str) == "own_no") = false by decide +kernel, List.lookup_cons, show (("mark" : Str) == "own_prefixes") = false by decide +kernel, List.lookup_cons, show (("mark" : Str) == "own_parts") = false by decide +kernel]
  rfl
abbrev FnPn (P : Program) (w : World) (K : PySem.W.Frag) (mg : Str → Option Value) (base : Heap) (T : List (Addr × Str)) : Prop := Fn P w K mg base "_law_pen" 2 ["script"] (spPen K T)
structure Ca (P : Program) (w : World) (K : PySem.W.Frag) (mg : Str → Option Value) (base : Heap) (T : List (Addr × Str)) (C : Addr) : Prop where
  pn : FnPn P w K mg base T
  raw : FnRaw P w K mg base T
  mix : FnMix P w K mg base T
  made : FnMade P w K mg base T C
  lp : FnLP P w K mg base T
  wd : FnWd P w K mg base T
  od : FnOddv P w K mg base T
  mc : McS P w K mg base T C []
  mc2 : McS P w K mg base T C [.tup [], .tup []]
  sl : Pt P w K mg base C "letters" 1 ["self"] (spF K T (sPre C) (slPost C))
  sy : Pt P w K mg base C "yes" 1 ["self"] (spF K T (sPre C) (syPost C))
  sn : Pt P w K mg base C "no" 1 ["self"] (spF K T (sPre C) (snPost C))
  sp : Pt P w K mg base C "prefixes" 1 ["self"] (spF K T (sPre C) (spPost C))
  ss : Pt P w K mg base C "size" 1 ["self"] (spF K T (sPre C) (ssPost C))
  sm : Mt P w K mg base C "mark" 2 ["self", "word"] (spF K T (smPre C) (smPost C))
  eq : EqOwn P w K mg base C 2 (spF K T (seqPre2 C) (seqPost2 C))
  si : SmpI K C
  zr : mg "range" = none
  zl : mg "len" = none
  zR : mg "repr" = none
  zt : mg "tuple" = none
  zI : mg "isinstance" = none
  zs : mg "str" = none
abbrev lpA : List Stmt := match (defBody s_law).getD 1 (.Pass ⟨0, 0, 0, 0⟩) with
  | .For _ _ b _ _ => b
  | _ => []
abbrev lpV : List Stmt := match lpA.getD 7 (.Pass ⟨0, 0, 0, 0⟩) with
  | .For _ _ b _ _ => b
  | _ => []
abbrev lpK : List Stmt := match lpA.getD 10 (.Pass ⟨0, 0, 0, 0⟩) with
  | .For _ _ b _ _ => b
  | _ => []
abbrev nLaw : List Str := ["script", "pen", "known", "bout", "raw", "yes", "no", "sample", "told", "due", "value", "mark", "other", "sign", "empty"]
abbrev xLaw (P : Program) (w : World) (K : PySem.W.Frag) (mg : Str → Option Value) (base : Heap) (f : Addr) (cdv : Value) (s : Shared) (H : Hp) : Cx := (cxOf CX0 P w K mg base nLaw "law" (defScope s_law) f cdv callerA [] s H fun _ _ _ => False).nox
section
variable {P : Program} {w : World} {K : PySem.W.Frag} {mg : Str → Option Value} {base : Heap} {T : List (Addr × Str)} {f : Addr} {fd : FuncData} {C : Addr}
/-- one value's mark -/
theorem val_turn {cdv : Value} {s : Shared} {H : Hp} {M : Pl} {Ψ : Eo} {e0 e1 e2 e3 e5 e6 e8 e9 e11 e12 e13 e14 : En} {z : Str} {ys ns : List Str} {v : Tr} {n : String} (Z : Ca P w K mg base T C) (hv : v.cls = some n)
    (hnx : ∀ e11, Ψ.nx M [e0, e1, e2, e3, .dat (rawT z ys ns), e5, e6, .dat (smpT C z ys ns), e8, e9, .dat v, e11, e12, e13, e14]) :
    SS (xLaw P w K mg base f cdv s H) (bF T H fun _ => False) M [e0, e1, e2, e3, .dat (rawT z ys ns), e5, e6, .dat (smpT C z ys ns), e8, e9, .dat v, e11, e12, e13, e14] lpV Ψ := by
  have hr : Room 199 (callerA.deeper (envOfC "law" (defScope s_law) s.heap.objs.size f cdv)) := caller_room.deeper _
  have hsl : sizeLine = 16777216 := sizeLine_eq
  have rest : SS (xLaw P w K mg base f cdv s H) (bF T H fun _ => False) M [e0, e1, e2, e3, .dat (rawT z ys ns), e5, e6, .dat (smpT C z ys ns), e8, e9, .dat v, .dat (markT ys ns v), e12, e13, e14] (lpV.drop 2) Ψ := by
    refine ss_one (s_if (et_cmp cd_neS ?_))
    refine ee_callB (cl_reprV lawA_guards hr.units) rfl Z.zR (by decide +kernel) (ea_cons ?_)
    refine ee_meth Z.sm (hr.mono (by decide)) (ee_name 7 rfl rfl ⟨_, rfl, sF_no, ea_cons (ee_name 10 rfl rfl (ea_nil ⟨⟨z, ys, ns, v, n, rfl, hv⟩, ?_⟩))⟩)
    rintro _ ⟨z', ys', ns', v', e, rfl⟩
    injection e with e1 e
    injection e with e2 _
    obtain ⟨rfl, rfl, rfl⟩ := smp_inj e1
    subst e2
    refine ea_nil ⟨_, rfl, vw_mark ys ns v, ?_⟩
    refine ee_callB (cl_reprV lawA_guards hr.units) rfl Z.zR (by decide +kernel) (ea_cons (ee_name 11 rfl rfl (ea_nil ⟨_, rfl, vw_mark ys ns v, ?_⟩)))
    refine ⟨_, _, rfl, rfl, ?_⟩
    rw [decide_eq_true (rfl : (markT ys ns v).pd.shown = (markT ys ns v).pd.shown)]
    exact ⟨fun h => Bool.noConfusion h, fun _ => ss_nil (hnx _)⟩
  refine ss_cons (s_asg 11 sc_law.nd rfl (ee_non ?_))
  refine ss_cons (s_if (et_val (ee_isi (T := "str") rfl Z.zI rfl Z.zs (by decide +kernel) (by decide +kernel) (ee_name 10 rfl rfl ⟨n, _, hv, kit_st hv, _, rfl, fun h => ?_, fun h => ?_⟩))))
  · cases v <;> first | exact Bool.noConfusion h | skip
    rename_i x
    refine ss_one (s_asg 11 sc_law.nd rfl (ee_if (et_cmp cd_inT (ee_name 10 rfl rfl (ee_ixT (ee_name 4 rfl rfl (ee_int ⟨_, _, _, rfl, rfl, rfl, x, ys, rfl, .inr rfl, fun h1 => ee_bl ?_, fun h1 => ee_if (et_cmp cd_inT (ee_name 10 rfl rfl (ee_ixT (ee_name 4 rfl rfl (ee_int ⟨_, _, _, rfl, rfl, rfl, x, ns, rfl, .inr rfl, fun h2 => ee_bl ?_, fun h2 => ee_non ?_⟩)))))⟩)))))))
    · have e : markT ys ns (.str x) = .bl true := by
        show (if x ∈ ys then _ else _) = _
        rw [if_pos (of_decide_eq_true h1)]
      rw [e] at rest
      exact rest
    · have e : markT ys ns (.str x) = .bl false := by
        show (if x ∈ ys then _ else _) = _
        rw [if_neg (of_decide_eq_false h1), if_pos (of_decide_eq_true h2)]
      rw [e] at rest
      exact rest
    · have e : markT ys ns (.str x) = .non := by
        show (if x ∈ ys then _ else _) = _
        rw [if_neg (of_decide_eq_false h1), if_neg (of_decide_eq_false h2)]
      rw [e] at rest
      exact rest
  · refine ss_nil ?_
    have e : markT ys ns v = .non := by cases v <;> first | rfl | exact Bool.noConfusion h
    rw [e] at rest
    exact rest
end
end Toy

set_option Elab.async false
set_option linter.all false
set_option maxRecDepth 100000
set_option maxHeartbeats 4000000
set_option pp.maxSteps 150
namespace Toy
open PySem PySem.Spec PyProof.Rows L2 LamX Wf
/-! the law: known samples, from the inside out -/
abbrev Kn := List Nat × List Str × List Str
def knT (C : Addr) (k : Kn) : Tr := .tup [smpT C (txt k.1) k.2.1 k.2.2, .str (rawT (txt k.1) k.2.1 k.2.2).pd.shown]
def KnOk (ks : List Kn) : Prop := ∀ k ∈ ks, RW k.1 k.2.1 k.2.2
theorem eqv_bl (a b : Bool) : PyData.eqv (Tr.bl a).py (Tr.bl b).py = (a == b) := by
  unfold Tr.py PyData.eqv
  rfl
theorem txt_inj {a b : List Nat} (h : txt a = txt b) : a = b := by
  have h2 := congrArg (fun z : Str => z.cps.toList) h
  have h3 : (txt a).cps.toList = (txt b).cps.toList := h2
  rwa [txt_cps, txt_cps] at h3
theorem allOk_of {ws : List Str} (h : LowAll ws) : AllOk ws := fun x hx => low_ok (h x hx)
theorem odd_cls {t : Tr} (h : oddQ t) : ∃ n, t.cls = some n := by
  have key : (odds1 ++ odds2).all (fun t => t.cls.isSome) = true := rfl
  have := List.all_eq_true.mp key t h
  exact Option.isSome_iff_exists.mp this
section
variable {P : Program} {w : World} {K : PySem.W.Frag} {mg : Str → Option Value} {base : Heap} {T : List (Addr × Str)} {f : Addr} {fd : FuncData} {C : Addr}
theorem seq_pre {ls : List Nat} {ys ns : List Str} (h : RW ls ys ns) {t : Tr} {n : String} (ht : t.cls = some n) : seqPre2 C [smpT C (txt ls) ys ns, t] := ⟨_, _, _, low_ok h.lz, allOk_of h.ly, allOk_of h.ln, .inr ⟨t, n, rfl, ht⟩⟩
theorem seq_pre2 {ls ls' : List Nat} {ys ns ys' ns' : List Str} (h : RW ls ys ns) (h' : RW ls' ys' ns') : seqPre2 C [smpT C (txt ls) ys ns, smpT C (txt ls') ys' ns'] := ⟨_, _, _, low_ok h.lz, allOk_of h.ly, allOk_of h.ln, .inl ⟨_, _, _, rfl, low_ok h'.lz, allOk_of h'.ly, allOk_of h'.ln⟩⟩
theorem seq_at {z z' : Str} {ys ns ys' ns' : List Str} {r : Tr} (h : seqPost2 C [smpT C z ys ns, smpT C z' ys' ns'] r) : r = .bl (decide (z = z' ∧ ys = ys' ∧ ns = ns')) := by
  obtain ⟨a, b, c, ⟨a', b', c', e, rfl⟩ | ⟨t, n, e, ht, rfl⟩⟩ := h
  · injection e with e1 e
    injection e with e2 _
    obtain ⟨rfl, rfl, rfl⟩ := smp_inj e1
    obtain ⟨rfl, rfl, rfl⟩ := smp_inj e2
    rfl
  · injection e with e1 e
    injection e with e2 _
    subst e2
    cases ht
theorem seq_no {z : Str} {ys ns : List Str} {r t : Tr} {n : String} (ht : t.cls = some n) (h : seqPost2 C [smpT C z ys ns, t] r) : r = .bl false := by
  obtain ⟨a, b, c, ⟨a', b', c', e, rfl⟩ | ⟨t', n', e, _, rfl⟩⟩ := h
  · injection e with e1 e
    injection e with e2 _
    subst e2
    cases ht
  · rfl
/-- one known sample -/
theorem kn_turn {cdv : Value} {s : Shared} {H : Hp} {M : Pl} {Ψ : Eo} {e0 e1 e2 e3 e5 e6 e8 e9 e10 e11 e14 : En} {ls : List Nat} {ys ns : List Str} {k : Kn} (Z : Ca P w K mg base T C) (h : RW ls ys ns) (hk : RW k.1 k.2.1 k.2.2)
    (hnx : ∀ e12 e13, Ψ.nx M [e0, e1, e2, e3, .dat (rawT (txt ls) ys ns), e5, e6, .dat (smpT C (txt ls) ys ns), e8, e9, e10, e11, e12, e13, e14]) :
    SS (xLaw P w K mg base f cdv s H) (bF T H fun _ => False) M [e0, e1, e2, e3, .dat (rawT (txt ls) ys ns), e5, e6, .dat (smpT C (txt ls) ys ns), e8, e9, e10, e11, .dat (smpT C (txt k.1) k.2.1 k.2.2), .dat (.str (rawT (txt k.1) k.2.1 k.2.2).pd.shown), e14] lpK Ψ := by
  have hr : Room 199 (callerA.deeper (envOfC "law" (defScope s_law) s.heap.objs.size f cdv)) := caller_room.deeper _
  have hsl : sizeLine = 16777216 := sizeLine_eq
  refine ss_one (s_if (et_cmp (cd_neD hr.units) (ee_cmp (cd_eqOwn Z.eq (hr.mono (by decide))) (ee_name 7 rfl rfl (ee_name 12 rfl rfl ⟨_, _, rfl, .ins Z.si.ty, sF_self, seq_pre2 h hk, ?_⟩)))))
  intro t ht
  refine ⟨_, seq_at ht, ?_⟩
  refine ee_cmp cd_eqS (ee_name 13 rfl rfl (ee_callB (cl_reprV lawA_guards hr.units) rfl Z.zR (by decide +kernel) (ea_cons (ee_name 4 rfl rfl (ea_nil ⟨_, rfl, h.vraw.le (by decide) (by decide), _, _, rfl, rfl, (good_bl (d := 1)).eqOk, (good_bl (d := 1)).eqOk, ?_⟩)))))
  rw [eqv_bl]
  have e : decide (txt ls = txt k.1 ∧ ys = k.2.1 ∧ ns = k.2.2) = decide ((rawT (txt k.1) k.2.1 k.2.2).pd.shown = (rawT (txt ls) ys ns).pd.shown) := by
    rw [decide_eq_decide]
    constructor
    · rintro ⟨h1, h2, h3⟩
      rw [h1, h2, h3]
    · intro h1
      obtain ⟨h2, h3, h4⟩ := raw_shown_inj hk.lz hk.ly hk.ln h.lz h.ly h.ln h1
      exact ⟨h2.symm, h3.symm, h4.symm⟩
  rw [e, beq_self_eq_true]
  exact ⟨fun h => Bool.noConfusion h, fun _ => ss_nil (hnx _ _)⟩
/-- from 'for other, sign in known' on -/
theorem law_K {cdv : Value} {s : Shared} {H : Hp} {M : Pl} {Ψ : Eo} {e0 e3 e5 e6 e8 e9 e10 e11 e12 e13 e14 : En} {pn : Pn} {c : Nat} {kl : Addr} {ks : List Kn} {ls : List Nat} {ys ns : List Str} (Z : Ca P w K mg base T C) (h : RW ls ys ns) (hks : KnOk ks) (hc : c + 1 ≤ 1000000000)
    (hnx : ∀ M' c' e12 e13, c' ≤ c + 1 → Ψ.nx M' [e0, .pen pn c', .own kl (.lst (ks.map (knT C))), e3, .dat (rawT (txt ls) ys ns), e5, e6, .dat (smpT C (txt ls) ys ns), e8, e9, e10, e11, e12, e13, e14]) :
    SS (xLaw P w K mg base f cdv s H) (bF T H fun _ => False) M [e0, .pen pn c, .own kl (.lst (ks.map (knT C))), e3, .dat (rawT (txt ls) ys ns), e5, e6, .dat (smpT C (txt ls) ys ns), e8, e9, e10, e11, e12, e13, e14] (lpA.drop 10) Ψ := by
  have hr : Room 199 (callerA.deeper (envOfC "law" (defScope s_law) s.heap.objs.size f cdv)) := caller_room.deeper _
  have hsl : sizeLine = 16777216 := sizeLine_eq
  refine ss_cons (s_forOwn (.tp 12 13) 2 PassesOwn.never rfl (pg_tup rfl (pgs_cons (pg_name (i := 12) sc_law.nd rfl (Or.inl rfl)) (pgs_cons (pg_name (i := 13) sc_law.nd rfl (Or.inl rfl)) pgs_nil))) rfl rfl ?_)
  refine ⟨fun i M' Δ' => ∃ e12 e13, Δ' = [e0, .pen pn c, .own kl (.lst (ks.map (knT C))), e3, .dat (rawT (txt ls) ys ns), e5, e6, .dat (smpT C (txt ls) ys ns), e8, e9, e10, e11, e12, e13, e14], ⟨_, _, rfl⟩, ?_, ?_⟩
  · rintro i M' Δ' hi ⟨e12, e13, rfl⟩
    rw [List.length_map] at hi
    have eg : (ks.map (knT C)).getD i .non = knT C ks[i] := by simp [List.getD_eq_getElem?_getD, hi]
    rw [eg]
    refine ⟨rfl, ⟨_, _, rfl⟩, ?_⟩
    exact kn_turn (k := ks[i]) Z h (hks _ (List.getElem_mem hi)) fun e12 e13 => ⟨e12, e13, rfl⟩
  · rintro M' Δ' ⟨e12, e13, rfl⟩
    refine ⟨rfl, ?_⟩
    refine ss_one (s_if (et_or2 (et_cmp (cd_eqOwn Z.eq (hr.mono (by decide))) (ee_name 7 rfl rfl (ee_name 4 rfl rfl ⟨_, _, rfl, .data rfl, Z.si.nf _ (by decide), seq_pre h rfl, ?_⟩)))))
    intro t ht
    refine ⟨false, seq_no rfl ht, fun h => Bool.noConfusion h, fun _ => ?_⟩
    refine et_cmp (cd_eqOwn Z.eq (hr.mono (by decide))) (ee_name 7 rfl rfl (ee_callP 1 rfl rfl Z.od (hr.mono (by decide)) rfl (ea_nil ⟨c, rfl, rfl, hc, fun t ho => ?_⟩)))
    obtain ⟨n, hn⟩ := odd_cls ho
    refine ⟨_, _, rfl, .data hn, Z.si.nf _ (cls_mem hn), seq_pre h hn, fun t2 ht2 => ⟨false, seq_no hn ht2, fun h => Bool.noConfusion h, fun _ => ss_nil (hnx _ _ _ _ (Nat.le_refl _))⟩⟩
end
end Toy

set_option Elab.async false
set_option linter.all false
set_option maxRecDepth 100000
set_option maxHeartbeats 4000000
set_option pp.maxSteps 150
namespace Toy
open PySem PySem.Spec PyProof.Rows L2 LamX Wf
section
variable {P : Program} {w : World} {K : PySem.W.Frag} {mg : Str → Option Value} {base : Heap} {T : List (Addr × Str)} {f : Addr} {fd : FuncData} {C : Addr}
theorem wset_raw {ls : List Nat} {ys ns : List Str} (h : RW ls ys ns) : smpT C (txt ls) (wset ys) (wset ns) = smpT C (txt ls) ys ns := by rw [wset_of h.g.oy, wset_of h.g.on]
theorem smp_pre {ls : List Nat} {ys ns : List Str} (h : RW ls ys ns) {yes no : List Str} {ty tn : Tr} (hy : isWs ty yes) (hn : isWs tn no) (ly : yes.length ≤ 20) (ln : no.length ≤ 20) (my : ∀ x, x ∈ yes ↔ x ∈ ys) (mn : ∀ x, x ∈ no ↔ x ∈ ns) : noX smpPre (fun _ _ _ => False) [.str (txt ls), ty, tn] :=
  ⟨⟨ls, yes, no, ty, tn, rfl, h.g.lets, hy, hn, by omega, fun x hx => h.raw.sy x ((my x).mp hx), fun x hx => h.raw.sn x ((mn x).mp hx), fun x hx hx2 => h.g.dis x ((my x).mp hx) ((mn x).mp hx2)⟩, fun _ _ z => z⟩
theorem RW.ny {ls : List Nat} {ys ns : List Str} (h : RW ls ys ns) : ys.length ≤ 10 := by have := h.g.few; omega
theorem RW.nn {ls : List Nat} {ys ns : List Str} (h : RW ls ys ns) : ns.length ≤ 10 := by have := h.g.few; omega
/-- from the first 'known.append' on -/
theorem law_G {cdv : Value} {s : Shared} {H : Hp} {M : Pl} {Ψ : Eo} {e0 e3 e5 e6 e8 e9 e10 e11 e12 e13 e14 : En} {pn : Pn} {c : Nat} {kl : Addr} {ks : List Kn} {ls : List Nat} {ys ns : List Str} (Z : Ca P w K mg base T C) (h : RW ls ys ns) (hks : KnOk ks) (hkl : ks.length ≤ 1000) (hc : c + 1 ≤ 1000000000)
    (hnx : ∀ M' c' e12 e13, c' ≤ c + 1 → Ψ.nx M' [e0, .pen pn c', .own kl (.lst ((ks ++ [(ls, ns, ys), (ls, ys, ns)]).map (knT C))), e3, .dat (rawT (txt ls) ys ns), e5, e6, .dat (smpT C (txt ls) ys ns), e8, e9, e10, e11, e12, e13, e14]) :
    SS (xLaw P w K mg base f cdv s H) (bF T H fun _ => False) M [e0, .pen pn c, .own kl (.lst (ks.map (knT C))), e3, .dat (rawT (txt ls) ys ns), e5, e6, .dat (smpT C (txt ls) ys ns), e8, e9, e10, e11, e12, e13, e14] (lpA.drop 8) Ψ := by
  have hr : Room 199 (callerA.deeper (envOfC "law" (defScope s_law) s.heap.objs.size f cdv)) := caller_room.deeper _
  have hsl : sizeLine = 16777216 := sizeLine_eq
  have h' := h.swap
  refine ss_cons (s_append 2 rfl rfl (ee_tup (ea_cons (EO.ee (eo_makeD Z.mc (hr.mono (by decide)) rfl ?_)))))
  refine ea_cons (ee_ixT (ee_name 4 rfl rfl (ee_int ⟨_, _, _, rfl, rfl, rfl, ?_⟩)))
  refine ea_cons (ee_ixT (ee_name 4 rfl rfl (ee_int ⟨_, _, _, rfl, rfl, rfl, ?_⟩)))
  refine ea_cons (ee_ixT (ee_name 4 rfl rfl (ee_int ⟨_, _, _, rfl, rfl, rfl, ea_nil ⟨smp_pre h' (.inl rfl) (.inl rfl) (by have := h'.ny; omega) (by have := h'.nn; omega) (fun _ => Iff.rfl) (fun _ => Iff.rfl), fun fs hfs => ?_⟩⟩)))
  rw [smpPost_at hfs (.inl rfl) (.inl rfl), wset_raw h']
  refine ea_cons (ee_callB (cl_reprV lawA_guards hr.units) rfl Z.zR (by decide +kernel) (ea_cons (ee_tup ?_)))
  refine ea_cons (ee_ixT (ee_name 4 rfl rfl (ee_int ⟨_, _, _, rfl, rfl, rfl, ?_⟩)))
  refine ea_cons (ee_ixT (ee_name 4 rfl rfl (ee_int ⟨_, _, _, rfl, rfl, rfl, ?_⟩)))
  refine ea_cons (ee_ixT (ee_name 4 rfl rfl (ee_int ⟨_, _, _, rfl, rfl, rfl, ea_nil ⟨by show 3 ≤ sizeLine; omega, ea_nil ⟨_, rfl, h'.vraw.le (by decide) (by decide), ea_nil ⟨by show 2 ≤ sizeLine; omega, ks.map (knT C), rfl, by rw [List.length_map]; omega, ?_⟩⟩⟩⟩)))
  refine ss_cons (s_append (ts0 := ks.map (knT C) ++ [knT C (ls, ns, ys)]) 2 rfl rfl (ee_tup (ea_cons (ee_call Z.made (hr.mono (by decide)) rfl (ea_cons (ee_name 4 rfl rfl (ea_nil ⟨⟨ls, ys, ns, rfl, h.raw⟩, ?_⟩)))))))
  rintro _ ⟨ls', ys', ns', e, _, rfl⟩
  injection e with e _
  obtain ⟨e1, rfl, rfl⟩ := raw_inj e
  have e1 := txt_inj e1
  subst e1
  refine ea_cons (ee_callB (cl_reprV lawA_guards hr.units) rfl Z.zR (by decide +kernel) (ea_cons (ee_name 4 rfl rfl (ea_nil ⟨_, rfl, h.vraw.le (by decide) (by decide), ea_nil ⟨by show 2 ≤ sizeLine; omega, ks.map (knT C) ++ [knT C (ls, ns, ys)], rfl, by rw [List.length_append, List.length_map]; show ks.length + 1 < sizeLine; omega, ?_⟩⟩))))
  have e2 : (ks.map (knT C) ++ [knT C (ls, ns, ys)]) ++ [knT C (ls, ys, ns)] = (ks ++ [(ls, ns, ys), (ls, ys, ns)]).map (knT C) := by
    rw [List.map_append, List.append_assoc]
    rfl
  have hks2 : KnOk (ks ++ [(ls, ns, ys), (ls, ys, ns)]) := fun k hk => by
    rcases List.mem_append.mp hk with hk | hk
    · exact hks k hk
    · simp only [List.mem_cons, List.not_mem_nil, or_false] at hk
      rcases hk with rfl | rfl
      · exact h'
      · exact h
  have q := law_K (cdv := cdv) (s := s) (H := H) (f := f) (M := M) (e12 := e12) (e13 := e13) (ks := ks ++ [(ls, ns, ys), (ls, ys, ns)]) Z h hks2 hc (fun M' c' e12 e13 hc' => hnx M' c' e12 e13 hc')
  rw [← e2] at q
  exact q
/-- from 'for value in ..' on -/
theorem law_F {cdv : Value} {s : Shared} {H : Hp} {M : Pl} {Ψ : Eo} {e0 e3 e5 e6 e8 e9 e10 e11 e12 e13 e14 : En} {pn : Pn} {c : Nat} {kl : Addr} {ks : List Kn} {ls : List Nat} {ys ns : List Str} (Z : Ca P w K mg base T C) (h : RW ls ys ns) (hks : KnOk ks) (hkl : ks.length ≤ 1000) (hc : c + 2003 ≤ 1000000000)
    (hnx : ∀ M' c' e10 e11 e12 e13, c' ≤ c + 2003 → Ψ.nx M' [e0, .pen pn c', .own kl (.lst ((ks ++ [(ls, ns, ys), (ls, ys, ns)]).map (knT C))), e3, .dat (rawT (txt ls) ys ns), e5, e6, .dat (smpT C (txt ls) ys ns), e8, e9, e10, e11, e12, e13, e14]) :
    SS (xLaw P w K mg base f cdv s H) (bF T H fun _ => False) M [e0, .pen pn c, .own kl (.lst (ks.map (knT C))), e3, .dat (rawT (txt ls) ys ns), e5, e6, .dat (smpT C (txt ls) ys ns), e8, e9, e10, e11, e12, e13, e14] (lpA.drop 7) Ψ := by
  have hr : Room 199 (callerA.deeper (envOfC "law" (defScope s_law) s.heap.objs.size f cdv)) := caller_room.deeper _
  have hsl : sizeLine = 16777216 := sizeLine_eq
  have h12 : ∀ x ∈ ys ++ ns, x.length ≤ 12 := fun x hx => by have := h.all6 x hx; omega
  have hn10 : (ys ++ ns).length ≤ 1000 := by rw [List.length_append]; have := h.g.few; omega
  refine ss_cons (s_for (.nm 10) PassesOwn.never rfl (pg_name (i := 10) sc_law.nd rfl (Or.inl rfl)) (ei_list (EO.ee (eo_catD ?_))))
  refine ee_call Z.lp (hr.mono (by decide)) rfl (ea_cons (ee_name 4 rfl rfl (ea_nil ⟨⟨_, ys, ns, rfl, by have := h.pl; omega, h12, hn10⟩, ?_⟩)))
  rintro _ ⟨z', ys', ns', e, rfl⟩
  injection e with e _
  obtain ⟨_, rfl, rfl⟩ := raw_inj e
  have hpl := h.pl
  have hwl := wset_len (prefL (ys ++ ns))
  refine EO.ee (eo_lst (ea_cons (ee_callP 1 rfl rfl Z.wd (hr.mono (by decide)) rfl ?_)))
  refine ea_cons (ee_ixT (ee_name 4 rfl rfl (ee_int ⟨_, _, _, rfl, rfl, rfl, ea_cons (ee_int (ea_nil ⟨c, rfl, ⟨txt ls, 5, rfl, by rw [txt_len]; exact h.g.lets.1, by rw [txt_len]; have := h.g.lets.2.1; omega, by omega⟩, by show c + 2000 ≤ 1000000000; omega, ?_⟩))⟩)))
  rintro _ ⟨_, _, cs, _, rfl, _, _⟩
  refine ea_cons (ee_callP 1 rfl rfl Z.od (hr.mono (by decide)) rfl (ea_nil ⟨c + 2000, rfl, rfl, by show c + 2000 + 1 ≤ 1000000000; omega, fun o1 ho1 => ?_⟩))
  refine ea_cons (ee_callP 1 rfl rfl Z.od (hr.mono (by decide)) rfl (ea_nil ⟨c + 2000 + 1, rfl, rfl, by show c + 2000 + 1 + 1 ≤ 1000000000; omega, fun o2 ho2 => ?_⟩))
  refine ea_nil ⟨by show 3 ≤ sizeLine; omega, _, _, rfl, rfl, by rw [sT_len]; show _ + 3 ≤ sizeLine; omega, _, rfl, ?_⟩
  have hall : ∀ t ∈ sT (wset (prefL (ys ++ ns))) ++ [.str (txt cs), o1, o2], ∃ n, t.cls = some n := fun t ht => by
    rcases List.mem_append.mp ht with ht | ht
    · obtain ⟨x, _, rfl⟩ := List.mem_map.mp ht
      exact ⟨_, rfl⟩
    · simp only [List.mem_cons, List.not_mem_nil, or_false] at ht
      rcases ht with rfl | rfl | rfl
      · exact ⟨_, rfl⟩
      · exact odd_cls ho1
      · exact odd_cls ho2
  generalize sT (wset (prefL (ys ++ ns))) ++ [.str (txt cs), o1, o2] = vs at *
  refine ⟨fun i M' Δ' => ∃ e10 e11, Δ' = [e0, .pen pn (c + 2002), .own kl (.lst (ks.map (knT C))), e3, .dat (rawT (txt ls) ys ns), e5, e6, .dat (smpT C (txt ls) ys ns), e8, e9, e10, e11, e12, e13, e14], ⟨_, _, rfl⟩, ?_, ?_⟩
  · rintro i M' Δ' hi ⟨e10, e11, rfl⟩
    refine ⟨True.intro, ?_⟩
    have hm : vs.getD i .non ∈ vs := by
      rw [List.getD_eq_getElem?_getD, List.getElem?_eq_getElem hi]
      exact List.getElem_mem hi
    obtain ⟨n, hn⟩ := hall _ hm
    exact val_turn Z hn fun e11 => ⟨_, e11, rfl⟩
  · rintro M' Δ' ⟨e10, e11, rfl⟩
    exact law_G Z h hks hkl (by omega) fun M' c' e12 e13 hc' => hnx M' c' e10 e11 e12 e13 (by omega)
end
end Toy

set_option Elab.async false
set_option linter.all false
set_option maxRecDepth 100000
set_option maxHeartbeats 4000000
set_option pp.maxSteps 150
namespace Toy
open PySem PySem.Spec PyProof.Rows L2 LamX Wf
def toldT (z : Str) (ys ns : List Str) : Tr := .tup [.str z, .tup (sT ys), .tup (sT ns), .tup (sT (wset (prefL (ys ++ ns)))), .int ((ys.length : Int) + ns.length)]
theorem RW.vtold {ls : List Nat} {ys ns : List Str} (h : RW ls ys ns) : (toldT (txt ls) ys ns).vw 2 4100 := vw_tup (d := 1) (b := 800) (fun t ht => by
  have hy := h.ny
  have hn := h.nn
  have hp := h.pl
  have hwl := wset_len (prefL (ys ++ ns))
  simp only [List.mem_cons, List.not_mem_nil, or_false] at ht
  rcases ht with rfl | rfl | rfl | rfl | rfl
  · exact vw_low h.lz (by rw [txt_len]; have := h.g.lets.2.1; omega)
  · exact vw_sT h.ly (fun x hx => by have := (h.g.sy x hx).1; omega) (by omega)
  · exact vw_sT h.ln (fun x hx => by have := (h.g.sn x hx).1; omega) (by omega)
  · exact vw_sT (fun x hx => (h.lowP x hx).1) (fun x hx => by have := (h.lowP x hx).2; omega) (by omega)
  · exact vw_int (by omega) (by omega)) (by show 5 * 801 ≤ 4100; decide)
theorem nols_sT : ∀ ws : List Str, Tr.nols (sT ws) = true
  | [] => rfl
  | x :: ws => by
    have ih := nols_sT ws
    show Tr.nols (Tr.str x :: sT ws) = true
    unfold Tr.nols Tr.nol
    rw [ih]
    rfl
theorem smp_nol {C : Addr} {z : Str} {ys ns : List Str} : (smpT C z ys ns).nolO = true := by
  unfold smpT Tr.nolO Tr.nol sF sPr
  simp only [Tr.nolf, Tr.nol, Tr.nols, nols_sT, Bool.and_self]
theorem noHas_pen {Δ : List En} {l : Addr} {i : Nat} {pn : Pn} {c c' : Nat} (h : ∀ e ∈ Δ, ¬ e.has l) (hi : Δ[i]? = some (.pen pn c)) : ∀ e ∈ Δ.set i (.pen pn c'), ¬ e.has l := fun e he z => by
  rcases List.mem_or_eq_of_mem_set he with he | rfl
  · exact h e he z
  · exact h _ (List.mem_of_getElem? hi) z
section
variable {P : Program} {w : World} {K : PySem.W.Frag} {mg : Str → Option Value} {base : Heap} {T : List (Addr × Str)} {f : Addr} {fd : FuncData} {C : Addr}
/-- from 'told = ..' on -/
theorem law_E {cdv : Value} {s : Shared} {H : Hp} {M : Pl} {Ψ : Eo} {e0 e3 e5 e6 e8 e9 e10 e11 e12 e13 e14 : En} {pn : Pn} {c : Nat} {kl : Addr} {ks : List Kn} {ls : List Nat} {ys ns : List Str} (Z : Ca P w K mg base T C) (h : RW ls ys ns) (hks : KnOk ks) (hkl : ks.length ≤ 1000) (hc : c + 2003 ≤ 1000000000)
    (hnx : ∀ M' c' e8 e9 e10 e11 e12 e13, c' ≤ c + 2003 → Ψ.nx M' [e0, .pen pn c', .own kl (.lst ((ks ++ [(ls, ns, ys), (ls, ys, ns)]).map (knT C))), e3, .dat (rawT (txt ls) ys ns), e5, e6, .dat (smpT C (txt ls) ys ns), e8, e9, e10, e11, e12, e13, e14]) :
    SS (xLaw P w K mg base f cdv s H) (bF T H fun _ => False) M [e0, .pen pn c, .own kl (.lst (ks.map (knT C))), e3, .dat (rawT (txt ls) ys ns), e5, e6, .dat (smpT C (txt ls) ys ns), e8, e9, e10, e11, e12, e13, e14] (lpA.drop 4) Ψ := by
  have hr : Room 199 (callerA.deeper (envOfC "law" (defScope s_law) s.heap.objs.size f cdv)) := caller_room.deeper _
  have hsl : sizeLine = 16777216 := sizeLine_eq
  have h12 : ∀ x ∈ ys ++ ns, x.length ≤ 12 := fun x hx => by have := h.all6 x hx; omega
  have hn10 : (ys ++ ns).length ≤ 1000 := by rw [List.length_append]; have := h.g.few; omega
  refine ss_cons (s_asg 8 sc_law.nd rfl (ee_tup (ea_cons (ee_prop Z.sl (hr.mono (by decide)) (ee_name 7 rfl rfl ⟨_, rfl, ⟨_, _, _, rfl⟩, ?_⟩)))))
  rintro _ ⟨a1, a2, a3, e, rfl⟩
  injection e with e _
  obtain ⟨rfl, rfl, rfl⟩ := smp_inj e
  refine ea_cons (ee_prop Z.sy (hr.mono (by decide)) (ee_name 7 rfl rfl ⟨_, rfl, ⟨_, _, _, rfl⟩, ?_⟩))
  rintro _ ⟨a1, a2, a3, e, rfl⟩
  injection e with e _
  obtain ⟨_, rfl, rfl⟩ := smp_inj e
  refine ea_cons (ee_prop Z.sn (hr.mono (by decide)) (ee_name 7 rfl rfl ⟨_, rfl, ⟨_, _, _, rfl⟩, ?_⟩))
  rintro _ ⟨a1, a2, a3, e, rfl⟩
  injection e with e _
  obtain ⟨_, rfl, rfl⟩ := smp_inj e
  refine ea_cons (ee_prop Z.sp (hr.mono (by decide)) (ee_name 7 rfl rfl ⟨_, rfl, ⟨_, _, _, rfl⟩, ?_⟩))
  rintro _ ⟨a1, a2, a3, e, rfl⟩
  injection e with e _
  obtain ⟨_, rfl, rfl⟩ := smp_inj e
  refine ea_cons (ee_prop Z.ss (hr.mono (by decide)) (ee_name 7 rfl rfl ⟨_, rfl, ⟨_, _, _, rfl⟩, ?_⟩))
  rintro _ ⟨a1, a2, a3, e, rfl⟩
  injection e with e _
  obtain ⟨_, rfl, rfl⟩ := smp_inj e
  refine ea_nil ⟨by show 5 ≤ sizeLine; omega, ?_⟩
  refine ss_cons (s_asg 9 sc_law.nd rfl (ee_tup ?_))
  refine ea_cons (ee_ixT (ee_name 4 rfl rfl (ee_int ⟨_, _, _, rfl, rfl, rfl, ?_⟩)))
  refine ea_cons (ee_callTy cl_tuple rfl Z.zt (by decide +kernel) (ea_cons (ee_ixT (ee_name 4 rfl rfl (ee_int ⟨_, _, _, rfl, rfl, rfl, ea_nil ⟨_, .inl rfl, ?_⟩⟩)))))
  refine ea_cons (ee_callTy cl_tuple rfl Z.zt (by decide +kernel) (ea_cons (ee_ixT (ee_name 4 rfl rfl (ee_int ⟨_, _, _, rfl, rfl, rfl, ea_nil ⟨_, .inl rfl, ?_⟩⟩)))))
  refine ea_cons (ee_callTy cl_tuple rfl Z.zt (by decide +kernel) (ea_cons (ee_call Z.lp (hr.mono (by decide)) rfl (ea_cons (ee_name 4 rfl rfl (ea_nil ⟨⟨_, _, _, rfl, by have := h.pl; omega, h12, hn10⟩, ?_⟩))))))
  rintro _ ⟨z', ys', ns', e, rfl⟩
  injection e with e _
  obtain ⟨_, rfl, rfl⟩ := raw_inj e
  refine ea_nil ⟨_, .inl rfl, ?_⟩
  refine ea_cons (ee_add (ee_callB cl_len rfl Z.zl (by decide +kernel) (ea_cons (ee_ixT (ee_name 4 rfl rfl (ee_int ⟨_, _, _, rfl, rfl, rfl, ea_nil ⟨_, rfl, _, .inl rfl, ?_⟩⟩))))))
  refine ee_callB cl_len rfl Z.zl (by decide +kernel) (ea_cons (ee_ixT (ee_name 4 rfl rfl (ee_int ⟨_, _, _, rfl, rfl, rfl, ea_nil ⟨_, rfl, _, .inl rfl, _, _, rfl, rfl, ?_⟩⟩))))
  refine ea_nil ⟨by show 5 ≤ sizeLine; omega, ?_⟩
  rw [sT_len, sT_len]
  refine ss_cons (s_if (et_cmp cd_neS (ee_callB (cl_reprV lawA_guards hr.units) rfl Z.zR (by decide +kernel) (ea_cons (ee_name 8 rfl rfl (ea_nil ⟨toldT (txt ls) _ _, rfl, h.vtold.le (by decide) (by decide), ?_⟩))))))
  refine ee_callB (cl_reprV lawA_guards hr.units) rfl Z.zR (by decide +kernel) (ea_cons (ee_name 9 rfl rfl (ea_nil ⟨toldT (txt ls) _ _, rfl, h.vtold.le (by decide) (by decide), _, _, rfl, rfl, ?_⟩)))
  rw [decide_eq_true rfl]
  refine ⟨fun h => Bool.noConfusion h, fun _ => ss_nil ?_⟩
  exact law_F Z h hks hkl hc fun M' c' e10 e11 e12 e13 hc' => hnx M' c' _ _ e10 e11 e12 e13 hc'
/-- one bout -/
theorem law_A {cdv : Value} {s : Shared} {H : Hp} {M : Pl} {Ψ : Eo} {e0 e3 e4 e5 e6 e7 e8 e9 e10 e11 e12 e13 e14 : En} {pn : Pn} {c : Nat} {kl : Addr} {ks : List Kn} (Z : Ca P w K mg base T C) (hks : KnOk ks) (hkl : ks.length ≤ 1000) (hc : c + 50000 ≤ 1000000000)
    (hnx : ∀ M' c' ks' e4 e5 e6 e7 e8 e9 e10 e11 e12 e13, c' ≤ c + 50000 → KnOk ks' → ks'.length = ks.length + 2 → Ψ.nx M' [e0, .pen pn c', .own kl (.lst (ks'.map (knT C))), e3, e4, e5, e6, e7, e8, e9, e10, e11, e12, e13, e14]) :
    SS (xLaw P w K mg base f cdv s H) (bF T H fun _ => False) M [e0, .pen pn c, .own kl (.lst (ks.map (knT C))), e3, e4, e5, e6, e7, e8, e9, e10, e11, e12, e13, e14] lpA Ψ := by
  have hr : Room 199 (callerA.deeper (envOfC "law" (defScope s_law) s.heap.objs.size f cdv)) := caller_room.deeper _
  have hsl : sizeLine = 16777216 := sizeLine_eq
  refine ss_cons (s_asg 4 sc_law.nd rfl (ee_callP 1 rfl rfl Z.raw (hr.mono (by decide)) rfl (ea_cons (ee_int (ea_cons (ee_int (ea_cons (ee_int (ea_nil ⟨c, rfl, ⟨4, 10, 6, rfl, by decide, by decide, by decide, by decide⟩, by show c + 40000 ≤ 1000000000; omega, ?_⟩)))))))))
  rintro _ ⟨a, b, d, ls, ys, ns, e, rfl, hg, _⟩
  injection e with e1 e
  injection e with e2 e
  injection e with e3' _
  injection e2 with e2
  injection e3' with e3'
  have eb : b = 10 := by omega
  have ed : d = 6 := by omega
  subst eb ed
  have h : RW ls ys ns := ⟨hg⟩
  refine ss_cons (s_parOE 5 6 (hE := fun ta ha => ps_par rfl sc_law.nd rfl rfl (by decide) rfl rfl ha (by rfl)) (by decide) (eo_callP 1 rfl rfl Z.mix (hr.mono (by decide)) rfl (ea_cons (ee_ixT (ee_name 4 rfl rfl (ee_int ⟨_, _, _, rfl, rfl, rfl, ea_nil ⟨c + 40000, rfl, ⟨ys, rfl, by have := h.ny; omega, allOk_of h.ly⟩, by show c + 40000 + 3000 ≤ 1000000000; omega, ?_⟩⟩))))))
  rintro _ ⟨ws, vy, e, rfl, ly, my⟩ l5 nl5
  injection e with e _
  have ew := sT_inj (Tr.lst.inj e)
  subst ew
  refine ee_callTy cl_tuple rfl Z.zt (by decide +kernel) (ea_cons (EO.ee (eo_callP 1 rfl rfl Z.mix (hr.mono (by decide)) rfl (ea_cons (ee_ixT (ee_name 4 rfl rfl (ee_int ⟨_, _, _, rfl, rfl, rfl, ea_nil ⟨c + 40000 + 3000, rfl, ⟨ns, rfl, by have := h.nn; omega, allOk_of h.ln⟩, by show c + 40000 + 3000 + 3000 ≤ 1000000000; omega, ?_⟩⟩)))))))
  rintro _ ⟨ws, vn, e, rfl, ln, mn⟩
  injection e with e _
  have ew := sT_inj (Tr.lst.inj e)
  subst ew
  refine ea_nil ⟨sT vn, .inl rfl, fun hn => ⟨noHas_pen (c := c + 40000 + 3000) hn rfl, ?_⟩⟩
  have h5 : vy.length ≤ 20 := by have := h.ny; omega
  have h6 : vn.length ≤ 20 := by have := h.nn; omega
  refine ss_cons (s_asg 7 sc_law.nd rfl (EO.ee (EO.lend 5 rfl (eo_makeD Z.mc (hr.mono (by decide)) rfl ?_))))
  refine ea_cons (ee_ixT (ee_name 4 rfl rfl (ee_int ⟨_, _, _, rfl, rfl, rfl, ?_⟩)))
  refine ea_cons (ee_name 5 rfl rfl (ea_cons (ee_name 6 rfl rfl (ea_nil ⟨smp_pre h (.inl rfl) (.inr rfl) h5 h6 my mn, fun fs hfs => ?_⟩))))
  have es : Tr.ins C fs = smpT C (txt ls) ys ns := by
    rw [smpPost_at hfs (.inl rfl) (.inr rfl), wset_congr my, wset_congr mn, wset_raw h]
  rw [es]
  refine ⟨smp_nol, rfl, ?_⟩
  refine ss_cons ?_
  refine s_clear 5 rfl rfl ?_
  refine law_E Z h hks hkl (by show c + 46000 + 2003 ≤ 1000000000; omega) fun M' c' e8 e9 e10 e11 e12 e13 hc' => hnx M' c' _ _ _ _ _ _ _ _ _ _ _ ?_ (fun k hk => ?_) ?_
  · have hc' : c' ≤ c + 40000 + 3000 + 3000 + 2003 := hc'
    omega
  · rcases List.mem_append.mp hk with hk | hk
    · exact hks k hk
    · simp only [List.mem_cons, List.not_mem_nil, or_false] at hk
      rcases hk with rfl | rfl
      · exact h.swap
      · exact h
  · rw [List.length_append]
    rfl
end
end Toy

set_option Elab.async false
set_option linter.all false
set_option maxRecDepth 100000
set_option maxHeartbeats 4000000
set_option pp.maxSteps 150
namespace Toy
open PySem PySem.Spec PyProof.Rows L2 LamX Wf
theorem a_lets : GoodLets [97] := ⟨by decide, by decide, by simp, fun k hk => by rw [List.mem_singleton.mp hk]; decide⟩
theorem a_txt : Str.ofString "a" = txt [97] := by decide +kernel
theorem wset_nil : wset [] = [] := wset_of List.Pairwise.nil
theorem wset_one (x : Str) : wset [x] = [x] := wset_of (List.pairwise_singleton ..)
def emT : Tr := .lst [.tup (sT []), .tup (sT []), .tup (sT [Str.ofString ""]), .int 0]
theorem em_vw : emT.vw 8 26000 := vw_of (by decide +kernel)
section
variable {P : Program} {w : World} {K : PySem.W.Frag} {mg : Str → Option Value} {base : Heap} {T : List (Addr × Str)} {f : Addr} {fd : FuncData} {C : Addr}
theorem ok_law (F : Fun K "law" "law" s_law f fd) (hbn : Binds K fd ["script"] []) (Z : Ca P w K mg base T C) : LawOk CX0 P w K mg base f fd "script" (spLawD K T) := by
  refine law_okD F sc_law hbn fun cdv s H ns hn hbits => ?_
  have hr : Room 199 (callerA.deeper (envOfC "law" (defScope s_law) s.heap.objs.size f cdv)) := caller_room.deeper _
  have hsl : sizeLine = 16777216 := sizeLine_eq
  refine ss_cons (s_parPenO 1 2 (hE := fun ta ha => ps_par rfl sc_law.nd rfl rfl (by decide) rfl rfl ha (by rfl)) Z.pn (hr.mono (by decide)) rfl (ea_cons (ee_name 0 rfl rfl (ea_nil ⟨ns, rfl, hn, fun pn hpn => eo_lst (ea_nil ⟨Nat.zero_le _, fun kl hkl hne => ⟨rfl, ?_⟩⟩)⟩))))
  refine ss_cons (s_for (.nm 3) PassesOwn.never rfl (pg_name (i := 3) sc_law.nd rfl (Or.inl rfl)) ?_)
  refine ei_range1 rfl Z.zr (ee_int ⟨5, rfl, by decide, by decide, ?_⟩)
  refine ⟨fun i M' Δ' => ∃ c ks e3 e4 e5 e6 e7 e8 e9 e10 e11 e12 e13 e14, c ≤ i * 50000 ∧ KnOk ks ∧ ks.length = 2 * i ∧ Δ' = [.dat (.lst (ns.map Tr.int)), .pen pn c, .own kl (.lst (ks.map (knT C))), e3, e4, e5, e6, e7, e8, e9, e10, e11, e12, e13, e14], ⟨0, [], _, _, _, _, _, _, _, _, _, _, _, _, Nat.zero_le _, fun k hk => by simp at hk, rfl, rfl⟩, ?_, ?_⟩
  · rintro i M' Δ' hi ⟨c, ks, e3, e4, e5, e6, e7, e8, e9, e10, e11, e12, e13, e14, hc, hks, hkl, rfl⟩
    have hi5 : i < 5 := hi
    refine ⟨True.intro, ?_⟩
    exact law_A Z hks (by omega) (by omega) fun M' c' ks' e4 e5 e6 e7 e8 e9 e10 e11 e12 e13 hc' hk' hl' => ⟨c', ks', _, _, _, _, _, _, _, _, _, _, _, _, by omega, hk', by omega, rfl⟩
  · rintro M' Δ' ⟨c, ks, e3, e4, e5, e6, e7, e8, e9, e10, e11, e12, e13, e14, hc, hks, hkl, rfl⟩
    refine ss_cons (s_asg 14 sc_law.nd rfl (EO.ee (eo_makeD Z.mc2 (hr.mono (by decide)) rfl (ea_cons (ee_str (ea_nil ⟨⟨⟨[97], [], [], _, _, by rw [a_txt]; rfl, a_lets, .inr rfl, .inr rfl, by decide, fun x hx => by simp at hx, fun x hx => by simp at hx, fun x hx => by simp at hx⟩, fun _ _ z => z⟩, fun fs hfs => ?_⟩))))))
    have hfs : smpPost [.str (txt [97]), .tup (sT []), .tup (sT [])] fs := by rw [← a_txt]; exact hfs
    have es : Tr.ins C fs = smpT C (txt [97]) [] [] := by
      rw [smpPost_at hfs (.inr rfl) (.inr rfl), wset_nil]
    rw [es]
    refine ss_one (s_ret (ee_cmp cd_eqS (ee_callB (cl_reprV lawA_guards hr.units) rfl Z.zR (by decide +kernel) (ea_cons (EO.ee (eo_lst ?_))))))
    refine ea_cons (ee_prop Z.sy (hr.mono (by decide)) (ee_name 14 rfl rfl ⟨_, rfl, ⟨_, _, _, rfl⟩, ?_⟩))
    rintro _ ⟨a1, a2, a3, e, rfl⟩
    injection e with e _
    obtain ⟨_, rfl, rfl⟩ := smp_inj e
    refine ea_cons (ee_prop Z.sn (hr.mono (by decide)) (ee_name 14 rfl rfl ⟨_, rfl, ⟨_, _, _, rfl⟩, ?_⟩))
    rintro _ ⟨a1, a2, a3, e, rfl⟩
    injection e with e _
    obtain ⟨_, rfl, rfl⟩ := smp_inj e
    refine ea_cons (ee_prop Z.sp (hr.mono (by decide)) (ee_name 14 rfl rfl ⟨_, rfl, ⟨_, _, _, rfl⟩, ?_⟩))
    rintro _ ⟨a1, a2, a3, e, rfl⟩
    injection e with e _
    obtain ⟨_, rfl, rfl⟩ := smp_inj e
    have ep : wset (prefL ([] ++ [])) = [Str.ofString ""] := wset_one _
    rw [ep]
    refine ea_cons (ee_prop Z.ss (hr.mono (by decide)) (ee_name 14 rfl rfl ⟨_, rfl, ⟨_, _, _, rfl⟩, ?_⟩))
    rintro _ ⟨a1, a2, a3, e, rfl⟩
    injection e with e _
    obtain ⟨_, rfl, rfl⟩ := smp_inj e
    refine ea_nil ⟨by show 4 ≤ sizeLine; omega, ea_nil ⟨emT, rfl, em_vw, ?_⟩⟩
    refine ee_callB (cl_reprV lawA_guards hr.units) rfl Z.zR (by decide +kernel) (ea_cons (EO.ee (eo_kst (ts := [.tup [], .tup [], .tup [.str ""], .int 0]) (kl_cons (ks_tup kl_nil) (kl_cons (ks_tup kl_nil) (kl_cons (ks_tup (kl_cons ks_str kl_nil)) (kl_cons ks_int kl_nil)))) (ea_nil ⟨emT, rfl, em_vw, _, _, rfl, rfl, ?_⟩))))
    rw [decide_eq_true rfl]
end
end Toy

set_option Elab.async false
set_option linter.all false
set_option maxRecDepth 100000
set_option maxHeartbeats 4000000
namespace Toy
open PySem PySem.Spec PyProof.Rows L2 LamX Wf
/-! Sample's __init__ with its defaults -/
theorem all7 {p : String → Prop} (h1 : p "NoneType") (h2 : p "bool") (h3 : p "int") (h4 : p "str") (h5 : p "list") (h6 : p "tuple") (h7 : p "dict") : ∀ n ∈ ["NoneType", "bool", "int", "str", "list", "tuple", "dict"], p n := fun n hn => by
  simp only [List.mem_cons, List.not_mem_nil, or_false] at hn
  rcases hn with rfl | rfl | rfl | rfl | rfl | rfl | rfl <;> assumption
section
variable {P : Program} {w : World} {K : PySem.W.Frag} {mg : Str → Option Value} {base : Heap} {T : List (Addr × Str)} {f : Addr} {C : Addr}
theorem smp_both {oc : Value} {od : Option Addr} {DT : Addr} {kV doc pm : Value} {an : Option Addr} {cdv ct : Value} {osl : Array (Option Value)}
    (lk : K.lookup f = some ⟨oc, od, .func (PySem.W.fnOf "__init__" "Sample.__init__" (defArgs s_Sample__init_) (defBody s_Sample__init_) (defScope s_Sample__init_) (.ref DT) kV doc pm an cdv ct), osl⟩)
    (hcd : PySem.W.codeIn K cdv "Sample.__init__" = true) (kp : PySem.W.keepIn K (.ref f) = true) (hd : dflT K 2 (.ref DT) = true) (MC : SmpC K C) (at_ : mg "Sample" = some (.ref C)) (mk : L2.Mk K C f)
    (zl : mg "len" = none) (mW : ∃ t, mg "WORDS" = some (.int 200 t)) (mP : ∃ t, mg "PREFIXES" = some (.int 600 t)) (Fl : FnNL P w K mg base T) (Fw : FnNW P w K mg base T) (Fp : FnPO P w K mg base T) :
    McS P w K mg base T C [] ∧ McS P w K mg base T C [.tup [], .tup []] := by
  obtain ⟨dvs, hD, hl, hI⟩ := dflT_ok (by decide) hd
  match dvs, hl with
  | [d1, d2], _ =>
    have F : FunD K "__init__" "Sample.__init__" (defArgs s_Sample__init_) (defBody s_Sample__init_) (defScope s_Sample__init_) [d1, d2] [] f _ := ⟨⟨oc, od, .ref DT, kV, doc, pm, an, cdv, ct, osl, rfl, lk, hcd, hD, .inl rfl⟩, kp⟩
    have okX := ok_sinit (P := P) (w := w) (mg := mg) (base := base) (T := T) (C := C) F MC zl mW mP Fl Fw Fp
    constructor
    · obtain ⟨ds, hv, hb⟩ := F.binds1 (ps := ["self", "letters", "yes", "no"]) 4 2 (by simp) rfl fun T kV doc pm an cdv ct us its h1 h2 => match us, its, h1, h2 with
        | [_, _, _, _], [_, _], _, _ => ⟨_, rfl, rfl⟩
      exact McXD.calm ⟨MC.cl, at_, f, _, [], ds, okX, mk, hb, hv, fun _ => .nil⟩
    · obtain ⟨ds, hv, hb⟩ := F.binds1 (ps := ["self", "letters", "yes", "no"]) 2 0 (by simp) rfl fun T kV doc pm an cdv ct us its h1 h2 => match us, its, h1, h2 with
        | [_, _], [_, _], _, _ => ⟨_, rfl, rfl⟩
      exact McXD.calm ⟨MC.cl, at_, f, _, [d1, d2], ds, okX, mk, hb, hv, hI⟩
end
end Toy

set_option pp.maxSteps 40
set_option Elab.async false
set_option linter.all false
set_option maxRecDepth 100000
set_option maxHeartbeats 4000000
namespace Toy
open PySem PySem.Spec PyProof.Rows L2 LamX Wf
theorem all_mk {l : PySem.W.OpenLaw} {w : World} {K : PySem.W.Frag} {h : Heap} {mg : Str → Option Value} {fa : Addr} (X : K.In h) (G : h.Ns mainGlobals mg) (hfa : mg "law" = some (.ref fa))
    {C_Sample : Addr}
    {f__law_pen : Addr} {od__law_pen an__law_pen : Option Addr} {sl__law_pen : Array (Option Value)} {oc__law_pen kV__law_pen dc__law_pen pm__law_pen cd__law_pen ct__law_pen : Value}
    {f__law_draw : Addr} {od__law_draw an__law_draw : Option Addr} {sl__law_draw : Array (Option Value)} {oc__law_draw kV__law_draw dc__law_draw pm__law_draw cd__law_draw ct__law_draw : Value}
    {f__law_pick : Addr} {od__law_pick an__law_pick : Option Addr} {sl__law_pick : Array (Option Value)} {oc__law_pick kV__law_pick dc__law_pick pm__law_pick cd__law_pick ct__law_pick : Value}
    {f__law_shuffled : Addr} {od__law_shuffled an__law_shuffled : Option Addr} {sl__law_shuffled : Array (Option Value)} {oc__law_shuffled kV__law_shuffled dc__law_shuffled pm__law_shuffled cd__law_shuffled ct__law_shuffled : Value}
    {f__law_letters : Addr} {od__law_letters an__law_letters : Option Addr} {sl__law_letters : Array (Option Value)} {oc__law_letters kV__law_letters dc__law_letters pm__law_letters cd__law_letters ct__law_letters : Value}
    {f__law_word : Addr} {od__law_word an__law_word : Option Addr} {sl__law_word : Array (Option Value)} {oc__law_word kV__law_word dc__law_word pm__law_word cd__law_word ct__law_word : Value}
    {f__law_sorted : Addr} {od__law_sorted an__law_sorted : Option Addr} {sl__law_sorted : Array (Option Value)} {oc__law_sorted kV__law_sorted dc__law_sorted pm__law_sorted cd__law_sorted ct__law_sorted : Value}
    {f__law_table : Addr} {od__law_table an__law_table : Option Addr} {sl__law_table : Array (Option Value)} {oc__law_table kV__law_table dc__law_table pm__law_table cd__law_table ct__law_table : Value}
    {f__law_led : Addr} {od__law_led an__law_led : Option Addr} {sl__law_led : Array (Option Value)} {oc__law_led kV__law_led dc__law_led pm__law_led cd__law_led ct__law_led : Value}
    {f__law_raw : Addr} {od__law_raw an__law_raw : Option Addr} {sl__law_raw : Array (Option Value)} {oc__law_raw kV__law_raw dc__law_raw pm__law_raw cd__law_raw ct__law_raw : Value}
    {f__law_prefixes : Addr} {od__law_prefixes an__law_prefixes : Option Addr} {sl__law_prefixes : Array (Option Value)} {oc__law_prefixes kV__law_prefixes dc__law_prefixes pm__law_prefixes cd__law_prefixes ct__law_prefixes : Value}
    {f__law_odd : Addr} {od__law_odd an__law_odd : Option Addr} {sl__law_odd : Array (Option Value)} {oc__law_odd kV__law_odd dc__law_odd pm__law_odd cd__law_odd ct__law_odd : Value}
    {f__law_mixed : Addr} {od__law_mixed an__law_mixed : Option Addr} {sl__law_mixed : Array (Option Value)} {oc__law_mixed kV__law_mixed dc__law_mixed pm__law_mixed cd__law_mixed ct__law_mixed : Value}
    {f_is_sequence : Addr} {od_is_sequence an_is_sequence : Option Addr} {sl_is_sequence : Array (Option Value)} {oc_is_sequence kV_is_sequence dc_is_sequence pm_is_sequence cd_is_sequence ct_is_sequence : Value}
    {f_is_letters : Addr} {od_is_letters an_is_letters : Option Addr} {sl_is_letters : Array (Option Value)} {oc_is_letters kV_is_letters dc_is_letters pm_is_letters cd_is_letters ct_is_letters : Value}
    {f_need_letters : Addr} {od_need_letters an_need_letters : Option Addr} {sl_need_letters : Array (Option Value)} {oc_need_letters kV_need_letters dc_need_letters pm_need_letters cd_need_letters ct_need_letters : Value}
    {f_is_word : Addr} {od_is_word an_is_word : Option Addr} {sl_is_word : Array (Option Value)} {oc_is_word kV_is_word dc_is_word pm_is_word cd_is_word ct_is_word : Value}
    {f_need_short : Addr} {od_need_short an_need_short : Option Addr} {sl_need_short : Array (Option Value)} {oc_need_short kV_need_short dc_need_short pm_need_short cd_need_short ct_need_short : Value}
    {f_word_order : Addr} {od_word_order an_word_order : Option Addr} {sl_word_order : Array (Option Value)} {oc_word_order kV_word_order dc_word_order pm_word_order ct_word_order : Value}
    {f_need_words : Addr} {od_need_words an_need_words : Option Addr} {sl_need_words : Array (Option Value)} {oc_need_words kV_need_words dc_need_words pm_need_words cd_need_words ct_need_words : Value}
    {f_prefixes_of : Addr} {od_prefixes_of an_prefixes_of : Option Addr} {sl_prefixes_of : Array (Option Value)} {oc_prefixes_of kV_prefixes_of dc_prefixes_of pm_prefixes_of cd_prefixes_of ct_prefixes_of : Value}
    {f_S_letters : Addr} {od_S_letters an_S_letters : Option Addr} {sl_S_letters : Array (Option Value)} {oc_S_letters kV_S_letters dc_S_letters pm_S_letters cd_S_letters ct_S_letters : Value}
    {p_S_letters : Addr} {r_S_letters : List Value}
    {f_S_yes : Addr} {od_S_yes an_S_yes : Option Addr} {sl_S_yes : Array (Option Value)} {oc_S_yes kV_S_yes dc_S_yes pm_S_yes cd_S_yes ct_S_yes : Value}
    {p_S_yes : Addr} {r_S_yes : List Value}
    {f_S_no : Addr} {od_S_no an_S_no : Option Addr} {sl_S_no : Array (Option Value)} {oc_S_no kV_S_no dc_S_no pm_S_no cd_S_no ct_S_no : Value}
    {p_S_no : Addr} {r_S_no : List Value}
    {f_S_prefixes : Addr} {od_S_prefixes an_S_prefixes : Option Addr} {sl_S_prefixes : Array (Option Value)} {oc_S_prefixes kV_S_prefixes dc_S_prefixes pm_S_prefixes cd_S_prefixes ct_S_prefixes : Value}
    {p_S_prefixes : Addr} {r_S_prefixes : List Value}
    {f_S_size : Addr} {od_S_size an_S_size : Option Addr} {sl_S_size : Array (Option Value)} {oc_S_size kV_S_size dc_S_size pm_S_size cd_S_size ct_S_size : Value}
    {p_S_size : Addr} {r_S_size : List Value}
    {f_S_mark : Addr} {od_S_mark an_S_mark : Option Addr} {sl_S_mark : Array (Option Value)} {oc_S_mark kV_S_mark dc_S_mark pm_S_mark cd_S_mark ct_S_mark : Value}
    {f_S_eq : Addr} {od_S_eq an_S_eq : Option Addr} {sl_S_eq : Array (Option Value)} {oc_S_eq kV_S_eq dc_S_eq pm_S_eq cd_S_eq ct_S_eq : Value}
    {f__law_made : Addr} {od__law_made an__law_made : Option Addr} {sl__law_made : Array (Option Value)} {oc__law_made kV__law_made dc__law_made pm__law_made cd__law_made ct__law_made : Value}
    {f_law : Addr} {od_law an_law : Option Addr} {sl_law : Array (Option Value)} {oc_law kV_law dc_law pm_law cd_law ct_law : Value}
    {f_S_init DT : Addr} {od_Si an_Si : Option Addr} {sl_Si : Array (Option Value)} {oc_Si kV_Si dc_Si pm_Si cd_Si ct_Si : Value}
    {t_MOST_LETTERS t_LENGTH t_WORDS t_PREFIXES t_ALPHABET : Tok}
    {c Pt : Addr}
    (hT : h.get? Pt = some { cls := .none, data := .fields #[] })
    (aC_Sample : PySem.W.nsIn K mainGlobals "Sample" = some (some (.ref C_Sample)))
    (pg_Sample : PySem.W.plainGet K C_Sample Str.empty = true)
    (hd_Sample : PySem.W.hasDictIn K C_Sample = true)
    (po_Sample : PySem.W.plainOver K C_Sample = true)
    (sa_Sample : PySem.W.findIn K (.ref C_Sample) "__setattr__" = some (some (.builtin "object.__setattr__")))
    (mk_Sample : PySem.W.makesIn K C_Sample = true)
    (kc_Sample : PySem.W.keepIn K (.ref C_Sample) = true)
    (n_Sample_own_letters : PySem.W.findIn K (.ref C_Sample) "own_letters" = some none)
    (n_Sample_own_yes : PySem.W.findIn K (.ref C_Sample) "own_yes" = some none)
    (n_Sample_own_no : PySem.W.findIn K (.ref C_Sample) "own_no" = some none)
    (n_Sample_own_prefixes : PySem.W.findIn K (.ref C_Sample) "own_prefixes" = some none)
    (n_Sample_own_parts : PySem.W.findIn K (.ref C_Sample) "own_parts" = some none)
    (a__law_pen : PySem.W.nsIn K mainGlobals "_law_pen" = some (some (.ref f__law_pen)))
    (l__law_pen : K.lookup f__law_pen = some ⟨oc__law_pen, od__law_pen, .func (PySem.W.fnOf "_law_pen" "_law_pen" (defArgs s_law_pen) (defBody s_law_pen) (defScope s_law_pen) .none kV__law_pen dc__law_pen pm__law_pen an__law_pen cd__law_pen ct__law_pen), sl__law_pen⟩)
    (c__law_pen : PySem.W.codeIn K cd__law_pen "_law_pen" = true)
    (k__law_pen : PySem.W.keepIn K (.ref f__law_pen) = true)
    (a__law_draw : PySem.W.nsIn K mainGlobals "_law_draw" = some (some (.ref f__law_draw)))
    (l__law_draw : K.lookup f__law_draw = some ⟨oc__law_draw, od__law_draw, .func (PySem.W.fnOf "_law_draw" "_law_draw" (defArgs s_law_draw) (defBody s_law_draw) (defScope s_law_draw) .none kV__law_draw dc__law_draw pm__law_draw an__law_draw cd__law_draw ct__law_draw), sl__law_draw⟩)
    (c__law_draw : PySem.W.codeIn K cd__law_draw "_law_draw" = true)
    (k__law_draw : PySem.W.keepIn K (.ref f__law_draw) = true)
    (a__law_pick : PySem.W.nsIn K mainGlobals "_law_pick" = some (some (.ref f__law_pick)))
    (l__law_pick : K.lookup f__law_pick = some ⟨oc__law_pick, od__law_pick, .func (PySem.W.fnOf "_law_pick" "_law_pick" (defArgs s_law_pick) (defBody s_law_pick) (defScope s_law_pick) .none kV__law_pick dc__law_pick pm__law_pick an__law_pick cd__law_pick ct__law_pick), sl__law_pick⟩)
    (c__law_pick : PySem.W.codeIn K cd__law_pick "_law_pick" = true)
    (k__law_pick : PySem.W.keepIn K (.ref f__law_pick) = true)
    (a__law_shuffled : PySem.W.nsIn K mainGlobals "_law_shuffled" = some (some (.ref f__law_shuffled)))
    (l__law_shuffled : K.lookup f__law_shuffled = some ⟨oc__law_shuffled, od__law_shuffled, .func (PySem.W.fnOf "_law_shuffled" "_law_shuffled" (defArgs s_law_shuffled) (defBody s_law_shuffled) (defScope s_law_shuffled) .none kV__law_shuffled dc__law_shuffled pm__law_shuffled an__law_shuffled cd__law_shuffled ct__law_shuffled), sl__law_shuffled⟩)
    (c__law_shuffled : PySem.W.codeIn K cd__law_shuffled "_law_shuffled" = true)
    (k__law_shuffled : PySem.W.keepIn K (.ref f__law_shuffled) = true)
    (a__law_letters : PySem.W.nsIn K mainGlobals "_law_letters" = some (some (.ref f__law_letters)))
    (l__law_letters : K.lookup f__law_letters = some ⟨oc__law_letters, od__law_letters, .func (PySem.W.fnOf "_law_letters" "_law_letters" (defArgs s_law_letters) (defBody s_law_letters) (defScope s_law_letters) .none kV__law_letters dc__law_letters pm__law_letters an__law_letters cd__law_letters ct__law_letters), sl__law_letters⟩)
    (c__law_letters : PySem.W.codeIn K cd__law_letters "_law_letters" = true)
    (k__law_letters : PySem.W.keepIn K (.ref f__law_letters) = true)
    (a__law_word : PySem.W.nsIn K mainGlobals "_law_word" = some (some (.ref f__law_word)))
    (l__law_word : K.lookup f__law_word = some ⟨oc__law_word, od__law_word, .func (PySem.W.fnOf "_law_word" "_law_word" (defArgs s_law_word) (defBody s_law_word) (defScope s_law_word) .none kV__law_word dc__law_word pm__law_word an__law_word cd__law_word ct__law_word), sl__law_word⟩)
    (c__law_word : PySem.W.codeIn K cd__law_word "_law_word" = true)
    (k__law_word : PySem.W.keepIn K (.ref f__law_word) = true)
    (a__law_sorted : PySem.W.nsIn K mainGlobals "_law_sorted" = some (some (.ref f__law_sorted)))
    (l__law_sorted : K.lookup f__law_sorted = some ⟨oc__law_sorted, od__law_sorted, .func (PySem.W.fnOf "_law_sorted" "_law_sorted" (defArgs s_law_sorted) (defBody s_law_sorted) (defScope s_law_sorted) .none kV__law_sorted dc__law_sorted pm__law_sorted an__law_sorted cd__law_sorted ct__law_sorted), sl__law_sorted⟩)
    (c__law_sorted : PySem.W.codeIn K cd__law_sorted "_law_sorted" = true)
    (k__law_sorted : PySem.W.keepIn K (.ref f__law_sorted) = true)
    (a__law_table : PySem.W.nsIn K mainGlobals "_law_table" = some (some (.ref f__law_table)))
    (l__law_table : K.lookup f__law_table = some ⟨oc__law_table, od__law_table, .func (PySem.W.fnOf "_law_table" "_law_table" (defArgs s_law_table) (defBody s_law_table) (defScope s_law_table) .none kV__law_table dc__law_table pm__law_table an__law_table cd__law_table ct__law_table), sl__law_table⟩)
    (c__law_table : PySem.W.codeIn K cd__law_table "_law_table" = true)
    (k__law_table : PySem.W.keepIn K (.ref f__law_table) = true)
    (a__law_led : PySem.W.nsIn K mainGlobals "_law_led" = some (some (.ref f__law_led)))
    (l__law_led : K.lookup f__law_led = some ⟨oc__law_led, od__law_led, .func (PySem.W.fnOf "_law_led" "_law_led" (defArgs s_law_led) (defBody s_law_led) (defScope s_law_led) .none kV__law_led dc__law_led pm__law_led an__law_led cd__law_led ct__law_led), sl__law_led⟩)
    (c__law_led : PySem.W.codeIn K cd__law_led "_law_led" = true)
    (k__law_led : PySem.W.keepIn K (.ref f__law_led) = true)
    (a__law_raw : PySem.W.nsIn K mainGlobals "_law_raw" = some (some (.ref f__law_raw)))
    (l__law_raw : K.lookup f__law_raw = some ⟨oc__law_raw, od__law_raw, .func (PySem.W.fnOf "_law_raw" "_law_raw" (defArgs s_law_raw) (defBody s_law_raw) (defScope s_law_raw) .none kV__law_raw dc__law_raw pm__law_raw an__law_raw cd__law_raw ct__law_raw), sl__law_raw⟩)
    (c__law_raw : PySem.W.codeIn K cd__law_raw "_law_raw" = true)
    (k__law_raw : PySem.W.keepIn K (.ref f__law_raw) = true)
    (a__law_prefixes : PySem.W.nsIn K mainGlobals "_law_prefixes" = some (some (.ref f__law_prefixes)))
    (l__law_prefixes : K.lookup f__law_prefixes = some ⟨oc__law_prefixes, od__law_prefixes, .func (PySem.W.fnOf "_law_prefixes" "_law_prefixes" (defArgs s_law_prefixes) (defBody s_law_prefixes) (defScope s_law_prefixes) .none kV__law_prefixes dc__law_prefixes pm__law_prefixes an__law_prefixes cd__law_prefixes ct__law_prefixes), sl__law_prefixes⟩)
    (c__law_prefixes : PySem.W.codeIn K cd__law_prefixes "_law_prefixes" = true)
    (k__law_prefixes : PySem.W.keepIn K (.ref f__law_prefixes) = true)
    (a__law_odd : PySem.W.nsIn K mainGlobals "_law_odd" = some (some (.ref f__law_odd)))
    (l__law_odd : K.lookup f__law_odd = some ⟨oc__law_odd, od__law_odd, .func (PySem.W.fnOf "_law_odd" "_law_odd" (defArgs s_law_odd) (defBody s_law_odd) (defScope s_law_odd) .none kV__law_odd dc__law_odd pm__law_odd an__law_odd cd__law_odd ct__law_odd), sl__law_odd⟩)
    (c__law_odd : PySem.W.codeIn K cd__law_odd "_law_odd" = true)
    (k__law_odd : PySem.W.keepIn K (.ref f__law_odd) = true)
    (a__law_mixed : PySem.W.nsIn K mainGlobals "_law_mixed" = some (some (.ref f__law_mixed)))
    (l__law_mixed : K.lookup f__law_mixed = some ⟨oc__law_mixed, od__law_mixed, .func (PySem.W.fnOf "_law_mixed" "_law_mixed" (defArgs s_law_mixed) (defBody s_law_mixed) (defScope s_law_mixed) .none kV__law_mixed dc__law_mixed pm__law_mixed an__law_mixed cd__law_mixed ct__law_mixed), sl__law_mixed⟩)
    (c__law_mixed : PySem.W.codeIn K cd__law_mixed "_law_mixed" = true)
    (k__law_mixed : PySem.W.keepIn K (.ref f__law_mixed) = true)
    (a_is_sequence : PySem.W.nsIn K mainGlobals "is_sequence" = some (some (.ref f_is_sequence)))
    (l_is_sequence : K.lookup f_is_sequence = some ⟨oc_is_sequence, od_is_sequence, .func (PySem.W.fnOf "is_sequence" "is_sequence" (defArgs s_is_sequence) (defBody s_is_sequence) (defScope s_is_sequence) .none kV_is_sequence dc_is_sequence pm_is_sequence an_is_sequence cd_is_sequence ct_is_sequence), sl_is_sequence⟩)
    (c_is_sequence : PySem.W.codeIn K cd_is_sequence "is_sequence" = true)
    (k_is_sequence : PySem.W.keepIn K (.ref f_is_sequence) = true)
    (a_is_letters : PySem.W.nsIn K mainGlobals "is_letters" = some (some (.ref f_is_letters)))
    (l_is_letters : K.lookup f_is_letters = some ⟨oc_is_letters, od_is_letters, .func (PySem.W.fnOf "is_letters" "is_letters" (defArgs s_is_letters) (defBody s_is_letters) (defScope s_is_letters) .none kV_is_letters dc_is_letters pm_is_letters an_is_letters cd_is_letters ct_is_letters), sl_is_letters⟩)
    (c_is_letters : PySem.W.codeIn K cd_is_letters "is_letters" = true)
    (k_is_letters : PySem.W.keepIn K (.ref f_is_letters) = true)
    (a_need_letters : PySem.W.nsIn K mainGlobals "need_letters" = some (some (.ref f_need_letters)))
    (l_need_letters : K.lookup f_need_letters = some ⟨oc_need_letters, od_need_letters, .func (PySem.W.fnOf "need_letters" "need_letters" (defArgs s_need_letters) (defBody s_need_letters) (defScope s_need_letters) .none kV_need_letters dc_need_letters pm_need_letters an_need_letters cd_need_letters ct_need_letters), sl_need_letters⟩)
    (c_need_letters : PySem.W.codeIn K cd_need_letters "need_letters" = true)
    (k_need_letters : PySem.W.keepIn K (.ref f_need_letters) = true)
    (a_is_word : PySem.W.nsIn K mainGlobals "is_word" = some (some (.ref f_is_word)))
    (l_is_word : K.lookup f_is_word = some ⟨oc_is_word, od_is_word, .func (PySem.W.fnOf "is_word" "is_word" (defArgs s_is_word) (defBody s_is_word) (defScope s_is_word) .none kV_is_word dc_is_word pm_is_word an_is_word cd_is_word ct_is_word), sl_is_word⟩)
    (c_is_word : PySem.W.codeIn K cd_is_word "is_word" = true)
    (k_is_word : PySem.W.keepIn K (.ref f_is_word) = true)
    (a_need_short : PySem.W.nsIn K mainGlobals "need_short" = some (some (.ref f_need_short)))
    (l_need_short : K.lookup f_need_short = some ⟨oc_need_short, od_need_short, .func (PySem.W.fnOf "need_short" "need_short" (defArgs s_need_short) (defBody s_need_short) (defScope s_need_short) .none kV_need_short dc_need_short pm_need_short an_need_short cd_need_short ct_need_short), sl_need_short⟩)
    (c_need_short : PySem.W.codeIn K cd_need_short "need_short" = true)
    (k_need_short : PySem.W.keepIn K (.ref f_need_short) = true)
    (a_word_order : PySem.W.nsIn K mainGlobals "word_order" = some (some (.ref f_word_order)))
    (l_word_order : K.lookup f_word_order = some ⟨oc_word_order, od_word_order, .func (PySem.W.fnOf "word_order" "word_order" (defArgs s_word_order) (defBody s_word_order) (defScope s_word_order) .none kV_word_order dc_word_order pm_word_order an_word_order (.ref c) ct_word_order), sl_word_order⟩)
    (c_word_order : PySem.W.codeIn K (.ref c) "word_order" = true)
    (k_word_order : PySem.W.keepIn K (.ref f_word_order) = true)
    (a_need_words : PySem.W.nsIn K mainGlobals "need_words" = some (some (.ref f_need_words)))
    (l_need_words : K.lookup f_need_words = some ⟨oc_need_words, od_need_words, .func (PySem.W.fnOf "need_words" "need_words" (defArgs s_need_words) (defBody s_need_words) (defScope s_need_words) .none kV_need_words dc_need_words pm_need_words an_need_words cd_need_words ct_need_words), sl_need_words⟩)
    (c_need_words : PySem.W.codeIn K cd_need_words "need_words" = true)
    (k_need_words : PySem.W.keepIn K (.ref f_need_words) = true)
    (a_prefixes_of : PySem.W.nsIn K mainGlobals "prefixes_of" = some (some (.ref f_prefixes_of)))
    (l_prefixes_of : K.lookup f_prefixes_of = some ⟨oc_prefixes_of, od_prefixes_of, .func (PySem.W.fnOf "prefixes_of" "prefixes_of" (defArgs s_prefixes_of) (defBody s_prefixes_of) (defScope s_prefixes_of) .none kV_prefixes_of dc_prefixes_of pm_prefixes_of an_prefixes_of cd_prefixes_of ct_prefixes_of), sl_prefixes_of⟩)
    (c_prefixes_of : PySem.W.codeIn K cd_prefixes_of "prefixes_of" = true)
    (k_prefixes_of : PySem.W.keepIn K (.ref f_prefixes_of) = true)
    (a_S_letters : PySem.W.findIn K (.ref C_Sample) "letters" = some (some (.ref p_S_letters)))
    (g_S_letters : PySem.W.specialIn K (.ref p_S_letters) "__get__" = some (some (.builtin "property.__get__")))
    (u_S_letters : PySem.W.takesIn K (.ref p_S_letters) = some true)
    (e_S_letters : PySem.W.recIn K p_S_letters "property" = some (.ref f_S_letters :: r_S_letters))
    (l_S_letters : K.lookup f_S_letters = some ⟨oc_S_letters, od_S_letters, .func (PySem.W.fnOf "letters" "Sample.letters" (defArgs s_Sample_letters) (defBody s_Sample_letters) (defScope s_Sample_letters) .none kV_S_letters dc_S_letters pm_S_letters an_S_letters cd_S_letters ct_S_letters), sl_S_letters⟩)
    (c_S_letters : PySem.W.codeIn K cd_S_letters "Sample.letters" = true)
    (k_S_letters : PySem.W.keepIn K (.ref f_S_letters) = true)
    (a_S_yes : PySem.W.findIn K (.ref C_Sample) "yes" = some (some (.ref p_S_yes)))
    (g_S_yes : PySem.W.specialIn K (.ref p_S_yes) "__get__" = some (some (.builtin "property.__get__")))
    (u_S_yes : PySem.W.takesIn K (.ref p_S_yes) = some true)
    (e_S_yes : PySem.W.recIn K p_S_yes "property" = some (.ref f_S_yes :: r_S_yes))
    (l_S_yes : K.lookup f_S_yes = some ⟨oc_S_yes, od_S_yes, .func (PySem.W.fnOf "yes" "Sample.yes" (defArgs s_Sample_yes) (defBody s_Sample_yes) (defScope s_Sample_yes) .none kV_S_yes dc_S_yes pm_S_yes an_S_yes cd_S_yes ct_S_yes), sl_S_yes⟩)
    (c_S_yes : PySem.W.codeIn K cd_S_yes "Sample.yes" = true)
    (k_S_yes : PySem.W.keepIn K (.ref f_S_yes) = true)
    (a_S_no : PySem.W.findIn K (.ref C_Sample) "no" = some (some (.ref p_S_no)))
    (g_S_no : PySem.W.specialIn K (.ref p_S_no) "__get__" = some (some (.builtin "property.__get__")))
    (u_S_no : PySem.W.takesIn K (.ref p_S_no) = some true)
    (e_S_no : PySem.W.recIn K p_S_no "property" = some (.ref f_S_no :: r_S_no))
    (l_S_no : K.lookup f_S_no = some ⟨oc_S_no, od_S_no, .func (PySem.W.fnOf "no" "Sample.no" (defArgs s_Sample_no) (defBody s_Sample_no) (defScope s_Sample_no) .none kV_S_no dc_S_no pm_S_no an_S_no cd_S_no ct_S_no), sl_S_no⟩)
    (c_S_no : PySem.W.codeIn K cd_S_no "Sample.no" = true)
    (k_S_no : PySem.W.keepIn K (.ref f_S_no) = true)
    (a_S_prefixes : PySem.W.findIn K (.ref C_Sample) "prefixes" = some (some (.ref p_S_prefixes)))
    (g_S_prefixes : PySem.W.specialIn K (.ref p_S_prefixes) "__get__" = some (some (.builtin "property.__get__")))
    (u_S_prefixes : PySem.W.takesIn K (.ref p_S_prefixes) = some true)
    (e_S_prefixes : PySem.W.recIn K p_S_prefixes "property" = some (.ref f_S_prefixes :: r_S_prefixes))
    (l_S_prefixes : K.lookup f_S_prefixes = some ⟨oc_S_prefixes, od_S_prefixes, .func (PySem.W.fnOf "prefixes" "Sample.prefixes" (defArgs s_Sample_prefixes) (defBody s_Sample_prefixes) (defScope s_Sample_prefixes) .none kV_S_prefixes dc_S_prefixes pm_S_prefixes an_S_prefixes cd_S_prefixes ct_S_prefixes), sl_S_prefixes⟩)
    (c_S_prefixes : PySem.W.codeIn K cd_S_prefixes "Sample.prefixes" = true)
    (k_S_prefixes : PySem.W.keepIn K (.ref f_S_prefixes) = true)
    (a_S_size : PySem.W.findIn K (.ref C_Sample) "size" = some (some (.ref p_S_size)))
    (g_S_size : PySem.W.specialIn K (.ref p_S_size) "__get__" = some (some (.builtin "property.__get__")))
    (u_S_size : PySem.W.takesIn K (.ref p_S_size) = some true)
    (e_S_size : PySem.W.recIn K p_S_size "property" = some (.ref f_S_size :: r_S_size))
    (l_S_size : K.lookup f_S_size = some ⟨oc_S_size, od_S_size, .func (PySem.W.fnOf "size" "Sample.size" (defArgs s_Sample_size) (defBody s_Sample_size) (defScope s_Sample_size) .none kV_S_size dc_S_size pm_S_size an_S_size cd_S_size ct_S_size), sl_S_size⟩)
    (c_S_size : PySem.W.codeIn K cd_S_size "Sample.size" = true)
    (k_S_size : PySem.W.keepIn K (.ref f_S_size) = true)
    (a_S_mark : PySem.W.findIn K (.ref C_Sample) "mark" = some (some (.ref f_S_mark)))
    (i_S_mark : PySem.W.isFn K (.ref f_S_mark) = true)
    (l_S_mark : K.lookup f_S_mark = some ⟨oc_S_mark, od_S_mark, .func (PySem.W.fnOf "mark" "Sample.mark" (defArgs s_Sample_mark) (defBody s_Sample_mark) (defScope s_Sample_mark) .none kV_S_mark dc_S_mark pm_S_mark an_S_mark cd_S_mark ct_S_mark), sl_S_mark⟩)
    (c_S_mark : PySem.W.codeIn K cd_S_mark "Sample.mark" = true)
    (k_S_mark : PySem.W.keepIn K (.ref f_S_mark) = true)
    (a_S_eq : PySem.W.findIn K (.ref C_Sample) "__eq__" = some (some (.ref f_S_eq)))
    (i_S_eq : PySem.W.isFn K (.ref f_S_eq) = true)
    (l_S_eq : K.lookup f_S_eq = some ⟨oc_S_eq, od_S_eq, .func (PySem.W.fnOf "__eq__" "Sample.__eq__" (defArgs s_Sample__eq_) (defBody s_Sample__eq_) (defScope s_Sample__eq_) .none kV_S_eq dc_S_eq pm_S_eq an_S_eq cd_S_eq ct_S_eq), sl_S_eq⟩)
    (c_S_eq : PySem.W.codeIn K cd_S_eq "Sample.__eq__" = true)
    (k_S_eq : PySem.W.keepIn K (.ref f_S_eq) = true)
    (a__law_made : PySem.W.nsIn K mainGlobals "_law_made" = some (some (.ref f__law_made)))
    (l__law_made : K.lookup f__law_made = some ⟨oc__law_made, od__law_made, .func (PySem.W.fnOf "_law_made" "_law_made" (defArgs s_law_made) (defBody s_law_made) (defScope s_law_made) .none kV__law_made dc__law_made pm__law_made an__law_made cd__law_made ct__law_made), sl__law_made⟩)
    (c__law_made : PySem.W.codeIn K cd__law_made "_law_made" = true)
    (k__law_made : PySem.W.keepIn K (.ref f__law_made) = true)
    (a_law : PySem.W.nsIn K mainGlobals "law" = some (some (.ref f_law)))
    (l_law : K.lookup f_law = some ⟨oc_law, od_law, .func (PySem.W.fnOf "law" "law" (defArgs s_law) (defBody s_law) (defScope s_law) .none kV_law dc_law pm_law an_law cd_law ct_law), sl_law⟩)
    (c_law : PySem.W.codeIn K cd_law "law" = true)
    (k_law : PySem.W.keepIn K (.ref f_law) = true)
    (a_Si : PySem.W.findIn K (.ref C_Sample) "__init__" = some (some (.ref f_S_init)))
    (i_Si : PySem.W.isFn K (.ref f_S_init) = true)
    (l_Si : K.lookup f_S_init = some ⟨oc_Si, od_Si, .func (PySem.W.fnOf "__init__" "Sample.__init__" (defArgs s_Sample__init_) (defBody s_Sample__init_) (defScope s_Sample__init_) (.ref DT) kV_Si dc_Si pm_Si an_Si cd_Si ct_Si), sl_Si⟩)
    (c_Si : PySem.W.codeIn K cd_Si "Sample.__init__" = true)
    (k_Si : PySem.W.keepIn K (.ref f_S_init) = true)
    (d_Si : Wf.dflT K 2 (.ref DT) = true)
    (y_ha : PySem.W.findIn K (.ref C_Sample) "__class__" = some (some (.builtin "object.__class__")))
    (y_hn : PySem.W.specialIn K (.builtin "object.__class__") "__get__" = some (some (.builtin "getset_descriptor.__get__")))
    (y_hk : PySem.W.takesIn K (.builtin "object.__class__") = some true)
    (y_hm : PySem.W.mroIn K C_Sample (.type "object") = some true)
    (y_self : PySem.W.kitOne K (.ref C_Sample) (.ref C_Sample) = some true)
    (y_oth : ∀ n ∈ ["NoneType", "bool", "int", "str", "list", "tuple", "dict"], PySem.W.kitOne K (.type n) (.ref C_Sample) = some false)
    (y_nf : ∀ n ∈ ["NoneType", "bool", "int", "str", "list", "tuple", "dict"], PySem.W.notFirst K C_Sample (.type n) = true)
    (i_MOST_LETTERS : PySem.W.nsIn K mainGlobals "MOST_LETTERS" = some (some (.int 4 t_MOST_LETTERS)))
    (i_LENGTH : PySem.W.nsIn K mainGlobals "LENGTH" = some (some (.int 12 t_LENGTH)))
    (i_WORDS : PySem.W.nsIn K mainGlobals "WORDS" = some (some (.int 200 t_WORDS)))
    (i_PREFIXES : PySem.W.nsIn K mainGlobals "PREFIXES" = some (some (.int 600 t_PREFIXES)))
    (i_ALPHABET : PySem.W.nsIn K mainGlobals "ALPHABET" = some (some (.str alphaS t_ALPHABET)))
    (cH : PySem.W.codeHdIn K c Pt = true)
    (nT : K.lookup Pt = none)
    (z_len : PySem.W.nsIn K mainGlobals "len" = some none)
    (z_abs : PySem.W.nsIn K mainGlobals "abs" = some none)
    (z_list : PySem.W.nsIn K mainGlobals "list" = some none)
    (z_range : PySem.W.nsIn K mainGlobals "range" = some none)
    (z_sorted : PySem.W.nsIn K mainGlobals "sorted" = some none)
    (z_isinstance : PySem.W.nsIn K mainGlobals "isinstance" = some none)
    (z_str : PySem.W.nsIn K mainGlobals "str" = some none)
    (z_tuple : PySem.W.nsIn K mainGlobals "tuple" = some none)
    (z_all : PySem.W.nsIn K mainGlobals "all" = some none)
    (z_set : PySem.W.nsIn K mainGlobals "set" = some none)
    (z_repr : PySem.W.nsIn K mainGlobals "repr" = some none)
    : LawAtG l w K CX0 63 "script" mg fa h := by
  obtain rfl : fa = f_law := by have e := hfa.symm.trans (PySem.W.mg_of X G a_law); cases e; rfl
  have m_MOST_LETTERS := PySem.W.mg_of X G i_MOST_LETTERS
  have m_LENGTH := PySem.W.mg_of X G i_LENGTH
  have m_WORDS := PySem.W.mg_of X G i_WORDS
  have m_PREFIXES := PySem.W.mg_of X G i_PREFIXES
  have m_ALPHABET := PySem.W.mg_of X G i_ALPHABET
  have n_len := PySem.W.mg_none_of X G z_len
  have n_abs := PySem.W.mg_none_of X G z_abs
  have n_list := PySem.W.mg_none_of X G z_list
  have n_range := PySem.W.mg_none_of X G z_range
  have n_sorted := PySem.W.mg_none_of X G z_sorted
  have n_isinstance := PySem.W.mg_none_of X G z_isinstance
  have n_str := PySem.W.mg_none_of X G z_str
  have n_tuple := PySem.W.mg_none_of X G z_tuple
  have n_all := PySem.W.mg_none_of X G z_all
  have n_set := PySem.W.mg_none_of X G z_set
  have n_repr := PySem.W.mg_none_of X G z_repr
  have F__law_pen := fun_mk (st := s_law_pen) l__law_pen c__law_pen k__law_pen
  have b__law_pen := F__law_pen.binds (ps := ["script"]) fun _ _ _ _ _ _ us hl => match us, hl with | [_], _ => rfl
  have F__law_draw := fun_mk (st := s_law_draw) l__law_draw c__law_draw k__law_draw
  have b__law_draw := F__law_draw.binds (ps := ["pen", "many"]) fun _ _ _ _ _ _ us hl => match us, hl with | [_, _], _ => rfl
  have F__law_pick := fun_mk (st := s_law_pick) l__law_pick c__law_pick k__law_pick
  have b__law_pick := F__law_pick.binds (ps := ["pen", "some"]) fun _ _ _ _ _ _ us hl => match us, hl with | [_, _], _ => rfl
  have F__law_shuffled := fun_mk (st := s_law_shuffled) l__law_shuffled c__law_shuffled k__law_shuffled
  have b__law_shuffled := F__law_shuffled.binds (ps := ["pen", "some"]) fun _ _ _ _ _ _ us hl => match us, hl with | [_, _], _ => rfl
  have F__law_letters := fun_mk (st := s_law_letters) l__law_letters c__law_letters k__law_letters
  have b__law_letters := F__law_letters.binds (ps := ["pen", "most"]) fun _ _ _ _ _ _ us hl => match us, hl with | [_, _], _ => rfl
  have F__law_word := fun_mk (st := s_law_word) l__law_word c__law_word k__law_word
  have b__law_word := F__law_word.binds (ps := ["pen", "letters", "most"]) fun _ _ _ _ _ _ us hl => match us, hl with | [_, _, _], _ => rfl
  have F__law_sorted := fun_mk (st := s_law_sorted) l__law_sorted c__law_sorted k__law_sorted
  have b__law_sorted := F__law_sorted.binds (ps := ["words"]) fun _ _ _ _ _ _ us hl => match us, hl with | [_], _ => rfl
  have F__law_table := fun_mk (st := s_law_table) l__law_table c__law_table k__law_table
  have b__law_table := F__law_table.binds (ps := ["pen", "letters", "size", "is_full"]) fun _ _ _ _ _ _ us hl => match us, hl with | [_, _, _, _], _ => rfl
  have F__law_led := fun_mk (st := s_law_led) l__law_led c__law_led k__law_led
  have b__law_led := F__law_led.binds (ps := ["letters", "rows", "word"]) fun _ _ _ _ _ _ us hl => match us, hl with | [_, _, _], _ => rfl
  have F__law_raw := fun_mk (st := s_law_raw) l__law_raw c__law_raw k__law_raw
  have b__law_raw := F__law_raw.binds (ps := ["pen", "most_letters", "many", "most"]) fun _ _ _ _ _ _ us hl => match us, hl with | [_, _, _, _], _ => rfl
  have F__law_prefixes := fun_mk (st := s_law_prefixes) l__law_prefixes c__law_prefixes k__law_prefixes
  have b__law_prefixes := F__law_prefixes.binds (ps := ["raw"]) fun _ _ _ _ _ _ us hl => match us, hl with | [_], _ => rfl
  have F__law_odd := fun_mk (st := s_law_odd) l__law_odd c__law_odd k__law_odd
  have b__law_odd := F__law_odd.binds (ps := ["pen"]) fun _ _ _ _ _ _ us hl => match us, hl with | [_], _ => rfl
  have F__law_mixed := fun_mk (st := s_law_mixed) l__law_mixed c__law_mixed k__law_mixed
  have b__law_mixed := F__law_mixed.binds (ps := ["pen", "words"]) fun _ _ _ _ _ _ us hl => match us, hl with | [_, _], _ => rfl
  have F_is_sequence := fun_mk (st := s_is_sequence) l_is_sequence c_is_sequence k_is_sequence
  have b_is_sequence := F_is_sequence.binds (ps := ["value"]) fun _ _ _ _ _ _ us hl => match us, hl with | [_], _ => rfl
  have F_is_letters := fun_mk (st := s_is_letters) l_is_letters c_is_letters k_is_letters
  have b_is_letters := F_is_letters.binds (ps := ["value"]) fun _ _ _ _ _ _ us hl => match us, hl with | [_], _ => rfl
  have F_need_letters := fun_mk (st := s_need_letters) l_need_letters c_need_letters k_need_letters
  have b_need_letters := F_need_letters.binds (ps := ["value"]) fun _ _ _ _ _ _ us hl => match us, hl with | [_], _ => rfl
  have F_is_word := fun_mk (st := s_is_word) l_is_word c_is_word k_is_word
  have b_is_word := F_is_word.binds (ps := ["letters", "value"]) fun _ _ _ _ _ _ us hl => match us, hl with | [_, _], _ => rfl
  have F_need_short := fun_mk (st := s_need_short) l_need_short c_need_short k_need_short
  have b_need_short := F_need_short.binds (ps := ["letters", "value"]) fun _ _ _ _ _ _ us hl => match us, hl with | [_, _], _ => rfl
  have F_word_order := funC_mk (st := s_word_order) l_word_order c_word_order k_word_order
  have b_word_order := F_word_order.fn.binds (ps := ["words"]) fun _ _ _ _ _ _ us hl => match us, hl with | [_], _ => rfl
  have F_need_words := fun_mk (st := s_need_words) l_need_words c_need_words k_need_words
  have b_need_words := F_need_words.binds (ps := ["letters", "words"]) fun _ _ _ _ _ _ us hl => match us, hl with | [_, _], _ => rfl
  have F_prefixes_of := fun_mk (st := s_prefixes_of) l_prefixes_of c_prefixes_of k_prefixes_of
  have b_prefixes_of := F_prefixes_of.binds (ps := ["words"]) fun _ _ _ _ _ _ us hl => match us, hl with | [_], _ => rfl
  have F_S_letters := fun_mk (st := s_Sample_letters) l_S_letters c_S_letters k_S_letters
  have b_S_letters := F_S_letters.binds (ps := ["self"]) fun _ _ _ _ _ _ us hl => match us, hl with | [_], _ => rfl
  have F_S_yes := fun_mk (st := s_Sample_yes) l_S_yes c_S_yes k_S_yes
  have b_S_yes := F_S_yes.binds (ps := ["self"]) fun _ _ _ _ _ _ us hl => match us, hl with | [_], _ => rfl
  have F_S_no := fun_mk (st := s_Sample_no) l_S_no c_S_no k_S_no
  have b_S_no := F_S_no.binds (ps := ["self"]) fun _ _ _ _ _ _ us hl => match us, hl with | [_], _ => rfl
  have F_S_prefixes := fun_mk (st := s_Sample_prefixes) l_S_prefixes c_S_prefixes k_S_prefixes
  have b_S_prefixes := F_S_prefixes.binds (ps := ["self"]) fun _ _ _ _ _ _ us hl => match us, hl with | [_], _ => rfl
  have F_S_size := fun_mk (st := s_Sample_size) l_S_size c_S_size k_S_size
  have b_S_size := F_S_size.binds (ps := ["self"]) fun _ _ _ _ _ _ us hl => match us, hl with | [_], _ => rfl
  have F_S_mark := fun_mk (st := s_Sample_mark) l_S_mark c_S_mark k_S_mark
  have b_S_mark := F_S_mark.binds (ps := ["self", "word"]) fun _ _ _ _ _ _ us hl => match us, hl with | [_, _], _ => rfl
  have F_S_eq := fun_mk (st := s_Sample__eq_) l_S_eq c_S_eq k_S_eq
  have b_S_eq := F_S_eq.binds (ps := ["self", "other"]) fun _ _ _ _ _ _ us hl => match us, hl with | [_, _], _ => rfl
  have F__law_made := fun_mk (st := s_law_made) l__law_made c__law_made k__law_made
  have b__law_made := F__law_made.binds (ps := ["raw"]) fun _ _ _ _ _ _ us hl => match us, hl with | [_], _ => rfl
  have F_law := fun_mk (st := s_law) l_law c_law k_law
  have b_law := F_law.binds (ps := ["script"]) fun _ _ _ _ _ _ us hl => match us, hl with | [_], _ => rfl
  have cl_Sample : Cls K C_Sample := ⟨pg_Sample, hd_Sample, po_Sample, sa_Sample⟩
  have MC : SmpC K C_Sample := ⟨cl_Sample, n_Sample_own_letters, n_Sample_own_yes, n_Sample_own_no, n_Sample_own_prefixes, n_Sample_own_parts⟩
  have SI : SmpI K C_Sample := ⟨⟨cl_Sample, y_ha, y_hn, y_hk, y_hm⟩, y_self, y_oth, y_nf⟩
  have one : ∀ {p : Addr × Addr} {q : Addr × Addr}, p ∈ [q] → p = q := fun h => List.mem_singleton.mp h
  refine ⟨PySem.W.fnOf "law" "law" (defArgs s_law) (defBody s_law) (defScope s_law) .none kV_law dc_law pm_law an_law cd_law ct_law, [(c, Pt)], spLawD K [(Pt, lamQ)], fun p hp => by rw [one hp]; exact hT, fun p hp => by rw [one hp]; exact nT, fun p hp => by rw [one hp]; exact PySem.W.codeHd_of_K X cH, fun H a ns hn hb ht hs => ⟨ns, .cons (.lst hs (dts_ints ns)) .nil, hn, hb, fun p hp => ?_, fun v H' e => e⟩, fun base kb nb tb => ?_⟩
  · rw [List.mem_singleton.mp hp]
    exact TabS.nil (ht (c, Pt) (List.mem_singleton.mpr rfl))
  have TB : TabB base mg c Pt := tb (c, Pt) (List.mem_singleton.mpr rfl)
  have hTm : (Pt, lamQ) ∈ ([(Pt, lamQ)] : List (Addr × Str)) := List.mem_singleton.mpr rfl
  have hTu : ∀ p ∈ ([(Pt, lamQ)] : List (Addr × Str)), p.1 = Pt → p.2 = lamQ := fun p hp _ => by rw [List.mem_singleton.mp hp]
  have Fn__law_pen : FnPn l.prog w K mg base [(Pt, lamQ)] := ⟨f__law_pen, _, ok_pen F__law_pen n_list, PySem.W.mg_of X G a__law_pen, k__law_pen, b__law_pen⟩
  have Fn__law_draw : FnDraw l.prog w K mg base [(Pt, lamQ)] := ⟨f__law_draw, _, ok_draw F__law_draw n_len n_abs, PySem.W.mg_of X G a__law_draw, k__law_draw, b__law_draw⟩
  have Fn__law_pick : FnPick l.prog w K mg base [(Pt, lamQ)] := ⟨f__law_pick, _, ok_pick F__law_pick n_len Fn__law_draw, PySem.W.mg_of X G a__law_pick, k__law_pick, b__law_pick⟩
  have Fn__law_shuffled : FnShuf l.prog w K mg base [(Pt, lamQ)] := ⟨f__law_shuffled, _, ok_shuffled F__law_shuffled n_len n_list Fn__law_draw, PySem.W.mg_of X G a__law_shuffled, k__law_shuffled, b__law_shuffled⟩
  have Fn__law_letters : FnLet l.prog w K mg base [(Pt, lamQ)] := ⟨f__law_letters, _, ok_letters F__law_letters n_list n_range n_sorted Fn__law_draw Fn__law_shuffled, PySem.W.mg_of X G a__law_letters, k__law_letters, b__law_letters⟩
  have Fn__law_word : FnWd l.prog w K mg base [(Pt, lamQ)] := ⟨f__law_word, _, ok_word F__law_word n_range Fn__law_draw Fn__law_pick, PySem.W.mg_of X G a__law_word, k__law_word, b__law_word⟩
  have Fn__law_sorted : FnSrt l.prog w K mg base [(Pt, lamQ)] := ⟨f__law_sorted, _, ok_lsorted F__law_sorted n_sorted n_set n_len, PySem.W.mg_of X G a__law_sorted, k__law_sorted, b__law_sorted⟩
  have Fn__law_table : FnTab l.prog w K mg base [(Pt, lamQ)] := ⟨f__law_table, _, ok_table F__law_table n_range Fn__law_draw, PySem.W.mg_of X G a__law_table, k__law_table, b__law_table⟩
  have Fn__law_led : FnLed l.prog w K mg base [(Pt, lamQ)] := ⟨f__law_led, _, ok_led F__law_led, PySem.W.mg_of X G a__law_led, k__law_led, b__law_led⟩
  have Fn__law_raw : FnRaw l.prog w K mg base [(Pt, lamQ)] := ⟨f__law_raw, _, ok_raw F__law_raw n_range Fn__law_draw Fn__law_letters Fn__law_word Fn__law_sorted Fn__law_table Fn__law_led, PySem.W.mg_of X G a__law_raw, k__law_raw, b__law_raw⟩
  have Fn__law_prefixes : FnLP l.prog w K mg base [(Pt, lamQ)] := ⟨f__law_prefixes, _, ok_lprefixes F__law_prefixes n_len n_range Fn__law_sorted, PySem.W.mg_of X G a__law_prefixes, k__law_prefixes, b__law_prefixes⟩
  have Fn__law_odd : FnOddv l.prog w K mg base [(Pt, lamQ)] := ⟨f__law_odd, _, ok_odd F__law_odd Fn__law_pick, PySem.W.mg_of X G a__law_odd, k__law_odd, b__law_odd⟩
  have FC__law_mixed := funC_mk (st := s_law_mixed) l__law_mixed c__law_mixed k__law_mixed
  have Fn_shufO : FnShufO l.prog w K mg base [(Pt, lamQ)] := ⟨f__law_shuffled, _, ok_shuffledO F__law_shuffled n_len n_list Fn__law_draw, PySem.W.mg_of X G a__law_shuffled, k__law_shuffled, b__law_shuffled⟩
  have Fn__law_mixed : FnMix l.prog w K mg base [(Pt, lamQ)] := ⟨f__law_mixed, _, ok_mixed FC__law_mixed Fn__law_draw Fn_shufO, PySem.W.mg_of X G a__law_mixed, k__law_mixed, b__law_mixed⟩
  have Fn_is_sequence : FnSeq l.prog w K mg base [(Pt, lamQ)] := ⟨f_is_sequence, _, ok_is_sequence F_is_sequence n_isinstance n_list n_tuple, PySem.W.mg_of X G a_is_sequence, k_is_sequence, b_is_sequence⟩
  have Fn_is_letters : FnLtr l.prog w K mg base [(Pt, lamQ)] := ⟨f_is_letters, _, ok_is_letters F_is_letters n_isinstance n_str n_len n_range n_all ⟨_, m_ALPHABET⟩ ⟨_, m_MOST_LETTERS⟩, PySem.W.mg_of X G a_is_letters, k_is_letters, b_is_letters⟩
  have Fn_need_letters : FnNL l.prog w K mg base [(Pt, lamQ)] := ⟨f_need_letters, _, ok_need_letters F_need_letters Fn_is_letters, PySem.W.mg_of X G a_need_letters, k_need_letters, b_need_letters⟩
  have Fn_is_word : FnIsW l.prog w K mg base [(Pt, lamQ)] := ⟨f_is_word, _, ok_is_word F_is_word n_isinstance n_str n_all, PySem.W.mg_of X G a_is_word, k_is_word, b_is_word⟩
  have Fn_need_short : FnNS l.prog w K mg base [(Pt, lamQ)] := ⟨f_need_short, _, ok_need_short F_need_short n_len ⟨_, m_LENGTH⟩ Fn_is_word, PySem.W.mg_of X G a_need_short, k_need_short, b_need_short⟩
  have Fn_word_order : FnOrd l.prog w K mg base [(Pt, lamQ)] := ⟨f_word_order, _, ok_order F_word_order n_sorted n_len TB hTm hTu, PySem.W.mg_of X G a_word_order, k_word_order, b_word_order⟩
  have Fn_need_words : FnNW l.prog w K mg base [(Pt, lamQ)] := ⟨f_need_words, _, ok_need_words F_need_words n_tuple Fn_is_sequence Fn_need_short Fn_word_order, PySem.W.mg_of X G a_need_words, k_need_words, b_need_words⟩
  have Fn_prefixes_of : FnPO l.prog w K mg base [(Pt, lamQ)] := ⟨f_prefixes_of, _, ok_prefixes_of F_prefixes_of n_tuple n_range n_len Fn_word_order, PySem.W.mg_of X G a_prefixes_of, k_prefixes_of, b_prefixes_of⟩
  have Fn_S_letters : Wf.Pt l.prog w K mg base C_Sample "letters" 1 ["self"] (spF K [(Pt, lamQ)] (sPre C_Sample) (slPost C_Sample)) := ⟨cl_Sample, p_S_letters, f_S_letters, _, ok_sletters F_S_letters MC, ⟨a_S_letters, g_S_letters, u_S_letters, _, e_S_letters⟩, b_S_letters⟩
  have Fn_S_yes : Wf.Pt l.prog w K mg base C_Sample "yes" 1 ["self"] (spF K [(Pt, lamQ)] (sPre C_Sample) (syPost C_Sample)) := ⟨cl_Sample, p_S_yes, f_S_yes, _, ok_syes F_S_yes MC, ⟨a_S_yes, g_S_yes, u_S_yes, _, e_S_yes⟩, b_S_yes⟩
  have Fn_S_no : Wf.Pt l.prog w K mg base C_Sample "no" 1 ["self"] (spF K [(Pt, lamQ)] (sPre C_Sample) (snPost C_Sample)) := ⟨cl_Sample, p_S_no, f_S_no, _, ok_sno F_S_no MC, ⟨a_S_no, g_S_no, u_S_no, _, e_S_no⟩, b_S_no⟩
  have Fn_S_prefixes : Wf.Pt l.prog w K mg base C_Sample "prefixes" 1 ["self"] (spF K [(Pt, lamQ)] (sPre C_Sample) (spPost C_Sample)) := ⟨cl_Sample, p_S_prefixes, f_S_prefixes, _, ok_sprefixes F_S_prefixes MC, ⟨a_S_prefixes, g_S_prefixes, u_S_prefixes, _, e_S_prefixes⟩, b_S_prefixes⟩
  have Fn_S_size : Wf.Pt l.prog w K mg base C_Sample "size" 1 ["self"] (spF K [(Pt, lamQ)] (sPre C_Sample) (ssPost C_Sample)) := ⟨cl_Sample, p_S_size, f_S_size, _, ok_ssize F_S_size MC n_len, ⟨a_S_size, g_S_size, u_S_size, _, e_S_size⟩, b_S_size⟩
  have Fn_S_mark : Mt l.prog w K mg base C_Sample "mark" 2 ["self", "word"] (spF K [(Pt, lamQ)] (smPre C_Sample) (smPost C_Sample)) := ⟨cl_Sample, f_S_mark, _, ok_smark F_S_mark MC n_isinstance n_str, ⟨a_S_mark, i_S_mark, k_S_mark⟩, b_S_mark⟩
  obtain ⟨Mc1, Mc2⟩ := smp_both (P := l.prog) (w := w) (mg := mg) (base := base) (T := [(Pt, lamQ)]) (C := C_Sample) l_Si c_Si k_Si d_Si MC (PySem.W.mg_of X G aC_Sample) ⟨mk_Sample, a_Si, i_Si, kc_Sample⟩ n_len ⟨_, m_WORDS⟩ ⟨_, m_PREFIXES⟩ Fn_need_letters Fn_need_words Fn_prefixes_of
  have Fn_made : FnMade l.prog w K mg base [(Pt, lamQ)] C_Sample := ⟨f__law_made, _, ok_made F__law_made Mc1, PySem.W.mg_of X G a__law_made, k__law_made, b__law_made⟩
  have Eq : EqOwn l.prog w K mg base C_Sample 2 (spF K [(Pt, lamQ)] (seqPre2 C_Sample) (seqPost2 C_Sample)) := ⟨f_S_eq, _, _, ok_seq F_S_eq MC SI n_isinstance (PySem.W.mg_of X G aC_Sample), a_S_eq, i_S_eq, b_S_eq⟩
  exact ok_law F_law b_law ⟨Fn__law_pen, Fn__law_raw, Fn__law_mixed, Fn_made, Fn__law_prefixes, Fn__law_word, Fn__law_odd, Mc1, Mc2, Fn_S_letters, Fn_S_yes, Fn_S_no, Fn_S_prefixes, Fn_S_size, Fn_S_mark, Eq, SI, n_range, n_len, n_repr, n_tuple, n_isinstance, n_str⟩
end Toy

open PySem PySem.W PyProof.Rows in
set_option maxRecDepth 100000 in
set_option maxHeartbeats 0 in
theorem PySem.Challenge.cw_wordfit_k02_samples_returned_holds : PySem.Challenge.rw_wordfit_k02_samples_returned.Holds := by
  w_on; o_law; k_head; (case hw => w_witness2)
  k_fill
  refine Wf.walk_ofG (l := PySem.Challenge.rw_wordfit_k02_samples_returned) (CX := fun _ => L2.CX0) (x := "script") rfl (by decide) rfl (fun w h Y => PySem.W.km_in_of Y) ?F (fun _ _ _ _ _ z => z)
  case F =>
    intro w mg fa h Y KX G hmg
    refine' Toy.all_mk (Pt := 147) KX G hmg (PySem.W.km_tabs_of Y 147 (by decide)) ?aC_Sample ?pg_Sample ?hd_Sample ?po_Sample ?sa_Sample ?mk_Sample ?kc_Sample ?n_Sample_own_letters ?n_Sample_own_yes ?n_Sample_own_no ?n_Sample_own_prefixes ?n_Sample_own_parts ?a__law_pen ?l__law_pen ?c__law_pen ?k__law_pen ?a__law_draw ?l__law_draw ?c__law_draw ?k__law_draw ?a__law_pick ?l__law_pick ?c__law_pick ?k__law_pick ?a__law_shuffled ?l__law_shuffled ?c__law_shuffled ?k__law_shuffled ?a__law_letters ?l__law_letters ?c__law_letters ?k__law_letters ?a__law_word ?l__law_word ?c__law_word ?k__law_word ?a__law_sorted ?l__law_sorted ?c__law_sorted ?k__law_sorted ?a__law_table ?l__law_table ?c__law_table ?k__law_table ?a__law_led ?l__law_led ?c__law_led ?k__law_led ?a__law_raw ?l__law_raw ?c__law_raw ?k__law_raw ?a__law_prefixes ?l__law_prefixes ?c__law_prefixes ?k__law_prefixes ?a__law_odd ?l__law_odd ?c__law_odd ?k__law_odd ?a__law_mixed ?l__law_mixed ?c__law_mixed ?k__law_mixed ?a_is_sequence ?l_is_sequence ?c_is_sequence ?k_is_sequence ?a_is_letters ?l_is_letters ?c_is_letters ?k_is_letters ?a_need_letters ?l_need_letters ?c_need_letters ?k_need_letters ?a_is_word ?l_is_word ?c_is_word ?k_is_word ?a_need_short ?l_need_short ?c_need_short ?k_need_short ?a_word_order ?l_word_order ?c_word_order ?k_word_order ?a_need_words ?l_need_words ?c_need_words ?k_need_words ?a_prefixes_of ?l_prefixes_of ?c_prefixes_of ?k_prefixes_of ?a_S_letters ?g_S_letters ?u_S_letters ?e_S_letters ?l_S_letters ?c_S_letters ?k_S_letters ?a_S_yes ?g_S_yes ?u_S_yes ?e_S_yes ?l_S_yes ?c_S_yes ?k_S_yes ?a_S_no ?g_S_no ?u_S_no ?e_S_no ?l_S_no ?c_S_no ?k_S_no ?a_S_prefixes ?g_S_prefixes ?u_S_prefixes ?e_S_prefixes ?l_S_prefixes ?c_S_prefixes ?k_S_prefixes ?a_S_size ?g_S_size ?u_S_size ?e_S_size ?l_S_size ?c_S_size ?k_S_size ?a_S_mark ?i_S_mark ?l_S_mark ?c_S_mark ?k_S_mark ?a_S_eq ?i_S_eq ?l_S_eq ?c_S_eq ?k_S_eq ?a__law_made ?l__law_made ?c__law_made ?k__law_made ?a_law ?l_law ?c_law ?k_law ?a_Si ?i_Si ?l_Si ?c_Si ?k_Si ?d_Si ?y_ha ?y_hn ?y_hk ?y_hm ?y_self ?y_oth ?y_nf ?i_MOST_LETTERS ?i_LENGTH ?i_WORDS ?i_PREFIXES ?i_ALPHABET ?cH ?nT ?z_len ?z_abs ?z_list ?z_range ?z_sorted ?z_isinstance ?z_str ?z_tuple ?z_all ?z_set ?z_repr
    (case aC_Sample => k_is)
    (case pg_Sample => k_is)
    (case hd_Sample => k_is)
    (case po_Sample => k_is)
    (case sa_Sample => k_is)
    (case mk_Sample => k_is)
    (case kc_Sample => k_is)
    (case n_Sample_own_letters => k_is)
    (case n_Sample_own_yes => k_is)
    (case n_Sample_own_no => k_is)
    (case n_Sample_own_prefixes => k_is)
    (case n_Sample_own_parts => k_is)
    (case a__law_pen => k_is)
    (case l__law_pen => k_is)
    (case c__law_pen => k_is)
    (case k__law_pen => k_is)
    (case a__law_draw => k_is)
    (case l__law_draw => k_is)
    (case c__law_draw => k_is)
    (case k__law_draw => k_is)
    (case a__law_pick => k_is)
    (case l__law_pick => k_is)
    (case c__law_pick => k_is)
    (case k__law_pick => k_is)
    (case a__law_shuffled => k_is)
    (case l__law_shuffled => k_is)
    (case c__law_shuffled => k_is)
    (case k__law_shuffled => k_is)
    (case a__law_letters => k_is)
    (case l__law_letters => k_is)
    (case c__law_letters => k_is)
    (case k__law_letters => k_is)
    (case a__law_word => k_is)
    (case l__law_word => k_is)
    (case c__law_word => k_is)
    (case k__law_word => k_is)
    (case a__law_sorted => k_is)
    (case l__law_sorted => k_is)
    (case c__law_sorted => k_is)
    (case k__law_sorted => k_is)
    (case a__law_table => k_is)
    (case l__law_table => k_is)
    (case c__law_table => k_is)
    (case k__law_table => k_is)
    (case a__law_led => k_is)
    (case l__law_led => k_is)
    (case c__law_led => k_is)
    (case k__law_led => k_is)
    (case a__law_raw => k_is)
    (case l__law_raw => k_is)
    (case c__law_raw => k_is)
    (case k__law_raw => k_is)
    (case a__law_prefixes => k_is)
    (case l__law_prefixes => k_is)
    (case c__law_prefixes => k_is)
    (case k__law_prefixes => k_is)
    (case a__law_odd => k_is)
    (case l__law_odd => k_is)
    (case c__law_odd => k_is)
    (case k__law_odd => k_is)
    (case a__law_mixed => k_is)
    (case l__law_mixed => k_is)
    (case c__law_mixed => k_is)
    (case k__law_mixed => k_is)
    (case a_is_sequence => k_is)
    (case l_is_sequence => k_is)
    (case c_is_sequence => k_is)
    (case k_is_sequence => k_is)
    (case a_is_letters => k_is)
    (case l_is_letters => k_is)
    (case c_is_letters => k_is)
    (case k_is_letters => k_is)
    (case a_need_letters => k_is)
    (case l_need_letters => k_is)
    (case c_need_letters => k_is)
    (case k_need_letters => k_is)
    (case a_is_word => k_is)
    (case l_is_word => k_is)
    (case c_is_word => k_is)
    (case k_is_word => k_is)
    (case a_need_short => k_is)
    (case l_need_short => k_is)
    (case c_need_short => k_is)
    (case k_need_short => k_is)
    (case a_word_order => k_is)
    (case l_word_order => k_is)
    (case c_word_order => k_is)
    (case k_word_order => k_is)
    (case a_need_words => k_is)
    (case l_need_words => k_is)
    (case c_need_words => k_is)
    (case k_need_words => k_is)
    (case a_prefixes_of => k_is)
    (case l_prefixes_of => k_is)
    (case c_prefixes_of => k_is)
    (case k_prefixes_of => k_is)
    (case a_S_letters => k_is)
    (case g_S_letters => k_is)
    (case u_S_letters => k_is)
    (case e_S_letters => k_is)
    (case l_S_letters => k_is)
    (case c_S_letters => k_is)
    (case k_S_letters => k_is)
    (case a_S_yes => k_is)
    (case g_S_yes => k_is)
    (case u_S_yes => k_is)
    (case e_S_yes => k_is)
    (case l_S_yes => k_is)
    (case c_S_yes => k_is)
    (case k_S_yes => k_is)
    (case a_S_no => k_is)
    (case g_S_no => k_is)
    (case u_S_no => k_is)
    (case e_S_no => k_is)
    (case l_S_no => k_is)
    (case c_S_no => k_is)
    (case k_S_no => k_is)
    (case a_S_prefixes => k_is)
    (case g_S_prefixes => k_is)
    (case u_S_prefixes => k_is)
    (case e_S_prefixes => k_is)
    (case l_S_prefixes => k_is)
    (case c_S_prefixes => k_is)
    (case k_S_prefixes => k_is)
    (case a_S_size => k_is)
    (case g_S_size => k_is)
    (case u_S_size => k_is)
    (case e_S_size => k_is)
    (case l_S_size => k_is)
    (case c_S_size => k_is)
    (case k_S_size => k_is)
    (case a_S_mark => k_is)
    (case i_S_mark => k_is)
    (case l_S_mark => k_is)
    (case c_S_mark => k_is)
    (case k_S_mark => k_is)
    (case a_S_eq => k_is)
    (case i_S_eq => k_is)
    (case l_S_eq => k_is)
    (case c_S_eq => k_is)
    (case k_S_eq => k_is)
    (case a__law_made => k_is)
    (case l__law_made => k_is)
    (case c__law_made => k_is)
    (case k__law_made => k_is)
    (case a_law => k_is)
    (case l_law => k_is)
    (case c_law => k_is)
    (case k_law => k_is)
    (case a_Si => k_is)
    (case i_Si => k_is)
    (case l_Si => k_is)
    (case c_Si => k_is)
    (case k_Si => k_is)
    (case d_Si => kernel_rfl)
    (case y_ha => k_is)
    (case y_hn => k_is)
    (case y_hk => k_is)
    (case y_hm => k_is)
    (case y_self => first | k_is | kernel_rfl)
    (case y_oth => refine Toy.all7 ?_ ?_ ?_ ?_ ?_ ?_ ?_ <;> first | k_is | kernel_rfl)
    (case y_nf => refine Toy.all7 ?_ ?_ ?_ ?_ ?_ ?_ ?_ <;> first | k_is | kernel_rfl)
    (case i_MOST_LETTERS => k_is)
    (case i_LENGTH => k_is)
    (case i_WORDS => k_is)
    (case i_PREFIXES => k_is)
    (case i_ALPHABET => k_is)
    (case cH => kernel_rfl)
    (case nT => kernel_rfl)
    (case z_len => k_is)
    (case z_abs => k_is)
    (case z_list => k_is)
    (case z_range => k_is)
    (case z_sorted => k_is)
    (case z_isinstance => k_is)
    (case z_str => k_is)
    (case z_tuple => k_is)
    (case z_all => k_is)
    (case z_set => k_is)
    (case z_repr => k_is)
#print axioms PySem.Challenge.cw_wordfit_k02_samples_returned_holds

