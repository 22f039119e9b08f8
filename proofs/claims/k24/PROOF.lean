import PyProof.Rows.All
import Wide.All
import OpenK.AllK
import Wide.FinOn
import HandS.ForMost
import HandS.Walk
import HandS.Lambda
import HandS.Conv
import HandS.Property
import HandS.SortKw
import KE.SortKeyHeap
import KE.SortData
import HandS.Words
import HandS.EndTab
import PyProof.ReprRoads
import HandS.IsInst
import HandS.RaiseMore
import PyProof.ReprBulk
import PyProof.Rows.ReprShort
import HandS.Style
import HandS.Text
import PyProof.StrOps2
import HandS.GenList
import HandS.GenYield
import KE.KSuper
import HandS.ClsMeth
import PyProof.Rows.TupIter
import PySem.Challenge.RW_wordfit_k24_whole_words_one_after_anothe
import HandS.Replace
import PyProof.Rows.StrLawsPart
import KE.RegKSuper
set_option Elab.async false
set_option linter.all false
set_option maxRecDepth 100000
set_option maxHeartbeats 1000000
/-! Wf: a layer of one's own over HandS: expressions and statements by DATA. A value stands for a datum (Tr); what is being built or changed lies at owned places (M). -/
namespace Wf
open PySem PySem.Spec PyProof.Rows L2 LamX

/-! ### data -/
inductive Tr where
  | non
  | bl (b : Bool)
  | int (i : Int)
  | str (x : Str)
  | lst (xs : List Tr)
  | tup (xs : List Tr)
  | dct (es : List (Key × Tr))
  | ins (C : Addr) (fs : List (Str × Tr))
  | opq (v : V)

mutual
inductive Dt (K : PySem.W.Frag) (I : Hp) : V → Tr → Prop
  | non : Dt K I .non .non
  | bl (b : Bool) : Dt K I (.bl b) (.bl b)
  | int (i : Int) : Dt K I (.int i) (.int i)
  | str (x : Str) : Dt K I (.str x) (.str x)
  | lst {a : Addr} {xs : List V} {ts : List Tr} : SqL K I a xs → Dts K I xs ts → Dt K I (.ref a) (.lst ts)
  | tup {a : Addr} {xs : List V} {ts : List Tr} : SqT K I a xs → Dts K I xs ts → Dt K I (.ref a) (.tup ts)
  | dct {a : Addr} {kvs : List (Key × V)} {es : List (Key × Tr)} : Rd I a (.dK kvs) → Dkv K I kvs es → Dt K I (.ref a) (.dct es)
  | ins {a C dx : Addr} {fs : List (Str × V)} {es : List (Str × Tr)} : I a = some (.ins C dx fs) → Dfs K I fs es → Dt K I (.ref a) (.ins C es)
  | opq (v : V) : Dt K I v (.opq v)
inductive Dts (K : PySem.W.Frag) (I : Hp) : List V → List Tr → Prop
  | nil : Dts K I [] []
  | cons {v : V} {vs : List V} {t : Tr} {ts : List Tr} : Dt K I v t → Dts K I vs ts → Dts K I (v :: vs) (t :: ts)
inductive Dkv (K : PySem.W.Frag) (I : Hp) : List (Key × V) → List (Key × Tr) → Prop
  | nil : Dkv K I [] []
  | cons {k : Key} {v : V} {vs : List (Key × V)} {t : Tr} {ts : List (Key × Tr)} : Dt K I v t → Dkv K I vs ts → Dkv K I ((k, v) :: vs) ((k, t) :: ts)
inductive Dfs (K : PySem.W.Frag) (I : Hp) : List (Str × V) → List (Str × Tr) → Prop
  | nil : Dfs K I [] []
  | cons {k : Str} {v : V} {vs : List (Str × V)} {t : Tr} {ts : List (Str × Tr)} : Dt K I v t → Dfs K I vs ts → Dfs K I ((k, v) :: vs) ((k, t) :: ts)
end

/-- not a code object's table -/
def NT (o : HO) : Prop := ∀ ps, o ≠ .tbl ps
def Sub (I I' : Hp) : Prop := ∀ b o, NT o → I b = some o → I' b = some o
theorem Sub.refl (I : Hp) : Sub I I := fun _ _ _ h => h
theorem Sub.trans {I J L : Hp} (a : Sub I J) (b : Sub J L) : Sub I L := fun x o n h => b x o n (a x o n h)
theorem Sub.of {H H' : Hp} (s : Same H H') : Sub H H' := fun b o _ h => s b o h
theorem nt_lst {xs : List V} : NT (.lst xs) := fun _ h => nomatch h
theorem nt_tup {xs : List V} : NT (.tup xs) := fun _ h => nomatch h
theorem nt_dK {xs : List (Key × V)} : NT (.dK xs) := fun _ h => nomatch h
theorem nt_ins {C d : Addr} {fs : List (Str × V)} : NT (.ins C d fs) := fun _ h => nomatch h
theorem nt_frz {o : Obj} {u : HO} : NT (.frz o u) := fun _ h => nomatch h
theorem sub_seqL {K : PySem.W.Frag} {I I' : Hp} (s : Sub I I') {a : Addr} {xs : List V} (h : SqL K I a xs) : SqL K I' a xs := by
  rcases h with (h | ⟨o, h⟩) | h
  · exact .inl (.inl (s _ _ nt_lst h))
  · exact .inl (.inr ⟨o, s _ _ nt_frz h⟩)
  · exact .inr h
theorem sub_seqT {K : PySem.W.Frag} {I I' : Hp} (s : Sub I I') {a : Addr} {xs : List V} (h : SqT K I a xs) : SqT K I' a xs := by
  rcases h with (h | ⟨o, h⟩) | h
  · exact .inl (.inl (s _ _ nt_tup h))
  · exact .inl (.inr ⟨o, s _ _ nt_frz h⟩)
  · exact .inr h
theorem sub_rdK {I I' : Hp} (s : Sub I I') {a : Addr} {xs : List (Key × V)} (h : Rd I a (.dK xs)) : Rd I' a (.dK xs) := by
  rcases h with h | ⟨o, h⟩
  · exact .inl (s _ _ nt_dK h)
  · exact .inr ⟨o, s _ _ nt_frz h⟩
mutual
theorem Dt.mono {K : PySem.W.Frag} {I I' : Hp} (s : Sub I I') : ∀ {v : V} {t : Tr}, Dt K I v t → Dt K I' v t
  | _, _, .non => .non
  | _, _, .bl b => .bl b
  | _, _, .int i => .int i
  | _, _, .str x => .str x
  | _, _, .lst h q => .lst (sub_seqL s h) (Dts.mono s q)
  | _, _, .tup h q => .tup (sub_seqT s h) (Dts.mono s q)
  | _, _, .dct h q => .dct (sub_rdK s h) (Dkv.mono s q)
  | _, _, .ins h q => .ins (s _ _ nt_ins h) (Dfs.mono s q)
  | _, _, .opq v => .opq v
theorem Dts.mono {K : PySem.W.Frag} {I I' : Hp} (s : Sub I I') : ∀ {v : List V} {t : List Tr}, Dts K I v t → Dts K I' v t
  | _, _, .nil => .nil
  | _, _, .cons h q => .cons (Dt.mono s h) (Dts.mono s q)
theorem Dkv.mono {K : PySem.W.Frag} {I I' : Hp} (s : Sub I I') : ∀ {v : List (Key × V)} {t : List (Key × Tr)}, Dkv K I v t → Dkv K I' v t
  | _, _, .nil => .nil
  | _, _, .cons h q => .cons (Dt.mono s h) (Dkv.mono s q)
theorem Dfs.mono {K : PySem.W.Frag} {I I' : Hp} (s : Sub I I') : ∀ {v : List (Str × V)} {t : List (Str × Tr)}, Dfs K I v t → Dfs K I' v t
  | _, _, .nil => .nil
  | _, _, .cons h q => .cons (Dt.mono s h) (Dfs.mono s q)
end
theorem Dts.length {K : PySem.W.Frag} {I : Hp} : ∀ {vs : List V} {ts : List Tr}, Dts K I vs ts → vs.length = ts.length
  | _, _, .nil => rfl
  | _, _, .cons _ q => congrArg (· + 1) (Dts.length q)
theorem Dts.get {K : PySem.W.Frag} {I : Hp} : ∀ {vs : List V} {ts : List Tr} {i : Nat} {t : Tr}, Dts K I vs ts → ts[i]? = some t → ∃ v, vs[i]? = some v ∧ Dt K I v t
  | _, _, _, _, .nil, h => by simp at h
  | _, _, 0, _, .cons h q, e => by simp at e; subst e; exact ⟨_, rfl, h⟩
  | _, _, i + 1, _, .cons h q, e => by simpa using Dts.get (i := i) q (by simpa using e)
theorem Dts.getV {K : PySem.W.Frag} {I : Hp} : ∀ {vs : List V} {ts : List Tr} {i : Nat} {v : V}, Dts K I vs ts → vs[i]? = some v → ∃ t, ts[i]? = some t ∧ Dt K I v t
  | _, _, _, _, .nil, h => by simp at h
  | _, _, 0, _, .cons h q, e => by simp at e; subst e; exact ⟨_, rfl, h⟩
  | _, _, i + 1, _, .cons h q, e => by simpa using Dts.getV (i := i) q (by simpa using e)
theorem Dts.append {K : PySem.W.Frag} {I : Hp} : ∀ {vs ws : List V} {ts us : List Tr}, Dts K I vs ts → Dts K I ws us → Dts K I (vs ++ ws) (ts ++ us)
  | _, _, _, _, .nil, q => q
  | _, _, _, _, .cons h r, q => .cons h (Dts.append r q)
theorem Dts.take {K : PySem.W.Frag} {I : Hp} : ∀ {vs : List V} {ts : List Tr} (n : Nat), Dts K I vs ts → Dts K I (vs.take n) (ts.take n)
  | _, _, 0, _ => .nil
  | _, _, _ + 1, .nil => .nil
  | _, _, n + 1, .cons h r => .cons h (Dts.take n r)
theorem Dts.drop {K : PySem.W.Frag} {I : Hp} : ∀ {vs : List V} {ts : List Tr} (n : Nat), Dts K I vs ts → Dts K I (vs.drop n) (ts.drop n)
  | _, _, 0, q => q
  | _, _, _ + 1, .nil => .nil
  | _, _, n + 1, .cons h r => Dts.drop n r
theorem Dts.erase {K : PySem.W.Frag} {I : Hp} : ∀ {vs : List V} {ts : List Tr} (n : Nat), Dts K I vs ts → Dts K I (vs.eraseIdx n) (ts.eraseIdx n)
  | _, _, _, .nil => .nil
  | _, _, 0, .cons h r => r
  | _, _, n + 1, .cons h r => .cons h (Dts.erase n r)
theorem Dts.set {K : PySem.W.Frag} {I : Hp} {v : V} {t : Tr} (h0 : Dt K I v t) : ∀ {vs : List V} {ts : List Tr} (n : Nat), Dts K I vs ts → Dts K I (vs.set n v) (ts.set n t)
  | _, _, _, .nil => .nil
  | _, _, 0, .cons h r => .cons h0 r
  | _, _, n + 1, .cons h r => .cons h (Dts.set h0 n r)
theorem dts_ints {K : PySem.W.Frag} {I : Hp} : ∀ (ns : List Int), Dts K I (ns.map V.int) (ns.map Tr.int)
  | [] => .nil
  | n :: ns => .cons (.int n) (dts_ints ns)
theorem dts_strs {K : PySem.W.Frag} {I : Hp} : ∀ (ns : List Str), Dts K I (ns.map V.str) (ns.map Tr.str)
  | [] => .nil
  | n :: ns => .cons (.str n) (dts_strs ns)
theorem of_ints {K : PySem.W.Frag} {I : Hp} : ∀ (ns : List Int) {vs : List V}, Dts K I vs (ns.map Tr.int) → vs = ns.map V.int
  | [], _, .nil => rfl
  | n :: ns, _, .cons h q => by
    cases h
    rw [of_ints ns q]; rfl
theorem of_strs {K : PySem.W.Frag} {I : Hp} : ∀ (ns : List Str) {vs : List V}, Dts K I vs (ns.map Tr.str) → vs = ns.map V.str
  | [], _, .nil => rfl
  | n :: ns, _, .cons h q => by
    cases h
    rw [of_strs ns q]; rfl
theorem of_bls {K : PySem.W.Frag} {I : Hp} : ∀ (ns : List Bool) {vs : List V}, Dts K I vs (ns.map Tr.bl) → vs = ns.map V.bl
  | [], _, .nil => rfl
  | n :: ns, _, .cons h q => by
    cases h
    rw [of_bls ns q]; rfl

/-! ### the part of a heap that stands still -/
open Classical in
noncomputable def mi (M : Addr → Prop) (H : Hp) : Hp := fun b => if M b then none else H b
theorem mi_some {M : Addr → Prop} {H : Hp} {b : Addr} {o : HO} : mi M H b = some o ↔ ¬ M b ∧ H b = some o := by
  unfold mi
  by_cases h : M b
  · rw [if_pos h]
    exact ⟨fun z => (nomatch z), fun z => absurd h z.1⟩
  · rw [if_neg h]
    exact ⟨fun z => ⟨h, z⟩, fun z => z.2⟩
theorem mi_of {M : Addr → Prop} {H : Hp} {b : Addr} {o : HO} (h : ¬ M b) (e : H b = some o) : mi M H b = some o := mi_some.mpr ⟨h, e⟩
theorem Sub.mi {M : Addr → Prop} {H H' : Hp} (s : Sub H H') : Sub (mi M H) (mi M H') := fun b o n h =>
  have q := mi_some.mp h
  mi_of q.1 (s b o n q.2)
theorem mi_le {M M' : Addr → Prop} {H : Hp} (h : ∀ b, M' b → M b) : Sub (mi M H) (mi M' H) := fun b o _ q =>
  have q := mi_some.mp q
  mi_of (fun z => q.1 (h b z)) q.2
theorem mi_sub {M : Addr → Prop} {H : Hp} : Sub (Wf.mi M H) H := fun _ _ _ h => (mi_some.mp h).2
theorem mi_write {M : Addr → Prop} {H : Hp} {l : Addr} {o : HO} (h : M l) : Sub (mi M H) (mi M (upd H l o)) := fun b u _ q =>
  have q := mi_some.mp q
  mi_of q.1 (by rw [upd_ne (fun z => q.1 (by rw [z]; exact h))]; exact q.2)
theorem sub_new {H : Hp} {l : Addr} {o : HO} (h : H l = none) : Sub H (upd H l o) := fun b u _ q => by
  rw [upd_ne (ne_of_none q h)]; exact q

/-! ### places: owned ones, pens among them -/
structure Pl where
  m : Addr → Prop
  w : Addr → Prop
def ins (M : Pl) (l : Addr) : Pl := ⟨fun b => M.m b ∨ b = l, M.w⟩
/-- all but the pens stays; tables stay tables -/
structure Fe (w : Addr → Prop) (H H' : Hp) : Prop where
  k : ∀ b o, ¬ w b → NT o → H b = some o → H' b = some o
  t : ∀ b ps, H b = some (.tbl ps) → ∃ qs, H' b = some (.tbl qs)
theorem Fe.refl (w : Addr → Prop) (H : Hp) : Fe w H H := ⟨fun _ _ _ _ h => h, fun _ ps h => ⟨ps, h⟩⟩
theorem Fe.trans {w : Addr → Prop} {H H1 H2 : Hp} (a : Fe w H H1) (b : Fe w H1 H2) : Fe w H H2 :=
  ⟨fun x o p n h => b.k x o p n (a.k x o p n h), fun x ps h => let ⟨qs, h1⟩ := a.t x ps h; b.t x qs h1⟩
theorem Fe.same {w : Addr → Prop} {H H' : Hp} (s : Same H H') : Fe w H H' := ⟨fun b o _ _ h => s b o h, fun b ps h => ⟨ps, s b _ h⟩⟩
theorem Fe.imp {w w' : Addr → Prop} {H H' : Hp} (f : Fe w H H') (h : ∀ b o, NT o → w b → H b = some o → w' b) : Fe w' H H' :=
  ⟨fun b o p n e => f.k b o (fun z => p (h b o n z e)) n e, f.t⟩
theorem Fe.free {w : Addr → Prop} {H H' : Hp} (f : Fe w H H') (al : ∀ b, w b → ∃ o, H' b = some o) {p : Addr} (h : H' p = none) : H p = none := by
  cases e : H p with
  | none => rfl
  | some o =>
    by_cases q : w p
    · obtain ⟨o', e'⟩ := al p q
      rw [h] at e'; cases e'
    · by_cases n : NT o
      · rw [f.k p o q n e] at h; cases h
      · exfalso
        refine n fun ps z => ?_
        subst z
        obtain ⟨qs, e'⟩ := f.t p ps e
        rw [h] at e'; cases e'

/-! ### what is known of a slot -/
/-- a pen: its dict, its list of cells -/
structure Pn where
  l : Addr
  a : Addr
  cs : List Int
/-- at most N cells are drawn -/
def PenAt (K : PySem.W.Frag) (I H : Hp) (p : Pn) (N : Nat) : Prop :=
  ∃ (sp mo : Int), H p.l = some (.dK [(.inr "cells", .ref p.a), (.inr "spot", .int sp), (.inr "more", .int mo)]) ∧ SqL K I p.a (p.cs.map V.int) ∧ p.cs.length ≤ 63 ∧ 0 ≤ sp ∧ sp ≤ N ∧ 0 ≤ mo
theorem PenAt.mono {K : PySem.W.Frag} {I I' H H' : Hp} {p : Pn} {N : Nat} (s : Sub I I') (e : ∀ o, NT o → H p.l = some o → H' p.l = some o) (h : PenAt K I H p N) : PenAt K I' H' p N := by
  obtain ⟨sp, mo, h1, h2, r⟩ := h
  exact ⟨sp, mo, e _ nt_dK h1, sub_seqL s h2, r⟩
theorem PenAt.le {K : PySem.W.Frag} {I H : Hp} {p : Pn} {N N' : Nat} (q : N ≤ N') (h : PenAt K I H p N) : PenAt K I H p N' := by
  obtain ⟨sp, mo, h1, h2, h3, h4, h5, h6⟩ := h
  exact ⟨sp, mo, h1, h2, h3, h4, by omega, h6⟩
/-- an owned list, dict or instance at l: its parts stand still -/
def Ow (K : PySem.W.Frag) (I H : Hp) (l : Addr) : Tr → Prop
  | .lst ts => ∃ xs, H l = some (.lst xs) ∧ Dts K I xs ts
  | .dct es => ∃ kvs, H l = some (.dK kvs) ∧ Dkv K I kvs es
  | .ins C es => ∃ dx fs, H l = some (.ins C dx fs) ∧ Dfs K I fs es
  | _ => False
theorem Ow.mono {K : PySem.W.Frag} {I I' H H' : Hp} {l : Addr} (s : Sub I I') (e : ∀ o, NT o → H l = some o → H' l = some o) : ∀ {t : Tr}, Ow K I H l t → Ow K I' H' l t
  | .lst _, ⟨xs, h, q⟩ => ⟨xs, e _ nt_lst h, q.mono s⟩
  | .dct _, ⟨xs, h, q⟩ => ⟨xs, e _ nt_dK h, q.mono s⟩
  | .ins _ _, ⟨dx, xs, h, q⟩ => ⟨dx, xs, e _ nt_ins h, q.mono s⟩
  | .non, h => h.elim
  | .bl _, h => h.elim
  | .int _, h => h.elim
  | .str _, h => h.elim
  | .tup _, h => h.elim
  | .opq _, h => h.elim
theorem Ow.dt {K : PySem.W.Frag} {I H : Hp} {l : Addr} (e : ∀ o, NT o → H l = some o → I l = some o) : ∀ {t : Tr}, Ow K I H l t → Dt K I (.ref l) t
  | .lst _, ⟨xs, h, q⟩ => .lst (SqL.of (e _ nt_lst h)) q
  | .dct _, ⟨xs, h, q⟩ => .dct (.inl (e _ nt_dK h)) q
  | .ins _ _, ⟨dx, xs, h, q⟩ => .ins (e _ nt_ins h) q
  | .non, h => h.elim
  | .bl _, h => h.elim
  | .int _, h => h.elim
  | .str _, h => h.elim
  | .tup _, h => h.elim
  | .opq _, h => h.elim
inductive En where
  | any
  | dat (t : Tr)
  | own (l : Addr) (t : Tr)
  | pen (p : Pn) (N : Nat)
def En.adr : En → Option Addr
  | .own l _ => some l
  | .pen p _ => some p.l
  | _ => none
/-- what stays through a def: the tables, what may change (the pen), the heap and the owned places at the entry -/
structure Bs where
  T : List (Addr × Str)
  P : Addr → Prop
  H0 : Hp
  M0 : Addr → Prop
def EnOk (K : PySem.W.Frag) (B : Bs) (M : Pl) (H : Hp) : Option V → En → Prop
  | _, .any => True
  | some v, .dat t => Dt K (mi M.m H) v t
  | some v, .own l t => v = .ref l ∧ M.m l ∧ ¬ B.M0 l ∧ ¬ M.w l ∧ Ow K (mi M.m H) H l t
  | some v, .pen p N => v = .ref p.l ∧ M.w p.l ∧ PenAt K (mi M.m H) H p N
  | none, _ => False
structure Sk (K : PySem.W.Frag) (B : Bs) (M : Pl) (H : Hp) (σ : L2.St) (Δ : List En) : Prop where
  len : σ.length = Δ.length
  al : ∀ b, M.m b → ∃ o, H b = some o
  wm : ∀ b, M.w b → M.m b
  m0 : ∀ b, B.M0 b → M.m b
  pm : ∀ b, B.P b → B.M0 b
  own : ∀ b, M.m b → B.M0 b ∨ B.H0 b = none
  wp : ∀ b, M.w b → B.P b ∨ B.H0 b = none
  fr : Fe B.P B.H0 H
  tb : Tabs B.T H
  dis : ∀ (i j : Nat) (e f : En) (l : Addr), Δ[i]? = some e → Δ[j]? = some f → e.adr = some l → f.adr = some l → i = j
  sl : ∀ (i : Nat) (e : En), Δ[i]? = some e → ∃ o, σ[i]? = some o ∧ EnOk K B M H o e

theorem EnOk.mono {K : PySem.W.Frag} {B : Bs} {M M' : Pl} {H H' : Hp} (hm : ∀ b, M.m b → M'.m b) (hw : ∀ b, M.w b ↔ M'.w b) (s : Sub (mi M.m H) (mi M'.m H')) : ∀ {o : Option V} {e : En}, (∀ l, e.adr = some l → ∀ o, NT o → H l = some o → H' l = some o) → EnOk K B M H o e → EnOk K B M' H' o e
  | _, .any, _, _ => True.intro
  | some v, .dat t, _, h => Dt.mono s h
  | some v, .own l t, k, ⟨e, hl, h0, hq, q⟩ => ⟨e, hm _ hl, h0, fun z => hq ((hw _).mpr z), q.mono s (k l rfl)⟩
  | some v, .pen p N, k, ⟨e, hl, q⟩ => ⟨e, (hw _).mp hl, q.mono s (k p.l rfl)⟩
  | none, .dat t, _, h => h.elim
  | none, .own l t, _, h => h.elim
  | none, .pen l N, _, h => h.elim
section
variable {K : PySem.W.Frag} {B : Bs} {M M' : Pl} {H H' : Hp} {σ : L2.St} {Δ : List En}
theorem Sk.sub (h : Sk K B M H σ Δ) (f : Fe M.w H H') : Sub (mi M.m H) (mi M.m H') := fun b o n e =>
  have q := mi_some.mp e
  mi_of q.1 (f.k b o (fun z => q.1 (h.wm b z)) n q.2)
theorem Sk.notM (h : Sk K B M H σ Δ) {p : Addr} (hp : H p = none) : ¬ M.m p := fun z => by
  obtain ⟨o, e⟩ := h.al p z
  rw [hp] at e; cases e
theorem Sk.new0 (h : Sk K B M H σ Δ) {p : Addr} (hp : H p = none) : B.H0 p = none := h.fr.free (fun b z => h.al b (h.m0 b (h.pm b z))) hp
theorem mi_new {H H' : Hp} {l : Addr} (h : H l = none) {σ : L2.St} {Δ : List En} (S : Sk K B M H σ Δ) (f : Fe M.w H H') : Sub (mi M.m H) (mi (ins M l).m H') := fun b u n q =>
  have q := mi_some.mp q
  mi_of (fun z => z.elim q.1 fun e => by rw [e, h] at q; cases q.2) (f.k b u (fun z => q.1 (S.wm b z)) n q.2)
/-- the heap grows, all stays -/
theorem Sk.same (h : Sk K B M H σ Δ) (s : Same H H') : Sk K B M H' σ Δ where
  len := h.len
  al := fun b hb => by
    obtain ⟨o, e⟩ := h.al b hb
    exact ⟨o, s b o e⟩
  wm := h.wm
  m0 := h.m0
  pm := h.pm
  own := h.own
  wp := h.wp
  fr := h.fr.trans (Fe.same s)
  tb := h.tb.ext s
  dis := h.dis
  sl := fun i e q => by
    obtain ⟨o, h1, h2⟩ := h.sl i e q
    exact ⟨o, h1, h2.mono (fun _ z => z) (fun _ => Iff.rfl) (Sub.of s).mi fun l _ o n z => s l o z⟩
theorem same_new {p : Addr} {o : HO} (h : H p = none) : Same H (upd H p o) := fun b u e => by
  rw [upd_ne (ne_of_none e h)]; exact e
theorem Sk.dat (h : Sk K B M H σ Δ) {i : Nat} {t : Tr} (e : Δ[i]? = some (.dat t)) : ∃ v, σ[i]? = some (some v) ∧ Dt K (mi M.m H) v t := by
  obtain ⟨o, h1, h2⟩ := h.sl i _ e
  cases o with
  | none => exact h2.elim
  | some v => exact ⟨v, h1, h2⟩
theorem Sk.ownAt (h : Sk K B M H σ Δ) {i : Nat} {l : Addr} {t : Tr} (e : Δ[i]? = some (.own l t)) : σ[i]? = some (some (.ref l)) ∧ M.m l ∧ ¬ B.M0 l ∧ ¬ M.w l ∧ Ow K (mi M.m H) H l t := by
  obtain ⟨o, h1, h2⟩ := h.sl i _ e
  cases o with
  | none => exact h2.elim
  | some v =>
    obtain ⟨q, r⟩ := h2
    exact ⟨by rw [h1, q], r⟩
theorem Sk.penAt (h : Sk K B M H σ Δ) {i : Nat} {p : Pn} {N : Nat} (e : Δ[i]? = some (.pen p N)) : σ[i]? = some (some (.ref p.l)) ∧ M.w p.l ∧ PenAt K (mi M.m H) H p N := by
  obtain ⟨o, h1, h2⟩ := h.sl i _ e
  cases o with
  | none => exact h2.elim
  | some v =>
    obtain ⟨q, r⟩ := h2
    exact ⟨by rw [h1, q], r⟩
/-- a slot is written: e tells the new value; e's place stands in no other slot -/
theorem Sk.put (h : Sk K B M H σ Δ) (i : Nat) {o : Option V} {e : En} (hv : EnOk K B M H o e) (hn : ∀ l, e.adr = some l → ∀ (j : Nat) (f : En), j ≠ i → Δ[j]? = some f → f.adr ≠ some l) : Sk K B M H (σ.set i o) (Δ.set i e) where
  len := by rw [List.length_set, List.length_set]; exact h.len
  al := h.al
  wm := h.wm
  m0 := h.m0
  pm := h.pm
  own := h.own
  wp := h.wp
  fr := h.fr
  tb := h.tb
  dis := fun a b e1 f l he hf el fl => by
    by_cases ha : a = i
    · by_cases hb : b = i
      · rw [ha, hb]
      · exfalso
        subst ha
        rw [List.getElem?_set_ne (Ne.symm hb)] at hf
        rw [List.getElem?_set] at he
        split at he
        · split at he
          · cases he
            exact hn l el b f hb hf fl
          · cases he
        · rename_i z; exact z rfl
    · rw [List.getElem?_set_ne (Ne.symm ha)] at he
      by_cases hb : b = i
      · exfalso
        subst hb
        rw [List.getElem?_set] at hf
        split at hf
        · split at hf
          · cases hf
            exact hn l fl a e1 ha he el
          · cases hf
        · rename_i z; exact z rfl
      · rw [List.getElem?_set_ne (Ne.symm hb)] at hf
        exact h.dis a b e1 f l he hf el fl
  sl := fun a e1 he => by
    by_cases ha : a = i
    · subst ha
      by_cases hl : a < Δ.length
      · rw [List.getElem?_set_self hl] at he
        cases he
        exact ⟨o, by rw [List.getElem?_set_self (by rw [h.len]; exact hl)], hv⟩
      · rw [List.getElem?_eq_none (by rw [List.length_set]; omega)] at he
        cases he
    · rw [List.getElem?_set_ne (Ne.symm ha)] at he
      obtain ⟨o1, h1, h2⟩ := h.sl a e1 he
      exact ⟨o1, by rw [List.getElem?_set_ne (Ne.symm ha)]; exact h1, h2⟩
theorem Sk.set (h : Sk K B M H σ Δ) (i : Nat) {v : V} {t : Tr} (hv : Dt K (mi M.m H) v t) : Sk K B M H (σ.set i (some v)) (Δ.set i (.dat t)) := h.put i (e := .dat t) hv fun _ z => nomatch z
theorem Sk.forget (h : Sk K B M H σ Δ) (i : Nat) {o : Option V} : Sk K B M H (σ.set i o) (Δ.set i .any) := h.put i (e := .any) (by cases o <;> exact True.intro) fun _ z => nomatch z
end

/-! ### the weakest readings -/
section
variable (X : Cx)
def WE (e : Expr) : TE := fun σ H Q => ∀ pins s, Inv X pins σ H s → wpAny (model X.prog X.w) X.A (eval e X.env) (EP X pins σ Q) X.xe s
def WT (e : Expr) : TT := fun σ H Q => ∀ pins s, Inv X pins σ H s → wpAny (model X.prog X.w) X.A (isTrue e X.env (eval e X.env)) (TP X pins σ Q) X.xe s
def WA (es : List Expr) : TA := fun σ H Q => ∀ (pos : Pos) pins s, Inv X pins σ H s → wpAny (model X.prog X.w) X.A (spliced (backTo pos (starEach es X.env))) (AP X pins σ Q) X.xe s
def WSs (ss : List Stmt) : TS := fun D σ H => ∀ pins s, Inv X pins σ H s → wpAny (model X.prog X.w) X.A (execs ss X.env) (SP X pins D) X.xe s
def WS (st : Stmt) : TS := fun D σ H => ∀ pins s, Inv X pins σ H s → wpAny (model X.prog X.w) X.A (exec st X.env) (SP X pins D) X.xe s
end
section
variable {X : Cx} {e : Expr} {es : List Expr}
theorem pe_self : PE X e (WE X e) := ⟨fun pins s σ H Q I h => h pins s I⟩
theorem pt_self : PT X e (WT X e) := ⟨fun pins s σ H Q I h => h pins s I⟩
theorem pa_self : PA X es (WA X es) := ⟨fun pos pins s σ H Q I h => h pos pins s I⟩
theorem pss_self {ss : List Stmt} : PSs X ss (WSs X ss) := ⟨fun pins s σ H D I h => h pins s I⟩
theorem ps_self {st : Stmt} : PS X st (WS X st) := ⟨fun pins s σ H D I h => h pins s I⟩
theorem PE.to {te : TE} (h : PE X e te) {σ : L2.St} {H : Hp} {Q : VK} (q : te σ H Q) : WE X e σ H Q := fun pins s I => h.run pins s σ H Q I q
theorem PT.to {te : TT} (h : PT X e te) {σ : L2.St} {H : Hp} {Q : Bool → Hp → Prop} (q : te σ H Q) : WT X e σ H Q := fun pins s I => h.run pins s σ H Q I q
theorem PA.to {te : TA} (h : PA X es te) {σ : L2.St} {H : Hp} {Q : List V → Hp → Prop} (q : te σ H Q) : WA X es σ H Q := fun pos pins s I => h.run pos pins s σ H Q I q
theorem PSs.to {ss : List Stmt} {t : TS} (h : PSs X ss t) {D : Ends} {σ : L2.St} {H : Hp} (q : t D σ H) : WSs X ss D σ H := fun pins s I => h.run pins s σ H D I q
theorem PS.to {st : Stmt} {t : TS} (h : PS X st t) {D : Ends} {σ : L2.St} {H : Hp} (q : t D σ H) : WS X st D σ H := fun pins s I => h.run pins s σ H D I q
end

/-! ### expressions by data -/
section
variable (X : Cx) (B : Bs) (M : Pl) (Δ : List En)
/-- e, wherever the slots are Δ, gives a datum t and slots Δ' as Φ says -/
def EE (e : Expr) (Φ : Tr → List En → Prop) : Prop := ∀ σ H, Sk X.K B M H σ Δ → ∀ Q : VK,
  (∀ t Δ' v H', Φ t Δ' → Fe M.w H H' → Sk X.K B M H' σ Δ' → Dt X.K (mi M.m H') v t → Q v H') → WE X e σ H Q
def ET (e : Expr) (Φ : Bool → List En → Prop) : Prop := ∀ σ H, Sk X.K B M H σ Δ → ∀ Q : Bool → Hp → Prop,
  (∀ b Δ' H', Φ b Δ' → Fe M.w H H' → Sk X.K B M H' σ Δ' → Q b H') → WT X e σ H Q
def EA (es : List Expr) (Φ : List Tr → List En → Prop) : Prop := ∀ σ H, Sk X.K B M H σ Δ → ∀ Q : List V → Hp → Prop,
  (∀ ts Δ' vs H', Φ ts Δ' → Fe M.w H H' → Sk X.K B M H' σ Δ' → Dts X.K (mi M.m H') vs ts → Q vs H') → WA X es σ H Q
/-- e gives a new object that nobody else holds: it becomes an owned place -/
def EO (e : Expr) (Φ : Tr → List En → Prop) : Prop := ∀ σ H, Sk X.K B M H σ Δ → ∀ Q : VK,
  (∀ t Δ' l H', Φ t Δ' → Fe M.w H H' → H l = none → Sk X.K B (ins M l) H' σ Δ' → (∀ e ∈ Δ', e.adr ≠ some l) → Ow X.K (mi (ins M l).m H') H' l t → Q (.ref l) H') → WE X e σ H Q
end
section
variable {X : Cx} {B : Bs} {M : Pl} {Δ : List En} {e a b : Expr} {es : List Expr} {Φ Φ' : Tr → List En → Prop}
theorem EE.mono (h : EE X B M Δ e Φ) (q : ∀ t Δ', Φ t Δ' → Φ' t Δ') : EE X B M Δ e Φ' := fun σ H S Q k => h σ H S Q fun t Δ' v H' p => k t Δ' v H' (q t Δ' p)
/-- an owned place is given out -/
theorem Sk.freeze {K : PySem.W.Frag} {H : Hp} {σ : L2.St} {l : Addr} (h : Sk K B (ins M l) H σ Δ) (hM : ¬ M.m l) (hw : ∀ b, M.w b → M.m b) (h0 : ¬ B.M0 l) (hn : ∀ e ∈ Δ, e.adr ≠ some l) : Sk K B M H σ Δ where
  len := h.len
  al := fun b z => h.al b (.inl z)
  wm := hw
  m0 := fun b z => (h.m0 b z).elim id fun e => absurd (by rw [← e]; exact z) h0
  pm := h.pm
  own := fun b z => h.own b (.inl z)
  wp := h.wp
  fr := h.fr
  tb := h.tb
  dis := h.dis
  sl := fun i e q => by
    obtain ⟨o, h1, h2⟩ := h.sl i e q
    refine ⟨o, h1, ?_⟩
    have s : Sub (mi (ins M l).m H) (mi M.m H) := mi_le fun b z => .inl z
    have hm := hn e (List.mem_of_getElem? q)
    cases o with
    | none =>
      cases e <;> first | exact True.intro | exact h2.elim
    | some v =>
      cases e with
      | any => exact True.intro
      | dat t => exact Dt.mono s h2
      | own l' t =>
        obtain ⟨h3, h4, h5, h7, h6⟩ := h2
        exact ⟨h3, h4.elim id fun z => absurd (by rw [z]; rfl) hm, h5, h7, h6.mono s fun _ _ z => z⟩
      | pen l' N =>
        obtain ⟨h3, h4, h6⟩ := h2
        exact ⟨h3, h4, h6.mono s fun _ _ z => z⟩
theorem EO.ee (h : EO X B M Δ e Φ) : EE X B M Δ e Φ := fun σ H S Q k => h σ H S Q fun t Δ' l H' p f hl S' hn ow => by
  have nM := S.notM hl
  have nM0 : ¬ B.M0 l := fun z => nM (S.m0 l z)
  have s2 : Sub (mi (ins M l).m H') (mi M.m H') := mi_le fun b z => .inl z
  refine k t Δ' (.ref l) H' p f (S'.freeze nM S.wm nM0 hn) ?_
  exact (ow.mono s2 fun _ _ z => z).dt fun o _ z => mi_of nM z
/-! names, constants -/
theorem ee_name (i : Nat) {x : Str} {pos : Pos} {t : Tr} (hN : X.N[i]? = some x) (hΔ : Δ[i]? = some (.dat t)) (q : Φ t Δ)
    (hd : (x == ("__debug__" : Str)) = false := by decide) (hcd : (x == ("__classdict__" : Str)) = false := by decide) (hv : Vis X.env.scope x := by first | exact Or.inl rfl | exact Or.inr (Or.inl rfl) | exact Or.inr (Or.inr rfl)) : EE X B M Δ (.Name x pos) Φ := fun σ H S Q k => by
  obtain ⟨v, h1, h2⟩ := S.dat hΔ
  exact PE.to (pe_var (i := i) hN hv hd hcd) ⟨v, h1, k t Δ v H q (Fe.refl _ _) S h2⟩
theorem ee_int {i : Int} {j : Nat} {pos : Pos} (q : Φ (.int i) Δ) : EE X B M Δ (.Constant (.int i) j pos) Φ := fun σ H S Q k => PE.to pe_int (k _ _ _ H q (Fe.refl _ _) S (.int i))
theorem ee_str {i : Str} {j : Nat} {pos : Pos} (q : Φ (.str i) Δ) : EE X B M Δ (.Constant (.str i) j pos) Φ := fun σ H S Q k => PE.to pe_str (k _ _ _ H q (Fe.refl _ _) S (.str i))
theorem ee_bl {i : Bool} {j : Nat} {pos : Pos} (q : Φ (.bl i) Δ) : EE X B M Δ (.Constant (.bool i) j pos) Φ := fun σ H S Q k => PE.to pe_bl (k _ _ _ H q (Fe.refl _ _) S (.bl i))
theorem ee_non {j : Nat} {pos : Pos} (q : Φ .non Δ) : EE X B M Δ (.Constant .none j pos) Φ := fun σ H S Q k => PE.to pe_non (k _ _ _ H q (Fe.refl _ _) S .non)
/-- a module's constant -/
theorem ee_glob {x : Str} {v : V} {u : Value} {t : Tr} {pos : Pos} (hg : Gl X x) (hm : X.mg x = some u) (r : RelV v u) (ht : ∀ I, Dt X.K I v t) (q : Φ t Δ) (hd : (x == ("__debug__" : Str)) = false := by decide) : EE X B M Δ (.Name x pos) Φ := fun σ H S Q k =>
  PE.to (pe_glob hg hm r hd) (k _ _ _ H q (Fe.refl _ _) S (ht _))
/-! two places -/
/-- a rule by values, from its reading r: what is asked of the data -/
theorem ee_two {E : Expr} {r : R2} (hE : PE X E (tOp r (WE X a) (WE X b))) {Ψ : Tr → List En → Tr → List En → Prop}
    (h : EE X B M Δ a fun x Δ1 => EE X B M Δ1 b fun y Δ2 => Ψ x Δ1 y Δ2)
    (hr : ∀ x Δ1 y Δ2, Ψ x Δ1 y Δ2 → ∀ σ H v w (Q : VK), Sk X.K B M H σ Δ2 → Dt X.K (mi M.m H) v x → Dt X.K (mi M.m H) w y → (∀ t Δ' z H', Φ t Δ' → Fe M.w H H' → Sk X.K B M H' σ Δ' → Dt X.K (mi M.m H') z t → Q z H') → r v w H Q) : EE X B M Δ E Φ := fun σ H S Q k =>
  PE.to hE (h σ H S _ fun x Δ1 v H1 p s1 S1 d1 => p σ H1 S1 _ fun y Δ2 w H2 p2 s2 S2 d2 => hr x Δ1 y Δ2 p2 σ H2 v w Q S2 (d1.mono (S1.sub s2)) d2 fun t Δ' z H' p3 s3 S3 d3 => k t Δ' z H' p3 ((s1.trans s2).trans s3) S3 d3)
theorem ee_I0 {op : Operator} {pos : Pos} {g : Int → Int → Int} (ho : OpR X (binaryOp op) (rI0 fun i j => .int (g i j))) (h : EE X B M Δ a fun x Δ1 => EE X B M Δ1 b fun y Δ2 => ∃ i j, x = .int i ∧ y = .int j ∧ Φ (.int (g i j)) Δ2) : EE X B M Δ (.BinOp a op b pos) Φ :=
  ee_two (pe_op ho pe_self pe_self) h fun x Δ1 y Δ2 p σ H v w Q S d1 d2 k => by
    obtain ⟨i, j, rfl, rfl, q⟩ := p
    cases d1; cases d2
    exact ⟨i, j, rfl, rfl, k _ _ _ H q (Fe.refl _ _) S (.int _)⟩
theorem ee_I {op : Operator} {pos : Pos} {C : Int → Int → Prop} {g : Int → Int → Int} (ho : OpR X (binaryOp op) (rI C fun i j => .int (g i j))) (h : EE X B M Δ a fun x Δ1 => EE X B M Δ1 b fun y Δ2 => ∃ i j, x = .int i ∧ y = .int j ∧ C i j ∧ Φ (.int (g i j)) Δ2) : EE X B M Δ (.BinOp a op b pos) Φ :=
  ee_two (pe_op ho pe_self pe_self) h fun x Δ1 y Δ2 p σ H v w Q S d1 d2 k => by
    obtain ⟨i, j, rfl, rfl, c, q⟩ := p
    cases d1; cases d2
    exact ⟨i, j, rfl, rfl, c, k _ _ _ H q (Fe.refl _ _) S (.int _)⟩
theorem ee_add {pos : Pos} (h : EE X B M Δ a fun x Δ1 => EE X B M Δ1 b fun y Δ2 => ∃ i j, x = .int i ∧ y = .int j ∧ Φ (.int (i + j)) Δ2) : EE X B M Δ (.BinOp a .Add b pos) Φ := ee_I0 op_add h
theorem ee_sub {pos : Pos} (h : EE X B M Δ a fun x Δ1 => EE X B M Δ1 b fun y Δ2 => ∃ i j, x = .int i ∧ y = .int j ∧ Φ (.int (i - j)) Δ2) : EE X B M Δ (.BinOp a .Sub b pos) Φ := ee_I0 op_sub h
theorem ee_mul {pos : Pos} (h : EE X B M Δ a fun x Δ1 => EE X B M Δ1 b fun y Δ2 => ∃ i j, x = .int i ∧ y = .int j ∧ CMul i j ∧ Φ (.int (i * j)) Δ2) : EE X B M Δ (.BinOp a .Mult b pos) Φ := ee_I op_mul h
theorem ee_mod {pos : Pos} (h : EE X B M Δ a fun x Δ1 => EE X B M Δ1 b fun y Δ2 => ∃ i j, x = .int i ∧ y = .int j ∧ 0 < j ∧ Φ (.int (i % j)) Δ2) : EE X B M Δ (.BinOp a .Mod b pos) Φ := ee_I (C := fun _ j => 0 < j) op_mod h
theorem ee_fdiv {pos : Pos} (h : EE X B M Δ a fun x Δ1 => EE X B M Δ1 b fun y Δ2 => ∃ i j, x = .int i ∧ y = .int j ∧ CDiv i j ∧ Φ (.int (i / j)) Δ2) : EE X B M Δ (.BinOp a .FloorDiv b pos) Φ := ee_I op_fdiv h
theorem ee_pow {pos : Pos} (h : EE X B M Δ a fun x Δ1 => EE X B M Δ1 b fun y Δ2 => ∃ i j, x = .int i ∧ y = .int j ∧ CPow i j ∧ Φ (.int (i ^ j.toNat)) Δ2) : EE X B M Δ (.BinOp a .Pow b pos) Φ := ee_I op_pow h
theorem ee_adds {pos : Pos} (h : EE X B M Δ a fun x Δ1 => EE X B M Δ1 b fun y Δ2 => ∃ i j, x = .str i ∧ y = .str j ∧ i.length + j.length ≤ sizeLine ∧ Φ (.str (i ++ j)) Δ2) : EE X B M Δ (.BinOp a .Add b pos) Φ :=
  ee_two (pe_op op_add_str pe_self pe_self) h fun x Δ1 y Δ2 p σ H v w Q S d1 d2 k => by
    obtain ⟨i, j, rfl, rfl, c, q⟩ := p
    cases d1; cases d2
    exact ⟨i, j, rfl, rfl, c, k _ _ _ H q (Fe.refl _ _) S (.str _)⟩
theorem ee_neg {pos : Pos} (h : EE X B M Δ a fun x Δ1 => ∃ i, x = .int i ∧ Φ (.int (-i)) Δ1) : EE X B M Δ (.UnaryOp .USub a pos) Φ := fun σ H S Q k =>
  PE.to (pe_un un_neg pe_self) (h σ H S _ fun x Δ1 v H1 p s1 S1 d1 => by
    obtain ⟨i, rfl, q⟩ := p
    cases d1
    exact ⟨i, rfl, k _ _ _ H1 q s1 S1 (.int _)⟩)
end
end Wf

set_option Elab.async false
set_option linter.all false
set_option maxRecDepth 100000
set_option maxHeartbeats 1000000
namespace Wf
open PySem PySem.Spec PyProof.Rows L2 LamX
section
variable {X : Cx} {B : Bs} {M : Pl} {Δ : List En} {e a b c d : Expr} {es : List Expr} {Φ Φ' : Tr → List En → Prop} {Γ : Bool → List En → Prop}
/-! ### tests -/
theorem ET.mono {Γ' : Bool → List En → Prop} (h : ET X B M Δ e Γ) (q : ∀ t Δ', Γ t Δ' → Γ' t Δ') : ET X B M Δ e Γ' := fun σ H S Q k => h σ H S Q fun t Δ' H' p => k t Δ' H' (q t Δ' p)
theorem et_val (h : EE X B M Δ e fun t Δ' => ∃ k, t = .bl k ∧ Γ k Δ') (he : ∀ whole, isTrue e X.env whole = (do let v ← whole; standAt e.pos; holding [v] (truthy v)) := by intro _; rfl) : ET X B M Δ e Γ := fun σ H S Q k =>
  PT.to (pt_val pe_self he) (h σ H S _ fun t Δ' v H' p f S' dd => by
    obtain ⟨x, rfl, q⟩ := p
    cases dd
    exact ⟨x, rfl, k x Δ' H' q f S'⟩)
def truD : Tr → Bool → Prop
  | .non, k => k = false
  | .int i, k => k = (i != 0)
  | .str x, k => x.length ≤ sizeLine ∧ k = ((x.length : Int) != 0)
  | .bl b, k => k = b
  | .lst ts, k => k = !ts.isEmpty
  | .tup ts, k => k = !ts.isEmpty
  | _, _ => False
/-- a list, a tuple, a text, a number, None as a test -/
theorem et_tru (h : EE X B M Δ e fun t Δ' => ∃ k, truD t k ∧ Γ k Δ')
    (he : ∀ whole, isTrue e X.env whole = (do let v ← whole; standAt e.pos; holding [v] (truthy v)) := by intro _; rfl) : ET X B M Δ e Γ := fun σ H S Q k =>
  PT.to (pt_truth pe_self he) (h σ H S _ fun t Δ' v H' p f S' dd => by
    obtain ⟨x, hx, q⟩ := p
    refine ⟨x, ?_, k x Δ' H' q f S'⟩
    cases dd with
    | non => exact hx
    | bl b => exact hx
    | int i => exact hx
    | str z => exact hx
    | lst h1 h2 =>
      refine Or.inl ⟨_, sub_seqL mi_sub h1, ?_⟩
      rw [hx]
      have := h2.length
      rename_i xs ts
      cases xs <;> cases ts <;> first | rfl | (simp at this)
    | tup h1 h2 =>
      refine Or.inr (.inl ⟨_, sub_seqT mi_sub h1, ?_⟩)
      rw [hx]
      have := h2.length
      rename_i xs ts
      cases xs <;> cases ts <;> first | rfl | (simp at this)
    | dct _ _ => exact hx.elim
    | ins _ _ => exact hx.elim
    | opq _ => exact hx.elim)
theorem et_not {pos : Pos} (h : ET X B M Δ a fun k Δ' => Γ (!k) Δ') : ET X B M Δ (.UnaryOp .Not a pos) Γ := fun σ H S Q k =>
  PT.to (pt_not pt_self) (h σ H S _ fun t Δ' H' p f S' => k _ Δ' H' p f S')
theorem et_and2 {pos : Pos} (h : ET X B M Δ a fun k Δ1 => (k = true → ET X B M Δ1 b Γ) ∧ (k = false → Γ false Δ1)) : ET X B M Δ (.BoolOp .And [a, b] pos) Γ := fun σ H S Q k =>
  PT.to (PW.pt (pw_and pt_self (pw_and1 pt_self))) (h σ H S _ fun t Δ' H' p f S' => by
    cases t with
    | true =>
      refine iteT (p.1 rfl σ H' S' Q fun t2 Δ2 H2 p2 f2 S2 => k t2 Δ2 H2 p2 (f.trans f2) S2)
    | false => exact iteF (k false Δ' H' (p.2 rfl) f S'))
theorem et_or2 {pos : Pos} (h : ET X B M Δ a fun k Δ1 => (k = true → Γ true Δ1) ∧ (k = false → ET X B M Δ1 b Γ)) : ET X B M Δ (.BoolOp .Or [a, b] pos) Γ := fun σ H S Q k =>
  PT.to (PW.pt (pw_or pt_self (pw_or1 pt_self))) (h σ H S _ fun t Δ' H' p f S' => by
    cases t with
    | true => exact iteT (k true Δ' H' (p.1 rfl) f S')
    | false => exact iteF (p.2 rfl σ H' S' Q fun t2 Δ2 H2 p2 f2 S2 => k t2 Δ2 H2 p2 (f.trans f2) S2))
/-- the rest of a chain of and, or: as one of its own -/
def EW (X : Cx) (B : Bs) (M : Pl) (Δ : List En) (e : Expr) (Γ : Bool → List En → Prop) : Prop := ∀ σ H, Sk X.K B M H σ Δ → ∀ Q : Bool → Hp → Prop,
  (∀ b Δ' H', Γ b Δ' → Fe M.w H H' → Sk X.K B M H' σ Δ' → Q b H') → ∀ (whole : Sem Value) pins s, Inv X pins σ H s → wpAny (model X.prog X.w) X.A (isTrue e X.env whole) (TP X pins σ Q) X.xe s
theorem pw_selfW {e : Expr} : PW X e (fun σ H Q => ∀ (whole : Sem Value) pins s, Inv X pins σ H s → wpAny (model X.prog X.w) X.A (isTrue e X.env whole) (TP X pins σ Q) X.xe s) := ⟨fun whole pins s σ H Q I h => h whole pins s I⟩
theorem et_ew (h : EW X B M Δ e Γ) : ET X B M Δ e Γ := fun σ H S Q k => PT.to (PW.pt pw_selfW) (h σ H S Q k)
theorem PW.toW {t : TT} (h : PW X e t) {σ : L2.St} {H : Hp} {Q : Bool → Hp → Prop} (q : t σ H Q) : ∀ (whole : Sem Value) pins s, Inv X pins σ H s → wpAny (model X.prog X.w) X.A (isTrue e X.env whole) (TP X pins σ Q) X.xe s := fun whole pins s I => h.run whole pins s σ H Q I q
theorem ew_and1 {pos : Pos} (h : ET X B M Δ a Γ) : EW X B M Δ (.BoolOp .And [a] pos) Γ := fun σ H S Q k => PW.toW (pw_and1 pt_self) (h σ H S Q k)
theorem ew_or1 {pos : Pos} (h : ET X B M Δ a Γ) : EW X B M Δ (.BoolOp .Or [a] pos) Γ := fun σ H S Q k => PW.toW (pw_or1 pt_self) (h σ H S Q k)
theorem ew_and {pos : Pos} (h : ET X B M Δ a fun k Δ1 => (k = true → EW X B M Δ1 (.BoolOp .And (b :: es) pos) Γ) ∧ (k = false → Γ false Δ1)) : EW X B M Δ (.BoolOp .And (a :: b :: es) pos) Γ := fun σ H S Q k =>
  PW.toW (pw_and pt_self pw_selfW) (h σ H S _ fun t Δ' H' p f S' => by
    cases t with
    | true => exact iteT (p.1 rfl σ H' S' Q fun t2 Δ2 H2 p2 f2 S2 => k t2 Δ2 H2 p2 (f.trans f2) S2)
    | false => exact iteF (k false Δ' H' (p.2 rfl) f S'))
theorem ew_or {pos : Pos} (h : ET X B M Δ a fun k Δ1 => (k = true → Γ true Δ1) ∧ (k = false → EW X B M Δ1 (.BoolOp .Or (b :: es) pos) Γ)) : EW X B M Δ (.BoolOp .Or (a :: b :: es) pos) Γ := fun σ H S Q k =>
  PW.toW (pw_or pt_self pw_selfW) (h σ H S _ fun t Δ' H' p f S' => by
    cases t with
    | true => exact iteT (k true Δ' H' (p.1 rfl) f S')
    | false => exact iteF (p.2 rfl σ H' S' Q fun t2 Δ2 H2 p2 f2 S2 => k t2 Δ2 H2 p2 (f.trans f2) S2))
/-! ### comparisons, as values and as tests -/
theorem et_two {E : Expr} {r : R2} (hE : PT X E (tTest (tOp r (WE X a) (WE X b)))) {Ψ : Tr → List En → Tr → List En → Prop}
    (h : EE X B M Δ a fun x Δ1 => EE X B M Δ1 b fun y Δ2 => Ψ x Δ1 y Δ2)
    (hr : ∀ x Δ1 y Δ2, Ψ x Δ1 y Δ2 → ∀ σ H v w (Q : VK), Sk X.K B M H σ Δ2 → Dt X.K (mi M.m H) v x → Dt X.K (mi M.m H) w y → (∀ t Δ' H', Γ t Δ' → Fe M.w H H' → Sk X.K B M H' σ Δ' → Q (.bl t) H') → r v w H Q) : ET X B M Δ E Γ := fun σ H S Q k =>
  PT.to hE (h σ H S _ fun x Δ1 v H1 p s1 S1 d1 => p σ H1 S1 _ fun y Δ2 w H2 p2 s2 S2 d2 => hr x Δ1 y Δ2 p2 σ H2 v w _ S2 (d1.mono (S1.sub s2)) d2 fun t Δ' H' p3 s3 S3 => ⟨t, rfl, k t Δ' H' p3 ((s1.trans s2).trans s3) S3⟩)
/-- what a comparison of data asks, and its answer -/
def CmpD (X : Cx) (op : CmpOp) (B : Bs) (M : Pl) (Γ : Bool → List En → Prop) (Ψ : Tr → Tr → List En → Prop) : Prop := ∃ r, OpR X (compareOp op) r ∧
  ∀ x y Δ2, Ψ x y Δ2 → ∀ σ H v w (Q : VK), Sk X.K B M H σ Δ2 → Dt X.K (mi M.m H) v x → Dt X.K (mi M.m H) w y → (∀ t Δ' H', Γ t Δ' → Fe M.w H H' → Sk X.K B M H' σ Δ' → Q (.bl t) H') → r v w H Q
theorem et_cmp {op : CmpOp} {pos : Pos} {Ψ : Tr → Tr → List En → Prop} (hc : CmpD X op B M Γ Ψ) (h : EE X B M Δ a fun x Δ1 => EE X B M Δ1 b fun y Δ2 => Ψ x y Δ2) (hm : behindInMarks op b = false := by first | exact nomark _ | rfl | with_unfolding_all rfl) : ET X B M Δ (.Compare a [op] [b] pos) Γ := by
  obtain ⟨r, ho, hr⟩ := hc
  exact et_two (pt_cmpR ho pe_self pe_self hm) h fun x Δ1 y Δ2 p => hr x y Δ2 p
theorem ee_cmp {op : CmpOp} {pos : Pos} {Ψ : Tr → Tr → List En → Prop} (hc : CmpD X op B M (fun k => Φ (.bl k)) Ψ) (h : EE X B M Δ a fun x Δ1 => EE X B M Δ1 b fun y Δ2 => Ψ x y Δ2) (hm : behindInMarks op b = false := by first | exact nomark _ | rfl | with_unfolding_all rfl) : EE X B M Δ (.Compare a [op] [b] pos) Φ := by
  obtain ⟨r, ho, hr⟩ := hc
  exact ee_two (pe_cmpR ho pe_self pe_self hm) h fun x Δ1 y Δ2 p σ H v w Q S d1 d2 k => hr x y Δ2 p σ H v w Q S d1 d2 fun t Δ' H' q f S' => k _ Δ' _ H' q f S' (.bl t)
theorem cd_I {op : CmpOp} {g : Int → Int → Bool} (ho : OpR X (compareOp op) (rI0 fun i j => .bl (g i j))) : CmpD X op B M Γ fun x y Δ2 => ∃ i j, x = .int i ∧ y = .int j ∧ Γ (g i j) Δ2 :=
  ⟨_, ho, fun x y Δ2 p σ H v w Q S d1 d2 k => by
    obtain ⟨i, j, rfl, rfl, q⟩ := p
    cases d1; cases d2
    exact ⟨i, j, rfl, rfl, k _ _ H q (Fe.refl _ _) S⟩⟩
theorem cd_lt : CmpD X .Lt B M Γ fun x y Δ2 => ∃ i j, x = .int i ∧ y = .int j ∧ Γ (decide (i < j)) Δ2 := cd_I op_lt
theorem cd_le : CmpD X .LtE B M Γ fun x y Δ2 => ∃ i j, x = .int i ∧ y = .int j ∧ Γ (decide (i ≤ j)) Δ2 := cd_I op_le
theorem cd_gt : CmpD X .Gt B M Γ fun x y Δ2 => ∃ i j, x = .int i ∧ y = .int j ∧ Γ (decide (j < i)) Δ2 := cd_I op_gt
theorem cd_ge : CmpD X .GtE B M Γ fun x y Δ2 => ∃ i j, x = .int i ∧ y = .int j ∧ Γ (decide (j ≤ i)) Δ2 := cd_I op_ge
/-- is None: of anything that is no opaque value -/
def Tr.isN : Tr → Bool
  | .non => true
  | _ => false
def Tr.clear : Tr → Bool
  | .opq _ => false
  | _ => true
theorem dt_isN {K : PySem.W.Frag} {I : Hp} {v : V} {t : Tr} (h : Dt K I v t) (c : t.clear = true) : decide (v = .non) = t.isN := by
  cases h <;> first | (exact decide_eq_true rfl) | (exact decide_eq_false (fun z => V.noConfusion z)) | (cases c)
theorem cd_isN : CmpD X .Is B M Γ fun x y Δ2 => y = .non ∧ x.clear = true ∧ Γ x.isN Δ2 :=
  ⟨_, op_isN, fun x y Δ2 p σ H v w Q S d1 d2 k => by
    obtain ⟨rfl, c, q⟩ := p
    cases d2
    exact ⟨rfl, by rw [dt_isN d1 c]; exact k _ _ H q (Fe.refl _ _) S⟩⟩
theorem cd_notN : CmpD X .IsNot B M Γ fun x y Δ2 => y = .non ∧ x.clear = true ∧ Γ (!x.isN) Δ2 :=
  ⟨_, op_notN, fun x y Δ2 p σ H v w Q S d1 d2 k => by
    obtain ⟨rfl, c, q⟩ := p
    cases d2
    exact ⟨rfl, by rw [dt_isN d1 c]; exact k _ _ H q (Fe.refl _ _) S⟩⟩
/-- plain data: no dict, no instance -/
def Tr.pys : List Tr → (Tr → PyData) → List PyData := fun ts f => ts.map f
mutual
def Tr.py : Tr → PyData
  | .non => .none
  | .bl b => .bool b
  | .int i => .int i
  | .str x => .str x
  | .lst ts => .list (pyAll ts)
  | .tup ts => .tuple (pyAll ts)
  | .dct _ => .none
  | .ins _ _ => .none
  | .opq _ => .none
def pyAll : List Tr → List PyData
  | [] => []
  | t :: ts => t.py :: pyAll ts
end
mutual
def Tr.plain : Tr → Bool
  | .non => true
  | .bl _ => true
  | .int _ => true
  | .str _ => true
  | .lst ts => plainAll ts
  | .tup ts => plainAll ts
  | .dct _ => false
  | .ins _ _ => false
  | .opq _ => false
def plainAll : List Tr → Bool
  | [] => true
  | t :: ts => t.plain && plainAll ts
end
mutual
theorem Dt.dp {K : PySem.W.Frag} {I : Hp} : ∀ {v : V} {t : Tr}, Dt K I v t → t.plain = true → Dp K I v t.py
  | _, _, .non, _ => by unfold Tr.py; exact .non
  | _, _, .bl b, _ => by unfold Tr.py; exact .bl b
  | _, _, .int i, _ => by unfold Tr.py; exact .int i
  | _, _, .str x, _ => by unfold Tr.py; exact .str x
  | _, _, .lst h q, c => by
    unfold Tr.plain at c
    unfold Tr.py
    exact .lst h (Dts.dp q c)
  | _, _, .tup h q, c => by
    unfold Tr.plain at c
    unfold Tr.py
    exact .tup h (Dts.dp q c)
  | _, _, .dct h q, c => by unfold Tr.plain at c; cases c
  | _, _, .ins h q, c => by unfold Tr.plain at c; cases c
  | _, _, .opq v, c => by unfold Tr.plain at c; cases c
theorem Dts.dp {K : PySem.W.Frag} {I : Hp} : ∀ {v : List V} {t : List Tr}, Dts K I v t → plainAll t = true → DpAll K I v (pyAll t)
  | _, _, .nil, _ => by unfold pyAll; exact .nil
  | _, _, .cons h q, c => by
    unfold plainAll at c
    unfold pyAll
    rw [Bool.and_eq_true] at c
    exact .cons (Dt.dp h c.1) (Dts.dp q c.2)
end
def Tr.eqOk (t : Tr) : Prop := t.plain = true ∧ SeqAt.shaped t.py = true
theorem cd_eqD (hu : X.A.units + 64 < cLine) : CmpD X .Eq B M Γ fun x y Δ2 => x.eqOk ∧ y.eqOk ∧ Γ (PyData.eqv x.py y.py) Δ2 :=
  ⟨_, op_eqD hu, fun x y Δ2 p σ H v w Q S d1 d2 k => by
    obtain ⟨c1, c2, q⟩ := p
    exact ⟨x.py, y.py, (d1.mono mi_sub).dp c1.1, (d2.mono mi_sub).dp c2.1, c1.2, c2.2, k _ _ H q (Fe.refl _ _) S⟩⟩
theorem cd_neD (hu : X.A.units + 64 < cLine) : CmpD X .NotEq B M Γ fun x y Δ2 => x.eqOk ∧ y.eqOk ∧ Γ (!PyData.eqv x.py y.py) Δ2 :=
  ⟨_, op_neD hu, fun x y Δ2 p σ H v w Q S d1 d2 k => by
    obtain ⟨c1, c2, q⟩ := p
    exact ⟨x.py, y.py, (d1.mono mi_sub).dp c1.1, (d2.mono mi_sub).dp c2.1, c1.2, c2.2, k _ _ H q (Fe.refl _ _) S⟩⟩
theorem cd_eqI : CmpD X .Eq B M Γ fun x y Δ2 => ∃ i j, x = .int i ∧ y = .int j ∧ Γ (decide (i = j)) Δ2 :=
  ⟨_, op_eq, fun x y Δ2 p σ H v w Q S d1 d2 k => by
    obtain ⟨i, j, rfl, rfl, q⟩ := p
    cases d1; cases d2
    exact ⟨rfl, by rw [dec_int, Bool.beq_eq_decide_eq]; exact k _ _ H q (Fe.refl _ _) S⟩⟩
theorem cd_neI : CmpD X .NotEq B M Γ fun x y Δ2 => ∃ i j, x = .int i ∧ y = .int j ∧ Γ (!decide (i = j)) Δ2 :=
  ⟨_, op_ne, fun x y Δ2 p σ H v w Q S d1 d2 k => by
    obtain ⟨i, j, rfl, rfl, q⟩ := p
    cases d1; cases d2
    exact ⟨rfl, by rw [dec_int, Bool.beq_eq_decide_eq]; exact k _ _ H q (Fe.refl _ _) S⟩⟩
theorem cd_eqS : CmpD X .Eq B M Γ fun x y Δ2 => ∃ i j, x = .str i ∧ y = .str j ∧ Γ (decide (i = j)) Δ2 :=
  ⟨_, op_eq, fun x y Δ2 p σ H v w Q S d1 d2 k => by
    obtain ⟨i, j, rfl, rfl, q⟩ := p
    cases d1; cases d2
    exact ⟨rfl, by rw [dec_str, Bool.beq_eq_decide_eq]; exact k _ _ H q (Fe.refl _ _) S⟩⟩
theorem cd_neS : CmpD X .NotEq B M Γ fun x y Δ2 => ∃ i j, x = .str i ∧ y = .str j ∧ Γ (!decide (i = j)) Δ2 :=
  ⟨_, op_ne, fun x y Δ2 p σ H v w Q S d1 d2 k => by
    obtain ⟨i, j, rfl, rfl, q⟩ := p
    cases d1; cases d2
    exact ⟨rfl, by rw [dec_str, Bool.beq_eq_decide_eq]; exact k _ _ H q (Fe.refl _ _) S⟩⟩
/-- one sign in a text -/
theorem cd_inS : CmpD X .In B M Γ fun x y Δ2 => ∃ (c : Nat) (z : Str), x = .str ⟨#[c]⟩ ∧ y = .str z ∧ Γ (decide (c ∈ z.cps.toList)) Δ2 :=
  ⟨_, op_in_sign, fun x y Δ2 p σ H v w Q S d1 d2 k => by
    obtain ⟨i, j, rfl, rfl, q⟩ := p
    cases d1; cases d2
    exact ⟨i, j, rfl, rfl, k _ _ H q (Fe.refl _ _) S⟩⟩
/-! ### if-expressions, and, or, not as values -/
theorem ee_if {pos : Pos} (h : ET X B M Δ c fun k Δ1 => (k = true → EE X B M Δ1 a Φ) ∧ (k = false → EE X B M Δ1 b Φ)) : EE X B M Δ (.IfExp c a b pos) Φ := fun σ H S Q k =>
  PE.to (pe_ifExp pt_self pe_self pe_self) (h σ H S _ fun t Δ' H' p f S' => by
    cases t with
    | true => exact iteT (p.1 rfl σ H' S' Q fun t2 Δ2 v H2 p2 f2 S2 => k t2 Δ2 v H2 p2 (f.trans f2) S2)
    | false => exact iteF (p.2 rfl σ H' S' Q fun t2 Δ2 v H2 p2 f2 S2 => k t2 Δ2 v H2 p2 (f.trans f2) S2))
theorem ee_one {op : BoolOp} {pos : Pos} (h : EE X B M Δ a Φ) : EE X B M Δ (.BoolOp op [a] pos) Φ := fun σ H S Q k => PE.to (pe_one pe_self) (h σ H S Q k)
theorem ee_and {pos : Pos} (h : EE X B M Δ a fun t Δ1 => ∃ k, t = .bl k ∧ (k = true → EE X B M Δ1 (.BoolOp .And (b :: es) pos) Φ) ∧ (k = false → Φ (.bl false) Δ1)) : EE X B M Δ (.BoolOp .And (a :: b :: es) pos) Φ := fun σ H S Q k =>
  PE.to (pe_and pe_self pe_self) (h σ H S _ fun t Δ' v H' p f S' dd => by
    obtain ⟨x, rfl, p⟩ := p
    cases dd
    refine ⟨x, rfl, ?_⟩
    cases x with
    | true => exact iteT (p.1 rfl σ H' S' Q fun t2 Δ2 v H2 p2 f2 S2 => k t2 Δ2 v H2 p2 (f.trans f2) S2)
    | false => exact iteF (k _ Δ' _ H' (p.2 rfl) f S' (.bl false)))
theorem ee_or {pos : Pos} (h : EE X B M Δ a fun t Δ1 => ∃ k, t = .bl k ∧ (k = true → Φ (.bl true) Δ1) ∧ (k = false → EE X B M Δ1 (.BoolOp .Or (b :: es) pos) Φ)) : EE X B M Δ (.BoolOp .Or (a :: b :: es) pos) Φ := fun σ H S Q k =>
  PE.to (pe_or pe_self pe_self) (h σ H S _ fun t Δ' v H' p f S' dd => by
    obtain ⟨x, rfl, p⟩ := p
    cases dd
    refine ⟨x, rfl, ?_⟩
    cases x with
    | true => exact iteT (k _ Δ' _ H' (p.1 rfl) f S' (.bl true))
    | false => exact iteF (p.2 rfl σ H' S' Q fun t2 Δ2 v H2 p2 f2 S2 => k t2 Δ2 v H2 p2 (f.trans f2) S2))
theorem ee_not {pos : Pos} (h : EE X B M Δ a fun t Δ1 => ∃ k, t = .bl k ∧ Φ (.bl (!k)) Δ1) : EE X B M Δ (.UnaryOp .Not a pos) Φ := fun σ H S Q k =>
  PE.to (pe_not pe_self) (h σ H S _ fun t Δ' v H' p f S' dd => by
    obtain ⟨x, rfl, p⟩ := p
    cases dd
    exact ⟨x, rfl, k _ Δ' _ H' p f S' (.bl _)⟩)
/-! ### argument lists, tuples, lists -/
theorem ea_nil {Θ : List Tr → List En → Prop} (q : Θ [] Δ) : EA X B M Δ [] Θ := fun σ H S Q k => PA.to pa_nil (k [] Δ [] H q (Fe.refl _ _) S .nil)
theorem ea_cons {Θ : List Tr → List En → Prop} (h : EE X B M Δ e fun t Δ1 => EA X B M Δ1 es fun ts Δ2 => Θ (t :: ts) Δ2) (hs : starEach (e :: es) X.env = (false, eval e X.env) :: starEach es X.env := by rfl) : EA X B M Δ (e :: es) Θ := fun σ H S Q k =>
  PA.to (pa_cons pe_self pa_self hs) (h σ H S _ fun t Δ1 v H1 p f S1 d1 => p σ H1 S1 _ fun ts Δ2 vs H2 p2 f2 S2 d2 => k _ Δ2 _ H2 p2 (f.trans f2) S2 (.cons (d1.mono (S1.sub f2)) d2))
theorem ee_tup {x1 : _} {pos : Pos} (h : EA X B M Δ es fun ts Δ1 => ts.length ≤ sizeLine ∧ Φ (.tup ts) Δ1) : EE X B M Δ (.Tuple es x1 pos) Φ := fun σ H S Q k =>
  PE.to (pe_tup pa_self) (h σ H S _ fun ts Δ1 vs H1 p f S1 d1 => by
    refine ⟨by rw [d1.length]; exact p.1, fun q hq => ?_⟩
    have s := same_new (o := .tup vs) hq
    exact k _ Δ1 _ _ p.2 (f.trans (Fe.same s)) (S1.same s) (.tup (SqT.of (mi_of (S1.notM hq) upd_same)) (d1.mono (Sub.of s).mi)))
/-- a new list, owned -/
theorem Sk.newOwn {K : PySem.W.Frag} {H H' : Hp} {σ : L2.St} {l : Addr} {t : Tr} (S : Sk K B M H σ Δ) (hl : H l = none) (s : Same H H') (ow : Ow K (mi M.m H) H' l t) :
    Sk K B (ins M l) H' σ Δ ∧ (∀ e ∈ Δ, e.adr ≠ some l) ∧ Ow K (mi (ins M l).m H') H' l t := by
  have s2 : Sub (mi M.m H) (mi (ins M l).m H') := mi_new hl S (Fe.same s)
  have hn : ∀ e ∈ Δ, e.adr ≠ some l := fun e he z => by
    obtain ⟨i, hi⟩ := List.getElem?_of_mem he
    obtain ⟨o, _, h2⟩ := S.sl i e hi
    have hm : M.m l := by
      cases e with
      | any => cases z
      | dat t => cases z
      | own l' t => cases z; cases o with
        | none => exact h2.elim
        | some v => exact h2.2.1
      | pen l' N => cases z; cases o with
        | none => exact h2.elim
        | some v => exact S.wm _ h2.2.1
    exact S.notM hl hm
  have hex : ∃ o, H' l = some o := by
    cases t <;> first | exact ow.elim | skip
    · obtain ⟨xs, e, _⟩ := ow; exact ⟨_, e⟩
    · obtain ⟨xs, e, _⟩ := ow; exact ⟨_, e⟩
    · obtain ⟨_, xs, e, _⟩ := ow; exact ⟨_, e⟩
  have S' := S.same s
  refine ⟨{ len := S'.len, al := fun b z => z.elim (S'.al b) fun e => by rw [e]; exact hex, wm := fun b z => Or.inl (S.wm b z), m0 := fun b z => Or.inl (S.m0 b z), pm := S.pm, own := fun b z => z.elim (S.own b) fun e => .inr (by rw [e]; exact S.new0 hl), wp := S.wp, fr := S'.fr, tb := S'.tb, dis := S.dis, sl := fun i e q => ?_ }, hn, ow.mono s2 fun _ _ z => z⟩
  obtain ⟨o, h1, h2⟩ := S.sl i e q
  exact ⟨o, h1, h2.mono (M := M) (M' := ins M l) (fun b z => Or.inl z) (fun _ => Iff.rfl) s2 fun l' _ o _ z => s l' o z⟩
theorem eo_lst {pos : Pos} (h : EA X B M Δ es fun ts Δ1 => ts.length ≤ sizeLine ∧ Φ (.lst ts) Δ1) (hE : PE X (.List es pos) (tLst (WA X es)) := pe_lst pa_self) : EO X B M Δ (.List es pos) Φ := fun σ H S Q k =>
  PE.to hE (h σ H S _ fun ts Δ1 vs H1 p f S1 d1 => by
    refine ⟨by rw [d1.length]; exact p.1, fun q hq => ?_⟩
    have s := same_new (o := .lst vs) hq
    obtain ⟨a1, a2, a3⟩ := S1.newOwn (t := .lst ts) hq s ⟨vs, upd_same, d1⟩
    exact k _ Δ1 q _ p.2 (f.trans (Fe.same s)) (f.free (fun b z => S1.al b (S1.wm b z)) hq) a1 a2 a3)
/-! ### places of lists, tuples, texts -/
theorem atI_dts {K : PySem.W.Frag} {I : Hp} {xs : List V} {ts : List Tr} {i : Int} {t : Tr} (d : Dts K I xs ts) (h : atI ts i = some t) : ∃ v, atI xs i = some v ∧ Dt K I v t := by
  unfold atI at h ⊢
  rw [← d.length] at h
  cases e : ixN xs.length i with
  | none => rw [e] at h; cases h
  | some j =>
    rw [e] at h
    obtain ⟨v, h1, h2⟩ := d.get (i := j) (t := t) h
    exact ⟨v, h1, h2⟩
theorem ee_ixL {pos : Pos} (h : EE X B M Δ a fun x Δ1 => EE X B M Δ1 b fun y Δ2 => ∃ ts i t, x = .lst ts ∧ y = .int i ∧ atI ts i = some t ∧ Φ t Δ2) (hs : PlainIx b := by exact fun _ _ => rfl) : EE X B M Δ (.Subscript a b pos) Φ :=
  ee_two (pe_ix ix_list pe_self pe_self hs) h fun x Δ1 y Δ2 p σ H v w Q S d1 d2 k => by
    obtain ⟨ts, i, t, rfl, rfl, e, q⟩ := p
    cases d2
    cases d1 with
    | lst h1 h2 =>
      obtain ⟨z, e1, e2⟩ := atI_dts h2 e
      exact ⟨_, _, i, z, rfl, rfl, sub_seqL mi_sub h1, e1, k _ _ _ H q (Fe.refl _ _) S e2⟩
theorem ee_ixT {pos : Pos} (h : EE X B M Δ a fun x Δ1 => EE X B M Δ1 b fun y Δ2 => ∃ ts i t, x = .tup ts ∧ y = .int i ∧ atI ts i = some t ∧ Φ t Δ2) (hs : PlainIx b := by exact fun _ _ => rfl) : EE X B M Δ (.Subscript a b pos) Φ :=
  ee_two (pe_ix ix_tup pe_self pe_self hs) h fun x Δ1 y Δ2 p σ H v w Q S d1 d2 k => by
    obtain ⟨ts, i, t, rfl, rfl, e, q⟩ := p
    cases d2
    cases d1 with
    | tup h1 h2 =>
      obtain ⟨z, e1, e2⟩ := atI_dts h2 e
      exact ⟨_, _, i, z, rfl, rfl, sub_seqT mi_sub h1, e1, k _ _ _ H q (Fe.refl _ _) S e2⟩
theorem ee_ixS {pos : Pos} (h : EE X B M Δ a fun x Δ1 => EE X B M Δ1 b fun y Δ2 => ∃ (z : Str) (i : Int) (c : Nat), x = .str z ∧ y = .int i ∧ z.length ≤ sizeLine ∧ atI z.cps.toList i = some c ∧ Φ (.str ⟨#[c]⟩) Δ2) (hs : PlainIx b := by exact fun _ _ => rfl) : EE X B M Δ (.Subscript a b pos) Φ :=
  ee_two (pe_ix ix_str pe_self pe_self hs) h fun x Δ1 y Δ2 p σ H v w Q S d1 d2 k => by
    obtain ⟨z, i, c, rfl, rfl, hz, e, q⟩ := p
    cases d1; cases d2
    exact ⟨z, i, c, rfl, rfl, hz, e, k _ _ _ H q (Fe.refl _ _) S (.str _)⟩
/-! ### built-in calls -/
/-- what a call of f asks of the data, and what it gives -/
def CalD (X : Cx) (f : Value) (B : Bs) (M : Pl) (Φ : Tr → List En → Prop) (Ψ : List Tr → List En → Prop) : Prop := ∃ r, CallR X f r ∧
  ∀ ts Δ2, Ψ ts Δ2 → ∀ σ H vs (Q : VK), Sk X.K B M H σ Δ2 → Dts X.K (mi M.m H) vs ts → (∀ t Δ' v H', Φ t Δ' → Fe M.w H H' → Sk X.K B M H' σ Δ' → Dt X.K (mi M.m H') v t → Q v H') → r vs H Q
theorem ee_callB {x : Str} {id : String} {p pos : Pos} {Ψ : List Tr → List En → Prop} (hc : CalD X (.builtin id) B M Φ Ψ) (hg : Gl X x) (hm : X.mg x = none) (hv : bootBuiltins x = some (.builtin id)) (h : EA X B M Δ (e :: es) Ψ) (hn : x ≠ "__name__" := by decide) (hdb : (x == ("__debug__" : Str)) = false := by decide)
    (he : starEach (e :: es) X.env = (false, eval e X.env) :: starEach es X.env := by rfl) (hpl : (backTo pos (starEach es X.env)).any (·.1) = false := by rfl) : EE X B M Δ (.Call (.Name x p) (e :: es) [] pos) Φ := fun σ H S Q k => by
  obtain ⟨r, h1, h2⟩ := hc
  exact PE.to (pe_callB h1 hg hm hv pa_self hn hdb he hpl) (h σ H S _ fun ts Δ1 vs H1 p f S1 d1 => h2 ts Δ1 p σ H1 vs Q S1 d1 fun t Δ' v H' p2 f2 S2 d2 => k t Δ' v H' p2 (f.trans f2) S2 d2)
theorem ee_callTy {x : Str} {id : String} {p pos : Pos} {Ψ : List Tr → List En → Prop} (hc : CalD X (.type id) B M Φ Ψ) (hg : Gl X x) (hm : X.mg x = none) (hv : bootBuiltins x = some (.type id)) (h : EA X B M Δ (e :: es) Ψ) (hn : x ≠ "__name__" := by decide) (hdb : (x == ("__debug__" : Str)) = false := by decide)
    (he : starEach (e :: es) X.env = (false, eval e X.env) :: starEach es X.env := by rfl) (hpl : (backTo pos (starEach es X.env)).any (·.1) = false := by rfl) : EE X B M Δ (.Call (.Name x p) (e :: es) [] pos) Φ := fun σ H S Q k => by
  obtain ⟨r, h1, h2⟩ := hc
  exact PE.to (pe_callTy h1 hg hm hv pa_self hn hdb he hpl) (h σ H S _ fun ts Δ1 vs H1 p f S1 d1 => h2 ts Δ1 p σ H1 vs Q S1 d1 fun t Δ' v H' p2 f2 S2 d2 => k t Δ' v H' p2 (f.trans f2) S2 d2)
theorem cl_len : CalD X (.builtin "len") B M Φ fun ts Δ2 => ∃ t, ts = [t] ∧ ((∃ us, (t = .lst us ∨ t = .tup us) ∧ Φ (.int us.length) Δ2)) := ⟨_, call_len_seq, fun ts Δ2 p σ H vs Q S d k => by
  obtain ⟨t, rfl, us, ht, q⟩ := p
  cases d with
  | cons d1 d2 =>
    cases d2
    rcases ht with rfl | rfl
    · cases d1 with
      | lst h1 h2 => exact ⟨_, _, rfl, .inl (sub_seqL mi_sub h1), by rw [h2.length]; exact k _ _ _ H q (Fe.refl _ _) S (.int _)⟩
    · cases d1 with
      | tup h1 h2 => exact ⟨_, _, rfl, .inr (sub_seqT mi_sub h1), by rw [h2.length]; exact k _ _ _ H q (Fe.refl _ _) S (.int _)⟩⟩
theorem cl_lenS : CalD X (.builtin "len") B M Φ fun ts Δ2 => ∃ z : Str, ts = [.str z] ∧ z.length ≤ sizeLine ∧ Φ (.int z.length) Δ2 := ⟨_, call_len_str, fun ts Δ2 p σ H vs Q S d k => by
  obtain ⟨z, rfl, hz, q⟩ := p
  cases d with
  | cons d1 d2 =>
    cases d2; cases d1
    exact ⟨z, rfl, hz, k _ _ _ H q (Fe.refl _ _) S (.int _)⟩⟩
theorem cl_abs : CalD X (.builtin "abs") B M Φ fun ts Δ2 => ∃ i : Int, ts = [.int i] ∧ Φ (.int (if i < 0 then -i else i)) Δ2 := ⟨_, call_abs, fun ts Δ2 p σ H vs Q S d k => by
  obtain ⟨z, rfl, q⟩ := p
  cases d with
  | cons d1 d2 =>
    cases d2; cases d1
    exact ⟨z, rfl, k _ _ _ H q (Fe.refl _ _) S (.int _)⟩⟩
theorem cl_tuple : CalD X (.type "tuple") B M Φ fun ts Δ2 => ∃ us, (ts = [.lst us] ∨ ts = [.tup us]) ∧ Φ (.tup us) Δ2 := ⟨_, call_tuple_of, fun ts Δ2 p σ H vs Q S d k => by
  obtain ⟨us, ht, q⟩ := p
  rcases ht with rfl | rfl
  · cases d with
    | cons d1 d2 =>
      cases d2
      cases d1 with
      | lst h1 h2 =>
        refine ⟨_, _, rfl, .inl ⟨sub_seqL mi_sub h1, fun l hl => ?_⟩⟩
        rename_i a xs
        have s := same_new (o := .tup xs) hl
        exact k _ _ _ _ q (Fe.same s) (S.same s) (.tup (SqT.of (mi_of (S.notM hl) upd_same)) (h2.mono (Sub.of s).mi))
  · cases d with
    | cons d1 d2 =>
      cases d2
      cases d1 with
      | tup h1 h2 => exact ⟨_, _, rfl, .inr ⟨sub_seqT mi_sub h1, k _ _ _ H q (Fe.refl _ _) S (.tup h1 h2)⟩⟩⟩
theorem cl_all (hc : X.calm = true) : CalD X (.builtin "all") B M Φ fun ts Δ2 => ∃ bs : List Bool, ts = [.lst (bs.map Tr.bl)] ∧ Φ (.bl (bs.all id)) Δ2 := ⟨_, (cr_all hc), fun ts Δ2 p σ H vs Q S d k => by
  obtain ⟨us, rfl, q⟩ := p
  cases d with
  | cons d1 d2 =>
    cases d2
    cases d1 with
    | lst h1 h2 =>
      have e := of_bls us h2
      subst e
      exact ⟨_, us, rfl, sub_seqL mi_sub h1, k _ _ _ H q (Fe.refl _ _) S (.bl _)⟩⟩
/-- a built-in's call that gives a new list -/
def CalO (X : Cx) (f : Value) (B : Bs) (M : Pl) (Φ : Tr → List En → Prop) (Ψ : List Tr → List En → Prop) : Prop := ∃ r, CallR X f r ∧
  ∀ ts Δ2, Ψ ts Δ2 → ∀ σ H vs (Q : VK), Sk X.K B M H σ Δ2 → Dts X.K (mi M.m H) vs ts → (∀ t l H', Φ t Δ2 → Same H H' → H l = none → Ow X.K (mi M.m H) H' l t → Q (.ref l) H') → r vs H Q
theorem eo_callTy {x : Str} {id : String} {p pos : Pos} {Ψ : List Tr → List En → Prop} (hc : CalO X (.type id) B M Φ Ψ) (hg : Gl X x) (hm : X.mg x = none) (hv : bootBuiltins x = some (.type id)) (h : EA X B M Δ (e :: es) Ψ) (hn : x ≠ "__name__" := by decide) (hdb : (x == ("__debug__" : Str)) = false := by decide)
    (he : starEach (e :: es) X.env = (false, eval e X.env) :: starEach es X.env := by rfl) (hpl : (backTo pos (starEach es X.env)).any (·.1) = false := by rfl) : EO X B M Δ (.Call (.Name x p) (e :: es) [] pos) Φ := fun σ H S Q k => by
  obtain ⟨r, h1, h2⟩ := hc
  refine PE.to (pe_callTy h1 hg hm hv pa_self hn hdb he hpl) (h σ H S _ fun ts Δ1 vs H1 p f S1 d1 => h2 ts Δ1 p σ H1 vs Q S1 d1 fun t l H' p2 s hl ow => ?_)
  obtain ⟨a1, a2, a3⟩ := S1.newOwn hl s ow
  exact k t Δ1 l H' p2 (f.trans (Fe.same s)) (f.free (fun b z => S1.al b (S1.wm b z)) hl) a1 a2 a3
theorem eo_callB {x : Str} {id : String} {p pos : Pos} {Ψ : List Tr → List En → Prop} (hc : CalO X (.builtin id) B M Φ Ψ) (hg : Gl X x) (hm : X.mg x = none) (hv : bootBuiltins x = some (.builtin id)) (h : EA X B M Δ (e :: es) Ψ) (hn : x ≠ "__name__" := by decide) (hdb : (x == ("__debug__" : Str)) = false := by decide)
    (he : starEach (e :: es) X.env = (false, eval e X.env) :: starEach es X.env := by rfl) (hpl : (backTo pos (starEach es X.env)).any (·.1) = false := by rfl) : EO X B M Δ (.Call (.Name x p) (e :: es) [] pos) Φ := fun σ H S Q k => by
  obtain ⟨r, h1, h2⟩ := hc
  refine PE.to (pe_callB h1 hg hm hv pa_self hn hdb he hpl) (h σ H S _ fun ts Δ1 vs H1 p f S1 d1 => h2 ts Δ1 p σ H1 vs Q S1 d1 fun t l H' p2 s hl ow => ?_)
  obtain ⟨a1, a2, a3⟩ := S1.newOwn hl s ow
  exact k t Δ1 l H' p2 (f.trans (Fe.same s)) (f.free (fun b z => S1.al b (S1.wm b z)) hl) a1 a2 a3
theorem co_list : CalO X (.type "list") B M Φ fun ts Δ2 => ∃ us, (ts = [.lst us] ∨ ts = [.tup us]) ∧ Φ (.lst us) Δ2 := ⟨_, call_list_of, fun ts Δ2 p σ H vs Q S d k => by
  obtain ⟨us, ht, q⟩ := p
  rcases ht with rfl | rfl
  · cases d with
    | cons d1 d2 =>
      cases d2
      cases d1 with
      | lst h1 h2 => exact ⟨_, _, rfl, .inl (sub_seqL mi_sub h1), fun l hl => k _ l _ q (same_new hl) hl ⟨_, upd_same, h2⟩⟩
  · cases d with
    | cons d1 d2 =>
      cases d2
      cases d1 with
      | tup h1 h2 => exact ⟨_, _, rfl, .inr (sub_seqT mi_sub h1), fun l hl => k _ l _ q (same_new hl) hl ⟨_, upd_same, h2⟩⟩⟩
theorem co_sortedI : CalO X (.builtin "sorted") B M Φ fun ts Δ2 => ∃ ns : List Int, ts = [.lst (ns.map Tr.int)] ∧ ns.length < 64 ∧ ∀ ns' : List Int, ns'.Perm ns → ns'.Pairwise (· ≤ ·) → Φ (.lst (ns'.map Tr.int)) Δ2 := ⟨_, cr_sorted, fun ts Δ2 p σ H vs Q S d k => by
  obtain ⟨ns, rfl, hz, q⟩ := p
  cases d with
  | cons d1 d2 =>
    cases d2
    cases d1 with
    | lst h1 h2 =>
      have e := of_ints ns h2
      subst e
      exact ⟨_, ns, rfl, sub_seqL mi_sub h1, hz, fun ns' l a1 a2 a3 => k _ l _ (q ns' a1 a2) (same_new a3) a3 ⟨_, upd_same, dts_ints _⟩⟩⟩
end
end Wf

set_option Elab.async false
set_option linter.all false
set_option maxRecDepth 100000
set_option maxHeartbeats 1000000
namespace Wf
open PySem PySem.Spec PyProof.Rows L2 LamX
/-! ### statements -/
structure Eo where
  nx : Pl → List En → Prop
  rt : Tr → List En → Prop
  bk : Pl → List En → Prop := fun _ _ => False
  ct : Pl → List En → Prop := fun _ _ => False
structure Post (K : PySem.W.Frag) (B : Bs) (M : Pl) (H : Hp) (D : Ends) (Ψ : Eo) : Prop where
  nx : ∀ M' Δ' σ' H', Ψ.nx M' Δ' → Sub (mi M.m H) (mi M'.m H') → Sk K B M' H' σ' Δ' → D.nx σ' H'
  rt : ∀ t M' Δ' v σ' H', Ψ.rt t Δ' → Sub (mi M.m H) (mi M'.m H') → Sk K B M' H' σ' Δ' → Dt K (mi M'.m H') v t → D.rt v H'
  bk : ∀ M' Δ' σ' H', Ψ.bk M' Δ' → Sub (mi M.m H) (mi M'.m H') → Sk K B M' H' σ' Δ' → D.bk σ' H'
  ct : ∀ M' Δ' σ' H', Ψ.ct M' Δ' → Sub (mi M.m H) (mi M'.m H') → Sk K B M' H' σ' Δ' → D.ct σ' H'
theorem Post.sub {K : PySem.W.Frag} {B : Bs} {M M1 : Pl} {H H1 : Hp} {D : Ends} {Ψ : Eo} (p : Post K B M H D Ψ) (s : Sub (mi M.m H) (mi M1.m H1)) : Post K B M1 H1 D Ψ :=
  ⟨fun M' Δ' σ' H' a b c => p.nx M' Δ' σ' H' a (s.trans b) c, fun t M' Δ' v σ' H' a b c => p.rt t M' Δ' v σ' H' a (s.trans b) c, fun M' Δ' σ' H' a b c => p.bk M' Δ' σ' H' a (s.trans b) c, fun M' Δ' σ' H' a b c => p.ct M' Δ' σ' H' a (s.trans b) c⟩
def SS (X : Cx) (B : Bs) (M : Pl) (Δ : List En) (ss : List Stmt) (Ψ : Eo) : Prop := ∀ σ H, Sk X.K B M H σ Δ → ∀ D : Ends, Post X.K B M H D Ψ → WSs X ss D σ H
def S1 (X : Cx) (B : Bs) (M : Pl) (Δ : List En) (st : Stmt) (Ψ : Eo) : Prop := ∀ σ H, Sk X.K B M H σ Δ → ∀ D : Ends, Post X.K B M H D Ψ → WS X st D σ H
section
variable {X : Cx} {B : Bs} {M : Pl} {Δ : List En} {e a b c : Expr} {es : List Expr} {Ψ : Eo} {st : Stmt} {ss body : List Stmt} {pos : Pos}
theorem ss_nil (h : Ψ.nx M Δ) : SS X B M Δ [] Ψ := fun σ H S D p => PSs.to pss_nil (p.nx M Δ σ H h (Sub.refl _) S)
theorem ss_cons (h : S1 X B M Δ st { Ψ with nx := fun M1 Δ1 => SS X B M1 Δ1 ss Ψ }) : SS X B M Δ (st :: ss) Ψ := fun σ H S D p =>
  PSs.to (pss_cons ps_self pss_self) (h σ H S { D with nx := WSs X ss D } ⟨fun M1 Δ1 σ1 H1 q s S1 => q σ1 H1 S1 D (p.sub s), p.rt, p.bk, p.ct⟩)
theorem ss_one (h : S1 X B M Δ st Ψ) : SS X B M Δ [st] Ψ := fun σ H S D p => PSs.to (pss_one ps_self) (h σ H S D p)
/-- an owned slot is given out: from now on it stands still -/
def rem (M : Pl) (l : Addr) : Pl := ⟨fun b => M.m b ∧ b ≠ l, M.w⟩
theorem Sk.share {K : PySem.W.Frag} {H : Hp} {σ : L2.St} {i : Nat} {l : Addr} {t : Tr} (S : Sk K B M H σ Δ) (h : Δ[i]? = some (.own l t)) : Sk K B (rem M l) H σ (Δ.set i (.dat t)) := by
  obtain ⟨h1, h2, h3, h4, h5⟩ := S.ownAt h
  have hs : Sub (mi M.m H) (mi (rem M l).m H) := mi_le fun b z => z.1
  have hi : i < Δ.length := (List.getElem?_eq_some_iff.mp h).1
  refine { len := by rw [List.length_set]; exact S.len, al := fun b z => S.al b z.1, wm := fun b z => ⟨S.wm b z, fun e => h4 (e ▸ z)⟩, m0 := fun b z => ⟨S.m0 b z, fun e => h3 (e ▸ z)⟩, pm := S.pm, own := fun b z => S.own b z.1, wp := S.wp, fr := S.fr, tb := S.tb, dis := fun a b e f l' he hf el fl => ?_, sl := fun j e q => ?_ }
  · have ha : a ≠ i := by
      rintro rfl
      rw [List.getElem?_set_self hi] at he
      cases he; cases el
    have hb : b ≠ i := by
      rintro rfl
      rw [List.getElem?_set_self hi] at hf
      cases hf; cases fl
    rw [List.getElem?_set_ne (Ne.symm ha)] at he
    rw [List.getElem?_set_ne (Ne.symm hb)] at hf
    exact S.dis a b e f l' he hf el fl
  · by_cases hj : j = i
    · subst hj
      rw [List.getElem?_set_self hi] at q
      cases q
      exact ⟨_, h1, (h5.mono hs fun _ _ z => z).dt fun o _ z => mi_of (fun y => y.2 rfl) z⟩
    · rw [List.getElem?_set_ne (Ne.symm hj)] at q
      obtain ⟨o, e1, e2⟩ := S.sl j e q
      refine ⟨o, e1, ?_⟩
      have hne : ∀ l', e.adr = some l' → l' ≠ l := fun l' z y => hj (S.dis j i e _ l q h (by rw [z, y]) rfl)
      cases o with
      | none => cases e <;> first | exact True.intro | exact e2.elim
      | some v =>
        cases e with
        | any => exact True.intro
        | dat t => exact Dt.mono hs e2
        | own l' t =>
          obtain ⟨x1, x2, x3, x4, x5⟩ := e2
          exact ⟨x1, ⟨x2, hne l' rfl⟩, x3, x4, x5.mono hs fun _ _ z => z⟩
        | pen l' N =>
          obtain ⟨x1, x2, x3⟩ := e2
          exact ⟨x1, x2, x3.mono hs fun _ _ z => z⟩
theorem ss_share (i : Nat) {l : Addr} {t : Tr} (hi : Δ[i]? = some (.own l t)) (h : SS X B (rem M l) (Δ.set i (.dat t)) ss Ψ) : SS X B M Δ ss Ψ := fun σ H S D p => h σ H (S.share hi) D (p.sub (mi_le fun b z => z.1))
theorem s1_share (i : Nat) {l : Addr} {t : Tr} (hi : Δ[i]? = some (.own l t)) (h : S1 X B (rem M l) (Δ.set i (.dat t)) st Ψ) : S1 X B M Δ st Ψ := fun σ H S D p => h σ H (S.share hi) D (p.sub (mi_le fun b z => z.1))
/-- an owned slot is read, and the answer is no object -/
def Tr.scal : Tr → Bool
  | .non => true
  | .bl _ => true
  | .int _ => true
  | .str _ => true
  | _ => false
theorem Dt.scal {K : PySem.W.Frag} {I I' : Hp} {v : V} {t : Tr} (h : Dt K I v t) (c : t.scal = true) : Dt K I' v t := by
  cases h <;> first | (cases c; done) | exact .non | exact .bl _ | exact .int _ | exact .str _
theorem Sk.back {K : PySem.W.Frag} {H H' : Hp} {σ : L2.St} {i : Nat} {l : Addr} {t : Tr} (S : Sk K B M H σ Δ) (h : Δ[i]? = some (.own l t)) (f : Fe M.w H H') (S' : Sk K B (rem M l) H' σ (Δ.set i (.dat t))) : Sk K B M H' σ Δ := by
  obtain ⟨h1, h2, h3, h4, h5⟩ := S.ownAt h
  have hs := S.sub f
  refine { len := S.len, al := fun b z => ?_, wm := S.wm, m0 := S.m0, pm := S.pm, own := S.own, wp := S.wp, fr := S'.fr, tb := S'.tb, dis := S.dis, sl := fun j e q => ?_ }
  · by_cases hb : b = l
    · subst hb
      have : ∃ o, NT o ∧ H b = some o := by
        cases t <;> first | exact h5.elim | skip
        · obtain ⟨xs, e, _⟩ := h5; exact ⟨_, nt_lst, e⟩
        · obtain ⟨xs, e, _⟩ := h5; exact ⟨_, nt_dK, e⟩
        · obtain ⟨_, xs, e, _⟩ := h5; exact ⟨_, nt_ins, e⟩
      obtain ⟨o, n, e⟩ := this
      exact ⟨o, f.k _ o h4 n e⟩
    · exact S'.al b ⟨z, hb⟩
  · obtain ⟨o, e1, e2⟩ := S.sl j e q
    refine ⟨o, e1, ?_⟩
    cases o with
    | none => cases e <;> first | exact True.intro | exact e2.elim
    | some v =>
      cases e with
      | any => exact True.intro
      | dat t => exact Dt.mono hs e2
      | own l' t =>
        obtain ⟨x1, x2, x3, x4, x5⟩ := e2
        exact ⟨x1, x2, x3, x4, x5.mono hs fun o n z => f.k _ o x4 n z⟩
      | pen l' N =>
        have hj : j ≠ i := by
          rintro rfl
          rw [h] at q; cases q
        obtain ⟨_, y1, sp, mo, z1, z2, z3⟩ := S'.penAt (i := j) (p := l') (N := N) (by rw [List.getElem?_set_ne (Ne.symm hj)]; exact q)
        obtain ⟨x1, x2, _, _, w1, w2, w3⟩ := e2
        exact ⟨x1, x2, sp, mo, z1, sub_seqL hs w2, z3⟩
theorem EE.borrow (i : Nat) {l : Addr} {t : Tr} {Φ : Tr → List En → Prop} (hi : Δ[i]? = some (.own l t)) (h : EE X B (rem M l) (Δ.set i (.dat t)) e fun r Δ' => r.scal = true ∧ Δ' = Δ.set i (.dat t) ∧ Φ r Δ) : EE X B M Δ e Φ := fun σ H S Q k =>
  h σ H (S.share hi) Q fun r Δ' v H' p f S' d => by
    obtain ⟨p1, rfl, p3⟩ := p
    exact k r Δ v H' p3 f (S.back hi f S') (d.scal p1)
theorem ET.borrow (i : Nat) {l : Addr} {t : Tr} {Γ : Bool → List En → Prop} (hi : Δ[i]? = some (.own l t)) (h : ET X B (rem M l) (Δ.set i (.dat t)) e fun r Δ' => Δ' = Δ.set i (.dat t) ∧ Γ r Δ) : ET X B M Δ e Γ := fun σ H S Q k =>
  h σ H (S.share hi) Q fun r Δ' H' p f S' => by
    obtain ⟨rfl, p3⟩ := p
    exact k r Δ H' p3 f (S.back hi f S')
/-! ### assignments, returns, expressions, ifs -/
theorem s_expr {Φ : Tr → List En → Prop} (h : EE X B M Δ e fun _ Δ1 => Ψ.nx M Δ1) (hs : swapsWith e none pos.line X.env = pure false := by rfl) : S1 X B M Δ (.Expr e pos) Ψ := fun σ H S D p =>
  PS.to (ps_expr pe_self hs) (h σ H S _ fun t Δ1 v H1 q f S1 d => p.nx M Δ1 σ H1 q (S.sub f) S1)
theorem s_ret (h : EE X B M Δ e fun t Δ1 => Ψ.rt t Δ1) : S1 X B M Δ (.Return (some e) pos) Ψ := fun σ H S D p =>
  PS.to (ps_ret pe_self) (h σ H S _ fun t Δ1 v H1 q f S1 d => p.rt t M Δ1 v σ H1 q (S.sub f) S1 d)
theorem s_retN (h : Ψ.rt .non Δ) : S1 X B M Δ (.Return none pos) Ψ := fun σ H S D p => PS.to ps_retN (p.rt .non M Δ .non σ H h (Sub.refl _) S .non)
theorem s_pass (h : Ψ.nx M Δ) : S1 X B M Δ (.Pass pos) Ψ := fun σ H S D p => PS.to ps_pass (p.nx M Δ σ H h (Sub.refl _) S)
theorem s_break (h : Ψ.bk M Δ) : S1 X B M Δ (.Break pos) Ψ := fun σ H S D p => PS.to ps_break (p.bk M Δ σ H h (Sub.refl _) S)
theorem s_continue (h : Ψ.ct M Δ) : S1 X B M Δ (.Continue pos) Ψ := fun σ H S D p => PS.to ps_continue (p.ct M Δ σ H h (Sub.refl _) S)
theorem s_if {orelse : List Stmt} (h : ET X B M Δ c fun k Δ1 => (k = true → SS X B M Δ1 body Ψ) ∧ (k = false → SS X B M Δ1 orelse Ψ)) : S1 X B M Δ (.If c body orelse pos) Ψ := fun σ H S D p =>
  PS.to (ps_if pt_self pss_self pss_self) (h σ H S _ fun k Δ1 H1 q f S1 => by
    cases k with
    | true => exact iteT (q.1 rfl σ H1 S1 D (p.sub (S.sub f)))
    | false => exact iteF (q.2 rfl σ H1 S1 D (p.sub (S.sub f))))
/-- x = e -/
theorem s_asg (i : Nat) {x : Str} {p' : Pos} (hN : X.N.Nodup) (hi : X.N[i]? = some x) (h : EE X B M Δ e fun t Δ1 => Ψ.nx M (Δ1.set i (.dat t)))
    (hs : swapsWith e (some (.Name x p')) pos.line X.env = pure false := by rfl) (hf : X.fn x = true ∨ X.env.scope.names.lookup x = some .local := by first | exact .inl rfl | exact .inr rfl) (hx : Loc X.env.scope x := by first | exact Or.inl rfl | exact Or.inr rfl) : S1 X B M Δ (.Assign [.Name x p'] e pos) Ψ := fun σ H S D p =>
  PS.to (ps_set (i := i) hN hi hx pe_self hs hf) (h σ H S _ fun t Δ1 v H1 q f S1 d => p.nx M _ _ H1 q (S.sub f) (S1.set i d))
/-- x = a new list, owned -/
theorem s_asgO (i : Nat) {x : Str} {p' : Pos} (hN : X.N.Nodup) (hi : X.N[i]? = some x) (h : EO X B M Δ e fun t Δ1 => ∀ l, ¬ M.m l → Ψ.nx (ins M l) (Δ1.set i (.own l t)))
    (hs : swapsWith e (some (.Name x p')) pos.line X.env = pure false := by rfl) (hf : X.fn x = true ∨ X.env.scope.names.lookup x = some .local := by first | exact .inl rfl | exact .inr rfl) (hx : Loc X.env.scope x := by first | exact Or.inl rfl | exact Or.inr rfl) : S1 X B M Δ (.Assign [.Name x p'] e pos) Ψ := fun σ H S D p =>
  PS.to (ps_set (i := i) hN hi hx pe_self hs hf) (h σ H S _ fun t Δ1 l H1 q f hl S1 hn ow => by
    have nM := S.notM hl
    refine p.nx (ins M l) _ _ H1 (q l nM) (mi_new hl S f) (S1.put i (o := some (.ref l)) (e := .own l t) ⟨rfl, .inr rfl, fun z => nM (S.m0 l z), fun z => nM (S.wm l z), ow⟩ fun l' z j f' _ hf' y => ?_)
    cases z
    exact hn f' (List.mem_of_getElem? hf') y)
/-- a, b = x, y -/
theorem s_par (i j : Nat) {x y : Str} {px py pt pt2 : Pos} {kt k2 : Nat} (hE : ∀ ta, PA X [a, b] ta → PS X (.Assign [.Tuple [.Name x px, .Name y py] kt pt] (.Tuple [a, b] k2 pt2) pos) (tPar i j ta)) (h : EE X B M Δ a fun t Δ1 => EE X B M Δ1 b fun u Δ2 => Ψ.nx M ((Δ2.set i (.dat t)).set j (.dat u)))
    (hs : starEach [a, b] X.env = (false, eval a X.env) :: starEach [b] X.env := by rfl) (hs2 : starEach [b] X.env = (false, eval b X.env) :: starEach [] X.env := by rfl) : S1 X B M Δ (.Assign [.Tuple [.Name x px, .Name y py] kt pt] (.Tuple [a, b] k2 pt2) pos) Ψ := fun σ H S D p =>
  PS.to (hE _ (pa_cons pe_self (pa_cons pe_self pa_nil hs2) hs)) (h σ H S _ fun t Δ1 v H1 q f S1 d => q σ H1 S1 _ fun u Δ2 w H2 q2 f2 S2 d2 =>
    ⟨v, w, rfl, p.nx M _ _ H2 q2 (S.sub (f.trans f2)) ((S2.set i (d.mono (S1.sub f2))).set j d2)⟩)
/-- a, b = two new lists -/
theorem s_parOO (i j : Nat) {x y : Str} {px py pt pt2 : Pos} {kt k2 : Nat} (hE : ∀ ta, PA X [a, b] ta → PS X (.Assign [.Tuple [.Name x px, .Name y py] kt pt] (.Tuple [a, b] k2 pt2) pos) (tPar i j ta)) (hij : i ≠ j) (h : EO X B M Δ a fun t Δ1 => ∀ l, ¬ M.m l → EO X B (ins M l) Δ1 b fun u Δ2 => ∀ m, ¬ M.m m → m ≠ l → Δ2 = Δ1 ∧ Ψ.nx (ins (ins M l) m) ((Δ2.set i (.own l t)).set j (.own m u)))
    (hs : starEach [a, b] X.env = (false, eval a X.env) :: starEach [b] X.env := by rfl) (hs2 : starEach [b] X.env = (false, eval b X.env) :: starEach [] X.env := by rfl) : S1 X B M Δ (.Assign [.Tuple [.Name x px, .Name y py] kt pt] (.Tuple [a, b] k2 pt2) pos) Ψ := fun σ H S D p =>
  PS.to (hE _ (pa_cons pe_self (pa_cons pe_self pa_nil hs2) hs)) (h σ H S _ fun t Δ1 l H1 q f hl S1 hn ow => q l (S.notM hl) σ H1 S1 _ fun u Δ2 m H2 q2 f2 hm S2 hn2 ow2 => by
    have nM := S.notM hl
    have nm := S1.notM hm
    have hml : m ≠ l := fun z => nm (.inr z)
    obtain ⟨rfl, q3⟩ := q2 m (fun z => nm (.inl z)) hml
    have nw : ¬ M.w l := fun z => nM (S.wm l z)
    have s12 : Sub (mi (ins M l).m H1) (mi (ins (ins M l) m).m H2) := mi_new hm S1 f2
    have ow' : Ow X.K (mi (ins (ins M l) m).m H2) H2 l t := ow.mono s12 fun o n z => f2.k _ o nw n z
    refine ⟨_, _, rfl, p.nx _ _ _ H2 q3 ((mi_new hl S f).trans s12) ?_⟩
    have S3 := S2.put i (o := some (.ref l)) (e := .own l t) ⟨rfl, .inl (.inr rfl), fun z => nM (S.m0 l z), nw, ow'⟩ fun l' z j' f' _ hf' y => by
      cases z
      exact hn f' (List.mem_of_getElem? hf') y
    refine S3.put j (o := some (.ref m)) (e := .own m u) ⟨rfl, .inr rfl, fun z => nm (S1.m0 m z), fun z => nm (S1.wm m z), ow2⟩ fun l' z j' f' hj' hf' y => ?_
    cases z
    by_cases hji : j' = i
    · subst hji
      rw [List.getElem?_set] at hf'
      split at hf'
      · split at hf'
        · cases hf'; cases y; exact hml rfl
        · cases hf'
      · rename_i z; exact z rfl
    · rw [List.getElem?_set_ne (Ne.symm hji)] at hf'
      exact hn2 f' (List.mem_of_getElem? hf') y)
/-- an owned place is written -/
theorem tabs_upd {T : List (Addr × Str)} {H : Hp} {l : Addr} {o : HO} (h : Tabs T H) (h1 : ∀ ps, H l ≠ some (.tbl ps)) (h2 : ∀ q, H l ≠ some (CodeO l q)) : Tabs T (upd H l o) := fun p hp => by
  obtain ⟨ps, e1, e2, e3⟩ := h p hp
  refine ⟨ps, by rw [upd_ne (fun z => by rw [z] at e1; exact h1 ps e1)]; exact e1, e2, fun pos cv hc => ?_⟩
  obtain ⟨c, z1, z2⟩ := e3 pos cv hc
  exact ⟨c, z1, by rw [upd_ne (fun z => h2 p.2 (by subst z; exact z2))]; exact z2⟩
theorem Ow.kind {K : PySem.W.Frag} {I H : Hp} {l : Addr} {t : Tr} (h : Ow K I H l t) : (∃ xs, H l = some (.lst xs)) ∨ (∃ xs, H l = some (.dK xs)) ∨ ∃ C dx fs, H l = some (.ins C dx fs) := by
  cases t <;> first | exact h.elim | skip
  · obtain ⟨xs, e, _⟩ := h; exact .inl ⟨_, e⟩
  · obtain ⟨xs, e, _⟩ := h; exact .inr (.inl ⟨_, e⟩)
  · obtain ⟨_, xs, e, _⟩ := h; exact .inr (.inr ⟨_, _, _, e⟩)
theorem kind_ne {H : Hp} {l : Addr} (h : (∃ xs, H l = some (.lst xs)) ∨ (∃ xs, H l = some (.dK xs)) ∨ ∃ C dx fs, H l = some (.ins C dx fs)) : (∀ ps, H l ≠ some (.tbl ps)) ∧ ∀ q, H l ≠ some (CodeO l q) := by
  rcases h with ⟨_, e⟩ | ⟨_, e⟩ | ⟨_, _, _, e⟩ <;> refine ⟨fun ps z => ?_, fun q z => ?_⟩ <;> (rw [e] at z; have z' := Option.some.inj z; first | exact HO.noConfusion z' | (unfold CodeO at z'; exact HO.noConfusion z'))
theorem Sk.write {K : PySem.W.Frag} {H : Hp} {σ : L2.St} {i : Nat} {l : Addr} {t t' : Tr} {o : HO} (S : Sk K B M H σ Δ) (h : Δ[i]? = some (.own l t)) (ow : Ow K (mi M.m H) (upd H l o) l t') :
    Sk K B M (upd H l o) σ (Δ.set i (.own l t')) ∧ Sub (mi M.m H) (mi M.m (upd H l o)) := by
  obtain ⟨h1, h2, h3, h4, h5⟩ := S.ownAt h
  have s := mi_write (M := M.m) (H := H) (l := l) (o := o) h2
  have kd := kind_ne h5.kind
  have h0 : B.H0 l = none := (S.own l h2).elim (fun z => absurd z h3) id
  have hi : i < Δ.length := (List.getElem?_eq_some_iff.mp h).1
  refine ⟨{ len := by rw [List.length_set]; exact S.len, al := fun b z => ?_, wm := S.wm, m0 := S.m0, pm := S.pm, own := S.own, wp := S.wp, fr := ⟨fun b u p n e => ?_, fun b ps e => ?_⟩, tb := tabs_upd S.tb kd.1 kd.2, dis := fun a b e f l' he hf el fl => ?_, sl := fun j e q => ?_ }, s⟩
  · by_cases hb : b = l
    · exact ⟨o, by rw [hb, upd_same]⟩
    · obtain ⟨u, e⟩ := S.al b z
      exact ⟨u, by rw [upd_ne hb]; exact e⟩
  · have hb : b ≠ l := fun z => by rw [z, h0] at e; cases e
    rw [upd_ne hb]; exact S.fr.k b u p n e
  · have hb : b ≠ l := fun z => by rw [z, h0] at e; cases e
    obtain ⟨qs, e'⟩ := S.fr.t b ps e
    exact ⟨qs, by rw [upd_ne hb]; exact e'⟩
  · have key : ∀ (a : Nat) (e : En), (Δ.set i (.own l t'))[a]? = some e → ∃ e', Δ[a]? = some e' ∧ e'.adr = e.adr := fun a e he => by
      by_cases ha : a = i
      · subst ha
        rw [List.getElem?_set_self hi] at he
        cases he
        exact ⟨_, h, rfl⟩
      · rw [List.getElem?_set_ne (Ne.symm ha)] at he
        exact ⟨e, he, rfl⟩
    obtain ⟨e1, x1, x2⟩ := key a e he
    obtain ⟨f1, y1, y2⟩ := key b f hf
    exact S.dis a b e1 f1 l' x1 y1 (x2.trans el) (y2.trans fl)
  · by_cases hj : j = i
    · subst hj
      rw [List.getElem?_set_self hi] at q
      cases q
      exact ⟨_, h1, rfl, h2, h3, h4, ow.mono s fun _ _ z => z⟩
    · rw [List.getElem?_set_ne (Ne.symm hj)] at q
      obtain ⟨u, e1, e2⟩ := S.sl j e q
      exact ⟨u, e1, e2.mono (fun _ z => z) (fun _ => Iff.rfl) s fun l' z o' _ y => by rw [upd_ne (fun w => hj (S.dis j i e _ l q h (by rw [z, w]) rfl))]; exact y⟩
/-- x.append(e), x owned -/
theorem s_append (i : Nat) {x : Str} {p1 p2 p3 : Pos} (hN : X.N[i]? = some x) {l : Addr} {ts0 : List Tr} (hi : Δ[i]? = some (.own l (.lst ts0)))
    (h : EE X B M Δ e fun t Δ1 => ∃ ts, Δ1[i]? = some (.own l (.lst ts)) ∧ ts.length < sizeLine ∧ Ψ.nx M (Δ1.set i (.own l (.lst (ts ++ [t])))))
    (hE : PS X (.Expr (.Call (.Attribute (.Name x p1) "append" p2) [e] [] p3) pos) (tDrop (tBM X.K "list" rAppend (tVar i) (tCons (WE X e) tNil))) := by
      exact ps_expr (pe_bm PySem.F.plainAttrs_list PySem.F.slot_list_append PySem.F.type_list_append mt_append (pv _) (pa_cons pe_self pa_nil))) (hv : Vis X.env.scope x := by first | exact Or.inl rfl | exact Or.inr (Or.inl rfl) | exact Or.inr (Or.inr rfl)) : S1 X B M Δ (.Expr (.Call (.Attribute (.Name x p1) "append" p2) [e] [] p3) pos) Ψ := fun σ H S D p => by
  obtain ⟨h1, h2, h3, h4, xs0, h5, h6⟩ := S.ownAt hi
  refine PS.to hE ⟨_, h1, .inl ⟨rfl, _, SqL.of h5⟩, h σ H S _ fun t Δ1 v H1 q f S1 d => ?_⟩
  obtain ⟨ts, q1, q2, q3⟩ := q
  obtain ⟨_, _, _, _, xs, h7, h8⟩ := S1.ownAt q1
  refine ⟨l, xs, v, rfl, rfl, h7, by rw [h8.length]; exact q2, ?_⟩
  obtain ⟨S2, s2⟩ := S1.write (o := .lst (xs ++ [v])) (t' := .lst (ts ++ [t])) q1 ⟨_, upd_same, h8.append (.cons d .nil)⟩
  exact p.nx M _ σ _ q3 ((S.sub f).trans s2) S2
end
end Wf

set_option Elab.async false
set_option linter.all false
set_option maxRecDepth 100000
set_option maxHeartbeats 1000000
namespace Wf
open PySem PySem.Spec PyProof.Rows L2 LamX
/-! ### targets -/
inductive Tg where
  | nm (k : Nat)
  | tp (a b : Nat)
def Tg.vs : Tg → List Nat
  | .nm k => [k]
  | .tp a b => [a, b]
def Tg.g (K : PySem.W.Frag) : Tg → TG
  | .nm k => gName k
  | .tp a b => gTup K 2 (gCons (gName a) (gCons (gName b) gNil))
def Tg.ok : Tg → Tr → Prop
  | .nm _, _ => True
  | .tp _ _, t => ∃ x y, t = .tup [x, y]
def Tg.set (Δ : List En) : Tg → Tr → List En
  | .nm k, t => Δ.set k (.dat t)
  | .tp a b, .tup [x, y] => (Δ.set a (.dat x)).set b (.dat y)
  | .tp _ _, _ => Δ
def Tg.put (σ : L2.St) : Tg → List V → L2.St
  | .nm k, [v] => σ.set k (some v)
  | .tp a b, [v, w] => (σ.set a (some v)).set b (some w)
  | _, _ => σ
theorem tg_run {K : PySem.W.Frag} {B : Bs} {M : Pl} {H : Hp} {σ : L2.St} {Δ : List En} (T : Tg) {v : V} {t : Tr} (S : Sk K B M H σ Δ) (d : Dt K (mi M.m H) v t) (ok : T.ok t) (Q : L2.St → Hp → Prop)
    (h : ∀ vs, Sk K B M H (T.put σ vs) (T.set Δ t) → Q (T.put σ vs) H) : T.g K v σ H Q := by
  cases T with
  | nm k => exact h [v] (S.set k d)
  | tp a b =>
    obtain ⟨x, y, rfl⟩ := ok
    cases d with
    | tup h1 h2 =>
      cases h2 with
      | cons d1 h3 =>
        cases h3 with
        | cons d2 h4 =>
          cases h4
          exact ⟨_, _, rfl, sub_seqT mi_sub h1, rfl, _, _, rfl, _, _, rfl, rfl, h [_, _] ((S.set a d1).set b d2)⟩
/-! ### what is walked -/
def EI (X : Cx) (B : Bs) (M : Pl) (Δ : List En) (tg iter : Expr) (Φ : Nat → (Nat → Tr) → List En → Prop) : Prop := ∃ wi, PI X tg iter wi ∧ ∀ σ H, Sk X.K B M H σ Δ → ∀ R : It → Hp → Prop,
  (∀ (n : Nat) (f : Nat → Tr) Δ' (J : It) (G : Hp → Prop) (Y : Nat → Hp → V → Hp → Prop) H', Φ n f Δ' → Fe M.w H H' → Sk X.K B M H' σ Δ' → Walk J n G Y →
    (∀ (M2 : Addr → Prop) H2, Sub (mi M.m H') (mi M2 H2) → G H2) →
    (∀ (i : Nat) x Ha Hb (M2 : Addr → Prop), i < n → Y i Ha x Hb → Sub (mi M.m H') (mi M2 Ha) → (∀ p, Ha p = none → ¬ M2 p) → Same Ha Hb ∧ Dt X.K (mi M2 Hb) x (f i)) → R J H') → wi σ H R
section
variable {X : Cx} {B : Bs} {M : Pl} {Δ : List En} {e l a b c tg iter : Expr} {es : List Expr} {Ψ : Eo} {st : Stmt} {ss body : List Stmt} {pos : Pos} {Φ : Nat → (Nat → Tr) → List En → Prop}
theorem getD_of {α : Type} {ts : List α} {i : Nat} {d t : α} (h : ts[i]? = some t) : ts.getD i d = t := by
  rw [List.getD_eq_getElem?_getD, h]; rfl
theorem ei_list (h : EE X B M Δ l fun t Δ1 => ∃ ts, t = .lst ts ∧ Φ ts.length (fun i => ts.getD i .non) Δ1) : EI X B M Δ tg l Φ :=
  ⟨_, pi_list pe_self, fun σ H S R k => h σ H S _ fun t Δ1 v H1 p f S1 d => by
    obtain ⟨ts, rfl, q⟩ := p
    cases d with
    | lst h1 h2 =>
      rename_i a xs
      refine ⟨a, rfl, ⟨xs, sub_seqL mi_sub h1⟩, k ts.length _ Δ1 (Itl X.K a) _ _ H1 q f S1 (h2.length ▸ walk_list) (fun M2 H2 s => sub_seqL mi_sub (sub_seqL s h1)) fun i x Ha Hb M2 hi y s _ => ?_⟩
      obtain ⟨rfl, y⟩ := y
      obtain ⟨t, e1, e2⟩ := h2.getV y
      exact ⟨fun _ _ z => z, by rw [getD_of e1]; exact e2.mono s⟩⟩
theorem ei_tup (h : EE X B M Δ l fun t Δ1 => ∃ ts, t = .tup ts ∧ Φ ts.length (fun i => ts.getD i .non) Δ1) : EI X B M Δ tg l Φ :=
  ⟨_, pi_tup pe_self, fun σ H S R k => h σ H S _ fun t Δ1 v H1 p f S1 d => by
    obtain ⟨ts, rfl, q⟩ := p
    cases d with
    | tup h1 h2 =>
      rename_i a xs
      refine ⟨a, rfl, ⟨xs, sub_seqT mi_sub h1⟩, k ts.length _ Δ1 (Itt X.K a) _ _ H1 q f S1 (h2.length ▸ walk_tup) (fun M2 H2 s => sub_seqT mi_sub (sub_seqT s h1)) fun i x Ha Hb M2 hi y s _ => ?_⟩
      obtain ⟨rfl, y⟩ := y
      obtain ⟨t, e1, e2⟩ := h2.getV y
      exact ⟨fun _ _ z => z, by rw [getD_of e1]; exact e2.mono s⟩⟩
theorem ei_str (h : EE X B M Δ l fun t Δ1 => ∃ z : Str, t = .str z ∧ Φ z.cps.size (fun i => .str ⟨#[z.cps.getD i 0]⟩) Δ1) : EI X B M Δ tg l Φ :=
  ⟨_, pi_str pe_self, fun σ H S R k => h σ H S _ fun t Δ1 v H1 p f S1 d => by
    obtain ⟨z, rfl, q⟩ := p
    cases d
    refine ⟨z, rfl, k z.cps.size _ Δ1 (Its z) _ _ H1 q f S1 walk_str (fun _ _ _ => True.intro) fun i x Ha Hb M2 hi y s _ => ?_⟩
    obtain ⟨rfl, c, y, rfl⟩ := y
    refine ⟨fun _ _ z => z, ?_⟩
    have : z.cps.getD i 0 = c := by rw [Array.getD_eq_getD_getElem?, y]; rfl
    rw [this]
    exact .str _⟩
theorem ei_range1 {p pos : Pos} (hg : Gl X "range") (hm : X.mg "range" = none) (h : EE X B M Δ a fun t Δ1 => ∃ j : Int, t = .int j ∧ -(2 ^ 62) ≤ j ∧ j < 2 ^ 62 ∧ Φ j.toNat (fun i => .int i) Δ1) (hs : starEach [a] X.env = [(false, eval a X.env)] := by rfl) : EI X B M Δ tg (.Call (.Name "range" p) [a] [] pos) Φ :=
  ⟨_, pi_range1 hg hm (pa_cons pe_self pa_nil hs) hs, fun σ H S R k => h σ H S _ fun t Δ1 v H1 p f S1 d => by
    obtain ⟨j, rfl, h1, h2, q⟩ := p
    cases d
    refine ⟨j, rfl, h1, h2, k j.toNat _ Δ1 _ _ _ H1 q f S1 walk_range (fun _ _ _ => True.intro) fun i x Ha Hb M2 hi y s _ => ?_⟩
    obtain ⟨rfl, rfl⟩ := y
    refine ⟨fun _ _ z => z, ?_⟩
    show Dt X.K _ (.int (0 + (i : Int))) (.int (i : Int))
    rw [Int.zero_add]
    exact .int _⟩
theorem ei_range2 {p pos : Pos} (hg : Gl X "range") (hm : X.mg "range" = none) (h : EE X B M Δ a fun t Δ1 => EE X B M Δ1 b fun u Δ2 => ∃ i j : Int, t = .int i ∧ u = .int j ∧ (-(2 ^ 62) ≤ i ∧ i < 2 ^ 62 ∧ -(2 ^ 62) ≤ j ∧ j < 2 ^ 62) ∧ Φ (j - i).toNat (fun k => .int (i + k)) Δ2)
    (hs : starEach [a, b] X.env = (false, eval a X.env) :: starEach [b] X.env := by rfl) (hs2 : starEach [b] X.env = (false, eval b X.env) :: starEach [] X.env := by rfl) (hE : ∀ ta, PA X [a, b] ta → PI X tg (.Call (.Name "range" p) [a, b] [] pos) (iRng2 ta) := by exact fun _ ha => pi_range2 (by assumption) (by assumption) ha) : EI X B M Δ tg (.Call (.Name "range" p) [a, b] [] pos) Φ :=
  ⟨_, hE _ (pa_cons pe_self (pa_cons pe_self pa_nil hs2) hs), fun σ H S R k => h σ H S _ fun t Δ1 v H1 p f S1 d => p σ H1 S1 _ fun u Δ2 w H2 p2 f2 S2 d2 => by
    obtain ⟨i, j, rfl, rfl, hb, q⟩ := p2
    cases d; cases d2
    refine ⟨i, j, rfl, hb, k _ _ Δ2 _ _ _ H2 q (f.trans f2) S2 walk_range (fun _ _ _ => True.intro) fun i x Ha Hb M2 hi y s _ => ?_⟩
    obtain ⟨rfl, rfl⟩ := y
    exact ⟨fun _ _ z => z, .int _⟩⟩
theorem ei_enum {elts : List Expr} {kk : Nat} {p pos tpos : Pos} (hg : Gl X "enumerate") (hm : X.mg "enumerate" = none) (h : EE X B M Δ a fun t Δ1 => ∃ ts, t = .lst ts ∧ Φ ts.length (fun i => .tup [.int i, ts.getD i .non]) Δ1) (hs : starEach [a] X.env = [(false, eval a X.env)] := by rfl) :
    EI X B M Δ (.Tuple elts kk tpos) (.Call (.Name "enumerate" p) [a] [] pos) Φ :=
  ⟨_, pi_enum hg hm (pa_cons pe_self pa_nil hs) hs, fun σ H S R k => h σ H S _ fun t Δ1 v H1 p f S1 d => by
    obtain ⟨ts, rfl, q⟩ := p
    cases d with
    | lst h1 h2 =>
      rename_i a xs
      refine ⟨a, xs, rfl, sub_seqL mi_sub h1, k ts.length _ Δ1 (Ite X.K a) _ _ H1 q f S1 (h2.length ▸ walk_enum) (fun M2 H2 s => sub_seqL mi_sub (sub_seqL s h1)) fun i x Ha Hb M2 hi y s nM => ?_⟩
      obtain ⟨T, x1, y1, rfl, hT, rfl, ex, ey⟩ := y
      obtain rfl : V.int (i : Nat) = x1 := Option.some.inj ex
      obtain ⟨t, e1, e2⟩ := h2.getV ey
      have sm := same_new (o := .tup [.int (i : Nat), y1]) hT
      refine ⟨sm, ?_⟩
      rw [getD_of e1]
      exact .tup (SqT.of (mi_of (nM T hT) upd_same)) (.cons (.int _) (.cons ((e2.mono s).mono (Sub.of sm).mi) .nil))⟩
theorem ei_zip {elts : List Expr} {kk : Nat} {p pos tpos : Pos} (hg : Gl X "zip") (hm : X.mg "zip" = none) (h : EE X B M Δ a fun t Δ1 => EE X B M Δ1 b fun u Δ2 => ∃ ts us, t = .lst ts ∧ u = .lst us ∧ Φ (min ts.length us.length) (fun i => .tup [ts.getD i .non, us.getD i .non]) Δ2)
    (hs : starEach [a, b] X.env = (false, eval a X.env) :: starEach [b] X.env := by rfl) (hs2 : starEach [b] X.env = (false, eval b X.env) :: starEach [] X.env := by rfl) (hpl : (backTo pos (starEach [b] X.env)).any (·.1) = false := by rfl) :
    EI X B M Δ (.Tuple elts kk tpos) (.Call (.Name "zip" p) [a, b] [] pos) Φ :=
  ⟨_, pi_zip hg hm (pa_cons pe_self (pa_cons pe_self pa_nil hs2) hs) hs hpl, fun σ H S R k => h σ H S _ fun t Δ1 v H1 p f S1 d => p σ H1 S1 _ fun u Δ2 w H2 p2 f2 S2 d2 => by
    obtain ⟨ts, us, rfl, rfl, q⟩ := p2
    have d := d.mono (S1.sub f2)
    cases d with
    | lst h1 h2 =>
      cases d2 with
      | lst g1 g2 =>
        rename_i a1 xs a2 ys
        refine ⟨a1, a2, xs, ys, rfl, sub_seqL mi_sub h1, sub_seqL mi_sub g1, k _ _ Δ2 (Itz X.K a1 a2) _ _ H2 q (f.trans f2) S2 (walk_zip (by rw [h2.length, g2.length])) (fun M2 H2 s => ⟨sub_seqL mi_sub (sub_seqL s h1), sub_seqL mi_sub (sub_seqL s g1)⟩) fun i x Ha Hb M2 hi y s nM => ?_⟩
        obtain ⟨T, x1, y1, rfl, hT, rfl, ex, ey⟩ := y
        obtain ⟨t, e1, e2⟩ := h2.getV ex
        obtain ⟨u, e3, e4⟩ := g2.getV ey
        have sm := same_new (o := .tup [x1, y1]) hT
        refine ⟨sm, ?_⟩
        rw [getD_of e1, getD_of e3]
        exact .tup (SqT.of (mi_of (nM T hT) upd_same)) (.cons ((e2.mono s).mono (Sub.of sm).mi) (.cons ((e4.mono s).mono (Sub.of sm).mi) .nil))⟩
/-! ### for, while -/
theorem s_for (T : Tg) (hp : PassesOwn (model X.prog X.w) X.A X.env X.xe) (hc : X.calm = true) (hg : PG X tg (T.g X.K))
    (h : EI X B M Δ tg iter fun n f Δ1 => ∃ Jv : Nat → Pl → List En → Prop, Jv 0 M Δ1 ∧ (∀ i M' Δ', i < n → Jv i M' Δ' → T.ok (f i) ∧ SS X B M' (T.set Δ' (f i)) body { nx := Jv (i + 1), rt := Ψ.rt, bk := Ψ.nx, ct := Jv (i + 1) }) ∧ ∀ M' Δ', Jv n M' Δ' → Ψ.nx M' Δ')
    (hs : ∀ x, foldedSetIterable iter X.env x = pure x := by intro _; rfl) : S1 X B M Δ (.For tg iter body [] pos) Ψ := fun σ H S D p => by
  obtain ⟨wi, hi, k⟩ := h
  refine PS.to (ps_for hp hc hi hg pss_self hs) (k σ H S _ fun n f Δ1 J G Y H1 q fe S1 w hG hY => ?_)
  obtain ⟨Jv, j0, jt, jd⟩ := q
  have s0 := S.sub fe
  refine for_it w (fun i σ' H' => ∃ M' Δ', Jv i M' Δ' ∧ Sub (mi M.m H1) (mi M'.m H') ∧ Sk X.K B M' H' σ' Δ') ⟨M, Δ1, j0, Sub.refl _, S1⟩ (fun i σ' H' _ ⟨M', Δ', _, s, _⟩ => hG M'.m H' s) ?_ fun σ' H' ⟨M', Δ', j, s, S'⟩ => p.nx M' Δ' σ' H' (jd M' Δ' j) (s0.trans s) S'
  rintro i x σ' Ha Hb hi ⟨M', Δ', j, s, S'⟩ y
  obtain ⟨sm, d⟩ := hY i x Ha Hb M'.m hi y s fun p hp => S'.notM hp
  obtain ⟨ok, hb⟩ := jt i M' Δ' hi j
  have Sb := S'.same sm
  have sab : Sub (mi M.m H1) (mi M'.m Hb) := s.trans (Sub.of sm).mi
  refine tg_run T Sb d ok _ fun vs St => hb _ Hb St _ ⟨fun M2 Δ2 σ2 H2 a b c => ⟨M2, Δ2, a, sab.trans b, c⟩, fun t M2 Δ2 v σ2 H2 a b c d => p.rt t M2 Δ2 v σ2 H2 a (s0.trans (sab.trans b)) c d, fun M2 Δ2 σ2 H2 a b c => p.nx M2 Δ2 σ2 H2 a (s0.trans (sab.trans b)) c, fun M2 Δ2 σ2 H2 a b c => ⟨M2, Δ2, a, sab.trans b, c⟩⟩
theorem s_while (hp : PassesOwn (model X.prog X.w) X.A X.env X.xe) (Jv : Nat → Pl → List En → Prop) (m0 : Nat) (h0 : Jv m0 M Δ)
    (h : ∀ m M' Δ', Jv m M' Δ' → ET X B M' Δ' c fun k Δ2 => (k = true → SS X B M' Δ2 body { nx := fun M3 Δ3 => ∃ m', m' < m ∧ Jv m' M3 Δ3, rt := Ψ.rt, bk := Ψ.nx, ct := fun M3 Δ3 => ∃ m', m' < m ∧ Jv m' M3 Δ3 }) ∧ (k = false → Ψ.nx M' Δ2)) : S1 X B M Δ (.While c body [] pos) Ψ := fun σ H S D p => by
  refine PS.to (ps_while hp pt_self pss_self) ⟨fun m σ' H' => ∃ M' Δ', Jv m M' Δ' ∧ Sub (mi M.m H) (mi M'.m H') ∧ Sk X.K B M' H' σ' Δ', ⟨m0, M, Δ, h0, Sub.refl _, S⟩, ?_⟩
  rintro m σ' H' ⟨M', Δ', j, s, S'⟩
  refine h m M' Δ' j σ' H' S' _ fun k Δ2 H2 q fe S2 => ?_
  have s2 : Sub (mi M.m H) (mi M'.m H2) := s.trans (S'.sub fe)
  cases k with
  | true =>
    refine iteT ⟨fun σ3 H3 => ∃ m', m' < m ∧ ∃ M3 Δ3, Jv m' M3 Δ3 ∧ Sub (mi M.m H) (mi M3.m H3) ∧ Sk X.K B M3 H3 σ3 Δ3, fun _ _ ⟨m', a, b⟩ => ⟨m', a, b⟩, ?_⟩
    refine q.1 rfl σ' H2 S2 _ ⟨fun M3 Δ3 σ3 H3 ⟨m', a, a2⟩ b c => ⟨m', a, M3, Δ3, a2, s2.trans b, c⟩, fun t M3 Δ3 v σ3 H3 a b c d => p.rt t M3 Δ3 v σ3 H3 a (s2.trans b) c d, fun M3 Δ3 σ3 H3 a b c => p.nx M3 Δ3 σ3 H3 a (s2.trans b) c, fun M3 Δ3 σ3 H3 ⟨m', a, a2⟩ b c => ⟨m', a, M3, Δ3, a2, s2.trans b, c⟩⟩
  | false => exact iteF (p.nx M' Δ2 σ' H2 (q.2 rfl) s2 S2)
/-! ### comprehensions -/
def wipeE (Δ : List En) : List Nat → List En
  | [] => Δ
  | v :: vs => (wipeE Δ vs).set v .any
theorem Sk.wipe {K : PySem.W.Frag} {H : Hp} {σ : L2.St} (S : Sk K B M H σ Δ) : ∀ vs : List Nat, Sk K B M H (L2.wipe σ vs) (wipeE Δ vs)
  | [] => S
  | v :: vs => (S.wipe vs).forget v
theorem wipe_get {σ : L2.St} {i : Nat} : ∀ {vs : List Nat}, i ∉ vs → (L2.wipe σ vs)[i]? = σ[i]?
  | [], _ => rfl
  | v :: vs, h => by
    unfold L2.wipe
    rw [List.getElem?_set_ne (fun e => h (by rw [e]; exact List.mem_cons_self))]
    exact wipe_get fun z => h (List.mem_cons_of_mem _ z)
theorem wipeE_any {Δ : List En} {i : Nat} : ∀ {vs : List Nat} {e : En}, i ∈ vs → (wipeE Δ vs)[i]? = some e → e = .any
  | v :: vs, e, h, q => by
    unfold wipeE at q
    by_cases hv : v = i
    · subst hv
      rw [List.getElem?_set] at q
      rw [if_pos rfl] at q
      split at q
      · exact (Option.some.inj q).symm
      · cases q
    · rw [List.getElem?_set_ne hv] at q
      exact wipeE_any ((List.mem_cons.mp h).elim (fun z => absurd z.symm hv) id) q
theorem wipe_put {σ : L2.St} (T : Tg) (vs : List V) (h : T.vs.Nodup) : L2.wipe (T.put (L2.wipe σ T.vs) vs) T.vs = L2.wipe σ T.vs := by
  cases T with
  | nm k =>
    show ((Tg.put _ (.nm k) vs)).set k none = (σ.set k none)
    cases vs with
    | nil => show ((σ.set k none).set k none) = _; rw [List.set_set]
    | cons v r =>
      cases r with
      | nil => show (((σ.set k none).set k (some v)).set k none) = _; rw [List.set_set, List.set_set]
      | cons _ _ => show ((σ.set k none).set k none) = _; rw [List.set_set]
  | tp a b =>
    have hab : a ≠ b := by
      intro e
      subst e
      exact (List.nodup_cons.mp h).1 List.mem_cons_self
    show (((Tg.put ((σ.set b none).set a none) (.tp a b) vs).set b none).set a none) = ((σ.set b none).set a none)
    have z : ((((σ.set b none).set a none).set b none).set a none) = ((σ.set b none).set a none) := by
      rw [List.set_comm _ _ hab, List.set_set, List.set_set]
    match vs with
    | [v, w] =>
      show (((((σ.set b none).set a none).set a (some v)).set b (some w)).set b none).set a none = _
      rw [List.set_set, List.set_set, List.set_comm _ _ hab, List.set_set, List.set_set]
    | [] => exact z
    | [_] => exact z
    | _ :: _ :: _ :: _ => exact z
def WTs (X : Cx) (ifs : List Expr) : TT := fun σ H Q => ∀ pins s, Inv X pins σ H s →
    wpAny (model X.prog X.w) X.A (forIn ifs true fun c r => if r = true then do let ok ← isTrue c X.env (eval c X.env); pure (ForInStep.yield ok) else pure (ForInStep.yield r)) (TP X pins σ Q) X.xe s
theorem pts_self {ifs : List Expr} : PTs X ifs (WTs X ifs) := ⟨fun pins s σ H Q I h => h pins s I⟩
def ETs (X : Cx) (B : Bs) (M : Pl) (Δ : List En) (ifs : List Expr) (Γ : Bool → List En → Prop) : Prop := ∀ σ H, Sk X.K B M H σ Δ → ∀ Q : Bool → Hp → Prop,
  (∀ b Δ' H', Γ b Δ' → Fe M.w H H' → Sk X.K B M H' σ Δ' → Q b H') → WTs X ifs σ H Q
theorem ets_nil {Γ : Bool → List En → Prop} (h : Γ true Δ) : ETs X B M Δ [] Γ := fun σ H S Q k pins s I => pts_nil.run pins s σ H Q I (k true Δ H h (Fe.refl _ _) S)
theorem ets_one {Γ : Bool → List En → Prop} (h : ET X B M Δ c Γ) : ETs X B M Δ [c] Γ := fun σ H S Q k pins s I => (pts_one pt_self).run pins s σ H Q I (h σ H S Q k)
def blkTE (X : Cx) (scope : Scope) (elt : Expr) : TE := fun σ H Q => ∀ (s : Shared) (H0 : Hp) (C : Addr) (cl : List (Str × Addr)) (fp : List Addr), WE (X.blk s H0 scope (compEnvC scope cl C X.env) fp) elt σ H Q
def blkTT (X : Cx) (scope : Scope) (ifs : List Expr) : TT := fun σ H Q => ∀ (s : Shared) (H0 : Hp) (C : Addr) (cl : List (Str × Addr)) (fp : List Addr), WTs (X.blk s H0 scope (compEnvC scope cl C X.env) fp) ifs σ H Q
/-- a comprehension's reading by data -/
def ELc (X : Cx) (B : Bs) (M : Pl) (Δ : List En) (T : Tg) (tg iter elt : Expr) (ifs : List Expr) (scope : Scope) (Φ : Tr → List En → Prop) : Prop := ∃ wi, PI X tg iter wi ∧ ∀ σ H, Sk X.K B M H σ Δ → ∀ Q : VK,
  (∀ t Δ' l H', Φ t Δ' → Fe M.w H H' → H l = none → Sk X.K B (ins M l) H' σ Δ' → (∀ e ∈ Δ', e.adr ≠ some l) → Ow X.K (mi (ins M l).m H') H' l t → Q (.ref l) H') → tLc wi (T.g X.K) (blkTT X scope ifs) (blkTE X scope elt) T.vs σ H Q
/-- [elt for tg in iter if ..]: Jc tells, by the turn and what is made so far, the slots -/
theorem elc (T : Tg) {elt : Expr} {ifs : List Expr} {scope : Scope} {Φ : Tr → List En → Prop} (hT : T.vs.Nodup)
    (h : EI X B M Δ tg iter fun n f Δ1 => ∃ Jc : Nat → List Tr → List En → Prop, Jc 0 [] (wipeE Δ1 T.vs) ∧
      (∀ i acc Δ' D, i < n → Jc i acc Δ' → ¬ M.m D → T.ok (f i) ∧ ∀ (s : Shared) (H : Hp) (C : Addr) (cl : List (Str × Addr)) (fp : List Addr), ETs (X.blk s H scope (compEnvC scope cl C X.env) fp) B (ins M D) (T.set Δ' (f i)) ifs fun k Δ2 =>
        (k = true → ∀ (s : Shared) (H : Hp) (C : Addr) (cl : List (Str × Addr)) (fp : List Addr), EE (X.blk s H scope (compEnvC scope cl C X.env) fp) B (ins M D) Δ2 elt fun t Δ3 => acc.length < sizeLine ∧ Jc (i + 1) (acc ++ [t]) (wipeE Δ3 T.vs)) ∧ (k = false → Jc (i + 1) acc (wipeE Δ2 T.vs))) ∧
      (∀ i acc Δ', Jc i acc Δ' → ∀ e ∈ Δ', ∀ l, e.adr = some l → ∃ e0 ∈ Δ1, e0.adr = some l) ∧ ∀ acc Δ', Jc n acc Δ' → Φ (.lst acc) Δ') : ELc X B M Δ T tg iter elt ifs scope Φ := by
  obtain ⟨wi, hi, kk⟩ := h
  refine ⟨wi, hi, fun σ H S Q k => kk σ H S _ fun n f Δ1 J G Y H1 q fe S1 w hG hY => ?_⟩
  intro D hD
  obtain ⟨Jc, j0, jt, ja, jd⟩ := q
  have nM := S1.notM hD
  have nM0 : ¬ B.M0 D := fun z => nM (S1.m0 D z)
  have nw : ¬ M.w D := fun z => nM (S1.wm D z)
  have sm0 := same_new (o := .lst []) hD
  obtain ⟨S2, hn2, ow2⟩ := S1.newOwn (t := .lst []) hD sm0 ⟨[], upd_same, .nil⟩
  have s02 : Sub (mi M.m H1) (mi (ins M D).m (upd H1 D (.lst []))) := mi_new hD S1 (Fe.same sm0)
  have noD : ∀ i acc Δ', Jc i acc Δ' → ∀ e ∈ Δ', e.adr ≠ some D := fun i acc Δ' j e he z => by
    obtain ⟨e0, h1, h2⟩ := ja i acc Δ' j e he D z
    exact hn2 e0 h1 h2
  have fr0 : Fe M.w H1 (upd H1 D (.lst [])) := Fe.same sm0
  refine lc_it (g := T.g X.K) (tt := blkTT X scope ifs) (te := blkTE X scope elt) (vs := T.vs) (σ := σ) (H1 := H1) (D := D) (Qd := fun H => Q (.ref D) H) w (fun i H' => ∃ acc Δ' xs, Jc i acc Δ' ∧ Fe M.w H1 H' ∧ Sub (mi M.m H1) (mi (ins M D).m H') ∧ Sk X.K B (ins M D) H' (L2.wipe σ T.vs) Δ' ∧ H' D = some (.lst xs) ∧ Dts X.K (mi (ins M D).m H') xs acc ∧ (∀ j ∈ T.vs, ∀ e, Δ'[j]? = some e → e = .any))
    ⟨[], _, [], j0, fr0, s02, S2.wipe T.vs, upd_same, .nil, fun j hj e he => wipeE_any hj he⟩ (fun i H' _ ⟨_, _, _, _, _, s, _⟩ => hG _ H' s) ?_ fun H' ⟨acc, Δ', xs, j, fe', s, S', hx, dx, hw⟩ => ?_
  · rintro i x Ha Hb hi ⟨acc, Δ', xs, j, fe', s, S', hx, dx, hw⟩ y
    obtain ⟨sm, d⟩ := hY i x Ha Hb (ins M D).m hi y s fun p hp => S'.notM hp
    obtain ⟨okT, hb⟩ := jt i acc Δ' D hi j nM
    have Sb := S'.same sm
    have sab : Sub (mi M.m H1) (mi (ins M D).m Hb) := s.trans (Sub.of sm).mi
    refine tg_run T Sb d okT _ fun vs St => ⟨wipe_put T vs hT, ?_⟩
    intro s0 H0 C cl fp
    refine hb s0 H0 C cl fp _ Hb St _ fun kq Δ2 H2 q2 f2 St2 => ?_
    have feb : Fe M.w H1 H2 := (fe'.trans (Fe.same sm)).trans f2
    have nx2 : Sub (mi (ins M D).m Hb) (mi (ins M D).m H2) := St.sub f2
    have hx2 : H2 D = some (.lst xs) := f2.k D _ nw nt_lst (sm D _ hx)
    have back : ∀ {H3 : Hp} {Δ3 : List En}, Sk X.K B (ins M D) H3 (T.put (L2.wipe σ T.vs) vs) Δ3 → Sk X.K B (ins M D) H3 (L2.wipe σ T.vs) (wipeE Δ3 T.vs) := fun {H3 Δ3} z => by
      have := z.wipe T.vs
      rw [wipe_put T vs hT] at this
      exact this
    cases kq with
    | true =>
      rw [if_pos rfl]
      intro s0 H0 C cl fp
      refine q2.1 rfl s0 H0 C cl fp _ H2 St2 _ fun t Δ3 v H3 q3 f3 St3 d3 => ?_
      have hx3 : H3 D = some (.lst xs) := f3.k D _ nw nt_lst hx2
      have dx3 : Dts X.K (mi (ins M D).m H3) xs acc := ((dx.mono (Sub.of sm).mi).mono nx2).mono (St2.sub f3)
      refine ⟨xs, hx3, by rw [dx.length]; exact q3.1, acc ++ [t], _, xs ++ [v], q3.2, ?_, ?_, ?_, upd_same, ?_, fun j hj e he => wipeE_any hj he⟩
      · exact ⟨fun b o p n z => by
          have hb : b ≠ D := fun e => by rw [e, hD] at z; cases z
          rw [upd_ne hb]; exact (feb.trans f3).k b o p n z, fun b ps z => by
          have hb : b ≠ D := fun e => by rw [e, hD] at z; cases z
          obtain ⟨qs, e⟩ := (feb.trans f3).t b ps z
          exact ⟨qs, by rw [upd_ne hb]; exact e⟩⟩
      · exact (((sab.trans nx2).trans (St2.sub f3))).trans (mi_write (.inr rfl))
      · -- the new list is longer
        have S4 := back St3
        have kd := kind_ne (H := H3) (l := D) (.inl ⟨xs, hx3⟩)
        have h0D : B.H0 D = none := S1.new0 hD
        have sw : Sub (mi (ins M D).m H3) (mi (ins M D).m (upd H3 D (.lst (xs ++ [v])))) := mi_write (.inr rfl)
        have nd := noD _ _ _ q3.2
        refine { len := S4.len, al := fun b z => ?_, wm := S4.wm, m0 := S4.m0, pm := S4.pm, own := S4.own, wp := S4.wp, fr := ⟨fun b u p n e => ?_, fun b ps e => ?_⟩, tb := tabs_upd S4.tb kd.1 kd.2, dis := S4.dis, sl := fun j e q => ?_ }
        · by_cases hb : b = D
          · exact ⟨_, by rw [hb, upd_same]⟩
          · obtain ⟨u, e⟩ := S4.al b z
            exact ⟨u, by rw [upd_ne hb]; exact e⟩
        · have hb : b ≠ D := fun z => by rw [z, h0D] at e; cases e
          rw [upd_ne hb]; exact S4.fr.k b u p n e
        · have hb : b ≠ D := fun z => by rw [z, h0D] at e; cases e
          obtain ⟨qs, e'⟩ := S4.fr.t b ps e
          exact ⟨qs, by rw [upd_ne hb]; exact e'⟩
        · obtain ⟨u, e1, e2⟩ := S4.sl j e q
          exact ⟨u, e1, e2.mono (fun _ z => z) (fun _ => Iff.rfl) sw fun l' z o' _ y => by rw [upd_ne (fun w => nd e (List.mem_of_getElem? q) (by rw [z, w]))]; exact y⟩
      · exact (dx3.append (.cons d3 .nil)).mono (mi_write (.inr rfl))
    | false =>
      rw [if_neg Bool.false_ne_true]
      exact ⟨acc, _, xs, q2.2 rfl, feb, sab.trans nx2, back St2, hx2, (dx.mono (Sub.of sm).mi).mono nx2, fun j hj e he => wipeE_any hj he⟩
  · refine k (.lst acc) Δ' D H' (jd acc Δ' j) (fe.trans fe') (fe.free (fun b z => S1.al b (S1.wm b z)) hD) ?_ (noD n acc Δ' j) ⟨xs, hx, dx⟩
    refine { len := by rw [← S'.len, wipe_length], al := S'.al, wm := S'.wm, m0 := S'.m0, pm := S'.pm, own := S'.own, wp := S'.wp, fr := S'.fr, tb := S'.tb, dis := S'.dis, sl := fun j e q => ?_ }
    obtain ⟨o, e1, e2⟩ := S'.sl j e q
    by_cases hj : j ∈ T.vs
    · rw [hw j hj e q]
      have hl : j < σ.length := by
        rw [← wipe_length σ T.vs]; exact (List.getElem?_eq_some_iff.mp e1).1
      exact ⟨σ[j], by simp [hl], by cases σ[j] <;> exact True.intro⟩
    · rw [wipe_get hj] at e1
      exact ⟨o, e1, e2⟩
theorem eo_of (T : Tg) {elt : Expr} {ifs : List Expr} {scope : Scope} {own : List (Str × Nat)} {Φ : Tr → List En → Prop} (hc : X.calm = true) (hN : X.N.Nodup) (ho : own.map (·.2) = T.vs) (ok : BlkOk X.N X.env.scope scope own)
    (hg : ∀ (s : Shared) (H : Hp) (C : Addr) (cl : List (Str × Addr)) (fp : List Addr), PG (X.blk s H scope (compEnvC scope cl C X.env) fp) tg (T.g X.K)) (h : ELc X B M Δ T tg iter elt ifs scope Φ)
    (hs : ∀ x, foldedSetIterable iter X.env x = pure x := by intro _; rfl) : EO X B M Δ (.ListComp elt [⟨tg, iter, ifs, 0⟩] scope pos) Φ := fun σ H S Q k => by
  obtain ⟨wi, hi, kk⟩ := h
  refine PE.to (pe_lc (te := blkTE X scope elt) (tt := blkTT X scope ifs) hc hN hi ok hg
    (fun s H C cl fp => ⟨fun pins s' σ' H' Q' I hh => hh s H C cl fp pins s' I⟩) (fun s H C cl fp => ⟨fun pins s' σ' H' Q' I hh => hh s H C cl fp pins s' I⟩) hs) ?_
  rw [ho]
  exact kk σ H S Q k
/-- x = [..], on one line -/
theorem s_of (T : Tg) (i : Nat) {y : Str} {py spos : Pos} {elt : Expr} {ifs : List Expr} {scope : Scope} {own : List (Str × Nat)} (hc : X.calm = true) (hN : X.N.Nodup) (hy : X.N[i]? = some y) (ho : own.map (·.2) = T.vs) (ok : BlkOk X.N X.env.scope scope own)
    (hg : ∀ (s : Shared) (H : Hp) (C : Addr) (cl : List (Str × Addr)) (fp : List Addr), PG (X.blk s H scope (compEnvC scope cl C X.env) fp) tg (T.g X.K)) (h : ELc X B M Δ T tg iter elt ifs scope fun t Δ1 => ∀ l, ¬ M.m l → Ψ.nx (ins M l) (Δ1.set i (.own l t)))
    (hyl : X.env.scope.names.lookup y = some .local := by rfl) (hsw : swapsWith (.ListComp elt [⟨tg, iter, ifs, 0⟩] scope pos) (some (.Name y py)) spos.line X.env = pure true := by exact sw_true rfl rfl rfl rfl)
    (hs : ∀ x, foldedSetIterable iter X.env x = pure x := by intro _; rfl) : S1 X B M Δ (.Assign [.Name y py] (.ListComp elt [⟨tg, iter, ifs, 0⟩] scope pos) spos) Ψ := fun σ H S D p => by
  obtain ⟨wi, hi, kk⟩ := h
  refine PS.to (ps_setLc (i := i) (te := blkTE X scope elt) (tt := blkTT X scope ifs) hc hN hy hyl hsw hi ok hg
    (fun s H C cl fp => ⟨fun pins s' σ' H' Q' I hh => hh s H C cl fp pins s' I⟩) (fun s H C cl fp => ⟨fun pins s' σ' H' Q' I hh => hh s H C cl fp pins s' I⟩) hs) ?_
  show tLc wi (T.g X.K) (blkTT X scope ifs) (blkTE X scope elt) (own.map (·.2)) σ H _
  rw [ho]
  refine kk σ H S _ fun t Δ1 l H1 q f hl S1 hn ow => ?_
  have nM := S.notM hl
  refine p.nx (ins M l) _ _ H1 (q l nM) (mi_new hl S f) (S1.put i (o := some (.ref l)) (e := .own l t) ⟨rfl, .inr rfl, fun z => nM (S.m0 l z), fun z => nM (S.wm l z), ow⟩ fun l' z j f' _ hf' y => ?_)
  cases z
  exact hn f' (List.mem_of_getElem? hf') y
end
end Wf

set_option Elab.async false
set_option linter.all false
set_option maxRecDepth 100000
set_option maxHeartbeats 1000000
namespace Wf
open PySem PySem.Spec PyProof.Rows L2 LamX
/-! ### promises by data -/
abbrev penMax : Nat := 1000000000
/-- a def that makes new objects at most -/
def spF (K : PySem.W.Frag) (T : List (Addr × Str)) (pre : List Tr → Prop) (post : List Tr → Tr → Prop) : Sp := fun vs H Q _ => ∃ (m : Addr → Prop) (ts : List Tr), Dts K (mi m H) vs ts ∧ pre ts ∧ (∀ b, m b → ∃ o, H b = some o) ∧ Tabs T H ∧
  ∀ v t H', post ts t → Fe (fun _ => False) H H' → Tabs T H' → Dt K (mi m H') v t → Q v H'
/-- a def whose first argument is the pen: it draws at most cost cells -/
def spP (K : PySem.W.Frag) (T : List (Addr × Str)) (pre : List Tr → Prop) (cost : List Tr → Nat) (post : List Tr → Tr → Prop) : Sp := fun vs H Q _ => ∃ (m : Addr → Prop) (p : Pn) (N : Nat) (vs' : List V) (ts : List Tr),
  vs = .ref p.l :: vs' ∧ m p.l ∧ PenAt K (mi m H) H p N ∧ N + cost ts ≤ penMax ∧ Dts K (mi m H) vs' ts ∧ pre ts ∧ (∀ b, m b → ∃ o, H b = some o) ∧ Tabs T H ∧
  ∀ v t H', post ts t → Fe (fun b => b = p.l) H H' → Tabs T H' → PenAt K (mi m H') H' p (N + cost ts) → Dt K (mi m H') v t → Q v H'
def slots (N : List Str) (es : List En) : List En := es ++ List.replicate (N.length - es.length) .any
section
variable {P : Program} {w : World} {K : PySem.W.Frag} {mg : Str → Option Value} {base : Heap} {x qual : Str} {st : Stmt} {f : Addr} {fd : FuncData} {N ps : List Str} {k : Nat} {T : List (Addr × Str)} {pre : List Tr → Prop} {post : List Tr → Tr → Prop} {cost : List Tr → Nat}
theorem start_get {N : List Str} {vs : List V} {es : List En} (hl : vs.length = es.length) {i : Nat} {e : En} (h : (slots N es)[i]? = some e) :
    (∃ v, (L2.start N vs)[i]? = some (some v) ∧ vs[i]? = some v ∧ es[i]? = some e) ∨ ((L2.start N vs)[i]? = some none ∧ e = .any) := by
  unfold slots at h
  unfold L2.start
  by_cases hi : i < es.length
  · left
    rw [List.getElem?_append_left hi] at h
    have hv : i < vs.length := by omega
    refine ⟨vs[i], ?_, by simp [hv], h⟩
    rw [List.getElem?_append_left (by simpa using hv), List.getElem?_map]
    simp [hv]
  · right
    rw [List.getElem?_append_right (by omega), List.getElem?_replicate] at h
    split at h
    · rename_i h2
      refine ⟨?_, (Option.some.inj h).symm⟩
      rw [List.getElem?_append_right (by simp; omega), List.getElem?_replicate, if_pos (by simp; omega)]
    · cases h
theorem sk_start {N : List Str} {B : Bs} {M : Pl} {H : Hp} {vs : List V} {es : List En} (hN : es.length ≤ N.length) (hl : vs.length = es.length) (hB : B.H0 = H) (hM : ∀ b, M.m b ↔ B.M0 b) (hw : ∀ b, M.w b ↔ B.P b) (pm : ∀ b, B.P b → B.M0 b) (al : ∀ b, M.m b → ∃ o, H b = some o) (tb : Tabs B.T H)
    (dis : ∀ (i j : Nat) (e f : En) (l : Addr), es[i]? = some e → es[j]? = some f → e.adr = some l → f.adr = some l → i = j)
    (h : ∀ (i : Nat) v e, vs[i]? = some v → es[i]? = some e → EnOk K B M H (some v) e) : Sk K B M H (L2.start N vs) (slots N es) where
  len := by unfold L2.start slots; rw [List.length_append, List.length_append, List.length_map, List.length_replicate, List.length_replicate]; omega
  al := al
  wm := fun b z => (hM b).mpr (pm b ((hw b).mp z))
  m0 := fun b z => (hM b).mpr z
  pm := pm
  own := fun b z => .inl ((hM b).mp z)
  wp := fun b z => .inl ((hw b).mp z)
  fr := by rw [hB]; exact Fe.refl _ _
  tb := tb
  dis := fun i j e f l he hf el fl => by
    rcases start_get (N := N) hl he with ⟨_, _, _, z⟩ | ⟨_, rfl⟩
    · rcases start_get (N := N) hl hf with ⟨_, _, _, z2⟩ | ⟨_, rfl⟩
      · exact dis i j e f l z z2 el fl
      · cases fl
    · cases el
  sl := fun i e q => by
    rcases start_get (N := N) hl q with ⟨v, h1, h2, h3⟩ | ⟨h1, rfl⟩
    · exact ⟨_, h1, h i v e h2 h3⟩
    · exact ⟨_, h1, True.intro⟩
abbrev bF (T : List (Addr × Str)) (H : Hp) (m : Addr → Prop) : Bs := ⟨T, fun _ => False, H, m⟩
abbrev bP (T : List (Addr × Str)) (p : Pn) (H : Hp) (m : Addr → Prop) : Bs := ⟨T, fun b => b = p.l, H, m⟩
/-- a def of the first kind, by its body -/
theorem ok_F (F : Fun K x qual st f fd) (S : FnScope N ps (defScope st)) (hpre : ∀ ts, pre ts → ts.length = ps.length) (hps : ps.length ≤ N.length)
    (hb : ∀ (cdv : Value) (A : Around) (outer : List Env) (s : Shared) (H : Hp) (E : XK) (m : Addr → Prop) (ts : List Tr), Room k (A.deeper (envOfC qual (defScope st) s.heap.objs.size f cdv)) → pre ts →
      SS (cxOf CX0 P w K mg base N qual (defScope st) f cdv A outer s H E).nox (bF T H m) ⟨m, fun _ => False⟩ (slots N (ts.map En.dat)) (defBody st) ⟨fun _ _ => post ts .non, fun t _ => post ts t, fun _ _ => False, fun _ _ => False⟩) :
    FnOk P w K mg base CX0 (k + 1) f fd ps (spF K T pre post) := by
  refine F.ok S (fun vs H Q E h => ?_) (fun cdv A outer s H vs Q E hr h => ?_)
  · obtain ⟨m, ts, d, hp, _⟩ := h
    rw [d.length, hpre ts hp]
  · obtain ⟨m, ts, d, hp, al, tb, q⟩ := h
    have hlen : ts.length = ps.length := hpre ts hp
    have Sk0 : Sk K (bF T H m) ⟨m, fun _ => False⟩ H (L2.start N vs) (slots N (ts.map En.dat)) := by
      refine sk_start (by simp; omega) (by simp [d.length]) rfl (fun _ => Iff.rfl) (fun _ => Iff.rfl) (fun _ z => z.elim) al tb (fun i j e f l he _ el _ => ?_) fun i v e hv he => ?_
      · rw [List.getElem?_map] at he
        cases h : ts[i]? with
        | none => rw [h] at he; cases he
        | some t => rw [h] at he; cases he; cases el
      · rw [List.getElem?_map] at he
        cases h : ts[i]? with
        | none => rw [h] at he; cases he
        | some t =>
          rw [h] at he; cases he
          obtain ⟨v', h1, h2⟩ := d.get h
          rw [hv] at h1; cases h1
          exact h2
    refine ⟨_, pss_self, hb cdv A outer s H E m ts hr hp _ H Sk0 _ ⟨fun M' Δ' σ' H' a b c => ?_, fun t M' Δ' v σ' H' a b c dd => ?_, fun _ _ _ _ z => z.elim, fun _ _ _ _ z => z.elim⟩⟩
    · exact q .non .non H' a c.fr c.tb .non
    · exact q v t H' a c.fr c.tb (dd.mono (mi_le c.m0))
/-- a def of the second kind -/
theorem ok_P {y : Str} (F : Fun K x qual st f fd) (S : FnScope N (y :: ps) (defScope st)) (hpre : ∀ ts, pre ts → ts.length = ps.length) (hps : ps.length + 1 ≤ N.length)
    (hb : ∀ (cdv : Value) (A : Around) (outer : List Env) (s : Shared) (H : Hp) (E : XK) (m : Addr → Prop) (p : Pn) (c : Nat) (ts : List Tr), Room k (A.deeper (envOfC qual (defScope st) s.heap.objs.size f cdv)) → pre ts → c + cost ts ≤ penMax →
      SS (cxOf CX0 P w K mg base N qual (defScope st) f cdv A outer s H E).nox (bP T p H m) ⟨m, fun b => b = p.l⟩ (slots N (.pen p c :: ts.map En.dat)) (defBody st) ⟨fun _ Δ' => post ts .non ∧ ∃ c', c' ≤ c + cost ts ∧ Δ'[0]? = some (.pen p c'), fun t Δ' => post ts t ∧ ∃ c', c' ≤ c + cost ts ∧ Δ'[0]? = some (.pen p c'), fun _ _ => False, fun _ _ => False⟩) :
    FnOk P w K mg base CX0 (k + 1) f fd (y :: ps) (spP K T pre cost post) := by
  refine F.ok S (fun vs H Q E h => ?_) (fun cdv A outer s H vs Q E hr h => ?_)
  · obtain ⟨m, p, c, vs', ts, rfl, _, _, _, d, hp, _⟩ := h
    rw [List.length_cons, List.length_cons, d.length, hpre ts hp]
  · obtain ⟨m, p, c, vs', ts, rfl, hm, pa, hc, d, hp, al, tb, q⟩ := h
    have hlen : ts.length = ps.length := hpre ts hp
    have Sk0 : Sk K (bP T p H m) ⟨m, fun b => b = p.l⟩ H (L2.start N (.ref p.l :: vs')) (slots N (.pen p c :: ts.map En.dat)) := by
      refine sk_start (by simp; omega) (by simp [d.length]) rfl (fun _ => Iff.rfl) (fun _ => Iff.rfl) (fun _ z => by subst z; exact hm) al tb (fun i j e f l he hf el fl => ?_) fun i v e hv he => ?_
      · have key : ∀ (i : Nat) (e : En), (En.pen p c :: ts.map En.dat)[i]? = some e → e.adr = some l → i = 0 := fun i e he el => by
          cases i with
          | zero => rfl
          | succ i =>
            rw [List.getElem?_cons_succ, List.getElem?_map] at he
            cases h : ts[i]? with
            | none => rw [h] at he; cases he
            | some t => rw [h] at he; cases he; cases el
        rw [key i e he el, key j f hf fl]
      · cases i with
        | zero => cases hv; cases he; exact ⟨rfl, rfl, pa⟩
        | succ i =>
          rw [List.getElem?_cons_succ] at hv he
          rw [List.getElem?_map] at he
          cases h : ts[i]? with
          | none => rw [h] at he; cases he
          | some t =>
            rw [h] at he; cases he
            obtain ⟨v', h1, h2⟩ := d.get h
            rw [hv] at h1; cases h1
            exact h2
    have fin : ∀ {M' : Pl} {Δ' : List En} {σ' : L2.St} {H' : Hp} {c' : Nat}, Sk K (bP T p H m) M' H' σ' Δ' → c' ≤ c + cost ts → Δ'[0]? = some (.pen p c') → PenAt K (mi m H') H' p (c + cost ts) := fun {M' Δ' σ' H' c'} S' h1 h2 =>
      ((S'.penAt h2).2.2.mono (mi_le S'.m0) fun _ _ z => z).le h1
    refine ⟨_, pss_self, hb cdv A outer s H E m p c ts hr hp hc _ H Sk0 _ ⟨fun M' Δ' σ' H' a b z => ?_, fun t M' Δ' v σ' H' a b z dd => ?_, fun _ _ _ _ z => z.elim, fun _ _ _ _ z => z.elim⟩⟩
    · obtain ⟨a1, c', a2, a3⟩ := a
      exact q .non .non H' a1 z.fr z.tb (fin z a2 a3) .non
    · obtain ⟨a1, c', a2, a3⟩ := a
      exact q v t H' a1 z.fr z.tb (fin z a2 a3) (dd.mono (mi_le z.m0))
end
/-- a def of the module, by its name: it keeps sp -/
structure Fn (P : Program) (w : World) (K : PySem.W.Frag) (mg : Str → Option Value) (base : Heap) (x : Str) (k : Nat) (ps : List Str) (sp : Sp) : Prop where
  ex : ∃ f fd, FnOk P w K mg base CX0 k f fd ps sp ∧ mg x = some (.ref f) ∧ PySem.W.keepIn K (.ref f) = true ∧ Binds K fd ps []
section
variable {X : Cx} {B : Bs} {M : Pl} {Δ : List En} {e a b c : Expr} {es : List Expr} {Φ : Tr → List En → Prop} {Ψ : Eo} {x : Str} {k : Nat} {ps : List Str} {pre : List Tr → Prop} {post : List Tr → Tr → Prop} {cost : List Tr → Nat}
theorem Sk.feGrow {K : PySem.W.Frag} {H H' : Hp} {σ : L2.St} (S : Sk K B M H σ Δ) (f : Fe (fun _ => False) H H') (tb : Tabs B.T H') : Sk K B M H' σ Δ where
  len := S.len
  al := fun b hb => by
    obtain ⟨o, e⟩ := S.al b hb
    by_cases n : NT o
    · exact ⟨o, f.k b o id n e⟩
    · by_cases q : ∃ ps, o = .tbl ps
      · obtain ⟨ps, rfl⟩ := q
        obtain ⟨qs, e'⟩ := f.t b ps e
        exact ⟨_, e'⟩
      · exact absurd (fun ps z => q ⟨ps, z⟩) n
  wm := S.wm
  m0 := S.m0
  pm := S.pm
  own := S.own
  wp := S.wp
  fr := S.fr.trans (f.imp fun _ _ _ z => z.elim)
  tb := tb
  dis := S.dis
  sl := fun i e q => by
    obtain ⟨o, h1, h2⟩ := S.sl i e q
    exact ⟨o, h1, h2.mono (fun _ z => z) (fun _ => Iff.rfl) (S.sub (f.imp fun _ _ _ z => z.elim)) fun l _ o n z => f.k l o id n z⟩
/-- f(e, ..) -/
theorem ee_call {p pos : Pos} (F : Fn X.prog X.w X.K X.mg X.base x k ps (spF X.K B.T pre post)) (hr : Room k X.A) (hg : Gl X x) (h : EA X B M Δ (e :: es) fun ts Δ1 => pre ts ∧ ∀ t, post ts t → Φ t Δ1)
    (hdb : (x == ("__debug__" : Str)) = false := by decide) (he : starEach (e :: es) X.env = (false, eval e X.env) :: starEach es X.env := by rfl) (hpl : (backTo pos (starEach es X.env)).any (·.1) = false := by rfl) : EE X B M Δ (.Call (.Name x p) (e :: es) [] pos) Φ := fun σ H S Q kk => by
  obtain ⟨f, fd, ok, hm, hk, hb⟩ := F.ex
  refine PE.to (pe_call ok hr hg hm hk hb .nil pass0 pa_self hdb he hpl) (h σ H S _ fun ts Δ1 vs H1 q fe S1 d => ?_)
  rw [List.append_nil]
  refine ⟨M.m, ts, d, q.1, S1.al, S1.tb, fun v t H' hp f2 tb dd => kk t Δ1 v H' (q.2 t hp) (fe.trans (f2.imp fun _ _ _ z => z.elim)) (S1.feGrow f2 tb) dd⟩
theorem ee_call0 {p pos : Pos} (F : Fn X.prog X.w X.K X.mg X.base x k ps (spF X.K B.T pre post)) (hr : Room k X.A) (hg : Gl X x) (h : pre [] ∧ ∀ t, post [] t → Φ t Δ)
    (hdb : (x == ("__debug__" : Str)) = false := by decide) : EE X B M Δ (.Call (.Name x p) [] [] pos) Φ := fun σ H S Q kk => by
  obtain ⟨f, fd, ok, hm, hk, hb⟩ := F.ex
  refine PE.to (pe_call0 ok hr hg hm hk hb .nil pass0 hdb) ?_
  show spF X.K B.T pre post ([] ++ []) H Q E0
  refine ⟨M.m, [], .nil, h.1, S.al, S.tb, fun v t H' hp f2 tb dd => kk t Δ v H' (h.2 t hp) (f2.imp fun _ _ _ z => z.elim) (S.feGrow f2 tb) dd⟩
theorem Sk.pen {K : PySem.W.Frag} {H H' : Hp} {σ : L2.St} {i : Nat} {p : Pn} {c c' : Nat} (S : Sk K B M H σ Δ) (hi : Δ[i]? = some (.pen p c)) (f : Fe (fun b => b = p.l) H H') (tb : Tabs B.T H') (pa : PenAt K (mi M.m H') H' p c') : Sk K B M H' σ (Δ.set i (.pen p c')) ∧ Fe M.w H H' := by
  obtain ⟨h1, h2, h3⟩ := S.penAt hi
  have fw : Fe M.w H H' := f.imp fun b o _ z _ => by rw [z]; exact h2
  have s := S.sub fw
  have hil : i < Δ.length := (List.getElem?_eq_some_iff.mp hi).1
  refine ⟨{ len := by rw [List.length_set]; exact S.len, al := fun b hb => ?_, wm := S.wm, m0 := S.m0, pm := S.pm, own := S.own, wp := S.wp, fr := ?_, tb := tb, dis := fun a b e f l' he hf el fl => ?_, sl := fun j e q => ?_ }, fw⟩
  · by_cases hbl : b = p.l
    · obtain ⟨_, _, z, _⟩ := pa
      exact ⟨_, by rw [hbl]; exact z⟩
    · obtain ⟨o, e⟩ := S.al b hb
      by_cases n : NT o
      · exact ⟨o, f.k b o hbl n e⟩
      · by_cases q : ∃ ps, o = .tbl ps
        · obtain ⟨ps, rfl⟩ := q
          obtain ⟨qs, e'⟩ := f.t b ps e
          exact ⟨_, e'⟩
        · exact absurd (fun ps z => q ⟨ps, z⟩) n
  · rcases S.wp p.l h2 with hp | h0
    · exact S.fr.trans (f.imp fun b o _ z _ => by rw [z]; exact hp)
    · exact ⟨fun b o pn n e => f.k b o (fun z => by rw [z, h0] at e; cases e) n (S.fr.k b o pn n e), fun b ps e => by
        obtain ⟨qs, e'⟩ := S.fr.t b ps e
        exact f.t b qs e'⟩
  · have key : ∀ (a : Nat) (e : En), (Δ.set i (.pen p c'))[a]? = some e → ∃ e', Δ[a]? = some e' ∧ e'.adr = e.adr := fun a e he => by
      by_cases ha : a = i
      · subst ha
        rw [List.getElem?_set_self hil] at he
        cases he
        exact ⟨_, hi, rfl⟩
      · rw [List.getElem?_set_ne (Ne.symm ha)] at he
        exact ⟨e, he, rfl⟩
    obtain ⟨e1, x1, x2⟩ := key a e he
    obtain ⟨f1, y1, y2⟩ := key b f hf
    exact S.dis a b e1 f1 l' x1 y1 (x2.trans el) (y2.trans fl)
  · by_cases hj : j = i
    · subst hj
      rw [List.getElem?_set_self hil] at q
      cases q
      exact ⟨_, h1, rfl, h2, pa⟩
    · rw [List.getElem?_set_ne (Ne.symm hj)] at q
      obtain ⟨u, e1, e2⟩ := S.sl j e q
      exact ⟨u, e1, e2.mono (fun _ z => z) (fun _ => Iff.rfl) s fun l' z o' n y => f.k l' o' (fun w => hj (S.dis j i e _ p.l q hi (by rw [z, w]) rfl)) n y⟩
/-- f(pen, e, ..) -/
theorem ee_callP (i : Nat) {y : Str} {p py pos : Pos} {pn : Pn} {c0 : Nat} (hN : X.N[i]? = some y) (hi : Δ[i]? = some (.pen pn c0)) (F : Fn X.prog X.w X.K X.mg X.base x k ps (spP X.K B.T pre cost post)) (hr : Room k X.A) (hg : Gl X x)
    (h : EA X B M Δ es fun ts Δ1 => ∃ c, Δ1[i]? = some (.pen pn c) ∧ pre ts ∧ c + cost ts ≤ penMax ∧ ∀ t, post ts t → Φ t (Δ1.set i (.pen pn (c + cost ts))))
    (hd : (y == ("__debug__" : Str)) = false := by decide) (hcd : (y == ("__classdict__" : Str)) = false := by decide)
    (hdb : (x == ("__debug__" : Str)) = false := by decide) (he : starEach (.Name y py :: es) X.env = (false, eval (.Name y py) X.env) :: starEach es X.env := by rfl) (hpl : (backTo pos (starEach es X.env)).any (·.1) = false := by rfl) (hv : Vis X.env.scope y := by first | exact Or.inl rfl | exact Or.inr (Or.inl rfl) | exact Or.inr (Or.inr rfl)) : EE X B M Δ (.Call (.Name x p) (.Name y py :: es) [] pos) Φ := fun σ H S Q kk => by
  obtain ⟨f, fd, ok, hm, hk, hb⟩ := F.ex
  obtain ⟨h1, _⟩ := S.penAt hi
  refine PE.to (pe_call ok hr hg hm hk hb .nil pass0 (pa_cons (pe_var (i := i) hN hv hd hcd) pa_self he) hdb he hpl) ⟨_, h1, h σ H S _ fun ts Δ1 vs H1 q fe S1 d => ?_⟩
  obtain ⟨c, q1, q2, q3, q4⟩ := q
  obtain ⟨_, w2, w3⟩ := S1.penAt q1
  rw [List.append_nil]
  refine ⟨M.m, pn, c, vs, ts, rfl, S1.wm _ w2, w3, q3, d, q2, S1.al, S1.tb, fun v t H' hp f2 tb pa dd => ?_⟩
  obtain ⟨S2, fw⟩ := S1.pen q1 f2 tb pa
  exact kk t _ v H' (q4 t hp) (fe.trans fw) S2 dd
/-! ### the pen's own fields -/
theorem key_ne (a b : Str) (h : decide (a = b) = false) : ¬ ((.inr a : Key) = .inr b) := fun z => by
  have := Sum.inr.inj z
  rw [decide_eq_false_iff_not] at h
  exact h this
theorem pen_more {a : Addr} {sp mo : Int} : valV ([((.inr "cells" : Key), V.ref a), (.inr "spot", .int sp), (.inr "more", .int mo)]) (.inr "more") = some (.int mo) := by
  unfold valV
  rw [List.find?_cons_of_neg (by simp; decide +kernel), List.find?_cons_of_neg (by simp; decide +kernel), List.find?_cons_of_pos (by simp)]
  rfl
theorem pen_spot {a : Addr} {sp mo : Int} : valV ([((.inr "cells" : Key), V.ref a), (.inr "spot", .int sp), (.inr "more", .int mo)]) (.inr "spot") = some (.int sp) := by
  unfold valV
  rw [List.find?_cons_of_neg (by simp; decide +kernel), List.find?_cons_of_pos (by simp)]
  rfl
theorem pen_cells {a : Addr} {sp mo : Int} : valV ([((.inr "cells" : Key), V.ref a), (.inr "spot", .int sp), (.inr "more", .int mo)]) (.inr "cells") = some (.ref a) := by
  unfold valV
  rw [List.find?_cons_of_pos (by simp)]
  rfl
theorem ee_penMore (i : Nat) {y : Str} {py pos p1 : Pos} {j : Nat} {pn : Pn} {c : Nat} (hu : X.A.units + 1 < cLine) (hN : X.N[i]? = some y) (hi : Δ[i]? = some (.pen pn c)) (h : ∀ mo : Int, 0 ≤ mo → Φ (.int mo) Δ)
    (hd : (y == ("__debug__" : Str)) = false := by decide) (hcd : (y == ("__classdict__" : Str)) = false := by decide) (hv : Vis X.env.scope y := by first | exact Or.inl rfl | exact Or.inr (Or.inl rfl) | exact Or.inr (Or.inr rfl)) : EE X B M Δ (.Subscript (.Name y py) (.Constant (.str "more") j p1) pos) Φ := fun σ H S Q kk => by
  obtain ⟨h1, _, sp, mo, h2, _, _, _, _, h3⟩ := S.penAt hi
  have g := DGet.k (k := .inr "more") h2
  rw [pen_more] at g
  exact PE.to (pe_dget hu (pe_var (i := i) hN hv hd hcd) pe_str (fun _ _ => rfl)) ⟨_, h1, _, _, rfl, g, kk _ _ _ H (h mo h3) (Fe.refl _ _) S (.int mo)⟩
theorem ee_penSpot (i : Nat) {y : Str} {py pos p1 : Pos} {j : Nat} {pn : Pn} {c : Nat} (hu : X.A.units + 1 < cLine) (hN : X.N[i]? = some y) (hi : Δ[i]? = some (.pen pn c)) (h : ∀ sp : Int, 0 ≤ sp → sp ≤ c → Φ (.int sp) Δ)
    (hd : (y == ("__debug__" : Str)) = false := by decide) (hcd : (y == ("__classdict__" : Str)) = false := by decide) (hv : Vis X.env.scope y := by first | exact Or.inl rfl | exact Or.inr (Or.inl rfl) | exact Or.inr (Or.inr rfl)) : EE X B M Δ (.Subscript (.Name y py) (.Constant (.str "spot") j p1) pos) Φ := fun σ H S Q kk => by
  obtain ⟨h1, _, sp, mo, h2, _, _, h4, h5, h3⟩ := S.penAt hi
  have g := DGet.k (k := .inr "spot") h2
  rw [pen_spot] at g
  exact PE.to (pe_dget hu (pe_var (i := i) hN hv hd hcd) pe_str (fun _ _ => rfl)) ⟨_, h1, _, _, rfl, g, kk _ _ _ H (h sp h4 h5) (Fe.refl _ _) S (.int sp)⟩
theorem ee_penCells (i : Nat) {y : Str} {py pos p1 : Pos} {j : Nat} {pn : Pn} {c : Nat} (hu : X.A.units + 1 < cLine) (hN : X.N[i]? = some y) (hi : Δ[i]? = some (.pen pn c)) (h : pn.cs.length ≤ 63 → Φ (.lst (pn.cs.map Tr.int)) Δ)
    (hd : (y == ("__debug__" : Str)) = false := by decide) (hcd : (y == ("__classdict__" : Str)) = false := by decide) (hv : Vis X.env.scope y := by first | exact Or.inl rfl | exact Or.inr (Or.inl rfl) | exact Or.inr (Or.inr rfl)) : EE X B M Δ (.Subscript (.Name y py) (.Constant (.str "cells") j p1) pos) Φ := fun σ H S Q kk => by
  obtain ⟨h1, _, sp, mo, h2, h6, h7, h4, h5, h3⟩ := S.penAt hi
  have g := DGet.k (k := .inr "cells") h2
  rw [pen_cells] at g
  exact PE.to (pe_dget hu (pe_var (i := i) hN hv hd hcd) pe_str (fun _ _ => rfl)) ⟨_, h1, _, _, rfl, g, kk _ _ _ H (h h7) (Fe.refl _ _) S (.lst h6 (dts_ints _))⟩
theorem pen_putMore {a : Addr} {sp mo mo' : Int} : putK ([((.inr "cells" : Key), V.ref a), (.inr "spot", .int sp), (.inr "more", .int mo)]) (.inr "more") (.int mo') = [((.inr "cells" : Key), V.ref a), (.inr "spot", .int sp), (.inr "more", .int mo')] := by
  have h1 : ¬ ((.inr "cells" : Key) = .inr "more") := by decide +kernel
  have h2 : ¬ ((.inr "spot" : Key) = .inr "more") := by decide +kernel
  simp [putK, valV, h1, h2]
theorem pen_putSpot {a : Addr} {sp mo sp' : Int} : putK ([((.inr "cells" : Key), V.ref a), (.inr "spot", .int sp), (.inr "more", .int mo)]) (.inr "spot") (.int sp') = [((.inr "cells" : Key), V.ref a), (.inr "spot", .int sp'), (.inr "more", .int mo)] := by
  have h1 : ¬ ((.inr "cells" : Key) = .inr "spot") := by decide +kernel
  have h2 : ¬ ((.inr "more" : Key) = .inr "spot") := by decide +kernel
  simp [putK, valV, h1, h2]
theorem Sk.penPut {K : PySem.W.Frag} {H : Hp} {σ : L2.St} {i : Nat} {pn : Pn} {c c' : Nat} {sp mo : Int} (S : Sk K B M H σ Δ) (hi : Δ[i]? = some (.pen pn c)) (h1 : 0 ≤ sp) (h2 : sp ≤ c') (h3 : 0 ≤ mo) :
    Sk K B M (upd H pn.l (.dK [(.inr "cells", .ref pn.a), (.inr "spot", .int sp), (.inr "more", .int mo)])) σ (Δ.set i (.pen pn c')) ∧ Fe M.w H (upd H pn.l (.dK [(.inr "cells", .ref pn.a), (.inr "spot", .int sp), (.inr "more", .int mo)])) := by
  obtain ⟨_, w2, sp0, mo0, e1, e2, e3, _⟩ := S.penAt hi
  have kd := kind_ne (H := H) (l := pn.l) (.inr (.inl ⟨_, e1⟩))
  refine S.pen hi ⟨fun b o p n e => by rw [upd_ne p]; exact e, fun b ps e => ⟨ps, by rw [upd_ne (fun z => kd.1 ps (by rw [← z]; exact e))]; exact e⟩⟩ (tabs_upd S.tb kd.1 kd.2) ⟨sp, mo, upd_same, sub_seqL (mi_write (S.wm _ w2)) e2, e3, h1, h2, h3⟩
theorem s_penMore (i : Nat) {y : Str} {py p0 p1 pos : Pos} {j : Nat} {pn : Pn} {c0 : Nat} (hu : X.A.units + 1 < cLine) (hN : X.N[i]? = some y) (hi : Δ[i]? = some (.pen pn c0)) (h : EE X B M Δ e fun t Δ1 => ∃ (v : Int) (c : Nat), t = .int v ∧ 0 ≤ v ∧ Δ1[i]? = some (.pen pn c) ∧ Ψ.nx M (Δ1.set i (.pen pn c)))
    (hs : swapsWith e (some (.Subscript (.Name y py) (.Constant (.str "more") j p1) p0)) pos.line X.env = pure false := by rfl) (hd : (y == ("__debug__" : Str)) = false := by decide) (hcd : (y == ("__classdict__" : Str)) = false := by decide) (hv : Vis X.env.scope y := by first | exact Or.inl rfl | exact Or.inr (Or.inl rfl) | exact Or.inr (Or.inr rfl)) :
    S1 X B M Δ (.Assign [.Subscript (.Name y py) (.Constant (.str "more") j p1) p0] e pos) Ψ := fun σ H S D p => by
  obtain ⟨h1, _⟩ := S.penAt hi
  refine PS.to (ps_dput hu (pe_var (i := i) hN hv hd hcd) pe_str pe_self hs) (h σ H S _ fun t Δ1 v H1 q fe S1 d => ?_)
  obtain ⟨n, c, rfl, q1, q2, q3⟩ := q
  cases d
  obtain ⟨_, w2, sp, mo, e1, e2, e3, e4, e5, e6⟩ := S1.penAt q2
  have g := DPut.k (k := .inr "more") (v := .int n) e1 (by show 3 < sizeLine; decide)
  rw [pen_putMore] at g
  obtain ⟨S2, f2⟩ := S1.penPut (c' := c) q2 e4 e5 q1
  exact ⟨_, h1, pn.l, _, rfl, g, p.nx M _ σ _ q3 (S.sub (fe.trans f2)) S2⟩
theorem s_penSpot (i : Nat) {y : Str} {py p0 p1 pos : Pos} {j : Nat} {pn : Pn} {c0 : Nat} (hu : X.A.units + 1 < cLine) (hN : X.N[i]? = some y) (hi : Δ[i]? = some (.pen pn c0)) (h : EE X B M Δ e fun t Δ1 => ∃ (v : Int) (c c' : Nat), t = .int v ∧ 0 ≤ v ∧ v ≤ c' ∧ Δ1[i]? = some (.pen pn c) ∧ Ψ.nx M (Δ1.set i (.pen pn c')))
    (hs : swapsWith e (some (.Subscript (.Name y py) (.Constant (.str "spot") j p1) p0)) pos.line X.env = pure false := by rfl) (hd : (y == ("__debug__" : Str)) = false := by decide) (hcd : (y == ("__classdict__" : Str)) = false := by decide) (hv : Vis X.env.scope y := by first | exact Or.inl rfl | exact Or.inr (Or.inl rfl) | exact Or.inr (Or.inr rfl)) :
    S1 X B M Δ (.Assign [.Subscript (.Name y py) (.Constant (.str "spot") j p1) p0] e pos) Ψ := fun σ H S D p => by
  obtain ⟨h1, _⟩ := S.penAt hi
  refine PS.to (ps_dput hu (pe_var (i := i) hN hv hd hcd) pe_str pe_self hs) (h σ H S _ fun t Δ1 v H1 q fe S1 d => ?_)
  obtain ⟨n, c, c', rfl, q1, q1', q2, q3⟩ := q
  cases d
  obtain ⟨_, w2, sp, mo, e1, e2, e3, e4, e5, e6⟩ := S1.penAt q2
  have g := DPut.k (k := .inr "spot") (v := .int n) e1 (by show 3 < sizeLine; decide)
  rw [pen_putSpot] at g
  obtain ⟨S2, f2⟩ := S1.penPut (c' := c') q2 q1 q1' e6
  exact ⟨_, h1, pn.l, _, rfl, g, p.nx M _ σ _ q3 (S.sub (fe.trans f2)) S2⟩
end
end Wf

set_option Elab.async false
set_option linter.all false
set_option maxRecDepth 100000
set_option maxHeartbeats 1000000
namespace Wf
open PySem PySem.Spec PyProof.Rows L2 LamX
/-! ### facts of data -/
theorem plainAll_map {α : Type} (f : α → Tr) : ∀ (l : List α), (∀ a ∈ l, (f a).plain = true) → plainAll (l.map f) = true
  | [], _ => by unfold List.map plainAll; rfl
  | a :: l, h => by
    unfold List.map plainAll
    rw [h a List.mem_cons_self, plainAll_map f l fun b hb => h b (List.mem_cons_of_mem _ hb)] <;> rfl
theorem pyAll_map : ∀ (l : List Tr), pyAll l = l.map Tr.py
  | [] => by unfold pyAll; rfl
  | a :: l => by unfold pyAll; rw [pyAll_map l]; rfl
theorem canLay_map {α : Type} (f : α → PyData) : ∀ (l : List α), (∀ a ∈ l, (f a).canLay0 = true) → PyData.canLayAll0 (l.map f) = true
  | [], _ => by unfold List.map PyData.canLayAll0; rfl
  | a :: l, h => by
    unfold List.map PyData.canLayAll0
    rw [h a List.mem_cons_self, canLay_map f l fun b hb => h b (List.mem_cons_of_mem _ hb)] <;> rfl
theorem depth_map {α : Type} (f : α → PyData) (n : Nat) : ∀ (l : List α), (∀ a ∈ l, (f a).depth ≤ n) → PyData.depthAll (l.map f) ≤ n
  | [], _ => by unfold List.map PyData.depthAll; exact Nat.zero_le _
  | a :: l, h => by
    unfold List.map PyData.depthAll
    exact Nat.max_le.mpr ⟨h a List.mem_cons_self, depth_map f n l fun b hb => h b (List.mem_cons_of_mem _ hb)⟩
/-- data that may be compared: plain, texts of signs, at most d deep -/
structure Tr.good (t : Tr) (d : Nat) : Prop where
  pl : t.plain = true
  cl : t.py.canLay0 = true
  dp : t.py.depth ≤ d
theorem Tr.good.eqOk {t : Tr} {d : Nat} (h : t.good d) (hd : d ≤ 64 := by decide) : t.eqOk := ⟨h.pl, by
  unfold SeqAt.shaped
  rw [h.cl, decide_eq_true (Nat.le_trans h.dp hd)] <;> rfl⟩
theorem Tr.good.le {t : Tr} {d e : Nat} (h : t.good d) (hd : d ≤ e) : t.good e := ⟨h.pl, h.cl, Nat.le_trans h.dp hd⟩
theorem good_non {d : Nat} : Tr.non.good d := ⟨by unfold Tr.plain; rfl, by unfold Tr.py PyData.canLay0; rfl, by unfold Tr.py PyData.depth; exact Nat.zero_le _⟩
theorem good_bl {b : Bool} {d : Nat} : (Tr.bl b).good d := ⟨by unfold Tr.plain; rfl, by unfold Tr.py PyData.canLay0; rfl, by unfold Tr.py PyData.depth; exact Nat.zero_le _⟩
theorem good_int {i : Int} {d : Nat} : (Tr.int i).good d := ⟨by unfold Tr.plain; rfl, by unfold Tr.py PyData.canLay0; rfl, by unfold Tr.py PyData.depth; exact Nat.zero_le _⟩
theorem good_str {x : Str} {d : Nat} (h : PyData.strOk x = true) : (Tr.str x).good d := ⟨by unfold Tr.plain; rfl, by unfold Tr.py PyData.canLay0; exact h, by unfold Tr.py PyData.depth; exact Nat.zero_le _⟩
theorem good_lst {ts : List Tr} {d : Nat} (h : ∀ t ∈ ts, t.good d) : (Tr.lst ts).good (d + 1) := by
  refine ⟨?_, ?_, ?_⟩
  · unfold Tr.plain
    have := plainAll_map id ts fun a ha => (h a ha).pl
    rwa [List.map_id] at this
  · unfold Tr.py PyData.canLay0
    rw [pyAll_map]
    exact canLay_map Tr.py ts fun a ha => (h a ha).cl
  · unfold Tr.py PyData.depth
    rw [pyAll_map]
    exact Nat.succ_le_succ (depth_map Tr.py d ts fun a ha => (h a ha).dp)
theorem good_tup {ts : List Tr} {d : Nat} (h : ∀ t ∈ ts, t.good d) : (Tr.tup ts).good (d + 1) := by
  refine ⟨?_, ?_, ?_⟩
  · unfold Tr.plain
    have := plainAll_map id ts fun a ha => (h a ha).pl
    rwa [List.map_id] at this
  · unfold Tr.py PyData.canLay0
    rw [pyAll_map]
    exact canLay_map Tr.py ts fun a ha => (h a ha).cl
  · unfold Tr.py PyData.depth
    rw [pyAll_map]
    exact Nat.succ_le_succ (depth_map Tr.py d ts fun a ha => (h a ha).dp)
theorem good_ints {ns : List Int} {d : Nat} (hd : 1 ≤ d := by decide) : (Tr.lst (ns.map Tr.int)).good d := (good_lst (d := 0) fun t ht => by
  obtain ⟨n, _, rfl⟩ := List.mem_map.mp ht
  exact good_int).le hd
/-! equal data are equal -/
mutual
theorem eqv_refl' : ∀ {d : PyData}, d.canLay0 = true → PyData.eqv d d = true
  | .none, _ => by unfold PyData.eqv; rfl
  | .bool b, _ => by unfold PyData.eqv; simp
  | .int i, _ => by unfold PyData.eqv; simp
  | .str x, _ => by unfold PyData.eqv; simp
  | .list xs, h => by unfold PyData.eqv; exact eqvAll_refl' (by unfold PyData.canLay0 at h; exact h)
  | .tuple xs, h => by unfold PyData.eqv; exact eqvAll_refl' (by unfold PyData.canLay0 at h; exact h)
  | .dict _, h => by unfold PyData.canLay0 at h; cases h
theorem eqvAll_refl' : ∀ {ds : List PyData}, PyData.canLayAll0 ds = true → PyData.eqvAll ds ds = true
  | [], _ => by unfold PyData.eqvAll; rfl
  | d :: ds, h => by
    unfold PyData.canLayAll0 at h
    rw [Bool.and_eq_true] at h
    unfold PyData.eqvAll
    rw [eqv_refl' h.1, eqvAll_refl' h.2] <;> rfl
end
theorem Tr.good.refl {t : Tr} {d : Nat} (h : t.good d) : PyData.eqv t.py t.py = true := eqv_refl' h.cl
theorem eqv_lst {ts us : List Tr} : PyData.eqv (Tr.lst ts).py (Tr.lst us).py = PyData.eqvAll (ts.map Tr.py) (us.map Tr.py) := by
  show PyData.eqv (Tr.lst ts).py (Tr.lst us).py = _
  unfold Tr.py
  rw [pyAll_map, pyAll_map]
  show PyData.eqv (.list _) (.list _) = _
  unfold PyData.eqv
  rfl
theorem eqv_nil {ts : List Tr} : PyData.eqv (Tr.lst ts).py (Tr.lst []).py = ts.isEmpty := by
  rw [eqv_lst]
  cases ts with
  | nil => rfl
  | cons t ts => rfl
end Wf

set_option Elab.async false
set_option linter.all false
set_option maxRecDepth 100000
set_option maxHeartbeats 1000000
namespace Wf
open PySem PySem.Spec PyProof.Rows L2 LamX
section
variable {X : Cx} {B : Bs} {M : Pl} {Δ : List En} {e a b c o lo hi : Expr} {es : List Expr} {Φ : Tr → List En → Prop} {Ψ : Eo}
theorem EO.mono {Φ' : Tr → List En → Prop} (h : EO X B M Δ e Φ) (q : ∀ t Δ', Φ t Δ' → Φ' t Δ') : EO X B M Δ e Φ' := fun σ H S Q k => h σ H S Q fun t Δ' l H' p => k t Δ' l H' (q t Δ' p)
/-! ### slices -/
def cutL {α : Type} (xs : List α) (lo hi : Option Int) : List α := (xs.drop (HT.sIx xs.length 0 lo)).take (HT.sIx xs.length xs.length hi - HT.sIx xs.length 0 lo)
theorem cut_dts {K : PySem.W.Frag} {I : Hp} {xs : List V} {ts : List Tr} {lo hi : Option Int} (d : Dts K I xs ts) : Dts K I (cutV xs lo hi) (cutL ts lo hi) := by
  unfold cutV cutL
  rw [d.length]
  exact (d.drop _).take _
/-- a part of a slice: an int or left out -/
def EP0 (X : Cx) (B : Bs) (M : Pl) (Δ : List En) (e : Option Expr) (Θ : Option Int → List En → Prop) : Prop := ∃ to, PO X e to ∧ ∀ σ H, Sk X.K B M H σ Δ → ∀ Q : Option Int → Hp → Prop, (∀ i Δ' H', Θ i Δ' → Fe M.w H H' → Sk X.K B M H' σ Δ' → Q i H') → to σ H Q
theorem ep_no {Θ : Option Int → List En → Prop} (h : Θ none Δ) : EP0 X B M Δ none Θ := ⟨_, po_none, fun σ H S Q k => k none Δ H h (Fe.refl _ _) S⟩
theorem ep_some {Θ : Option Int → List En → Prop} (h : EE X B M Δ e fun t Δ1 => ∃ i, t = .int i ∧ Θ (some i) Δ1) : EP0 X B M Δ (some e) Θ := ⟨_, po_some pe_self, fun σ H S Q k => h σ H S _ fun t Δ1 v H1 p f S1 d => by
  obtain ⟨i, rfl, q⟩ := p
  cases d
  exact ⟨i, rfl, k (some i) Δ1 H1 q f S1⟩⟩
theorem eo_slL {lo hi : Option Expr} {p2 pos : Pos} (h : EE X B M Δ a fun x Δ1 => ∃ ts, x = .lst ts ∧ EP0 X B M Δ1 lo fun l Δ2 => EP0 X B M Δ2 hi fun u Δ3 => Φ (.lst (cutL ts l u)) Δ3) : EO X B M Δ (.Subscript a (.Slice lo hi none p2) pos) Φ := fun σ H S Q k => by
  -- the parts' readings are chosen for each datum: all of them at once
  refine PE.to (pe_slice (X := X) (tl := fun σ H Q => ∃ to, PO X lo to ∧ to σ H Q) (th := fun σ H Q => ∃ to, PO X hi to ∧ to σ H Q) sl_list pe_self ⟨fun pins s σ H Q I ⟨to, h1, h2⟩ => h1.run pins s σ H Q I h2⟩ ⟨fun pins s σ H Q I ⟨to, h1, h2⟩ => h1.run pins s σ H Q I h2⟩) (h σ H S _ fun x Δ1 v H1 p f S1 d => ?_)
  obtain ⟨ts, rfl, tl, hl, q⟩ := p
  refine ⟨tl, hl, q σ H1 S1 _ fun l Δ2 H2 ⟨th, hh, q2⟩ f2 S2 => ⟨th, hh, q2 σ H2 S2 _ fun u Δ3 H3 q3 f3 S3 => ?_⟩⟩
  have d := (d.mono (S1.sub f2)).mono (S2.sub f3)
  cases d with
  | lst h1 h2 =>
    refine ⟨_, _, rfl, sub_seqL mi_sub h1, fun p hp => ?_⟩
    rename_i a' xs
    have s := same_new (o := .lst (cutV xs l u)) hp
    obtain ⟨a1, a2, a3⟩ := S3.newOwn (t := .lst (cutL ts l u)) hp s ⟨_, upd_same, cut_dts h2⟩
    exact k _ Δ3 p _ q3 (((f.trans f2).trans f3).trans (Fe.same s)) (((f.trans f2).trans f3).free (fun b z => S3.al b (S3.wm b z)) hp) a1 a2 a3
theorem ee_slS {lo hi : Option Expr} {p2 pos : Pos} (h : EE X B M Δ a fun x Δ1 => ∃ z : Str, x = .str z ∧ z.length ≤ sizeLine ∧ EP0 X B M Δ1 lo fun l Δ2 => EP0 X B M Δ2 hi fun u Δ3 => Φ (.str (cutS z l u)) Δ3) : EE X B M Δ (.Subscript a (.Slice lo hi none p2) pos) Φ := fun σ H S Q k => by
  refine PE.to (pe_slice (X := X) (tl := fun σ H Q => ∃ to, PO X lo to ∧ to σ H Q) (th := fun σ H Q => ∃ to, PO X hi to ∧ to σ H Q) sl_str pe_self ⟨fun pins s σ H Q I ⟨to, h1, h2⟩ => h1.run pins s σ H Q I h2⟩ ⟨fun pins s σ H Q I ⟨to, h1, h2⟩ => h1.run pins s σ H Q I h2⟩) (h σ H S _ fun x Δ1 v H1 p f S1 d => ?_)
  obtain ⟨z, rfl, hz, tl, hl, q⟩ := p
  cases d
  exact ⟨tl, hl, q σ H1 S1 _ fun l Δ2 H2 ⟨th, hh, q2⟩ f2 S2 => ⟨th, hh, q2 σ H2 S2 _ fun u Δ3 H3 q3 f3 S3 => ⟨z, rfl, hz, k _ Δ3 _ H3 q3 ((f.trans f2).trans f3) S3 (.str _)⟩⟩⟩
/-! ### list(range(..)), join, + of lists -/
theorem rg_dts {K : PySem.W.Frag} {I : Hp} (a b : Int) : Dts K I (rgV a b) ((List.range (b - a).toNat).map fun i : Nat => Tr.int (a + i)) := by
  have e : rgV a b = ((List.range (b - a).toNat).map fun i : Nat => a + (i : Int)).map V.int := by unfold rgV; rw [List.map_map]; rfl
  have e2 : ((List.range (b - a).toNat).map fun i : Nat => Tr.int (a + i)) = ((List.range (b - a).toNat).map fun i : Nat => a + (i : Int)).map Tr.int := by rw [List.map_map]; rfl
  rw [e, e2]
  exact dts_ints _
theorem eo_listRange {p q pos pos2 : Pos} (hc : X.calm = true) (hg : Gl X "list") (hm : X.mg "list" = none) (hg2 : Gl X "range") (hm2 : X.mg "range" = none) (h : EE X B M Δ a fun t Δ1 => ∃ n : Int, t = .int n ∧ 0 ≤ n ∧ n ≤ 16777216 ∧ Φ (.lst ((List.range n.toNat).map fun i : Nat => Tr.int i)) Δ1)
    (na : starEach [a] X.env = (false, eval a X.env) :: starEach [] X.env := by rfl) (na2 : starEach [.Call (.Name "range" q) [a] [] pos2] X.env = (false, eval (.Call (.Name "range" q) [a] [] pos2) X.env) :: starEach [] X.env := by rfl) : EO X B M Δ (.Call (.Name "list" p) [.Call (.Name "range" q) [a] [] pos2] [] pos) Φ := fun σ H S Q k =>
  PE.to (pe_listRg hc hg hm (prg_1 hg2 hm2 pe_self na) na2) (h σ H S _ fun t Δ1 v H1 p f S1 d => by
    obtain ⟨n, rfl, h0, h1, q⟩ := p
    cases d
    refine ⟨n, rfl, .of_le (Int.le_refl 0) h1 (by decide) h0, fun l hl => ?_⟩
    have s := same_new (o := .lst (rgV 0 n)) hl
    have e : ((List.range (n - 0).toNat).map fun i : Nat => Tr.int (0 + (i : Int))) = (List.range n.toNat).map fun i : Nat => Tr.int i := by
      rw [Int.sub_zero]
      exact List.map_congr_left fun i _ => by rw [Int.zero_add]
    obtain ⟨a1, a2, a3⟩ := S1.newOwn (t := .lst ((List.range n.toNat).map fun i : Nat => Tr.int i)) hl s ⟨_, upd_same, e ▸ rg_dts 0 n⟩
    exact k _ Δ1 l _ q (f.trans (Fe.same s)) (f.free (fun b z => S1.al b (S1.wm b z)) hl) a1 a2 a3)
theorem ee_join {apos pos : Pos} (h : EE X B M Δ o fun x Δ1 => ∃ z : Str, x = .str z ∧ EE X B M Δ1 e fun y Δ2 => ∃ ys : List Str, (y = .lst (ys.map Tr.str) ∨ y = .tup (ys.map Tr.str)) ∧ (ys.map (·.length)).sum + ys.length * z.length ≤ 16777216 ∧ Φ (.str (Txt.join z ys)) Δ2)
    (hs : starEach [e] X.env = [(false, eval e X.env)] := by rfl) (hbase : attributeBase o "join" X.env (eval o X.env) = eval o X.env := by rfl) (hline : (apos.endLine == pos.line) = true := by rfl) : EE X B M Δ (.Call (.Attribute o "join" apos) [e] [] pos) Φ := fun σ H S Q k =>
  PE.to (pe_join pe_self pe_self hs hbase hline) (h σ H S _ fun x Δ1 v H1 p f S1 d => by
    obtain ⟨z, rfl, p⟩ := p
    cases d
    refine ⟨⟨z, rfl⟩, p σ H1 S1 _ fun y Δ2 w H2 p2 f2 S2 d2 => ?_⟩
    obtain ⟨ys, hy, hz, q⟩ := p2
    rcases hy with rfl | rfl
    · cases d2 with
      | lst g1 g2 =>
        have e := of_strs ys g2
        subst e
        exact ⟨z, _, ys, rfl, rfl, .inl (sub_seqL mi_sub g1), hz, k _ Δ2 _ H2 q (f.trans f2) S2 (.str _)⟩
    · cases d2 with
      | tup g1 g2 =>
        have e := of_strs ys g2
        subst e
        exact ⟨z, _, ys, rfl, rfl, .inr (sub_seqT mi_sub g1), hz, k _ Δ2 _ H2 q (f.trans f2) S2 (.str _)⟩)
/-! ### instances: fields, properties, methods -/
theorem dfs_look {K : PySem.W.Frag} {I : Hp} {f : Str} : ∀ {fs : List (Str × V)} {es : List (Str × Tr)} {t : Tr}, Dfs K I fs es → es.lookup f = some t → ∃ v, fs.lookup f = some v ∧ Dt K I v t
  | _, _, _, .nil, h => by simp at h
  | (k, v) :: fs, (_, t0) :: es, t, .cons d q, h => by
    rw [List.lookup_cons] at h
    rw [List.lookup_cons]
    cases hk : f == k with
    | true =>
      rw [hk] at h
      cases h
      exact ⟨v, rfl, d⟩
    | false =>
      rw [hk] at h
      exact dfs_look q h
theorem dfs_none {K : PySem.W.Frag} {I : Hp} {f : Str} : ∀ {fs : List (Str × V)} {es : List (Str × Tr)}, Dfs K I fs es → es.lookup f = none → fs.lookup f = none
  | _, _, .nil, _ => rfl
  | (k, v) :: fs, (_, t0) :: es, .cons d q, h => by
    rw [List.lookup_cons] at h ⊢
    cases hk : f == k with
    | true => rw [hk] at h; cases h
    | false =>
      rw [hk] at h
      exact dfs_none q h
theorem ee_fld {f : Str} {pos : Pos} (h : EE X B M Δ o fun x Δ1 => ∃ C fs u, x = .ins C fs ∧ Cls X.K C ∧ NoAttr X.K C f ∧ fs.lookup f = some u ∧ Φ u Δ1) (hb : attributeBase o f X.env (eval o X.env) = eval o X.env := by rfl) : EE X B M Δ (.Attribute o f pos) Φ := fun σ H S Q k =>
  PE.to (pe_fld pe_self hb) (h σ H S _ fun x Δ1 v H1 p f S1 d => by
    obtain ⟨C, fs, u, rfl, c1, c2, l, q⟩ := p
    cases d with
    | ins h1 h2 =>
      obtain ⟨w, e1, e2⟩ := dfs_look h2 l
      exact ⟨_, C, _, _, w, rfl, (mi_some.mp h1).2, c1, c2, e1, k u Δ1 w H1 q f S1 e2⟩)
/-- a method's or a property's def -/
structure Mt (P : Program) (w : World) (K : PySem.W.Frag) (mg : Str → Option Value) (base : Heap) (C : Addr) (m : Str) (k : Nat) (ps : List Str) (sp : Sp) : Prop where
  cl : Cls K C
  ex : ∃ f fd, FnOk P w K mg base CX0 k f fd ps sp ∧ Meth K C m f ∧ Binds K fd ps []
structure Pt (P : Program) (w : World) (K : PySem.W.Frag) (mg : Str → Option Value) (base : Heap) (C : Addr) (m : Str) (k : Nat) (ps : List Str) (sp : Sp) : Prop where
  cl : Cls K C
  ex : ∃ p f fd, FnOk P w K mg base CX0 k f fd ps sp ∧ PropOf K C m p f ∧ Binds K fd ps []
theorem passN {X : Cx} : Passes CX0 X.nox E0 := fun _ _ _ _ _ _ _ h => h.elim
theorem ee_prop {m : Str} {C : Addr} {k : Nat} {ps : List Str} {pre : List Tr → Prop} {post : List Tr → Tr → Prop} {pos : Pos} (F : Pt X.prog X.w X.K X.mg X.base C m k ps (spF X.K B.T pre post)) (hr : Room (k + 1) X.A)
    (h : EE X B M Δ o fun x Δ1 => ∃ fs, x = .ins C fs ∧ pre [.ins C fs] ∧ ∀ t, post [.ins C fs] t → Φ t Δ1) (hb : attributeBase o m X.env (eval o X.env) = eval o X.env := by rfl) : EE X B M Δ (.Attribute o m pos) Φ := fun σ H S Q kk => by
  obtain ⟨p, f, fd, ok, hp, hbn⟩ := F.ex
  refine PE.to (pe_prop pe_self F.cl hp ok hr hbn .nil passN hb) (h σ H S _ fun x Δ1 v H1 q fe S1 d => ?_)
  obtain ⟨fs, rfl, q1, q2⟩ := q
  cases d with
  | ins h1 h2 =>
    refine ⟨_, _, _, rfl, (mi_some.mp h1).2, M.m, [.ins C fs], .cons (.ins h1 h2) .nil, q1, S1.al, S1.tb, fun v t H' hp f2 tb dd => kk t Δ1 v H' (q2 t hp) (fe.trans (f2.imp fun _ _ _ z => z.elim)) (S1.feGrow f2 tb) dd⟩
theorem ee_meth {m : Str} {C : Addr} {k : Nat} {ps : List Str} {pre : List Tr → Prop} {post : List Tr → Tr → Prop} {apos pos : Pos} {pl : Sem Bool} (F : Mt X.prog X.w X.K X.mg X.base C m k ps (spF X.K B.T pre post)) (hr : Room k X.A)
    (h : EE X B M Δ o fun x Δ1 => ∃ fs, x = .ins C fs ∧ fs.lookup m = none ∧ EA X B M Δ1 (e :: es) fun ts Δ2 => pre (.ins C fs :: ts) ∧ ∀ t, post (.ins C fs :: ts) t → Φ t Δ2)
    (hst : starEach (e :: es) X.env = (false, eval e X.env) :: starEach es X.env := by rfl) (hpl : (backTo pos (starEach es X.env)).any (·.1) = false := by rfl)
    (ht : eval (.Call (.Attribute o m apos) (e :: es) [] pos) X.env = (do
      let ov ← eval o X.env
      standAt apos.atName
      let (f, first) ← holding [ov] (getMethod ov m pl)
      callWith pos f first (backTo pos (starEach (e :: es) X.env)) (backToKw pos (keywordEach [] X.env))) := by rfl) : EE X B M Δ (.Call (.Attribute o m apos) (e :: es) [] pos) Φ := fun σ H S Q kk => by
  obtain ⟨f, fd, ok, hp, hbn⟩ := F.ex
  refine PE.to (pe_meth pe_self F.cl hp ok hr hbn .nil pass0 pa_self hst hpl ht) (h σ H S _ fun x Δ1 v H1 q fe S1 d => ?_)
  obtain ⟨fs, rfl, q0, q1⟩ := q
  cases d with
  | ins h1 h2 =>
    rename_i a' dx fs'
    refine ⟨_, _, _, rfl, (mi_some.mp h1).2, dfs_none h2 q0, q1 σ H1 S1 _ fun ts Δ2 vs H2 q2 f2 S2 d2 => ?_⟩
    rw [List.append_nil]
    exact ⟨M.m, _, .cons ((Dt.ins h1 h2).mono (S1.sub f2)) d2, q2.1, S2.al, S2.tb, fun v t H' hp f3 tb dd => kk t Δ2 v H' (q2.2 t hp) ((fe.trans f2).trans (f3.imp fun _ _ _ z => z.elim)) (S2.feGrow f3 tb) dd⟩
/-! ### x.append(y.pop(i)), both owned -/
theorem s_appendPop (i j : Nat) {x y : Str} {p1 p2 p3 p4 p5 p6 pos : Pos} (hN : X.N[i]? = some x) (hN2 : X.N[j]? = some y) {l m : Addr} {ts0 us0 : List Tr} (hi : Δ[i]? = some (.own l (.lst ts0))) (hj : Δ[j]? = some (.own m (.lst us0))) (hij : i ≠ j)
    (h : EE X B M Δ e fun t Δ1 => ∃ (n : Nat) (ts us : List Tr) (u : Tr), t = .int n ∧ us[n]? = some u ∧ Δ1[i]? = some (.own l (.lst ts)) ∧ Δ1[j]? = some (.own m (.lst us)) ∧ ts.length < sizeLine ∧ us.length ≤ sizeLine ∧ Ψ.nx M ((Δ1.set j (.own m (.lst (us.eraseIdx n)))).set i (.own l (.lst (ts ++ [u])))))
    (hE : PS X (.Expr (.Call (.Attribute (.Name x p1) "append" p2) [.Call (.Attribute (.Name y p3) "pop" p4) [e] [] p5] [] p6) pos) (tDrop (tBM X.K "list" rAppend (tVar i) (tCons (tBM X.K "list" rPopAt (tVar j) (tCons (WE X e) tNil)) tNil))) := by
      exact ps_expr (pe_bm PySem.F.plainAttrs_list PySem.F.slot_list_append PySem.F.type_list_append mt_append (pv _) (pa_cons (pe_bm PySem.F.plainAttrs_list PySem.F.slot_list_pop PySem.F.type_list_pop mt_popAt (pv _) (pa_cons pe_self pa_nil)) pa_nil))) :
    S1 X B M Δ (.Expr (.Call (.Attribute (.Name x p1) "append" p2) [.Call (.Attribute (.Name y p3) "pop" p4) [e] [] p5] [] p6) pos) Ψ := fun σ H S D p => by
  obtain ⟨h1, h2, h3, h4, xs0, h5, h6⟩ := S.ownAt hi
  obtain ⟨g1, g2, g3, g4, ys0, g5, g6⟩ := S.ownAt hj
  refine PS.to hE ⟨_, h1, .inl ⟨rfl, _, SqL.of h5⟩, _, g1, .inl ⟨rfl, _, SqL.of g5⟩, h σ H S _ fun t Δ1 v H1 q f S1 d => ?_⟩
  obtain ⟨n, ts, us, u, rfl, q0, q1, q2, q3, q5, q4⟩ := q
  cases d
  obtain ⟨_, _, _, _, xs, h7, h8⟩ := S1.ownAt q1
  obtain ⟨_, _, _, _, ys, g7, g8⟩ := S1.ownAt q2
  obtain ⟨w', w1, w2⟩ := g8.get q0
  have hn : n < ys.length := (List.getElem?_eq_some_iff.mp w1).1
  have hsl : sizeLine = 16777216 := sizeLine_eq
  have hyl := g8.length
  refine ⟨m, ys, n, n, w', rfl, rfl, g7, by omega, by omega, ?_, w1, ?_⟩
  · have e1 : (if (n : Int) < 0 then (n : Int) + (ys.length : Int) else (n : Int)) = (n : Int) := if_neg (by omega)
    unfold seqIndex?
    show (if (decide (0 ≤ (if (n : Int) < 0 then (n : Int) + (ys.length : Int) else (n : Int))) && decide ((if (n : Int) < 0 then (n : Int) + (ys.length : Int) else (n : Int)) < (ys.length : Int))) = true then some (if (n : Int) < 0 then (n : Int) + (ys.length : Int) else (n : Int)).toNat else none) = some n
    rw [e1, if_pos (by rw [Bool.and_eq_true]; exact ⟨decide_eq_true (by omega), decide_eq_true (by omega)⟩)]
    rfl
  obtain ⟨S2, s2⟩ := S1.write (o := .lst (ys.eraseIdx n)) (t' := .lst (us.eraseIdx n)) q2 ⟨_, upd_same, g8.erase n⟩
  have hlm : l ≠ m := fun z => hij (S1.dis i j _ _ l q1 q2 rfl (by rw [z]; rfl))
  have q1' : (Δ1.set j (.own m (.lst (us.eraseIdx n))))[i]? = some (.own l (.lst ts)) := by rw [List.getElem?_set_ne (Ne.symm hij)]; exact q1
  obtain ⟨S3, s3⟩ := S2.write (o := .lst (xs ++ [w'])) (t' := .lst (ts ++ [u])) q1' ⟨_, upd_same, (h8.mono s2).append (.cons (w2.mono s2) .nil)⟩
  refine ⟨l, xs, w', rfl, rfl, by rw [upd_ne hlm]; exact h7, by rw [h8.length]; exact q3, ?_⟩
  exact p.nx M _ σ _ q4 (((S.sub f).trans s2).trans s3) S3
end
end Wf

set_option Elab.async false
set_option linter.all false
set_option maxRecDepth 100000
set_option maxHeartbeats 1000000
namespace Wf
open PySem PySem.Spec PyProof.Rows L2 LamX
section
variable {X : Cx} {B : Bs} {M : Pl} {Δ : List En} {tg iter elt c : Expr} {Φ : Tr → List En → Prop} {scope : Scope} {pos : Pos} {Ψ : Eo}
theorem wipeE_adr {Δ : List En} : ∀ {vs : List Nat} {e : En} {l : Addr}, e ∈ wipeE Δ vs → e.adr = some l → ∃ e0 ∈ Δ, e0.adr = some l
  | [], e, l, h, q => ⟨e, h, q⟩
  | v :: vs, e, l, h, q => by
    unfold wipeE at h
    rcases List.mem_or_eq_of_mem_set h with h | h
    · exact wipeE_adr h q
    · rw [h] at q; cases q
/-- the elements draw from the pen at slot q -/
theorem elc_lcPen (T : Tg) (hT : T.vs.Nodup)
    (h : EI X B M Δ tg iter fun n f Δ1 => ∃ (q : Nat) (pn : Pn) (c0 cst : Nat) (R : Nat → Tr → Prop), (wipeE Δ1 T.vs)[q]? = some (.pen pn c0) ∧ n ≤ sizeLine ∧
      (∀ i c D, i < n → c ≤ c0 + i * cst → T.ok (f i) ∧ ∀ (s : Shared) (H : Hp) (C : Addr) (cl : List (Str × Addr)) (fp : List Addr), EE (X.blk s H scope (compEnvC scope cl C X.env) fp) B (ins M D) (T.set ((wipeE Δ1 T.vs).set q (.pen pn c)) (f i)) elt fun t Δ3 =>
        R i t ∧ ∃ c', c' ≤ c + cst ∧ wipeE Δ3 T.vs = (wipeE Δ1 T.vs).set q (.pen pn c')) ∧
      ∀ ts c, ts.length = n → (∀ (i : Nat) t, ts[i]? = some t → R i t) → c ≤ c0 + n * cst → Φ (.lst ts) ((wipeE Δ1 T.vs).set q (.pen pn c))) : ELc X B M Δ T tg iter elt [] scope Φ := by
  refine elc T hT ?_
  obtain ⟨wi, h1, h2⟩ := h
  refine ⟨wi, h1, fun σ H S R k => h2 σ H S R fun n f Δ' J G Y H' p => k n f Δ' J G Y H' ?_⟩
  obtain ⟨q, pn, c0, cst, Rl, hq, hn, ht, hd⟩ := p
  have hq0 : (wipeE Δ' T.vs).set q (.pen pn c0) = wipeE Δ' T.vs := by
    obtain ⟨hl, he⟩ := List.getElem?_eq_some_iff.mp hq
    rw [← he]
    exact List.set_getElem_self hl
  refine ⟨fun i acc Δ2 => ∃ c, Δ2 = (wipeE Δ' T.vs).set q (.pen pn c) ∧ c ≤ c0 + i * cst ∧ acc.length = i ∧ ∀ (j : Nat) t, acc[j]? = some t → Rl j t, ⟨c0, hq0.symm, by omega, rfl, fun j t z => by simp at z⟩, ?_, ?_, ?_⟩
  · rintro i acc Δ2 D hi ⟨c, rfl, hc', hl, hR⟩ hD
    obtain ⟨okT, he⟩ := ht i c D hi hc'
    refine ⟨okT, fun s H C cl fp => ets_nil ⟨fun _ s H C cl fp => EE.mono (he s H C cl fp) fun t Δ3 ⟨r, c', hc2, e3⟩ => ⟨by omega, c', e3, ?_, by rw [List.length_append, hl]; rfl, fun j t' z => ?_⟩, fun z => Bool.noConfusion z⟩⟩
    · rw [Nat.add_mul]; omega
    · by_cases hj : j < acc.length
      · rw [List.getElem?_append_left hj] at z
        exact hR j t' z
      · rw [List.getElem?_append_right (by omega)] at z
        have : j - acc.length = 0 := by
          cases e : j - acc.length with
          | zero => rfl
          | succ m => rw [e] at z; simp at z
        rw [this] at z
        cases z
        have : j = i := by omega
        rw [this]; exact r
  · rintro i acc Δ2 ⟨c, rfl, _⟩ e he l el
    rcases List.mem_or_eq_of_mem_set he with he | rfl
    · exact wipeE_adr he el
    · obtain rfl : pn.l = l := Option.some.inj el
      exact wipeE_adr (List.mem_of_getElem? hq) rfl
  · rintro acc Δ2 ⟨c, rfl, hc', hl, hR⟩
    exact hd acc c hl hR hc'
/-- the elements are pure: a map -/
theorem elc_lcMap (T : Tg) (hT : T.vs.Nodup)
    (h : EI X B M Δ tg iter fun n f Δ1 => ∃ g : Nat → Tr, n ≤ sizeLine ∧ (∀ i D, i < n → T.ok (f i) ∧ ∀ (s : Shared) (H : Hp) (C : Addr) (cl : List (Str × Addr)) (fp : List Addr), EE (X.blk s H scope (compEnvC scope cl C X.env) fp) B (ins M D) (T.set (wipeE Δ1 T.vs) (f i)) elt fun t Δ3 =>
        t = g i ∧ wipeE Δ3 T.vs = wipeE Δ1 T.vs) ∧ Φ (.lst ((List.range n).map g)) (wipeE Δ1 T.vs)) : ELc X B M Δ T tg iter elt [] scope Φ := by
  refine elc T hT ?_
  obtain ⟨wi, h1, h2⟩ := h
  refine ⟨wi, h1, fun σ H S R k => h2 σ H S R fun n f Δ' J G Y H' p => k n f Δ' J G Y H' ?_⟩
  obtain ⟨g, hn, ht, hd⟩ := p
  refine ⟨fun i acc Δ2 => Δ2 = wipeE Δ' T.vs ∧ acc = (List.range i).map g, ⟨rfl, rfl⟩, ?_, ?_, ?_⟩
  · rintro i acc Δ2 D hi ⟨rfl, rfl⟩ hD
    obtain ⟨okT, he⟩ := ht i D hi
    refine ⟨okT, fun s H C cl fp => ets_nil ⟨fun _ s H C cl fp => EE.mono (he s H C cl fp) fun t Δ3 ⟨r, e3⟩ => ⟨by rw [List.length_map, List.length_range]; omega, e3, by rw [List.range_succ, List.map_append, r]; rfl⟩, fun z => Bool.noConfusion z⟩⟩
  · rintro i acc Δ2 ⟨rfl, _⟩ e he l el
    exact wipeE_adr he el
  · rintro acc Δ2 ⟨rfl, rfl⟩
    exact hd
/-- the same with a test -/
theorem elc_lcFilter (T : Tg) (hT : T.vs.Nodup)
    (h : EI X B M Δ tg iter fun n f Δ1 => ∃ (g : Nat → Tr) (p : Nat → Bool), n ≤ sizeLine ∧ (∀ i D, i < n → T.ok (f i) ∧ ∀ (s : Shared) (H : Hp) (C : Addr) (cl : List (Str × Addr)) (fp : List Addr), ET (X.blk s H scope (compEnvC scope cl C X.env) fp) B (ins M D) (T.set (wipeE Δ1 T.vs) (f i)) c fun k Δ2 =>
        k = p i ∧ wipeE Δ2 T.vs = wipeE Δ1 T.vs ∧ (k = true → ∀ (s : Shared) (H : Hp) (C : Addr) (cl : List (Str × Addr)) (fp : List Addr), EE (X.blk s H scope (compEnvC scope cl C X.env) fp) B (ins M D) Δ2 elt fun t Δ3 => t = g i ∧ wipeE Δ3 T.vs = wipeE Δ1 T.vs)) ∧ Φ (.lst (((List.range n).filter p).map g)) (wipeE Δ1 T.vs)) : ELc X B M Δ T tg iter elt [c] scope Φ := by
  refine elc T hT ?_
  obtain ⟨wi, h1, h2⟩ := h
  refine ⟨wi, h1, fun σ H S R k => h2 σ H S R fun n f Δ' J G Y H' p => k n f Δ' J G Y H' ?_⟩
  obtain ⟨g, pr, hn, ht, hd⟩ := p
  refine ⟨fun i acc Δ2 => Δ2 = wipeE Δ' T.vs ∧ acc = ((List.range i).filter pr).map g, ⟨rfl, rfl⟩, ?_, ?_, ?_⟩
  · rintro i acc Δ2 D hi ⟨rfl, rfl⟩ hD
    obtain ⟨okT, he⟩ := ht i D hi
    refine ⟨okT, fun s H C cl fp => ets_one (ET.mono (he s H C cl fp) fun k Δ2 ⟨hk, e2, hkt⟩ => ⟨fun z s H C cl fp => EE.mono (hkt z s H C cl fp) fun t Δ3 ⟨r, e3⟩ => ⟨?_, e3, ?_⟩, fun z => ⟨e2, ?_⟩⟩)⟩
    · have := List.length_filter_le pr (List.range i)
      rw [List.length_range] at this
      rw [List.length_map]; omega
    · subst z
      rw [List.range_succ, List.filter_append, List.map_append, r]
      have : List.filter pr [i] = [i] := by rw [List.filter_cons, ← hk]; rfl
      rw [this]; rfl
    · subst z
      rw [List.range_succ, List.filter_append]
      have : List.filter pr [i] = [] := by rw [List.filter_cons, ← hk]; rfl
      rw [this, List.append_nil]
  · rintro i acc Δ2 ⟨rfl, _⟩ e he l el
    exact wipeE_adr he el
  · rintro acc Δ2 ⟨rfl, rfl⟩
    exact hd
theorem eo_lcPen (T : Tg) {own : List (Str × Nat)} (hc : X.calm = true) (hN : X.N.Nodup) (hT : T.vs.Nodup) (ho : own.map (·.2) = T.vs) (ok : BlkOk X.N X.env.scope scope own)
    (hg : ∀ (s : Shared) (H : Hp) (C : Addr) (cl : List (Str × Addr)) (fp : List Addr), PG (X.blk s H scope (compEnvC scope cl C X.env) fp) tg (T.g X.K))
    (h : EI X B M Δ tg iter fun n f Δ1 => ∃ (q : Nat) (pn : Pn) (c0 cst : Nat) (R : Nat → Tr → Prop), (wipeE Δ1 T.vs)[q]? = some (.pen pn c0) ∧ n ≤ sizeLine ∧
      (∀ i c D, i < n → c ≤ c0 + i * cst → T.ok (f i) ∧ ∀ (s : Shared) (H : Hp) (C : Addr) (cl : List (Str × Addr)) (fp : List Addr), EE (X.blk s H scope (compEnvC scope cl C X.env) fp) B (ins M D) (T.set ((wipeE Δ1 T.vs).set q (.pen pn c)) (f i)) elt fun t Δ3 =>
        R i t ∧ ∃ c', c' ≤ c + cst ∧ wipeE Δ3 T.vs = (wipeE Δ1 T.vs).set q (.pen pn c')) ∧
      ∀ ts c, ts.length = n → (∀ (i : Nat) t, ts[i]? = some t → R i t) → c ≤ c0 + n * cst → Φ (.lst ts) ((wipeE Δ1 T.vs).set q (.pen pn c)))
    (hs : ∀ x, foldedSetIterable iter X.env x = pure x := by intro _; rfl) : EO X B M Δ (.ListComp elt [⟨tg, iter, [], 0⟩] scope pos) Φ := eo_of T hc hN ho ok hg (elc_lcPen T hT h) hs
theorem eo_lcMap (T : Tg) {own : List (Str × Nat)} (hc : X.calm = true) (hN : X.N.Nodup) (hT : T.vs.Nodup) (ho : own.map (·.2) = T.vs) (ok : BlkOk X.N X.env.scope scope own)
    (hg : ∀ (s : Shared) (H : Hp) (C : Addr) (cl : List (Str × Addr)) (fp : List Addr), PG (X.blk s H scope (compEnvC scope cl C X.env) fp) tg (T.g X.K))
    (h : EI X B M Δ tg iter fun n f Δ1 => ∃ g : Nat → Tr, n ≤ sizeLine ∧ (∀ i D, i < n → T.ok (f i) ∧ ∀ (s : Shared) (H : Hp) (C : Addr) (cl : List (Str × Addr)) (fp : List Addr), EE (X.blk s H scope (compEnvC scope cl C X.env) fp) B (ins M D) (T.set (wipeE Δ1 T.vs) (f i)) elt fun t Δ3 =>
        t = g i ∧ wipeE Δ3 T.vs = wipeE Δ1 T.vs) ∧ Φ (.lst ((List.range n).map g)) (wipeE Δ1 T.vs))
    (hs : ∀ x, foldedSetIterable iter X.env x = pure x := by intro _; rfl) : EO X B M Δ (.ListComp elt [⟨tg, iter, [], 0⟩] scope pos) Φ := eo_of T hc hN ho ok hg (elc_lcMap T hT h) hs
theorem eo_lcFilter (T : Tg) {own : List (Str × Nat)} (hc : X.calm = true) (hN : X.N.Nodup) (hT : T.vs.Nodup) (ho : own.map (·.2) = T.vs) (ok : BlkOk X.N X.env.scope scope own)
    (hg : ∀ (s : Shared) (H : Hp) (C : Addr) (cl : List (Str × Addr)) (fp : List Addr), PG (X.blk s H scope (compEnvC scope cl C X.env) fp) tg (T.g X.K))
    (h : EI X B M Δ tg iter fun n f Δ1 => ∃ (g : Nat → Tr) (p : Nat → Bool), n ≤ sizeLine ∧ (∀ i D, i < n → T.ok (f i) ∧ ∀ (s : Shared) (H : Hp) (C : Addr) (cl : List (Str × Addr)) (fp : List Addr), ET (X.blk s H scope (compEnvC scope cl C X.env) fp) B (ins M D) (T.set (wipeE Δ1 T.vs) (f i)) c fun k Δ2 =>
        k = p i ∧ wipeE Δ2 T.vs = wipeE Δ1 T.vs ∧ (k = true → ∀ (s : Shared) (H : Hp) (C : Addr) (cl : List (Str × Addr)) (fp : List Addr), EE (X.blk s H scope (compEnvC scope cl C X.env) fp) B (ins M D) Δ2 elt fun t Δ3 => t = g i ∧ wipeE Δ3 T.vs = wipeE Δ1 T.vs)) ∧ Φ (.lst (((List.range n).filter p).map g)) (wipeE Δ1 T.vs))
    (hs : ∀ x, foldedSetIterable iter X.env x = pure x := by intro _; rfl) : EO X B M Δ (.ListComp elt [⟨tg, iter, [c], 0⟩] scope pos) Φ := eo_of T hc hN ho ok hg (elc_lcFilter T hT h) hs
end
end Wf

set_option Elab.async false
set_option linter.all false
set_option maxRecDepth 100000
set_option maxHeartbeats 1000000
namespace Wf
open PySem PySem.Spec PyProof.Rows L2 LamX
/-! ### texts by their signs -/
def sgn (c : Nat) : Str := ⟨#[c]⟩
def txt (cs : List Nat) : Str := ⟨cs.toArray⟩
theorem txt_len (cs : List Nat) : (txt cs).length = cs.length := by simp [txt, Str.length]
theorem txt_cps (cs : List Nat) : (txt cs).cps.toList = cs := by simp [txt]
theorem txt_of (z : Str) : txt z.cps.toList = z := by cases z; simp [txt]
theorem txt_inj {a b : List Nat} (h : txt a = txt b) : a = b := by
  have := congrArg (fun z : Str => z.cps.toList) h
  simpa [txt] using this
theorem append_txt (a b : List Nat) : txt a ++ txt b = txt (a ++ b) := by
  show (⟨a.toArray ++ b.toArray⟩ : Str) = ⟨(a ++ b).toArray⟩
  simp
theorem join_txt (e : Str) (he : e.cps = #[]) : ∀ ls : List (List Nat), Txt.join e (ls.map txt) = txt ls.flatten := by
  intro ls
  show Builtin.Str.glued e (ls.map txt) = _
  rw [StrLaws.glued_eq_join]
  have h0 : e = txt [] := by cases e; simp at he; subst he; rfl
  induction ls with
  | nil => rfl
  | cons a r ih =>
    cases r with
    | nil => show txt a = _; simp
    | cons b r =>
      show txt a ++ e ++ Str.join e (txt b :: r.map txt) = _
      rw [show Str.join e (txt b :: r.map txt) = Str.join e ((b :: r).map txt) from rfl, ih, h0, append_txt, append_txt]
      simp
theorem join_sgn (e : Str) (he : e.cps = #[]) (cs : List Nat) : Txt.join e (cs.map sgn) = txt cs := by
  have h : cs.map sgn = (cs.map fun c => [c]).map txt := by rw [List.map_map]; rfl
  rw [h, join_txt e he]
  congr 1
  clear h
  induction cs with
  | nil => rfl
  | cons c cs ih =>
    rw [List.map_cons, List.flatten_cons, ih]
    rfl
theorem sgn_len (cs : List Nat) : ((cs.map sgn).map (·.length)).sum = cs.length := by
  induction cs with
  | nil => rfl
  | cons c cs ih =>
    rw [List.map_cons, List.map_cons, List.sum_cons, ih]
    show 1 + cs.length = cs.length + 1
    omega
theorem strOk_txt {cs : List Nat} (h : ∀ c ∈ cs, c < 128) : PyData.strOk (txt cs) = true := by
  unfold PyData.strOk
  simp only [txt, List.all_toArray]
  rw [List.all_eq_true]
  intro c hc
  have := h c hc
  simp
  omega
theorem map_range {α β : Type} (F : α → β) (d : α) : ∀ l : List α, (List.range l.length).map (fun i => F (l.getD i d)) = l.map F := by
  intro l
  apply List.ext_getElem?
  intro i
  rw [List.getElem?_map, List.getElem?_map]
  by_cases h : i < l.length
  · rw [List.getElem?_range h]
    simp [h]
  · rw [List.getElem?_eq_none (by simpa using h), List.getElem?_eq_none (by omega)]
    rfl
end Wf

set_option Elab.async false
set_option linter.all false
set_option maxRecDepth 100000
set_option maxHeartbeats 1000000
namespace Wf
open PySem PySem.Spec PyProof.Rows L2 LamX
open PySem.W (EachIs AllAlike Sortable dataLe KeyPure)
/-! ### the values of a list that stands for data, sorted -/
theorem each_of {R : Value → Tr → Prop} {K : PySem.W.Frag} {I : Hp} (h : ∀ u t v, RelV v u → Dt K I v t → R u t) : ∀ {vs : List V} {us : List Value} {ts : List Tr}, Vals vs us → Dts K I vs ts → EachIs R us ts
  | _, _, _, .nil, .nil => .nil
  | _, _, _, .cons r rs, .cons d ds => .cons (h _ _ _ r d) (each_of h rs ds)
theorem each_back {K : PySem.W.Frag} {I : Hp} : ∀ {us : List Value} {ts : List Tr}, EachIs (fun u t => ∃ v, RelV v u ∧ Dt K I v t) us ts → ∃ vs, Vals vs us ∧ Dts K I vs ts
  | _, _, .nil => ⟨[], .nil, .nil⟩
  | _, _, .cons ⟨v, r, d⟩ h => let ⟨vs, h1, h2⟩ := each_back h; ⟨v :: vs, .cons r h1, .cons d h2⟩
theorem plainAll_mem {ts : List Tr} : plainAll ts = true → ∀ t ∈ ts, t.plain = true := by
  induction ts with
  | nil => intro _ t h; simp at h
  | cons x xs ih =>
    intro h t ht
    unfold plainAll at h
    rw [Bool.and_eq_true] at h
    rcases List.mem_cons.mp ht with rfl | ht
    · exact h.1
    · exact ih h.2 t ht
def rSortD (K : PySem.W.Frag) : List V → Hp → VK → Prop := fun vs H Q => ∃ (I : Hp) (a : Addr) (xs : List V) (ts : List Tr), vs = [.ref a] ∧ SqL K H a xs ∧ Sub I H ∧ Dts K I xs ts ∧ (∀ t ∈ ts, t.plain = true) ∧ AllAlike (ts.map Tr.py) ∧ Sortable (ts.map Tr.py) ∧ (∀ t ∈ ts, t.py.depth ≤ 8) ∧
  ∀ ys p, Dts K I ys (ts.mergeSort (dataLe false Tr.py)) → H p = none → Q (.ref p) (upd H p (.lst ys))
section
variable {X : Cx} {B : Bs} {M : Pl} {Δ : List En} {e a b c o lo hi : Expr} {es : List Expr} {Φ : Tr → List En → Prop} {Ψ : Eo}
theorem cr_sortD (hu : X.A.units + 64 < cLine) : CallR X (.builtin "sorted") (rSortD X.K) := by
  intro pins s σ H vs us Q J r h
  obtain ⟨I, a, xs, ts, rfl, hs, sub, d, hp, hal, hk, hdp, q⟩ := h
  obtain rfl := Vals.ref1 r
  obtain ⟨its, rv, hl, hz⟩ := J.list hs
  have ev : EachIs (fun u t => ∃ v, RelV v u ∧ Dt X.K I v t) its ts := each_of (fun u t v r d => ⟨v, r, d⟩) rv d
  have el : ts.length = xs.length := d.length.symm
  have er : EachIs (fun u t => ∃ as, Reads s.heap u (Tr.py t) as) its ts := by
    have key : ∀ {vs : List V} {us : List Value} {ts : List Tr}, Vals vs us → Dts X.K I vs ts → (∀ t ∈ ts, t.plain = true) → EachIs (fun u t => ∃ as, Reads s.heap u (Tr.py t) as) us ts := fun {vs us ts} hv => by
      induction hv generalizing ts with
      | nil => intro dd _; cases dd; exact .nil
      | cons r _ ih =>
        intro dd pp
        cases dd with
        | cons d1 d2 => exact .cons (Dp.reads J _ _ _ ((d1.mono sub).dp (pp _ List.mem_cons_self)) r) (ih d2 fun t ht => pp t (List.mem_cons_of_mem _ ht))
    exact key rv d hp
  refine PySem.W.sorted_data (enc := Tr.py) (bs := ts) hl.isList ev er hal hk (by rw [el]; exact hz) (fun t ht => ?_) fun out ho eo => ?_
  · have := hdp t ht
    omega
  obtain ⟨ys, y1, y2⟩ := each_back eo
  obtain ⟨ep, he⟩ := PyProof.Rows.sortedAll_at s.heap its (List.toArray out)
  have hyl : ys.length ≤ sizeLine := by rw [y1.length, ho, el]; exact hz
  exact ⟨.ref _, upd H (s.heap.objs.size + 1) (.lst ys), J.laid (t' := s.toks) (fun _ _ => PyProof.Rows.sortedAll_old) (Nat.le_succ _) ⟨hyl, out, ep, y1, he⟩, rfl, q _ _ y2 (J.hok.fresh (Nat.le_succ _))⟩
/-- sorted(xs), plain data that compare -/
theorem co_sortD (hu : X.A.units + 64 < cLine) : CalO X (.builtin "sorted") B M Φ fun ts Δ2 => ∃ us : List Tr, ts = [.lst us] ∧ (∀ t ∈ us, t.plain = true) ∧ AllAlike (us.map Tr.py) ∧ Sortable (us.map Tr.py) ∧ (∀ t ∈ us, t.py.depth ≤ 8) ∧ Φ (.lst (us.mergeSort (dataLe false Tr.py))) Δ2 := ⟨_, cr_sortD hu, fun ts Δ2 p σ H vs Q S d k => by
  obtain ⟨us, rfl, p1, p2, p3, p4, q⟩ := p
  cases d with
  | cons d1 d2 =>
    cases d2
    cases d1 with
    | lst h1 h2 =>
      exact ⟨mi M.m H, _, _, us, rfl, sub_seqL mi_sub h1, mi_sub, h2, p1, p2, p3, p4, fun ys p y1 hp => k _ p _ q (same_new hp) hp ⟨ys, upd_same, y1⟩⟩⟩
end
/-! ### the lambda of word order -/
/-- a text's place in word order -/
def wkey (x : Str) : PyData := .tuple [.int x.length, .str x]
section
variable {X : Cx} {pins : List (Addr × Obj)} {σ : L2.St} {H : Hp} {s : Shared}
abbrev lamSc : Scope := ⟨.function, [("word", .local), ("len", .globalImplicit)], false, false, []⟩
abbrev lamBd (p1 p2 p3 p4 p5 : Pos) (k : Nat) : Expr := .Tuple [.Call (.Name "len" p1) [.Name "word" p2] [] p3, .Name "word" p4] k p5
theorem lam_turn {A : Around} {mg : Str → Option Value} {prog : Program} {w : World} {s : Shared} {f c' : Addr} {q : Str} {params : Arguments} {pm ctv : Value} {p1 p2 p3 p4 p5 : Pos} {j : Nat} {x : Str} {t : Tok}
    (hA : A.depth < recursionLimit) (hf : s.heap.get? f = some (PySem.W.kla_obj "<lambda>" q params (lamBd p1 p2 p3 p4 p5 j) lamSc [] pm c' ctv)) (hc : s.heap.CodeRec (.ref c') q)
    (hb : ∀ v : Value, bindArgs (PySem.W.kla_fn "<lambda>" q params (lamBd p1 p2 p3 p4 p5 j) lamSc [] pm (.ref c') ctv) ⟨[v], []⟩ = pure [(("word" : Str), v)])
    (hl : s.heap.NoLimit) (hg : s.heap.Ns mainGlobals mg) (hm : mg "len" = none) (hbn : ∃ mb, s.heap.Ns builtinsNs mb ∧ mb "len" = bootBuiltins "len") (hx : x.length ≤ sizeLine) :
    wpAny (model prog w) A (call (.ref f) [.str x t]) (KeyPure (wkey x) s) (fun _ _ => False) s := by
  obtain ⟨mb, hn1, hn2⟩ := hbn
  refine wpAny_call (PySem.W.kla_callFunE hA hf rfl rfl rfl rfl hc ?_)
  rw [hb]
  refine wpAny_pure (wpAny_newFunctionEnv (fun y hy => ?_) (fun y hy => ?_) (fun h₁ hns hsb => ⟨hl.fresh _ hsb, ?_⟩) rfl)
  · rcases List.mem_cons.mp hy with rfl | hy
    · decide
    · rcases List.mem_cons.mp hy with rfl | hy
      · decide
      · exact absurd hy (by simp)
  · rcases List.mem_cons.mp hy with rfl | hy
    · rfl
    · exact absurd hy (by simp)
  · have kp : ∀ b o, s.heap.get? b = some o → h₁.get? b = some o := fun b o e => hsb.extBut b o (Nat.ne_of_lt (Heap.lt_size e)) (Heap.get?_push_of_some _ e)
    have hw : (fun y => ([("word", (Value.str x t))] : List (Str × Value)).reverse.lookup y) "word" = some (.str x t) := rfl
    refine PySem.W.kla_codeExpr (Tuple_ (Calls.spliced_cons (wpAny_Call_Name_kw (Calls.Name_function_global rfl rfl (Calls.loadGlobal_builtin (hg.keeps kp) hm (hn1.keeps kp) (v := .builtin "len") (by rw [hn2]; decide +kernel) ?_) (by decide)))))
    have hz := sizeLine_eq
    refine callWith_builtin1 (wpAny_Name (wpAny_loadName_local rfl rfl hns hw (PyProof.Rows.len_str (by omega) ?_)) (by decide))
    refine Calls.spliced_cons (wpAny_Name (wpAny_loadName_local rfl rfl hns hw (Calls.spliced_nil ?_)) (by decide))
    refine wpAny_newObj_type ⟨_, _, rfl, fun b o e => Heap.get?_push_of_some _ (kp b o e), ?_⟩ (by size_fits)
    exact .tuple (Heap.get?_push_size _ rfl) rfl rfl (.cons (.int _ _) (.cons (.str _ _) .nil))
end
end Wf

set_option Elab.async false
set_option linter.all false
set_option maxRecDepth 100000
set_option maxHeartbeats 2000000
namespace Wf
open PySem PySem.Spec PyProof.Rows L2 LamX
open PySem.W (EachIs AllAlike Sortable dataLe KeyPure copyHeap)
/-! ### a lambda is made: what stays -/
def TblK (H H' : Hp) : Prop := ∀ b ps, H b = some (.tbl ps) → ∃ qs, H' b = some (.tbl qs)
section
variable {X : Cx} {pins : List (Addr × Obj)} {σ : L2.St} {H : Hp} {s : Shared}
theorem lam_mk {T : List (Addr × Str)} {c P : Addr} {params : Arguments} {body : Expr} {scope : Scope} {pos : Pos} {E Q : Value → Shared → Prop} {q : Str} (I : Inv X pins σ H s) (TB : TabB X.base X.mg c P)
    (hcode : X.env.code = .ref c) (hq : X.env.qual ++ "<lambda>" = q) (hm : (P, q) ∈ T) (hu : ∀ p ∈ T, p.1 = P → p.2 = q) (hT : Tabs T H) (hdef : defaultsOf params X.env = ([], [])) (hfree : ∀ y ∈ scope.names, y.2 = .free → ∃ c, X.env.cells.lookup y.1 = some c)
    (hcl : cloFrom X.env.cells scope.names [] = [])
    (h : ∀ (f c' : Addr) (pm ctv : Value) (H1 : Hp) (s' : Shared), Inv X pins σ H1 s' → ExtN H H1 → TblK H H1 → Tabs T H1 →
      s'.heap.get? f = some (PySem.W.kla_obj "<lambda>" q params body scope [] pm c' ctv) → H1 c' = some (CodeO c' q) → Q (.ref f) s') : wpAny (model X.prog X.w) X.A (eval (.Lambda params body scope pos) X.env) Q E s := by
  subst hq
  obtain ⟨ps, eP, tP, aP⟩ := hT _ hm
  have oP : s.heap.get? P = some { cls := .none, data := .fields ps } := I.hok P _ eP
  refine PySem.W.kla_eval hdef ?_
  cases hc : codeAmong pos ps.toList with
  | some cv =>
    obtain ⟨c', rfl, oc⟩ := aP pos cv hc
    refine PySem.W.kla_makeFunctionHit (mg := X.mg) (c := c) (P := P) (ps := ps) (closure_ok hfree) I.ok.glob (I.mod.glob.keeps I.bk) hcode (TB.code.keeps I.bk) oP tP hc (TB.bm.keeps I.bk) fun ctv h' tk kp ge => ?_
    rw [hcl]
    exact h _ c' _ ctv H _ (I.kept (t' := tk) fun b o z => Heap.get?_push_of_some _ (kp b o z)) (ExtN.refl H) (fun b qs z => ⟨qs, z⟩) hT (Heap.get?_push_size _ rfl) oc
  | none =>
    refine PySem.W.kla_makeFunction (mg := X.mg) (c := c) (P := P) (ps := ps) (closure_ok hfree) I.ok.glob (I.mod.glob.keeps I.bk) hcode (TB.code.keeps I.bk) oP tP hc TB.gP (TB.bm.keeps I.bk) fun c' ctv h' tk ext ge lt rc ot => ?_
    rw [hcl]
    obtain ⟨c2, o1, o2, o3, ec, o4, o5, o6⟩ := rc
    cases ec
    have fr : H c' = none := I.hok.fresh ge
    have ne : P ≠ c' := ne_of_none eP fr
    have J := inv_table (t' := tk) (more := #[rawInt pos.line, rawInt pos.col, .ref c']) (h' := h'.push (PySem.W.kla_obj "<lambda>" (X.env.qual ++ "<lambda>") params body scope [] ((X.mg "__name__").getD .none) c' ctv)) I eP (fun b o nb z => Heap.get?_push_of_some _ (ext b o nb z)) (Heap.get?_push_of_some _ ot) ge ⟨o1, o2, o3, Heap.get?_push_of_some _ o4, o5, o6⟩
    have xt : ExtN H (upd (upd H P (.tbl (ps ++ #[rawInt pos.line, rawInt pos.col, .ref c']))) c' (CodeO c' (X.env.qual ++ "<lambda>"))) := fun b o z nt => by
      have n1 : b ≠ P := fun y => by
        rw [y, eP] at z
        cases z
        exact nt _ rfl
      rw [upd_ne (ne_of_none z fr), upd_ne n1]
      exact z
    have tl : (ps ++ #[rawInt pos.line, rawInt pos.col, .ref c']).toList = ps.toList ++ [rawInt pos.line, rawInt pos.col, .ref c'] := by simp
    refine h _ c' _ ctv _ _ J xt (fun b qs z => ?_) (fun p hp => ?_) (Heap.get?_push_size _ rfl) upd_same
    · by_cases n1 : b = P
      · exact ⟨_, by rw [n1, upd_ne ne, upd_same]⟩
      · exact ⟨qs, by rw [upd_ne (ne_of_none z fr), upd_ne n1]; exact z⟩
    · by_cases n1 : p.1 = P
      · rw [n1, hu p hp n1]
        refine ⟨_, by rw [upd_ne ne, upd_same], by rw [tl]; exact PySem.TriplesOk_snoc _ _ _ _ tP, fun p' cv hcv => ?_⟩
        rw [tl] at hcv
        rcases among_app _ tP hcv with y | y
        · obtain ⟨c0, e1, e2⟩ := aP p' cv y
          exact ⟨c0, e1, xt _ _ e2 codeO_ne⟩
        · exact ⟨c', y, upd_same⟩
      · obtain ⟨qs, a1, a2, a3⟩ := hT p hp
        refine ⟨qs, by rw [upd_ne (ne_of_none a1 fr), upd_ne n1]; exact a1, a2, fun p' cv hcv => ?_⟩
        obtain ⟨c0, e1, e2⟩ := a3 p' cv hcv
        exact ⟨c0, e1, xt _ _ e2 codeO_ne⟩
end
/-! ### sorted(xs, key=f), xs a list or a tuple -/
section
variable {prog : Program} {w : World} {A : Around} {E : Value → Shared → Prop} {s : Shared} {β : Type} {vs : List Value} {bs : List β} {R : Value → β → Prop}
/-- a list or a tuple of these values -/
def SeqO (h : Heap) (l : Addr) (vs : List Value) : Prop := ∃ o n, h.get? l = some o ∧ (o.cls = .type "list" ∨ o.cls = .type "tuple") ∧ o.data = .seq vs.toArray n
theorem collect_sq {l : Addr} {Q : List Value → Shared → Prop} (hl : SeqO s.heap l vs) (hz : vs.length ≤ sizeLine)
    (h : Q vs { s with heap := (s.heap.push (seqObj "list" #[] 0)).update s.heap.objs.size (Obj.mapSeq (· ++ vs.toArray)) }) : wpAny (model prog w) A (collect (.ref l)) Q E s := by
  obtain ⟨o, n, g, cl, da⟩ := hl
  have g2 : (s.heap.push (seqObj "list" #[] 0)).get? l = some o := Heap.get?_push_of_some _ g
  unfold collect
  refine wpAny_bind (wpAny_runValue (codeAny_builtin entry_proto_collect' ?_))
  show wpAny _ _ (newList [] >>= fun l' => again (.builtin "list.__iadd__" ⟨[l', .ref l], []⟩)) _ _ s
  refine wpAny_bind (wpAny_newList (wpAny_pure (And.intro (Code.quiet_builtin _ (by decide +kernel)) (codeAny_builtin entry_list_iadd' ?_))) (Nat.zero_le _))
  show wpAny _ _ (Builtin.List.listExtendWith (.ref s.heap.objs.size) (.ref l) (.ref s.heap.objs.size)) _ _ ({ s with heap := s.heap.push (seqObj "list" #[] 0) } : Shared)
  unfold Builtin.List.listExtendWith
  have new : (s.heap.push (seqObj "list" #[] 0)).get? s.heap.objs.size = some (seqObj "list" #[] 0) := Heap.get?_push_size _ rfl
  obtain ⟨T, ty, hT⟩ : ∃ T : String, o.cls = .type T ∧ ((Value.type T == Value.type "list") = true ∨ (Value.type T == Value.type "tuple") = true) := by
    rcases cl with e | e
    · exact ⟨_, e, .inl (by rfl)⟩
    · exact ⟨_, e, .inr (by rfl)⟩
  refine wpAny_bind (wpAny_typeOf (T := T) ⟨o, g2, ty⟩ ?_)
  rw [if_pos (by rcases hT with e | e <;> rw [e] <;> simp)]
  refine wpAny_bind (listItems_at g2 da (wpAny_bind (listItems_at new rfl ?_)))
  rw [if_neg (by simp)]
  refine wpAny_bind (listUpdate_at new rfl (wpAny_pure ?_) (Nat.zero_le _) (by show (#[] ++ vs.toArray).size ≤ sizeLine + 1; simp only [Array.size_append, List.size_toArray, List.length_nil]; omega))
  show wpAny (model prog w) A (load s.heap.objs.size >>= fun o => match o.data with
      | .seq xs _ => pure xs.toList
      | _ => unsupported "internal:collect") Q E _
  refine wpAny_bind (wpAny_load (get?_update_seq new _) ?_)
  show wpAny _ _ (pure ((#[] : Array Value) ++ vs.toArray).toList) Q E _
  have e : ((#[] : Array Value) ++ vs.toArray).toList = vs := by simp
  rw [e]
  exact wpAny_pure h
theorem sorted_sq {l : Addr} {f : Value} {kw : List (Str × Value)} {Q : Value → Shared → Prop} (k : β → PyData) (hl : SeqO s.heap l vs) (e : EachIs R vs bs) (hal : AllAlike (bs.map k)) (hk : Sortable (bs.map k)) (hL : bs.length ≤ sizeLine)
    (hu : ∀ x, x ∈ bs → A.units + 2 + (k x).depth < cLine) (ha1 : argsOk "sorted" ⟨[.ref l], kw⟩) (ha2 : ∀ x, argsOk "list.sort" ⟨[.ref x], kw⟩) (ht : ∀ x, Builtin.«list.sort» ⟨[.ref x], kw⟩ = ksk_tree x f false)
    (turn : ∀ (v : Value) (x : β), R v x → x ∈ bs → ∀ (h : Heap) (tk : Nat), (∀ b o, s.heap.get? b = some o → h.get? b = some o) → wpAny (model prog w) A.in1.in1 (call f [v]) (KeyPure (k x) { s with heap := h, toks := tk }) (fun _ _ => False) { s with heap := h, toks := tk })
    (h : ∀ out c h' tk, (∀ b o, s.heap.get? b = some o → h'.get? b = some o) → h'.get? (s.heap.objs.size + 1) = some (seqObj "list" (List.toArray out) c) → out.length = bs.length → EachIs R out (bs.mergeSort (dataLe false k)) → Q (.ref (s.heap.objs.size + 1)) { s with heap := h', toks := tk }) :
    wpAny (model prog w) A (call (.builtin "sorted") [.ref l] kw) Q E s := by
  have hz : vs.length ≤ sizeLine := by rw [e.length]; exact hL
  have up : ∀ {g : Heap}, PySem.W.KeepsBut (s.heap.objs.size + 1) (copyHeap s.heap vs) g → ∀ b o, s.heap.get? b = some o → g.get? b = some o := fun {g} kp b o q => kp b o (Nat.ne_of_lt (Nat.lt_succ_of_lt (Heap.lt_size q))) (PySem.W.copyHeap_old q)
  refine call_function_entry_kw kind_sorted plain_sorted entry_sorted ha1 ?_
  unfold Builtin.«sorted»
  refine wpAny_bind (m := checkCount "sorted" 1 1 _) (wpAny_pure (wpAny_bind (collect_sq hl hz (wpAny_bind (wpAny_newList ?_ hz)))))
  have n1 : ((s.heap.push (seqObj "list" #[] 0)).update s.heap.objs.size (Obj.mapSeq (· ++ vs.toArray))).objs.size = s.heap.objs.size + 1 := by rw [Heap.size_update, size_push']
  show wpAny _ _ _ _ _ ({ s with heap := copyHeap s.heap vs } : Shared)
  rw [n1]
  refine wpAny_bind (wpAny_holding (wpAny_call_entry_kw slot_list_sort ⟨_, PySem.W.copyHeap_at s.heap vs, rfl⟩ entry_list_sort ?_ (ha2 _)))
  rw [ht]
  refine PySem.W.keyH_tree (kz := bs.map k) (s := { s with heap := copyHeap s.heap vs }) (PySem.W.copyHeap_at s.heap vs) (by rw [List.length_map, e.length]) hz hal hk (fun d hd => ?_)
    (PySem.W.keyH_turns (s := { s with heap := copyHeap s.heap vs }) e fun v x hR hx h tk kp => turn v x hR hx h tk (up kp)) fun h' tk out c kp hD ko => ⟨Value.none, rfl, wpAny_pure ⟨_, rfl, ?_⟩⟩
  · obtain ⟨x, hx, rfl⟩ := List.mem_map.mp hd
    exact hu x hx
  · exact h out c h' tk (up kp) hD ((ko.length (by rw [List.length_map, e.length])).trans e.length) (PySem.W.keyedOut_each k ko e)
end
theorem dep_wkey (x : Str) : (wkey x).depth = 1 := by simp [wkey, PyData.depth, PyData.depthAll]
theorem alike_wkey (ws : List Str) : AllAlike (ws.map wkey) := AllAlike.of fun _ _ => by simp [wkey, PySem.W.alike, PySem.W.alikeAll]
theorem each_strs {ws : List Str} : ∀ {us : List Value}, Vals (ws.map V.str) us → EachIs (fun u x => ∃ t, u = Value.str x t) us ws := fun {us} h => by
  induction ws generalizing us with
  | nil => cases h; exact .nil
  | cons w ws ih =>
    cases h with
    | cons r rs => exact .cons r (ih rs)
theorem strs_each {ws : List Str} {us : List Value} (h : EachIs (fun u x => ∃ t, u = Value.str x t) us ws) : Vals (ws.map V.str) us := by
  induction h with
  | nil => exact .nil
  | cons r _ ih => exact .cons r ih
section
variable {X : Cx} {B : Bs} {M : Pl} {Δ : List En} {e : Expr} {Φ : Tr → List En → Prop}
theorem seqO_of {pins : List (Addr × Obj)} {σ : L2.St} {H : Hp} {s : Shared} {a : Addr} {xs : List V} (I : Inv X pins σ H s) (h : SqL X.K H a xs ∨ SqT X.K H a xs) : ∃ its, Vals xs its ∧ SeqO s.heap a its ∧ xs.length ≤ sizeLine := by
  rcases h with h | h
  · obtain ⟨its, r, pl, z⟩ := I.list h
    obtain ⟨o, ho, hc, n, hd⟩ := pl.isList
    exact ⟨its, r, ⟨o, n, ho, .inl hc, hd⟩, z⟩
  · obtain ⟨its, r, ⟨o, ho, hc, n, hd⟩, z⟩ := I.tuple h
    exact ⟨its, r, ⟨o, n, ho, .inr hc, hd⟩, z⟩
/-- sorted(xs, key=lambda word: (len(word), word)) -/
theorem eo_sortedKey {k : Nat} {c P : Addr} {q : Str} {p kp lpos pos p1 p2 p3 p4 p5 : Pos} {j : Nat} {params : Arguments} (hg : Gl X "sorted") (hm : X.mg "sorted" = none) (hml : X.mg "len" = none) (TB : TabB X.base X.mg c P) (hcode : X.env.code = .ref c)
    (hq : X.env.qual ++ "<lambda>" = q) (hmT : (P, q) ∈ B.T) (hu : ∀ p ∈ B.T, p.1 = P → p.2 = q) (hr : Room (k + 2) X.A) (hcl : cloFrom X.env.cells lamSc.names [] = [])
    (hbind : ∀ (pm cv ctv v : Value), bindArgs (PySem.W.kla_fn "<lambda>" q params (lamBd p1 p2 p3 p4 p5 j) lamSc [] pm cv ctv) ⟨[v], []⟩ = pure [(("word" : Str), v)])
    (h : EA X B M Δ [e] fun ts Δ1 => ∃ ws : List Str, (ts = [.lst (ws.map Tr.str)] ∨ ts = [.tup (ws.map Tr.str)]) ∧ (∀ w ∈ ws, w.length ≤ sizeLine) ∧ Φ (.lst ((ws.mergeSort (dataLe false wkey)).map Tr.str)) Δ1)
    (hdef : defaultsOf params X.env = ([], []) := by rfl)
    (he : backTo pos (starEach [e] X.env) = (false, eval e X.env) :: backTo pos (starEach [] X.env) := by rfl) (hpl : (backTo pos (starEach [e] X.env)).any (·.1) = false := by rfl) :
    EO X B M Δ (.Call (.Name "sorted" p) [e] [⟨some "key", .Lambda params (lamBd p1 p2 p3 p4 p5 j) lamSc lpos, kp⟩] pos) Φ := fun σ H S Q kk pins s I => by
  refine wpAny_Call_Name_kw (ld_blt (u := .builtin "sorted") I hg hm (by decide +kernel) ?_)
  refine PyProof.Rows.callWith_kw (thn (h σ H S (fun vs H1 => ∃ (Δ1 : List En) (a : Addr) (xs : List V) (ws : List Str), vs = [V.ref a] ∧ (SqL X.K H1 a xs ∨ SqT X.K H1 a xs) ∧ xs = ws.map V.str ∧ (∀ w ∈ ws, w.length ≤ sizeLine) ∧ Φ (.lst ((ws.mergeSort (dataLe false wkey)).map Tr.str)) Δ1 ∧ Fe M.w H H1 ∧ Sk X.K B M H1 σ Δ1) ?_ pos pins s I) fun us s1 hs => ?_) he hpl rfl rfl
  · rintro ts Δ1 vs H1 ⟨ws, ht, hw, hp⟩ f S1 d
    rcases ht with rfl | rfl
    · cases d with
      | cons d1 d2 =>
        cases d2
        cases d1 with
        | lst g1 g2 => exact ⟨Δ1, _, _, ws, rfl, .inl (sub_seqL mi_sub g1), of_strs ws g2, hw, hp, f, S1⟩
    · cases d with
      | cons d1 d2 =>
        cases d2
        cases d1 with
        | tup g1 g2 => exact ⟨Δ1, _, _, ws, rfl, .inr (sub_seqT mi_sub g1), of_strs ws g2, hw, hp, f, S1⟩
  obtain ⟨vs, H1, I1, rv, Δ1, a, xs, ws, rfl, hs, rfl, hw, hp, f, S1⟩ := hs
  obtain rfl := Vals.ref1 rv
  refine evalAll_cons (wpAny_bind (lam_mk (q := q) I1 TB hcode hq hmT hu S1.tb hdef (fun y hy z => ?_) hcl fun fa c' pm ctv H2 s2 I2 xt tk T2 hf hco => wpAny_bind (wpAny_standAt (wpAny_pure (evalAll_nil ?_)))))
  · exfalso
    rcases List.mem_cons.mp hy with rfl | hy
    · cases z
    · rcases List.mem_cons.mp hy with rfl | hy
      · cases z
      · exact absurd hy (by simp)
  have fe : Fe (fun _ => False) H1 H2 := ⟨fun b o _ n z => xt b o z n, tk⟩
  have S2 := S1.feGrow fe T2
  have hs2 : SqL X.K H2 a (ws.map V.str) ∨ SqT X.K H2 a (ws.map V.str) := hs.imp (sub_seqL fun b o n z => xt b o z n) (sub_seqT fun b o n z => xt b o z n)
  obtain ⟨its, r2, so, hz⟩ := seqO_of I2 hs2
  obtain ⟨⟨oc, ovs, ot, o1, o2, o3⟩, _, _⟩ := I2.hok c' _ hco
  have ev := each_strs r2
  have un := hr.un
  obtain ⟨mb, b1, b2⟩ := I2.mod.blt
  show wpAny _ _ (call (.builtin "sorted") [.ref a] [(Str.ofString "key", .ref fa)]) _ _ s2
  refine sorted_sq wkey so ev (alike_wkey ws) (Sortable.tuples fun _ => ⟨_, _, rfl⟩) (by rw [← List.length_map (f := V.str)]; exact hz) (fun x _ => by rw [dep_wkey]; omega) (PyProof.Rows.ksk_s1 _ _) (fun _ => PyProof.Rows.ksk_l1 _ _) (fun _ => PyProof.Rows.ksk_t1 _ _)
    (fun v x hv hx h tk kp => ?_) fun out cc h' tk kp hD ho eo => ?_
  · obtain ⟨t, rfl⟩ := hv
    have kb : ∀ b o, X.base.get? b = some o → h.get? b = some o := fun b o z => kp b o (I2.bk b o z)
    exact lam_turn (s := { s2 with heap := h, toks := tk }) (mg := X.mg) (hr.in1).in1.depth (kp _ _ hf) ⟨c', oc, ovs, ot, rfl, kp _ _ o1, o2, o3⟩ (fun v => hbind _ _ _ _) (I2.mod.nolimit.keeps kb) (I2.mod.glob.keeps kb) hml ⟨mb, b1.keeps kb, b2 _ (by decide)⟩ (hw x hx)
  · have vv := strs_each eo
    have n2 : H2 (s2.heap.objs.size + 1) = none := I2.hok.fresh (Nat.le_succ _)
    have hl : ((ws.mergeSort (dataLe false wkey)).map V.str).length ≤ sizeLine := by
      rw [List.length_map, List.length_mergeSort]
      rw [List.length_map] at hz
      exact hz
    obtain ⟨a1, a2, a3⟩ := S2.newOwn (t := .lst ((ws.mergeSort (dataLe false wkey)).map Tr.str)) n2 (same_new (o := .lst ((ws.mergeSort (dataLe false wkey)).map V.str)) n2) ⟨_, upd_same, dts_strs _⟩
    have fw : Fe M.w H H2 := f.trans (fe.imp fun _ _ _ z => z.elim)
    exact ⟨.ref _, upd H2 (s2.heap.objs.size + 1) (.lst ((ws.mergeSort (dataLe false wkey)).map V.str)), I2.laid (t' := tk) kp (Nat.le_succ _) ⟨hl, out, cc, vv, hD⟩, rfl, kk _ Δ1 _ _ hp (fw.trans (Fe.same (same_new n2))) (fw.free (fun b z => S2.al b (S2.wm b z)) n2) a1 a2 a3⟩
end
end Wf

set_option Elab.async false
set_option linter.all false
set_option maxRecDepth 100000
set_option maxHeartbeats 2000000
namespace Wf
open PySem PySem.Spec PyProof.Rows L2 LamX
/-! ### a law's def at the caller itself: no repr is under way there -/
structure LawOk (CX : CXT) (P : Program) (w : World) (K : PySem.W.Frag) (mg : Str → Option Value) (base : Heap) (f : Addr) (fd : FuncData) (x : Str) (sp : Sp) : Prop where
  run : ∀ (s : Shared) (H : Hp) (u : Value) (v : V) (Q : VK), Env0 P w K mg base callerA [] s H → RelV v u → sp [v] H Q (fun _ _ _ => False) →
    codeAny (model P w) callerA (.call (.ref f) ⟨[u], []⟩) (CR CX [] P w H s Q fun _ _ _ => False) s
section
variable {P : Program} {w : World} {K : PySem.W.Frag} {mg mb : Str → Option Value} {CX : CXT} {k : Nat} {fa a : Addr} {cs : List (Addr × Addr)} {fd : FuncData} {x : Str} {sp : Sp} {s : Shared} {vs : List Value} {ns : List Int}
open Classical in
/-- what is tracked at the law's entry: the tables, and the script if the module does not hold it -/
noncomputable def entryH (K : PySem.W.Frag) (cs : List (Addr × Addr)) (a : Addr) (vs : List Value) (ns : List Int) : Hp := fun b =>
  if b ∈ cs.map (·.2) then some (.tbl #[]) else if b = a ∧ K.lookup a = none then some (.frz { cls := .type "list", data := .seq vs.toArray } (.lst (ns.map V.int))) else none
theorem entry_t {b : Addr} (h : b ∈ cs.map (·.2)) : entryH K cs a vs ns b = some (.tbl #[]) := if_pos h
theorem entry_a (h : a ∉ cs.map (·.2)) (k : K.lookup a = none) : entryH K cs a vs ns a = some (.frz { cls := .type "list", data := .seq vs.toArray } (.lst (ns.map V.int))) := (if_neg h).trans (if_pos ⟨rfl, k⟩)
theorem entry_of {b : Addr} {u : HO} (h : entryH K cs a vs ns b = some u) : (b ∈ cs.map (·.2) ∧ u = .tbl #[]) ∨ (b = a ∧ K.lookup a = none ∧ u = .frz { cls := .type "list", data := .seq vs.toArray } (.lst (ns.map V.int))) := by
  unfold entryH at h
  by_cases h1 : b ∈ cs.map (·.2)
  · rw [if_pos h1] at h
    exact .inl ⟨h1, (Option.some.inj h).symm⟩
  · rw [if_neg h1] at h
    by_cases h2 : b = a ∧ K.lookup a = none
    · rw [if_pos h2] at h
      exact .inr ⟨h2.1, h2.2, (Option.some.inj h).symm⟩
    · rw [if_neg h2] at h
      cases h
theorem entry_no {b : Addr} {o : Obj} (tabs : ∀ b ∈ cs.map (·.2), s.heap.get? b = some { cls := .none, data := .fields #[] }) (ha : s.heap.get? a = some { cls := .type "list", data := .seq vs.toArray }) (e : s.heap.get? b = some o)
    (n1 : o.data ≠ .fields #[]) (n2 : ∀ v n, o.data ≠ .seq v n) : entryH K cs a vs ns b = none := by
  cases q : entryH K cs a vs ns b with
  | none => rfl
  | some u =>
    exfalso
    rcases entry_of q with ⟨h1, _⟩ | ⟨rfl, _, _⟩
    · rw [tabs b h1] at e
      cases e
      exact n1 rfl
    · rw [ha] at e
      cases e
      exact n2 _ _ rfl
theorem law_callG (KX : K.In s.heap) (hns : s.heap.Ns mainGlobals mg) (hb : s.heap.Ns builtinsNs mb) (hbb : ∀ y : Str, y ≠ "__name__" → mb y = bootBuiltins y) (hlim : s.heap.NoLimit) (hg : s.gens = #[])
    (hT : ∀ p ∈ cs, s.heap.get? p.2 = some { cls := .none, data := .fields #[] }) (nT : ∀ p ∈ cs, K.lookup p.2 = none) (C : ∀ p ∈ cs, PySem.W.CodeHd s.heap p.1 p.2)
    (hbm : ∃ (bm : Addr) (ob : Obj), mg "__builtins__" = some (.ref bm) ∧ bm ≠ builtinsNs ∧ s.heap.get? bm = some ob ∧ ob.cls = .type "module" ∧ ob.dict = some builtinsNs ∧ ob.data = .plain)
    (ha : s.heap.get? a = some { cls := .type "list", data := .seq vs.toArray }) (hi : IntsAre vs ns) (hl : ns.length ≤ sizeLine)
    (F : ∀ base : Heap, K.In base → base.Ns mainGlobals mg → (∀ p ∈ cs, TabB base mg p.1 p.2) → LawOk CX P w K mg base fa fd x sp)
    (hsp : ∀ H : Hp, (∀ p ∈ cs, H p.2 = some (.tbl #[])) → SqL K H a (ns.map V.int) → sp [.ref a] H (fun v _ => v = .bl true) fun _ _ _ => False)
    (hCX : ∀ H e s', CX [] H s (fun _ _ _ => False) e s' → False) :
    codeAny (model P w) callerA (.call (.ref fa) ⟨[.ref a], []⟩) (fun r s' => r = .ok (.ret (.bool true)) ∧ OldK s.heap s'.heap ∧ s'.os = s.os ∧ AllBare s'.gens) s := by
  have tabs : ∀ b ∈ cs.map (·.2), s.heap.get? b = some { cls := .none, data := .fields #[] } := fun b h => by
    obtain ⟨p, h1, rfl⟩ := List.mem_map.mp h
    exact hT p h1
  have inT : ∀ p ∈ cs, p.2 ∈ cs.map (·.2) := fun p h => List.mem_map_of_mem h
  have naT : a ∉ cs.map (·.2) := fun z => by
    have e := ha.symm.trans (tabs a z)
    cases Option.some.inj e
  have atT : ∀ p ∈ cs, entryH K cs a vs ns p.2 = some (.tbl #[]) := fun p h => entry_t (inT p h)
  have sq : SqL K (entryH K cs a vs ns) a (ns.map V.int) := by
    cases e : K.lookup a with
    | none => exact .inl (.inr ⟨_, entry_a naT e⟩)
    | some o =>
      obtain rfl := Option.some.inj (ha.symm.trans (KX a o e))
      exact .inr ⟨_, vs.toArray, _, e, rfl, rfl, rfl, by rw [List.size_toArray, hi.length]; exact hl, by simpa using vals_ints hi⟩
  have hok : HOk P w (entryH K cs a vs ns) s.heap := fun b u z => by
    rcases entry_of z with ⟨h1, rfl⟩ | ⟨rfl, _, rfl⟩
    · exact tabs b h1
    · exact ⟨ha, by rw [List.length_map]; exact hl, vs, _, vals_ints hi, ha⟩
  have give : ∀ {b : Addr} {o : Obj}, s.heap.get? b = some o → o.data ≠ .fields #[] → (∀ v n, o.data ≠ .seq v n) → (hidT s.heap (entryH K cs a vs ns)).get? b = some o := fun e n1 n2 => hidT_get e (entry_no tabs ha e n1 n2)
  have ns' : ∀ {b : Addr} {m : Str → Option Value}, s.heap.Ns b m → (hidT s.heap (entryH K cs a vs ns)).Ns b m := fun {b m} h => by
    obtain ⟨o, es, ep, e, d, r⟩ := h
    exact ⟨o, es, ep, give e (by rw [d]; intro z; cases z) (by intro v n z; rw [d] at z; cases z), d, r⟩
  have kin : K.In (hidT s.heap (entryH K cs a vs ns)) := fun b o e => by
    refine hidT_get (KX b o e) ?_
    cases q : entryH K cs a vs ns b with
    | none => rfl
    | some u =>
      exfalso
      rcases entry_of q with ⟨h1, _⟩ | ⟨rfl, h2, _⟩
      · obtain ⟨p, hp, rfl⟩ := List.mem_map.mp h1
        rw [nT p hp] at e
        cases e
      · rw [h2] at e
        cases e
  have tb : ∀ p ∈ cs, TabB (hidT s.heap (entryH K cs a vs ns)) mg p.1 p.2 := fun p hp => by
    refine ⟨?_, ?_, ?_⟩
    · obtain ⟨o, fs, file, tf, flags, tg, inF, text, tt, c1, c2, c3, c4, cr⟩ := C p hp
      refine ⟨o, fs, file, tf, flags, tg, inF, text, tt, give c1 (fun z => ?_) (fun v n z => ?_), c2, c3, c4, cr⟩
      · have e := c3.symm.trans z
        injection e with e
        rw [e] at c4
        simp at c4
      · have e := c3.symm.trans z
        cases e
    · obtain ⟨bm, ob, m1, m2, m3, m4, m5, m6⟩ := hbm
      refine ⟨bm, ob, m1, m2, ?_, ?_, give m3 (by rw [m6]; intro z; cases z) (by intro v n z; rw [m6] at z; cases z), m4, m5, m6⟩
      · rintro rfl
        obtain ⟨o, es, ep, g1, g2, _⟩ := hns
        obtain rfl := Option.some.inj (g1.symm.trans m3)
        cases g2.symm.trans m6
      · rintro rfl
        obtain rfl := Option.some.inj ((hT p hp).symm.trans m3)
        cases m6
    · intro z
      obtain ⟨o, es, ep, g1, g2, _⟩ := hns
      rw [z] at g1
      obtain rfl := Option.some.inj ((hT p hp).symm.trans g1)
      cases g2
  have md : L2.Mod K mg (hidT s.heap (entryH K cs a vs ns)) := by
    obtain ⟨mc, l1, l2⟩ := hlim
    exact ⟨kin, ns' hns, ⟨mb, ns' hb, hbb⟩, ⟨mc, ns' l1, l2⟩⟩
  have e0 : Env0 P w K mg (hidT s.heap (entryH K cs a vs ns)) callerA [] s (entryH K cs a vs ns) :=
    { frames := rfl, mod := md, bs := fun b o e => of_hidT e, bsz := Nat.le_of_eq (hidT_size _ _), funs := trivial, frf := fun b h => absurd (show b ∈ ([] : List Addr) from h) (by simp), hok := hok, bare := .of_eq hg }
  refine codeAny_mono ((F _ kin (ns' hns) tb).run s _ (.ref a) (.ref a) (fun v _ => v = .bl true) e0 rfl (hsp _ atT sq)) fun r s' h => ?_
  cases r with
  | error e => exact (hCX _ e s' h).elim
  | ok fl =>
    cases fl with
    | next => exact h.elim
    | brk => exact h.elim
    | cont => exact h.elim
    | ret u =>
      obtain ⟨v, H', h1, h2, h3, h4, h5, rfl⟩ := h
      obtain rfl : u = Value.bool true := h5
      have grows : ∀ b ∈ cs.map (·.2), ∃ more : Array Value, s'.heap.get? b = some { cls := .none, data := .fields more } := fun b hb => by
        obtain ⟨more, z⟩ := h3.tbls b #[] (entry_t hb)
        exact ⟨_, h4 b _ z⟩
      have stays : ∀ b o, b ∉ cs.map (·.2) → s.heap.get? b = some o → s'.heap.get? b = some o := fun b o nb e => by
        cases q : entryH K cs a vs ns b with
        | none => exact h3.keep b o e q (fun z => absurd (show b ∈ ([] : List Addr) from z) (by simp)) (by simp)
        | some u =>
          rcases entry_of q with ⟨z, _⟩ | ⟨rfl, _, rfl⟩
          · exact absurd z nb
          · have z1 := (hok b _ q).1
            have z2 := (h4 b _ (h3.frzs b _ _ q)).1
            exact z2.trans (z1.symm.trans e)
      refine ⟨rfl, ⟨fun b o e => ?_, fun b o e => ?_⟩, h1, h2⟩
      · by_cases hb : b ∈ cs.map (·.2)
        · obtain ⟨p, hp, rfl⟩ := List.mem_map.mp hb
          obtain ⟨more, hm⟩ := grows _ hb
          obtain rfl := Option.some.inj ((hT p hp).symm.trans e)
          exact .inr (.inl ⟨((C p hp).tab (hT p hp)).isCodeTable, rfl, #[], more, rfl, by rw [Array.empty_append]; exact hm⟩)
        · exact .inl (stays b o hb e)
      · by_cases hb : b ∈ cs.map (·.2)
        · obtain ⟨more, hm⟩ := grows _ hb
          exact ⟨_, hm⟩
        · exact ⟨o, stays b o hb e⟩
/-- what is known of the law at the head's heap h -/
def LawAtG (l : PySem.W.OpenLaw) (w : World) (K : PySem.W.Frag) (CX : CXT) (n : Nat) (x : Str) (mg : Str → Option Value) (fa : Addr) (h : Heap) : Prop :=
  ∃ (fd : FuncData) (cs : List (Addr × Addr)) (sp : Sp), (∀ p ∈ cs, h.get? p.2 = some { cls := .none, data := .fields #[] }) ∧ (∀ p ∈ cs, K.lookup p.2 = none) ∧ (∀ p ∈ cs, PySem.W.CodeHd h p.1 p.2) ∧
    (∀ (H : Hp) (a : Addr) (ns : List Int), ns.length ≤ n → (∀ z ∈ ns, Builtin.Int.intBits z ≤ 1048576) → (∀ p ∈ cs, H p.2 = some (.tbl #[])) → SqL K H a (ns.map V.int) → sp [.ref a] H (fun v _ => v = .bl true) fun _ _ _ => False) ∧
    ∀ base : Heap, K.In base → base.Ns mainGlobals mg → (∀ p ∈ cs, TabB base mg p.1 p.2) → LawOk CX l.prog w K mg base fa fd x sp
theorem walk_ofG {l : PySem.W.OpenLaw} {n : Nat} {q : Program} {loose : List Str} {XP : (Str → Option Value) → Heap → Prop} {YP : World → Heap → Prop} {d : DefRec} {K : Params → PySem.W.Frag} {CX : World → CXT} {x : Str}
    (hn : l.most = some n) (hn2 : n ≤ sizeLine) (hdf : d.params.defaults = []) (hY : ∀ (w : World) (h : Heap), YP w h → (K w.params).In h)
    (F : ∀ (w : World) (mg : Str → Option Value) (fa : Addr) (h : Heap), YP w h → (K w.params).In h → h.Ns mainGlobals mg → mg d.name = some (.ref fa) → LawAtG l w (K w.params) (CX w) n x mg fa h)
    (hCX : ∀ (w : World) (H : Hp) (s : Shared) (e : Value) (s' : Shared), CX w [] H s (fun _ _ _ => False) e s' → False) :
    PySem.W.WalkO q loose XP YP l.row.toRowW d [] (fun f vs => PySem.call f vs) := by
  refine Att.attach_callB hn hdf fun w s₀ s mg mb fa o pm cd doc a vs ns G Y ho hd hcd hmg hobj hints hlen hbits hg => ?_
  obtain ⟨fd, cs, sp, h1, h2, h3, h4, h5⟩ := F w mg fa _ Y (hY w _ Y) G.T.g hmg
  exact law_callG (hY w _ Y) G.T.g G.T.b G.T.builtins G.T.nolimit hg h1 h2 h3 G.T.bmain hobj hints (Nat.le_trans hlen hn2) h5 (fun H t q => h4 H a ns hlen hbits t q) fun H e s' => hCX w H s e s'
end
/-! ### a law's def by its body, as data -/
/-- what a law promises: of every script it gives True -/
def spLawD (K : PySem.W.Frag) (T : List (Addr × Str)) : Sp := fun vs H Q _ => ∃ ns : List Int, Dts K H vs [.lst (ns.map Tr.int)] ∧ ns.length ≤ 63 ∧ (∀ z ∈ ns, Builtin.Int.intBits z ≤ 1048576) ∧ Tabs T H ∧ ∀ v H', v = .bl true → Q v H'
abbrev lawA (f : Addr) (scope : Scope) (cdv : Value) (s : Shared) : Around := callerA.deeper (envOfC "law" scope s.heap.objs.size f cdv)
theorem caller_room : Room 200 callerA := ⟨rfl, by decide, by decide⟩
theorem lawA_guards {f : Addr} {scope : Scope} {cdv : Value} {s : Shared} : (lawA f scope cdv s).guards = some [] := rfl
section
variable {P : Program} {w : World} {K : PySem.W.Frag} {mg : Str → Option Value} {base : Heap} {st : Stmt} {f : Addr} {fd : FuncData} {N : List Str} {T : List (Addr × Str)} {x : Str}
theorem law_okD (F : Fun K "law" "law" st f fd) (S : FnScope N [x] (defScope st)) (hbn : Binds K fd [x] [])
    (hb : ∀ (cdv : Value) (s : Shared) (H : Hp) (ns : List Int), ns.length ≤ 63 → (∀ z ∈ ns, Builtin.Int.intBits z ≤ 1048576) →
      SS (cxOf CX0 P w K mg base N "law" (defScope st) f cdv callerA [] s H fun _ _ _ => False).nox (bF T H fun _ => False) ⟨fun _ => False, fun _ => False⟩ (slots N [.dat (.lst (ns.map Tr.int))]) (defBody st)
        ⟨fun _ _ => False, fun t _ => t = .bl true, fun _ _ => False, fun _ _ => False⟩) : LawOk CX0 P w K mg base f fd x (spLawD K T) := by
  obtain ⟨oc, od, kV, doc, pm, an, cdv, ct, osl, rfl, lk, hcd⟩ := F.ex
  refine ⟨fun s H u v Q e0 r sp => ?_⟩
  obtain ⟨ns, d, hn, hbits, tb, q⟩ := sp
  have KX : K.In s.heap := e0.mod.kin.keeps fun b o e => (e0.bs b o e).1
  refine run_ofS (k := 199) (N := N) (ps := [x]) (us := [u]) (vs := [v]) lk hcd S caller_room e0 (hbn s [u] KX rfl) (.cons r .nil) rfl fun _ => ?_
  have hpl : 1 ≤ N.length := by
    have := congrArg List.length S.pre
    rw [List.length_take] at this
    simp at this
    omega
  have Sk0 : Sk K (bF T H fun _ => False) ⟨fun _ => False, fun _ => False⟩ H (L2.start N [v]) (slots N [.dat (.lst (ns.map Tr.int))]) := by
    refine sk_start hpl rfl rfl (fun _ => Iff.rfl) (fun _ => Iff.rfl) (fun _ z => z.elim) (fun _ z => z.elim) tb (fun i j e f l he _ el _ => ?_) fun i v e hv he => ?_
    · cases i with
      | zero => cases he; cases el
      | succ i => simp at he
    · cases i with
      | zero =>
        cases hv; cases he
        cases d with
        | cons d1 _ =>
          exact d1.mono fun b o n z => mi_of (fun y => y) z
      | succ i => simp at he
  have J := hb cdv s H ns hn hbits _ H Sk0 { nx := fun _ H' => Q .non H', rt := Q, bk := fun _ _ => False, ct := fun _ _ => False } ⟨fun M' Δ' σ' H' a _ _ => a.elim, fun t M' Δ' v σ' H' a _ c dd => ?_, fun _ _ _ _ z => z.elim, fun _ _ _ _ z => z.elim⟩
  · exact ⟨_, (pss_self (X := (cxOf CX0 P w K mg base N "law" (defScope st) f cdv callerA [] s H fun _ _ _ => False).nox)).nox, J⟩
  · subst a
    cases dd
    exact q _ _ rfl
end
end Wf

set_option Elab.async false
set_option linter.all false
set_option maxRecDepth 100000
set_option maxHeartbeats 2000000
namespace Wf
open PySem PySem.Spec PyProof.Rows L2 LamX
/-! ### data that are shown -/
/-- good data, d deep, of at most b signs and items -/
structure Tr.rep (t : Tr) (d b : Nat) : Prop where
  gd : t.good d
  sh : t.py.showable = true
  ls : t.py.leavesShort 640 = true
  bk : t.py.bulk ≤ b
theorem Tr.rep.le {t : Tr} {d b e c : Nat} (h : t.rep d b) (h1 : d ≤ e) (h2 : b ≤ c) : t.rep e c := ⟨h.gd.le h1, h.sh, h.ls, Nat.le_trans h.bk h2⟩
theorem Tr.rep.fits {t : Tr} {d b : Nat} (h : t.rep d b) (hb : b ≤ 26000) : t.py.shown.length ≤ sizeLine := by
  have h1 := PyData.shown_le_bulk 640 (by decide) t.py h.ls
  have h2 := h.bk
  have h3 : (640 + 2) * t.py.bulk ≤ 642 * b := Nat.mul_le_mul_left _ h2
  rw [sizeLine_eq]
  omega
theorem rep_non {d b : Nat} : Tr.non.rep d b := ⟨good_non, by unfold Tr.py; rfl, by unfold Tr.py; rfl, by unfold Tr.py PyData.bulk; exact Nat.zero_le _⟩
theorem rep_bl {k : Bool} {d b : Nat} : (Tr.bl k).rep d b := ⟨good_bl, by unfold Tr.py; rfl, by unfold Tr.py; rfl, by unfold Tr.py PyData.bulk; exact Nat.zero_le _⟩
theorem log2_small {i : Int} (h : i.natAbs < 2 ^ 100) : i.natAbs.log2 < 1920 := by
  by_cases h0 : i.natAbs = 0
  · rw [h0]; decide
  · have := (Nat.log2_lt h0).mpr h
    omega
theorem rep_int {i : Int} {d b : Nat} (h1 : -999999999999 ≤ i) (h2 : i ≤ 999999999999) : (Tr.int i).rep d b := ⟨good_int, by
  unfold Tr.py PyData.showable
  refine decide_eq_true (log2_small (Nat.lt_of_lt_of_le (m := 2 ^ 40) ?_ (Nat.pow_le_pow_right (by decide) (by decide))))
  have e : (2 : Nat) ^ 40 = 1099511627776 := by decide
  omega, by
  unfold Tr.py PyData.leavesShort
  exact decide_eq_true (Nat.le_trans (PyData.shown_int_le2 h1 h2) (by decide)), by unfold Tr.py PyData.bulk; exact Nat.zero_le _⟩
theorem rep_txt {cs : List Nat} {d b : Nat} (h : ∀ c ∈ cs, c < 128) (hl : cs.length ≤ b) : (Tr.str (txt cs)).rep d b := ⟨good_str (strOk_txt h), by unfold Tr.py; rfl, by
  unfold Tr.py PyData.leavesShort
  rw [List.all_eq_true]
  intro c hc
  rw [txt_cps] at hc
  have e : (16 : Nat) ^ 8 = 4294967296 := by decide
  have := h c hc
  exact decide_eq_true (by omega), by
  unfold Tr.py PyData.bulk
  have : (txt cs).cps.size = cs.length := txt_len cs
  omega⟩
theorem rep_all {ts : List Tr} {d b : Nat} (h : ∀ t ∈ ts, t.rep d b) : PyData.showableAll (pyAll ts) = true ∧ PyData.leavesShortAll 640 (pyAll ts) = true ∧ PyData.bulkAll (pyAll ts) ≤ ts.length * (b + 1) := by
  induction ts with
  | nil => exact ⟨by unfold pyAll; rfl, by unfold pyAll; rfl, by unfold pyAll PyData.bulkAll; exact Nat.zero_le _⟩
  | cons t ts ih =>
    obtain ⟨i1, i2, i3⟩ := ih fun u hu => h u (List.mem_cons_of_mem _ hu)
    have ht := h t List.mem_cons_self
    refine ⟨?_, ?_, ?_⟩
    · unfold pyAll PyData.showableAll
      rw [ht.sh, i1] <;> rfl
    · unfold pyAll PyData.leavesShortAll
      rw [ht.ls, i2] <;> rfl
    · unfold pyAll PyData.bulkAll
      have := ht.bk
      rw [List.length_cons, Nat.succ_mul]
      omega
theorem rep_lst {ts : List Tr} {d b c : Nat} (h : ∀ t ∈ ts, t.rep d b) (hc : ts.length * (b + 1) ≤ c) : (Tr.lst ts).rep (d + 1) c := by
  obtain ⟨i1, i2, i3⟩ := rep_all h
  exact ⟨good_lst fun t ht => (h t ht).gd, by unfold Tr.py PyData.showable; exact i1, by unfold Tr.py PyData.leavesShort; exact i2, by unfold Tr.py PyData.bulk; omega⟩
theorem rep_tup {ts : List Tr} {d b c : Nat} (h : ∀ t ∈ ts, t.rep d b) (hc : ts.length * (b + 1) ≤ c) : (Tr.tup ts).rep (d + 1) c := by
  obtain ⟨i1, i2, i3⟩ := rep_all h
  exact ⟨good_tup fun t ht => (h t ht).gd, by unfold Tr.py PyData.showable; exact i1, by unfold Tr.py PyData.leavesShort; exact i2, by unfold Tr.py PyData.bulk; omega⟩
def Tr.isSq : Tr → Bool
  | .lst _ => true
  | .tup _ => true
  | _ => false
section
variable {X : Cx} {B : Bs} {M : Pl} {Δ : List En} {e a b c : Expr} {es : List Expr} {Φ : Tr → List En → Prop} {Ψ : Eo}
theorem cr_reprD (hg : X.A.guards = some []) (hu : X.A.units + 64 < cLine) : CallR X (.builtin "repr") (fun vs H Q => ∃ (a : Addr) (p : PyData), vs = [.ref a] ∧ Dp X.K H (.ref a) p ∧ p.showable = true ∧ p.canLay0 = true ∧ p.depth ≤ 8 ∧ p.shown.length ≤ sizeLine ∧ Q (.str p.shown) H) := by
  intro pins s σ H vs us Q I r h
  obtain ⟨a, p, rfl, d, h1, h2, h3, h4, q⟩ := h
  obtain rfl := Vals.ref1 r
  obtain ⟨as, rd⟩ := Dp.reads I p (.ref a) (.ref a) d rfl
  exact PySem.repr_of_reads' rd h1 (PyData.noDict_hsm (PyData.hasDict_of_canLay p h2)) hg (by omega) (fun _ _ z => z) (fun h' u tk kp => ⟨.str p.shown, H, I.kept kp, ⟨u, rfl⟩, q⟩) h4
/-- repr of a list, of a tuple -/
theorem cl_repr (hg : X.A.guards = some []) (hu : X.A.units + 64 < cLine) : CalD X (.builtin "repr") B M Φ fun ts Δ2 => ∃ t, ts = [t] ∧ t.isSq = true ∧ t.rep 8 26000 ∧ Φ (.str t.py.shown) Δ2 := ⟨_, cr_reprD hg hu, fun ts Δ2 p σ H vs Q S d k => by
  obtain ⟨t, rfl, p1, p2, q⟩ := p
  cases d with
  | cons d1 d2 =>
    cases d2
    have dp := (d1.mono mi_sub).dp p2.gd.pl
    cases t with
    | lst us => cases d1 with
      | lst g1 g2 => exact ⟨_, _, rfl, dp, p2.sh, p2.gd.cl, p2.gd.dp, p2.fits (Nat.le_refl _), k _ _ _ H q (Fe.refl _ _) S (.str _)⟩
    | tup us => cases d1 with
      | tup g1 g2 => exact ⟨_, _, rfl, dp, p2.sh, p2.gd.cl, p2.gd.dp, p2.fits (Nat.le_refl _), k _ _ _ H q (Fe.refl _ _) S (.str _)⟩
    | _ => cases p1⟩
/-! ### isinstance(x, T) -/
def Tr.cls : Tr → Option String
  | .non => some "NoneType"
  | .bl _ => some "bool"
  | .int _ => some "int"
  | .str _ => some "str"
  | .lst _ => some "list"
  | .tup _ => some "tuple"
  | .dct _ => some "dict"
  | _ => none
theorem dt_tyx {K : PySem.W.Frag} {I H : Hp} {v : V} {t : Tr} {n : String} (s : Sub I H) (d : Dt K I v t) (h : t.cls = some n) : TyX K H v (.type n) := by
  cases d with
  | non => cases h; exact .base .non
  | bl b => cases h; exact .base (.bl b)
  | int i => cases h; exact .base (.int i)
  | str i => cases h; exact .base (.str i)
  | lst g _ =>
    cases h
    rcases sub_seqL s g with (g | ⟨o, g⟩) | ⟨o, its, k, g, c, _⟩
    · exact .base (.lst g)
    · exact .base (.frz g)
    · exact .kList g c
  | tup g _ =>
    cases h
    rcases sub_seqT s g with (g | ⟨o, g⟩) | ⟨o, its, k, g, c, _⟩
    · exact .base (.tup g)
    · exact .fTuple g
    · exact .kTuple g c
  | dct g _ =>
    cases h
    rcases sub_rdK s g with g | ⟨o, g⟩
    · exact .base (.dK g)
    · exact .fDict g
  | ins _ _ => cases h
  | opq _ => cases h
theorem ee_isi {y : Str} {T : String} {p p2 pos : Pos} (hg : Gl X "isinstance") (hm : X.mg "isinstance" = none) (hg2 : Gl X y) (hm2 : X.mg y = none) (hv2 : bootBuiltins y = some (.type T)) (hv : bootBuiltins "isinstance" = some (.builtin "isinstance"))
    (h : EE X B M Δ e fun t Δ1 => ∃ n b, t.cls = some n ∧ kitB n T = some b ∧ Φ (.bl b) Δ1)
    (hn2 : y ≠ "__name__" := by decide) (hdb2 : (y == ("__debug__" : Str)) = false := by decide)
    (hs : starEach [e, .Name y p2] X.env = (false, eval e X.env) :: starEach [.Name y p2] X.env := by rfl) (hs2 : starEach [.Name y p2] X.env = (false, eval (.Name y p2) X.env) :: starEach [] X.env := by rfl)
    (hpl : (backTo pos (starEach [.Name y p2] X.env)).any (·.1) = false := by rfl) : EE X B M Δ (.Call (.Name "isinstance" p) [e, .Name y p2] [] pos) Φ := fun σ H S Q k =>
  PE.to (pe_callB (X := X) call_isi hg hm hv (pa_cons pe_self (pa_cons (pe_bltn (v := .ty T) hg2 hm2 hv2 rfl hn2 hdb2) pa_nil hs2) hs) (by decide) (by decide) hs hpl) (h σ H S _ fun t Δ1 v H1 p f S1 d => by
    obtain ⟨n, b, h1, h2, q⟩ := p
    exact ⟨v, .ty T, .type n, .type T, b, rfl, .ty T, dt_tyx mi_sub d h1, kit_ty h2, k _ Δ1 _ H1 q f S1 (.bl b)⟩)
/-! ### x + a new list -/
theorem eo_cat (i : Nat) {x : Str} {px pos : Pos} {l : Addr} {ts0 : List Tr} (hN : X.N[i]? = some x) (hi : Δ[i]? = some (.own l (.lst ts0)))
    (h : EO X B M Δ b fun u Δ1 => ∃ ts us, u = .lst us ∧ Δ1[i]? = some (.own l (.lst ts)) ∧ ts.length + us.length ≤ sizeLine ∧ Φ (.lst (ts ++ us)) Δ1)
    (hd : (x == ("__debug__" : Str)) = false := by decide) (hcd : (x == ("__classdict__" : Str)) = false := by decide) (hv : Vis X.env.scope x := by first | exact Or.inl rfl | exact Or.inr (Or.inl rfl) | exact Or.inr (Or.inr rfl)) :
    EO X B M Δ (.BinOp (.Name x px) .Add b pos) Φ := fun σ H S Q k => by
  obtain ⟨h1, _⟩ := S.ownAt hi
  refine PE.to (pe_op op_cat (pe_var (i := i) hN hv hd hcd) pe_self) ⟨_, h1, h σ H S _ fun u Δ1 m H1 p f hl S1 hn ow => ?_⟩
  obtain ⟨ts, us, rfl, q1, q2, q⟩ := p
  obtain ⟨_, _, _, _, xs, g1, g2⟩ := S1.ownAt q1
  obtain ⟨ys, y1, y2⟩ := ow
  have nm := S.notM hl
  have S2 := S1.freeze nm S.wm (fun z => nm (S.m0 m z)) hn
  refine ⟨l, m, xs, ys, rfl, rfl, g1, y1, by rw [g2.length, y2.length]; exact q2, fun p hp => ?_⟩
  have s := same_new (o := .lst (xs ++ ys)) hp
  have le : Sub (mi (ins M m).m H1) (mi M.m H1) := mi_le fun b z => .inl z
  obtain ⟨a1, a2, a3⟩ := S2.newOwn (t := .lst (ts ++ us)) hp s ⟨_, upd_same, (g2.append y2).mono le⟩
  exact k _ Δ1 p _ q (f.trans (Fe.same s)) (f.free (fun b z => S2.al b (S2.wm b z)) hp) a1 a2 a3
end
/-! ### a def that gives a new object, whole -/
def spO (K : PySem.W.Frag) (T : List (Addr × Str)) (pre : List Tr → Prop) (post : List Tr → Tr → Prop) : Sp := fun vs H Q _ => ∃ (m : Addr → Prop) (ts : List Tr), Dts K (mi m H) vs ts ∧ pre ts ∧ (∀ b, m b → ∃ o, H b = some o) ∧ Tabs T H ∧
  ∀ l t H', post ts t → Fe (fun _ => False) H H' → Tabs T H' → H l = none → Ow K (mi (fun b => m b ∨ b = l) H') H' l t → Q (.ref l) H'
section
variable {P : Program} {w : World} {K : PySem.W.Frag} {mg : Str → Option Value} {base : Heap} {x qual : Str} {st : Stmt} {f : Addr} {fd : FuncData} {N ps : List Str} {k : Nat} {T : List (Addr × Str)} {pre : List Tr → Prop} {post : List Tr → Tr → Prop} {e : Expr} {pos : Pos}
/-- a def whose code object is known -/
structure FunC (K : PySem.W.Frag) (x qual : Str) (st : Stmt) (f : Addr) (fd : FuncData) (cdv : Value) : Prop where
  ex : ∃ (oc : Value) (od : Option Addr) (kV doc pm : Value) (an : Option Addr) (ct : Value) (osl : Array (Option Value)),
    fd = PySem.W.fnOf x qual (defArgs st) (defBody st) (defScope st) .none kV doc pm an cdv ct ∧ K.lookup f = some ⟨oc, od, .func fd, osl⟩ ∧ PySem.W.codeIn K cdv qual = true
  kp : PySem.W.keepIn K (.ref f) = true
theorem FunC.fn {cdv : Value} (F : FunC K x qual st f fd cdv) : Fun K x qual st f fd := by
  obtain ⟨oc, od, kV, doc, pm, an, ct, osl, e, lk, hcd⟩ := F.ex
  exact ⟨⟨oc, od, kV, doc, pm, an, cdv, ct, osl, e, lk, hcd⟩, F.kp⟩
theorem funC_mk {oc : Value} {od an : Option Addr} {osl : Array (Option Value)} {kV doc pm cdv ct : Value} (l : K.lookup f = some ⟨oc, od, .func (PySem.W.fnOf x qual (defArgs st) (defBody st) (defScope st) .none kV doc pm an cdv ct), osl⟩)
    (c : PySem.W.codeIn K cdv qual = true) (k : PySem.W.keepIn K (.ref f) = true) : FunC K x qual st f (PySem.W.fnOf x qual (defArgs st) (defBody st) (defScope st) .none kV doc pm an cdv ct) cdv := ⟨⟨oc, od, kV, doc, pm, an, ct, osl, rfl, l, c⟩, k⟩
/-- def f(..): return a new object -/
theorem ok_O {cdv : Value} (F : FunC K x qual st f fd cdv) (S : FnScope N ps (defScope st)) (hpre : ∀ ts, pre ts → ts.length = ps.length) (hps : ps.length ≤ N.length) (hbody : defBody st = [.Return (some e) pos])
    (hb : ∀ (A : Around) (outer : List Env) (s : Shared) (H : Hp) (E : XK) (m : Addr → Prop) (ts : List Tr), Room k (A.deeper (envOfC qual (defScope st) s.heap.objs.size f cdv)) → pre ts →
      EO (cxOf CX0 P w K mg base N qual (defScope st) f cdv A outer s H E).nox (bF T H m) ⟨m, fun _ => False⟩ (slots N (ts.map En.dat)) e fun t _ => post ts t) :
    FnOk P w K mg base CX0 (k + 1) f fd ps (spO K T pre post) := by
  obtain ⟨oc, od, kV, doc, pm, an, ct, osl, rfl, lk, hcd⟩ := F.ex
  refine fn_of lk hcd S (fun vs H Q E h => ?_) (fun A outer s H vs Q E hr h => ?_)
  · obtain ⟨m, ts, d, hp, _⟩ := h
    rw [d.length, hpre ts hp]
  · obtain ⟨m, ts, d, hp, al, tb, q⟩ := h
    have hlen : ts.length = ps.length := hpre ts hp
    have Sk0 : Sk K (bF T H m) ⟨m, fun _ => False⟩ H (L2.start N vs) (slots N (ts.map En.dat)) := by
      refine sk_start (by simp; omega) (by simp [d.length]) rfl (fun _ => Iff.rfl) (fun _ => Iff.rfl) (fun _ z => z.elim) al tb (fun i j e f l he _ el _ => ?_) fun i v e hv he => ?_
      · rw [List.getElem?_map] at he
        cases h : ts[i]? with
        | none => rw [h] at he; cases he
        | some t => rw [h] at he; cases he; cases el
      · rw [List.getElem?_map] at he
        cases h : ts[i]? with
        | none => rw [h] at he; cases he
        | some t =>
          rw [h] at he; cases he
          obtain ⟨v', h1, h2⟩ := d.get h
          rw [hv] at h1; cases h1
          exact h2
    refine ⟨_, PSs.nox (pss_self (X := (cxOf CX0 P w K mg base N qual (defScope st) f cdv A outer s H E).nox)), ?_⟩
    show WSs _ (defBody st) _ _ _
    rw [hbody]
    exact PSs.to (pss_one (ps_ret pe_self)) (hb A outer s H E m ts hr hp _ H Sk0 _ fun t Δ' l H' a fe hl S' hn ow => q l t H' a S'.fr S'.tb hl ow)
end
section
variable {X : Cx} {B : Bs} {M : Pl} {Δ : List En} {e : Expr} {es : List Expr} {Φ : Tr → List En → Prop} {x : Str} {k : Nat} {ps : List Str} {pre : List Tr → Prop} {post : List Tr → Tr → Prop}
/-- a new place, made behind a call -/
theorem Sk.grab {K : PySem.W.Frag} {H H' : Hp} {σ : L2.St} {l : Addr} (S : Sk K B M H σ Δ) (f : Fe (fun _ => False) H H') (tb : Tabs B.T H') (hl : H l = none) (ex : ∃ o, H' l = some o) : Sk K B (ins M l) H' σ Δ ∧ ∀ e ∈ Δ, e.adr ≠ some l := by
  have S' := S.feGrow f tb
  have fw : Fe M.w H H' := f.imp fun _ _ _ z => z.elim
  have s2 : Sub (mi M.m H) (mi (ins M l).m H') := mi_new hl S fw
  have hn : ∀ e ∈ Δ, e.adr ≠ some l := fun e he z => by
    obtain ⟨i, hi⟩ := List.getElem?_of_mem he
    obtain ⟨o, _, h2⟩ := S.sl i e hi
    have hm : M.m l := by
      cases e with
      | any => cases z
      | dat t => cases z
      | own l' t => cases z; cases o with
        | none => exact h2.elim
        | some v => exact h2.2.1
      | pen l' N => cases z; cases o with
        | none => exact h2.elim
        | some v => exact S.wm _ h2.2.1
    exact S.notM hl hm
  refine ⟨{ len := S'.len, al := fun b z => z.elim (S'.al b) fun e => by rw [e]; exact ex, wm := fun b z => Or.inl (S.wm b z), m0 := fun b z => Or.inl (S.m0 b z), pm := S.pm, own := fun b z => z.elim (S.own b) fun e => .inr (by rw [e]; exact S.new0 hl), wp := S.wp, fr := S'.fr, tb := S'.tb, dis := S.dis, sl := fun i e q => ?_ }, hn⟩
  obtain ⟨o, h1, h2⟩ := S.sl i e q
  exact ⟨o, h1, h2.mono (M := M) (M' := ins M l) (fun b z => Or.inl z) (fun _ => Iff.rfl) s2 fun l' _ o n z => f.k l' o id n z⟩
/-- f(e, ..), its new object held -/
theorem eo_call {p pos : Pos} (F : Fn X.prog X.w X.K X.mg X.base x k ps (spO X.K B.T pre post)) (hr : Room k X.A) (hg : Gl X x) (h : EA X B M Δ (e :: es) fun ts Δ1 => pre ts ∧ ∀ t, post ts t → Φ t Δ1)
    (hdb : (x == ("__debug__" : Str)) = false := by decide) (he : starEach (e :: es) X.env = (false, eval e X.env) :: starEach es X.env := by rfl) (hpl : (backTo pos (starEach es X.env)).any (·.1) = false := by rfl) : EO X B M Δ (.Call (.Name x p) (e :: es) [] pos) Φ := fun σ H S Q kk => by
  obtain ⟨f, fd, ok, hm, hk, hb⟩ := F.ex
  refine PE.to (pe_call ok hr hg hm hk hb .nil pass0 pa_self hdb he hpl) (h σ H S _ fun ts Δ1 vs H1 q fe S1 d => ?_)
  rw [List.append_nil]
  refine ⟨M.m, ts, d, q.1, S1.al, S1.tb, fun l t H' hp f2 tb hl ow => ?_⟩
  have fw : Fe M.w H H' := fe.trans (f2.imp fun _ _ _ z => z.elim)
  have ex : ∃ o, H' l = some o := by
    cases t <;> first | exact ow.elim | skip
    · obtain ⟨xs, e, _⟩ := ow; exact ⟨_, e⟩
    · obtain ⟨xs, e, _⟩ := ow; exact ⟨_, e⟩
    · obtain ⟨_, xs, e, _⟩ := ow; exact ⟨_, e⟩
  obtain ⟨S2, hn⟩ := S1.grab f2 tb hl ex
  exact kk t Δ1 l H' (q.2 t hp) fw (fe.free (fun b z => S1.al b (S1.wm b z)) hl) S2 hn ow
end
end Wf

set_option Elab.async false
set_option linter.all false
set_option maxRecDepth 100000
set_option maxHeartbeats 2000000
namespace Wf
open PySem PySem.Spec PyProof.Rows L2 LamX
/-! ### a new pen -/
def spPen (K : PySem.W.Frag) (T : List (Addr × Str)) : Sp := fun vs H Q _ => ∃ (m : Addr → Prop) (ns : List Int), Dts K (mi m H) vs [.lst (ns.map Tr.int)] ∧ ns.length ≤ 63 ∧ (∀ b, m b → ∃ o, H b = some o) ∧ Tabs T H ∧
  ∀ (p : Pn) H', Fe (fun _ => False) H H' → Tabs T H' → H p.l = none → PenAt K (mi (fun b => m b ∨ b = p.l) H') H' p 0 → Q (.ref p.l) H'
section
variable {P : Program} {w : World} {K : PySem.W.Frag} {mg : Str → Option Value} {base : Heap} {x qual : Str} {st : Stmt} {f : Addr} {fd : FuncData} {N : List Str} {k : Nat} {T : List (Addr × Str)} {e : Expr} {pos p1 p2 p3 p4 p5 p6 : Pos} {y : Str} {j1 j2 j3 j4 j5 : Nat}
theorem ok_newPen (F : Fun K x qual st f fd) (S : FnScope N [y] (defScope st)) (hbody : defBody st = [.Return (some (.Dict [some (.Constant (.str "cells") j1 p1), some (.Constant (.str "spot") j2 p2), some (.Constant (.str "more") j3 p3)] [e, .Constant (.int 0) j4 p4, .Constant (.int 0) j5 p5] p6)) pos])
    (hb : ∀ (cdv : Value) (A : Around) (outer : List Env) (s : Shared) (H : Hp) (E : XK) (m : Addr → Prop) (ns : List Int), ns.length ≤ 63 → Room k (A.deeper (envOfC qual (defScope st) s.heap.objs.size f cdv)) →
      EO (cxOf CX0 P w K mg base N qual (defScope st) f cdv A outer s H E).nox (bF T H m) ⟨m, fun _ => False⟩ (slots N [.dat (.lst (ns.map Tr.int))]) e fun t _ => t = .lst (ns.map Tr.int)) :
    FnOk P w K mg base CX0 (k + 1) f fd [y] (spPen K T) := by
  have hpl : 1 ≤ N.length := by
    have := congrArg List.length S.pre
    rw [List.length_take] at this
    simp at this
    omega
  refine F.ok S (fun vs H Q E h => ?_) (fun cdv A outer s H vs Q E hr h => ?_)
  · obtain ⟨m, ns, d, _⟩ := h
    rw [d.length]; rfl
  · obtain ⟨m, ns, d, hn, al, tb, q⟩ := h
    have Sk0 : Sk K (bF T H m) ⟨m, fun _ => False⟩ H (L2.start N vs) (slots N [.dat (.lst (ns.map Tr.int))]) := by
      refine sk_start hpl (by rw [d.length]; rfl) rfl (fun _ => Iff.rfl) (fun _ => Iff.rfl) (fun _ z => z.elim) al tb (fun i j e f l he _ el _ => ?_) fun i v e hv he => ?_
      · cases i with
        | zero => cases he; cases el
        | succ i => simp at he
      · cases i with
        | zero =>
          cases he
          obtain ⟨v', h1, h2⟩ := d.get (i := 0) rfl
          rw [hv] at h1; cases h1
          exact h2
        | succ i => simp at he
    have hD := pe_disp (X := (cxOf CX0 P w K mg base N qual (defScope st) f cdv A outer s H E).nox) (pos := p6) (keys := [some (.Constant (.str "cells") j1 p1), some (.Constant (.str "spot") j2 p2), some (.Constant (.str "more") j3 p3)]) (values := [e, .Constant (.int 0) j4 p4, .Constant (.int 0) j5 p5])
      (pps_cons pe_str pe_self (pps_cons pe_str pe_int (pps_cons pe_str pe_int pps_nil))) rfl rfl (by simp) (by show 3 ≤ 15; decide)
    refine ⟨_, PSs.nox (pss_self (X := (cxOf CX0 P w K mg base N qual (defScope st) f cdv A outer s H E).nox)), ?_⟩
    show WSs _ (defBody st) _ _ _
    rw [hbody]
    refine PSs.to (pss_one (ps_ret hD)) fun a ha => ?_
    have s1 := same_new (o := .dK []) ha
    refine hb cdv A outer s H E m ns hn hr _ _ (Sk0.same s1) _ fun t Δ' l H1 ht fe hl S1 hnn ow => ?_
    subst ht
    obtain ⟨xs, x1, x2⟩ := ow
    have ex := of_ints ns x2
    subst ex
    have ha1 : H1 a = some (.dK []) := fe.k a _ id nt_dK upd_same
    have hal : a ≠ l := fun z => by rw [← z, upd_same] at hl; cases hl
    have nma : ¬ m a := fun z => by obtain ⟨o, e⟩ := al a z; rw [ha] at e; cases e
    refine ⟨ha1, [(.inr "cells", .ref l), (.inr "spot", .int 0), (.inr "more", .int 0)], rfl, by simp, ?_⟩
    have em : mergeK [] [((.inr "cells" : Key), V.ref l), (.inr "spot", .int 0), (.inr "more", .int 0)] = [(.inr "cells", .ref l), (.inr "spot", .int 0), (.inr "more", .int 0)] := rfl
    rw [em]
    have fe2 : Fe (fun _ => False) H (upd H1 a (.dK [(.inr "cells", .ref l), (.inr "spot", .int 0), (.inr "more", .int 0)])) := by
      refine ⟨fun b o _ n z => ?_, fun b qs z => ?_⟩
      · rw [upd_ne (ne_of_none z ha)]
        exact fe.k b o id n (s1 b o z)
      · obtain ⟨rs, y⟩ := fe.t b qs (s1 b _ z)
        exact ⟨rs, by rw [upd_ne (ne_of_none z ha)]; exact y⟩
    refine q ⟨a, l, ns⟩ _ fe2 (fun p hp => ?_) ha ⟨0, 0, upd_same, ?_, hn, Int.le_refl _, Int.le_refl _, Int.le_refl _⟩
    · obtain ⟨ps, z1, z2, z3⟩ := S1.tb p hp
      have ne : ∀ b o, H1 b = some o → (∀ o', o ≠ .dK o') → b ≠ a := fun b o z n y => by
        rw [y, ha1] at z
        cases z
        exact n [] rfl
      refine ⟨ps, by rw [upd_ne (ne _ _ z1 fun _ y => nomatch y)]; exact z1, z2, fun pos cv hc => ?_⟩
      obtain ⟨c, c1, c2⟩ := z3 pos cv hc
      exact ⟨c, c1, by rw [upd_ne (ne _ _ c2 fun o' y => by unfold CodeO at y; cases y)]; exact c2⟩
    · refine SqL.of (mi_of (fun z => ?_) (by rw [upd_ne hal.symm]; exact x1))
      have nm : ¬ m l := fun y => by
        obtain ⟨o, e⟩ := al l y
        rw [s1 l o e] at hl
        cases hl
      exact z.elim nm fun y => hal y.symm
end
section
variable {X : Cx} {B : Bs} {M : Pl} {Δ : List En} {e : Expr} {x y : Str} {k : Nat} {Ψ : Eo}
def insP (M : Pl) (l : Addr) : Pl := ⟨fun b => M.m b ∨ b = l, fun b => M.w b ∨ b = l⟩
theorem s_newPen (i : Nat) {ya : Str} {p p' pos pos2 : Pos} (F : Fn X.prog X.w X.K X.mg X.base x k [ya] (spPen X.K B.T)) (hr : Room k X.A) (hg : Gl X x) (hN : X.N.Nodup) (hi : X.N[i]? = some y)
    (h : EA X B M Δ [e] fun ts Δ1 => ∃ ns : List Int, ts = [.lst (ns.map Tr.int)] ∧ ns.length ≤ 63 ∧ ∀ pn : Pn, ¬ M.m pn.l → Ψ.nx (insP M pn.l) (Δ1.set i (.pen pn 0)))
    (hdb : (x == ("__debug__" : Str)) = false := by decide) (he : starEach [e] X.env = (false, eval e X.env) :: starEach [] X.env := by rfl) (hpl : (backTo pos2 (starEach [] X.env)).any (·.1) = false := by rfl)
    (hs : swapsWith (.Call (.Name x p) [e] [] pos2) (some (.Name y p')) pos.line X.env = pure false := by rfl) (hf : X.fn y = true ∨ X.env.scope.names.lookup y = some .local := by first | exact .inl rfl | exact .inr rfl) (hx : Loc X.env.scope y := by first | exact Or.inl rfl | exact Or.inr rfl) :
    S1 X B M Δ (.Assign [.Name y p'] (.Call (.Name x p) [e] [] pos2) pos) Ψ := fun σ H S D p => by
  obtain ⟨f, fd, ok, hm, hk, hb⟩ := F.ex
  refine PS.to (ps_set (i := i) hN hi hx (pe_call ok hr hg hm hk hb .nil pass0 pa_self hdb he hpl) hs hf) (h σ H S _ fun ts Δ1 vs H1 q fe S1 d => ?_)
  obtain ⟨ns, rfl, hn, q⟩ := q
  rw [List.append_nil]
  refine ⟨M.m, ns, d, hn, S1.al, S1.tb, fun pn H' f2 tb hl pa => ?_⟩
  have fw : Fe M.w H1 H' := f2.imp fun _ _ _ z => z.elim
  have S2 := S1.feGrow f2 tb
  have nm : ¬ M.m pn.l := S1.notM hl
  have s2 : Sub (mi M.m H1) (mi (insP M pn.l).m H') := mi_new hl S1 fw
  have S3 : Sk X.K B (insP M pn.l) H' σ Δ1 := by
    refine { len := S2.len, al := fun b z => z.elim (S2.al b) fun e => ?_, wm := fun b z => z.imp (S1.wm b) id, m0 := fun b z => .inl (S1.m0 b z), pm := S1.pm, own := fun b z => z.elim (S1.own b) fun e => .inr (by rw [e]; exact S1.new0 hl), wp := fun b z => z.elim (S1.wp b) fun e => .inr (by rw [e]; exact S1.new0 hl), fr := S2.fr, tb := S2.tb, dis := S1.dis, sl := fun j e z => ?_ }
    · obtain ⟨_, _, z, _⟩ := pa
      exact ⟨_, by rw [e]; exact z⟩
    · obtain ⟨o, h1, h2⟩ := S1.sl j e z
      refine ⟨o, h1, ?_⟩
      cases o with
      | none => cases e <;> first | exact True.intro | exact h2.elim
      | some v =>
        cases e with
        | any => exact True.intro
        | dat t => exact Dt.mono s2 h2
        | own l' t =>
          obtain ⟨h3, h4, h5, h7, h6⟩ := h2
          exact ⟨h3, .inl h4, h5, fun y => y.elim h7 fun e => nm (by rw [← e]; exact h4), h6.mono s2 fun o n y => f2.k _ o id n y⟩
        | pen l' N =>
          obtain ⟨h3, h4, h6⟩ := h2
          exact ⟨h3, .inl h4, h6.mono s2 fun o n y => f2.k _ o id n y⟩
  refine p.nx (insP M pn.l) _ _ H' (q pn nm) ((S.sub fe).trans s2) (S3.put i (o := some (.ref pn.l)) (e := .pen pn 0) ⟨rfl, .inr rfl, pa⟩ fun l' z j f' _ hf' y => ?_)
  cases z
  obtain ⟨o, _, h2⟩ := S1.sl j f' hf'
  cases f' with
  | any => cases y
  | dat t => cases y
  | own l' t =>
    cases y
    cases o with
    | none => exact h2.elim
    | some v => exact nm h2.2.1
  | pen l' N =>
    cases o with
    | none => exact h2.elim
    | some v => exact nm (by rw [show pn.l = l'.l from (Option.some.inj y).symm]; exact S1.wm _ h2.2.1)
end
end Wf

set_option Elab.async false
set_option linter.all false
set_option maxRecDepth 100000
set_option maxHeartbeats 2000000
namespace Wf
open PySem PySem.Spec PyProof.Rows L2 LamX
section
variable {X : Cx} {B : Bs} {M : Pl} {Δ : List En} {e a b c : Expr} {es : List Expr} {Φ : Tr → List En → Prop} {Ψ : Eo}
/-! ### lists that are read, one behind the other -/
def rCatD (K : PySem.W.Frag) : R2 := fun x y H Q => ∃ l b xs zs, x = .ref l ∧ y = .ref b ∧ SqL K H l xs ∧ SqL K H b zs ∧ xs.length + zs.length ≤ sizeLine ∧ ∀ p, H p = none → Q (.ref p) (upd H p (.lst (xs ++ zs)))
theorem op_catD : OpR X (binaryOp .Add) (rCatD X.K) := by
  intro pins s σ H x y v u Q I rx ry h
  obtain ⟨l, b, xs, zs, rfl, rfl, hx, hy, hz, q⟩ := h
  cases rx
  cases ry
  obtain ⟨us, r1, p1, z1⟩ := I.list hx
  obtain ⟨ws, r2, p2, z2⟩ := I.list hy
  obtain ⟨⟨k1, d1, t1, s1⟩, g1, rfl, n1, c1⟩ := p1.isList
  obtain ⟨⟨k2, d2, t2, s2⟩, g2, rfl, n2, c2⟩ := p2.isList
  obtain rfl : t1 = _ := c1
  obtain rfl : t2 = _ := c2
  have hs : us.toArray.size + ws.toArray.size ≤ sizeLine := by rw [List.size_toArray, List.size_toArray, ← r1.length, ← r2.length]; exact hz
  have ea : us.toArray ++ ws.toArray = (us ++ ws).toArray := by simp
  refine concat_meets ⟨_, g1, rfl⟩ ⟨_, g2, rfl⟩ noFill_list_add seq_list_add PySem.F.slot_list_add PySem.F.entry_list_add (PySem.F.args_list_add_2 _ _) (list_addW l b us.toArray ws.toArray n1 n2 d1 d2 s1 s2 hs) ⟨g1, g2, ?_⟩
  rw [ea]
  exact ⟨.ref _, upd H s.heap.objs.size (.lst (xs ++ zs)), I.lnew (t' := s.toks) (r1.append r2) (by rw [List.length_append]; omega), rfl, q _ I.fresh⟩
theorem eo_catD {pos : Pos} (h : EE X B M Δ a fun x Δ1 => EE X B M Δ1 b fun y Δ2 => ∃ ts us, x = .lst ts ∧ y = .lst us ∧ ts.length + us.length ≤ sizeLine ∧ Φ (.lst (ts ++ us)) Δ2) : EO X B M Δ (.BinOp a .Add b pos) Φ := fun σ H S Q k =>
  PE.to (pe_op op_catD pe_self pe_self) (h σ H S _ fun x Δ1 v H1 p1 f1 S1 d1 => p1 σ H1 S1 _ fun y Δ2 w H2 p2 f2 S2 d2 => by
    obtain ⟨ts, us, rfl, rfl, hz, q⟩ := p2
    have d1 := d1.mono (S1.sub f2)
    cases d1 with
    | lst g1 g2 =>
      cases d2 with
      | lst g3 g4 =>
        refine ⟨_, _, _, _, rfl, rfl, sub_seqL mi_sub g1, sub_seqL mi_sub g3, by rw [g2.length, g4.length]; exact hz, fun p hp => ?_⟩
        rename_i l1 xs l2 ys
        have s := same_new (o := .lst (xs ++ ys)) hp
        obtain ⟨a1, a2, a3⟩ := S2.newOwn (t := .lst (ts ++ us)) hp s ⟨_, upd_same, g2.append g4⟩
        exact k _ Δ2 p _ q ((f1.trans f2).trans (Fe.same s)) ((f1.trans f2).free (fun b z => S2.al b (S2.wm b z)) hp) a1 a2 a3)
/-- a module's int -/
theorem ee_globI {x : Str} {i : Int} {tk : Tok} {pos : Pos} (hg : Gl X x) (hm : X.mg x = some (.int i tk)) (q : Φ (.int i) Δ) (hd : (x == ("__debug__" : Str)) = false := by decide) : EE X B M Δ (.Name x pos) Φ :=
  ee_glob (v := .int i) (u := .int i tk) hg hm ⟨tk, rfl⟩ (fun _ => .int i) q hd
end
end Wf

set_option Elab.async false
set_option linter.all false
set_option maxRecDepth 100000
set_option maxHeartbeats 2000000
namespace Wf
open PySem PySem.Spec PyProof.Rows L2 LamX
section
variable {X : Cx} {B : Bs} {M : Pl} {Δ : List En} {e a b c o : Expr} {es : List Expr} {Φ : Tr → List En → Prop} {Γ : Bool → List En → Prop} {Ψ : Eo}
/-! ### isinstance(x, (S, T)) -/
theorem ee_isi2 {y z : Str} {S T : String} {p p2 p3 p4 pos : Pos} {j : Nat} (hg : Gl X "isinstance") (hm : X.mg "isinstance" = none) (hg2 : Gl X y) (hm2 : X.mg y = none) (hv2 : bootBuiltins y = some (.type S)) (hg3 : Gl X z) (hm3 : X.mg z = none) (hv3 : bootBuiltins z = some (.type T))
    (hv : bootBuiltins "isinstance" = some (.builtin "isinstance")) (h : EE X B M Δ e fun t Δ1 => ∃ n b, t.cls = some n ∧ PySem.W.kitAny X.K (.type n) [.type S, .type T] = some b ∧ Φ (.bl b) Δ1)
    (hn2 : y ≠ "__name__" := by decide) (hdb2 : (y == ("__debug__" : Str)) = false := by decide) (hn3 : z ≠ "__name__" := by decide) (hdb3 : (z == ("__debug__" : Str)) = false := by decide)
    (hs : starEach [e, .Tuple [.Name y p2, .Name z p3] j p4] X.env = (false, eval e X.env) :: starEach [.Tuple [.Name y p2, .Name z p3] j p4] X.env := by rfl) (hs2 : starEach [.Tuple [.Name y p2, .Name z p3] j p4] X.env = (false, eval (.Tuple [.Name y p2, .Name z p3] j p4) X.env) :: starEach [] X.env := by rfl)
    (hs3 : starEach [.Name y p2, .Name z p3] X.env = (false, eval (.Name y p2) X.env) :: starEach [.Name z p3] X.env := by rfl) (hs4 : starEach [.Name z p3] X.env = (false, eval (.Name z p3) X.env) :: starEach [] X.env := by rfl)
    (hpl : (backTo pos (starEach [.Tuple [.Name y p2, .Name z p3] j p4] X.env)).any (·.1) = false := by rfl) : EE X B M Δ (.Call (.Name "isinstance" p) [e, .Tuple [.Name y p2, .Name z p3] j p4] [] pos) Φ := fun σ H Sk0 Q k =>
  PE.to (pe_callB (X := X) call_isiT hg hm hv (pa_cons pe_self (pa_cons (pe_tup (pa_cons (pe_bltn (v := .ty S) hg2 hm2 hv2 rfl hn2 hdb2) (pa_cons (pe_bltn (v := .ty T) hg3 hm3 hv3 rfl hn3 hdb3) pa_nil hs4) hs3)) pa_nil hs2) hs) (by decide) (by decide) hs hpl) (h σ H Sk0 _ fun t Δ1 v H1 p f S1 d => by
    obtain ⟨n, b, h1, h2, q⟩ := p
    refine ⟨by show 2 ≤ sizeLine; decide, fun tp htp => ?_⟩
    have s := same_new (o := .tup [.ty S, .ty T]) htp
    exact ⟨v, tp, [.ty S, .ty T], .type n, [.type S, .type T], b, rfl, upd_same, .cons (.ty S) (.cons (.ty T) .nil), dt_tyx mi_sub (d.mono (Sub.of s).mi) h1, h2, k _ Δ1 _ _ q (f.trans (Fe.same s)) (S1.same s) (.bl b)⟩)
/-! ### a op b op c, of ints -/
theorem et_chain {op op' : CmpOp} {f g : Int → Int → Bool} {pos : Pos} (ho : OpR X (compareOp op) (rI0 fun i j => .bl (f i j))) (ho' : OpR X (compareOp op') (rI0 fun i j => .bl (g i j)))
    (h : EE X B M Δ a fun x Δ1 => EE X B M Δ1 b fun y Δ2 => ∃ i j, x = .int i ∧ y = .int j ∧ (f i j = true → EE X B M Δ2 c fun z Δ3 => ∃ k, z = .int k ∧ Γ (g j k) Δ3) ∧ (f i j = false → Γ false Δ2))
    (hm : lastMarks [op, op'] [b, c] = false := by with_unfolding_all rfl) : ET X B M Δ (.Compare a [op, op'] [b, c] pos) Γ := fun σ H S Q k =>
  PT.to (pt_chain ho ho' pe_self pe_self pe_self hm) (h σ H S _ fun x Δ1 v H1 p f1 S1 d1 => p σ H1 S1 _ fun y Δ2 u H2 p2 f2 S2 d2 => by
    obtain ⟨i, j, rfl, rfl, q1, q2⟩ := p2
    cases d1; cases d2
    refine ⟨i, j, rfl, rfl, _, rfl, ?_⟩
    cases e : f i j with
    | true =>
      exact iteT (q1 e σ H2 S2 _ fun z Δ3 w H3 p3 f3 S3 d3 => by
        obtain ⟨n, rfl, q⟩ := p3
        cases d3
        exact ⟨j, n, rfl, rfl, _, rfl, k _ Δ3 H3 q ((f1.trans f2).trans f3) S3⟩)
    | false => exact iteF ⟨_, rfl, k _ Δ2 H2 (q2 e) (f1.trans f2) S2⟩)
theorem ee_chain {op op' : CmpOp} {f g : Int → Int → Bool} {pos : Pos} (ho : OpR X (compareOp op) (rI0 fun i j => .bl (f i j))) (ho' : OpR X (compareOp op') (rI0 fun i j => .bl (g i j)))
    (h : EE X B M Δ a fun x Δ1 => EE X B M Δ1 b fun y Δ2 => ∃ i j, x = .int i ∧ y = .int j ∧ (f i j = true → EE X B M Δ2 c fun z Δ3 => ∃ k, z = .int k ∧ Φ (.bl (g j k)) Δ3) ∧ (f i j = false → Φ (.bl false) Δ2))
    (hm : lastMarks [op, op'] [b, c] = false := by with_unfolding_all rfl) : EE X B M Δ (.Compare a [op, op'] [b, c] pos) Φ := fun σ H S Q k =>
  PE.to (pe_chain ho ho' pe_self pe_self pe_self hm) (h σ H S _ fun x Δ1 v H1 p f1 S1 d1 => p σ H1 S1 _ fun y Δ2 u H2 p2 f2 S2 d2 => by
    obtain ⟨i, j, rfl, rfl, q1, q2⟩ := p2
    cases d1; cases d2
    refine ⟨i, j, rfl, rfl, _, rfl, ?_⟩
    cases e : f i j with
    | true =>
      exact iteT (q1 e σ H2 S2 _ fun z Δ3 w H3 p3 f3 S3 d3 => by
        obtain ⟨n, rfl, q⟩ := p3
        cases d3
        exact ⟨j, n, rfl, rfl, k _ Δ3 _ H3 q ((f1.trans f2).trans f3) S3 (.bl _)⟩)
    | false => exact iteF (k _ Δ2 _ H2 (q2 e) (f1.trans f2) S2 (.bl false)))
/-! ### x is True, x is False -/
theorem cd_isB : CmpD X .Is B M Γ fun x y Δ2 => ∃ i j : Bool, x = .bl i ∧ y = .bl j ∧ Γ (decide (i = j)) Δ2 :=
  ⟨_, op_isBl, fun x y Δ2 p σ H v w Q S d1 d2 k => by
    obtain ⟨i, j, rfl, rfl, q⟩ := p
    cases d1; cases d2
    exact ⟨i, j, rfl, rfl, k _ _ H q (Fe.refl _ _) S⟩⟩
/-! ### s.find(t) -/
theorem ee_find {apos pos : Pos} (h : EE X B M Δ o fun x Δ1 => ∃ y : Str, x = .str y ∧ EA X B M Δ1 [e] fun ts Δ2 => ∃ z : Str, ts = [.str z] ∧ Φ (.int (Txt.find y z)) Δ2)
    (hE : PE X (.Call (.Attribute o "find" apos) [e] [] pos) (tBM X.K "str" (fun x xs H Q => ∃ a b, x = .str a ∧ xs = [.str b] ∧ Q (.int (Txt.find a b)) H) (WE X o) (WA X [e])) := by
      exact pe_bm PySem.F.plainAttrs_str PySem.F.slot_str_find PySem.F.type_str_find mt_find pe_self pa_self) : EE X B M Δ (.Call (.Attribute o "find" apos) [e] [] pos) Φ := fun σ H S Q k =>
  PE.to hE (h σ H S _ fun x Δ1 v H1 p f S1 d => by
    obtain ⟨y, rfl, p⟩ := p
    cases d
    refine ⟨rfl, p σ H1 S1 _ fun ts Δ2 vs H2 p2 f2 S2 d2 => ?_⟩
    obtain ⟨z, rfl, q⟩ := p2
    cases d2 with
    | cons g1 g2 =>
      cases g2; cases g1
      exact ⟨y, z, rfl, rfl, k _ Δ2 _ H2 q (f.trans f2) S2 (.int _)⟩)
/-! ### instances that are being made -/
def putT (f : Str) (t : Tr) : List (Str × Tr) → List (Str × Tr)
  | [] => [(f, t)]
  | (g, x) :: r => if g = f then (g, t) :: r else (g, x) :: putT f t r
theorem dfs_put {K : PySem.W.Frag} {I : Hp} {f : Str} {v : V} {t : Tr} (d : Dt K I v t) : ∀ {fs : List (Str × V)} {es : List (Str × Tr)}, Dfs K I fs es → Dfs K I (putF f v fs) (putT f t es)
  | _, _, .nil => .cons d .nil
  | (g, x) :: fs, (_, u) :: es, .cons h q => by
    unfold putF putT
    by_cases hg : g = f
    · rw [if_pos hg, if_pos hg]
      exact .cons d q
    · rw [if_neg hg, if_neg hg]
      exact .cons h (dfs_put d q)
theorem dfs_len {K : PySem.W.Frag} {I : Hp} : ∀ {fs : List (Str × V)} {es : List (Str × Tr)}, Dfs K I fs es → fs.length = es.length
  | _, _, .nil => rfl
  | _, _, .cons _ q => congrArg (· + 1) (dfs_len q)
/-- self.f = e, self being made -/
theorem s_fld (i : Nat) {x f : Str} {px pa pos : Pos} (hN : X.N[i]? = some x)
    (h : EE X B M Δ e fun t Δ1 => ∃ l C fs, Δ1[i]? = some (.own l (.ins C fs)) ∧ Cls X.K C ∧ NoAttr X.K C f ∧ fs.length < 1000 ∧ Ψ.nx M (Δ1.set i (.own l (.ins C (putT f t fs)))))
    (hs : swapsWith e (some (.Attribute (.Name x px) f pa)) pos.line X.env = pure false := by rfl) (hd : (x == ("__debug__" : Str)) = false := by decide) (hcd : (x == ("__classdict__" : Str)) = false := by decide) (hv : Vis X.env.scope x := by first | exact Or.inl rfl | exact Or.inr (Or.inl rfl) | exact Or.inr (Or.inr rfl)) :
    S1 X B M Δ (.Assign [.Attribute (.Name x px) f pa] e pos) Ψ := fun σ H S D p =>
  PS.to (ps_fld (pe_var (i := i) hN hv hd hcd) pe_self hs) (h σ H S _ fun t Δ1 v H1 q fe S1 d => by
    obtain ⟨l, C, fs, q1, c1, c2, ql, q⟩ := q
    obtain ⟨h1, h2, h3, h4, dx, vs, h5, h6⟩ := S1.ownAt q1
    refine ⟨_, h1, l, C, dx, vs, rfl, h5, c1, c2, by rw [dfs_len h6]; exact ql, ?_⟩
    obtain ⟨S2, s2⟩ := S1.write (o := .ins C dx (putF f v vs)) (t' := .ins C (putT f t fs)) q1 ⟨dx, _, upd_same, dfs_put d h6⟩
    exact p.nx M _ σ _ q ((S.sub fe).trans s2) S2)
/-- self.f, self being made -/
theorem ee_fldO (i : Nat) {x f : Str} {px pos : Pos} {l C : Addr} {fs : List (Str × Tr)} {u : Tr} (hN : X.N[i]? = some x) (hi : Δ[i]? = some (.own l (.ins C fs))) (c1 : Cls X.K C) (c2 : NoAttr X.K C f) (hl : fs.lookup f = some u) (q : Φ u Δ)
    (hd : (x == ("__debug__" : Str)) = false := by decide) (hcd : (x == ("__classdict__" : Str)) = false := by decide) (hb : attributeBase (.Name x px) f X.env (eval (.Name x px) X.env) = eval (.Name x px) X.env := by rfl) (hv : Vis X.env.scope x := by first | exact Or.inl rfl | exact Or.inr (Or.inl rfl) | exact Or.inr (Or.inr rfl)) : EE X B M Δ (.Attribute (.Name x px) f pos) Φ := fun σ H S Q k => by
  obtain ⟨h1, h2, h3, h4, dx, vs, h5, h6⟩ := S.ownAt hi
  obtain ⟨v, e1, e2⟩ := dfs_look h6 hl
  exact PE.to (pe_fld (pe_var (i := i) hN hv hd hcd) hb) ⟨_, h1, l, C, dx, vs, v, rfl, h5, c1, c2, e1, k u Δ v H q (Fe.refl _ _) S e2⟩
end
/-- an __init__: the instance at l has no fields yet -/
def spI (K : PySem.W.Frag) (T : List (Addr × Str)) (C : Addr) (pre : List Tr → Prop) (post : List Tr → List (Str × Tr) → Prop) : Sp := fun vs H Q _ => ∃ (m : Addr → Prop) (l dx : Addr) (vs' : List V) (ts : List Tr), vs = .ref l :: vs' ∧ ¬ m l ∧ H l = some (.ins C dx []) ∧ Dts K (mi (fun b => m b ∨ b = l) H) vs' ts ∧ pre ts ∧ (∀ b, m b → ∃ o, H b = some o) ∧ Tabs T H ∧
  ∀ fs H', post ts fs → Fe (fun b => b = l) H H' → Tabs T H' → Ow K (mi (fun b => m b ∨ b = l) H') H' l (.ins C fs) → Q .non H'
/-- the heap without a place -/
noncomputable def without (H : Hp) (l : Addr) : Hp := mi (fun b => b = l) H
theorem without_some {H : Hp} {l b : Addr} {o : HO} : without H l b = some o ↔ b ≠ l ∧ H b = some o := mi_some
section
variable {P : Program} {w : World} {K : PySem.W.Frag} {mg : Str → Option Value} {base : Heap} {x qual y : Str} {st : Stmt} {f : Addr} {fd : FuncData} {N ps : List Str} {k : Nat} {T : List (Addr × Str)} {C : Addr} {pre : List Tr → Prop} {post : List Tr → List (Str × Tr) → Prop}
theorem fe_without {H H' : Hp} {l : Addr} (f : Fe (fun _ => False) (without H l) H') (hl : ∀ ps, H l ≠ some (.tbl ps)) : Fe (fun b => b = l) H H' :=
  ⟨fun b o p n e => f.k b o id n (without_some.mpr ⟨p, e⟩), fun b ps e => f.t b ps (without_some.mpr ⟨fun z => hl ps (by rw [← z]; exact e), e⟩)⟩
theorem ok_I (F : Fun K x qual st f fd) (S : FnScope N (y :: ps) (defScope st)) (hpre : ∀ ts, pre ts → ts.length = ps.length) (hps : ps.length + 1 ≤ N.length)
    (hb : ∀ (cdv : Value) (A : Around) (outer : List Env) (s : Shared) (H H0 : Hp) (E : XK) (m : Addr → Prop) (l : Addr) (ts : List Tr), Room k (A.deeper (envOfC qual (defScope st) s.heap.objs.size f cdv)) → pre ts →
      SS (cxOf CX0 P w K mg base N qual (defScope st) f cdv A outer s H E).nox ⟨T, fun _ => False, H0, m⟩ ⟨fun b => m b ∨ b = l, fun _ => False⟩ (slots N (.own l (.ins C []) :: ts.map En.dat)) (defBody st)
        ⟨fun M' Δ' => (∀ b, M'.m b ↔ m b ∨ b = l) ∧ ∃ fs, post ts fs ∧ Δ'[0]? = some (.own l (.ins C fs)), fun _ _ => False, fun _ _ => False, fun _ _ => False⟩) :
    FnOk P w K mg base CX0 (k + 1) f fd (y :: ps) (spI K T C pre post) := by
  refine F.ok S (fun vs H Q E h => ?_) (fun cdv A outer s H vs Q E hr h => ?_)
  · obtain ⟨m, l, dx, vs', ts, rfl, _, _, d, hp, _⟩ := h
    rw [List.length_cons, List.length_cons, d.length, hpre ts hp]
  · obtain ⟨m, l, dx, vs', ts, rfl, nm, hl, d, hp, al, tb, q⟩ := h
    have hlen : ts.length = ps.length := hpre ts hp
    have e0 : ∀ (i : Nat) (e : En), (En.own l (.ins C []) :: ts.map En.dat)[i]? = some e → ∀ a, e.adr = some a → i = 0 := fun i e he a ea => by
      cases i with
      | zero => rfl
      | succ i =>
        rw [List.getElem?_cons_succ, List.getElem?_map] at he
        cases h : ts[i]? with
        | none => rw [h] at he; cases he
        | some t => rw [h] at he; cases he; cases ea
    have Sk0 : Sk K ⟨T, fun _ => False, without H l, m⟩ ⟨fun b => m b ∨ b = l, fun _ => False⟩ H (L2.start N (.ref l :: vs')) (slots N (.own l (.ins C []) :: ts.map En.dat)) := by
      have hl2 : (V.ref l :: vs').length = (En.own l (.ins C []) :: ts.map En.dat).length := by simp [d.length]
      refine { len := ?_, al := fun b z => z.elim (al b) fun e => ⟨.ins C dx [], by rw [e]; exact hl⟩, wm := fun b z => z.elim, m0 := fun b z => .inl z, pm := fun b z => z.elim, own := fun b z => z.elim .inl fun e => .inr ?_, wp := fun b z => z.elim, fr := ⟨fun b o _ n e => (without_some.mp e).2, fun b ps e => ⟨ps, (without_some.mp e).2⟩⟩, tb := tb, dis := fun i j e f a he hf ea fa => ?_, sl := fun i e q => ?_ }
      · unfold L2.start slots
        rw [List.length_append, List.length_append, List.length_map, List.length_replicate, List.length_replicate]
        simp [d.length]
      · rw [e]
        cases z : without H l l with
        | none => exact z
        | some o => exact absurd rfl (without_some.mp z).1
      · rcases start_get (N := N) hl2 he with ⟨_, _, _, z⟩ | ⟨_, rfl⟩
        · rcases start_get (N := N) hl2 hf with ⟨_, _, _, z2⟩ | ⟨_, rfl⟩
          · rw [e0 i e z a ea, e0 j f z2 a fa]
          · cases fa
        · cases ea
      · rcases start_get (N := N) hl2 q with ⟨v, h1, h2, h3⟩ | ⟨h1, rfl⟩
        · refine ⟨_, h1, ?_⟩
          cases i with
          | zero => cases h2; cases h3; exact ⟨rfl, .inr rfl, nm, id, dx, [], hl, .nil⟩
          | succ i =>
            rw [List.getElem?_cons_succ] at h2 h3
            rw [List.getElem?_map] at h3
            cases h : ts[i]? with
            | none => rw [h] at h3; cases h3
            | some t =>
              rw [h] at h3; cases h3
              obtain ⟨v', g1, g2⟩ := d.get h
              rw [h2] at g1; cases g1
              exact g2
        · exact ⟨_, h1, True.intro⟩
    refine ⟨_, pss_self, hb cdv A outer s H (without H l) E m l ts hr hp _ H Sk0 _ ⟨fun M' Δ' σ' H' a b z => ?_, fun _ _ _ _ _ _ z => z.elim, fun _ _ _ _ z => z.elim, fun _ _ _ _ z => z.elim⟩⟩
    obtain ⟨hM, fs, a1, a2⟩ := a
    have ow := (z.ownAt a2).2.2.2.2
    exact q fs H' a1 (fe_without z.fr fun ps e => by rw [hl] at e; cases e) z.tb (ow.mono (mi_le fun b y => (hM b).mpr y) fun _ _ y => y)
end
/-- a class of the module, made by its __init__ -/
structure Mc (P : Program) (w : World) (K : PySem.W.Frag) (mg : Str → Option Value) (base : Heap) (x : Str) (C : Addr) (k : Nat) (ps : List Str) (sp : Sp) : Prop where
  cl : Cls K C
  at_ : mg x = some (.ref C)
  ex : ∃ f fd, FnOk P w K mg base CX0 k f fd ps sp ∧ L2.Mk K C f ∧ Binds K fd ps []
section
variable {X : Cx} {B : Bs} {M : Pl} {Δ : List En} {e : Expr} {es : List Expr} {Φ : Tr → List En → Prop} {x : Str} {k : Nat} {ps : List Str} {C : Addr} {pre : List Tr → Prop} {post : List Tr → List (Str × Tr) → Prop}
/-- C(e, ..) -/
theorem eo_make {p pos : Pos} (F : Mc X.prog X.w X.K X.mg X.base x C k ps (spI X.K B.T C pre post)) (hr : Room (k + 1) X.A) (hg : Gl X x) (h : EA X B M Δ (e :: es) fun ts Δ1 => pre ts ∧ ∀ fs, post ts fs → Φ (.ins C fs) Δ1)
    (hdb : (x == ("__debug__" : Str)) = false := by decide) (he : starEach (e :: es) X.env = (false, eval e X.env) :: starEach es X.env := by rfl) (hpl : (backTo pos (starEach es X.env)).any (·.1) = false := by rfl) : EO X B M Δ (.Call (.Name x p) (e :: es) [] pos) Φ := fun σ H S Q kk => by
  obtain ⟨f, fd, ok, hm, hb⟩ := F.ex
  refine PE.to (pe_make hm ok hr hg F.at_ hb .nil pass0 pa_self hdb he hpl) (h σ H S _ fun ts Δ1 vs H1 q fe S1 d => fun l dx hl hdx hne => ?_)
  rw [List.append_nil]
  have s1 : Same H1 (upd (upd H1 dx (.own l)) l (.ins C dx [])) := fun b o z => by
    rw [upd_ne (ne_of_none z hl), upd_ne (ne_of_none z hdx)]; exact z
  have nm : ¬ M.m l := S1.notM hl
  have s2 : Sub (mi M.m H1) (mi (fun b => M.m b ∨ b = l) (upd (upd H1 dx (.own l)) l (.ins C dx []))) := mi_new hl S1 (Fe.same s1)
  refine ⟨M.m, l, dx, vs, ts, rfl, nm, upd_same, d.mono s2, q.1, fun b z => ?_, S1.tb.ext s1, fun fs H' hp f2 tb ow => ⟨rfl, ?_⟩⟩
  · obtain ⟨o, e⟩ := S1.al b z
    exact ⟨o, s1 b o e⟩
  · have fn : Fe (fun _ => False) H1 H' := ((Fe.same s1).trans f2).imp fun b o n z e => by rw [z, hl] at e; cases e
    have ex : ∃ o, H' l = some o := by
      obtain ⟨_, _, z, _⟩ := ow
      exact ⟨_, z⟩
    obtain ⟨S2, hn⟩ := S1.grab fn tb hl ex
    exact kk _ Δ1 l H' (q.2 fs hp) (fe.trans (fn.imp fun _ _ _ z => z.elim)) (fe.free (fun b z => S1.al b (S1.wm b z)) hl) S2 hn ow
end
end Wf

set_option Elab.async false
set_option linter.all false
set_option maxRecDepth 100000
set_option maxHeartbeats 2000000
namespace Wf
open PySem PySem.Spec PyProof.Rows L2 LamX
/-! ### calls with keywords -/
def WK (X : Cx) (kws : List Keyword) : TA := fun σ H Q => ∀ (pos : Pos) pins s, Inv X pins σ H s → wpAny (model X.prog X.w) X.A (evalAll ((backToKw pos (keywordEach kws X.env)).map (·.2))) (AP X pins σ Q) X.xe s
theorem pk_self {X : Cx} {kws : List Keyword} : PK X kws (WK X kws) := ⟨fun pos pins s σ H Q I h => h pos pins s I⟩
theorem PK.to {X : Cx} {kws : List Keyword} {t : TA} (h : PK X kws t) {σ : L2.St} {H : Hp} {Q : List V → Hp → Prop} (q : t σ H Q) : WK X kws σ H Q := fun pos pins s I => h.run pos pins s σ H Q I q
def EK (X : Cx) (B : Bs) (M : Pl) (Δ : List En) (kws : List Keyword) (Φ : List Tr → List En → Prop) : Prop := ∀ σ H, Sk X.K B M H σ Δ → ∀ Q : List V → Hp → Prop,
  (∀ ts Δ' vs H', Φ ts Δ' → Fe M.w H H' → Sk X.K B M H' σ Δ' → Dts X.K (mi M.m H') vs ts → Q vs H') → WK X kws σ H Q
/-- the positional values, then the keywords' -/
def gK {α : Type} (n j : Nat) (us ws : List α) : List α := if us.length = n ∧ ws.length = j then us ++ ws else []
theorem vals_app {vs zs : List V} {us ws : List Value} (h : Vals vs us) (q : Vals zs ws) : Vals (vs ++ zs) (us ++ ws) := by
  induction h with
  | nil => exact q
  | cons r _ ih => exact .cons r ih
theorem gK_rel {n j : Nat} {vs zs : List V} {us ws : List Value} (h : Vals vs us) (q : Vals zs ws) : Vals (gK n j vs zs) (gK n j us ws) := by
  unfold gK
  rw [h.length, q.length]
  by_cases c : us.length = n ∧ ws.length = j
  · rw [if_pos c, if_pos c]; exact vals_app h q
  · rw [if_neg c, if_neg c]; exact .nil
structure FnK (P : Program) (w : World) (K : PySem.W.Frag) (mg : Str → Option Value) (base : Heap) (x : Str) (k n j : Nat) (ps ks : List Str) (sp : Sp) : Prop where
  ex : ∃ f fd, FnOk P w K mg base CX0 k f fd ps sp ∧ mg x = some (.ref f) ∧ PySem.W.keepIn K (.ref f) = true ∧ KBinds K fd ps ks (gK n j) (gK n j)
theorem kbinds_of {K : PySem.W.Frag} {fd : FuncData} {ps ks : List Str} {n j : Nat} (hp : 0 < ps.length) (h : ∀ us ws : List Value, us.length = n → ws.length = j → bindArgs fd ⟨us, ks.zip ws⟩ = pure (ps.zip (us ++ ws))) : KBinds K fd ps ks (gK n j) (gK n j) where
  to := fun s us ws _ hl => by
    unfold gK at hl ⊢
    by_cases c : us.length = n ∧ ws.length = j
    · rw [if_pos c] at hl ⊢
      exact .of_eq (h us ws c.1 c.2)
    · rw [if_neg c] at hl
      simp at hl
      omega
  rel := fun h q => gK_rel h q
section
variable {X : Cx} {B : Bs} {M : Pl} {Δ : List En} {e : Expr} {es : List Expr} {kws : List Keyword} {Φ : Tr → List En → Prop} {x : Str} {k n j : Nat} {ps ks : List Str} {pre : List Tr → Prop} {post : List Tr → Tr → Prop} {Θ : List Tr → List En → Prop}
theorem ek_nil (q : Θ [] Δ) : EK X B M Δ [] Θ := fun σ H S Q k => PK.to pk_nil (k [] Δ [] H q (Fe.refl _ _) S .nil)
theorem ek_cons {nm : Option Str} {kpos : Pos} (h : EE X B M Δ e fun t Δ1 => EK X B M Δ1 kws fun ts Δ2 => Θ (t :: ts) Δ2) : EK X B M Δ (⟨nm, e, kpos⟩ :: kws) Θ := fun σ H S Q k =>
  PK.to (pk_cons pe_self pk_self) (h σ H S _ fun t Δ1 v H1 p f S1 d1 => p σ H1 S1 _ fun ts Δ2 vs H2 p2 f2 S2 d2 => k _ Δ2 _ H2 p2 (f.trans f2) S2 (.cons (d1.mono (S1.sub f2)) d2))
/-- f(e, .., k = v, ..) -/
theorem ee_callK {p pos : Pos} (F : FnK X.prog X.w X.K X.mg X.base x k n j ps ks (spF X.K B.T pre post)) (hr : Room k X.A) (hg : Gl X x)
    (h : EA X B M Δ (e :: es) fun ts Δ1 => EK X B M Δ1 kws fun us Δ2 => ts.length = n ∧ us.length = j ∧ pre (ts ++ us) ∧ ∀ t, post (ts ++ us) t → Φ t Δ2)
    (hall : (backToKw pos (keywordEach kws X.env)).all (·.1.isSome) = true := by rfl) (hks : (backToKw pos (keywordEach kws X.env)).filterMap (·.1) = ks := by rfl)
    (hdb : (x == ("__debug__" : Str)) = false := by decide) (he : starEach (e :: es) X.env = (false, eval e X.env) :: starEach es X.env := by rfl)
    (hpl : ((backTo pos (starEach (e :: es) X.env)).any (·.1) || (backToKw pos (keywordEach kws X.env)).any (·.1.isNone)) = false := by rfl) : EE X B M Δ (.Call (.Name x p) (e :: es) kws pos) Φ := fun σ H S Q kk => by
  obtain ⟨f, fd, ok, hm, hk, hb⟩ := F.ex
  refine PE.to (pe_callK ok hr hg hm hk hb pass0 pa_self pk_self hall hks hdb he hpl) (h σ H S _ fun ts Δ1 vs H1 q fe S1 d => q σ H1 S1 _ fun us Δ2 zs H2 q2 f2 S2 d2 => ?_)
  obtain ⟨l1, l2, q3, q4⟩ := q2
  have e : gK n j vs zs = vs ++ zs := if_pos ⟨by rw [d.length]; exact l1, by rw [d2.length]; exact l2⟩
  rw [e]
  exact ⟨M.m, ts ++ us, (d.mono (S1.sub f2)).append d2, q3, S2.al, S2.tb, fun v t H' hp f3 tb dd => kk t Δ2 v H' (q4 t hp) ((fe.trans f2).trans (f3.imp fun _ _ _ z => z.elim)) (S2.feGrow f3 tb) dd⟩
end
end Wf

set_option Elab.async false
set_option linter.all false
set_option maxRecDepth 100000
set_option maxHeartbeats 2000000
namespace Wf
open PySem PySem.Spec PyProof.Rows L2 LamX
/-! ### def f(*xs) -/
/-- what a call that has bound its one starred parameter goes on to do -/
def VRun (P : Program) (w : World) (K : PySem.W.Frag) (mg : Str → Option Value) (base : Heap) (k : Nat) (f : Addr) (fd : FuncData) (body : List Stmt) (y : Str) (sp : Sp) : Prop :=
  ∀ (A : Around) (outer : List Env) (s : Shared) (H : Hp) (u : Value) (v : V) (Q : VK), Room k A → Env0 P w K mg base A outer s H → RelV v u → sp [v] H Q E0 →
    wpAny (model P w) A.in1 (newFunctionEnv fd.scope fd.globals fd.closure [(y, u)] (fd.qualname ++ ".<locals>.") (some f) fd.code none fd.builtins)
      (fun env s₂ => s₂.heap.NoLimit ∧ codeAny (model P w) A (.func body env) (CR CX0 outer P w H s Q E0) s₂) (fun e s' => CR CX0 outer P w H s Q E0 (.error e) s') s
structure FnV (P : Program) (w : World) (K : PySem.W.Frag) (mg : Str → Option Value) (base : Heap) (x : Str) (k : Nat) (y : Str) (sp : Sp) : Prop where
  ex : ∃ (f : Addr) (fd : FuncData) (body : List Stmt) (o : Obj), K.lookup f = some o ∧ o.data = .func fd ∧ fd.scope.isCoroutine = false ∧ fd.scope.isGenerator = false ∧ fd.body = .stmts body ∧ PySem.W.codeIn K fd.code fd.qualname = true ∧
    (∀ us : List Value, bindArgs fd ⟨us, []⟩ = (newTuple us >>= fun t => pure [(y, t)])) ∧ VRun P w K mg base k f fd body y sp ∧ mg x = some (.ref f) ∧ PySem.W.keepIn K (.ref f) = true
section
variable {P : Program} {w : World} {K : PySem.W.Frag} {mg : Str → Option Value} {base : Heap} {x y : Str} {st : Stmt} {f : Addr} {fd : FuncData} {N : List Str} {k : Nat} {T : List (Addr × Str)} {pre : List Tr → Prop} {post : List Tr → Tr → Prop}
/-- such a def by its body: its parameter is the tuple -/
theorem ok_V (F : Fun K x x st f fd) (S : FnScope N [y] (defScope st)) (hm : mg x = some (.ref f)) (hpre : ∀ ts, pre ts → ts.length = 1) (hbind : ∀ us : List Value, bindArgs fd ⟨us, []⟩ = (newTuple us >>= fun t => pure [(y, t)]))
    (hb : ∀ (cdv : Value) (A : Around) (outer : List Env) (s : Shared) (H : Hp) (E : XK) (m : Addr → Prop) (ts : List Tr), Room k (A.deeper (envOfC x (defScope st) s.heap.objs.size f cdv)) → pre ts →
      SS (cxOf CX0 P w K mg base N x (defScope st) f cdv A outer s H E).nox (bF T H m) ⟨m, fun _ => False⟩ (slots N (ts.map En.dat)) (defBody st) ⟨fun _ _ => post ts .non, fun t _ => post ts t, fun _ _ => False, fun _ _ => False⟩) :
    FnV P w K mg base x (k + 1) y (spF K T pre post) := by
  have hps : 1 ≤ N.length := by
    have := congrArg List.length S.pre
    rw [List.length_take] at this
    simp at this
    omega
  obtain ⟨oc, od, kV, doc, pm, an, cdv, ct, osl, rfl, lk, hcd⟩ := F.ex
  refine ⟨f, _, defBody st, _, lk, rfl, S.co, S.gen, rfl, hcd, hbind, fun A outer s H u v Q hr e0 r h => ?_, hm, F.kp⟩
  obtain ⟨m, ts, d, hp, al, tb, q⟩ := h
  have hlen := hpre ts hp
  have lim : s.heap.NoLimit := e0.mod.nolimit.keeps fun b o e => (e0.bs b o e).1
  have hkind : ∀ z ∈ [y].zip [u], (defScope st).names.lookup z.1 = some .local ∨ ((defScope st).names.lookup z.1 = some .cell ∧ ((cellsFrom (s.heap.objs.size + 1) (defScope st).names []).lookup z.1).isSome = true) := fun z hz => by
    rcases S.par z.1 (List.of_mem_zip hz).1 with q | q
    · exact .inl q
    · exact .inr ⟨q, PySem.W.cellsFrom_some _ _ _ (.inl q)⟩
  refine wpAny_newFunctionEnv_cells (binds := [y].zip [u]) S.kind hkind fun env he s1 x1 => ?_
  subst he
  refine ⟨lim.keeps x1.toInCall.keep, codeAny_func ?_⟩
  have Sk0 : Sk K (bF T H m) ⟨m, fun _ => False⟩ H (L2.start N [v]) (slots N (ts.map En.dat)) := by
    refine sk_start (by simp; omega) (by simp [hlen]) rfl (fun _ => Iff.rfl) (fun _ => Iff.rfl) (fun _ z => z.elim) al tb (fun i j e f l he _ el _ => ?_) fun i v e hv he => ?_
    · rw [List.getElem?_map] at he
      cases h : ts[i]? with
      | none => rw [h] at he; cases he
      | some t => rw [h] at he; cases he; cases el
    · rw [List.getElem?_map] at he
      cases h : ts[i]? with
      | none => rw [h] at he; cases he
      | some t =>
        rw [h] at he; cases he
        obtain ⟨v', h1, h2⟩ := d.get h
        rw [hv] at h1; cases h1
        exact h2
  have J := hb cdv A outer s H E0 m ts (hr.deeper _) hp _ H Sk0 { nx := fun _ H' => Q .non H', rt := Q, bk := fun _ _ => False, ct := fun _ _ => False } ⟨fun M' Δ' σ' H' a b c => q .non .non H' a c.fr c.tb .non, fun t M' Δ' v σ' H' a b c dd => q v t H' a c.fr c.tb (dd.mono (mi_le c.m0)), fun _ _ _ _ z => z.elim, fun _ _ _ _ z => z.elim⟩
  have hS := (PSs.nox (pss_self (X := (cxOf CX0 P w K mg base N x (defScope st) f cdv A outer s H E0).nox) (ss := defBody st)))
  have I : Inv (cxOf CX0 P w K mg base N x (defScope st) f cdv A outer s H E0) [] (L2.start N [v]) H s1 := inv_start S hr.hd e0 rfl (.cons r .nil) x1
  refine wpAny_mono (hS.run [] s1 (L2.start N [v]) H _ I J) (fun fl s' hs => ?_) fun e s' hs => hs
  cases fl with
  | ret u' =>
    obtain ⟨v', σ', H', J', rv, q'⟩ := hs
    exact ⟨v', H', J'.os, J'.bare, J'.base, J'.hok, rv, q'⟩
  | next =>
    obtain ⟨σ', H', J', q'⟩ := hs
    exact ⟨.non, H', J'.os, J'.bare, J'.base, J'.hok, rfl, q'⟩
  | brk =>
    obtain ⟨_, _, _, z⟩ := hs
    exact z.elim
  | cont =>
    obtain ⟨_, _, _, z⟩ := hs
    exact z.elim
end
section
variable {X : Cx} {B : Bs} {M : Pl} {Δ : List En} {e : Expr} {es : List Expr} {Φ : Tr → List En → Prop} {x y : Str} {k : Nat} {pre : List Tr → Prop} {post : List Tr → Tr → Prop}
/-- f(e, ..), f's parameter starred -/
theorem ee_callV {p pos : Pos} (F : FnV X.prog X.w X.K X.mg X.base x k y (spF X.K B.T pre post)) (hr : Room k X.A) (hg : Gl X x) (h : EA X B M Δ (e :: es) fun ts Δ1 => ts.length ≤ sizeLine ∧ pre [.tup ts] ∧ ∀ t, post [.tup ts] t → Φ t Δ1)
    (hdb : (x == ("__debug__" : Str)) = false := by decide) (he : starEach (e :: es) X.env = (false, eval e X.env) :: starEach es X.env := by rfl) (hpl : (backTo pos (starEach es X.env)).any (·.1) = false := by rfl) : EE X B M Δ (.Call (.Name x p) (e :: es) [] pos) Φ := fun σ H S Q kk pins s I => by
  obtain ⟨f, fd, body, o, lk, ho, h1, h2, h3, hcd, hbind, run, hm, hk⟩ := F.ex
  refine wpAny_Call_Name_kw (ld_glob I hg hm ?_ hdb)
  refine PySem.W.callWith_K (h₀ := X.base) I.ok.mod.kin hk (thn (h σ H S (fun vs H1 => ∃ ts Δ1, ts.length ≤ sizeLine ∧ pre [.tup ts] ∧ (∀ t, post [.tup ts] t → Φ t Δ1) ∧ Fe M.w H H1 ∧ Sk X.K B M H1 σ Δ1 ∧ Dts X.K (mi M.m H1) vs ts) (fun ts Δ1 vs H1 q f S1 d => ⟨ts, Δ1, q.1, q.2.1, q.2.2, f, S1, d⟩) pos pins s I) fun us s1 ⟨vs, H1, I1, r, ts, Δ1, q0, q1, q2, f1, S1, d⟩ => ⟨I1.kIn, ?_⟩) he hpl
  have hz : us.length ≤ sizeLine := by rw [← r.length, d.length]; exact q0
  have nq : H1 s1.heap.objs.size = none := I1.hok.fresh (Nat.le_refl _)
  have I2 : Inv X pins σ (upd H1 s1.heap.objs.size (.tup vs)) { s1 with heap := s1.heap.push { cls := .type "tuple", data := .seq us.toArray }, toks := s1.toks } := I1.laid (t' := s1.toks) (fun b u e => Heap.get?_push_of_some _ e) (Nat.le_refl _) ⟨by rw [r.length]; exact hz, us, r, ⟨_, Heap.get?_push_size _ rfl, rfl, _, rfl⟩⟩
  have sm := same_new (o := .tup vs) nq
  have S2 := S1.same sm
  have dt : Dt X.K (mi M.m (upd H1 s1.heap.objs.size (.tup vs))) (.ref s1.heap.objs.size) (.tup ts) := .tup (SqT.of (mi_of (S1.notM nq) upd_same)) (d.mono (Sub.of sm).mi)
  have fin := run X.A X.stack { s1 with heap := s1.heap.push { cls := .type "tuple", data := .seq us.toArray }, toks := s1.toks } (upd H1 s1.heap.objs.size (.tup vs)) (.ref s1.heap.objs.size) (.ref s1.heap.objs.size) Q hr I2.env0 rfl
    ⟨M.m, [.tup ts], .cons dt .nil, q1, S2.al, S2.tb, fun v t H' hp f2 tb dd => kk t Δ1 v H' (q2 t hp) ((f1.trans (Fe.same sm)).trans (f2.imp fun _ _ _ z => z.elim)) (S2.feGrow f2 tb) dd⟩
  refine wpAny_call (codeAny_mono (R := CR CX0 X.stack X.prog X.w (upd H1 s1.heap.objs.size (.tup vs)) { s1 with heap := s1.heap.push { cls := .type "tuple", data := .seq us.toArray }, toks := s1.toks } Q E0) ?_ fun rr s' hq => ?_)
  · refine codeAny_call_function hr.depth (I1.kIn _ _ lk) ho h1 h2 h3 (PySem.W.codeRec_of I1.kIn hcd) ?_
    rw [List.nil_append, hbind us]
    refine wpAny_bind (wpAny_newObj_type (wpAny_pure fin) ?_)
    show us.toArray.size ≤ sizeLine
    rw [List.size_toArray]
    exact hz
  · cases rr with
    | error e => exact (show False from hq).elim
    | ok fl =>
      cases fl with
      | ret u => exact I2.after hq
      | next => exact False.elim hq
      | brk => exact False.elim hq
      | cont => exact False.elim hq
theorem cl_any (hc : X.calm = true) : CalD X (.builtin "any") B M Φ fun ts Δ2 => ∃ bs : List Bool, ts = [.lst (bs.map Tr.bl)] ∧ Φ (.bl (bs.any id)) Δ2 := ⟨_, (cr_any hc), fun ts Δ2 p σ H vs Q S d k => by
  obtain ⟨us, rfl, q⟩ := p
  cases d with
  | cons d1 d2 =>
    cases d2
    cases d1 with
    | lst h1 h2 =>
      have e := of_bls us h2
      subst e
      exact ⟨_, us, rfl, sub_seqL mi_sub h1, k _ _ _ H q (Fe.refl _ _) S (.bl _)⟩⟩
end
end Wf

set_option Elab.async false
set_option linter.all false
set_option maxRecDepth 100000
set_option maxHeartbeats 2000000
namespace Wf
open PySem PySem.Spec PyProof.Rows L2 LamX
section
variable {X : Cx} {B : Bs} {M : Pl} {Δ : List En} {e : Expr} {pos : Pos} {Ψ : Eo}
/-- x op= e, ints -/
theorem s_augI (i : Nat) {x : Str} {p' : Pos} {op : Operator} {C : Int → Int → Prop} {g : Int → Int → Int} {a : Int} (ho : OpR X (inplaceOp op) (rI C fun i j => .int (g i j))) (hN : X.N.Nodup) (hi : X.N[i]? = some x) (hd : Δ[i]? = some (.dat (.int a)))
    (h : EE X B M Δ e fun t Δ1 => ∃ j, t = .int j ∧ C a j ∧ Ψ.nx M (Δ1.set i (.dat (.int (g a j)))))
    (hf : X.fn x = true ∨ X.env.scope.names.lookup x = some .local := by first | exact .inl rfl | exact .inr rfl) (hx : Loc X.env.scope x := by first | exact Or.inl rfl | exact Or.inr rfl) : S1 X B M Δ (.AugAssign (.Name x p') op e pos) Ψ := fun σ H S D p => by
  obtain ⟨v, h1, h2⟩ := S.dat hd
  cases h2
  refine PS.to (ps_aug (i := i) hN hi hx pe_self ho hf) ⟨_, h1, h σ H S _ fun t Δ1 v H1 q f S1 d => ?_⟩
  obtain ⟨j, rfl, c, q⟩ := q
  cases d
  exact ⟨_, _, rfl, rfl, c, p.nx M _ _ H1 q (S.sub f) (S1.set i (.int _))⟩
theorem s_fdiv (i : Nat) {x : Str} {p' : Pos} {a : Int} (hN : X.N.Nodup) (hi : X.N[i]? = some x) (hd : Δ[i]? = some (.dat (.int a)))
    (h : EE X B M Δ e fun t Δ1 => ∃ j, t = .int j ∧ CDiv a j ∧ Ψ.nx M (Δ1.set i (.dat (.int (a / j)))))
    (hf : X.fn x = true ∨ X.env.scope.names.lookup x = some .local := by first | exact .inl rfl | exact .inr rfl) (hx : Loc X.env.scope x := by first | exact Or.inl rfl | exact Or.inr rfl) : S1 X B M Δ (.AugAssign (.Name x p') .FloorDiv e pos) Ψ :=
  s_augI i (g := fun i j => i / j) iop_fdiv hN hi hd h hf hx
end
end Wf

set_option Elab.async false
set_option linter.all false
set_option maxRecDepth 100000
set_option maxHeartbeats 2000000
namespace Wf
open PySem PySem.Spec PyProof.Rows L2 LamX
section
variable {X : Cx} {B : Bs} {M : Pl} {Δ : List En} {e : Expr} {pos : Pos} {Ψ : Eo}
/-- a, b = e -/
theorem s_unp2 (i j : Nat) {x y : Str} {px py pt : Pos} {kt : Nat} (hc : X.calm = true) (hN : X.N.Nodup) (hi : X.N[i]? = some x) (hj : X.N[j]? = some y)
    (h : EE X B M Δ e fun t Δ1 => ∃ a b, t = .tup [a, b] ∧ Ψ.nx M ((Δ1.set i (.dat a)).set j (.dat b)))
    (hf : X.fn x = true ∨ X.env.scope.names.lookup x = some .local := by first | exact .inl rfl | exact .inr rfl) (hx : Loc X.env.scope x := by first | exact Or.inl rfl | exact Or.inr rfl)
    (hf2 : X.fn y = true ∨ X.env.scope.names.lookup y = some .local := by first | exact .inl rfl | exact .inr rfl) (hx2 : Loc X.env.scope y := by first | exact Or.inl rfl | exact Or.inr rfl)
    (hs : swapsWithSole [.Tuple [.Name x px, .Name y py] kt pt] e pos.line X.env = pure false := by rfl) (hw : swappedStores [.Tuple [.Name x px, .Name y py] kt pt] e X.env = pure none := by rfl)
    (h1 : (assignEach [.Tuple [.Name x px, .Name y py] kt pt] X.env).map (·.2) = [assign (.Tuple [.Name x px, .Name y py] kt pt) X.env] := by rfl)
    (ha : (assignEach [.Name x px, .Name y py] X.env).map (·.2) = assign (.Name x px) X.env :: (assignEach [.Name y py] X.env).map (·.2) := by rfl)
    (hb : (assignEach [.Name y py] X.env).map (·.2) = assign (.Name y py) X.env :: (assignEach [] X.env).map (·.2) := by rfl)
    (hn : (assignEach [.Name x px, .Name y py] X.env).length = 2 := by rfl) (hst : (assignEach [.Name x px, .Name y py] X.env).findIdx? (·.1) = none := by rfl) :
    S1 X B M Δ (.Assign [.Tuple [.Name x px, .Name y py] kt pt] e pos) Ψ := fun σ H S D p =>
  PS.to (ps_asg pe_self (pg_tup hc (pgs_cons (pg_name (i := i) hN hi hx hf) (pgs_cons (pg_name (i := j) hN hj hx2 hf2) pgs_nil hb) ha) hn hst) hs hw h1) (h σ H S _ fun t Δ1 v H1 q f S1 d => by
    obtain ⟨a, b, rfl, q⟩ := q
    cases d with
    | tup g1 g2 =>
      cases g2 with
      | cons d1 g3 =>
        cases g3 with
        | cons d2 g4 =>
          cases g4
          exact ⟨_, _, rfl, sub_seqT mi_sub g1, rfl, _, _, rfl, _, _, rfl, rfl, p.nx M _ _ H1 q (S.sub f) ((S1.set i d1).set j d2)⟩)
/-- a, b, c = e -/
theorem s_unp3 (i j k : Nat) {x y z : Str} {px py pz pt : Pos} {kt : Nat} (hc : X.calm = true) (hN : X.N.Nodup) (hi : X.N[i]? = some x) (hj : X.N[j]? = some y) (hk : X.N[k]? = some z)
    (h : EE X B M Δ e fun t Δ1 => ∃ a b c, t = .tup [a, b, c] ∧ Ψ.nx M (((Δ1.set i (.dat a)).set j (.dat b)).set k (.dat c)))
    (hf : X.fn x = true ∨ X.env.scope.names.lookup x = some .local := by first | exact .inl rfl | exact .inr rfl) (hx : Loc X.env.scope x := by first | exact Or.inl rfl | exact Or.inr rfl)
    (hf2 : X.fn y = true ∨ X.env.scope.names.lookup y = some .local := by first | exact .inl rfl | exact .inr rfl) (hx2 : Loc X.env.scope y := by first | exact Or.inl rfl | exact Or.inr rfl)
    (hf3 : X.fn z = true ∨ X.env.scope.names.lookup z = some .local := by first | exact .inl rfl | exact .inr rfl) (hx3 : Loc X.env.scope z := by first | exact Or.inl rfl | exact Or.inr rfl)
    (hs : swapsWithSole [.Tuple [.Name x px, .Name y py, .Name z pz] kt pt] e pos.line X.env = pure false := by rfl) (hw : swappedStores [.Tuple [.Name x px, .Name y py, .Name z pz] kt pt] e X.env = pure none := by rfl)
    (h1 : (assignEach [.Tuple [.Name x px, .Name y py, .Name z pz] kt pt] X.env).map (·.2) = [assign (.Tuple [.Name x px, .Name y py, .Name z pz] kt pt) X.env] := by rfl)
    (ha : (assignEach [.Name x px, .Name y py, .Name z pz] X.env).map (·.2) = assign (.Name x px) X.env :: (assignEach [.Name y py, .Name z pz] X.env).map (·.2) := by rfl)
    (hb : (assignEach [.Name y py, .Name z pz] X.env).map (·.2) = assign (.Name y py) X.env :: (assignEach [.Name z pz] X.env).map (·.2) := by rfl)
    (hb2 : (assignEach [.Name z pz] X.env).map (·.2) = assign (.Name z pz) X.env :: (assignEach [] X.env).map (·.2) := by rfl)
    (hn : (assignEach [.Name x px, .Name y py, .Name z pz] X.env).length = 3 := by rfl) (hst : (assignEach [.Name x px, .Name y py, .Name z pz] X.env).findIdx? (·.1) = none := by rfl) :
    S1 X B M Δ (.Assign [.Tuple [.Name x px, .Name y py, .Name z pz] kt pt] e pos) Ψ := fun σ H S D p =>
  PS.to (ps_asg pe_self (pg_tup hc (pgs_cons (pg_name (i := i) hN hi hx hf) (pgs_cons (pg_name (i := j) hN hj hx2 hf2) (pgs_cons (pg_name (i := k) hN hk hx3 hf3) pgs_nil hb2) hb) ha) hn hst) hs hw h1) (h σ H S _ fun t Δ1 v H1 q f S1 d => by
    obtain ⟨a, b, c, rfl, q⟩ := q
    cases d with
    | tup g1 g2 =>
      cases g2 with
      | cons d1 g3 =>
        cases g3 with
        | cons d2 g4 =>
          cases g4 with
          | cons d3 g5 =>
            cases g5
            exact ⟨_, _, rfl, sub_seqT mi_sub g1, rfl, _, _, rfl, _, _, rfl, _, _, rfl, rfl, p.nx M _ _ H1 q (S.sub f) (((S1.set i d1).set j d2).set k d3)⟩)
end
end Wf

set_option Elab.async false
set_option linter.all false
set_option maxRecDepth 100000
set_option maxHeartbeats 2000000
namespace Wf
open PySem PySem.Spec PyProof.Rows L2 LamX
theorem foldl_arr (z : List Nat) : ∀ (n : Nat) (a : Array Nat), (List.replicate n z.toArray).foldl (· ++ ·) a = a ++ (List.replicate n z).flatten.toArray
  | 0, a => by simp
  | n + 1, a => by
    rw [List.replicate_succ, List.foldl_cons, foldl_arr z n, List.replicate_succ, List.flatten_cons]
    simp [Array.append_assoc]
section
variable {X : Cx} {B : Bs} {M : Pl} {Δ : List En} {a b : Expr} {Φ : Tr → List En → Prop}
/-- a str, several times -/
theorem op_mulS : OpR X (binaryOp .Mult) (fun x y H Q => ∃ (z : List Nat) (n : Nat), x = .str (txt z) ∧ y = .int n ∧ n ≤ sizeLine ∧ z.length * n ≤ sizeLine ∧ Q (.str (txt (List.replicate n z).flatten)) H) := by
  intro pins s σ H x y v u Q I rx ry h
  obtain ⟨z, n, rfl, rfl, hn, hz, q⟩ := h
  obtain ⟨t, rfl⟩ := rx
  obtain ⟨t', rfl⟩ := ry
  have hsl : sizeLine = 16777216 := sizeLine_eq
  have hlen : (txt z).length = z.length := txt_len z
  refine PySem.P.mul_str ?_ ?_ ?_ ?_
  · rw [decide_eq_false (by omega), decide_eq_false (by omega)]
    rfl
  · intro h1 h2
    have hn1 : 0 < (n : Int) := by omega
    rw [hlen]
    intro h3
    have h4 : (2 ^ 63 - 1) / (n : Int) < (z.length : Int) := h3
    have h5 : (2 ^ 63 - 1 : Int) < (z.length : Int) * n := (Int.ediv_lt_iff_lt_mul hn1).mp h4
    have h6 : ((z.length * n : Nat) : Int) = (z.length : Int) * n := Int.natCast_mul _ _
    omega
  · intro h1 h2
    rw [hlen]
    show decide (_ > sizeLine) = false
    exact decide_eq_false (by rw [Int.toNat_natCast]; omega)
  by_cases c : (n : Int) < 1
  · rw [if_pos c]
    have e : n = 0 := by omega
    subst e
    exact ⟨by decide, .str _, H, I.tok _, ⟨_, rfl⟩, q⟩
  · rw [if_neg c]
    by_cases c2 : ((n : Int) == 1 || (txt z).length == 0) = true
    · rw [if_pos c2]
      refine ⟨.str _, H, I, ⟨t, rfl⟩, ?_⟩
      rw [Bool.or_eq_true, beq_iff_eq, beq_iff_eq, hlen] at c2
      have : (List.replicate n z).flatten = z := by
        rcases c2 with c2 | c2
        · have e : n = 1 := by omega
          subst e
          simp
        · have e : z = [] := List.length_eq_zero_iff.mp c2
          subst e
          simp
      rw [this] at q
      exact q
    · rw [if_neg c2]
      have e : (⟨(List.replicate ((n : Int)).toNat (txt z).cps).foldl (· ++ ·) #[]⟩ : Str) = txt (List.replicate n z).flatten := by
        rw [Int.toNat_natCast]
        show Str.mk ((List.replicate n z.toArray).foldl (· ++ ·) #[]) = _
        rw [foldl_arr]
        unfold txt
        simp
      rw [e]
      refine ⟨?_, .str _, H, I.tok _, ⟨_, rfl⟩, q⟩
      rw [txt_len]
      simp only [List.length_flatten, List.map_replicate, List.sum_replicate_nat]
      rw [Nat.mul_comm]
      omega
theorem ee_mulS {pos : Pos} (h : EE X B M Δ a fun x Δ1 => EE X B M Δ1 b fun y Δ2 => ∃ (z : List Nat) (n : Nat), x = .str (txt z) ∧ y = .int n ∧ n ≤ sizeLine ∧ z.length * n ≤ sizeLine ∧ Φ (.str (txt (List.replicate n z).flatten)) Δ2) : EE X B M Δ (.BinOp a .Mult b pos) Φ :=
  ee_two (pe_op op_mulS pe_self pe_self) h fun x Δ1 y Δ2 p σ H v w Q S d1 d2 k => by
    obtain ⟨z, n, rfl, rfl, c1, c2, q⟩ := p
    cases d1; cases d2
    exact ⟨z, n, rfl, rfl, c1, c2, k _ _ _ H q (Fe.refl _ _) S (.str _)⟩
end
end Wf

set_option Elab.async false
set_option linter.all false
set_option maxRecDepth 100000
set_option maxHeartbeats 2000000
namespace Wf
open PySem PySem.Spec PyProof.Rows L2 LamX
theorem Dts.rep {K : PySem.W.Frag} {I : Hp} {xs : List V} {ts : List Tr} (h : Dts K I xs ts) : ∀ n : Nat, Dts K I (List.replicate n xs).flatten (List.replicate n ts).flatten
  | 0 => .nil
  | n + 1 => by
    rw [List.replicate_succ, List.replicate_succ, List.flatten_cons, List.flatten_cons]
    exact h.append (Dts.rep h n)
section
variable {X : Cx} {B : Bs} {M : Pl} {Δ : List En} {a b : Expr} {Φ : Tr → List En → Prop}
/-- a new list, several times -/
theorem eo_rep {pos : Pos} (h : EO X B M Δ a fun x Δ1 => EE X B M Δ1 b fun y Δ2 => ∃ ts k, x = .lst ts ∧ y = .int k ∧ -(2 ^ 63) ≤ k ∧ k < 2 ^ 63 ∧ ts.length * k.toNat ≤ sizeLine ∧ Φ (.lst (List.replicate k.toNat ts).flatten) Δ2) : EO X B M Δ (.BinOp a .Mult b pos) Φ := fun σ H S Q k =>
  PE.to (pe_op op_rep pe_self pe_self) (h σ H S _ fun x Δ1 l H1 p1 f1 hl S1 hn ow => by
    have nM := S.notM hl
    have nM0 : ¬ B.M0 l := fun z => nM (S.m0 l z)
    have nw : ¬ M.w l := fun z => nM (S.wm l z)
    have s2 : Sub (mi (ins M l).m H1) (mi M.m H1) := mi_le fun b z => .inl z
    have S1f := S1.freeze nM S.wm nM0 hn
    have ow' := ow.mono s2 fun _ _ z => z
    exact p1 σ H1 S1f _ fun y Δ2 w H2 p2 f2 S2 d2 => by
      obtain ⟨ts, n, rfl, rfl, b1, b2, b3, q⟩ := p2
      cases d2
      have ow2 := ow'.mono (S1f.sub f2) fun o nt z => f2.k _ o nw nt z
      obtain ⟨xs, e1, e2⟩ := ow2
      refine ⟨l, n, xs, rfl, rfl, e1, b1, b2, by rw [e2.length]; exact b3, fun p hp => ?_⟩
      have s := same_new (o := .lst (List.replicate n.toNat xs).flatten) hp
      obtain ⟨a1, a2, a3⟩ := S2.newOwn (t := .lst (List.replicate n.toNat ts).flatten) hp s ⟨_, upd_same, e2.rep n.toNat⟩
      exact k _ Δ2 p _ q ((f1.trans f2).trans (Fe.same s)) ((f1.trans f2).free (fun b z => S2.al b (S2.wm b z)) hp) a1 a2 a3)
end
end Wf

set_option Elab.async false
set_option linter.all false
set_option maxRecDepth 100000
set_option maxHeartbeats 2000000
namespace Wf
open PySem PySem.Spec PyProof.Rows L2 LamX
theorem dts_nats {K : PySem.W.Frag} {I : Hp} : ∀ {ks : List Nat} {xs : List V}, Dts K I xs (ks.map fun k : Nat => Tr.int k) → xs = ks.map fun k : Nat => V.int k
  | [], xs, h => by cases h; rfl
  | k :: ks, xs, h => by
    cases h with
    | cons a b =>
      cases a
      rw [dts_nats b]
      rfl
section
variable {X : Cx} {B : Bs} {M : Pl} {Δ : List En} {o e : Expr} {Φ : Tr → List En → Prop}
/-- xs.index(k), ints -/
theorem ee_lindex {apos pos : Pos} (h : EE X B M Δ o fun x Δ1 => ∃ ks : List Nat, x = .lst (ks.map fun k : Nat => Tr.int k) ∧ EA X B M Δ1 [e] fun ts Δ2 => ∃ k : Nat, ts = [.int k] ∧ k ∈ ks ∧ Φ (.int (ks.idxOf k : Nat)) Δ2)
    (hE : PE X (.Call (.Attribute o "index" apos) [e] [] pos) (tBM X.K "list" (rIndex X.K) (WE X o) (WA X [e])) := by
      exact pe_bm PySem.F.plainAttrs_list PySem.F.slot_list_index PySem.F.type_list_index mt_index pe_self pa_self) : EE X B M Δ (.Call (.Attribute o "index" apos) [e] [] pos) Φ := fun σ H S Q k =>
  PE.to hE (h σ H S _ fun x Δ1 v H1 p f S1 d => by
    obtain ⟨ks, rfl, p⟩ := p
    have d0 := d
    cases d with
    | lst g1 g2 =>
      refine ⟨.inl ⟨rfl, _, sub_seqL mi_sub g1⟩, p σ H1 S1 _ fun ts Δ2 vs H2 p2 f2 S2 d2 => ?_⟩
      obtain ⟨n, rfl, hn, q⟩ := p2
      cases d2 with
      | cons a b =>
        cases b; cases a
        have d3 := d0.mono (S1.sub f2)
        cases d3 with
        | lst g3 g4 =>
          have e1 := dts_nats g4
          have hlt := List.idxOf_lt_length_of_mem hn
          refine ⟨_, _, _, ks.idxOf n, .int (ks[ks.idxOf n] : Nat), rfl, rfl, sub_seqL mi_sub g3, rfl, ?_, ?_, ?_, fun m z' hm hz => ?_, k _ Δ2 _ H2 q (f.trans f2) S2 (.int _)⟩
          · rw [e1, List.all_eq_true]
            intro y hy
            obtain ⟨j, _, rfl⟩ := List.mem_map.mp hy
            rfl
          · rw [e1, List.getElem?_map, List.getElem?_eq_getElem hlt]
            rfl
          · rw [List.getElem_idxOf hlt]
            show decide _ = true
            simp
          · rw [e1, List.getElem?_map] at hz
            have hm2 : m < ks.length := by omega
            rw [List.getElem?_eq_getElem hm2] at hz
            injection hz with hz
            subst hz
            show decide _ = false
            refine decide_eq_false fun h => ?_
            have h' : ks[m] = n := by omega
            exact absurd (List.not_of_lt_findIdx (p := (· == n)) (by unfold List.idxOf at hm; exact hm)) (by simp [h']))
end
end Wf

set_option Elab.async false
set_option linter.all false
set_option maxRecDepth 100000
set_option maxHeartbeats 2000000
namespace Wf
open PySem PySem.Spec PyProof.Rows L2 LamX
theorem Dts.setAt {K : PySem.W.Frag} {I : Hp} {v : V} {t : Tr} (d : Dt K I v t) : ∀ {xs : List V} {ts : List Tr}, Dts K I xs ts → ∀ j, Dts K I (xs.set j v) (ts.set j t)
  | _, _, .nil, _ => .nil
  | _, _, .cons a b, 0 => .cons d b
  | _, _, .cons a b, j + 1 => .cons a (Dts.setAt d b j)
section
variable {X : Cx} {B : Bs} {M : Pl} {Δ : List En} {e1 e2 rhs : Expr} {Ψ : Eo}
/-- xs[i], xs[j] = a, b on an owned list -/
theorem s_set2 (i : Nat) {x : Str} {px py p1 p2 pt pos : Pos} {kt : Nat} {l : Addr} (hc : X.calm = true) (hN : X.N[i]? = some x)
    (h : EE X B M Δ rhs fun t Δ1 => ∃ u w ts0, t = .tup [u, w] ∧ Δ1[i]? = some (.own l (.lst ts0)) ∧ EE X B M Δ1 e1 fun k1 Δ2 => ∃ ts j1 z1, Δ2[i]? = some (.own l (.lst ts)) ∧ k1 = .int z1 ∧ ixN ts.length z1 = some j1 ∧
      EE X B M (Δ2.set i (.own l (.lst (ts.set j1 u)))) e2 fun k2 Δ3 => ∃ ts' j2 z2, Δ3[i]? = some (.own l (.lst ts')) ∧ k2 = .int z2 ∧ ixN ts'.length z2 = some j2 ∧ Ψ.nx M (Δ3.set i (.own l (.lst (ts'.set j2 w)))))
    (hE : PS X (.Assign [.Tuple [.Subscript (.Name x px) e1 p1, .Subscript (.Name x py) e2 p2] kt pt] rhs pos) (tAsg (WE X rhs) (gTup X.K 2 (gCons (gSub (tVar i) (WE X e1) rSetL) (gCons (gSub (tVar i) (WE X e2) rSetL) gNil))))) :
    S1 X B M Δ (.Assign [.Tuple [.Subscript (.Name x px) e1 p1, .Subscript (.Name x py) e2 p2] kt pt] rhs pos) Ψ := fun σ H S D p =>
  PS.to hE (h σ H S _ fun t Δ1 v H1 q f S1 d => by
    obtain ⟨u, w, ts0, rfl, g0, q⟩ := q
    cases d with
    | tup g1 g2 =>
      cases g2 with
      | cons d1 g3 =>
        cases g3 with
        | cons d2 g4 =>
          cases g4
          obtain ⟨a1, _⟩ := S1.ownAt g0
          refine ⟨_, _, rfl, sub_seqT mi_sub g1, rfl, _, _, rfl, ⟨_, a1, q σ H1 S1 _ fun k1 Δ2 v1 H2 q2 f2 S2 dk => ?_⟩⟩
          obtain ⟨ts, j1, z1, b1, rfl, b2, q3⟩ := q2
          cases dk
          obtain ⟨c1, _, _, _, xs, c2, c3⟩ := S2.ownAt b1
          have dd1 := d1.mono (S1.sub f2)
          have dd2 := d2.mono (S1.sub f2)
          have ea := a1.symm.trans c1
          injection ea with ea
          injection ea with ea
          refine ⟨l, xs, z1, j1, ea, rfl, c2, by rw [c3.length]; exact b2, ?_⟩
          obtain ⟨S3, s3⟩ := S2.write (o := .lst (xs.set j1 _)) (t' := .lst (ts.set j1 u)) b1 ⟨_, upd_same, Dts.setAt dd1 c3 j1⟩
          have hi2 : i < Δ2.length := (List.getElem?_eq_some_iff.mp b1).1
          obtain ⟨a4, _⟩ := S3.ownAt (i := i) (by rw [List.getElem?_set_self hi2])
          refine ⟨_, _, rfl, ⟨_, a4, q3 σ _ S3 _ fun k2 Δ3 v2 H4 q4 f4 S4 dk2 => ?_⟩⟩
          obtain ⟨ts', j2, z2, b3, rfl, b4, q5⟩ := q4
          cases dk2
          obtain ⟨c4, _, _, _, xs', c5, c6⟩ := S4.ownAt b3
          refine ⟨l, xs', z2, j2, rfl, rfl, c5, by rw [c6.length]; exact b4, rfl, ?_⟩
          obtain ⟨S5, s5⟩ := S4.write (o := .lst (xs'.set j2 _)) (t' := .lst (ts'.set j2 w)) b3 ⟨_, upd_same, Dts.setAt ((dd2.mono s3).mono (S3.sub f4)) c6 j2⟩
          exact p.nx M _ σ _ q5 ((((S.sub f).trans (S1.sub f2)).trans s3).trans ((S3.sub f4).trans s5)) S5)
end
end Wf

set_option Elab.async false
set_option linter.all false
set_option maxRecDepth 100000
set_option maxHeartbeats 2000000
namespace Wf
open PySem PySem.Spec PyProof.Rows L2 LamX
section
variable {X : Cx} {B : Bs} {M : Pl} {Δ : List En} {a b : Expr} {Φ : Tr → List En → Prop}
theorem eo_listRange2 {p q pos pos2 : Pos} (hc : X.calm = true) (hg : Gl X "list") (hm : X.mg "list" = none) (hg2 : Gl X "range") (hm2 : X.mg "range" = none) (h : EE X B M Δ a fun t Δ1 => EE X B M Δ1 b fun u Δ2 => ∃ i n : Int, t = .int i ∧ u = .int n ∧ 0 ≤ i ∧ i ≤ n ∧ n ≤ 16777216 ∧ Φ (.lst ((List.range (n - i).toNat).map fun k : Nat => Tr.int (i + k))) Δ2)
    (na : starEach [a, b] X.env = (false, eval a X.env) :: starEach [b] X.env := by rfl) (nb : starEach [b] X.env = (false, eval b X.env) :: starEach [] X.env := by rfl) (hp : (backTo pos2 (starEach [b] X.env)).any (·.1) = false := by rfl)
    (na2 : starEach [.Call (.Name "range" q) [a, b] [] pos2] X.env = (false, eval (.Call (.Name "range" q) [a, b] [] pos2) X.env) :: starEach [] X.env := by rfl) : EO X B M Δ (.Call (.Name "list" p) [.Call (.Name "range" q) [a, b] [] pos2] [] pos) Φ := fun σ H S Q k =>
  PE.to (pe_listRg hc hg hm (prg_2 hg2 hm2 pe_self pe_self na nb hp) na2) (h σ H S _ fun t Δ1 v H1 p0 f0 S1 d0 => p0 σ H1 S1 _ fun u Δ2 v2 H2 p f S2 d => by
    obtain ⟨i, n, rfl, rfl, h0, h1, h2, q⟩ := p
    cases d
    cases d0
    refine ⟨i, n, rfl, rfl, .of_le h0 h2 (by omega) (by omega), fun l hl => ?_⟩
    have s := same_new (o := .lst (rgV i n)) hl
    obtain ⟨a1, a2, a3⟩ := S2.newOwn (t := .lst ((List.range (n - i).toNat).map fun k : Nat => Tr.int (i + k))) hl s ⟨_, upd_same, rg_dts i n⟩
    exact k _ Δ2 l _ q ((f0.trans f).trans (Fe.same s)) ((f0.trans f).free (fun b z => S2.al b (S2.wm b z)) hl) a1 a2 a3)
end
end Wf

set_option Elab.async false
set_option linter.all false
set_option maxRecDepth 100000
set_option maxHeartbeats 2000000
namespace PySem
open Sem (wp)
section
variable {M : Model} {A : Around} {R : GenEnd} {Y : Protocol} {n : Nat} {s₀ : Shared} {c : Code} {fs : List Frame} {s : Shared} {env : Env}
  {K : Flow → Sem Fin} {H : Value → Sem Fin} {gd : Bool → Bool} {lv : List Value → List Value}
/-- if, in a generator -/
theorem wf_seg_If {test : Expr} {body orelse : List Stmt} {pos : Pos}
    (h : wpAny M (A.over c fs) (isTrue test env (eval test env)) (fun b s' => if b = true then Seg M A R Y n s₀ c ((execs body env).wrap K H gd lv) fs s' else Seg M A R Y n s₀ c ((execs orelse env).wrap K H gd lv) fs s') (fun x s' => Seg M A R Y n s₀ c (H x) fs s') s) :
    Seg M A R Y n s₀ c ((exec (.If test body orelse pos) env).wrap K H gd lv) fs s := by
  rw [arm_exec_If]
  show Seg M A R Y n s₀ c (.at pos fun _ => ((isTrue test env (eval test env)) >>= fun b => if b = true then execs body env else execs orelse env).wrap K H gd lv) fs s
  refine seg_at (seg_bind_wrap (wpAny_mono h (fun b s' hb => ?_) fun _ _ x => x))
  cases b with
  | true => exact hb
  | false => exact hb
/-- for, in a generator: up to its loop -/
theorem wf_seg_For {target iter : Expr} {body orelse : List Stmt} {pos : Pos} (hs : ∀ x, foldedSetIterable iter env x = pure x)
    (h : wpAny M (A.over c fs) (eval iter env) (fun x s1 => wpAny M (A.over c fs) (pyIter x) (fun it s2 => ∀ p, Seg M A R Y n s₀ (.forLoop target it body orelse env) (M.den (.forLoop target it body orelse env))
      (.ret (fun r => ((match r with | .ok f => (.pure f : Sem Flow) | .error e => .raise e).onRaise fun (x : Value) => do
        if (← field x 1) == Value.none then unsupported "frame.own-activation:exception-without-traceback"
        setFlight x env.frame).wrap K H gd lv) none (gd false) (lv []) c p [] :: fs) s2) (fun x s' => Seg M A R Y n s₀ c (H x) fs s') s1) (fun x s' => Seg M A R Y n s₀ c (H x) fs s') s) :
    Seg M A R Y n s₀ c ((exec (.For target iter body orelse pos) env).wrap K H gd lv) fs s := by
  rw [arm_exec_For]
  refine seg_bind_wrap (wpAny_standAt (seg_bind_wrap (wpAny_mono h (fun x s1 h1 => ?_) fun _ _ x => x)))
  refine seg_bind_wrap (wpAny_of_eq (hs x) ?_)
  refine seg_bind_wrap (wpAny_standAt (seg_bind_wrap (wpAny_holding (wpAny_mono h1 (fun it s2 h2 => ?_) fun _ _ x => x))))
  exact seg_call h2
end
section
variable {prog : Program} {w : World} {A : Around} {R : GenEnd} {Y : Protocol} {n : Nat} {s₀ : Shared} {fs : List Frame} {s : Shared} {env : Env}
/-- a turn of the loop -/
theorem wf_seg_forLoop {target : Expr} {it : Value} {body : List Stmt}
    (h : wpAny (model prog w) (A.over (.forLoop target it body [] env) fs) (pyNext it) (fun r s1 => match r with
        | none => Seg (model prog w) A R Y n s₀ (.block [] env) (.pure (.done .next)) fs s1
        | some v => wpAny (model prog w) (A.over (.forLoop target it body [] env) fs) (letOwnedTupleGo target it v) (fun _ s2 => wpAny (model prog w) (A.over (.forLoop target it body [] env) fs) (assign target env v) (fun _ s3 =>
            Seg (model prog w) A R Y n s₀ (.forLoop target it body [] env) ((execs body env).wrap (fun f => match f with
              | .next | .cont => .pure (.again (.forLoop target it body [] env))
              | .brk => .pure (.done .next)
              | .ret v => .pure (.done (.ret v))) (fun e => (do noteFrame e env; theTreesLotGoes e : Sem Unit).wrap (fun _ => .raise e) .raise id id) id id) fs s3)
            (fun x s' => Seg (model prog w) A R Y n s₀ (.forLoop target it body [] env) ((do noteFrame x env; theTreesLotGoes x : Sem Unit).wrap (fun _ => .raise x) .raise id id) fs s') s2)
          (fun x s' => Seg (model prog w) A R Y n s₀ (.forLoop target it body [] env) ((do noteFrame x env; theTreesLotGoes x : Sem Unit).wrap (fun _ => .raise x) .raise id id) fs s') s1)
      (fun x s' => Seg (model prog w) A R Y n s₀ (.forLoop target it body [] env) ((do noteFrame x env; theTreesLotGoes x : Sem Unit).wrap (fun _ => .raise x) .raise id id) fs s') s) :
    Seg (model prog w) A R Y n s₀ (.forLoop target it body [] env) ((model prog w).den (.forLoop target it body [] env)) fs s := by
  show Seg _ A R Y n s₀ _ ((forTurn target it body [] env).onRaise (fun x => do noteFrame x env; theTreesLotGoes x)) fs s
  unfold forTurn
  rw [Sem.onRaise_eq_wrap]
  have exc : ∀ (e : Value), ((do noteFrame e env; theTreesLotGoes e : Sem Unit) >>= fun _ => (Sem.raise e : Sem Fin)) = (do noteFrame e env; theTreesLotGoes e : Sem Unit).wrap (fun _ => .raise e) .raise id id := fun e => by
    rw [Sem.bind_eq_wrap']
  refine seg_bind_wrap (wpAny_standAt ?_)
  refine seg_bind_wrap (wpAny_onRaise (wpAny_mono h (fun r s1 h1 => ?_) fun x s1 h1 => wpAny_standAt ?_))
  · cases r with
    | none =>
      refine seg_again rfl ?_
      show Seg _ A R Y n s₀ _ (do return Fin.done (← (execs [] env).onRaise (fun x => do noteFrame x env; theTreesLotGoes x))) fs s1
      exact h1
    | some v =>
      refine seg_bind_wrap (wpAny_mono h1 (fun _ s2 h2 => ?_) fun x s2 h2 => ?_)
      · refine seg_bind_wrap (wpAny_mono h2 (fun _ s3 h3 => ?_) fun x s3 h3 => ?_)
        · rw [Sem.bind_eq_wrap', Sem.wrap_wrap]
          rw [Sem.wrap_congr (execs body env) _ _ (K' := fun f => match f with
            | .next | .cont => .pure (.again (.forLoop target it body [] env))
            | .brk => .pure (.done .next)
            | .ret v => .pure (.done (.ret v))) (H' := (fun e => (do noteFrame e env; theTreesLotGoes e : Sem Unit).wrap (fun _ => .raise e) .raise id id))
            (fun f => by cases f <;> rfl) (fun e => by rw [← exc]; rfl)]
          exact h3
        · rw [← exc] at h3; exact h3
      · rw [← exc] at h2; exact h2
  · rw [← exc] at h1; exact h1
end
end PySem
namespace Wf
open PySem PySem.Spec PyProof.Rows L2 LamX GenW
section
variable {X : Cx}
def tGIf (c : TT) (tb to : TGn) : TGn := fun D ys σ H => c σ H fun b H1 => if b = true then tb D ys σ H1 else to D ys σ H1
theorem gs_if {test : Expr} {body orelse : List Stmt} {pos : Pos} {tc : TT} {tb to : TGn} (hc : PT X test tc) (hb : GSs X body tb) (ho : GSs X orelse to) : GS X (.If test body orelse pos) (tGIf tc tb to) := by
  refine ⟨fun A S ip R n ys s₀ c fs K J gd lv s σ H D g hn k hI ht => ?_⟩
  obtain ⟨acc, cc, r, I⟩ := hI
  refine wf_seg_If ?_
  rw [g.over]
  refine wpAny_mono (hc.run _ s σ H _ I ht) (fun b s' hb' => ?_) fun x s' hx => k.exc n s₀ x s' hx
  obtain ⟨H2, I2, q2⟩ := hb'
  cases b with
  | true =>
    rw [if_pos rfl] at q2 ⊢
    exact hb.run A S ip R n ys s₀ c fs K J gd lv s' σ H2 D g hn k ⟨acc, cc, r, I2⟩ q2
  | false =>
    rw [if_neg Bool.false_ne_true] at q2 ⊢
    exact ho.run A S ip R n ys s₀ c fs K J gd lv s' σ H2 D g hn k ⟨acc, cc, r, I2⟩ q2
def tGFor (wi : TI) (g : TG) (tb : TGn) : TGn := fun D ys σ H => wi σ H fun J H1 => ∃ W : Nat → Nat → List V → L2.St → Hp → Prop, (∃ m, W 0 m ys σ H1) ∧ ∀ i m ys σ H, W i m ys σ H →
  (J.stop i H ∧ D.nx ys σ H) ∨ (J.go i H ∧ ∃ N : List V → L2.St → Hp → Prop, (∀ ys' σ' H', N ys' σ' H' → ∃ m', m' < m ∧ W (i + 1) m' ys' σ' H') ∧ ∀ x H', J.yld i H x H' → g x σ H' fun σ2 H2 => tb { D with nx := N, ct := N, bk := D.nx } ys σ2 H2)
theorem gc_pins {S : Addr} {ip pl : List (Addr × Obj)} {A : Around} {c : Code} {fs : List Frame} {gd : Bool → Bool} (g : GC X S ip A c fs gd) (h : ∀ p ∈ pl, p.1 ≠ S) : GC X S (ip ++ pl) A c fs gd :=
  { g with ip := fun p hp => (List.mem_append.mp hp).elim (g.ip p) (h p) }
theorem gs_for {tg iter : Expr} {body : List Stmt} {wi : TI} {gt : TG} {tb : TGn} {pos : Pos} (hp : PassesOwn (model X.prog X.w) X.A X.env X.xe) (hc : X.calm = true) (hi : PI X tg iter wi) (hg : PG X tg gt) (hb : GSs X body tb)
    (hs : ∀ x, foldedSetIterable iter X.env x = pure x := by intro _; rfl) : GS X (.For tg iter body [] pos) (tGFor wi gt tb) := by
  refine ⟨fun A S ip R n ys s₀ c fs K J gd lv s σ H D g hn k hI ht => ?_⟩
  obtain ⟨acc0, cc0, r0, I0⟩ := hI
  refine wf_seg_For hs ?_
  rw [g.over]
  refine wpAny_mono (hi.run _ s σ H _ I0 ht) (fun v s1 h1 => wpAny_mono h1 (fun itv s2 h2 => ?_) fun x s' hx => k.exc n s₀ x s' hx) fun x s' hx => k.exc n s₀ x s' hx
  obtain ⟨it, fp, tn, Jt, H2, e, I2, T, st2, f2, W, ⟨m0, w0⟩, turn⟩ := h2
  subst e
  intro p
  have gl := fun (kk : Result → Sem PySem.Fin) => gc_loop (k := kk) (c' := .forLoop tg (.ref it) body [] X.env) (l := lv []) (kp := []) (p := p) g rfl rfl
  have fS : ∀ b ∈ fp, b ≠ S := fun b hb z => (f2 b hb).2.2.2.2.2 (S, lstObj acc0 cc0) (List.mem_append_right _ List.mem_cons_self) z.symm
  have stat : ∀ {H' : Hp} {acc : Array Value} {cc : Nat}, (∀ b ∈ fp, H' b = none) → ∀ b ∈ fp, FpOk X ((S, lstObj acc cc) :: ip) H' b := fun {H' acc cc} hn b hb => by
    obtain ⟨q0, q1, q2, q3, q4, q5⟩ := f2 b hb
    refine ⟨hn b hb, q1, q2, q3, q4, fun p hp => ?_⟩
    rcases List.mem_append.mp hp with hp | hp
    · exact q5 p (List.mem_append_left _ hp)
    · rcases List.mem_cons.mp hp with rfl | hp
      · exact fun z => fS b hb z.symm
      · exact q5 p (List.mem_append_right _ (List.mem_cons_of_mem _ hp))
  have ee : ∀ (n : Nat) (s₀ : Shared) (x : Value) (s' : Shared), X.xe x s' → Seg (model X.prog X.w) A R (GY X S) n s₀ (.forLoop tg (.ref it) body [] X.env)
      ((do noteFrame x X.env; theTreesLotGoes x : Sem Unit).wrap (fun _ => .raise x) .raise id id)
      (.ret (fun r => ((match r with | .ok f => (.pure f : Sem Flow) | .error e => .raise e).onRaise (cameBack X.env)).wrap K J gd lv) none (gd false) (lv []) c p [] :: fs) s' := fun n s₀ x s' hx => by
    refine seg_wrap ?_
    rw [(gl _).over]
    refine wpAny_bind (wpAny_mono (hp x s' hx) (fun _ s'' hcb => wpAny_theTreesLotGoes ?_) fun y s'' hcb => ?_)
    · exact seg_leaf (.error x) (seg_cameBack g k hcb)
    · exact seg_leaf (.error y) (seg_cameBack g k hcb)
  have loop : ∀ (m i n : Nat) (ys : List V) (s₀ s : Shared) (σ : L2.St) (H : Hp), n + ys.length = sizeLine → W i m ys σ H → GI X S ip ys σ H s → tn i s.heap → (∀ b ∈ fp, H b = none) →
      Seg (model X.prog X.w) A R (GY X S) n s₀ (.forLoop tg (.ref it) body [] X.env) ((model X.prog X.w).den (.forLoop tg (.ref it) body [] X.env))
        (.ret (fun r => ((match r with | .ok f => (.pure f : Sem Flow) | .error e => .raise e).onRaise (cameBack X.env)).wrap K J gd lv) none (gd false) (lv []) c p [] :: fs) s := by
    intro m
    induction m using Nat.strongRecOn with
    | ind m ih =>
      intro i n ys s₀ s3 σ3 H3 hn w3 hI st3 fr3
      obtain ⟨acc, cc, r, I3⟩ := hI
      refine wf_seg_forLoop ?_
      rw [(gl _).over]
      rcases turn i m ys σ3 H3 w3 with ⟨stop, qn⟩ | ⟨go, N, hN, step⟩
      · refine wpAny_mono (T.done X rfl rfl rfl hc i _ s3 σ3 H3 X.xe I3 (stat fr3) st3 stop) (fun r s4 ⟨hr, I4⟩ => ?_) fun x s' hx => ee n s₀ x s' hx
        subst hr
        exact seg_leaf (.ok .next) (k.ok n ys s₀ s4 .next hn ⟨σ3, H3, ⟨acc, cc, by assumption, I4⟩, qn⟩)
      · refine wpAny_mono (T.item X rfl rfl rfl hc i _ s3 σ3 H3 X.xe I3 (stat fr3) st3 go) (fun r s4 ⟨u, hr, h4⟩ => ?_) fun x s' hx => ee n s₀ x s' hx
        subst hr
        refine wpAny_mono h4 (fun _ s5 ⟨x, H5, I5, r5, y5, st5, fr5⟩ => ?_) fun x s' hx => ee n s₀ x s' hx
        have I5' := I5.pinned (stat fr5) (T.obj _ _ st5)
        refine wpAny_mono (hg.run _ s5 σ3 H5 x u _ I5' r5 (step x H5 y5)) (fun _ s6 ⟨σ6, H6, I6, q6⟩ => ?_) fun x s' hx => ee n s₀ x s' hx
        refine hb.run A S (ip ++ pinsAt fp s5.heap) R n ys s₀ _ _ _ _ id id s6 σ6 H6 { D with nx := N, ct := N, bk := D.nx } (gc_pins (gl _) fun p hp => fS _ (of_pinsAt hp).1) hn ⟨fun n' ys' s₀' s7 f hn' hs => ?_, fun n' s₀' x s3 hx => ee n' s₀' x s3 hx⟩ ⟨acc, cc, by assumption, I6⟩ q6
        have back : ∀ {σ7 : L2.St} {H7 : Hp}, GI X S (ip ++ pinsAt fp s5.heap) ys' σ7 H7 s7 → GI X S ip ys' σ7 H7 s7 := fun {σ7 H7} ⟨a, b, r, I7⟩ => ⟨a, b, r, (show Inv X (((S, lstObj a b) :: ip) ++ pinsAt fp s5.heap) σ7 H7 s7 from I7).unpinned⟩
        have again : ∀ {σ7 : L2.St} {H7 : Hp}, GI X S (ip ++ pinsAt fp s5.heap) ys' σ7 H7 s7 → N ys' σ7 H7 → Seg (model X.prog X.w) A R (GY X S) n' s₀' (.forLoop tg (.ref it) body [] X.env) (.pure (.again (.forLoop tg (.ref it) body [] X.env)))
            (.ret (fun r => ((match r with | .ok f => (.pure f : Sem Flow) | .error e => .raise e).onRaise (cameBack X.env)).wrap K J gd lv) none (gd false) (lv []) c p [] :: fs) s7 := fun {σ7 H7} G7 n7 => by
          obtain ⟨m', hm, w7⟩ := hN ys' σ7 H7 n7
          obtain ⟨a7, b7, r7, I7⟩ := G7
          have pin := fun (b : Addr) (o : Obj) (hb : b ∈ fp) (e : s5.heap.get? b = some o) => I7.pin (b, o) (List.mem_append_right _ (List.mem_cons_of_mem _ (List.mem_append_right _ (mem_pinsAt hb e))))
          refine seg_again rfl (ih m' hm (i + 1) n' ys' s₀' s7 σ7 H7 hn' w7 (back ⟨a7, b7, r7, I7⟩) (T.keep _ _ _ st5 fun b hb o e => (pin b o hb e).1) fun b hb => ?_)
          obtain ⟨o, e, d⟩ := T.obj _ _ st5 b hb
          exact (pin b o hb e).2.1
        cases f with
        | next =>
          obtain ⟨σ7, H7, G7, n7⟩ := hs
          exact again G7 n7
        | cont =>
          obtain ⟨σ7, H7, G7, n7⟩ := hs
          exact again G7 n7
        | brk =>
          obtain ⟨σ7, H7, G7, q7⟩ := hs
          exact seg_leaf (.ok .next) (k.ok n' ys' s₀' s7 .next hn' ⟨σ7, H7, back G7, q7⟩)
        | ret v =>
          obtain ⟨x7, σ7, H7, G7, r7, q7⟩ := hs
          exact seg_leaf (.ok (.ret v)) (k.ok n' ys' s₀' s7 (.ret v) hn' ⟨x7, σ7, H7, back G7, r7, q7⟩)
  exact loop m0 0 n ys s₀ s2 σ H2 hn w0 ⟨acc0, cc0, r0, I2⟩ st2 fun b hb => (f2 b hb).1
end
end Wf

set_option Elab.async false
set_option linter.all false
set_option maxRecDepth 100000
set_option maxHeartbeats 2000000
namespace Wf
open PySem PySem.Spec PyProof.Rows L2 LamX GenW
/-! ### generator defs by data -/
structure Go where
  nx : Pl → List En → List Tr → Prop
  rt : List Tr → Prop
  bk : Pl → List En → List Tr → Prop := fun _ _ _ => False
  ct : Pl → List En → List Tr → Prop := fun _ _ _ => False
structure GPost (K : PySem.W.Frag) (B : Bs) (M : Pl) (H : Hp) (D : GEnds) (Ψ : Go) : Prop where
  nx : ∀ M' Δ' acc ys σ' H', Ψ.nx M' Δ' acc → Sub (mi M.m H) (mi M'.m H') → Sk K B M' H' σ' Δ' → Dts K (mi M'.m H') ys acc → D.nx ys σ' H'
  rt : ∀ M' Δ' acc ys σ' H', Ψ.rt acc → Sub (mi M.m H) (mi M'.m H') → Sk K B M' H' σ' Δ' → Dts K (mi M'.m H') ys acc → D.rt ys .non H'
  bk : ∀ M' Δ' acc ys σ' H', Ψ.bk M' Δ' acc → Sub (mi M.m H) (mi M'.m H') → Sk K B M' H' σ' Δ' → Dts K (mi M'.m H') ys acc → D.bk ys σ' H'
  ct : ∀ M' Δ' acc ys σ' H', Ψ.ct M' Δ' acc → Sub (mi M.m H) (mi M'.m H') → Sk K B M' H' σ' Δ' → Dts K (mi M'.m H') ys acc → D.ct ys σ' H'
theorem GPost.sub {K : PySem.W.Frag} {B : Bs} {M M1 : Pl} {H H1 : Hp} {D : GEnds} {Ψ : Go} (p : GPost K B M H D Ψ) (s : Sub (mi M.m H) (mi M1.m H1)) : GPost K B M1 H1 D Ψ :=
  ⟨fun M' Δ' acc ys σ' H' a b c d => p.nx M' Δ' acc ys σ' H' a (s.trans b) c d, fun M' Δ' acc ys σ' H' a b c d => p.rt M' Δ' acc ys σ' H' a (s.trans b) c d, fun M' Δ' acc ys σ' H' a b c d => p.bk M' Δ' acc ys σ' H' a (s.trans b) c d, fun M' Δ' acc ys σ' H' a b c d => p.ct M' Δ' acc ys σ' H' a (s.trans b) c d⟩
def WGs (X : Cx) (ss : List Stmt) : TGn := fun D ys σ H => ∀ (A : Around) (S : Addr) (ip : List (Addr × Obj)) (R : GenEnd) (n : Nat) (s₀ : Shared) (c : Code) (fs : List Frame) (K : Flow → Sem PySem.Fin) (J : Value → Sem PySem.Fin) (gd : Bool → Bool) (lv : List Value → List Value) (s : Shared),
    GC X S ip A c fs gd → n + ys.length = sizeLine → GK X S ip A R c fs K J D → GI X S ip ys σ H s → Seg (model X.prog X.w) A R (GY X S) n s₀ c ((execs ss X.env).wrap K J gd lv) fs s
def WG1 (X : Cx) (st : Stmt) : TGn := fun D ys σ H => ∀ (A : Around) (S : Addr) (ip : List (Addr × Obj)) (R : GenEnd) (n : Nat) (s₀ : Shared) (c : Code) (fs : List Frame) (K : Flow → Sem PySem.Fin) (J : Value → Sem PySem.Fin) (gd : Bool → Bool) (lv : List Value → List Value) (s : Shared),
    GC X S ip A c fs gd → n + ys.length = sizeLine → GK X S ip A R c fs K J D → GI X S ip ys σ H s → Seg (model X.prog X.w) A R (GY X S) n s₀ c ((exec st X.env).wrap K J gd lv) fs s
section
variable {X : Cx} {ss : List Stmt} {st : Stmt}
theorem gss_self : GSs X ss (WGs X ss) := ⟨fun A S ip R n ys s₀ c fs K J gd lv s σ H D g hn k hI ht => ht A S ip R n s₀ c fs K J gd lv s g hn k hI⟩
theorem gs_self : GS X st (WG1 X st) := ⟨fun A S ip R n ys s₀ c fs K J gd lv s σ H D g hn k hI ht => ht A S ip R n s₀ c fs K J gd lv s g hn k hI⟩
theorem GSs.to {t : TGn} (h : GSs X ss t) {D : GEnds} {ys : List V} {σ : L2.St} {H : Hp} (q : t D ys σ H) : WGs X ss D ys σ H := fun A S ip R n s₀ c fs K J gd lv s g hn k hI => h.run A S ip R n ys s₀ c fs K J gd lv s σ H D g hn k hI q
theorem GS.to {t : TGn} (h : GS X st t) {D : GEnds} {ys : List V} {σ : L2.St} {H : Hp} (q : t D ys σ H) : WG1 X st D ys σ H := fun A S ip R n s₀ c fs K J gd lv s g hn k hI => h.run A S ip R n ys s₀ c fs K J gd lv s σ H D g hn k hI q
end
def GG (X : Cx) (B : Bs) (M : Pl) (Δ : List En) (acc : List Tr) (ss : List Stmt) (Ψ : Go) : Prop := ∀ σ H ys, Sk X.K B M H σ Δ → Dts X.K (mi M.m H) ys acc → ∀ D : GEnds, GPost X.K B M H D Ψ → WGs X ss D ys σ H
def G1 (X : Cx) (B : Bs) (M : Pl) (Δ : List En) (acc : List Tr) (st : Stmt) (Ψ : Go) : Prop := ∀ σ H ys, Sk X.K B M H σ Δ → Dts X.K (mi M.m H) ys acc → ∀ D : GEnds, GPost X.K B M H D Ψ → WG1 X st D ys σ H
section
variable {X : Cx} {B : Bs} {M : Pl} {Δ : List En} {acc : List Tr} {e c tg iter : Expr} {es : List Expr} {Ψ : Go} {st : Stmt} {ss body orelse : List Stmt} {pos yp : Pos}
theorem gg_nil (h : Ψ.nx M Δ acc) : GG X B M Δ acc [] Ψ := fun σ H ys S d D p => GSs.to gss_nil (p.nx M Δ acc ys σ H h (Sub.refl _) S d)
theorem gg_cons (h : G1 X B M Δ acc st { Ψ with nx := fun M1 Δ1 acc1 => GG X B M1 Δ1 acc1 ss Ψ }) : GG X B M Δ acc (st :: ss) Ψ := fun σ H ys S d D p =>
  GSs.to (gss_cons gs_self gss_self) (h σ H ys S d { D with nx := fun ys' σ' H' => WGs X ss D ys' σ' H' } ⟨fun M1 Δ1 acc1 ys1 σ1 H1 q s S1 d1 => q σ1 H1 ys1 S1 d1 D (p.sub s), p.rt, p.bk, p.ct⟩)
theorem gg_one (h : G1 X B M Δ acc st Ψ) : GG X B M Δ acc [st] Ψ := gg_cons (fun σ H ys S d D p => h σ H ys S d D ⟨fun M1 Δ1 acc1 ys1 σ1 H1 q s S1 d1 => p.nx M1 Δ1 acc1 ys1 σ1 H1 (gg_nil q) s S1 d1, p.rt, p.bk, p.ct⟩)
/-- a statement without yield -/
theorem g1_plain (h : S1 X B M Δ st { nx := fun M' Δ' => Ψ.nx M' Δ' acc, rt := fun t _ => t = .non ∧ Ψ.rt acc, bk := fun M' Δ' => Ψ.bk M' Δ' acc, ct := fun M' Δ' => Ψ.ct M' Δ' acc }) : G1 X B M Δ acc st Ψ := fun σ H ys S d D p =>
  GS.to (gs_ps ps_self) (h σ H S (D.at ys) ⟨fun M' Δ' σ' H' a b c => p.nx M' Δ' acc ys σ' H' a b c (d.mono b), fun t M' Δ' v σ' H' a b c dd => by
    obtain ⟨rfl, a⟩ := a
    cases dd
    exact p.rt M' Δ' acc ys σ' H' a b c (d.mono b), fun M' Δ' σ' H' a b c => p.bk M' Δ' acc ys σ' H' a b c (d.mono b), fun M' Δ' σ' H' a b c => p.ct M' Δ' acc ys σ' H' a b c (d.mono b)⟩)
theorem g1_yield (h : EE X B M Δ e fun t Δ1 => acc.length < sizeLine ∧ Ψ.nx M Δ1 (acc ++ [t])) (hlt : acc.length < sizeLine) (hco : X.env.scope.isCoroutine = false := by rfl) (hi : interactive X.env = false := by rfl) : G1 X B M Δ acc (.Expr (.Yield (some e) yp) pos) Ψ := fun σ H ys S d D p =>
  GS.to (gs_yield pe_self hco hi) ⟨by rw [d.length]; exact hlt, h σ H S _ fun t Δ1 v H1 q f S1 dd => p.nx M Δ1 (acc ++ [t]) (ys ++ [v]) σ H1 q.2 (S.sub f) S1 ((d.mono (S.sub f)).append (.cons dd .nil))⟩
theorem g1_if (h : ET X B M Δ c fun k Δ1 => (k = true → GG X B M Δ1 acc body Ψ) ∧ (k = false → GG X B M Δ1 acc orelse Ψ)) : G1 X B M Δ acc (.If c body orelse pos) Ψ := fun σ H ys S d D p =>
  GS.to (gs_if pt_self gss_self gss_self) (h σ H S _ fun k Δ1 H1 q f S1 => by
    cases k with
    | true => exact iteT (q.1 rfl σ H1 ys S1 (d.mono (S.sub f)) D (p.sub (S.sub f)))
    | false => exact iteF (q.2 rfl σ H1 ys S1 (d.mono (S.sub f)) D (p.sub (S.sub f))))
theorem gfor_it {J : It} {n : Nat} {G : Hp → Prop} {Y : Nat → Hp → V → Hp → Prop} (w : Walk J n G Y) {g : TG} {tb : TGn} {D : GEnds} {ys : List V} {σ : L2.St} {H : Hp} (Pv : Nat → List V → L2.St → Hp → Prop) (h0 : Pv 0 ys σ H) (hG : ∀ i ys σ H, i ≤ n → Pv i ys σ H → G H)
    (hs : ∀ i x ys σ H H', i < n → Pv i ys σ H → Y i H x H' → g x σ H' fun σ2 H2 => tb { D with nx := Pv (i + 1), ct := Pv (i + 1), bk := D.nx } ys σ2 H2) (hd : ∀ ys σ H, Pv n ys σ H → D.nx ys σ H) :
    ∃ W : Nat → Nat → List V → L2.St → Hp → Prop, (∃ m, W 0 m ys σ H) ∧ ∀ i m ys σ H, W i m ys σ H →
      (J.stop i H ∧ D.nx ys σ H) ∨ (J.go i H ∧ ∃ N : List V → L2.St → Hp → Prop, (∀ ys' σ' H', N ys' σ' H' → ∃ m', m' < m ∧ W (i + 1) m' ys' σ' H') ∧ ∀ x H', J.yld i H x H' → g x σ H' fun σ2 H2 => tb { D with nx := N, ct := N, bk := D.nx } ys σ2 H2) := by
  refine ⟨fun i m ys σ H => m = n - i ∧ i ≤ n ∧ Pv i ys σ H, ⟨n, by simp, Nat.zero_le _, h0⟩, ?_⟩
  rintro i m ys σ H ⟨rfl, hi, p⟩
  have q := hG i ys σ H hi p
  by_cases hlt : i < n
  · exact .inr ⟨w.goes i H hlt q, Pv (i + 1), fun ys' σ' H' p' => ⟨n - (i + 1), by omega, rfl, hlt, p'⟩, fun x H' y => hs i x ys σ H H' hlt p (w.yields i H x H' hlt q y)⟩
  · have e : i = n := by omega
    subst e
    exact .inl ⟨w.stops H q, hd ys σ H p⟩
theorem g1_for (T : Tg) (hp : PassesOwn (model X.prog X.w) X.A X.env X.xe) (hc : X.calm = true) (hg : PG X tg (T.g X.K))
    (h : EI X B M Δ tg iter fun n f Δ1 => ∃ Jv : Nat → Pl → List En → List Tr → Prop, Jv 0 M Δ1 acc ∧ (∀ i M' Δ' acc', i < n → Jv i M' Δ' acc' → T.ok (f i) ∧ GG X B M' (T.set Δ' (f i)) acc' body { nx := Jv (i + 1), rt := Ψ.rt, bk := Ψ.nx, ct := Jv (i + 1) }) ∧ ∀ M' Δ' acc', Jv n M' Δ' acc' → Ψ.nx M' Δ' acc')
    (hs : ∀ x, foldedSetIterable iter X.env x = pure x := by intro _; rfl) : G1 X B M Δ acc (.For tg iter body [] pos) Ψ := fun σ H ys S d D p => by
  obtain ⟨wi, hi, k⟩ := h
  refine GS.to (gs_for hp hc hi hg gss_self hs) (k σ H S _ fun n f Δ1 J G Y H1 q fe S1 w hG hY => ?_)
  obtain ⟨Jv, j0, jt, jd⟩ := q
  have s0 := S.sub fe
  refine gfor_it w (fun i ys' σ' H' => ∃ M' Δ' acc', Jv i M' Δ' acc' ∧ Sub (mi M.m H1) (mi M'.m H') ∧ Sk X.K B M' H' σ' Δ' ∧ Dts X.K (mi M'.m H') ys' acc') ⟨M, Δ1, acc, j0, Sub.refl _, S1, d.mono s0⟩ (fun i ys' σ' H' _ ⟨M', Δ', _, _, s, _⟩ => hG M'.m H' s) ?_ fun ys' σ' H' ⟨M', Δ', acc', j, s, S', d'⟩ => p.nx M' Δ' acc' ys' σ' H' (jd M' Δ' acc' j) (s0.trans s) S' d'
  rintro i x ys' σ' Ha Hb hi ⟨M', Δ', acc', j, s, S', d'⟩ y
  obtain ⟨sm, dx⟩ := hY i x Ha Hb M'.m hi y s fun p hp => S'.notM hp
  obtain ⟨ok, hb⟩ := jt i M' Δ' acc' hi j
  have Sb := S'.same sm
  have sab : Sub (mi M.m H1) (mi M'.m Hb) := s.trans (Sub.of sm).mi
  refine tg_run T Sb dx ok _ fun vs St => hb _ Hb ys' St (d'.mono (Sub.of sm).mi) _ ⟨fun M2 Δ2 a2 y2 σ2 H2 a b c d => ⟨M2, Δ2, a2, a, sab.trans b, c, d⟩, fun M2 Δ2 a2 y2 σ2 H2 a b c d => p.rt M2 Δ2 a2 y2 σ2 H2 a (s0.trans (sab.trans b)) c d, fun M2 Δ2 a2 y2 σ2 H2 a b c d => p.nx M2 Δ2 a2 y2 σ2 H2 a (s0.trans (sab.trans b)) c d, fun M2 Δ2 a2 y2 σ2 H2 a b c d => ⟨M2, Δ2, a2, a, sab.trans b, c, d⟩⟩
end
/-- a generator def that makes new objects at most -/
def spG (K : PySem.W.Frag) (T : List (Addr × Str)) (pre : List Tr → Prop) (post : List Tr → List Tr → Prop) : SpG := fun vs H Q _ => ∃ (m : Addr → Prop) (ts : List Tr), Dts K (mi m H) vs ts ∧ pre ts ∧ (∀ b, m b → ∃ o, H b = some o) ∧ Tabs T H ∧
  ∀ ys out H', post ts out → Fe (fun _ => False) H H' → Tabs T H' → Dts K (mi m H') ys out → Q ys H'
section
variable {P : Program} {w : World} {K : PySem.W.Frag} {mg : Str → Option Value} {base : Heap} {x qual : Str} {st : Stmt} {f : Addr} {fd : FuncData} {N ps : List Str} {k : Nat} {T : List (Addr × Str)} {pre : List Tr → Prop} {post : List Tr → List Tr → Prop}
theorem ok_G (F : Fun K x qual st f fd) (S : GScope N ps (defScope st)) (hpre : ∀ ts, pre ts → ts.length = ps.length) (hps : ps.length ≤ N.length)
    (hb : ∀ (cdv : Value) (A : Around) (outer : List Env) (s : Shared) (H : Hp) (E : XK) (pn : List (Addr × Obj)) (m : Addr → Prop) (ts : List Tr), Room k (A.deeper (envOfC qual (defScope st) s.heap.objs.size f cdv)) → pre ts →
      GG (gcxOf P w K mg base N qual (defScope st) f cdv A outer s H E pn) (bF T H m) ⟨m, fun _ => False⟩ (slots N (ts.map En.dat)) [] (defBody st) { nx := fun _ _ acc => post ts acc, rt := fun acc => post ts acc }) :
    GFn P w K mg base (k + 1) f fd ps (spG K T pre post) := by
  obtain ⟨oc, od, kV, doc, pm, an, cdv, ct, osl, rfl, lk, hcd⟩ := F.ex
  refine gfn_of lk hcd S (fun vs H Q E h => ?_) (fun A outer s H vs Q E pn hr h => ?_)
  · obtain ⟨m, ts, d, hp, _⟩ := h
    rw [d.length, hpre ts hp]
  · obtain ⟨m, ts, d, hp, al, tb, q⟩ := h
    have hlen : ts.length = ps.length := hpre ts hp
    have Sk0 : Sk K (bF T H m) ⟨m, fun _ => False⟩ H (L2.start N vs) (slots N (ts.map En.dat)) := by
      refine sk_start (by simp; omega) (by simp [d.length]) rfl (fun _ => Iff.rfl) (fun _ => Iff.rfl) (fun _ z => z.elim) al tb (fun i j e f l he _ el _ => ?_) fun i v e hv he => ?_
      · rw [List.getElem?_map] at he
        cases h : ts[i]? with
        | none => rw [h] at he; cases he
        | some t => rw [h] at he; cases he; cases el
      · rw [List.getElem?_map] at he
        cases h : ts[i]? with
        | none => rw [h] at he; cases he
        | some t =>
          rw [h] at he; cases he
          obtain ⟨v', h1, h2⟩ := d.get h
          rw [hv] at h1; cases h1
          exact h2
    refine ⟨_, gss_self, hb cdv A outer s H E pn m ts hr hp _ H [] Sk0 .nil _ ⟨fun M' Δ' acc ys σ' H' a b c dd => ?_, fun M' Δ' acc ys σ' H' a b c dd => ?_, fun _ _ _ _ _ _ z => z.elim, fun _ _ _ _ _ _ z => z.elim⟩⟩
    · exact q ys acc H' a c.fr c.tb (dd.mono (mi_le c.m0))
    · exact ⟨rfl, q ys acc H' a c.fr c.tb (dd.mono (mi_le c.m0))⟩
end
/-- a method that is a generator; a def that is one -/
structure Gt (P : Program) (w : World) (K : PySem.W.Frag) (mg : Str → Option Value) (base : Heap) (C : Addr) (m : Str) (k : Nat) (ps : List Str) (sp : SpG) : Prop where
  cl : Cls K C
  ex : ∃ f fd, GFn P w K mg base k f fd ps sp ∧ Meth K C m f ∧ Binds K fd ps []
structure Gd (P : Program) (w : World) (K : PySem.W.Frag) (mg : Str → Option Value) (base : Heap) (x : Str) (k : Nat) (ps : List Str) (sp : SpG) : Prop where
  ex : ∃ f fd, GFn P w K mg base k f fd ps sp ∧ mg x = some (.ref f) ∧ PySem.W.keepIn K (.ref f) = true ∧ Binds K fd ps []
section
variable {X : Cx} {B : Bs} {M : Pl} {Δ : List En} {e o : Expr} {es : List Expr} {Φ : Tr → List En → Prop} {k : Nat} {ps : List Str} {pre : List Tr → Prop} {post : List Tr → List Tr → Prop}
abbrev XF : XK := fun _ _ _ => False
theorem passF : Passes (L2.CX X.prog X.w) X XF := fun _ _ _ _ _ _ _ h => by
  obtain ⟨_, _, _, _, _, _, _, _, _, _, _, _, hE⟩ := h
  exact hE.elim
theorem noStopF {K : PySem.W.Frag} : NoStop K XF := fun _ _ _ h => h.elim
/-- list(o.m(e, ..)) -/
theorem eo_listGM {m : Str} {C : Addr} {p apos pos' pos : Pos} {pl : Sem Bool} (F : Gt X.prog X.w X.K X.mg X.base C m k ps (spG X.K B.T pre post)) (hr : Room (k + 3) X.A) (hg : Gl X "list") (hmg : X.mg "list" = none)
    (h : EE X B M Δ o fun x Δ1 => ∃ fs, x = .ins C fs ∧ fs.lookup m = none ∧ EA X B M Δ1 (e :: es) fun ts Δ2 => pre (.ins C fs :: ts) ∧ ∀ out, post (.ins C fs :: ts) out → Φ (.lst out) Δ2)
    (hst : starEach (e :: es) X.env = (false, eval e X.env) :: starEach es X.env := by rfl) (hpl : (backTo pos' (starEach es X.env)).any (·.1) = false := by rfl)
    (ht : eval (.Call (.Attribute o m apos) (e :: es) [] pos') X.env = (do
      let ov ← eval o X.env
      standAt apos.atName
      let (f, first) ← holding [ov] (getMethod ov m pl)
      callWith pos' f first (backTo pos' (starEach (e :: es) X.env)) (backToKw pos' (keywordEach [] X.env))) := by rfl)
    (hs1 : starEach [.Call (.Attribute o m apos) (e :: es) [] pos'] X.env = (false, eval (.Call (.Attribute o m apos) (e :: es) [] pos') X.env) :: starEach [] X.env := by rfl)
    (hv : bootBuiltins "list" = some (.type "list") := by decide +kernel) : EO X B M Δ (.Call (.Name "list" p) [.Call (.Attribute o m apos) (e :: es) [] pos'] [] pos) Φ := fun σ H S Q kk => by
  obtain ⟨f, fd, ok, hm, hb⟩ := F.ex
  refine PE.to (pe_listG (pgen_meth (E := XF) pe_self F.cl hm ok (hr.mono (by omega)) hb .nil pa_self hst hpl ht) passF noStopF hr hg hmg hv (he := hs1)) ?_
  refine h σ H S _ fun x Δ1 v H1 q fe S1 d => ?_
  obtain ⟨fs, rfl, q0, q1⟩ := q
  cases d with
  | ins h1 h2 =>
    refine ⟨_, _, _, rfl, (mi_some.mp h1).2, dfs_none h2 q0, q1 σ H1 S1 _ fun ts Δ2 vs H2 q2 f2 S2 d2 => ?_⟩
    rw [List.append_nil]
    refine ⟨M.m, _, .cons ((Dt.ins h1 h2).mono (S1.sub f2)) d2, q2.1, S2.al, S2.tb, fun ys out H3 hp f3 tb dd l hl => ?_⟩
    have S3 := S2.feGrow f3 tb
    obtain ⟨S4, hn, ow⟩ := S3.newOwn (t := .lst out) hl (same_new hl) ⟨ys, upd_same, dd⟩
    have f13 : Fe M.w H H3 := (fe.trans f2).trans (f3.imp fun _ _ _ z => z.elim)
    exact kk (.lst out) Δ2 l _ (q2.2 out hp) (f13.trans (Fe.same (same_new hl))) (f13.free (fun b z => S3.al b (S3.wm b z)) hl) S4 hn ow
/-- list(f(e, ..)) -/
theorem eo_listG {x : Str} {p p2 pos' pos : Pos} (F : Gd X.prog X.w X.K X.mg X.base x k ps (spG X.K B.T pre post)) (hr : Room (k + 3) X.A) (hgx : Gl X x) (hg : Gl X "list") (hmg : X.mg "list" = none)
    (h : EA X B M Δ (e :: es) fun ts Δ2 => pre ts ∧ ∀ out, post ts out → Φ (.lst out) Δ2)
    (hdb : (x == ("__debug__" : Str)) = false := by decide) (hst : starEach (e :: es) X.env = (false, eval e X.env) :: starEach es X.env := by rfl) (hpl : (backTo pos' (starEach es X.env)).any (·.1) = false := by rfl)
    (hs1 : starEach [.Call (.Name x p2) (e :: es) [] pos'] X.env = (false, eval (.Call (.Name x p2) (e :: es) [] pos') X.env) :: starEach [] X.env := by rfl)
    (hv : bootBuiltins "list" = some (.type "list") := by decide +kernel) : EO X B M Δ (.Call (.Name "list" p) [.Call (.Name x p2) (e :: es) [] pos'] [] pos) Φ := fun σ H S Q kk => by
  obtain ⟨f, fd, ok, hm, hk, hb⟩ := F.ex
  refine PE.to (pe_listG (pgen_call (E := XF) ok (hr.mono (by omega)) hgx hm hk hb .nil pa_self hdb hst hpl) passF noStopF hr hg hmg hv (he := hs1)) ?_
  refine h σ H S _ fun ts Δ2 vs H2 q2 f2 S2 d2 => ?_
  rw [List.append_nil]
  refine ⟨M.m, _, d2, q2.1, S2.al, S2.tb, fun ys out H3 hp f3 tb dd l hl => ?_⟩
  have S3 := S2.feGrow f3 tb
  obtain ⟨S4, hn, ow⟩ := S3.newOwn (t := .lst out) hl (same_new hl) ⟨ys, upd_same, dd⟩
  have f13 : Fe M.w H H3 := f2.trans (f3.imp fun _ _ _ z => z.elim)
  exact kk (.lst out) Δ2 l _ (q2.2 out hp) (f13.trans (Fe.same (same_new hl))) (f13.free (fun b z => S3.al b (S3.wm b z)) hl) S4 hn ow
end
end Wf

set_option Elab.async false
set_option linter.all false
set_option maxRecDepth 100000
set_option maxHeartbeats 2000000
namespace Wf
open PySem PySem.Spec PyProof.Rows L2 LamX ClX
/-! ### an __init__ that begins with super().__init__(..) -/
structure SScope (N P : List Str) (sc : Scope) : Prop where
  kind : sc.kind = .function
  co : sc.isCoroutine = false
  gen : sc.isGenerator = false
  nd : N.Nodup
  pre : N.take P.length = P
  par : ∀ x ∈ P, sc.names.lookup x = some .local
  nocell : ∀ y ∈ sc.names, y.2 ≠ .cell
  only : ∀ y ∈ sc.names, y.2 = .free → y.1 = ("__class__" : Str)
  cls : sc.names.lookup ("__class__" : Str) = some .free
  sup : sc.names.lookup ("super" : Str) = some .globalImplicit
/-- the context of such a def: __class__ stands in its closure -/
def cxS (P : Program) (w : World) (K : PySem.W.Frag) (mg : Str → Option Value) (base : Heap) (N : List Str) (qual : Str) (scope : Scope) (f : Addr) (cd : Value) (cc : Addr) (A : Around) (outer : List Env) (s : Shared) (H : Hp) : Cx where
  prog := P
  w := w
  K := K
  mg := mg
  base := base
  A := A.deeper (PySem.W.ksEnv qual scope s.heap.objs.size f cd cc)
  N := N
  s_0 := s
  H_0 := H
  env := PySem.W.ksEnv qual scope s.heap.objs.size f cd cc
  outer := outer
  stack := PySem.W.ksEnv qual scope s.heap.objs.size f cd cc :: outer
  ex := []
  calm := true
  fn := fun y => !(y == ("__class__" : Str))
  pn := []
  xe := fun _ _ => False
theorem cells_one {y : Str} {k : Str} {c d : Addr} (h : List.lookup y [(k, c)] = some d) : y = k ∧ d = c := by
  have := PySem.mem_of_lookup h
  have := List.mem_singleton.mp this
  exact ⟨congrArg Prod.fst this, congrArg Prod.snd this⟩
theorem lookup_self {k : Str} {c : Addr} : List.lookup k [(k, c)] = some c := by
  rw [List.lookup_cons, show (k == k) = true from beq_self_eq_true k]
theorem rev_lookup {x : Str} {u : Value} : ∀ {ps : List Str} {us : List Value} {i : Nat}, ps.Nodup → ps[i]? = some x → us[i]? = some u → (ps.zip us).reverse.lookup x = some u
  | [], _, _, _, h, _ => by simp at h
  | _ :: _, [], _, _, _, h => by simp at h
  | p :: ps, v :: us, 0, nd, h1, h2 => by
    simp at h1 h2
    subst h1 h2
    rw [List.zip_cons_cons, List.reverse_cons, List.lookup_append]
    have : (ps.zip us).reverse.lookup p = none := by
      rw [List.lookup_eq_none_iff]
      intro q hq
      have hm : q.1 ∈ ps := (List.of_mem_zip (List.mem_reverse.mp hq)).1
      have : p ≠ q.1 := fun e => (List.nodup_cons.mp nd).1 (by rw [e]; exact hm)
      exact bne_iff_ne.mpr this
    rw [this, List.lookup_cons, beq_self_eq_true]
    rfl
  | p :: ps, v :: us, i + 1, nd, h1, h2 => by
    rw [List.zip_cons_cons, List.reverse_cons, List.lookup_append, rev_lookup (i := i) (List.nodup_cons.mp nd).2 (by simpa using h1) (by simpa using h2)]
    rfl
section
variable {P : Program} {w : World} {K : PySem.W.Frag} {mg : Str → Option Value} {base : Heap} {N ps : List Str} {qual : Str} {scope : Scope} {f cc : Addr} {cd : Value} {A : Around} {outer : List Env} {s : Shared} {H : Hp} {us : List Value} {vs : List V} {cl : Value} {cld : Option Addr} {csl : Array (Option Value)} {D : Addr}
theorem inv_startS {h₁ : Heap} {tk : Nat} (S : SScope N ps scope) (hd : A.handled = none) (e0 : Env0 P w K mg base A outer s H) (hl : vs.length = ps.length) (r : Vals vs us) (hcell : K.lookup cc = some ⟨cl, cld, .cell (some (.ref D)), csl⟩)
    (ns : h₁.Ns s.heap.objs.size (fun y => (ps.zip us).reverse.lookup y)) (hk : ∀ b o, s.heap.get? b = some o → h₁.get? b = some o) : Inv (cxS P w K mg base N qual scope f cd cc A outer s H) [] (L2.start N vs) H { s with heap := h₁, toks := tk } := by
  have hpl : ps.length ≤ N.length := by have := congrArg List.length S.pre; rw [List.length_take] at this; omega
  have ccB := e0.mod.kin _ _ hcell
  obtain ⟨ccS, ccN⟩ := e0.bs _ _ ccB
  have noA : ∀ b : Addr, b ∉ (cxS P w K mg base N qual scope f cd cc A outer s H).ex := fun b z => absurd (show b ∈ ([] : List Addr) from z) (by simp)
  refine ⟨⟨e0.mod, S.kind, rfl, rfl, Nat.le_refl _, fun y z c h1 h2 => ?_, fun y hy => ?_, fun y c h1 h => ?_, fun _ => hd, Around.frames_deeper e0.frames, .inr ⟨rfl, rfl⟩, fun b z => absurd z (noA b), e0.bs, e0.bsz, fun b _ _ => noA b, fun b z => absurd z (noA b), e0.funs, e0.frf⟩,
    rfl, e0.bare, Un.kept hk, ⟨_, ns, fun i y v h1 h2 h3 => ?_⟩, fun y c h => ?_, e0.hok.fresh (Nat.le_refl _), fun y c h => ?_, fun p hp => absurd (show p ∈ ([] : List (Addr × Obj)) from hp) (by simp), e0.hok.kept hk, ?_⟩
  · rw [(cells_one h1).1, (cells_one h2).1]
  · have hy : scope.names.lookup y = some .cell ∨ scope.names.lookup y = some .free := hy
    rcases hy with hy | hy
    · exact absurd rfl (S.nocell _ (PySem.mem_of_lookup hy))
    · have := S.only _ (PySem.mem_of_lookup hy) rfl
      exact ⟨cc, by rw [show y = ("__class__" : Str) from this]; exact lookup_self⟩
  · have h1 : (!(y == ("__class__" : Str))) = true := h1
    rw [(cells_one h).1, beq_self_eq_true] at h1
    cases h1
  · have hi : i < vs.length := by
      unfold L2.start at h2
      by_cases hi : i < vs.length
      · exact hi
      · rw [List.getElem?_append_right (by simpa using hi)] at h2
        rw [List.getElem?_replicate] at h2
        split at h2 <;> cases h2
    have ha : vs[i]? = some v := by
      unfold L2.start at h2
      rw [List.getElem?_append_left (by simpa using hi), List.getElem?_map] at h2
      cases e : vs[i]? with
      | none => rw [e] at h2; cases h2
      | some a => rw [e] at h2; cases h2; rfl
    obtain ⟨u, hu, rv⟩ := r.get ha
    have hp : ps[i]? = some y := by
      rw [← S.pre, List.getElem?_take_of_lt (by omega)]; exact h1
    have ndP : ps.Nodup := by rw [← S.pre]; exact S.nd.sublist (List.take_sublist _ _)
    exact ⟨u, rv, .inl ⟨S.par y (List.mem_of_getElem? hp), rev_lookup ndP hp hu⟩⟩
  · rw [(cells_one h).2]
    exact ⟨_, _, hk _ _ ccS, rfl⟩
  · rw [(cells_one h).2]
    exact ccN
  · unfold L2.start
    show _ = N.length
    rw [List.length_append, List.length_map, List.length_replicate]
    omega
end
/-! statements that stand in the def's own code -/
def WSat (X : Cx) (bd ss : List Stmt) : TS := fun D σ H => ∀ pins s, Inv X pins σ H s → _root_.PySem.wpAt (model X.prog X.w) X.A (.func bd X.env) (execs ss X.env) (SP X pins D) X.xe s
def W1at (X : Cx) (bd : List Stmt) (st : Stmt) : TS := fun D σ H => ∀ pins s, Inv X pins σ H s → _root_.PySem.wpAt (model X.prog X.w) X.A (.func bd X.env) (exec st X.env) (SP X pins D) X.xe s
theorem wsat_cons {X : Cx} {bd ss : List Stmt} {st : Stmt} {D : Ends} {σ : L2.St} {H : Hp} (h : W1at X bd st { D with nx := WSs X ss D } σ H) : WSat X bd (st :: ss) D σ H := fun pins s I =>
  ks_wpAt_execs_cons (ks_wpAt_mono (h pins s I) (fun fl s' q => by
    cases fl with
    | next =>
      obtain ⟨σ1, H1, I1, q⟩ := q
      exact wpAt_of_wpAny (q pins s' I1)
    | brk => exact q
    | cont => exact q
    | ret u => exact q) fun _ _ z => z)
section
variable {P : Program} {w : World} {K : PySem.W.Frag} {mg : Str → Option Value} {base : Heap} {k : Nat} {f cc cda D : Addr} {name qual : Str} {params : Arguments} {body : List Stmt} {scope : Scope} {dV kV doc pm ct oc cl : Value} {an od cld : Option Addr} {osl csl : Array (Option Value)} {N ps : List Str} {sp : Sp}
theorem fn_ofS (lk : K.lookup f = some ⟨oc, od, .func (PySem.W.ksFn name qual params body scope dV kV doc pm an (.ref cda) ct cc), osl⟩) (hcd : PySem.W.codeIn K (.ref cda) qual = true) (S : SScope N ps scope) (hcell : K.lookup cc = some ⟨cl, cld, .cell (some (.ref D)), csl⟩)
    (len : ∀ vs H Q E, sp vs H Q E → vs.length = ps.length)
    (hbody : ∀ (A : Around) (outer : List Env) (s : Shared) (H : Hp) (vs : List V) (Q : VK) (E : XK), Room k (A.deeper (PySem.W.ksEnv qual scope s.heap.objs.size f (.ref cda) cc)) → sp vs H Q E →
      WSat (cxS P w K mg base N qual scope f (.ref cda) cc A outer s H) body body { nx := fun _ H' => Q .non H', rt := Q } (L2.start N vs) H) :
    FnOk P w K mg base CX0 (k + 1) f (PySem.W.ksFn name qual params body scope dV kV doc pm an (.ref cda) ct cc) ps sp := by
  refine ⟨len, fun A outer s H args us vs Q E hr e0 hb r hsp => ?_⟩
  have hl := len _ _ _ _ hsp
  have KX : K.In s.heap := e0.mod.kin.keeps fun b o e => (e0.bs b o e).1
  have lim : s.heap.NoLimit := e0.mod.nolimit.keeps fun b o e => (e0.bs b o e).1
  have hloc : ∀ y ∈ ps.zip us, scope.names.lookup y.1 = some .local := fun ⟨n, v⟩ hy => S.par n (List.of_mem_zip hy).1
  refine ks_codeAny_call_defAt (fd := PySem.W.ksFn name qual params body scope dV kV doc pm an (.ref cda) ct cc) (body := body) (binds := ps.zip us) hr.depth (KX _ _ lk) rfl lim (PySem.W.codeRec_of KX hcd) rfl hb S.nocell hloc (fun h₁ hns hk₁ => ?_) S.co S.gen S.kind
  refine ks_wpAt_mono (hbody A outer s H vs Q E (hr.deeper _) hsp [] _ (inv_startS S hr.hd e0 hl r hcell hns hk₁)) (fun fl s' hs => ?_) fun e s' z => False.elim z
  cases fl with
  | ret u =>
    obtain ⟨v, σ', H', J, rv, q⟩ := hs
    exact ⟨v, H', J.os, J.bare, J.base, J.hok, rv, q⟩
  | next =>
    obtain ⟨σ', H', J, q⟩ := hs
    exact ⟨.non, H', J.os, J.bare, J.base, J.hok, rfl, q⟩
  | brk =>
    obtain ⟨_, _, _, q⟩ := hs
    exact False.elim q
  | cont =>
    obtain ⟨_, _, _, q⟩ := hs
    exact False.elim q
end
/-- what the text must have for super().m(..) in a class at D, of an instance of the class at C -/
structure SupC (K : PySem.W.Frag) (main : Str) (f cc cda D C f2 : Addr) (y m : Str) : Prop where
  fn : ∃ oc od fd osl ar, K.lookup f = some ⟨oc, od, .func fd, osl⟩ ∧ (fd.params.posonlyargs ++ fd.params.args).head? = some ar ∧ ar.arg = y
  code : ∃ (ccl : Value) (cdd : Option Addr) (vs : Array Value) (ccs : Array (Option Value)) (file : Str) (tf : Tok), K.lookup cda = some ⟨ccl, cdd, .fields vs, ccs⟩ ∧ vs[2]? = some (.str file tf) ∧ (main == file) = true
  cell : ∃ (cl : Value) (cld : Option Addr) (csl : Array (Option Value)), K.lookup cc = some ⟨cl, cld, .cell (some (.ref D)), csl⟩
  clsD : (PySem.W.clsIn K D).isSome = true
  clsC : (PySem.W.clsIn K C).isSome = true
  sub : PySem.W.mroIn K C (.ref D) = some true
  opq : PySem.W.nsIn K cStatics "thirdparty.any" = some none
  meth : PySem.W.ks_superIn K C D m = some (some (.ref f2))
  ty : PySem.W.typeIn K (.ref f2) = some (.type "function")
  fi : PySem.W.fnIn K f2 = true
theorem cls_at {K : PySem.W.Frag} {h : Heap} {D : Addr} (X : K.In h) (hD : (PySem.W.clsIn K D).isSome = true) : ∃ oD cd, h.get? D = some oD ∧ oD.data = .cls cd ∧ PySem.W.clsIn K D = some cd := by
  cases e : PySem.W.clsIn K D with
  | none => rw [e] at hD; cases hD
  | some cdD =>
    unfold PySem.W.clsIn at e
    split at e
    · rename_i c d cd' sl ho
      cases e
      exact ⟨_, _, X _ _ ho, rfl, rfl⟩
    · cases e
section
variable {X : Cx} {bd : List Stmt} {pins : List (Addr × Obj)} {σ : L2.St} {H : Hp} {s : Shared} {x dx C D f cc cda f2 : Addr} {fs : List (Str × V)} {y m : Str} {p0 p1 apos pos : Pos} {e : Expr} {es : List Expr} {t : TA} {CX : CXT} {k : Nat} {sp : Sp} {Q : VK} {pl : Sem Bool}
/-- super().m(e, ..) -/
theorem wat_super (T : SupC X.K X.prog.main.file f cc cda D C f2 y m) (hfu : X.env.func = some f) (hco : X.env.code = .ref cda) (hce : X.env.cells.lookup ("__class__" : Str) = some cc) (hkc : X.env.kindOf "__class__" = some .free) (hks : X.env.kindOf "super" = some .globalImplicit) (hky : X.env.kindOf y = some .local)
    (htop : (X.prog.main.scope.names.lookup ("super" : Str)).isSome = false) (hsm : X.mg "super" = none) (hat : (m == ("__class__" : Str)) = false)
    (F : FnR X.prog X.w X.K X.mg X.base CX0 k f2 sp) (hr : Room k X.A) (ha : PA X (e :: es) t) (I : Inv X pins σ H s) {i : Nat} (hN : X.N[i]? = some y) (hi : σ[i]? = some (some (.ref x))) (ex : H x = some (.ins C dx fs))
    (h : t σ H fun vs H1 => sp (.ref x :: vs) H1 Q E0)
    (hst : starEach (e :: es) X.env = (false, eval e X.env) :: starEach es X.env := by rfl) (hpl : (backTo pos (starEach es X.env)).any (·.1) = false := by rfl)
    (ht : eval (.Call (.Attribute (.Call (.Name "super" p0) [] [] p1) m apos) (e :: es) [] pos) X.env = (do
      let ov ← attributeBase (.Call (.Name "super" p0) [] [] p1) m X.env (eval (.Call (.Name "super" p0) [] [] p1) X.env)
      standAt apos.atName
      let (f, first) ← holding [ov] (getMethod ov m pl)
      callWith pos f first (backTo pos (starEach (e :: es) X.env)) []) := by rfl) :
    _root_.PySem.wpAt (model X.prog X.w) X.A (.func bd X.env) (eval (.Call (.Attribute (.Call (.Name "super" p0) [] [] p1) m apos) (e :: es) [] pos) X.env) (EP X pins σ Q) X.xe s := by
  obtain ⟨oc, od, fd, osl, ar, hf, hp, rfl⟩ := T.fn
  obtain ⟨ccl, cdd, cvs, ccs, file, tf, hcode, hvs, hfile⟩ := T.code
  obtain ⟨cl, cld, csl, hcell⟩ := T.cell
  obtain ⟨oD, cdD, hD1, hD2, hD3⟩ := cls_at I.kIn T.clsD
  obtain ⟨mb, hb, hbb⟩ := I.mod.blt
  refine ks_wpAt_MethodCall (pl := pl) ?_ ht
  refine ks_wpAt_super_base (env := X.env) hks hkc hat hfu (I.kIn _ _ hf) rfl hp hco (I.kIn _ _ hcode) rfl hvs hfile htop ?_
  refine PySem.W.ks_loadName_global I.ok.kind hks (_root_.PySem.Calls.loadGlobal_builtin (env := X.env) (mg := X.mg) (mb := mb) (v := .type "super") (by rw [I.ok.glob]; exact I.mod.glob.keeps I.bk) hsm (by rw [I.ok.blt]; exact hb.keeps I.bk) ((hbb _ (by decide +kernel)).trans (by decide +kernel)) ⟨rfl, ?_⟩)
  refine wpAny_loadName_free I.ok.kind hkc hce ⟨_, I.kIn _ _ hcell, rfl⟩ ?_
  obtain ⟨mm, hns, hlk⟩ := I.loc
  obtain ⟨u, ru, hu⟩ := hlk i ar.arg (.ref x) hN hi (.inl hky)
  obtain rfl : u = Value.ref x := ru
  have hv : mm ar.arg = some (.ref x) := by
    rcases hu with ⟨_, q⟩ | ⟨q | q, _⟩
    · exact q
    · rw [hky] at q; cases q
    · rw [hky] at q; cases q
  refine wpAny_loadName_local I.ok.kind hky hns hv ?_
  obtain ⟨hh, g, d, tk, os⟩ := s
  refine ks_wpAny_isType_cls hD1 hD2 ⟨rfl, ?_⟩
  obtain ⟨mA, O, _, _, _⟩ := ins_get I.hok ex
  refine ks_wpAny_call_super (C := C) hD1 hD2 O.obj rfl (fun c e => by cases e) (PySem.W.looks_mroIn I.kIn T.sub) (fun h' e1 k1 => ?_)
  have I1 : Inv X ((hh.objs.size, PySem.W.ks_superObj D x C) :: pins) σ H ⟨h', g, d, tk, os⟩ := pin_new I k1 (Nat.le_refl _) e1 (fun v z => nomatch z)
  obtain ⟨oC, cdC, hC1, hC2, hC3⟩ := cls_at I1.kIn T.clsC
  have hm := T.meth
  unfold PySem.W.ks_superIn at hm
  rw [hC3] at hm
  obtain ⟨of, hof, hofc⟩ : ∃ of, h'.get? f2 = some of ∧ of.cls = .type "function" := by
    have ht' : (X.K.lookup f2).map (·.cls) = some (.type "function") := T.ty
    cases z : X.K.lookup f2 with
    | none => rw [z] at ht'; cases ht'
    | some of => rw [z] at ht'; exact ⟨of, I1.kIn _ _ z, Option.some.inj ht'⟩
  have hxC : x ≠ C := fun z => by
    have q := k1 _ _ O.obj
    rw [z, hC1] at q
    cases q
    cases hC2
  refine ks_wpAny_getMethod_super e1 (PySem.W.looks_opaque I1.kIn T.opq) (l₀ := cdC.mro) (fun A Q E s k q => wpAny_bind ((PySem.W.looks_clsIn I1.kIn hC3) A _ E s k (wpAny_pure q))) rfl I1.kIn hm hof hofc hxC hat ?_
  have I2 := met_new (g := f2) (C := x) I1
  have hbq : X.base.get? h'.objs.size = none := base_none I1 (Nat.le_refl _)
  refine callwith_cm I2 hbq T.fi (thn (ha.run pos _ _ σ H _ I2 h) fun us s1 ⟨vs, H1, I3, r, q⟩ => ⟨⟨pin_at I3, I3.kIn⟩, ?_⟩) hst hpl
  exact thn (run_cm F hr pass0 I3 r q) fun _ _ z => unpinE z
end
end Wf

set_option Elab.async false
set_option linter.all false
set_option maxRecDepth 100000
set_option maxHeartbeats 2000000
/-! WfEnT: enumerate over a tuple. -/
namespace PySem
open Sem (wp)
open PyProof.Rows L2
theorem ent_new (l : Addr) (its : Array Value) (n : Nat) (dct : Option Addr) (sl : Array (Option Value)) : Meets (Builtin.«enumerate.__new__» ⟨[.type "enumerate", .ref l], []⟩) (fun _ R s => s.heap.get? l = some { cls := .type "tuple", dict := dct, data := .seq its n, slots := sl } ∧
      R (.ok (.ret (.ref (s.heap.push { cls := .type "tuple_iterator", data := .fields #[.ref l, .int 0 0] }).objs.size)))
        { s with heap := (s.heap.push { cls := .type "tuple_iterator", data := .fields #[.ref l, .int 0 0] }).push { cls := .type "enumerate", data := .fields #[.none, .bool false, .ref s.heap.objs.size, rawInt 0, .none, .none] } }) :=
  .of_wp fun prog w A R s h => by
    obtain ⟨hp, g, d, tk, os⟩ := s
    obtain ⟨ht0, h⟩ := h
    have se := sub_enumerate
    have tp : IsTup (Shared.heap ⟨hp, g, d, tk, os⟩) l its := ⟨_, ht0, rfl, n, rfl⟩
    wp_walk using AutoSeq1.wpAny_loadPart' ht0
    refine wpAny_stack_any fun stk => wpAny_pure ?_
    split
    · rename_i cl0 _ _ _ _ _
      cases (cl0 == Value.type "enumerate") <;>
      · wp_walk using AutoSeq1.wpAny_loadPart' ht0, iter_tuple tp
        exact ⟨_, rfl, h⟩
    · wp_walk using AutoSeq1.wpAny_loadPart' ht0, iter_tuple tp
      exact ⟨_, rfl, h⟩
end PySem
namespace PySem
open Sem (wp)
open PyProof.Rows L2
section
variable {prog : Program} {w : World} {A : Around} {E : Value → Shared → Prop} {s : Shared} {it t e : Addr} {i : Nat} {its : Array Value} {x old : Value}
theorem ent_item {Q : Value → Shared → Prop} (hit : IsTupIter s.heap it t i) (ht : IsTup s.heap t its) (hx : its[i]? = some x) (hQ : ∀ h1, IsTupIter h1 it t (i + 1) → Heap.SameBut it s.heap h1 → Q x { s with heap := h1 }) : wpAny (model prog w) A (Builtin.SmallTypes.nextOf (.ref it)) Q E s := by
  unfold Builtin.SmallTypes.nextOf
  exact wpAny_bind (special_tup_item hit ht hx fun h1 a b => wpAny_pure (hQ h1 a b))
theorem ent_stop {Q : Value → Shared → Prop} (hh : A.handled = none) (hit : IsTupIter s.heap it t i) (ht : IsTup s.heap t its) (hx : its[i]? = none) (hE : ∀ v h1, StopX v h1 → Heap.ExtBut it s.heap h1 → E v { s with heap := h1 }) : wpAny (model prog w) A (Builtin.SmallTypes.nextOf (.ref it)) Q E s := by
  unfold Builtin.SmallTypes.nextOf
  exact wpAny_bind (special_tup_end hh hit ht hx fun v h1 a b => hE v h1 a b)
theorem IsTupIter.past {h h' : Heap} {a t b : Addr} {i : Nat} (z : IsTupIter h a t i) (k : Heap.ExtBut b h h') (n : a ≠ b) : IsTupIter h' a t i := let ⟨o, ho, r⟩ := z; ⟨o, k a o n ho, r⟩
/-- the enumerate at e hands out a pair -/
theorem ent_next {Q : Option Value → Shared → Prop} (he : IsEnum s.heap e it i old) (hit : IsTupIter s.heap it t i) (ht : IsTup s.heap t its) (hx : its[i]? = some x) (hne : e ≠ it)
    (hQ : ∀ h1, IsEnumOut h1 e it ((i : Int) + 1) x s.heap.objs.size → IsTupIter h1 it t (i + 1) → h1.get? s.heap.objs.size = some { cls := .type "tuple", data := .seq #[.int i s.toks, x] } →
      (∀ b o, b ≠ e → b ≠ it → s.heap.get? b = some o → h1.get? b = some o) → Q (some (.ref s.heap.objs.size)) { s with heap := h1, toks := s.toks + 1 }) : wpAny (model prog w) A (pyNext (.ref e)) Q E s := by
  have ty : s.TypeIs (.ref e) "enumerate" := ⟨_, he, rfl⟩
  unfold pyNext
  refine wpAny_bind (wpAny_attempt (wpAny_callSpecial?_slot (name := Str.ofString "__next__") ty F.slot_enumerate_next (wpAny_call_entry F.slot_enumerate_next ty F.entry_enumerate_next ?_ (F.args_enumerate_next_1 _))))
  obtain ⟨hp, g, d, tk, os⟩ := s
  have e0 : e < hp.objs.size := Heap.lt_size he
  have ez : hp.objs.size ≠ e := Nat.ne_of_gt e0
  change wpAny _ _ (field (.ref e) 2 >>= _) _ _ _; refine wpAny_bind (wpAny_field he rfl (x := .ref it) rfl (wpAny_bind (ent_item hit ht hx fun ha ia sa => ?_)))
  have sa : Heap.SameBut it hp ha := sa
  have ea : IsEnum ha e it i old := (sa.2 e hne).trans he
  change wpAny _ _ (field (.ref e) 3 >>= _) _ _ ⟨ha, g, d, tk, os⟩; refine wpAny_bind (wpAny_field ea rfl (x := rawInt i) rfl ?_)
  change wpAny _ _ (field (.ref e) 4 >>= _) _ _ ⟨ha, g, d, tk, os⟩; refine wpAny_bind (wpAny_field ea rfl (x := .none) rfl ?_)
  change wpAny _ _ (mkInt i >>= _) _ _ ⟨ha, g, d, tk, os⟩; refine wpAny_bind (wpAny_mkInt ?_)
  change wpAny _ _ (setField (.ref e) 3 (rawInt ((i : Int) + 1)) >>= _) _ _ ⟨ha, g, d, tk + 1, os⟩; refine wpAny_bind (wpAny_setField_rec ea (by simp) fun hb eb sb => ?_)
  have sb : Heap.SameBut e ha hb := sb
  have eb : IsEnum hb e it ((i : Int) + 1) old := eb
  change wpAny _ _ (setField (.ref e) 4 .none >>= _) _ _ ⟨hb, g, d, tk + 1, os⟩; refine wpAny_bind (wpAny_setField_rec eb (by simp) fun hc ec sc => ?_)
  have sc : Heap.SameBut e hb hc := sc
  have ec : IsEnum hc e it ((i : Int) + 1) old := ec
  change wpAny _ _ (newTuple [.int i tk, x] >>= _) _ _ ⟨hc, g, d, tk + 1, os⟩; refine wpAny_bind (wpAny_newTuple ?_)
  have zc : hc.objs.size = hp.objs.size := by rw [sc.1, sb.1, sa.1]
  obtain ⟨hd, rfl⟩ : ∃ q, q = hc.push { cls := .type "tuple", data := .seq #[.int i tk, x] } := ⟨_, rfl⟩
  have ed : IsEnum (hc.push { cls := .type "tuple", data := .seq #[.int i tk, x] }) e it ((i : Int) + 1) old := Heap.get?_push_of_some _ ec
  have td : (hc.push { cls := .type "tuple", data := .seq #[.int i tk, x] }).get? hp.objs.size = some { cls := .type "tuple", data := .seq #[.int i tk, x] } := by
    rw [← zc]; exact Heap.get?_push_size _ rfl
  have kd : ∀ b o, b ≠ e → b ≠ it → hp.get? b = some o → (hc.push { cls := .type "tuple", data := .seq #[.int i tk, x] }).get? b = some o := fun b o n1 n2 z => Heap.get?_push_of_some _ (sc.extBut b o n1 (sb.extBut b o n1 (sa.extBut b o n2 z)))
  have idd : IsTupIter (hc.push { cls := .type "tuple", data := .seq #[.int i tk, x] }) it t (i + 1) := by
    obtain ⟨o, ho, r⟩ := (IsTupIter.past (IsTupIter.past ia sb.extBut (Ne.symm hne)) sc.extBut (Ne.symm hne))
    exact ⟨o, Heap.get?_push_of_some _ ho, r⟩
  revert ed td kd idd
  generalize hc.push { cls := .type "tuple", data := .seq #[.int i tk, x] } = hd
  intro ed td kd idd
  rw [zc]
  clear ec sc eb sb ea sa ia zc
  change wpAny _ _ (Builtin.SmallTypes.ownedTupleIsFree (.ref e) >>= _) _ _ ⟨hd, g, d, tk + 1, os⟩; refine wpAny_bind ?_
  unfold Builtin.SmallTypes.ownedTupleIsFree; refine wpAny_bind (wpAny_field ed rfl (x := .none) rfl (wpAny_pure ?_))
  simp only [if_true]; refine wpAny_bind (wpAny_rule (wpAny_bind (wpAny_field ed rfl (x := old) rfl (wpAny_bind (wpAny_setField_rec ed (by simp) fun hf ef sf => ?_)))))
  have sf : Heap.SameBut e hd hf := sf
  have ef : IsEnum hf e it ((i : Int) + 1) x := ef
  change wpAny _ _ (Builtin.SmallTypes.ownedTupleHandOut (.ref e) (.ref hp.objs.size) >>= _) _ _ ⟨hf, g, d, tk + 1, os⟩; refine wpAny_bind ?_
  unfold Builtin.SmallTypes.ownedTupleHandOut; refine wpAny_bind (wpAny_setField_rec ef (by simp) fun hg eg sg => ?_)
  have sg : Heap.SameBut e hf hg := sg
  have eg : IsEnumOut hg e it ((i : Int) + 1) x hp.objs.size := eg
  refine wpAny_setField_rec eg (by simp) fun hk ek sk => ?_
  have sk : Heap.SameBut e hg hk := sk
  have ek : IsEnumOut hk e it ((i : Int) + 1) x hp.objs.size := ek
  refine wpAny_bind (wpAny_letGo (wpAny_pure ⟨_, rfl, wpAny_pure (hQ hk ek (IsTupIter.past (IsTupIter.past (IsTupIter.past idd sf.extBut (Ne.symm hne)) sg.extBut (Ne.symm hne)) sk.extBut (Ne.symm hne)) ?_ fun b o n1 n2 z => ?_)⟩))
  · exact sk.extBut _ _ ez (sg.extBut _ _ ez (sf.extBut _ _ ez td))
  · exact sk.extBut b o n1 (sg.extBut b o n1 (sf.extBut b o n1 (kd b o n1 n2 z)))
theorem ent_done {Q : Option Value → Shared → Prop} (hh : A.handled = none) (he : IsEnum s.heap e it i old) (hit : IsTupIter s.heap it t i) (ht : IsTup s.heap t its) (hx : its[i]? = none) (hQ : ∀ h1, Heap.ExtBut it s.heap h1 → Q none { s with heap := h1 }) : wpAny (model prog w) A (pyNext (.ref e)) Q E s := by
  have ty : s.TypeIs (.ref e) "enumerate" := ⟨_, he, rfl⟩
  unfold pyNext
  refine wpAny_bind (wpAny_attempt (wpAny_callSpecial?_slot (name := Str.ofString "__next__") ty F.slot_enumerate_next (wpAny_call_entry F.slot_enumerate_next ty F.entry_enumerate_next ?_ (F.args_enumerate_next_1 _))))
  change wpAny _ _ (field (.ref e) 2 >>= _) _ _ _; refine wpAny_bind (wpAny_field he rfl (x := .ref it) rfl (wpAny_bind (ent_stop hh hit ht hx fun v h1 st k => ?_)))
  obtain ⟨a, o, vs, rfl, ho, hc, _⟩ := st
  exact wpAny_bind (wpAny_isInstance (T := "StopIteration") (b := true) ⟨o, ho, hc⟩ isSubtype_stop (wpAny_pure (hQ _ k)))
theorem ent_call {Q : Value → Shared → Prop} (ht : IsTup s.heap t its) (h : ∀ h1, IsEnum h1 (s.heap.objs.size + 1) s.heap.objs.size 0 .none → IsTupIter h1 s.heap.objs.size t 0 → (∀ b o, s.heap.get? b = some o → h1.get? b = some o) → Q (.ref (s.heap.objs.size + 1)) { s with heap := h1 }) : wpAny (model prog w) A (call (.type "enumerate") [.ref t]) Q E s := by
  obtain ⟨⟨c, dct, dt, sl⟩, hl, hc, n, hd⟩ := ht
  obtain rfl : c = .type "tuple" := hc
  obtain rfl : dt = .seq its n := hd
  refine callType_new F.called_enumerate (by decide) (F.typeCall_enumerate_1 _) (F.newCall_enumerate_1 _) (fun obj => F.args_object_init_2 obj _) F.entry_enumerate_new (ent_new t its n dct sl) ⟨hl, ?_⟩
  have z1 : (s.heap.push { cls := .type "tuple_iterator", data := .fields #[.ref t, .int 0 0] }).objs.size = s.heap.objs.size + 1 := Heap.size_push ..
  show _ ∧ _
  rw [z1]
  have ez := Heap.get?_push_size (s.heap.push { cls := .type "tuple_iterator", data := .fields #[.ref t, .int 0 0] }) (o := { cls := .type "enumerate", data := .fields #[.none, .bool false, .ref s.heap.objs.size, rawInt 0, .none, .none] }) rfl
  rw [z1] at ez
  exact ⟨⟨_, ez, rfl⟩, h _ ez ⟨_, Heap.get?_push_of_some _ (Heap.get?_push_size _ rfl), rfl, rfl⟩ fun b o z => Heap.get?_push_of_some _ (Heap.get?_push_of_some _ z)⟩
end
end PySem
namespace Wf
open PySem PySem.Spec PyProof.Rows L2 LamX
/-- the tuple at a, each item with its number in a new pair -/
def Ient (K : PySem.W.Frag) (a : Addr) : It where
  go := fun i H => ∃ (xs : List V) (x : V), SqT K H a xs ∧ xs[i]? = some x
  yld := fun i H v H' => ∃ T x, v = .ref T ∧ H T = none ∧ H' = upd H T (.tup [.int (i : Nat), x]) ∧ ∀ xs, SqT K H a xs → xs[i]? = some x
  stop := fun i H => ∃ xs : List V, SqT K H a xs ∧ xs.length ≤ i
theorem ent_turn {P : Program} {w : World} {K : PySem.W.Frag} {elts : List Expr} {kk : Nat} {tpos : Pos} (a e it : Addr) : Turn P w K (.Tuple elts kk tpos) (Ient K a) [e, it] e (fun i h => (∃ old, IsEnum h e it ((i : Nat) : Int) old) ∧ IsTupIter h it a i ∧ e ≠ it) where
  mem := List.mem_cons_self
  obj := fun i h st b hb => by
    obtain ⟨⟨old, he⟩, ⟨o, ho, hc, hd⟩, _⟩ := st
    rcases List.mem_cons.mp hb with z | z
    · rw [z]
      exact ⟨_, he, fun v q => (nomatch q)⟩
    · rw [List.mem_singleton.mp z]
      exact ⟨o, ho, fun v q => by rw [hd] at q; cases q⟩
  keep := fun i h h' st k => by
    obtain ⟨⟨old, he⟩, ⟨o, ho, r⟩, hne⟩ := st
    exact ⟨⟨old, k e List.mem_cons_self _ he⟩, ⟨o, k it (List.mem_cons_of_mem _ List.mem_cons_self) _ ho, r⟩, hne⟩
  item := fun X hP hw hK hc i pins s σ H E I hf st hg => by
    subst hP hw hK
    obtain ⟨⟨old, he⟩, hit, hne⟩ := st
    obtain ⟨xs, x, hq, hx⟩ := hg
    obtain ⟨its, rv, tp, hz⟩ := I.tuple hq
    obtain ⟨u, hu, ru⟩ := rv.get hx
    have e0 : e < s.heap.objs.size := Heap.lt_size he
    have i0 : it < s.heap.objs.size := let ⟨_, q, _⟩ := hit; Heap.lt_size q
    refine ent_next he hit tp (x := u) (by simpa using hu) hne fun h1 ho it1 t1 k1 => ⟨_, rfl, wpAny_letOwnedTupleGo_enum (s := { s with heap := h1, toks := s.toks + 1 }) ho fun h2 he2 sb => ?_⟩
    have t2 : h2.get? s.heap.objs.size = some { cls := .type "tuple", data := .seq #[.int i s.toks, u] } := (sb.2 _ (Nat.ne_of_gt e0)).trans t1
    have new : ObjOk X.prog X.w (upd H s.heap.objs.size (.tup [.int (i : Nat), x])) h2 s.heap.objs.size (.tup [.int (i : Nat), x]) := ⟨by show 2 ≤ sizeLine; decide, [.int i s.toks, u], .cons ⟨_, rfl⟩ (.cons ru .nil), ⟨_, t2, rfl, _, rfl⟩⟩
    have I1 : Inv X pins σ (upd H s.heap.objs.size (.tup [.int (i : Nat), x])) { s with heap := h2, toks := s.toks + 1 } :=
      I.turnedNew (ch := [e, it]) (fun b ob hb q => have n1 : b ≠ e := fun z => hb (by simp [z]); have n2 : b ≠ it := fun z => hb (by simp [z]); (sb.2 b n1).trans (k1 b ob n1 n2 q)) hf (Nat.le_refl _) new
    refine ⟨.ref s.heap.objs.size, _, I1, rfl, ⟨_, x, rfl, I.hok.fresh (Nat.le_refl _), rfl, fun ys hy => by rw [I.tuple_inj hy hq]; exact hx⟩, ⟨⟨u, ?_⟩, ?_, hne⟩, fun b hb => ?_⟩
    · rw [show ((i + 1 : Nat) : Int) = (i : Int) + 1 by omega]
      exact he2
    · obtain ⟨o, h3, r⟩ := it1
      exact ⟨o, (sb.2 it (Ne.symm hne)).trans h3, r⟩
    · have hb' : b < s.heap.objs.size := by
        rcases List.mem_cons.mp hb with z | z
        · rw [z]; exact e0
        · rw [List.mem_singleton.mp z]; exact i0
      rw [upd_ne (Nat.ne_of_lt hb')]
      exact (hf b hb).1
  done := fun X hP hw hK hc i pins s σ H E I hf st hg => by
    subst hP hw hK
    obtain ⟨⟨old, he⟩, hit, hne⟩ := st
    obtain ⟨xs, hq, hx⟩ := hg
    obtain ⟨its, rv, tp, hz⟩ := I.tuple hq
    obtain ⟨f0, f1, f2, f3, f4, f5⟩ := hf it (List.mem_cons_of_mem _ List.mem_cons_self)
    have hl := rv.length
    exact ent_done (I.ok.hd hc) he hit tp (by simp; omega) fun h1 eb => ⟨rfl, I.turned (t' := s.toks) (fun b o hb q => eb b o hb q) f0 f1 f3 f4 f5⟩
  self := fun A i s Q E st h => by
    obtain ⟨⟨_, he⟩, _⟩ := st
    exact wpAny_pyIter_enum he h
def ientI (K : PySem.W.Frag) (ta : TA) : TI := fun σ H R => ta σ H fun vs H1 => ∃ a xs, vs = [.ref a] ∧ SqT K H1 a xs ∧ R (Ient K a) H1
section
variable {X : Cx} {B : Bs} {M : Pl} {Δ : List En} {a : Expr} {Φ : Nat → (Nat → Tr) → List En → Prop} {elts : List Expr} {kk : Nat} {p pos tpos : Pos}
theorem pi_ent {ta : TA} (hg : Gl X "enumerate") (hm : X.mg "enumerate" = none) (ha : PA X [a] ta) (hs : starEach [a] X.env = [(false, eval a X.env)]) : PI X (.Tuple elts kk tpos) (.Call (.Name "enumerate" p) [a] [] pos) (ientI X.K ta) := by
  refine ⟨fun pins s σ H R I h => Call_ (ld_blt I hg hm boot_enumerate (PyProof.Rows.callWith_type1 (thn (ha.run pos pins s σ H _ I h) fun us s1 ⟨vs, H1, I1, r1, q1⟩ => ?_) hs rfl))⟩
  obtain ⟨a, xs, rfl, hq, q⟩ := q1
  cases r1 with
  | cons r rr =>
    cases rr
    cases r
    obtain ⟨its, rv, tp, hz⟩ := I1.tuple hq
    refine ent_call tp fun h1 he hit hk => wpAny_pyIter_enum he ?_
    refine ⟨s1.heap.objs.size + 1, [s1.heap.objs.size + 1, s1.heap.objs.size], _, _, H1, rfl, I1.kept (t' := s1.toks) hk, ent_turn a _ _, ⟨⟨.none, he⟩, hit, Nat.succ_ne_self _⟩, fun b hb => ?_, q⟩
    have hle : s1.heap.objs.size ≤ b := by
      rcases List.mem_cons.mp hb with z | z
      · rw [z]; exact Nat.le_add_right _ _
      · rw [List.mem_singleton.mp z]; exact Nat.le_refl _
    exact I1.fpOk hle (I1.hok.fresh hle)
theorem ent_walk {K : PySem.W.Frag} {a : Addr} {xs : List V} : Walk (Ient K a) xs.length (fun H => SqT K H a xs) (YPair (fun i => some (.int (i : Nat))) (fun i => xs[i]?)) where
  goes := fun i _ hi q => ⟨xs, xs[i], q, List.getElem?_eq_getElem hi⟩
  stops := fun _ q => ⟨xs, q, Nat.le_refl _⟩
  yields := fun i H v H' _ q ⟨T, x, h1, h2, h3, h4⟩ => ⟨T, .int (i : Nat), x, h1, h2, h3, rfl, h4 xs q⟩
/-- enumerate(t), t a tuple -/
theorem ei_enumT (hg : Gl X "enumerate") (hm : X.mg "enumerate" = none) (h : EE X B M Δ a fun t Δ1 => ∃ ts, t = .tup ts ∧ Φ ts.length (fun i => .tup [.int i, ts.getD i .non]) Δ1) (hs : starEach [a] X.env = [(false, eval a X.env)] := by rfl) : EI X B M Δ (.Tuple elts kk tpos) (.Call (.Name "enumerate" p) [a] [] pos) Φ :=
  ⟨_, pi_ent hg hm (pa_cons pe_self pa_nil hs) hs, fun σ H S R k => h σ H S _ fun t Δ1 v H1 p f S1 d => by
    obtain ⟨ts, rfl, q⟩ := p
    cases d with
    | tup h1 h2 =>
      rename_i a xs
      refine ⟨a, xs, rfl, sub_seqT mi_sub h1, k ts.length _ Δ1 (Ient X.K a) _ _ H1 q f S1 (h2.length ▸ ent_walk) (fun M2 H2 s => sub_seqT mi_sub (sub_seqT s h1)) fun i x Ha Hb M2 hi y s nM => ?_⟩
      obtain ⟨T, x1, y1, rfl, hT, rfl, ex, ey⟩ := y
      obtain rfl : V.int (i : Nat) = x1 := Option.some.inj ex
      obtain ⟨t, e1, e2⟩ := h2.getV ey
      have sm := same_new (o := .tup [.int (i : Nat), y1]) hT
      refine ⟨sm, ?_⟩
      rw [getD_of e1]
      exact .tup (SqT.of (mi_of (nM T hT) upd_same)) (.cons (.int _) (.cons ((e2.mono s).mono (Sub.of sm).mi) .nil))⟩
end
end Wf

set_option Elab.async false
set_option linter.all false
set_option maxRecDepth 100000
set_option maxHeartbeats 2000000
namespace Wf
open PySem PySem.Spec PyProof.Rows L2 LamX
section
variable {B : Bs} {M : Pl} {Δ : List En}
/-- an owned object at l was made anew by a def -/
theorem Sk.remade {K : PySem.W.Frag} {H H' : Hp} {σ : L2.St} {i : Nat} {l : Addr} {t t' : Tr} (S : Sk K B M H σ Δ) (hi : Δ[i]? = some (.own l t)) (f : Fe (fun b => b = l) H H') (tb : Tabs B.T H') (ow : Ow K (mi M.m H') H' l t') : Sk K B M H' σ (Δ.set i (.own l t')) ∧ Sub (mi M.m H) (mi M.m H') := by
  obtain ⟨h1, h2, h3, h4, h5⟩ := S.ownAt hi
  have s : Sub (mi M.m H) (mi M.m H') := fun b o n e => by
    have q := mi_some.mp e
    exact mi_of q.1 (f.k b o (fun z => q.1 (by rw [z]; exact h2)) n q.2)
  have hil : i < Δ.length := (List.getElem?_eq_some_iff.mp hi).1
  have there : ∃ o, H' l = some o := by
    cases t' <;> first | exact ow.elim | skip
    · obtain ⟨xs, e, _⟩ := ow; exact ⟨_, e⟩
    · obtain ⟨xs, e, _⟩ := ow; exact ⟨_, e⟩
    · obtain ⟨_, xs, e, _⟩ := ow; exact ⟨_, e⟩
  have h0 : B.H0 l = none := (S.own l h2).elim (fun z => absurd z h3) id
  refine ⟨{ len := by rw [List.length_set]; exact S.len, al := fun b hb => ?_, wm := S.wm, m0 := S.m0, pm := S.pm, own := S.own, wp := S.wp, fr := ?_, tb := tb, dis := fun a b e g l' he hg el gl => ?_, sl := fun j e q => ?_ }, s⟩
  · by_cases hbl : b = l
    · rw [hbl]; exact there
    · obtain ⟨o, e⟩ := S.al b hb
      by_cases n : NT o
      · exact ⟨o, f.k b o hbl n e⟩
      · by_cases q : ∃ ps, o = .tbl ps
        · obtain ⟨ps, rfl⟩ := q
          obtain ⟨qs, e'⟩ := f.t b ps e
          exact ⟨_, e'⟩
        · exact absurd (fun ps z => q ⟨ps, z⟩) n
  · refine ⟨fun b o pn n e => f.k b o (fun z => ?_) n (S.fr.k b o pn n e), fun b ps e => ?_⟩
    · rw [z, h0] at e; cases e
    · obtain ⟨qs, e'⟩ := S.fr.t b ps e
      exact f.t b qs e'
  · have key : ∀ (a : Nat) (e : En), (Δ.set i (.own l t'))[a]? = some e → ∃ e', Δ[a]? = some e' ∧ e'.adr = e.adr := fun a e he => by
      by_cases ha : a = i
      · subst ha
        rw [List.getElem?_set_self hil] at he
        cases he
        exact ⟨_, hi, rfl⟩
      · rw [List.getElem?_set_ne (Ne.symm ha)] at he
        exact ⟨e, he, rfl⟩
    obtain ⟨e1, x1, x2⟩ := key a e he
    obtain ⟨g1, y1, y2⟩ := key b g hg
    exact S.dis a b e1 g1 l' x1 y1 (x2.trans el) (y2.trans gl)
  · by_cases hj : j = i
    · subst hj
      rw [List.getElem?_set_self hil] at q
      cases q
      exact ⟨_, h1, rfl, h2, h3, h4, ow⟩
    · rw [List.getElem?_set_ne (Ne.symm hj)] at q
      obtain ⟨u, e1, e2⟩ := S.sl j e q
      exact ⟨u, e1, e2.mono (fun _ z => z) (fun _ => Iff.rfl) s fun l' z o' n y => f.k l' o' (fun w => hj (S.dis j i e _ l q hi (by rw [z, w]) rfl)) n y⟩
end
section
variable {X : Cx} {B : Bs} {M : Pl} {Δ : List En} {bd : List Stmt} {x C D f cc cda f2 : Addr} {y m : Str} {p0 p1 apos pos pos2 : Pos} {e : Expr} {es : List Expr} {k : Nat} {pre : List Tr → Prop} {post : List Tr → List (Str × Tr) → Prop} {Ψ : Eo} {pl : Sem Bool} {l : Addr}
/-- super().__init__(e, ..), the first statement of an __init__ -/
theorem s1_super (T : SupC X.K X.prog.main.file f cc cda D C f2 y m) (hfu : X.env.func = some f) (hco : X.env.code = .ref cda) (hce : X.env.cells.lookup ("__class__" : Str) = some cc) (hkc : X.env.kindOf "__class__" = some .free) (hks : X.env.kindOf "super" = some .globalImplicit) (hky : X.env.kindOf y = some .local)
    (htop : (X.prog.main.scope.names.lookup ("super" : Str)).isSome = false) (hsm : X.mg "super" = none) (hat : (m == ("__class__" : Str)) = false)
    (F : FnR X.prog X.w X.K X.mg X.base CX0 k f2 (spI X.K B.T C pre post)) (hr : Room k X.A) (hN : X.N[0]? = some y) (hi : Δ[0]? = some (.own l (.ins C [])))
    (h : EA X B M Δ (e :: es) fun ts Δ1 => Δ1[0]? = some (.own l (.ins C [])) ∧ pre ts ∧ ∀ fs, post ts fs → Ψ.nx M (Δ1.set 0 (.own l (.ins C fs))))
    (hst : starEach (e :: es) X.env = (false, eval e X.env) :: starEach es X.env := by rfl) (hpl : (backTo pos (starEach es X.env)).any (·.1) = false := by rfl)
    (ht : eval (.Call (.Attribute (.Call (.Name "super" p0) [] [] p1) m apos) (e :: es) [] pos) X.env = (do
      let ov ← attributeBase (.Call (.Name "super" p0) [] [] p1) m X.env (eval (.Call (.Name "super" p0) [] [] p1) X.env)
      standAt apos.atName
      let (f, first) ← holding [ov] (getMethod ov m pl)
      callWith pos f first (backTo pos (starEach (e :: es) X.env)) []) := by rfl)
    (hin : interactive X.env = false := by rfl) (hsw : swapsWith (.Call (.Attribute (.Call (.Name "super" p0) [] [] p1) m apos) (e :: es) [] pos) none pos2.line X.env = pure false := by rfl) :
    ∀ σ H, Sk X.K B M H σ Δ → ∀ D' : Ends, Post X.K B M H D' Ψ → W1at X bd (.Expr (.Call (.Attribute (.Call (.Name "super" p0) [] [] p1) m apos) (e :: es) [] pos) pos2) D' σ H := fun σ H S D' p pins s I => by
  obtain ⟨h1, h2, h3, h4, dx, fs0, h5, h6⟩ := S.ownAt hi
  refine ks_wpAt_Expr_any (ks_wpAt_mono (wat_super (Q := fun v H' => D'.nx σ H') T hfu hco hce hkc hks hky htop hsm hat F hr pa_self I hN h1 h5 ?_ hst hpl ht) (fun v s' ⟨_, H', I', _, q⟩ => ⟨σ, H', I', q⟩) fun _ _ z => z) hin hsw
  refine h σ H S _ fun ts Δ1 vs H1 q fe S1 d => ?_
  obtain ⟨q1, q2, q3⟩ := q
  obtain ⟨g1, g2, g3, g4, dx1, fs1, g5, g6⟩ := S1.ownAt q1
  obtain rfl : fs1 = [] := by cases g6; rfl
  have e1 : Sub (mi M.m H1) (mi (fun b => (M.m b ∧ b ≠ l) ∨ b = l) H1) := mi_le fun b z => z.elim (·.1) fun z => by rw [z]; exact g2
  refine ⟨fun b => M.m b ∧ b ≠ l, l, dx1, vs, ts, rfl, fun z => z.2 rfl, g5, d.mono e1, q2, fun b z => S1.al b z.1, S1.tb, fun fs H' hp f2 tb ow => ?_⟩
  have ow' : Ow X.K (mi M.m H') H' l (.ins C fs) := ow.mono (mi_le fun b z => (Classical.em (b = l)).elim .inr fun n => .inl ⟨z, n⟩) fun _ _ z => z
  obtain ⟨S2, s2⟩ := S1.remade q1 f2 tb ow'
  exact p.nx M _ σ H' (q3 fs hp) ((S.sub fe).trans s2) S2
end
section
variable {P : Program} {w : World} {K : PySem.W.Frag} {mg : Str → Option Value} {base : Heap} {qual : Str} {f cc cda D : Addr} {params : Arguments} {body : List Stmt} {scope : Scope} {dV kV doc pm ct oc cl : Value} {an od cld : Option Addr} {osl csl : Array (Option Value)} {N ps : List Str} {k : Nat} {T : List (Addr × Str)} {C : Addr} {y name : Str} {st : Stmt} {rest : List Stmt} {pre : List Tr → Prop} {post : List Tr → List (Str × Tr) → Prop}
/-- such an __init__ by its body -/
theorem ok_IS (lk : K.lookup f = some ⟨oc, od, .func (PySem.W.ksFn name qual params (st :: rest) scope dV kV doc pm an (.ref cda) ct cc), osl⟩) (hcd : PySem.W.codeIn K (.ref cda) qual = true) (S : SScope N (y :: ps) scope) (hcell : K.lookup cc = some ⟨cl, cld, .cell (some (.ref D)), csl⟩)
    (hpre : ∀ ts, pre ts → ts.length = ps.length) (hps : ps.length + 1 ≤ N.length)
    (hb : ∀ (A : Around) (outer : List Env) (s : Shared) (H H0 : Hp) (m : Addr → Prop) (l : Addr) (ts : List Tr), Room k (A.deeper (PySem.W.ksEnv qual scope s.heap.objs.size f (.ref cda) cc)) → pre ts →
      ∀ σ H1, Sk K ⟨T, fun _ => False, H0, m⟩ ⟨fun b => m b ∨ b = l, fun _ => False⟩ H1 σ (slots N (.own l (.ins C []) :: ts.map En.dat)) → ∀ D' : Ends,
        Post K ⟨T, fun _ => False, H0, m⟩ ⟨fun b => m b ∨ b = l, fun _ => False⟩ H1 D' { nx := fun M1 Δ1 => SS (cxS P w K mg base N qual scope f (.ref cda) cc A outer s H) ⟨T, fun _ => False, H0, m⟩ M1 Δ1 rest ⟨fun M' Δ' => (∀ b, M'.m b ↔ m b ∨ b = l) ∧ ∃ fs, post ts fs ∧ Δ'[0]? = some (.own l (.ins C fs)), fun _ _ => False, fun _ _ => False, fun _ _ => False⟩, rt := fun _ _ => False } →
        W1at (cxS P w K mg base N qual scope f (.ref cda) cc A outer s H) (st :: rest) st D' σ H1) :
    FnOk P w K mg base CX0 (k + 1) f (PySem.W.ksFn name qual params (st :: rest) scope dV kV doc pm an (.ref cda) ct cc) (y :: ps) (spI K T C pre post) := by
  refine fn_ofS lk hcd S hcell (fun vs H Q E h => ?_) (fun A outer s H vs Q E hr h => ?_)
  · obtain ⟨m, l, dx, vs', ts, rfl, _, _, d, hp, _⟩ := h
    rw [List.length_cons, List.length_cons, d.length, hpre ts hp]
  · obtain ⟨m, l, dx, vs', ts, rfl, nm, hl, d, hp, al, tb, q⟩ := h
    have hlen : ts.length = ps.length := hpre ts hp
    have e0 : ∀ (i : Nat) (e : En), (En.own l (.ins C []) :: ts.map En.dat)[i]? = some e → ∀ a, e.adr = some a → i = 0 := fun i e he a ea => by
      cases i with
      | zero => rfl
      | succ i =>
        rw [List.getElem?_cons_succ, List.getElem?_map] at he
        cases h : ts[i]? with
        | none => rw [h] at he; cases he
        | some t => rw [h] at he; cases he; cases ea
    have Sk0 : Sk K ⟨T, fun _ => False, without H l, m⟩ ⟨fun b => m b ∨ b = l, fun _ => False⟩ H (L2.start N (.ref l :: vs')) (slots N (.own l (.ins C []) :: ts.map En.dat)) := by
      have hl2 : (V.ref l :: vs').length = (En.own l (.ins C []) :: ts.map En.dat).length := by simp [d.length]
      refine { len := ?_, al := fun b z => z.elim (al b) fun e => ⟨.ins C dx [], by rw [e]; exact hl⟩, wm := fun b z => z.elim, m0 := fun b z => .inl z, pm := fun b z => z.elim, own := fun b z => z.elim .inl fun e => .inr ?_, wp := fun b z => z.elim, fr := ⟨fun b o _ n e => (without_some.mp e).2, fun b ps e => ⟨ps, (without_some.mp e).2⟩⟩, tb := tb, dis := fun i j e f a he hf ea fa => ?_, sl := fun i e q => ?_ }
      · unfold L2.start slots
        rw [List.length_append, List.length_append, List.length_map, List.length_replicate, List.length_replicate]
        simp [d.length]
      · rw [e]
        cases z : without H l l with
        | none => exact z
        | some o => exact absurd rfl (without_some.mp z).1
      · rcases start_get (N := N) hl2 he with ⟨_, _, _, z⟩ | ⟨_, rfl⟩
        · rcases start_get (N := N) hl2 hf with ⟨_, _, _, z2⟩ | ⟨_, rfl⟩
          · rw [e0 i e z a ea, e0 j f z2 a fa]
          · cases fa
        · cases ea
      · rcases start_get (N := N) hl2 q with ⟨v, h1, h2, h3⟩ | ⟨h1, rfl⟩
        · refine ⟨_, h1, ?_⟩
          cases i with
          | zero => cases h2; cases h3; exact ⟨rfl, .inr rfl, nm, id, dx, [], hl, .nil⟩
          | succ i =>
            rw [List.getElem?_cons_succ] at h2 h3
            rw [List.getElem?_map] at h3
            cases h : ts[i]? with
            | none => rw [h] at h3; cases h3
            | some t =>
              rw [h] at h3; cases h3
              obtain ⟨v', g1, g2⟩ := d.get h
              rw [h2] at g1; cases g1
              exact g2
        · exact ⟨_, h1, True.intro⟩
    refine wsat_cons (hb A outer s H (without H l) m l ts hr hp _ H Sk0 _ ⟨fun M1 Δ1 σ1 H1 a s1 S1 => ?_, fun _ _ _ _ _ _ z => z.elim, fun _ _ _ _ z => z.elim, fun _ _ _ _ z => z.elim⟩)
    refine a σ1 H1 S1 _ ⟨fun M' Δ' σ' H' a b z => ?_, fun _ _ _ _ _ _ z => z.elim, fun _ _ _ _ z => z.elim, fun _ _ _ _ z => z.elim⟩
    obtain ⟨hM, fs, a1, a2⟩ := a
    have ow := (z.ownAt a2).2.2.2.2
    exact q fs H' a1 (fe_without z.fr fun ps e => by rw [hl] at e; cases e) z.tb (ow.mono (mi_le fun b y => (hM b).mpr y) fun _ _ y => y)
end
end Wf

set_option Elab.async false
set_option linter.all false
set_option maxRecDepth 100000
set_option maxHeartbeats 2000000
namespace Wf
open PySem PySem.Spec PyProof.Rows L2 LamX
section
variable {X : Cx} {B : Bs} {M : Pl} {Δ : List En} {e1 rhs : Expr} {Ψ : Eo} {Φ : Tr → List En → Prop}
/-- xs[i] = a on an owned list -/
theorem s_set1 (i : Nat) {x : Str} {px p1 pos : Pos} {l : Addr} (hN : X.N[i]? = some x)
    (h : EE X B M Δ rhs fun t Δ1 => ∃ ts0, Δ1[i]? = some (.own l (.lst ts0)) ∧ EE X B M Δ1 e1 fun k1 Δ2 => ∃ ts j1 z1, Δ2[i]? = some (.own l (.lst ts)) ∧ k1 = .int z1 ∧ ixN ts.length z1 = some j1 ∧ Ψ.nx M (Δ2.set i (.own l (.lst (ts.set j1 t)))))
    (hE : PS X (.Assign [.Subscript (.Name x px) e1 p1] rhs pos) (tAsg (WE X rhs) (gSub (tVar i) (WE X e1) rSetL))) :
    S1 X B M Δ (.Assign [.Subscript (.Name x px) e1 p1] rhs pos) Ψ := fun σ H S D p =>
  PS.to hE (h σ H S _ fun t Δ1 v H1 q f S1 d => by
    obtain ⟨ts0, g0, q⟩ := q
    obtain ⟨a1, _⟩ := S1.ownAt g0
    refine ⟨_, a1, q σ H1 S1 _ fun k1 Δ2 v1 H2 q2 f2 S2 dk => ?_⟩
    obtain ⟨ts, j1, z1, b1, rfl, b2, q3⟩ := q2
    cases dk
    obtain ⟨c1, _, _, _, xs, c2, c3⟩ := S2.ownAt b1
    have ea := a1.symm.trans c1
    injection ea with ea
    injection ea with ea
    refine ⟨l, xs, z1, j1, ea, rfl, c2, by rw [c3.length]; exact b2, ?_⟩
    obtain ⟨S3, s3⟩ := S2.write (o := .lst (xs.set j1 v)) (t' := .lst (ts.set j1 t)) b1 ⟨_, upd_same, Dts.setAt (d.mono (S1.sub f2)) c3 j1⟩
    exact p.nx M _ σ _ q3 (((S.sub f).trans (S1.sub f2)).trans s3) S3)
/-! repr of None, True, False -/
def markS : Option Bool → Str
  | none => "None"
  | some b => if b then "True" else "False"
def markT : Option Bool → Tr
  | none => .non
  | some b => .bl b
def markV : Option Bool → V
  | none => .non
  | some b => .bl b
theorem call_reprM : CallR X (.builtin "repr") (fun xs H Q => ∃ o, xs = [markV o] ∧ Q (.str (markS o)) H) := by
  intro pins s σ H xs us Q I r h
  obtain ⟨o, rfl, q⟩ := h
  obtain ⟨u, rfl, ru⟩ := vals1 r
  cases o with
  | none =>
    obtain rfl : u = Value.none := ru
    exact PySem.P.repr_of_none ⟨.str _, H, I.tok _, ⟨_, rfl⟩, q⟩
  | some b =>
    obtain rfl : u = Value.bool b := ru
    exact PySem.P.repr_of_bool ⟨.str _, H, I.tok _, ⟨_, rfl⟩, q⟩
theorem cl_reprM : CalD X (.builtin "repr") B M Φ fun ts Δ2 => ∃ o, ts = [markT o] ∧ Φ (.str (markS o)) Δ2 :=
  ⟨_, call_reprM, fun ts Δ2 p σ H vs Q S d k => by
    obtain ⟨o, rfl, q⟩ := p
    cases d with
    | cons d1 d2 =>
      cases d2
      refine ⟨o, ?_, k _ _ _ H q (Fe.refl _ _) S (.str _)⟩
      cases o with
      | none => cases d1; rfl
      | some b => cases d1; rfl⟩
end
end Wf

set_option Elab.async false
set_option linter.all false
set_option maxRecDepth 100000
set_option maxHeartbeats 4000000
namespace Toy
open PySem PySem.Spec PyProof.Rows L2 LamX Wf
def top (i : Nat) : Stmt := PySem.Challenge.pw_wordfit_k24_whole_words_one_after_anothe.main.body.getD i (.Pass ⟨0, 0, 0, 0⟩)
abbrev s_wall : Stmt := top 0
theorem sc_wall : FnScope ["k"] ["k"] (defScope s_wall) := ⟨rfl, rfl, rfl, by decide +kernel, rfl, by decide +kernel, by decide +kernel⟩
abbrev s_InvalidLetters__init_ : Stmt := inClass (top 2) 0
theorem sc_InvalidLetters__init_ : FnScope ["self"] ["self"] (defScope s_InvalidLetters__init_) := ⟨rfl, rfl, rfl, by decide +kernel, rfl, by decide +kernel, by decide +kernel⟩
abbrev s_InvalidWord__init_ : Stmt := inClass (top 3) 0
theorem sc_InvalidWord__init_ : FnScope ["self", "word"] ["self", "word"] (defScope s_InvalidWord__init_) := ⟨rfl, rfl, rfl, by decide +kernel, rfl, by decide +kernel, by decide +kernel⟩
abbrev s_InvalidMachine__init_ : Stmt := inClass (top 4) 0
theorem sc_InvalidMachine__init_ : FnScope ["self", "state"] ["self", "state"] (defScope s_InvalidMachine__init_) := ⟨rfl, rfl, rfl, by decide +kernel, rfl, by decide +kernel, by decide +kernel⟩
abbrev s_NotComplete__init_ : Stmt := inClass (top 5) 0
theorem sc_NotComplete__init_ : FnScope ["self", "state"] ["self", "state"] (defScope s_NotComplete__init_) := ⟨rfl, rfl, rfl, by decide +kernel, rfl, by decide +kernel, by decide +kernel⟩
abbrev s_InvalidText__init_ : Stmt := inClass (top 6) 0
theorem sc_InvalidText__init_ : FnScope ["self", "line"] ["self", "line"] (defScope s_InvalidText__init_) := ⟨rfl, rfl, rfl, by decide +kernel, rfl, by decide +kernel, by decide +kernel⟩
abbrev s_TooLarge__init_ : Stmt := inClass (top 7) 0
theorem sc_TooLarge__init_ : FnScope ["self", "limit"] ["self", "limit"] (defScope s_TooLarge__init_) := ⟨rfl, rfl, rfl, by decide +kernel, rfl, by decide +kernel, by decide +kernel⟩
abbrev s_is_whole : Stmt := top 12
theorem sc_is_whole : FnScope ["value", "least", "most"] ["value", "least", "most"] (defScope s_is_whole) := ⟨rfl, rfl, rfl, by decide +kernel, rfl, by decide +kernel, by decide +kernel⟩
abbrev s_is_sequence : Stmt := top 13
theorem sc_is_sequence : FnScope ["value"] ["value"] (defScope s_is_sequence) := ⟨rfl, rfl, rfl, by decide +kernel, rfl, by decide +kernel, by decide +kernel⟩
abbrev s_is_mark : Stmt := top 14
theorem sc_is_mark : FnScope ["value"] ["value"] (defScope s_is_mark) := ⟨rfl, rfl, rfl, by decide +kernel, rfl, by decide +kernel, by decide +kernel⟩
abbrev s_is_letters : Stmt := top 15
theorem sc_is_letters : FnScope ["value", "places", "letter", "at"] ["value"] (defScope s_is_letters) := ⟨rfl, rfl, rfl, by decide +kernel, rfl, by decide +kernel, by decide +kernel⟩
abbrev s_need_letters : Stmt := top 16
theorem sc_need_letters : FnScope ["value"] ["value"] (defScope s_need_letters) := ⟨rfl, rfl, rfl, by decide +kernel, rfl, by decide +kernel, by decide +kernel⟩
abbrev s_is_word : Stmt := top 17
theorem sc_is_word : FnScope ["letters", "value", "letter"] ["letters", "value"] (defScope s_is_word) := ⟨rfl, rfl, rfl, by decide +kernel, rfl, by decide +kernel, by decide +kernel⟩
abbrev s_need_word : Stmt := top 18
theorem sc_need_word : FnScope ["letters", "value"] ["letters", "value"] (defScope s_need_word) := ⟨rfl, rfl, rfl, by decide +kernel, rfl, by decide +kernel, by decide +kernel⟩
abbrev s_lines_of : Stmt := top 24
theorem sc_lines_of : FnScope ["text"] ["text"] (defScope s_lines_of) := ⟨rfl, rfl, rfl, by decide +kernel, rfl, by decide +kernel, by decide +kernel⟩
abbrev s_letters_in : Stmt := top 25
theorem sc_letters_in : FnScope ["line", "head", "parts"] ["line", "head"] (defScope s_letters_in) := ⟨rfl, rfl, rfl, by decide +kernel, rfl, by decide +kernel, by decide +kernel⟩
abbrev s_number_in : Stmt := top 26
theorem sc_number_in : FnScope ["part", "sign"] ["part"] (defScope s_number_in) := ⟨rfl, rfl, rfl, by decide +kernel, rfl, by decide +kernel, by decide +kernel⟩
abbrev s_machine_text : Stmt := top 27
theorem sc_machine_text : FnScope ["letters", "transitions", "marks", "rows", "mark", "targets"] ["letters", "transitions", "marks"] (defScope s_machine_text) := ⟨rfl, rfl, rfl, by decide +kernel, rfl, by decide +kernel, by decide +kernel⟩
abbrev s_state_text : Stmt := top 28
theorem sc_state_text : FnScope ["mark", "targets", "sign", "target"] ["mark", "targets"] (defScope s_state_text) := ⟨rfl, rfl, rfl, by decide +kernel, rfl, by decide +kernel, by decide +kernel⟩
abbrev s_state_in : Stmt := top 29
theorem sc_state_in : FnScope ["line", "letters", "may_be_open", "sign", "parts", "targets", "part", "target"] ["line", "letters", "may_be_open"] (defScope s_state_in) := ⟨rfl, rfl, rfl, by decide +kernel, rfl, by decide +kernel, by decide +kernel⟩
abbrev s_machine_parts : Stmt := top 30
theorem sc_machine_parts : FnScope ["text", "may_be_open", "head", "rows", "letters", "states", "number", "line", "state", "far", "mark", "targets", "target"] ["text", "may_be_open"] (defScope s_machine_parts) := ⟨rfl, rfl, rfl, by decide +kernel, rfl, by decide +kernel, by decide +kernel⟩
abbrev s_is_target : Stmt := top 32
theorem sc_is_target : FnScope ["value", "size"] ["value", "size"] (defScope s_is_target) := ⟨rfl, rfl, rfl, by decide +kernel, rfl, by decide +kernel, by decide +kernel⟩
abbrev s_are_targets : Stmt := top 33
theorem sc_are_targets : FnScope ["letters", "value", "size", "target"] ["letters", "value", "size"] (defScope s_are_targets) := ⟨rfl, rfl, rfl, by decide +kernel, rfl, by decide +kernel, by decide +kernel⟩
abbrev s_need_machine : Stmt := top 34
theorem sc_need_machine : FnScope ["letters", "transitions", "marks", "state", "row"] ["letters", "transitions", "marks"] (defScope s_need_machine) := ⟨rfl, rfl, rfl, by decide +kernel, rfl, by decide +kernel, by decide +kernel⟩
abbrev s_Machine__init_ : Stmt := inClass (top 35) 1
theorem sc_Machine__init_ : FnScope ["self", "letters", "transitions", "marks", "row"] ["self", "letters", "transitions", "marks"] (defScope s_Machine__init_) := ⟨rfl, rfl, rfl, by decide +kernel, rfl, by decide +kernel, by decide +kernel⟩
abbrev s_Machine__eq_ : Stmt := inClass (top 35) 2
theorem sc_Machine__eq_ : FnScope ["self", "other"] ["self", "other"] (defScope s_Machine__eq_) := ⟨rfl, rfl, rfl, by decide +kernel, rfl, by decide +kernel, by decide +kernel⟩
abbrev s_Machine_of_rows : Stmt := inClass (top 35) 3
theorem sc_Machine_of_rows : FnScope ["cls", "letters", "rows"] ["cls", "letters", "rows"] (defScope s_Machine_of_rows) := ⟨rfl, rfl, rfl, by decide +kernel, rfl, by decide +kernel, by decide +kernel⟩
abbrev s_Machine_read : Stmt := inClass (top 35) 4
theorem sc_Machine_read : FnScope ["cls", "text", "letters", "transitions", "marks"] ["cls", "text"] (defScope s_Machine_read) := ⟨rfl, rfl, rfl, by decide +kernel, rfl, by decide +kernel, by decide +kernel⟩
abbrev s_Machine_text : Stmt := inClass (top 35) 5
theorem sc_Machine_text : FnScope ["self"] ["self"] (defScope s_Machine_text) := ⟨rfl, rfl, rfl, by decide +kernel, rfl, by decide +kernel, by decide +kernel⟩
abbrev s_Machine_letters : Stmt := inClass (top 35) 6
theorem sc_Machine_letters : FnScope ["self"] ["self"] (defScope s_Machine_letters) := ⟨rfl, rfl, rfl, by decide +kernel, rfl, by decide +kernel, by decide +kernel⟩
abbrev s_Machine_transitions : Stmt := inClass (top 35) 7
theorem sc_Machine_transitions : FnScope ["self"] ["self"] (defScope s_Machine_transitions) := ⟨rfl, rfl, rfl, by decide +kernel, rfl, by decide +kernel, by decide +kernel⟩
abbrev s_Machine_marks : Stmt := inClass (top 35) 8
theorem sc_Machine_marks : FnScope ["self"] ["self"] (defScope s_Machine_marks) := ⟨rfl, rfl, rfl, by decide +kernel, rfl, by decide +kernel, by decide +kernel⟩
abbrev s_Machine_size : Stmt := inClass (top 35) 9
theorem sc_Machine_size : FnScope ["self"] ["self"] (defScope s_Machine_size) := ⟨rfl, rfl, rfl, by decide +kernel, rfl, by decide +kernel, by decide +kernel⟩
abbrev s_Machine_target : Stmt := inClass (top 35) 10
theorem sc_Machine_target : FnScope ["self", "state", "letter"] ["self", "state", "letter"] (defScope s_Machine_target) := ⟨rfl, rfl, rfl, by decide +kernel, rfl, by decide +kernel, by decide +kernel⟩
abbrev s_Machine_run : Stmt := inClass (top 35) 11
theorem sc_Machine_run : FnScope ["self", "word", "state", "letter"] ["self", "word"] (defScope s_Machine_run) := ⟨rfl, rfl, rfl, by decide +kernel, rfl, by decide +kernel, by decide +kernel⟩
abbrev s_Machine_answer : Stmt := inClass (top 35) 12
theorem sc_Machine_answer : FnScope ["self", "word", "state"] ["self", "word"] (defScope s_Machine_answer) := ⟨rfl, rfl, rfl, by decide +kernel, rfl, by decide +kernel, by decide +kernel⟩
abbrev s_Machine_walk : Stmt := inClass (top 35) 13
abbrev s_Complete__init_ : Stmt := inClass (top 36) 1
abbrev s_law_pen : Stmt := top 38
theorem sc_law_pen : FnScope ["script"] ["script"] (defScope s_law_pen) := ⟨rfl, rfl, rfl, by decide +kernel, rfl, by decide +kernel, by decide +kernel⟩
abbrev s_law_draw : Stmt := top 39
theorem sc_law_draw : FnScope ["pen", "many", "digit", "spot", "cell", "mix"] ["pen", "many"] (defScope s_law_draw) := ⟨rfl, rfl, rfl, by decide +kernel, rfl, by decide +kernel, by decide +kernel⟩
abbrev s_law_pick : Stmt := top 40
theorem sc_law_pick : FnScope ["pen", "some"] ["pen", "some"] (defScope s_law_pick) := ⟨rfl, rfl, rfl, by decide +kernel, rfl, by decide +kernel, by decide +kernel⟩
abbrev s_law_shuffled : Stmt := top 41
theorem sc_law_shuffled : FnScope ["pen", "some", "rest", "found"] ["pen", "some"] (defScope s_law_shuffled) := ⟨rfl, rfl, rfl, by decide +kernel, rfl, by decide +kernel, by decide +kernel⟩
abbrev s_law_letters : Stmt := top 42
theorem sc_law_letters : FnScope ["pen", "most", "alphabet", "places", "at"] ["pen", "most"] (defScope s_law_letters) := ⟨rfl, rfl, rfl, by decide +kernel, rfl, by decide +kernel, by decide +kernel⟩
abbrev s_law_word : Stmt := top 43
theorem sc_law_word : FnScope ["pen", "letters", "most", "at"] ["pen", "letters", "most"] (defScope s_law_word) := ⟨rfl, rfl, rfl, by decide +kernel, rfl, by decide +kernel, by decide +kernel⟩
abbrev s_law_table : Stmt := top 44
theorem sc_law_table : FnScope ["pen", "letters", "size", "is_full", "rows", "marks", "state", "row", "letter", "target"] ["pen", "letters", "size", "is_full"] (defScope s_law_table) := ⟨rfl, rfl, rfl, by decide +kernel, rfl, by decide +kernel, by decide +kernel⟩
abbrev s_law_begun_at : Stmt := top 45
theorem sc_law_begun_at : FnScope ["machine", "state", "order", "rows", "old", "target"] ["machine", "state"] (defScope s_law_begun_at) := ⟨rfl, rfl, rfl, by decide +kernel, rfl, by decide +kernel, by decide +kernel⟩
abbrev s_law : Stmt := top 46
theorem sc_law : FnScope ["script", "pen", "bout", "letters", "is_full", "rows", "marks", "machine", "again", "one", "two", "state", "later", "way", "rest", "order", "step"] ["script"] (defScope s_law) := ⟨rfl, rfl, rfl, by decide +kernel, rfl, by decide +kernel, by decide +kernel⟩
end Toy


set_option Elab.async false
set_option linter.all false
set_option maxRecDepth 100000
set_option maxHeartbeats 4000000
namespace Toy
open PySem PySem.Spec PyProof.Rows L2 LamX Wf
section
variable {P : Program} {w : World} {K : PySem.W.Frag} {mg : Str → Option Value} {base : Heap} {T : List (Addr × Str)} {f : Addr} {fd : FuncData}
def drawPre (ts : List Tr) : Prop := ∃ n : Int, ts = [.int n] ∧ 1 ≤ n ∧ n < 1073741824
def drawPost (ts : List Tr) (t : Tr) : Prop := ∃ n i : Int, ts = [.int n] ∧ t = .int i ∧ 0 ≤ i ∧ i < n
theorem mod_lt' {a b : Int} (h : 0 < b) : 0 ≤ a % b ∧ a % b < b := ⟨Int.emod_nonneg a (by omega), Int.emod_lt_of_pos a h⟩
theorem div_nn {a b : Int} (h : 0 ≤ a) (hb : 0 < b) : 0 ≤ a / b := Int.ediv_nonneg h (by omega)
theorem cmulL {i j : Int} (h1 : 0 ≤ i) (h2 : i < 18446744073709551616) : CMul i j := .inl ⟨by omega, by omega⟩
theorem cmulR {i j : Int} (h1 : 0 ≤ j) (h2 : j < 18446744073709551616) : CMul i j := .inr ⟨by omega, by omega⟩
theorem atI_map {ns : List Int} {i : Int} (h0 : 0 ≤ i) (h : i < ns.length) : ∃ n, atI (ns.map Tr.int) i = some (.int n) := by
  have hl : i.toNat < ns.length := by omega
  refine ⟨ns[i.toNat], ?_⟩
  unfold atI ixN
  rw [List.length_map, if_pos h0, if_pos h]
  show (ns.map Tr.int)[i.toNat]? = _
  rw [List.getElem?_map]
  simp [hl]
theorem ok_draw (F : Fun K "_law_draw" "_law_draw" s_law_draw f fd) (zL : mg "len" = none) (zA : mg "abs" = none) : FnOk P w K mg base CX0 2 f fd ["pen", "many"] (spP K T drawPre (fun _ => 1) drawPost) := by
  refine ok_P F sc_law_draw (by rintro _ ⟨n, rfl, _⟩; rfl) (by decide) (fun cdv A outer s H E m p c ts hr hp hc => ?_)
  obtain ⟨n, rfl, h1, h2⟩ := hp
  have hu := hu_of hr
  have hu2 := hr.units
  refine ss_cons ?_
  refine s_if ?_
  refine et_cmp cd_gt ?_
  refine ee_penMore 0 hu rfl rfl fun mo hmo => ?_
  refine ee_int ?_
  refine ⟨_, _, rfl, rfl, fun h => ?_, fun h => ?_⟩
  · refine ss_cons (s_asg 2 sc_law_draw.nd rfl ?_)
    refine ee_mod (ee_penMore 0 hu rfl rfl fun mo2 hm2 => ?_)
    refine ee_name 1 rfl rfl ⟨_, _, rfl, rfl, by omega, ?_⟩
    have hb := mod_lt' (a := mo2) (b := n) (by omega)
    refine ss_cons (s_penMore 0 hu rfl rfl ?_)
    refine ee_fdiv (ee_penMore 0 hu rfl rfl fun mo3 hm3 => ?_)
    refine ee_name 1 rfl rfl ⟨_, _, rfl, rfl, ⟨by omega, by omega⟩, ?_⟩
    refine ⟨_, _, rfl, div_nn hm3 (by omega), rfl, ?_⟩
    refine ss_one (s_ret (ee_name 2 rfl rfl ?_))
    exact ⟨⟨_, _, rfl, rfl, hb.1, hb.2⟩, c, Nat.le_succ _, rfl⟩
  · refine ss_nil ?_
    refine ss_cons (s_asg 3 sc_law_draw.nd rfl ?_)
    refine ee_penSpot 0 hu rfl rfl fun sp hs1 hs2 => ?_
    have hspm : sp < 18446744073709551616 := by
      have : c + 1 ≤ 1000000000 := hc
      omega
    refine ss_cons (s_penSpot 0 hu rfl rfl ?_)
    refine ee_add (ee_name 3 rfl rfl (ee_int ⟨_, _, rfl, rfl, ?_⟩))
    refine ⟨_, c, c + 1, rfl, by omega, by omega, rfl, ?_⟩
    refine ss_cons (s_asg 4 sc_law_draw.nd rfl ?_)
    -- the cell: some number
    refine EE.mono (Φ := fun t Δ' => (∃ z : Int, t = .int z) ∧ Δ' = slots ["pen", "many", "digit", "spot", "cell", "mix"] [.pen p (c + 1), .dat (.int n), .any, .dat (.int sp)]) ?_ ?_
    · refine ee_if ?_
      refine et_cmp (cd_neD hu2) ?_
      refine ee_penCells 0 hu rfl rfl fun hl => ?_
      refine (eo_lst (ea_nil ⟨Nat.zero_le _, ?_⟩)).ee
      refine ⟨(good_ints (d := 1)).eqOk, (good_ints (ns := []) (d := 1)).eqOk, fun h => ?_, fun h => ?_⟩
      · have hne : 0 < p.cs.length := by
          have h := h
          rw [eqv_nil] at h
          cases e : p.cs with
          | nil => rw [e] at h; cases h
          | cons _ _ => simp
        refine ee_ixL (ee_penCells 0 hu rfl rfl fun hl => ?_)
        refine ee_mod (ee_name 3 rfl rfl ?_)
        refine ee_callB cl_len rfl zL PySem.boot_len (ea_cons (ee_penCells 0 hu rfl rfl fun hl => ea_nil ?_))
        have hb := mod_lt' (a := sp) (b := (p.cs.length : Int)) (by omega)
        obtain ⟨z, hz⟩ := atI_map (ns := p.cs) hb.1 hb.2
        refine ⟨_, rfl, _, .inl rfl, _, _, rfl, rfl, ?_, _, _, _, rfl, rfl, ?_, ⟨z, rfl⟩, rfl⟩
        · rw [List.length_map]; omega
        · rw [List.length_map]; exact hz
      · refine ee_add (ee_mul (ee_int (ee_name 3 rfl rfl ⟨_, _, rfl, rfl, cmulL (by decide) (by decide), ee_int ⟨_, _, rfl, rfl, ⟨_, rfl⟩, rfl⟩⟩)))
    rintro _ _ ⟨⟨cell, rfl⟩, rfl⟩
    refine ss_cons (s_if ?_)
    refine et_and2 ?_
    refine et_cmp cd_lt (ee_name 3 rfl rfl ?_)
    refine ee_callB cl_len rfl zL PySem.boot_len (ea_cons (ee_penCells 0 hu rfl rfl fun hl => ea_nil ⟨_, rfl, _, .inl rfl, ?_⟩))
    have tail : SS (cxOf CX0 P w K mg base ["pen", "many", "digit", "spot", "cell", "mix"] "_law_draw" (defScope s_law_draw) f cdv A outer s H E).nox (bP T p H m) ⟨m, fun b => b = p.l⟩ [.pen p (c + 1), .dat (.int n), .any, .dat (.int sp), .dat (.int cell), .any] ((defBody s_law_draw).drop 5)
        ⟨fun _ Δ' => drawPost [.int n] .non ∧ ∃ c', c' ≤ c + 1 ∧ Δ'[0]? = some (.pen p c'), fun t Δ' => drawPost [.int n] t ∧ ∃ c', c' ≤ c + 1 ∧ Δ'[0]? = some (.pen p c'), fun _ _ => False, fun _ _ => False⟩ := by
      have b1 := mod_lt' (a := cell) (b := 2147483647) (by decide)
      refine ss_cons (s_asg 5 sc_law_draw.nd rfl ?_)
      refine EE.mono (Φ := fun t Δ' => (∃ z : Int, t = .int z ∧ 0 ≤ z ∧ z < 2147483629) ∧ Δ' = [.pen p (c + 1), .dat (.int n), .any, .dat (.int sp), .dat (.int cell), .any]) ?_ ?_
      · 
        refine ee_mod ?_
        refine ee_add ?_
        refine ee_add ?_
        refine ee_add ?_
        refine ee_mul ?_
        refine ee_mod ?_
        refine ee_name 4 rfl rfl ?_
        refine ee_int ?_
        refine ⟨_, _, rfl, rfl, (by first | decide | omega | assumption), ?_⟩
        refine ee_int ?_
        refine ⟨_, _, rfl, rfl, (by first | exact cmulL (by decide) (by decide) | exact cmulR (by decide) (by decide) | (apply cmulL <;> omega) | (apply cmulR <;> omega)), ?_⟩
        refine ee_mul ?_
        refine ee_mul ?_
        refine ee_int ?_
        refine ee_name 3 rfl rfl ?_
        refine ⟨_, _, rfl, rfl, (by first | exact cmulL (by decide) (by decide) | exact cmulR (by decide) (by decide) | (apply cmulL <;> omega) | (apply cmulR <;> omega)), ?_⟩
        refine ee_name 3 rfl rfl ?_
        refine ⟨_, _, rfl, rfl, (by first | exact cmulL (by decide) (by decide) | exact cmulR (by decide) (by decide) | (apply cmulL <;> omega) | (apply cmulR <;> omega)), ?_⟩
        refine ⟨_, _, rfl, rfl, ?_⟩
        refine ee_mul ?_
        refine ee_int ?_
        refine ee_name 3 rfl rfl ?_
        refine ⟨_, _, rfl, rfl, (by first | exact cmulL (by decide) (by decide) | exact cmulR (by decide) (by decide) | (apply cmulL <;> omega) | (apply cmulR <;> omega)), ?_⟩
        refine ⟨_, _, rfl, rfl, ?_⟩
        refine ee_int ?_
        refine ⟨_, _, rfl, rfl, ?_⟩
        refine ee_int ?_
        refine ⟨_, _, rfl, rfl, (by first | decide | omega | assumption), ?_⟩
        exact ⟨⟨_, rfl, mod_lt' (by decide)⟩, rfl⟩
      rintro _ _ ⟨⟨mix, rfl, m1, m2⟩, rfl⟩
      refine ss_cons (s_asg 5 sc_law_draw.nd rfl ?_)
      refine EE.mono (Φ := fun t Δ' => (∃ z : Int, t = .int z ∧ 0 ≤ z ∧ z < 2147483587) ∧ Δ' = [.pen p (c + 1), .dat (.int n), .any, .dat (.int sp), .dat (.int cell), .dat (.int mix)]) ?_ ?_
      · 
        refine ee_mod ?_
        refine ee_add ?_
        refine ee_add ?_
        refine ee_add ?_
        refine ee_mul ?_
        refine ee_name 5 rfl rfl ?_
        refine ee_name 5 rfl rfl ?_
        refine ⟨_, _, rfl, rfl, (by first | exact cmulL (by decide) (by decide) | exact cmulR (by decide) (by decide) | (apply cmulL <;> omega) | (apply cmulR <;> omega)), ?_⟩
        refine ee_mul ?_
        refine ee_int ?_
        refine ee_name 5 rfl rfl ?_
        refine ⟨_, _, rfl, rfl, (by first | exact cmulL (by decide) (by decide) | exact cmulR (by decide) (by decide) | (apply cmulL <;> omega) | (apply cmulR <;> omega)), ?_⟩
        refine ⟨_, _, rfl, rfl, ?_⟩
        refine ee_mul ?_
        refine ee_int ?_
        refine ee_name 3 rfl rfl ?_
        refine ⟨_, _, rfl, rfl, (by first | exact cmulL (by decide) (by decide) | exact cmulR (by decide) (by decide) | (apply cmulL <;> omega) | (apply cmulR <;> omega)), ?_⟩
        refine ⟨_, _, rfl, rfl, ?_⟩
        refine ee_int ?_
        refine ⟨_, _, rfl, rfl, ?_⟩
        refine ee_int ?_
        refine ⟨_, _, rfl, rfl, (by first | decide | omega | assumption), ?_⟩
        exact ⟨⟨_, rfl, mod_lt' (by decide)⟩, rfl⟩
      rintro _ _ ⟨⟨mix, rfl, m1, m2⟩, rfl⟩
      refine ss_one (s_ret ?_)
      refine ee_mod ?_
      refine ee_fdiv ?_
      refine ee_mod ?_
      refine ee_mul ?_
      refine ee_name 5 rfl rfl ?_
      refine ee_add ?_
      refine ee_name 5 rfl rfl ?_
      refine ee_int ?_
      refine ⟨_, _, rfl, rfl, ?_⟩
      refine ⟨_, _, rfl, rfl, (by first | exact cmulL (by decide) (by decide) | exact cmulR (by decide) (by decide) | (apply cmulL <;> omega) | (apply cmulR <;> omega)), ?_⟩
      refine ee_int ?_
      refine ⟨_, _, rfl, rfl, (by first | decide | omega | assumption), ?_⟩
      refine ee_int ?_
      refine ⟨_, _, rfl, rfl, ⟨by omega, by omega⟩, ?_⟩
      refine ee_name 1 rfl rfl ?_
      refine ⟨_, _, rfl, rfl, (by first | decide | omega | assumption), ?_⟩
      exact ⟨⟨_, _, rfl, rfl, mod_lt' (by omega)⟩, c + 1, Nat.le_refl _, rfl⟩
    refine ⟨_, _, rfl, rfl, fun hk => ?_, fun hk => ⟨fun z => Bool.noConfusion z, fun _ => ss_nil ?_⟩⟩
    · refine et_cmp cd_ge ?_
      refine ee_callB cl_abs rfl zA PyProof.Rows.boot_abs (ea_cons ?_)
      refine ee_name 4 rfl rfl ?_
      refine ea_nil ⟨_, rfl, ?_⟩
      refine ee_pow ?_
      refine ee_int ?_
      refine ee_int ?_
      refine ⟨_, _, rfl, rfl, ⟨by decide, by decide, by decide⟩, ?_⟩
      refine ⟨_, _, rfl, rfl, fun hk2 => ?_, fun _ => ss_nil tail⟩
      have hk3 := of_decide_eq_true hk2
      refine ss_cons (s_penMore 0 hu rfl rfl ?_)
      refine ee_fdiv ?_
      refine ee_sub ?_
      refine ee_callB cl_abs rfl zA PyProof.Rows.boot_abs (ea_cons ?_)
      refine ee_name 4 rfl rfl ?_
      refine ea_nil ⟨_, rfl, ?_⟩
      refine ee_pow ?_
      refine ee_int ?_
      refine ee_int ?_
      refine ⟨_, _, rfl, rfl, ⟨by decide, by decide, by decide⟩, ?_⟩
      refine ⟨_, _, rfl, rfl, ?_⟩
      refine ee_name 1 rfl rfl ?_
      refine ⟨_, _, rfl, rfl, ⟨by omega, by omega⟩, ?_⟩
      refine ⟨_, c + 1, rfl, div_nn (by omega) (by omega), rfl, ?_⟩
      refine ss_one (s_ret ?_)
      refine ee_mod ?_
      refine ee_sub ?_
      refine ee_callB cl_abs rfl zA PyProof.Rows.boot_abs (ea_cons ?_)
      refine ee_name 4 rfl rfl ?_
      refine ea_nil ⟨_, rfl, ?_⟩
      refine ee_pow ?_
      refine ee_int ?_
      refine ee_int ?_
      refine ⟨_, _, rfl, rfl, ⟨by decide, by decide, by decide⟩, ?_⟩
      refine ⟨_, _, rfl, rfl, ?_⟩
      refine ee_name 1 rfl rfl ?_
      refine ⟨_, _, rfl, rfl, (by first | decide | omega | assumption), ?_⟩
      exact ⟨⟨_, _, rfl, rfl, mod_lt' (by omega)⟩, c + 1, Nat.le_refl _, rfl⟩
    · exact tail
end
end Toy

set_option Elab.async false
set_option linter.all false
set_option maxRecDepth 100000
set_option maxHeartbeats 4000000
namespace Toy
open PySem PySem.Spec PyProof.Rows L2 LamX Wf
section
variable {P : Program} {w : World} {K : PySem.W.Frag} {mg : Str → Option Value} {base : Heap} {T : List (Addr × Str)} {f : Addr} {fd : FuncData}
abbrev FnDraw (P : Program) (w : World) (K : PySem.W.Frag) (mg : Str → Option Value) (base : Heap) (T : List (Addr × Str)) : Prop := Fn P w K mg base "_law_draw" 2 ["pen", "many"] (spP K T drawPre (fun _ => 1) drawPost)
/-! ### _law_pick -/
def pickPre (ts : List Tr) : Prop := (∃ us : List Tr, (ts = [.lst us] ∨ ts = [.tup us]) ∧ 0 < us.length ∧ us.length < 1073741824) ∨ ∃ z : Str, ts = [.str z] ∧ 0 < z.length ∧ z.length ≤ sizeLine
def pickPost (ts : List Tr) (t : Tr) : Prop := (∃ us : List Tr, (ts = [.lst us] ∨ ts = [.tup us]) ∧ t ∈ us) ∨ ∃ (z : Str) (c : Nat), ts = [.str z] ∧ c ∈ z.cps.toList ∧ t = .str ⟨#[c]⟩
theorem atI_mem {α : Type} {us : List α} {i : Int} (h0 : 0 ≤ i) (h : i < us.length) : ∃ t, atI us i = some t ∧ t ∈ us := by
  have hl : i.toNat < us.length := by omega
  refine ⟨us[i.toNat], ?_, List.getElem_mem _⟩
  unfold atI ixN
  rw [if_pos h0, if_pos h]
  show us[i.toNat]? = _
  simp [hl]
theorem strLen (z : Str) : z.cps.toList.length = z.length := by simp [Str.length]
theorem ok_pick (F : Fun K "_law_pick" "_law_pick" s_law_pick f fd) (zL : mg "len" = none) (Fd : FnDraw P w K mg base T) : FnOk P w K mg base CX0 3 f fd ["pen", "some"] (spP K T pickPre (fun _ => 1) pickPost) := by
  refine ok_P F sc_law_pick (by rintro _ (⟨us, rfl | rfl, _⟩ | ⟨z, rfl, _⟩) <;> rfl) (by decide) (fun cdv A outer s H E m p c ts hr hp hc => ?_)
  have hsl : sizeLine = 16777216 := sizeLine_eq
  refine ss_one (s_ret ?_)
  rcases hp with ⟨us, rfl | rfl, h1, h2⟩ | ⟨z, rfl, h1, h2⟩
  · refine ee_ixL (ee_name 1 rfl rfl ?_)
    refine ee_callP 0 rfl rfl Fd hr rfl ?_
    refine ea_cons (ee_callB cl_len rfl zL PySem.boot_len (ea_cons (ee_name 1 rfl rfl (ea_nil ⟨_, rfl, us, .inl rfl, ea_nil ?_⟩))))
    refine ⟨c, rfl, ⟨_, rfl, by omega, by omega⟩, hc, ?_⟩
    rintro _ ⟨n, i, e, rfl, h3, h4⟩
    cases e
    obtain ⟨t, e1, e2⟩ := atI_mem h3 h4
    exact ⟨us, i, t, rfl, rfl, e1, .inl ⟨us, .inl rfl, e2⟩, c + 1, Nat.le_refl _, rfl⟩
  · refine ee_ixT (ee_name 1 rfl rfl ?_)
    refine ee_callP 0 rfl rfl Fd hr rfl ?_
    refine ea_cons (ee_callB cl_len rfl zL PySem.boot_len (ea_cons (ee_name 1 rfl rfl (ea_nil ⟨_, rfl, us, .inr rfl, ea_nil ?_⟩))))
    refine ⟨c, rfl, ⟨_, rfl, by omega, by omega⟩, hc, ?_⟩
    rintro _ ⟨n, i, e, rfl, h3, h4⟩
    cases e
    obtain ⟨t, e1, e2⟩ := atI_mem h3 h4
    exact ⟨us, i, t, rfl, rfl, e1, .inl ⟨us, .inr rfl, e2⟩, c + 1, Nat.le_refl _, rfl⟩
  · refine ee_ixS (ee_name 1 rfl rfl ?_)
    refine ee_callP 0 rfl rfl Fd hr rfl ?_
    refine ea_cons (ee_callB cl_lenS rfl zL PySem.boot_len (ea_cons (ee_name 1 rfl rfl (ea_nil ⟨_, rfl, h2, ea_nil ?_⟩))))
    refine ⟨c, rfl, ⟨_, rfl, by omega, by omega⟩, hc, ?_⟩
    rintro _ ⟨n, i, e, rfl, h3, h4⟩
    cases e
    obtain ⟨t, e1, e2⟩ := atI_mem (us := z.cps.toList) h3 (by rw [strLen]; exact h4)
    exact ⟨z, i, t, rfl, rfl, h2, e1, .inr ⟨z, t, rfl, e2, rfl⟩, c + 1, Nat.le_refl _, rfl⟩
/-! ### _law_shuffled -/
def shufPre (ts : List Tr) : Prop := ∃ us : List Tr, (ts = [.lst us] ∨ ts = [.tup us]) ∧ us.length ≤ 100000 ∧ ∀ u ∈ us, u.good 8
def shufCost (ts : List Tr) : Nat := match ts with | [.lst us] => us.length | [.tup us] => us.length | _ => 0
def shufPost (ts : List Tr) (t : Tr) : Prop := ∃ us vs : List Tr, (ts = [.lst us] ∨ ts = [.tup us]) ∧ t = .lst vs ∧ vs.Perm us
theorem perm_cons_erase {α : Type} : ∀ {us : List α} {n : Nat} {u : α}, us[n]? = some u → (u :: us.eraseIdx n).Perm us
  | [], _, _, h => by simp at h
  | a :: us, 0, u, h => by
    obtain rfl : a = u := Option.some.inj h
    exact List.Perm.refl _
  | a :: us, n + 1, u, h => (List.Perm.swap a u _).trans ((perm_cons_erase (us := us) (n := n) h).cons a)
theorem perm_erase {α : Type} {us ts : List α} {n : Nat} {u : α} (h : us[n]? = some u) : (us.eraseIdx n ++ (ts ++ [u])).Perm (us ++ ts) := by
  have h1 : (u :: us.eraseIdx n).Perm us := perm_cons_erase h
  have h2 : (us.eraseIdx n ++ (ts ++ [u])).Perm (u :: (us.eraseIdx n ++ ts)) := by
    rw [← List.append_assoc]
    exact List.perm_append_singleton u _
  exact h2.trans (List.Perm.append_right ts h1)
theorem ok_shuffled (F : Fun K "_law_shuffled" "_law_shuffled" s_law_shuffled f fd) (zL : mg "len" = none) (zT : mg "list" = none) (Fd : FnDraw P w K mg base T) : FnOk P w K mg base CX0 3 f fd ["pen", "some"] (spP K T shufPre shufCost shufPost) := by
  refine ok_P F sc_law_shuffled (by rintro _ ⟨us, rfl | rfl, _⟩ <;> rfl) (by decide) (fun cdv A outer s H E m p c ts hr hp hc => ?_)
  have hsl : sizeLine = 16777216 := sizeLine_eq
  obtain ⟨us, hts, h1, h2⟩ := hp
  have hcost : shufCost ts = us.length := by rcases hts with rfl | rfl <;> rfl
  obtain ⟨t0, rfl, ht0⟩ : ∃ t0, ts = [t0] ∧ (t0 = .lst us ∨ t0 = .tup us) := by rcases hts with rfl | rfl <;> exact ⟨_, rfl, by simp⟩
  refine ss_cons (s_parOO 2 3 (fun ta ha => ps_par rfl sc_law_shuffled.nd rfl rfl (by decide) rfl rfl ha (by rfl)) (by decide) ?_)
  refine eo_callTy co_list rfl zT (by decide +kernel) (ea_cons (ee_name 1 rfl rfl (ea_nil ⟨us, by rcases ht0 with rfl | rfl <;> simp, fun l1 hl1 => ?_⟩)))
  refine eo_lst (ea_nil ⟨Nat.zero_le _, fun l2 hl2 h21 => ⟨rfl, ?_⟩⟩)
  refine ss_cons (s_while PassesOwn.never (fun n M' Δ' => ∃ xs ys c', M' = ins (ins ⟨m, fun b => b = p.l⟩ l1) l2 ∧ Δ' = [.pen p c', .dat t0, .own l1 (.lst xs), .own l2 (.lst ys)] ∧ (xs ++ ys).Perm us ∧ n = xs.length ∧ c' + xs.length = c + us.length) us.length ⟨us, [], c, rfl, rfl, by rw [List.append_nil], rfl, rfl⟩ ?_)
  rintro n _ _ ⟨xs, ys, c', rfl, rfl, hp, rfl, hc'⟩
  have hlen := hp.length_eq
  rw [List.length_append] at hlen
  refine ET.borrow 2 rfl ?_
  refine et_cmp (cd_neD hr.units) (ee_name 2 rfl rfl (eo_lst (ea_nil ⟨Nat.zero_le _, ?_⟩)).ee)
  refine ⟨(good_lst (d := 8) fun u hu => h2 u (hp.mem_iff.mp (List.mem_append_left _ hu))).eqOk, (good_ints (ns := []) (d := 1)).eqOk, rfl, ?_⟩
  rw [eqv_nil]
  refine ⟨fun h => ?_, fun h => ?_⟩
  · have hx : 0 < xs.length := by
      cases xs with
      | nil => cases h
      | cons _ _ => simp
    refine ss_one (s_appendPop 3 2 rfl rfl rfl rfl (by decide) ?_)
    refine ee_callP 0 rfl rfl Fd hr rfl ?_
    refine ea_cons (EE.borrow 2 rfl (ee_callB cl_len rfl zL PySem.boot_len (ea_cons (ee_name 2 rfl rfl (ea_nil ⟨_, rfl, xs, .inl rfl, rfl, rfl, ea_nil ?_⟩)))))
    refine ⟨c', rfl, ⟨_, rfl, by omega, by omega⟩, by rw [hcost] at hc; show c' + 1 ≤ penMax; omega, ?_⟩
    rintro _ ⟨k, i, e, rfl, h3, h4⟩
    cases e
    have hi : i.toNat < xs.length := by omega
    refine ⟨i.toNat, ys, xs, xs[i.toNat], by rw [Int.toNat_of_nonneg h3], by simp [hi], rfl, rfl, by omega, by omega, ?_⟩
    refine ⟨xs.length - 1, by omega, xs.eraseIdx i.toNat, ys ++ [xs[i.toNat]], c' + 1, rfl, rfl, (perm_erase (by simp [hi])).trans hp, by rw [List.length_eraseIdx, if_pos hi], by rw [List.length_eraseIdx, if_pos hi]; omega⟩
  · have hx : xs = [] := by
      cases xs with
      | nil => rfl
      | cons _ _ => cases h
    subst hx
    refine ss_share 3 rfl (ss_one (s_ret (ee_name 3 rfl rfl ?_)))
    exact ⟨⟨us, ys, by rcases ht0 with rfl | rfl <;> simp, rfl, hp⟩, c', by rw [hcost]; simp at hc'; omega, rfl⟩
end
end Toy

set_option Elab.async false
set_option linter.all false
set_option maxRecDepth 100000
set_option maxHeartbeats 4000000
namespace Toy
open PySem PySem.Spec PyProof.Rows L2 LamX Wf
section
variable {P : Program} {w : World} {K : PySem.W.Frag} {mg : Str → Option Value} {base : Heap} {T : List (Addr × Str)} {f : Addr} {fd : FuncData}
/-- letters: at most n different ones, in order -/
def IsLets (ls : List Nat) (n : Nat) : Prop := 1 ≤ ls.length ∧ ls.length ≤ n ∧ ls.Pairwise (· < ·) ∧ ∀ k ∈ ls, 97 ≤ k ∧ k < 123
abbrev FnShuf (P : Program) (w : World) (K : PySem.W.Frag) (mg : Str → Option Value) (base : Heap) (T : List (Addr × Str)) : Prop := Fn P w K mg base "_law_shuffled" 3 ["pen", "some"] (spP K T shufPre shufCost shufPost)
abbrev FnPick (P : Program) (w : World) (K : PySem.W.Frag) (mg : Str → Option Value) (base : Heap) (T : List (Addr × Str)) : Prop := Fn P w K mg base "_law_pick" 3 ["pen", "some"] (spP K T pickPre (fun _ => 1) pickPost)
def letPre (ts : List Tr) : Prop := ∃ n : Nat, ts = [.int n] ∧ 1 ≤ n ∧ n ≤ 26
def letPost (ts : List Tr) (t : Tr) : Prop := ∃ (n : Nat) (ls : List Nat), ts = [.int n] ∧ t = .str (txt ls) ∧ IsLets ls n
theorem perm_ints {vs : List Tr} {ns : List Int} (h : vs.Perm (ns.map Tr.int)) : ∃ ms : List Int, vs = ms.map Tr.int ∧ ms.Perm ns := by
  have key : ∀ {vs us : List Tr}, vs.Perm us → (∀ t ∈ us, ∃ n, t = Tr.int n) → ∃ ms : List Int, vs = ms.map Tr.int := fun {vs us} h hu => by
    have : ∀ t ∈ vs, ∃ n, t = Tr.int n := fun t ht => hu t (h.mem_iff.mp ht)
    clear h hu
    induction vs with
    | nil => exact ⟨[], rfl⟩
    | cons v vs ih =>
      obtain ⟨n, rfl⟩ := this v List.mem_cons_self
      obtain ⟨ms, rfl⟩ := ih fun t ht => this t (List.mem_cons_of_mem _ ht)
      exact ⟨n :: ms, rfl⟩
  obtain ⟨ms, rfl⟩ := key h fun t ht => by
    obtain ⟨n, _, e⟩ := List.mem_map.mp ht
    exact ⟨n, e.symm⟩
  refine ⟨ms, rfl, ?_⟩
  have g : Tr → Int := fun t => match t with | .int i => i | _ => 0
  have h2 := h.map (fun t : Tr => match t with | .int i => i | _ => (0 : Int))
  rw [List.map_map, List.map_map] at h2
  have e : ((fun t : Tr => match t with | .int i => i | _ => (0 : Int)) ∘ Tr.int) = id := by funext i; rfl
  rw [e, List.map_id, List.map_id] at h2
  exact h2
theorem cut_take {α : Type} {xs : List α} {k : Nat} : cutL xs none (some (k : Int)) = xs.take k := by
  unfold cutL
  rw [HT.sIx_nat, HT.sIx_none, List.drop_zero, Nat.sub_zero]
  by_cases h : k ≤ xs.length
  · rw [Nat.min_eq_left h]
  · rw [Nat.min_eq_right (by omega), List.take_of_length_le (by omega), List.take_of_length_le (by omega)]
abbrev alphaS : Str := "abcdefghijklmnopqrstuvwxyz"
theorem alpha_at {i : Int} (h0 : 0 ≤ i) (h : i < 26) : atI alphaS.cps.toList i = some (i.toNat + 97) := by
  have hl : alphaS.cps.toList.length = 26 := by decide +kernel
  unfold atI ixN
  rw [hl, if_pos h0, if_pos (by omega)]
  show alphaS.cps.toList[i.toNat]? = _
  have key : ∀ j : Nat, j < 26 → alphaS.cps.toList[j]? = some (j + 97) := by decide +kernel
  exact key _ (by omega)
theorem ok_letters (F : Fun K "_law_letters" "_law_letters" s_law_letters f fd) (zT : mg "list" = none) (zR : mg "range" = none) (zS : mg "sorted" = none) (Fd : FnDraw P w K mg base T) (Fs : FnShuf P w K mg base T) :
    FnOk P w K mg base CX0 4 f fd ["pen", "most"] (spP K T letPre (fun _ => 27) letPost) := by
  refine ok_P F sc_law_letters (by rintro _ ⟨n, rfl, _⟩; rfl) (by decide) (fun cdv A outer s H E m p c ts hr hp hc => ?_)
  obtain ⟨n, rfl, h1, h2⟩ := hp
  have hc' : c + 27 ≤ 1000000000 := hc
  have hsl : sizeLine = 16777216 := sizeLine_eq
  refine ss_cons (s_asg 2 sc_law_letters.nd rfl (ee_str ?_))
  refine ss_cons (s_asg 3 sc_law_letters.nd rfl (EO.ee ?_))
  refine eo_callB co_sortedI rfl zS (by decide +kernel) (ea_cons (EO.ee (eo_slL ?_)))
  refine ee_callP 0 rfl rfl Fs hr rfl ?_
  refine ea_cons (EO.ee (eo_listRange rfl rfl zT rfl zR (ee_int ⟨26, rfl, by decide, by decide, ea_nil ?_⟩)))
  have e26 : ((List.range (26 : Int).toNat).map fun i : Nat => Tr.int i) = ((List.range 26).map fun i : Nat => (i : Int)).map Tr.int := by rw [List.map_map]; rfl
  rw [e26]
  refine ⟨c, rfl, ⟨_, .inl rfl, by simp, fun u hu => ?_⟩, ?_, ?_⟩
  · obtain ⟨k, _, rfl⟩ := List.mem_map.mp hu
    exact good_int
  · show c + ((((List.range 26).map fun i : Nat => (i : Int)).map Tr.int)).length ≤ penMax
    simp
    omega
  rintro _ ⟨us, vs, hus, rfl, hperm⟩
  have hus' : us = ((List.range 26).map fun i : Nat => (i : Int)).map Tr.int := by
    rcases hus with e | e
    · cases e; rfl
    · cases e
  subst hus'
  obtain ⟨ms, rfl, hms⟩ := perm_ints hperm
  refine ⟨_, rfl, ep_no (ep_some (ee_add (ee_int ?_)))⟩
  refine ee_callP 0 rfl rfl Fd (hr.mono (by decide)) rfl ?_
  refine ea_cons (ee_name 1 rfl rfl (ea_nil ?_))
  refine ⟨c + 26, rfl, ⟨_, rfl, by omega, by omega⟩, by show c + 26 + 1 ≤ penMax; omega, ?_⟩
  rintro _ ⟨n', i, e, rfl, h3, h4⟩
  cases e
  obtain ⟨k, rfl⟩ : ∃ k : Nat, i = (k : Int) := ⟨i.toNat, by omega⟩
  refine ⟨_, _, rfl, rfl, _, rfl, ea_nil ?_⟩
  rw [show (1 : Int) + (k : Int) = ((k + 1 : Nat) : Int) by omega, cut_take, ← List.map_take]
  have hml : ms.length = 26 := by rw [hms.length_eq]; simp
  refine ⟨ms.take (k + 1), rfl, by rw [List.length_take]; omega, ?_⟩
  intro ns' hp' hs'
  -- the places are different and below 26
  have hnd : ms.Nodup := hms.nodup_iff.mpr (by decide)
  have hlt : ∀ x ∈ ns', 0 ≤ x ∧ x < 26 := fun x hx => by
    have hx2 := (List.take_subset _ _) (hp'.mem_iff.mp hx)
    obtain ⟨j, hj, rfl⟩ := List.mem_map.mp (hms.mem_iff.mp hx2)
    have := List.mem_range.mp hj
    omega
  have hnd' : ns'.Nodup := hp'.nodup_iff.mpr (hnd.sublist (List.take_sublist _ _))
  have hlen : ns'.length = k + 1 := by rw [hp'.length_eq, List.length_take]; omega
  refine ss_one (s_ret (ee_join (ee_str ⟨_, rfl, EO.ee ?_⟩)))
  refine eo_lcMap (.nm 4) (own := [("at", 4)]) rfl sc_law_letters.nd (by decide) rfl (blkOk_by (N := ["pen", "most", "alphabet", "places", "at"]) (sc := defScope s_law_letters) (by decide +kernel)) (fun _ _ _ _ _ => pg_name (i := 4) sc_law_letters.nd rfl (Or.inl rfl)) ?_
  refine ei_list (ee_name 3 rfl rfl ⟨_, rfl, fun i => .str (sgn ((ns'.getD i 0).toNat + 97)), by rw [List.length_map]; omega, fun i D hi => ⟨True.intro, fun _ _ _ _ _ => ?_⟩, ?_⟩)
  · rw [List.length_map] at hi
    have hx : ns'[i] ∈ ns' := List.getElem_mem _
    have hb := hlt _ hx
    have e1 : (ns'.map Tr.int).getD i .non = .int ns'[i] := by
      rw [List.getD_eq_getElem?_getD, List.getElem?_map]
      simp [hi]
    have e2 : ns'.getD i 0 = ns'[i] := by simp [hi]
    refine ee_ixS (ee_name 2 rfl rfl (ee_name 4 rfl rfl ?_))
    show ∃ (z : Str) (j : Int) (c : Nat), _
    refine ⟨_, ns'[i], _, rfl, e1, by decide +kernel, alpha_at hb.1 hb.2, by show Tr.str _ = Tr.str (sgn ((ns'.getD i 0).toNat + 97)); rw [e2]; rfl, rfl⟩
  · have e3 : ((List.range (ns'.map Tr.int).length).map fun i => Tr.str (sgn ((ns'.getD i 0).toNat + 97))) = ((ns'.map fun x => x.toNat + 97).map sgn).map Tr.str := by
      rw [List.length_map, map_range (fun x : Int => Tr.str (sgn (x.toNat + 97))) 0 ns', List.map_map, List.map_map]
      rfl
    refine ⟨(ns'.map fun x => x.toNat + 97).map sgn, .inl (by rw [e3]), ?_, ?_⟩
    · rw [sgn_len]
      show (ns'.map fun x => x.toNat + 97).length + ((ns'.map fun x => x.toNat + 97).map sgn).length * 0 ≤ _
      simp
      omega
    · rw [join_sgn _ (by decide +kernel)]
      refine ⟨⟨n, _, rfl, rfl, by simp; omega, by simp; omega, ?_, ?_⟩, c + 27, Nat.le_refl _, rfl⟩
      · rw [List.pairwise_map]
        have hlt2 : ns'.Pairwise (· < ·) := by
          have := hs'.and hnd'
          exact this.imp fun ⟨a, b⟩ => by omega
        refine List.Pairwise.imp_of_mem ?_ hlt2
        intro a b ha hb hab
        have := hlt a ha
        have := hlt b hb
        omega
      · intro k hk
        obtain ⟨x, hx, rfl⟩ := List.mem_map.mp hk
        have := hlt x hx
        omega
end
end Toy

set_option Elab.async false
set_option linter.all false
set_option maxRecDepth 100000
set_option maxHeartbeats 4000000
namespace Toy
open PySem PySem.Spec PyProof.Rows L2 LamX Wf
section
variable {P : Program} {w : World} {K : PySem.W.Frag} {mg : Str → Option Value} {base : Heap} {T : List (Addr × Str)} {f : Addr} {fd : FuncData}
def wordPre (ts : List Tr) : Prop := ∃ (z : Str) (n : Nat), ts = [.str z, .int n] ∧ 0 < z.length ∧ z.length ≤ sizeLine ∧ n ≤ 1000
def wordPost (ts : List Tr) (t : Tr) : Prop := ∃ (z : Str) (n : Nat) (cs : List Nat), ts = [.str z, .int n] ∧ t = .str (txt cs) ∧ cs.length ≤ n ∧ ∀ c ∈ cs, c ∈ z.cps.toList
theorem sgns_of {z : Str} {n : Nat} : ∀ {ts : List Tr}, (∀ (i : Nat) t, ts[i]? = some t → ∃ c, c ∈ z.cps.toList ∧ t = Tr.str (sgn c)) → ∃ cs : List Nat, ts = (cs.map sgn).map Tr.str ∧ ∀ c ∈ cs, c ∈ z.cps.toList
  | [], _ => ⟨[], rfl, fun _ h => by simp at h⟩
  | t :: ts, h => by
    obtain ⟨c, hc, rfl⟩ := h 0 t rfl
    obtain ⟨cs, rfl, hcs⟩ := sgns_of (z := z) (n := n) (ts := ts) fun i t' ht => h (i + 1) t' ht
    exact ⟨c :: cs, rfl, fun c' h' => (List.mem_cons.mp h').elim (fun e => e ▸ hc) (hcs c')⟩
theorem ok_word (F : Fun K "_law_word" "_law_word" s_law_word f fd) (zR : mg "range" = none) (Fd : FnDraw P w K mg base T) (Fp : FnPick P w K mg base T) :
    FnOk P w K mg base CX0 4 f fd ["pen", "letters", "most"] (spP K T wordPre (fun _ => 2000) wordPost) := by
  refine ok_P F sc_law_word (by rintro _ ⟨z, n, rfl, _⟩; rfl) (by decide) (fun cdv A outer s H E m p c ts hr hp hc => ?_)
  obtain ⟨z, n, rfl, h1, h2, h3⟩ := hp
  have hc' : c + 2000 ≤ 1000000000 := hc
  have hsl : sizeLine = 16777216 := sizeLine_eq
  refine ss_one (s_ret (ee_join (ee_str ⟨_, rfl, EO.ee ?_⟩)))
  refine eo_lcPen (.nm 3) (own := [("at", 3)]) rfl sc_law_word.nd (by decide) rfl (blkOk_by (N := ["pen", "letters", "most", "at"]) (sc := defScope s_law_word) (by decide +kernel)) (fun _ _ _ _ _ => pg_name (i := 3) sc_law_word.nd rfl (Or.inl rfl)) ?_
  refine ei_range1 rfl zR ?_
  refine ee_callP 0 rfl rfl Fd (hr.mono (by decide)) rfl (ea_cons (ee_add (ee_name 2 rfl rfl (ee_int ⟨_, _, rfl, rfl, ea_nil ?_⟩))))
  refine ⟨c, rfl, ⟨_, rfl, by omega, by omega⟩, by show c + 1 ≤ penMax; omega, ?_⟩
  rintro _ ⟨n', i, e, rfl, h4, h5⟩
  cases e
  obtain ⟨k, rfl⟩ : ∃ k : Nat, i = (k : Int) := ⟨i.toNat, by omega⟩
  refine ⟨_, rfl, by omega, by omega, 0, p, c + 1, 1, fun _ t => ∃ c, c ∈ z.cps.toList ∧ t = Tr.str (sgn c), rfl, by omega, fun j c1 D hj hc1 => ⟨True.intro, fun _ _ _ _ _ => ?_⟩, fun us c1 hl hu hc1 => ?_⟩
  · refine ee_callP 0 rfl rfl Fp hr rfl (ea_cons (ee_name 1 rfl rfl (ea_nil ?_)))
    refine ⟨c1, rfl, .inr ⟨z, rfl, h1, h2⟩, by show c1 + 1 ≤ penMax; omega, ?_⟩
    rintro _ (⟨us, e | e, _⟩ | ⟨z', ch, e, hm, rfl⟩)
    · cases e
    · cases e
    · cases e
      exact ⟨⟨ch, hm, rfl⟩, c1 + 1, Nat.le_refl _, rfl⟩
  · obtain ⟨cs, rfl, hcs⟩ := sgns_of (n := 0) hu
    rw [List.length_map, List.length_map] at hl
    refine ⟨cs.map sgn, .inl rfl, ?_, ?_⟩
    · rw [sgn_len]
      show cs.length + (cs.map sgn).length * 0 ≤ _
      omega
    · rw [join_sgn _ (by decide +kernel)]
      exact ⟨⟨z, n, cs, rfl, rfl, by omega, hcs⟩, c1, by omega, rfl⟩
end
end Toy

set_option Elab.async false
set_option linter.all false
set_option maxRecDepth 100000
set_option maxHeartbeats 4000000
namespace Toy
open PySem PySem.Spec PyProof.Rows L2 LamX Wf
section
variable {P : Program} {w : World} {K : PySem.W.Frag} {mg : Str → Option Value} {base : Heap} {T : List (Addr × Str)} {f : Addr} {fd : FuncData}
theorem ok_pen (F : Fun K "_law_pen" "_law_pen" s_law_pen f fd) (zL : mg "list" = none) : FnOk P w K mg base CX0 2 f fd ["script"] (spPen K T) := by
  refine ok_newPen F sc_law_pen rfl fun cdv A outer s H E m ns hn hr => ?_
  refine eo_callTy co_list rfl zL (by decide +kernel) (ea_cons (EO.ee (eo_slL (ee_name 0 rfl rfl ⟨_, rfl, ep_no (ep_some (ee_int ⟨63, rfl, ea_nil ?_⟩))⟩))))
  have e63 : cutL (ns.map Tr.int) none (some (63 : Int)) = ns.map Tr.int := by
    rw [show (63 : Int) = ((63 : Nat) : Int) from rfl, cut_take, List.take_of_length_le (by rw [List.length_map]; exact hn)]
  rw [e63]
  exact ⟨_, .inl rfl, rfl⟩
end
end Toy

set_option Elab.async false
set_option linter.all false
set_option maxRecDepth 100000
set_option maxHeartbeats 4000000
namespace Toy
open PySem PySem.Spec PyProof.Rows L2 LamX Wf
/-! the defs of wordfit.words -/
def Tr.intL : Tr → Bool
  | .int _ => true
  | .bl _ => true
  | _ => false
def Tr.isBl : Tr → Bool
  | .bl _ => true
  | _ => false
def Tr.isSt : Tr → Bool
  | .str _ => true
  | _ => false
theorem kit_int {t : Tr} {n : String} (h : t.cls = some n) : kitB n "int" = some (Tr.intL t) := by
  cases t <;> cases h <;> first | (show kitB _ _ = some true; decide +kernel) | (show kitB _ _ = some false; decide +kernel)
theorem kit_bl {t : Tr} {n : String} (h : t.cls = some n) : kitB n "bool" = some (Tr.isBl t) := by
  cases t <;> cases h <;> first | (show kitB _ _ = some true; decide +kernel) | (show kitB _ _ = some false; decide +kernel)
theorem kit_st {t : Tr} {n : String} (h : t.cls = some n) : kitB n "str" = some (Tr.isSt t) := by
  cases t <;> cases h <;> first | (show kitB _ _ = some true; decide +kernel) | (show kitB _ _ = some false; decide +kernel)
theorem kit_two {K : PySem.W.Frag} {n a b : String} {k l : Bool} (h1 : kitB n a = some k) (h2 : kitB n b = some l) : PySem.W.kitAny K (.type n) [.type a, .type b] = some (k || l) := by
  refine kitAny_cons (kit_ty h1) (fun e => ?_) (fun e => by rw [e]; rfl)
  refine kitAny_cons (kit_ty h2) (fun e2 => ?_) (fun e2 => by rw [e2, Bool.or_true])
  rw [e, e2]
  rfl
theorem kit_sq {K : PySem.W.Frag} {t : Tr} {n : String} (h : t.cls = some n) : PySem.W.kitAny K (.type n) [.type "list", .type "tuple"] = some t.isSq := by
  cases t <;> cases h
  · exact kit_two (k := false) (l := false) (by decide +kernel) (by decide +kernel)
  · exact kit_two (k := false) (l := false) (by decide +kernel) (by decide +kernel)
  · exact kit_two (k := false) (l := false) (by decide +kernel) (by decide +kernel)
  · exact kit_two (k := false) (l := false) (by decide +kernel) (by decide +kernel)
  · exact kit_two (k := true) (l := false) (by decide +kernel) (by decide +kernel)
  · exact kit_two (k := false) (l := true) (by decide +kernel) (by decide +kernel)
  · exact kit_two (k := false) (l := false) (by decide +kernel) (by decide +kernel)
def wholeB : Tr → Int → Int → Bool
  | .int i, a, b => decide (a ≤ i) && decide (i ≤ b)
  | _, _, _ => false
section
variable {P : Program} {w : World} {K : PySem.W.Frag} {mg : Str → Option Value} {base : Heap} {T : List (Addr × Str)} {f : Addr} {fd : FuncData}
def wholePre (ts : List Tr) : Prop := ∃ t a b n, ts = [t, .int a, .int b] ∧ t.cls = some n
def wholePost (ts : List Tr) (r : Tr) : Prop := ∃ t a b, ts = [t, .int a, .int b] ∧ r = .bl (wholeB t a b)
theorem ok_is_whole (F : Fun K "is_whole" "is_whole" s_is_whole f fd) (zI : mg "isinstance" = none) (zi : mg "int" = none) (zb : mg "bool" = none) : FnOk P w K mg base CX0 2 f fd ["value", "least", "most"] (spF K T wholePre wholePost) := by
  refine ok_F F sc_is_whole (by rintro _ ⟨t, a, b, n, rfl, _⟩; rfl) (by decide) fun cdv A outer s H E m ts hr hp => ?_
  obtain ⟨t, a, b, n, rfl, hn⟩ := hp
  refine ss_one (s_ret (ee_and (ee_isi (T := "int") rfl zI rfl zi (by decide +kernel) (by decide +kernel) (ee_name 0 rfl rfl ⟨n, _, hn, kit_int hn, _, rfl, fun h => ?_, fun h => ?_⟩))))
  · refine ee_and (ee_not (ee_isi (T := "bool") rfl zI rfl zb (by decide +kernel) (by decide +kernel) (ee_name 0 rfl rfl ⟨n, _, hn, kit_bl hn, _, rfl, _, rfl, fun h2 => ?_, fun h2 => ?_⟩)))
    · cases t <;> first | exact Bool.noConfusion h | exact Bool.noConfusion h2 | skip
      rename_i i
      refine ee_one (ee_chain op_le op_le (ee_name 1 rfl rfl (ee_name 0 rfl rfl ⟨a, i, rfl, rfl, fun h3 => ee_name 2 rfl rfl ⟨b, rfl, .int i, a, b, rfl, ?_⟩, fun h3 => ⟨.int i, a, b, rfl, ?_⟩⟩)))
      · show Tr.bl _ = Tr.bl (decide (a ≤ i) && decide (i ≤ b))
        rw [h3]; rfl
      · show Tr.bl _ = Tr.bl (decide (a ≤ i) && decide (i ≤ b))
        rw [h3]; rfl
    · cases t <;> first | exact Bool.noConfusion h | exact Bool.noConfusion h2 | skip
      exact ⟨_, a, b, rfl, rfl⟩
  · cases t <;> first | exact Bool.noConfusion h | exact ⟨_, a, b, rfl, rfl⟩
def anyPre (ts : List Tr) : Prop := ∃ t n, ts = [t] ∧ t.cls = some n
def seqPost (ts : List Tr) (r : Tr) : Prop := ∃ t, ts = [t] ∧ r = .bl t.isSq
theorem ok_is_sequence (F : Fun K "is_sequence" "is_sequence" s_is_sequence f fd) (zI : mg "isinstance" = none) (zl : mg "list" = none) (zt : mg "tuple" = none) : FnOk P w K mg base CX0 2 f fd ["value"] (spF K T anyPre seqPost) := by
  refine ok_F F sc_is_sequence (by rintro _ ⟨t, n, rfl, _⟩; rfl) (by decide) fun cdv A outer s H E m ts hr hp => ?_
  obtain ⟨t, n, rfl, hn⟩ := hp
  exact ss_one (s_ret (ee_isi2 (S := "list") (T := "tuple") rfl zI rfl zl (by decide +kernel) rfl zt (by decide +kernel) (by decide +kernel) (ee_name 0 rfl rfl ⟨n, _, hn, kit_sq hn, t, rfl, rfl⟩)))
def markPre (ts : List Tr) : Prop := ∃ t, ts = [t] ∧ (t = .non ∨ ∃ b, t = .bl b)
def truePost (ts : List Tr) (r : Tr) : Prop := r = .bl true
theorem ok_is_mark (F : Fun K "is_mark" "is_mark" s_is_mark f fd) : FnOk P w K mg base CX0 2 f fd ["value"] (spF K T markPre truePost) := by
  refine ok_F F sc_is_mark (by rintro _ ⟨t, rfl, _⟩; rfl) (by decide) fun cdv A outer s H E m ts hr hp => ?_
  obtain ⟨t, rfl, ht⟩ := hp
  refine ss_one (s_ret (ee_or (ee_cmp cd_isN (ee_name 0 rfl rfl (ee_non ⟨rfl, by rcases ht with rfl | ⟨b, rfl⟩ <;> rfl, _, rfl, fun h => ?_, fun h => ?_⟩)))))
  · exact rfl
  · rcases ht with rfl | ⟨b, rfl⟩
    · exact Bool.noConfusion h
    · refine ee_or (ee_cmp cd_isB (ee_name 0 rfl rfl (ee_bl ⟨b, true, rfl, rfl, _, rfl, fun h => rfl, fun h => ee_one (ee_cmp cd_isB (ee_name 0 rfl rfl (ee_bl ⟨b, false, rfl, rfl, ?_⟩)))⟩)))
      cases b
      · rfl
      · exact absurd h (by decide)
/-! letters -/
def GoodLets (ls : List Nat) : Prop := IsLets ls 4
theorem find_alpha {c : Nat} (h1 : 97 ≤ c) (h2 : c < 123) : Txt.find alphaS (sgn c) = ((c - 97 : Nat) : Int) := by
  have key : ∀ j : Nat, j < 26 → Txt.find alphaS (sgn (j + 97)) = (j : Int) := by decide +kernel
  have := key (c - 97) (by omega)
  rwa [show c - 97 + 97 = c by omega] at this
def letsPre (ts : List Tr) : Prop := ∃ ls, ts = [.str (txt ls)] ∧ GoodLets ls
theorem str_sgn (ls : List Nat) (i : Nat) : Tr.str ⟨#[(txt ls).cps.getD i 0]⟩ = Tr.str (sgn (ls.getD i 0)) := by
  show Tr.str ⟨#[ls.toArray.getD i 0]⟩ = Tr.str ⟨#[ls.getD i 0]⟩
  congr 3
  simp [List.getD_eq_getElem?_getD]
theorem atI_ofNat {α : Type} {ts : List α} {k : Nat} {t : α} (h : ts[k]? = some t) : atI ts (k : Int) = some t := by
  have hl := (List.getElem?_eq_some_iff.mp h).1
  unfold atI ixN
  rw [if_pos (by omega), if_pos (by omega)]
  exact h
theorem ok_is_letters (F : Fun K "is_letters" "is_letters" s_is_letters f fd) (zI : mg "isinstance" = none) (zs : mg "str" = none) (zl : mg "len" = none) (zr : mg "range" = none) (za : mg "all" = none) (mA : ∃ t, mg "ALPHABET" = some (.str alphaS t)) (mL : ∃ t, mg "MOST_LETTERS" = some (.int 4 t)) :
    FnOk P w K mg base CX0 2 f fd ["value"] (spF K T letsPre truePost) := by
  refine ok_F F sc_is_letters (by rintro _ ⟨ls, rfl, _⟩; rfl) (by decide) fun cdv A outer s H E m ts hr hp => ?_
  obtain ⟨ls, rfl, hl1, hl2, hl3, hl4⟩ := hp
  obtain ⟨tA, mA⟩ := mA
  obtain ⟨tL, mL⟩ := mL
  have hsl : sizeLine = 16777216 := sizeLine_eq
  refine ss_cons (s_if (et_ew (ew_or (et_not (et_val (ee_isi (T := "str") rfl zI rfl zs (by decide +kernel) (by decide +kernel) (ee_name 0 rfl rfl ⟨"str", true, rfl, by decide +kernel, true, rfl, fun h => Bool.noConfusion h, fun _ => ?_⟩)))))))
  refine ew_or1 (et_not (et_chain op_le op_le (ee_int (ee_callB cl_lenS rfl zl (by decide +kernel) (ea_cons (ee_name 0 rfl rfl (ea_nil ⟨txt ls, rfl, by rw [txt_len]; omega, _, _, rfl, rfl, fun _ => ee_globI rfl mL ⟨_, rfl, ?_⟩, fun h => ?_⟩)))))))
  · rw [txt_len]
    refine ⟨fun h => ?_, fun _ => ss_nil ?_⟩
    · have : decide ((ls.length : Int) ≤ 4) = true := by simp; omega
      rw [this] at h; cases h
    refine ss_cons (s_asg 1 sc_is_letters.nd rfl (EO.ee ?_))
    refine eo_lcMap (.nm 2) (own := [("letter", 2)]) rfl sc_is_letters.nd (by decide) rfl (blkOk_by (N := ["value", "places", "letter", "at"]) (sc := defScope s_is_letters) (by decide +kernel)) (fun _ _ _ _ _ => pg_name (i := 2) sc_is_letters.nd rfl (Or.inl rfl)) ?_
    refine ei_str (ee_name 0 rfl rfl ⟨txt ls, rfl, fun i => .int ((ls.getD i 0 : Nat) - 97 : Int), by show (txt ls).length ≤ _; rw [txt_len]; omega, fun i D hi => ⟨True.intro, fun _ _ _ _ _ => ?_⟩, ?_⟩)
    · have hi' : i < ls.length := by have : i < (txt ls).length := hi; rwa [txt_len] at this
      have hm : ls.getD i 0 ∈ ls := by
        rw [List.getD_eq_getElem?_getD, List.getElem?_eq_getElem hi']
        exact List.getElem_mem hi'
      have hb := hl4 _ hm
      refine ee_find (ee_glob (v := .str alphaS) rfl mA ⟨_, rfl⟩ (fun _ => .str _) ⟨alphaS, rfl, ea_cons (ee_name 2 rfl rfl (ea_nil ⟨sgn (ls.getD i 0), congrArg (fun z => [z]) (str_sgn ls i), ?_, rfl⟩))⟩)
      rw [find_alpha hb.1 hb.2]
      congr 1
      omega
    have hsz : (txt ls).cps.size = ls.length := txt_len ls
    rw [hsz]
    have hlen : ((List.range ls.length).map fun i => Tr.int ((ls.getD i 0 : Nat) - 97 : Int)).length = ls.length := by simp
    have hat : ∀ k : Nat, k < ls.length → atI ((List.range ls.length).map fun i => Tr.int ((ls.getD i 0 : Nat) - 97 : Int)) (k : Int) = some (.int ((ls.getD k 0 : Nat) - 97 : Int)) := fun k hk => atI_ofNat (by simp [hk])
    refine ss_one (s_ret (ee_and (ee_cmp cd_ge (ee_ixL (ee_name 1 rfl rfl (ee_int ⟨_, 0, _, rfl, rfl, hat 0 (by omega), ee_int ⟨_, _, rfl, rfl, _, rfl, fun _ => ?_, fun h => ?_⟩⟩))))))
    · refine ee_one (ee_callB (cl_all rfl) rfl za (by decide +kernel) (ea_cons (EO.ee ?_)))
      refine eo_lcMap (.nm 3) (own := [("at", 3)]) rfl sc_is_letters.nd (by decide) rfl (blkOk_by (N := ["value", "places", "letter", "at"]) (sc := defScope s_is_letters) (by decide +kernel)) (fun _ _ _ _ _ => pg_name (i := 3) sc_is_letters.nd rfl (Or.inl rfl)) ?_
      refine ei_range1 rfl zr (ee_sub (ee_callB cl_len rfl zl (by decide +kernel) (ea_cons (ee_name 1 rfl rfl (ea_nil ⟨_, rfl, _, .inl rfl, ee_int ⟨_, _, rfl, rfl, _, rfl, ?_, ?_, fun i => .bl true, ?_, fun i D hi => ⟨True.intro, fun _ _ _ _ _ => ?_⟩, ?_⟩⟩)))))
      · rw [hlen]; omega
      · rw [hlen]; omega
      · rw [hlen]; omega
      · rw [hlen] at hi
        have hi2 : i + 1 < ls.length := by omega
        refine ee_cmp cd_lt (ee_ixL (ee_name 1 rfl rfl (ee_name 3 rfl rfl ⟨_, _, _, rfl, rfl, hat i (by omega), ?_⟩)))
        refine ee_ixL (ee_name 1 rfl rfl (ee_add (ee_name 3 rfl rfl (ee_int ⟨_, _, rfl, rfl, _, _, _, rfl, rfl, hat (i + 1) hi2, _, _, rfl, rfl, ?_, rfl⟩))))
        have := List.pairwise_iff_getElem.mp hl3 i (i + 1) (by omega) hi2 (by omega)
        have e1 : ls.getD i 0 = ls[i] := by simp [show i < ls.length by omega]
        have e2 : ls.getD (i + 1) 0 = ls[i + 1] := by simp [hi2]
        rw [e1, e2]
        show Tr.bl _ = Tr.bl true
        congr 1
        exact decide_eq_true (by omega)
      · refine ea_nil ⟨(List.range _).map fun _ => true, by rw [List.map_map]; rfl, ?_⟩
        show Tr.bl _ = Tr.bl true
        congr 1
        rw [List.all_eq_true]
        intro x hx
        obtain ⟨_, _, rfl⟩ := List.mem_map.mp hx
        rfl
    · have hm : ls.getD 0 0 ∈ ls := by
        rw [List.getD_eq_getElem?_getD, List.getElem?_eq_getElem (by omega)]
        exact List.getElem_mem _
      have := hl4 _ hm
      exfalso
      have e : decide (0 ≤ ((ls.getD 0 0 : Nat) - 97 : Int)) = true := decide_eq_true (by omega)
      rw [e] at h
      cases h
  · exfalso
    rw [txt_len] at h
    have : decide ((1 : Int) ≤ (ls.length : Int)) = true := by simp; omega
    rw [this] at h; cases h
end
end Toy

set_option Elab.async false
set_option linter.all false
set_option maxRecDepth 100000
set_option maxHeartbeats 4000000
namespace Toy
open PySem PySem.Spec PyProof.Rows L2 LamX Wf
def optN : Option Nat → Tr
  | none => .non
  | some n => .int n
def optB : Option Bool → Tr
  | none => .non
  | some b => .bl b
def optI : Option Nat → Tr
  | none => .non
  | some n => .int n
section
variable {P : Program} {w : World} {K : PySem.W.Frag} {mg : Str → Option Value} {base : Heap} {T : List (Addr × Str)} {f : Addr} {fd : FuncData}
abbrev FnLtr (P : Program) (w : World) (K : PySem.W.Frag) (mg : Str → Option Value) (base : Heap) (T : List (Addr × Str)) : Prop := Fn P w K mg base "is_letters" 2 ["value"] (spF K T letsPre truePost)
abbrev FnWhole (P : Program) (w : World) (K : PySem.W.Frag) (mg : Str → Option Value) (base : Heap) (T : List (Addr × Str)) : Prop := FnK P w K mg base "is_whole" 2 1 2 ["value", "least", "most"] ["least", "most"] (spF K T wholePre wholePost)
abbrev FnSeq (P : Program) (w : World) (K : PySem.W.Frag) (mg : Str → Option Value) (base : Heap) (T : List (Addr × Str)) : Prop := Fn P w K mg base "is_sequence" 2 ["value"] (spF K T anyPre seqPost)
abbrev FnMark (P : Program) (w : World) (K : PySem.W.Frag) (mg : Str → Option Value) (base : Heap) (T : List (Addr × Str)) : Prop := Fn P w K mg base "is_mark" 2 ["value"] (spF K T markPre truePost)
theorem whole_binds (F : Fun K "is_whole" "is_whole" s_is_whole f fd) : KBinds K fd ["value", "least", "most"] ["least", "most"] (gK 1 2) (gK 1 2) := by
  obtain ⟨oc, od, kV, doc, pm, an, cdv, ct, osl, rfl, lk, hcd⟩ := F.ex
  exact kbinds_of (by decide) fun us ws h1 h2 => match us, ws, h1, h2 with
    | [_], [_, _], _, _ => rfl
def nonePost (ts : List Tr) (r : Tr) : Prop := r = .non
theorem ok_need_letters (F : Fun K "need_letters" "need_letters" s_need_letters f fd) (Fl : FnLtr P w K mg base T) : FnOk P w K mg base CX0 4 f fd ["value"] (spF K T letsPre nonePost) := by
  refine ok_F F sc_need_letters (by rintro _ ⟨ls, rfl, _⟩; rfl) (by decide) fun cdv A outer s H E m ts hr hp => ?_
  obtain ⟨ls, rfl, hl⟩ := hp
  refine ss_one (s_if (et_not (et_val (ee_call Fl (hr.mono (by decide)) rfl (ea_cons (ee_name 0 rfl rfl (ea_nil ⟨⟨ls, rfl, hl⟩, ?_⟩)))))))
  rintro t rfl
  exact ⟨true, rfl, fun h => Bool.noConfusion h, fun _ => ss_nil rfl⟩
/-- a word over these letters -/
def wordPreM (ts : List Tr) : Prop := ∃ (z x : Str), ts = [.str z, .str x] ∧ x.length ≤ sizeLine ∧ ∀ c ∈ x.cps.toList, c ∈ z.cps.toList
theorem ok_is_word (F : Fun K "is_word" "is_word" s_is_word f fd) (zI : mg "isinstance" = none) (zs : mg "str" = none) (za : mg "all" = none) : FnOk P w K mg base CX0 2 f fd ["letters", "value"] (spF K T wordPreM truePost) := by
  refine ok_F F sc_is_word (by rintro _ ⟨z, x, rfl, _⟩; rfl) (by decide) fun cdv A outer s H E m ts hr hp => ?_
  obtain ⟨z, x, rfl, hx, hin⟩ := hp
  refine ss_one (s_ret (ee_and (ee_isi (T := "str") rfl zI rfl zs (by decide +kernel) (by decide +kernel) (ee_name 1 rfl rfl ⟨"str", true, rfl, by decide +kernel, _, rfl, fun _ => ?_, fun h => Bool.noConfusion h⟩))))
  refine ee_one (ee_callB (cl_all rfl) rfl za (by decide +kernel) (ea_cons (EO.ee ?_)))
  refine eo_lcMap (.nm 2) (own := [("letter", 2)]) rfl sc_is_word.nd (by decide) rfl (blkOk_by (N := ["letters", "value", "letter"]) (sc := defScope s_is_word) (by decide +kernel)) (fun _ _ _ _ _ => pg_name (i := 2) sc_is_word.nd rfl (Or.inl rfl)) ?_
  refine ei_str (ee_name 1 rfl rfl ⟨x, rfl, fun i => .bl true, hx, fun i D hi => ⟨True.intro, fun _ _ _ _ _ => ?_⟩, ?_⟩)
  · refine ee_cmp cd_inS (ee_name 2 rfl rfl (ee_name 0 rfl rfl ⟨x.cps.getD i 0, z, rfl, rfl, ?_, rfl⟩))
    congr 1
    refine decide_eq_true (hin _ ?_)
    have hi' : i < x.cps.size := hi
    rw [Array.getD_eq_getD_getElem?, Array.getElem?_eq_getElem hi']
    exact Array.getElem_mem_toList hi'
  · refine ea_nil ⟨(List.range x.cps.size).map fun _ => true, by rw [List.map_map]; rfl, ?_⟩
    show Tr.bl _ = Tr.bl true
    congr 1
    rw [List.all_eq_true]
    intro y hy
    obtain ⟨_, _, rfl⟩ := List.mem_map.mp hy
    rfl
abbrev FnIsW (P : Program) (w : World) (K : PySem.W.Frag) (mg : Str → Option Value) (base : Heap) (T : List (Addr × Str)) : Prop := Fn P w K mg base "is_word" 2 ["letters", "value"] (spF K T wordPreM truePost)
theorem ok_need_word (F : Fun K "need_word" "need_word" s_need_word f fd) (Fw : FnIsW P w K mg base T) : FnOk P w K mg base CX0 4 f fd ["letters", "value"] (spF K T wordPreM nonePost) := by
  refine ok_F F sc_need_word (by rintro _ ⟨z, x, rfl, _⟩; rfl) (by decide) fun cdv A outer s H E m ts hr hp => ?_
  obtain ⟨z, x, rfl, hx, hin⟩ := hp
  refine ss_one (s_if (et_not (et_val (ee_call Fw (hr.mono (by decide)) rfl (ea_cons (ee_name 0 rfl rfl (ea_cons (ee_name 1 rfl rfl (ea_nil ⟨⟨z, x, rfl, hx, hin⟩, ?_⟩)))))))))
  rintro t rfl
  exact ⟨true, rfl, fun h => Bool.noConfusion h, fun _ => ss_nil rfl⟩
def tgtPre (ts : List Tr) : Prop := ∃ (o : Option Nat) (n : Nat), ts = [optN o, .int n] ∧ ∀ k, o = some k → k < n
theorem ok_is_target (F : Fun K "is_target" "is_target" s_is_target f fd) (Fw : FnWhole P w K mg base T) : FnOk P w K mg base CX0 4 f fd ["value", "size"] (spF K T tgtPre truePost) := by
  refine ok_F F sc_is_target (by rintro _ ⟨o, n, rfl, _⟩; rfl) (by decide) fun cdv A outer s H E m ts hr hp => ?_
  obtain ⟨o, n, rfl, ho⟩ := hp
  refine ss_one (s_ret (ee_or (ee_cmp cd_isN (ee_name 0 rfl rfl (ee_non ⟨rfl, by cases o <;> rfl, _, rfl, fun h => rfl, fun h => ee_one ?_⟩)))))
  cases o with
  | none => exact Bool.noConfusion h
  | some k =>
    have hk := ho k rfl
    refine ee_callK Fw (hr.mono (by decide)) rfl (ea_cons (ee_name 0 rfl rfl (ea_nil (ek_cons (ee_int (ek_cons (ee_sub (ee_name 1 rfl rfl (ee_int ⟨_, _, rfl, rfl, ek_nil ⟨rfl, rfl, ⟨.int k, 0, _, "int", rfl, rfl⟩, ?_⟩⟩)))))))))
    rintro t ⟨t', a, b, e, rfl⟩
    injection e with e1 e
    injection e with e2 e
    injection e with e3 _
    injection e2 with e2
    injection e3 with e3
    subst e1 e2 e3
    show Tr.bl _ = Tr.bl true
    congr 1
    have h1 : decide ((0 : Int) ≤ (k : Int)) = true := decide_eq_true (by omega)
    have h2 : decide ((k : Int) ≤ (n : Int) - 1) = true := decide_eq_true (by omega)
    show (decide ((0 : Int) ≤ (k : Int)) && decide ((k : Int) ≤ (n : Int) - 1)) = true
    rw [h1, h2]
    rfl
abbrev FnTgt (P : Program) (w : World) (K : PySem.W.Frag) (mg : Str → Option Value) (base : Heap) (T : List (Addr × Str)) : Prop := Fn P w K mg base "is_target" 4 ["value", "size"] (spF K T tgtPre truePost)
/-- targets of one state: a list or a tuple -/
def tgsPre (ts : List Tr) : Prop := ∃ (z : Str) (row : List (Option Nat)) (n : Nat) (u : Tr), ts = [.str z, u, .int n] ∧ (u = .lst (row.map optN) ∨ u = .tup (row.map optN)) ∧ z.length = row.length ∧ z.length ≤ 4 ∧ ∀ o ∈ row, ∀ k, o = some k → k < n
theorem ok_are_targets (F : Fun K "are_targets" "are_targets" s_are_targets f fd) (zl : mg "len" = none) (za : mg "all" = none) (Fs : FnSeq P w K mg base T) (Ft : FnTgt P w K mg base T) : FnOk P w K mg base CX0 6 f fd ["letters", "value", "size"] (spF K T tgsPre truePost) := by
  refine ok_F F sc_are_targets (by rintro _ ⟨z, row, n, u, rfl, _⟩; rfl) (by decide) fun cdv A outer s H E m ts hr hp => ?_
  obtain ⟨z, row, n, u, rfl, hu, hz, hz4, hk⟩ := hp
  have hsl : sizeLine = 16777216 := sizeLine_eq
  have hn : ∃ nm, u.cls = some nm := by rcases hu with rfl | rfl <;> exact ⟨_, rfl⟩
  obtain ⟨nm, hn⟩ := hn
  have hsq : u.isSq = true := by rcases hu with rfl | rfl <;> rfl
  refine ss_one (s_ret (ee_and (ee_call Fs (hr.mono (by decide)) rfl (ea_cons (ee_name 1 rfl rfl (ea_nil ⟨⟨u, nm, rfl, hn⟩, ?_⟩))))))
  rintro t ⟨u', e, rfl⟩
  injection e with e _
  subst e
  rw [hsq]
  refine ⟨_, rfl, fun _ => ?_, fun h => Bool.noConfusion h⟩
  refine ee_and (ee_cmp cd_eqI (ee_callB cl_len rfl zl (by decide +kernel) (ea_cons (ee_name 1 rfl rfl (ea_nil ⟨u, rfl, row.map optN, hu, ee_callB cl_lenS rfl zl (by decide +kernel) (ea_cons (ee_name 0 rfl rfl (ea_nil ⟨z, rfl, by omega, _, _, rfl, rfl, _, rfl, fun _ => ?_, fun h => ?_⟩)))⟩)))))
  · refine ee_one (ee_callB (cl_all rfl) rfl za (by decide +kernel) (ea_cons (EO.ee ?_)))
    refine eo_lcMap (.nm 3) (own := [("target", 3)]) rfl sc_are_targets.nd (by decide) rfl (blkOk_by (N := ["letters", "value", "size", "target"]) (sc := defScope s_are_targets) (by decide +kernel)) (fun _ _ _ _ _ => pg_name (i := 3) sc_are_targets.nd rfl (Or.inl rfl)) ?_
    have fin : (∃ bs : List Bool, [Tr.lst ((List.range (row.map optN).length).map fun _ => Tr.bl true)] = [Tr.lst (bs.map Tr.bl)] ∧ truePost [Tr.str z, u, Tr.int n] (.bl (bs.all id))) := by
      refine ⟨(List.range (row.map optN).length).map fun _ => true, by rw [List.map_map]; rfl, ?_⟩
      show Tr.bl _ = Tr.bl true
      congr 1
      rw [List.all_eq_true]
      intro y hy
      obtain ⟨_, _, rfl⟩ := List.mem_map.mp hy
      rfl
    have el : ∀ i, i < (row.map optN).length → ∃ o ∈ row, (row.map optN).getD i .non = optN o := fun i hi => by
      rw [List.length_map] at hi
      exact ⟨row[i], List.getElem_mem hi, by simp [List.getD_eq_getElem?_getD, hi]⟩
    have hl : (row.map optN).length ≤ sizeLine := by rw [List.length_map]; omega
    rcases hu with rfl | rfl
    · refine ei_list (ee_name 1 rfl rfl ⟨_, rfl, fun i => .bl true, hl, fun i D hi => ⟨True.intro, fun _ _ _ _ _ => ?_⟩, ea_nil fin⟩)
      obtain ⟨o, ho, e⟩ := el i hi
      refine ee_call Ft (hr.mono (by decide)) rfl (ea_cons (ee_name 3 rfl rfl (ea_cons (ee_name 2 rfl rfl (ea_nil ⟨⟨o, n, by show [(row.map optN).getD i .non, _] = _; rw [e], hk o ho⟩, ?_⟩)))))
      rintro t rfl
      exact ⟨rfl, rfl⟩
    · refine ei_tup (ee_name 1 rfl rfl ⟨_, rfl, fun i => .bl true, hl, fun i D hi => ⟨True.intro, fun _ _ _ _ _ => ?_⟩, ea_nil fin⟩)
      obtain ⟨o, ho, e⟩ := el i hi
      refine ee_call Ft (hr.mono (by decide)) rfl (ea_cons (ee_name 3 rfl rfl (ea_cons (ee_name 2 rfl rfl (ea_nil ⟨⟨o, n, by show [(row.map optN).getD i .non, _] = _; rw [e], hk o ho⟩, ?_⟩)))))
      rintro t rfl
      exact ⟨rfl, rfl⟩
  · exfalso
    rw [List.length_map, hz] at h
    simp at h
end
end Toy

set_option Elab.async false
set_option linter.all false
set_option maxRecDepth 100000
set_option maxHeartbeats 4000000
namespace Toy
open PySem PySem.Spec PyProof.Rows L2 LamX Wf
/-- a machine's parts -/
structure MachOk (ls : List Nat) (rows : List (List (Option Nat))) (marks : List (Option Bool)) : Prop where
  lets : GoodLets ls
  len : rows.length = marks.length
  pos : 1 ≤ marks.length
  few : marks.length ≤ 600
  row : ∀ row ∈ rows, row.length = ls.length ∧ ∀ o ∈ row, ∀ k, o = some k → k < marks.length
def RowsAre (rs : List Tr) (rows : List (List (Option Nat))) : Prop := rs.length = rows.length ∧ ∀ (i : Nat) row, rows[i]? = some row → rs[i]? = some (.lst (row.map optN)) ∨ rs[i]? = some (.tup (row.map optN))
def machPre (ts : List Tr) : Prop := ∃ ls rows marks rs v, ts = [.str (txt ls), .lst rs, v] ∧ MachOk ls rows marks ∧ RowsAre rs rows ∧ (v = .lst (marks.map optB) ∨ v = .tup (marks.map optB))
section
variable {P : Program} {w : World} {K : PySem.W.Frag} {mg : Str → Option Value} {base : Heap} {T : List (Addr × Str)} {f : Addr} {fd : FuncData}
abbrev FnNL (P : Program) (w : World) (K : PySem.W.Frag) (mg : Str → Option Value) (base : Heap) (T : List (Addr × Str)) : Prop := Fn P w K mg base "need_letters" 4 ["value"] (spF K T letsPre nonePost)
abbrev FnTgs (P : Program) (w : World) (K : PySem.W.Frag) (mg : Str → Option Value) (base : Heap) (T : List (Addr × Str)) : Prop := Fn P w K mg base "are_targets" 6 ["letters", "value", "size"] (spF K T tgsPre truePost)
theorem ixMark {marks : List (Option Bool)} {v : Tr} (hv : v = .lst (marks.map optB) ∨ v = .tup (marks.map optB)) : v.isSq = true ∧ ∃ n, v.cls = some n := by
  rcases hv with rfl | rfl
  · exact ⟨rfl, _, rfl⟩
  · exact ⟨rfl, _, rfl⟩
section
variable {X : Cx} {B : Bs} {M : Pl} {Δ : List En} {a b : Expr} {Φ : Tr → List En → Prop}
/-- a place of a list or a tuple -/
theorem ixQ : IxR X (fun x y H Q => rIxL X.K x y H Q ∨ rIxT X.K x y H Q) := by
  intro value slice pins s σ H x y v u Q I rx ry h hs
  rcases h with h | h
  · exact ix_list value slice pins s σ H x y v u Q I rx ry h hs
  · exact ix_tup value slice pins s σ H x y v u Q I rx ry h hs
theorem ee_ixQ {pos : Pos} (h : EE X B M Δ a fun x Δ1 => EE X B M Δ1 b fun y Δ2 => ∃ ts i t, (x = .lst ts ∨ x = .tup ts) ∧ y = .int i ∧ atI ts i = some t ∧ Φ t Δ2) (hs : PlainIx b := by exact fun _ _ => rfl) : EE X B M Δ (.Subscript a b pos) Φ :=
  ee_two (pe_ix ixQ pe_self pe_self hs) h fun x Δ1 y Δ2 p σ H v w Q S d1 d2 k => by
    obtain ⟨ts, i, t, hx, rfl, e, q⟩ := p
    cases d2
    rcases hx with rfl | rfl
    · cases d1 with
      | lst h1 h2 =>
        obtain ⟨z, e1, e2⟩ := atI_dts h2 e
        exact .inl ⟨_, _, i, z, rfl, rfl, sub_seqL mi_sub h1, e1, k _ _ _ H q (Fe.refl _ _) S e2⟩
    · cases d1 with
      | tup h1 h2 =>
        obtain ⟨z, e1, e2⟩ := atI_dts h2 e
        exact .inr ⟨_, _, i, z, rfl, rfl, sub_seqT mi_sub h1, e1, k _ _ _ H q (Fe.refl _ _) S e2⟩
end
theorem ok_need_machine (F : Fun K "need_machine" "need_machine" s_need_machine f fd) (zl : mg "len" = none) (zE : mg "enumerate" = none) (mS : ∃ t, mg "STATES" = some (.int 600 t)) (Fn : FnNL P w K mg base T) (Fs : FnSeq P w K mg base T) (Ft : FnTgs P w K mg base T) (Fm : FnMark P w K mg base T) :
    FnOk P w K mg base CX0 8 f fd ["letters", "transitions", "marks"] (spF K T machPre nonePost) := by
  refine ok_F F sc_need_machine (by rintro _ ⟨ls, rows, marks, rs, v, rfl, _⟩; rfl) (by decide) fun cdv A outer s H E m ts hr hp => ?_
  obtain ⟨ls, rows, marks, rs, v, rfl, hm, hrs, hv⟩ := hp
  obtain ⟨tS, mS⟩ := mS
  have hsl : sizeLine = 16777216 := sizeLine_eq
  obtain ⟨hvq, vn, hvn⟩ := ixMark hv
  have ell := hm.lets.2.1
  refine ss_cons (s_expr (Φ := fun _ _ => True) (ee_call Fn (hr.mono (by decide)) rfl (ea_cons (ee_name 0 rfl rfl (ea_nil ⟨⟨ls, rfl, hm.lets⟩, ?_⟩)))))
  rintro t rfl
  refine ss_cons (s_if (et_ew (ew_or (et_not (et_val (ee_call Fs (hr.mono (by decide)) rfl (ea_cons (ee_name 1 rfl rfl (ea_nil ⟨⟨_, "list", rfl, rfl⟩, ?_⟩)))))))))
  rintro t ⟨u, e, rfl⟩
  injection e with e _
  subst e
  refine ⟨true, rfl, fun h => Bool.noConfusion h, fun _ => ew_or (et_not (et_val (ee_call Fs (hr.mono (by decide)) rfl (ea_cons (ee_name 2 rfl rfl (ea_nil ⟨⟨v, vn, rfl, hvn⟩, ?_⟩))))))⟩
  rintro t ⟨u, e, rfl⟩
  injection e with e _
  subst e
  rw [hvq]
  have hml : (marks.map optB).length = marks.length := List.length_map _
  refine ⟨true, rfl, fun h => Bool.noConfusion h, fun _ => ew_or (et_cmp cd_neI (ee_callB cl_len rfl zl (by decide +kernel) (ea_cons (ee_name 1 rfl rfl (ea_nil ⟨_, rfl, rs, .inl rfl, ee_callB cl_len rfl zl (by decide +kernel) (ea_cons (ee_name 2 rfl rfl (ea_nil ⟨v, rfl, _, hv, _, _, rfl, rfl, ?_⟩)))⟩)))))⟩
  rw [hml, hrs.1, hm.len, decide_eq_true rfl]
  refine ⟨fun h => Bool.noConfusion h, fun _ => ew_or1 (et_cmp cd_eqI (ee_callB cl_len rfl zl (by decide +kernel) (ea_cons (ee_name 2 rfl rfl (ea_nil ⟨v, rfl, _, hv, ee_int ⟨_, _, rfl, rfl, ?_⟩⟩)))))⟩
  rw [hml]
  refine ⟨fun h => ?_, fun _ => ss_nil ?_⟩
  · exfalso
    have := of_decide_eq_true h
    have := hm.pos
    omega
  refine ss_cons (s_if (et_cmp cd_gt (ee_callB cl_len rfl zl (by decide +kernel) (ea_cons (ee_name 2 rfl rfl (ea_nil ⟨v, rfl, _, hv, ee_globI rfl mS ⟨_, _, rfl, rfl, ?_⟩⟩))))))
  rw [hml]
  refine ⟨fun h => ?_, fun _ => ss_nil ?_⟩
  · exfalso
    have := of_decide_eq_true h
    have := hm.few
    omega
  refine ss_one (s_for (.tp 3 4) PassesOwn.never rfl (pg_tup rfl (pgs_cons (pg_name (i := 3) sc_need_machine.nd rfl (Or.inl rfl)) (pgs_cons (pg_name (i := 4) sc_need_machine.nd rfl (Or.inl rfl)) pgs_nil))) ?_)
  refine ei_enum rfl zE (ee_name 1 rfl rfl ⟨rs, rfl, ?_⟩)
  refine ⟨fun i M' Δ' => ∃ e3 e4, Δ' = [.dat (.str (txt ls)), .dat (.lst rs), .dat v, e3, e4], ⟨_, _, rfl⟩, ?_, fun M' Δ' ⟨e3, e4, h⟩ => rfl⟩
  rintro i M' Δ' hi ⟨e3, e4, rfl⟩
  have hi2 : i < rows.length := by rw [← hrs.1]; exact hi
  have hi3 : i < marks.length := by rw [← hm.len]; exact hi2
  have hrow := hm.row _ (List.getElem_mem hi2)
  have hz := hrs.2 i _ (List.getElem?_eq_getElem hi2)
  have hu : rs.getD i .non = .lst ((rows[i]).map optN) ∨ rs.getD i .non = .tup ((rows[i]).map optN) := by
    rcases hz with h | h
    · exact .inl (getD_of h)
    · exact .inr (getD_of h)
  refine ⟨⟨_, _, rfl⟩, ss_one (s_if (et_ew (ew_or (et_not (et_val ?_)))))⟩
  refine ee_call Ft (hr.mono (by decide)) rfl (ea_cons (ee_name 0 rfl rfl (ea_cons (ee_name 4 rfl rfl (ea_cons ?_)))))
  refine ee_callB cl_len rfl zl (by decide +kernel) (ea_cons (ee_name 2 rfl rfl (ea_nil ⟨v, rfl, _, hv, ea_nil ⟨⟨txt ls, rows[i], marks.length, rs.getD i .non, ?_, hu, ?_, ?_, hrow.2⟩, ?_⟩⟩)))
  · rw [hml]
  · rw [txt_len]; exact hrow.1.symm
  · rw [txt_len]; exact ell
  rintro t rfl
  refine ⟨true, rfl, fun h => Bool.noConfusion h, fun _ => ew_or1 (et_not (et_val (ee_call Fm (hr.mono (by decide)) rfl (ea_cons (ee_ixQ (ee_name 2 rfl rfl (ee_name 3 rfl rfl ⟨_, _, optB marks[i], hv, rfl, atI_ofNat (by simp [hi3]), ea_nil ⟨⟨_, rfl, ?_⟩, ?_⟩⟩)))))))⟩
  · cases marks[i] with
    | none => exact .inl rfl
    | some b => exact .inr ⟨b, rfl⟩
  rintro t rfl
  exact ⟨true, rfl, fun h => Bool.noConfusion h, fun _ => ss_nil ⟨_, _, rfl⟩⟩
end
end Toy

set_option Elab.async false
set_option linter.all false
set_option maxRecDepth 100000
set_option maxHeartbeats 4000000
namespace Toy
open PySem PySem.Spec PyProof.Rows L2 LamX Wf
def rowsT (rows : List (List (Option Nat))) : Tr := .tup (rows.map fun r => .tup (r.map optN))
def marksT (marks : List (Option Bool)) : Tr := .tup (marks.map optB)
def machF (ls : List Nat) (rows : List (List (Option Nat))) (marks : List (Option Bool)) : List (Str × Tr) :=
  [("own_letters", .str (txt ls)), ("own_transitions", rowsT rows), ("own_marks", marksT marks), ("own_parts", .tup [.str (txt ls), rowsT rows, marksT marks])]
def machD (C : Addr) (ls : List Nat) (rows : List (List (Option Nat))) (marks : List (Option Bool)) : Tr := .ins C (machF ls rows marks)
theorem putT_new {f : Str} {t : Tr} : ∀ {fs : List (Str × Tr)}, (∀ p ∈ fs, p.1 ≠ f) → putT f t fs = fs ++ [(f, t)]
  | [], _ => rfl
  | (g, x) :: fs, h => by
    unfold putT
    rw [if_neg (h (g, x) List.mem_cons_self), putT_new fun p hp => h p (List.mem_cons_of_mem _ hp)]
    rfl
theorem lk_tr {ls rows marks} : (machF ls rows marks).lookup ("own_transitions" : Str) = some (rowsT rows) := by
  unfold machF
  rw [List.lookup_cons, show (("own_transitions" : Str) == "own_letters") = false by decide +kernel]
  rw [List.lookup_cons, show (("own_transitions" : Str) == "own_transitions") = true by decide +kernel]
theorem lk_lt {ls rows marks} : (machF ls rows marks).lookup ("own_letters" : Str) = some (.str (txt ls)) := by
  unfold machF
  rw [List.lookup_cons, show (("own_letters" : Str) == "own_letters") = true by decide +kernel]
theorem lk_mk {ls rows marks} : (machF ls rows marks).lookup ("own_marks" : Str) = some (marksT marks) := by
  unfold machF
  rw [List.lookup_cons, show (("own_marks" : Str) == "own_letters") = false by decide +kernel]
  rw [List.lookup_cons, show (("own_marks" : Str) == "own_transitions") = false by decide +kernel]
  rw [List.lookup_cons, show (("own_marks" : Str) == "own_marks") = true by decide +kernel]
theorem lk_pt {ls rows marks} : (machF ls rows marks).lookup ("own_parts" : Str) = some (.tup [.str (txt ls), rowsT rows, marksT marks]) := by
  unfold machF
  rw [List.lookup_cons, show (("own_parts" : Str) == "own_letters") = false by decide +kernel]
  rw [List.lookup_cons, show (("own_parts" : Str) == "own_transitions") = false by decide +kernel]
  rw [List.lookup_cons, show (("own_parts" : Str) == "own_marks") = false by decide +kernel]
  rw [List.lookup_cons, show (("own_parts" : Str) == "own_parts") = true by decide +kernel]
/-- the class's fields are no names of the class -/
structure MachC (K : PySem.W.Frag) (C : Addr) : Prop where
  cl : Cls K C
  n1 : NoAttr K C "own_letters"
  n2 : NoAttr K C "own_transitions"
  n3 : NoAttr K C "own_marks"
  n4 : NoAttr K C "own_parts"
def initPost (ts : List Tr) (fs : List (Str × Tr)) : Prop := ∃ ls rows marks rs v, ts = [.str (txt ls), .lst rs, v] ∧ MachOk ls rows marks ∧ RowsAre rs rows ∧ (v = .lst (marks.map optB) ∨ v = .tup (marks.map optB)) ∧ fs = machF ls rows marks
section
variable {P : Program} {w : World} {K : PySem.W.Frag} {mg : Str → Option Value} {base : Heap} {T : List (Addr × Str)} {f : Addr} {fd : FuncData} {C : Addr}
abbrev FnNM (P : Program) (w : World) (K : PySem.W.Frag) (mg : Str → Option Value) (base : Heap) (T : List (Addr × Str)) : Prop := Fn P w K mg base "need_machine" 8 ["letters", "transitions", "marks"] (spF K T machPre nonePost)
abbrev f1 (ls : List Nat) : List (Str × Tr) := [("own_letters", .str (txt ls))]
abbrev f2 (ls : List Nat) (rows : List (List (Option Nat))) : List (Str × Tr) := [("own_letters", .str (txt ls)), ("own_transitions", rowsT rows)]
abbrev f3 (ls : List Nat) (rows : List (List (Option Nat))) (marks : List (Option Bool)) : List (Str × Tr) := [("own_letters", .str (txt ls)), ("own_transitions", rowsT rows), ("own_marks", marksT marks)]
theorem put1 {ls} : putT "own_letters" (.str (txt ls)) [] = f1 ls := rfl
theorem ne_lt : ("own_letters" : Str) ≠ "own_transitions" := by decide +kernel
theorem ne_lm : ("own_letters" : Str) ≠ "own_marks" := by decide +kernel
theorem ne_lp : ("own_letters" : Str) ≠ "own_parts" := by decide +kernel
theorem ne_tm : ("own_transitions" : Str) ≠ "own_marks" := by decide +kernel
theorem ne_tp : ("own_transitions" : Str) ≠ "own_parts" := by decide +kernel
theorem ne_mp : ("own_marks" : Str) ≠ "own_parts" := by decide +kernel
theorem put2 {ls rows} : putT "own_transitions" (rowsT rows) (f1 ls) = f2 ls rows := putT_new (by
  intro p hp
  simp only [List.mem_cons, List.not_mem_nil, or_false] at hp
  rcases hp with rfl
  exact ne_lt)
theorem put3 {ls rows marks} : putT "own_marks" (marksT marks) (f2 ls rows) = f3 ls rows marks := putT_new (by
  intro p hp
  simp only [List.mem_cons, List.not_mem_nil, or_false] at hp
  rcases hp with rfl | rfl
  · exact ne_lm
  · exact ne_tm)
theorem put4 {ls rows marks t} : putT "own_parts" t (f3 ls rows marks) = f3 ls rows marks ++ [(("own_parts" : Str), t)] := putT_new (by
  intro p hp
  simp only [List.mem_cons, List.not_mem_nil, or_false] at hp
  rcases hp with rfl | rfl | rfl
  · exact ne_lp
  · exact ne_tp
  · exact ne_mp)
theorem lk3t {ls rows marks} : (f3 ls rows marks).lookup ("own_transitions" : Str) = some (rowsT rows) := by
  rw [List.lookup_cons, show (("own_transitions" : Str) == "own_letters") = false by decide +kernel]
  rw [List.lookup_cons, show (("own_transitions" : Str) == "own_transitions") = true by decide +kernel]
theorem lk3m {ls rows marks} : (f3 ls rows marks).lookup ("own_marks" : Str) = some (marksT marks) := by
  rw [List.lookup_cons, show (("own_marks" : Str) == "own_letters") = false by decide +kernel]
  rw [List.lookup_cons, show (("own_marks" : Str) == "own_transitions") = false by decide +kernel]
  rw [List.lookup_cons, show (("own_marks" : Str) == "own_marks") = true by decide +kernel]
theorem ok_minit (F : Fun K "__init__" "Machine.__init__" s_Machine__init_ f fd) (MC : MachC K C) (zt : mg "tuple" = none) (Fn : FnNM P w K mg base T) :
    FnOk P w K mg base CX0 10 f fd ["self", "letters", "transitions", "marks"] (spI K T C machPre initPost) := by
  refine ok_I F sc_Machine__init_ (by rintro _ ⟨ls, rows, marks, rs, v, rfl, _⟩; rfl) (by decide) fun cdv A outer s H H0 E m l ts hr hp => ?_
  obtain ⟨ls, rows, marks, rs, v, rfl, hm, hrs, hv⟩ := hp
  have hsl : sizeLine = 16777216 := sizeLine_eq
  refine ss_cons (s_expr (Φ := fun _ _ => True) (ee_call Fn (hr.mono (by decide)) rfl (ea_cons (ee_name 1 rfl rfl (ea_cons (ee_name 2 rfl rfl (ea_cons (ee_name 3 rfl rfl (ea_nil ⟨⟨ls, rows, marks, rs, v, rfl, hm, hrs, hv⟩, ?_⟩)))))))))
  rintro t rfl
  refine ss_cons (s_fld 0 rfl (ee_name 1 rfl rfl ⟨l, C, [], rfl, MC.cl, MC.n1, by decide, ?_⟩))
  rw [put1]
  refine ss_cons (s_fld 0 rfl (ee_callTy cl_tuple rfl zt (by decide +kernel) (ea_cons (EO.ee ?_))))
  refine eo_lcMap (.nm 4) (own := [("row", 4)]) rfl sc_Machine__init_.nd (by decide) rfl (blkOk_by (N := ["self", "letters", "transitions", "marks", "row"]) (sc := defScope s_Machine__init_) (by decide +kernel)) (fun _ _ _ _ _ => pg_name (i := 4) sc_Machine__init_.nd rfl (Or.inl rfl)) ?_
  have hrl : rs.length ≤ 600 := by rw [hrs.1, hm.len]; exact hm.few
  refine ei_list (ee_name 2 rfl rfl ⟨rs, rfl, fun i => .tup ((rows.getD i []).map optN), by omega, fun i D hi => ⟨True.intro, fun _ _ _ _ _ => ?_⟩, ?_⟩)
  · have hi2 : i < rows.length := by rw [← hrs.1]; exact hi
    have e1 : rows.getD i [] = rows[i] := by simp [hi2]
    have hu : rs.getD i .non = .lst ((rows[i]).map optN) ∨ rs.getD i .non = .tup ((rows[i]).map optN) := by
      rcases hrs.2 i _ (List.getElem?_eq_getElem hi2) with h | h
      · exact .inl (getD_of h)
      · exact .inr (getD_of h)
    refine ee_callTy cl_tuple rfl zt (by decide +kernel) (ea_cons (ee_name 4 rfl rfl (ea_nil ⟨(rows[i]).map optN, ?_, ?_, rfl⟩)))
    · rcases hu with h | h
      · exact .inl (congrArg (fun z => [z]) h)
      · exact .inr (congrArg (fun z => [z]) h)
    · show Tr.tup _ = Tr.tup ((rows.getD i []).map optN)
      rw [e1]
  have e2 : ((List.range rs.length).map fun i => Tr.tup ((rows.getD i []).map optN)) = rows.map fun r => .tup (r.map optN) := by
    rw [hrs.1]
    exact map_range (fun r : List (Option Nat) => Tr.tup (r.map optN)) [] rows
  rw [e2]
  refine ea_nil ⟨_, .inl rfl, l, C, f1 ls, rfl, MC.cl, MC.n2, by show 1 < 1000; omega, ?_⟩
  rw [show Tr.tup (rows.map fun r => .tup (r.map optN)) = rowsT rows from rfl, put2]
  refine ss_cons (s_fld 0 rfl (ee_callTy cl_tuple rfl zt (by decide +kernel) (ea_cons (ee_name 3 rfl rfl (ea_nil ⟨marks.map optB, ?_, l, C, f2 ls rows, rfl, MC.cl, MC.n3, by show 2 < 1000; omega, ?_⟩)))))
  · rcases hv with rfl | rfl
    · exact .inl rfl
    · exact .inr rfl
  rw [show Tr.tup (marks.map optB) = marksT marks from rfl, put3]
  refine ss_one (s_fld 0 rfl (ee_tup (ea_cons (ee_name 1 rfl rfl ?_))))
  refine ea_cons (ee_fldO 0 rfl rfl MC.cl MC.n2 lk3t ?_)
  refine ea_cons (ee_fldO 0 rfl rfl MC.cl MC.n3 lk3m (ea_nil ⟨by show 3 ≤ sizeLine; omega, l, C, f3 ls rows marks, rfl, MC.cl, MC.n4, by show 3 < 1000; omega, ?_⟩))
  rw [put4]
  exact ⟨fun _ => Iff.rfl, machF ls rows marks, ⟨ls, rows, marks, rs, v, rfl, hm, hrs, hv, rfl⟩, rfl⟩
end
end Toy

set_option Elab.async false
set_option linter.all false
set_option maxRecDepth 100000
set_option maxHeartbeats 4000000
namespace Toy
open PySem PySem.Spec PyProof.Rows L2 LamX Wf
/-! ### a machine's steps -/
def stepM (ls : List Nat) (rows : List (List (Option Nat))) : Option Nat → Nat → Option Nat
  | none, _ => none
  | some st, c => (rows.getD st []).getD (ls.idxOf c) none
def runM (ls : List Nat) (rows : List (List (Option Nat))) (s : Option Nat) (w : List Nat) : Option Nat := w.foldl (stepM ls rows) s
def ansM (marks : List (Option Bool)) : Option Nat → Option Bool
  | none => none
  | some st => marks.getD st none
theorem runM_snoc {ls rows s w c} : runM ls rows s (w ++ [c]) = stepM ls rows (runM ls rows s w) c := by
  unfold runM
  rw [List.foldl_append]
  rfl
theorem runM_app {ls rows s w v} : runM ls rows s (w ++ v) = runM ls rows (runM ls rows s w) v := by
  unfold runM
  rw [List.foldl_append]
theorem runM_none {ls rows} : ∀ w, runM ls rows none w = none
  | [] => rfl
  | c :: w => runM_none w
theorem step_row {ls rows marks st c} (h : MachOk ls rows marks) (hs : st < marks.length) (hc : c ∈ ls) : ∃ o, (rows.getD st [])[ls.idxOf c]? = some o ∧ stepM ls rows (some st) c = o ∧ ∀ k, o = some k → k < marks.length := by
  have hs2 : st < rows.length := by rw [h.len]; exact hs
  have e : rows.getD st [] = rows[st] := by simp [hs2]
  obtain ⟨h1, h2⟩ := h.row _ (List.getElem_mem hs2)
  have hi : ls.idxOf c < rows[st].length := by rw [h1]; exact List.idxOf_lt_length_of_mem hc
  refine ⟨rows[st][ls.idxOf c], by rw [e]; exact List.getElem?_eq_getElem hi, ?_, h2 _ (List.getElem_mem hi)⟩
  show (rows.getD st []).getD (ls.idxOf c) none = _
  rw [e]
  simp [hi]
theorem run_lt {ls rows marks} (h : MachOk ls rows marks) : ∀ (w : List Nat) (s : Option Nat), (∀ k, s = some k → k < marks.length) → (∀ c ∈ w, c ∈ ls) → ∀ k, runM ls rows s w = some k → k < marks.length
  | [], s, hs, _, k, e => hs k e
  | c :: w, none, _, _, k, e => by
    have := runM_none (ls := ls) (rows := rows) w
    have e' : runM ls rows none w = some k := e
    rw [this] at e'; cases e'
  | c :: w, some st, hs, hw, k, e => by
    obtain ⟨o, _, h2, h3⟩ := step_row h (hs st rfl) (hw c List.mem_cons_self)
    exact run_lt h w (stepM ls rows (some st) c) (fun j hj => h3 j (h2 ▸ hj)) (fun x hx => hw x (List.mem_cons_of_mem _ hx)) k e
theorem lk_no {f : Str} {ls rows marks} (h1 : (f == ("own_letters" : Str)) = false) (h2 : (f == ("own_transitions" : Str)) = false) (h3 : (f == ("own_marks" : Str)) = false) (h4 : (f == ("own_parts" : Str)) = false) : (machF ls rows marks).lookup f = none := by
  unfold machF
  rw [List.lookup_cons, h1, List.lookup_cons, h2, List.lookup_cons, h3, List.lookup_cons, h4]
  rfl
theorem sidx {ls : List Nat} (hp : ls.Pairwise (· < ·)) {c : Nat} (hc : c ∈ ls) : ∃ rest, Builtin.Str.occurrences (txt ls) (sgn c) 0 (txt ls).length 1 = ls.idxOf c :: rest := by
  have h1 := PySem.StrLaws.found_one (txt ls) c
  rw [txt_cps, decide_eq_true hc] at h1
  cases e : Builtin.Str.occurrences (txt ls) (sgn c) 0 (txt ls).length 1 with
  | nil =>
    have e' : Builtin.Str.occurrences (txt ls) ⟨#[c]⟩ 0 (txt ls).length 1 = [] := e
    rw [e'] at h1
    simp at h1
  | cons i rest =>
    refine ⟨rest, ?_⟩
    have h2 := PySem.StrLaws.occ_spec (txt ls) (sgn c) 0 (txt ls).length 1 i (by rw [e]; exact List.mem_cons_self)
    have h3 := (PySem.StrLaws.subAt_one (txt ls) c i).mp h2
    rw [txt_cps] at h3
    obtain ⟨hi, hc2⟩ := List.getElem?_eq_some_iff.mp h3
    have hlt := List.idxOf_lt_length_of_mem hc
    have hg : ls[ls.idxOf c] = c := List.getElem_idxOf hlt
    have : i = ls.idxOf c := by
      rcases Nat.lt_trichotomy i (ls.idxOf c) with h | h | h
      · have := List.pairwise_iff_getElem.mp hp i (ls.idxOf c) hi hlt h
        omega
      · exact h
      · have := List.pairwise_iff_getElem.mp hp (ls.idxOf c) i hlt hi h
        omega
    rw [this]
theorem optN_inj : ∀ {a b : List (Option Nat)}, a.map optN = b.map optN → a = b
  | [], [], _ => rfl
  | [], _ :: _, e => by simp at e
  | _ :: _, [], e => by simp at e
  | x :: a, y :: b, e => by
    rw [List.map_cons, List.map_cons] at e
    injection e with e1 e2
    have : x = y := by
      cases x <;> cases y <;> first | rfl | (injection e1 with e1; rw [Int.ofNat.inj e1]) | cases e1
    rw [this, optN_inj e2]
theorem optB_inj : ∀ {a b : List (Option Bool)}, a.map optB = b.map optB → a = b
  | [], [], _ => rfl
  | [], _ :: _, e => by simp at e
  | _ :: _, [], e => by simp at e
  | x :: a, y :: b, e => by
    rw [List.map_cons, List.map_cons] at e
    injection e with e1 e2
    have : x = y := by
      cases x <;> cases y <;> first | rfl | (injection e1 with e1; rw [e1]) | cases e1
    rw [this, optB_inj e2]
theorem rows_inj : ∀ {a b : List (List (Option Nat))}, (a.map fun r => Tr.tup (r.map optN)) = (b.map fun r => Tr.tup (r.map optN)) → a = b
  | [], [], _ => rfl
  | [], _ :: _, e => by simp at e
  | _ :: _, [], e => by simp at e
  | x :: a, y :: b, e => by
    rw [List.map_cons, List.map_cons] at e
    injection e with e1 e2
    injection e1 with e1
    rw [optN_inj e1, rows_inj e2]
theorem machD_inj {C : Addr} {ls rows marks ls' rows' marks'} (e : machD C ls rows marks = machD C ls' rows' marks') : ls = ls' ∧ rows = rows' ∧ marks = marks' := by
  unfold machD machF at e
  injection e with _ e
  injection e with e1 e
  injection e with e2 e
  injection e with e3 _
  injection e1 with _ e1
  injection e2 with _ e2
  injection e3 with _ e3
  injection e1 with e1
  injection e2 with e2
  injection e3 with e3
  exact ⟨txt_inj e1, rows_inj e2, optB_inj e3⟩
theorem targ_inj {C : Addr} {ls rows marks ls' rows' marks'} {st st' c c' : Nat} (e : [machD C ls rows marks, Tr.int ((st : Nat) : Int), Tr.str (sgn c)] = [machD C ls' rows' marks', .int ((st' : Nat) : Int), .str (sgn c')]) : (ls = ls' ∧ rows = rows') ∧ st = st' ∧ c = c' := by
  injection e with e1 e
  injection e with e2 e
  injection e with e3 _
  obtain ⟨q1, q2, q3⟩ := machD_inj e1
  injection e2 with e2
  injection e3 with e3
  have h3 : txt [c] = txt [c'] := e3
  have h4 := txt_inj h3
  injection h4 with h4 _
  exact ⟨⟨q1, q2⟩, by omega, h4⟩
section
variable {X : Cx} {B : Bs} {M : Pl} {Δ : List En} {o e : Expr} {Φ : Tr → List En → Prop}
/-- s.index(t) -/
theorem ee_sindex {apos pos : Pos} (h : EE X B M Δ o fun x Δ1 => ∃ y : Str, x = .str y ∧ EA X B M Δ1 [e] fun ts Δ2 => ∃ (z : Str) (i : Nat) (rest : List Nat), ts = [.str z] ∧ Builtin.Str.occurrences y z 0 y.length 1 = i :: rest ∧ Φ (.int i) Δ2)
    (hE : PE X (.Call (.Attribute o "index" apos) [e] [] pos) (tBM X.K "str" (fun x xs H Q => ∃ a b i rest, x = .str a ∧ xs = [.str b] ∧ Builtin.Str.occurrences a b 0 a.length 1 = i :: rest ∧ Q (.int (i : Nat)) H) (WE X o) (WA X [e])) := by
      exact pe_bm PySem.F.plainAttrs_str PySem.F.slot_str_index PySem.F.type_str_index mt_sindex pe_self pa_self) : EE X B M Δ (.Call (.Attribute o "index" apos) [e] [] pos) Φ := fun σ H S Q k =>
  PE.to hE (h σ H S _ fun x Δ1 v H1 p f S1 d => by
    obtain ⟨y, rfl, p⟩ := p
    cases d
    refine ⟨rfl, p σ H1 S1 _ fun ts Δ2 vs H2 p2 f2 S2 d2 => ?_⟩
    obtain ⟨z, i, rest, rfl, oc, q⟩ := p2
    cases d2 with
    | cons g1 g2 =>
      cases g2; cases g1
      exact ⟨y, z, i, rest, rfl, rfl, oc, k _ Δ2 _ H2 q (f.trans f2) S2 (.int _)⟩)
end
section
variable {P : Program} {w : World} {K : PySem.W.Frag} {mg : Str → Option Value} {base : Heap} {T : List (Addr × Str)} {f : Addr} {fd : FuncData} {C : Addr}
def mPre (C : Addr) (ts : List Tr) : Prop := ∃ ls rows marks, ts = [machD C ls rows marks] ∧ MachOk ls rows marks
def lettersPost (C : Addr) (ts : List Tr) (r : Tr) : Prop := ∃ ls rows marks, ts = [machD C ls rows marks] ∧ r = .str (txt ls)
def transPost (C : Addr) (ts : List Tr) (r : Tr) : Prop := ∃ ls rows marks, ts = [machD C ls rows marks] ∧ r = rowsT rows
def marksPost (C : Addr) (ts : List Tr) (r : Tr) : Prop := ∃ ls rows marks, ts = [machD C ls rows marks] ∧ r = marksT marks
def sizePost (C : Addr) (ts : List Tr) (r : Tr) : Prop := ∃ ls rows marks, ts = [machD C ls rows marks] ∧ r = .int marks.length
theorem ok_letters_ (F : Fun K "letters" "Machine.letters" s_Machine_letters f fd) (MC : MachC K C) : FnOk P w K mg base CX0 1 f fd ["self"] (spF K T (mPre C) (lettersPost C)) := by
  refine ok_F F sc_Machine_letters (by rintro _ ⟨ls, rows, marks, rfl, _⟩; rfl) (by decide) fun cdv A outer s H E m ts hr hp => ?_
  obtain ⟨ls, rows, marks, rfl, hm⟩ := hp
  exact ss_one (s_ret (ee_fld (ee_name 0 rfl rfl ⟨C, _, _, rfl, MC.cl, MC.n1, lk_lt, ls, rows, marks, rfl, rfl⟩)))
theorem ok_transitions_ (F : Fun K "transitions" "Machine.transitions" s_Machine_transitions f fd) (MC : MachC K C) : FnOk P w K mg base CX0 1 f fd ["self"] (spF K T (mPre C) (transPost C)) := by
  refine ok_F F sc_Machine_transitions (by rintro _ ⟨ls, rows, marks, rfl, _⟩; rfl) (by decide) fun cdv A outer s H E m ts hr hp => ?_
  obtain ⟨ls, rows, marks, rfl, hm⟩ := hp
  exact ss_one (s_ret (ee_fld (ee_name 0 rfl rfl ⟨C, _, _, rfl, MC.cl, MC.n2, lk_tr, ls, rows, marks, rfl, rfl⟩)))
theorem ok_marks_ (F : Fun K "marks" "Machine.marks" s_Machine_marks f fd) (MC : MachC K C) : FnOk P w K mg base CX0 1 f fd ["self"] (spF K T (mPre C) (marksPost C)) := by
  refine ok_F F sc_Machine_marks (by rintro _ ⟨ls, rows, marks, rfl, _⟩; rfl) (by decide) fun cdv A outer s H E m ts hr hp => ?_
  obtain ⟨ls, rows, marks, rfl, hm⟩ := hp
  exact ss_one (s_ret (ee_fld (ee_name 0 rfl rfl ⟨C, _, _, rfl, MC.cl, MC.n3, lk_mk, ls, rows, marks, rfl, rfl⟩)))
theorem ok_size_ (F : Fun K "size" "Machine.size" s_Machine_size f fd) (MC : MachC K C) (zl : mg "len" = none) : FnOk P w K mg base CX0 1 f fd ["self"] (spF K T (mPre C) (sizePost C)) := by
  refine ok_F F sc_Machine_size (by rintro _ ⟨ls, rows, marks, rfl, _⟩; rfl) (by decide) fun cdv A outer s H E m ts hr hp => ?_
  obtain ⟨ls, rows, marks, rfl, hm⟩ := hp
  refine ss_one (s_ret (ee_callB cl_len rfl zl (by decide +kernel) (ea_cons (ee_fld (ee_name 0 rfl rfl ⟨C, _, _, rfl, MC.cl, MC.n3, lk_mk, ea_nil ⟨_, rfl, marks.map optB, .inr rfl, ls, rows, marks, rfl, ?_⟩⟩)))))
  rw [List.length_map]
def targetPre (C : Addr) (ts : List Tr) : Prop := ∃ ls rows marks st c, ts = [machD C ls rows marks, .int ((st : Nat) : Int), .str (sgn c)] ∧ MachOk ls rows marks ∧ st < marks.length ∧ c ∈ ls
def targetPost (C : Addr) (ts : List Tr) (r : Tr) : Prop := ∃ ls rows marks st c, ts = [machD C ls rows marks, .int ((st : Nat) : Int), .str (sgn c)] ∧ MachOk ls rows marks ∧ c ∈ ls ∧ r = optN (stepM ls rows (some st) c)
theorem ok_target_ (F : Fun K "target" "Machine.target" s_Machine_target f fd) (MC : MachC K C) : FnOk P w K mg base CX0 2 f fd ["self", "state", "letter"] (spF K T (targetPre C) (targetPost C)) := by
  refine ok_F F sc_Machine_target (by rintro _ ⟨ls, rows, marks, st, c, rfl, _⟩; rfl) (by decide) fun cdv A outer s H E m ts hr hp => ?_
  obtain ⟨ls, rows, marks, st, c, rfl, hm, hs, hc⟩ := hp
  obtain ⟨o, h1, h2, _⟩ := step_row hm hs hc
  have hs2 : st < rows.length := by rw [hm.len]; exact hs
  obtain ⟨rest, oc⟩ := sidx hm.lets.2.2.1 hc
  refine ss_one (s_ret (ee_ixT (ee_ixT (ee_fld (ee_name 0 rfl rfl ⟨C, _, _, rfl, MC.cl, MC.n2, lk_tr, ee_name 1 rfl rfl ⟨_, _, .tup ((rows.getD st []).map optN), rfl, rfl, atI_ofNat (by simp [hs2]), ?_⟩⟩)))))
  refine ee_sindex (ee_fld (ee_name 0 rfl rfl ⟨C, _, _, rfl, MC.cl, MC.n1, lk_lt, txt ls, rfl, ea_cons (ee_name 2 rfl rfl (ea_nil ⟨sgn c, _, rest, rfl, oc, ?_⟩))⟩))
  refine ⟨_, _, optN o, rfl, rfl, atI_ofNat ?_, ls, rows, marks, st, c, rfl, hm, hc, by rw [h2]⟩
  rw [List.getElem?_map, h1]
  rfl
abbrev FnNW (P : Program) (w : World) (K : PySem.W.Frag) (mg : Str → Option Value) (base : Heap) (T : List (Addr × Str)) : Prop := Fn P w K mg base "need_word" 4 ["letters", "value"] (spF K T wordPreM nonePost)
abbrev MtTgt (P : Program) (w : World) (K : PySem.W.Frag) (mg : Str → Option Value) (base : Heap) (T : List (Addr × Str)) (C : Addr) : Prop := Mt P w K mg base C "target" 2 ["self", "state", "letter"] (spF K T (targetPre C) (targetPost C))
def runPre (C : Addr) (ts : List Tr) : Prop := ∃ ls rows marks x, ts = [machD C ls rows marks, .str (txt x)] ∧ MachOk ls rows marks ∧ (∀ c ∈ x, c ∈ ls) ∧ x.length ≤ 1000000
def runPost (C : Addr) (ts : List Tr) (r : Tr) : Prop := ∃ ls rows marks x, ts = [machD C ls rows marks, .str (txt x)] ∧ MachOk ls rows marks ∧ r = optN (runM ls rows (some 0) x)
theorem ok_run_ (F : Fun K "run" "Machine.run" s_Machine_run f fd) (MC : MachC K C) (Fn : FnNW P w K mg base T) (Ft : MtTgt P w K mg base T C) : FnOk P w K mg base CX0 6 f fd ["self", "word"] (spF K T (runPre C) (runPost C)) := by
  refine ok_F F sc_Machine_run (by rintro _ ⟨ls, rows, marks, x, rfl, _⟩; rfl) (by decide) fun cdv A outer s H E m ts hr hp => ?_
  obtain ⟨ls, rows, marks, x, rfl, hm, hx, hl⟩ := hp
  have hsl : sizeLine = 16777216 := sizeLine_eq
  refine ss_cons (s_expr (Φ := fun _ _ => True) (ee_call Fn (hr.mono (by decide)) rfl (ea_cons (ee_fld (ee_name 0 rfl rfl ⟨C, _, _, rfl, MC.cl, MC.n1, lk_lt, ea_cons (ee_name 1 rfl rfl (ea_nil ⟨⟨txt ls, txt x, rfl, by rw [txt_len]; omega, by rw [txt_cps, txt_cps]; exact hx⟩, ?_⟩))⟩)))))
  rintro t rfl
  refine ss_cons (s_asg 2 sc_Machine_run.nd rfl (ee_int ?_))
  refine ss_cons (s_for (.nm 3) PassesOwn.never rfl (pg_name (i := 3) sc_Machine_run.nd rfl (Or.inl rfl)) (ei_str (ee_name 1 rfl rfl ⟨txt x, rfl, ?_⟩)))
  refine ⟨fun i M' Δ' => ∃ e3, Δ' = [.dat (machD C ls rows marks), .dat (.str (txt x)), .dat (optN (runM ls rows (some 0) (x.take i))), e3], ⟨_, rfl⟩, ?_, ?_⟩
  · rintro i M' Δ' hi ⟨e3, rfl⟩
    have hi2 : i < x.length := by have h : i < (txt x).length := hi; rwa [txt_len] at h
    have hxi : x[i] ∈ ls := hx _ (List.getElem_mem hi2)
    have hsg : Tr.str ⟨#[(txt x).cps.getD i 0]⟩ = Tr.str (sgn x[i]) := by
      rw [str_sgn]
      simp [hi2]
    have htk : x.take (i + 1) = x.take i ++ [x[i]] := by rw [List.take_succ_eq_append_getElem hi2]
    have hst := run_lt hm (x.take i) (some 0) (fun k hk => by cases hk; exact hm.pos) (fun c hc => hx c (List.mem_of_mem_take hc))
    have hru : runM ls rows (some 0) (x.take (i + 1)) = stepM ls rows (runM ls rows (some 0) (x.take i)) x[i] := by rw [htk, runM_snoc]
    refine ⟨True.intro, ss_one (s_asg 2 sc_Machine_run.nd rfl (ee_if (et_cmp cd_isN (ee_name 2 rfl rfl (ee_non ⟨rfl, ?_, ?_⟩)))))⟩
    · cases runM ls rows (some 0) (x.take i) <;> rfl
    generalize runM ls rows (some 0) (x.take i) = o at hst hru
    cases o with
    | none =>
      refine ⟨fun h => ee_non ?_, fun h => Bool.noConfusion h⟩
      show ∃ e, _ = [_, _, En.dat (optN (runM ls rows (some 0) (x.take (i + 1)))), e]
      rw [hru]
      exact ⟨_, rfl⟩
    | some st =>
      refine ⟨fun h => Bool.noConfusion h, fun h => ?_⟩
      refine ee_meth Ft (hr.mono (by decide)) (ee_name 0 rfl rfl ⟨_, rfl, lk_no (by decide +kernel) (by decide +kernel) (by decide +kernel) (by decide +kernel), ea_cons (ee_name 2 rfl rfl (ea_cons (ee_name 3 rfl rfl (ea_nil ⟨⟨ls, rows, marks, st, x[i], ?_, hm, hst st rfl, hxi⟩, ?_⟩))))⟩)
      · show [machD C ls rows marks, Tr.int ((st : Nat) : Int), Tr.str ⟨#[(txt x).cps.getD i 0]⟩] = _
        rw [hsg]
      · rintro t ⟨ls', rows', marks', st', c', e, _, _, rfl⟩
        have e2 : [machD C ls rows marks, Tr.int ((st : Nat) : Int), Tr.str ⟨#[(txt x).cps.getD i 0]⟩] = [machD C ls' rows' marks', .int ((st' : Nat) : Int), .str (sgn c')] := e
        rw [hsg] at e2
        obtain ⟨⟨q1, q1'⟩, q2, q3⟩ := targ_inj e2
        subst q1 q1' q2 q3
        show ∃ e, _ = [_, _, En.dat (optN (runM ls rows (some 0) (x.take (i + 1)))), e]
        rw [hru]
        exact ⟨_, rfl⟩
  · rintro M' Δ' ⟨e3, rfl⟩
    refine ss_one (s_ret (ee_name 2 rfl rfl ⟨ls, rows, marks, x, rfl, hm, ?_⟩))
    rw [List.take_of_length_le (by show x.length ≤ (txt x).cps.size; exact Nat.le_of_eq (txt_len x).symm)]
end
end Toy

set_option Elab.async false
set_option linter.all false
set_option maxRecDepth 100000
set_option maxHeartbeats 8000000
namespace Toy
open PySem PySem.Spec PyProof.Rows L2 LamX Wf
def rowL (rows : List (List (Option Nat))) : List Tr := rows.map fun r => Tr.lst (r.map optN)
theorem collect_of {α : Type} {f : α → Tr} {Q : α → Prop} : ∀ {ts : List Tr}, (∀ (i : Nat) t, ts[i]? = some t → ∃ o, t = f o ∧ Q o) → ∃ os : List α, ts = os.map f ∧ ∀ o ∈ os, Q o
  | [], _ => ⟨[], rfl, fun _ h => by simp at h⟩
  | t :: ts, h => by
    obtain ⟨o, rfl, q⟩ := h 0 t rfl
    obtain ⟨os, rfl, qs⟩ := collect_of (ts := ts) fun i t' ht => h (i + 1) t' ht
    exact ⟨o :: os, rfl, fun x hx => (List.mem_cons.mp hx).elim (fun e => e ▸ q) (qs x)⟩
/-- a table of that size, whole or not -/
structure TabOk (ls : List Nat) (n : Nat) (full : Bool) (rows : List (List (Option Nat))) (marks : List (Option Bool)) : Prop where
  r : rows.length = n
  m : marks.length = n
  row : ∀ row ∈ rows, row.length = ls.length ∧ ∀ o ∈ row, (∀ k, o = some k → k < n) ∧ (full = true → o ≠ none)
  mks : full = true → ∀ o ∈ marks, o ≠ none
def tabPre (ts : List Tr) : Prop := ∃ (ls : List Nat) (n : Nat) (full : Bool), ts = [.str (txt ls), .int n, .bl full] ∧ ls.length ≤ 4 ∧ 1 ≤ n ∧ n ≤ 1000
def tabPost (ts : List Tr) (r : Tr) : Prop := ∃ (ls : List Nat) (n : Nat) (full : Bool) (rows : List (List (Option Nat))) (marks : List (Option Bool)), ts = [.str (txt ls), .int n, .bl full] ∧ TabOk ls n full rows marks ∧ r = .tup [.lst (rowL rows), .lst (marks.map optB)]
section
variable {P : Program} {w : World} {K : PySem.W.Frag} {mg : Str → Option Value} {base : Heap} {T : List (Addr × Str)} {f : Addr} {fd : FuncData}
abbrev nTab : List Str := ["pen", "letters", "size", "is_full", "rows", "marks", "state", "row", "letter", "target"]
abbrev xTab (P : Program) (w : World) (K : PySem.W.Frag) (mg : Str → Option Value) (base : Heap) (f : Addr) (cdv : Value) (A : Around) (outer : List Env) (s : Shared) (H : Hp) (E : XK) : Cx := (cxOf CX0 P w K mg base nTab "_law_table" (defScope s_law_table) f cdv A outer s H E).nox
abbrev lpTab : List Stmt := match (defBody s_law_table).getD 1 (.Pass ⟨0, 0, 0, 0⟩) with
  | .For _ _ b _ _ => b
  | _ => []
theorem tab_turn {cdv : Value} {A : Around} {outer : List Env} {s : Shared} {H : Hp} {E : XK} {B : Bs} (hB : B.T = T) {M' : Pl} {Ψ : Eo} {p : Pn} {c : Nat} {ls : List Nat} {n : Nat} {full : Bool} {l1 l2 : Addr} {ts us : List Tr} {e6 e7 e8 e9 : En} (hr : Room 3 (A.deeper (envOfC "_law_table" (defScope s_law_table) s.heap.objs.size f cdv)))
    (Fd : FnDraw P w K mg base T) (hl : ls.length ≤ 4) (h1 : 1 ≤ n) (h2 : n ≤ 1000) (hc : c + 9 ≤ 1000000000) (hts : ts.length ≤ 1000) (hus : us.length ≤ 1000)
    (hnx : ∀ (M2 : Pl) (c' : Nat) (row : List (Option Nat)) (mk : Option Bool) (e6 e7 e8 e9 : En), c' ≤ c + 9 → row.length = ls.length → (∀ o ∈ row, (∀ k, o = some k → k < n) ∧ (full = true → o ≠ none)) → (full = true → mk ≠ none) →
      Ψ.nx M2 [.pen p c', .dat (.str (txt ls)), .dat (.int n), .dat (.bl full), .own l1 (.lst (ts ++ [.lst (row.map optN)])), .own l2 (.lst (us ++ [optB mk])), e6, e7, e8, e9]) :
    SS (xTab P w K mg base f cdv A outer s H E) B M' [.pen p c, .dat (.str (txt ls)), .dat (.int n), .dat (.bl full), .own l1 (.lst ts), .own l2 (.lst us), e6, e7, e8, e9] lpTab Ψ := by
  subst hB
  have hsl : sizeLine = 16777216 := sizeLine_eq
  refine ss_cons (s_of (.nm 8) 7 (own := [("letter", 8)]) rfl sc_law_table.nd rfl rfl (blkOk_by (N := nTab) (sc := defScope s_law_table) (by decide +kernel)) (fun _ _ _ _ _ => pg_name (i := 8) sc_law_table.nd rfl (Or.inl rfl)) (elc_lcPen (.nm 8) (by decide) ?_))
  refine ei_str (ee_name 1 rfl rfl ⟨txt ls, rfl, 0, p, c, 1, fun _ t => ∃ k : Nat, t = Tr.int k ∧ k < n, rfl, by show (txt ls).length ≤ _; rw [txt_len]; omega, fun i c1 D hi hc1 => ⟨True.intro, fun _ _ _ _ _ => ?_⟩, fun vs c1 hvl hv hc1 l7 hl7 => ?_⟩)
  · have hi' : i < ls.length := by have h : i < (txt ls).length := hi; rwa [txt_len] at h
    refine ee_callP 0 rfl rfl Fd (hr.mono (by decide)) rfl (ea_cons (ee_name 2 rfl rfl (ea_nil ⟨c1, rfl, ⟨_, rfl, by omega, by omega⟩, by show c1 + 1 ≤ 1000000000; omega, ?_⟩)))
    rintro _ ⟨n', i', e, rfl, g1, g2⟩
    injection e with e _
    injection e with e
    exact ⟨⟨i'.toNat, by rw [Int.toNat_of_nonneg g1], by omega⟩, c1 + 1, Nat.le_refl _, rfl⟩
  have hsz : (txt ls).cps.size = ls.length := txt_len ls
  rw [hsz] at hvl hc1
  obtain ⟨ks, rfl, hks⟩ := collect_of (f := fun k : Nat => Tr.int k) (Q := fun k => k < n) hv
  have hkl : ks.length = ls.length := by simpa using hvl
  refine ss_share 7 rfl ?_
  refine ss_cons (s_append 5 rfl rfl (ee_ixL (EO.ee (eo_lst ?_))))
  refine ea_cons (ee_bl (ea_cons (ee_bl (ea_cons (ee_non (ea_nil ⟨by show 3 ≤ sizeLine; omega, ?_⟩))))))
  have key : ∀ i : Int, 0 ≤ i → i < (if full = true then 2 else 3) → ∃ mk : Option Bool, atI [Tr.bl false, Tr.bl true, Tr.non] i = some (optB mk) ∧ (full = true → mk ≠ none) := fun i g1 g2 => by
    have : i = 0 ∨ i = 1 ∨ i = 2 := by
      cases full <;> simp at g2 <;> omega
    rcases this with rfl | rfl | rfl
    · exact ⟨some false, rfl, fun _ => by simp⟩
    · exact ⟨some true, rfl, fun _ => by simp⟩
    · refine ⟨none, rfl, fun h => ?_⟩
      rw [h] at g2
      simp at g2
  have hfull : full = true ∨ full = false := by cases full <;> simp
  refine ee_callP 0 rfl rfl Fd (hr.mono (by decide)) rfl (ea_cons (EE.mono (Φ := fun t Δ' => t = .int (if full = true then 2 else 3) ∧ Δ' = [.pen p c1, .dat (.str (txt ls)), .dat (.int n), .dat (.bl full), .own l1 (.lst ts), .own l2 (.lst us), e6, .dat (.lst (ks.map fun k : Nat => Tr.int k)), .any, e9]) (ee_if (et_val (ee_name 3 rfl rfl ⟨full, rfl, fun h => ee_int ⟨by rw [if_pos h], rfl⟩, fun h => ee_int ⟨by rw [h]; rfl, rfl⟩⟩))) ?_))
  rintro _ _ ⟨rfl, rfl⟩
  refine ea_nil ⟨c1, rfl, ⟨_, rfl, by split <;> decide, by split <;> decide⟩, by show c1 + 1 ≤ 1000000000; omega, ?_⟩
  rintro _ ⟨q, i, e, rfl, g1, g2⟩
  injection e with e _
  injection e with e
  obtain ⟨mk, k1, k2⟩ := key i g1 (by rw [e]; exact g2)
  refine ⟨_, _, _, rfl, rfl, k1, us, rfl, by omega, ?_⟩
  -- the row
  refine ss_one (s_append 4 rfl rfl (EO.ee ?_))
  refine eo_lcPen (.nm 9) (own := [("target", 9)]) rfl sc_law_table.nd (by decide) rfl (blkOk_by (N := nTab) (sc := defScope s_law_table) (by decide +kernel)) (fun _ _ _ _ _ => pg_name (i := 9) sc_law_table.nd rfl (Or.inl rfl)) ?_
  refine ei_list (ee_name 7 rfl rfl ⟨_, rfl, 0, p, c1 + 1, 1, fun _ t => ∃ o : Option Nat, t = optN o ∧ ((∀ k, o = some k → k < n) ∧ (full = true → o ≠ none)), rfl, by rw [List.length_map]; omega, fun i c2 D hi hc2 => ⟨True.intro, fun _ _ _ _ _ => ?_⟩, fun vs c2 hvl2 hv2 hc2 => ?_⟩)
  · rw [List.length_map] at hi
    have ek : (ks.map fun k : Nat => Tr.int k).getD i .non = .int ((ks[i] : Nat) : Int) := by simp [List.getD_eq_getElem?_getD, hi]
    have hkn := hks _ (List.getElem_mem hi)
    rcases hfull with h | h
    · refine ee_if (et_ew (ew_or (et_val (ee_name 3 rfl rfl ⟨full, rfl, fun _ => ⟨fun _ => ee_name 9 rfl rfl ?_, fun h' => Bool.noConfusion h'⟩, fun h' => ?_⟩))))
      · exact ⟨⟨some ks[i], ek, fun k hk => by cases hk; exact hkn, fun _ => by simp⟩, c2, by omega, rfl⟩
      · rw [h] at h'; cases h'
    · refine ee_if (et_ew (ew_or (et_val (ee_name 3 rfl rfl ⟨full, rfl, fun h' => ?_, fun _ => ew_or1 (et_cmp cd_gt ?_)⟩))))
      · rw [h] at h'; cases h'
      have hi' : i * 1 ≤ 4 := by omega
      refine ee_callP 0 rfl rfl Fd (hr.mono (by decide)) rfl (ea_cons (ee_int (ea_nil ⟨c2, rfl, ⟨_, rfl, by decide, by decide⟩, by show c2 + 1 ≤ 1000000000; omega, ?_⟩)))
      rintro _ ⟨q', i', _, rfl, _, _⟩
      refine ee_int ⟨_, _, rfl, rfl, fun _ => ee_name 9 rfl rfl ?_, fun _ => ee_non ?_⟩
      · exact ⟨⟨some ks[i], ek, fun k hk => by cases hk; exact hkn, fun h' => by rw [h] at h'; cases h'⟩, c2 + 1, Nat.le_refl _, rfl⟩
      · exact ⟨⟨none, rfl, ⟨fun k hk => (nomatch hk), fun h' => Bool.noConfusion (h.symm.trans h')⟩⟩, c2 + 1, Nat.le_refl _, rfl⟩
  obtain ⟨row, rfl, hrow⟩ := collect_of (f := optN) (Q := fun o => (∀ k, o = some k → k < n) ∧ (full = true → o ≠ none)) hv2
  have hrl : row.length = ls.length := by
    rw [List.length_map, List.length_map] at hvl2
    rw [hvl2, hkl]
  refine ⟨ts, rfl, by omega, hnx _ c2 row mk _ _ _ _ ?_ hrl hrow k2⟩
  rw [List.length_map, hkl] at hc2
  omega
theorem ok_table (F : Fun K "_law_table" "_law_table" s_law_table f fd) (zr : mg "range" = none) (Fd : FnDraw P w K mg base T) : FnOk P w K mg base CX0 4 f fd ["pen", "letters", "size", "is_full"] (spP K T tabPre (fun _ => 9000) tabPost) := by
  refine ok_P F sc_law_table (by rintro _ ⟨ls, n, full, rfl, _⟩; rfl) (by decide) (fun cdv A outer s H E m p c ts hr hp hc => ?_)
  obtain ⟨ls, n, full, rfl, hl, h1, h2⟩ := hp
  have hc' : c + 9000 ≤ 1000000000 := hc
  have hsl : sizeLine = 16777216 := sizeLine_eq
  refine ss_cons (s_parOO 4 5 (hE := fun ta ha => ps_par rfl sc_law_table.nd rfl rfl (by decide) rfl rfl ha (by rfl)) (by decide) (eo_lst (ea_nil ⟨Nat.zero_le _, fun l1 hl1 => eo_lst (ea_nil ⟨Nat.zero_le _, fun l2 hl2 hne => ⟨rfl, ?_⟩⟩)⟩)))
  refine ss_cons (s_for (.nm 6) PassesOwn.never rfl (pg_name (i := 6) sc_law_table.nd rfl (Or.inl rfl)) ?_)
  refine ei_range1 rfl zr (ee_name 2 rfl rfl ⟨_, rfl, by omega, by omega, ?_⟩)
  have hn : ((n : Int)).toNat = n := by omega
  refine ⟨fun i M' Δ' => ∃ (c' : Nat) (rows : List (List (Option Nat))) (marks : List (Option Bool)) (e6 e7 e8 e9 : En), c' ≤ c + i * 9 ∧ rows.length = i ∧ marks.length = i ∧ (full = true → ∀ o ∈ marks, o ≠ none) ∧ (∀ row ∈ rows, row.length = ls.length ∧ ∀ o ∈ row, (∀ k, o = some k → k < n) ∧ (full = true → o ≠ none)) ∧
    Δ' = [.pen p c', .dat (.str (txt ls)), .dat (.int n), .dat (.bl full), .own l1 (.lst (rowL rows)), .own l2 (.lst (marks.map optB)), e6, e7, e8, e9], ?_, ?_, ?_⟩
  · exact ⟨c, [], [], _, _, _, _, by omega, rfl, rfl, fun _ o h => by simp at h, fun r h => by simp at h, rfl⟩
  · rintro i M' Δ' hi ⟨c', rows, marks, e6, e7, e8, e9, g1, g2, g3, g4, g5, rfl⟩
    have hi2 : i < n := by have h : i < ((n : Int)).toNat := hi; rwa [hn] at h
    have hi9 : i * 9 + 9 ≤ 9000 := by omega
    refine ⟨True.intro, tab_turn (B := bP T p H m) rfl hr Fd hl h1 h2 (by omega) (by unfold rowL; rw [List.length_map, g2]; omega) (by rw [List.length_map, g3]; omega) fun M2 c2 row mk e6 e7 e8 e9 k1 k2 k3 k4 => ?_⟩
    refine ⟨c2, rows ++ [row], marks ++ [mk], e6, e7, e8, e9, by omega, by simp [g2], by simp [g3], fun h o ho => ?_, fun r hr => ?_, ?_⟩
    · rcases List.mem_append.mp ho with ho | ho
      · exact g4 h o ho
      · rw [List.mem_singleton.mp ho]; exact k4 h
    · rcases List.mem_append.mp hr with hr | hr
      · exact g5 r hr
      · rw [List.mem_singleton.mp hr]; exact ⟨k2, k3⟩
    · unfold rowL
      rw [List.map_append, List.map_append]
      rfl
  · rintro M' Δ' ⟨c', rows, marks, e6, e7, e8, e9, g1, g2, g3, g4, g5, rfl⟩
    rw [hn] at g1 g2 g3
    refine ss_share 4 rfl (ss_share 5 rfl ?_)
    refine ss_one (s_ret (ee_tup (ea_cons (ee_name 4 rfl rfl (ea_cons (ee_name 5 rfl rfl (ea_nil ⟨by show 2 ≤ sizeLine; omega, ⟨ls, n, full, rows, marks, rfl, ⟨g2, g3, g5, g4⟩, rfl⟩, c', by omega, rfl⟩)))))))
end
end Toy

set_option Elab.async false
set_option linter.all false
set_option maxRecDepth 100000
set_option maxHeartbeats 4000000
namespace Toy
open PySem PySem.Spec PyProof.Rows L2 LamX Wf
/-- a machine's parts, as one -/
structure Mach where
  ls : List Nat
  rows : List (List (Option Nat))
  marks : List (Option Bool)
abbrev Mach.ok (m : Mach) : Prop := MachOk m.ls m.rows m.marks
abbrev mT (C : Addr) (m : Mach) : Tr := machD C m.ls m.rows m.marks
def stepI (rows : List (List (Option Nat))) : Option Nat → Nat → Option Nat
  | none, _ => none
  | some st, i => (rows.getD st []).getD i none
theorem stepM_eq {ls rows s c} : stepM ls rows s c = stepI rows s (ls.idxOf c) := by cases s <;> rfl
section
variable {P : Program} {w : World} {K : PySem.W.Frag} {mg : Str → Option Value} {base : Heap} {T : List (Addr × Str)} {f : Addr} {fd : FuncData} {C : Addr}
abbrev MtRun (P : Program) (w : World) (K : PySem.W.Frag) (mg : Str → Option Value) (base : Heap) (T : List (Addr × Str)) (C : Addr) : Prop := Mt P w K mg base C "run" 6 ["self", "word"] (spF K T (runPre C) (runPost C))
abbrev PtLet (P : Program) (w : World) (K : PySem.W.Frag) (mg : Str → Option Value) (base : Heap) (T : List (Addr × Str)) (C : Addr) : Prop := Pt P w K mg base C "letters" 1 ["self"] (spF K T (mPre C) (lettersPost C))
abbrev PtTra (P : Program) (w : World) (K : PySem.W.Frag) (mg : Str → Option Value) (base : Heap) (T : List (Addr × Str)) (C : Addr) : Prop := Pt P w K mg base C "transitions" 1 ["self"] (spF K T (mPre C) (transPost C))
abbrev PtMar (P : Program) (w : World) (K : PySem.W.Frag) (mg : Str → Option Value) (base : Heap) (T : List (Addr × Str)) (C : Addr) : Prop := Pt P w K mg base C "marks" 1 ["self"] (spF K T (mPre C) (marksPost C))
abbrev PtSiz (P : Program) (w : World) (K : PySem.W.Frag) (mg : Str → Option Value) (base : Heap) (T : List (Addr × Str)) (C : Addr) : Prop := Pt P w K mg base C "size" 1 ["self"] (spF K T (mPre C) (sizePost C))
theorem one_inj {C : Addr} {ls rows marks ls' rows' marks'} (e : [machD C ls rows marks] = [machD C ls' rows' marks']) : ls = ls' ∧ rows = rows' ∧ marks = marks' := by
  injection e with e _
  exact machD_inj e
section
variable {X : Cx} {B : Bs} {M : Pl} {Δ : List En} {o : Expr} {Φ : Tr → List En → Prop} {pos : Pos}
/-- machine.letters, .transitions, .marks, .size -/
theorem ee_letters (F : PtLet X.prog X.w X.K X.mg X.base B.T C) (hr : Room 2 X.A) (h : EE X B M Δ o fun x Δ1 => ∃ ls rows marks, x = machD C ls rows marks ∧ MachOk ls rows marks ∧ Φ (.str (txt ls)) Δ1) (hb : attributeBase o "letters" X.env (eval o X.env) = eval o X.env := by rfl) : EE X B M Δ (.Attribute o "letters" pos) Φ :=
  ee_prop F hr (EE.mono h fun x Δ1 ⟨ls, rows, marks, e, hm, q⟩ => ⟨_, e, ⟨ls, rows, marks, rfl, hm⟩, fun t ⟨ls', rows', marks', e2, e3⟩ => by
    obtain ⟨q1, q2, q3⟩ := one_inj e2
    rw [e3, ← q1]
    exact q⟩) hb
theorem ee_trans (F : PtTra X.prog X.w X.K X.mg X.base B.T C) (hr : Room 2 X.A) (h : EE X B M Δ o fun x Δ1 => ∃ ls rows marks, x = machD C ls rows marks ∧ MachOk ls rows marks ∧ Φ (rowsT rows) Δ1) (hb : attributeBase o "transitions" X.env (eval o X.env) = eval o X.env := by rfl) : EE X B M Δ (.Attribute o "transitions" pos) Φ :=
  ee_prop F hr (EE.mono h fun x Δ1 ⟨ls, rows, marks, e, hm, q⟩ => ⟨_, e, ⟨ls, rows, marks, rfl, hm⟩, fun t ⟨ls', rows', marks', e2, e3⟩ => by
    obtain ⟨q1, q2, q3⟩ := one_inj e2
    rw [e3, ← q2]
    exact q⟩) hb
theorem ee_marks (F : PtMar X.prog X.w X.K X.mg X.base B.T C) (hr : Room 2 X.A) (h : EE X B M Δ o fun x Δ1 => ∃ ls rows marks, x = machD C ls rows marks ∧ MachOk ls rows marks ∧ Φ (marksT marks) Δ1) (hb : attributeBase o "marks" X.env (eval o X.env) = eval o X.env := by rfl) : EE X B M Δ (.Attribute o "marks" pos) Φ :=
  ee_prop F hr (EE.mono h fun x Δ1 ⟨ls, rows, marks, e, hm, q⟩ => ⟨_, e, ⟨ls, rows, marks, rfl, hm⟩, fun t ⟨ls', rows', marks', e2, e3⟩ => by
    obtain ⟨q1, q2, q3⟩ := one_inj e2
    rw [e3, ← q3]
    exact q⟩) hb
theorem ee_size (F : PtSiz X.prog X.w X.K X.mg X.base B.T C) (hr : Room 2 X.A) (h : EE X B M Δ o fun x Δ1 => ∃ ls rows marks, x = machD C ls rows marks ∧ MachOk ls rows marks ∧ Φ (.int marks.length) Δ1) (hb : attributeBase o "size" X.env (eval o X.env) = eval o X.env := by rfl) : EE X B M Δ (.Attribute o "size" pos) Φ :=
  ee_prop F hr (EE.mono h fun x Δ1 ⟨ls, rows, marks, e, hm, q⟩ => ⟨_, e, ⟨ls, rows, marks, rfl, hm⟩, fun t ⟨ls', rows', marks', e2, e3⟩ => by
    obtain ⟨q1, q2, q3⟩ := one_inj e2
    rw [e3, ← q3]
    exact q⟩) hb
end
def answerPost (C : Addr) (ts : List Tr) (r : Tr) : Prop := ∃ ls rows marks x, ts = [machD C ls rows marks, .str (txt x)] ∧ MachOk ls rows marks ∧ r = optB (ansM marks (runM ls rows (some 0) x))
theorem run_inj {C : Addr} {ls rows marks ls' rows' marks'} {x x' : List Nat} (e : [machD C ls rows marks, Tr.str (txt x)] = [machD C ls' rows' marks', Tr.str (txt x')]) : (ls = ls' ∧ rows = rows' ∧ marks = marks') ∧ x = x' := by
  injection e with e1 e
  injection e with e2 _
  injection e2 with e2
  exact ⟨machD_inj e1, txt_inj e2⟩
theorem ans_at {marks : List (Option Bool)} {st : Nat} (h : st < marks.length) : atI (marks.map optB) (st : Int) = some (optB (ansM marks (some st))) := by
  refine atI_ofNat ?_
  rw [List.getElem?_map, List.getElem?_eq_getElem h]
  show some (optB marks[st]) = some (optB (marks.getD st none))
  simp [h]
theorem ok_answer_ (F : Fun K "answer" "Machine.answer" s_Machine_answer f fd) (MC : MachC K C) (Fr : MtRun P w K mg base T C) : FnOk P w K mg base CX0 8 f fd ["self", "word"] (spF K T (runPre C) (answerPost C)) := by
  refine ok_F F sc_Machine_answer (by rintro _ ⟨ls, rows, marks, x, rfl, _⟩; rfl) (by decide) fun cdv A outer s H E m ts hr hp => ?_
  obtain ⟨ls, rows, marks, x, rfl, hm, hx, hl⟩ := hp
  refine ss_cons (s_asg 2 sc_Machine_answer.nd rfl ?_)
  refine ee_meth Fr (hr.mono (by decide)) (ee_name 0 rfl rfl ⟨_, rfl, lk_no (by decide +kernel) (by decide +kernel) (by decide +kernel) (by decide +kernel), ea_cons (ee_name 1 rfl rfl (ea_nil ⟨⟨ls, rows, marks, x, rfl, hm, hx, hl⟩, ?_⟩))⟩)
  rintro t ⟨ls', rows', marks', x', e, _, rfl⟩
  obtain ⟨⟨q1, q2, q3⟩, q4⟩ := run_inj e
  subst q1 q2 q3 q4
  have hst := run_lt hm x (some 0) (fun k hk => by cases hk; exact hm.pos) hx
  refine ss_one (s_ret (ee_if (et_cmp cd_isN (ee_name 2 rfl rfl (ee_non ⟨rfl, ?_, ?_⟩)))))
  · cases runM ls rows (some 0) x <;> rfl
  have fin : ∀ o, o = runM ls rows (some 0) x → answerPost C [machD C ls rows marks, .str (txt x)] (optB (ansM marks o)) := fun o ho => ⟨ls, rows, marks, x, rfl, hm, by rw [ho]⟩
  generalize runM ls rows (some 0) x = o at hst fin
  cases o with
  | none => exact ⟨fun h => ee_non (fin none rfl), fun h => Bool.noConfusion h⟩
  | some st =>
    refine ⟨fun h => Bool.noConfusion h, fun h => ee_ixT (ee_fld (ee_name 0 rfl rfl ⟨C, _, _, rfl, MC.cl, MC.n3, lk_mk, ee_name 2 rfl rfl ⟨_, _, _, rfl, rfl, ans_at (hst st rfl), fin _ rfl⟩⟩))⟩
end
end Toy

set_option Elab.async false
set_option linter.all false
set_option maxRecDepth 100000
set_option maxHeartbeats 4000000

namespace Toy
open PySem PySem.Spec PyProof.Rows L2 LamX Wf
/-! ### Machine.walk -/
/-- the states behind the first one, up to the first missing transition -/
def wayT (ls : List Nat) (rows : List (List (Option Nat))) : Nat → List Nat → List Nat
  | _, [] => []
  | s, c :: w => match stepM ls rows (some s) c with
    | none => []
    | some t => t :: wayT ls rows t w
def wayM (ls : List Nat) (rows : List (List (Option Nat))) (s : Nat) (w : List Nat) : List Nat := s :: wayT ls rows s w
theorem wayT_len {ls rows} : ∀ (w : List Nat) (s : Nat), (wayT ls rows s w).length ≤ w.length
  | [], _ => Nat.le_refl _
  | c :: w, s => by
    unfold wayT
    cases stepM ls rows (some s) c with
    | none => exact Nat.zero_le _
    | some t => exact Nat.succ_le_succ (wayT_len w t)
theorem wayT_lt {ls rows marks} (h : MachOk ls rows marks) : ∀ (w : List Nat) (s : Nat), s < marks.length → (∀ c ∈ w, c ∈ ls) → ∀ k ∈ wayT ls rows s w, k < marks.length
  | [], _, _, _ => fun k hk => by simp [wayT] at hk
  | c :: w, s, hs, hw => fun k hk => by
    unfold wayT at hk
    obtain ⟨o, _, h2, h3⟩ := step_row h hs (hw c List.mem_cons_self)
    rw [h2] at hk
    cases o with
    | none => simp at hk
    | some t =>
      rcases List.mem_cons.mp hk with rfl | hk
      · exact h3 _ rfl
      · exact wayT_lt h w t (h3 t rfl) (fun d hd => hw d (List.mem_cons_of_mem _ hd)) k hk
def natsT (ns : List Nat) : List Tr := ns.map fun n : Nat => Tr.int n
abbrev nWalk : List Str := ["self", "word", "state", "letter"]
theorem gs_walk : GScope nWalk ["self", "word"] (defScope s_Machine_walk) := ⟨rfl, rfl, rfl, by decide +kernel, rfl, by decide +kernel, by decide +kernel⟩
def walkPost (C : Addr) (ts : List Tr) (out : List Tr) : Prop := ∃ ls rows marks x, ts = [machD C ls rows marks, .str (txt x)] ∧ MachOk ls rows marks ∧ out = natsT (wayM ls rows 0 x)
section
variable {P : Program} {w : World} {K : PySem.W.Frag} {mg : Str → Option Value} {base : Heap} {T : List (Addr × Str)} {f : Addr} {fd : FuncData} {C : Addr}
theorem ok_walk_ (F : Fun K "walk" "Machine.walk" s_Machine_walk f fd) (MC : MachC K C) (Fn : FnNW P w K mg base T) (Ft : MtTgt P w K mg base T C) : GFn P w K mg base 6 f fd ["self", "word"] (spG K T (runPre C) (walkPost C)) := by
  refine ok_G F gs_walk (by rintro _ ⟨ls, rows, marks, x, rfl, _⟩; rfl) (by decide) fun cdv A outer s H E pn m ts hr hp => ?_
  obtain ⟨ls, rows, marks, x, rfl, hm, hx, hl⟩ := hp
  have hsl : sizeLine = 16777216 := sizeLine_eq
  refine gg_cons (g1_plain (s_expr (Φ := fun _ _ => True) (ee_call Fn (hr.mono (by decide)) rfl (ea_cons (ee_fld (ee_name 0 rfl rfl ⟨C, _, _, rfl, MC.cl, MC.n1, lk_lt, ea_cons (ee_name 1 rfl rfl (ea_nil ⟨⟨txt ls, txt x, rfl, by rw [txt_len]; omega, by rw [txt_cps, txt_cps]; exact hx⟩, ?_⟩))⟩))))))
  rintro t rfl
  refine gg_cons (g1_plain (s_asg 2 gs_walk.nd rfl (ee_int ?_)))
  refine gg_cons (g1_yield (ee_name 2 rfl rfl ⟨by show 0 < sizeLine; omega, ?_⟩) (by show 0 < sizeLine; omega))
  refine gg_one (g1_for (.nm 3) owns_gcx rfl (pg_name (i := 3) gs_walk.nd rfl (Or.inl rfl)) (ei_str (ee_name 1 rfl rfl ⟨txt x, rfl, ?_⟩)))
  refine ⟨fun i M' Δ' acc => ∃ (st : Nat) (e3 : En), st < marks.length ∧ Δ' = [.dat (machD C ls rows marks), .dat (.str (txt x)), .dat (.int st), e3] ∧ acc ++ natsT (wayT ls rows st (x.drop i)) = natsT (wayM ls rows 0 x), ⟨0, _, hm.pos, rfl, rfl⟩, ?_, ?_⟩
  · rintro i M' Δ' acc hi ⟨st, e3, hst, rfl, hacc⟩
    have hi2 : i < x.length := by have h : i < (txt x).length := hi; rwa [txt_len] at h
    have hxi : x[i] ∈ ls := hx _ (List.getElem_mem hi2)
    have hsg : Tr.str ⟨#[(txt x).cps.getD i 0]⟩ = Tr.str (sgn x[i]) := by
      rw [str_sgn]
      simp [hi2]
    have hdr : x.drop i = x[i] :: x.drop (i + 1) := List.drop_eq_getElem_cons hi2
    obtain ⟨o, _, h2, h3⟩ := step_row hm hst hxi
    have hlen : acc.length < sizeLine := by
      have e1 := congrArg List.length hacc
      have e2 : (natsT (wayM ls rows 0 x)).length = (wayT ls rows 0 x).length + 1 := by simp [natsT, wayM]
      have e3 := wayT_len (ls := ls) (rows := rows) x 0
      rw [List.length_append] at e1
      omega
    refine ⟨True.intro, gg_cons (g1_plain (s_asg 2 gs_walk.nd rfl ?_))⟩
    refine ee_meth Ft (hr.mono (by decide)) (ee_name 0 rfl rfl ⟨_, rfl, lk_no (by decide +kernel) (by decide +kernel) (by decide +kernel) (by decide +kernel), ?_⟩)
    refine ea_cons (ee_name 2 rfl rfl (ea_cons (ee_name 3 rfl rfl (ea_nil ⟨⟨ls, rows, marks, st, x[i], ?_, hm, hst, hxi⟩, ?_⟩))))
    · show [machD C ls rows marks, Tr.int ((st : Nat) : Int), Tr.str ⟨#[(txt x).cps.getD i 0]⟩] = _
      rw [hsg]
    rintro t ⟨ls', rows', marks', st', c', e, _, _, rfl⟩
    have e2 : [machD C ls rows marks, Tr.int ((st : Nat) : Int), Tr.str ⟨#[(txt x).cps.getD i 0]⟩] = [machD C ls' rows' marks', .int ((st' : Nat) : Int), .str (sgn c')] := e
    rw [hsg] at e2
    obtain ⟨⟨q1, q1'⟩, q2, q3⟩ := targ_inj e2
    subst q1 q1' q2 q3
    rw [h2]
    rw [hdr] at hacc
    unfold wayT at hacc
    rw [h2] at hacc
    refine gg_cons (g1_if (et_cmp cd_isN (ee_name 2 rfl rfl (ee_non ⟨rfl, by cases o <;> rfl, ?_⟩))))
    cases o with
    | none =>
      refine ⟨fun _ => gg_one (g1_plain (s_retN ⟨rfl, ?_⟩)), fun h => Bool.noConfusion h⟩
      refine ⟨ls, rows, marks, x, rfl, hm, ?_⟩
      have : acc ++ natsT [] = natsT (wayM ls rows 0 x) := hacc
      rw [← this]
      exact (List.append_nil _).symm
    | some t =>
      refine ⟨fun h => Bool.noConfusion h, fun _ => gg_nil (gg_one (g1_yield (ee_name 2 rfl rfl ⟨hlen, t, .dat (.str ⟨#[(txt x).cps.getD i 0]⟩), h3 t rfl, rfl, ?_⟩) hlen))⟩
      have : acc ++ natsT (t :: wayT ls rows t (x.drop (i + 1))) = natsT (wayM ls rows 0 x) := hacc
      rw [← this, List.append_assoc]
      rfl
  · rintro M' Δ' acc ⟨st, e3, hst, rfl, hacc⟩
    have hd : x.drop (txt x).cps.size = [] := List.drop_of_length_le (by show x.length ≤ (txt x).length; rw [txt_len]; exact Nat.le_refl _)
    rw [hd] at hacc
    refine ⟨ls, rows, marks, x, rfl, hm, ?_⟩
    have : acc ++ natsT [] = natsT (wayM ls rows 0 x) := hacc
    rw [← this]
    exact (List.append_nil _).symm
end
end Toy

set_option Elab.async false
set_option linter.all false
set_option maxRecDepth 100000
set_option maxHeartbeats 4000000

namespace Toy
open PySem PySem.Spec PyProof.Rows L2 LamX Wf
/-! ### Complete.__init__ -/
theorem rowsAre_inj {rs : List Tr} {rows rows' : List (List (Option Nat))} (h : RowsAre rs rows) (h' : RowsAre rs rows') : rows = rows' := by
  have hl : rows.length = rows'.length := h.1.symm.trans h'.1
  refine List.ext_getElem hl fun i h1 h2 => ?_
  rcases h.2 i _ (List.getElem?_eq_getElem h1) with e | e <;> rcases h'.2 i _ (List.getElem?_eq_getElem h2) with e' | e' <;> have q := e.symm.trans e' <;> injection q with q
  · injection q with q; exact optN_inj q
  · cases q
  · cases q
  · injection q with q; exact optN_inj q
theorem seqB_inj {v : Tr} {a b : List (Option Bool)} (h : v = .lst (a.map optB) ∨ v = .tup (a.map optB)) (h' : v = .lst (b.map optB) ∨ v = .tup (b.map optB)) : a = b := by
  rcases h with rfl | rfl <;> rcases h' with e | e
  · injection e with e; exact optB_inj e
  · cases e
  · cases e
  · injection e with e; exact optB_inj e
structure Full (rows : List (List (Option Nat))) (marks : List (Option Bool)) : Prop where
  r : ∀ row ∈ rows, ∀ o ∈ row, o ≠ none
  m : ∀ o ∈ marks, o ≠ none
def fullPre (ts : List Tr) : Prop := ∃ ls rows marks rs v, ts = [.str (txt ls), .lst rs, v] ∧ MachOk ls rows marks ∧ RowsAre rs rows ∧ (v = .lst (marks.map optB) ∨ v = .tup (marks.map optB)) ∧ Full rows marks
theorem flat_opt {K : PySem.W.Frag} {I : Hp} : ∀ {os : List (Option Nat)} {xs : List V}, Dts K I xs (os.map optN) → xs.all flatV = true ∧ inV .non xs = os.any Option.isNone
  | [], _, .nil => ⟨rfl, rfl⟩
  | o :: os, _, .cons d q => by
    obtain ⟨h1, h2⟩ := flat_opt q
    unfold inV at h2 ⊢
    cases o with
    | none => cases d; exact ⟨by rw [List.all_cons, h1]; rfl, rfl⟩
    | some n => cases d; exact ⟨by rw [List.all_cons, h1]; rfl, by rw [List.any_cons, List.any_cons, h2]; rfl⟩
theorem cd_inN {X : Cx} {B : Bs} {M : Pl} {Γ : Bool → List En → Prop} : CmpD X .In B M Γ fun x y Δ2 => x = .non ∧ ∃ os : List (Option Nat), y = .tup (os.map optN) ∧ Γ (os.any Option.isNone) Δ2 :=
  ⟨_, op_in_seq, fun x y Δ2 p σ H v w Q S d1 d2 k => by
    obtain ⟨rfl, os, rfl, q⟩ := p
    cases d1
    cases d2 with
    | tup h1 h2 =>
      obtain ⟨g1, g2⟩ := flat_opt h2
      refine ⟨_, _, rfl, .inr (sub_seqT mi_sub h1), rfl, g1, ?_⟩
      rw [if_neg Bool.false_ne_true, g2]
      exact k _ _ H q (Fe.refl _ _) S⟩
abbrev nCom : List Str := ["self", "letters", "transitions", "marks", "state", "row"]
theorem ss_com : SScope nCom ["self", "letters", "transitions", "marks"] (defScope s_Complete__init_) := ⟨rfl, rfl, rfl, by decide +kernel, rfl, by decide +kernel, by decide +kernel, by decide +kernel, by decide +kernel, by decide +kernel⟩
section
variable {P : Program} {w : World} {K : PySem.W.Frag} {mg : Str → Option Value} {base : Heap} {T : List (Addr × Str)} {f f2 cc cda D : Addr} {fd : FuncData} {C : Addr}
theorem ok_cinit {oc kV doc pm ct cl : Value} {od an cld : Option Addr} {osl csl : Array (Option Value)}
    (lk : K.lookup f = some ⟨oc, od, .func (PySem.W.ksFn "__init__" "Complete.__init__" (defArgs s_Complete__init_) (defBody s_Complete__init_) (defScope s_Complete__init_) .none kV doc pm an (.ref cda) ct cc), osl⟩) (hcd : PySem.W.codeIn K (.ref cda) "Complete.__init__" = true)
    (hcell : K.lookup cc = some ⟨cl, cld, .cell (some (.ref D)), csl⟩) (Su : SupC K P.main.file f cc cda D C f2 "self" "__init__") (htop : (P.main.scope.names.lookup ("super" : Str)).isSome = false) (hsm : mg "super" = none) (zE : mg "enumerate" = none)
    (MC : MachC K C) (F : FnR P w K mg base CX0 10 f2 (spI K T C machPre initPost)) :
    FnOk P w K mg base CX0 12 f (PySem.W.ksFn "__init__" "Complete.__init__" (defArgs s_Complete__init_) (defBody s_Complete__init_) (defScope s_Complete__init_) .none kV doc pm an (.ref cda) ct cc) ["self", "letters", "transitions", "marks"] (spI K T C fullPre initPost) := by
  refine ok_IS (D := D) lk hcd ss_com hcell (by rintro _ ⟨ls, rows, marks, rs, v, rfl, _⟩; rfl) (by decide) fun A outer s H H0 m l ts hr hp => ?_
  obtain ⟨ls, rows, marks, rs, v, rfl, hm, hrs, hv, hfl⟩ := hp
  have hsl : sizeLine = 16777216 := sizeLine_eq
  refine s1_super (X := cxS P w K mg base nCom "Complete.__init__" (defScope s_Complete__init_) f (.ref cda) cc A outer s H) Su rfl rfl lookup_self ss_com.cls ss_com.sup (ss_com.par "self" List.mem_cons_self) htop hsm (by decide +kernel) F (hr.mono (by decide)) rfl rfl ?_
  refine ea_cons (ee_name 1 rfl rfl (ea_cons (ee_name 2 rfl rfl (ea_cons (ee_name 3 rfl rfl (ea_nil ⟨rfl, ⟨ls, rows, marks, rs, v, rfl, hm, hrs, hv⟩, ?_⟩))))))
  rintro fs ⟨ls', rows', marks', rs', v', e, hm', hrs', hv', rfl⟩
  injection e with e1 e
  injection e with e2 e
  injection e with e3 _
  injection e1 with e1
  injection e2 with e2
  have q1 : ls = ls' := txt_inj e1
  have q2 : rows = rows' := rowsAre_inj hrs (e2 ▸ hrs')
  have q3 : marks = marks' := seqB_inj hv (e3 ▸ hv')
  subst q1 q2 q3
  refine ss_one (s_for (.tp 4 5) PassesOwn.never rfl (pg_tup rfl (pgs_cons (pg_name (i := 4) ss_com.nd rfl (Or.inl rfl)) (pgs_cons (pg_name (i := 5) ss_com.nd rfl (Or.inl rfl)) pgs_nil))) ?_)
  refine ei_enumT rfl zE (ee_fldO 0 rfl rfl MC.cl MC.n2 lk_tr ⟨_, rfl, ?_⟩)
  refine ⟨fun i M' Δ' => (∀ b, M'.m b ↔ m b ∨ b = l) ∧ ∃ e4 e5, Δ' = [.own l (.ins C (machF ls rows marks)), .dat (.str (txt ls)), .dat (.lst rs), .dat v, e4, e5], ⟨fun _ => Iff.rfl, _, _, rfl⟩, ?_, ?_⟩
  · rintro i M' Δ' hi ⟨hM, e4, e5, rfl⟩
    have hi2 : i < rows.length := by rw [List.length_map] at hi; exact hi
    have hi3 : i < marks.length := by rw [← hm.len]; exact hi2
    have el : (rows.map fun r => Tr.tup (r.map optN)).getD i .non = .tup (rows[i].map optN) := by simp [List.getD_eq_getElem?_getD, hi2]
    show (Tg.tp 4 5).ok (Tr.tup [Tr.int ((i : Nat) : Int), (rows.map fun r => Tr.tup (r.map optN)).getD i .non]) ∧ SS _ _ _ (Tg.set _ (.tp 4 5) (Tr.tup [Tr.int ((i : Nat) : Int), (rows.map fun r => Tr.tup (r.map optN)).getD i .non])) _ _
    rw [el]
    have no1 : (rows[i]).any Option.isNone = false := by
      rw [List.any_eq_false]
      intro o ho
      have := hfl.r _ (List.getElem_mem hi2) o ho
      cases o with
      | none => exact absurd rfl this
      | some _ => exact Bool.false_ne_true
    refine ⟨⟨_, _, rfl⟩, ss_one (s_if (et_ew (ew_or (et_cmp cd_inN (ee_non (ee_name 5 rfl rfl ⟨rfl, rows[i], rfl, ?_⟩))))))⟩
    rw [no1]
    refine ⟨fun h => Bool.noConfusion h, fun _ => ew_or1 (et_cmp cd_isN (ee_ixT (ee_fldO 0 rfl rfl MC.cl MC.n3 lk_mk (ee_name 4 rfl rfl ⟨_, _, _, rfl, rfl, ans_at hi3, ee_non ⟨rfl, ?_, ?_⟩⟩))))⟩
    · cases ansM marks (some i) <;> rfl
    have hmk : ansM marks (some i) ≠ none := by
      show marks.getD i none ≠ none
      rw [show marks.getD i none = marks[i] by simp [hi3]]
      exact hfl.m _ (List.getElem_mem hi3)
    cases e : ansM marks (some i) with
    | none => exact absurd e hmk
    | some b => exact ⟨fun h => Bool.noConfusion h, fun _ => ss_nil ⟨hM, _, _, rfl⟩⟩
  · rintro M' Δ' ⟨hM, e4, e5, rfl⟩
    exact ⟨hM, _, ⟨ls, rows, marks, rs, v, rfl, hm, hrs, hv, rfl⟩, rfl⟩
end
end Toy

set_option Elab.async false
set_option linter.all false
set_option maxRecDepth 100000
set_option maxHeartbeats 4000000

namespace Toy
open PySem PySem.Spec PyProof.Rows L2 LamX Wf
def OOk (o : Option Nat) (n : Nat) : Prop := ∀ k, o = some k → k < n
theorem mT_inj {C : Addr} {m m' : Mach} (e : mT C m = mT C m') : m = m' := by
  obtain ⟨q1, q2, q3⟩ := machD_inj e
  cases m; cases m'
  cases q1; cases q2; cases q3
  rfl

/-! ### states in another order -/
def ordB (n s : Nat) : List Nat := ((List.range n).set 0 s).set s 0
theorem ordB_len {n s} : (ordB n s).length = n := by simp [ordB]
theorem ordB_mem {n s k : Nat} (hs : s < n) : k ∈ ordB n s ↔ k < n := by
  unfold ordB
  constructor
  · intro h
    rcases List.mem_or_eq_of_mem_set h with h | h
    · rcases List.mem_or_eq_of_mem_set h with h | h
      · exact List.mem_range.mp h
      · omega
    · omega
  · intro h
    rw [List.mem_iff_getElem]
    by_cases c0 : k = 0
    · exact ⟨s, by simp; omega, by simp [c0]⟩
    · by_cases c1 : k = s
      · refine ⟨0, by simp; omega, ?_⟩
        rw [List.getElem_set_ne (by omega)]
        simp [c1]
      · refine ⟨k, by simp; omega, ?_⟩
        rw [List.getElem_set_ne (by omega), List.getElem_set_ne (by omega)]
        simp
theorem ixNn {n j : Nat} (hj : j < n) : ixN n (j : Int) = some j := by
  unfold ixN
  rw [if_pos (by omega), if_pos (by omega)]
  simp
theorem optN_getD {r : List (Option Nat)} {j : Nat} (h : j < r.length) : (r.map optN).getD j .non = optN (r.getD j none) := by simp [List.getD_eq_getElem?_getD, h]
def begun (m : Mach) (s : Nat) : Mach := ⟨m.ls, (ordB m.marks.length s).map fun old => (m.rows.getD old []).map (Option.map fun t => (ordB m.marks.length s).idxOf t), (ordB m.marks.length s).map fun old => m.marks.getD old none⟩
def ansOf (m : Mach) (w : List Nat) : Option Bool := ansM m.marks (runM m.ls m.rows (some 0) w)
/-- machines without dead ends more: step for step -/
structure Simu (m m' : Mach) (R : Option Nat → Option Nat → Prop) : Prop where
  ls : m'.ls = m.ls
  mrk : ∀ o o', R o o' → ansM m'.marks o' = ansM m.marks o
  st : ∀ o o' c, c ∈ m.ls → R o o' → R (stepI m.rows o (m.ls.idxOf c)) (stepI m'.rows o' (m.ls.idxOf c))
theorem Simu.run {m m' : Mach} {R : Option Nat → Option Nat → Prop} (S : Simu m m' R) : ∀ (w : List Nat) (o o' : Option Nat), (∀ c ∈ w, c ∈ m.ls) → R o o' → ansM m'.marks (runM m'.ls m'.rows o' w) = ansM m.marks (runM m.ls m.rows o w)
  | [], o, o', _, r => S.mrk o o' r
  | c :: w, o, o', h, r => by
    show ansM m'.marks (runM m'.ls m'.rows (stepM m'.ls m'.rows o' c) w) = ansM m.marks (runM m.ls m.rows (stepM m.ls m.rows o c) w)
    rw [stepM_eq, stepM_eq, S.ls]
    have := S.run w _ _ (fun d hd => h d (List.mem_cons_of_mem _ hd)) (S.st o o' c (h c List.mem_cons_self) r)
    rw [S.ls] at this
    exact this
/-- states in another order: the one at s is now the start -/
theorem simu_begun {m : Mach} (hm : m.ok) {s : Nat} (hs : s < m.marks.length) : Simu m (begun m s) fun o o' => OOk o m.marks.length ∧ o' = o.map fun t => (ordB m.marks.length s).idxOf t := by
  have key : ∀ t, t < m.marks.length → (ordB m.marks.length s).idxOf t < (ordB m.marks.length s).length ∧ (ordB m.marks.length s).getD ((ordB m.marks.length s).idxOf t) 0 = t := fun t ht => by
    have hl := List.idxOf_lt_length_of_mem ((ordB_mem hs).mpr ht)
    refine ⟨hl, ?_⟩
    rw [List.getD_eq_getElem?_getD, List.getElem?_eq_getElem hl, List.getElem_idxOf hl]
    rfl
  refine ⟨rfl, ?_, ?_⟩
  · rintro o _ ⟨ho, rfl⟩
    cases o with
    | none => rfl
    | some t =>
      obtain ⟨h1, h2⟩ := key t (ho t rfl)
      show ((ordB m.marks.length s).map fun old => m.marks.getD old none).getD _ none = m.marks.getD t none
      rw [List.getD_eq_getElem?_getD, List.getElem?_map, List.getElem?_eq_getElem h1]
      rw [List.getD_eq_getElem?_getD, List.getElem?_eq_getElem h1] at h2
      show m.marks.getD _ none = _
      have h3 : (ordB m.marks.length s)[(ordB m.marks.length s).idxOf t] = t := h2
      rw [h3]
  · rintro o _ c hc ⟨ho, rfl⟩
    cases o with
    | none => exact ⟨fun k hk => (nomatch hk), rfl⟩
    | some t =>
      have ht := ho t rfl
      obtain ⟨h1, h2⟩ := key t ht
      have h3 : (ordB m.marks.length s)[(ordB m.marks.length s).idxOf t] = t := List.getElem_idxOf h1
      refine ⟨fun k hk => ?_, ?_⟩
      · have := run_lt hm [c] (some t) (fun k hk => by cases hk; exact ht) (fun d hd => by rw [List.mem_singleton.mp hd]; exact hc) k
        exact this (by show stepM m.ls m.rows (some t) c = some k; rw [stepM_eq]; exact hk)
      · show (((ordB m.marks.length s).map fun old => (m.rows.getD old []).map (Option.map fun t => (ordB m.marks.length s).idxOf t)).getD _ []).getD _ none = ((m.rows.getD t []).getD _ none).map _
        have e1 : ((ordB m.marks.length s).map fun old => (m.rows.getD old []).map (Option.map fun t => (ordB m.marks.length s).idxOf t)).getD ((ordB m.marks.length s).idxOf t) [] = (m.rows.getD t []).map (Option.map fun t => (ordB m.marks.length s).idxOf t) := by
          rw [List.getD_eq_getElem?_getD, List.getElem?_map, List.getElem?_eq_getElem h1]
          show (m.rows.getD _ []).map _ = _
          rw [h3]
        rw [e1]
        generalize m.rows.getD t [] = row
        generalize m.ls.idxOf c = j
        by_cases hj : j < row.length
        · simp [List.getD_eq_getElem?_getD, hj]
        · simp [List.getD_eq_getElem?_getD, hj]
theorem ordB_start {n s : Nat} (hs : s < n) : (ordB n s).idxOf s = 0 := by
  have e : (ordB n s)[0]? = some s := by
    unfold ordB
    by_cases c : s = 0
    · subst c
      rw [List.getElem?_set_self (by simp; omega)]
    · rw [List.getElem?_set_ne (by omega), List.getElem?_set_self (by simp; omega)]
  cases h : ordB n s with
  | nil => rw [h] at e; cases e
  | cons a r =>
    rw [h] at e
    injection e with e
    rw [e]
    simp
/-- the answers of the begun machine -/
theorem begun_ans {m : Mach} (hm : m.ok) {s : Nat} (hs : s < m.marks.length) {w : List Nat} (hw : ∀ c ∈ w, c ∈ m.ls) : ansOf (begun m s) w = ansM m.marks (runM m.ls m.rows (some s) w) :=
  (simu_begun hm hs).run w (some s) (some 0) hw ⟨fun k hk => by cases hk; exact hs, congrArg some (ordB_start hs).symm⟩
theorem begun_ok {m : Mach} (h : m.ok) {s : Nat} (hs : s < m.marks.length) : (begun m s).ok := by
  have el : (begun m s).marks.length = m.marks.length := by simp [begun, ordB_len]
  refine ⟨h.lets, by simp [begun], by rw [el]; exact h.pos, by rw [el]; exact h.few, fun row hr => ?_⟩
  obtain ⟨old, ho, rfl⟩ := List.mem_map.mp hr
  have ho2 : old < m.marks.length := (ordB_mem hs).mp ho
  have ho3 : old < m.rows.length := by rw [h.len]; exact ho2
  have er : m.rows.getD old [] = m.rows[old] := by simp [ho3]
  obtain ⟨h1, h2⟩ := h.row _ (List.getElem_mem ho3)
  refine ⟨by rw [List.length_map, er, h1]; rfl, fun o hoo k hk => ?_⟩
  obtain ⟨o1, h3, rfl⟩ := List.mem_map.mp hoo
  cases o1 with
  | none => cases hk
  | some t =>
    rw [er] at h3
    have ht := h2 _ h3 t rfl
    have : k = (ordB m.marks.length s).idxOf t := (Option.some.inj hk).symm
    rw [el, this]
    have := List.idxOf_lt_length_of_mem ((ordB_mem hs).mpr ht)
    rwa [ordB_len] at this
end Toy

set_option Elab.async false
set_option linter.all false
set_option maxRecDepth 100000
set_option maxHeartbeats 4000000

namespace Toy
open PySem PySem.Spec PyProof.Rows L2 LamX Wf
/-! ### _law_begun_at -/
abbrev McM (P : Program) (w : World) (K : PySem.W.Frag) (mg : Str → Option Value) (base : Heap) (T : List (Addr × Str)) (C : Addr) : Prop := Mc P w K mg base "Machine" C 10 ["self", "letters", "transitions", "marks"] (spI K T C machPre initPost)
def begAtPre (C : Addr) (ts : List Tr) : Prop := ∃ (m : Mach) (s : Nat), ts = [mT C m, .int s] ∧ m.ok ∧ s < m.marks.length
def begAtPost (C Cm : Addr) (ts : List Tr) (r : Tr) : Prop := ∃ (m : Mach) (s : Nat), ts = [mT C m, .int s] ∧ r = mT Cm (begun m s)
theorem rowsAre_L (rows : List (List (Option Nat))) : RowsAre (rowL rows) rows := by
  refine ⟨by simp [rowL], fun i row h => .inl ?_⟩
  unfold rowL
  rw [List.getElem?_map, h]
  rfl
section
variable {P : Program} {w : World} {K : PySem.W.Frag} {mg : Str → Option Value} {base : Heap} {T : List (Addr × Str)} {f : Addr} {fd : FuncData} {C Cm : Addr}
theorem ok_begAt (F : Fun K "_law_begun_at" "_law_begun_at" s_law_begun_at f fd) (zL : mg "list" = none) (zr : mg "range" = none) (Pl_ : PtLet P w K mg base T C) (Ptr : PtTra P w K mg base T C) (Pm : PtMar P w K mg base T C) (Ps_ : PtSiz P w K mg base T C) (Fm : McM P w K mg base T Cm) :
    FnOk P w K mg base CX0 12 f fd ["machine", "state"] (spF K T (begAtPre C) (begAtPost C Cm)) := by
  refine ok_F F sc_law_begun_at (by rintro _ ⟨m, s, rfl, _⟩; rfl) (by decide) fun cdv A outer s H E m0 ts hr hp => ?_
  obtain ⟨m, st, rfl, hm, hs0⟩ := hp
  have hsl : sizeLine = 16777216 := sizeLine_eq
  have hfew := hm.few
  refine ss_cons (s_asgO 2 sc_law_begun_at.nd rfl (eo_listRange rfl rfl zL rfl zr (ee_size Ps_ (hr.mono (by decide)) (ee_name 0 rfl rfl ⟨m.ls, m.rows, m.marks, rfl, hm, _, rfl, by omega, by omega, ?_⟩))))
  intro l2 hl2
  have hlr : ((List.range m.marks.length).map fun i : Nat => Tr.int i).length = m.marks.length := by rw [List.length_map, List.length_range]
  rw [Int.toNat_natCast]
  refine ss_cons (s_set1 (l := l2) 2 rfl (ee_name 1 rfl rfl ⟨_, rfl, ee_int ⟨_, 0, 0, rfl, rfl, ixNn (j := 0) (by rw [hlr]; exact hm.pos), ?_⟩⟩) (ps_asg pe_self (pg_sub (pv 2) pe_self set_list)))
  refine ss_cons (s_set1 (l := l2) 2 rfl (ee_int ⟨_, rfl, ee_name 1 rfl rfl ⟨_, st, _, rfl, rfl, ixNn (by rw [List.length_set, hlr]; exact hs0), ?_⟩⟩) (ps_asg pe_self (pg_sub (pv 2) pe_self set_list)))
  have eo : (((List.range m.marks.length).map fun i : Nat => Tr.int i).set 0 (Tr.int (st : Nat))).set st (Tr.int 0) = (ordB m.marks.length st).map fun i : Nat => Tr.int i := by
    unfold ordB
    rw [List.map_set, List.map_set]
    rfl
  rw [eo]
  refine ss_share 2 rfl ?_
  refine ss_cons (s_asgO 3 sc_law_begun_at.nd rfl (eo_lst (ea_nil ⟨Nat.zero_le _, fun l9 hl9 => ?_⟩)))
  have hol := @ordB_len m.marks.length st
  have hom := fun k => @ordB_mem m.marks.length st k hs0
  have hbe : begun m st = ⟨m.ls, (ordB m.marks.length st).map fun old => (m.rows.getD old []).map (Option.map fun t => (ordB m.marks.length st).idxOf t), (ordB m.marks.length st).map fun old => m.marks.getD old none⟩ := rfl
  have hbo := begun_ok hm hs0
  generalize ordB m.marks.length st = od at hol hom hbe
  refine ss_cons (s_for (.nm 4) PassesOwn.never rfl (pg_name (i := 4) sc_law_begun_at.nd rfl (Or.inl rfl)) (ei_list (ee_name 2 rfl rfl ⟨_, rfl, ?_⟩)))
  refine ⟨fun i M' Δ' => ∃ e4 e5, Δ' = [.dat (mT C m), .dat (.int st), .dat (.lst (od.map fun i : Nat => Tr.int i)), .own l9 (.lst (rowL ((od.take i).map fun old => (m.rows.getD old []).map (Option.map fun t => od.idxOf t)))), e4, e5], ⟨_, _, rfl⟩, ?_, ?_⟩
  · rintro i M3 Δ3 hi ⟨e4, e5, rfl⟩
    have hi2 : i < od.length := by have h : i < (od.map fun i : Nat => Tr.int i).length := hi; rwa [List.length_map] at h
    have el : (od.map fun i : Nat => Tr.int i).getD i .non = .int ((od[i] : Nat) : Int) := by simp [List.getD_eq_getElem?_getD, hi2]
    have hoi : od[i] < m.marks.length := (hom _).mp (List.getElem_mem hi2)
    have hoi2 : od[i] < m.rows.length := by rw [hm.len]; exact hoi
    have er : m.rows.getD od[i] [] = m.rows[od[i]] := by simp [hoi2]
    obtain ⟨hr1, hr2⟩ := hm.row _ (List.getElem_mem hoi2)
    have hls := hm.lets.2.1
    have htk : od.take (i + 1) = od.take i ++ [od[i]] := by rw [List.take_succ_eq_append_getElem hi2]
    refine ⟨True.intro, ss_one (s_append 3 rfl rfl (EO.ee ?_))⟩
    refine eo_lcMap (.nm 5) (own := [("target", 5)]) rfl sc_law_begun_at.nd (by decide) rfl (blkOk_by (N := ["machine", "state", "order", "rows", "old", "target"]) (sc := defScope s_law_begun_at) (by decide +kernel)) (fun _ _ _ _ _ => pg_name (i := 5) sc_law_begun_at.nd rfl (Or.inl rfl)) ?_
    refine ei_tup (ee_ixT (ee_trans Ptr (hr.mono (by decide)) (ee_name 0 rfl rfl ⟨m.ls, m.rows, m.marks, rfl, hm, ?_⟩)))
    refine ee_name 4 rfl rfl ⟨_, _, .tup ((m.rows.getD od[i] []).map optN), rfl, el, atI_ofNat (by simp [hoi2]), _, rfl, fun j => optN (((m.rows.getD od[i] []).getD j none).map fun t => od.idxOf t), ?_, fun j D hj => ⟨True.intro, fun _ _ _ _ _ => ?_⟩, ?_⟩
    · rw [List.length_map, er, hr1]; omega
    · rw [List.length_map] at hj
      have el2 : ((m.rows.getD od[i] []).map optN).getD j .non = optN ((m.rows.getD od[i] []).getD j none) := optN_getD hj
      have ok2 : ∀ k, (m.rows.getD od[i] []).getD j none = some k → k < m.marks.length := by
        intro k hk
        rw [er] at hk hj
        have : (m.rows[od[i]]).getD j none = (m.rows[od[i]])[j] := by simp [hj]
        rw [this] at hk
        exact hr2 _ (List.getElem_mem hj) k hk
      show EE _ _ _ (Tg.set _ (.nm 5) (((m.rows.getD od[i] []).map optN).getD j .non)) _ (fun t Δ3 => t = optN (((m.rows.getD od[i] []).getD j none).map fun t => od.idxOf t) ∧ _)
      rw [el2]
      generalize (m.rows.getD od[i] []).getD j none = oi at ok2
      refine ee_if (et_cmp cd_isN (ee_name 5 rfl rfl (ee_non ⟨rfl, by cases oi <;> rfl, ?_⟩)))
      cases oi with
      | none => exact ⟨fun h => ee_non ⟨rfl, rfl⟩, fun h => Bool.noConfusion h⟩
      | some t1 => exact ⟨fun h => Bool.noConfusion h, fun h => ee_lindex (ee_name 2 rfl rfl ⟨od, rfl, ea_cons (ee_name 5 rfl rfl (ea_nil ⟨t1, rfl, (hom t1).mpr (ok2 t1 rfl), rfl, rfl⟩))⟩)⟩
    have ez : (List.range ((m.rows.getD od[i] []).map optN).length).map (fun j => optN (((m.rows.getD od[i] []).getD j none).map fun t => od.idxOf t)) = ((m.rows.getD od[i] []).map (Option.map fun t => od.idxOf t)).map optN := by
      rw [List.length_map, map_range (fun o : Option Nat => optN (o.map fun t => od.idxOf t)) none, List.map_map]
      rfl
    rw [ez]
    refine ⟨_, rfl, ?_, .dat (.int ((od[i] : Nat) : Int)), .any, ?_⟩
    · unfold rowL
      rw [List.length_map, List.length_map, List.length_take]
      omega
    · rw [htk, List.map_append]
      unfold rowL
      rw [List.map_append, ← el]
      rfl
  · rintro M3 Δ3 ⟨e4, e5, rfl⟩
    refine ss_share 3 rfl ?_
    refine ss_one (s_ret (EO.ee (eo_make Fm (hr.mono (by decide)) rfl ?_)))
    refine ea_cons (ee_letters Pl_ (hr.mono (by decide)) (ee_name 0 rfl rfl ⟨m.ls, m.rows, m.marks, rfl, hm, ?_⟩))
    refine ea_cons (ee_name 3 rfl rfl (ea_cons (EO.ee ?_)))
    refine eo_lcMap (.nm 4) (own := [("old", 4)]) rfl sc_law_begun_at.nd (by decide) rfl (blkOk_by (N := ["machine", "state", "order", "rows", "old", "target"]) (sc := defScope s_law_begun_at) (by decide +kernel)) (fun _ _ _ _ _ => pg_name (i := 4) sc_law_begun_at.nd rfl (Or.inl rfl)) ?_
    refine ei_list (ee_name 2 rfl rfl ⟨_, rfl, fun i => optB (m.marks.getD (od.getD i 0) none), by rw [List.length_map, hol]; omega, fun i D hi => ⟨True.intro, fun _ _ _ _ _ => ?_⟩, ?_⟩)
    · rw [List.length_map] at hi
      have el : (od.map fun i : Nat => Tr.int i).getD i .non = .int ((od.getD i 0 : Nat) : Int) := by simp [List.getD_eq_getElem?_getD, hi]
      have hoi : od.getD i 0 < m.marks.length := (hom _).mp (by
        have : od.getD i 0 = od[i] := by simp [hi]
        rw [this]; exact List.getElem_mem hi)
      exact ee_ixT (ee_marks Pm (hr.mono (by decide)) (ee_name 0 rfl rfl ⟨m.ls, m.rows, m.marks, rfl, hm, ee_name 4 rfl rfl ⟨_, _, _, rfl, el, ans_at hoi, rfl, rfl⟩⟩))
    have ez : (List.range (od.map fun i : Nat => Tr.int i).length).map (fun i => optB (m.marks.getD (od.getD i 0) none)) = (od.map fun old => m.marks.getD old none).map optB := by
      rw [List.length_map, map_range (fun o : Nat => optB (m.marks.getD o none)) 0, List.map_map]
      rfl
    rw [ez]
    have et : od.take ((od.map fun i : Nat => Tr.int i).length) = od := List.take_of_length_le (by rw [List.length_map]; exact Nat.le_refl _)
    rw [et]
    have hbr : (begun m st).rows = od.map fun old => (m.rows.getD old []).map (Option.map fun t => od.idxOf t) := by rw [hbe]
    have hbm : (begun m st).marks = od.map fun old => m.marks.getD old none := by rw [hbe]
    have hbl : (begun m st).ls = m.ls := rfl
    rw [← hbr, ← hbm]
    refine ea_nil ⟨⟨m.ls, (begun m st).rows, (begun m st).marks, _, _, rfl, hbo, rowsAre_L _, .inl rfl⟩, ?_⟩
    rintro fs ⟨ls', rows', marks', rs', v', e, hm', hrs', hv', rfl⟩
    injection e with e1 e
    injection e with e2 e
    injection e with e3 _
    injection e1 with e1
    injection e2 with e2
    have q1 : m.ls = ls' := txt_inj e1
    have q2 : (begun m st).rows = rows' := rowsAre_inj (e2 ▸ rowsAre_L _) hrs'
    have q3 : (begun m st).marks = marks' := seqB_inj (.inl rfl) (e3 ▸ hv')
    subst q1 q2 q3
    exact ⟨m, st, rfl, rfl⟩
end
end Toy

set_option Elab.async false
set_option linter.all false
set_option maxRecDepth 100000
set_option maxHeartbeats 4000000

namespace Toy
open PySem PySem.Spec PyProof.Rows L2 LamX Wf
/-! ### the plain law of k24 -/
theorem Simu.keep {m m' : Mach} {R : Option Nat → Option Nat → Prop} (S : Simu m m' R) : ∀ (w : List Nat) (o o' : Option Nat), (∀ c ∈ w, c ∈ m.ls) → R o o' → R (runM m.ls m.rows o w) (runM m'.ls m'.rows o' w)
  | [], _, _, _, r => r
  | c :: w, o, o', h, r => by
    have z := S.keep w _ _ (fun d hd => h d (List.mem_cons_of_mem _ hd)) (S.st o o' c (h c List.mem_cons_self) r)
    show R (runM m.ls m.rows (stepM m.ls m.rows o c) w) (runM m'.ls m'.rows (stepM m'.ls m'.rows o' c) w)
    rw [stepM_eq, stepM_eq, S.ls]
    rw [S.ls] at z
    exact z
theorem run_begun {m : Mach} (hm : m.ok) {s : Nat} (hs : s < m.marks.length) {w : List Nat} (hw : ∀ c ∈ w, c ∈ m.ls) : runM m.ls (begun m s).rows (some 0) w = (runM m.ls m.rows (some s) w).map fun t => (ordB m.marks.length s).idxOf t :=
  ((simu_begun hm hs).keep w (some s) (some 0) hw ⟨fun k hk => by cases hk; exact hs, congrArg some (ordB_start hs).symm⟩).2
theorem ord_at {n s t : Nat} (hs : s < n) (ht : t < n) : (ordB n s).getD ((ordB n s).idxOf t) 0 = t := by
  have hl := List.idxOf_lt_length_of_mem ((ordB_mem hs).mpr ht)
  rw [List.getD_eq_getElem?_getD, List.getElem?_eq_getElem hl, List.getElem_idxOf hl]
  rfl
theorem way_begun {m : Mach} (hm : m.ok) {s : Nat} (hs : s < m.marks.length) : ∀ (w : List Nat) (t : Nat), t < m.marks.length → (∀ c ∈ w, c ∈ m.ls) → (wayT m.ls (begun m s).rows ((ordB m.marks.length s).idxOf t) w).map (fun k => (ordB m.marks.length s).getD k 0) = wayT m.ls m.rows t w
  | [], _, _, _ => rfl
  | c :: w, t, ht, hw => by
    have st := ((simu_begun hm hs).st (some t) (some ((ordB m.marks.length s).idxOf t)) c (hw c List.mem_cons_self) ⟨fun k hk => by cases hk; exact ht, rfl⟩)
    obtain ⟨h1, h2⟩ := st
    rw [← stepM_eq, ← stepM_eq] at h2
    rw [← stepM_eq] at h1
    unfold wayT
    rw [h2]
    cases e : stepM m.ls m.rows (some t) c with
    | none => rfl
    | some u =>
      have hu : u < m.marks.length := h1 u e
      show (ordB m.marks.length s).getD ((ordB m.marks.length s).idxOf u) 0 :: _ = u :: _
      rw [ord_at hs hu]
      congr 1
      exact way_begun hm hs w u hu fun d hd => hw d (List.mem_cons_of_mem _ hd)
theorem wayT_app {ls rows} : ∀ (x y : List Nat) (s t : Nat), runM ls rows (some s) x = some t → wayT ls rows s (x ++ y) = wayT ls rows s x ++ wayT ls rows t y
  | [], _, _, _, h => by cases h; rfl
  | c :: x, y, s, t, h => by
    have h' : runM ls rows (stepM ls rows (some s) c) x = some t := h
    have eqn : ∀ z, wayT ls rows s (c :: z) = match stepM ls rows (some s) c with | none => [] | some t => t :: wayT ls rows t z := fun _ => rfl
    rw [List.cons_append, eqn, eqn]
    cases e : stepM ls rows (some s) c with
    | none =>
      rw [e, runM_none] at h'
      cases h'
    | some u =>
      rw [e] at h'
      show u :: wayT ls rows u (x ++ y) = (u :: wayT ls rows u x) ++ wayT ls rows t y
      rw [wayT_app x y u t h', List.cons_append]
theorem run_full {ls rows marks} (h : MachOk ls rows marks) (hf : Full rows marks) : ∀ (w : List Nat) (s : Nat), s < marks.length → (∀ c ∈ w, c ∈ ls) → runM ls rows (some s) w ≠ none
  | [], _, _, _ => fun e => by cases e
  | c :: w, s, hs, hw => fun e => by
    obtain ⟨o, h1, h2, h3⟩ := step_row h hs (hw c List.mem_cons_self)
    have e' : runM ls rows (stepM ls rows (some s) c) w = none := e
    rw [h2] at e'
    have hs2 : s < rows.length := by rw [h.len]; exact hs
    have er : rows.getD s [] = rows[s] := by simp [hs2]
    rw [er] at h1
    cases o with
    | none => exact hf.r _ (List.getElem_mem hs2) _ (List.mem_of_getElem? h1) rfl
    | some t => exact run_full h hf w t (h3 t rfl) (fun d hd => hw d (List.mem_cons_of_mem _ hd)) e'
/-! lists of numbers are compared -/
theorem nats_plain : ∀ ns : List Nat, plainAll (natsT ns) = true
  | [] => by unfold natsT plainAll; rfl
  | n :: ns => by
    have := nats_plain ns
    unfold natsT at this ⊢
    unfold List.map plainAll Tr.plain
    rw [this]; rfl
theorem nats_lay : ∀ ns : List Nat, PyData.canLayAll0 (pyAll (natsT ns)) = true ∧ PyData.depthAll (pyAll (natsT ns)) = 0
  | [] => by unfold natsT pyAll; exact ⟨by simp [PyData.canLayAll0], by simp [PyData.depthAll]⟩
  | n :: ns => by
    obtain ⟨h1, h2⟩ := nats_lay ns
    unfold natsT at h1 h2 ⊢
    unfold List.map pyAll Tr.py
    exact ⟨by simp [PyData.canLayAll0, PyData.canLay0, h1], by simp [PyData.depthAll, PyData.depth, h2]⟩
theorem nats_eqv : ∀ ns : List Nat, PyData.eqvAll (pyAll (natsT ns)) (pyAll (natsT ns)) = true
  | [] => by unfold natsT pyAll; simp [PyData.eqvAll]
  | n :: ns => by
    have h1 := nats_eqv ns
    unfold natsT at h1 ⊢
    unfold List.map pyAll Tr.py
    simp [PyData.eqvAll, PyData.eqv, h1]
theorem nats_ok (ns : List Nat) : (Tr.lst (natsT ns)).eqOk := by
  refine ⟨by unfold Tr.plain; exact nats_plain ns, ?_⟩
  obtain ⟨h1, h2⟩ := nats_lay ns
  unfold Tr.py
  show (PyData.canLay0 (.list (pyAll (natsT ns))) && decide (PyData.depth (.list (pyAll (natsT ns))) ≤ 64)) = true
  rw [Bool.and_eq_true]
  exact ⟨by simp only [PyData.canLay0]; exact h1, decide_eq_true (by simp only [PyData.depth]; omega)⟩
theorem nats_same (ns : List Nat) : PyData.eqv (Tr.lst (natsT ns)).py (Tr.lst (natsT ns)).py = true := by
  unfold Tr.py
  simp only [PyData.eqv]
  exact nats_eqv ns
theorem bl_ok (b : Bool) : (Tr.bl b).eqOk := ⟨by unfold Tr.plain; rfl, by unfold Tr.py; rfl⟩
theorem bl_same (b : Bool) : PyData.eqv (Tr.bl b).py (Tr.bl b).py = true := by unfold Tr.py; cases b <;> decide
theorem optB_mark (o : Option Bool) : optB o = markT o := by cases o <;> rfl
end Toy

set_option Elab.async false
set_option linter.all false
set_option maxRecDepth 100000
set_option maxHeartbeats 4000000

namespace Toy
open PySem PySem.Spec PyProof.Rows L2 LamX Wf
abbrev nLaw : List Str := ["script", "pen", "bout", "letters", "is_full", "rows", "marks", "machine", "again", "one", "two", "state", "later", "way", "rest", "order", "step"]
abbrev lpBody : List Stmt := match (defBody s_law).getD 1 (.Pass ⟨0, 0, 0, 0⟩) with
  | .For _ _ b _ _ => b
  | _ => []
abbrev inBody : List Stmt := match lpBody.getD 4 (.Pass ⟨0, 0, 0, 0⟩) with
  | .For _ _ b _ _ => b
  | _ => []
theorem app_in {x y ls : List Nat} (h : ∀ c ∈ x, c ∈ ls) (h2 : ∀ c ∈ y, c ∈ ls) : ∀ c ∈ x ++ y, c ∈ ls := fun c hc => (List.mem_append.mp hc).elim (h c) (h2 c)
theorem txt_app (a b : List Nat) : txt a ++ txt b = txt (a ++ b) := by
  show Str.append (txt a) (txt b) = _
  unfold txt Str.append
  simp
section
variable {P : Program} {w : World} {K : PySem.W.Frag} {mg : Str → Option Value} {base : Heap} {T : List (Addr × Str)} {f : Addr} {fd : FuncData} {C Cm Cc : Addr}
abbrev xLaw (P : Program) (w : World) (K : PySem.W.Frag) (mg : Str → Option Value) (base : Heap) (f : Addr) (cdv : Value) (s : Shared) (H : Hp) : Cx := (cxOf CX0 P w K mg base nLaw "law" (defScope s_law) f cdv callerA [] s H fun _ _ _ => False).nox
abbrev FnLet (P : Program) (w : World) (K : PySem.W.Frag) (mg : Str → Option Value) (base : Heap) (T : List (Addr × Str)) : Prop := Fn P w K mg base "_law_letters" 4 ["pen", "most"] (spP K T letPre (fun _ => 27) letPost)
abbrev FnWd (P : Program) (w : World) (K : PySem.W.Frag) (mg : Str → Option Value) (base : Heap) (T : List (Addr × Str)) : Prop := Fn P w K mg base "_law_word" 4 ["pen", "letters", "most"] (spP K T wordPre (fun _ => 2000) wordPost)
abbrev FnTab (P : Program) (w : World) (K : PySem.W.Frag) (mg : Str → Option Value) (base : Heap) (T : List (Addr × Str)) : Prop := Fn P w K mg base "_law_table" 4 ["pen", "letters", "size", "is_full"] (spP K T tabPre (fun _ => 9000) tabPost)
abbrev FnPn (P : Program) (w : World) (K : PySem.W.Frag) (mg : Str → Option Value) (base : Heap) (T : List (Addr × Str)) : Prop := Fn P w K mg base "_law_pen" 2 ["script"] (spPen K T)
abbrev MtAns (P : Program) (w : World) (K : PySem.W.Frag) (mg : Str → Option Value) (base : Heap) (T : List (Addr × Str)) (C : Addr) : Prop := Mt P w K mg base C "answer" 8 ["self", "word"] (spF K T (runPre C) (answerPost C))
abbrev GtWalk (P : Program) (w : World) (K : PySem.W.Frag) (mg : Str → Option Value) (base : Heap) (T : List (Addr × Str)) (C : Addr) : Prop := Gt P w K mg base C "walk" 6 ["self", "word"] (spG K T (runPre C) (walkPost C))
abbrev FnBA (P : Program) (w : World) (K : PySem.W.Frag) (mg : Str → Option Value) (base : Heap) (T : List (Addr × Str)) (C Cm : Addr) : Prop := Fn P w K mg base "_law_begun_at" 12 ["machine", "state"] (spF K T (begAtPre C) (begAtPost C Cm))
/-- what a class of machines gives -/
structure Kl (P : Program) (w : World) (K : PySem.W.Frag) (mg : Str → Option Value) (base : Heap) (T : List (Addr × Str)) (C Cm : Addr) : Prop where
  run : MtRun P w K mg base T C
  ans : MtAns P w K mg base T C
  wlk : GtWalk P w K mg base T C
  siz : PtSiz P w K mg base T C
  beg : FnBA P w K mg base T C Cm
structure Zl (mg : Str → Option Value) : Prop where
  r : mg "range" = none
  l : mg "list" = none
  p : mg "repr" = none
section
variable {X : Cx} {B : Bs} {M : Pl} {Δ : List En} {o e : Expr} {Φ : Tr → List En → Prop} {pos apos p pos2 : Pos} {pl : Sem Bool}
/-- machine.run(word), machine.answer(word), list(machine.walk(word)) -/
theorem ee_run (F : MtRun X.prog X.w X.K X.mg X.base B.T C) (hr : Room 6 X.A) (h : EE X B M Δ o fun t Δ1 => ∃ m : Mach, t = mT C m ∧ EE X B M Δ1 e fun u Δ2 => ∃ x, u = .str (txt x) ∧ m.ok ∧ (∀ c ∈ x, c ∈ m.ls) ∧ x.length ≤ 1000000 ∧ Φ (optN (runM m.ls m.rows (some 0) x)) Δ2)
    (hst : starEach [e] X.env = (false, eval e X.env) :: starEach [] X.env := by rfl) (hpl : (backTo pos (starEach [] X.env)).any (·.1) = false := by rfl)
    (ht : eval (.Call (.Attribute o "run" apos) [e] [] pos) X.env = (do
      let ov ← eval o X.env
      standAt apos.atName
      let (f, first) ← holding [ov] (getMethod ov "run" pl)
      callWith pos f first (backTo pos (starEach [e] X.env)) (backToKw pos (keywordEach [] X.env))) := by rfl) : EE X B M Δ (.Call (.Attribute o "run" apos) [e] [] pos) Φ :=
  ee_meth (pl := pl) F hr (EE.mono h fun t Δ1 ⟨m, hm, q⟩ => by
    subst hm
    refine ⟨_, rfl, lk_no (by decide +kernel) (by decide +kernel) (by decide +kernel) (by decide +kernel), ea_cons (hs := hst) (EE.mono q fun u Δ2 ⟨x, hx, h1, h2, h3, q⟩ => ea_nil ?_)⟩
    subst hx
    refine ⟨⟨m.ls, m.rows, m.marks, x, rfl, h1, h2, h3⟩, ?_⟩
    rintro t ⟨ls', rows', marks', x', e, _, rfl⟩
    obtain ⟨⟨q1, q2, q3⟩, q4⟩ := run_inj e
    subst q1 q2 q3 q4
    exact q) hst hpl ht
theorem ee_ans (F : MtAns X.prog X.w X.K X.mg X.base B.T C) (hr : Room 8 X.A) (h : EE X B M Δ o fun t Δ1 => ∃ m : Mach, t = mT C m ∧ EE X B M Δ1 e fun u Δ2 => ∃ x, u = .str (txt x) ∧ m.ok ∧ (∀ c ∈ x, c ∈ m.ls) ∧ x.length ≤ 1000000 ∧ Φ (optB (ansOf m x)) Δ2)
    (hst : starEach [e] X.env = (false, eval e X.env) :: starEach [] X.env := by rfl) (hpl : (backTo pos (starEach [] X.env)).any (·.1) = false := by rfl)
    (ht : eval (.Call (.Attribute o "answer" apos) [e] [] pos) X.env = (do
      let ov ← eval o X.env
      standAt apos.atName
      let (f, first) ← holding [ov] (getMethod ov "answer" pl)
      callWith pos f first (backTo pos (starEach [e] X.env)) (backToKw pos (keywordEach [] X.env))) := by rfl) : EE X B M Δ (.Call (.Attribute o "answer" apos) [e] [] pos) Φ :=
  ee_meth (pl := pl) F hr (EE.mono h fun t Δ1 ⟨m, hm, q⟩ => by
    subst hm
    refine ⟨_, rfl, lk_no (by decide +kernel) (by decide +kernel) (by decide +kernel) (by decide +kernel), ea_cons (hs := hst) (EE.mono q fun u Δ2 ⟨x, hx, h1, h2, h3, q⟩ => ea_nil ?_)⟩
    subst hx
    refine ⟨⟨m.ls, m.rows, m.marks, x, rfl, h1, h2, h3⟩, ?_⟩
    rintro t ⟨ls', rows', marks', x', e, _, rfl⟩
    obtain ⟨⟨q1, q2, q3⟩, q4⟩ := run_inj e
    subst q1 q2 q3 q4
    exact q) hst hpl ht
theorem eo_walk (F : GtWalk X.prog X.w X.K X.mg X.base B.T C) (hr : Room 9 X.A) (hg : Gl X "list") (hmg : X.mg "list" = none) (h : EE X B M Δ o fun t Δ1 => ∃ m : Mach, t = mT C m ∧ EE X B M Δ1 e fun u Δ2 => ∃ x, u = .str (txt x) ∧ m.ok ∧ (∀ c ∈ x, c ∈ m.ls) ∧ x.length ≤ 1000000 ∧ Φ (.lst (natsT (wayM m.ls m.rows 0 x))) Δ2)
    (hst : starEach [e] X.env = (false, eval e X.env) :: starEach [] X.env := by rfl) (hpl : (backTo pos2 (starEach [] X.env)).any (·.1) = false := by rfl)
    (ht : eval (.Call (.Attribute o "walk" apos) [e] [] pos2) X.env = (do
      let ov ← eval o X.env
      standAt apos.atName
      let (f, first) ← holding [ov] (getMethod ov "walk" pl)
      callWith pos2 f first (backTo pos2 (starEach [e] X.env)) (backToKw pos2 (keywordEach [] X.env))) := by rfl)
    (hs1 : starEach [.Call (.Attribute o "walk" apos) [e] [] pos2] X.env = (false, eval (.Call (.Attribute o "walk" apos) [e] [] pos2) X.env) :: starEach [] X.env := by rfl) : EO X B M Δ (.Call (.Name "list" p) [.Call (.Attribute o "walk" apos) [e] [] pos2] [] pos) Φ :=
  eo_listGM (pl := pl) F hr hg hmg (EE.mono h fun t Δ1 ⟨m, hm, q⟩ => by
    subst hm
    refine ⟨_, rfl, lk_no (by decide +kernel) (by decide +kernel) (by decide +kernel) (by decide +kernel), ea_cons (hs := hst) (EE.mono q fun u Δ2 ⟨x, hx, h1, h2, h3, q⟩ => ea_nil ?_)⟩
    subst hx
    refine ⟨⟨m.ls, m.rows, m.marks, x, rfl, h1, h2, h3⟩, ?_⟩
    rintro t ⟨ls', rows', marks', x', e, _, rfl⟩
    obtain ⟨⟨q1, q2, q3⟩, q4⟩ := run_inj e
    subst q1 q2 q3 q4
    exact q) hst hpl ht hs1
/-- one + two -/
theorem ee_both {a b : Expr} {x y : List Nat} (hx : x.length ≤ 8) (hy : y.length ≤ 8) (h : EE X B M Δ a fun t Δ1 => t = .str (txt x) ∧ EE X B M Δ1 b fun u Δ2 => u = .str (txt y) ∧ Φ (.str (txt (x ++ y))) Δ2) : EE X B M Δ (.BinOp a .Add b pos) Φ :=
  ee_adds (EE.mono h fun t Δ1 ⟨e1, q⟩ => EE.mono q fun u Δ2 ⟨e2, q⟩ => ⟨_, _, e1, e2, by rw [txt_len, txt_len, sizeLine_eq]; omega, by rw [txt_app]; exact q⟩)
end
end
end Toy

set_option Elab.async false
set_option linter.all false
set_option maxRecDepth 100000
set_option maxHeartbeats 4000000

namespace Toy
open PySem PySem.Spec PyProof.Rows L2 LamX Wf
theorem cut_one (a : Nat) (r : List Nat) : cutL (natsT (a :: r)) (some 1) none = natsT r := by
  unfold cutL natsT
  simp [HT.sIx]
  exact List.take_of_length_le (by simp)
theorem isN_map (o : Option Nat) (g : Nat → Nat) : (optN (o.map g)).isN = (optN o).isN := by cases o <;> rfl
theorem optN_clear (o : Option Nat) : (optN o).clear = true := by cases o <;> rfl
theorem optB_clear (o : Option Bool) : (optB o).clear = true := by cases o <;> rfl
section
variable {P : Program} {w : World} {K : PySem.W.Frag} {mg : Str → Option Value} {base : Heap} {T : List (Addr × Str)} {f : Addr} {fd : FuncData} {C Cm Cc : Addr}
/-- the ways, compared -/
theorem law_ways {cdv : Value} {s : Shared} {H : Hp} {M : Pl} {Ψ : Eo} {e0 e1 e2 e3 e4 e5 e6 e8 e13 e14 e15 e16 : En} {m : Mach} {x y : List Nat} {st : Nat} (hm : m.ok) (hx : ∀ c ∈ x, c ∈ m.ls) (hx8 : x.length ≤ 8) (hy : ∀ c ∈ y, c ∈ m.ls) (hy8 : y.length ≤ 8) (hrun : runM m.ls m.rows (some 0) x = some st) (hst : st < m.marks.length)
    (KC : Kl P w K mg base T C Cm) (KM : Kl P w K mg base T Cm Cm) (Z : Zl mg)
    (hnx : ∀ M2 e13 e14 e15 e16, Ψ.nx M2 [e0, e1, e2, e3, e4, e5, e6, .dat (mT C m), e8, .dat (.str (txt x)), .dat (.str (txt y)), .dat (.int st), .dat (mT Cm (begun m st)), e13, e14, e15, e16]) :
    SS (xLaw P w K mg base f cdv s H) (bF T H fun _ => False) M [e0, e1, e2, e3, e4, e5, e6, .dat (mT C m), e8, .dat (.str (txt x)), .dat (.str (txt y)), .dat (.int st), .dat (mT Cm (begun m st)), e13, e14, e15, e16] (inBody.drop 7) Ψ := by
  have hr : Room 199 (callerA.deeper (envOfC "law" (defScope s_law) s.heap.objs.size f cdv)) := caller_room.deeper _
  have hu2 := hr.units
  have hsl : sizeLine = 16777216 := sizeLine_eq
  have hbo := begun_ok hm hst
  have hfew := hm.few
  refine ss_cons (s_par 13 14 (hE := fun ta ha => ps_par rfl sc_law.nd rfl rfl (by decide) rfl rfl ha (by rfl)) ?_)
  refine EO.ee (eo_walk KC.wlk (hr.mono (by decide)) rfl Z.l (ee_name 7 rfl rfl ⟨m, rfl, ee_name 9 rfl rfl ⟨x, rfl, hm, hx, by omega, ?_⟩⟩))
  refine EO.ee (eo_walk KM.wlk (hr.mono (by decide)) rfl Z.l (ee_name 12 rfl rfl ⟨begun m st, rfl, ee_name 10 rfl rfl ⟨y, rfl, hbo, hy, by omega, ?_⟩⟩))
  refine ss_cons (s_asgO 15 sc_law.nd rfl (eo_listRange rfl rfl Z.l rfl Z.r (ee_size KC.siz (hr.mono (by decide)) (ee_name 7 rfl rfl ⟨m.ls, m.rows, m.marks, rfl, hm, _, rfl, by omega, by omega, ?_⟩))))
  intro l15 hl15
  have hlr : ((List.range m.marks.length).map fun i : Nat => Tr.int i).length = m.marks.length := by rw [List.length_map, List.length_range]
  rw [Int.toNat_natCast]
  refine ss_cons (s_set1 (l := l15) 15 rfl (ee_name 11 rfl rfl ⟨_, rfl, ee_int ⟨_, 0, 0, rfl, rfl, ixNn (j := 0) (by rw [hlr]; exact hm.pos), ?_⟩⟩) (ps_asg pe_self (pg_sub (pv 15) pe_self set_list)))
  refine ss_cons (s_set1 (l := l15) 15 rfl (ee_int ⟨_, rfl, ee_name 11 rfl rfl ⟨_, st, _, rfl, rfl, ixNn (by rw [List.length_set, hlr]; exact hst), ?_⟩⟩) (ps_asg pe_self (pg_sub (pv 15) pe_self set_list)))
  have eo : (((List.range m.marks.length).map fun i : Nat => Tr.int i).set 0 (Tr.int (st : Nat))).set st (Tr.int 0) = natsT (ordB m.marks.length st) := by
    unfold ordB natsT
    rw [List.map_set, List.map_set]
    rfl
  rw [eo]
  refine ss_share 15 rfl ?_
  show SS _ _ _ [e0, e1, e2, e3, e4, e5, e6, .dat (mT C m), e8, .dat (.str (txt x)), .dat (.str (txt y)), .dat (.int st), .dat (mT Cm (begun m st)), .dat (.lst (natsT (wayM m.ls m.rows 0 x))), .dat (.lst (natsT (wayM m.ls (begun m st).rows 0 y))), .dat (.lst (natsT (ordB m.marks.length st))), e16] _ _
  have hway : wayM m.ls m.rows 0 (x ++ y) = wayM m.ls m.rows 0 x ++ (wayT m.ls (begun m st).rows 0 y).map (fun k => (ordB m.marks.length st).getD k 0) := by
    have h1 := way_begun hm hst y st hst hy
    rw [ordB_start hst] at h1
    rw [h1]
    unfold wayM
    rw [wayT_app x y 0 st hrun]
    rfl
  have hblt : ∀ k ∈ wayT m.ls (begun m st).rows 0 y, k < (ordB m.marks.length st).length := by
    have := wayT_lt hbo y 0 hbo.pos hy
    intro k hk
    have h2 := this k hk
    have h3 : (begun m st).marks.length = m.marks.length := by simp [begun, ordB_len]
    rw [ordB_len]
    omega
  have hln := wayT_len (ls := m.ls) (rows := (begun m st).rows) y 0
  have hln2 := wayT_len (ls := m.ls) (rows := m.rows) x 0
  refine ss_one (s_if (et_cmp (cd_neD hu2) (EO.ee (eo_walk KC.wlk (hr.mono (by decide)) rfl Z.l (ee_name 7 rfl rfl ⟨m, rfl, ee_both hx8 hy8 (ee_name 9 rfl rfl ⟨rfl, ee_name 10 rfl rfl ⟨rfl, x ++ y, rfl, hm, app_in hx hy, by rw [List.length_append]; omega, ?_⟩⟩)⟩)))))
  rw [hway]
  generalize hA : wayM m.ls m.rows 0 x = A
  have hAl : A.length ≤ 9 := by rw [← hA]; unfold wayM; rw [List.length_cons]; omega
  show EE _ _ _ _ _ _
  refine EO.ee (eo_catD (ee_name 13 rfl rfl (EO.ee ?_)))
  refine eo_lcMap (.nm 16) (own := [("step", 16)]) rfl sc_law.nd (by decide) rfl (blkOk_by (N := nLaw) (sc := defScope s_law) (by decide +kernel)) (fun _ _ _ _ _ => pg_name (i := 16) sc_law.nd rfl (Or.inl rfl)) ?_
  refine ei_list (EO.ee (eo_slL (ee_name 14 rfl rfl ⟨_, rfl, ep_some (ee_int ⟨1, rfl, ep_no ?_⟩)⟩)))
  have ecut : cutL (natsT (wayM m.ls (begun m st).rows 0 y)) (some 1) none = natsT (wayT m.ls (begun m st).rows 0 y) := cut_one 0 _
  rw [ecut]
  generalize wayT m.ls (begun m st).rows 0 y = r at hblt hln
  have hrl : (natsT r).length = r.length := by simp [natsT]
  refine ⟨_, rfl, fun i => Tr.int ((ordB m.marks.length st).getD (r.getD i 0) 0 : Nat), by rw [hrl]; omega, fun i D hi => ⟨True.intro, fun _ _ _ _ _ => ?_⟩, ?_⟩
  · rw [hrl] at hi
    have el : (natsT r).getD i .non = .int ((r.getD i 0 : Nat) : Int) := by simp [natsT, List.getD_eq_getElem?_getD, hi]
    have hk : r.getD i 0 < (ordB m.marks.length st).length := hblt _ (by
      have : r.getD i 0 = r[i] := by simp [hi]
      rw [this]; exact List.getElem_mem hi)
    refine ee_ixL (ee_name 15 rfl rfl (ee_name 16 rfl rfl ⟨_, _, Tr.int ((ordB m.marks.length st).getD (r.getD i 0) 0 : Nat), rfl, el, atI_ofNat ?_, rfl, rfl⟩))
    generalize r.getD i 0 = q at hk
    simp [natsT, List.getD_eq_getElem?_getD, hk]
  have ez : (List.range (natsT r).length).map (fun i => Tr.int ((ordB m.marks.length st).getD (r.getD i 0) 0 : Nat)) = natsT (r.map fun k => (ordB m.marks.length st).getD k 0) := by
    rw [hrl, map_range (fun k : Nat => Tr.int ((ordB m.marks.length st).getD k 0 : Nat)) 0]
    unfold natsT
    rw [List.map_map]
    rfl
  rw [ez]
  refine ⟨_, _, rfl, rfl, by simp [natsT]; omega, ?_⟩
  have ea : natsT A ++ natsT (r.map fun k => (ordB m.marks.length st).getD k 0) = natsT (A ++ r.map fun k => (ordB m.marks.length st).getD k 0) := by simp [natsT]
  show _ ∧ (Tr.lst (natsT A ++ natsT _)).eqOk ∧ _
  rw [ea]
  refine ⟨nats_ok _, nats_ok _, ?_⟩
  rw [nats_same]
  exact ⟨fun h => Bool.noConfusion h, fun _ => ss_nil (hnx _ _ _ _ _)⟩
end
end Toy

set_option Elab.async false
set_option linter.all false
set_option maxRecDepth 100000
set_option maxHeartbeats 4000000

namespace Toy
open PySem PySem.Spec PyProof.Rows L2 LamX Wf
section
variable {P : Program} {w : World} {K : PySem.W.Frag} {mg : Str → Option Value} {base : Heap} {T : List (Addr × Str)} {f : Addr} {fd : FuncData} {C Cm Cc : Addr}
/-- the first word does not leave the machine -/
theorem law_some {cdv : Value} {s : Shared} {H : Hp} {M : Pl} {Ψ : Eo} {e0 e1 e2 e3 e4 e5 e6 e8 e12 e13 e14 e15 e16 : En} {m : Mach} {x y : List Nat} {st : Nat} (hm : m.ok) (hx : ∀ c ∈ x, c ∈ m.ls) (hx8 : x.length ≤ 8) (hy : ∀ c ∈ y, c ∈ m.ls) (hy8 : y.length ≤ 8) (hrun : runM m.ls m.rows (some 0) x = some st) (hst : st < m.marks.length)
    (KC : Kl P w K mg base T C Cm) (KM : Kl P w K mg base T Cm Cm) (Z : Zl mg)
    (hnx : ∀ M2 e12 e13 e14 e15 e16, Ψ.nx M2 [e0, e1, e2, e3, e4, e5, e6, .dat (mT C m), e8, .dat (.str (txt x)), .dat (.str (txt y)), .dat (.int st), e12, e13, e14, e15, e16]) :
    SS (xLaw P w K mg base f cdv s H) (bF T H fun _ => False) M [e0, e1, e2, e3, e4, e5, e6, .dat (mT C m), e8, .dat (.str (txt x)), .dat (.str (txt y)), .dat (.int st), e12, e13, e14, e15, e16] (inBody.drop 4) Ψ := by
  have hr : Room 199 (callerA.deeper (envOfC "law" (defScope s_law) s.heap.objs.size f cdv)) := caller_room.deeper _
  have hu2 := hr.units
  have hsl : sizeLine = 16777216 := sizeLine_eq
  have hbo := begun_ok hm hst
  have hxy : (x ++ y).length ≤ 1000000 := by rw [List.length_append]; omega
  refine ss_cons (s_asg 12 sc_law.nd rfl (ee_call KC.beg (hr.mono (by decide)) rfl (ea_cons (ee_name 7 rfl rfl (ea_cons (ee_name 11 rfl rfl (ea_nil ⟨⟨m, st, rfl, hm, hst⟩, ?_⟩)))))))
  rintro _ ⟨m', s', e, rfl⟩
  injection e with q1 e
  injection e with q2 _
  injection q2 with q2
  have q1 := mT_inj q1
  have q2 : st = s' := by omega
  subst q1 q2
  have eqs : ∀ z : Str, (!decide (z = z)) = false := fun z => by simp
  have hans : ansOf (begun m st) y = ansOf m (x ++ y) := by
    rw [begun_ans hm hst hy]
    unfold ansOf
    rw [runM_app, hrun]
  refine ss_cons (s_if (et_cmp cd_neS (ee_callB cl_reprM rfl Z.p (by decide +kernel) (ea_cons (ee_ans KM.ans (hr.mono (by decide)) (ee_name 12 rfl rfl ⟨begun m st, rfl, ee_name 10 rfl rfl ⟨y, rfl, hbo, hy, by omega, ea_nil ⟨_, congrArg (fun z => [z]) (optB_mark _), ?_⟩⟩⟩))))))
  refine ee_callB cl_reprM rfl Z.p (by decide +kernel) (ea_cons (ee_ans KC.ans (hr.mono (by decide)) (ee_name 7 rfl rfl ⟨m, rfl, ee_both hx8 hy8 (ee_name 9 rfl rfl ⟨rfl, ee_name 10 rfl rfl ⟨rfl, x ++ y, rfl, hm, app_in hx hy, hxy, ea_nil ⟨_, congrArg (fun z => [z]) (optB_mark _), _, _, rfl, rfl, ?_⟩⟩⟩)⟩)))
  rw [hans, eqs]
  refine ⟨fun h => Bool.noConfusion h, fun _ => ss_nil ?_⟩
  have hrb := run_begun hm hst hy
  have hxyr : runM m.ls m.rows (some 0) (x ++ y) = runM m.ls m.rows (some st) y := by rw [runM_app, hrun]
  refine ss_cons (s_if (et_cmp (cd_neD hu2) (ee_cmp cd_isN (ee_run KM.run (hr.mono (by decide)) (ee_name 12 rfl rfl ⟨begun m st, rfl, ee_name 10 rfl rfl ⟨y, rfl, hbo, hy, by omega, ee_non ⟨rfl, optN_clear _, ?_⟩⟩⟩)))))
  refine ee_cmp cd_isN (ee_run KC.run (hr.mono (by decide)) (ee_name 7 rfl rfl ⟨m, rfl, ee_both hx8 hy8 (ee_name 9 rfl rfl ⟨rfl, ee_name 10 rfl rfl ⟨rfl, x ++ y, rfl, hm, app_in hx hy, hxy, ee_non ⟨rfl, optN_clear _, bl_ok _, bl_ok _, ?_⟩⟩⟩)⟩))
  have e2 : (optN (runM (begun m st).ls (begun m st).rows (some 0) y)).isN = (optN (runM m.ls m.rows (some 0) (x ++ y))).isN := by
    rw [hxyr, show (begun m st).ls = m.ls from rfl, hrb, isN_map]
  rw [e2, bl_same]
  refine ⟨fun h => Bool.noConfusion h, fun _ => ss_nil ?_⟩
  exact law_ways hm hx hx8 hy hy8 hrun hst KC KM Z fun M2 e13 e14 e15 e16 => hnx _ _ _ _ _ _
/-- one inner round -/
theorem law_in {cdv : Value} {s : Shared} {H : Hp} {M : Pl} {Ψ : Eo} {e0 e2 e5 e6 e8 e9 e10 e11 e12 e13 e14 e15 e16 : En} {pn : Pn} {c : Nat} (hc : c ≤ 1000000) {m : Mach} {full : Bool} (hm : m.ok) (hfl : full = true → Full m.rows m.marks) (Fw : FnWd P w K mg base T)
    (KC : Kl P w K mg base T C Cm) (KM : Kl P w K mg base T Cm Cm) (Z : Zl mg)
    (hnx : ∀ M2 e9 e10 e11 e12 e13 e14 e15 e16, Ψ.nx M2 [e0, .pen pn (c + 4000), e2, .dat (.str (txt m.ls)), .dat (.bl full), e5, e6, .dat (mT C m), e8, e9, e10, e11, e12, e13, e14, e15, e16])
    (hct : ∀ M2 e9 e10 e11 e12 e13 e14 e15 e16, Ψ.ct M2 [e0, .pen pn (c + 4000), e2, .dat (.str (txt m.ls)), .dat (.bl full), e5, e6, .dat (mT C m), e8, e9, e10, e11, e12, e13, e14, e15, e16]) :
    SS (xLaw P w K mg base f cdv s H) (bF T H fun _ => False) M [e0, .pen pn c, e2, .dat (.str (txt m.ls)), .dat (.bl full), e5, e6, .dat (mT C m), e8, e9, e10, e11, e12, e13, e14, e15, e16] inBody Ψ := by
  have hr : Room 199 (callerA.deeper (envOfC "law" (defScope s_law) s.heap.objs.size f cdv)) := caller_room.deeper _
  have hu2 := hr.units
  have hsl : sizeLine = 16777216 := sizeLine_eq
  have hl0 : 0 < (txt m.ls).length := by rw [txt_len]; have := hm.lets.1; omega
  have hls4 := hm.lets.2.1
  have hl1 : (txt m.ls).length ≤ sizeLine := by rw [txt_len]; omega
  refine ss_cons (s_par 9 10 (hE := fun ta ha => ps_par rfl sc_law.nd rfl rfl (by decide) rfl rfl ha (by rfl)) ?_)
  refine ee_callP 1 rfl rfl Fw (hr.mono (by decide)) rfl (ea_cons (ee_name 3 rfl rfl (ea_cons (ee_int (ea_nil ⟨c, rfl, ⟨_, 8, rfl, hl0, hl1, by decide⟩, by show c + 2000 ≤ 1000000000; omega, ?_⟩)))))
  rintro _ ⟨z, n, x, e, rfl, hx1, hx2⟩
  have ez : txt m.ls = z := by injection e with e _; injection e with e
  have en : n = 8 := by injection e with _ e; injection e with e _; injection e with e; omega
  subst ez en
  refine ee_callP 1 rfl rfl Fw (hr.mono (by decide)) rfl (ea_cons (ee_name 3 rfl rfl (ea_cons (ee_int (ea_nil ⟨c + 2000, rfl, ⟨_, 8, rfl, hl0, hl1, by decide⟩, by show c + 2000 + 2000 ≤ 1000000000; omega, ?_⟩)))))
  rintro _ ⟨z, n, y, e, rfl, hy1, hy2⟩
  have ez : txt m.ls = z := by injection e with e _; injection e with e
  have en : n = 8 := by injection e with _ e; injection e with e _; injection e with e; omega
  subst ez en
  rw [txt_cps] at hx2 hy2
  refine ss_cons (s_asg 11 sc_law.nd rfl (ee_run KC.run (hr.mono (by decide)) (ee_name 7 rfl rfl ⟨m, rfl, ee_name 9 rfl rfl ⟨x, rfl, hm, hx2, by omega, ?_⟩⟩)))
  have hlt := run_lt hm x (some 0) (fun k hk => by cases hk; exact hm.pos) hx2
  have hnf : full = true → runM m.ls m.rows (some 0) x ≠ none := fun h => run_full hm (hfl h) x 0 hm.pos hx2
  cases ho : runM m.ls m.rows (some 0) x with
  | none =>
    have hff : full = false := by
      cases full with
      | false => rfl
      | true => exact absurd ho (hnf rfl)
    subst hff
    have hxy : runM m.ls m.rows (some 0) (x ++ y) = none := by rw [runM_app, ho, runM_none]
    have hxa : ansOf m (x ++ y) = none := by unfold ansOf; rw [hxy]; rfl
    have hxyl : (x ++ y).length ≤ 1000000 := by rw [List.length_append]; omega
    show SS _ _ _ [e0, .pen pn (c + 2000 + 2000), e2, .dat (.str (txt m.ls)), .dat (.bl false), e5, e6, .dat (mT C m), e8, .dat (.str (txt x)), .dat (.str (txt y)), .dat .non, e12, e13, e14, e15, e16] _ _
    refine ss_cons (s_if (et_and2 (et_val (ee_name 4 rfl rfl ⟨false, rfl, fun h => Bool.noConfusion h, fun _ => ⟨fun h => Bool.noConfusion h, fun _ => ss_nil ?_⟩⟩))))
    refine ss_cons (s_if (et_cmp cd_isN (ee_name 11 rfl rfl (ee_non ⟨rfl, rfl, fun _ => ?_, fun h => Bool.noConfusion h⟩))))
    refine ss_cons (s_if (et_or2 (et_cmp cd_notN (ee_run KC.run (hr.mono (by decide)) (ee_name 7 rfl rfl ⟨m, rfl, ee_both hx1 hy1 (ee_name 9 rfl rfl ⟨rfl, ee_name 10 rfl rfl ⟨rfl, x ++ y, rfl, hm, app_in hx2 hy2, hxyl, ?_⟩⟩)⟩)))))
    rw [hxy]
    refine ee_non ⟨rfl, rfl, fun h => Bool.noConfusion h, fun _ => ?_⟩
    refine et_cmp cd_notN (ee_ans KC.ans (hr.mono (by decide)) (ee_name 7 rfl rfl ⟨m, rfl, ee_both hx1 hy1 (ee_name 9 rfl rfl ⟨rfl, ee_name 10 rfl rfl ⟨rfl, x ++ y, rfl, hm, app_in hx2 hy2, hxyl, ?_⟩⟩)⟩))
    rw [hxa]
    refine ee_non ⟨rfl, rfl, fun h => Bool.noConfusion h, fun _ => ss_nil ?_⟩
    exact ss_one (s_continue (hct _ _ _ _ _ _ _ _ _))
  | some st =>
    have hst := hlt st ho
    show SS _ _ _ [e0, .pen pn (c + 2000 + 2000), e2, .dat (.str (txt m.ls)), .dat (.bl full), e5, e6, .dat (mT C m), e8, .dat (.str (txt x)), .dat (.str (txt y)), .dat (.int st), e12, e13, e14, e15, e16] _ _
    refine ss_cons (s_if (et_and2 (et_val (ee_name 4 rfl rfl ⟨full, rfl, fun _ => et_cmp cd_isN (ee_name 11 rfl rfl (ee_non ⟨rfl, rfl, fun h => Bool.noConfusion h, fun _ => ss_nil ?_⟩)), fun _ => ⟨fun h => Bool.noConfusion h, fun _ => ss_nil ?_⟩⟩))))
    · refine ss_cons (s_if (et_cmp cd_isN (ee_name 11 rfl rfl (ee_non ⟨rfl, rfl, fun h => Bool.noConfusion h, fun _ => ss_nil ?_⟩))))
      exact law_some hm hx2 hx1 hy2 hy1 ho hst KC KM Z fun M2 e12 e13 e14 e15 e16 => hnx _ _ _ _ _ _ _ _ _
    · refine ss_cons (s_if (et_cmp cd_isN (ee_name 11 rfl rfl (ee_non ⟨rfl, rfl, fun h => Bool.noConfusion h, fun _ => ss_nil ?_⟩))))
      exact law_some hm hx2 hx1 hy2 hy1 ho hst KC KM Z fun M2 e12 e13 e14 e15 e16 => hnx _ _ _ _ _ _ _ _ _
end
end Toy

set_option Elab.async false
set_option linter.all false
set_option maxRecDepth 100000
set_option maxHeartbeats 4000000

namespace Toy
open PySem PySem.Spec PyProof.Rows L2 LamX Wf
section
variable {P : Program} {w : World} {K : PySem.W.Frag} {mg : Str → Option Value} {base : Heap} {T : List (Addr × Str)} {f : Addr} {fd : FuncData} {C Cm Cc : Addr}
abbrev McC (P : Program) (w : World) (K : PySem.W.Frag) (mg : Str → Option Value) (base : Heap) (T : List (Addr × Str)) (C : Addr) : Prop := Mc P w K mg base "Complete" C 12 ["self", "letters", "transitions", "marks"] (spI K T C fullPre initPost)
/-- all that the law calls -/
structure Ca (P : Program) (w : World) (K : PySem.W.Frag) (mg : Str → Option Value) (base : Heap) (T : List (Addr × Str)) (Cm Cc : Addr) : Prop where
  pn : FnPn P w K mg base T
  dr : FnDraw P w K mg base T
  lt : FnLet P w K mg base T
  tb : FnTab P w K mg base T
  wd : FnWd P w K mg base T
  mm : McM P w K mg base T Cm
  mc : McC P w K mg base T Cc
  km : Kl P w K mg base T Cm Cm
  kc : Kl P w K mg base T Cc Cm
  z : Zl mg
theorem init_one {ls : List Nat} {rows : List (List (Option Nat))} {marks : List (Option Bool)} {fs : List (Str × Tr)} (h : initPost [.str (txt ls), .lst (rowL rows), .lst (marks.map optB)] fs) : fs = machF ls rows marks := by
  obtain ⟨ls', rows', marks', rs', v', e, hm', hrs', hv', rfl⟩ := h
  injection e with e1 e
  injection e with e2 e
  injection e with e3 _
  injection e1 with e1
  injection e2 with e2
  have q1 : ls = ls' := txt_inj e1
  have q2 : rows = rows' := rowsAre_inj (e2 ▸ rowsAre_L _) hrs'
  have q3 : marks = marks' := seqB_inj (.inl rfl) (e3 ▸ hv')
  subst q1 q2 q3
  rfl
theorem law_turn {cdv : Value} {s : Shared} {H : Hp} {M : Pl} {Ψ : Eo} {e0 e2 e3 e4 e5 e6 e7 e8 e9 e10 e11 e12 e13 e14 e15 e16 : En} {pn : Pn} {c : Nat} (hc : c ≤ 500000) (Z : Ca P w K mg base T Cm Cc)
    (hnx : ∀ M2 c' e3 e4 e5 e6 e7 e8 e9 e10 e11 e12 e13 e14 e15 e16, c' ≤ c + 40000 → Ψ.nx M2 [e0, .pen pn c', e2, e3, e4, e5, e6, e7, e8, e9, e10, e11, e12, e13, e14, e15, e16]) :
    SS (xLaw P w K mg base f cdv s H) (bF T H fun _ => False) M [e0, .pen pn c, e2, e3, e4, e5, e6, e7, e8, e9, e10, e11, e12, e13, e14, e15, e16] lpBody Ψ := by
  have hr : Room 199 (callerA.deeper (envOfC "law" (defScope s_law) s.heap.objs.size f cdv)) := caller_room.deeper _
  have hu2 := hr.units
  have hsl : sizeLine = 16777216 := sizeLine_eq
  refine ss_cons (s_asg 3 sc_law.nd rfl (ee_callP 1 rfl rfl Z.lt (hr.mono (by decide)) rfl (ea_cons (ee_int (ea_nil ⟨c, rfl, ⟨3, rfl, by decide, by decide⟩, by show c + 27 ≤ 1000000000; omega, ?_⟩)))))
  rintro _ ⟨n3, ls, e, rfl, hls⟩
  have en : n3 = 3 := by injection e with e _; injection e with e; omega
  subst en
  have hls3 : ls.length ≤ 3 := hls.2.1
  refine ss_cons (s_asg 4 sc_law.nd rfl (ee_cmp cd_eqI (ee_callP 1 rfl rfl Z.dr (hr.mono (by decide)) rfl (ea_cons (ee_int (ea_nil ⟨c + 27, rfl, ⟨_, rfl, by decide, by decide⟩, by show c + 27 + 1 ≤ 1000000000; omega, ?_⟩))))))
  rintro _ ⟨_, j, _, rfl, _, _⟩
  refine ee_int ⟨_, _, rfl, rfl, ?_⟩
  generalize decide (j = 0) = full
  refine ss_cons (s_unp2 5 6 rfl sc_law.nd rfl rfl (ee_callP 1 rfl rfl Z.tb (hr.mono (by decide)) rfl (ea_cons (ee_name 3 rfl rfl (ea_cons (ee_add (ee_int (ee_callP 1 rfl rfl Z.dr (hr.mono (by decide)) rfl (ea_cons (ee_int (ea_nil ⟨c + 27 + 1, rfl, ⟨_, rfl, by decide, by decide⟩, by show c + 27 + 1 + 1 ≤ 1000000000; omega, ?_⟩)))))))))))
  rintro _ ⟨n5, i, e, rfl, h1, h2⟩
  have en : n5 = 5 := by injection e with e _; injection e with e; exact e.symm
  subst en
  refine ⟨_, _, rfl, rfl, ea_cons (ee_name 4 rfl rfl (ea_nil ⟨c + 29, rfl, ⟨ls, (1 + i).toNat, full, ?_, by omega, by omega, by omega⟩, by show c + 29 + 9000 ≤ 1000000000; omega, ?_⟩))⟩
  · show [Tr.str (txt ls), Tr.int (1 + i), Tr.bl full] = _
    rw [Int.toNat_of_nonneg (by omega)]
  rintro _ ⟨ls', n, full', rows, marks, e, ht, rfl⟩
  injection e with g1 e
  injection e with g2 e
  injection e with g3 _
  injection g1 with g1
  injection g2 with g2
  injection g3 with g3
  have q1 := txt_inj g1
  subst q1 g3
  have hm : MachOk ls rows marks := ⟨⟨hls.1, by omega, hls.2.2⟩, by rw [ht.r, ht.m], by rw [ht.m]; omega, by rw [ht.m]; omega, fun r hr' => ⟨(ht.row r hr').1, fun o ho k hk => by rw [ht.m]; exact ((ht.row r hr').2 o ho).1 k hk⟩⟩
  have hfl : full = true → Full rows marks := fun hf => ⟨fun r hr' o ho => ((ht.row r hr').2 o ho).2 hf, ht.mks hf⟩
  refine ⟨_, _, rfl, ?_⟩
  have fin : ∀ (M2 : Pl) (C : Addr), Kl P w K mg base T C Cm → SS (xLaw P w K mg base f cdv s H) (bF T H fun _ => False) M2 [e0, .pen pn (c + 29 + 9000), e2, .dat (.str (txt ls)), .dat (.bl full), .dat (.lst (rowL rows)), .dat (.lst (marks.map optB)), .dat (.ins C (machF ls rows marks)), e8, e9, e10, e11, e12, e13, e14, e15, e16] (lpBody.drop 4) Ψ := fun M2 C KC => by
    refine ss_one (s_for (.nm 8) PassesOwn.never rfl (pg_name (i := 8) sc_law.nd rfl (Or.inl rfl)) ?_)
    refine ei_range1 rfl Z.z.r (ee_int ⟨4, rfl, by decide, by decide, ?_⟩)
    refine ⟨fun i M' Δ' => ∃ e8 e9 e10 e11 e12 e13 e14 e15 e16, Δ' = [e0, .pen pn (c + 9029 + i * 4000), e2, .dat (.str (txt ls)), .dat (.bl full), .dat (.lst (rowL rows)), .dat (.lst (marks.map optB)), .dat (.ins C (machF ls rows marks)), e8, e9, e10, e11, e12, e13, e14, e15, e16], ⟨_, _, _, _, _, _, _, _, _, rfl⟩, ?_, ?_⟩
    · rintro i M' Δ' hi ⟨e8, e9, e10, e11, e12, e13, e14, e15, e16, rfl⟩
      have hi4 : i < 4 := hi
      exact ⟨True.intro, law_in (m := ⟨ls, rows, marks⟩) (by omega) hm hfl Z.wd KC Z.km Z.z (fun M2 e9 e10 e11 e12 e13 e14 e15 e16 => ⟨_, _, _, _, _, _, _, _, _, by rw [Nat.add_mul]; rfl⟩) (fun M2 e9 e10 e11 e12 e13 e14 e15 e16 => ⟨_, _, _, _, _, _, _, _, _, by rw [Nat.add_mul]; rfl⟩)⟩
    · rintro M' Δ' ⟨e8, e9, e10, e11, e12, e13, e14, e15, e16, rfl⟩
      exact hnx _ _ _ _ _ _ _ _ _ _ _ _ _ _ _ _ (by show c + 9029 + 4 * 4000 ≤ c + 40000; omega)
  refine ss_cons (s_asg 7 sc_law.nd rfl (ee_if (et_val (ee_name 4 rfl rfl ⟨full, rfl, fun hf => ?_, fun _ => ?_⟩))))
  · refine EO.ee (eo_make Z.mc (hr.mono (by decide)) rfl ?_)
    refine ea_cons (ee_name 3 rfl rfl (ea_cons (ee_name 5 rfl rfl (ea_cons (ee_name 6 rfl rfl ?_)))))
    refine ea_nil ⟨⟨ls, rows, marks, _, _, rfl, hm, rowsAre_L _, .inl rfl, hfl hf⟩, fun fs hfs => ?_⟩
    rw [init_one hfs]
    exact fin _ Cc Z.kc
  · refine EO.ee (eo_make Z.mm (hr.mono (by decide)) rfl ?_)
    refine ea_cons (ee_name 3 rfl rfl (ea_cons (ee_name 5 rfl rfl (ea_cons (ee_name 6 rfl rfl ?_)))))
    refine ea_nil ⟨⟨ls, rows, marks, _, _, rfl, hm, rowsAre_L _, .inl rfl⟩, fun fs hfs => ?_⟩
    rw [init_one hfs]
    exact fin _ Cm Z.km
theorem ok_law (F : Fun K "law" "law" s_law f fd) (hbn : Binds K fd ["script"] []) (Z : Ca P w K mg base T Cm Cc) : LawOk CX0 P w K mg base f fd "script" (spLawD K T) := by
  refine law_okD F sc_law hbn fun cdv s H ns hn hbits => ?_
  have hr : Room 199 (callerA.deeper (envOfC "law" (defScope s_law) s.heap.objs.size f cdv)) := caller_room.deeper _
  refine ss_cons (s_newPen 1 Z.pn (hr.mono (by decide)) rfl sc_law.nd rfl (ea_cons (ee_name 0 rfl rfl (ea_nil ⟨ns, rfl, hn, fun pn hpn => ?_⟩))))
  refine ss_cons (s_for (.nm 2) PassesOwn.never rfl (pg_name (i := 2) sc_law.nd rfl (Or.inl rfl)) ?_)
  refine ei_range1 rfl Z.z.r (ee_int ⟨6, rfl, by decide, by decide, ?_⟩)
  refine ⟨fun i M' Δ' => ∃ c e2 e3 e4 e5 e6 e7 e8 e9 e10 e11 e12 e13 e14 e15 e16, c ≤ i * 40000 ∧ Δ' = [.dat (.lst (ns.map Tr.int)), .pen pn c, e2, e3, e4, e5, e6, e7, e8, e9, e10, e11, e12, e13, e14, e15, e16], ⟨0, _, _, _, _, _, _, _, _, _, _, _, _, _, _, _, Nat.zero_le _, rfl⟩, ?_, ?_⟩
  · rintro i M' Δ' hi ⟨c, e2, e3, e4, e5, e6, e7, e8, e9, e10, e11, e12, e13, e14, e15, e16, hc, rfl⟩
    have hi6 : i < 6 := hi
    exact ⟨True.intro, law_turn (by omega) Z fun M2 c' e3 e4 e5 e6 e7 e8 e9 e10 e11 e12 e13 e14 e15 e16 hc' => ⟨c', _, e3, e4, e5, e6, e7, e8, e9, e10, e11, e12, e13, e14, e15, e16, by rw [Nat.add_mul]; omega, rfl⟩⟩
  · rintro M' Δ' ⟨c, e2, e3, e4, e5, e6, e7, e8, e9, e10, e11, e12, e13, e14, e15, e16, hc, rfl⟩
    exact ss_one (s_ret (ee_bl rfl))
end
end Toy


set_option Elab.async false
set_option linter.all false
set_option maxRecDepth 100000
set_option maxHeartbeats 4000000
namespace Toy
open PySem PySem.Spec PyProof.Rows L2 LamX Wf
theorem all_mk {l : PySem.W.OpenLaw} {w : World} {K : PySem.W.Frag} {h : Heap} {mg : Str → Option Value} {fa : Addr} (X : K.In h) (G : h.Ns mainGlobals mg) (hfa : mg "law" = some (.ref fa))
    {C_Machine : Addr}
    {C_Complete : Addr}
    {f__law_pen : Addr} {od__law_pen an__law_pen : Option Addr} {sl__law_pen : Array (Option Value)} {oc__law_pen kV__law_pen dc__law_pen pm__law_pen cd__law_pen ct__law_pen : Value}
    {f__law_draw : Addr} {od__law_draw an__law_draw : Option Addr} {sl__law_draw : Array (Option Value)} {oc__law_draw kV__law_draw dc__law_draw pm__law_draw cd__law_draw ct__law_draw : Value}
    {f__law_pick : Addr} {od__law_pick an__law_pick : Option Addr} {sl__law_pick : Array (Option Value)} {oc__law_pick kV__law_pick dc__law_pick pm__law_pick cd__law_pick ct__law_pick : Value}
    {f__law_shuffled : Addr} {od__law_shuffled an__law_shuffled : Option Addr} {sl__law_shuffled : Array (Option Value)} {oc__law_shuffled kV__law_shuffled dc__law_shuffled pm__law_shuffled cd__law_shuffled ct__law_shuffled : Value}
    {f__law_letters : Addr} {od__law_letters an__law_letters : Option Addr} {sl__law_letters : Array (Option Value)} {oc__law_letters kV__law_letters dc__law_letters pm__law_letters cd__law_letters ct__law_letters : Value}
    {f__law_word : Addr} {od__law_word an__law_word : Option Addr} {sl__law_word : Array (Option Value)} {oc__law_word kV__law_word dc__law_word pm__law_word cd__law_word ct__law_word : Value}
    {f_is_whole : Addr} {od_is_whole an_is_whole : Option Addr} {sl_is_whole : Array (Option Value)} {oc_is_whole kV_is_whole dc_is_whole pm_is_whole cd_is_whole ct_is_whole : Value}
    {f_is_sequence : Addr} {od_is_sequence an_is_sequence : Option Addr} {sl_is_sequence : Array (Option Value)} {oc_is_sequence kV_is_sequence dc_is_sequence pm_is_sequence cd_is_sequence ct_is_sequence : Value}
    {f_is_mark : Addr} {od_is_mark an_is_mark : Option Addr} {sl_is_mark : Array (Option Value)} {oc_is_mark kV_is_mark dc_is_mark pm_is_mark cd_is_mark ct_is_mark : Value}
    {f_is_letters : Addr} {od_is_letters an_is_letters : Option Addr} {sl_is_letters : Array (Option Value)} {oc_is_letters kV_is_letters dc_is_letters pm_is_letters cd_is_letters ct_is_letters : Value}
    {f_need_letters : Addr} {od_need_letters an_need_letters : Option Addr} {sl_need_letters : Array (Option Value)} {oc_need_letters kV_need_letters dc_need_letters pm_need_letters cd_need_letters ct_need_letters : Value}
    {f_is_word : Addr} {od_is_word an_is_word : Option Addr} {sl_is_word : Array (Option Value)} {oc_is_word kV_is_word dc_is_word pm_is_word cd_is_word ct_is_word : Value}
    {f_need_word : Addr} {od_need_word an_need_word : Option Addr} {sl_need_word : Array (Option Value)} {oc_need_word kV_need_word dc_need_word pm_need_word cd_need_word ct_need_word : Value}
    {f_is_target : Addr} {od_is_target an_is_target : Option Addr} {sl_is_target : Array (Option Value)} {oc_is_target kV_is_target dc_is_target pm_is_target cd_is_target ct_is_target : Value}
    {f_are_targets : Addr} {od_are_targets an_are_targets : Option Addr} {sl_are_targets : Array (Option Value)} {oc_are_targets kV_are_targets dc_are_targets pm_are_targets cd_are_targets ct_are_targets : Value}
    {f_need_machine : Addr} {od_need_machine an_need_machine : Option Addr} {sl_need_machine : Array (Option Value)} {oc_need_machine kV_need_machine dc_need_machine pm_need_machine cd_need_machine ct_need_machine : Value}
    {f_M_init : Addr} {od_M_init an_M_init : Option Addr} {sl_M_init : Array (Option Value)} {oc_M_init kV_M_init dc_M_init pm_M_init cd_M_init ct_M_init : Value}
    {f_M_letters : Addr} {od_M_letters an_M_letters : Option Addr} {sl_M_letters : Array (Option Value)} {oc_M_letters kV_M_letters dc_M_letters pm_M_letters cd_M_letters ct_M_letters : Value}
    {p_M_letters : Addr} {r_M_letters : List Value}
    {f_M_transitions : Addr} {od_M_transitions an_M_transitions : Option Addr} {sl_M_transitions : Array (Option Value)} {oc_M_transitions kV_M_transitions dc_M_transitions pm_M_transitions cd_M_transitions ct_M_transitions : Value}
    {p_M_transitions : Addr} {r_M_transitions : List Value}
    {f_M_marks : Addr} {od_M_marks an_M_marks : Option Addr} {sl_M_marks : Array (Option Value)} {oc_M_marks kV_M_marks dc_M_marks pm_M_marks cd_M_marks ct_M_marks : Value}
    {p_M_marks : Addr} {r_M_marks : List Value}
    {f_M_size : Addr} {od_M_size an_M_size : Option Addr} {sl_M_size : Array (Option Value)} {oc_M_size kV_M_size dc_M_size pm_M_size cd_M_size ct_M_size : Value}
    {p_M_size : Addr} {r_M_size : List Value}
    {f_M_target : Addr} {od_M_target an_M_target : Option Addr} {sl_M_target : Array (Option Value)} {oc_M_target kV_M_target dc_M_target pm_M_target cd_M_target ct_M_target : Value}
    {f_M_run : Addr} {od_M_run an_M_run : Option Addr} {sl_M_run : Array (Option Value)} {oc_M_run kV_M_run dc_M_run pm_M_run cd_M_run ct_M_run : Value}
    {f_M_answer : Addr} {od_M_answer an_M_answer : Option Addr} {sl_M_answer : Array (Option Value)} {oc_M_answer kV_M_answer dc_M_answer pm_M_answer cd_M_answer ct_M_answer : Value}
    {f_M_walk : Addr} {od_M_walk an_M_walk : Option Addr} {sl_M_walk : Array (Option Value)} {oc_M_walk kV_M_walk dc_M_walk pm_M_walk cd_M_walk ct_M_walk : Value}
    {f__law_table : Addr} {od__law_table an__law_table : Option Addr} {sl__law_table : Array (Option Value)} {oc__law_table kV__law_table dc__law_table pm__law_table cd__law_table ct__law_table : Value}
    {f__law_begun_at : Addr} {od__law_begun_at an__law_begun_at : Option Addr} {sl__law_begun_at : Array (Option Value)} {oc__law_begun_at kV__law_begun_at dc__law_begun_at pm__law_begun_at cd__law_begun_at ct__law_begun_at : Value}
    {f_law : Addr} {od_law an_law : Option Addr} {sl_law : Array (Option Value)} {oc_law kV_law dc_law pm_law cd_law ct_law : Value}
    {f_C_init cc cda : Addr} {od_C an_C cdd_C cld_C : Option Addr} {sl_C ccs_C csl_C : Array (Option Value)} {oc_C kV_C dc_C pm_C ct_C ccl_C cl_C' : Value} {vs_C : Array Value} {file_C : Str} {tf_C : Tok}
    {t_STATES t_MOST_LETTERS t_ALPHABET : Tok}
    (aC_Machine : PySem.W.nsIn K mainGlobals "Machine" = some (some (.ref C_Machine)))
    (pg_Machine : PySem.W.plainGet K C_Machine Str.empty = true)
    (hd_Machine : PySem.W.hasDictIn K C_Machine = true)
    (po_Machine : PySem.W.plainOver K C_Machine = true)
    (sa_Machine : PySem.W.findIn K (.ref C_Machine) "__setattr__" = some (some (.builtin "object.__setattr__")))
    (mk_Machine : PySem.W.makesIn K C_Machine = true)
    (kc_Machine : PySem.W.keepIn K (.ref C_Machine) = true)
    (n_Machine_own_letters : PySem.W.findIn K (.ref C_Machine) "own_letters" = some none)
    (n_Machine_own_transitions : PySem.W.findIn K (.ref C_Machine) "own_transitions" = some none)
    (n_Machine_own_marks : PySem.W.findIn K (.ref C_Machine) "own_marks" = some none)
    (n_Machine_own_parts : PySem.W.findIn K (.ref C_Machine) "own_parts" = some none)
    (aC_Complete : PySem.W.nsIn K mainGlobals "Complete" = some (some (.ref C_Complete)))
    (pg_Complete : PySem.W.plainGet K C_Complete Str.empty = true)
    (hd_Complete : PySem.W.hasDictIn K C_Complete = true)
    (po_Complete : PySem.W.plainOver K C_Complete = true)
    (sa_Complete : PySem.W.findIn K (.ref C_Complete) "__setattr__" = some (some (.builtin "object.__setattr__")))
    (mk_Complete : PySem.W.makesIn K C_Complete = true)
    (kc_Complete : PySem.W.keepIn K (.ref C_Complete) = true)
    (n_Complete_own_letters : PySem.W.findIn K (.ref C_Complete) "own_letters" = some none)
    (n_Complete_own_transitions : PySem.W.findIn K (.ref C_Complete) "own_transitions" = some none)
    (n_Complete_own_marks : PySem.W.findIn K (.ref C_Complete) "own_marks" = some none)
    (n_Complete_own_parts : PySem.W.findIn K (.ref C_Complete) "own_parts" = some none)
    (a__law_pen : PySem.W.nsIn K mainGlobals "_law_pen" = some (some (.ref f__law_pen)))
    (l__law_pen : K.lookup f__law_pen = some ⟨oc__law_pen, od__law_pen, .func (PySem.W.fnOf "_law_pen" "_law_pen" (defArgs s_law_pen) (defBody s_law_pen) (defScope s_law_pen) .none kV__law_pen dc__law_pen pm__law_pen an__law_pen cd__law_pen ct__law_pen), sl__law_pen⟩)
    (c__law_pen : PySem.W.codeIn K cd__law_pen "_law_pen" = true)
    (k__law_pen : PySem.W.keepIn K (.ref f__law_pen) = true)
    (a__law_draw : PySem.W.nsIn K mainGlobals "_law_draw" = some (some (.ref f__law_draw)))
    (l__law_draw : K.lookup f__law_draw = some ⟨oc__law_draw, od__law_draw, .func (PySem.W.fnOf "_law_draw" "_law_draw" (defArgs s_law_draw) (defBody s_law_draw) (defScope s_law_draw) .none kV__law_draw dc__law_draw pm__law_draw an__law_draw cd__law_draw ct__law_draw), sl__law_draw⟩)
    (c__law_draw : PySem.W.codeIn K cd__law_draw "_law_draw" = true)
    (k__law_draw : PySem.W.keepIn K (.ref f__law_draw) = true)
    (a__law_pick : PySem.W.nsIn K mainGlobals "_law_pick" = some (some (.ref f__law_pick)))
    (l__law_pick : K.lookup f__law_pick = some ⟨oc__law_pick, od__law_pick, .func (PySem.W.fnOf "_law_pick" "_law_pick" (defArgs s_law_pick) (defBody s_law_pick) (defScope s_law_pick) .none kV__law_pick dc__law_pick pm__law_pick an__law_pick cd__law_pick ct__law_pick), sl__law_pick⟩)
    (c__law_pick : PySem.W.codeIn K cd__law_pick "_law_pick" = true)
    (k__law_pick : PySem.W.keepIn K (.ref f__law_pick) = true)
    (a__law_shuffled : PySem.W.nsIn K mainGlobals "_law_shuffled" = some (some (.ref f__law_shuffled)))
    (l__law_shuffled : K.lookup f__law_shuffled = some ⟨oc__law_shuffled, od__law_shuffled, .func (PySem.W.fnOf "_law_shuffled" "_law_shuffled" (defArgs s_law_shuffled) (defBody s_law_shuffled) (defScope s_law_shuffled) .none kV__law_shuffled dc__law_shuffled pm__law_shuffled an__law_shuffled cd__law_shuffled ct__law_shuffled), sl__law_shuffled⟩)
    (c__law_shuffled : PySem.W.codeIn K cd__law_shuffled "_law_shuffled" = true)
    (k__law_shuffled : PySem.W.keepIn K (.ref f__law_shuffled) = true)
    (a__law_letters : PySem.W.nsIn K mainGlobals "_law_letters" = some (some (.ref f__law_letters)))
    (l__law_letters : K.lookup f__law_letters = some ⟨oc__law_letters, od__law_letters, .func (PySem.W.fnOf "_law_letters" "_law_letters" (defArgs s_law_letters) (defBody s_law_letters) (defScope s_law_letters) .none kV__law_letters dc__law_letters pm__law_letters an__law_letters cd__law_letters ct__law_letters), sl__law_letters⟩)
    (c__law_letters : PySem.W.codeIn K cd__law_letters "_law_letters" = true)
    (k__law_letters : PySem.W.keepIn K (.ref f__law_letters) = true)
    (a__law_word : PySem.W.nsIn K mainGlobals "_law_word" = some (some (.ref f__law_word)))
    (l__law_word : K.lookup f__law_word = some ⟨oc__law_word, od__law_word, .func (PySem.W.fnOf "_law_word" "_law_word" (defArgs s_law_word) (defBody s_law_word) (defScope s_law_word) .none kV__law_word dc__law_word pm__law_word an__law_word cd__law_word ct__law_word), sl__law_word⟩)
    (c__law_word : PySem.W.codeIn K cd__law_word "_law_word" = true)
    (k__law_word : PySem.W.keepIn K (.ref f__law_word) = true)
    (a_is_whole : PySem.W.nsIn K mainGlobals "is_whole" = some (some (.ref f_is_whole)))
    (l_is_whole : K.lookup f_is_whole = some ⟨oc_is_whole, od_is_whole, .func (PySem.W.fnOf "is_whole" "is_whole" (defArgs s_is_whole) (defBody s_is_whole) (defScope s_is_whole) .none kV_is_whole dc_is_whole pm_is_whole an_is_whole cd_is_whole ct_is_whole), sl_is_whole⟩)
    (c_is_whole : PySem.W.codeIn K cd_is_whole "is_whole" = true)
    (k_is_whole : PySem.W.keepIn K (.ref f_is_whole) = true)
    (a_is_sequence : PySem.W.nsIn K mainGlobals "is_sequence" = some (some (.ref f_is_sequence)))
    (l_is_sequence : K.lookup f_is_sequence = some ⟨oc_is_sequence, od_is_sequence, .func (PySem.W.fnOf "is_sequence" "is_sequence" (defArgs s_is_sequence) (defBody s_is_sequence) (defScope s_is_sequence) .none kV_is_sequence dc_is_sequence pm_is_sequence an_is_sequence cd_is_sequence ct_is_sequence), sl_is_sequence⟩)
    (c_is_sequence : PySem.W.codeIn K cd_is_sequence "is_sequence" = true)
    (k_is_sequence : PySem.W.keepIn K (.ref f_is_sequence) = true)
    (a_is_mark : PySem.W.nsIn K mainGlobals "is_mark" = some (some (.ref f_is_mark)))
    (l_is_mark : K.lookup f_is_mark = some ⟨oc_is_mark, od_is_mark, .func (PySem.W.fnOf "is_mark" "is_mark" (defArgs s_is_mark) (defBody s_is_mark) (defScope s_is_mark) .none kV_is_mark dc_is_mark pm_is_mark an_is_mark cd_is_mark ct_is_mark), sl_is_mark⟩)
    (c_is_mark : PySem.W.codeIn K cd_is_mark "is_mark" = true)
    (k_is_mark : PySem.W.keepIn K (.ref f_is_mark) = true)
    (a_is_letters : PySem.W.nsIn K mainGlobals "is_letters" = some (some (.ref f_is_letters)))
    (l_is_letters : K.lookup f_is_letters = some ⟨oc_is_letters, od_is_letters, .func (PySem.W.fnOf "is_letters" "is_letters" (defArgs s_is_letters) (defBody s_is_letters) (defScope s_is_letters) .none kV_is_letters dc_is_letters pm_is_letters an_is_letters cd_is_letters ct_is_letters), sl_is_letters⟩)
    (c_is_letters : PySem.W.codeIn K cd_is_letters "is_letters" = true)
    (k_is_letters : PySem.W.keepIn K (.ref f_is_letters) = true)
    (a_need_letters : PySem.W.nsIn K mainGlobals "need_letters" = some (some (.ref f_need_letters)))
    (l_need_letters : K.lookup f_need_letters = some ⟨oc_need_letters, od_need_letters, .func (PySem.W.fnOf "need_letters" "need_letters" (defArgs s_need_letters) (defBody s_need_letters) (defScope s_need_letters) .none kV_need_letters dc_need_letters pm_need_letters an_need_letters cd_need_letters ct_need_letters), sl_need_letters⟩)
    (c_need_letters : PySem.W.codeIn K cd_need_letters "need_letters" = true)
    (k_need_letters : PySem.W.keepIn K (.ref f_need_letters) = true)
    (a_is_word : PySem.W.nsIn K mainGlobals "is_word" = some (some (.ref f_is_word)))
    (l_is_word : K.lookup f_is_word = some ⟨oc_is_word, od_is_word, .func (PySem.W.fnOf "is_word" "is_word" (defArgs s_is_word) (defBody s_is_word) (defScope s_is_word) .none kV_is_word dc_is_word pm_is_word an_is_word cd_is_word ct_is_word), sl_is_word⟩)
    (c_is_word : PySem.W.codeIn K cd_is_word "is_word" = true)
    (k_is_word : PySem.W.keepIn K (.ref f_is_word) = true)
    (a_need_word : PySem.W.nsIn K mainGlobals "need_word" = some (some (.ref f_need_word)))
    (l_need_word : K.lookup f_need_word = some ⟨oc_need_word, od_need_word, .func (PySem.W.fnOf "need_word" "need_word" (defArgs s_need_word) (defBody s_need_word) (defScope s_need_word) .none kV_need_word dc_need_word pm_need_word an_need_word cd_need_word ct_need_word), sl_need_word⟩)
    (c_need_word : PySem.W.codeIn K cd_need_word "need_word" = true)
    (k_need_word : PySem.W.keepIn K (.ref f_need_word) = true)
    (a_is_target : PySem.W.nsIn K mainGlobals "is_target" = some (some (.ref f_is_target)))
    (l_is_target : K.lookup f_is_target = some ⟨oc_is_target, od_is_target, .func (PySem.W.fnOf "is_target" "is_target" (defArgs s_is_target) (defBody s_is_target) (defScope s_is_target) .none kV_is_target dc_is_target pm_is_target an_is_target cd_is_target ct_is_target), sl_is_target⟩)
    (c_is_target : PySem.W.codeIn K cd_is_target "is_target" = true)
    (k_is_target : PySem.W.keepIn K (.ref f_is_target) = true)
    (a_are_targets : PySem.W.nsIn K mainGlobals "are_targets" = some (some (.ref f_are_targets)))
    (l_are_targets : K.lookup f_are_targets = some ⟨oc_are_targets, od_are_targets, .func (PySem.W.fnOf "are_targets" "are_targets" (defArgs s_are_targets) (defBody s_are_targets) (defScope s_are_targets) .none kV_are_targets dc_are_targets pm_are_targets an_are_targets cd_are_targets ct_are_targets), sl_are_targets⟩)
    (c_are_targets : PySem.W.codeIn K cd_are_targets "are_targets" = true)
    (k_are_targets : PySem.W.keepIn K (.ref f_are_targets) = true)
    (a_need_machine : PySem.W.nsIn K mainGlobals "need_machine" = some (some (.ref f_need_machine)))
    (l_need_machine : K.lookup f_need_machine = some ⟨oc_need_machine, od_need_machine, .func (PySem.W.fnOf "need_machine" "need_machine" (defArgs s_need_machine) (defBody s_need_machine) (defScope s_need_machine) .none kV_need_machine dc_need_machine pm_need_machine an_need_machine cd_need_machine ct_need_machine), sl_need_machine⟩)
    (c_need_machine : PySem.W.codeIn K cd_need_machine "need_machine" = true)
    (k_need_machine : PySem.W.keepIn K (.ref f_need_machine) = true)
    (a_M_init : PySem.W.findIn K (.ref C_Machine) "__init__" = some (some (.ref f_M_init)))
    (i_M_init : PySem.W.isFn K (.ref f_M_init) = true)
    (l_M_init : K.lookup f_M_init = some ⟨oc_M_init, od_M_init, .func (PySem.W.fnOf "__init__" "Machine.__init__" (defArgs s_Machine__init_) (defBody s_Machine__init_) (defScope s_Machine__init_) .none kV_M_init dc_M_init pm_M_init an_M_init cd_M_init ct_M_init), sl_M_init⟩)
    (c_M_init : PySem.W.codeIn K cd_M_init "Machine.__init__" = true)
    (k_M_init : PySem.W.keepIn K (.ref f_M_init) = true)
    (a_M_letters : PySem.W.findIn K (.ref C_Machine) "letters" = some (some (.ref p_M_letters)))
    (g_M_letters : PySem.W.specialIn K (.ref p_M_letters) "__get__" = some (some (.builtin "property.__get__")))
    (u_M_letters : PySem.W.takesIn K (.ref p_M_letters) = some true)
    (e_M_letters : PySem.W.recIn K p_M_letters "property" = some (.ref f_M_letters :: r_M_letters))
    (l_M_letters : K.lookup f_M_letters = some ⟨oc_M_letters, od_M_letters, .func (PySem.W.fnOf "letters" "Machine.letters" (defArgs s_Machine_letters) (defBody s_Machine_letters) (defScope s_Machine_letters) .none kV_M_letters dc_M_letters pm_M_letters an_M_letters cd_M_letters ct_M_letters), sl_M_letters⟩)
    (c_M_letters : PySem.W.codeIn K cd_M_letters "Machine.letters" = true)
    (k_M_letters : PySem.W.keepIn K (.ref f_M_letters) = true)
    (a_M_transitions : PySem.W.findIn K (.ref C_Machine) "transitions" = some (some (.ref p_M_transitions)))
    (g_M_transitions : PySem.W.specialIn K (.ref p_M_transitions) "__get__" = some (some (.builtin "property.__get__")))
    (u_M_transitions : PySem.W.takesIn K (.ref p_M_transitions) = some true)
    (e_M_transitions : PySem.W.recIn K p_M_transitions "property" = some (.ref f_M_transitions :: r_M_transitions))
    (l_M_transitions : K.lookup f_M_transitions = some ⟨oc_M_transitions, od_M_transitions, .func (PySem.W.fnOf "transitions" "Machine.transitions" (defArgs s_Machine_transitions) (defBody s_Machine_transitions) (defScope s_Machine_transitions) .none kV_M_transitions dc_M_transitions pm_M_transitions an_M_transitions cd_M_transitions ct_M_transitions), sl_M_transitions⟩)
    (c_M_transitions : PySem.W.codeIn K cd_M_transitions "Machine.transitions" = true)
    (k_M_transitions : PySem.W.keepIn K (.ref f_M_transitions) = true)
    (a_M_marks : PySem.W.findIn K (.ref C_Machine) "marks" = some (some (.ref p_M_marks)))
    (g_M_marks : PySem.W.specialIn K (.ref p_M_marks) "__get__" = some (some (.builtin "property.__get__")))
    (u_M_marks : PySem.W.takesIn K (.ref p_M_marks) = some true)
    (e_M_marks : PySem.W.recIn K p_M_marks "property" = some (.ref f_M_marks :: r_M_marks))
    (l_M_marks : K.lookup f_M_marks = some ⟨oc_M_marks, od_M_marks, .func (PySem.W.fnOf "marks" "Machine.marks" (defArgs s_Machine_marks) (defBody s_Machine_marks) (defScope s_Machine_marks) .none kV_M_marks dc_M_marks pm_M_marks an_M_marks cd_M_marks ct_M_marks), sl_M_marks⟩)
    (c_M_marks : PySem.W.codeIn K cd_M_marks "Machine.marks" = true)
    (k_M_marks : PySem.W.keepIn K (.ref f_M_marks) = true)
    (a_M_size : PySem.W.findIn K (.ref C_Machine) "size" = some (some (.ref p_M_size)))
    (g_M_size : PySem.W.specialIn K (.ref p_M_size) "__get__" = some (some (.builtin "property.__get__")))
    (u_M_size : PySem.W.takesIn K (.ref p_M_size) = some true)
    (e_M_size : PySem.W.recIn K p_M_size "property" = some (.ref f_M_size :: r_M_size))
    (l_M_size : K.lookup f_M_size = some ⟨oc_M_size, od_M_size, .func (PySem.W.fnOf "size" "Machine.size" (defArgs s_Machine_size) (defBody s_Machine_size) (defScope s_Machine_size) .none kV_M_size dc_M_size pm_M_size an_M_size cd_M_size ct_M_size), sl_M_size⟩)
    (c_M_size : PySem.W.codeIn K cd_M_size "Machine.size" = true)
    (k_M_size : PySem.W.keepIn K (.ref f_M_size) = true)
    (a_M_target : PySem.W.findIn K (.ref C_Machine) "target" = some (some (.ref f_M_target)))
    (i_M_target : PySem.W.isFn K (.ref f_M_target) = true)
    (l_M_target : K.lookup f_M_target = some ⟨oc_M_target, od_M_target, .func (PySem.W.fnOf "target" "Machine.target" (defArgs s_Machine_target) (defBody s_Machine_target) (defScope s_Machine_target) .none kV_M_target dc_M_target pm_M_target an_M_target cd_M_target ct_M_target), sl_M_target⟩)
    (c_M_target : PySem.W.codeIn K cd_M_target "Machine.target" = true)
    (k_M_target : PySem.W.keepIn K (.ref f_M_target) = true)
    (a_M_run : PySem.W.findIn K (.ref C_Machine) "run" = some (some (.ref f_M_run)))
    (i_M_run : PySem.W.isFn K (.ref f_M_run) = true)
    (l_M_run : K.lookup f_M_run = some ⟨oc_M_run, od_M_run, .func (PySem.W.fnOf "run" "Machine.run" (defArgs s_Machine_run) (defBody s_Machine_run) (defScope s_Machine_run) .none kV_M_run dc_M_run pm_M_run an_M_run cd_M_run ct_M_run), sl_M_run⟩)
    (c_M_run : PySem.W.codeIn K cd_M_run "Machine.run" = true)
    (k_M_run : PySem.W.keepIn K (.ref f_M_run) = true)
    (a_M_answer : PySem.W.findIn K (.ref C_Machine) "answer" = some (some (.ref f_M_answer)))
    (i_M_answer : PySem.W.isFn K (.ref f_M_answer) = true)
    (l_M_answer : K.lookup f_M_answer = some ⟨oc_M_answer, od_M_answer, .func (PySem.W.fnOf "answer" "Machine.answer" (defArgs s_Machine_answer) (defBody s_Machine_answer) (defScope s_Machine_answer) .none kV_M_answer dc_M_answer pm_M_answer an_M_answer cd_M_answer ct_M_answer), sl_M_answer⟩)
    (c_M_answer : PySem.W.codeIn K cd_M_answer "Machine.answer" = true)
    (k_M_answer : PySem.W.keepIn K (.ref f_M_answer) = true)
    (a_M_walk : PySem.W.findIn K (.ref C_Machine) "walk" = some (some (.ref f_M_walk)))
    (i_M_walk : PySem.W.isFn K (.ref f_M_walk) = true)
    (l_M_walk : K.lookup f_M_walk = some ⟨oc_M_walk, od_M_walk, .func (PySem.W.fnOf "walk" "Machine.walk" (defArgs s_Machine_walk) (defBody s_Machine_walk) (defScope s_Machine_walk) .none kV_M_walk dc_M_walk pm_M_walk an_M_walk cd_M_walk ct_M_walk), sl_M_walk⟩)
    (c_M_walk : PySem.W.codeIn K cd_M_walk "Machine.walk" = true)
    (k_M_walk : PySem.W.keepIn K (.ref f_M_walk) = true)
    (a__law_table : PySem.W.nsIn K mainGlobals "_law_table" = some (some (.ref f__law_table)))
    (l__law_table : K.lookup f__law_table = some ⟨oc__law_table, od__law_table, .func (PySem.W.fnOf "_law_table" "_law_table" (defArgs s_law_table) (defBody s_law_table) (defScope s_law_table) .none kV__law_table dc__law_table pm__law_table an__law_table cd__law_table ct__law_table), sl__law_table⟩)
    (c__law_table : PySem.W.codeIn K cd__law_table "_law_table" = true)
    (k__law_table : PySem.W.keepIn K (.ref f__law_table) = true)
    (a__law_begun_at : PySem.W.nsIn K mainGlobals "_law_begun_at" = some (some (.ref f__law_begun_at)))
    (l__law_begun_at : K.lookup f__law_begun_at = some ⟨oc__law_begun_at, od__law_begun_at, .func (PySem.W.fnOf "_law_begun_at" "_law_begun_at" (defArgs s_law_begun_at) (defBody s_law_begun_at) (defScope s_law_begun_at) .none kV__law_begun_at dc__law_begun_at pm__law_begun_at an__law_begun_at cd__law_begun_at ct__law_begun_at), sl__law_begun_at⟩)
    (c__law_begun_at : PySem.W.codeIn K cd__law_begun_at "_law_begun_at" = true)
    (k__law_begun_at : PySem.W.keepIn K (.ref f__law_begun_at) = true)
    (a_law : PySem.W.nsIn K mainGlobals "law" = some (some (.ref f_law)))
    (l_law : K.lookup f_law = some ⟨oc_law, od_law, .func (PySem.W.fnOf "law" "law" (defArgs s_law) (defBody s_law) (defScope s_law) .none kV_law dc_law pm_law an_law cd_law ct_law), sl_law⟩)
    (c_law : PySem.W.codeIn K cd_law "law" = true)
    (k_law : PySem.W.keepIn K (.ref f_law) = true)
    (a_C_init : PySem.W.findIn K (.ref C_Complete) "__init__" = some (some (.ref f_C_init)))
    (i_C_init : PySem.W.isFn K (.ref f_C_init) = true)
    (l_C_init : K.lookup f_C_init = some ⟨oc_C, od_C, .func (PySem.W.ksFn "__init__" "Complete.__init__" (defArgs s_Complete__init_) (defBody s_Complete__init_) (defScope s_Complete__init_) .none kV_C dc_C pm_C an_C (.ref cda) ct_C cc), sl_C⟩)
    (c_C_init : PySem.W.codeIn K (.ref cda) "Complete.__init__" = true)
    (q_code : K.lookup cda = some ⟨ccl_C, cdd_C, .fields vs_C, ccs_C⟩)
    (q_file : vs_C[2]? = some (.str file_C tf_C))
    (q_main : ((l.prog.main.file : Str) == file_C) = true)
    (q_cell : K.lookup cc = some ⟨cl_C', cld_C, .cell (some (.ref C_Complete)), csl_C⟩)
    (q_cls : PySem.W.isClsIn K C_Complete = true)
    (q_sub : PySem.W.mroIn K C_Complete (.ref C_Complete) = some true)
    (q_opq : PySem.W.nsIn K cStatics "thirdparty.any" = some none)
    (q_meth : PySem.W.ks_superIn K C_Complete C_Complete "__init__" = some (some (.ref f_M_init)))
    (q_ty : PySem.W.typeIn K (.ref f_M_init) = some (.type "function"))
    (q_fi : PySem.W.fnIn K f_M_init = true)
    (q_top : (l.prog.main.scope.names.lookup ("super" : Str)).isSome = false)
    (a_C_letters : PySem.W.findIn K (.ref C_Complete) "letters" = some (some (.ref p_M_letters)))
    (a_C_transitions : PySem.W.findIn K (.ref C_Complete) "transitions" = some (some (.ref p_M_transitions)))
    (a_C_marks : PySem.W.findIn K (.ref C_Complete) "marks" = some (some (.ref p_M_marks)))
    (a_C_size : PySem.W.findIn K (.ref C_Complete) "size" = some (some (.ref p_M_size)))
    (a_C_target : PySem.W.findIn K (.ref C_Complete) "target" = some (some (.ref f_M_target)))
    (a_C_run : PySem.W.findIn K (.ref C_Complete) "run" = some (some (.ref f_M_run)))
    (a_C_answer : PySem.W.findIn K (.ref C_Complete) "answer" = some (some (.ref f_M_answer)))
    (a_C_walk : PySem.W.findIn K (.ref C_Complete) "walk" = some (some (.ref f_M_walk)))
    (i_STATES : PySem.W.nsIn K mainGlobals "STATES" = some (some (.int 600 t_STATES)))
    (i_MOST_LETTERS : PySem.W.nsIn K mainGlobals "MOST_LETTERS" = some (some (.int 4 t_MOST_LETTERS)))
    (i_ALPHABET : PySem.W.nsIn K mainGlobals "ALPHABET" = some (some (.str alphaS t_ALPHABET)))
    (z_len : PySem.W.nsIn K mainGlobals "len" = some none)
    (z_abs : PySem.W.nsIn K mainGlobals "abs" = some none)
    (z_list : PySem.W.nsIn K mainGlobals "list" = some none)
    (z_range : PySem.W.nsIn K mainGlobals "range" = some none)
    (z_sorted : PySem.W.nsIn K mainGlobals "sorted" = some none)
    (z_isinstance : PySem.W.nsIn K mainGlobals "isinstance" = some none)
    (z_int : PySem.W.nsIn K mainGlobals "int" = some none)
    (z_bool : PySem.W.nsIn K mainGlobals "bool" = some none)
    (z_str : PySem.W.nsIn K mainGlobals "str" = some none)
    (z_tuple : PySem.W.nsIn K mainGlobals "tuple" = some none)
    (z_all : PySem.W.nsIn K mainGlobals "all" = some none)
    (z_enumerate : PySem.W.nsIn K mainGlobals "enumerate" = some none)
    (z_repr : PySem.W.nsIn K mainGlobals "repr" = some none)
    (z_super : PySem.W.nsIn K mainGlobals "super" = some none)
    : LawAtG l w K CX0 63 "script" mg fa h := by
  obtain rfl : fa = f_law := by have e := hfa.symm.trans (PySem.W.mg_of X G a_law); cases e; rfl
  have m_STATES := PySem.W.mg_of X G i_STATES
  have m_MOST_LETTERS := PySem.W.mg_of X G i_MOST_LETTERS
  have m_ALPHABET := PySem.W.mg_of X G i_ALPHABET
  have n_len := PySem.W.mg_none_of X G z_len
  have n_abs := PySem.W.mg_none_of X G z_abs
  have n_list := PySem.W.mg_none_of X G z_list
  have n_range := PySem.W.mg_none_of X G z_range
  have n_sorted := PySem.W.mg_none_of X G z_sorted
  have n_isinstance := PySem.W.mg_none_of X G z_isinstance
  have n_int := PySem.W.mg_none_of X G z_int
  have n_bool := PySem.W.mg_none_of X G z_bool
  have n_str := PySem.W.mg_none_of X G z_str
  have n_tuple := PySem.W.mg_none_of X G z_tuple
  have n_all := PySem.W.mg_none_of X G z_all
  have n_enumerate := PySem.W.mg_none_of X G z_enumerate
  have n_repr := PySem.W.mg_none_of X G z_repr
  have n_super := PySem.W.mg_none_of X G z_super
  have F__law_pen := fun_mk (st := s_law_pen) l__law_pen c__law_pen k__law_pen
  have b__law_pen := F__law_pen.binds (ps := ["script"]) fun _ _ _ _ _ _ us hl => match us, hl with | [_], _ => rfl
  have F__law_draw := fun_mk (st := s_law_draw) l__law_draw c__law_draw k__law_draw
  have b__law_draw := F__law_draw.binds (ps := ["pen", "many"]) fun _ _ _ _ _ _ us hl => match us, hl with | [_, _], _ => rfl
  have F__law_pick := fun_mk (st := s_law_pick) l__law_pick c__law_pick k__law_pick
  have b__law_pick := F__law_pick.binds (ps := ["pen", "some"]) fun _ _ _ _ _ _ us hl => match us, hl with | [_, _], _ => rfl
  have F__law_shuffled := fun_mk (st := s_law_shuffled) l__law_shuffled c__law_shuffled k__law_shuffled
  have b__law_shuffled := F__law_shuffled.binds (ps := ["pen", "some"]) fun _ _ _ _ _ _ us hl => match us, hl with | [_, _], _ => rfl
  have F__law_letters := fun_mk (st := s_law_letters) l__law_letters c__law_letters k__law_letters
  have b__law_letters := F__law_letters.binds (ps := ["pen", "most"]) fun _ _ _ _ _ _ us hl => match us, hl with | [_, _], _ => rfl
  have F__law_word := fun_mk (st := s_law_word) l__law_word c__law_word k__law_word
  have b__law_word := F__law_word.binds (ps := ["pen", "letters", "most"]) fun _ _ _ _ _ _ us hl => match us, hl with | [_, _, _], _ => rfl
  have F_is_whole := fun_mk (st := s_is_whole) l_is_whole c_is_whole k_is_whole
  have F_is_sequence := fun_mk (st := s_is_sequence) l_is_sequence c_is_sequence k_is_sequence
  have b_is_sequence := F_is_sequence.binds (ps := ["value"]) fun _ _ _ _ _ _ us hl => match us, hl with | [_], _ => rfl
  have F_is_mark := fun_mk (st := s_is_mark) l_is_mark c_is_mark k_is_mark
  have b_is_mark := F_is_mark.binds (ps := ["value"]) fun _ _ _ _ _ _ us hl => match us, hl with | [_], _ => rfl
  have F_is_letters := fun_mk (st := s_is_letters) l_is_letters c_is_letters k_is_letters
  have b_is_letters := F_is_letters.binds (ps := ["value"]) fun _ _ _ _ _ _ us hl => match us, hl with | [_], _ => rfl
  have F_need_letters := fun_mk (st := s_need_letters) l_need_letters c_need_letters k_need_letters
  have b_need_letters := F_need_letters.binds (ps := ["value"]) fun _ _ _ _ _ _ us hl => match us, hl with | [_], _ => rfl
  have F_is_word := fun_mk (st := s_is_word) l_is_word c_is_word k_is_word
  have b_is_word := F_is_word.binds (ps := ["letters", "value"]) fun _ _ _ _ _ _ us hl => match us, hl with | [_, _], _ => rfl
  have F_need_word := fun_mk (st := s_need_word) l_need_word c_need_word k_need_word
  have b_need_word := F_need_word.binds (ps := ["letters", "value"]) fun _ _ _ _ _ _ us hl => match us, hl with | [_, _], _ => rfl
  have F_is_target := fun_mk (st := s_is_target) l_is_target c_is_target k_is_target
  have b_is_target := F_is_target.binds (ps := ["value", "size"]) fun _ _ _ _ _ _ us hl => match us, hl with | [_, _], _ => rfl
  have F_are_targets := fun_mk (st := s_are_targets) l_are_targets c_are_targets k_are_targets
  have b_are_targets := F_are_targets.binds (ps := ["letters", "value", "size"]) fun _ _ _ _ _ _ us hl => match us, hl with | [_, _, _], _ => rfl
  have F_need_machine := fun_mk (st := s_need_machine) l_need_machine c_need_machine k_need_machine
  have b_need_machine := F_need_machine.binds (ps := ["letters", "transitions", "marks"]) fun _ _ _ _ _ _ us hl => match us, hl with | [_, _, _], _ => rfl
  have F_M_init := fun_mk (st := s_Machine__init_) l_M_init c_M_init k_M_init
  have b_M_init := F_M_init.binds (ps := ["self", "letters", "transitions", "marks"]) fun _ _ _ _ _ _ us hl => match us, hl with | [_, _, _, _], _ => rfl
  have F_M_letters := fun_mk (st := s_Machine_letters) l_M_letters c_M_letters k_M_letters
  have b_M_letters := F_M_letters.binds (ps := ["self"]) fun _ _ _ _ _ _ us hl => match us, hl with | [_], _ => rfl
  have F_M_transitions := fun_mk (st := s_Machine_transitions) l_M_transitions c_M_transitions k_M_transitions
  have b_M_transitions := F_M_transitions.binds (ps := ["self"]) fun _ _ _ _ _ _ us hl => match us, hl with | [_], _ => rfl
  have F_M_marks := fun_mk (st := s_Machine_marks) l_M_marks c_M_marks k_M_marks
  have b_M_marks := F_M_marks.binds (ps := ["self"]) fun _ _ _ _ _ _ us hl => match us, hl with | [_], _ => rfl
  have F_M_size := fun_mk (st := s_Machine_size) l_M_size c_M_size k_M_size
  have b_M_size := F_M_size.binds (ps := ["self"]) fun _ _ _ _ _ _ us hl => match us, hl with | [_], _ => rfl
  have F_M_target := fun_mk (st := s_Machine_target) l_M_target c_M_target k_M_target
  have b_M_target := F_M_target.binds (ps := ["self", "state", "letter"]) fun _ _ _ _ _ _ us hl => match us, hl with | [_, _, _], _ => rfl
  have F_M_run := fun_mk (st := s_Machine_run) l_M_run c_M_run k_M_run
  have b_M_run := F_M_run.binds (ps := ["self", "word"]) fun _ _ _ _ _ _ us hl => match us, hl with | [_, _], _ => rfl
  have F_M_answer := fun_mk (st := s_Machine_answer) l_M_answer c_M_answer k_M_answer
  have b_M_answer := F_M_answer.binds (ps := ["self", "word"]) fun _ _ _ _ _ _ us hl => match us, hl with | [_, _], _ => rfl
  have F_M_walk := fun_mk (st := s_Machine_walk) l_M_walk c_M_walk k_M_walk
  have b_M_walk := F_M_walk.binds (ps := ["self", "word"]) fun _ _ _ _ _ _ us hl => match us, hl with | [_, _], _ => rfl
  have F__law_table := fun_mk (st := s_law_table) l__law_table c__law_table k__law_table
  have b__law_table := F__law_table.binds (ps := ["pen", "letters", "size", "is_full"]) fun _ _ _ _ _ _ us hl => match us, hl with | [_, _, _, _], _ => rfl
  have F__law_begun_at := fun_mk (st := s_law_begun_at) l__law_begun_at c__law_begun_at k__law_begun_at
  have b__law_begun_at := F__law_begun_at.binds (ps := ["machine", "state"]) fun _ _ _ _ _ _ us hl => match us, hl with | [_, _], _ => rfl
  have F_law := fun_mk (st := s_law) l_law c_law k_law
  have b_law := F_law.binds (ps := ["script"]) fun _ _ _ _ _ _ us hl => match us, hl with | [_], _ => rfl
  have cl_Machine : Cls K C_Machine := ⟨pg_Machine, hd_Machine, po_Machine, sa_Machine⟩
  have cl_Complete : Cls K C_Complete := ⟨pg_Complete, hd_Complete, po_Complete, sa_Complete⟩
  have MC : MachC K C_Machine := ⟨cl_Machine, n_Machine_own_letters, n_Machine_own_transitions, n_Machine_own_marks, n_Machine_own_parts⟩
  have MD : MachC K C_Complete := ⟨cl_Complete, n_Complete_own_letters, n_Complete_own_transitions, n_Complete_own_marks, n_Complete_own_parts⟩
  refine ⟨PySem.W.fnOf "law" "law" (defArgs s_law) (defBody s_law) (defScope s_law) .none kV_law dc_law pm_law an_law cd_law ct_law, [], spLawD K [], fun p hp => by simp at hp, fun p hp => by simp at hp, fun p hp => by simp at hp, fun H a ns hn hb ht hs => ⟨ns, .cons (.lst hs (dts_ints ns)) .nil, hn, hb, fun p hp => (by simp at hp), fun v H' e => e⟩, fun base kb nb tb => ?_⟩
  have Fn__law_pen : FnPn l.prog w K mg base [] := ⟨f__law_pen, _, ok_pen F__law_pen n_list, PySem.W.mg_of X G a__law_pen, k__law_pen, b__law_pen⟩
  have Fn__law_draw : FnDraw l.prog w K mg base [] := ⟨f__law_draw, _, ok_draw F__law_draw n_len n_abs, PySem.W.mg_of X G a__law_draw, k__law_draw, b__law_draw⟩
  have Fn__law_pick : FnPick l.prog w K mg base [] := ⟨f__law_pick, _, ok_pick F__law_pick n_len Fn__law_draw, PySem.W.mg_of X G a__law_pick, k__law_pick, b__law_pick⟩
  have Fn__law_shuffled : FnShuf l.prog w K mg base [] := ⟨f__law_shuffled, _, ok_shuffled F__law_shuffled n_len n_list Fn__law_draw, PySem.W.mg_of X G a__law_shuffled, k__law_shuffled, b__law_shuffled⟩
  have Fn__law_letters : FnLet l.prog w K mg base [] := ⟨f__law_letters, _, ok_letters F__law_letters n_list n_range n_sorted Fn__law_draw Fn__law_shuffled, PySem.W.mg_of X G a__law_letters, k__law_letters, b__law_letters⟩
  have Fn__law_word : FnWd l.prog w K mg base [] := ⟨f__law_word, _, ok_word F__law_word n_range Fn__law_draw Fn__law_pick, PySem.W.mg_of X G a__law_word, k__law_word, b__law_word⟩
  have Fn_is_whole : FnWhole l.prog w K mg base [] := ⟨f_is_whole, _, ok_is_whole F_is_whole n_isinstance n_int n_bool, PySem.W.mg_of X G a_is_whole, k_is_whole, whole_binds F_is_whole⟩
  have Fn_is_sequence : FnSeq l.prog w K mg base [] := ⟨f_is_sequence, _, ok_is_sequence F_is_sequence n_isinstance n_list n_tuple, PySem.W.mg_of X G a_is_sequence, k_is_sequence, b_is_sequence⟩
  have Fn_is_mark : FnMark l.prog w K mg base [] := ⟨f_is_mark, _, ok_is_mark F_is_mark, PySem.W.mg_of X G a_is_mark, k_is_mark, b_is_mark⟩
  have Fn_is_letters : FnLtr l.prog w K mg base [] := ⟨f_is_letters, _, ok_is_letters F_is_letters n_isinstance n_str n_len n_range n_all ⟨_, m_ALPHABET⟩ ⟨_, m_MOST_LETTERS⟩, PySem.W.mg_of X G a_is_letters, k_is_letters, b_is_letters⟩
  have Fn_need_letters : FnNL l.prog w K mg base [] := ⟨f_need_letters, _, ok_need_letters F_need_letters Fn_is_letters, PySem.W.mg_of X G a_need_letters, k_need_letters, b_need_letters⟩
  have Fn_is_word : FnIsW l.prog w K mg base [] := ⟨f_is_word, _, ok_is_word F_is_word n_isinstance n_str n_all, PySem.W.mg_of X G a_is_word, k_is_word, b_is_word⟩
  have Fn_need_word : FnNW l.prog w K mg base [] := ⟨f_need_word, _, ok_need_word F_need_word Fn_is_word, PySem.W.mg_of X G a_need_word, k_need_word, b_need_word⟩
  have Fn_is_target : FnTgt l.prog w K mg base [] := ⟨f_is_target, _, ok_is_target F_is_target Fn_is_whole, PySem.W.mg_of X G a_is_target, k_is_target, b_is_target⟩
  have Fn_are_targets : FnTgs l.prog w K mg base [] := ⟨f_are_targets, _, ok_are_targets F_are_targets n_len n_all Fn_is_sequence Fn_is_target, PySem.W.mg_of X G a_are_targets, k_are_targets, b_are_targets⟩
  have Fn_need_machine : FnNM l.prog w K mg base [] := ⟨f_need_machine, _, ok_need_machine F_need_machine n_len n_enumerate ⟨_, m_STATES⟩ Fn_need_letters Fn_is_sequence Fn_are_targets Fn_is_mark, PySem.W.mg_of X G a_need_machine, k_need_machine, b_need_machine⟩
  have Fn_M_init : McM l.prog w K mg base [] C_Machine := ⟨cl_Machine, PySem.W.mg_of X G aC_Machine, f_M_init, _, ok_minit F_M_init MC n_tuple Fn_need_machine, ⟨mk_Machine, a_M_init, i_M_init, kc_Machine⟩, b_M_init⟩
  have Fn_M_letters : PtLet l.prog w K mg base [] C_Machine := ⟨cl_Machine, p_M_letters, f_M_letters, _, ok_letters_ F_M_letters MC, ⟨a_M_letters, g_M_letters, u_M_letters, _, e_M_letters⟩, b_M_letters⟩
  have Fn_M_transitions : PtTra l.prog w K mg base [] C_Machine := ⟨cl_Machine, p_M_transitions, f_M_transitions, _, ok_transitions_ F_M_transitions MC, ⟨a_M_transitions, g_M_transitions, u_M_transitions, _, e_M_transitions⟩, b_M_transitions⟩
  have Fn_M_marks : PtMar l.prog w K mg base [] C_Machine := ⟨cl_Machine, p_M_marks, f_M_marks, _, ok_marks_ F_M_marks MC, ⟨a_M_marks, g_M_marks, u_M_marks, _, e_M_marks⟩, b_M_marks⟩
  have Fn_M_size : PtSiz l.prog w K mg base [] C_Machine := ⟨cl_Machine, p_M_size, f_M_size, _, ok_size_ F_M_size MC n_len, ⟨a_M_size, g_M_size, u_M_size, _, e_M_size⟩, b_M_size⟩
  have Fn_M_target : MtTgt l.prog w K mg base [] C_Machine := ⟨cl_Machine, f_M_target, _, ok_target_ F_M_target MC, ⟨a_M_target, i_M_target, k_M_target⟩, b_M_target⟩
  have Fn_M_run : MtRun l.prog w K mg base [] C_Machine := ⟨cl_Machine, f_M_run, _, ok_run_ F_M_run MC Fn_need_word Fn_M_target, ⟨a_M_run, i_M_run, k_M_run⟩, b_M_run⟩
  have Fn_M_answer : MtAns l.prog w K mg base [] C_Machine := ⟨cl_Machine, f_M_answer, _, ok_answer_ F_M_answer MC Fn_M_run, ⟨a_M_answer, i_M_answer, k_M_answer⟩, b_M_answer⟩
  have Fn_M_walk : GtWalk l.prog w K mg base [] C_Machine := ⟨cl_Machine, f_M_walk, _, ok_walk_ F_M_walk MC Fn_need_word Fn_M_target, ⟨a_M_walk, i_M_walk, k_M_walk⟩, b_M_walk⟩
  have Fn__law_table : FnTab l.prog w K mg base [] := ⟨f__law_table, _, ok_table F__law_table n_range Fn__law_draw, PySem.W.mg_of X G a__law_table, k__law_table, b__law_table⟩
  have Fn__law_begun_at : FnBA l.prog w K mg base [] C_Machine C_Machine := ⟨f__law_begun_at, _, ok_begAt F__law_begun_at n_list n_range Fn_M_letters Fn_M_transitions Fn_M_marks Fn_M_size Fn_M_init, PySem.W.mg_of X G a__law_begun_at, k__law_begun_at, b__law_begun_at⟩
  have Fn_C_letters : PtLet l.prog w K mg base [] C_Complete := ⟨cl_Complete, p_M_letters, f_M_letters, _, ok_letters_ F_M_letters MD, ⟨a_C_letters, g_M_letters, u_M_letters, _, e_M_letters⟩, b_M_letters⟩
  have Fn_C_transitions : PtTra l.prog w K mg base [] C_Complete := ⟨cl_Complete, p_M_transitions, f_M_transitions, _, ok_transitions_ F_M_transitions MD, ⟨a_C_transitions, g_M_transitions, u_M_transitions, _, e_M_transitions⟩, b_M_transitions⟩
  have Fn_C_marks : PtMar l.prog w K mg base [] C_Complete := ⟨cl_Complete, p_M_marks, f_M_marks, _, ok_marks_ F_M_marks MD, ⟨a_C_marks, g_M_marks, u_M_marks, _, e_M_marks⟩, b_M_marks⟩
  have Fn_C_size : PtSiz l.prog w K mg base [] C_Complete := ⟨cl_Complete, p_M_size, f_M_size, _, ok_size_ F_M_size MD n_len, ⟨a_C_size, g_M_size, u_M_size, _, e_M_size⟩, b_M_size⟩
  have Fn_C_target : MtTgt l.prog w K mg base [] C_Complete := ⟨cl_Complete, f_M_target, _, ok_target_ F_M_target MD, ⟨a_C_target, i_M_target, k_M_target⟩, b_M_target⟩
  have Fn_C_run : MtRun l.prog w K mg base [] C_Complete := ⟨cl_Complete, f_M_run, _, ok_run_ F_M_run MD Fn_need_word Fn_C_target, ⟨a_C_run, i_M_run, k_M_run⟩, b_M_run⟩
  have Fn_C_answer : MtAns l.prog w K mg base [] C_Complete := ⟨cl_Complete, f_M_answer, _, ok_answer_ F_M_answer MD Fn_C_run, ⟨a_C_answer, i_M_answer, k_M_answer⟩, b_M_answer⟩
  have Fn_C_walk : GtWalk l.prog w K mg base [] C_Complete := ⟨cl_Complete, f_M_walk, _, ok_walk_ F_M_walk MD Fn_need_word Fn_C_target, ⟨a_C_walk, i_M_walk, k_M_walk⟩, b_M_walk⟩
  have Fn_C_beg : FnBA l.prog w K mg base [] C_Complete C_Machine := ⟨f__law_begun_at, _, ok_begAt F__law_begun_at n_list n_range Fn_C_letters Fn_C_transitions Fn_C_marks Fn_C_size Fn_M_init, PySem.W.mg_of X G a__law_begun_at, k__law_begun_at, b__law_begun_at⟩
  have FR : FnR l.prog w K mg base CX0 10 f_M_init (spI K [] C_Complete machPre initPost) := ((ok_minit (C := C_Complete) F_M_init MD n_tuple Fn_need_machine).raw b_M_init .nil).imp fun vs H Q E h => by rw [List.append_nil]; exact h
  have Su : SupC K l.prog.main.file f_C_init cc cda C_Complete C_Complete f_M_init "self" "__init__" := ⟨⟨_, _, _, _, _, l_C_init, rfl, rfl⟩, ⟨_, _, _, _, _, _, q_code, q_file, q_main⟩, ⟨_, _, _, q_cell⟩, q_cls, q_cls, q_sub, q_opq, q_meth, q_ty, q_fi⟩
  have Fn_C_init : McC l.prog w K mg base [] C_Complete := ⟨cl_Complete, PySem.W.mg_of X G aC_Complete, f_C_init, _, ok_cinit l_C_init c_C_init q_cell Su q_top n_super n_enumerate MD FR, ⟨mk_Complete, a_C_init, i_C_init, kc_Complete⟩, .all fun us hl => match us, hl with | [_, _, _, _], _ => rfl⟩
  exact ok_law F_law b_law ⟨Fn__law_pen, Fn__law_draw, Fn__law_letters, Fn__law_table, Fn__law_word, Fn_M_init, Fn_C_init, ⟨Fn_M_run, Fn_M_answer, Fn_M_walk, Fn_M_size, Fn__law_begun_at⟩, ⟨Fn_C_run, Fn_C_answer, Fn_C_walk, Fn_C_size, Fn_C_beg⟩, ⟨n_range, n_list, n_repr⟩⟩
end Toy

open PySem PySem.W PyProof.Rows in
set_option maxRecDepth 100000 in
set_option maxHeartbeats 0 in
theorem PySem.Challenge.cw_wordfit_k24_whole_words_one_after_anothe_holds : PySem.Challenge.rw_wordfit_k24_whole_words_one_after_anothe.Holds := by
  w_on; o_law; k_head; (case hw => w_witness2)
  k_fill
  refine Wf.walk_ofG (l := PySem.Challenge.rw_wordfit_k24_whole_words_one_after_anothe) (CX := fun _ => L2.CX0) (x := "script") rfl (by decide) rfl (fun w h Y => PySem.W.kIn_of Y) ?F (fun _ _ _ _ _ z => z)
  case F =>
    intro w mg fa h Y KX G hmg
    refine' Toy.all_mk KX G hmg ?aC_Machine ?pg_Machine ?hd_Machine ?po_Machine ?sa_Machine ?mk_Machine ?kc_Machine ?n_Machine_own_letters ?n_Machine_own_transitions ?n_Machine_own_marks ?n_Machine_own_parts ?aC_Complete ?pg_Complete ?hd_Complete ?po_Complete ?sa_Complete ?mk_Complete ?kc_Complete ?n_Complete_own_letters ?n_Complete_own_transitions ?n_Complete_own_marks ?n_Complete_own_parts ?a__law_pen ?l__law_pen ?c__law_pen ?k__law_pen ?a__law_draw ?l__law_draw ?c__law_draw ?k__law_draw ?a__law_pick ?l__law_pick ?c__law_pick ?k__law_pick ?a__law_shuffled ?l__law_shuffled ?c__law_shuffled ?k__law_shuffled ?a__law_letters ?l__law_letters ?c__law_letters ?k__law_letters ?a__law_word ?l__law_word ?c__law_word ?k__law_word ?a_is_whole ?l_is_whole ?c_is_whole ?k_is_whole ?a_is_sequence ?l_is_sequence ?c_is_sequence ?k_is_sequence ?a_is_mark ?l_is_mark ?c_is_mark ?k_is_mark ?a_is_letters ?l_is_letters ?c_is_letters ?k_is_letters ?a_need_letters ?l_need_letters ?c_need_letters ?k_need_letters ?a_is_word ?l_is_word ?c_is_word ?k_is_word ?a_need_word ?l_need_word ?c_need_word ?k_need_word ?a_is_target ?l_is_target ?c_is_target ?k_is_target ?a_are_targets ?l_are_targets ?c_are_targets ?k_are_targets ?a_need_machine ?l_need_machine ?c_need_machine ?k_need_machine ?a_M_init ?i_M_init ?l_M_init ?c_M_init ?k_M_init ?a_M_letters ?g_M_letters ?u_M_letters ?e_M_letters ?l_M_letters ?c_M_letters ?k_M_letters ?a_M_transitions ?g_M_transitions ?u_M_transitions ?e_M_transitions ?l_M_transitions ?c_M_transitions ?k_M_transitions ?a_M_marks ?g_M_marks ?u_M_marks ?e_M_marks ?l_M_marks ?c_M_marks ?k_M_marks ?a_M_size ?g_M_size ?u_M_size ?e_M_size ?l_M_size ?c_M_size ?k_M_size ?a_M_target ?i_M_target ?l_M_target ?c_M_target ?k_M_target ?a_M_run ?i_M_run ?l_M_run ?c_M_run ?k_M_run ?a_M_answer ?i_M_answer ?l_M_answer ?c_M_answer ?k_M_answer ?a_M_walk ?i_M_walk ?l_M_walk ?c_M_walk ?k_M_walk ?a__law_table ?l__law_table ?c__law_table ?k__law_table ?a__law_begun_at ?l__law_begun_at ?c__law_begun_at ?k__law_begun_at ?a_law ?l_law ?c_law ?k_law ?a_C_init ?i_C_init ?l_C_init ?c_C_init ?q_code ?q_file ?q_main ?q_cell ?q_cls ?q_sub ?q_opq ?q_meth ?q_ty ?q_fi ?q_top ?a_C_letters ?a_C_transitions ?a_C_marks ?a_C_size ?a_C_target ?a_C_run ?a_C_answer ?a_C_walk ?i_STATES ?i_MOST_LETTERS ?i_ALPHABET ?z_len ?z_abs ?z_list ?z_range ?z_sorted ?z_isinstance ?z_int ?z_bool ?z_str ?z_tuple ?z_all ?z_enumerate ?z_repr ?z_super
    (case aC_Machine => k_is)
    (case pg_Machine => k_is)
    (case hd_Machine => k_is)
    (case po_Machine => k_is)
    (case sa_Machine => k_is)
    (case mk_Machine => k_is)
    (case kc_Machine => k_is)
    (case n_Machine_own_letters => k_is)
    (case n_Machine_own_transitions => k_is)
    (case n_Machine_own_marks => k_is)
    (case n_Machine_own_parts => k_is)
    (case aC_Complete => k_is)
    (case pg_Complete => k_is)
    (case hd_Complete => k_is)
    (case po_Complete => k_is)
    (case sa_Complete => k_is)
    (case mk_Complete => k_is)
    (case kc_Complete => k_is)
    (case n_Complete_own_letters => k_is)
    (case n_Complete_own_transitions => k_is)
    (case n_Complete_own_marks => k_is)
    (case n_Complete_own_parts => k_is)
    (case a__law_pen => k_is)
    (case l__law_pen => k_is)
    (case c__law_pen => k_is)
    (case k__law_pen => k_is)
    (case a__law_draw => k_is)
    (case l__law_draw => k_is)
    (case c__law_draw => k_is)
    (case k__law_draw => k_is)
    (case a__law_pick => k_is)
    (case l__law_pick => k_is)
    (case c__law_pick => k_is)
    (case k__law_pick => k_is)
    (case a__law_shuffled => k_is)
    (case l__law_shuffled => k_is)
    (case c__law_shuffled => k_is)
    (case k__law_shuffled => k_is)
    (case a__law_letters => k_is)
    (case l__law_letters => k_is)
    (case c__law_letters => k_is)
    (case k__law_letters => k_is)
    (case a__law_word => k_is)
    (case l__law_word => k_is)
    (case c__law_word => k_is)
    (case k__law_word => k_is)
    (case a_is_whole => k_is)
    (case l_is_whole => k_is)
    (case c_is_whole => k_is)
    (case k_is_whole => k_is)
    (case a_is_sequence => k_is)
    (case l_is_sequence => k_is)
    (case c_is_sequence => k_is)
    (case k_is_sequence => k_is)
    (case a_is_mark => k_is)
    (case l_is_mark => k_is)
    (case c_is_mark => k_is)
    (case k_is_mark => k_is)
    (case a_is_letters => k_is)
    (case l_is_letters => k_is)
    (case c_is_letters => k_is)
    (case k_is_letters => k_is)
    (case a_need_letters => k_is)
    (case l_need_letters => k_is)
    (case c_need_letters => k_is)
    (case k_need_letters => k_is)
    (case a_is_word => k_is)
    (case l_is_word => k_is)
    (case c_is_word => k_is)
    (case k_is_word => k_is)
    (case a_need_word => k_is)
    (case l_need_word => k_is)
    (case c_need_word => k_is)
    (case k_need_word => k_is)
    (case a_is_target => k_is)
    (case l_is_target => k_is)
    (case c_is_target => k_is)
    (case k_is_target => k_is)
    (case a_are_targets => k_is)
    (case l_are_targets => k_is)
    (case c_are_targets => k_is)
    (case k_are_targets => k_is)
    (case a_need_machine => k_is)
    (case l_need_machine => k_is)
    (case c_need_machine => k_is)
    (case k_need_machine => k_is)
    (case a_M_init => k_is)
    (case i_M_init => k_is)
    (case l_M_init => k_is)
    (case c_M_init => k_is)
    (case k_M_init => k_is)
    (case a_M_letters => k_is)
    (case g_M_letters => k_is)
    (case u_M_letters => k_is)
    (case e_M_letters => k_is)
    (case l_M_letters => k_is)
    (case c_M_letters => k_is)
    (case k_M_letters => k_is)
    (case a_M_transitions => k_is)
    (case g_M_transitions => k_is)
    (case u_M_transitions => k_is)
    (case e_M_transitions => k_is)
    (case l_M_transitions => k_is)
    (case c_M_transitions => k_is)
    (case k_M_transitions => k_is)
    (case a_M_marks => k_is)
    (case g_M_marks => k_is)
    (case u_M_marks => k_is)
    (case e_M_marks => k_is)
    (case l_M_marks => k_is)
    (case c_M_marks => k_is)
    (case k_M_marks => k_is)
    (case a_M_size => k_is)
    (case g_M_size => k_is)
    (case u_M_size => k_is)
    (case e_M_size => k_is)
    (case l_M_size => k_is)
    (case c_M_size => k_is)
    (case k_M_size => k_is)
    (case a_M_target => k_is)
    (case i_M_target => k_is)
    (case l_M_target => k_is)
    (case c_M_target => k_is)
    (case k_M_target => k_is)
    (case a_M_run => k_is)
    (case i_M_run => k_is)
    (case l_M_run => k_is)
    (case c_M_run => k_is)
    (case k_M_run => k_is)
    (case a_M_answer => k_is)
    (case i_M_answer => k_is)
    (case l_M_answer => k_is)
    (case c_M_answer => k_is)
    (case k_M_answer => k_is)
    (case a_M_walk => k_is)
    (case i_M_walk => k_is)
    (case l_M_walk => k_is)
    (case c_M_walk => k_is)
    (case k_M_walk => k_is)
    (case a__law_table => k_is)
    (case l__law_table => k_is)
    (case c__law_table => k_is)
    (case k__law_table => k_is)
    (case a__law_begun_at => k_is)
    (case l__law_begun_at => k_is)
    (case c__law_begun_at => k_is)
    (case k__law_begun_at => k_is)
    (case a_law => k_is)
    (case l_law => k_is)
    (case c_law => k_is)
    (case k_law => k_is)
    (case a_C_init => k_is)
    (case i_C_init => k_is)
    (case l_C_init => k_is)
    (case c_C_init => k_is)
    (case q_code => k_is)
    (case q_file => exact rfl)
    (case q_main => first | kernel_rfl | rfl | decide +kernel)
    (case q_cell => k_is)
    (case q_cls => k_is)
    (case q_sub => k_is)
    (case q_opq => k_is)
    (case q_meth => ks_is)
    (case q_ty => k_is)
    (case q_fi => k_is)
    (case q_top => first | kernel_rfl | rfl | decide +kernel)
    (case a_C_letters => k_is)
    (case a_C_transitions => k_is)
    (case a_C_marks => k_is)
    (case a_C_size => k_is)
    (case a_C_target => k_is)
    (case a_C_run => k_is)
    (case a_C_answer => k_is)
    (case a_C_walk => k_is)
    (case i_STATES => k_is)
    (case i_MOST_LETTERS => k_is)
    (case i_ALPHABET => k_is)
    (case z_len => k_is)
    (case z_abs => k_is)
    (case z_list => k_is)
    (case z_range => k_is)
    (case z_sorted => k_is)
    (case z_isinstance => k_is)
    (case z_int => k_is)
    (case z_bool => k_is)
    (case z_str => k_is)
    (case z_tuple => k_is)
    (case z_all => k_is)
    (case z_enumerate => k_is)
    (case z_repr => k_is)
    (case z_super => k_is)
#print axioms PySem.Challenge.cw_wordfit_k24_whole_words_one_after_anothe_holds

