import PyProof.Rows.All
import Wide.All
import OpenK.AllK
import Wide.FinOn
import HandS.ForMost
import HandS.Walk
import HandS.Lambda
import HandS.Conv
import HandS.Property
import HandS.SortKw
import KE.SortKeyHeap
import KE.SortData
import HandS.Words
import HandS.EndTab
import PyProof.ReprRoads
import HandS.IsInst
import HandS.RaiseMore
import PyProof.ReprBulk
import PyProof.Rows.ReprShort
import PySem.Challenge.RW_wordfit_k01_words_in_order
set_option Elab.async false
set_option linter.all false
set_option maxRecDepth 100000
set_option maxHeartbeats 1000000
/-! Wf: a layer of one's own over HandS: expressions and statements by DATA. A value stands for a datum (Tr); what is being built or changed lies at owned places (M). -/
namespace Wf
open PySem PySem.Spec PyProof.Rows L2 LamX

/-! ### data -/
inductive Tr where
  | non
  | bl (b : Bool)
  | int (i : Int)
  | str (x : Str)
  | lst (xs : List Tr)
  | tup (xs : List Tr)
  | dct (es : List (Key × Tr))
  | ins (C : Addr) (fs : List (Str × Tr))
  | opq (v : V)

mutual
inductive Dt (K : PySem.W.Frag) (I : Hp) : V → Tr → Prop
  | non : Dt K I .non .non
  | bl (b : Bool) : Dt K I (.bl b) (.bl b)
  | int (i : Int) : Dt K I (.int i) (.int i)
  | str (x : Str) : Dt K I (.str x) (.str x)
  | lst {a : Addr} {xs : List V} {ts : List Tr} : SqL K I a xs → Dts K I xs ts → Dt K I (.ref a) (.lst ts)
  | tup {a : Addr} {xs : List V} {ts : List Tr} : SqT K I a xs → Dts K I xs ts → Dt K I (.ref a) (.tup ts)
  | dct {a : Addr} {kvs : List (Key × V)} {es : List (Key × Tr)} : Rd I a (.dK kvs) → Dkv K I kvs es → Dt K I (.ref a) (.dct es)
  | ins {a C dx : Addr} {fs : List (Str × V)} {es : List (Str × Tr)} : I a = some (.ins C dx fs) → Dfs K I fs es → Dt K I (.ref a) (.ins C es)
  | opq (v : V) : Dt K I v (.opq v)
inductive Dts (K : PySem.W.Frag) (I : Hp) : List V → List Tr → Prop
  | nil : Dts K I [] []
  | cons {v : V} {vs : List V} {t : Tr} {ts : List Tr} : Dt K I v t → Dts K I vs ts → Dts K I (v :: vs) (t :: ts)
inductive Dkv (K : PySem.W.Frag) (I : Hp) : List (Key × V) → List (Key × Tr) → Prop
  | nil : Dkv K I [] []
  | cons {k : Key} {v : V} {vs : List (Key × V)} {t : Tr} {ts : List (Key × Tr)} : Dt K I v t → Dkv K I vs ts → Dkv K I ((k, v) :: vs) ((k, t) :: ts)
inductive Dfs (K : PySem.W.Frag) (I : Hp) : List (Str × V) → List (Str × Tr) → Prop
  | nil : Dfs K I [] []
  | cons {k : Str} {v : V} {vs : List (Str × V)} {t : Tr} {ts : List (Str × Tr)} : Dt K I v t → Dfs K I vs ts → Dfs K I ((k, v) :: vs) ((k, t) :: ts)
end

/-- not a code object's table -/
def NT (o : HO) : Prop := ∀ ps, o ≠ .tbl ps
def Sub (I I' : Hp) : Prop := ∀ b o, NT o → I b = some o → I' b = some o
theorem Sub.refl (I : Hp) : Sub I I := fun _ _ _ h => h
theorem Sub.trans {I J L : Hp} (a : Sub I J) (b : Sub J L) : Sub I L := fun x o n h => b x o n (a x o n h)
theorem Sub.of {H H' : Hp} (s : Same H H') : Sub H H' := fun b o _ h => s b o h
theorem nt_lst {xs : List V} : NT (.lst xs) := fun _ h => nomatch h
theorem nt_tup {xs : List V} : NT (.tup xs) := fun _ h => nomatch h
theorem nt_dK {xs : List (Key × V)} : NT (.dK xs) := fun _ h => nomatch h
theorem nt_ins {C d : Addr} {fs : List (Str × V)} : NT (.ins C d fs) := fun _ h => nomatch h
theorem nt_frz {o : Obj} {u : HO} : NT (.frz o u) := fun _ h => nomatch h
theorem sub_seqL {K : PySem.W.Frag} {I I' : Hp} (s : Sub I I') {a : Addr} {xs : List V} (h : SqL K I a xs) : SqL K I' a xs := by
  rcases h with (h | ⟨o, h⟩) | h
  · exact .inl (.inl (s _ _ nt_lst h))
  · exact .inl (.inr ⟨o, s _ _ nt_frz h⟩)
  · exact .inr h
theorem sub_seqT {K : PySem.W.Frag} {I I' : Hp} (s : Sub I I') {a : Addr} {xs : List V} (h : SqT K I a xs) : SqT K I' a xs := by
  rcases h with (h | ⟨o, h⟩) | h
  · exact .inl (.inl (s _ _ nt_tup h))
  · exact .inl (.inr ⟨o, s _ _ nt_frz h⟩)
  · exact .inr h
theorem sub_rdK {I I' : Hp} (s : Sub I I') {a : Addr} {xs : List (Key × V)} (h : Rd I a (.dK xs)) : Rd I' a (.dK xs) := by
  rcases h with h | ⟨o, h⟩
  · exact .inl (s _ _ nt_dK h)
  · exact .inr ⟨o, s _ _ nt_frz h⟩
mutual
theorem Dt.mono {K : PySem.W.Frag} {I I' : Hp} (s : Sub I I') : ∀ {v : V} {t : Tr}, Dt K I v t → Dt K I' v t
  | _, _, .non => .non
  | _, _, .bl b => .bl b
  | _, _, .int i => .int i
  | _, _, .str x => .str x
  | _, _, .lst h q => .lst (sub_seqL s h) (Dts.mono s q)
  | _, _, .tup h q => .tup (sub_seqT s h) (Dts.mono s q)
  | _, _, .dct h q => .dct (sub_rdK s h) (Dkv.mono s q)
  | _, _, .ins h q => .ins (s _ _ nt_ins h) (Dfs.mono s q)
  | _, _, .opq v => .opq v
theorem Dts.mono {K : PySem.W.Frag} {I I' : Hp} (s : Sub I I') : ∀ {v : List V} {t : List Tr}, Dts K I v t → Dts K I' v t
  | _, _, .nil => .nil
  | _, _, .cons h q => .cons (Dt.mono s h) (Dts.mono s q)
theorem Dkv.mono {K : PySem.W.Frag} {I I' : Hp} (s : Sub I I') : ∀ {v : List (Key × V)} {t : List (Key × Tr)}, Dkv K I v t → Dkv K I' v t
  | _, _, .nil => .nil
  | _, _, .cons h q => .cons (Dt.mono s h) (Dkv.mono s q)
theorem Dfs.mono {K : PySem.W.Frag} {I I' : Hp} (s : Sub I I') : ∀ {v : List (Str × V)} {t : List (Str × Tr)}, Dfs K I v t → Dfs K I' v t
  | _, _, .nil => .nil
  | _, _, .cons h q => .cons (Dt.mono s h) (Dfs.mono s q)
end
theorem Dts.length {K : PySem.W.Frag} {I : Hp} : ∀ {vs : List V} {ts : List Tr}, Dts K I vs ts → vs.length = ts.length
  | _, _, .nil => rfl
  | _, _, .cons _ q => congrArg (· + 1) (Dts.length q)
theorem Dts.get {K : PySem.W.Frag} {I : Hp} : ∀ {vs : List V} {ts : List Tr} {i : Nat} {t : Tr}, Dts K I vs ts → ts[i]? = some t → ∃ v, vs[i]? = some v ∧ Dt K I v t
  | _, _, _, _, .nil, h => by simp at h
  | _, _, 0, _, .cons h q, e => by simp at e; subst e; exact ⟨_, rfl, h⟩
  | _, _, i + 1, _, .cons h q, e => by simpa using Dts.get (i := i) q (by simpa using e)
theorem Dts.getV {K : PySem.W.Frag} {I : Hp} : ∀ {vs : List V} {ts : List Tr} {i : Nat} {v : V}, Dts K I vs ts → vs[i]? = some v → ∃ t, ts[i]? = some t ∧ Dt K I v t
  | _, _, _, _, .nil, h => by simp at h
  | _, _, 0, _, .cons h q, e => by simp at e; subst e; exact ⟨_, rfl, h⟩
  | _, _, i + 1, _, .cons h q, e => by simpa using Dts.getV (i := i) q (by simpa using e)
theorem Dts.append {K : PySem.W.Frag} {I : Hp} : ∀ {vs ws : List V} {ts us : List Tr}, Dts K I vs ts → Dts K I ws us → Dts K I (vs ++ ws) (ts ++ us)
  | _, _, _, _, .nil, q => q
  | _, _, _, _, .cons h r, q => .cons h (Dts.append r q)
theorem Dts.take {K : PySem.W.Frag} {I : Hp} : ∀ {vs : List V} {ts : List Tr} (n : Nat), Dts K I vs ts → Dts K I (vs.take n) (ts.take n)
  | _, _, 0, _ => .nil
  | _, _, _ + 1, .nil => .nil
  | _, _, n + 1, .cons h r => .cons h (Dts.take n r)
theorem Dts.drop {K : PySem.W.Frag} {I : Hp} : ∀ {vs : List V} {ts : List Tr} (n : Nat), Dts K I vs ts → Dts K I (vs.drop n) (ts.drop n)
  | _, _, 0, q => q
  | _, _, _ + 1, .nil => .nil
  | _, _, n + 1, .cons h r => Dts.drop n r
theorem Dts.erase {K : PySem.W.Frag} {I : Hp} : ∀ {vs : List V} {ts : List Tr} (n : Nat), Dts K I vs ts → Dts K I (vs.eraseIdx n) (ts.eraseIdx n)
  | _, _, _, .nil => .nil
  | _, _, 0, .cons h r => r
  | _, _, n + 1, .cons h r => .cons h (Dts.erase n r)
theorem Dts.set {K : PySem.W.Frag} {I : Hp} {v : V} {t : Tr} (h0 : Dt K I v t) : ∀ {vs : List V} {ts : List Tr} (n : Nat), Dts K I vs ts → Dts K I (vs.set n v) (ts.set n t)
  | _, _, _, .nil => .nil
  | _, _, 0, .cons h r => .cons h0 r
  | _, _, n + 1, .cons h r => .cons h (Dts.set h0 n r)
theorem dts_ints {K : PySem.W.Frag} {I : Hp} : ∀ (ns : List Int), Dts K I (ns.map V.int) (ns.map Tr.int)
  | [] => .nil
  | n :: ns => .cons (.int n) (dts_ints ns)
theorem dts_strs {K : PySem.W.Frag} {I : Hp} : ∀ (ns : List Str), Dts K I (ns.map V.str) (ns.map Tr.str)
  | [] => .nil
  | n :: ns => .cons (.str n) (dts_strs ns)
theorem of_ints {K : PySem.W.Frag} {I : Hp} : ∀ (ns : List Int) {vs : List V}, Dts K I vs (ns.map Tr.int) → vs = ns.map V.int
  | [], _, .nil => rfl
  | n :: ns, _, .cons h q => by
    cases h
    rw [of_ints ns q]; rfl
theorem of_strs {K : PySem.W.Frag} {I : Hp} : ∀ (ns : List Str) {vs : List V}, Dts K I vs (ns.map Tr.str) → vs = ns.map V.str
  | [], _, .nil => rfl
  | n :: ns, _, .cons h q => by
    cases h
    rw [of_strs ns q]; rfl
theorem of_bls {K : PySem.W.Frag} {I : Hp} : ∀ (ns : List Bool) {vs : List V}, Dts K I vs (ns.map Tr.bl) → vs = ns.map V.bl
  | [], _, .nil => rfl
  | n :: ns, _, .cons h q => by
    cases h
    rw [of_bls ns q]; rfl

/-! ### the part of a heap that stands still -/
open Classical in
noncomputable def mi (M : Addr → Prop) (H : Hp) : Hp := fun b => if M b then none else H b
theorem mi_some {M : Addr → Prop} {H : Hp} {b : Addr} {o : HO} : mi M H b = some o ↔ ¬ M b ∧ H b = some o := by
  unfold mi
  by_cases h : M b
  · rw [if_pos h]
    exact ⟨fun z => (nomatch z), fun z => absurd h z.1⟩
  · rw [if_neg h]
    exact ⟨fun z => ⟨h, z⟩, fun z => z.2⟩
theorem mi_of {M : Addr → Prop} {H : Hp} {b : Addr} {o : HO} (h : ¬ M b) (e : H b = some o) : mi M H b = some o := mi_some.mpr ⟨h, e⟩
theorem Sub.mi {M : Addr → Prop} {H H' : Hp} (s : Sub H H') : Sub (mi M H) (mi M H') := fun b o n h =>
  have q := mi_some.mp h
  mi_of q.1 (s b o n q.2)
theorem mi_le {M M' : Addr → Prop} {H : Hp} (h : ∀ b, M' b → M b) : Sub (mi M H) (mi M' H) := fun b o _ q =>
  have q := mi_some.mp q
  mi_of (fun z => q.1 (h b z)) q.2
theorem mi_sub {M : Addr → Prop} {H : Hp} : Sub (Wf.mi M H) H := fun _ _ _ h => (mi_some.mp h).2
theorem mi_write {M : Addr → Prop} {H : Hp} {l : Addr} {o : HO} (h : M l) : Sub (mi M H) (mi M (upd H l o)) := fun b u _ q =>
  have q := mi_some.mp q
  mi_of q.1 (by rw [upd_ne (fun z => q.1 (by rw [z]; exact h))]; exact q.2)
theorem sub_new {H : Hp} {l : Addr} {o : HO} (h : H l = none) : Sub H (upd H l o) := fun b u _ q => by
  rw [upd_ne (ne_of_none q h)]; exact q

/-! ### places: owned ones, pens among them -/
structure Pl where
  m : Addr → Prop
  w : Addr → Prop
def ins (M : Pl) (l : Addr) : Pl := ⟨fun b => M.m b ∨ b = l, M.w⟩
/-- all but the pens stays; tables stay tables -/
structure Fe (w : Addr → Prop) (H H' : Hp) : Prop where
  k : ∀ b o, ¬ w b → NT o → H b = some o → H' b = some o
  t : ∀ b ps, H b = some (.tbl ps) → ∃ qs, H' b = some (.tbl qs)
theorem Fe.refl (w : Addr → Prop) (H : Hp) : Fe w H H := ⟨fun _ _ _ _ h => h, fun _ ps h => ⟨ps, h⟩⟩
theorem Fe.trans {w : Addr → Prop} {H H1 H2 : Hp} (a : Fe w H H1) (b : Fe w H1 H2) : Fe w H H2 :=
  ⟨fun x o p n h => b.k x o p n (a.k x o p n h), fun x ps h => let ⟨qs, h1⟩ := a.t x ps h; b.t x qs h1⟩
theorem Fe.same {w : Addr → Prop} {H H' : Hp} (s : Same H H') : Fe w H H' := ⟨fun b o _ _ h => s b o h, fun b ps h => ⟨ps, s b _ h⟩⟩
theorem Fe.imp {w w' : Addr → Prop} {H H' : Hp} (f : Fe w H H') (h : ∀ b o, NT o → w b → H b = some o → w' b) : Fe w' H H' :=
  ⟨fun b o p n e => f.k b o (fun z => p (h b o n z e)) n e, f.t⟩
theorem Fe.free {w : Addr → Prop} {H H' : Hp} (f : Fe w H H') (al : ∀ b, w b → ∃ o, H' b = some o) {p : Addr} (h : H' p = none) : H p = none := by
  cases e : H p with
  | none => rfl
  | some o =>
    by_cases q : w p
    · obtain ⟨o', e'⟩ := al p q
      rw [h] at e'; cases e'
    · by_cases n : NT o
      · rw [f.k p o q n e] at h; cases h
      · exfalso
        refine n fun ps z => ?_
        subst z
        obtain ⟨qs, e'⟩ := f.t p ps e
        rw [h] at e'; cases e'

/-! ### what is known of a slot -/
/-- a pen: its dict, its list of cells -/
structure Pn where
  l : Addr
  a : Addr
  cs : List Int
/-- at most N cells are drawn -/
def PenAt (K : PySem.W.Frag) (I H : Hp) (p : Pn) (N : Nat) : Prop :=
  ∃ (sp mo : Int), H p.l = some (.dK [(.inr "cells", .ref p.a), (.inr "spot", .int sp), (.inr "more", .int mo)]) ∧ SqL K I p.a (p.cs.map V.int) ∧ p.cs.length ≤ 63 ∧ 0 ≤ sp ∧ sp ≤ N ∧ 0 ≤ mo
theorem PenAt.mono {K : PySem.W.Frag} {I I' H H' : Hp} {p : Pn} {N : Nat} (s : Sub I I') (e : ∀ o, NT o → H p.l = some o → H' p.l = some o) (h : PenAt K I H p N) : PenAt K I' H' p N := by
  obtain ⟨sp, mo, h1, h2, r⟩ := h
  exact ⟨sp, mo, e _ nt_dK h1, sub_seqL s h2, r⟩
theorem PenAt.le {K : PySem.W.Frag} {I H : Hp} {p : Pn} {N N' : Nat} (q : N ≤ N') (h : PenAt K I H p N) : PenAt K I H p N' := by
  obtain ⟨sp, mo, h1, h2, h3, h4, h5, h6⟩ := h
  exact ⟨sp, mo, h1, h2, h3, h4, by omega, h6⟩
/-- an owned list, dict or instance at l: its parts stand still -/
def Ow (K : PySem.W.Frag) (I H : Hp) (l : Addr) : Tr → Prop
  | .lst ts => ∃ xs, H l = some (.lst xs) ∧ Dts K I xs ts
  | .dct es => ∃ kvs, H l = some (.dK kvs) ∧ Dkv K I kvs es
  | .ins C es => ∃ dx fs, H l = some (.ins C dx fs) ∧ Dfs K I fs es
  | _ => False
theorem Ow.mono {K : PySem.W.Frag} {I I' H H' : Hp} {l : Addr} (s : Sub I I') (e : ∀ o, NT o → H l = some o → H' l = some o) : ∀ {t : Tr}, Ow K I H l t → Ow K I' H' l t
  | .lst _, ⟨xs, h, q⟩ => ⟨xs, e _ nt_lst h, q.mono s⟩
  | .dct _, ⟨xs, h, q⟩ => ⟨xs, e _ nt_dK h, q.mono s⟩
  | .ins _ _, ⟨dx, xs, h, q⟩ => ⟨dx, xs, e _ nt_ins h, q.mono s⟩
  | .non, h => h.elim
  | .bl _, h => h.elim
  | .int _, h => h.elim
  | .str _, h => h.elim
  | .tup _, h => h.elim
  | .opq _, h => h.elim
theorem Ow.dt {K : PySem.W.Frag} {I H : Hp} {l : Addr} (e : ∀ o, NT o → H l = some o → I l = some o) : ∀ {t : Tr}, Ow K I H l t → Dt K I (.ref l) t
  | .lst _, ⟨xs, h, q⟩ => .lst (SqL.of (e _ nt_lst h)) q
  | .dct _, ⟨xs, h, q⟩ => .dct (.inl (e _ nt_dK h)) q
  | .ins _ _, ⟨dx, xs, h, q⟩ => .ins (e _ nt_ins h) q
  | .non, h => h.elim
  | .bl _, h => h.elim
  | .int _, h => h.elim
  | .str _, h => h.elim
  | .tup _, h => h.elim
  | .opq _, h => h.elim
inductive En where
  | any
  | dat (t : Tr)
  | own (l : Addr) (t : Tr)
  | pen (p : Pn) (N : Nat)
def En.adr : En → Option Addr
  | .own l _ => some l
  | .pen p _ => some p.l
  | _ => none
/-- what stays through a def: the tables, what may change (the pen), the heap and the owned places at the entry -/
structure Bs where
  T : List (Addr × Str)
  P : Addr → Prop
  H0 : Hp
  M0 : Addr → Prop
def EnOk (K : PySem.W.Frag) (B : Bs) (M : Pl) (H : Hp) : Option V → En → Prop
  | _, .any => True
  | some v, .dat t => Dt K (mi M.m H) v t
  | some v, .own l t => v = .ref l ∧ M.m l ∧ ¬ B.M0 l ∧ ¬ M.w l ∧ Ow K (mi M.m H) H l t
  | some v, .pen p N => v = .ref p.l ∧ M.w p.l ∧ PenAt K (mi M.m H) H p N
  | none, _ => False
structure Sk (K : PySem.W.Frag) (B : Bs) (M : Pl) (H : Hp) (σ : L2.St) (Δ : List En) : Prop where
  len : σ.length = Δ.length
  al : ∀ b, M.m b → ∃ o, H b = some o
  wm : ∀ b, M.w b → M.m b
  m0 : ∀ b, B.M0 b → M.m b
  pm : ∀ b, B.P b → B.M0 b
  own : ∀ b, M.m b → B.M0 b ∨ B.H0 b = none
  wp : ∀ b, M.w b → B.P b ∨ B.H0 b = none
  fr : Fe B.P B.H0 H
  tb : Tabs B.T H
  dis : ∀ (i j : Nat) (e f : En) (l : Addr), Δ[i]? = some e → Δ[j]? = some f → e.adr = some l → f.adr = some l → i = j
  sl : ∀ (i : Nat) (e : En), Δ[i]? = some e → ∃ o, σ[i]? = some o ∧ EnOk K B M H o e

theorem EnOk.mono {K : PySem.W.Frag} {B : Bs} {M M' : Pl} {H H' : Hp} (hm : ∀ b, M.m b → M'.m b) (hw : ∀ b, M.w b ↔ M'.w b) (s : Sub (mi M.m H) (mi M'.m H')) : ∀ {o : Option V} {e : En}, (∀ l, e.adr = some l → ∀ o, NT o → H l = some o → H' l = some o) → EnOk K B M H o e → EnOk K B M' H' o e
  | _, .any, _, _ => True.intro
  | some v, .dat t, _, h => Dt.mono s h
  | some v, .own l t, k, ⟨e, hl, h0, hq, q⟩ => ⟨e, hm _ hl, h0, fun z => hq ((hw _).mpr z), q.mono s (k l rfl)⟩
  | some v, .pen p N, k, ⟨e, hl, q⟩ => ⟨e, (hw _).mp hl, q.mono s (k p.l rfl)⟩
  | none, .dat t, _, h => h.elim
  | none, .own l t, _, h => h.elim
  | none, .pen l N, _, h => h.elim
section
variable {K : PySem.W.Frag} {B : Bs} {M M' : Pl} {H H' : Hp} {σ : L2.St} {Δ : List En}
theorem Sk.sub (h : Sk K B M H σ Δ) (f : Fe M.w H H') : Sub (mi M.m H) (mi M.m H') := fun b o n e =>
  have q := mi_some.mp e
  mi_of q.1 (f.k b o (fun z => q.1 (h.wm b z)) n q.2)
theorem Sk.notM (h : Sk K B M H σ Δ) {p : Addr} (hp : H p = none) : ¬ M.m p := fun z => by
  obtain ⟨o, e⟩ := h.al p z
  rw [hp] at e; cases e
theorem Sk.new0 (h : Sk K B M H σ Δ) {p : Addr} (hp : H p = none) : B.H0 p = none := h.fr.free (fun b z => h.al b (h.m0 b (h.pm b z))) hp
theorem mi_new {H H' : Hp} {l : Addr} (h : H l = none) {σ : L2.St} {Δ : List En} (S : Sk K B M H σ Δ) (f : Fe M.w H H') : Sub (mi M.m H) (mi (ins M l).m H') := fun b u n q =>
  have q := mi_some.mp q
  mi_of (fun z => z.elim q.1 fun e => by rw [e, h] at q; cases q.2) (f.k b u (fun z => q.1 (S.wm b z)) n q.2)
/-- the heap grows, all stays -/
theorem Sk.same (h : Sk K B M H σ Δ) (s : Same H H') : Sk K B M H' σ Δ where
  len := h.len
  al := fun b hb => by
    obtain ⟨o, e⟩ := h.al b hb
    exact ⟨o, s b o e⟩
  wm := h.wm
  m0 := h.m0
  pm := h.pm
  own := h.own
  wp := h.wp
  fr := h.fr.trans (Fe.same s)
  tb := h.tb.ext s
  dis := h.dis
  sl := fun i e q => by
    obtain ⟨o, h1, h2⟩ := h.sl i e q
    exact ⟨o, h1, h2.mono (fun _ z => z) (fun _ => Iff.rfl) (Sub.of s).mi fun l _ o n z => s l o z⟩
theorem same_new {p : Addr} {o : HO} (h : H p = none) : Same H (upd H p o) := fun b u e => by
  rw [upd_ne (ne_of_none e h)]; exact e
theorem Sk.dat (h : Sk K B M H σ Δ) {i : Nat} {t : Tr} (e : Δ[i]? = some (.dat t)) : ∃ v, σ[i]? = some (some v) ∧ Dt K (mi M.m H) v t := by
  obtain ⟨o, h1, h2⟩ := h.sl i _ e
  cases o with
  | none => exact h2.elim
  | some v => exact ⟨v, h1, h2⟩
theorem Sk.ownAt (h : Sk K B M H σ Δ) {i : Nat} {l : Addr} {t : Tr} (e : Δ[i]? = some (.own l t)) : σ[i]? = some (some (.ref l)) ∧ M.m l ∧ ¬ B.M0 l ∧ ¬ M.w l ∧ Ow K (mi M.m H) H l t := by
  obtain ⟨o, h1, h2⟩ := h.sl i _ e
  cases o with
  | none => exact h2.elim
  | some v =>
    obtain ⟨q, r⟩ := h2
    exact ⟨by rw [h1, q], r⟩
theorem Sk.penAt (h : Sk K B M H σ Δ) {i : Nat} {p : Pn} {N : Nat} (e : Δ[i]? = some (.pen p N)) : σ[i]? = some (some (.ref p.l)) ∧ M.w p.l ∧ PenAt K (mi M.m H) H p N := by
  obtain ⟨o, h1, h2⟩ := h.sl i _ e
  cases o with
  | none => exact h2.elim
  | some v =>
    obtain ⟨q, r⟩ := h2
    exact ⟨by rw [h1, q], r⟩
/-- a slot is written: e tells the new value; e's place stands in no other slot -/
theorem Sk.put (h : Sk K B M H σ Δ) (i : Nat) {o : Option V} {e : En} (hv : EnOk K B M H o e) (hn : ∀ l, e.adr = some l → ∀ (j : Nat) (f : En), j ≠ i → Δ[j]? = some f → f.adr ≠ some l) : Sk K B M H (σ.set i o) (Δ.set i e) where
  len := by rw [List.length_set, List.length_set]; exact h.len
  al := h.al
  wm := h.wm
  m0 := h.m0
  pm := h.pm
  own := h.own
  wp := h.wp
  fr := h.fr
  tb := h.tb
  dis := fun a b e1 f l he hf el fl => by
    by_cases ha : a = i
    · by_cases hb : b = i
      · rw [ha, hb]
      · exfalso
        subst ha
        rw [List.getElem?_set_ne (Ne.symm hb)] at hf
        rw [List.getElem?_set] at he
        split at he
        · split at he
          · cases he
            exact hn l el b f hb hf fl
          · cases he
        · rename_i z; exact z rfl
    · rw [List.getElem?_set_ne (Ne.symm ha)] at he
      by_cases hb : b = i
      · exfalso
        subst hb
        rw [List.getElem?_set] at hf
        split at hf
        · split at hf
          · cases hf
            exact hn l fl a e1 ha he el
          · cases hf
        · rename_i z; exact z rfl
      · rw [List.getElem?_set_ne (Ne.symm hb)] at hf
        exact h.dis a b e1 f l he hf el fl
  sl := fun a e1 he => by
    by_cases ha : a = i
    · subst ha
      by_cases hl : a < Δ.length
      · rw [List.getElem?_set_self hl] at he
        cases he
        exact ⟨o, by rw [List.getElem?_set_self (by rw [h.len]; exact hl)], hv⟩
      · rw [List.getElem?_eq_none (by rw [List.length_set]; omega)] at he
        cases he
    · rw [List.getElem?_set_ne (Ne.symm ha)] at he
      obtain ⟨o1, h1, h2⟩ := h.sl a e1 he
      exact ⟨o1, by rw [List.getElem?_set_ne (Ne.symm ha)]; exact h1, h2⟩
theorem Sk.set (h : Sk K B M H σ Δ) (i : Nat) {v : V} {t : Tr} (hv : Dt K (mi M.m H) v t) : Sk K B M H (σ.set i (some v)) (Δ.set i (.dat t)) := h.put i (e := .dat t) hv fun _ z => nomatch z
theorem Sk.forget (h : Sk K B M H σ Δ) (i : Nat) {o : Option V} : Sk K B M H (σ.set i o) (Δ.set i .any) := h.put i (e := .any) (by cases o <;> exact True.intro) fun _ z => nomatch z
end

/-! ### the weakest readings -/
section
variable (X : Cx)
def WE (e : Expr) : TE := fun σ H Q => ∀ pins s, Inv X pins σ H s → wpAny (model X.prog X.w) X.A (eval e X.env) (EP X pins σ Q) X.xe s
def WT (e : Expr) : TT := fun σ H Q => ∀ pins s, Inv X pins σ H s → wpAny (model X.prog X.w) X.A (isTrue e X.env (eval e X.env)) (TP X pins σ Q) X.xe s
def WA (es : List Expr) : TA := fun σ H Q => ∀ (pos : Pos) pins s, Inv X pins σ H s → wpAny (model X.prog X.w) X.A (spliced (backTo pos (starEach es X.env))) (AP X pins σ Q) X.xe s
def WSs (ss : List Stmt) : TS := fun D σ H => ∀ pins s, Inv X pins σ H s → wpAny (model X.prog X.w) X.A (execs ss X.env) (SP X pins D) X.xe s
def WS (st : Stmt) : TS := fun D σ H => ∀ pins s, Inv X pins σ H s → wpAny (model X.prog X.w) X.A (exec st X.env) (SP X pins D) X.xe s
end
section
variable {X : Cx} {e : Expr} {es : List Expr}
theorem pe_self : PE X e (WE X e) := ⟨fun pins s σ H Q I h => h pins s I⟩
theorem pt_self : PT X e (WT X e) := ⟨fun pins s σ H Q I h => h pins s I⟩
theorem pa_self : PA X es (WA X es) := ⟨fun pos pins s σ H Q I h => h pos pins s I⟩
theorem pss_self {ss : List Stmt} : PSs X ss (WSs X ss) := ⟨fun pins s σ H D I h => h pins s I⟩
theorem ps_self {st : Stmt} : PS X st (WS X st) := ⟨fun pins s σ H D I h => h pins s I⟩
theorem PE.to {te : TE} (h : PE X e te) {σ : L2.St} {H : Hp} {Q : VK} (q : te σ H Q) : WE X e σ H Q := fun pins s I => h.run pins s σ H Q I q
theorem PT.to {te : TT} (h : PT X e te) {σ : L2.St} {H : Hp} {Q : Bool → Hp → Prop} (q : te σ H Q) : WT X e σ H Q := fun pins s I => h.run pins s σ H Q I q
theorem PA.to {te : TA} (h : PA X es te) {σ : L2.St} {H : Hp} {Q : List V → Hp → Prop} (q : te σ H Q) : WA X es σ H Q := fun pos pins s I => h.run pos pins s σ H Q I q
theorem PSs.to {ss : List Stmt} {t : TS} (h : PSs X ss t) {D : Ends} {σ : L2.St} {H : Hp} (q : t D σ H) : WSs X ss D σ H := fun pins s I => h.run pins s σ H D I q
theorem PS.to {st : Stmt} {t : TS} (h : PS X st t) {D : Ends} {σ : L2.St} {H : Hp} (q : t D σ H) : WS X st D σ H := fun pins s I => h.run pins s σ H D I q
end

/-! ### expressions by data -/
section
variable (X : Cx) (B : Bs) (M : Pl) (Δ : List En)
/-- e, wherever the slots are Δ, gives a datum t and slots Δ' as Φ says -/
def EE (e : Expr) (Φ : Tr → List En → Prop) : Prop := ∀ σ H, Sk X.K B M H σ Δ → ∀ Q : VK,
  (∀ t Δ' v H', Φ t Δ' → Fe M.w H H' → Sk X.K B M H' σ Δ' → Dt X.K (mi M.m H') v t → Q v H') → WE X e σ H Q
def ET (e : Expr) (Φ : Bool → List En → Prop) : Prop := ∀ σ H, Sk X.K B M H σ Δ → ∀ Q : Bool → Hp → Prop,
  (∀ b Δ' H', Φ b Δ' → Fe M.w H H' → Sk X.K B M H' σ Δ' → Q b H') → WT X e σ H Q
def EA (es : List Expr) (Φ : List Tr → List En → Prop) : Prop := ∀ σ H, Sk X.K B M H σ Δ → ∀ Q : List V → Hp → Prop,
  (∀ ts Δ' vs H', Φ ts Δ' → Fe M.w H H' → Sk X.K B M H' σ Δ' → Dts X.K (mi M.m H') vs ts → Q vs H') → WA X es σ H Q
/-- e gives a new object that nobody else holds: it becomes an owned place -/
def EO (e : Expr) (Φ : Tr → List En → Prop) : Prop := ∀ σ H, Sk X.K B M H σ Δ → ∀ Q : VK,
  (∀ t Δ' l H', Φ t Δ' → Fe M.w H H' → H l = none → Sk X.K B (ins M l) H' σ Δ' → (∀ e ∈ Δ', e.adr ≠ some l) → Ow X.K (mi (ins M l).m H') H' l t → Q (.ref l) H') → WE X e σ H Q
end
section
variable {X : Cx} {B : Bs} {M : Pl} {Δ : List En} {e a b : Expr} {es : List Expr} {Φ Φ' : Tr → List En → Prop}
theorem EE.mono (h : EE X B M Δ e Φ) (q : ∀ t Δ', Φ t Δ' → Φ' t Δ') : EE X B M Δ e Φ' := fun σ H S Q k => h σ H S Q fun t Δ' v H' p => k t Δ' v H' (q t Δ' p)
/-- an owned place is given out -/
theorem Sk.freeze {K : PySem.W.Frag} {H : Hp} {σ : L2.St} {l : Addr} (h : Sk K B (ins M l) H σ Δ) (hM : ¬ M.m l) (hw : ∀ b, M.w b → M.m b) (h0 : ¬ B.M0 l) (hn : ∀ e ∈ Δ, e.adr ≠ some l) : Sk K B M H σ Δ where
  len := h.len
  al := fun b z => h.al b (.inl z)
  wm := hw
  m0 := fun b z => (h.m0 b z).elim id fun e => absurd (by rw [← e]; exact z) h0
  pm := h.pm
  own := fun b z => h.own b (.inl z)
  wp := h.wp
  fr := h.fr
  tb := h.tb
  dis := h.dis
  sl := fun i e q => by
    obtain ⟨o, h1, h2⟩ := h.sl i e q
    refine ⟨o, h1, ?_⟩
    have s : Sub (mi (ins M l).m H) (mi M.m H) := mi_le fun b z => .inl z
    have hm := hn e (List.mem_of_getElem? q)
    cases o with
    | none =>
      cases e <;> first | exact True.intro | exact h2.elim
    | some v =>
      cases e with
      | any => exact True.intro
      | dat t => exact Dt.mono s h2
      | own l' t =>
        obtain ⟨h3, h4, h5, h7, h6⟩ := h2
        exact ⟨h3, h4.elim id fun z => absurd (by rw [z]; rfl) hm, h5, h7, h6.mono s fun _ _ z => z⟩
      | pen l' N =>
        obtain ⟨h3, h4, h6⟩ := h2
        exact ⟨h3, h4, h6.mono s fun _ _ z => z⟩
theorem EO.ee (h : EO X B M Δ e Φ) : EE X B M Δ e Φ := fun σ H S Q k => h σ H S Q fun t Δ' l H' p f hl S' hn ow => by
  have nM := S.notM hl
  have nM0 : ¬ B.M0 l := fun z => nM (S.m0 l z)
  have s2 : Sub (mi (ins M l).m H') (mi M.m H') := mi_le fun b z => .inl z
  refine k t Δ' (.ref l) H' p f (S'.freeze nM S.wm nM0 hn) ?_
  exact (ow.mono s2 fun _ _ z => z).dt fun o _ z => mi_of nM z
/-! names, constants -/
theorem ee_name (i : Nat) {x : Str} {pos : Pos} {t : Tr} (hN : X.N[i]? = some x) (hΔ : Δ[i]? = some (.dat t)) (q : Φ t Δ)
    (hd : (x == ("__debug__" : Str)) = false := by decide) (hcd : (x == ("__classdict__" : Str)) = false := by decide) (hv : Vis X.env.scope x := by first | exact Or.inl rfl | exact Or.inr (Or.inl rfl) | exact Or.inr (Or.inr rfl)) : EE X B M Δ (.Name x pos) Φ := fun σ H S Q k => by
  obtain ⟨v, h1, h2⟩ := S.dat hΔ
  exact PE.to (pe_var (i := i) hN hv hd hcd) ⟨v, h1, k t Δ v H q (Fe.refl _ _) S h2⟩
theorem ee_int {i : Int} {j : Nat} {pos : Pos} (q : Φ (.int i) Δ) : EE X B M Δ (.Constant (.int i) j pos) Φ := fun σ H S Q k => PE.to pe_int (k _ _ _ H q (Fe.refl _ _) S (.int i))
theorem ee_str {i : Str} {j : Nat} {pos : Pos} (q : Φ (.str i) Δ) : EE X B M Δ (.Constant (.str i) j pos) Φ := fun σ H S Q k => PE.to pe_str (k _ _ _ H q (Fe.refl _ _) S (.str i))
theorem ee_bl {i : Bool} {j : Nat} {pos : Pos} (q : Φ (.bl i) Δ) : EE X B M Δ (.Constant (.bool i) j pos) Φ := fun σ H S Q k => PE.to pe_bl (k _ _ _ H q (Fe.refl _ _) S (.bl i))
theorem ee_non {j : Nat} {pos : Pos} (q : Φ .non Δ) : EE X B M Δ (.Constant .none j pos) Φ := fun σ H S Q k => PE.to pe_non (k _ _ _ H q (Fe.refl _ _) S .non)
/-- a module's constant -/
theorem ee_glob {x : Str} {v : V} {u : Value} {t : Tr} {pos : Pos} (hg : Gl X x) (hm : X.mg x = some u) (r : RelV v u) (ht : ∀ I, Dt X.K I v t) (q : Φ t Δ) (hd : (x == ("__debug__" : Str)) = false := by decide) : EE X B M Δ (.Name x pos) Φ := fun σ H S Q k =>
  PE.to (pe_glob hg hm r hd) (k _ _ _ H q (Fe.refl _ _) S (ht _))
/-! two places -/
/-- a rule by values, from its reading r: what is asked of the data -/
theorem ee_two {E : Expr} {r : R2} (hE : PE X E (tOp r (WE X a) (WE X b))) {Ψ : Tr → List En → Tr → List En → Prop}
    (h : EE X B M Δ a fun x Δ1 => EE X B M Δ1 b fun y Δ2 => Ψ x Δ1 y Δ2)
    (hr : ∀ x Δ1 y Δ2, Ψ x Δ1 y Δ2 → ∀ σ H v w (Q : VK), Sk X.K B M H σ Δ2 → Dt X.K (mi M.m H) v x → Dt X.K (mi M.m H) w y → (∀ t Δ' z H', Φ t Δ' → Fe M.w H H' → Sk X.K B M H' σ Δ' → Dt X.K (mi M.m H') z t → Q z H') → r v w H Q) : EE X B M Δ E Φ := fun σ H S Q k =>
  PE.to hE (h σ H S _ fun x Δ1 v H1 p s1 S1 d1 => p σ H1 S1 _ fun y Δ2 w H2 p2 s2 S2 d2 => hr x Δ1 y Δ2 p2 σ H2 v w Q S2 (d1.mono (S1.sub s2)) d2 fun t Δ' z H' p3 s3 S3 d3 => k t Δ' z H' p3 ((s1.trans s2).trans s3) S3 d3)
theorem ee_I0 {op : Operator} {pos : Pos} {g : Int → Int → Int} (ho : OpR X (binaryOp op) (rI0 fun i j => .int (g i j))) (h : EE X B M Δ a fun x Δ1 => EE X B M Δ1 b fun y Δ2 => ∃ i j, x = .int i ∧ y = .int j ∧ Φ (.int (g i j)) Δ2) : EE X B M Δ (.BinOp a op b pos) Φ :=
  ee_two (pe_op ho pe_self pe_self) h fun x Δ1 y Δ2 p σ H v w Q S d1 d2 k => by
    obtain ⟨i, j, rfl, rfl, q⟩ := p
    cases d1; cases d2
    exact ⟨i, j, rfl, rfl, k _ _ _ H q (Fe.refl _ _) S (.int _)⟩
theorem ee_I {op : Operator} {pos : Pos} {C : Int → Int → Prop} {g : Int → Int → Int} (ho : OpR X (binaryOp op) (rI C fun i j => .int (g i j))) (h : EE X B M Δ a fun x Δ1 => EE X B M Δ1 b fun y Δ2 => ∃ i j, x = .int i ∧ y = .int j ∧ C i j ∧ Φ (.int (g i j)) Δ2) : EE X B M Δ (.BinOp a op b pos) Φ :=
  ee_two (pe_op ho pe_self pe_self) h fun x Δ1 y Δ2 p σ H v w Q S d1 d2 k => by
    obtain ⟨i, j, rfl, rfl, c, q⟩ := p
    cases d1; cases d2
    exact ⟨i, j, rfl, rfl, c, k _ _ _ H q (Fe.refl _ _) S (.int _)⟩
theorem ee_add {pos : Pos} (h : EE X B M Δ a fun x Δ1 => EE X B M Δ1 b fun y Δ2 => ∃ i j, x = .int i ∧ y = .int j ∧ Φ (.int (i + j)) Δ2) : EE X B M Δ (.BinOp a .Add b pos) Φ := ee_I0 op_add h
theorem ee_sub {pos : Pos} (h : EE X B M Δ a fun x Δ1 => EE X B M Δ1 b fun y Δ2 => ∃ i j, x = .int i ∧ y = .int j ∧ Φ (.int (i - j)) Δ2) : EE X B M Δ (.BinOp a .Sub b pos) Φ := ee_I0 op_sub h
theorem ee_mul {pos : Pos} (h : EE X B M Δ a fun x Δ1 => EE X B M Δ1 b fun y Δ2 => ∃ i j, x = .int i ∧ y = .int j ∧ CMul i j ∧ Φ (.int (i * j)) Δ2) : EE X B M Δ (.BinOp a .Mult b pos) Φ := ee_I op_mul h
theorem ee_mod {pos : Pos} (h : EE X B M Δ a fun x Δ1 => EE X B M Δ1 b fun y Δ2 => ∃ i j, x = .int i ∧ y = .int j ∧ 0 < j ∧ Φ (.int (i % j)) Δ2) : EE X B M Δ (.BinOp a .Mod b pos) Φ := ee_I (C := fun _ j => 0 < j) op_mod h
theorem ee_fdiv {pos : Pos} (h : EE X B M Δ a fun x Δ1 => EE X B M Δ1 b fun y Δ2 => ∃ i j, x = .int i ∧ y = .int j ∧ CDiv i j ∧ Φ (.int (i / j)) Δ2) : EE X B M Δ (.BinOp a .FloorDiv b pos) Φ := ee_I op_fdiv h
theorem ee_pow {pos : Pos} (h : EE X B M Δ a fun x Δ1 => EE X B M Δ1 b fun y Δ2 => ∃ i j, x = .int i ∧ y = .int j ∧ CPow i j ∧ Φ (.int (i ^ j.toNat)) Δ2) : EE X B M Δ (.BinOp a .Pow b pos) Φ := ee_I op_pow h
theorem ee_adds {pos : Pos} (h : EE X B M Δ a fun x Δ1 => EE X B M Δ1 b fun y Δ2 => ∃ i j, x = .str i ∧ y = .str j ∧ i.length + j.length ≤ sizeLine ∧ Φ (.str (i ++ j)) Δ2) : EE X B M Δ (.BinOp a .Add b pos) Φ :=
  ee_two (pe_op op_add_str pe_self pe_self) h fun x Δ1 y Δ2 p σ H v w Q S d1 d2 k => by
    obtain ⟨i, j, rfl, rfl, c, q⟩ := p
    cases d1; cases d2
    exact ⟨i, j, rfl, rfl, c, k _ _ _ H q (Fe.refl _ _) S (.str _)⟩
theorem ee_neg {pos : Pos} (h : EE X B M Δ a fun x Δ1 => ∃ i, x = .int i ∧ Φ (.int (-i)) Δ1) : EE X B M Δ (.UnaryOp .USub a pos) Φ := fun σ H S Q k =>
  PE.to (pe_un un_neg pe_self) (h σ H S _ fun x Δ1 v H1 p s1 S1 d1 => by
    obtain ⟨i, rfl, q⟩ := p
    cases d1
    exact ⟨i, rfl, k _ _ _ H1 q s1 S1 (.int _)⟩)
end
end Wf

set_option Elab.async false
set_option linter.all false
set_option maxRecDepth 100000
set_option maxHeartbeats 1000000
namespace Wf
open PySem PySem.Spec PyProof.Rows L2 LamX
section
variable {X : Cx} {B : Bs} {M : Pl} {Δ : List En} {e a b c d : Expr} {es : List Expr} {Φ Φ' : Tr → List En → Prop} {Γ : Bool → List En → Prop}
/-! ### tests -/
theorem ET.mono {Γ' : Bool → List En → Prop} (h : ET X B M Δ e Γ) (q : ∀ t Δ', Γ t Δ' → Γ' t Δ') : ET X B M Δ e Γ' := fun σ H S Q k => h σ H S Q fun t Δ' H' p => k t Δ' H' (q t Δ' p)
theorem et_val (h : EE X B M Δ e fun t Δ' => ∃ k, t = .bl k ∧ Γ k Δ') (he : ∀ whole, isTrue e X.env whole = (do let v ← whole; standAt e.pos; holding [v] (truthy v)) := by intro _; rfl) : ET X B M Δ e Γ := fun σ H S Q k =>
  PT.to (pt_val pe_self he) (h σ H S _ fun t Δ' v H' p f S' dd => by
    obtain ⟨x, rfl, q⟩ := p
    cases dd
    exact ⟨x, rfl, k x Δ' H' q f S'⟩)
def truD : Tr → Bool → Prop
  | .non, k => k = false
  | .int i, k => k = (i != 0)
  | .str x, k => x.length ≤ sizeLine ∧ k = ((x.length : Int) != 0)
  | .bl b, k => k = b
  | .lst ts, k => k = !ts.isEmpty
  | .tup ts, k => k = !ts.isEmpty
  | _, _ => False
/-- a list, a tuple, a text, a number, None as a test -/
theorem et_tru (h : EE X B M Δ e fun t Δ' => ∃ k, truD t k ∧ Γ k Δ')
    (he : ∀ whole, isTrue e X.env whole = (do let v ← whole; standAt e.pos; holding [v] (truthy v)) := by intro _; rfl) : ET X B M Δ e Γ := fun σ H S Q k =>
  PT.to (pt_truth pe_self he) (h σ H S _ fun t Δ' v H' p f S' dd => by
    obtain ⟨x, hx, q⟩ := p
    refine ⟨x, ?_, k x Δ' H' q f S'⟩
    cases dd with
    | non => exact hx
    | bl b => exact hx
    | int i => exact hx
    | str z => exact hx
    | lst h1 h2 =>
      refine Or.inl ⟨_, sub_seqL mi_sub h1, ?_⟩
      rw [hx]
      have := h2.length
      rename_i xs ts
      cases xs <;> cases ts <;> first | rfl | (simp at this)
    | tup h1 h2 =>
      refine Or.inr (.inl ⟨_, sub_seqT mi_sub h1, ?_⟩)
      rw [hx]
      have := h2.length
      rename_i xs ts
      cases xs <;> cases ts <;> first | rfl | (simp at this)
    | dct _ _ => exact hx.elim
    | ins _ _ => exact hx.elim
    | opq _ => exact hx.elim)
theorem et_not {pos : Pos} (h : ET X B M Δ a fun k Δ' => Γ (!k) Δ') : ET X B M Δ (.UnaryOp .Not a pos) Γ := fun σ H S Q k =>
  PT.to (pt_not pt_self) (h σ H S _ fun t Δ' H' p f S' => k _ Δ' H' p f S')
theorem et_and2 {pos : Pos} (h : ET X B M Δ a fun k Δ1 => (k = true → ET X B M Δ1 b Γ) ∧ (k = false → Γ false Δ1)) : ET X B M Δ (.BoolOp .And [a, b] pos) Γ := fun σ H S Q k =>
  PT.to (PW.pt (pw_and pt_self (pw_and1 pt_self))) (h σ H S _ fun t Δ' H' p f S' => by
    cases t with
    | true =>
      refine iteT (p.1 rfl σ H' S' Q fun t2 Δ2 H2 p2 f2 S2 => k t2 Δ2 H2 p2 (f.trans f2) S2)
    | false => exact iteF (k false Δ' H' (p.2 rfl) f S'))
theorem et_or2 {pos : Pos} (h : ET X B M Δ a fun k Δ1 => (k = true → Γ true Δ1) ∧ (k = false → ET X B M Δ1 b Γ)) : ET X B M Δ (.BoolOp .Or [a, b] pos) Γ := fun σ H S Q k =>
  PT.to (PW.pt (pw_or pt_self (pw_or1 pt_self))) (h σ H S _ fun t Δ' H' p f S' => by
    cases t with
    | true => exact iteT (k true Δ' H' (p.1 rfl) f S')
    | false => exact iteF (p.2 rfl σ H' S' Q fun t2 Δ2 H2 p2 f2 S2 => k t2 Δ2 H2 p2 (f.trans f2) S2))
/-- the rest of a chain of and, or: as one of its own -/
def EW (X : Cx) (B : Bs) (M : Pl) (Δ : List En) (e : Expr) (Γ : Bool → List En → Prop) : Prop := ∀ σ H, Sk X.K B M H σ Δ → ∀ Q : Bool → Hp → Prop,
  (∀ b Δ' H', Γ b Δ' → Fe M.w H H' → Sk X.K B M H' σ Δ' → Q b H') → ∀ (whole : Sem Value) pins s, Inv X pins σ H s → wpAny (model X.prog X.w) X.A (isTrue e X.env whole) (TP X pins σ Q) X.xe s
theorem pw_selfW {e : Expr} : PW X e (fun σ H Q => ∀ (whole : Sem Value) pins s, Inv X pins σ H s → wpAny (model X.prog X.w) X.A (isTrue e X.env whole) (TP X pins σ Q) X.xe s) := ⟨fun whole pins s σ H Q I h => h whole pins s I⟩
theorem et_ew (h : EW X B M Δ e Γ) : ET X B M Δ e Γ := fun σ H S Q k => PT.to (PW.pt pw_selfW) (h σ H S Q k)
theorem PW.toW {t : TT} (h : PW X e t) {σ : L2.St} {H : Hp} {Q : Bool → Hp → Prop} (q : t σ H Q) : ∀ (whole : Sem Value) pins s, Inv X pins σ H s → wpAny (model X.prog X.w) X.A (isTrue e X.env whole) (TP X pins σ Q) X.xe s := fun whole pins s I => h.run whole pins s σ H Q I q
theorem ew_and1 {pos : Pos} (h : ET X B M Δ a Γ) : EW X B M Δ (.BoolOp .And [a] pos) Γ := fun σ H S Q k => PW.toW (pw_and1 pt_self) (h σ H S Q k)
theorem ew_or1 {pos : Pos} (h : ET X B M Δ a Γ) : EW X B M Δ (.BoolOp .Or [a] pos) Γ := fun σ H S Q k => PW.toW (pw_or1 pt_self) (h σ H S Q k)
theorem ew_and {pos : Pos} (h : ET X B M Δ a fun k Δ1 => (k = true → EW X B M Δ1 (.BoolOp .And (b :: es) pos) Γ) ∧ (k = false → Γ false Δ1)) : EW X B M Δ (.BoolOp .And (a :: b :: es) pos) Γ := fun σ H S Q k =>
  PW.toW (pw_and pt_self pw_selfW) (h σ H S _ fun t Δ' H' p f S' => by
    cases t with
    | true => exact iteT (p.1 rfl σ H' S' Q fun t2 Δ2 H2 p2 f2 S2 => k t2 Δ2 H2 p2 (f.trans f2) S2)
    | false => exact iteF (k false Δ' H' (p.2 rfl) f S'))
theorem ew_or {pos : Pos} (h : ET X B M Δ a fun k Δ1 => (k = true → Γ true Δ1) ∧ (k = false → EW X B M Δ1 (.BoolOp .Or (b :: es) pos) Γ)) : EW X B M Δ (.BoolOp .Or (a :: b :: es) pos) Γ := fun σ H S Q k =>
  PW.toW (pw_or pt_self pw_selfW) (h σ H S _ fun t Δ' H' p f S' => by
    cases t with
    | true => exact iteT (k true Δ' H' (p.1 rfl) f S')
    | false => exact iteF (p.2 rfl σ H' S' Q fun t2 Δ2 H2 p2 f2 S2 => k t2 Δ2 H2 p2 (f.trans f2) S2))
/-! ### comparisons, as values and as tests -/
theorem et_two {E : Expr} {r : R2} (hE : PT X E (tTest (tOp r (WE X a) (WE X b)))) {Ψ : Tr → List En → Tr → List En → Prop}
    (h : EE X B M Δ a fun x Δ1 => EE X B M Δ1 b fun y Δ2 => Ψ x Δ1 y Δ2)
    (hr : ∀ x Δ1 y Δ2, Ψ x Δ1 y Δ2 → ∀ σ H v w (Q : VK), Sk X.K B M H σ Δ2 → Dt X.K (mi M.m H) v x → Dt X.K (mi M.m H) w y → (∀ t Δ' H', Γ t Δ' → Fe M.w H H' → Sk X.K B M H' σ Δ' → Q (.bl t) H') → r v w H Q) : ET X B M Δ E Γ := fun σ H S Q k =>
  PT.to hE (h σ H S _ fun x Δ1 v H1 p s1 S1 d1 => p σ H1 S1 _ fun y Δ2 w H2 p2 s2 S2 d2 => hr x Δ1 y Δ2 p2 σ H2 v w _ S2 (d1.mono (S1.sub s2)) d2 fun t Δ' H' p3 s3 S3 => ⟨t, rfl, k t Δ' H' p3 ((s1.trans s2).trans s3) S3⟩)
/-- what a comparison of data asks, and its answer -/
def CmpD (X : Cx) (op : CmpOp) (B : Bs) (M : Pl) (Γ : Bool → List En → Prop) (Ψ : Tr → Tr → List En → Prop) : Prop := ∃ r, OpR X (compareOp op) r ∧
  ∀ x y Δ2, Ψ x y Δ2 → ∀ σ H v w (Q : VK), Sk X.K B M H σ Δ2 → Dt X.K (mi M.m H) v x → Dt X.K (mi M.m H) w y → (∀ t Δ' H', Γ t Δ' → Fe M.w H H' → Sk X.K B M H' σ Δ' → Q (.bl t) H') → r v w H Q
theorem et_cmp {op : CmpOp} {pos : Pos} {Ψ : Tr → Tr → List En → Prop} (hc : CmpD X op B M Γ Ψ) (h : EE X B M Δ a fun x Δ1 => EE X B M Δ1 b fun y Δ2 => Ψ x y Δ2) (hm : behindInMarks op b = false := by first | exact nomark _ | rfl | with_unfolding_all rfl) : ET X B M Δ (.Compare a [op] [b] pos) Γ := by
  obtain ⟨r, ho, hr⟩ := hc
  exact et_two (pt_cmpR ho pe_self pe_self hm) h fun x Δ1 y Δ2 p => hr x y Δ2 p
theorem ee_cmp {op : CmpOp} {pos : Pos} {Ψ : Tr → Tr → List En → Prop} (hc : CmpD X op B M (fun k => Φ (.bl k)) Ψ) (h : EE X B M Δ a fun x Δ1 => EE X B M Δ1 b fun y Δ2 => Ψ x y Δ2) (hm : behindInMarks op b = false := by first | exact nomark _ | rfl | with_unfolding_all rfl) : EE X B M Δ (.Compare a [op] [b] pos) Φ := by
  obtain ⟨r, ho, hr⟩ := hc
  exact ee_two (pe_cmpR ho pe_self pe_self hm) h fun x Δ1 y Δ2 p σ H v w Q S d1 d2 k => hr x y Δ2 p σ H v w Q S d1 d2 fun t Δ' H' q f S' => k _ Δ' _ H' q f S' (.bl t)
theorem cd_I {op : CmpOp} {g : Int → Int → Bool} (ho : OpR X (compareOp op) (rI0 fun i j => .bl (g i j))) : CmpD X op B M Γ fun x y Δ2 => ∃ i j, x = .int i ∧ y = .int j ∧ Γ (g i j) Δ2 :=
  ⟨_, ho, fun x y Δ2 p σ H v w Q S d1 d2 k => by
    obtain ⟨i, j, rfl, rfl, q⟩ := p
    cases d1; cases d2
    exact ⟨i, j, rfl, rfl, k _ _ H q (Fe.refl _ _) S⟩⟩
theorem cd_lt : CmpD X .Lt B M Γ fun x y Δ2 => ∃ i j, x = .int i ∧ y = .int j ∧ Γ (decide (i < j)) Δ2 := cd_I op_lt
theorem cd_le : CmpD X .LtE B M Γ fun x y Δ2 => ∃ i j, x = .int i ∧ y = .int j ∧ Γ (decide (i ≤ j)) Δ2 := cd_I op_le
theorem cd_gt : CmpD X .Gt B M Γ fun x y Δ2 => ∃ i j, x = .int i ∧ y = .int j ∧ Γ (decide (j < i)) Δ2 := cd_I op_gt
theorem cd_ge : CmpD X .GtE B M Γ fun x y Δ2 => ∃ i j, x = .int i ∧ y = .int j ∧ Γ (decide (j ≤ i)) Δ2 := cd_I op_ge
/-- is None: of anything that is no opaque value -/
def Tr.isN : Tr → Bool
  | .non => true
  | _ => false
def Tr.clear : Tr → Bool
  | .opq _ => false
  | _ => true
theorem dt_isN {K : PySem.W.Frag} {I : Hp} {v : V} {t : Tr} (h : Dt K I v t) (c : t.clear = true) : decide (v = .non) = t.isN := by
  cases h <;> first | (exact decide_eq_true rfl) | (exact decide_eq_false (fun z => V.noConfusion z)) | (cases c)
theorem cd_isN : CmpD X .Is B M Γ fun x y Δ2 => y = .non ∧ x.clear = true ∧ Γ x.isN Δ2 :=
  ⟨_, op_isN, fun x y Δ2 p σ H v w Q S d1 d2 k => by
    obtain ⟨rfl, c, q⟩ := p
    cases d2
    exact ⟨rfl, by rw [dt_isN d1 c]; exact k _ _ H q (Fe.refl _ _) S⟩⟩
theorem cd_notN : CmpD X .IsNot B M Γ fun x y Δ2 => y = .non ∧ x.clear = true ∧ Γ (!x.isN) Δ2 :=
  ⟨_, op_notN, fun x y Δ2 p σ H v w Q S d1 d2 k => by
    obtain ⟨rfl, c, q⟩ := p
    cases d2
    exact ⟨rfl, by rw [dt_isN d1 c]; exact k _ _ H q (Fe.refl _ _) S⟩⟩
/-- plain data: no dict, no instance -/
def Tr.pys : List Tr → (Tr → PyData) → List PyData := fun ts f => ts.map f
mutual
def Tr.py : Tr → PyData
  | .non => .none
  | .bl b => .bool b
  | .int i => .int i
  | .str x => .str x
  | .lst ts => .list (pyAll ts)
  | .tup ts => .tuple (pyAll ts)
  | .dct _ => .none
  | .ins _ _ => .none
  | .opq _ => .none
def pyAll : List Tr → List PyData
  | [] => []
  | t :: ts => t.py :: pyAll ts
end
mutual
def Tr.plain : Tr → Bool
  | .non => true
  | .bl _ => true
  | .int _ => true
  | .str _ => true
  | .lst ts => plainAll ts
  | .tup ts => plainAll ts
  | .dct _ => false
  | .ins _ _ => false
  | .opq _ => false
def plainAll : List Tr → Bool
  | [] => true
  | t :: ts => t.plain && plainAll ts
end
mutual
theorem Dt.dp {K : PySem.W.Frag} {I : Hp} : ∀ {v : V} {t : Tr}, Dt K I v t → t.plain = true → Dp K I v t.py
  | _, _, .non, _ => by unfold Tr.py; exact .non
  | _, _, .bl b, _ => by unfold Tr.py; exact .bl b
  | _, _, .int i, _ => by unfold Tr.py; exact .int i
  | _, _, .str x, _ => by unfold Tr.py; exact .str x
  | _, _, .lst h q, c => by
    unfold Tr.plain at c
    unfold Tr.py
    exact .lst h (Dts.dp q c)
  | _, _, .tup h q, c => by
    unfold Tr.plain at c
    unfold Tr.py
    exact .tup h (Dts.dp q c)
  | _, _, .dct h q, c => by unfold Tr.plain at c; cases c
  | _, _, .ins h q, c => by unfold Tr.plain at c; cases c
  | _, _, .opq v, c => by unfold Tr.plain at c; cases c
theorem Dts.dp {K : PySem.W.Frag} {I : Hp} : ∀ {v : List V} {t : List Tr}, Dts K I v t → plainAll t = true → DpAll K I v (pyAll t)
  | _, _, .nil, _ => by unfold pyAll; exact .nil
  | _, _, .cons h q, c => by
    unfold plainAll at c
    unfold pyAll
    rw [Bool.and_eq_true] at c
    exact .cons (Dt.dp h c.1) (Dts.dp q c.2)
end
def Tr.eqOk (t : Tr) : Prop := t.plain = true ∧ SeqAt.shaped t.py = true
theorem cd_eqD (hu : X.A.units + 64 < cLine) : CmpD X .Eq B M Γ fun x y Δ2 => x.eqOk ∧ y.eqOk ∧ Γ (PyData.eqv x.py y.py) Δ2 :=
  ⟨_, op_eqD hu, fun x y Δ2 p σ H v w Q S d1 d2 k => by
    obtain ⟨c1, c2, q⟩ := p
    exact ⟨x.py, y.py, (d1.mono mi_sub).dp c1.1, (d2.mono mi_sub).dp c2.1, c1.2, c2.2, k _ _ H q (Fe.refl _ _) S⟩⟩
theorem cd_neD (hu : X.A.units + 64 < cLine) : CmpD X .NotEq B M Γ fun x y Δ2 => x.eqOk ∧ y.eqOk ∧ Γ (!PyData.eqv x.py y.py) Δ2 :=
  ⟨_, op_neD hu, fun x y Δ2 p σ H v w Q S d1 d2 k => by
    obtain ⟨c1, c2, q⟩ := p
    exact ⟨x.py, y.py, (d1.mono mi_sub).dp c1.1, (d2.mono mi_sub).dp c2.1, c1.2, c2.2, k _ _ H q (Fe.refl _ _) S⟩⟩
theorem cd_eqI : CmpD X .Eq B M Γ fun x y Δ2 => ∃ i j, x = .int i ∧ y = .int j ∧ Γ (decide (i = j)) Δ2 :=
  ⟨_, op_eq, fun x y Δ2 p σ H v w Q S d1 d2 k => by
    obtain ⟨i, j, rfl, rfl, q⟩ := p
    cases d1; cases d2
    exact ⟨rfl, by rw [dec_int, Bool.beq_eq_decide_eq]; exact k _ _ H q (Fe.refl _ _) S⟩⟩
theorem cd_neI : CmpD X .NotEq B M Γ fun x y Δ2 => ∃ i j, x = .int i ∧ y = .int j ∧ Γ (!decide (i = j)) Δ2 :=
  ⟨_, op_ne, fun x y Δ2 p σ H v w Q S d1 d2 k => by
    obtain ⟨i, j, rfl, rfl, q⟩ := p
    cases d1; cases d2
    exact ⟨rfl, by rw [dec_int, Bool.beq_eq_decide_eq]; exact k _ _ H q (Fe.refl _ _) S⟩⟩
theorem cd_eqS : CmpD X .Eq B M Γ fun x y Δ2 => ∃ i j, x = .str i ∧ y = .str j ∧ Γ (decide (i = j)) Δ2 :=
  ⟨_, op_eq, fun x y Δ2 p σ H v w Q S d1 d2 k => by
    obtain ⟨i, j, rfl, rfl, q⟩ := p
    cases d1; cases d2
    exact ⟨rfl, by rw [dec_str, Bool.beq_eq_decide_eq]; exact k _ _ H q (Fe.refl _ _) S⟩⟩
theorem cd_neS : CmpD X .NotEq B M Γ fun x y Δ2 => ∃ i j, x = .str i ∧ y = .str j ∧ Γ (!decide (i = j)) Δ2 :=
  ⟨_, op_ne, fun x y Δ2 p σ H v w Q S d1 d2 k => by
    obtain ⟨i, j, rfl, rfl, q⟩ := p
    cases d1; cases d2
    exact ⟨rfl, by rw [dec_str, Bool.beq_eq_decide_eq]; exact k _ _ H q (Fe.refl _ _) S⟩⟩
/-- one sign in a text -/
theorem cd_inS : CmpD X .In B M Γ fun x y Δ2 => ∃ (c : Nat) (z : Str), x = .str ⟨#[c]⟩ ∧ y = .str z ∧ Γ (decide (c ∈ z.cps.toList)) Δ2 :=
  ⟨_, op_in_sign, fun x y Δ2 p σ H v w Q S d1 d2 k => by
    obtain ⟨i, j, rfl, rfl, q⟩ := p
    cases d1; cases d2
    exact ⟨i, j, rfl, rfl, k _ _ H q (Fe.refl _ _) S⟩⟩
/-! ### if-expressions, and, or, not as values -/
theorem ee_if {pos : Pos} (h : ET X B M Δ c fun k Δ1 => (k = true → EE X B M Δ1 a Φ) ∧ (k = false → EE X B M Δ1 b Φ)) : EE X B M Δ (.IfExp c a b pos) Φ := fun σ H S Q k =>
  PE.to (pe_ifExp pt_self pe_self pe_self) (h σ H S _ fun t Δ' H' p f S' => by
    cases t with
    | true => exact iteT (p.1 rfl σ H' S' Q fun t2 Δ2 v H2 p2 f2 S2 => k t2 Δ2 v H2 p2 (f.trans f2) S2)
    | false => exact iteF (p.2 rfl σ H' S' Q fun t2 Δ2 v H2 p2 f2 S2 => k t2 Δ2 v H2 p2 (f.trans f2) S2))
theorem ee_one {op : BoolOp} {pos : Pos} (h : EE X B M Δ a Φ) : EE X B M Δ (.BoolOp op [a] pos) Φ := fun σ H S Q k => PE.to (pe_one pe_self) (h σ H S Q k)
theorem ee_and {pos : Pos} (h : EE X B M Δ a fun t Δ1 => ∃ k, t = .bl k ∧ (k = true → EE X B M Δ1 (.BoolOp .And (b :: es) pos) Φ) ∧ (k = false → Φ (.bl false) Δ1)) : EE X B M Δ (.BoolOp .And (a :: b :: es) pos) Φ := fun σ H S Q k =>
  PE.to (pe_and pe_self pe_self) (h σ H S _ fun t Δ' v H' p f S' dd => by
    obtain ⟨x, rfl, p⟩ := p
    cases dd
    refine ⟨x, rfl, ?_⟩
    cases x with
    | true => exact iteT (p.1 rfl σ H' S' Q fun t2 Δ2 v H2 p2 f2 S2 => k t2 Δ2 v H2 p2 (f.trans f2) S2)
    | false => exact iteF (k _ Δ' _ H' (p.2 rfl) f S' (.bl false)))
theorem ee_or {pos : Pos} (h : EE X B M Δ a fun t Δ1 => ∃ k, t = .bl k ∧ (k = true → Φ (.bl true) Δ1) ∧ (k = false → EE X B M Δ1 (.BoolOp .Or (b :: es) pos) Φ)) : EE X B M Δ (.BoolOp .Or (a :: b :: es) pos) Φ := fun σ H S Q k =>
  PE.to (pe_or pe_self pe_self) (h σ H S _ fun t Δ' v H' p f S' dd => by
    obtain ⟨x, rfl, p⟩ := p
    cases dd
    refine ⟨x, rfl, ?_⟩
    cases x with
    | true => exact iteT (k _ Δ' _ H' (p.1 rfl) f S' (.bl true))
    | false => exact iteF (p.2 rfl σ H' S' Q fun t2 Δ2 v H2 p2 f2 S2 => k t2 Δ2 v H2 p2 (f.trans f2) S2))
theorem ee_not {pos : Pos} (h : EE X B M Δ a fun t Δ1 => ∃ k, t = .bl k ∧ Φ (.bl (!k)) Δ1) : EE X B M Δ (.UnaryOp .Not a pos) Φ := fun σ H S Q k =>
  PE.to (pe_not pe_self) (h σ H S _ fun t Δ' v H' p f S' dd => by
    obtain ⟨x, rfl, p⟩ := p
    cases dd
    exact ⟨x, rfl, k _ Δ' _ H' p f S' (.bl _)⟩)
/-! ### argument lists, tuples, lists -/
theorem ea_nil {Θ : List Tr → List En → Prop} (q : Θ [] Δ) : EA X B M Δ [] Θ := fun σ H S Q k => PA.to pa_nil (k [] Δ [] H q (Fe.refl _ _) S .nil)
theorem ea_cons {Θ : List Tr → List En → Prop} (h : EE X B M Δ e fun t Δ1 => EA X B M Δ1 es fun ts Δ2 => Θ (t :: ts) Δ2) (hs : starEach (e :: es) X.env = (false, eval e X.env) :: starEach es X.env := by rfl) : EA X B M Δ (e :: es) Θ := fun σ H S Q k =>
  PA.to (pa_cons pe_self pa_self hs) (h σ H S _ fun t Δ1 v H1 p f S1 d1 => p σ H1 S1 _ fun ts Δ2 vs H2 p2 f2 S2 d2 => k _ Δ2 _ H2 p2 (f.trans f2) S2 (.cons (d1.mono (S1.sub f2)) d2))
theorem ee_tup {x1 : _} {pos : Pos} (h : EA X B M Δ es fun ts Δ1 => ts.length ≤ sizeLine ∧ Φ (.tup ts) Δ1) : EE X B M Δ (.Tuple es x1 pos) Φ := fun σ H S Q k =>
  PE.to (pe_tup pa_self) (h σ H S _ fun ts Δ1 vs H1 p f S1 d1 => by
    refine ⟨by rw [d1.length]; exact p.1, fun q hq => ?_⟩
    have s := same_new (o := .tup vs) hq
    exact k _ Δ1 _ _ p.2 (f.trans (Fe.same s)) (S1.same s) (.tup (SqT.of (mi_of (S1.notM hq) upd_same)) (d1.mono (Sub.of s).mi)))
/-- a new list, owned -/
theorem Sk.newOwn {K : PySem.W.Frag} {H H' : Hp} {σ : L2.St} {l : Addr} {t : Tr} (S : Sk K B M H σ Δ) (hl : H l = none) (s : Same H H') (ow : Ow K (mi M.m H) H' l t) :
    Sk K B (ins M l) H' σ Δ ∧ (∀ e ∈ Δ, e.adr ≠ some l) ∧ Ow K (mi (ins M l).m H') H' l t := by
  have s2 : Sub (mi M.m H) (mi (ins M l).m H') := mi_new hl S (Fe.same s)
  have hn : ∀ e ∈ Δ, e.adr ≠ some l := fun e he z => by
    obtain ⟨i, hi⟩ := List.getElem?_of_mem he
    obtain ⟨o, _, h2⟩ := S.sl i e hi
    have hm : M.m l := by
      cases e with
      | any => cases z
      | dat t => cases z
      | own l' t => cases z; cases o with
        | none => exact h2.elim
        | some v => exact h2.2.1
      | pen l' N => cases z; cases o with
        | none => exact h2.elim
        | some v => exact S.wm _ h2.2.1
    exact S.notM hl hm
  have hex : ∃ o, H' l = some o := by
    cases t <;> first | exact ow.elim | skip
    · obtain ⟨xs, e, _⟩ := ow; exact ⟨_, e⟩
    · obtain ⟨xs, e, _⟩ := ow; exact ⟨_, e⟩
    · obtain ⟨_, xs, e, _⟩ := ow; exact ⟨_, e⟩
  have S' := S.same s
  refine ⟨{ len := S'.len, al := fun b z => z.elim (S'.al b) fun e => by rw [e]; exact hex, wm := fun b z => Or.inl (S.wm b z), m0 := fun b z => Or.inl (S.m0 b z), pm := S.pm, own := fun b z => z.elim (S.own b) fun e => .inr (by rw [e]; exact S.new0 hl), wp := S.wp, fr := S'.fr, tb := S'.tb, dis := S.dis, sl := fun i e q => ?_ }, hn, ow.mono s2 fun _ _ z => z⟩
  obtain ⟨o, h1, h2⟩ := S.sl i e q
  exact ⟨o, h1, h2.mono (M := M) (M' := ins M l) (fun b z => Or.inl z) (fun _ => Iff.rfl) s2 fun l' _ o _ z => s l' o z⟩
theorem eo_lst {pos : Pos} (h : EA X B M Δ es fun ts Δ1 => ts.length ≤ sizeLine ∧ Φ (.lst ts) Δ1) (hE : PE X (.List es pos) (tLst (WA X es)) := pe_lst pa_self) : EO X B M Δ (.List es pos) Φ := fun σ H S Q k =>
  PE.to hE (h σ H S _ fun ts Δ1 vs H1 p f S1 d1 => by
    refine ⟨by rw [d1.length]; exact p.1, fun q hq => ?_⟩
    have s := same_new (o := .lst vs) hq
    obtain ⟨a1, a2, a3⟩ := S1.newOwn (t := .lst ts) hq s ⟨vs, upd_same, d1⟩
    exact k _ Δ1 q _ p.2 (f.trans (Fe.same s)) (f.free (fun b z => S1.al b (S1.wm b z)) hq) a1 a2 a3)
/-! ### places of lists, tuples, texts -/
theorem atI_dts {K : PySem.W.Frag} {I : Hp} {xs : List V} {ts : List Tr} {i : Int} {t : Tr} (d : Dts K I xs ts) (h : atI ts i = some t) : ∃ v, atI xs i = some v ∧ Dt K I v t := by
  unfold atI at h ⊢
  rw [← d.length] at h
  cases e : ixN xs.length i with
  | none => rw [e] at h; cases h
  | some j =>
    rw [e] at h
    obtain ⟨v, h1, h2⟩ := d.get (i := j) (t := t) h
    exact ⟨v, h1, h2⟩
theorem ee_ixL {pos : Pos} (h : EE X B M Δ a fun x Δ1 => EE X B M Δ1 b fun y Δ2 => ∃ ts i t, x = .lst ts ∧ y = .int i ∧ atI ts i = some t ∧ Φ t Δ2) (hs : PlainIx b := by exact fun _ _ => rfl) : EE X B M Δ (.Subscript a b pos) Φ :=
  ee_two (pe_ix ix_list pe_self pe_self hs) h fun x Δ1 y Δ2 p σ H v w Q S d1 d2 k => by
    obtain ⟨ts, i, t, rfl, rfl, e, q⟩ := p
    cases d2
    cases d1 with
    | lst h1 h2 =>
      obtain ⟨z, e1, e2⟩ := atI_dts h2 e
      exact ⟨_, _, i, z, rfl, rfl, sub_seqL mi_sub h1, e1, k _ _ _ H q (Fe.refl _ _) S e2⟩
theorem ee_ixT {pos : Pos} (h : EE X B M Δ a fun x Δ1 => EE X B M Δ1 b fun y Δ2 => ∃ ts i t, x = .tup ts ∧ y = .int i ∧ atI ts i = some t ∧ Φ t Δ2) (hs : PlainIx b := by exact fun _ _ => rfl) : EE X B M Δ (.Subscript a b pos) Φ :=
  ee_two (pe_ix ix_tup pe_self pe_self hs) h fun x Δ1 y Δ2 p σ H v w Q S d1 d2 k => by
    obtain ⟨ts, i, t, rfl, rfl, e, q⟩ := p
    cases d2
    cases d1 with
    | tup h1 h2 =>
      obtain ⟨z, e1, e2⟩ := atI_dts h2 e
      exact ⟨_, _, i, z, rfl, rfl, sub_seqT mi_sub h1, e1, k _ _ _ H q (Fe.refl _ _) S e2⟩
theorem ee_ixS {pos : Pos} (h : EE X B M Δ a fun x Δ1 => EE X B M Δ1 b fun y Δ2 => ∃ (z : Str) (i : Int) (c : Nat), x = .str z ∧ y = .int i ∧ z.length ≤ sizeLine ∧ atI z.cps.toList i = some c ∧ Φ (.str ⟨#[c]⟩) Δ2) (hs : PlainIx b := by exact fun _ _ => rfl) : EE X B M Δ (.Subscript a b pos) Φ :=
  ee_two (pe_ix ix_str pe_self pe_self hs) h fun x Δ1 y Δ2 p σ H v w Q S d1 d2 k => by
    obtain ⟨z, i, c, rfl, rfl, hz, e, q⟩ := p
    cases d1; cases d2
    exact ⟨z, i, c, rfl, rfl, hz, e, k _ _ _ H q (Fe.refl _ _) S (.str _)⟩
/-! ### built-in calls -/
/-- what a call of f asks of the data, and what it gives -/
def CalD (X : Cx) (f : Value) (B : Bs) (M : Pl) (Φ : Tr → List En → Prop) (Ψ : List Tr → List En → Prop) : Prop := ∃ r, CallR X f r ∧
  ∀ ts Δ2, Ψ ts Δ2 → ∀ σ H vs (Q : VK), Sk X.K B M H σ Δ2 → Dts X.K (mi M.m H) vs ts → (∀ t Δ' v H', Φ t Δ' → Fe M.w H H' → Sk X.K B M H' σ Δ' → Dt X.K (mi M.m H') v t → Q v H') → r vs H Q
theorem ee_callB {x : Str} {id : String} {p pos : Pos} {Ψ : List Tr → List En → Prop} (hc : CalD X (.builtin id) B M Φ Ψ) (hg : Gl X x) (hm : X.mg x = none) (hv : bootBuiltins x = some (.builtin id)) (h : EA X B M Δ (e :: es) Ψ) (hn : x ≠ "__name__" := by decide) (hdb : (x == ("__debug__" : Str)) = false := by decide)
    (he : starEach (e :: es) X.env = (false, eval e X.env) :: starEach es X.env := by rfl) (hpl : (backTo pos (starEach es X.env)).any (·.1) = false := by rfl) : EE X B M Δ (.Call (.Name x p) (e :: es) [] pos) Φ := fun σ H S Q k => by
  obtain ⟨r, h1, h2⟩ := hc
  exact PE.to (pe_callB h1 hg hm hv pa_self hn hdb he hpl) (h σ H S _ fun ts Δ1 vs H1 p f S1 d1 => h2 ts Δ1 p σ H1 vs Q S1 d1 fun t Δ' v H' p2 f2 S2 d2 => k t Δ' v H' p2 (f.trans f2) S2 d2)
theorem ee_callTy {x : Str} {id : String} {p pos : Pos} {Ψ : List Tr → List En → Prop} (hc : CalD X (.type id) B M Φ Ψ) (hg : Gl X x) (hm : X.mg x = none) (hv : bootBuiltins x = some (.type id)) (h : EA X B M Δ (e :: es) Ψ) (hn : x ≠ "__name__" := by decide) (hdb : (x == ("__debug__" : Str)) = false := by decide)
    (he : starEach (e :: es) X.env = (false, eval e X.env) :: starEach es X.env := by rfl) (hpl : (backTo pos (starEach es X.env)).any (·.1) = false := by rfl) : EE X B M Δ (.Call (.Name x p) (e :: es) [] pos) Φ := fun σ H S Q k => by
  obtain ⟨r, h1, h2⟩ := hc
  exact PE.to (pe_callTy h1 hg hm hv pa_self hn hdb he hpl) (h σ H S _ fun ts Δ1 vs H1 p f S1 d1 => h2 ts Δ1 p σ H1 vs Q S1 d1 fun t Δ' v H' p2 f2 S2 d2 => k t Δ' v H' p2 (f.trans f2) S2 d2)
theorem cl_len : CalD X (.builtin "len") B M Φ fun ts Δ2 => ∃ t, ts = [t] ∧ ((∃ us, (t = .lst us ∨ t = .tup us) ∧ Φ (.int us.length) Δ2)) := ⟨_, call_len_seq, fun ts Δ2 p σ H vs Q S d k => by
  obtain ⟨t, rfl, us, ht, q⟩ := p
  cases d with
  | cons d1 d2 =>
    cases d2
    rcases ht with rfl | rfl
    · cases d1 with
      | lst h1 h2 => exact ⟨_, _, rfl, .inl (sub_seqL mi_sub h1), by rw [h2.length]; exact k _ _ _ H q (Fe.refl _ _) S (.int _)⟩
    · cases d1 with
      | tup h1 h2 => exact ⟨_, _, rfl, .inr (sub_seqT mi_sub h1), by rw [h2.length]; exact k _ _ _ H q (Fe.refl _ _) S (.int _)⟩⟩
theorem cl_lenS : CalD X (.builtin "len") B M Φ fun ts Δ2 => ∃ z : Str, ts = [.str z] ∧ z.length ≤ sizeLine ∧ Φ (.int z.length) Δ2 := ⟨_, call_len_str, fun ts Δ2 p σ H vs Q S d k => by
  obtain ⟨z, rfl, hz, q⟩ := p
  cases d with
  | cons d1 d2 =>
    cases d2; cases d1
    exact ⟨z, rfl, hz, k _ _ _ H q (Fe.refl _ _) S (.int _)⟩⟩
theorem cl_abs : CalD X (.builtin "abs") B M Φ fun ts Δ2 => ∃ i : Int, ts = [.int i] ∧ Φ (.int (if i < 0 then -i else i)) Δ2 := ⟨_, call_abs, fun ts Δ2 p σ H vs Q S d k => by
  obtain ⟨z, rfl, q⟩ := p
  cases d with
  | cons d1 d2 =>
    cases d2; cases d1
    exact ⟨z, rfl, k _ _ _ H q (Fe.refl _ _) S (.int _)⟩⟩
theorem cl_tuple : CalD X (.type "tuple") B M Φ fun ts Δ2 => ∃ us, (ts = [.lst us] ∨ ts = [.tup us]) ∧ Φ (.tup us) Δ2 := ⟨_, call_tuple_of, fun ts Δ2 p σ H vs Q S d k => by
  obtain ⟨us, ht, q⟩ := p
  rcases ht with rfl | rfl
  · cases d with
    | cons d1 d2 =>
      cases d2
      cases d1 with
      | lst h1 h2 =>
        refine ⟨_, _, rfl, .inl ⟨sub_seqL mi_sub h1, fun l hl => ?_⟩⟩
        rename_i a xs
        have s := same_new (o := .tup xs) hl
        exact k _ _ _ _ q (Fe.same s) (S.same s) (.tup (SqT.of (mi_of (S.notM hl) upd_same)) (h2.mono (Sub.of s).mi))
  · cases d with
    | cons d1 d2 =>
      cases d2
      cases d1 with
      | tup h1 h2 => exact ⟨_, _, rfl, .inr ⟨sub_seqT mi_sub h1, k _ _ _ H q (Fe.refl _ _) S (.tup h1 h2)⟩⟩⟩
theorem cl_all (hc : X.calm = true) : CalD X (.builtin "all") B M Φ fun ts Δ2 => ∃ bs : List Bool, ts = [.lst (bs.map Tr.bl)] ∧ Φ (.bl (bs.all id)) Δ2 := ⟨_, (cr_all hc), fun ts Δ2 p σ H vs Q S d k => by
  obtain ⟨us, rfl, q⟩ := p
  cases d with
  | cons d1 d2 =>
    cases d2
    cases d1 with
    | lst h1 h2 =>
      have e := of_bls us h2
      subst e
      exact ⟨_, us, rfl, sub_seqL mi_sub h1, k _ _ _ H q (Fe.refl _ _) S (.bl _)⟩⟩
/-- a built-in's call that gives a new list -/
def CalO (X : Cx) (f : Value) (B : Bs) (M : Pl) (Φ : Tr → List En → Prop) (Ψ : List Tr → List En → Prop) : Prop := ∃ r, CallR X f r ∧
  ∀ ts Δ2, Ψ ts Δ2 → ∀ σ H vs (Q : VK), Sk X.K B M H σ Δ2 → Dts X.K (mi M.m H) vs ts → (∀ t l H', Φ t Δ2 → Same H H' → H l = none → Ow X.K (mi M.m H) H' l t → Q (.ref l) H') → r vs H Q
theorem eo_callTy {x : Str} {id : String} {p pos : Pos} {Ψ : List Tr → List En → Prop} (hc : CalO X (.type id) B M Φ Ψ) (hg : Gl X x) (hm : X.mg x = none) (hv : bootBuiltins x = some (.type id)) (h : EA X B M Δ (e :: es) Ψ) (hn : x ≠ "__name__" := by decide) (hdb : (x == ("__debug__" : Str)) = false := by decide)
    (he : starEach (e :: es) X.env = (false, eval e X.env) :: starEach es X.env := by rfl) (hpl : (backTo pos (starEach es X.env)).any (·.1) = false := by rfl) : EO X B M Δ (.Call (.Name x p) (e :: es) [] pos) Φ := fun σ H S Q k => by
  obtain ⟨r, h1, h2⟩ := hc
  refine PE.to (pe_callTy h1 hg hm hv pa_self hn hdb he hpl) (h σ H S _ fun ts Δ1 vs H1 p f S1 d1 => h2 ts Δ1 p σ H1 vs Q S1 d1 fun t l H' p2 s hl ow => ?_)
  obtain ⟨a1, a2, a3⟩ := S1.newOwn hl s ow
  exact k t Δ1 l H' p2 (f.trans (Fe.same s)) (f.free (fun b z => S1.al b (S1.wm b z)) hl) a1 a2 a3
theorem eo_callB {x : Str} {id : String} {p pos : Pos} {Ψ : List Tr → List En → Prop} (hc : CalO X (.builtin id) B M Φ Ψ) (hg : Gl X x) (hm : X.mg x = none) (hv : bootBuiltins x = some (.builtin id)) (h : EA X B M Δ (e :: es) Ψ) (hn : x ≠ "__name__" := by decide) (hdb : (x == ("__debug__" : Str)) = false := by decide)
    (he : starEach (e :: es) X.env = (false, eval e X.env) :: starEach es X.env := by rfl) (hpl : (backTo pos (starEach es X.env)).any (·.1) = false := by rfl) : EO X B M Δ (.Call (.Name x p) (e :: es) [] pos) Φ := fun σ H S Q k => by
  obtain ⟨r, h1, h2⟩ := hc
  refine PE.to (pe_callB h1 hg hm hv pa_self hn hdb he hpl) (h σ H S _ fun ts Δ1 vs H1 p f S1 d1 => h2 ts Δ1 p σ H1 vs Q S1 d1 fun t l H' p2 s hl ow => ?_)
  obtain ⟨a1, a2, a3⟩ := S1.newOwn hl s ow
  exact k t Δ1 l H' p2 (f.trans (Fe.same s)) (f.free (fun b z => S1.al b (S1.wm b z)) hl) a1 a2 a3
theorem co_list : CalO X (.type "list") B M Φ fun ts Δ2 => ∃ us, (ts = [.lst us] ∨ ts = [.tup us]) ∧ Φ (.lst us) Δ2 := ⟨_, call_list_of, fun ts Δ2 p σ H vs Q S d k => by
  obtain ⟨us, ht, q⟩ := p
  rcases ht with rfl | rfl
  · cases d with
    | cons d1 d2 =>
      cases d2
      cases d1 with
      | lst h1 h2 => exact ⟨_, _, rfl, .inl (sub_seqL mi_sub h1), fun l hl => k _ l _ q (same_new hl) hl ⟨_, upd_same, h2⟩⟩
  · cases d with
    | cons d1 d2 =>
      cases d2
      cases d1 with
      | tup h1 h2 => exact ⟨_, _, rfl, .inr (sub_seqT mi_sub h1), fun l hl => k _ l _ q (same_new hl) hl ⟨_, upd_same, h2⟩⟩⟩
theorem co_sortedI : CalO X (.builtin "sorted") B M Φ fun ts Δ2 => ∃ ns : List Int, ts = [.lst (ns.map Tr.int)] ∧ ns.length < 64 ∧ ∀ ns' : List Int, ns'.Perm ns → ns'.Pairwise (· ≤ ·) → Φ (.lst (ns'.map Tr.int)) Δ2 := ⟨_, cr_sorted, fun ts Δ2 p σ H vs Q S d k => by
  obtain ⟨ns, rfl, hz, q⟩ := p
  cases d with
  | cons d1 d2 =>
    cases d2
    cases d1 with
    | lst h1 h2 =>
      have e := of_ints ns h2
      subst e
      exact ⟨_, ns, rfl, sub_seqL mi_sub h1, hz, fun ns' l a1 a2 a3 => k _ l _ (q ns' a1 a2) (same_new a3) a3 ⟨_, upd_same, dts_ints _⟩⟩⟩
end
end Wf

set_option Elab.async false
set_option linter.all false
set_option maxRecDepth 100000
set_option maxHeartbeats 1000000
namespace Wf
open PySem PySem.Spec PyProof.Rows L2 LamX
/-! ### statements -/
structure Eo where
  nx : Pl → List En → Prop
  rt : Tr → List En → Prop
  bk : Pl → List En → Prop := fun _ _ => False
  ct : Pl → List En → Prop := fun _ _ => False
structure Post (K : PySem.W.Frag) (B : Bs) (M : Pl) (H : Hp) (D : Ends) (Ψ : Eo) : Prop where
  nx : ∀ M' Δ' σ' H', Ψ.nx M' Δ' → Sub (mi M.m H) (mi M'.m H') → Sk K B M' H' σ' Δ' → D.nx σ' H'
  rt : ∀ t M' Δ' v σ' H', Ψ.rt t Δ' → Sub (mi M.m H) (mi M'.m H') → Sk K B M' H' σ' Δ' → Dt K (mi M'.m H') v t → D.rt v H'
  bk : ∀ M' Δ' σ' H', Ψ.bk M' Δ' → Sub (mi M.m H) (mi M'.m H') → Sk K B M' H' σ' Δ' → D.bk σ' H'
  ct : ∀ M' Δ' σ' H', Ψ.ct M' Δ' → Sub (mi M.m H) (mi M'.m H') → Sk K B M' H' σ' Δ' → D.ct σ' H'
theorem Post.sub {K : PySem.W.Frag} {B : Bs} {M M1 : Pl} {H H1 : Hp} {D : Ends} {Ψ : Eo} (p : Post K B M H D Ψ) (s : Sub (mi M.m H) (mi M1.m H1)) : Post K B M1 H1 D Ψ :=
  ⟨fun M' Δ' σ' H' a b c => p.nx M' Δ' σ' H' a (s.trans b) c, fun t M' Δ' v σ' H' a b c => p.rt t M' Δ' v σ' H' a (s.trans b) c, fun M' Δ' σ' H' a b c => p.bk M' Δ' σ' H' a (s.trans b) c, fun M' Δ' σ' H' a b c => p.ct M' Δ' σ' H' a (s.trans b) c⟩
def SS (X : Cx) (B : Bs) (M : Pl) (Δ : List En) (ss : List Stmt) (Ψ : Eo) : Prop := ∀ σ H, Sk X.K B M H σ Δ → ∀ D : Ends, Post X.K B M H D Ψ → WSs X ss D σ H
def S1 (X : Cx) (B : Bs) (M : Pl) (Δ : List En) (st : Stmt) (Ψ : Eo) : Prop := ∀ σ H, Sk X.K B M H σ Δ → ∀ D : Ends, Post X.K B M H D Ψ → WS X st D σ H
section
variable {X : Cx} {B : Bs} {M : Pl} {Δ : List En} {e a b c : Expr} {es : List Expr} {Ψ : Eo} {st : Stmt} {ss body : List Stmt} {pos : Pos}
theorem ss_nil (h : Ψ.nx M Δ) : SS X B M Δ [] Ψ := fun σ H S D p => PSs.to pss_nil (p.nx M Δ σ H h (Sub.refl _) S)
theorem ss_cons (h : S1 X B M Δ st { Ψ with nx := fun M1 Δ1 => SS X B M1 Δ1 ss Ψ }) : SS X B M Δ (st :: ss) Ψ := fun σ H S D p =>
  PSs.to (pss_cons ps_self pss_self) (h σ H S { D with nx := WSs X ss D } ⟨fun M1 Δ1 σ1 H1 q s S1 => q σ1 H1 S1 D (p.sub s), p.rt, p.bk, p.ct⟩)
theorem ss_one (h : S1 X B M Δ st Ψ) : SS X B M Δ [st] Ψ := fun σ H S D p => PSs.to (pss_one ps_self) (h σ H S D p)
/-- an owned slot is given out: from now on it stands still -/
def rem (M : Pl) (l : Addr) : Pl := ⟨fun b => M.m b ∧ b ≠ l, M.w⟩
theorem Sk.share {K : PySem.W.Frag} {H : Hp} {σ : L2.St} {i : Nat} {l : Addr} {t : Tr} (S : Sk K B M H σ Δ) (h : Δ[i]? = some (.own l t)) : Sk K B (rem M l) H σ (Δ.set i (.dat t)) := by
  obtain ⟨h1, h2, h3, h4, h5⟩ := S.ownAt h
  have hs : Sub (mi M.m H) (mi (rem M l).m H) := mi_le fun b z => z.1
  have hi : i < Δ.length := (List.getElem?_eq_some_iff.mp h).1
  refine { len := by rw [List.length_set]; exact S.len, al := fun b z => S.al b z.1, wm := fun b z => ⟨S.wm b z, fun e => h4 (e ▸ z)⟩, m0 := fun b z => ⟨S.m0 b z, fun e => h3 (e ▸ z)⟩, pm := S.pm, own := fun b z => S.own b z.1, wp := S.wp, fr := S.fr, tb := S.tb, dis := fun a b e f l' he hf el fl => ?_, sl := fun j e q => ?_ }
  · have ha : a ≠ i := by
      rintro rfl
      rw [List.getElem?_set_self hi] at he
      cases he; cases el
    have hb : b ≠ i := by
      rintro rfl
      rw [List.getElem?_set_self hi] at hf
      cases hf; cases fl
    rw [List.getElem?_set_ne (Ne.symm ha)] at he
    rw [List.getElem?_set_ne (Ne.symm hb)] at hf
    exact S.dis a b e f l' he hf el fl
  · by_cases hj : j = i
    · subst hj
      rw [List.getElem?_set_self hi] at q
      cases q
      exact ⟨_, h1, (h5.mono hs fun _ _ z => z).dt fun o _ z => mi_of (fun y => y.2 rfl) z⟩
    · rw [List.getElem?_set_ne (Ne.symm hj)] at q
      obtain ⟨o, e1, e2⟩ := S.sl j e q
      refine ⟨o, e1, ?_⟩
      have hne : ∀ l', e.adr = some l' → l' ≠ l := fun l' z y => hj (S.dis j i e _ l q h (by rw [z, y]) rfl)
      cases o with
      | none => cases e <;> first | exact True.intro | exact e2.elim
      | some v =>
        cases e with
        | any => exact True.intro
        | dat t => exact Dt.mono hs e2
        | own l' t =>
          obtain ⟨x1, x2, x3, x4, x5⟩ := e2
          exact ⟨x1, ⟨x2, hne l' rfl⟩, x3, x4, x5.mono hs fun _ _ z => z⟩
        | pen l' N =>
          obtain ⟨x1, x2, x3⟩ := e2
          exact ⟨x1, x2, x3.mono hs fun _ _ z => z⟩
theorem ss_share (i : Nat) {l : Addr} {t : Tr} (hi : Δ[i]? = some (.own l t)) (h : SS X B (rem M l) (Δ.set i (.dat t)) ss Ψ) : SS X B M Δ ss Ψ := fun σ H S D p => h σ H (S.share hi) D (p.sub (mi_le fun b z => z.1))
theorem s1_share (i : Nat) {l : Addr} {t : Tr} (hi : Δ[i]? = some (.own l t)) (h : S1 X B (rem M l) (Δ.set i (.dat t)) st Ψ) : S1 X B M Δ st Ψ := fun σ H S D p => h σ H (S.share hi) D (p.sub (mi_le fun b z => z.1))
/-- an owned slot is read, and the answer is no object -/
def Tr.scal : Tr → Bool
  | .non => true
  | .bl _ => true
  | .int _ => true
  | .str _ => true
  | _ => false
theorem Dt.scal {K : PySem.W.Frag} {I I' : Hp} {v : V} {t : Tr} (h : Dt K I v t) (c : t.scal = true) : Dt K I' v t := by
  cases h <;> first | (cases c; done) | exact .non | exact .bl _ | exact .int _ | exact .str _
theorem Sk.back {K : PySem.W.Frag} {H H' : Hp} {σ : L2.St} {i : Nat} {l : Addr} {t : Tr} (S : Sk K B M H σ Δ) (h : Δ[i]? = some (.own l t)) (f : Fe M.w H H') (S' : Sk K B (rem M l) H' σ (Δ.set i (.dat t))) : Sk K B M H' σ Δ := by
  obtain ⟨h1, h2, h3, h4, h5⟩ := S.ownAt h
  have hs := S.sub f
  refine { len := S.len, al := fun b z => ?_, wm := S.wm, m0 := S.m0, pm := S.pm, own := S.own, wp := S.wp, fr := S'.fr, tb := S'.tb, dis := S.dis, sl := fun j e q => ?_ }
  · by_cases hb : b = l
    · subst hb
      have : ∃ o, NT o ∧ H b = some o := by
        cases t <;> first | exact h5.elim | skip
        · obtain ⟨xs, e, _⟩ := h5; exact ⟨_, nt_lst, e⟩
        · obtain ⟨xs, e, _⟩ := h5; exact ⟨_, nt_dK, e⟩
        · obtain ⟨_, xs, e, _⟩ := h5; exact ⟨_, nt_ins, e⟩
      obtain ⟨o, n, e⟩ := this
      exact ⟨o, f.k _ o h4 n e⟩
    · exact S'.al b ⟨z, hb⟩
  · obtain ⟨o, e1, e2⟩ := S.sl j e q
    refine ⟨o, e1, ?_⟩
    cases o with
    | none => cases e <;> first | exact True.intro | exact e2.elim
    | some v =>
      cases e with
      | any => exact True.intro
      | dat t => exact Dt.mono hs e2
      | own l' t =>
        obtain ⟨x1, x2, x3, x4, x5⟩ := e2
        exact ⟨x1, x2, x3, x4, x5.mono hs fun o n z => f.k _ o x4 n z⟩
      | pen l' N =>
        have hj : j ≠ i := by
          rintro rfl
          rw [h] at q; cases q
        obtain ⟨_, y1, sp, mo, z1, z2, z3⟩ := S'.penAt (i := j) (p := l') (N := N) (by rw [List.getElem?_set_ne (Ne.symm hj)]; exact q)
        obtain ⟨x1, x2, _, _, w1, w2, w3⟩ := e2
        exact ⟨x1, x2, sp, mo, z1, sub_seqL hs w2, z3⟩
theorem EE.borrow (i : Nat) {l : Addr} {t : Tr} {Φ : Tr → List En → Prop} (hi : Δ[i]? = some (.own l t)) (h : EE X B (rem M l) (Δ.set i (.dat t)) e fun r Δ' => r.scal = true ∧ Δ' = Δ.set i (.dat t) ∧ Φ r Δ) : EE X B M Δ e Φ := fun σ H S Q k =>
  h σ H (S.share hi) Q fun r Δ' v H' p f S' d => by
    obtain ⟨p1, rfl, p3⟩ := p
    exact k r Δ v H' p3 f (S.back hi f S') (d.scal p1)
theorem ET.borrow (i : Nat) {l : Addr} {t : Tr} {Γ : Bool → List En → Prop} (hi : Δ[i]? = some (.own l t)) (h : ET X B (rem M l) (Δ.set i (.dat t)) e fun r Δ' => Δ' = Δ.set i (.dat t) ∧ Γ r Δ) : ET X B M Δ e Γ := fun σ H S Q k =>
  h σ H (S.share hi) Q fun r Δ' H' p f S' => by
    obtain ⟨rfl, p3⟩ := p
    exact k r Δ H' p3 f (S.back hi f S')
/-! ### assignments, returns, expressions, ifs -/
theorem s_expr {Φ : Tr → List En → Prop} (h : EE X B M Δ e fun _ Δ1 => Ψ.nx M Δ1) (hs : swapsWith e none pos.line X.env = pure false := by rfl) : S1 X B M Δ (.Expr e pos) Ψ := fun σ H S D p =>
  PS.to (ps_expr pe_self hs) (h σ H S _ fun t Δ1 v H1 q f S1 d => p.nx M Δ1 σ H1 q (S.sub f) S1)
theorem s_ret (h : EE X B M Δ e fun t Δ1 => Ψ.rt t Δ1) : S1 X B M Δ (.Return (some e) pos) Ψ := fun σ H S D p =>
  PS.to (ps_ret pe_self) (h σ H S _ fun t Δ1 v H1 q f S1 d => p.rt t M Δ1 v σ H1 q (S.sub f) S1 d)
theorem s_retN (h : Ψ.rt .non Δ) : S1 X B M Δ (.Return none pos) Ψ := fun σ H S D p => PS.to ps_retN (p.rt .non M Δ .non σ H h (Sub.refl _) S .non)
theorem s_pass (h : Ψ.nx M Δ) : S1 X B M Δ (.Pass pos) Ψ := fun σ H S D p => PS.to ps_pass (p.nx M Δ σ H h (Sub.refl _) S)
theorem s_break (h : Ψ.bk M Δ) : S1 X B M Δ (.Break pos) Ψ := fun σ H S D p => PS.to ps_break (p.bk M Δ σ H h (Sub.refl _) S)
theorem s_continue (h : Ψ.ct M Δ) : S1 X B M Δ (.Continue pos) Ψ := fun σ H S D p => PS.to ps_continue (p.ct M Δ σ H h (Sub.refl _) S)
theorem s_if {orelse : List Stmt} (h : ET X B M Δ c fun k Δ1 => (k = true → SS X B M Δ1 body Ψ) ∧ (k = false → SS X B M Δ1 orelse Ψ)) : S1 X B M Δ (.If c body orelse pos) Ψ := fun σ H S D p =>
  PS.to (ps_if pt_self pss_self pss_self) (h σ H S _ fun k Δ1 H1 q f S1 => by
    cases k with
    | true => exact iteT (q.1 rfl σ H1 S1 D (p.sub (S.sub f)))
    | false => exact iteF (q.2 rfl σ H1 S1 D (p.sub (S.sub f))))
/-- x = e -/
theorem s_asg (i : Nat) {x : Str} {p' : Pos} (hN : X.N.Nodup) (hi : X.N[i]? = some x) (h : EE X B M Δ e fun t Δ1 => Ψ.nx M (Δ1.set i (.dat t)))
    (hs : swapsWith e (some (.Name x p')) pos.line X.env = pure false := by rfl) (hf : X.fn x = true ∨ X.env.scope.names.lookup x = some .local := by first | exact .inl rfl | exact .inr rfl) (hx : Loc X.env.scope x := by first | exact Or.inl rfl | exact Or.inr rfl) : S1 X B M Δ (.Assign [.Name x p'] e pos) Ψ := fun σ H S D p =>
  PS.to (ps_set (i := i) hN hi hx pe_self hs hf) (h σ H S _ fun t Δ1 v H1 q f S1 d => p.nx M _ _ H1 q (S.sub f) (S1.set i d))
/-- x = a new list, owned -/
theorem s_asgO (i : Nat) {x : Str} {p' : Pos} (hN : X.N.Nodup) (hi : X.N[i]? = some x) (h : EO X B M Δ e fun t Δ1 => ∀ l, ¬ M.m l → Ψ.nx (ins M l) (Δ1.set i (.own l t)))
    (hs : swapsWith e (some (.Name x p')) pos.line X.env = pure false := by rfl) (hf : X.fn x = true ∨ X.env.scope.names.lookup x = some .local := by first | exact .inl rfl | exact .inr rfl) (hx : Loc X.env.scope x := by first | exact Or.inl rfl | exact Or.inr rfl) : S1 X B M Δ (.Assign [.Name x p'] e pos) Ψ := fun σ H S D p =>
  PS.to (ps_set (i := i) hN hi hx pe_self hs hf) (h σ H S _ fun t Δ1 l H1 q f hl S1 hn ow => by
    have nM := S.notM hl
    refine p.nx (ins M l) _ _ H1 (q l nM) (mi_new hl S f) (S1.put i (o := some (.ref l)) (e := .own l t) ⟨rfl, .inr rfl, fun z => nM (S.m0 l z), fun z => nM (S.wm l z), ow⟩ fun l' z j f' _ hf' y => ?_)
    cases z
    exact hn f' (List.mem_of_getElem? hf') y)
/-- a, b = x, y -/
theorem s_par (i j : Nat) {x y : Str} {px py pt pt2 : Pos} {kt k2 : Nat} (hE : ∀ ta, PA X [a, b] ta → PS X (.Assign [.Tuple [.Name x px, .Name y py] kt pt] (.Tuple [a, b] k2 pt2) pos) (tPar i j ta)) (h : EE X B M Δ a fun t Δ1 => EE X B M Δ1 b fun u Δ2 => Ψ.nx M ((Δ2.set i (.dat t)).set j (.dat u)))
    (hs : starEach [a, b] X.env = (false, eval a X.env) :: starEach [b] X.env := by rfl) (hs2 : starEach [b] X.env = (false, eval b X.env) :: starEach [] X.env := by rfl) : S1 X B M Δ (.Assign [.Tuple [.Name x px, .Name y py] kt pt] (.Tuple [a, b] k2 pt2) pos) Ψ := fun σ H S D p =>
  PS.to (hE _ (pa_cons pe_self (pa_cons pe_self pa_nil hs2) hs)) (h σ H S _ fun t Δ1 v H1 q f S1 d => q σ H1 S1 _ fun u Δ2 w H2 q2 f2 S2 d2 =>
    ⟨v, w, rfl, p.nx M _ _ H2 q2 (S.sub (f.trans f2)) ((S2.set i (d.mono (S1.sub f2))).set j d2)⟩)
/-- a, b = two new lists -/
theorem s_parOO (i j : Nat) {x y : Str} {px py pt pt2 : Pos} {kt k2 : Nat} (hE : ∀ ta, PA X [a, b] ta → PS X (.Assign [.Tuple [.Name x px, .Name y py] kt pt] (.Tuple [a, b] k2 pt2) pos) (tPar i j ta)) (hij : i ≠ j) (h : EO X B M Δ a fun t Δ1 => ∀ l, ¬ M.m l → EO X B (ins M l) Δ1 b fun u Δ2 => ∀ m, ¬ M.m m → m ≠ l → Δ2 = Δ1 ∧ Ψ.nx (ins (ins M l) m) ((Δ2.set i (.own l t)).set j (.own m u)))
    (hs : starEach [a, b] X.env = (false, eval a X.env) :: starEach [b] X.env := by rfl) (hs2 : starEach [b] X.env = (false, eval b X.env) :: starEach [] X.env := by rfl) : S1 X B M Δ (.Assign [.Tuple [.Name x px, .Name y py] kt pt] (.Tuple [a, b] k2 pt2) pos) Ψ := fun σ H S D p =>
  PS.to (hE _ (pa_cons pe_self (pa_cons pe_self pa_nil hs2) hs)) (h σ H S _ fun t Δ1 l H1 q f hl S1 hn ow => q l (S.notM hl) σ H1 S1 _ fun u Δ2 m H2 q2 f2 hm S2 hn2 ow2 => by
    have nM := S.notM hl
    have nm := S1.notM hm
    have hml : m ≠ l := fun z => nm (.inr z)
    obtain ⟨rfl, q3⟩ := q2 m (fun z => nm (.inl z)) hml
    have nw : ¬ M.w l := fun z => nM (S.wm l z)
    have s12 : Sub (mi (ins M l).m H1) (mi (ins (ins M l) m).m H2) := mi_new hm S1 f2
    have ow' : Ow X.K (mi (ins (ins M l) m).m H2) H2 l t := ow.mono s12 fun o n z => f2.k _ o nw n z
    refine ⟨_, _, rfl, p.nx _ _ _ H2 q3 ((mi_new hl S f).trans s12) ?_⟩
    have S3 := S2.put i (o := some (.ref l)) (e := .own l t) ⟨rfl, .inl (.inr rfl), fun z => nM (S.m0 l z), nw, ow'⟩ fun l' z j' f' _ hf' y => by
      cases z
      exact hn f' (List.mem_of_getElem? hf') y
    refine S3.put j (o := some (.ref m)) (e := .own m u) ⟨rfl, .inr rfl, fun z => nm (S1.m0 m z), fun z => nm (S1.wm m z), ow2⟩ fun l' z j' f' hj' hf' y => ?_
    cases z
    by_cases hji : j' = i
    · subst hji
      rw [List.getElem?_set] at hf'
      split at hf'
      · split at hf'
        · cases hf'; cases y; exact hml rfl
        · cases hf'
      · rename_i z; exact z rfl
    · rw [List.getElem?_set_ne (Ne.symm hji)] at hf'
      exact hn2 f' (List.mem_of_getElem? hf') y)
/-- an owned place is written -/
theorem tabs_upd {T : List (Addr × Str)} {H : Hp} {l : Addr} {o : HO} (h : Tabs T H) (h1 : ∀ ps, H l ≠ some (.tbl ps)) (h2 : ∀ q, H l ≠ some (CodeO l q)) : Tabs T (upd H l o) := fun p hp => by
  obtain ⟨ps, e1, e2, e3⟩ := h p hp
  refine ⟨ps, by rw [upd_ne (fun z => by rw [z] at e1; exact h1 ps e1)]; exact e1, e2, fun pos cv hc => ?_⟩
  obtain ⟨c, z1, z2⟩ := e3 pos cv hc
  exact ⟨c, z1, by rw [upd_ne (fun z => h2 p.2 (by subst z; exact z2))]; exact z2⟩
theorem Ow.kind {K : PySem.W.Frag} {I H : Hp} {l : Addr} {t : Tr} (h : Ow K I H l t) : (∃ xs, H l = some (.lst xs)) ∨ (∃ xs, H l = some (.dK xs)) ∨ ∃ C dx fs, H l = some (.ins C dx fs) := by
  cases t <;> first | exact h.elim | skip
  · obtain ⟨xs, e, _⟩ := h; exact .inl ⟨_, e⟩
  · obtain ⟨xs, e, _⟩ := h; exact .inr (.inl ⟨_, e⟩)
  · obtain ⟨_, xs, e, _⟩ := h; exact .inr (.inr ⟨_, _, _, e⟩)
theorem kind_ne {H : Hp} {l : Addr} (h : (∃ xs, H l = some (.lst xs)) ∨ (∃ xs, H l = some (.dK xs)) ∨ ∃ C dx fs, H l = some (.ins C dx fs)) : (∀ ps, H l ≠ some (.tbl ps)) ∧ ∀ q, H l ≠ some (CodeO l q) := by
  rcases h with ⟨_, e⟩ | ⟨_, e⟩ | ⟨_, _, _, e⟩ <;> refine ⟨fun ps z => ?_, fun q z => ?_⟩ <;> (rw [e] at z; have z' := Option.some.inj z; first | exact HO.noConfusion z' | (unfold CodeO at z'; exact HO.noConfusion z'))
theorem Sk.write {K : PySem.W.Frag} {H : Hp} {σ : L2.St} {i : Nat} {l : Addr} {t t' : Tr} {o : HO} (S : Sk K B M H σ Δ) (h : Δ[i]? = some (.own l t)) (ow : Ow K (mi M.m H) (upd H l o) l t') :
    Sk K B M (upd H l o) σ (Δ.set i (.own l t')) ∧ Sub (mi M.m H) (mi M.m (upd H l o)) := by
  obtain ⟨h1, h2, h3, h4, h5⟩ := S.ownAt h
  have s := mi_write (M := M.m) (H := H) (l := l) (o := o) h2
  have kd := kind_ne h5.kind
  have h0 : B.H0 l = none := (S.own l h2).elim (fun z => absurd z h3) id
  have hi : i < Δ.length := (List.getElem?_eq_some_iff.mp h).1
  refine ⟨{ len := by rw [List.length_set]; exact S.len, al := fun b z => ?_, wm := S.wm, m0 := S.m0, pm := S.pm, own := S.own, wp := S.wp, fr := ⟨fun b u p n e => ?_, fun b ps e => ?_⟩, tb := tabs_upd S.tb kd.1 kd.2, dis := fun a b e f l' he hf el fl => ?_, sl := fun j e q => ?_ }, s⟩
  · by_cases hb : b = l
    · exact ⟨o, by rw [hb, upd_same]⟩
    · obtain ⟨u, e⟩ := S.al b z
      exact ⟨u, by rw [upd_ne hb]; exact e⟩
  · have hb : b ≠ l := fun z => by rw [z, h0] at e; cases e
    rw [upd_ne hb]; exact S.fr.k b u p n e
  · have hb : b ≠ l := fun z => by rw [z, h0] at e; cases e
    obtain ⟨qs, e'⟩ := S.fr.t b ps e
    exact ⟨qs, by rw [upd_ne hb]; exact e'⟩
  · have key : ∀ (a : Nat) (e : En), (Δ.set i (.own l t'))[a]? = some e → ∃ e', Δ[a]? = some e' ∧ e'.adr = e.adr := fun a e he => by
      by_cases ha : a = i
      · subst ha
        rw [List.getElem?_set_self hi] at he
        cases he
        exact ⟨_, h, rfl⟩
      · rw [List.getElem?_set_ne (Ne.symm ha)] at he
        exact ⟨e, he, rfl⟩
    obtain ⟨e1, x1, x2⟩ := key a e he
    obtain ⟨f1, y1, y2⟩ := key b f hf
    exact S.dis a b e1 f1 l' x1 y1 (x2.trans el) (y2.trans fl)
  · by_cases hj : j = i
    · subst hj
      rw [List.getElem?_set_self hi] at q
      cases q
      exact ⟨_, h1, rfl, h2, h3, h4, ow.mono s fun _ _ z => z⟩
    · rw [List.getElem?_set_ne (Ne.symm hj)] at q
      obtain ⟨u, e1, e2⟩ := S.sl j e q
      exact ⟨u, e1, e2.mono (fun _ z => z) (fun _ => Iff.rfl) s fun l' z o' _ y => by rw [upd_ne (fun w => hj (S.dis j i e _ l q h (by rw [z, w]) rfl))]; exact y⟩
/-- x.append(e), x owned -/
theorem s_append (i : Nat) {x : Str} {p1 p2 p3 : Pos} (hN : X.N[i]? = some x) {l : Addr} {ts0 : List Tr} (hi : Δ[i]? = some (.own l (.lst ts0)))
    (h : EE X B M Δ e fun t Δ1 => ∃ ts, Δ1[i]? = some (.own l (.lst ts)) ∧ ts.length < sizeLine ∧ Ψ.nx M (Δ1.set i (.own l (.lst (ts ++ [t])))))
    (hE : PS X (.Expr (.Call (.Attribute (.Name x p1) "append" p2) [e] [] p3) pos) (tDrop (tBM X.K "list" rAppend (tVar i) (tCons (WE X e) tNil))) := by
      exact ps_expr (pe_bm PySem.F.plainAttrs_list PySem.F.slot_list_append PySem.F.type_list_append mt_append (pv _) (pa_cons pe_self pa_nil))) (hv : Vis X.env.scope x := by first | exact Or.inl rfl | exact Or.inr (Or.inl rfl) | exact Or.inr (Or.inr rfl)) : S1 X B M Δ (.Expr (.Call (.Attribute (.Name x p1) "append" p2) [e] [] p3) pos) Ψ := fun σ H S D p => by
  obtain ⟨h1, h2, h3, h4, xs0, h5, h6⟩ := S.ownAt hi
  refine PS.to hE ⟨_, h1, .inl ⟨rfl, _, SqL.of h5⟩, h σ H S _ fun t Δ1 v H1 q f S1 d => ?_⟩
  obtain ⟨ts, q1, q2, q3⟩ := q
  obtain ⟨_, _, _, _, xs, h7, h8⟩ := S1.ownAt q1
  refine ⟨l, xs, v, rfl, rfl, h7, by rw [h8.length]; exact q2, ?_⟩
  obtain ⟨S2, s2⟩ := S1.write (o := .lst (xs ++ [v])) (t' := .lst (ts ++ [t])) q1 ⟨_, upd_same, h8.append (.cons d .nil)⟩
  exact p.nx M _ σ _ q3 ((S.sub f).trans s2) S2
end
end Wf

set_option Elab.async false
set_option linter.all false
set_option maxRecDepth 100000
set_option maxHeartbeats 1000000
namespace Wf
open PySem PySem.Spec PyProof.Rows L2 LamX
/-! ### targets -/
inductive Tg where
  | nm (k : Nat)
  | tp (a b : Nat)
def Tg.vs : Tg → List Nat
  | .nm k => [k]
  | .tp a b => [a, b]
def Tg.g (K : PySem.W.Frag) : Tg → TG
  | .nm k => gName k
  | .tp a b => gTup K 2 (gCons (gName a) (gCons (gName b) gNil))
def Tg.ok : Tg → Tr → Prop
  | .nm _, _ => True
  | .tp _ _, t => ∃ x y, t = .tup [x, y]
def Tg.set (Δ : List En) : Tg → Tr → List En
  | .nm k, t => Δ.set k (.dat t)
  | .tp a b, .tup [x, y] => (Δ.set a (.dat x)).set b (.dat y)
  | .tp _ _, _ => Δ
def Tg.put (σ : L2.St) : Tg → List V → L2.St
  | .nm k, [v] => σ.set k (some v)
  | .tp a b, [v, w] => (σ.set a (some v)).set b (some w)
  | _, _ => σ
theorem tg_run {K : PySem.W.Frag} {B : Bs} {M : Pl} {H : Hp} {σ : L2.St} {Δ : List En} (T : Tg) {v : V} {t : Tr} (S : Sk K B M H σ Δ) (d : Dt K (mi M.m H) v t) (ok : T.ok t) (Q : L2.St → Hp → Prop)
    (h : ∀ vs, Sk K B M H (T.put σ vs) (T.set Δ t) → Q (T.put σ vs) H) : T.g K v σ H Q := by
  cases T with
  | nm k => exact h [v] (S.set k d)
  | tp a b =>
    obtain ⟨x, y, rfl⟩ := ok
    cases d with
    | tup h1 h2 =>
      cases h2 with
      | cons d1 h3 =>
        cases h3 with
        | cons d2 h4 =>
          cases h4
          exact ⟨_, _, rfl, sub_seqT mi_sub h1, rfl, _, _, rfl, _, _, rfl, rfl, h [_, _] ((S.set a d1).set b d2)⟩
/-! ### what is walked -/
def EI (X : Cx) (B : Bs) (M : Pl) (Δ : List En) (tg iter : Expr) (Φ : Nat → (Nat → Tr) → List En → Prop) : Prop := ∃ wi, PI X tg iter wi ∧ ∀ σ H, Sk X.K B M H σ Δ → ∀ R : It → Hp → Prop,
  (∀ (n : Nat) (f : Nat → Tr) Δ' (J : It) (G : Hp → Prop) (Y : Nat → Hp → V → Hp → Prop) H', Φ n f Δ' → Fe M.w H H' → Sk X.K B M H' σ Δ' → Walk J n G Y →
    (∀ (M2 : Addr → Prop) H2, Sub (mi M.m H') (mi M2 H2) → G H2) →
    (∀ (i : Nat) x Ha Hb (M2 : Addr → Prop), i < n → Y i Ha x Hb → Sub (mi M.m H') (mi M2 Ha) → (∀ p, Ha p = none → ¬ M2 p) → Same Ha Hb ∧ Dt X.K (mi M2 Hb) x (f i)) → R J H') → wi σ H R
section
variable {X : Cx} {B : Bs} {M : Pl} {Δ : List En} {e l a b c tg iter : Expr} {es : List Expr} {Ψ : Eo} {st : Stmt} {ss body : List Stmt} {pos : Pos} {Φ : Nat → (Nat → Tr) → List En → Prop}
theorem getD_of {α : Type} {ts : List α} {i : Nat} {d t : α} (h : ts[i]? = some t) : ts.getD i d = t := by
  rw [List.getD_eq_getElem?_getD, h]; rfl
theorem ei_list (h : EE X B M Δ l fun t Δ1 => ∃ ts, t = .lst ts ∧ Φ ts.length (fun i => ts.getD i .non) Δ1) : EI X B M Δ tg l Φ :=
  ⟨_, pi_list pe_self, fun σ H S R k => h σ H S _ fun t Δ1 v H1 p f S1 d => by
    obtain ⟨ts, rfl, q⟩ := p
    cases d with
    | lst h1 h2 =>
      rename_i a xs
      refine ⟨a, rfl, ⟨xs, sub_seqL mi_sub h1⟩, k ts.length _ Δ1 (Itl X.K a) _ _ H1 q f S1 (h2.length ▸ walk_list) (fun M2 H2 s => sub_seqL mi_sub (sub_seqL s h1)) fun i x Ha Hb M2 hi y s _ => ?_⟩
      obtain ⟨rfl, y⟩ := y
      obtain ⟨t, e1, e2⟩ := h2.getV y
      exact ⟨fun _ _ z => z, by rw [getD_of e1]; exact e2.mono s⟩⟩
theorem ei_tup (h : EE X B M Δ l fun t Δ1 => ∃ ts, t = .tup ts ∧ Φ ts.length (fun i => ts.getD i .non) Δ1) : EI X B M Δ tg l Φ :=
  ⟨_, pi_tup pe_self, fun σ H S R k => h σ H S _ fun t Δ1 v H1 p f S1 d => by
    obtain ⟨ts, rfl, q⟩ := p
    cases d with
    | tup h1 h2 =>
      rename_i a xs
      refine ⟨a, rfl, ⟨xs, sub_seqT mi_sub h1⟩, k ts.length _ Δ1 (Itt X.K a) _ _ H1 q f S1 (h2.length ▸ walk_tup) (fun M2 H2 s => sub_seqT mi_sub (sub_seqT s h1)) fun i x Ha Hb M2 hi y s _ => ?_⟩
      obtain ⟨rfl, y⟩ := y
      obtain ⟨t, e1, e2⟩ := h2.getV y
      exact ⟨fun _ _ z => z, by rw [getD_of e1]; exact e2.mono s⟩⟩
theorem ei_str (h : EE X B M Δ l fun t Δ1 => ∃ z : Str, t = .str z ∧ Φ z.cps.size (fun i => .str ⟨#[z.cps.getD i 0]⟩) Δ1) : EI X B M Δ tg l Φ :=
  ⟨_, pi_str pe_self, fun σ H S R k => h σ H S _ fun t Δ1 v H1 p f S1 d => by
    obtain ⟨z, rfl, q⟩ := p
    cases d
    refine ⟨z, rfl, k z.cps.size _ Δ1 (Its z) _ _ H1 q f S1 walk_str (fun _ _ _ => True.intro) fun i x Ha Hb M2 hi y s _ => ?_⟩
    obtain ⟨rfl, c, y, rfl⟩ := y
    refine ⟨fun _ _ z => z, ?_⟩
    have : z.cps.getD i 0 = c := by rw [Array.getD_eq_getD_getElem?, y]; rfl
    rw [this]
    exact .str _⟩
theorem ei_range1 {p pos : Pos} (hg : Gl X "range") (hm : X.mg "range" = none) (h : EE X B M Δ a fun t Δ1 => ∃ j : Int, t = .int j ∧ -(2 ^ 62) ≤ j ∧ j < 2 ^ 62 ∧ Φ j.toNat (fun i => .int i) Δ1) (hs : starEach [a] X.env = [(false, eval a X.env)] := by rfl) : EI X B M Δ tg (.Call (.Name "range" p) [a] [] pos) Φ :=
  ⟨_, pi_range1 hg hm (pa_cons pe_self pa_nil hs) hs, fun σ H S R k => h σ H S _ fun t Δ1 v H1 p f S1 d => by
    obtain ⟨j, rfl, h1, h2, q⟩ := p
    cases d
    refine ⟨j, rfl, h1, h2, k j.toNat _ Δ1 _ _ _ H1 q f S1 walk_range (fun _ _ _ => True.intro) fun i x Ha Hb M2 hi y s _ => ?_⟩
    obtain ⟨rfl, rfl⟩ := y
    refine ⟨fun _ _ z => z, ?_⟩
    show Dt X.K _ (.int (0 + (i : Int))) (.int (i : Int))
    rw [Int.zero_add]
    exact .int _⟩
theorem ei_range2 {p pos : Pos} (hg : Gl X "range") (hm : X.mg "range" = none) (h : EE X B M Δ a fun t Δ1 => EE X B M Δ1 b fun u Δ2 => ∃ i j : Int, t = .int i ∧ u = .int j ∧ (-(2 ^ 62) ≤ i ∧ i < 2 ^ 62 ∧ -(2 ^ 62) ≤ j ∧ j < 2 ^ 62) ∧ Φ (j - i).toNat (fun k => .int (i + k)) Δ2)
    (hs : starEach [a, b] X.env = (false, eval a X.env) :: starEach [b] X.env := by rfl) (hs2 : starEach [b] X.env = (false, eval b X.env) :: starEach [] X.env := by rfl) (hE : ∀ ta, PA X [a, b] ta → PI X tg (.Call (.Name "range" p) [a, b] [] pos) (iRng2 ta) := by exact fun _ ha => pi_range2 (by assumption) (by assumption) ha) : EI X B M Δ tg (.Call (.Name "range" p) [a, b] [] pos) Φ :=
  ⟨_, hE _ (pa_cons pe_self (pa_cons pe_self pa_nil hs2) hs), fun σ H S R k => h σ H S _ fun t Δ1 v H1 p f S1 d => p σ H1 S1 _ fun u Δ2 w H2 p2 f2 S2 d2 => by
    obtain ⟨i, j, rfl, rfl, hb, q⟩ := p2
    cases d; cases d2
    refine ⟨i, j, rfl, hb, k _ _ Δ2 _ _ _ H2 q (f.trans f2) S2 walk_range (fun _ _ _ => True.intro) fun i x Ha Hb M2 hi y s _ => ?_⟩
    obtain ⟨rfl, rfl⟩ := y
    exact ⟨fun _ _ z => z, .int _⟩⟩
theorem ei_enum {elts : List Expr} {kk : Nat} {p pos tpos : Pos} (hg : Gl X "enumerate") (hm : X.mg "enumerate" = none) (h : EE X B M Δ a fun t Δ1 => ∃ ts, t = .lst ts ∧ Φ ts.length (fun i => .tup [.int i, ts.getD i .non]) Δ1) (hs : starEach [a] X.env = [(false, eval a X.env)] := by rfl) :
    EI X B M Δ (.Tuple elts kk tpos) (.Call (.Name "enumerate" p) [a] [] pos) Φ :=
  ⟨_, pi_enum hg hm (pa_cons pe_self pa_nil hs) hs, fun σ H S R k => h σ H S _ fun t Δ1 v H1 p f S1 d => by
    obtain ⟨ts, rfl, q⟩ := p
    cases d with
    | lst h1 h2 =>
      rename_i a xs
      refine ⟨a, xs, rfl, sub_seqL mi_sub h1, k ts.length _ Δ1 (Ite X.K a) _ _ H1 q f S1 (h2.length ▸ walk_enum) (fun M2 H2 s => sub_seqL mi_sub (sub_seqL s h1)) fun i x Ha Hb M2 hi y s nM => ?_⟩
      obtain ⟨T, x1, y1, rfl, hT, rfl, ex, ey⟩ := y
      obtain rfl : V.int (i : Nat) = x1 := Option.some.inj ex
      obtain ⟨t, e1, e2⟩ := h2.getV ey
      have sm := same_new (o := .tup [.int (i : Nat), y1]) hT
      refine ⟨sm, ?_⟩
      rw [getD_of e1]
      exact .tup (SqT.of (mi_of (nM T hT) upd_same)) (.cons (.int _) (.cons ((e2.mono s).mono (Sub.of sm).mi) .nil))⟩
theorem ei_zip {elts : List Expr} {kk : Nat} {p pos tpos : Pos} (hg : Gl X "zip") (hm : X.mg "zip" = none) (h : EE X B M Δ a fun t Δ1 => EE X B M Δ1 b fun u Δ2 => ∃ ts us, t = .lst ts ∧ u = .lst us ∧ Φ (min ts.length us.length) (fun i => .tup [ts.getD i .non, us.getD i .non]) Δ2)
    (hs : starEach [a, b] X.env = (false, eval a X.env) :: starEach [b] X.env := by rfl) (hs2 : starEach [b] X.env = (false, eval b X.env) :: starEach [] X.env := by rfl) (hpl : (backTo pos (starEach [b] X.env)).any (·.1) = false := by rfl) :
    EI X B M Δ (.Tuple elts kk tpos) (.Call (.Name "zip" p) [a, b] [] pos) Φ :=
  ⟨_, pi_zip hg hm (pa_cons pe_self (pa_cons pe_self pa_nil hs2) hs) hs hpl, fun σ H S R k => h σ H S _ fun t Δ1 v H1 p f S1 d => p σ H1 S1 _ fun u Δ2 w H2 p2 f2 S2 d2 => by
    obtain ⟨ts, us, rfl, rfl, q⟩ := p2
    have d := d.mono (S1.sub f2)
    cases d with
    | lst h1 h2 =>
      cases d2 with
      | lst g1 g2 =>
        rename_i a1 xs a2 ys
        refine ⟨a1, a2, xs, ys, rfl, sub_seqL mi_sub h1, sub_seqL mi_sub g1, k _ _ Δ2 (Itz X.K a1 a2) _ _ H2 q (f.trans f2) S2 (walk_zip (by rw [h2.length, g2.length])) (fun M2 H2 s => ⟨sub_seqL mi_sub (sub_seqL s h1), sub_seqL mi_sub (sub_seqL s g1)⟩) fun i x Ha Hb M2 hi y s nM => ?_⟩
        obtain ⟨T, x1, y1, rfl, hT, rfl, ex, ey⟩ := y
        obtain ⟨t, e1, e2⟩ := h2.getV ex
        obtain ⟨u, e3, e4⟩ := g2.getV ey
        have sm := same_new (o := .tup [x1, y1]) hT
        refine ⟨sm, ?_⟩
        rw [getD_of e1, getD_of e3]
        exact .tup (SqT.of (mi_of (nM T hT) upd_same)) (.cons ((e2.mono s).mono (Sub.of sm).mi) (.cons ((e4.mono s).mono (Sub.of sm).mi) .nil))⟩
/-! ### for, while -/
theorem s_for (T : Tg) (hp : PassesOwn (model X.prog X.w) X.A X.env X.xe) (hc : X.calm = true) (hg : PG X tg (T.g X.K))
    (h : EI X B M Δ tg iter fun n f Δ1 => ∃ Jv : Nat → Pl → List En → Prop, Jv 0 M Δ1 ∧ (∀ i M' Δ', i < n → Jv i M' Δ' → T.ok (f i) ∧ SS X B M' (T.set Δ' (f i)) body { nx := Jv (i + 1), rt := Ψ.rt, bk := Ψ.nx, ct := Jv (i + 1) }) ∧ ∀ M' Δ', Jv n M' Δ' → Ψ.nx M' Δ')
    (hs : ∀ x, foldedSetIterable iter X.env x = pure x := by intro _; rfl) : S1 X B M Δ (.For tg iter body [] pos) Ψ := fun σ H S D p => by
  obtain ⟨wi, hi, k⟩ := h
  refine PS.to (ps_for hp hc hi hg pss_self hs) (k σ H S _ fun n f Δ1 J G Y H1 q fe S1 w hG hY => ?_)
  obtain ⟨Jv, j0, jt, jd⟩ := q
  have s0 := S.sub fe
  refine for_it w (fun i σ' H' => ∃ M' Δ', Jv i M' Δ' ∧ Sub (mi M.m H1) (mi M'.m H') ∧ Sk X.K B M' H' σ' Δ') ⟨M, Δ1, j0, Sub.refl _, S1⟩ (fun i σ' H' _ ⟨M', Δ', _, s, _⟩ => hG M'.m H' s) ?_ fun σ' H' ⟨M', Δ', j, s, S'⟩ => p.nx M' Δ' σ' H' (jd M' Δ' j) (s0.trans s) S'
  rintro i x σ' Ha Hb hi ⟨M', Δ', j, s, S'⟩ y
  obtain ⟨sm, d⟩ := hY i x Ha Hb M'.m hi y s fun p hp => S'.notM hp
  obtain ⟨ok, hb⟩ := jt i M' Δ' hi j
  have Sb := S'.same sm
  have sab : Sub (mi M.m H1) (mi M'.m Hb) := s.trans (Sub.of sm).mi
  refine tg_run T Sb d ok _ fun vs St => hb _ Hb St _ ⟨fun M2 Δ2 σ2 H2 a b c => ⟨M2, Δ2, a, sab.trans b, c⟩, fun t M2 Δ2 v σ2 H2 a b c d => p.rt t M2 Δ2 v σ2 H2 a (s0.trans (sab.trans b)) c d, fun M2 Δ2 σ2 H2 a b c => p.nx M2 Δ2 σ2 H2 a (s0.trans (sab.trans b)) c, fun M2 Δ2 σ2 H2 a b c => ⟨M2, Δ2, a, sab.trans b, c⟩⟩
theorem s_while (hp : PassesOwn (model X.prog X.w) X.A X.env X.xe) (Jv : Nat → Pl → List En → Prop) (m0 : Nat) (h0 : Jv m0 M Δ)
    (h : ∀ m M' Δ', Jv m M' Δ' → ET X B M' Δ' c fun k Δ2 => (k = true → SS X B M' Δ2 body { nx := fun M3 Δ3 => ∃ m', m' < m ∧ Jv m' M3 Δ3, rt := Ψ.rt, bk := Ψ.nx, ct := fun M3 Δ3 => ∃ m', m' < m ∧ Jv m' M3 Δ3 }) ∧ (k = false → Ψ.nx M' Δ2)) : S1 X B M Δ (.While c body [] pos) Ψ := fun σ H S D p => by
  refine PS.to (ps_while hp pt_self pss_self) ⟨fun m σ' H' => ∃ M' Δ', Jv m M' Δ' ∧ Sub (mi M.m H) (mi M'.m H') ∧ Sk X.K B M' H' σ' Δ', ⟨m0, M, Δ, h0, Sub.refl _, S⟩, ?_⟩
  rintro m σ' H' ⟨M', Δ', j, s, S'⟩
  refine h m M' Δ' j σ' H' S' _ fun k Δ2 H2 q fe S2 => ?_
  have s2 : Sub (mi M.m H) (mi M'.m H2) := s.trans (S'.sub fe)
  cases k with
  | true =>
    refine iteT ⟨fun σ3 H3 => ∃ m', m' < m ∧ ∃ M3 Δ3, Jv m' M3 Δ3 ∧ Sub (mi M.m H) (mi M3.m H3) ∧ Sk X.K B M3 H3 σ3 Δ3, fun _ _ ⟨m', a, b⟩ => ⟨m', a, b⟩, ?_⟩
    refine q.1 rfl σ' H2 S2 _ ⟨fun M3 Δ3 σ3 H3 ⟨m', a, a2⟩ b c => ⟨m', a, M3, Δ3, a2, s2.trans b, c⟩, fun t M3 Δ3 v σ3 H3 a b c d => p.rt t M3 Δ3 v σ3 H3 a (s2.trans b) c d, fun M3 Δ3 σ3 H3 a b c => p.nx M3 Δ3 σ3 H3 a (s2.trans b) c, fun M3 Δ3 σ3 H3 ⟨m', a, a2⟩ b c => ⟨m', a, M3, Δ3, a2, s2.trans b, c⟩⟩
  | false => exact iteF (p.nx M' Δ2 σ' H2 (q.2 rfl) s2 S2)
/-! ### comprehensions -/
def wipeE (Δ : List En) : List Nat → List En
  | [] => Δ
  | v :: vs => (wipeE Δ vs).set v .any
theorem Sk.wipe {K : PySem.W.Frag} {H : Hp} {σ : L2.St} (S : Sk K B M H σ Δ) : ∀ vs : List Nat, Sk K B M H (L2.wipe σ vs) (wipeE Δ vs)
  | [] => S
  | v :: vs => (S.wipe vs).forget v
theorem wipe_get {σ : L2.St} {i : Nat} : ∀ {vs : List Nat}, i ∉ vs → (L2.wipe σ vs)[i]? = σ[i]?
  | [], _ => rfl
  | v :: vs, h => by
    unfold L2.wipe
    rw [List.getElem?_set_ne (fun e => h (by rw [e]; exact List.mem_cons_self))]
    exact wipe_get fun z => h (List.mem_cons_of_mem _ z)
theorem wipeE_any {Δ : List En} {i : Nat} : ∀ {vs : List Nat} {e : En}, i ∈ vs → (wipeE Δ vs)[i]? = some e → e = .any
  | v :: vs, e, h, q => by
    unfold wipeE at q
    by_cases hv : v = i
    · subst hv
      rw [List.getElem?_set] at q
      rw [if_pos rfl] at q
      split at q
      · exact (Option.some.inj q).symm
      · cases q
    · rw [List.getElem?_set_ne hv] at q
      exact wipeE_any ((List.mem_cons.mp h).elim (fun z => absurd z.symm hv) id) q
theorem wipe_put {σ : L2.St} (T : Tg) (vs : List V) (h : T.vs.Nodup) : L2.wipe (T.put (L2.wipe σ T.vs) vs) T.vs = L2.wipe σ T.vs := by
  cases T with
  | nm k =>
    show ((Tg.put _ (.nm k) vs)).set k none = (σ.set k none)
    cases vs with
    | nil => show ((σ.set k none).set k none) = _; rw [List.set_set]
    | cons v r =>
      cases r with
      | nil => show (((σ.set k none).set k (some v)).set k none) = _; rw [List.set_set, List.set_set]
      | cons _ _ => show ((σ.set k none).set k none) = _; rw [List.set_set]
  | tp a b =>
    have hab : a ≠ b := by
      intro e
      subst e
      exact (List.nodup_cons.mp h).1 List.mem_cons_self
    show (((Tg.put ((σ.set b none).set a none) (.tp a b) vs).set b none).set a none) = ((σ.set b none).set a none)
    have z : ((((σ.set b none).set a none).set b none).set a none) = ((σ.set b none).set a none) := by
      rw [List.set_comm _ _ hab, List.set_set, List.set_set]
    match vs with
    | [v, w] =>
      show (((((σ.set b none).set a none).set a (some v)).set b (some w)).set b none).set a none = _
      rw [List.set_set, List.set_set, List.set_comm _ _ hab, List.set_set, List.set_set]
    | [] => exact z
    | [_] => exact z
    | _ :: _ :: _ :: _ => exact z
def WTs (X : Cx) (ifs : List Expr) : TT := fun σ H Q => ∀ pins s, Inv X pins σ H s →
    wpAny (model X.prog X.w) X.A (forIn ifs true fun c r => if r = true then do let ok ← isTrue c X.env (eval c X.env); pure (ForInStep.yield ok) else pure (ForInStep.yield r)) (TP X pins σ Q) X.xe s
theorem pts_self {ifs : List Expr} : PTs X ifs (WTs X ifs) := ⟨fun pins s σ H Q I h => h pins s I⟩
def ETs (X : Cx) (B : Bs) (M : Pl) (Δ : List En) (ifs : List Expr) (Γ : Bool → List En → Prop) : Prop := ∀ σ H, Sk X.K B M H σ Δ → ∀ Q : Bool → Hp → Prop,
  (∀ b Δ' H', Γ b Δ' → Fe M.w H H' → Sk X.K B M H' σ Δ' → Q b H') → WTs X ifs σ H Q
theorem ets_nil {Γ : Bool → List En → Prop} (h : Γ true Δ) : ETs X B M Δ [] Γ := fun σ H S Q k pins s I => pts_nil.run pins s σ H Q I (k true Δ H h (Fe.refl _ _) S)
theorem ets_one {Γ : Bool → List En → Prop} (h : ET X B M Δ c Γ) : ETs X B M Δ [c] Γ := fun σ H S Q k pins s I => (pts_one pt_self).run pins s σ H Q I (h σ H S Q k)
def blkTE (X : Cx) (scope : Scope) (elt : Expr) : TE := fun σ H Q => ∀ (s : Shared) (H0 : Hp) (C : Addr) (cl : List (Str × Addr)) (fp : List Addr), WE (X.blk s H0 scope (compEnvC scope cl C X.env) fp) elt σ H Q
def blkTT (X : Cx) (scope : Scope) (ifs : List Expr) : TT := fun σ H Q => ∀ (s : Shared) (H0 : Hp) (C : Addr) (cl : List (Str × Addr)) (fp : List Addr), WTs (X.blk s H0 scope (compEnvC scope cl C X.env) fp) ifs σ H Q
/-- a comprehension's reading by data -/
def ELc (X : Cx) (B : Bs) (M : Pl) (Δ : List En) (T : Tg) (tg iter elt : Expr) (ifs : List Expr) (scope : Scope) (Φ : Tr → List En → Prop) : Prop := ∃ wi, PI X tg iter wi ∧ ∀ σ H, Sk X.K B M H σ Δ → ∀ Q : VK,
  (∀ t Δ' l H', Φ t Δ' → Fe M.w H H' → H l = none → Sk X.K B (ins M l) H' σ Δ' → (∀ e ∈ Δ', e.adr ≠ some l) → Ow X.K (mi (ins M l).m H') H' l t → Q (.ref l) H') → tLc wi (T.g X.K) (blkTT X scope ifs) (blkTE X scope elt) T.vs σ H Q
/-- [elt for tg in iter if ..]: Jc tells, by the turn and what is made so far, the slots -/
theorem elc (T : Tg) {elt : Expr} {ifs : List Expr} {scope : Scope} {Φ : Tr → List En → Prop} (hT : T.vs.Nodup)
    (h : EI X B M Δ tg iter fun n f Δ1 => ∃ Jc : Nat → List Tr → List En → Prop, Jc 0 [] (wipeE Δ1 T.vs) ∧
      (∀ i acc Δ' D, i < n → Jc i acc Δ' → ¬ M.m D → T.ok (f i) ∧ ∀ (s : Shared) (H : Hp) (C : Addr) (cl : List (Str × Addr)) (fp : List Addr), ETs (X.blk s H scope (compEnvC scope cl C X.env) fp) B (ins M D) (T.set Δ' (f i)) ifs fun k Δ2 =>
        (k = true → ∀ (s : Shared) (H : Hp) (C : Addr) (cl : List (Str × Addr)) (fp : List Addr), EE (X.blk s H scope (compEnvC scope cl C X.env) fp) B (ins M D) Δ2 elt fun t Δ3 => acc.length < sizeLine ∧ Jc (i + 1) (acc ++ [t]) (wipeE Δ3 T.vs)) ∧ (k = false → Jc (i + 1) acc (wipeE Δ2 T.vs))) ∧
      (∀ i acc Δ', Jc i acc Δ' → ∀ e ∈ Δ', ∀ l, e.adr = some l → ∃ e0 ∈ Δ1, e0.adr = some l) ∧ ∀ acc Δ', Jc n acc Δ' → Φ (.lst acc) Δ') : ELc X B M Δ T tg iter elt ifs scope Φ := by
  obtain ⟨wi, hi, kk⟩ := h
  refine ⟨wi, hi, fun σ H S Q k => kk σ H S _ fun n f Δ1 J G Y H1 q fe S1 w hG hY => ?_⟩
  intro D hD
  obtain ⟨Jc, j0, jt, ja, jd⟩ := q
  have nM := S1.notM hD
  have nM0 : ¬ B.M0 D := fun z => nM (S1.m0 D z)
  have nw : ¬ M.w D := fun z => nM (S1.wm D z)
  have sm0 := same_new (o := .lst []) hD
  obtain ⟨S2, hn2, ow2⟩ := S1.newOwn (t := .lst []) hD sm0 ⟨[], upd_same, .nil⟩
  have s02 : Sub (mi M.m H1) (mi (ins M D).m (upd H1 D (.lst []))) := mi_new hD S1 (Fe.same sm0)
  have noD : ∀ i acc Δ', Jc i acc Δ' → ∀ e ∈ Δ', e.adr ≠ some D := fun i acc Δ' j e he z => by
    obtain ⟨e0, h1, h2⟩ := ja i acc Δ' j e he D z
    exact hn2 e0 h1 h2
  have fr0 : Fe M.w H1 (upd H1 D (.lst [])) := Fe.same sm0
  refine lc_it (g := T.g X.K) (tt := blkTT X scope ifs) (te := blkTE X scope elt) (vs := T.vs) (σ := σ) (H1 := H1) (D := D) (Qd := fun H => Q (.ref D) H) w (fun i H' => ∃ acc Δ' xs, Jc i acc Δ' ∧ Fe M.w H1 H' ∧ Sub (mi M.m H1) (mi (ins M D).m H') ∧ Sk X.K B (ins M D) H' (L2.wipe σ T.vs) Δ' ∧ H' D = some (.lst xs) ∧ Dts X.K (mi (ins M D).m H') xs acc ∧ (∀ j ∈ T.vs, ∀ e, Δ'[j]? = some e → e = .any))
    ⟨[], _, [], j0, fr0, s02, S2.wipe T.vs, upd_same, .nil, fun j hj e he => wipeE_any hj he⟩ (fun i H' _ ⟨_, _, _, _, _, s, _⟩ => hG _ H' s) ?_ fun H' ⟨acc, Δ', xs, j, fe', s, S', hx, dx, hw⟩ => ?_
  · rintro i x Ha Hb hi ⟨acc, Δ', xs, j, fe', s, S', hx, dx, hw⟩ y
    obtain ⟨sm, d⟩ := hY i x Ha Hb (ins M D).m hi y s fun p hp => S'.notM hp
    obtain ⟨okT, hb⟩ := jt i acc Δ' D hi j nM
    have Sb := S'.same sm
    have sab : Sub (mi M.m H1) (mi (ins M D).m Hb) := s.trans (Sub.of sm).mi
    refine tg_run T Sb d okT _ fun vs St => ⟨wipe_put T vs hT, ?_⟩
    intro s0 H0 C cl fp
    refine hb s0 H0 C cl fp _ Hb St _ fun kq Δ2 H2 q2 f2 St2 => ?_
    have feb : Fe M.w H1 H2 := (fe'.trans (Fe.same sm)).trans f2
    have nx2 : Sub (mi (ins M D).m Hb) (mi (ins M D).m H2) := St.sub f2
    have hx2 : H2 D = some (.lst xs) := f2.k D _ nw nt_lst (sm D _ hx)
    have back : ∀ {H3 : Hp} {Δ3 : List En}, Sk X.K B (ins M D) H3 (T.put (L2.wipe σ T.vs) vs) Δ3 → Sk X.K B (ins M D) H3 (L2.wipe σ T.vs) (wipeE Δ3 T.vs) := fun {H3 Δ3} z => by
      have := z.wipe T.vs
      rw [wipe_put T vs hT] at this
      exact this
    cases kq with
    | true =>
      rw [if_pos rfl]
      intro s0 H0 C cl fp
      refine q2.1 rfl s0 H0 C cl fp _ H2 St2 _ fun t Δ3 v H3 q3 f3 St3 d3 => ?_
      have hx3 : H3 D = some (.lst xs) := f3.k D _ nw nt_lst hx2
      have dx3 : Dts X.K (mi (ins M D).m H3) xs acc := ((dx.mono (Sub.of sm).mi).mono nx2).mono (St2.sub f3)
      refine ⟨xs, hx3, by rw [dx.length]; exact q3.1, acc ++ [t], _, xs ++ [v], q3.2, ?_, ?_, ?_, upd_same, ?_, fun j hj e he => wipeE_any hj he⟩
      · exact ⟨fun b o p n z => by
          have hb : b ≠ D := fun e => by rw [e, hD] at z; cases z
          rw [upd_ne hb]; exact (feb.trans f3).k b o p n z, fun b ps z => by
          have hb : b ≠ D := fun e => by rw [e, hD] at z; cases z
          obtain ⟨qs, e⟩ := (feb.trans f3).t b ps z
          exact ⟨qs, by rw [upd_ne hb]; exact e⟩⟩
      · exact (((sab.trans nx2).trans (St2.sub f3))).trans (mi_write (.inr rfl))
      · -- the new list is longer
        have S4 := back St3
        have kd := kind_ne (H := H3) (l := D) (.inl ⟨xs, hx3⟩)
        have h0D : B.H0 D = none := S1.new0 hD
        have sw : Sub (mi (ins M D).m H3) (mi (ins M D).m (upd H3 D (.lst (xs ++ [v])))) := mi_write (.inr rfl)
        have nd := noD _ _ _ q3.2
        refine { len := S4.len, al := fun b z => ?_, wm := S4.wm, m0 := S4.m0, pm := S4.pm, own := S4.own, wp := S4.wp, fr := ⟨fun b u p n e => ?_, fun b ps e => ?_⟩, tb := tabs_upd S4.tb kd.1 kd.2, dis := S4.dis, sl := fun j e q => ?_ }
        · by_cases hb : b = D
          · exact ⟨_, by rw [hb, upd_same]⟩
          · obtain ⟨u, e⟩ := S4.al b z
            exact ⟨u, by rw [upd_ne hb]; exact e⟩
        · have hb : b ≠ D := fun z => by rw [z, h0D] at e; cases e
          rw [upd_ne hb]; exact S4.fr.k b u p n e
        · have hb : b ≠ D := fun z => by rw [z, h0D] at e; cases e
          obtain ⟨qs, e'⟩ := S4.fr.t b ps e
          exact ⟨qs, by rw [upd_ne hb]; exact e'⟩
        · obtain ⟨u, e1, e2⟩ := S4.sl j e q
          exact ⟨u, e1, e2.mono (fun _ z => z) (fun _ => Iff.rfl) sw fun l' z o' _ y => by rw [upd_ne (fun w => nd e (List.mem_of_getElem? q) (by rw [z, w]))]; exact y⟩
      · exact (dx3.append (.cons d3 .nil)).mono (mi_write (.inr rfl))
    | false =>
      rw [if_neg Bool.false_ne_true]
      exact ⟨acc, _, xs, q2.2 rfl, feb, sab.trans nx2, back St2, hx2, (dx.mono (Sub.of sm).mi).mono nx2, fun j hj e he => wipeE_any hj he⟩
  · refine k (.lst acc) Δ' D H' (jd acc Δ' j) (fe.trans fe') (fe.free (fun b z => S1.al b (S1.wm b z)) hD) ?_ (noD n acc Δ' j) ⟨xs, hx, dx⟩
    refine { len := by rw [← S'.len, wipe_length], al := S'.al, wm := S'.wm, m0 := S'.m0, pm := S'.pm, own := S'.own, wp := S'.wp, fr := S'.fr, tb := S'.tb, dis := S'.dis, sl := fun j e q => ?_ }
    obtain ⟨o, e1, e2⟩ := S'.sl j e q
    by_cases hj : j ∈ T.vs
    · rw [hw j hj e q]
      have hl : j < σ.length := by
        rw [← wipe_length σ T.vs]; exact (List.getElem?_eq_some_iff.mp e1).1
      exact ⟨σ[j], by simp [hl], by cases σ[j] <;> exact True.intro⟩
    · rw [wipe_get hj] at e1
      exact ⟨o, e1, e2⟩
theorem eo_of (T : Tg) {elt : Expr} {ifs : List Expr} {scope : Scope} {own : List (Str × Nat)} {Φ : Tr → List En → Prop} (hc : X.calm = true) (hN : X.N.Nodup) (ho : own.map (·.2) = T.vs) (ok : BlkOk X.N X.env.scope scope own)
    (hg : ∀ (s : Shared) (H : Hp) (C : Addr) (cl : List (Str × Addr)) (fp : List Addr), PG (X.blk s H scope (compEnvC scope cl C X.env) fp) tg (T.g X.K)) (h : ELc X B M Δ T tg iter elt ifs scope Φ)
    (hs : ∀ x, foldedSetIterable iter X.env x = pure x := by intro _; rfl) : EO X B M Δ (.ListComp elt [⟨tg, iter, ifs, 0⟩] scope pos) Φ := fun σ H S Q k => by
  obtain ⟨wi, hi, kk⟩ := h
  refine PE.to (pe_lc (te := blkTE X scope elt) (tt := blkTT X scope ifs) hc hN hi ok hg
    (fun s H C cl fp => ⟨fun pins s' σ' H' Q' I hh => hh s H C cl fp pins s' I⟩) (fun s H C cl fp => ⟨fun pins s' σ' H' Q' I hh => hh s H C cl fp pins s' I⟩) hs) ?_
  rw [ho]
  exact kk σ H S Q k
/-- x = [..], on one line -/
theorem s_of (T : Tg) (i : Nat) {y : Str} {py spos : Pos} {elt : Expr} {ifs : List Expr} {scope : Scope} {own : List (Str × Nat)} (hc : X.calm = true) (hN : X.N.Nodup) (hy : X.N[i]? = some y) (ho : own.map (·.2) = T.vs) (ok : BlkOk X.N X.env.scope scope own)
    (hg : ∀ (s : Shared) (H : Hp) (C : Addr) (cl : List (Str × Addr)) (fp : List Addr), PG (X.blk s H scope (compEnvC scope cl C X.env) fp) tg (T.g X.K)) (h : ELc X B M Δ T tg iter elt ifs scope fun t Δ1 => ∀ l, ¬ M.m l → Ψ.nx (ins M l) (Δ1.set i (.own l t)))
    (hyl : X.env.scope.names.lookup y = some .local := by rfl) (hsw : swapsWith (.ListComp elt [⟨tg, iter, ifs, 0⟩] scope pos) (some (.Name y py)) spos.line X.env = pure true := by exact sw_true rfl rfl rfl rfl)
    (hs : ∀ x, foldedSetIterable iter X.env x = pure x := by intro _; rfl) : S1 X B M Δ (.Assign [.Name y py] (.ListComp elt [⟨tg, iter, ifs, 0⟩] scope pos) spos) Ψ := fun σ H S D p => by
  obtain ⟨wi, hi, kk⟩ := h
  refine PS.to (ps_setLc (i := i) (te := blkTE X scope elt) (tt := blkTT X scope ifs) hc hN hy hyl hsw hi ok hg
    (fun s H C cl fp => ⟨fun pins s' σ' H' Q' I hh => hh s H C cl fp pins s' I⟩) (fun s H C cl fp => ⟨fun pins s' σ' H' Q' I hh => hh s H C cl fp pins s' I⟩) hs) ?_
  show tLc wi (T.g X.K) (blkTT X scope ifs) (blkTE X scope elt) (own.map (·.2)) σ H _
  rw [ho]
  refine kk σ H S _ fun t Δ1 l H1 q f hl S1 hn ow => ?_
  have nM := S.notM hl
  refine p.nx (ins M l) _ _ H1 (q l nM) (mi_new hl S f) (S1.put i (o := some (.ref l)) (e := .own l t) ⟨rfl, .inr rfl, fun z => nM (S.m0 l z), fun z => nM (S.wm l z), ow⟩ fun l' z j f' _ hf' y => ?_)
  cases z
  exact hn f' (List.mem_of_getElem? hf') y
end
end Wf

set_option Elab.async false
set_option linter.all false
set_option maxRecDepth 100000
set_option maxHeartbeats 1000000
namespace Wf
open PySem PySem.Spec PyProof.Rows L2 LamX
/-! ### promises by data -/
abbrev penMax : Nat := 1000000000
/-- a def that makes new objects at most -/
def spF (K : PySem.W.Frag) (T : List (Addr × Str)) (pre : List Tr → Prop) (post : List Tr → Tr → Prop) : Sp := fun vs H Q _ => ∃ (m : Addr → Prop) (ts : List Tr), Dts K (mi m H) vs ts ∧ pre ts ∧ (∀ b, m b → ∃ o, H b = some o) ∧ Tabs T H ∧
  ∀ v t H', post ts t → Fe (fun _ => False) H H' → Tabs T H' → Dt K (mi m H') v t → Q v H'
/-- a def whose first argument is the pen: it draws at most cost cells -/
def spP (K : PySem.W.Frag) (T : List (Addr × Str)) (pre : List Tr → Prop) (cost : List Tr → Nat) (post : List Tr → Tr → Prop) : Sp := fun vs H Q _ => ∃ (m : Addr → Prop) (p : Pn) (N : Nat) (vs' : List V) (ts : List Tr),
  vs = .ref p.l :: vs' ∧ m p.l ∧ PenAt K (mi m H) H p N ∧ N + cost ts ≤ penMax ∧ Dts K (mi m H) vs' ts ∧ pre ts ∧ (∀ b, m b → ∃ o, H b = some o) ∧ Tabs T H ∧
  ∀ v t H', post ts t → Fe (fun b => b = p.l) H H' → Tabs T H' → PenAt K (mi m H') H' p (N + cost ts) → Dt K (mi m H') v t → Q v H'
def slots (N : List Str) (es : List En) : List En := es ++ List.replicate (N.length - es.length) .any
section
variable {P : Program} {w : World} {K : PySem.W.Frag} {mg : Str → Option Value} {base : Heap} {x qual : Str} {st : Stmt} {f : Addr} {fd : FuncData} {N ps : List Str} {k : Nat} {T : List (Addr × Str)} {pre : List Tr → Prop} {post : List Tr → Tr → Prop} {cost : List Tr → Nat}
theorem start_get {N : List Str} {vs : List V} {es : List En} (hl : vs.length = es.length) {i : Nat} {e : En} (h : (slots N es)[i]? = some e) :
    (∃ v, (L2.start N vs)[i]? = some (some v) ∧ vs[i]? = some v ∧ es[i]? = some e) ∨ ((L2.start N vs)[i]? = some none ∧ e = .any) := by
  unfold slots at h
  unfold L2.start
  by_cases hi : i < es.length
  · left
    rw [List.getElem?_append_left hi] at h
    have hv : i < vs.length := by omega
    refine ⟨vs[i], ?_, by simp [hv], h⟩
    rw [List.getElem?_append_left (by simpa using hv), List.getElem?_map]
    simp [hv]
  · right
    rw [List.getElem?_append_right (by omega), List.getElem?_replicate] at h
    split at h
    · rename_i h2
      refine ⟨?_, (Option.some.inj h).symm⟩
      rw [List.getElem?_append_right (by simp; omega), List.getElem?_replicate, if_pos (by simp; omega)]
    · cases h
theorem sk_start {N : List Str} {B : Bs} {M : Pl} {H : Hp} {vs : List V} {es : List En} (hN : es.length ≤ N.length) (hl : vs.length = es.length) (hB : B.H0 = H) (hM : ∀ b, M.m b ↔ B.M0 b) (hw : ∀ b, M.w b ↔ B.P b) (pm : ∀ b, B.P b → B.M0 b) (al : ∀ b, M.m b → ∃ o, H b = some o) (tb : Tabs B.T H)
    (dis : ∀ (i j : Nat) (e f : En) (l : Addr), es[i]? = some e → es[j]? = some f → e.adr = some l → f.adr = some l → i = j)
    (h : ∀ (i : Nat) v e, vs[i]? = some v → es[i]? = some e → EnOk K B M H (some v) e) : Sk K B M H (L2.start N vs) (slots N es) where
  len := by unfold L2.start slots; rw [List.length_append, List.length_append, List.length_map, List.length_replicate, List.length_replicate]; omega
  al := al
  wm := fun b z => (hM b).mpr (pm b ((hw b).mp z))
  m0 := fun b z => (hM b).mpr z
  pm := pm
  own := fun b z => .inl ((hM b).mp z)
  wp := fun b z => .inl ((hw b).mp z)
  fr := by rw [hB]; exact Fe.refl _ _
  tb := tb
  dis := fun i j e f l he hf el fl => by
    rcases start_get (N := N) hl he with ⟨_, _, _, z⟩ | ⟨_, rfl⟩
    · rcases start_get (N := N) hl hf with ⟨_, _, _, z2⟩ | ⟨_, rfl⟩
      · exact dis i j e f l z z2 el fl
      · cases fl
    · cases el
  sl := fun i e q => by
    rcases start_get (N := N) hl q with ⟨v, h1, h2, h3⟩ | ⟨h1, rfl⟩
    · exact ⟨_, h1, h i v e h2 h3⟩
    · exact ⟨_, h1, True.intro⟩
abbrev bF (T : List (Addr × Str)) (H : Hp) (m : Addr → Prop) : Bs := ⟨T, fun _ => False, H, m⟩
abbrev bP (T : List (Addr × Str)) (p : Pn) (H : Hp) (m : Addr → Prop) : Bs := ⟨T, fun b => b = p.l, H, m⟩
/-- a def of the first kind, by its body -/
theorem ok_F (F : Fun K x qual st f fd) (S : FnScope N ps (defScope st)) (hpre : ∀ ts, pre ts → ts.length = ps.length) (hps : ps.length ≤ N.length)
    (hb : ∀ (cdv : Value) (A : Around) (outer : List Env) (s : Shared) (H : Hp) (E : XK) (m : Addr → Prop) (ts : List Tr), Room k (A.deeper (envOfC qual (defScope st) s.heap.objs.size f cdv)) → pre ts →
      SS (cxOf CX0 P w K mg base N qual (defScope st) f cdv A outer s H E).nox (bF T H m) ⟨m, fun _ => False⟩ (slots N (ts.map En.dat)) (defBody st) ⟨fun _ _ => post ts .non, fun t _ => post ts t, fun _ _ => False, fun _ _ => False⟩) :
    FnOk P w K mg base CX0 (k + 1) f fd ps (spF K T pre post) := by
  refine F.ok S (fun vs H Q E h => ?_) (fun cdv A outer s H vs Q E hr h => ?_)
  · obtain ⟨m, ts, d, hp, _⟩ := h
    rw [d.length, hpre ts hp]
  · obtain ⟨m, ts, d, hp, al, tb, q⟩ := h
    have hlen : ts.length = ps.length := hpre ts hp
    have Sk0 : Sk K (bF T H m) ⟨m, fun _ => False⟩ H (L2.start N vs) (slots N (ts.map En.dat)) := by
      refine sk_start (by simp; omega) (by simp [d.length]) rfl (fun _ => Iff.rfl) (fun _ => Iff.rfl) (fun _ z => z.elim) al tb (fun i j e f l he _ el _ => ?_) fun i v e hv he => ?_
      · rw [List.getElem?_map] at he
        cases h : ts[i]? with
        | none => rw [h] at he; cases he
        | some t => rw [h] at he; cases he; cases el
      · rw [List.getElem?_map] at he
        cases h : ts[i]? with
        | none => rw [h] at he; cases he
        | some t =>
          rw [h] at he; cases he
          obtain ⟨v', h1, h2⟩ := d.get h
          rw [hv] at h1; cases h1
          exact h2
    refine ⟨_, pss_self, hb cdv A outer s H E m ts hr hp _ H Sk0 _ ⟨fun M' Δ' σ' H' a b c => ?_, fun t M' Δ' v σ' H' a b c dd => ?_, fun _ _ _ _ z => z.elim, fun _ _ _ _ z => z.elim⟩⟩
    · exact q .non .non H' a c.fr c.tb .non
    · exact q v t H' a c.fr c.tb (dd.mono (mi_le c.m0))
/-- a def of the second kind -/
theorem ok_P {y : Str} (F : Fun K x qual st f fd) (S : FnScope N (y :: ps) (defScope st)) (hpre : ∀ ts, pre ts → ts.length = ps.length) (hps : ps.length + 1 ≤ N.length)
    (hb : ∀ (cdv : Value) (A : Around) (outer : List Env) (s : Shared) (H : Hp) (E : XK) (m : Addr → Prop) (p : Pn) (c : Nat) (ts : List Tr), Room k (A.deeper (envOfC qual (defScope st) s.heap.objs.size f cdv)) → pre ts → c + cost ts ≤ penMax →
      SS (cxOf CX0 P w K mg base N qual (defScope st) f cdv A outer s H E).nox (bP T p H m) ⟨m, fun b => b = p.l⟩ (slots N (.pen p c :: ts.map En.dat)) (defBody st) ⟨fun _ Δ' => post ts .non ∧ ∃ c', c' ≤ c + cost ts ∧ Δ'[0]? = some (.pen p c'), fun t Δ' => post ts t ∧ ∃ c', c' ≤ c + cost ts ∧ Δ'[0]? = some (.pen p c'), fun _ _ => False, fun _ _ => False⟩) :
    FnOk P w K mg base CX0 (k + 1) f fd (y :: ps) (spP K T pre cost post) := by
  refine F.ok S (fun vs H Q E h => ?_) (fun cdv A outer s H vs Q E hr h => ?_)
  · obtain ⟨m, p, c, vs', ts, rfl, _, _, _, d, hp, _⟩ := h
    rw [List.length_cons, List.length_cons, d.length, hpre ts hp]
  · obtain ⟨m, p, c, vs', ts, rfl, hm, pa, hc, d, hp, al, tb, q⟩ := h
    have hlen : ts.length = ps.length := hpre ts hp
    have Sk0 : Sk K (bP T p H m) ⟨m, fun b => b = p.l⟩ H (L2.start N (.ref p.l :: vs')) (slots N (.pen p c :: ts.map En.dat)) := by
      refine sk_start (by simp; omega) (by simp [d.length]) rfl (fun _ => Iff.rfl) (fun _ => Iff.rfl) (fun _ z => by subst z; exact hm) al tb (fun i j e f l he hf el fl => ?_) fun i v e hv he => ?_
      · have key : ∀ (i : Nat) (e : En), (En.pen p c :: ts.map En.dat)[i]? = some e → e.adr = some l → i = 0 := fun i e he el => by
          cases i with
          | zero => rfl
          | succ i =>
            rw [List.getElem?_cons_succ, List.getElem?_map] at he
            cases h : ts[i]? with
            | none => rw [h] at he; cases he
            | some t => rw [h] at he; cases he; cases el
        rw [key i e he el, key j f hf fl]
      · cases i with
        | zero => cases hv; cases he; exact ⟨rfl, rfl, pa⟩
        | succ i =>
          rw [List.getElem?_cons_succ] at hv he
          rw [List.getElem?_map] at he
          cases h : ts[i]? with
          | none => rw [h] at he; cases he
          | some t =>
            rw [h] at he; cases he
            obtain ⟨v', h1, h2⟩ := d.get h
            rw [hv] at h1; cases h1
            exact h2
    have fin : ∀ {M' : Pl} {Δ' : List En} {σ' : L2.St} {H' : Hp} {c' : Nat}, Sk K (bP T p H m) M' H' σ' Δ' → c' ≤ c + cost ts → Δ'[0]? = some (.pen p c') → PenAt K (mi m H') H' p (c + cost ts) := fun {M' Δ' σ' H' c'} S' h1 h2 =>
      ((S'.penAt h2).2.2.mono (mi_le S'.m0) fun _ _ z => z).le h1
    refine ⟨_, pss_self, hb cdv A outer s H E m p c ts hr hp hc _ H Sk0 _ ⟨fun M' Δ' σ' H' a b z => ?_, fun t M' Δ' v σ' H' a b z dd => ?_, fun _ _ _ _ z => z.elim, fun _ _ _ _ z => z.elim⟩⟩
    · obtain ⟨a1, c', a2, a3⟩ := a
      exact q .non .non H' a1 z.fr z.tb (fin z a2 a3) .non
    · obtain ⟨a1, c', a2, a3⟩ := a
      exact q v t H' a1 z.fr z.tb (fin z a2 a3) (dd.mono (mi_le z.m0))
end
/-- a def of the module, by its name: it keeps sp -/
structure Fn (P : Program) (w : World) (K : PySem.W.Frag) (mg : Str → Option Value) (base : Heap) (x : Str) (k : Nat) (ps : List Str) (sp : Sp) : Prop where
  ex : ∃ f fd, FnOk P w K mg base CX0 k f fd ps sp ∧ mg x = some (.ref f) ∧ PySem.W.keepIn K (.ref f) = true ∧ Binds K fd ps []
section
variable {X : Cx} {B : Bs} {M : Pl} {Δ : List En} {e a b c : Expr} {es : List Expr} {Φ : Tr → List En → Prop} {Ψ : Eo} {x : Str} {k : Nat} {ps : List Str} {pre : List Tr → Prop} {post : List Tr → Tr → Prop} {cost : List Tr → Nat}
theorem Sk.feGrow {K : PySem.W.Frag} {H H' : Hp} {σ : L2.St} (S : Sk K B M H σ Δ) (f : Fe (fun _ => False) H H') (tb : Tabs B.T H') : Sk K B M H' σ Δ where
  len := S.len
  al := fun b hb => by
    obtain ⟨o, e⟩ := S.al b hb
    by_cases n : NT o
    · exact ⟨o, f.k b o id n e⟩
    · by_cases q : ∃ ps, o = .tbl ps
      · obtain ⟨ps, rfl⟩ := q
        obtain ⟨qs, e'⟩ := f.t b ps e
        exact ⟨_, e'⟩
      · exact absurd (fun ps z => q ⟨ps, z⟩) n
  wm := S.wm
  m0 := S.m0
  pm := S.pm
  own := S.own
  wp := S.wp
  fr := S.fr.trans (f.imp fun _ _ _ z => z.elim)
  tb := tb
  dis := S.dis
  sl := fun i e q => by
    obtain ⟨o, h1, h2⟩ := S.sl i e q
    exact ⟨o, h1, h2.mono (fun _ z => z) (fun _ => Iff.rfl) (S.sub (f.imp fun _ _ _ z => z.elim)) fun l _ o n z => f.k l o id n z⟩
/-- f(e, ..) -/
theorem ee_call {p pos : Pos} (F : Fn X.prog X.w X.K X.mg X.base x k ps (spF X.K B.T pre post)) (hr : Room k X.A) (hg : Gl X x) (h : EA X B M Δ (e :: es) fun ts Δ1 => pre ts ∧ ∀ t, post ts t → Φ t Δ1)
    (hdb : (x == ("__debug__" : Str)) = false := by decide) (he : starEach (e :: es) X.env = (false, eval e X.env) :: starEach es X.env := by rfl) (hpl : (backTo pos (starEach es X.env)).any (·.1) = false := by rfl) : EE X B M Δ (.Call (.Name x p) (e :: es) [] pos) Φ := fun σ H S Q kk => by
  obtain ⟨f, fd, ok, hm, hk, hb⟩ := F.ex
  refine PE.to (pe_call ok hr hg hm hk hb .nil pass0 pa_self hdb he hpl) (h σ H S _ fun ts Δ1 vs H1 q fe S1 d => ?_)
  rw [List.append_nil]
  refine ⟨M.m, ts, d, q.1, S1.al, S1.tb, fun v t H' hp f2 tb dd => kk t Δ1 v H' (q.2 t hp) (fe.trans (f2.imp fun _ _ _ z => z.elim)) (S1.feGrow f2 tb) dd⟩
theorem ee_call0 {p pos : Pos} (F : Fn X.prog X.w X.K X.mg X.base x k ps (spF X.K B.T pre post)) (hr : Room k X.A) (hg : Gl X x) (h : pre [] ∧ ∀ t, post [] t → Φ t Δ)
    (hdb : (x == ("__debug__" : Str)) = false := by decide) : EE X B M Δ (.Call (.Name x p) [] [] pos) Φ := fun σ H S Q kk => by
  obtain ⟨f, fd, ok, hm, hk, hb⟩ := F.ex
  refine PE.to (pe_call0 ok hr hg hm hk hb .nil pass0 hdb) ?_
  show spF X.K B.T pre post ([] ++ []) H Q E0
  refine ⟨M.m, [], .nil, h.1, S.al, S.tb, fun v t H' hp f2 tb dd => kk t Δ v H' (h.2 t hp) (f2.imp fun _ _ _ z => z.elim) (S.feGrow f2 tb) dd⟩
theorem Sk.pen {K : PySem.W.Frag} {H H' : Hp} {σ : L2.St} {i : Nat} {p : Pn} {c c' : Nat} (S : Sk K B M H σ Δ) (hi : Δ[i]? = some (.pen p c)) (f : Fe (fun b => b = p.l) H H') (tb : Tabs B.T H') (pa : PenAt K (mi M.m H') H' p c') : Sk K B M H' σ (Δ.set i (.pen p c')) ∧ Fe M.w H H' := by
  obtain ⟨h1, h2, h3⟩ := S.penAt hi
  have fw : Fe M.w H H' := f.imp fun b o _ z _ => by rw [z]; exact h2
  have s := S.sub fw
  have hil : i < Δ.length := (List.getElem?_eq_some_iff.mp hi).1
  refine ⟨{ len := by rw [List.length_set]; exact S.len, al := fun b hb => ?_, wm := S.wm, m0 := S.m0, pm := S.pm, own := S.own, wp := S.wp, fr := ?_, tb := tb, dis := fun a b e f l' he hf el fl => ?_, sl := fun j e q => ?_ }, fw⟩
  · by_cases hbl : b = p.l
    · obtain ⟨_, _, z, _⟩ := pa
      exact ⟨_, by rw [hbl]; exact z⟩
    · obtain ⟨o, e⟩ := S.al b hb
      by_cases n : NT o
      · exact ⟨o, f.k b o hbl n e⟩
      · by_cases q : ∃ ps, o = .tbl ps
        · obtain ⟨ps, rfl⟩ := q
          obtain ⟨qs, e'⟩ := f.t b ps e
          exact ⟨_, e'⟩
        · exact absurd (fun ps z => q ⟨ps, z⟩) n
  · rcases S.wp p.l h2 with hp | h0
    · exact S.fr.trans (f.imp fun b o _ z _ => by rw [z]; exact hp)
    · exact ⟨fun b o pn n e => f.k b o (fun z => by rw [z, h0] at e; cases e) n (S.fr.k b o pn n e), fun b ps e => by
        obtain ⟨qs, e'⟩ := S.fr.t b ps e
        exact f.t b qs e'⟩
  · have key : ∀ (a : Nat) (e : En), (Δ.set i (.pen p c'))[a]? = some e → ∃ e', Δ[a]? = some e' ∧ e'.adr = e.adr := fun a e he => by
      by_cases ha : a = i
      · subst ha
        rw [List.getElem?_set_self hil] at he
        cases he
        exact ⟨_, hi, rfl⟩
      · rw [List.getElem?_set_ne (Ne.symm ha)] at he
        exact ⟨e, he, rfl⟩
    obtain ⟨e1, x1, x2⟩ := key a e he
    obtain ⟨f1, y1, y2⟩ := key b f hf
    exact S.dis a b e1 f1 l' x1 y1 (x2.trans el) (y2.trans fl)
  · by_cases hj : j = i
    · subst hj
      rw [List.getElem?_set_self hil] at q
      cases q
      exact ⟨_, h1, rfl, h2, pa⟩
    · rw [List.getElem?_set_ne (Ne.symm hj)] at q
      obtain ⟨u, e1, e2⟩ := S.sl j e q
      exact ⟨u, e1, e2.mono (fun _ z => z) (fun _ => Iff.rfl) s fun l' z o' n y => f.k l' o' (fun w => hj (S.dis j i e _ p.l q hi (by rw [z, w]) rfl)) n y⟩
/-- f(pen, e, ..) -/
theorem ee_callP (i : Nat) {y : Str} {p py pos : Pos} {pn : Pn} {c0 : Nat} (hN : X.N[i]? = some y) (hi : Δ[i]? = some (.pen pn c0)) (F : Fn X.prog X.w X.K X.mg X.base x k ps (spP X.K B.T pre cost post)) (hr : Room k X.A) (hg : Gl X x)
    (h : EA X B M Δ es fun ts Δ1 => ∃ c, Δ1[i]? = some (.pen pn c) ∧ pre ts ∧ c + cost ts ≤ penMax ∧ ∀ t, post ts t → Φ t (Δ1.set i (.pen pn (c + cost ts))))
    (hd : (y == ("__debug__" : Str)) = false := by decide) (hcd : (y == ("__classdict__" : Str)) = false := by decide)
    (hdb : (x == ("__debug__" : Str)) = false := by decide) (he : starEach (.Name y py :: es) X.env = (false, eval (.Name y py) X.env) :: starEach es X.env := by rfl) (hpl : (backTo pos (starEach es X.env)).any (·.1) = false := by rfl) (hv : Vis X.env.scope y := by first | exact Or.inl rfl | exact Or.inr (Or.inl rfl) | exact Or.inr (Or.inr rfl)) : EE X B M Δ (.Call (.Name x p) (.Name y py :: es) [] pos) Φ := fun σ H S Q kk => by
  obtain ⟨f, fd, ok, hm, hk, hb⟩ := F.ex
  obtain ⟨h1, _⟩ := S.penAt hi
  refine PE.to (pe_call ok hr hg hm hk hb .nil pass0 (pa_cons (pe_var (i := i) hN hv hd hcd) pa_self he) hdb he hpl) ⟨_, h1, h σ H S _ fun ts Δ1 vs H1 q fe S1 d => ?_⟩
  obtain ⟨c, q1, q2, q3, q4⟩ := q
  obtain ⟨_, w2, w3⟩ := S1.penAt q1
  rw [List.append_nil]
  refine ⟨M.m, pn, c, vs, ts, rfl, S1.wm _ w2, w3, q3, d, q2, S1.al, S1.tb, fun v t H' hp f2 tb pa dd => ?_⟩
  obtain ⟨S2, fw⟩ := S1.pen q1 f2 tb pa
  exact kk t _ v H' (q4 t hp) (fe.trans fw) S2 dd
/-! ### the pen's own fields -/
theorem key_ne (a b : Str) (h : decide (a = b) = false) : ¬ ((.inr a : Key) = .inr b) := fun z => by
  have := Sum.inr.inj z
  rw [decide_eq_false_iff_not] at h
  exact h this
theorem pen_more {a : Addr} {sp mo : Int} : valV ([((.inr "cells" : Key), V.ref a), (.inr "spot", .int sp), (.inr "more", .int mo)]) (.inr "more") = some (.int mo) := by
  unfold valV
  rw [List.find?_cons_of_neg (by simp; decide +kernel), List.find?_cons_of_neg (by simp; decide +kernel), List.find?_cons_of_pos (by simp)]
  rfl
theorem pen_spot {a : Addr} {sp mo : Int} : valV ([((.inr "cells" : Key), V.ref a), (.inr "spot", .int sp), (.inr "more", .int mo)]) (.inr "spot") = some (.int sp) := by
  unfold valV
  rw [List.find?_cons_of_neg (by simp; decide +kernel), List.find?_cons_of_pos (by simp)]
  rfl
theorem pen_cells {a : Addr} {sp mo : Int} : valV ([((.inr "cells" : Key), V.ref a), (.inr "spot", .int sp), (.inr "more", .int mo)]) (.inr "cells") = some (.ref a) := by
  unfold valV
  rw [List.find?_cons_of_pos (by simp)]
  rfl
theorem ee_penMore (i : Nat) {y : Str} {py pos p1 : Pos} {j : Nat} {pn : Pn} {c : Nat} (hu : X.A.units + 1 < cLine) (hN : X.N[i]? = some y) (hi : Δ[i]? = some (.pen pn c)) (h : ∀ mo : Int, 0 ≤ mo → Φ (.int mo) Δ)
    (hd : (y == ("__debug__" : Str)) = false := by decide) (hcd : (y == ("__classdict__" : Str)) = false := by decide) (hv : Vis X.env.scope y := by first | exact Or.inl rfl | exact Or.inr (Or.inl rfl) | exact Or.inr (Or.inr rfl)) : EE X B M Δ (.Subscript (.Name y py) (.Constant (.str "more") j p1) pos) Φ := fun σ H S Q kk => by
  obtain ⟨h1, _, sp, mo, h2, _, _, _, _, h3⟩ := S.penAt hi
  have g := DGet.k (k := .inr "more") h2
  rw [pen_more] at g
  exact PE.to (pe_dget hu (pe_var (i := i) hN hv hd hcd) pe_str (fun _ _ => rfl)) ⟨_, h1, _, _, rfl, g, kk _ _ _ H (h mo h3) (Fe.refl _ _) S (.int mo)⟩
theorem ee_penSpot (i : Nat) {y : Str} {py pos p1 : Pos} {j : Nat} {pn : Pn} {c : Nat} (hu : X.A.units + 1 < cLine) (hN : X.N[i]? = some y) (hi : Δ[i]? = some (.pen pn c)) (h : ∀ sp : Int, 0 ≤ sp → sp ≤ c → Φ (.int sp) Δ)
    (hd : (y == ("__debug__" : Str)) = false := by decide) (hcd : (y == ("__classdict__" : Str)) = false := by decide) (hv : Vis X.env.scope y := by first | exact Or.inl rfl | exact Or.inr (Or.inl rfl) | exact Or.inr (Or.inr rfl)) : EE X B M Δ (.Subscript (.Name y py) (.Constant (.str "spot") j p1) pos) Φ := fun σ H S Q kk => by
  obtain ⟨h1, _, sp, mo, h2, _, _, h4, h5, h3⟩ := S.penAt hi
  have g := DGet.k (k := .inr "spot") h2
  rw [pen_spot] at g
  exact PE.to (pe_dget hu (pe_var (i := i) hN hv hd hcd) pe_str (fun _ _ => rfl)) ⟨_, h1, _, _, rfl, g, kk _ _ _ H (h sp h4 h5) (Fe.refl _ _) S (.int sp)⟩
theorem ee_penCells (i : Nat) {y : Str} {py pos p1 : Pos} {j : Nat} {pn : Pn} {c : Nat} (hu : X.A.units + 1 < cLine) (hN : X.N[i]? = some y) (hi : Δ[i]? = some (.pen pn c)) (h : pn.cs.length ≤ 63 → Φ (.lst (pn.cs.map Tr.int)) Δ)
    (hd : (y == ("__debug__" : Str)) = false := by decide) (hcd : (y == ("__classdict__" : Str)) = false := by decide) (hv : Vis X.env.scope y := by first | exact Or.inl rfl | exact Or.inr (Or.inl rfl) | exact Or.inr (Or.inr rfl)) : EE X B M Δ (.Subscript (.Name y py) (.Constant (.str "cells") j p1) pos) Φ := fun σ H S Q kk => by
  obtain ⟨h1, _, sp, mo, h2, h6, h7, h4, h5, h3⟩ := S.penAt hi
  have g := DGet.k (k := .inr "cells") h2
  rw [pen_cells] at g
  exact PE.to (pe_dget hu (pe_var (i := i) hN hv hd hcd) pe_str (fun _ _ => rfl)) ⟨_, h1, _, _, rfl, g, kk _ _ _ H (h h7) (Fe.refl _ _) S (.lst h6 (dts_ints _))⟩
theorem pen_putMore {a : Addr} {sp mo mo' : Int} : putK ([((.inr "cells" : Key), V.ref a), (.inr "spot", .int sp), (.inr "more", .int mo)]) (.inr "more") (.int mo') = [((.inr "cells" : Key), V.ref a), (.inr "spot", .int sp), (.inr "more", .int mo')] := by
  have h1 : ¬ ((.inr "cells" : Key) = .inr "more") := by decide +kernel
  have h2 : ¬ ((.inr "spot" : Key) = .inr "more") := by decide +kernel
  simp [putK, valV, h1, h2]
theorem pen_putSpot {a : Addr} {sp mo sp' : Int} : putK ([((.inr "cells" : Key), V.ref a), (.inr "spot", .int sp), (.inr "more", .int mo)]) (.inr "spot") (.int sp') = [((.inr "cells" : Key), V.ref a), (.inr "spot", .int sp'), (.inr "more", .int mo)] := by
  have h1 : ¬ ((.inr "cells" : Key) = .inr "spot") := by decide +kernel
  have h2 : ¬ ((.inr "more" : Key) = .inr "spot") := by decide +kernel
  simp [putK, valV, h1, h2]
theorem Sk.penPut {K : PySem.W.Frag} {H : Hp} {σ : L2.St} {i : Nat} {pn : Pn} {c c' : Nat} {sp mo : Int} (S : Sk K B M H σ Δ) (hi : Δ[i]? = some (.pen pn c)) (h1 : 0 ≤ sp) (h2 : sp ≤ c') (h3 : 0 ≤ mo) :
    Sk K B M (upd H pn.l (.dK [(.inr "cells", .ref pn.a), (.inr "spot", .int sp), (.inr "more", .int mo)])) σ (Δ.set i (.pen pn c')) ∧ Fe M.w H (upd H pn.l (.dK [(.inr "cells", .ref pn.a), (.inr "spot", .int sp), (.inr "more", .int mo)])) := by
  obtain ⟨_, w2, sp0, mo0, e1, e2, e3, _⟩ := S.penAt hi
  have kd := kind_ne (H := H) (l := pn.l) (.inr (.inl ⟨_, e1⟩))
  refine S.pen hi ⟨fun b o p n e => by rw [upd_ne p]; exact e, fun b ps e => ⟨ps, by rw [upd_ne (fun z => kd.1 ps (by rw [← z]; exact e))]; exact e⟩⟩ (tabs_upd S.tb kd.1 kd.2) ⟨sp, mo, upd_same, sub_seqL (mi_write (S.wm _ w2)) e2, e3, h1, h2, h3⟩
theorem s_penMore (i : Nat) {y : Str} {py p0 p1 pos : Pos} {j : Nat} {pn : Pn} {c0 : Nat} (hu : X.A.units + 1 < cLine) (hN : X.N[i]? = some y) (hi : Δ[i]? = some (.pen pn c0)) (h : EE X B M Δ e fun t Δ1 => ∃ (v : Int) (c : Nat), t = .int v ∧ 0 ≤ v ∧ Δ1[i]? = some (.pen pn c) ∧ Ψ.nx M (Δ1.set i (.pen pn c)))
    (hs : swapsWith e (some (.Subscript (.Name y py) (.Constant (.str "more") j p1) p0)) pos.line X.env = pure false := by rfl) (hd : (y == ("__debug__" : Str)) = false := by decide) (hcd : (y == ("__classdict__" : Str)) = false := by decide) (hv : Vis X.env.scope y := by first | exact Or.inl rfl | exact Or.inr (Or.inl rfl) | exact Or.inr (Or.inr rfl)) :
    S1 X B M Δ (.Assign [.Subscript (.Name y py) (.Constant (.str "more") j p1) p0] e pos) Ψ := fun σ H S D p => by
  obtain ⟨h1, _⟩ := S.penAt hi
  refine PS.to (ps_dput hu (pe_var (i := i) hN hv hd hcd) pe_str pe_self hs) (h σ H S _ fun t Δ1 v H1 q fe S1 d => ?_)
  obtain ⟨n, c, rfl, q1, q2, q3⟩ := q
  cases d
  obtain ⟨_, w2, sp, mo, e1, e2, e3, e4, e5, e6⟩ := S1.penAt q2
  have g := DPut.k (k := .inr "more") (v := .int n) e1 (by show 3 < sizeLine; decide)
  rw [pen_putMore] at g
  obtain ⟨S2, f2⟩ := S1.penPut (c' := c) q2 e4 e5 q1
  exact ⟨_, h1, pn.l, _, rfl, g, p.nx M _ σ _ q3 (S.sub (fe.trans f2)) S2⟩
theorem s_penSpot (i : Nat) {y : Str} {py p0 p1 pos : Pos} {j : Nat} {pn : Pn} {c0 : Nat} (hu : X.A.units + 1 < cLine) (hN : X.N[i]? = some y) (hi : Δ[i]? = some (.pen pn c0)) (h : EE X B M Δ e fun t Δ1 => ∃ (v : Int) (c c' : Nat), t = .int v ∧ 0 ≤ v ∧ v ≤ c' ∧ Δ1[i]? = some (.pen pn c) ∧ Ψ.nx M (Δ1.set i (.pen pn c')))
    (hs : swapsWith e (some (.Subscript (.Name y py) (.Constant (.str "spot") j p1) p0)) pos.line X.env = pure false := by rfl) (hd : (y == ("__debug__" : Str)) = false := by decide) (hcd : (y == ("__classdict__" : Str)) = false := by decide) (hv : Vis X.env.scope y := by first | exact Or.inl rfl | exact Or.inr (Or.inl rfl) | exact Or.inr (Or.inr rfl)) :
    S1 X B M Δ (.Assign [.Subscript (.Name y py) (.Constant (.str "spot") j p1) p0] e pos) Ψ := fun σ H S D p => by
  obtain ⟨h1, _⟩ := S.penAt hi
  refine PS.to (ps_dput hu (pe_var (i := i) hN hv hd hcd) pe_str pe_self hs) (h σ H S _ fun t Δ1 v H1 q fe S1 d => ?_)
  obtain ⟨n, c, c', rfl, q1, q1', q2, q3⟩ := q
  cases d
  obtain ⟨_, w2, sp, mo, e1, e2, e3, e4, e5, e6⟩ := S1.penAt q2
  have g := DPut.k (k := .inr "spot") (v := .int n) e1 (by show 3 < sizeLine; decide)
  rw [pen_putSpot] at g
  obtain ⟨S2, f2⟩ := S1.penPut (c' := c') q2 q1 q1' e6
  exact ⟨_, h1, pn.l, _, rfl, g, p.nx M _ σ _ q3 (S.sub (fe.trans f2)) S2⟩
end
end Wf

set_option Elab.async false
set_option linter.all false
set_option maxRecDepth 100000
set_option maxHeartbeats 1000000
namespace Wf
open PySem PySem.Spec PyProof.Rows L2 LamX
/-! ### facts of data -/
theorem plainAll_map {α : Type} (f : α → Tr) : ∀ (l : List α), (∀ a ∈ l, (f a).plain = true) → plainAll (l.map f) = true
  | [], _ => by unfold List.map plainAll; rfl
  | a :: l, h => by
    unfold List.map plainAll
    rw [h a List.mem_cons_self, plainAll_map f l fun b hb => h b (List.mem_cons_of_mem _ hb)] <;> rfl
theorem pyAll_map : ∀ (l : List Tr), pyAll l = l.map Tr.py
  | [] => by unfold pyAll; rfl
  | a :: l => by unfold pyAll; rw [pyAll_map l]; rfl
theorem canLay_map {α : Type} (f : α → PyData) : ∀ (l : List α), (∀ a ∈ l, (f a).canLay0 = true) → PyData.canLayAll0 (l.map f) = true
  | [], _ => by unfold List.map PyData.canLayAll0; rfl
  | a :: l, h => by
    unfold List.map PyData.canLayAll0
    rw [h a List.mem_cons_self, canLay_map f l fun b hb => h b (List.mem_cons_of_mem _ hb)] <;> rfl
theorem depth_map {α : Type} (f : α → PyData) (n : Nat) : ∀ (l : List α), (∀ a ∈ l, (f a).depth ≤ n) → PyData.depthAll (l.map f) ≤ n
  | [], _ => by unfold List.map PyData.depthAll; exact Nat.zero_le _
  | a :: l, h => by
    unfold List.map PyData.depthAll
    exact Nat.max_le.mpr ⟨h a List.mem_cons_self, depth_map f n l fun b hb => h b (List.mem_cons_of_mem _ hb)⟩
/-- data that may be compared: plain, texts of signs, at most d deep -/
structure Tr.good (t : Tr) (d : Nat) : Prop where
  pl : t.plain = true
  cl : t.py.canLay0 = true
  dp : t.py.depth ≤ d
theorem Tr.good.eqOk {t : Tr} {d : Nat} (h : t.good d) (hd : d ≤ 64 := by decide) : t.eqOk := ⟨h.pl, by
  unfold SeqAt.shaped
  rw [h.cl, decide_eq_true (Nat.le_trans h.dp hd)] <;> rfl⟩
theorem Tr.good.le {t : Tr} {d e : Nat} (h : t.good d) (hd : d ≤ e) : t.good e := ⟨h.pl, h.cl, Nat.le_trans h.dp hd⟩
theorem good_non {d : Nat} : Tr.non.good d := ⟨by unfold Tr.plain; rfl, by unfold Tr.py PyData.canLay0; rfl, by unfold Tr.py PyData.depth; exact Nat.zero_le _⟩
theorem good_bl {b : Bool} {d : Nat} : (Tr.bl b).good d := ⟨by unfold Tr.plain; rfl, by unfold Tr.py PyData.canLay0; rfl, by unfold Tr.py PyData.depth; exact Nat.zero_le _⟩
theorem good_int {i : Int} {d : Nat} : (Tr.int i).good d := ⟨by unfold Tr.plain; rfl, by unfold Tr.py PyData.canLay0; rfl, by unfold Tr.py PyData.depth; exact Nat.zero_le _⟩
theorem good_str {x : Str} {d : Nat} (h : PyData.strOk x = true) : (Tr.str x).good d := ⟨by unfold Tr.plain; rfl, by unfold Tr.py PyData.canLay0; exact h, by unfold Tr.py PyData.depth; exact Nat.zero_le _⟩
theorem good_lst {ts : List Tr} {d : Nat} (h : ∀ t ∈ ts, t.good d) : (Tr.lst ts).good (d + 1) := by
  refine ⟨?_, ?_, ?_⟩
  · unfold Tr.plain
    have := plainAll_map id ts fun a ha => (h a ha).pl
    rwa [List.map_id] at this
  · unfold Tr.py PyData.canLay0
    rw [pyAll_map]
    exact canLay_map Tr.py ts fun a ha => (h a ha).cl
  · unfold Tr.py PyData.depth
    rw [pyAll_map]
    exact Nat.succ_le_succ (depth_map Tr.py d ts fun a ha => (h a ha).dp)
theorem good_tup {ts : List Tr} {d : Nat} (h : ∀ t ∈ ts, t.good d) : (Tr.tup ts).good (d + 1) := by
  refine ⟨?_, ?_, ?_⟩
  · unfold Tr.plain
    have := plainAll_map id ts fun a ha => (h a ha).pl
    rwa [List.map_id] at this
  · unfold Tr.py PyData.canLay0
    rw [pyAll_map]
    exact canLay_map Tr.py ts fun a ha => (h a ha).cl
  · unfold Tr.py PyData.depth
    rw [pyAll_map]
    exact Nat.succ_le_succ (depth_map Tr.py d ts fun a ha => (h a ha).dp)
theorem good_ints {ns : List Int} {d : Nat} (hd : 1 ≤ d := by decide) : (Tr.lst (ns.map Tr.int)).good d := (good_lst (d := 0) fun t ht => by
  obtain ⟨n, _, rfl⟩ := List.mem_map.mp ht
  exact good_int).le hd
/-! equal data are equal -/
mutual
theorem eqv_refl' : ∀ {d : PyData}, d.canLay0 = true → PyData.eqv d d = true
  | .none, _ => by unfold PyData.eqv; rfl
  | .bool b, _ => by unfold PyData.eqv; simp
  | .int i, _ => by unfold PyData.eqv; simp
  | .str x, _ => by unfold PyData.eqv; simp
  | .list xs, h => by unfold PyData.eqv; exact eqvAll_refl' (by unfold PyData.canLay0 at h; exact h)
  | .tuple xs, h => by unfold PyData.eqv; exact eqvAll_refl' (by unfold PyData.canLay0 at h; exact h)
  | .dict _, h => by unfold PyData.canLay0 at h; cases h
theorem eqvAll_refl' : ∀ {ds : List PyData}, PyData.canLayAll0 ds = true → PyData.eqvAll ds ds = true
  | [], _ => by unfold PyData.eqvAll; rfl
  | d :: ds, h => by
    unfold PyData.canLayAll0 at h
    rw [Bool.and_eq_true] at h
    unfold PyData.eqvAll
    rw [eqv_refl' h.1, eqvAll_refl' h.2] <;> rfl
end
theorem Tr.good.refl {t : Tr} {d : Nat} (h : t.good d) : PyData.eqv t.py t.py = true := eqv_refl' h.cl
theorem eqv_lst {ts us : List Tr} : PyData.eqv (Tr.lst ts).py (Tr.lst us).py = PyData.eqvAll (ts.map Tr.py) (us.map Tr.py) := by
  show PyData.eqv (Tr.lst ts).py (Tr.lst us).py = _
  unfold Tr.py
  rw [pyAll_map, pyAll_map]
  show PyData.eqv (.list _) (.list _) = _
  unfold PyData.eqv
  rfl
theorem eqv_nil {ts : List Tr} : PyData.eqv (Tr.lst ts).py (Tr.lst []).py = ts.isEmpty := by
  rw [eqv_lst]
  cases ts with
  | nil => rfl
  | cons t ts => rfl
end Wf

set_option Elab.async false
set_option linter.all false
set_option maxRecDepth 100000
set_option maxHeartbeats 1000000
namespace Wf
open PySem PySem.Spec PyProof.Rows L2 LamX
section
variable {X : Cx} {B : Bs} {M : Pl} {Δ : List En} {e a b c o lo hi : Expr} {es : List Expr} {Φ : Tr → List En → Prop} {Ψ : Eo}
theorem EO.mono {Φ' : Tr → List En → Prop} (h : EO X B M Δ e Φ) (q : ∀ t Δ', Φ t Δ' → Φ' t Δ') : EO X B M Δ e Φ' := fun σ H S Q k => h σ H S Q fun t Δ' l H' p => k t Δ' l H' (q t Δ' p)
/-! ### slices -/
def cutL {α : Type} (xs : List α) (lo hi : Option Int) : List α := (xs.drop (HT.sIx xs.length 0 lo)).take (HT.sIx xs.length xs.length hi - HT.sIx xs.length 0 lo)
theorem cut_dts {K : PySem.W.Frag} {I : Hp} {xs : List V} {ts : List Tr} {lo hi : Option Int} (d : Dts K I xs ts) : Dts K I (cutV xs lo hi) (cutL ts lo hi) := by
  unfold cutV cutL
  rw [d.length]
  exact (d.drop _).take _
/-- a part of a slice: an int or left out -/
def EP0 (X : Cx) (B : Bs) (M : Pl) (Δ : List En) (e : Option Expr) (Θ : Option Int → List En → Prop) : Prop := ∃ to, PO X e to ∧ ∀ σ H, Sk X.K B M H σ Δ → ∀ Q : Option Int → Hp → Prop, (∀ i Δ' H', Θ i Δ' → Fe M.w H H' → Sk X.K B M H' σ Δ' → Q i H') → to σ H Q
theorem ep_no {Θ : Option Int → List En → Prop} (h : Θ none Δ) : EP0 X B M Δ none Θ := ⟨_, po_none, fun σ H S Q k => k none Δ H h (Fe.refl _ _) S⟩
theorem ep_some {Θ : Option Int → List En → Prop} (h : EE X B M Δ e fun t Δ1 => ∃ i, t = .int i ∧ Θ (some i) Δ1) : EP0 X B M Δ (some e) Θ := ⟨_, po_some pe_self, fun σ H S Q k => h σ H S _ fun t Δ1 v H1 p f S1 d => by
  obtain ⟨i, rfl, q⟩ := p
  cases d
  exact ⟨i, rfl, k (some i) Δ1 H1 q f S1⟩⟩
theorem eo_slL {lo hi : Option Expr} {p2 pos : Pos} (h : EE X B M Δ a fun x Δ1 => ∃ ts, x = .lst ts ∧ EP0 X B M Δ1 lo fun l Δ2 => EP0 X B M Δ2 hi fun u Δ3 => Φ (.lst (cutL ts l u)) Δ3) : EO X B M Δ (.Subscript a (.Slice lo hi none p2) pos) Φ := fun σ H S Q k => by
  -- the parts' readings are chosen for each datum: all of them at once
  refine PE.to (pe_slice (X := X) (tl := fun σ H Q => ∃ to, PO X lo to ∧ to σ H Q) (th := fun σ H Q => ∃ to, PO X hi to ∧ to σ H Q) sl_list pe_self ⟨fun pins s σ H Q I ⟨to, h1, h2⟩ => h1.run pins s σ H Q I h2⟩ ⟨fun pins s σ H Q I ⟨to, h1, h2⟩ => h1.run pins s σ H Q I h2⟩) (h σ H S _ fun x Δ1 v H1 p f S1 d => ?_)
  obtain ⟨ts, rfl, tl, hl, q⟩ := p
  refine ⟨tl, hl, q σ H1 S1 _ fun l Δ2 H2 ⟨th, hh, q2⟩ f2 S2 => ⟨th, hh, q2 σ H2 S2 _ fun u Δ3 H3 q3 f3 S3 => ?_⟩⟩
  have d := (d.mono (S1.sub f2)).mono (S2.sub f3)
  cases d with
  | lst h1 h2 =>
    refine ⟨_, _, rfl, sub_seqL mi_sub h1, fun p hp => ?_⟩
    rename_i a' xs
    have s := same_new (o := .lst (cutV xs l u)) hp
    obtain ⟨a1, a2, a3⟩ := S3.newOwn (t := .lst (cutL ts l u)) hp s ⟨_, upd_same, cut_dts h2⟩
    exact k _ Δ3 p _ q3 (((f.trans f2).trans f3).trans (Fe.same s)) (((f.trans f2).trans f3).free (fun b z => S3.al b (S3.wm b z)) hp) a1 a2 a3
theorem ee_slS {lo hi : Option Expr} {p2 pos : Pos} (h : EE X B M Δ a fun x Δ1 => ∃ z : Str, x = .str z ∧ z.length ≤ sizeLine ∧ EP0 X B M Δ1 lo fun l Δ2 => EP0 X B M Δ2 hi fun u Δ3 => Φ (.str (cutS z l u)) Δ3) : EE X B M Δ (.Subscript a (.Slice lo hi none p2) pos) Φ := fun σ H S Q k => by
  refine PE.to (pe_slice (X := X) (tl := fun σ H Q => ∃ to, PO X lo to ∧ to σ H Q) (th := fun σ H Q => ∃ to, PO X hi to ∧ to σ H Q) sl_str pe_self ⟨fun pins s σ H Q I ⟨to, h1, h2⟩ => h1.run pins s σ H Q I h2⟩ ⟨fun pins s σ H Q I ⟨to, h1, h2⟩ => h1.run pins s σ H Q I h2⟩) (h σ H S _ fun x Δ1 v H1 p f S1 d => ?_)
  obtain ⟨z, rfl, hz, tl, hl, q⟩ := p
  cases d
  exact ⟨tl, hl, q σ H1 S1 _ fun l Δ2 H2 ⟨th, hh, q2⟩ f2 S2 => ⟨th, hh, q2 σ H2 S2 _ fun u Δ3 H3 q3 f3 S3 => ⟨z, rfl, hz, k _ Δ3 _ H3 q3 ((f.trans f2).trans f3) S3 (.str _)⟩⟩⟩
/-! ### list(range(..)), join, + of lists -/
theorem rg_dts {K : PySem.W.Frag} {I : Hp} (a b : Int) : Dts K I (rgV a b) ((List.range (b - a).toNat).map fun i : Nat => Tr.int (a + i)) := by
  have e : rgV a b = ((List.range (b - a).toNat).map fun i : Nat => a + (i : Int)).map V.int := by unfold rgV; rw [List.map_map]; rfl
  have e2 : ((List.range (b - a).toNat).map fun i : Nat => Tr.int (a + i)) = ((List.range (b - a).toNat).map fun i : Nat => a + (i : Int)).map Tr.int := by rw [List.map_map]; rfl
  rw [e, e2]
  exact dts_ints _
theorem eo_listRange {p q pos pos2 : Pos} (hc : X.calm = true) (hg : Gl X "list") (hm : X.mg "list" = none) (hg2 : Gl X "range") (hm2 : X.mg "range" = none) (h : EE X B M Δ a fun t Δ1 => ∃ n : Int, t = .int n ∧ 0 ≤ n ∧ n ≤ 16777216 ∧ Φ (.lst ((List.range n.toNat).map fun i : Nat => Tr.int i)) Δ1)
    (na : starEach [a] X.env = (false, eval a X.env) :: starEach [] X.env := by rfl) (na2 : starEach [.Call (.Name "range" q) [a] [] pos2] X.env = (false, eval (.Call (.Name "range" q) [a] [] pos2) X.env) :: starEach [] X.env := by rfl) : EO X B M Δ (.Call (.Name "list" p) [.Call (.Name "range" q) [a] [] pos2] [] pos) Φ := fun σ H S Q k =>
  PE.to (pe_listRg hc hg hm (prg_1 hg2 hm2 pe_self na) na2) (h σ H S _ fun t Δ1 v H1 p f S1 d => by
    obtain ⟨n, rfl, h0, h1, q⟩ := p
    cases d
    refine ⟨n, rfl, .of_le (Int.le_refl 0) h1 (by decide) h0, fun l hl => ?_⟩
    have s := same_new (o := .lst (rgV 0 n)) hl
    have e : ((List.range (n - 0).toNat).map fun i : Nat => Tr.int (0 + (i : Int))) = (List.range n.toNat).map fun i : Nat => Tr.int i := by
      rw [Int.sub_zero]
      exact List.map_congr_left fun i _ => by rw [Int.zero_add]
    obtain ⟨a1, a2, a3⟩ := S1.newOwn (t := .lst ((List.range n.toNat).map fun i : Nat => Tr.int i)) hl s ⟨_, upd_same, e ▸ rg_dts 0 n⟩
    exact k _ Δ1 l _ q (f.trans (Fe.same s)) (f.free (fun b z => S1.al b (S1.wm b z)) hl) a1 a2 a3)
theorem ee_join {apos pos : Pos} (h : EE X B M Δ o fun x Δ1 => ∃ z : Str, x = .str z ∧ EE X B M Δ1 e fun y Δ2 => ∃ ys : List Str, (y = .lst (ys.map Tr.str) ∨ y = .tup (ys.map Tr.str)) ∧ (ys.map (·.length)).sum + ys.length * z.length ≤ 16777216 ∧ Φ (.str (Txt.join z ys)) Δ2)
    (hs : starEach [e] X.env = [(false, eval e X.env)] := by rfl) (hbase : attributeBase o "join" X.env (eval o X.env) = eval o X.env := by rfl) (hline : (apos.endLine == pos.line) = true := by rfl) : EE X B M Δ (.Call (.Attribute o "join" apos) [e] [] pos) Φ := fun σ H S Q k =>
  PE.to (pe_join pe_self pe_self hs hbase hline) (h σ H S _ fun x Δ1 v H1 p f S1 d => by
    obtain ⟨z, rfl, p⟩ := p
    cases d
    refine ⟨⟨z, rfl⟩, p σ H1 S1 _ fun y Δ2 w H2 p2 f2 S2 d2 => ?_⟩
    obtain ⟨ys, hy, hz, q⟩ := p2
    rcases hy with rfl | rfl
    · cases d2 with
      | lst g1 g2 =>
        have e := of_strs ys g2
        subst e
        exact ⟨z, _, ys, rfl, rfl, .inl (sub_seqL mi_sub g1), hz, k _ Δ2 _ H2 q (f.trans f2) S2 (.str _)⟩
    · cases d2 with
      | tup g1 g2 =>
        have e := of_strs ys g2
        subst e
        exact ⟨z, _, ys, rfl, rfl, .inr (sub_seqT mi_sub g1), hz, k _ Δ2 _ H2 q (f.trans f2) S2 (.str _)⟩)
/-! ### instances: fields, properties, methods -/
theorem dfs_look {K : PySem.W.Frag} {I : Hp} {f : Str} : ∀ {fs : List (Str × V)} {es : List (Str × Tr)} {t : Tr}, Dfs K I fs es → es.lookup f = some t → ∃ v, fs.lookup f = some v ∧ Dt K I v t
  | _, _, _, .nil, h => by simp at h
  | (k, v) :: fs, (_, t0) :: es, t, .cons d q, h => by
    rw [List.lookup_cons] at h
    rw [List.lookup_cons]
    cases hk : f == k with
    | true =>
      rw [hk] at h
      cases h
      exact ⟨v, rfl, d⟩
    | false =>
      rw [hk] at h
      exact dfs_look q h
theorem dfs_none {K : PySem.W.Frag} {I : Hp} {f : Str} : ∀ {fs : List (Str × V)} {es : List (Str × Tr)}, Dfs K I fs es → es.lookup f = none → fs.lookup f = none
  | _, _, .nil, _ => rfl
  | (k, v) :: fs, (_, t0) :: es, .cons d q, h => by
    rw [List.lookup_cons] at h ⊢
    cases hk : f == k with
    | true => rw [hk] at h; cases h
    | false =>
      rw [hk] at h
      exact dfs_none q h
theorem ee_fld {f : Str} {pos : Pos} (h : EE X B M Δ o fun x Δ1 => ∃ C fs u, x = .ins C fs ∧ Cls X.K C ∧ NoAttr X.K C f ∧ fs.lookup f = some u ∧ Φ u Δ1) (hb : attributeBase o f X.env (eval o X.env) = eval o X.env := by rfl) : EE X B M Δ (.Attribute o f pos) Φ := fun σ H S Q k =>
  PE.to (pe_fld pe_self hb) (h σ H S _ fun x Δ1 v H1 p f S1 d => by
    obtain ⟨C, fs, u, rfl, c1, c2, l, q⟩ := p
    cases d with
    | ins h1 h2 =>
      obtain ⟨w, e1, e2⟩ := dfs_look h2 l
      exact ⟨_, C, _, _, w, rfl, (mi_some.mp h1).2, c1, c2, e1, k u Δ1 w H1 q f S1 e2⟩)
/-- a method's or a property's def -/
structure Mt (P : Program) (w : World) (K : PySem.W.Frag) (mg : Str → Option Value) (base : Heap) (C : Addr) (m : Str) (k : Nat) (ps : List Str) (sp : Sp) : Prop where
  cl : Cls K C
  ex : ∃ f fd, FnOk P w K mg base CX0 k f fd ps sp ∧ Meth K C m f ∧ Binds K fd ps []
structure Pt (P : Program) (w : World) (K : PySem.W.Frag) (mg : Str → Option Value) (base : Heap) (C : Addr) (m : Str) (k : Nat) (ps : List Str) (sp : Sp) : Prop where
  cl : Cls K C
  ex : ∃ p f fd, FnOk P w K mg base CX0 k f fd ps sp ∧ PropOf K C m p f ∧ Binds K fd ps []
theorem passN {X : Cx} : Passes CX0 X.nox E0 := fun _ _ _ _ _ _ _ h => h.elim
theorem ee_prop {m : Str} {C : Addr} {k : Nat} {ps : List Str} {pre : List Tr → Prop} {post : List Tr → Tr → Prop} {pos : Pos} (F : Pt X.prog X.w X.K X.mg X.base C m k ps (spF X.K B.T pre post)) (hr : Room (k + 1) X.A)
    (h : EE X B M Δ o fun x Δ1 => ∃ fs, x = .ins C fs ∧ pre [.ins C fs] ∧ ∀ t, post [.ins C fs] t → Φ t Δ1) (hb : attributeBase o m X.env (eval o X.env) = eval o X.env := by rfl) : EE X B M Δ (.Attribute o m pos) Φ := fun σ H S Q kk => by
  obtain ⟨p, f, fd, ok, hp, hbn⟩ := F.ex
  refine PE.to (pe_prop pe_self F.cl hp ok hr hbn .nil passN hb) (h σ H S _ fun x Δ1 v H1 q fe S1 d => ?_)
  obtain ⟨fs, rfl, q1, q2⟩ := q
  cases d with
  | ins h1 h2 =>
    refine ⟨_, _, _, rfl, (mi_some.mp h1).2, M.m, [.ins C fs], .cons (.ins h1 h2) .nil, q1, S1.al, S1.tb, fun v t H' hp f2 tb dd => kk t Δ1 v H' (q2 t hp) (fe.trans (f2.imp fun _ _ _ z => z.elim)) (S1.feGrow f2 tb) dd⟩
theorem ee_meth {m : Str} {C : Addr} {k : Nat} {ps : List Str} {pre : List Tr → Prop} {post : List Tr → Tr → Prop} {apos pos : Pos} {pl : Sem Bool} (F : Mt X.prog X.w X.K X.mg X.base C m k ps (spF X.K B.T pre post)) (hr : Room k X.A)
    (h : EE X B M Δ o fun x Δ1 => ∃ fs, x = .ins C fs ∧ fs.lookup m = none ∧ EA X B M Δ1 (e :: es) fun ts Δ2 => pre (.ins C fs :: ts) ∧ ∀ t, post (.ins C fs :: ts) t → Φ t Δ2)
    (hst : starEach (e :: es) X.env = (false, eval e X.env) :: starEach es X.env := by rfl) (hpl : (backTo pos (starEach es X.env)).any (·.1) = false := by rfl)
    (ht : eval (.Call (.Attribute o m apos) (e :: es) [] pos) X.env = (do
      let ov ← eval o X.env
      standAt apos.atName
      let (f, first) ← holding [ov] (getMethod ov m pl)
      callWith pos f first (backTo pos (starEach (e :: es) X.env)) (backToKw pos (keywordEach [] X.env))) := by rfl) : EE X B M Δ (.Call (.Attribute o m apos) (e :: es) [] pos) Φ := fun σ H S Q kk => by
  obtain ⟨f, fd, ok, hp, hbn⟩ := F.ex
  refine PE.to (pe_meth pe_self F.cl hp ok hr hbn .nil pass0 pa_self hst hpl ht) (h σ H S _ fun x Δ1 v H1 q fe S1 d => ?_)
  obtain ⟨fs, rfl, q0, q1⟩ := q
  cases d with
  | ins h1 h2 =>
    rename_i a' dx fs'
    refine ⟨_, _, _, rfl, (mi_some.mp h1).2, dfs_none h2 q0, q1 σ H1 S1 _ fun ts Δ2 vs H2 q2 f2 S2 d2 => ?_⟩
    rw [List.append_nil]
    exact ⟨M.m, _, .cons ((Dt.ins h1 h2).mono (S1.sub f2)) d2, q2.1, S2.al, S2.tb, fun v t H' hp f3 tb dd => kk t Δ2 v H' (q2.2 t hp) ((fe.trans f2).trans (f3.imp fun _ _ _ z => z.elim)) (S2.feGrow f3 tb) dd⟩
/-! ### x.append(y.pop(i)), both owned -/
theorem s_appendPop (i j : Nat) {x y : Str} {p1 p2 p3 p4 p5 p6 pos : Pos} (hN : X.N[i]? = some x) (hN2 : X.N[j]? = some y) {l m : Addr} {ts0 us0 : List Tr} (hi : Δ[i]? = some (.own l (.lst ts0))) (hj : Δ[j]? = some (.own m (.lst us0))) (hij : i ≠ j)
    (h : EE X B M Δ e fun t Δ1 => ∃ (n : Nat) (ts us : List Tr) (u : Tr), t = .int n ∧ us[n]? = some u ∧ Δ1[i]? = some (.own l (.lst ts)) ∧ Δ1[j]? = some (.own m (.lst us)) ∧ ts.length < sizeLine ∧ us.length ≤ sizeLine ∧ Ψ.nx M ((Δ1.set j (.own m (.lst (us.eraseIdx n)))).set i (.own l (.lst (ts ++ [u])))))
    (hE : PS X (.Expr (.Call (.Attribute (.Name x p1) "append" p2) [.Call (.Attribute (.Name y p3) "pop" p4) [e] [] p5] [] p6) pos) (tDrop (tBM X.K "list" rAppend (tVar i) (tCons (tBM X.K "list" rPopAt (tVar j) (tCons (WE X e) tNil)) tNil))) := by
      exact ps_expr (pe_bm PySem.F.plainAttrs_list PySem.F.slot_list_append PySem.F.type_list_append mt_append (pv _) (pa_cons (pe_bm PySem.F.plainAttrs_list PySem.F.slot_list_pop PySem.F.type_list_pop mt_popAt (pv _) (pa_cons pe_self pa_nil)) pa_nil))) :
    S1 X B M Δ (.Expr (.Call (.Attribute (.Name x p1) "append" p2) [.Call (.Attribute (.Name y p3) "pop" p4) [e] [] p5] [] p6) pos) Ψ := fun σ H S D p => by
  obtain ⟨h1, h2, h3, h4, xs0, h5, h6⟩ := S.ownAt hi
  obtain ⟨g1, g2, g3, g4, ys0, g5, g6⟩ := S.ownAt hj
  refine PS.to hE ⟨_, h1, .inl ⟨rfl, _, SqL.of h5⟩, _, g1, .inl ⟨rfl, _, SqL.of g5⟩, h σ H S _ fun t Δ1 v H1 q f S1 d => ?_⟩
  obtain ⟨n, ts, us, u, rfl, q0, q1, q2, q3, q5, q4⟩ := q
  cases d
  obtain ⟨_, _, _, _, xs, h7, h8⟩ := S1.ownAt q1
  obtain ⟨_, _, _, _, ys, g7, g8⟩ := S1.ownAt q2
  obtain ⟨w', w1, w2⟩ := g8.get q0
  have hn : n < ys.length := (List.getElem?_eq_some_iff.mp w1).1
  have hsl : sizeLine = 16777216 := sizeLine_eq
  have hyl := g8.length
  refine ⟨m, ys, n, n, w', rfl, rfl, g7, by omega, by omega, ?_, w1, ?_⟩
  · have e1 : (if (n : Int) < 0 then (n : Int) + (ys.length : Int) else (n : Int)) = (n : Int) := if_neg (by omega)
    unfold seqIndex?
    show (if (decide (0 ≤ (if (n : Int) < 0 then (n : Int) + (ys.length : Int) else (n : Int))) && decide ((if (n : Int) < 0 then (n : Int) + (ys.length : Int) else (n : Int)) < (ys.length : Int))) = true then some (if (n : Int) < 0 then (n : Int) + (ys.length : Int) else (n : Int)).toNat else none) = some n
    rw [e1, if_pos (by rw [Bool.and_eq_true]; exact ⟨decide_eq_true (by omega), decide_eq_true (by omega)⟩)]
    rfl
  obtain ⟨S2, s2⟩ := S1.write (o := .lst (ys.eraseIdx n)) (t' := .lst (us.eraseIdx n)) q2 ⟨_, upd_same, g8.erase n⟩
  have hlm : l ≠ m := fun z => hij (S1.dis i j _ _ l q1 q2 rfl (by rw [z]; rfl))
  have q1' : (Δ1.set j (.own m (.lst (us.eraseIdx n))))[i]? = some (.own l (.lst ts)) := by rw [List.getElem?_set_ne (Ne.symm hij)]; exact q1
  obtain ⟨S3, s3⟩ := S2.write (o := .lst (xs ++ [w'])) (t' := .lst (ts ++ [u])) q1' ⟨_, upd_same, (h8.mono s2).append (.cons (w2.mono s2) .nil)⟩
  refine ⟨l, xs, w', rfl, rfl, by rw [upd_ne hlm]; exact h7, by rw [h8.length]; exact q3, ?_⟩
  exact p.nx M _ σ _ q4 (((S.sub f).trans s2).trans s3) S3
end
end Wf

set_option Elab.async false
set_option linter.all false
set_option maxRecDepth 100000
set_option maxHeartbeats 1000000
namespace Wf
open PySem PySem.Spec PyProof.Rows L2 LamX
section
variable {X : Cx} {B : Bs} {M : Pl} {Δ : List En} {tg iter elt c : Expr} {Φ : Tr → List En → Prop} {scope : Scope} {pos : Pos} {Ψ : Eo}
theorem wipeE_adr {Δ : List En} : ∀ {vs : List Nat} {e : En} {l : Addr}, e ∈ wipeE Δ vs → e.adr = some l → ∃ e0 ∈ Δ, e0.adr = some l
  | [], e, l, h, q => ⟨e, h, q⟩
  | v :: vs, e, l, h, q => by
    unfold wipeE at h
    rcases List.mem_or_eq_of_mem_set h with h | h
    · exact wipeE_adr h q
    · rw [h] at q; cases q
/-- the elements draw from the pen at slot q -/
theorem elc_lcPen (T : Tg) (hT : T.vs.Nodup)
    (h : EI X B M Δ tg iter fun n f Δ1 => ∃ (q : Nat) (pn : Pn) (c0 cst : Nat) (R : Nat → Tr → Prop), (wipeE Δ1 T.vs)[q]? = some (.pen pn c0) ∧ n ≤ sizeLine ∧
      (∀ i c D, i < n → c ≤ c0 + i * cst → T.ok (f i) ∧ ∀ (s : Shared) (H : Hp) (C : Addr) (cl : List (Str × Addr)) (fp : List Addr), EE (X.blk s H scope (compEnvC scope cl C X.env) fp) B (ins M D) (T.set ((wipeE Δ1 T.vs).set q (.pen pn c)) (f i)) elt fun t Δ3 =>
        R i t ∧ ∃ c', c' ≤ c + cst ∧ wipeE Δ3 T.vs = (wipeE Δ1 T.vs).set q (.pen pn c')) ∧
      ∀ ts c, ts.length = n → (∀ (i : Nat) t, ts[i]? = some t → R i t) → c ≤ c0 + n * cst → Φ (.lst ts) ((wipeE Δ1 T.vs).set q (.pen pn c))) : ELc X B M Δ T tg iter elt [] scope Φ := by
  refine elc T hT ?_
  obtain ⟨wi, h1, h2⟩ := h
  refine ⟨wi, h1, fun σ H S R k => h2 σ H S R fun n f Δ' J G Y H' p => k n f Δ' J G Y H' ?_⟩
  obtain ⟨q, pn, c0, cst, Rl, hq, hn, ht, hd⟩ := p
  have hq0 : (wipeE Δ' T.vs).set q (.pen pn c0) = wipeE Δ' T.vs := by
    obtain ⟨hl, he⟩ := List.getElem?_eq_some_iff.mp hq
    rw [← he]
    exact List.set_getElem_self hl
  refine ⟨fun i acc Δ2 => ∃ c, Δ2 = (wipeE Δ' T.vs).set q (.pen pn c) ∧ c ≤ c0 + i * cst ∧ acc.length = i ∧ ∀ (j : Nat) t, acc[j]? = some t → Rl j t, ⟨c0, hq0.symm, by omega, rfl, fun j t z => by simp at z⟩, ?_, ?_, ?_⟩
  · rintro i acc Δ2 D hi ⟨c, rfl, hc', hl, hR⟩ hD
    obtain ⟨okT, he⟩ := ht i c D hi hc'
    refine ⟨okT, fun s H C cl fp => ets_nil ⟨fun _ s H C cl fp => EE.mono (he s H C cl fp) fun t Δ3 ⟨r, c', hc2, e3⟩ => ⟨by omega, c', e3, ?_, by rw [List.length_append, hl]; rfl, fun j t' z => ?_⟩, fun z => Bool.noConfusion z⟩⟩
    · rw [Nat.add_mul]; omega
    · by_cases hj : j < acc.length
      · rw [List.getElem?_append_left hj] at z
        exact hR j t' z
      · rw [List.getElem?_append_right (by omega)] at z
        have : j - acc.length = 0 := by
          cases e : j - acc.length with
          | zero => rfl
          | succ m => rw [e] at z; simp at z
        rw [this] at z
        cases z
        have : j = i := by omega
        rw [this]; exact r
  · rintro i acc Δ2 ⟨c, rfl, _⟩ e he l el
    rcases List.mem_or_eq_of_mem_set he with he | rfl
    · exact wipeE_adr he el
    · obtain rfl : pn.l = l := Option.some.inj el
      exact wipeE_adr (List.mem_of_getElem? hq) rfl
  · rintro acc Δ2 ⟨c, rfl, hc', hl, hR⟩
    exact hd acc c hl hR hc'
/-- the elements are pure: a map -/
theorem elc_lcMap (T : Tg) (hT : T.vs.Nodup)
    (h : EI X B M Δ tg iter fun n f Δ1 => ∃ g : Nat → Tr, n ≤ sizeLine ∧ (∀ i D, i < n → T.ok (f i) ∧ ∀ (s : Shared) (H : Hp) (C : Addr) (cl : List (Str × Addr)) (fp : List Addr), EE (X.blk s H scope (compEnvC scope cl C X.env) fp) B (ins M D) (T.set (wipeE Δ1 T.vs) (f i)) elt fun t Δ3 =>
        t = g i ∧ wipeE Δ3 T.vs = wipeE Δ1 T.vs) ∧ Φ (.lst ((List.range n).map g)) (wipeE Δ1 T.vs)) : ELc X B M Δ T tg iter elt [] scope Φ := by
  refine elc T hT ?_
  obtain ⟨wi, h1, h2⟩ := h
  refine ⟨wi, h1, fun σ H S R k => h2 σ H S R fun n f Δ' J G Y H' p => k n f Δ' J G Y H' ?_⟩
  obtain ⟨g, hn, ht, hd⟩ := p
  refine ⟨fun i acc Δ2 => Δ2 = wipeE Δ' T.vs ∧ acc = (List.range i).map g, ⟨rfl, rfl⟩, ?_, ?_, ?_⟩
  · rintro i acc Δ2 D hi ⟨rfl, rfl⟩ hD
    obtain ⟨okT, he⟩ := ht i D hi
    refine ⟨okT, fun s H C cl fp => ets_nil ⟨fun _ s H C cl fp => EE.mono (he s H C cl fp) fun t Δ3 ⟨r, e3⟩ => ⟨by rw [List.length_map, List.length_range]; omega, e3, by rw [List.range_succ, List.map_append, r]; rfl⟩, fun z => Bool.noConfusion z⟩⟩
  · rintro i acc Δ2 ⟨rfl, _⟩ e he l el
    exact wipeE_adr he el
  · rintro acc Δ2 ⟨rfl, rfl⟩
    exact hd
/-- the same with a test -/
theorem elc_lcFilter (T : Tg) (hT : T.vs.Nodup)
    (h : EI X B M Δ tg iter fun n f Δ1 => ∃ (g : Nat → Tr) (p : Nat → Bool), n ≤ sizeLine ∧ (∀ i D, i < n → T.ok (f i) ∧ ∀ (s : Shared) (H : Hp) (C : Addr) (cl : List (Str × Addr)) (fp : List Addr), ET (X.blk s H scope (compEnvC scope cl C X.env) fp) B (ins M D) (T.set (wipeE Δ1 T.vs) (f i)) c fun k Δ2 =>
        k = p i ∧ wipeE Δ2 T.vs = wipeE Δ1 T.vs ∧ (k = true → ∀ (s : Shared) (H : Hp) (C : Addr) (cl : List (Str × Addr)) (fp : List Addr), EE (X.blk s H scope (compEnvC scope cl C X.env) fp) B (ins M D) Δ2 elt fun t Δ3 => t = g i ∧ wipeE Δ3 T.vs = wipeE Δ1 T.vs)) ∧ Φ (.lst (((List.range n).filter p).map g)) (wipeE Δ1 T.vs)) : ELc X B M Δ T tg iter elt [c] scope Φ := by
  refine elc T hT ?_
  obtain ⟨wi, h1, h2⟩ := h
  refine ⟨wi, h1, fun σ H S R k => h2 σ H S R fun n f Δ' J G Y H' p => k n f Δ' J G Y H' ?_⟩
  obtain ⟨g, pr, hn, ht, hd⟩ := p
  refine ⟨fun i acc Δ2 => Δ2 = wipeE Δ' T.vs ∧ acc = ((List.range i).filter pr).map g, ⟨rfl, rfl⟩, ?_, ?_, ?_⟩
  · rintro i acc Δ2 D hi ⟨rfl, rfl⟩ hD
    obtain ⟨okT, he⟩ := ht i D hi
    refine ⟨okT, fun s H C cl fp => ets_one (ET.mono (he s H C cl fp) fun k Δ2 ⟨hk, e2, hkt⟩ => ⟨fun z s H C cl fp => EE.mono (hkt z s H C cl fp) fun t Δ3 ⟨r, e3⟩ => ⟨?_, e3, ?_⟩, fun z => ⟨e2, ?_⟩⟩)⟩
    · have := List.length_filter_le pr (List.range i)
      rw [List.length_range] at this
      rw [List.length_map]; omega
    · subst z
      rw [List.range_succ, List.filter_append, List.map_append, r]
      have : List.filter pr [i] = [i] := by rw [List.filter_cons, ← hk]; rfl
      rw [this]; rfl
    · subst z
      rw [List.range_succ, List.filter_append]
      have : List.filter pr [i] = [] := by rw [List.filter_cons, ← hk]; rfl
      rw [this, List.append_nil]
  · rintro i acc Δ2 ⟨rfl, _⟩ e he l el
    exact wipeE_adr he el
  · rintro acc Δ2 ⟨rfl, rfl⟩
    exact hd
theorem eo_lcPen (T : Tg) {own : List (Str × Nat)} (hc : X.calm = true) (hN : X.N.Nodup) (hT : T.vs.Nodup) (ho : own.map (·.2) = T.vs) (ok : BlkOk X.N X.env.scope scope own)
    (hg : ∀ (s : Shared) (H : Hp) (C : Addr) (cl : List (Str × Addr)) (fp : List Addr), PG (X.blk s H scope (compEnvC scope cl C X.env) fp) tg (T.g X.K))
    (h : EI X B M Δ tg iter fun n f Δ1 => ∃ (q : Nat) (pn : Pn) (c0 cst : Nat) (R : Nat → Tr → Prop), (wipeE Δ1 T.vs)[q]? = some (.pen pn c0) ∧ n ≤ sizeLine ∧
      (∀ i c D, i < n → c ≤ c0 + i * cst → T.ok (f i) ∧ ∀ (s : Shared) (H : Hp) (C : Addr) (cl : List (Str × Addr)) (fp : List Addr), EE (X.blk s H scope (compEnvC scope cl C X.env) fp) B (ins M D) (T.set ((wipeE Δ1 T.vs).set q (.pen pn c)) (f i)) elt fun t Δ3 =>
        R i t ∧ ∃ c', c' ≤ c + cst ∧ wipeE Δ3 T.vs = (wipeE Δ1 T.vs).set q (.pen pn c')) ∧
      ∀ ts c, ts.length = n → (∀ (i : Nat) t, ts[i]? = some t → R i t) → c ≤ c0 + n * cst → Φ (.lst ts) ((wipeE Δ1 T.vs).set q (.pen pn c)))
    (hs : ∀ x, foldedSetIterable iter X.env x = pure x := by intro _; rfl) : EO X B M Δ (.ListComp elt [⟨tg, iter, [], 0⟩] scope pos) Φ := eo_of T hc hN ho ok hg (elc_lcPen T hT h) hs
theorem eo_lcMap (T : Tg) {own : List (Str × Nat)} (hc : X.calm = true) (hN : X.N.Nodup) (hT : T.vs.Nodup) (ho : own.map (·.2) = T.vs) (ok : BlkOk X.N X.env.scope scope own)
    (hg : ∀ (s : Shared) (H : Hp) (C : Addr) (cl : List (Str × Addr)) (fp : List Addr), PG (X.blk s H scope (compEnvC scope cl C X.env) fp) tg (T.g X.K))
    (h : EI X B M Δ tg iter fun n f Δ1 => ∃ g : Nat → Tr, n ≤ sizeLine ∧ (∀ i D, i < n → T.ok (f i) ∧ ∀ (s : Shared) (H : Hp) (C : Addr) (cl : List (Str × Addr)) (fp : List Addr), EE (X.blk s H scope (compEnvC scope cl C X.env) fp) B (ins M D) (T.set (wipeE Δ1 T.vs) (f i)) elt fun t Δ3 =>
        t = g i ∧ wipeE Δ3 T.vs = wipeE Δ1 T.vs) ∧ Φ (.lst ((List.range n).map g)) (wipeE Δ1 T.vs))
    (hs : ∀ x, foldedSetIterable iter X.env x = pure x := by intro _; rfl) : EO X B M Δ (.ListComp elt [⟨tg, iter, [], 0⟩] scope pos) Φ := eo_of T hc hN ho ok hg (elc_lcMap T hT h) hs
theorem eo_lcFilter (T : Tg) {own : List (Str × Nat)} (hc : X.calm = true) (hN : X.N.Nodup) (hT : T.vs.Nodup) (ho : own.map (·.2) = T.vs) (ok : BlkOk X.N X.env.scope scope own)
    (hg : ∀ (s : Shared) (H : Hp) (C : Addr) (cl : List (Str × Addr)) (fp : List Addr), PG (X.blk s H scope (compEnvC scope cl C X.env) fp) tg (T.g X.K))
    (h : EI X B M Δ tg iter fun n f Δ1 => ∃ (g : Nat → Tr) (p : Nat → Bool), n ≤ sizeLine ∧ (∀ i D, i < n → T.ok (f i) ∧ ∀ (s : Shared) (H : Hp) (C : Addr) (cl : List (Str × Addr)) (fp : List Addr), ET (X.blk s H scope (compEnvC scope cl C X.env) fp) B (ins M D) (T.set (wipeE Δ1 T.vs) (f i)) c fun k Δ2 =>
        k = p i ∧ wipeE Δ2 T.vs = wipeE Δ1 T.vs ∧ (k = true → ∀ (s : Shared) (H : Hp) (C : Addr) (cl : List (Str × Addr)) (fp : List Addr), EE (X.blk s H scope (compEnvC scope cl C X.env) fp) B (ins M D) Δ2 elt fun t Δ3 => t = g i ∧ wipeE Δ3 T.vs = wipeE Δ1 T.vs)) ∧ Φ (.lst (((List.range n).filter p).map g)) (wipeE Δ1 T.vs))
    (hs : ∀ x, foldedSetIterable iter X.env x = pure x := by intro _; rfl) : EO X B M Δ (.ListComp elt [⟨tg, iter, [c], 0⟩] scope pos) Φ := eo_of T hc hN ho ok hg (elc_lcFilter T hT h) hs
end
end Wf

set_option Elab.async false
set_option linter.all false
set_option maxRecDepth 100000
set_option maxHeartbeats 1000000
namespace Wf
open PySem PySem.Spec PyProof.Rows L2 LamX
/-! ### texts by their signs -/
def sgn (c : Nat) : Str := ⟨#[c]⟩
def txt (cs : List Nat) : Str := ⟨cs.toArray⟩
theorem txt_len (cs : List Nat) : (txt cs).length = cs.length := by simp [txt, Str.length]
theorem txt_cps (cs : List Nat) : (txt cs).cps.toList = cs := by simp [txt]
theorem txt_of (z : Str) : txt z.cps.toList = z := by cases z; simp [txt]
theorem txt_inj {a b : List Nat} (h : txt a = txt b) : a = b := by
  have := congrArg (fun z : Str => z.cps.toList) h
  simpa [txt] using this
theorem append_txt (a b : List Nat) : txt a ++ txt b = txt (a ++ b) := by
  show (⟨a.toArray ++ b.toArray⟩ : Str) = ⟨(a ++ b).toArray⟩
  simp
theorem join_txt (e : Str) (he : e.cps = #[]) : ∀ ls : List (List Nat), Txt.join e (ls.map txt) = txt ls.flatten := by
  intro ls
  show Builtin.Str.glued e (ls.map txt) = _
  rw [StrLaws.glued_eq_join]
  have h0 : e = txt [] := by cases e; simp at he; subst he; rfl
  induction ls with
  | nil => rfl
  | cons a r ih =>
    cases r with
    | nil => show txt a = _; simp
    | cons b r =>
      show txt a ++ e ++ Str.join e (txt b :: r.map txt) = _
      rw [show Str.join e (txt b :: r.map txt) = Str.join e ((b :: r).map txt) from rfl, ih, h0, append_txt, append_txt]
      simp
theorem join_sgn (e : Str) (he : e.cps = #[]) (cs : List Nat) : Txt.join e (cs.map sgn) = txt cs := by
  have h : cs.map sgn = (cs.map fun c => [c]).map txt := by rw [List.map_map]; rfl
  rw [h, join_txt e he]
  congr 1
  clear h
  induction cs with
  | nil => rfl
  | cons c cs ih =>
    rw [List.map_cons, List.flatten_cons, ih]
    rfl
theorem sgn_len (cs : List Nat) : ((cs.map sgn).map (·.length)).sum = cs.length := by
  induction cs with
  | nil => rfl
  | cons c cs ih =>
    rw [List.map_cons, List.map_cons, List.sum_cons, ih]
    show 1 + cs.length = cs.length + 1
    omega
theorem strOk_txt {cs : List Nat} (h : ∀ c ∈ cs, c < 128) : PyData.strOk (txt cs) = true := by
  unfold PyData.strOk
  simp only [txt, List.all_toArray]
  rw [List.all_eq_true]
  intro c hc
  have := h c hc
  simp
  omega
theorem map_range {α β : Type} (F : α → β) (d : α) : ∀ l : List α, (List.range l.length).map (fun i => F (l.getD i d)) = l.map F := by
  intro l
  apply List.ext_getElem?
  intro i
  rw [List.getElem?_map, List.getElem?_map]
  by_cases h : i < l.length
  · rw [List.getElem?_range h]
    simp [h]
  · rw [List.getElem?_eq_none (by simpa using h), List.getElem?_eq_none (by omega)]
    rfl
end Wf

set_option Elab.async false
set_option linter.all false
set_option maxRecDepth 100000
set_option maxHeartbeats 1000000
namespace Wf
open PySem PySem.Spec PyProof.Rows L2 LamX
open PySem.W (EachIs AllAlike Sortable dataLe KeyPure)
/-! ### the values of a list that stands for data, sorted -/
theorem each_of {R : Value → Tr → Prop} {K : PySem.W.Frag} {I : Hp} (h : ∀ u t v, RelV v u → Dt K I v t → R u t) : ∀ {vs : List V} {us : List Value} {ts : List Tr}, Vals vs us → Dts K I vs ts → EachIs R us ts
  | _, _, _, .nil, .nil => .nil
  | _, _, _, .cons r rs, .cons d ds => .cons (h _ _ _ r d) (each_of h rs ds)
theorem each_back {K : PySem.W.Frag} {I : Hp} : ∀ {us : List Value} {ts : List Tr}, EachIs (fun u t => ∃ v, RelV v u ∧ Dt K I v t) us ts → ∃ vs, Vals vs us ∧ Dts K I vs ts
  | _, _, .nil => ⟨[], .nil, .nil⟩
  | _, _, .cons ⟨v, r, d⟩ h => let ⟨vs, h1, h2⟩ := each_back h; ⟨v :: vs, .cons r h1, .cons d h2⟩
theorem plainAll_mem {ts : List Tr} : plainAll ts = true → ∀ t ∈ ts, t.plain = true := by
  induction ts with
  | nil => intro _ t h; simp at h
  | cons x xs ih =>
    intro h t ht
    unfold plainAll at h
    rw [Bool.and_eq_true] at h
    rcases List.mem_cons.mp ht with rfl | ht
    · exact h.1
    · exact ih h.2 t ht
def rSortD (K : PySem.W.Frag) : List V → Hp → VK → Prop := fun vs H Q => ∃ (I : Hp) (a : Addr) (xs : List V) (ts : List Tr), vs = [.ref a] ∧ SqL K H a xs ∧ Sub I H ∧ Dts K I xs ts ∧ (∀ t ∈ ts, t.plain = true) ∧ AllAlike (ts.map Tr.py) ∧ Sortable (ts.map Tr.py) ∧ (∀ t ∈ ts, t.py.depth ≤ 8) ∧
  ∀ ys p, Dts K I ys (ts.mergeSort (dataLe false Tr.py)) → H p = none → Q (.ref p) (upd H p (.lst ys))
section
variable {X : Cx} {B : Bs} {M : Pl} {Δ : List En} {e a b c o lo hi : Expr} {es : List Expr} {Φ : Tr → List En → Prop} {Ψ : Eo}
theorem cr_sortD (hu : X.A.units + 64 < cLine) : CallR X (.builtin "sorted") (rSortD X.K) := by
  intro pins s σ H vs us Q J r h
  obtain ⟨I, a, xs, ts, rfl, hs, sub, d, hp, hal, hk, hdp, q⟩ := h
  obtain rfl := Vals.ref1 r
  obtain ⟨its, rv, hl, hz⟩ := J.list hs
  have ev : EachIs (fun u t => ∃ v, RelV v u ∧ Dt X.K I v t) its ts := each_of (fun u t v r d => ⟨v, r, d⟩) rv d
  have el : ts.length = xs.length := d.length.symm
  have er : EachIs (fun u t => ∃ as, Reads s.heap u (Tr.py t) as) its ts := by
    have key : ∀ {vs : List V} {us : List Value} {ts : List Tr}, Vals vs us → Dts X.K I vs ts → (∀ t ∈ ts, t.plain = true) → EachIs (fun u t => ∃ as, Reads s.heap u (Tr.py t) as) us ts := fun {vs us ts} hv => by
      induction hv generalizing ts with
      | nil => intro dd _; cases dd; exact .nil
      | cons r _ ih =>
        intro dd pp
        cases dd with
        | cons d1 d2 => exact .cons (Dp.reads J _ _ _ ((d1.mono sub).dp (pp _ List.mem_cons_self)) r) (ih d2 fun t ht => pp t (List.mem_cons_of_mem _ ht))
    exact key rv d hp
  refine PySem.W.sorted_data (enc := Tr.py) (bs := ts) hl.isList ev er hal hk (by rw [el]; exact hz) (fun t ht => ?_) fun out ho eo => ?_
  · have := hdp t ht
    omega
  obtain ⟨ys, y1, y2⟩ := each_back eo
  obtain ⟨ep, he⟩ := PyProof.Rows.sortedAll_at s.heap its (List.toArray out)
  have hyl : ys.length ≤ sizeLine := by rw [y1.length, ho, el]; exact hz
  exact ⟨.ref _, upd H (s.heap.objs.size + 1) (.lst ys), J.laid (t' := s.toks) (fun _ _ => PyProof.Rows.sortedAll_old) (Nat.le_succ _) ⟨hyl, out, ep, y1, he⟩, rfl, q _ _ y2 (J.hok.fresh (Nat.le_succ _))⟩
/-- sorted(xs), plain data that compare -/
theorem co_sortD (hu : X.A.units + 64 < cLine) : CalO X (.builtin "sorted") B M Φ fun ts Δ2 => ∃ us : List Tr, ts = [.lst us] ∧ (∀ t ∈ us, t.plain = true) ∧ AllAlike (us.map Tr.py) ∧ Sortable (us.map Tr.py) ∧ (∀ t ∈ us, t.py.depth ≤ 8) ∧ Φ (.lst (us.mergeSort (dataLe false Tr.py))) Δ2 := ⟨_, cr_sortD hu, fun ts Δ2 p σ H vs Q S d k => by
  obtain ⟨us, rfl, p1, p2, p3, p4, q⟩ := p
  cases d with
  | cons d1 d2 =>
    cases d2
    cases d1 with
    | lst h1 h2 =>
      exact ⟨mi M.m H, _, _, us, rfl, sub_seqL mi_sub h1, mi_sub, h2, p1, p2, p3, p4, fun ys p y1 hp => k _ p _ q (same_new hp) hp ⟨ys, upd_same, y1⟩⟩⟩
end
/-! ### the lambda of word order -/
/-- a text's place in word order -/
def wkey (x : Str) : PyData := .tuple [.int x.length, .str x]
section
variable {X : Cx} {pins : List (Addr × Obj)} {σ : L2.St} {H : Hp} {s : Shared}
abbrev lamSc : Scope := ⟨.function, [("word", .local), ("len", .globalImplicit)], false, false, []⟩
abbrev lamBd (p1 p2 p3 p4 p5 : Pos) (k : Nat) : Expr := .Tuple [.Call (.Name "len" p1) [.Name "word" p2] [] p3, .Name "word" p4] k p5
theorem lam_turn {A : Around} {mg : Str → Option Value} {prog : Program} {w : World} {s : Shared} {f c' : Addr} {q : Str} {params : Arguments} {pm ctv : Value} {p1 p2 p3 p4 p5 : Pos} {j : Nat} {x : Str} {t : Tok}
    (hA : A.depth < recursionLimit) (hf : s.heap.get? f = some (PySem.W.kla_obj "<lambda>" q params (lamBd p1 p2 p3 p4 p5 j) lamSc [] pm c' ctv)) (hc : s.heap.CodeRec (.ref c') q)
    (hb : ∀ v : Value, bindArgs (PySem.W.kla_fn "<lambda>" q params (lamBd p1 p2 p3 p4 p5 j) lamSc [] pm (.ref c') ctv) ⟨[v], []⟩ = pure [(("word" : Str), v)])
    (hl : s.heap.NoLimit) (hg : s.heap.Ns mainGlobals mg) (hm : mg "len" = none) (hbn : ∃ mb, s.heap.Ns builtinsNs mb ∧ mb "len" = bootBuiltins "len") (hx : x.length ≤ sizeLine) :
    wpAny (model prog w) A (call (.ref f) [.str x t]) (KeyPure (wkey x) s) (fun _ _ => False) s := by
  obtain ⟨mb, hn1, hn2⟩ := hbn
  refine wpAny_call (PySem.W.kla_callFunE hA hf rfl rfl rfl rfl hc ?_)
  rw [hb]
  refine wpAny_pure (wpAny_newFunctionEnv (fun y hy => ?_) (fun y hy => ?_) (fun h₁ hns hsb => ⟨hl.fresh _ hsb, ?_⟩) rfl)
  · rcases List.mem_cons.mp hy with rfl | hy
    · decide
    · rcases List.mem_cons.mp hy with rfl | hy
      · decide
      · exact absurd hy (by simp)
  · rcases List.mem_cons.mp hy with rfl | hy
    · rfl
    · exact absurd hy (by simp)
  · have kp : ∀ b o, s.heap.get? b = some o → h₁.get? b = some o := fun b o e => hsb.extBut b o (Nat.ne_of_lt (Heap.lt_size e)) (Heap.get?_push_of_some _ e)
    have hw : (fun y => ([("word", (Value.str x t))] : List (Str × Value)).reverse.lookup y) "word" = some (.str x t) := rfl
    refine PySem.W.kla_codeExpr (Tuple_ (Calls.spliced_cons (wpAny_Call_Name_kw (Calls.Name_function_global rfl rfl (Calls.loadGlobal_builtin (hg.keeps kp) hm (hn1.keeps kp) (v := .builtin "len") (by rw [hn2]; decide +kernel) ?_) (by decide)))))
    have hz := sizeLine_eq
    refine callWith_builtin1 (wpAny_Name (wpAny_loadName_local rfl rfl hns hw (PyProof.Rows.len_str (by omega) ?_)) (by decide))
    refine Calls.spliced_cons (wpAny_Name (wpAny_loadName_local rfl rfl hns hw (Calls.spliced_nil ?_)) (by decide))
    refine wpAny_newObj_type ⟨_, _, rfl, fun b o e => Heap.get?_push_of_some _ (kp b o e), ?_⟩ (by size_fits)
    exact .tuple (Heap.get?_push_size _ rfl) rfl rfl (.cons (.int _ _) (.cons (.str _ _) .nil))
end
end Wf

set_option Elab.async false
set_option linter.all false
set_option maxRecDepth 100000
set_option maxHeartbeats 2000000
namespace Wf
open PySem PySem.Spec PyProof.Rows L2 LamX
open PySem.W (EachIs AllAlike Sortable dataLe KeyPure copyHeap)
/-! ### a lambda is made: what stays -/
def TblK (H H' : Hp) : Prop := ∀ b ps, H b = some (.tbl ps) → ∃ qs, H' b = some (.tbl qs)
section
variable {X : Cx} {pins : List (Addr × Obj)} {σ : L2.St} {H : Hp} {s : Shared}
theorem lam_mk {T : List (Addr × Str)} {c P : Addr} {params : Arguments} {body : Expr} {scope : Scope} {pos : Pos} {E Q : Value → Shared → Prop} {q : Str} (I : Inv X pins σ H s) (TB : TabB X.base X.mg c P)
    (hcode : X.env.code = .ref c) (hq : X.env.qual ++ "<lambda>" = q) (hm : (P, q) ∈ T) (hu : ∀ p ∈ T, p.1 = P → p.2 = q) (hT : Tabs T H) (hdef : defaultsOf params X.env = ([], [])) (hfree : ∀ y ∈ scope.names, y.2 = .free → ∃ c, X.env.cells.lookup y.1 = some c)
    (hcl : cloFrom X.env.cells scope.names [] = [])
    (h : ∀ (f c' : Addr) (pm ctv : Value) (H1 : Hp) (s' : Shared), Inv X pins σ H1 s' → ExtN H H1 → TblK H H1 → Tabs T H1 →
      s'.heap.get? f = some (PySem.W.kla_obj "<lambda>" q params body scope [] pm c' ctv) → H1 c' = some (CodeO c' q) → Q (.ref f) s') : wpAny (model X.prog X.w) X.A (eval (.Lambda params body scope pos) X.env) Q E s := by
  subst hq
  obtain ⟨ps, eP, tP, aP⟩ := hT _ hm
  have oP : s.heap.get? P = some { cls := .none, data := .fields ps } := I.hok P _ eP
  refine PySem.W.kla_eval hdef ?_
  cases hc : codeAmong pos ps.toList with
  | some cv =>
    obtain ⟨c', rfl, oc⟩ := aP pos cv hc
    refine PySem.W.kla_makeFunctionHit (mg := X.mg) (c := c) (P := P) (ps := ps) (closure_ok hfree) I.ok.glob (I.mod.glob.keeps I.bk) hcode (TB.code.keeps I.bk) oP tP hc (TB.bm.keeps I.bk) fun ctv h' tk kp ge => ?_
    rw [hcl]
    exact h _ c' _ ctv H _ (I.kept (t' := tk) fun b o z => Heap.get?_push_of_some _ (kp b o z)) (ExtN.refl H) (fun b qs z => ⟨qs, z⟩) hT (Heap.get?_push_size _ rfl) oc
  | none =>
    refine PySem.W.kla_makeFunction (mg := X.mg) (c := c) (P := P) (ps := ps) (closure_ok hfree) I.ok.glob (I.mod.glob.keeps I.bk) hcode (TB.code.keeps I.bk) oP tP hc TB.gP (TB.bm.keeps I.bk) fun c' ctv h' tk ext ge lt rc ot => ?_
    rw [hcl]
    obtain ⟨c2, o1, o2, o3, ec, o4, o5, o6⟩ := rc
    cases ec
    have fr : H c' = none := I.hok.fresh ge
    have ne : P ≠ c' := ne_of_none eP fr
    have J := inv_table (t' := tk) (more := #[rawInt pos.line, rawInt pos.col, .ref c']) (h' := h'.push (PySem.W.kla_obj "<lambda>" (X.env.qual ++ "<lambda>") params body scope [] ((X.mg "__name__").getD .none) c' ctv)) I eP (fun b o nb z => Heap.get?_push_of_some _ (ext b o nb z)) (Heap.get?_push_of_some _ ot) ge ⟨o1, o2, o3, Heap.get?_push_of_some _ o4, o5, o6⟩
    have xt : ExtN H (upd (upd H P (.tbl (ps ++ #[rawInt pos.line, rawInt pos.col, .ref c']))) c' (CodeO c' (X.env.qual ++ "<lambda>"))) := fun b o z nt => by
      have n1 : b ≠ P := fun y => by
        rw [y, eP] at z
        cases z
        exact nt _ rfl
      rw [upd_ne (ne_of_none z fr), upd_ne n1]
      exact z
    have tl : (ps ++ #[rawInt pos.line, rawInt pos.col, .ref c']).toList = ps.toList ++ [rawInt pos.line, rawInt pos.col, .ref c'] := by simp
    refine h _ c' _ ctv _ _ J xt (fun b qs z => ?_) (fun p hp => ?_) (Heap.get?_push_size _ rfl) upd_same
    · by_cases n1 : b = P
      · exact ⟨_, by rw [n1, upd_ne ne, upd_same]⟩
      · exact ⟨qs, by rw [upd_ne (ne_of_none z fr), upd_ne n1]; exact z⟩
    · by_cases n1 : p.1 = P
      · rw [n1, hu p hp n1]
        refine ⟨_, by rw [upd_ne ne, upd_same], by rw [tl]; exact PySem.TriplesOk_snoc _ _ _ _ tP, fun p' cv hcv => ?_⟩
        rw [tl] at hcv
        rcases among_app _ tP hcv with y | y
        · obtain ⟨c0, e1, e2⟩ := aP p' cv y
          exact ⟨c0, e1, xt _ _ e2 codeO_ne⟩
        · exact ⟨c', y, upd_same⟩
      · obtain ⟨qs, a1, a2, a3⟩ := hT p hp
        refine ⟨qs, by rw [upd_ne (ne_of_none a1 fr), upd_ne n1]; exact a1, a2, fun p' cv hcv => ?_⟩
        obtain ⟨c0, e1, e2⟩ := a3 p' cv hcv
        exact ⟨c0, e1, xt _ _ e2 codeO_ne⟩
end
/-! ### sorted(xs, key=f), xs a list or a tuple -/
section
variable {prog : Program} {w : World} {A : Around} {E : Value → Shared → Prop} {s : Shared} {β : Type} {vs : List Value} {bs : List β} {R : Value → β → Prop}
/-- a list or a tuple of these values -/
def SeqO (h : Heap) (l : Addr) (vs : List Value) : Prop := ∃ o n, h.get? l = some o ∧ (o.cls = .type "list" ∨ o.cls = .type "tuple") ∧ o.data = .seq vs.toArray n
theorem collect_sq {l : Addr} {Q : List Value → Shared → Prop} (hl : SeqO s.heap l vs) (hz : vs.length ≤ sizeLine)
    (h : Q vs { s with heap := (s.heap.push (seqObj "list" #[] 0)).update s.heap.objs.size (Obj.mapSeq (· ++ vs.toArray)) }) : wpAny (model prog w) A (collect (.ref l)) Q E s := by
  obtain ⟨o, n, g, cl, da⟩ := hl
  have g2 : (s.heap.push (seqObj "list" #[] 0)).get? l = some o := Heap.get?_push_of_some _ g
  unfold collect
  refine wpAny_bind (wpAny_runValue (codeAny_builtin entry_proto_collect' ?_))
  show wpAny _ _ (newList [] >>= fun l' => again (.builtin "list.__iadd__" ⟨[l', .ref l], []⟩)) _ _ s
  refine wpAny_bind (wpAny_newList (wpAny_pure (And.intro (Code.quiet_builtin _ (by decide +kernel)) (codeAny_builtin entry_list_iadd' ?_))) (Nat.zero_le _))
  show wpAny _ _ (Builtin.List.listExtendWith (.ref s.heap.objs.size) (.ref l) (.ref s.heap.objs.size)) _ _ ({ s with heap := s.heap.push (seqObj "list" #[] 0) } : Shared)
  unfold Builtin.List.listExtendWith
  have new : (s.heap.push (seqObj "list" #[] 0)).get? s.heap.objs.size = some (seqObj "list" #[] 0) := Heap.get?_push_size _ rfl
  obtain ⟨T, ty, hT⟩ : ∃ T : String, o.cls = .type T ∧ ((Value.type T == Value.type "list") = true ∨ (Value.type T == Value.type "tuple") = true) := by
    rcases cl with e | e
    · exact ⟨_, e, .inl (by rfl)⟩
    · exact ⟨_, e, .inr (by rfl)⟩
  refine wpAny_bind (wpAny_typeOf (T := T) ⟨o, g2, ty⟩ ?_)
  rw [if_pos (by rcases hT with e | e <;> rw [e] <;> simp)]
  refine wpAny_bind (listItems_at g2 da (wpAny_bind (listItems_at new rfl ?_)))
  rw [if_neg (by simp)]
  refine wpAny_bind (listUpdate_at new rfl (wpAny_pure ?_) (Nat.zero_le _) (by show (#[] ++ vs.toArray).size ≤ sizeLine + 1; simp only [Array.size_append, List.size_toArray, List.length_nil]; omega))
  show wpAny (model prog w) A (load s.heap.objs.size >>= fun o => match o.data with
      | .seq xs _ => pure xs.toList
      | _ => unsupported "internal:collect") Q E _
  refine wpAny_bind (wpAny_load (get?_update_seq new _) ?_)
  show wpAny _ _ (pure ((#[] : Array Value) ++ vs.toArray).toList) Q E _
  have e : ((#[] : Array Value) ++ vs.toArray).toList = vs := by simp
  rw [e]
  exact wpAny_pure h
theorem sorted_sq {l : Addr} {f : Value} {kw : List (Str × Value)} {Q : Value → Shared → Prop} (k : β → PyData) (hl : SeqO s.heap l vs) (e : EachIs R vs bs) (hal : AllAlike (bs.map k)) (hk : Sortable (bs.map k)) (hL : bs.length ≤ sizeLine)
    (hu : ∀ x, x ∈ bs → A.units + 2 + (k x).depth < cLine) (ha1 : argsOk "sorted" ⟨[.ref l], kw⟩) (ha2 : ∀ x, argsOk "list.sort" ⟨[.ref x], kw⟩) (ht : ∀ x, Builtin.«list.sort» ⟨[.ref x], kw⟩ = ksk_tree x f false)
    (turn : ∀ (v : Value) (x : β), R v x → x ∈ bs → ∀ (h : Heap) (tk : Nat), (∀ b o, s.heap.get? b = some o → h.get? b = some o) → wpAny (model prog w) A.in1.in1 (call f [v]) (KeyPure (k x) { s with heap := h, toks := tk }) (fun _ _ => False) { s with heap := h, toks := tk })
    (h : ∀ out c h' tk, (∀ b o, s.heap.get? b = some o → h'.get? b = some o) → h'.get? (s.heap.objs.size + 1) = some (seqObj "list" (List.toArray out) c) → out.length = bs.length → EachIs R out (bs.mergeSort (dataLe false k)) → Q (.ref (s.heap.objs.size + 1)) { s with heap := h', toks := tk }) :
    wpAny (model prog w) A (call (.builtin "sorted") [.ref l] kw) Q E s := by
  have hz : vs.length ≤ sizeLine := by rw [e.length]; exact hL
  have up : ∀ {g : Heap}, PySem.W.KeepsBut (s.heap.objs.size + 1) (copyHeap s.heap vs) g → ∀ b o, s.heap.get? b = some o → g.get? b = some o := fun {g} kp b o q => kp b o (Nat.ne_of_lt (Nat.lt_succ_of_lt (Heap.lt_size q))) (PySem.W.copyHeap_old q)
  refine call_function_entry_kw kind_sorted plain_sorted entry_sorted ha1 ?_
  unfold Builtin.«sorted»
  refine wpAny_bind (m := checkCount "sorted" 1 1 _) (wpAny_pure (wpAny_bind (collect_sq hl hz (wpAny_bind (wpAny_newList ?_ hz)))))
  have n1 : ((s.heap.push (seqObj "list" #[] 0)).update s.heap.objs.size (Obj.mapSeq (· ++ vs.toArray))).objs.size = s.heap.objs.size + 1 := by rw [Heap.size_update, size_push']
  show wpAny _ _ _ _ _ ({ s with heap := copyHeap s.heap vs } : Shared)
  rw [n1]
  refine wpAny_bind (wpAny_holding (wpAny_call_entry_kw slot_list_sort ⟨_, PySem.W.copyHeap_at s.heap vs, rfl⟩ entry_list_sort ?_ (ha2 _)))
  rw [ht]
  refine PySem.W.keyH_tree (kz := bs.map k) (s := { s with heap := copyHeap s.heap vs }) (PySem.W.copyHeap_at s.heap vs) (by rw [List.length_map, e.length]) hz hal hk (fun d hd => ?_)
    (PySem.W.keyH_turns (s := { s with heap := copyHeap s.heap vs }) e fun v x hR hx h tk kp => turn v x hR hx h tk (up kp)) fun h' tk out c kp hD ko => ⟨Value.none, rfl, wpAny_pure ⟨_, rfl, ?_⟩⟩
  · obtain ⟨x, hx, rfl⟩ := List.mem_map.mp hd
    exact hu x hx
  · exact h out c h' tk (up kp) hD ((ko.length (by rw [List.length_map, e.length])).trans e.length) (PySem.W.keyedOut_each k ko e)
end
theorem dep_wkey (x : Str) : (wkey x).depth = 1 := by simp [wkey, PyData.depth, PyData.depthAll]
theorem alike_wkey (ws : List Str) : AllAlike (ws.map wkey) := AllAlike.of fun _ _ => by simp [wkey, PySem.W.alike, PySem.W.alikeAll]
theorem each_strs {ws : List Str} : ∀ {us : List Value}, Vals (ws.map V.str) us → EachIs (fun u x => ∃ t, u = Value.str x t) us ws := fun {us} h => by
  induction ws generalizing us with
  | nil => cases h; exact .nil
  | cons w ws ih =>
    cases h with
    | cons r rs => exact .cons r (ih rs)
theorem strs_each {ws : List Str} {us : List Value} (h : EachIs (fun u x => ∃ t, u = Value.str x t) us ws) : Vals (ws.map V.str) us := by
  induction h with
  | nil => exact .nil
  | cons r _ ih => exact .cons r ih
section
variable {X : Cx} {B : Bs} {M : Pl} {Δ : List En} {e : Expr} {Φ : Tr → List En → Prop}
theorem seqO_of {pins : List (Addr × Obj)} {σ : L2.St} {H : Hp} {s : Shared} {a : Addr} {xs : List V} (I : Inv X pins σ H s) (h : SqL X.K H a xs ∨ SqT X.K H a xs) : ∃ its, Vals xs its ∧ SeqO s.heap a its ∧ xs.length ≤ sizeLine := by
  rcases h with h | h
  · obtain ⟨its, r, pl, z⟩ := I.list h
    obtain ⟨o, ho, hc, n, hd⟩ := pl.isList
    exact ⟨its, r, ⟨o, n, ho, .inl hc, hd⟩, z⟩
  · obtain ⟨its, r, ⟨o, ho, hc, n, hd⟩, z⟩ := I.tuple h
    exact ⟨its, r, ⟨o, n, ho, .inr hc, hd⟩, z⟩
/-- sorted(xs, key=lambda word: (len(word), word)) -/
theorem eo_sortedKey {k : Nat} {c P : Addr} {q : Str} {p kp lpos pos p1 p2 p3 p4 p5 : Pos} {j : Nat} {params : Arguments} (hg : Gl X "sorted") (hm : X.mg "sorted" = none) (hml : X.mg "len" = none) (TB : TabB X.base X.mg c P) (hcode : X.env.code = .ref c)
    (hq : X.env.qual ++ "<lambda>" = q) (hmT : (P, q) ∈ B.T) (hu : ∀ p ∈ B.T, p.1 = P → p.2 = q) (hr : Room (k + 2) X.A) (hcl : cloFrom X.env.cells lamSc.names [] = [])
    (hbind : ∀ (pm cv ctv v : Value), bindArgs (PySem.W.kla_fn "<lambda>" q params (lamBd p1 p2 p3 p4 p5 j) lamSc [] pm cv ctv) ⟨[v], []⟩ = pure [(("word" : Str), v)])
    (h : EA X B M Δ [e] fun ts Δ1 => ∃ ws : List Str, (ts = [.lst (ws.map Tr.str)] ∨ ts = [.tup (ws.map Tr.str)]) ∧ (∀ w ∈ ws, w.length ≤ sizeLine) ∧ Φ (.lst ((ws.mergeSort (dataLe false wkey)).map Tr.str)) Δ1)
    (hdef : defaultsOf params X.env = ([], []) := by rfl)
    (he : backTo pos (starEach [e] X.env) = (false, eval e X.env) :: backTo pos (starEach [] X.env) := by rfl) (hpl : (backTo pos (starEach [e] X.env)).any (·.1) = false := by rfl) :
    EO X B M Δ (.Call (.Name "sorted" p) [e] [⟨some "key", .Lambda params (lamBd p1 p2 p3 p4 p5 j) lamSc lpos, kp⟩] pos) Φ := fun σ H S Q kk pins s I => by
  refine wpAny_Call_Name_kw (ld_blt (u := .builtin "sorted") I hg hm (by decide +kernel) ?_)
  refine PyProof.Rows.callWith_kw (thn (h σ H S (fun vs H1 => ∃ (Δ1 : List En) (a : Addr) (xs : List V) (ws : List Str), vs = [V.ref a] ∧ (SqL X.K H1 a xs ∨ SqT X.K H1 a xs) ∧ xs = ws.map V.str ∧ (∀ w ∈ ws, w.length ≤ sizeLine) ∧ Φ (.lst ((ws.mergeSort (dataLe false wkey)).map Tr.str)) Δ1 ∧ Fe M.w H H1 ∧ Sk X.K B M H1 σ Δ1) ?_ pos pins s I) fun us s1 hs => ?_) he hpl rfl rfl
  · rintro ts Δ1 vs H1 ⟨ws, ht, hw, hp⟩ f S1 d
    rcases ht with rfl | rfl
    · cases d with
      | cons d1 d2 =>
        cases d2
        cases d1 with
        | lst g1 g2 => exact ⟨Δ1, _, _, ws, rfl, .inl (sub_seqL mi_sub g1), of_strs ws g2, hw, hp, f, S1⟩
    · cases d with
      | cons d1 d2 =>
        cases d2
        cases d1 with
        | tup g1 g2 => exact ⟨Δ1, _, _, ws, rfl, .inr (sub_seqT mi_sub g1), of_strs ws g2, hw, hp, f, S1⟩
  obtain ⟨vs, H1, I1, rv, Δ1, a, xs, ws, rfl, hs, rfl, hw, hp, f, S1⟩ := hs
  obtain rfl := Vals.ref1 rv
  refine evalAll_cons (wpAny_bind (lam_mk (q := q) I1 TB hcode hq hmT hu S1.tb hdef (fun y hy z => ?_) hcl fun fa c' pm ctv H2 s2 I2 xt tk T2 hf hco => wpAny_bind (wpAny_standAt (wpAny_pure (evalAll_nil ?_)))))
  · exfalso
    rcases List.mem_cons.mp hy with rfl | hy
    · cases z
    · rcases List.mem_cons.mp hy with rfl | hy
      · cases z
      · exact absurd hy (by simp)
  have fe : Fe (fun _ => False) H1 H2 := ⟨fun b o _ n z => xt b o z n, tk⟩
  have S2 := S1.feGrow fe T2
  have hs2 : SqL X.K H2 a (ws.map V.str) ∨ SqT X.K H2 a (ws.map V.str) := hs.imp (sub_seqL fun b o n z => xt b o z n) (sub_seqT fun b o n z => xt b o z n)
  obtain ⟨its, r2, so, hz⟩ := seqO_of I2 hs2
  obtain ⟨⟨oc, ovs, ot, o1, o2, o3⟩, _, _⟩ := I2.hok c' _ hco
  have ev := each_strs r2
  have un := hr.un
  obtain ⟨mb, b1, b2⟩ := I2.mod.blt
  show wpAny _ _ (call (.builtin "sorted") [.ref a] [(Str.ofString "key", .ref fa)]) _ _ s2
  refine sorted_sq wkey so ev (alike_wkey ws) (Sortable.tuples fun _ => ⟨_, _, rfl⟩) (by rw [← List.length_map (f := V.str)]; exact hz) (fun x _ => by rw [dep_wkey]; omega) (PyProof.Rows.ksk_s1 _ _) (fun _ => PyProof.Rows.ksk_l1 _ _) (fun _ => PyProof.Rows.ksk_t1 _ _)
    (fun v x hv hx h tk kp => ?_) fun out cc h' tk kp hD ho eo => ?_
  · obtain ⟨t, rfl⟩ := hv
    have kb : ∀ b o, X.base.get? b = some o → h.get? b = some o := fun b o z => kp b o (I2.bk b o z)
    exact lam_turn (s := { s2 with heap := h, toks := tk }) (mg := X.mg) (hr.in1).in1.depth (kp _ _ hf) ⟨c', oc, ovs, ot, rfl, kp _ _ o1, o2, o3⟩ (fun v => hbind _ _ _ _) (I2.mod.nolimit.keeps kb) (I2.mod.glob.keeps kb) hml ⟨mb, b1.keeps kb, b2 _ (by decide)⟩ (hw x hx)
  · have vv := strs_each eo
    have n2 : H2 (s2.heap.objs.size + 1) = none := I2.hok.fresh (Nat.le_succ _)
    have hl : ((ws.mergeSort (dataLe false wkey)).map V.str).length ≤ sizeLine := by
      rw [List.length_map, List.length_mergeSort]
      rw [List.length_map] at hz
      exact hz
    obtain ⟨a1, a2, a3⟩ := S2.newOwn (t := .lst ((ws.mergeSort (dataLe false wkey)).map Tr.str)) n2 (same_new (o := .lst ((ws.mergeSort (dataLe false wkey)).map V.str)) n2) ⟨_, upd_same, dts_strs _⟩
    have fw : Fe M.w H H2 := f.trans (fe.imp fun _ _ _ z => z.elim)
    exact ⟨.ref _, upd H2 (s2.heap.objs.size + 1) (.lst ((ws.mergeSort (dataLe false wkey)).map V.str)), I2.laid (t' := tk) kp (Nat.le_succ _) ⟨hl, out, cc, vv, hD⟩, rfl, kk _ Δ1 _ _ hp (fw.trans (Fe.same (same_new n2))) (fw.free (fun b z => S2.al b (S2.wm b z)) n2) a1 a2 a3⟩
end
end Wf

set_option Elab.async false
set_option linter.all false
set_option maxRecDepth 100000
set_option maxHeartbeats 2000000
namespace Wf
open PySem PySem.Spec PyProof.Rows L2 LamX
/-! ### a law's def at the caller itself: no repr is under way there -/
structure LawOk (CX : CXT) (P : Program) (w : World) (K : PySem.W.Frag) (mg : Str → Option Value) (base : Heap) (f : Addr) (fd : FuncData) (x : Str) (sp : Sp) : Prop where
  run : ∀ (s : Shared) (H : Hp) (u : Value) (v : V) (Q : VK), Env0 P w K mg base callerA [] s H → RelV v u → sp [v] H Q (fun _ _ _ => False) →
    codeAny (model P w) callerA (.call (.ref f) ⟨[u], []⟩) (CR CX [] P w H s Q fun _ _ _ => False) s
section
variable {P : Program} {w : World} {K : PySem.W.Frag} {mg mb : Str → Option Value} {CX : CXT} {k : Nat} {fa a : Addr} {cs : List (Addr × Addr)} {fd : FuncData} {x : Str} {sp : Sp} {s : Shared} {vs : List Value} {ns : List Int}
open Classical in
/-- what is tracked at the law's entry: the tables, and the script if the module does not hold it -/
noncomputable def entryH (K : PySem.W.Frag) (cs : List (Addr × Addr)) (a : Addr) (vs : List Value) (ns : List Int) : Hp := fun b =>
  if b ∈ cs.map (·.2) then some (.tbl #[]) else if b = a ∧ K.lookup a = none then some (.frz { cls := .type "list", data := .seq vs.toArray } (.lst (ns.map V.int))) else none
theorem entry_t {b : Addr} (h : b ∈ cs.map (·.2)) : entryH K cs a vs ns b = some (.tbl #[]) := if_pos h
theorem entry_a (h : a ∉ cs.map (·.2)) (k : K.lookup a = none) : entryH K cs a vs ns a = some (.frz { cls := .type "list", data := .seq vs.toArray } (.lst (ns.map V.int))) := (if_neg h).trans (if_pos ⟨rfl, k⟩)
theorem entry_of {b : Addr} {u : HO} (h : entryH K cs a vs ns b = some u) : (b ∈ cs.map (·.2) ∧ u = .tbl #[]) ∨ (b = a ∧ K.lookup a = none ∧ u = .frz { cls := .type "list", data := .seq vs.toArray } (.lst (ns.map V.int))) := by
  unfold entryH at h
  by_cases h1 : b ∈ cs.map (·.2)
  · rw [if_pos h1] at h
    exact .inl ⟨h1, (Option.some.inj h).symm⟩
  · rw [if_neg h1] at h
    by_cases h2 : b = a ∧ K.lookup a = none
    · rw [if_pos h2] at h
      exact .inr ⟨h2.1, h2.2, (Option.some.inj h).symm⟩
    · rw [if_neg h2] at h
      cases h
theorem entry_no {b : Addr} {o : Obj} (tabs : ∀ b ∈ cs.map (·.2), s.heap.get? b = some { cls := .none, data := .fields #[] }) (ha : s.heap.get? a = some { cls := .type "list", data := .seq vs.toArray }) (e : s.heap.get? b = some o)
    (n1 : o.data ≠ .fields #[]) (n2 : ∀ v n, o.data ≠ .seq v n) : entryH K cs a vs ns b = none := by
  cases q : entryH K cs a vs ns b with
  | none => rfl
  | some u =>
    exfalso
    rcases entry_of q with ⟨h1, _⟩ | ⟨rfl, _, _⟩
    · rw [tabs b h1] at e
      cases e
      exact n1 rfl
    · rw [ha] at e
      cases e
      exact n2 _ _ rfl
theorem law_callG (KX : K.In s.heap) (hns : s.heap.Ns mainGlobals mg) (hb : s.heap.Ns builtinsNs mb) (hbb : ∀ y : Str, y ≠ "__name__" → mb y = bootBuiltins y) (hlim : s.heap.NoLimit) (hg : s.gens = #[])
    (hT : ∀ p ∈ cs, s.heap.get? p.2 = some { cls := .none, data := .fields #[] }) (nT : ∀ p ∈ cs, K.lookup p.2 = none) (C : ∀ p ∈ cs, PySem.W.CodeHd s.heap p.1 p.2)
    (hbm : ∃ (bm : Addr) (ob : Obj), mg "__builtins__" = some (.ref bm) ∧ bm ≠ builtinsNs ∧ s.heap.get? bm = some ob ∧ ob.cls = .type "module" ∧ ob.dict = some builtinsNs ∧ ob.data = .plain)
    (ha : s.heap.get? a = some { cls := .type "list", data := .seq vs.toArray }) (hi : IntsAre vs ns) (hl : ns.length ≤ sizeLine)
    (F : ∀ base : Heap, K.In base → base.Ns mainGlobals mg → (∀ p ∈ cs, TabB base mg p.1 p.2) → LawOk CX P w K mg base fa fd x sp)
    (hsp : ∀ H : Hp, (∀ p ∈ cs, H p.2 = some (.tbl #[])) → SqL K H a (ns.map V.int) → sp [.ref a] H (fun v _ => v = .bl true) fun _ _ _ => False)
    (hCX : ∀ H e s', CX [] H s (fun _ _ _ => False) e s' → False) :
    codeAny (model P w) callerA (.call (.ref fa) ⟨[.ref a], []⟩) (fun r s' => r = .ok (.ret (.bool true)) ∧ OldK s.heap s'.heap ∧ s'.os = s.os ∧ AllBare s'.gens) s := by
  have tabs : ∀ b ∈ cs.map (·.2), s.heap.get? b = some { cls := .none, data := .fields #[] } := fun b h => by
    obtain ⟨p, h1, rfl⟩ := List.mem_map.mp h
    exact hT p h1
  have inT : ∀ p ∈ cs, p.2 ∈ cs.map (·.2) := fun p h => List.mem_map_of_mem h
  have naT : a ∉ cs.map (·.2) := fun z => by
    have e := ha.symm.trans (tabs a z)
    cases Option.some.inj e
  have atT : ∀ p ∈ cs, entryH K cs a vs ns p.2 = some (.tbl #[]) := fun p h => entry_t (inT p h)
  have sq : SqL K (entryH K cs a vs ns) a (ns.map V.int) := by
    cases e : K.lookup a with
    | none => exact .inl (.inr ⟨_, entry_a naT e⟩)
    | some o =>
      obtain rfl := Option.some.inj (ha.symm.trans (KX a o e))
      exact .inr ⟨_, vs.toArray, _, e, rfl, rfl, rfl, by rw [List.size_toArray, hi.length]; exact hl, by simpa using vals_ints hi⟩
  have hok : HOk P w (entryH K cs a vs ns) s.heap := fun b u z => by
    rcases entry_of z with ⟨h1, rfl⟩ | ⟨rfl, _, rfl⟩
    · exact tabs b h1
    · exact ⟨ha, by rw [List.length_map]; exact hl, vs, _, vals_ints hi, ha⟩
  have give : ∀ {b : Addr} {o : Obj}, s.heap.get? b = some o → o.data ≠ .fields #[] → (∀ v n, o.data ≠ .seq v n) → (hidT s.heap (entryH K cs a vs ns)).get? b = some o := fun e n1 n2 => hidT_get e (entry_no tabs ha e n1 n2)
  have ns' : ∀ {b : Addr} {m : Str → Option Value}, s.heap.Ns b m → (hidT s.heap (entryH K cs a vs ns)).Ns b m := fun {b m} h => by
    obtain ⟨o, es, ep, e, d, r⟩ := h
    exact ⟨o, es, ep, give e (by rw [d]; intro z; cases z) (by intro v n z; rw [d] at z; cases z), d, r⟩
  have kin : K.In (hidT s.heap (entryH K cs a vs ns)) := fun b o e => by
    refine hidT_get (KX b o e) ?_
    cases q : entryH K cs a vs ns b with
    | none => rfl
    | some u =>
      exfalso
      rcases entry_of q with ⟨h1, _⟩ | ⟨rfl, h2, _⟩
      · obtain ⟨p, hp, rfl⟩ := List.mem_map.mp h1
        rw [nT p hp] at e
        cases e
      · rw [h2] at e
        cases e
  have tb : ∀ p ∈ cs, TabB (hidT s.heap (entryH K cs a vs ns)) mg p.1 p.2 := fun p hp => by
    refine ⟨?_, ?_, ?_⟩
    · obtain ⟨o, fs, file, tf, flags, tg, inF, text, tt, c1, c2, c3, c4, cr⟩ := C p hp
      refine ⟨o, fs, file, tf, flags, tg, inF, text, tt, give c1 (fun z => ?_) (fun v n z => ?_), c2, c3, c4, cr⟩
      · have e := c3.symm.trans z
        injection e with e
        rw [e] at c4
        simp at c4
      · have e := c3.symm.trans z
        cases e
    · obtain ⟨bm, ob, m1, m2, m3, m4, m5, m6⟩ := hbm
      refine ⟨bm, ob, m1, m2, ?_, ?_, give m3 (by rw [m6]; intro z; cases z) (by intro v n z; rw [m6] at z; cases z), m4, m5, m6⟩
      · rintro rfl
        obtain ⟨o, es, ep, g1, g2, _⟩ := hns
        obtain rfl := Option.some.inj (g1.symm.trans m3)
        cases g2.symm.trans m6
      · rintro rfl
        obtain rfl := Option.some.inj ((hT p hp).symm.trans m3)
        cases m6
    · intro z
      obtain ⟨o, es, ep, g1, g2, _⟩ := hns
      rw [z] at g1
      obtain rfl := Option.some.inj ((hT p hp).symm.trans g1)
      cases g2
  have md : L2.Mod K mg (hidT s.heap (entryH K cs a vs ns)) := by
    obtain ⟨mc, l1, l2⟩ := hlim
    exact ⟨kin, ns' hns, ⟨mb, ns' hb, hbb⟩, ⟨mc, ns' l1, l2⟩⟩
  have e0 : Env0 P w K mg (hidT s.heap (entryH K cs a vs ns)) callerA [] s (entryH K cs a vs ns) :=
    { frames := rfl, mod := md, bs := fun b o e => of_hidT e, bsz := Nat.le_of_eq (hidT_size _ _), funs := trivial, frf := fun b h => absurd (show b ∈ ([] : List Addr) from h) (by simp), hok := hok, bare := .of_eq hg }
  refine codeAny_mono ((F _ kin (ns' hns) tb).run s _ (.ref a) (.ref a) (fun v _ => v = .bl true) e0 rfl (hsp _ atT sq)) fun r s' h => ?_
  cases r with
  | error e => exact (hCX _ e s' h).elim
  | ok fl =>
    cases fl with
    | next => exact h.elim
    | brk => exact h.elim
    | cont => exact h.elim
    | ret u =>
      obtain ⟨v, H', h1, h2, h3, h4, h5, rfl⟩ := h
      obtain rfl : u = Value.bool true := h5
      have grows : ∀ b ∈ cs.map (·.2), ∃ more : Array Value, s'.heap.get? b = some { cls := .none, data := .fields more } := fun b hb => by
        obtain ⟨more, z⟩ := h3.tbls b #[] (entry_t hb)
        exact ⟨_, h4 b _ z⟩
      have stays : ∀ b o, b ∉ cs.map (·.2) → s.heap.get? b = some o → s'.heap.get? b = some o := fun b o nb e => by
        cases q : entryH K cs a vs ns b with
        | none => exact h3.keep b o e q (fun z => absurd (show b ∈ ([] : List Addr) from z) (by simp)) (by simp)
        | some u =>
          rcases entry_of q with ⟨z, _⟩ | ⟨rfl, _, rfl⟩
          · exact absurd z nb
          · have z1 := (hok b _ q).1
            have z2 := (h4 b _ (h3.frzs b _ _ q)).1
            exact z2.trans (z1.symm.trans e)
      refine ⟨rfl, ⟨fun b o e => ?_, fun b o e => ?_⟩, h1, h2⟩
      · by_cases hb : b ∈ cs.map (·.2)
        · obtain ⟨p, hp, rfl⟩ := List.mem_map.mp hb
          obtain ⟨more, hm⟩ := grows _ hb
          obtain rfl := Option.some.inj ((hT p hp).symm.trans e)
          exact .inr (.inl ⟨((C p hp).tab (hT p hp)).isCodeTable, rfl, #[], more, rfl, by rw [Array.empty_append]; exact hm⟩)
        · exact .inl (stays b o hb e)
      · by_cases hb : b ∈ cs.map (·.2)
        · obtain ⟨more, hm⟩ := grows _ hb
          exact ⟨_, hm⟩
        · exact ⟨o, stays b o hb e⟩
/-- what is known of the law at the head's heap h -/
def LawAtG (l : PySem.W.OpenLaw) (w : World) (K : PySem.W.Frag) (CX : CXT) (n : Nat) (x : Str) (mg : Str → Option Value) (fa : Addr) (h : Heap) : Prop :=
  ∃ (fd : FuncData) (cs : List (Addr × Addr)) (sp : Sp), (∀ p ∈ cs, h.get? p.2 = some { cls := .none, data := .fields #[] }) ∧ (∀ p ∈ cs, K.lookup p.2 = none) ∧ (∀ p ∈ cs, PySem.W.CodeHd h p.1 p.2) ∧
    (∀ (H : Hp) (a : Addr) (ns : List Int), ns.length ≤ n → (∀ z ∈ ns, Builtin.Int.intBits z ≤ 1048576) → (∀ p ∈ cs, H p.2 = some (.tbl #[])) → SqL K H a (ns.map V.int) → sp [.ref a] H (fun v _ => v = .bl true) fun _ _ _ => False) ∧
    ∀ base : Heap, K.In base → base.Ns mainGlobals mg → (∀ p ∈ cs, TabB base mg p.1 p.2) → LawOk CX l.prog w K mg base fa fd x sp
theorem walk_ofG {l : PySem.W.OpenLaw} {n : Nat} {q : Program} {loose : List Str} {XP : (Str → Option Value) → Heap → Prop} {YP : World → Heap → Prop} {d : DefRec} {K : Params → PySem.W.Frag} {CX : World → CXT} {x : Str}
    (hn : l.most = some n) (hn2 : n ≤ sizeLine) (hdf : d.params.defaults = []) (hY : ∀ (w : World) (h : Heap), YP w h → (K w.params).In h)
    (F : ∀ (w : World) (mg : Str → Option Value) (fa : Addr) (h : Heap), YP w h → (K w.params).In h → h.Ns mainGlobals mg → mg d.name = some (.ref fa) → LawAtG l w (K w.params) (CX w) n x mg fa h)
    (hCX : ∀ (w : World) (H : Hp) (s : Shared) (e : Value) (s' : Shared), CX w [] H s (fun _ _ _ => False) e s' → False) :
    PySem.W.WalkO q loose XP YP l.row.toRowW d [] (fun f vs => PySem.call f vs) := by
  refine Att.attach_callB hn hdf fun w s₀ s mg mb fa o pm cd doc a vs ns G Y ho hd hcd hmg hobj hints hlen hbits hg => ?_
  obtain ⟨fd, cs, sp, h1, h2, h3, h4, h5⟩ := F w mg fa _ Y (hY w _ Y) G.T.g hmg
  exact law_callG (hY w _ Y) G.T.g G.T.b G.T.builtins G.T.nolimit hg h1 h2 h3 G.T.bmain hobj hints (Nat.le_trans hlen hn2) h5 (fun H t q => h4 H a ns hlen hbits t q) fun H e s' => hCX w H s e s'
end
/-! ### a law's def by its body, as data -/
/-- what a law promises: of every script it gives True -/
def spLawD (K : PySem.W.Frag) (T : List (Addr × Str)) : Sp := fun vs H Q _ => ∃ ns : List Int, Dts K H vs [.lst (ns.map Tr.int)] ∧ ns.length ≤ 63 ∧ (∀ z ∈ ns, Builtin.Int.intBits z ≤ 1048576) ∧ Tabs T H ∧ ∀ v H', v = .bl true → Q v H'
abbrev lawA (f : Addr) (scope : Scope) (cdv : Value) (s : Shared) : Around := callerA.deeper (envOfC "law" scope s.heap.objs.size f cdv)
theorem caller_room : Room 200 callerA := ⟨rfl, by decide, by decide⟩
theorem lawA_guards {f : Addr} {scope : Scope} {cdv : Value} {s : Shared} : (lawA f scope cdv s).guards = some [] := rfl
section
variable {P : Program} {w : World} {K : PySem.W.Frag} {mg : Str → Option Value} {base : Heap} {st : Stmt} {f : Addr} {fd : FuncData} {N : List Str} {T : List (Addr × Str)} {x : Str}
theorem law_okD (F : Fun K "law" "law" st f fd) (S : FnScope N [x] (defScope st)) (hbn : Binds K fd [x] [])
    (hb : ∀ (cdv : Value) (s : Shared) (H : Hp) (ns : List Int), ns.length ≤ 63 → (∀ z ∈ ns, Builtin.Int.intBits z ≤ 1048576) →
      SS (cxOf CX0 P w K mg base N "law" (defScope st) f cdv callerA [] s H fun _ _ _ => False).nox (bF T H fun _ => False) ⟨fun _ => False, fun _ => False⟩ (slots N [.dat (.lst (ns.map Tr.int))]) (defBody st)
        ⟨fun _ _ => False, fun t _ => t = .bl true, fun _ _ => False, fun _ _ => False⟩) : LawOk CX0 P w K mg base f fd x (spLawD K T) := by
  obtain ⟨oc, od, kV, doc, pm, an, cdv, ct, osl, rfl, lk, hcd⟩ := F.ex
  refine ⟨fun s H u v Q e0 r sp => ?_⟩
  obtain ⟨ns, d, hn, hbits, tb, q⟩ := sp
  have KX : K.In s.heap := e0.mod.kin.keeps fun b o e => (e0.bs b o e).1
  refine run_ofS (k := 199) (N := N) (ps := [x]) (us := [u]) (vs := [v]) lk hcd S caller_room e0 (hbn s [u] KX rfl) (.cons r .nil) rfl fun _ => ?_
  have hpl : 1 ≤ N.length := by
    have := congrArg List.length S.pre
    rw [List.length_take] at this
    simp at this
    omega
  have Sk0 : Sk K (bF T H fun _ => False) ⟨fun _ => False, fun _ => False⟩ H (L2.start N [v]) (slots N [.dat (.lst (ns.map Tr.int))]) := by
    refine sk_start hpl rfl rfl (fun _ => Iff.rfl) (fun _ => Iff.rfl) (fun _ z => z.elim) (fun _ z => z.elim) tb (fun i j e f l he _ el _ => ?_) fun i v e hv he => ?_
    · cases i with
      | zero => cases he; cases el
      | succ i => simp at he
    · cases i with
      | zero =>
        cases hv; cases he
        cases d with
        | cons d1 _ =>
          exact d1.mono fun b o n z => mi_of (fun y => y) z
      | succ i => simp at he
  have J := hb cdv s H ns hn hbits _ H Sk0 { nx := fun _ H' => Q .non H', rt := Q, bk := fun _ _ => False, ct := fun _ _ => False } ⟨fun M' Δ' σ' H' a _ _ => a.elim, fun t M' Δ' v σ' H' a _ c dd => ?_, fun _ _ _ _ z => z.elim, fun _ _ _ _ z => z.elim⟩
  · exact ⟨_, (pss_self (X := (cxOf CX0 P w K mg base N "law" (defScope st) f cdv callerA [] s H fun _ _ _ => False).nox)).nox, J⟩
  · subst a
    cases dd
    exact q _ _ rfl
end
end Wf

set_option Elab.async false
set_option linter.all false
set_option maxRecDepth 100000
set_option maxHeartbeats 2000000
namespace Wf
open PySem PySem.Spec PyProof.Rows L2 LamX
/-! ### data that are shown -/
/-- good data, d deep, of at most b signs and items -/
structure Tr.rep (t : Tr) (d b : Nat) : Prop where
  gd : t.good d
  sh : t.py.showable = true
  ls : t.py.leavesShort 640 = true
  bk : t.py.bulk ≤ b
theorem Tr.rep.le {t : Tr} {d b e c : Nat} (h : t.rep d b) (h1 : d ≤ e) (h2 : b ≤ c) : t.rep e c := ⟨h.gd.le h1, h.sh, h.ls, Nat.le_trans h.bk h2⟩
theorem Tr.rep.fits {t : Tr} {d b : Nat} (h : t.rep d b) (hb : b ≤ 26000) : t.py.shown.length ≤ sizeLine := by
  have h1 := PyData.shown_le_bulk 640 (by decide) t.py h.ls
  have h2 := h.bk
  have h3 : (640 + 2) * t.py.bulk ≤ 642 * b := Nat.mul_le_mul_left _ h2
  rw [sizeLine_eq]
  omega
theorem rep_non {d b : Nat} : Tr.non.rep d b := ⟨good_non, by unfold Tr.py; rfl, by unfold Tr.py; rfl, by unfold Tr.py PyData.bulk; exact Nat.zero_le _⟩
theorem rep_bl {k : Bool} {d b : Nat} : (Tr.bl k).rep d b := ⟨good_bl, by unfold Tr.py; rfl, by unfold Tr.py; rfl, by unfold Tr.py PyData.bulk; exact Nat.zero_le _⟩
theorem log2_small {i : Int} (h : i.natAbs < 2 ^ 100) : i.natAbs.log2 < 1920 := by
  by_cases h0 : i.natAbs = 0
  · rw [h0]; decide
  · have := (Nat.log2_lt h0).mpr h
    omega
theorem rep_int {i : Int} {d b : Nat} (h1 : -999999999999 ≤ i) (h2 : i ≤ 999999999999) : (Tr.int i).rep d b := ⟨good_int, by
  unfold Tr.py PyData.showable
  refine decide_eq_true (log2_small (Nat.lt_of_lt_of_le (m := 2 ^ 40) ?_ (Nat.pow_le_pow_right (by decide) (by decide))))
  have e : (2 : Nat) ^ 40 = 1099511627776 := by decide
  omega, by
  unfold Tr.py PyData.leavesShort
  exact decide_eq_true (Nat.le_trans (PyData.shown_int_le2 h1 h2) (by decide)), by unfold Tr.py PyData.bulk; exact Nat.zero_le _⟩
theorem rep_txt {cs : List Nat} {d b : Nat} (h : ∀ c ∈ cs, c < 128) (hl : cs.length ≤ b) : (Tr.str (txt cs)).rep d b := ⟨good_str (strOk_txt h), by unfold Tr.py; rfl, by
  unfold Tr.py PyData.leavesShort
  rw [List.all_eq_true]
  intro c hc
  rw [txt_cps] at hc
  have e : (16 : Nat) ^ 8 = 4294967296 := by decide
  have := h c hc
  exact decide_eq_true (by omega), by
  unfold Tr.py PyData.bulk
  have : (txt cs).cps.size = cs.length := txt_len cs
  omega⟩
theorem rep_all {ts : List Tr} {d b : Nat} (h : ∀ t ∈ ts, t.rep d b) : PyData.showableAll (pyAll ts) = true ∧ PyData.leavesShortAll 640 (pyAll ts) = true ∧ PyData.bulkAll (pyAll ts) ≤ ts.length * (b + 1) := by
  induction ts with
  | nil => exact ⟨by unfold pyAll; rfl, by unfold pyAll; rfl, by unfold pyAll PyData.bulkAll; exact Nat.zero_le _⟩
  | cons t ts ih =>
    obtain ⟨i1, i2, i3⟩ := ih fun u hu => h u (List.mem_cons_of_mem _ hu)
    have ht := h t List.mem_cons_self
    refine ⟨?_, ?_, ?_⟩
    · unfold pyAll PyData.showableAll
      rw [ht.sh, i1] <;> rfl
    · unfold pyAll PyData.leavesShortAll
      rw [ht.ls, i2] <;> rfl
    · unfold pyAll PyData.bulkAll
      have := ht.bk
      rw [List.length_cons, Nat.succ_mul]
      omega
theorem rep_lst {ts : List Tr} {d b c : Nat} (h : ∀ t ∈ ts, t.rep d b) (hc : ts.length * (b + 1) ≤ c) : (Tr.lst ts).rep (d + 1) c := by
  obtain ⟨i1, i2, i3⟩ := rep_all h
  exact ⟨good_lst fun t ht => (h t ht).gd, by unfold Tr.py PyData.showable; exact i1, by unfold Tr.py PyData.leavesShort; exact i2, by unfold Tr.py PyData.bulk; omega⟩
theorem rep_tup {ts : List Tr} {d b c : Nat} (h : ∀ t ∈ ts, t.rep d b) (hc : ts.length * (b + 1) ≤ c) : (Tr.tup ts).rep (d + 1) c := by
  obtain ⟨i1, i2, i3⟩ := rep_all h
  exact ⟨good_tup fun t ht => (h t ht).gd, by unfold Tr.py PyData.showable; exact i1, by unfold Tr.py PyData.leavesShort; exact i2, by unfold Tr.py PyData.bulk; omega⟩
def Tr.isSq : Tr → Bool
  | .lst _ => true
  | .tup _ => true
  | _ => false
section
variable {X : Cx} {B : Bs} {M : Pl} {Δ : List En} {e a b c : Expr} {es : List Expr} {Φ : Tr → List En → Prop} {Ψ : Eo}
theorem cr_reprD (hg : X.A.guards = some []) (hu : X.A.units + 64 < cLine) : CallR X (.builtin "repr") (fun vs H Q => ∃ (a : Addr) (p : PyData), vs = [.ref a] ∧ Dp X.K H (.ref a) p ∧ p.showable = true ∧ p.canLay0 = true ∧ p.depth ≤ 8 ∧ p.shown.length ≤ sizeLine ∧ Q (.str p.shown) H) := by
  intro pins s σ H vs us Q I r h
  obtain ⟨a, p, rfl, d, h1, h2, h3, h4, q⟩ := h
  obtain rfl := Vals.ref1 r
  obtain ⟨as, rd⟩ := Dp.reads I p (.ref a) (.ref a) d rfl
  exact PySem.repr_of_reads' rd h1 (PyData.noDict_hsm (PyData.hasDict_of_canLay p h2)) hg (by omega) (fun _ _ z => z) (fun h' u tk kp => ⟨.str p.shown, H, I.kept kp, ⟨u, rfl⟩, q⟩) h4
/-- repr of a list, of a tuple -/
theorem cl_repr (hg : X.A.guards = some []) (hu : X.A.units + 64 < cLine) : CalD X (.builtin "repr") B M Φ fun ts Δ2 => ∃ t, ts = [t] ∧ t.isSq = true ∧ t.rep 8 26000 ∧ Φ (.str t.py.shown) Δ2 := ⟨_, cr_reprD hg hu, fun ts Δ2 p σ H vs Q S d k => by
  obtain ⟨t, rfl, p1, p2, q⟩ := p
  cases d with
  | cons d1 d2 =>
    cases d2
    have dp := (d1.mono mi_sub).dp p2.gd.pl
    cases t with
    | lst us => cases d1 with
      | lst g1 g2 => exact ⟨_, _, rfl, dp, p2.sh, p2.gd.cl, p2.gd.dp, p2.fits (Nat.le_refl _), k _ _ _ H q (Fe.refl _ _) S (.str _)⟩
    | tup us => cases d1 with
      | tup g1 g2 => exact ⟨_, _, rfl, dp, p2.sh, p2.gd.cl, p2.gd.dp, p2.fits (Nat.le_refl _), k _ _ _ H q (Fe.refl _ _) S (.str _)⟩
    | _ => cases p1⟩
/-! ### isinstance(x, T) -/
def Tr.cls : Tr → Option String
  | .non => some "NoneType"
  | .bl _ => some "bool"
  | .int _ => some "int"
  | .str _ => some "str"
  | .lst _ => some "list"
  | .tup _ => some "tuple"
  | .dct _ => some "dict"
  | _ => none
theorem dt_tyx {K : PySem.W.Frag} {I H : Hp} {v : V} {t : Tr} {n : String} (s : Sub I H) (d : Dt K I v t) (h : t.cls = some n) : TyX K H v (.type n) := by
  cases d with
  | non => cases h; exact .base .non
  | bl b => cases h; exact .base (.bl b)
  | int i => cases h; exact .base (.int i)
  | str i => cases h; exact .base (.str i)
  | lst g _ =>
    cases h
    rcases sub_seqL s g with (g | ⟨o, g⟩) | ⟨o, its, k, g, c, _⟩
    · exact .base (.lst g)
    · exact .base (.frz g)
    · exact .kList g c
  | tup g _ =>
    cases h
    rcases sub_seqT s g with (g | ⟨o, g⟩) | ⟨o, its, k, g, c, _⟩
    · exact .base (.tup g)
    · exact .fTuple g
    · exact .kTuple g c
  | dct g _ =>
    cases h
    rcases sub_rdK s g with g | ⟨o, g⟩
    · exact .base (.dK g)
    · exact .fDict g
  | ins _ _ => cases h
  | opq _ => cases h
theorem ee_isi {y : Str} {T : String} {p p2 pos : Pos} (hg : Gl X "isinstance") (hm : X.mg "isinstance" = none) (hg2 : Gl X y) (hm2 : X.mg y = none) (hv2 : bootBuiltins y = some (.type T)) (hv : bootBuiltins "isinstance" = some (.builtin "isinstance"))
    (h : EE X B M Δ e fun t Δ1 => ∃ n b, t.cls = some n ∧ kitB n T = some b ∧ Φ (.bl b) Δ1)
    (hn2 : y ≠ "__name__" := by decide) (hdb2 : (y == ("__debug__" : Str)) = false := by decide)
    (hs : starEach [e, .Name y p2] X.env = (false, eval e X.env) :: starEach [.Name y p2] X.env := by rfl) (hs2 : starEach [.Name y p2] X.env = (false, eval (.Name y p2) X.env) :: starEach [] X.env := by rfl)
    (hpl : (backTo pos (starEach [.Name y p2] X.env)).any (·.1) = false := by rfl) : EE X B M Δ (.Call (.Name "isinstance" p) [e, .Name y p2] [] pos) Φ := fun σ H S Q k =>
  PE.to (pe_callB (X := X) call_isi hg hm hv (pa_cons pe_self (pa_cons (pe_bltn (v := .ty T) hg2 hm2 hv2 rfl hn2 hdb2) pa_nil hs2) hs) (by decide) (by decide) hs hpl) (h σ H S _ fun t Δ1 v H1 p f S1 d => by
    obtain ⟨n, b, h1, h2, q⟩ := p
    exact ⟨v, .ty T, .type n, .type T, b, rfl, .ty T, dt_tyx mi_sub d h1, kit_ty h2, k _ Δ1 _ H1 q f S1 (.bl b)⟩)
/-! ### x + a new list -/
theorem eo_cat (i : Nat) {x : Str} {px pos : Pos} {l : Addr} {ts0 : List Tr} (hN : X.N[i]? = some x) (hi : Δ[i]? = some (.own l (.lst ts0)))
    (h : EO X B M Δ b fun u Δ1 => ∃ ts us, u = .lst us ∧ Δ1[i]? = some (.own l (.lst ts)) ∧ ts.length + us.length ≤ sizeLine ∧ Φ (.lst (ts ++ us)) Δ1)
    (hd : (x == ("__debug__" : Str)) = false := by decide) (hcd : (x == ("__classdict__" : Str)) = false := by decide) (hv : Vis X.env.scope x := by first | exact Or.inl rfl | exact Or.inr (Or.inl rfl) | exact Or.inr (Or.inr rfl)) :
    EO X B M Δ (.BinOp (.Name x px) .Add b pos) Φ := fun σ H S Q k => by
  obtain ⟨h1, _⟩ := S.ownAt hi
  refine PE.to (pe_op op_cat (pe_var (i := i) hN hv hd hcd) pe_self) ⟨_, h1, h σ H S _ fun u Δ1 m H1 p f hl S1 hn ow => ?_⟩
  obtain ⟨ts, us, rfl, q1, q2, q⟩ := p
  obtain ⟨_, _, _, _, xs, g1, g2⟩ := S1.ownAt q1
  obtain ⟨ys, y1, y2⟩ := ow
  have nm := S.notM hl
  have S2 := S1.freeze nm S.wm (fun z => nm (S.m0 m z)) hn
  refine ⟨l, m, xs, ys, rfl, rfl, g1, y1, by rw [g2.length, y2.length]; exact q2, fun p hp => ?_⟩
  have s := same_new (o := .lst (xs ++ ys)) hp
  have le : Sub (mi (ins M m).m H1) (mi M.m H1) := mi_le fun b z => .inl z
  obtain ⟨a1, a2, a3⟩ := S2.newOwn (t := .lst (ts ++ us)) hp s ⟨_, upd_same, (g2.append y2).mono le⟩
  exact k _ Δ1 p _ q (f.trans (Fe.same s)) (f.free (fun b z => S2.al b (S2.wm b z)) hp) a1 a2 a3
end
/-! ### a def that gives a new object, whole -/
def spO (K : PySem.W.Frag) (T : List (Addr × Str)) (pre : List Tr → Prop) (post : List Tr → Tr → Prop) : Sp := fun vs H Q _ => ∃ (m : Addr → Prop) (ts : List Tr), Dts K (mi m H) vs ts ∧ pre ts ∧ (∀ b, m b → ∃ o, H b = some o) ∧ Tabs T H ∧
  ∀ l t H', post ts t → Fe (fun _ => False) H H' → Tabs T H' → H l = none → Ow K (mi (fun b => m b ∨ b = l) H') H' l t → Q (.ref l) H'
section
variable {P : Program} {w : World} {K : PySem.W.Frag} {mg : Str → Option Value} {base : Heap} {x qual : Str} {st : Stmt} {f : Addr} {fd : FuncData} {N ps : List Str} {k : Nat} {T : List (Addr × Str)} {pre : List Tr → Prop} {post : List Tr → Tr → Prop} {e : Expr} {pos : Pos}
/-- a def whose code object is known -/
structure FunC (K : PySem.W.Frag) (x qual : Str) (st : Stmt) (f : Addr) (fd : FuncData) (cdv : Value) : Prop where
  ex : ∃ (oc : Value) (od : Option Addr) (kV doc pm : Value) (an : Option Addr) (ct : Value) (osl : Array (Option Value)),
    fd = PySem.W.fnOf x qual (defArgs st) (defBody st) (defScope st) .none kV doc pm an cdv ct ∧ K.lookup f = some ⟨oc, od, .func fd, osl⟩ ∧ PySem.W.codeIn K cdv qual = true
  kp : PySem.W.keepIn K (.ref f) = true
theorem FunC.fn {cdv : Value} (F : FunC K x qual st f fd cdv) : Fun K x qual st f fd := by
  obtain ⟨oc, od, kV, doc, pm, an, ct, osl, e, lk, hcd⟩ := F.ex
  exact ⟨⟨oc, od, kV, doc, pm, an, cdv, ct, osl, e, lk, hcd⟩, F.kp⟩
theorem funC_mk {oc : Value} {od an : Option Addr} {osl : Array (Option Value)} {kV doc pm cdv ct : Value} (l : K.lookup f = some ⟨oc, od, .func (PySem.W.fnOf x qual (defArgs st) (defBody st) (defScope st) .none kV doc pm an cdv ct), osl⟩)
    (c : PySem.W.codeIn K cdv qual = true) (k : PySem.W.keepIn K (.ref f) = true) : FunC K x qual st f (PySem.W.fnOf x qual (defArgs st) (defBody st) (defScope st) .none kV doc pm an cdv ct) cdv := ⟨⟨oc, od, kV, doc, pm, an, ct, osl, rfl, l, c⟩, k⟩
/-- def f(..): return a new object -/
theorem ok_O {cdv : Value} (F : FunC K x qual st f fd cdv) (S : FnScope N ps (defScope st)) (hpre : ∀ ts, pre ts → ts.length = ps.length) (hps : ps.length ≤ N.length) (hbody : defBody st = [.Return (some e) pos])
    (hb : ∀ (A : Around) (outer : List Env) (s : Shared) (H : Hp) (E : XK) (m : Addr → Prop) (ts : List Tr), Room k (A.deeper (envOfC qual (defScope st) s.heap.objs.size f cdv)) → pre ts →
      EO (cxOf CX0 P w K mg base N qual (defScope st) f cdv A outer s H E).nox (bF T H m) ⟨m, fun _ => False⟩ (slots N (ts.map En.dat)) e fun t _ => post ts t) :
    FnOk P w K mg base CX0 (k + 1) f fd ps (spO K T pre post) := by
  obtain ⟨oc, od, kV, doc, pm, an, ct, osl, rfl, lk, hcd⟩ := F.ex
  refine fn_of lk hcd S (fun vs H Q E h => ?_) (fun A outer s H vs Q E hr h => ?_)
  · obtain ⟨m, ts, d, hp, _⟩ := h
    rw [d.length, hpre ts hp]
  · obtain ⟨m, ts, d, hp, al, tb, q⟩ := h
    have hlen : ts.length = ps.length := hpre ts hp
    have Sk0 : Sk K (bF T H m) ⟨m, fun _ => False⟩ H (L2.start N vs) (slots N (ts.map En.dat)) := by
      refine sk_start (by simp; omega) (by simp [d.length]) rfl (fun _ => Iff.rfl) (fun _ => Iff.rfl) (fun _ z => z.elim) al tb (fun i j e f l he _ el _ => ?_) fun i v e hv he => ?_
      · rw [List.getElem?_map] at he
        cases h : ts[i]? with
        | none => rw [h] at he; cases he
        | some t => rw [h] at he; cases he; cases el
      · rw [List.getElem?_map] at he
        cases h : ts[i]? with
        | none => rw [h] at he; cases he
        | some t =>
          rw [h] at he; cases he
          obtain ⟨v', h1, h2⟩ := d.get h
          rw [hv] at h1; cases h1
          exact h2
    refine ⟨_, PSs.nox (pss_self (X := (cxOf CX0 P w K mg base N qual (defScope st) f cdv A outer s H E).nox)), ?_⟩
    show WSs _ (defBody st) _ _ _
    rw [hbody]
    exact PSs.to (pss_one (ps_ret pe_self)) (hb A outer s H E m ts hr hp _ H Sk0 _ fun t Δ' l H' a fe hl S' hn ow => q l t H' a S'.fr S'.tb hl ow)
end
section
variable {X : Cx} {B : Bs} {M : Pl} {Δ : List En} {e : Expr} {es : List Expr} {Φ : Tr → List En → Prop} {x : Str} {k : Nat} {ps : List Str} {pre : List Tr → Prop} {post : List Tr → Tr → Prop}
/-- a new place, made behind a call -/
theorem Sk.grab {K : PySem.W.Frag} {H H' : Hp} {σ : L2.St} {l : Addr} (S : Sk K B M H σ Δ) (f : Fe (fun _ => False) H H') (tb : Tabs B.T H') (hl : H l = none) (ex : ∃ o, H' l = some o) : Sk K B (ins M l) H' σ Δ ∧ ∀ e ∈ Δ, e.adr ≠ some l := by
  have S' := S.feGrow f tb
  have fw : Fe M.w H H' := f.imp fun _ _ _ z => z.elim
  have s2 : Sub (mi M.m H) (mi (ins M l).m H') := mi_new hl S fw
  have hn : ∀ e ∈ Δ, e.adr ≠ some l := fun e he z => by
    obtain ⟨i, hi⟩ := List.getElem?_of_mem he
    obtain ⟨o, _, h2⟩ := S.sl i e hi
    have hm : M.m l := by
      cases e with
      | any => cases z
      | dat t => cases z
      | own l' t => cases z; cases o with
        | none => exact h2.elim
        | some v => exact h2.2.1
      | pen l' N => cases z; cases o with
        | none => exact h2.elim
        | some v => exact S.wm _ h2.2.1
    exact S.notM hl hm
  refine ⟨{ len := S'.len, al := fun b z => z.elim (S'.al b) fun e => by rw [e]; exact ex, wm := fun b z => Or.inl (S.wm b z), m0 := fun b z => Or.inl (S.m0 b z), pm := S.pm, own := fun b z => z.elim (S.own b) fun e => .inr (by rw [e]; exact S.new0 hl), wp := S.wp, fr := S'.fr, tb := S'.tb, dis := S.dis, sl := fun i e q => ?_ }, hn⟩
  obtain ⟨o, h1, h2⟩ := S.sl i e q
  exact ⟨o, h1, h2.mono (M := M) (M' := ins M l) (fun b z => Or.inl z) (fun _ => Iff.rfl) s2 fun l' _ o n z => f.k l' o id n z⟩
/-- f(e, ..), its new object held -/
theorem eo_call {p pos : Pos} (F : Fn X.prog X.w X.K X.mg X.base x k ps (spO X.K B.T pre post)) (hr : Room k X.A) (hg : Gl X x) (h : EA X B M Δ (e :: es) fun ts Δ1 => pre ts ∧ ∀ t, post ts t → Φ t Δ1)
    (hdb : (x == ("__debug__" : Str)) = false := by decide) (he : starEach (e :: es) X.env = (false, eval e X.env) :: starEach es X.env := by rfl) (hpl : (backTo pos (starEach es X.env)).any (·.1) = false := by rfl) : EO X B M Δ (.Call (.Name x p) (e :: es) [] pos) Φ := fun σ H S Q kk => by
  obtain ⟨f, fd, ok, hm, hk, hb⟩ := F.ex
  refine PE.to (pe_call ok hr hg hm hk hb .nil pass0 pa_self hdb he hpl) (h σ H S _ fun ts Δ1 vs H1 q fe S1 d => ?_)
  rw [List.append_nil]
  refine ⟨M.m, ts, d, q.1, S1.al, S1.tb, fun l t H' hp f2 tb hl ow => ?_⟩
  have fw : Fe M.w H H' := fe.trans (f2.imp fun _ _ _ z => z.elim)
  have ex : ∃ o, H' l = some o := by
    cases t <;> first | exact ow.elim | skip
    · obtain ⟨xs, e, _⟩ := ow; exact ⟨_, e⟩
    · obtain ⟨xs, e, _⟩ := ow; exact ⟨_, e⟩
    · obtain ⟨_, xs, e, _⟩ := ow; exact ⟨_, e⟩
  obtain ⟨S2, hn⟩ := S1.grab f2 tb hl ex
  exact kk t Δ1 l H' (q.2 t hp) fw (fe.free (fun b z => S1.al b (S1.wm b z)) hl) S2 hn ow
end
end Wf

set_option Elab.async false
set_option linter.all false
set_option maxRecDepth 100000
set_option maxHeartbeats 2000000
namespace Wf
open PySem PySem.Spec PyProof.Rows L2 LamX
/-! ### a new pen -/
def spPen (K : PySem.W.Frag) (T : List (Addr × Str)) : Sp := fun vs H Q _ => ∃ (m : Addr → Prop) (ns : List Int), Dts K (mi m H) vs [.lst (ns.map Tr.int)] ∧ ns.length ≤ 63 ∧ (∀ b, m b → ∃ o, H b = some o) ∧ Tabs T H ∧
  ∀ (p : Pn) H', Fe (fun _ => False) H H' → Tabs T H' → H p.l = none → PenAt K (mi (fun b => m b ∨ b = p.l) H') H' p 0 → Q (.ref p.l) H'
section
variable {P : Program} {w : World} {K : PySem.W.Frag} {mg : Str → Option Value} {base : Heap} {x qual : Str} {st : Stmt} {f : Addr} {fd : FuncData} {N : List Str} {k : Nat} {T : List (Addr × Str)} {e : Expr} {pos p1 p2 p3 p4 p5 p6 : Pos} {y : Str} {j1 j2 j3 j4 j5 : Nat}
theorem ok_newPen (F : Fun K x qual st f fd) (S : FnScope N [y] (defScope st)) (hbody : defBody st = [.Return (some (.Dict [some (.Constant (.str "cells") j1 p1), some (.Constant (.str "spot") j2 p2), some (.Constant (.str "more") j3 p3)] [e, .Constant (.int 0) j4 p4, .Constant (.int 0) j5 p5] p6)) pos])
    (hb : ∀ (cdv : Value) (A : Around) (outer : List Env) (s : Shared) (H : Hp) (E : XK) (m : Addr → Prop) (ns : List Int), ns.length ≤ 63 → Room k (A.deeper (envOfC qual (defScope st) s.heap.objs.size f cdv)) →
      EO (cxOf CX0 P w K mg base N qual (defScope st) f cdv A outer s H E).nox (bF T H m) ⟨m, fun _ => False⟩ (slots N [.dat (.lst (ns.map Tr.int))]) e fun t _ => t = .lst (ns.map Tr.int)) :
    FnOk P w K mg base CX0 (k + 1) f fd [y] (spPen K T) := by
  have hpl : 1 ≤ N.length := by
    have := congrArg List.length S.pre
    rw [List.length_take] at this
    simp at this
    omega
  refine F.ok S (fun vs H Q E h => ?_) (fun cdv A outer s H vs Q E hr h => ?_)
  · obtain ⟨m, ns, d, _⟩ := h
    rw [d.length]; rfl
  · obtain ⟨m, ns, d, hn, al, tb, q⟩ := h
    have Sk0 : Sk K (bF T H m) ⟨m, fun _ => False⟩ H (L2.start N vs) (slots N [.dat (.lst (ns.map Tr.int))]) := by
      refine sk_start hpl (by rw [d.length]; rfl) rfl (fun _ => Iff.rfl) (fun _ => Iff.rfl) (fun _ z => z.elim) al tb (fun i j e f l he _ el _ => ?_) fun i v e hv he => ?_
      · cases i with
        | zero => cases he; cases el
        | succ i => simp at he
      · cases i with
        | zero =>
          cases he
          obtain ⟨v', h1, h2⟩ := d.get (i := 0) rfl
          rw [hv] at h1; cases h1
          exact h2
        | succ i => simp at he
    have hD := pe_disp (X := (cxOf CX0 P w K mg base N qual (defScope st) f cdv A outer s H E).nox) (pos := p6) (keys := [some (.Constant (.str "cells") j1 p1), some (.Constant (.str "spot") j2 p2), some (.Constant (.str "more") j3 p3)]) (values := [e, .Constant (.int 0) j4 p4, .Constant (.int 0) j5 p5])
      (pps_cons pe_str pe_self (pps_cons pe_str pe_int (pps_cons pe_str pe_int pps_nil))) rfl rfl (by simp) (by show 3 ≤ 15; decide)
    refine ⟨_, PSs.nox (pss_self (X := (cxOf CX0 P w K mg base N qual (defScope st) f cdv A outer s H E).nox)), ?_⟩
    show WSs _ (defBody st) _ _ _
    rw [hbody]
    refine PSs.to (pss_one (ps_ret hD)) fun a ha => ?_
    have s1 := same_new (o := .dK []) ha
    refine hb cdv A outer s H E m ns hn hr _ _ (Sk0.same s1) _ fun t Δ' l H1 ht fe hl S1 hnn ow => ?_
    subst ht
    obtain ⟨xs, x1, x2⟩ := ow
    have ex := of_ints ns x2
    subst ex
    have ha1 : H1 a = some (.dK []) := fe.k a _ id nt_dK upd_same
    have hal : a ≠ l := fun z => by rw [← z, upd_same] at hl; cases hl
    have nma : ¬ m a := fun z => by obtain ⟨o, e⟩ := al a z; rw [ha] at e; cases e
    refine ⟨ha1, [(.inr "cells", .ref l), (.inr "spot", .int 0), (.inr "more", .int 0)], rfl, by simp, ?_⟩
    have em : mergeK [] [((.inr "cells" : Key), V.ref l), (.inr "spot", .int 0), (.inr "more", .int 0)] = [(.inr "cells", .ref l), (.inr "spot", .int 0), (.inr "more", .int 0)] := rfl
    rw [em]
    have fe2 : Fe (fun _ => False) H (upd H1 a (.dK [(.inr "cells", .ref l), (.inr "spot", .int 0), (.inr "more", .int 0)])) := by
      refine ⟨fun b o _ n z => ?_, fun b qs z => ?_⟩
      · rw [upd_ne (ne_of_none z ha)]
        exact fe.k b o id n (s1 b o z)
      · obtain ⟨rs, y⟩ := fe.t b qs (s1 b _ z)
        exact ⟨rs, by rw [upd_ne (ne_of_none z ha)]; exact y⟩
    refine q ⟨a, l, ns⟩ _ fe2 (fun p hp => ?_) ha ⟨0, 0, upd_same, ?_, hn, Int.le_refl _, Int.le_refl _, Int.le_refl _⟩
    · obtain ⟨ps, z1, z2, z3⟩ := S1.tb p hp
      have ne : ∀ b o, H1 b = some o → (∀ o', o ≠ .dK o') → b ≠ a := fun b o z n y => by
        rw [y, ha1] at z
        cases z
        exact n [] rfl
      refine ⟨ps, by rw [upd_ne (ne _ _ z1 fun _ y => nomatch y)]; exact z1, z2, fun pos cv hc => ?_⟩
      obtain ⟨c, c1, c2⟩ := z3 pos cv hc
      exact ⟨c, c1, by rw [upd_ne (ne _ _ c2 fun o' y => by unfold CodeO at y; cases y)]; exact c2⟩
    · refine SqL.of (mi_of (fun z => ?_) (by rw [upd_ne hal.symm]; exact x1))
      have nm : ¬ m l := fun y => by
        obtain ⟨o, e⟩ := al l y
        rw [s1 l o e] at hl
        cases hl
      exact z.elim nm fun y => hal y.symm
end
section
variable {X : Cx} {B : Bs} {M : Pl} {Δ : List En} {e : Expr} {x y : Str} {k : Nat} {Ψ : Eo}
def insP (M : Pl) (l : Addr) : Pl := ⟨fun b => M.m b ∨ b = l, fun b => M.w b ∨ b = l⟩
theorem s_newPen (i : Nat) {ya : Str} {p p' pos pos2 : Pos} (F : Fn X.prog X.w X.K X.mg X.base x k [ya] (spPen X.K B.T)) (hr : Room k X.A) (hg : Gl X x) (hN : X.N.Nodup) (hi : X.N[i]? = some y)
    (h : EA X B M Δ [e] fun ts Δ1 => ∃ ns : List Int, ts = [.lst (ns.map Tr.int)] ∧ ns.length ≤ 63 ∧ ∀ pn : Pn, ¬ M.m pn.l → Ψ.nx (insP M pn.l) (Δ1.set i (.pen pn 0)))
    (hdb : (x == ("__debug__" : Str)) = false := by decide) (he : starEach [e] X.env = (false, eval e X.env) :: starEach [] X.env := by rfl) (hpl : (backTo pos2 (starEach [] X.env)).any (·.1) = false := by rfl)
    (hs : swapsWith (.Call (.Name x p) [e] [] pos2) (some (.Name y p')) pos.line X.env = pure false := by rfl) (hf : X.fn y = true ∨ X.env.scope.names.lookup y = some .local := by first | exact .inl rfl | exact .inr rfl) (hx : Loc X.env.scope y := by first | exact Or.inl rfl | exact Or.inr rfl) :
    S1 X B M Δ (.Assign [.Name y p'] (.Call (.Name x p) [e] [] pos2) pos) Ψ := fun σ H S D p => by
  obtain ⟨f, fd, ok, hm, hk, hb⟩ := F.ex
  refine PS.to (ps_set (i := i) hN hi hx (pe_call ok hr hg hm hk hb .nil pass0 pa_self hdb he hpl) hs hf) (h σ H S _ fun ts Δ1 vs H1 q fe S1 d => ?_)
  obtain ⟨ns, rfl, hn, q⟩ := q
  rw [List.append_nil]
  refine ⟨M.m, ns, d, hn, S1.al, S1.tb, fun pn H' f2 tb hl pa => ?_⟩
  have fw : Fe M.w H1 H' := f2.imp fun _ _ _ z => z.elim
  have S2 := S1.feGrow f2 tb
  have nm : ¬ M.m pn.l := S1.notM hl
  have s2 : Sub (mi M.m H1) (mi (insP M pn.l).m H') := mi_new hl S1 fw
  have S3 : Sk X.K B (insP M pn.l) H' σ Δ1 := by
    refine { len := S2.len, al := fun b z => z.elim (S2.al b) fun e => ?_, wm := fun b z => z.imp (S1.wm b) id, m0 := fun b z => .inl (S1.m0 b z), pm := S1.pm, own := fun b z => z.elim (S1.own b) fun e => .inr (by rw [e]; exact S1.new0 hl), wp := fun b z => z.elim (S1.wp b) fun e => .inr (by rw [e]; exact S1.new0 hl), fr := S2.fr, tb := S2.tb, dis := S1.dis, sl := fun j e z => ?_ }
    · obtain ⟨_, _, z, _⟩ := pa
      exact ⟨_, by rw [e]; exact z⟩
    · obtain ⟨o, h1, h2⟩ := S1.sl j e z
      refine ⟨o, h1, ?_⟩
      cases o with
      | none => cases e <;> first | exact True.intro | exact h2.elim
      | some v =>
        cases e with
        | any => exact True.intro
        | dat t => exact Dt.mono s2 h2
        | own l' t =>
          obtain ⟨h3, h4, h5, h7, h6⟩ := h2
          exact ⟨h3, .inl h4, h5, fun y => y.elim h7 fun e => nm (by rw [← e]; exact h4), h6.mono s2 fun o n y => f2.k _ o id n y⟩
        | pen l' N =>
          obtain ⟨h3, h4, h6⟩ := h2
          exact ⟨h3, .inl h4, h6.mono s2 fun o n y => f2.k _ o id n y⟩
  refine p.nx (insP M pn.l) _ _ H' (q pn nm) ((S.sub fe).trans s2) (S3.put i (o := some (.ref pn.l)) (e := .pen pn 0) ⟨rfl, .inr rfl, pa⟩ fun l' z j f' _ hf' y => ?_)
  cases z
  obtain ⟨o, _, h2⟩ := S1.sl j f' hf'
  cases f' with
  | any => cases y
  | dat t => cases y
  | own l' t =>
    cases y
    cases o with
    | none => exact h2.elim
    | some v => exact nm h2.2.1
  | pen l' N =>
    cases o with
    | none => exact h2.elim
    | some v => exact nm (by rw [show pn.l = l'.l from (Option.some.inj y).symm]; exact S1.wm _ h2.2.1)
end
end Wf

set_option Elab.async false
set_option linter.all false
set_option maxRecDepth 100000
set_option maxHeartbeats 2000000
namespace Wf
open PySem PySem.Spec PyProof.Rows L2 LamX
section
variable {X : Cx} {B : Bs} {M : Pl} {Δ : List En} {e a b c : Expr} {es : List Expr} {Φ : Tr → List En → Prop} {Ψ : Eo}
/-! ### lists that are read, one behind the other -/
def rCatD (K : PySem.W.Frag) : R2 := fun x y H Q => ∃ l b xs zs, x = .ref l ∧ y = .ref b ∧ SqL K H l xs ∧ SqL K H b zs ∧ xs.length + zs.length ≤ sizeLine ∧ ∀ p, H p = none → Q (.ref p) (upd H p (.lst (xs ++ zs)))
theorem op_catD : OpR X (binaryOp .Add) (rCatD X.K) := by
  intro pins s σ H x y v u Q I rx ry h
  obtain ⟨l, b, xs, zs, rfl, rfl, hx, hy, hz, q⟩ := h
  cases rx
  cases ry
  obtain ⟨us, r1, p1, z1⟩ := I.list hx
  obtain ⟨ws, r2, p2, z2⟩ := I.list hy
  obtain ⟨⟨k1, d1, t1, s1⟩, g1, rfl, n1, c1⟩ := p1.isList
  obtain ⟨⟨k2, d2, t2, s2⟩, g2, rfl, n2, c2⟩ := p2.isList
  obtain rfl : t1 = _ := c1
  obtain rfl : t2 = _ := c2
  have hs : us.toArray.size + ws.toArray.size ≤ sizeLine := by rw [List.size_toArray, List.size_toArray, ← r1.length, ← r2.length]; exact hz
  have ea : us.toArray ++ ws.toArray = (us ++ ws).toArray := by simp
  refine concat_meets ⟨_, g1, rfl⟩ ⟨_, g2, rfl⟩ noFill_list_add seq_list_add PySem.F.slot_list_add PySem.F.entry_list_add (PySem.F.args_list_add_2 _ _) (list_addW l b us.toArray ws.toArray n1 n2 d1 d2 s1 s2 hs) ⟨g1, g2, ?_⟩
  rw [ea]
  exact ⟨.ref _, upd H s.heap.objs.size (.lst (xs ++ zs)), I.lnew (t' := s.toks) (r1.append r2) (by rw [List.length_append]; omega), rfl, q _ I.fresh⟩
theorem eo_catD {pos : Pos} (h : EE X B M Δ a fun x Δ1 => EE X B M Δ1 b fun y Δ2 => ∃ ts us, x = .lst ts ∧ y = .lst us ∧ ts.length + us.length ≤ sizeLine ∧ Φ (.lst (ts ++ us)) Δ2) : EO X B M Δ (.BinOp a .Add b pos) Φ := fun σ H S Q k =>
  PE.to (pe_op op_catD pe_self pe_self) (h σ H S _ fun x Δ1 v H1 p1 f1 S1 d1 => p1 σ H1 S1 _ fun y Δ2 w H2 p2 f2 S2 d2 => by
    obtain ⟨ts, us, rfl, rfl, hz, q⟩ := p2
    have d1 := d1.mono (S1.sub f2)
    cases d1 with
    | lst g1 g2 =>
      cases d2 with
      | lst g3 g4 =>
        refine ⟨_, _, _, _, rfl, rfl, sub_seqL mi_sub g1, sub_seqL mi_sub g3, by rw [g2.length, g4.length]; exact hz, fun p hp => ?_⟩
        rename_i l1 xs l2 ys
        have s := same_new (o := .lst (xs ++ ys)) hp
        obtain ⟨a1, a2, a3⟩ := S2.newOwn (t := .lst (ts ++ us)) hp s ⟨_, upd_same, g2.append g4⟩
        exact k _ Δ2 p _ q ((f1.trans f2).trans (Fe.same s)) ((f1.trans f2).free (fun b z => S2.al b (S2.wm b z)) hp) a1 a2 a3)
/-- a module's int -/
theorem ee_globI {x : Str} {i : Int} {tk : Tok} {pos : Pos} (hg : Gl X x) (hm : X.mg x = some (.int i tk)) (q : Φ (.int i) Δ) (hd : (x == ("__debug__" : Str)) = false := by decide) : EE X B M Δ (.Name x pos) Φ :=
  ee_glob (v := .int i) (u := .int i tk) hg hm ⟨tk, rfl⟩ (fun _ => .int i) q hd
end
end Wf

set_option Elab.async false
set_option linter.all false
set_option maxRecDepth 100000
set_option maxHeartbeats 4000000
namespace Toy
open PySem PySem.Spec PyProof.Rows L2 LamX Wf
def top (i : Nat) : Stmt := PySem.Challenge.pw_wordfit_k01_words_in_order.main.body.getD i (.Pass ⟨0, 0, 0, 0⟩)
abbrev s_word_order : Stmt := top 12
theorem sc_word_order : FnScope ["words"] ["words"] (defScope s_word_order) := ⟨rfl, rfl, rfl, by decide +kernel, rfl, by decide +kernel, by decide +kernel⟩
abbrev s_law_pen : Stmt := top 14
theorem sc_law_pen : FnScope ["script"] ["script"] (defScope s_law_pen) := ⟨rfl, rfl, rfl, by decide +kernel, rfl, by decide +kernel, by decide +kernel⟩
abbrev s_law_draw : Stmt := top 15
theorem sc_law_draw : FnScope ["pen", "many", "digit", "spot", "cell", "mix"] ["pen", "many"] (defScope s_law_draw) := ⟨rfl, rfl, rfl, by decide +kernel, rfl, by decide +kernel, by decide +kernel⟩
abbrev s_law_pick : Stmt := top 16
theorem sc_law_pick : FnScope ["pen", "some"] ["pen", "some"] (defScope s_law_pick) := ⟨rfl, rfl, rfl, by decide +kernel, rfl, by decide +kernel, by decide +kernel⟩
abbrev s_law_shuffled : Stmt := top 17
theorem sc_law_shuffled : FnScope ["pen", "some", "rest", "found"] ["pen", "some"] (defScope s_law_shuffled) := ⟨rfl, rfl, rfl, by decide +kernel, rfl, by decide +kernel, by decide +kernel⟩
abbrev s_law_letters : Stmt := top 18
theorem sc_law_letters : FnScope ["pen", "most", "alphabet", "places", "at"] ["pen", "most"] (defScope s_law_letters) := ⟨rfl, rfl, rfl, by decide +kernel, rfl, by decide +kernel, by decide +kernel⟩
abbrev s_law_word : Stmt := top 19
theorem sc_law_word : FnScope ["pen", "letters", "most", "at"] ["pen", "letters", "most"] (defScope s_law_word) := ⟨rfl, rfl, rfl, by decide +kernel, rfl, by decide +kernel, by decide +kernel⟩
abbrev s_law : Stmt := top 20
theorem sc_law : FnScope ["script", "pen", "some", "bout", "letters", "words", "handed", "same", "due", "told", "at", "size", "word"] ["script"] (defScope s_law) := ⟨rfl, rfl, rfl, by decide +kernel, rfl, by decide +kernel, by decide +kernel⟩
end Toy


set_option Elab.async false
set_option linter.all false
set_option maxRecDepth 100000
set_option maxHeartbeats 4000000
namespace Toy
open PySem PySem.Spec PyProof.Rows L2 LamX Wf
section
variable {P : Program} {w : World} {K : PySem.W.Frag} {mg : Str → Option Value} {base : Heap} {T : List (Addr × Str)} {f : Addr} {fd : FuncData}
def drawPre (ts : List Tr) : Prop := ∃ n : Int, ts = [.int n] ∧ 1 ≤ n ∧ n < 1073741824
def drawPost (ts : List Tr) (t : Tr) : Prop := ∃ n i : Int, ts = [.int n] ∧ t = .int i ∧ 0 ≤ i ∧ i < n
theorem mod_lt' {a b : Int} (h : 0 < b) : 0 ≤ a % b ∧ a % b < b := ⟨Int.emod_nonneg a (by omega), Int.emod_lt_of_pos a h⟩
theorem div_nn {a b : Int} (h : 0 ≤ a) (hb : 0 < b) : 0 ≤ a / b := Int.ediv_nonneg h (by omega)
theorem cmulL {i j : Int} (h1 : 0 ≤ i) (h2 : i < 18446744073709551616) : CMul i j := .inl ⟨by omega, by omega⟩
theorem cmulR {i j : Int} (h1 : 0 ≤ j) (h2 : j < 18446744073709551616) : CMul i j := .inr ⟨by omega, by omega⟩
theorem atI_map {ns : List Int} {i : Int} (h0 : 0 ≤ i) (h : i < ns.length) : ∃ n, atI (ns.map Tr.int) i = some (.int n) := by
  have hl : i.toNat < ns.length := by omega
  refine ⟨ns[i.toNat], ?_⟩
  unfold atI ixN
  rw [List.length_map, if_pos h0, if_pos h]
  show (ns.map Tr.int)[i.toNat]? = _
  rw [List.getElem?_map]
  simp [hl]
theorem ok_draw (F : Fun K "_law_draw" "_law_draw" s_law_draw f fd) (zL : mg "len" = none) (zA : mg "abs" = none) : FnOk P w K mg base CX0 2 f fd ["pen", "many"] (spP K T drawPre (fun _ => 1) drawPost) := by
  refine ok_P F sc_law_draw (by rintro _ ⟨n, rfl, _⟩; rfl) (by decide) (fun cdv A outer s H E m p c ts hr hp hc => ?_)
  obtain ⟨n, rfl, h1, h2⟩ := hp
  have hu := hu_of hr
  have hu2 := hr.units
  refine ss_cons ?_
  refine s_if ?_
  refine et_cmp cd_gt ?_
  refine ee_penMore 0 hu rfl rfl fun mo hmo => ?_
  refine ee_int ?_
  refine ⟨_, _, rfl, rfl, fun h => ?_, fun h => ?_⟩
  · refine ss_cons (s_asg 2 sc_law_draw.nd rfl ?_)
    refine ee_mod (ee_penMore 0 hu rfl rfl fun mo2 hm2 => ?_)
    refine ee_name 1 rfl rfl ⟨_, _, rfl, rfl, by omega, ?_⟩
    have hb := mod_lt' (a := mo2) (b := n) (by omega)
    refine ss_cons (s_penMore 0 hu rfl rfl ?_)
    refine ee_fdiv (ee_penMore 0 hu rfl rfl fun mo3 hm3 => ?_)
    refine ee_name 1 rfl rfl ⟨_, _, rfl, rfl, ⟨by omega, by omega⟩, ?_⟩
    refine ⟨_, _, rfl, div_nn hm3 (by omega), rfl, ?_⟩
    refine ss_one (s_ret (ee_name 2 rfl rfl ?_))
    exact ⟨⟨_, _, rfl, rfl, hb.1, hb.2⟩, c, Nat.le_succ _, rfl⟩
  · refine ss_nil ?_
    refine ss_cons (s_asg 3 sc_law_draw.nd rfl ?_)
    refine ee_penSpot 0 hu rfl rfl fun sp hs1 hs2 => ?_
    have hspm : sp < 18446744073709551616 := by
      have : c + 1 ≤ 1000000000 := hc
      omega
    refine ss_cons (s_penSpot 0 hu rfl rfl ?_)
    refine ee_add (ee_name 3 rfl rfl (ee_int ⟨_, _, rfl, rfl, ?_⟩))
    refine ⟨_, c, c + 1, rfl, by omega, by omega, rfl, ?_⟩
    refine ss_cons (s_asg 4 sc_law_draw.nd rfl ?_)
    -- the cell: some number
    refine EE.mono (Φ := fun t Δ' => (∃ z : Int, t = .int z) ∧ Δ' = slots ["pen", "many", "digit", "spot", "cell", "mix"] [.pen p (c + 1), .dat (.int n), .any, .dat (.int sp)]) ?_ ?_
    · refine ee_if ?_
      refine et_cmp (cd_neD hu2) ?_
      refine ee_penCells 0 hu rfl rfl fun hl => ?_
      refine (eo_lst (ea_nil ⟨Nat.zero_le _, ?_⟩)).ee
      refine ⟨(good_ints (d := 1)).eqOk, (good_ints (ns := []) (d := 1)).eqOk, fun h => ?_, fun h => ?_⟩
      · have hne : 0 < p.cs.length := by
          have h := h
          rw [eqv_nil] at h
          cases e : p.cs with
          | nil => rw [e] at h; cases h
          | cons _ _ => simp
        refine ee_ixL (ee_penCells 0 hu rfl rfl fun hl => ?_)
        refine ee_mod (ee_name 3 rfl rfl ?_)
        refine ee_callB cl_len rfl zL PySem.boot_len (ea_cons (ee_penCells 0 hu rfl rfl fun hl => ea_nil ?_))
        have hb := mod_lt' (a := sp) (b := (p.cs.length : Int)) (by omega)
        obtain ⟨z, hz⟩ := atI_map (ns := p.cs) hb.1 hb.2
        refine ⟨_, rfl, _, .inl rfl, _, _, rfl, rfl, ?_, _, _, _, rfl, rfl, ?_, ⟨z, rfl⟩, rfl⟩
        · rw [List.length_map]; omega
        · rw [List.length_map]; exact hz
      · refine ee_add (ee_mul (ee_int (ee_name 3 rfl rfl ⟨_, _, rfl, rfl, cmulL (by decide) (by decide), ee_int ⟨_, _, rfl, rfl, ⟨_, rfl⟩, rfl⟩⟩)))
    rintro _ _ ⟨⟨cell, rfl⟩, rfl⟩
    refine ss_cons (s_if ?_)
    refine et_and2 ?_
    refine et_cmp cd_lt (ee_name 3 rfl rfl ?_)
    refine ee_callB cl_len rfl zL PySem.boot_len (ea_cons (ee_penCells 0 hu rfl rfl fun hl => ea_nil ⟨_, rfl, _, .inl rfl, ?_⟩))
    have tail : SS (cxOf CX0 P w K mg base ["pen", "many", "digit", "spot", "cell", "mix"] "_law_draw" (defScope s_law_draw) f cdv A outer s H E).nox (bP T p H m) ⟨m, fun b => b = p.l⟩ [.pen p (c + 1), .dat (.int n), .any, .dat (.int sp), .dat (.int cell), .any] ((defBody s_law_draw).drop 5)
        ⟨fun _ Δ' => drawPost [.int n] .non ∧ ∃ c', c' ≤ c + 1 ∧ Δ'[0]? = some (.pen p c'), fun t Δ' => drawPost [.int n] t ∧ ∃ c', c' ≤ c + 1 ∧ Δ'[0]? = some (.pen p c'), fun _ _ => False, fun _ _ => False⟩ := by
      have b1 := mod_lt' (a := cell) (b := 2147483647) (by decide)
      refine ss_cons (s_asg 5 sc_law_draw.nd rfl ?_)
      refine EE.mono (Φ := fun t Δ' => (∃ z : Int, t = .int z ∧ 0 ≤ z ∧ z < 2147483629) ∧ Δ' = [.pen p (c + 1), .dat (.int n), .any, .dat (.int sp), .dat (.int cell), .any]) ?_ ?_
      · 
        refine ee_mod ?_
        refine ee_add ?_
        refine ee_add ?_
        refine ee_add ?_
        refine ee_mul ?_
        refine ee_mod ?_
        refine ee_name 4 rfl rfl ?_
        refine ee_int ?_
        refine ⟨_, _, rfl, rfl, (by first | decide | omega | assumption), ?_⟩
        refine ee_int ?_
        refine ⟨_, _, rfl, rfl, (by first | exact cmulL (by decide) (by decide) | exact cmulR (by decide) (by decide) | (apply cmulL <;> omega) | (apply cmulR <;> omega)), ?_⟩
        refine ee_mul ?_
        refine ee_mul ?_
        refine ee_int ?_
        refine ee_name 3 rfl rfl ?_
        refine ⟨_, _, rfl, rfl, (by first | exact cmulL (by decide) (by decide) | exact cmulR (by decide) (by decide) | (apply cmulL <;> omega) | (apply cmulR <;> omega)), ?_⟩
        refine ee_name 3 rfl rfl ?_
        refine ⟨_, _, rfl, rfl, (by first | exact cmulL (by decide) (by decide) | exact cmulR (by decide) (by decide) | (apply cmulL <;> omega) | (apply cmulR <;> omega)), ?_⟩
        refine ⟨_, _, rfl, rfl, ?_⟩
        refine ee_mul ?_
        refine ee_int ?_
        refine ee_name 3 rfl rfl ?_
        refine ⟨_, _, rfl, rfl, (by first | exact cmulL (by decide) (by decide) | exact cmulR (by decide) (by decide) | (apply cmulL <;> omega) | (apply cmulR <;> omega)), ?_⟩
        refine ⟨_, _, rfl, rfl, ?_⟩
        refine ee_int ?_
        refine ⟨_, _, rfl, rfl, ?_⟩
        refine ee_int ?_
        refine ⟨_, _, rfl, rfl, (by first | decide | omega | assumption), ?_⟩
        exact ⟨⟨_, rfl, mod_lt' (by decide)⟩, rfl⟩
      rintro _ _ ⟨⟨mix, rfl, m1, m2⟩, rfl⟩
      refine ss_cons (s_asg 5 sc_law_draw.nd rfl ?_)
      refine EE.mono (Φ := fun t Δ' => (∃ z : Int, t = .int z ∧ 0 ≤ z ∧ z < 2147483587) ∧ Δ' = [.pen p (c + 1), .dat (.int n), .any, .dat (.int sp), .dat (.int cell), .dat (.int mix)]) ?_ ?_
      · 
        refine ee_mod ?_
        refine ee_add ?_
        refine ee_add ?_
        refine ee_add ?_
        refine ee_mul ?_
        refine ee_name 5 rfl rfl ?_
        refine ee_name 5 rfl rfl ?_
        refine ⟨_, _, rfl, rfl, (by first | exact cmulL (by decide) (by decide) | exact cmulR (by decide) (by decide) | (apply cmulL <;> omega) | (apply cmulR <;> omega)), ?_⟩
        refine ee_mul ?_
        refine ee_int ?_
        refine ee_name 5 rfl rfl ?_
        refine ⟨_, _, rfl, rfl, (by first | exact cmulL (by decide) (by decide) | exact cmulR (by decide) (by decide) | (apply cmulL <;> omega) | (apply cmulR <;> omega)), ?_⟩
        refine ⟨_, _, rfl, rfl, ?_⟩
        refine ee_mul ?_
        refine ee_int ?_
        refine ee_name 3 rfl rfl ?_
        refine ⟨_, _, rfl, rfl, (by first | exact cmulL (by decide) (by decide) | exact cmulR (by decide) (by decide) | (apply cmulL <;> omega) | (apply cmulR <;> omega)), ?_⟩
        refine ⟨_, _, rfl, rfl, ?_⟩
        refine ee_int ?_
        refine ⟨_, _, rfl, rfl, ?_⟩
        refine ee_int ?_
        refine ⟨_, _, rfl, rfl, (by first | decide | omega | assumption), ?_⟩
        exact ⟨⟨_, rfl, mod_lt' (by decide)⟩, rfl⟩
      rintro _ _ ⟨⟨mix, rfl, m1, m2⟩, rfl⟩
      refine ss_one (s_ret ?_)
      refine ee_mod ?_
      refine ee_fdiv ?_
      refine ee_mod ?_
      refine ee_mul ?_
      refine ee_name 5 rfl rfl ?_
      refine ee_add ?_
      refine ee_name 5 rfl rfl ?_
      refine ee_int ?_
      refine ⟨_, _, rfl, rfl, ?_⟩
      refine ⟨_, _, rfl, rfl, (by first | exact cmulL (by decide) (by decide) | exact cmulR (by decide) (by decide) | (apply cmulL <;> omega) | (apply cmulR <;> omega)), ?_⟩
      refine ee_int ?_
      refine ⟨_, _, rfl, rfl, (by first | decide | omega | assumption), ?_⟩
      refine ee_int ?_
      refine ⟨_, _, rfl, rfl, ⟨by omega, by omega⟩, ?_⟩
      refine ee_name 1 rfl rfl ?_
      refine ⟨_, _, rfl, rfl, (by first | decide | omega | assumption), ?_⟩
      exact ⟨⟨_, _, rfl, rfl, mod_lt' (by omega)⟩, c + 1, Nat.le_refl _, rfl⟩
    refine ⟨_, _, rfl, rfl, fun hk => ?_, fun hk => ⟨fun z => Bool.noConfusion z, fun _ => ss_nil ?_⟩⟩
    · refine et_cmp cd_ge ?_
      refine ee_callB cl_abs rfl zA PyProof.Rows.boot_abs (ea_cons ?_)
      refine ee_name 4 rfl rfl ?_
      refine ea_nil ⟨_, rfl, ?_⟩
      refine ee_pow ?_
      refine ee_int ?_
      refine ee_int ?_
      refine ⟨_, _, rfl, rfl, ⟨by decide, by decide, by decide⟩, ?_⟩
      refine ⟨_, _, rfl, rfl, fun hk2 => ?_, fun _ => ss_nil tail⟩
      have hk3 := of_decide_eq_true hk2
      refine ss_cons (s_penMore 0 hu rfl rfl ?_)
      refine ee_fdiv ?_
      refine ee_sub ?_
      refine ee_callB cl_abs rfl zA PyProof.Rows.boot_abs (ea_cons ?_)
      refine ee_name 4 rfl rfl ?_
      refine ea_nil ⟨_, rfl, ?_⟩
      refine ee_pow ?_
      refine ee_int ?_
      refine ee_int ?_
      refine ⟨_, _, rfl, rfl, ⟨by decide, by decide, by decide⟩, ?_⟩
      refine ⟨_, _, rfl, rfl, ?_⟩
      refine ee_name 1 rfl rfl ?_
      refine ⟨_, _, rfl, rfl, ⟨by omega, by omega⟩, ?_⟩
      refine ⟨_, c + 1, rfl, div_nn (by omega) (by omega), rfl, ?_⟩
      refine ss_one (s_ret ?_)
      refine ee_mod ?_
      refine ee_sub ?_
      refine ee_callB cl_abs rfl zA PyProof.Rows.boot_abs (ea_cons ?_)
      refine ee_name 4 rfl rfl ?_
      refine ea_nil ⟨_, rfl, ?_⟩
      refine ee_pow ?_
      refine ee_int ?_
      refine ee_int ?_
      refine ⟨_, _, rfl, rfl, ⟨by decide, by decide, by decide⟩, ?_⟩
      refine ⟨_, _, rfl, rfl, ?_⟩
      refine ee_name 1 rfl rfl ?_
      refine ⟨_, _, rfl, rfl, (by first | decide | omega | assumption), ?_⟩
      exact ⟨⟨_, _, rfl, rfl, mod_lt' (by omega)⟩, c + 1, Nat.le_refl _, rfl⟩
    · exact tail
end
end Toy

set_option Elab.async false
set_option linter.all false
set_option maxRecDepth 100000
set_option maxHeartbeats 4000000
namespace Toy
open PySem PySem.Spec PyProof.Rows L2 LamX Wf
section
variable {P : Program} {w : World} {K : PySem.W.Frag} {mg : Str → Option Value} {base : Heap} {T : List (Addr × Str)} {f : Addr} {fd : FuncData}
abbrev FnDraw (P : Program) (w : World) (K : PySem.W.Frag) (mg : Str → Option Value) (base : Heap) (T : List (Addr × Str)) : Prop := Fn P w K mg base "_law_draw" 2 ["pen", "many"] (spP K T drawPre (fun _ => 1) drawPost)
/-! ### _law_pick -/
def pickPre (ts : List Tr) : Prop := (∃ us : List Tr, (ts = [.lst us] ∨ ts = [.tup us]) ∧ 0 < us.length ∧ us.length < 1073741824) ∨ ∃ z : Str, ts = [.str z] ∧ 0 < z.length ∧ z.length ≤ sizeLine
def pickPost (ts : List Tr) (t : Tr) : Prop := (∃ us : List Tr, (ts = [.lst us] ∨ ts = [.tup us]) ∧ t ∈ us) ∨ ∃ (z : Str) (c : Nat), ts = [.str z] ∧ c ∈ z.cps.toList ∧ t = .str ⟨#[c]⟩
theorem atI_mem {α : Type} {us : List α} {i : Int} (h0 : 0 ≤ i) (h : i < us.length) : ∃ t, atI us i = some t ∧ t ∈ us := by
  have hl : i.toNat < us.length := by omega
  refine ⟨us[i.toNat], ?_, List.getElem_mem _⟩
  unfold atI ixN
  rw [if_pos h0, if_pos h]
  show us[i.toNat]? = _
  simp [hl]
theorem strLen (z : Str) : z.cps.toList.length = z.length := by simp [Str.length]
theorem ok_pick (F : Fun K "_law_pick" "_law_pick" s_law_pick f fd) (zL : mg "len" = none) (Fd : FnDraw P w K mg base T) : FnOk P w K mg base CX0 3 f fd ["pen", "some"] (spP K T pickPre (fun _ => 1) pickPost) := by
  refine ok_P F sc_law_pick (by rintro _ (⟨us, rfl | rfl, _⟩ | ⟨z, rfl, _⟩) <;> rfl) (by decide) (fun cdv A outer s H E m p c ts hr hp hc => ?_)
  have hsl : sizeLine = 16777216 := sizeLine_eq
  refine ss_one (s_ret ?_)
  rcases hp with ⟨us, rfl | rfl, h1, h2⟩ | ⟨z, rfl, h1, h2⟩
  · refine ee_ixL (ee_name 1 rfl rfl ?_)
    refine ee_callP 0 rfl rfl Fd hr rfl ?_
    refine ea_cons (ee_callB cl_len rfl zL PySem.boot_len (ea_cons (ee_name 1 rfl rfl (ea_nil ⟨_, rfl, us, .inl rfl, ea_nil ?_⟩))))
    refine ⟨c, rfl, ⟨_, rfl, by omega, by omega⟩, hc, ?_⟩
    rintro _ ⟨n, i, e, rfl, h3, h4⟩
    cases e
    obtain ⟨t, e1, e2⟩ := atI_mem h3 h4
    exact ⟨us, i, t, rfl, rfl, e1, .inl ⟨us, .inl rfl, e2⟩, c + 1, Nat.le_refl _, rfl⟩
  · refine ee_ixT (ee_name 1 rfl rfl ?_)
    refine ee_callP 0 rfl rfl Fd hr rfl ?_
    refine ea_cons (ee_callB cl_len rfl zL PySem.boot_len (ea_cons (ee_name 1 rfl rfl (ea_nil ⟨_, rfl, us, .inr rfl, ea_nil ?_⟩))))
    refine ⟨c, rfl, ⟨_, rfl, by omega, by omega⟩, hc, ?_⟩
    rintro _ ⟨n, i, e, rfl, h3, h4⟩
    cases e
    obtain ⟨t, e1, e2⟩ := atI_mem h3 h4
    exact ⟨us, i, t, rfl, rfl, e1, .inl ⟨us, .inr rfl, e2⟩, c + 1, Nat.le_refl _, rfl⟩
  · refine ee_ixS (ee_name 1 rfl rfl ?_)
    refine ee_callP 0 rfl rfl Fd hr rfl ?_
    refine ea_cons (ee_callB cl_lenS rfl zL PySem.boot_len (ea_cons (ee_name 1 rfl rfl (ea_nil ⟨_, rfl, h2, ea_nil ?_⟩))))
    refine ⟨c, rfl, ⟨_, rfl, by omega, by omega⟩, hc, ?_⟩
    rintro _ ⟨n, i, e, rfl, h3, h4⟩
    cases e
    obtain ⟨t, e1, e2⟩ := atI_mem (us := z.cps.toList) h3 (by rw [strLen]; exact h4)
    exact ⟨z, i, t, rfl, rfl, h2, e1, .inr ⟨z, t, rfl, e2, rfl⟩, c + 1, Nat.le_refl _, rfl⟩
/-! ### _law_shuffled -/
def shufPre (ts : List Tr) : Prop := ∃ us : List Tr, (ts = [.lst us] ∨ ts = [.tup us]) ∧ us.length ≤ 100000 ∧ ∀ u ∈ us, u.good 8
def shufCost (ts : List Tr) : Nat := match ts with | [.lst us] => us.length | [.tup us] => us.length | _ => 0
def shufPost (ts : List Tr) (t : Tr) : Prop := ∃ us vs : List Tr, (ts = [.lst us] ∨ ts = [.tup us]) ∧ t = .lst vs ∧ vs.Perm us
theorem perm_cons_erase {α : Type} : ∀ {us : List α} {n : Nat} {u : α}, us[n]? = some u → (u :: us.eraseIdx n).Perm us
  | [], _, _, h => by simp at h
  | a :: us, 0, u, h => by
    obtain rfl : a = u := Option.some.inj h
    exact List.Perm.refl _
  | a :: us, n + 1, u, h => (List.Perm.swap a u _).trans ((perm_cons_erase (us := us) (n := n) h).cons a)
theorem perm_erase {α : Type} {us ts : List α} {n : Nat} {u : α} (h : us[n]? = some u) : (us.eraseIdx n ++ (ts ++ [u])).Perm (us ++ ts) := by
  have h1 : (u :: us.eraseIdx n).Perm us := perm_cons_erase h
  have h2 : (us.eraseIdx n ++ (ts ++ [u])).Perm (u :: (us.eraseIdx n ++ ts)) := by
    rw [← List.append_assoc]
    exact List.perm_append_singleton u _
  exact h2.trans (List.Perm.append_right ts h1)
theorem ok_shuffled (F : Fun K "_law_shuffled" "_law_shuffled" s_law_shuffled f fd) (zL : mg "len" = none) (zT : mg "list" = none) (Fd : FnDraw P w K mg base T) : FnOk P w K mg base CX0 3 f fd ["pen", "some"] (spP K T shufPre shufCost shufPost) := by
  refine ok_P F sc_law_shuffled (by rintro _ ⟨us, rfl | rfl, _⟩ <;> rfl) (by decide) (fun cdv A outer s H E m p c ts hr hp hc => ?_)
  have hsl : sizeLine = 16777216 := sizeLine_eq
  obtain ⟨us, hts, h1, h2⟩ := hp
  have hcost : shufCost ts = us.length := by rcases hts with rfl | rfl <;> rfl
  obtain ⟨t0, rfl, ht0⟩ : ∃ t0, ts = [t0] ∧ (t0 = .lst us ∨ t0 = .tup us) := by rcases hts with rfl | rfl <;> exact ⟨_, rfl, by simp⟩
  refine ss_cons (s_parOO 2 3 (fun ta ha => ps_par rfl sc_law_shuffled.nd rfl rfl (by decide) rfl rfl ha (by rfl)) (by decide) ?_)
  refine eo_callTy co_list rfl zT (by decide +kernel) (ea_cons (ee_name 1 rfl rfl (ea_nil ⟨us, by rcases ht0 with rfl | rfl <;> simp, fun l1 hl1 => ?_⟩)))
  refine eo_lst (ea_nil ⟨Nat.zero_le _, fun l2 hl2 h21 => ⟨rfl, ?_⟩⟩)
  refine ss_cons (s_while PassesOwn.never (fun n M' Δ' => ∃ xs ys c', M' = ins (ins ⟨m, fun b => b = p.l⟩ l1) l2 ∧ Δ' = [.pen p c', .dat t0, .own l1 (.lst xs), .own l2 (.lst ys)] ∧ (xs ++ ys).Perm us ∧ n = xs.length ∧ c' + xs.length = c + us.length) us.length ⟨us, [], c, rfl, rfl, by rw [List.append_nil], rfl, rfl⟩ ?_)
  rintro n _ _ ⟨xs, ys, c', rfl, rfl, hp, rfl, hc'⟩
  have hlen := hp.length_eq
  rw [List.length_append] at hlen
  refine ET.borrow 2 rfl ?_
  refine et_cmp (cd_neD hr.units) (ee_name 2 rfl rfl (eo_lst (ea_nil ⟨Nat.zero_le _, ?_⟩)).ee)
  refine ⟨(good_lst (d := 8) fun u hu => h2 u (hp.mem_iff.mp (List.mem_append_left _ hu))).eqOk, (good_ints (ns := []) (d := 1)).eqOk, rfl, ?_⟩
  rw [eqv_nil]
  refine ⟨fun h => ?_, fun h => ?_⟩
  · have hx : 0 < xs.length := by
      cases xs with
      | nil => cases h
      | cons _ _ => simp
    refine ss_one (s_appendPop 3 2 rfl rfl rfl rfl (by decide) ?_)
    refine ee_callP 0 rfl rfl Fd hr rfl ?_
    refine ea_cons (EE.borrow 2 rfl (ee_callB cl_len rfl zL PySem.boot_len (ea_cons (ee_name 2 rfl rfl (ea_nil ⟨_, rfl, xs, .inl rfl, rfl, rfl, ea_nil ?_⟩)))))
    refine ⟨c', rfl, ⟨_, rfl, by omega, by omega⟩, by rw [hcost] at hc; show c' + 1 ≤ penMax; omega, ?_⟩
    rintro _ ⟨k, i, e, rfl, h3, h4⟩
    cases e
    have hi : i.toNat < xs.length := by omega
    refine ⟨i.toNat, ys, xs, xs[i.toNat], by rw [Int.toNat_of_nonneg h3], by simp [hi], rfl, rfl, by omega, by omega, ?_⟩
    refine ⟨xs.length - 1, by omega, xs.eraseIdx i.toNat, ys ++ [xs[i.toNat]], c' + 1, rfl, rfl, (perm_erase (by simp [hi])).trans hp, by rw [List.length_eraseIdx, if_pos hi], by rw [List.length_eraseIdx, if_pos hi]; omega⟩
  · have hx : xs = [] := by
      cases xs with
      | nil => rfl
      | cons _ _ => cases h
    subst hx
    refine ss_share 3 rfl (ss_one (s_ret (ee_name 3 rfl rfl ?_)))
    exact ⟨⟨us, ys, by rcases ht0 with rfl | rfl <;> simp, rfl, hp⟩, c', by rw [hcost]; simp at hc'; omega, rfl⟩
end
end Toy

set_option Elab.async false
set_option linter.all false
set_option maxRecDepth 100000
set_option maxHeartbeats 4000000
namespace Toy
open PySem PySem.Spec PyProof.Rows L2 LamX Wf
section
variable {P : Program} {w : World} {K : PySem.W.Frag} {mg : Str → Option Value} {base : Heap} {T : List (Addr × Str)} {f : Addr} {fd : FuncData}
/-- letters: at most n different ones, in order -/
def IsLets (ls : List Nat) (n : Nat) : Prop := 1 ≤ ls.length ∧ ls.length ≤ n ∧ ls.Pairwise (· < ·) ∧ ∀ k ∈ ls, 97 ≤ k ∧ k < 123
abbrev FnShuf (P : Program) (w : World) (K : PySem.W.Frag) (mg : Str → Option Value) (base : Heap) (T : List (Addr × Str)) : Prop := Fn P w K mg base "_law_shuffled" 3 ["pen", "some"] (spP K T shufPre shufCost shufPost)
abbrev FnPick (P : Program) (w : World) (K : PySem.W.Frag) (mg : Str → Option Value) (base : Heap) (T : List (Addr × Str)) : Prop := Fn P w K mg base "_law_pick" 3 ["pen", "some"] (spP K T pickPre (fun _ => 1) pickPost)
def letPre (ts : List Tr) : Prop := ∃ n : Nat, ts = [.int n] ∧ 1 ≤ n ∧ n ≤ 26
def letPost (ts : List Tr) (t : Tr) : Prop := ∃ (n : Nat) (ls : List Nat), ts = [.int n] ∧ t = .str (txt ls) ∧ IsLets ls n
theorem perm_ints {vs : List Tr} {ns : List Int} (h : vs.Perm (ns.map Tr.int)) : ∃ ms : List Int, vs = ms.map Tr.int ∧ ms.Perm ns := by
  have key : ∀ {vs us : List Tr}, vs.Perm us → (∀ t ∈ us, ∃ n, t = Tr.int n) → ∃ ms : List Int, vs = ms.map Tr.int := fun {vs us} h hu => by
    have : ∀ t ∈ vs, ∃ n, t = Tr.int n := fun t ht => hu t (h.mem_iff.mp ht)
    clear h hu
    induction vs with
    | nil => exact ⟨[], rfl⟩
    | cons v vs ih =>
      obtain ⟨n, rfl⟩ := this v List.mem_cons_self
      obtain ⟨ms, rfl⟩ := ih fun t ht => this t (List.mem_cons_of_mem _ ht)
      exact ⟨n :: ms, rfl⟩
  obtain ⟨ms, rfl⟩ := key h fun t ht => by
    obtain ⟨n, _, e⟩ := List.mem_map.mp ht
    exact ⟨n, e.symm⟩
  refine ⟨ms, rfl, ?_⟩
  have g : Tr → Int := fun t => match t with | .int i => i | _ => 0
  have h2 := h.map (fun t : Tr => match t with | .int i => i | _ => (0 : Int))
  rw [List.map_map, List.map_map] at h2
  have e : ((fun t : Tr => match t with | .int i => i | _ => (0 : Int)) ∘ Tr.int) = id := by funext i; rfl
  rw [e, List.map_id, List.map_id] at h2
  exact h2
theorem cut_take {α : Type} {xs : List α} {k : Nat} : cutL xs none (some (k : Int)) = xs.take k := by
  unfold cutL
  rw [HT.sIx_nat, HT.sIx_none, List.drop_zero, Nat.sub_zero]
  by_cases h : k ≤ xs.length
  · rw [Nat.min_eq_left h]
  · rw [Nat.min_eq_right (by omega), List.take_of_length_le (by omega), List.take_of_length_le (by omega)]
abbrev alphaS : Str := "abcdefghijklmnopqrstuvwxyz"
theorem alpha_at {i : Int} (h0 : 0 ≤ i) (h : i < 26) : atI alphaS.cps.toList i = some (i.toNat + 97) := by
  have hl : alphaS.cps.toList.length = 26 := by decide +kernel
  unfold atI ixN
  rw [hl, if_pos h0, if_pos (by omega)]
  show alphaS.cps.toList[i.toNat]? = _
  have key : ∀ j : Nat, j < 26 → alphaS.cps.toList[j]? = some (j + 97) := by decide +kernel
  exact key _ (by omega)
theorem ok_letters (F : Fun K "_law_letters" "_law_letters" s_law_letters f fd) (zT : mg "list" = none) (zR : mg "range" = none) (zS : mg "sorted" = none) (Fd : FnDraw P w K mg base T) (Fs : FnShuf P w K mg base T) :
    FnOk P w K mg base CX0 4 f fd ["pen", "most"] (spP K T letPre (fun _ => 27) letPost) := by
  refine ok_P F sc_law_letters (by rintro _ ⟨n, rfl, _⟩; rfl) (by decide) (fun cdv A outer s H E m p c ts hr hp hc => ?_)
  obtain ⟨n, rfl, h1, h2⟩ := hp
  have hc' : c + 27 ≤ 1000000000 := hc
  have hsl : sizeLine = 16777216 := sizeLine_eq
  refine ss_cons (s_asg 2 sc_law_letters.nd rfl (ee_str ?_))
  refine ss_cons (s_asg 3 sc_law_letters.nd rfl (EO.ee ?_))
  refine eo_callB co_sortedI rfl zS (by decide +kernel) (ea_cons (EO.ee (eo_slL ?_)))
  refine ee_callP 0 rfl rfl Fs hr rfl ?_
  refine ea_cons (EO.ee (eo_listRange rfl rfl zT rfl zR (ee_int ⟨26, rfl, by decide, by decide, ea_nil ?_⟩)))
  have e26 : ((List.range (26 : Int).toNat).map fun i : Nat => Tr.int i) = ((List.range 26).map fun i : Nat => (i : Int)).map Tr.int := by rw [List.map_map]; rfl
  rw [e26]
  refine ⟨c, rfl, ⟨_, .inl rfl, by simp, fun u hu => ?_⟩, ?_, ?_⟩
  · obtain ⟨k, _, rfl⟩ := List.mem_map.mp hu
    exact good_int
  · show c + ((((List.range 26).map fun i : Nat => (i : Int)).map Tr.int)).length ≤ penMax
    simp
    omega
  rintro _ ⟨us, vs, hus, rfl, hperm⟩
  have hus' : us = ((List.range 26).map fun i : Nat => (i : Int)).map Tr.int := by
    rcases hus with e | e
    · cases e; rfl
    · cases e
  subst hus'
  obtain ⟨ms, rfl, hms⟩ := perm_ints hperm
  refine ⟨_, rfl, ep_no (ep_some (ee_add (ee_int ?_)))⟩
  refine ee_callP 0 rfl rfl Fd (hr.mono (by decide)) rfl ?_
  refine ea_cons (ee_name 1 rfl rfl (ea_nil ?_))
  refine ⟨c + 26, rfl, ⟨_, rfl, by omega, by omega⟩, by show c + 26 + 1 ≤ penMax; omega, ?_⟩
  rintro _ ⟨n', i, e, rfl, h3, h4⟩
  cases e
  obtain ⟨k, rfl⟩ : ∃ k : Nat, i = (k : Int) := ⟨i.toNat, by omega⟩
  refine ⟨_, _, rfl, rfl, _, rfl, ea_nil ?_⟩
  rw [show (1 : Int) + (k : Int) = ((k + 1 : Nat) : Int) by omega, cut_take, ← List.map_take]
  have hml : ms.length = 26 := by rw [hms.length_eq]; simp
  refine ⟨ms.take (k + 1), rfl, by rw [List.length_take]; omega, ?_⟩
  intro ns' hp' hs'
  -- the places are different and below 26
  have hnd : ms.Nodup := hms.nodup_iff.mpr (by decide)
  have hlt : ∀ x ∈ ns', 0 ≤ x ∧ x < 26 := fun x hx => by
    have hx2 := (List.take_subset _ _) (hp'.mem_iff.mp hx)
    obtain ⟨j, hj, rfl⟩ := List.mem_map.mp (hms.mem_iff.mp hx2)
    have := List.mem_range.mp hj
    omega
  have hnd' : ns'.Nodup := hp'.nodup_iff.mpr (hnd.sublist (List.take_sublist _ _))
  have hlen : ns'.length = k + 1 := by rw [hp'.length_eq, List.length_take]; omega
  refine ss_one (s_ret (ee_join (ee_str ⟨_, rfl, EO.ee ?_⟩)))
  refine eo_lcMap (.nm 4) (own := [("at", 4)]) rfl sc_law_letters.nd (by decide) rfl (blkOk_by (N := ["pen", "most", "alphabet", "places", "at"]) (sc := defScope s_law_letters) (by decide +kernel)) (fun _ _ _ _ _ => pg_name (i := 4) sc_law_letters.nd rfl (Or.inl rfl)) ?_
  refine ei_list (ee_name 3 rfl rfl ⟨_, rfl, fun i => .str (sgn ((ns'.getD i 0).toNat + 97)), by rw [List.length_map]; omega, fun i D hi => ⟨True.intro, fun _ _ _ _ _ => ?_⟩, ?_⟩)
  · rw [List.length_map] at hi
    have hx : ns'[i] ∈ ns' := List.getElem_mem _
    have hb := hlt _ hx
    have e1 : (ns'.map Tr.int).getD i .non = .int ns'[i] := by
      rw [List.getD_eq_getElem?_getD, List.getElem?_map]
      simp [hi]
    have e2 : ns'.getD i 0 = ns'[i] := by simp [hi]
    refine ee_ixS (ee_name 2 rfl rfl (ee_name 4 rfl rfl ?_))
    show ∃ (z : Str) (j : Int) (c : Nat), _
    refine ⟨_, ns'[i], _, rfl, e1, by decide +kernel, alpha_at hb.1 hb.2, by show Tr.str _ = Tr.str (sgn ((ns'.getD i 0).toNat + 97)); rw [e2]; rfl, rfl⟩
  · have e3 : ((List.range (ns'.map Tr.int).length).map fun i => Tr.str (sgn ((ns'.getD i 0).toNat + 97))) = ((ns'.map fun x => x.toNat + 97).map sgn).map Tr.str := by
      rw [List.length_map, map_range (fun x : Int => Tr.str (sgn (x.toNat + 97))) 0 ns', List.map_map, List.map_map]
      rfl
    refine ⟨(ns'.map fun x => x.toNat + 97).map sgn, .inl (by rw [e3]), ?_, ?_⟩
    · rw [sgn_len]
      show (ns'.map fun x => x.toNat + 97).length + ((ns'.map fun x => x.toNat + 97).map sgn).length * 0 ≤ _
      simp
      omega
    · rw [join_sgn _ (by decide +kernel)]
      refine ⟨⟨n, _, rfl, rfl, by simp; omega, by simp; omega, ?_, ?_⟩, c + 27, Nat.le_refl _, rfl⟩
      · rw [List.pairwise_map]
        have hlt2 : ns'.Pairwise (· < ·) := by
          have := hs'.and hnd'
          exact this.imp fun ⟨a, b⟩ => by omega
        refine List.Pairwise.imp_of_mem ?_ hlt2
        intro a b ha hb hab
        have := hlt a ha
        have := hlt b hb
        omega
      · intro k hk
        obtain ⟨x, hx, rfl⟩ := List.mem_map.mp hk
        have := hlt x hx
        omega
end
end Toy

set_option Elab.async false
set_option linter.all false
set_option maxRecDepth 100000
set_option maxHeartbeats 4000000
namespace Toy
open PySem PySem.Spec PyProof.Rows L2 LamX Wf
section
variable {P : Program} {w : World} {K : PySem.W.Frag} {mg : Str → Option Value} {base : Heap} {T : List (Addr × Str)} {f : Addr} {fd : FuncData}
def wordPre (ts : List Tr) : Prop := ∃ (z : Str) (n : Nat), ts = [.str z, .int n] ∧ 0 < z.length ∧ z.length ≤ sizeLine ∧ n ≤ 1000
def wordPost (ts : List Tr) (t : Tr) : Prop := ∃ (z : Str) (n : Nat) (cs : List Nat), ts = [.str z, .int n] ∧ t = .str (txt cs) ∧ cs.length ≤ n ∧ ∀ c ∈ cs, c ∈ z.cps.toList
theorem sgns_of {z : Str} {n : Nat} : ∀ {ts : List Tr}, (∀ (i : Nat) t, ts[i]? = some t → ∃ c, c ∈ z.cps.toList ∧ t = Tr.str (sgn c)) → ∃ cs : List Nat, ts = (cs.map sgn).map Tr.str ∧ ∀ c ∈ cs, c ∈ z.cps.toList
  | [], _ => ⟨[], rfl, fun _ h => by simp at h⟩
  | t :: ts, h => by
    obtain ⟨c, hc, rfl⟩ := h 0 t rfl
    obtain ⟨cs, rfl, hcs⟩ := sgns_of (z := z) (n := n) (ts := ts) fun i t' ht => h (i + 1) t' ht
    exact ⟨c :: cs, rfl, fun c' h' => (List.mem_cons.mp h').elim (fun e => e ▸ hc) (hcs c')⟩
theorem ok_word (F : Fun K "_law_word" "_law_word" s_law_word f fd) (zR : mg "range" = none) (Fd : FnDraw P w K mg base T) (Fp : FnPick P w K mg base T) :
    FnOk P w K mg base CX0 4 f fd ["pen", "letters", "most"] (spP K T wordPre (fun _ => 2000) wordPost) := by
  refine ok_P F sc_law_word (by rintro _ ⟨z, n, rfl, _⟩; rfl) (by decide) (fun cdv A outer s H E m p c ts hr hp hc => ?_)
  obtain ⟨z, n, rfl, h1, h2, h3⟩ := hp
  have hc' : c + 2000 ≤ 1000000000 := hc
  have hsl : sizeLine = 16777216 := sizeLine_eq
  refine ss_one (s_ret (ee_join (ee_str ⟨_, rfl, EO.ee ?_⟩)))
  refine eo_lcPen (.nm 3) (own := [("at", 3)]) rfl sc_law_word.nd (by decide) rfl (blkOk_by (N := ["pen", "letters", "most", "at"]) (sc := defScope s_law_word) (by decide +kernel)) (fun _ _ _ _ _ => pg_name (i := 3) sc_law_word.nd rfl (Or.inl rfl)) ?_
  refine ei_range1 rfl zR ?_
  refine ee_callP 0 rfl rfl Fd (hr.mono (by decide)) rfl (ea_cons (ee_add (ee_name 2 rfl rfl (ee_int ⟨_, _, rfl, rfl, ea_nil ?_⟩))))
  refine ⟨c, rfl, ⟨_, rfl, by omega, by omega⟩, by show c + 1 ≤ penMax; omega, ?_⟩
  rintro _ ⟨n', i, e, rfl, h4, h5⟩
  cases e
  obtain ⟨k, rfl⟩ : ∃ k : Nat, i = (k : Int) := ⟨i.toNat, by omega⟩
  refine ⟨_, rfl, by omega, by omega, 0, p, c + 1, 1, fun _ t => ∃ c, c ∈ z.cps.toList ∧ t = Tr.str (sgn c), rfl, by omega, fun j c1 D hj hc1 => ⟨True.intro, fun _ _ _ _ _ => ?_⟩, fun us c1 hl hu hc1 => ?_⟩
  · refine ee_callP 0 rfl rfl Fp hr rfl (ea_cons (ee_name 1 rfl rfl (ea_nil ?_)))
    refine ⟨c1, rfl, .inr ⟨z, rfl, h1, h2⟩, by show c1 + 1 ≤ penMax; omega, ?_⟩
    rintro _ (⟨us, e | e, _⟩ | ⟨z', ch, e, hm, rfl⟩)
    · cases e
    · cases e
    · cases e
      exact ⟨⟨ch, hm, rfl⟩, c1 + 1, Nat.le_refl _, rfl⟩
  · obtain ⟨cs, rfl, hcs⟩ := sgns_of (n := 0) hu
    rw [List.length_map, List.length_map] at hl
    refine ⟨cs.map sgn, .inl rfl, ?_, ?_⟩
    · rw [sgn_len]
      show cs.length + (cs.map sgn).length * 0 ≤ _
      omega
    · rw [join_sgn _ (by decide +kernel)]
      exact ⟨⟨z, n, cs, rfl, rfl, by omega, hcs⟩, c1, by omega, rfl⟩
end
end Toy

set_option Elab.async false
set_option linter.all false
set_option maxRecDepth 100000
set_option maxHeartbeats 4000000
namespace Toy
open PySem PySem.Spec PyProof.Rows L2 LamX Wf
section
variable {P : Program} {w : World} {K : PySem.W.Frag} {mg : Str → Option Value} {base : Heap} {T : List (Addr × Str)} {f : Addr} {fd : FuncData}
theorem ok_pen (F : Fun K "_law_pen" "_law_pen" s_law_pen f fd) (zL : mg "list" = none) : FnOk P w K mg base CX0 2 f fd ["script"] (spPen K T) := by
  refine ok_newPen F sc_law_pen rfl fun cdv A outer s H E m ns hn hr => ?_
  refine eo_callTy co_list rfl zL (by decide +kernel) (ea_cons (EO.ee (eo_slL (ee_name 0 rfl rfl ⟨_, rfl, ep_no (ep_some (ee_int ⟨63, rfl, ea_nil ?_⟩))⟩))))
  have e63 : cutL (ns.map Tr.int) none (some (63 : Int)) = ns.map Tr.int := by
    rw [show (63 : Int) = ((63 : Nat) : Int) from rfl, cut_take, List.take_of_length_le (by rw [List.length_map]; exact hn)]
  rw [e63]
  exact ⟨_, .inl rfl, rfl⟩
end
end Toy

set_option Elab.async false
set_option linter.all false
set_option maxRecDepth 100000
set_option maxHeartbeats 4000000
namespace Toy
open PySem PySem.Spec PyProof.Rows L2 LamX Wf
section
variable {P : Program} {w : World} {K : PySem.W.Frag} {mg : Str → Option Value} {base : Heap} {T : List (Addr × Str)} {f : Addr} {fd : FuncData}
abbrev lamQ : Str := "word_order" ++ ".<locals>." ++ "<lambda>"
def orderOf (ws : List Str) : List Str := ws.mergeSort (PySem.W.dataLe false wkey)
def orderPre (ts : List Tr) : Prop := ∃ ws : List Str, (ts = [.lst (ws.map Tr.str)] ∨ ts = [.tup (ws.map Tr.str)]) ∧ ∀ w ∈ ws, w.length ≤ sizeLine
def orderPost (ts : List Tr) (t : Tr) : Prop := ∃ ws : List Str, (ts = [.lst (ws.map Tr.str)] ∨ ts = [.tup (ws.map Tr.str)]) ∧ t = .lst ((orderOf ws).map Tr.str)
theorem ok_order {c Pt : Addr} (F : FunC K "word_order" "word_order" s_word_order f fd (.ref c)) (zS : mg "sorted" = none) (zL : mg "len" = none) (TB : TabB base mg c Pt) (hT : (Pt, lamQ) ∈ T) (hu : ∀ p ∈ T, p.1 = Pt → p.2 = lamQ) :
    FnOk P w K mg base CX0 3 f fd ["words"] (spO K T orderPre orderPost) := by
  refine ok_O F sc_word_order (by rintro _ ⟨ws, rfl | rfl, _⟩ <;> rfl) (by decide) rfl (fun A outer s H E m ts hr hp => ?_)
  obtain ⟨ws, hts, hw⟩ := hp
  refine eo_sortedKey (k := 0) (q := lamQ) rfl zS zL TB rfl rfl hT hu hr rfl (fun _ _ _ _ => rfl) ?_
  rcases hts with rfl | rfl
  · exact ea_cons (ee_name 0 rfl rfl (ea_nil ⟨ws, .inl rfl, hw, ws, .inl rfl, rfl⟩))
  · exact ea_cons (ee_name 0 rfl rfl (ea_nil ⟨ws, .inr rfl, hw, ws, .inr rfl, rfl⟩))
end
end Toy

set_option Elab.async false
set_option linter.all false
set_option maxRecDepth 100000
set_option maxHeartbeats 4000000
namespace Toy
open PySem PySem.Spec PyProof.Rows L2 LamX Wf
section
variable {P : Program} {w : World} {K : PySem.W.Frag} {mg : Str → Option Value} {base : Heap} {T : List (Addr × Str)} {f : Addr} {fd : FuncData}
abbrev FnLet (P : Program) (w : World) (K : PySem.W.Frag) (mg : Str → Option Value) (base : Heap) (T : List (Addr × Str)) : Prop := Fn P w K mg base "_law_letters" 4 ["pen", "most"] (spP K T letPre (fun _ => 27) letPost)
abbrev FnWd (P : Program) (w : World) (K : PySem.W.Frag) (mg : Str → Option Value) (base : Heap) (T : List (Addr × Str)) : Prop := Fn P w K mg base "_law_word" 4 ["pen", "letters", "most"] (spP K T wordPre (fun _ => 2000) wordPost)
abbrev FnPn (P : Program) (w : World) (K : PySem.W.Frag) (mg : Str → Option Value) (base : Heap) (T : List (Addr × Str)) : Prop := Fn P w K mg base "_law_pen" 2 ["script"] (spPen K T)
abbrev FnOrd (P : Program) (w : World) (K : PySem.W.Frag) (mg : Str → Option Value) (base : Heap) (T : List (Addr × Str)) : Prop := Fn P w K mg base "word_order" 3 ["words"] (spO K T orderPre orderPost)
/-- words of few letters -/
def Few (ws : List (List Nat)) : Prop := ∀ w ∈ ws, w.length ≤ 6 ∧ ∀ c ∈ w, c < 128
def trW (ws : List (List Nat)) : List Tr := (ws.map txt).map Tr.str
theorem words_of : ∀ {ts : List Tr}, (∀ (i : Nat) t, ts[i]? = some t → ∃ cs : List Nat, t = Tr.str (txt cs) ∧ cs.length ≤ 6 ∧ ∀ c ∈ cs, c < 128) → ∃ ws, ts = trW ws ∧ Few ws
  | [], _ => ⟨[], rfl, fun _ h => by simp at h⟩
  | t :: ts, h => by
    obtain ⟨cs, rfl, h1⟩ := h 0 t rfl
    obtain ⟨ws, rfl, h2⟩ := words_of (ts := ts) fun i t' ht => h (i + 1) t' ht
    exact ⟨cs :: ws, rfl, fun w hw => (List.mem_cons.mp hw).elim (fun e => e ▸ h1) (h2 w)⟩
theorem few_rep {ws : List (List Nat)} (h : Few ws) (hl : ws.length ≤ 1000) : ∀ t : Tr, t = .lst (trW ws) ∨ t = .tup (trW ws) → t.rep 8 26000 := by
  have key : ∀ t ∈ trW ws, t.rep 7 6 := fun t ht => by
    obtain ⟨x, hx, rfl⟩ := List.mem_map.mp ht
    obtain ⟨cs, hc, rfl⟩ := List.mem_map.mp hx
    exact rep_txt (h cs hc).2 (h cs hc).1
  have hlen : (trW ws).length = ws.length := by unfold trW; simp
  rintro t (rfl | rfl)
  · exact rep_lst key (by rw [hlen]; omega)
  · exact rep_tup key (by rw [hlen]; omega)
theorem order_perm (ws : List (List Nat)) : ∃ us : List (List Nat), orderOf (ws.map txt) = us.map txt ∧ us.Perm ws := by
  have hp : (orderOf (ws.map txt)).Perm (ws.map txt) := List.mergeSort_perm _ _
  have key : ∀ {xs : List Str}, (∀ x ∈ xs, ∃ cs, x = txt cs) → ∃ us : List (List Nat), xs = us.map txt := fun {xs} => by
    induction xs with
    | nil => intro _; exact ⟨[], rfl⟩
    | cons x xs ih =>
      intro h
      obtain ⟨cs, rfl⟩ := h x List.mem_cons_self
      obtain ⟨us, rfl⟩ := ih fun y hy => h y (List.mem_cons_of_mem _ hy)
      exact ⟨cs :: us, rfl⟩
  obtain ⟨us, e⟩ := key (xs := orderOf (ws.map txt)) fun x hx => by
    obtain ⟨cs, _, rfl⟩ := List.mem_map.mp (hp.mem_iff.mp hx)
    exact ⟨cs, rfl⟩
  refine ⟨us, e, ?_⟩
  rw [e] at hp
  have := hp.map fun z : Str => z.cps.toList
  rw [List.map_map, List.map_map] at this
  have i1 : ((fun z : Str => z.cps.toList) ∘ txt) = id := by funext cs; exact txt_cps cs
  rw [i1, List.map_id, List.map_id] at this
  exact this
theorem few_perm {us ws : List (List Nat)} (p : us.Perm ws) (h : Few ws) : Few us := fun w hw => h w (p.mem_iff.mp hw)
abbrev nLaw : List Str := ["script", "pen", "some", "bout", "letters", "words", "handed", "same", "due", "told", "at", "size", "word"]
/-- pairs of length and word, sorted, are the words in order -/
def pairT (x : Str) : Tr := .tup [.int x.length, .str x]
theorem pairT_py (x : Str) : (pairT x).py = wkey x := by unfold pairT Tr.py pyAll Tr.py pyAll Tr.py pyAll; rfl
theorem sort_pairs (ws : List Str) : (ws.map pairT).mergeSort (PySem.W.dataLe false Tr.py) = (orderOf ws).map pairT := by
  unfold orderOf
  rw [List.map_mergeSort]
  intro a _ b _
  unfold PySem.W.dataLe PySem.W.sortLe
  simp only [pairT_py]
theorem len_words {ws : List (List Nat)} (h : Few ws) : ∀ x ∈ ws.map txt, x.length ≤ sizeLine := fun x hx => by
  obtain ⟨cs, hc, rfl⟩ := List.mem_map.mp hx
  rw [txt_len, sizeLine_eq]
  have := (h cs hc).1
  omega
theorem pairs_py (ws : List Str) : (ws.map pairT).map Tr.py = ws.map wkey := by
  rw [List.map_map]
  exact List.map_congr_left fun x _ => pairT_py x
theorem pair_plain (ws : List Str) : ∀ t ∈ ws.map pairT, t.plain = true := fun t ht => by
  obtain ⟨x, _, rfl⟩ := List.mem_map.mp ht
  unfold pairT Tr.plain plainAll Tr.plain plainAll Tr.plain plainAll
  rfl
theorem pair_deep (ws : List Str) : ∀ t ∈ ws.map pairT, t.py.depth ≤ 8 := fun t ht => by
  obtain ⟨x, _, rfl⟩ := List.mem_map.mp ht
  rw [pairT_py, dep_wkey]
  decide
theorem range_pairs (ws : List Str) (n : Nat) (h : n = ws.length) : (List.range n).map (fun i => pairT (ws.getD i ⟨#[]⟩)) = ws.map pairT := by
  subst h
  exact map_range pairT ⟨#[]⟩ ws
theorem range_strs (ws : List Str) (n : Nat) (h : n = ws.length) : (List.range n).map (fun i => Tr.str (ws.getD i ⟨#[]⟩)) = ws.map Tr.str := by
  subst h
  exact map_range Tr.str ⟨#[]⟩ ws
theorem getD_map {α β : Type} (f : α → β) (l : List α) (i : Nat) (d : α) (e : β) (h : i < l.length) : (l.map f).getD i e = f (l.getD i d) := by
  simp [List.getD_eq_getElem?_getD, List.getElem?_map, h]
theorem map_str_inj : ∀ {x y : List Str}, x.map Tr.str = y.map Tr.str → x = y
  | [], [], _ => rfl
  | [], _ :: _, e => by simp at e
  | _ :: _, [], e => by simp at e
  | a :: x, b :: y, e => by
    rw [List.map_cons, List.map_cons] at e
    injection e with e1 e2
    injection e1 with e1
    rw [e1, map_str_inj e2]
theorem seq_inj {a b : List Str} {t : Tr} (h : [t] = [Tr.lst (a.map Tr.str)] ∨ [t] = [Tr.tup (a.map Tr.str)]) (h2 : [t] = [Tr.lst (b.map Tr.str)] ∨ [t] = [Tr.tup (b.map Tr.str)]) : b = a := by
  have key : ∀ {x y : List Str}, x.map Tr.str = y.map Tr.str → x = y := fun {x y} e => map_str_inj e
  rcases h with h | h <;> rcases h2 with h2 | h2 <;> have e := h.symm.trans h2 <;> injection e with e _
  · injection e with e
    exact key e.symm
  · cases e
  · cases e
  · injection e with e
    exact key e.symm
/-- what the law asks of the module's names -/
structure Zs (mg : Str → Option Value) : Prop where
  c1 : ∃ t, mg "LENGTH" = some (.int 12 t)
  c2 : ∃ t, mg "WORDS" = some (.int 200 t)
  c3 : ∃ t, mg "PREFIXES" = some (.int 600 t)
  c4 : ∃ t, mg "STATES" = some (.int 600 t)
  c5 : ∃ t, mg "POINTS" = some (.int 60 t)
  c6 : ∃ t, mg "CHOICES" = some (.int 8 t)
  c7 : ∃ t, mg "NODES" = some (.int 2000 t)
  c8 : ∃ t, mg "TOLD" = some (.int 4 t)
  c9 : ∃ t, mg "COMPARED" = some (.int 20 t)
  c10 : ∃ t, mg "FAULTS" = some (.int 8 t)
  c11 : ∃ t, mg "LESSON" = some (.int 300 t)
  zRepr : mg "repr" = none
  zRange : mg "range" = none
  zTuple : mg "tuple" = none
  zSorted : mg "sorted" = none
  zLen : mg "len" = none
  zIs : mg "isinstance" = none
  zList : mg "list" = none
abbrev limTr : Tr := .lst [.int 12, .int 200, .int 600, .int 600, .int 60, .int 8, .int 2000, .int 4, .int 20, .int 8, .int 300]
theorem lim_shown : limTr.py.shown = "[12, 200, 600, 600, 60, 8, 2000, 4, 20, 8, 300]" := by
  unfold limTr
  simp only [Tr.py, pyAll]
  decide +kernel
abbrev xLaw (P : Program) (w : World) (K : PySem.W.Frag) (mg : Str → Option Value) (base : Heap) (f : Addr) (cdv : Value) (s : Shared) (H : Hp) : Cx := (cxOf CX0 P w K mg base nLaw "law" (defScope s_law) f cdv callerA [] s H fun _ _ _ => False).nox
abbrev lpBody : List Stmt := match (defBody s_law).getD 3 (.Pass ⟨0, 0, 0, 0⟩) with
  | .For _ _ b _ _ => b
  | _ => []
theorem law_told {cdv : Value} {s : Shared} {H : Hp} {M : Pl} {Ψ : Eo} {e0 e1 e2 e3 e4 e5 e9 e10 e11 e12 : En} {ws : List (List Nat)} {th : Tr} (Z : Zs mg) (Fo : FnOrd P w K mg base T) (hf : Few ws) (hwl : ws.length ≤ 16) (hth : th = .lst (trW ws) ∨ th = .tup (trW ws))
    (hnx : ∀ M2 e7 e8 e9, Ψ.nx M2 [e0, e1, e2, e3, e4, e5, .dat th, e7, e8, e9, e10, e11, e12]) :
    SS (xLaw P w K mg base f cdv s H) (bF T H fun _ => False) M [e0, e1, e2, e3, e4, e5, .dat th, .dat (.str th.py.shown), .dat (.lst ((orderOf (ws.map txt)).map Tr.str)), e9, e10, e11, e12] (lpBody.drop 5) Ψ := by
  have hr : Room 199 (callerA.deeper (envOfC "law" (defScope s_law) s.heap.objs.size f cdv)) := caller_room.deeper _
  have hu2 := hr.units
  have hsl : sizeLine = 16777216 := sizeLine_eq
  have hws := len_words hf
  have hrep := few_rep hf (by omega) th hth
  have hsq : th.isSq = true := by rcases hth with rfl | rfl <;> rfl
  obtain ⟨us, eus, hus⟩ := order_perm ws
  have hfu := few_perm hus hf
  have hul : us.length ≤ 1000 := by rw [hus.length_eq]; omega
  have hts : [th] = [Tr.lst ((ws.map txt).map Tr.str)] ∨ [th] = [Tr.tup ((ws.map txt).map Tr.str)] := by
    rcases hth with rfl | rfl
    · exact .inl rfl
    · exact .inr rfl
  have hpost : ∀ t, orderPost [th] t → t = .lst (trW us) := by
    rintro t ⟨ws2, h2, rfl⟩
    have e3 : ws2 = ws.map txt := seq_inj hts h2
    rw [e3, eus]
    rfl
  rw [eus, show (us.map txt).map Tr.str = trW us from rfl]
  have hrepU := few_rep hfu hul (.lst (trW us)) (.inl rfl)
  refine ss_cons (s_asgO 9 sc_law.nd rfl (eo_call Fo (hr.mono (by decide)) rfl (ea_cons (ee_name 6 rfl rfl (ea_nil ⟨⟨ws.map txt, hts, hws⟩, fun t ht l9 hl9 => ?_⟩)))))
  obtain rfl := hpost t ht
  have eqs : ∀ z : Str, (!decide (z = z)) = false := fun z => by simp
  refine ss_cons (s_if (ET.borrow 9 rfl (et_ew (ew_or (et_not (et_val (ee_isi (T := "list") rfl Z.zIs rfl Z.zList (by decide +kernel) (by decide +kernel) (ee_name 9 rfl rfl ⟨"list", true, rfl, by decide +kernel, true, rfl, fun h => Bool.noConfusion h, fun _ => ?_⟩))))))))
  refine ew_or (et_cmp cd_neS (ee_callB (cl_repr lawA_guards hu2) rfl Z.zRepr (by decide +kernel) (ea_cons (ee_name 9 rfl rfl (ea_nil ⟨_, rfl, rfl, hrepU, ?_⟩)))))
  refine ee_callB (cl_repr lawA_guards hu2) rfl Z.zRepr (by decide +kernel) (ea_cons (ee_name 8 rfl rfl (ea_nil ⟨_, rfl, rfl, hrepU, _, _, rfl, rfl, ?_⟩)))
  rw [eqs]
  refine ⟨fun h => Bool.noConfusion h, fun _ => ew_or1 (et_cmp cd_neS (ee_callB (cl_repr lawA_guards hu2) rfl Z.zRepr (by decide +kernel) (ea_cons (ee_name 6 rfl rfl (ea_nil ⟨_, rfl, hsq, hrep, ee_name 7 rfl rfl ⟨_, _, rfl, rfl, ?_⟩⟩)))))⟩
  rw [eqs]
  refine ⟨rfl, fun h => Bool.noConfusion h, fun _ => ss_nil ?_⟩
  refine ss_cons (s_append 9 rfl rfl (ee_non ⟨_, rfl, ?_, ?_⟩))
  · unfold trW
    rw [List.length_map, List.length_map]
    omega
  refine ss_one (s_if (et_cmp cd_neS (ee_callB (cl_repr lawA_guards hu2) rfl Z.zRepr (by decide +kernel) (ea_cons (EO.ee (eo_call Fo (hr.mono (by decide)) rfl (ea_cons (ee_name 6 rfl rfl (ea_nil ⟨⟨ws.map txt, hts, hws⟩, fun t2 ht2 => ea_nil ⟨t2, rfl, ?_, ?_, ?_⟩⟩)))))))))
  · rw [hpost t2 ht2]; rfl
  · rw [hpost t2 ht2]; exact hrepU
  rw [hpost t2 ht2]
  refine ee_callB (cl_repr lawA_guards hu2) rfl Z.zRepr (by decide +kernel) (ea_cons (ee_name 8 rfl rfl (ea_nil ⟨_, rfl, rfl, hrepU, _, _, rfl, rfl, ?_⟩)))
  rw [eqs]
  refine ⟨fun h => Bool.noConfusion h, fun _ => ss_nil ?_⟩
  exact hnx _ _ _ _
theorem law_same {cdv : Value} {s : Shared} {H : Hp} {M : Pl} {Ψ : Eo} {e0 e1 e2 e3 e4 e7 e8 e9 e10 e11 e12 : En} {ws : List (List Nat)} {th : Tr} (Z : Zs mg) (Fo : FnOrd P w K mg base T) (hf : Few ws) (hwl : ws.length ≤ 16) (hth : th = .lst (trW ws) ∨ th = .tup (trW ws))
    (hnx : ∀ M2 e7 e8 e9 e11 e12, Ψ.nx M2 [e0, e1, e2, e3, e4, .dat (.lst (trW ws)), .dat th, e7, e8, e9, e10, e11, e12]) :
    SS (xLaw P w K mg base f cdv s H) (bF T H fun _ => False) M [e0, e1, e2, e3, e4, .dat (.lst (trW ws)), .dat th, e7, e8, e9, e10, e11, e12] (lpBody.drop 4) Ψ := by
  have hr : Room 199 (callerA.deeper (envOfC "law" (defScope s_law) s.heap.objs.size f cdv)) := caller_room.deeper _
  have hu2 := hr.units
  have hsl : sizeLine = 16777216 := sizeLine_eq
  have hrep := few_rep hf (by omega) th hth
  have hsq : th.isSq = true := by rcases hth with rfl | rfl <;> rfl
  have hwn : (trW ws).length = (ws.map txt).length := by unfold trW; rw [List.length_map]
  have hw1 : (ws.map txt).length ≤ sizeLine := by rw [List.length_map]; omega
  have hws := len_words hf
  refine ss_cons (s_par 7 8 (hE := fun ta ha => ps_par rfl sc_law.nd rfl rfl (by decide) rfl rfl ha (by rfl)) ?_)
  refine ee_callB (cl_repr lawA_guards hu2) rfl Z.zRepr (by decide +kernel) (ea_cons (ee_name 6 rfl rfl (ea_nil ⟨th, rfl, hsq, hrep, EO.ee ?_⟩)))
  refine eo_lcMap (.tp 11 12) (own := [("size", 11), ("word", 12)]) rfl sc_law.nd (by decide) rfl (blkOk_by (N := nLaw) (sc := defScope s_law) (by decide +kernel)) (fun _ _ _ _ _ => pg_tup rfl (pgs_cons (pg_name (i := 11) sc_law.nd rfl (Or.inl rfl)) (pgs_cons (pg_name (i := 12) sc_law.nd rfl (Or.inl rfl)) pgs_nil))) ?_
  refine ei_list (EO.ee (eo_callB (co_sortD hu2) rfl Z.zSorted (by decide +kernel) (ea_cons (EO.ee ?_))))
  refine eo_lcMap (.nm 12) (own := [("word", 12)]) rfl sc_law.nd (by decide) rfl (blkOk_by (N := nLaw) (sc := defScope s_law) (by decide +kernel)) (fun _ _ _ _ _ => pg_name (i := 12) sc_law.nd rfl (Or.inl rfl)) ?_
  refine ei_list (ee_name 5 rfl rfl ⟨_, rfl, fun i => pairT ((ws.map txt).getD i ⟨#[]⟩), by rw [hwn]; exact hw1, fun j D hj => ⟨True.intro, fun _ _ _ _ _ => ?_⟩, ?_⟩)
  · rw [hwn] at hj
    have ej : (trW ws).getD j .non = .str ((ws.map txt).getD j ⟨#[]⟩) := getD_map Tr.str _ j ⟨#[]⟩ .non hj
    have hj2 : (ws.map txt).getD j ⟨#[]⟩ ∈ ws.map txt := by
      rw [List.getD_eq_getElem?_getD, List.getElem?_eq_getElem hj]
      exact List.getElem_mem hj
    refine ee_tup (ea_cons (ee_callB cl_lenS rfl Z.zLen (by decide +kernel) (ea_cons (ee_name 12 rfl rfl (ea_nil ⟨(ws.map txt).getD j ⟨#[]⟩, congrArg (fun z => [z]) ej, hws _ hj2, ea_cons (ee_name 12 rfl rfl (ea_nil ⟨by show 2 ≤ sizeLine; omega, ?_, rfl⟩))⟩)))))
    show Tr.tup [_, (trW ws).getD j .non] = pairT _
    rw [ej]
    rfl
  rw [range_pairs (ws.map txt) _ hwn]
  refine ea_nil ⟨_, rfl, pair_plain _, by rw [pairs_py]; exact alike_wkey _, by rw [pairs_py]; exact PySem.W.Sortable.tuples fun _ => ⟨_, _, rfl⟩, pair_deep _, ?_⟩
  rw [sort_pairs]
  have hon : ((orderOf (ws.map txt)).map pairT).length = (orderOf (ws.map txt)).length := List.length_map _
  have hol : (orderOf (ws.map txt)).length = (ws.map txt).length := List.length_mergeSort _
  refine ⟨_, rfl, fun i => Tr.str ((orderOf (ws.map txt)).getD i ⟨#[]⟩), by rw [hon, hol]; exact hw1, fun j D hj => ?_, ?_⟩
  · rw [hon] at hj
    have ej : ((orderOf (ws.map txt)).map pairT).getD j .non = pairT ((orderOf (ws.map txt)).getD j ⟨#[]⟩) := getD_map pairT _ j ⟨#[]⟩ .non hj
    show (Tg.tp 11 12).ok (((orderOf (ws.map txt)).map pairT).getD j .non) ∧ _
    refine ⟨?_, fun _ _ _ _ _ => ?_⟩
    · rw [ej]
      exact ⟨_, _, rfl⟩
    · show EE _ _ _ ((Tg.tp 11 12).set _ (((orderOf (ws.map txt)).map pairT).getD j .non)) _ _
      rw [ej]
      exact ee_name 12 rfl rfl ⟨rfl, rfl⟩
  rw [range_strs (orderOf (ws.map txt)) _ hon]
  exact law_told Z Fo hf hwl hth fun M2 a b c => hnx M2 a b c _ _
theorem law_turn {cdv : Value} {s : Shared} {H : Hp} {M' : Pl} {Ψ : Eo} {e0 e2 e3 e4 e5 e6 e7 e8 e9 e10 e11 e12 : En} {pn : Pn} {c i : Nat} (hi6 : i < 6) (hc : c ≤ i * 20000) (Z : Zs mg) (Fd : FnDraw P w K mg base T) (Fl : FnLet P w K mg base T) (Fw : FnWd P w K mg base T) (Fo : FnOrd P w K mg base T)
    (hnx : ∀ M2 c' e4 e5 e6 e7 e8 e9 e10 e11 e12, c' ≤ (i + 1) * 20000 → Ψ.nx M2 [e0, .pen pn c', e2, e3, e4, e5, e6, e7, e8, e9, e10, e11, e12]) :
    SS (xLaw P w K mg base f cdv s H) (bF T H fun _ => False) M' [e0, .pen pn c, e2, e3, e4, e5, e6, e7, e8, e9, e10, e11, e12] lpBody Ψ := by
  have hr : Room 199 (callerA.deeper (envOfC "law" (defScope s_law) s.heap.objs.size f cdv)) := caller_room.deeper _
  have hu2 := hr.units
  have hsl : sizeLine = 16777216 := sizeLine_eq
  have hcc : c ≤ 120000 := by
    have : i * 20000 ≤ 5 * 20000 := Nat.mul_le_mul_right _ (by omega)
    omega
  -- letters
  refine ss_cons (s_asg 4 sc_law.nd rfl ?_)
  refine ee_callP 1 rfl rfl Fl (hr.mono (by decide)) rfl (ea_cons (ee_int (ea_nil ?_)))
  refine ⟨c, rfl, ⟨4, rfl, by decide, by decide⟩, by show c + 27 ≤ 1000000000; omega, ?_⟩
  rintro _ ⟨n4, ls, e4', rfl, hls⟩
  have hn4 : n4 = 4 := by
    injection e4' with e4' _
    injection e4' with e4'
    omega
  subst hn4
  obtain ⟨hl1, hl2, _, hl3⟩ := hls
  -- words
  refine ss_cons (s_of (.nm 10) 5 (own := [("at", 10)]) rfl sc_law.nd rfl rfl (blkOk_by (N := nLaw) (sc := defScope s_law) (by decide +kernel)) (fun _ _ _ _ _ => pg_name (i := 10) sc_law.nd rfl (Or.inl rfl)) (elc_lcPen (.nm 10) (by decide) ?_))
  refine ei_range1 rfl Z.zRange ?_
  refine ee_callP 1 rfl rfl Fd (hr.mono (by decide)) rfl (ea_cons (ee_int (ea_nil ?_)))
  refine ⟨c + 27, rfl, ⟨9, rfl, by decide, by decide⟩, by show c + 27 + 1 ≤ 1000000000; omega, ?_⟩
  rintro _ ⟨n9, i9, e9', rfl, h4, h5⟩
  have hn9 : n9 = 9 := by
    injection e9' with e9' _
    injection e9' with e9'
    omega
  subst hn9
  obtain ⟨k, rfl⟩ : ∃ k : Nat, i9 = (k : Int) := ⟨i9.toNat, by omega⟩
  refine ⟨_, rfl, by omega, by omega, 1, pn, c + 28, 2000, fun _ t => ∃ cs : List Nat, t = Tr.str (txt cs) ∧ cs.length ≤ 6 ∧ ∀ c ∈ cs, c < 128, rfl, by omega, fun j c1 D hj hc1 => ⟨True.intro, fun _ _ _ _ _ => ?_⟩, fun us c1 hl hu hc1 l5 hl5 => ?_⟩
  · refine ee_callP 1 rfl rfl Fw (hr.mono (by decide)) rfl (ea_cons (ee_name 4 rfl rfl (ea_cons (ee_int (ea_nil ?_)))))
    have hj' : j * 2000 ≤ 8 * 2000 := Nat.mul_le_mul_right _ (by omega)
    refine ⟨c1, rfl, ⟨txt ls, 6, rfl, by rw [txt_len]; omega, by rw [txt_len]; omega, by decide⟩, by show c1 + 2000 ≤ 1000000000; omega, ?_⟩
    rintro _ ⟨z, n6, cs, e6', rfl, h6, h7⟩
    injection e6' with ez e6'
    injection e6' with e6' _
    injection e6' with e6'
    injection ez with ez
    subst ez
    refine ⟨⟨cs, rfl, by omega, fun x hx => ?_⟩, c1 + 2000, Nat.le_refl _, rfl⟩
    have hx2 := h7 x hx
    rw [txt_cps] at hx2
    have := hl3 x hx2
    omega
  have hk8 : ((k : Nat) : Int).toNat = k := by omega
  rw [hk8] at hl hc1
  have hk : k ≤ 8 := by omega
  have hc1' : c1 ≤ c + 16028 := by
    have : k * 2000 ≤ 8 * 2000 := Nat.mul_le_mul_right _ hk
    omega
  obtain ⟨ws0, rfl, hf0⟩ := words_of hu
  have hl0 : ws0.length = k := by
    unfold trW at hl
    simpa using hl
  -- some of them once more
  refine ss_share 5 rfl ?_
  refine ss_cons (s_asg 5 sc_law.nd rfl (EO.ee (eo_catD (ee_name 5 rfl rfl (EO.ee (eo_slL (ee_name 5 rfl rfl ⟨_, rfl, ep_no (ep_some ?_)⟩)))))))
  refine ee_callP 1 rfl rfl Fd (hr.mono (by decide)) rfl (ea_cons (ee_int (ea_nil ?_)))
  refine ⟨c1, rfl, ⟨3, rfl, by decide, by decide⟩, by show c1 + 1 ≤ 1000000000; omega, ?_⟩
  rintro _ ⟨n3, i3, _, rfl, h6, _⟩
  obtain ⟨k3, rfl⟩ : ∃ k3 : Nat, i3 = (k3 : Int) := ⟨i3.toNat, by omega⟩
  refine ⟨_, rfl, _, _, rfl, rfl, ?_, ?_⟩
  · rw [cut_take, List.length_take]
    unfold trW
    simp
    omega
  have ecut : trW ws0 ++ cutL (trW ws0) none (some (k3 : Int)) = trW (ws0 ++ ws0.take k3) := by
    rw [cut_take]
    unfold trW
    rw [← List.map_take, ← List.map_take, List.map_append, List.map_append]
  rw [ecut]
  have hf : Few (ws0 ++ ws0.take k3) := fun x hx => (List.mem_append.mp hx).elim (hf0 x) fun h => hf0 x (List.mem_of_mem_take h)
  have hwl : (ws0 ++ ws0.take k3).length ≤ 16 := by rw [List.length_append, List.length_take]; omega
  clear ecut hl hu h4 h5
  generalize ws0 ++ ws0.take k3 = ws at hf hwl
  -- handed
  refine ss_cons (s_asg 6 sc_law.nd rfl (ee_ixL (EO.ee (eo_lst (ea_cons (ee_name 5 rfl rfl (ea_cons (ee_callTy cl_tuple rfl Z.zTuple (by decide +kernel) (ea_cons (ee_name 5 rfl rfl (ea_nil ⟨_, .inl rfl, ea_nil ⟨by show 2 ≤ sizeLine; omega, ?_⟩⟩)))))))))))
  refine ee_callP 1 rfl rfl Fd (hr.mono (by decide)) rfl (ea_cons (ee_int (ea_nil ?_)))
  refine ⟨c1 + 1, rfl, ⟨2, rfl, by decide, by decide⟩, by show c1 + 1 + 1 ≤ 1000000000; omega, ?_⟩
  rintro _ ⟨n2, i2, e2', rfl, h8, h9⟩
  have hn2 : n2 = 2 := by
    injection e2' with e2' _
    injection e2' with e2'
    omega
  subst hn2
  obtain ⟨th, hat, hth⟩ : ∃ t : Tr, atI [Tr.lst (trW ws), Tr.tup (trW ws)] i2 = some t ∧ (t = .lst (trW ws) ∨ t = .tup (trW ws)) := by
    have : i2 = 0 ∨ i2 = 1 := by omega
    rcases this with rfl | rfl
    · exact ⟨_, rfl, .inl rfl⟩
    · exact ⟨_, rfl, .inr rfl⟩
  refine ⟨_, _, th, rfl, rfl, hat, ?_⟩
  refine law_same Z Fo hf hwl hth fun M2 a b d e g => hnx M2 _ _ _ _ _ _ _ _ _ _ ?_
  rw [Nat.add_mul]
  omega
theorem ok_law (F : Fun K "law" "law" s_law f fd) (hbn : Binds K fd ["script"] []) (Z : Zs mg) (Fp : FnPn P w K mg base T) (Fd : FnDraw P w K mg base T) (Fl : FnLet P w K mg base T) (Fw : FnWd P w K mg base T) (Fo : FnOrd P w K mg base T) :
    LawOk CX0 P w K mg base f fd "script" (spLawD K T) := by
  refine law_okD F sc_law hbn fun cdv s H ns hn hbits => ?_
  have hr : Room 199 (callerA.deeper (envOfC "law" (defScope s_law) s.heap.objs.size f cdv)) := caller_room.deeper _
  have hu2 := hr.units
  have hsl : sizeLine = 16777216 := sizeLine_eq
  obtain ⟨t1, z1⟩ := Z.c1
  obtain ⟨t2, z2⟩ := Z.c2
  obtain ⟨t3, z3⟩ := Z.c3
  obtain ⟨t4, z4⟩ := Z.c4
  obtain ⟨t5, z5⟩ := Z.c5
  obtain ⟨t6, z6⟩ := Z.c6
  obtain ⟨t7, z7⟩ := Z.c7
  obtain ⟨t8, z8⟩ := Z.c8
  obtain ⟨t9, z9⟩ := Z.c9
  obtain ⟨t10, z10⟩ := Z.c10
  obtain ⟨t11, z11⟩ := Z.c11
  refine ss_cons (s_newPen 1 Fp (hr.mono (by decide)) rfl sc_law.nd rfl (ea_cons (ee_name 0 rfl rfl (ea_nil ⟨ns, rfl, hn, fun pn hpn => ?_⟩))))
  refine ss_cons (s_asg 2 sc_law.nd rfl (EO.ee (eo_lst ?_)))
  refine ea_cons (ee_globI rfl z1 ?_)
  refine ea_cons (ee_globI rfl z2 ?_)
  refine ea_cons (ee_globI rfl z3 ?_)
  refine ea_cons (ee_globI rfl z4 ?_)
  refine ea_cons (ee_globI rfl z5 ?_)
  refine ea_cons (ee_globI rfl z6 ?_)
  refine ea_cons (ee_globI rfl z7 ?_)
  refine ea_cons (ee_globI rfl z8 ?_)
  refine ea_cons (ee_globI rfl z9 ?_)
  refine ea_cons (ee_globI rfl z10 ?_)
  refine ea_cons (ee_globI rfl z11 ?_)
  refine ea_nil ⟨by rw [hsl]; decide, ?_⟩
  refine ss_cons (s_if (et_cmp cd_neS ?_))
  refine ee_callB (cl_repr lawA_guards hu2) rfl Z.zRepr (by decide +kernel) (ea_cons (ee_name 2 rfl rfl (ea_nil ⟨limTr, rfl, rfl, ?_, ?_⟩)))
  · refine (rep_lst (d := 7) (b := 0) (c := 11) (fun t ht => ?_) (by decide)).le (by decide) (by decide)
    simp only [List.mem_cons, List.not_mem_nil, or_false] at ht
    rcases ht with rfl | rfl | rfl | rfl | rfl | rfl | rfl | rfl | rfl | rfl | rfl <;> exact rep_int (by decide) (by decide)
  refine ee_str ⟨_, _, rfl, rfl, ?_⟩
  rw [lim_shown]
  refine ⟨fun h => by simp at h, fun _ => ss_nil ?_⟩
  -- the rounds
  refine ss_cons (s_for (.nm 3) PassesOwn.never rfl (pg_name (i := 3) sc_law.nd rfl (Or.inl rfl)) ?_)
  refine ei_range1 rfl Z.zRange (ee_int ⟨6, rfl, by decide, by decide, ?_⟩)
  refine ⟨fun i M' Δ' => ∃ c e3 e4 e5 e6 e7 e8 e9 e10 e11 e12, c ≤ i * 20000 ∧ Δ' = [.dat (.lst (ns.map Tr.int)), .pen pn c, .dat limTr, e3, e4, e5, e6, e7, e8, e9, e10, e11, e12], ⟨0, _, _, _, _, _, _, _, _, _, _, Nat.zero_le _, rfl⟩, ?_, ?_⟩
  · rintro i M' Δ' hi ⟨c, e3, e4, e5, e6, e7, e8, e9, e10, e11, e12, hc, rfl⟩
    exact ⟨True.intro, law_turn (show i < 6 from hi) hc Z Fd Fl Fw Fo fun M2 c' e4 e5 e6 e7 e8 e9 e10 e11 e12 hc' => ⟨c', _, e4, e5, e6, e7, e8, e9, e10, e11, e12, hc', rfl⟩⟩
  · rintro M' Δ' ⟨c, e3, e4, e5, e6, e7, e8, e9, e10, e11, e12, hc, rfl⟩
    exact ss_one (s_ret (ee_bl rfl))
end
end Toy

set_option Elab.async false
set_option linter.all false
set_option maxRecDepth 100000
set_option maxHeartbeats 4000000
namespace Toy
open PySem PySem.Spec PyProof.Rows L2 LamX Wf
theorem all_mk {l : PySem.W.OpenLaw} {w : World} {K : PySem.W.Frag} {h : Heap} {mg : Str → Option Value} {fa : Addr} (X : K.In h) (G : h.Ns mainGlobals mg) (hfa : mg "law" = some (.ref fa))
    {f__law_pen : Addr}
    {f__law_draw : Addr}
    {f__law_pick : Addr}
    {f__law_shuffled : Addr}
    {f__law_letters : Addr}
    {f__law_word : Addr}
    {f_word_order : Addr}
    {f_law : Addr}
    {od__law_pen an__law_pen : Option Addr} {sl__law_pen : Array (Option Value)} {oc__law_pen kV__law_pen dc__law_pen pm__law_pen cd__law_pen ct__law_pen : Value}
    {od__law_draw an__law_draw : Option Addr} {sl__law_draw : Array (Option Value)} {oc__law_draw kV__law_draw dc__law_draw pm__law_draw cd__law_draw ct__law_draw : Value}
    {od__law_pick an__law_pick : Option Addr} {sl__law_pick : Array (Option Value)} {oc__law_pick kV__law_pick dc__law_pick pm__law_pick cd__law_pick ct__law_pick : Value}
    {od__law_shuffled an__law_shuffled : Option Addr} {sl__law_shuffled : Array (Option Value)} {oc__law_shuffled kV__law_shuffled dc__law_shuffled pm__law_shuffled cd__law_shuffled ct__law_shuffled : Value}
    {od__law_letters an__law_letters : Option Addr} {sl__law_letters : Array (Option Value)} {oc__law_letters kV__law_letters dc__law_letters pm__law_letters cd__law_letters ct__law_letters : Value}
    {od__law_word an__law_word : Option Addr} {sl__law_word : Array (Option Value)} {oc__law_word kV__law_word dc__law_word pm__law_word cd__law_word ct__law_word : Value}
    {od_word_order an_word_order : Option Addr} {sl_word_order : Array (Option Value)} {oc_word_order kV_word_order dc_word_order pm_word_order ct_word_order : Value}
    {od_law an_law : Option Addr} {sl_law : Array (Option Value)} {oc_law kV_law dc_law pm_law cd_law ct_law : Value}
    {t_LENGTH t_WORDS t_PREFIXES t_STATES t_POINTS t_CHOICES t_NODES t_TOLD t_COMPARED t_FAULTS t_LESSON : Tok}
    {c Pt : Addr}
    (hT : h.get? Pt = some { cls := .none, data := .fields #[] })
    (a__law_pen : PySem.W.nsIn K mainGlobals "_law_pen" = some (some (.ref f__law_pen)))
    (l__law_pen : K.lookup f__law_pen = some ⟨oc__law_pen, od__law_pen, .func (PySem.W.fnOf "_law_pen" "_law_pen" (defArgs s_law_pen) (defBody s_law_pen) (defScope s_law_pen) .none kV__law_pen dc__law_pen pm__law_pen an__law_pen cd__law_pen ct__law_pen), sl__law_pen⟩)
    (c__law_pen : PySem.W.codeIn K cd__law_pen "_law_pen" = true)
    (k__law_pen : PySem.W.keepIn K (.ref f__law_pen) = true)
    (a__law_draw : PySem.W.nsIn K mainGlobals "_law_draw" = some (some (.ref f__law_draw)))
    (l__law_draw : K.lookup f__law_draw = some ⟨oc__law_draw, od__law_draw, .func (PySem.W.fnOf "_law_draw" "_law_draw" (defArgs s_law_draw) (defBody s_law_draw) (defScope s_law_draw) .none kV__law_draw dc__law_draw pm__law_draw an__law_draw cd__law_draw ct__law_draw), sl__law_draw⟩)
    (c__law_draw : PySem.W.codeIn K cd__law_draw "_law_draw" = true)
    (k__law_draw : PySem.W.keepIn K (.ref f__law_draw) = true)
    (a__law_pick : PySem.W.nsIn K mainGlobals "_law_pick" = some (some (.ref f__law_pick)))
    (l__law_pick : K.lookup f__law_pick = some ⟨oc__law_pick, od__law_pick, .func (PySem.W.fnOf "_law_pick" "_law_pick" (defArgs s_law_pick) (defBody s_law_pick) (defScope s_law_pick) .none kV__law_pick dc__law_pick pm__law_pick an__law_pick cd__law_pick ct__law_pick), sl__law_pick⟩)
    (c__law_pick : PySem.W.codeIn K cd__law_pick "_law_pick" = true)
    (k__law_pick : PySem.W.keepIn K (.ref f__law_pick) = true)
    (a__law_shuffled : PySem.W.nsIn K mainGlobals "_law_shuffled" = some (some (.ref f__law_shuffled)))
    (l__law_shuffled : K.lookup f__law_shuffled = some ⟨oc__law_shuffled, od__law_shuffled, .func (PySem.W.fnOf "_law_shuffled" "_law_shuffled" (defArgs s_law_shuffled) (defBody s_law_shuffled) (defScope s_law_shuffled) .none kV__law_shuffled dc__law_shuffled pm__law_shuffled an__law_shuffled cd__law_shuffled ct__law_shuffled), sl__law_shuffled⟩)
    (c__law_shuffled : PySem.W.codeIn K cd__law_shuffled "_law_shuffled" = true)
    (k__law_shuffled : PySem.W.keepIn K (.ref f__law_shuffled) = true)
    (a__law_letters : PySem.W.nsIn K mainGlobals "_law_letters" = some (some (.ref f__law_letters)))
    (l__law_letters : K.lookup f__law_letters = some ⟨oc__law_letters, od__law_letters, .func (PySem.W.fnOf "_law_letters" "_law_letters" (defArgs s_law_letters) (defBody s_law_letters) (defScope s_law_letters) .none kV__law_letters dc__law_letters pm__law_letters an__law_letters cd__law_letters ct__law_letters), sl__law_letters⟩)
    (c__law_letters : PySem.W.codeIn K cd__law_letters "_law_letters" = true)
    (k__law_letters : PySem.W.keepIn K (.ref f__law_letters) = true)
    (a__law_word : PySem.W.nsIn K mainGlobals "_law_word" = some (some (.ref f__law_word)))
    (l__law_word : K.lookup f__law_word = some ⟨oc__law_word, od__law_word, .func (PySem.W.fnOf "_law_word" "_law_word" (defArgs s_law_word) (defBody s_law_word) (defScope s_law_word) .none kV__law_word dc__law_word pm__law_word an__law_word cd__law_word ct__law_word), sl__law_word⟩)
    (c__law_word : PySem.W.codeIn K cd__law_word "_law_word" = true)
    (k__law_word : PySem.W.keepIn K (.ref f__law_word) = true)
    (a_word_order : PySem.W.nsIn K mainGlobals "word_order" = some (some (.ref f_word_order)))
    (l_word_order : K.lookup f_word_order = some ⟨oc_word_order, od_word_order, .func (PySem.W.fnOf "word_order" "word_order" (defArgs s_word_order) (defBody s_word_order) (defScope s_word_order) .none kV_word_order dc_word_order pm_word_order an_word_order (.ref c) ct_word_order), sl_word_order⟩)
    (c_word_order : PySem.W.codeIn K (.ref c) "word_order" = true)
    (k_word_order : PySem.W.keepIn K (.ref f_word_order) = true)
    (a_law : PySem.W.nsIn K mainGlobals "law" = some (some (.ref f_law)))
    (l_law : K.lookup f_law = some ⟨oc_law, od_law, .func (PySem.W.fnOf "law" "law" (defArgs s_law) (defBody s_law) (defScope s_law) .none kV_law dc_law pm_law an_law cd_law ct_law), sl_law⟩)
    (c_law : PySem.W.codeIn K cd_law "law" = true)
    (k_law : PySem.W.keepIn K (.ref f_law) = true)
    (i_LENGTH : PySem.W.nsIn K mainGlobals "LENGTH" = some (some (.int 12 t_LENGTH)))
    (i_WORDS : PySem.W.nsIn K mainGlobals "WORDS" = some (some (.int 200 t_WORDS)))
    (i_PREFIXES : PySem.W.nsIn K mainGlobals "PREFIXES" = some (some (.int 600 t_PREFIXES)))
    (i_STATES : PySem.W.nsIn K mainGlobals "STATES" = some (some (.int 600 t_STATES)))
    (i_POINTS : PySem.W.nsIn K mainGlobals "POINTS" = some (some (.int 60 t_POINTS)))
    (i_CHOICES : PySem.W.nsIn K mainGlobals "CHOICES" = some (some (.int 8 t_CHOICES)))
    (i_NODES : PySem.W.nsIn K mainGlobals "NODES" = some (some (.int 2000 t_NODES)))
    (i_TOLD : PySem.W.nsIn K mainGlobals "TOLD" = some (some (.int 4 t_TOLD)))
    (i_COMPARED : PySem.W.nsIn K mainGlobals "COMPARED" = some (some (.int 20 t_COMPARED)))
    (i_FAULTS : PySem.W.nsIn K mainGlobals "FAULTS" = some (some (.int 8 t_FAULTS)))
    (i_LESSON : PySem.W.nsIn K mainGlobals "LESSON" = some (some (.int 300 t_LESSON)))
    (z_repr : PySem.W.nsIn K mainGlobals "repr" = some none)
    (z_range : PySem.W.nsIn K mainGlobals "range" = some none)
    (z_tuple : PySem.W.nsIn K mainGlobals "tuple" = some none)
    (z_sorted : PySem.W.nsIn K mainGlobals "sorted" = some none)
    (z_len : PySem.W.nsIn K mainGlobals "len" = some none)
    (z_isinstance : PySem.W.nsIn K mainGlobals "isinstance" = some none)
    (z_list : PySem.W.nsIn K mainGlobals "list" = some none)
    (z_abs : PySem.W.nsIn K mainGlobals "abs" = some none)
    (cH : PySem.W.codeHdIn K c Pt = true)
    (nT : K.lookup Pt = none)
    : LawAtG l w K CX0 63 "script" mg fa h := by
  obtain rfl : fa = f_law := by have e := hfa.symm.trans (PySem.W.mg_of X G a_law); cases e; rfl
  have m_LENGTH := PySem.W.mg_of X G i_LENGTH
  have m_WORDS := PySem.W.mg_of X G i_WORDS
  have m_PREFIXES := PySem.W.mg_of X G i_PREFIXES
  have m_STATES := PySem.W.mg_of X G i_STATES
  have m_POINTS := PySem.W.mg_of X G i_POINTS
  have m_CHOICES := PySem.W.mg_of X G i_CHOICES
  have m_NODES := PySem.W.mg_of X G i_NODES
  have m_TOLD := PySem.W.mg_of X G i_TOLD
  have m_COMPARED := PySem.W.mg_of X G i_COMPARED
  have m_FAULTS := PySem.W.mg_of X G i_FAULTS
  have m_LESSON := PySem.W.mg_of X G i_LESSON
  have n_repr := PySem.W.mg_none_of X G z_repr
  have n_range := PySem.W.mg_none_of X G z_range
  have n_tuple := PySem.W.mg_none_of X G z_tuple
  have n_sorted := PySem.W.mg_none_of X G z_sorted
  have n_len := PySem.W.mg_none_of X G z_len
  have n_isinstance := PySem.W.mg_none_of X G z_isinstance
  have n_list := PySem.W.mg_none_of X G z_list
  have n_abs := PySem.W.mg_none_of X G z_abs
  have F__law_pen := fun_mk (st := s_law_pen) l__law_pen c__law_pen k__law_pen
  have b__law_pen := F__law_pen.binds (ps := ["script"]) fun _ _ _ _ _ _ us hl => match us, hl with | [_], _ => rfl
  have F__law_draw := fun_mk (st := s_law_draw) l__law_draw c__law_draw k__law_draw
  have b__law_draw := F__law_draw.binds (ps := ["pen", "many"]) fun _ _ _ _ _ _ us hl => match us, hl with | [_, _], _ => rfl
  have F__law_pick := fun_mk (st := s_law_pick) l__law_pick c__law_pick k__law_pick
  have b__law_pick := F__law_pick.binds (ps := ["pen", "some"]) fun _ _ _ _ _ _ us hl => match us, hl with | [_, _], _ => rfl
  have F__law_shuffled := fun_mk (st := s_law_shuffled) l__law_shuffled c__law_shuffled k__law_shuffled
  have b__law_shuffled := F__law_shuffled.binds (ps := ["pen", "some"]) fun _ _ _ _ _ _ us hl => match us, hl with | [_, _], _ => rfl
  have F__law_letters := fun_mk (st := s_law_letters) l__law_letters c__law_letters k__law_letters
  have b__law_letters := F__law_letters.binds (ps := ["pen", "most"]) fun _ _ _ _ _ _ us hl => match us, hl with | [_, _], _ => rfl
  have F__law_word := fun_mk (st := s_law_word) l__law_word c__law_word k__law_word
  have b__law_word := F__law_word.binds (ps := ["pen", "letters", "most"]) fun _ _ _ _ _ _ us hl => match us, hl with | [_, _, _], _ => rfl
  have F_word_order := funC_mk (st := s_word_order) l_word_order c_word_order k_word_order
  have b_word_order := F_word_order.fn.binds (ps := ["words"]) fun _ _ _ _ _ _ us hl => match us, hl with | [_], _ => rfl
  have F_law := fun_mk (st := s_law) l_law c_law k_law
  have b_law := F_law.binds (ps := ["script"]) fun _ _ _ _ _ _ us hl => match us, hl with | [_], _ => rfl
  have one : ∀ {p : Addr × Addr} {q : Addr × Addr}, p ∈ [q] → p = q := fun h => List.mem_singleton.mp h
  refine ⟨PySem.W.fnOf "law" "law" (defArgs s_law) (defBody s_law) (defScope s_law) .none kV_law dc_law pm_law an_law cd_law ct_law, [(c, Pt)], spLawD K [(Pt, lamQ)], fun p hp => by rw [one hp]; exact hT, fun p hp => by rw [one hp]; exact nT, fun p hp => by rw [one hp]; exact PySem.W.codeHd_of_K X cH, fun H a ns hn hb ht hs => ⟨ns, .cons (.lst hs (dts_ints ns)) .nil, hn, hb, fun p hp => ?_, fun v H' e => e⟩, fun base kb nb tb => ?_⟩
  · rw [List.mem_singleton.mp hp]
    exact TabS.nil (ht (c, Pt) (List.mem_singleton.mpr rfl))
  have TB : TabB base mg c Pt := tb (c, Pt) (List.mem_singleton.mpr rfl)
  have hTm : (Pt, lamQ) ∈ ([(Pt, lamQ)] : List (Addr × Str)) := List.mem_singleton.mpr rfl
  have hTu : ∀ p ∈ ([(Pt, lamQ)] : List (Addr × Str)), p.1 = Pt → p.2 = lamQ := fun p hp _ => by rw [List.mem_singleton.mp hp]
  have Fn__law_pen : FnPn l.prog w K mg base [(Pt, lamQ)] := ⟨f__law_pen, _, ok_pen F__law_pen n_list, PySem.W.mg_of X G a__law_pen, k__law_pen, b__law_pen⟩
  have Fn__law_draw : FnDraw l.prog w K mg base [(Pt, lamQ)] := ⟨f__law_draw, _, ok_draw F__law_draw n_len n_abs, PySem.W.mg_of X G a__law_draw, k__law_draw, b__law_draw⟩
  have Fn__law_pick : FnPick l.prog w K mg base [(Pt, lamQ)] := ⟨f__law_pick, _, ok_pick F__law_pick n_len Fn__law_draw, PySem.W.mg_of X G a__law_pick, k__law_pick, b__law_pick⟩
  have Fn__law_shuffled : FnShuf l.prog w K mg base [(Pt, lamQ)] := ⟨f__law_shuffled, _, ok_shuffled F__law_shuffled n_len n_list Fn__law_draw, PySem.W.mg_of X G a__law_shuffled, k__law_shuffled, b__law_shuffled⟩
  have Fn__law_letters : FnLet l.prog w K mg base [(Pt, lamQ)] := ⟨f__law_letters, _, ok_letters F__law_letters n_list n_range n_sorted Fn__law_draw Fn__law_shuffled, PySem.W.mg_of X G a__law_letters, k__law_letters, b__law_letters⟩
  have Fn__law_word : FnWd l.prog w K mg base [(Pt, lamQ)] := ⟨f__law_word, _, ok_word F__law_word n_range Fn__law_draw Fn__law_pick, PySem.W.mg_of X G a__law_word, k__law_word, b__law_word⟩
  have Fn_word_order : FnOrd l.prog w K mg base [(Pt, lamQ)] := ⟨f_word_order, _, ok_order F_word_order n_sorted n_len TB hTm hTu, PySem.W.mg_of X G a_word_order, k_word_order, b_word_order⟩
  exact ok_law F_law b_law ⟨⟨_, m_LENGTH⟩, ⟨_, m_WORDS⟩, ⟨_, m_PREFIXES⟩, ⟨_, m_STATES⟩, ⟨_, m_POINTS⟩, ⟨_, m_CHOICES⟩, ⟨_, m_NODES⟩, ⟨_, m_TOLD⟩, ⟨_, m_COMPARED⟩, ⟨_, m_FAULTS⟩, ⟨_, m_LESSON⟩, n_repr, n_range, n_tuple, n_sorted, n_len, n_isinstance, n_list⟩ Fn__law_pen Fn__law_draw Fn__law_letters Fn__law_word Fn_word_order
end Toy

open PySem PySem.W PyProof.Rows in
set_option maxRecDepth 100000 in
set_option maxHeartbeats 0 in
theorem PySem.Challenge.cw_wordfit_k01_words_in_order_holds : PySem.Challenge.rw_wordfit_k01_words_in_order.Holds := by
  w_on; o_law; k_head; (case hw => w_witness2)
  k_fill
  refine Wf.walk_ofG (l := PySem.Challenge.rw_wordfit_k01_words_in_order) (CX := fun _ => L2.CX0) (x := "script") rfl (by decide) rfl (fun w h Y => PySem.W.km_in_of Y) ?F (fun _ _ _ _ _ z => z)
  case F =>
    intro w mg fa h Y KX G hmg
    refine' Toy.all_mk (Pt := 16) KX G hmg (PySem.W.km_tabs_of Y 16 (by decide)) ?a__law_pen ?l__law_pen ?c__law_pen ?k__law_pen ?a__law_draw ?l__law_draw ?c__law_draw ?k__law_draw ?a__law_pick ?l__law_pick ?c__law_pick ?k__law_pick ?a__law_shuffled ?l__law_shuffled ?c__law_shuffled ?k__law_shuffled ?a__law_letters ?l__law_letters ?c__law_letters ?k__law_letters ?a__law_word ?l__law_word ?c__law_word ?k__law_word ?a_word_order ?l_word_order ?c_word_order ?k_word_order ?a_law ?l_law ?c_law ?k_law ?i_LENGTH ?i_WORDS ?i_PREFIXES ?i_STATES ?i_POINTS ?i_CHOICES ?i_NODES ?i_TOLD ?i_COMPARED ?i_FAULTS ?i_LESSON ?z_repr ?z_range ?z_tuple ?z_sorted ?z_len ?z_isinstance ?z_list ?z_abs ?cH ?nT
    (case a__law_pen => k_is)
    (case l__law_pen => k_is)
    (case c__law_pen => k_is)
    (case k__law_pen => k_is)
    (case a__law_draw => k_is)
    (case l__law_draw => k_is)
    (case c__law_draw => k_is)
    (case k__law_draw => k_is)
    (case a__law_pick => k_is)
    (case l__law_pick => k_is)
    (case c__law_pick => k_is)
    (case k__law_pick => k_is)
    (case a__law_shuffled => k_is)
    (case l__law_shuffled => k_is)
    (case c__law_shuffled => k_is)
    (case k__law_shuffled => k_is)
    (case a__law_letters => k_is)
    (case l__law_letters => k_is)
    (case c__law_letters => k_is)
    (case k__law_letters => k_is)
    (case a__law_word => k_is)
    (case l__law_word => k_is)
    (case c__law_word => k_is)
    (case k__law_word => k_is)
    (case a_word_order => k_is)
    (case l_word_order => k_is)
    (case c_word_order => k_is)
    (case k_word_order => k_is)
    (case a_law => k_is)
    (case l_law => k_is)
    (case c_law => k_is)
    (case k_law => k_is)
    (case i_LENGTH => k_is)
    (case i_WORDS => k_is)
    (case i_PREFIXES => k_is)
    (case i_STATES => k_is)
    (case i_POINTS => k_is)
    (case i_CHOICES => k_is)
    (case i_NODES => k_is)
    (case i_TOLD => k_is)
    (case i_COMPARED => k_is)
    (case i_FAULTS => k_is)
    (case i_LESSON => k_is)
    (case z_repr => k_is)
    (case z_range => k_is)
    (case z_tuple => k_is)
    (case z_sorted => k_is)
    (case z_len => k_is)
    (case z_isinstance => k_is)
    (case z_list => k_is)
    (case z_abs => k_is)
    (case cH => kernel_rfl)
    (case nT => kernel_rfl)
#print axioms PySem.Challenge.cw_wordfit_k01_words_in_order_holds

