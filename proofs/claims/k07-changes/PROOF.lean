import PyProof.Rows.All
import Wide.All
import OpenK.AllK
import Wide.FinOn
import HandS.ForMost
import HandS.Walk
import HandS.Zip
import HandS.TupAny
import HandS.IsInst
import KE.SortData
import PyProof.ReprRoads
import HandS.Lambda
import HandS.TupLe
import HandS.Style
import HandS.RevTup
import HandS.Text
import HandS.Dict
import HandS.DictTup
import KE.KStrOpen
import PyProof.Ascii
import PyProof.StrLawsRepr
import KE.GoesEnum
import KE.GoesMore
import PyProof.EnumMake
import PyProof.Rows.ReprOcc
import HandS.TupMul
import KE.KExcSuper
import HandS.Exc
import HandS.ExcInit
import HandS.ExcOwn
import KE.KExcIs
import HandS.ExcField
import HandS.ExcIs
import HandS.EndTab
import KE.KNestM
import HandS.Conv
import PyProof.ListStr
import PyProof.PureStr
import HandS.SetFor
import HandS.Star
import HandS.Defaults
import PySem.Challenge.RW_cartknots_k07_floors_changed
set_option Elab.async false
set_option linter.all false
set_option maxRecDepth 100000
set_option maxHeartbeats 4000000
/-! DL1: the data layer over HandS: values as data (PyData), hidden addresses, own lists by slot, global dicts. -/
namespace DL
open PySem PySem.Spec PyProof.Rows L2
abbrev D := PyData
/-! ### heaps -/
def hide (H : Hp) (P : List Addr) : Hp := fun a => if a ∈ P then none else H a
theorem hide_in {H : Hp} {P : List Addr} {a : Addr} (h : a ∈ P) : hide H P a = none := if_pos h
theorem hide_out {H : Hp} {P : List Addr} {a : Addr} (h : a ∉ P) : hide H P a = H a := if_neg h
theorem hide_some {H : Hp} {P : List Addr} {a : Addr} {o : HO} (h : hide H P a = some o) : a ∉ P ∧ H a = some o := by
  by_cases q : a ∈ P
  · rw [hide_in q] at h; cases h
  · rw [hide_out q] at h; exact ⟨q, h⟩
theorem hide_sub {H : Hp} {P : List Addr} : Same (hide H P) H := fun a o h => (hide_some h).2
theorem hide_same {H H' : Hp} {P : List Addr} (h : Same H H') : Same (hide H P) (hide H' P) := fun a o q => by
  obtain ⟨q1, q2⟩ := hide_some q
  rw [hide_out q1]; exact h a o q2
theorem hide_less {H : Hp} {P P' : List Addr} (h : ∀ a ∈ P', a ∈ P) : Same (hide H P) (hide H P') := fun a o q => by
  obtain ⟨q1, q2⟩ := hide_some q
  rw [hide_out (fun z => q1 (h a z))]; exact q2
theorem hide_upd {H : Hp} {P : List Addr} {p : Addr} {o : HO} (h : p ∈ P) : hide (upd H p o) P = hide H P := by
  funext a
  unfold hide
  by_cases q : a ∈ P
  · rw [if_pos q, if_pos q]
  · rw [if_neg q, if_neg q, upd_ne (fun z => q (by rw [z]; exact h))]
theorem hide_new {H : Hp} {P : List Addr} {p : Addr} {o : HO} (h : H p = none) : hide (upd H p o) (p :: P) = hide H P := by
  funext a
  unfold hide
  by_cases e : a = p
  · subst e
    rw [if_pos List.mem_cons_self, h]
    split <;> rfl
  · by_cases q : a ∈ P
    · rw [if_pos q, if_pos (List.mem_cons_of_mem _ q)]
    · rw [if_neg q, if_neg (fun z => (List.mem_cons.mp z).elim e q), upd_ne e]
theorem same_upd {H : Hp} {p : Addr} {o : HO} (h : H p = none) : Same H (upd H p o) := fun b x e => by
  rw [upd_ne (ne_of_none e h)]; exact e
theorem Same.tup {K : PySem.W.Frag} {H H' : Hp} {a : Addr} {xs : List V} (e : Same H H') (h : SqT K H a xs) : SqT K H' a xs := by
  rcases h with (h | ⟨o, h⟩) | h
  · exact .inl (.inl (e _ _ h))
  · exact .inl (.inr ⟨o, e _ _ h⟩)
  · exact .inr h
/-! ### data in a heap -/
mutual
inductive Rp (H : Hp) : V → D → Prop
  | non : Rp H .non .none
  | bl (b : Bool) : Rp H (.bl b) (.bool b)
  | int (i : Int) : Rp H (.int i) (.int i)
  | str (x : Str) : Rp H (.str x) (.str x)
  | lst {a : Addr} {xs : List V} {ds : List D} : H a = some (.lst xs) → RpAll H xs ds → Rp H (.ref a) (.list ds)
  | tup {a : Addr} {xs : List V} {ds : List D} : H a = some (.tup xs) → RpAll H xs ds → Rp H (.ref a) (.tuple ds)
inductive RpAll (H : Hp) : List V → List D → Prop
  | nil : RpAll H [] []
  | cons {v : V} {vs : List V} {d : D} {ds : List D} : Rp H v d → RpAll H vs ds → RpAll H (v :: vs) (d :: ds)
end
mutual
theorem Rp.mono {H H' : Hp} (s : Same H H') : ∀ {v : V} {d : D}, Rp H v d → Rp H' v d
  | _, _, .non => .non
  | _, _, .bl b => .bl b
  | _, _, .int i => .int i
  | _, _, .str x => .str x
  | _, _, .lst h r => .lst (s _ _ h) (RpAll.mono s r)
  | _, _, .tup h r => .tup (s _ _ h) (RpAll.mono s r)
theorem RpAll.mono {H H' : Hp} (s : Same H H') : ∀ {v : List V} {d : List D}, RpAll H v d → RpAll H' v d
  | _, _, .nil => .nil
  | _, _, .cons h r => .cons (Rp.mono s h) (RpAll.mono s r)
end
mutual
theorem Rp.dp {K : PySem.W.Frag} {H : Hp} : ∀ {v : V} {d : D}, Rp H v d → Dp K H v d
  | _, _, .non => .non
  | _, _, .bl b => .bl b
  | _, _, .int i => .int i
  | _, _, .str x => .str x
  | _, _, .lst h r => .lst (SqL.of h) (RpAll.dp r)
  | _, _, .tup h r => .tup (SqT.of h) (RpAll.dp r)
theorem RpAll.dp {K : PySem.W.Frag} {H : Hp} : ∀ {v : List V} {d : List D}, RpAll H v d → DpAll K H v d
  | _, _, .nil => .nil
  | _, _, .cons h r => .cons (Rp.dp h) (RpAll.dp r)
end
theorem RpAll.len {H : Hp} : ∀ {vs : List V} {ds : List D}, RpAll H vs ds → vs.length = ds.length
  | _, _, .nil => rfl
  | _, _, .cons _ r => by rw [List.length_cons, List.length_cons, RpAll.len r]
theorem RpAll.get {H : Hp} : ∀ {vs : List V} {ds : List D} {i : Nat} {v : V}, RpAll H vs ds → vs[i]? = some v → ∃ d, ds[i]? = some d ∧ Rp H v d
  | _, _, _, _, .nil, e => by simp at e
  | _, _, 0, _, .cons h _, e => by simp at e; subst e; exact ⟨_, rfl, h⟩
  | _, _, i + 1, _, .cons _ r, e => by
    obtain ⟨d, e1, e2⟩ := RpAll.get (i := i) r (by simpa using e)
    exact ⟨d, by simpa using e1, e2⟩
theorem RpAll.get' {H : Hp} : ∀ {vs : List V} {ds : List D} {i : Nat} {d : D}, RpAll H vs ds → ds[i]? = some d → ∃ v, vs[i]? = some v ∧ Rp H v d
  | _, _, _, _, .nil, e => by simp at e
  | _, _, 0, _, .cons h _, e => by simp at e; subst e; exact ⟨_, rfl, h⟩
  | _, _, i + 1, _, .cons _ r, e => by
    obtain ⟨d, e1, e2⟩ := RpAll.get' (i := i) r (by simpa using e)
    exact ⟨d, by simpa using e1, e2⟩
theorem RpAll.append {H : Hp} : ∀ {vs ws : List V} {ds es : List D}, RpAll H vs ds → RpAll H ws es → RpAll H (vs ++ ws) (ds ++ es)
  | _, _, _, _, .nil, s => s
  | _, _, _, _, .cons h r, s => .cons h (RpAll.append r s)
theorem RpAll.drop {H : Hp} : ∀ {vs : List V} {ds : List D} (n : Nat), RpAll H vs ds → RpAll H (vs.drop n) (ds.drop n)
  | _, _, 0, r => r
  | _, _, _ + 1, .nil => .nil
  | _, _, n + 1, .cons _ r => RpAll.drop n r
theorem RpAll.take {H : Hp} : ∀ {vs : List V} {ds : List D} (n : Nat), RpAll H vs ds → RpAll H (vs.take n) (ds.take n)
  | _, _, 0, _ => .nil
  | _, _, _ + 1, .nil => .nil
  | _, _, n + 1, .cons h r => .cons h (RpAll.take n r)
theorem RpAll.reverse {H : Hp} : ∀ {vs : List V} {ds : List D}, RpAll H vs ds → RpAll H vs.reverse ds.reverse
  | _, _, .nil => .nil
  | _, _, .cons h r => by
    rw [List.reverse_cons, List.reverse_cons]
    exact RpAll.append (RpAll.reverse r) (.cons h .nil)
theorem RpAll.set {H : Hp} {v : V} {d : D} (q : Rp H v d) : ∀ {vs : List V} {ds : List D} (i : Nat), RpAll H vs ds → RpAll H (vs.set i v) (ds.set i d)
  | _, _, _, .nil => .nil
  | _, _, 0, .cons _ r => .cons q r
  | _, _, i + 1, .cons h r => .cons h (RpAll.set q i r)
theorem RpAll.ints {H : Hp} : ∀ ns : List Int, RpAll H (ns.map V.int) (ns.map .int)
  | [] => .nil
  | n :: r => .cons (.int n) (RpAll.ints r)
theorem Rp.int_inv {H : Hp} {v : V} {i : Int} (h : Rp H v (.int i)) : v = .int i := by cases h; rfl
theorem Rp.bl_inv {H : Hp} {v : V} {i : Bool} (h : Rp H v (.bool i)) : v = .bl i := by cases h; rfl
theorem Rp.str_inv {H : Hp} {v : V} {i : Str} (h : Rp H v (.str i)) : v = .str i := by cases h; rfl
theorem Rp.non_inv {H : Hp} {v : V} (h : Rp H v .none) : v = .non := by cases h; rfl
theorem Rp.lst_inv {H : Hp} {v : V} {ds : List D} (h : Rp H v (.list ds)) : ∃ a xs, v = .ref a ∧ H a = some (.lst xs) ∧ RpAll H xs ds := by cases h with | lst h r => exact ⟨_, _, rfl, h, r⟩
theorem Rp.tup_inv {H : Hp} {v : V} {ds : List D} (h : Rp H v (.tuple ds)) : ∃ a xs, v = .ref a ∧ H a = some (.tup xs) ∧ RpAll H xs ds := by cases h with | tup h r => exact ⟨_, _, rfl, h, r⟩
theorem Rp.dict_no {H : Hp} {v : V} {kvs : List (D × D)} (h : Rp H v (.dict kvs)) : False := by cases h
/-! ### tables of code objects -/
theorem lst_no_code {xs : List V} : ∀ c q, (HO.lst xs) ≠ LamX.CodeO c q := fun c q z => by
  unfold LamX.CodeO at z
  cases z
theorem dK_no_code {xs : List (Key × V)} : ∀ c q, (HO.dK xs) ≠ LamX.CodeO c q := fun c q z => by
  unfold LamX.CodeO at z
  cases z
/-- a store to an object that is neither the table nor a code object -/
theorem tabS_upd {H : Hp} {a p : Addr} {q : Str} {o u : HO} (t : LamX.TabS H a q) (hne : a ≠ p) (e : H p = some o) (hno : ∀ c q, o ≠ LamX.CodeO c q) : LamX.TabS (upd H p u) a q := by
  obtain ⟨ps, h1, h2, h3⟩ := t
  refine ⟨ps, by rw [upd_ne hne]; exact h1, h2, fun pos cv hc => ?_⟩
  obtain ⟨c, e1, e2⟩ := h3 pos cv hc
  refine ⟨c, e1, ?_⟩
  have : c ≠ p := fun z => by
    rw [z, e] at e2
    exact hno _ _ (Option.some.inj e2)
  rw [upd_ne this]
  exact e2
/-! ### slots, globals, the invariant -/
/-- what a slot holds: data; a list that this frame alone owns; the n-th global object; the script -/
inductive SV where
  | d (x : D)
  | own (xs : List D)
  | g (n : Nat)
  | scr (ns : List Int)
  | adr (a : Addr)
  | exc (a dd : Addr) (fs : List (Str × D))
/-- a global object -/
inductive GO where
  | dict (kvs : List (Key × D))
  | tab (P : Addr) (q : Str)
abbrev GS := List GO
abbrev DEnv := List (Option SV)
def GRel (P : List Addr) (H : Hp) : Addr → GO → Prop
  | a, .dict kvs => ∃ ks, H a = some (.dK ks) ∧ Paired (fun (p : Key × V) (q : Key × D) => p.1 = q.1 ∧ Rp (hide H P) p.2 q.2) ks kvs
  | a, .tab b q => a = b ∧ LamX.TabS H a q
/-- a frame's constants: the written part, the global objects' addresses, the heap at the entry, what the callers hide -/
structure Fx where
  K : PySem.W.Frag
  ga : List Addr
  H0 : Hp
  P0 : List Addr
  p0 : ∀ a ∈ P0, ∃ o, H0 a = some o
structure HInv (F : Fx) (P : List Addr) (G : GS) (H : Hp) : Prop where
  fr : ∀ a o, F.H0 a = some o → a ∉ F.ga → H a = some o
  pd : ∀ a ∈ P, ∃ o, H a = some o
  sub : ∀ a ∈ F.P0, a ∈ P
  gp : ∀ a ∈ F.ga, a ∈ P
  g0 : ∀ a ∈ F.ga, ∃ o, F.H0 a = some o
  gn : F.ga.Nodup
  gl : Paired (GRel P H) F.ga G
/-- an exception at a, its own dict at dd -/
def XcR (Hh : Hp) (a dd : Addr) (fs : List (Str × D)) (v : V) : Prop := v = .ref a ∧ ∃ vs, Hh dd = some (.xd vs) ∧ Paired (fun (p : Str × V) (q : Str × D) => p.1 = q.1 ∧ Rp Hh p.2 q.2) vs fs
theorem XcR.mono {H H' : Hp} {a dd : Addr} {fs : List (Str × D)} {v : V} (s : Same H H') (h : XcR H a dd fs v) : XcR H' a dd fs v := ⟨h.1, let ⟨vs, e, r⟩ := h.2; ⟨vs, s _ _ e, Paired.mapP r fun _ _ ⟨x, y⟩ => ⟨x, Rp.mono s y⟩⟩⟩
def SRel (F : Fx) (P : List Addr) (H : Hp) : SV → V → Prop
  | .exc a dd fs, v => XcR (hide H P) a dd fs v
  | .adr a, v => v = .ref a
  | .d x, v => Rp (hide H P) v x
  | .own xs, v => ∃ p vs, v = .ref p ∧ p ∈ P ∧ F.H0 p = none ∧ H p = some (.lst vs) ∧ RpAll (hide H P) vs xs
  | .g n, v => ∃ a, F.ga[n]? = some a ∧ v = .ref a
  | .scr ns, v => ∃ a, v = .ref a ∧ SqL F.K (hide H P) a (ns.map V.int)
structure DInv (F : Fx) (P : List Addr) (env : DEnv) (G : GS) (σ : L2.St) (H : Hp) : Prop where
  h : HInv F P G H
  len : σ.length = env.length
  sl : ∀ (i : Nat) (sv : SV), env[i]? = some (some sv) → ∃ v, σ[i]? = some (some v) ∧ SRel F P H sv v
  dj : ∀ (i j : Nat) (xs ys : List D) (v w : V), i ≠ j → env[i]? = some (some (.own xs)) → env[j]? = some (some (.own ys)) → σ[i]? = some (some v) → σ[j]? = some (some w) → v ≠ w
/-- a value of an expression -/
def VRel (F : Fx) (P : List Addr) (H : Hp) : SV → V → Prop
  | .exc a dd fs, v => XcR (hide H P) a dd fs v
  | .adr a, v => v = .ref a
  | .d x, v => Rp (hide H P) v x
  | .own _, _ => False
  | .g n, v => ∃ a, F.ga[n]? = some a ∧ v = .ref a
  | .scr ns, v => ∃ a, v = .ref a ∧ SqL F.K (hide H P) a (ns.map V.int)
section
variable {F : Fx} {P P' : List Addr} {env : DEnv} {G G' : GS} {σ : L2.St} {H H' : Hp}
theorem VRel.srel : ∀ {x : SV} {v : V}, VRel F P H x v → SRel F P H x v
  | .exc _ _ _, _, h => h
  | .d _, _, h => h
  | .own _, _, h => h.elim
  | .g _, _, h => h
  | .scr _, _, h => h
  | .adr _, _, h => h
theorem VRel.mono (s : Same (hide H P) (hide H' P')) : ∀ {x : SV} {v : V}, VRel F P H x v → VRel F P' H' x v
  | .exc _ _ _, _, h => XcR.mono s h
  | .d _, _, h => Rp.mono s h
  | .own _, _, h => h.elim
  | .g _, _, h => h
  | .scr _, _, ⟨a, e, q⟩ => ⟨a, e, Same.seq s q⟩
  | .adr _, _, h => h
theorem GRel.ext (s : Same H H') : ∀ {a : Addr} {o : GO}, GRel P H a o → GRel P H' a o
  | _, .tab _ _, ⟨e, q⟩ => ⟨e, q.ext fun b o h => s b o h⟩
  | _, .dict _, ⟨ks, e, r⟩ => ⟨ks, s _ _ e, Paired.mapP r fun _ _ ⟨q1, q2⟩ => ⟨q1, Rp.mono (hide_same s) q2⟩⟩
/-- more objects -/
theorem HInv.ext (h : HInv F P G H) (s : Same H H') : HInv F P G H' :=
  ⟨fun a o e n => s _ _ (h.fr a o e n), fun a m => let ⟨o, e⟩ := h.pd a m; ⟨o, s _ _ e⟩, h.sub, h.gp, h.g0, h.gn, Paired.mapP h.gl fun _ _ q => GRel.ext s q⟩
theorem SRel.ext (s : Same H H') : ∀ {x : SV} {v : V}, SRel F P H x v → SRel F P H' x v
  | .exc _ _ _, _, h => XcR.mono (hide_same s) h
  | .d _, _, h => Rp.mono (hide_same s) h
  | .own _, _, ⟨p, vs, e, m, n, q, r⟩ => ⟨p, vs, e, m, n, s _ _ q, RpAll.mono (hide_same s) r⟩
  | .g _, _, h => h
  | .scr _, _, ⟨a, e, q⟩ => ⟨a, e, Same.seq (hide_same s) q⟩
  | .adr _, _, h => h
theorem DInv.ext (I : DInv F P env G σ H) (s : Same H H') : DInv F P env G σ H' :=
  ⟨I.h.ext s, I.len, fun i sv e => let ⟨v, e1, r⟩ := I.sl i sv e; ⟨v, e1, r.ext s⟩, I.dj⟩
theorem HInv.notP (h : HInv F P G H) {p : Addr} (e : H p = none) : p ∉ P := fun m => by
  obtain ⟨o, q⟩ := h.pd p m
  rw [e] at q; cases q
theorem HInv.hideNew (h : HInv F P G H) {p : Addr} {o : HO} (e : H p = none) : hide (upd H p o) P p = some o := by
  rw [hide_out (h.notP e), upd_same]
theorem HInv.H0new (h : HInv F P G H) {p : Addr} (e : H p = none) : F.H0 p = none := by
  cases q : F.H0 p with
  | none => rfl
  | some o =>
    by_cases m : p ∈ F.ga
    · obtain ⟨o', e'⟩ := h.pd p (h.gp p m)
      rw [e] at e'; cases e'
    · have := h.fr p o q m
      rw [e] at this; cases this
theorem HInv.notGa (h : HInv F P G H) {p : Addr} (e : F.H0 p = none) : p ∉ F.ga := fun m => by
  obtain ⟨o, q⟩ := h.g0 p m
  rw [e] at q; cases q
/-- a store into a slot of a value -/
theorem DInv.store (I : DInv F P env G σ H) {x : SV} {v : V} (r : VRel F P H x v) (i : Nat) : DInv F P (env.set i (some x)) G (σ.set i (some v)) H := by
  refine ⟨I.h, by rw [List.length_set, List.length_set]; exact I.len, fun j sv e => ?_, fun j k xs ys w u hjk e1 e2 e3 e4 => ?_⟩
  · by_cases hj : i = j
    · subst hj
      have hlt : i < env.length := by
        have := (List.getElem?_eq_some_iff.mp e).1
        rwa [List.length_set] at this
      rw [List.getElem?_set_self hlt] at e
      cases e
      exact ⟨v, List.getElem?_set_self (by rw [I.len]; exact hlt), r.srel⟩
    · rw [List.getElem?_set_ne hj] at e ⊢
      exact I.sl j sv e
  · have own_ne : ∀ {m : Nat} {zs : List D}, (env.set i (some x))[m]? = some (some (.own zs)) → i ≠ m ∧ env[m]? = some (some (.own zs)) := by
      intro m zs e
      by_cases hm : i = m
      · subst hm
        have hlt : i < env.length := by
          have := (List.getElem?_eq_some_iff.mp e).1
          rwa [List.length_set] at this
        rw [List.getElem?_set_self hlt] at e
        cases e
        exact (show False from r).elim
      · rw [List.getElem?_set_ne hm] at e
        exact ⟨hm, e⟩
    obtain ⟨n1, e1⟩ := own_ne e1
    obtain ⟨n2, e2⟩ := own_ne e2
    rw [List.getElem?_set_ne n1] at e3
    rw [List.getElem?_set_ne n2] at e4
    exact I.dj j k xs ys w u hjk e1 e2 e3 e4
/-- forgetting slots -/
def wipeD (env : DEnv) : List Nat → DEnv
  | [] => env
  | v :: vs => (wipeD env vs).set v none
theorem wipeD_some {env : DEnv} {i : Nat} {x : SV} : ∀ {vs : List Nat}, (wipeD env vs)[i]? = some (some x) → env[i]? = some (some x) ∧ i ∉ vs
  | [], h => ⟨h, by simp⟩
  | v :: vs, h => by
    unfold wipeD at h
    by_cases hi : v = i
    · subst hi
      by_cases hv : v < (wipeD env vs).length
      · rw [List.getElem?_set_self hv] at h; cases h
      · rw [List.getElem?_eq_none (by simpa using hv)] at h; cases h
    · rw [List.getElem?_set_ne hi] at h
      obtain ⟨h1, h2⟩ := wipeD_some h
      exact ⟨h1, by simp only [List.mem_cons, not_or]; exact ⟨fun e => hi e.symm, h2⟩⟩
theorem wipe_get {σ : L2.St} {i : Nat} : ∀ {vs : List Nat}, i ∉ vs → (wipe σ vs)[i]? = σ[i]?
  | [], _ => rfl
  | v :: vs, h => by
    unfold wipe
    rw [List.getElem?_set_ne (fun e => h (by simp [e]))]
    exact wipe_get fun m => h (List.mem_cons_of_mem _ m)
theorem wipeD_length (env : DEnv) : ∀ vs : List Nat, (wipeD env vs).length = env.length
  | [] => rfl
  | v :: vs => by unfold wipeD; rw [List.length_set, wipeD_length env vs]
theorem DInv.wipe (I : DInv F P env G σ H) (vs : List Nat) : DInv F P (wipeD env vs) G (L2.wipe σ vs) H := by
  refine ⟨I.h, by rw [L2.wipe_length, wipeD_length, I.len], fun i sv e => ?_, fun i j xs ys v w hij e1 e2 e3 e4 => ?_⟩
  · obtain ⟨e1, n⟩ := wipeD_some e
    rw [wipe_get n]
    exact I.sl i sv e1
  · obtain ⟨f1, n1⟩ := wipeD_some e1
    obtain ⟨f2, n2⟩ := wipeD_some e2
    rw [wipe_get n1] at e3
    rw [wipe_get n2] at e4
    exact I.dj i j xs ys v w hij f1 f2 e3 e4
/-- one more address hidden that no data holds: a new list -/
theorem DInv.hideOne (I : DInv F P env G σ H) {p : Addr} {vs : List V} (e : H p = none) : DInv F (p :: P) env G σ (upd H p (.lst vs)) := by
  have s : Same H (upd H p (.lst vs)) := same_upd e
  have eh : hide (upd H p (.lst vs)) (p :: P) = hide H P := hide_new e
  have np := I.h.notP e
  refine ⟨⟨fun a o q n => s _ _ (I.h.fr a o q n), fun a m => ?_, fun a m => List.mem_cons_of_mem _ (I.h.sub a m), fun a m => List.mem_cons_of_mem _ (I.h.gp a m), I.h.g0, I.h.gn, Paired.mapP I.h.gl fun a o q => ?_⟩, I.len, fun i sv q => ?_, I.dj⟩
  · rcases List.mem_cons.mp m with z | z
    · subst z; exact ⟨_, upd_same⟩
    · obtain ⟨o, q⟩ := I.h.pd a z; exact ⟨o, s _ _ q⟩
  · cases o with
    | dict kvs =>
      obtain ⟨ks, e1, r⟩ := q
      exact ⟨ks, s _ _ e1, by rw [eh]; exact r⟩
    | tab b q' => exact ⟨q.1, q.2.ext fun b o h => s b o h⟩
  · obtain ⟨v, e1, r⟩ := I.sl i sv q
    refine ⟨v, e1, ?_⟩
    cases sv with
    | d x => show Rp (hide (upd H p (.lst vs)) (p :: P)) v x; rw [eh]; exact r
    | own xs =>
      obtain ⟨q1, ws, h1, h2, h3, h4, h5⟩ := r
      exact ⟨q1, ws, h1, List.mem_cons_of_mem _ h2, h3, s _ _ h4, by rw [eh]; exact h5⟩
    | g n => exact r
    | scr ns =>
      obtain ⟨a, h1, h2⟩ := r
      exact ⟨a, h1, by rw [eh]; exact h2⟩
    | adr a => exact r
    | exc a dd fs => show XcR _ a dd fs v; rw [eh]; exact r
/-- .. written -/
theorem DInv.updHid (I : DInv F P env G σ H) {p : Addr} {ws vs : List V} (hp : p ∈ P) (n : F.H0 p = none) (e : H p = some (.lst ws)) (no : ∀ (i : Nat) (xs : List D), env[i]? = some (some (.own xs)) → σ[i]? ≠ some (some (.ref p))) : DInv F P env G σ (upd H p (.lst vs)) := by
  have eh : hide (upd H p (.lst vs)) P = hide H P := hide_upd hp
  have npg := I.h.notGa n
  refine ⟨⟨fun a o q m => ?_, fun a m => ?_, I.h.sub, I.h.gp, I.h.g0, I.h.gn, ?_⟩, I.len, fun i sv q => ?_, I.dj⟩
  · have : a ≠ p := fun z => by subst z; rw [n] at q; cases q
    rw [upd_ne this]; exact I.h.fr a o q m
  · by_cases z : a = p
    · subst z; exact ⟨_, upd_same⟩
    · rw [upd_ne z]; exact I.h.pd a m
  · have all : ∀ {as : List Addr} {gs : List GO}, (∀ a ∈ as, a ∈ F.ga) → Paired (GRel P H) as gs → Paired (GRel P (upd H p (.lst vs))) as gs := by
      intro as gs hs r
      induction r with
      | nil => exact .nil
      | cons q r ih =>
        refine .cons ?_ (ih fun a m => hs a (List.mem_cons_of_mem _ m))
        rename_i a o _ _
        have hne : a ≠ p := fun z => by subst z; exact npg (hs _ List.mem_cons_self)
        cases o with
        | dict kvs =>
          obtain ⟨ks, e1, r1⟩ := q
          exact ⟨ks, by rw [upd_ne hne]; exact e1, by rw [eh]; exact r1⟩
        | tab b q' => exact ⟨q.1, tabS_upd q.2 hne e lst_no_code⟩
    exact all (fun _ m => m) I.h.gl
  · obtain ⟨v, e1, r⟩ := I.sl i sv q
    refine ⟨v, e1, ?_⟩
    cases sv with
    | d x => show Rp (hide (upd H p (.lst vs)) P) v x; rw [eh]; exact r
    | own xs =>
      obtain ⟨q1, us, h1, h2, h3, h4, h5⟩ := r
      have hne : q1 ≠ p := fun z => by
        subst z
        exact no i xs q (by rw [e1, h1])
      exact ⟨q1, us, h1, h2, h3, by rw [upd_ne hne]; exact h4, by rw [eh]; exact h5⟩
    | g n => exact r
    | scr ns =>
      obtain ⟨a, h1, h2⟩ := r
      exact ⟨a, h1, by rw [eh]; exact h2⟩
    | adr a => exact r
    | exc a dd fs => show XcR _ a dd fs v; rw [eh]; exact r
end
/-- all objects but the global ones stand as they stood -/
def Kp (F : Fx) (H H' : Hp) : Prop := ∀ a o, H a = some o → a ∉ F.ga → H' a = some o
theorem Kp.refl {F : Fx} (H : Hp) : Kp F H H := fun _ _ h _ => h
theorem Kp.trans {F : Fx} {H H1 H2 : Hp} (a : Kp F H H1) (b : Kp F H1 H2) : Kp F H H2 := fun c o h n => b c o (a c o h n) n
theorem Kp.of {F : Fx} {H H' : Hp} (s : Same H H') : Kp F H H' := fun a o h _ => s a o h
theorem HInv.sm {F : Fx} {P : List Addr} {G : GS} {H0 H H' : Hp} (I : HInv F P G H0) (k : Kp F H H') : Same (hide H P) (hide H' P) := fun a o q => by
  obtain ⟨n, q⟩ := hide_some q
  rw [hide_out n]
  exact k a o q fun m => n (I.gp a m)
theorem DInv.sm {F : Fx} {P : List Addr} {env : DEnv} {G : GS} {σ : L2.St} {H0 H H' : Hp} (I : DInv F P env G σ H0) (k : Kp F H H') : Same (hide H P) (hide H' P) := I.h.sm k
end DL

set_option maxRecDepth 100000
set_option maxHeartbeats 4000000
/-! DL2: what is read of expressions, tests, argument lists, at the level of data. -/
namespace DL
open PySem PySem.Spec PyProof.Rows L2
abbrev TDE := DEnv → GS → (SV → GS → Prop) → Prop
abbrev TDT := DEnv → GS → (Bool → GS → Prop) → Prop
abbrev TDA := DEnv → GS → (List SV → GS → Prop) → Prop
def lE (F : Fx) (t : TDE) : TE := fun σ H Q => ∃ P env G Qd, DInv F P env G σ H ∧ t env G Qd ∧ ∀ v H' x G', DInv F P env G' σ H' → Kp F H H' → VRel F P H' x v → Qd x G' → Q v H'
def lT (F : Fx) (t : TDT) : TT := fun σ H Q => ∃ P env G Qd, DInv F P env G σ H ∧ t env G Qd ∧ ∀ b H' G', DInv F P env G' σ H' → Kp F H H' → Qd b G' → Q b H'
def lA (F : Fx) (t : TDA) : TA := fun σ H Q => ∃ P env G Qd, DInv F P env G σ H ∧ t env G Qd ∧ ∀ vs H' xs G', DInv F P env G' σ H' → Kp F H H' → Paired (VRel F P H') xs vs → Qd xs G' → Q vs H'
abbrev DE (X : Cx) (F : Fx) (e : Expr) (t : TDE) : Prop := PE X e (lE F t)
abbrev DT (X : Cx) (F : Fx) (e : Expr) (t : TDT) : Prop := PT X e (lT F t)
abbrev DA (X : Cx) (F : Fx) (es : List Expr) (t : TDA) : Prop := PA X es (lA F t)
theorem PE.imp {X : Cx} {e : Expr} {t t' : TE} (h : PE X e t) (i : ∀ σ H Q, t' σ H Q → t σ H Q) : PE X e t' := ⟨fun pins s σ H Q I q => h.run pins s σ H Q I (i σ H Q q)⟩
theorem PT.imp {X : Cx} {e : Expr} {t t' : TT} (h : PT X e t) (i : ∀ σ H Q, t' σ H Q → t σ H Q) : PT X e t' := ⟨fun pins s σ H Q I q => h.run pins s σ H Q I (i σ H Q q)⟩
theorem PW.imp {X : Cx} {e : Expr} {t t' : TT} (h : PW X e t) (i : ∀ σ H Q, t' σ H Q → t σ H Q) : PW X e t' := ⟨fun wh pins s σ H Q I q => h.run wh pins s σ H Q I (i σ H Q q)⟩
theorem PA.imp {X : Cx} {e : List Expr} {t t' : TA} (h : PA X e t) (i : ∀ σ H Q, t' σ H Q → t σ H Q) : PA X e t' := ⟨fun pos pins s σ H Q I q => h.run pos pins s σ H Q I (i σ H Q q)⟩
theorem PS.imp {X : Cx} {e : Stmt} {t t' : TS} (h : PS X e t) (i : ∀ σ H Q, t' Q σ H → t Q σ H) : PS X e t' := ⟨fun pins s σ H Q I q => h.run pins s σ H Q I (i σ H Q q)⟩
theorem PSs.imp {X : Cx} {e : List Stmt} {t t' : TS} (h : PSs X e t) (i : ∀ σ H Q, t' Q σ H → t Q σ H) : PSs X e t' := ⟨fun pins s σ H Q I q => h.run pins s σ H Q I (i σ H Q q)⟩
/-! ### values that are data -/
def asD : SV → (D → Prop) → Prop
  | .d x, k => k x
  | _, _ => False
def asB : SV → (Bool → Prop) → Prop
  | .d (.bool b), k => k b
  | _, _ => False
def asI : D → (Int → Prop) → Prop
  | .int i, k => k i
  | _, _ => False
def asS : D → (Str → Prop) → Prop
  | .str i, k => k i
  | _, _ => False
def allD : List SV → Option (List D)
  | [] => some []
  | .d x :: r => (allD r).map (x :: ·)
  | _ :: _ => none
def asAll (xs : List SV) (k : List D → Prop) : Prop := match allD xs with
  | some ds => k ds
  | none => False
@[simp] theorem asD_d {x : D} {k : D → Prop} : asD (.d x) k = k x := rfl
@[simp] theorem asB_d {x : Bool} {k : Bool → Prop} : asB (.d (.bool x)) k = k x := rfl
@[simp] theorem asI_d {x : Int} {k : Int → Prop} : asI (.int x) k = k x := rfl
@[simp] theorem asS_d {x : Str} {k : Str → Prop} : asS (.str x) k = k x := rfl
theorem asD_inv {x : SV} {k : D → Prop} (h : asD x k) : ∃ d, x = .d d ∧ k d := by
  cases x with
  | d x => exact ⟨x, rfl, h⟩
  | _ => exact (show False from h).elim
theorem asB_inv {x : SV} {k : Bool → Prop} (h : asB x k) : ∃ b, x = .d (.bool b) ∧ k b := by
  cases x with
  | d x =>
    cases x with
    | bool b => exact ⟨b, rfl, h⟩
    | _ => exact (show False from h).elim
  | _ => exact (show False from h).elim
theorem asI_inv {x : D} {k : Int → Prop} (h : asI x k) : ∃ i, x = .int i ∧ k i := by
  cases x with
  | int b => exact ⟨b, rfl, h⟩
  | _ => exact (show False from h).elim
theorem asS_inv {x : D} {k : Str → Prop} (h : asS x k) : ∃ i, x = .str i ∧ k i := by
  cases x with
  | str b => exact ⟨b, rfl, h⟩
  | _ => exact (show False from h).elim
theorem allD_some : ∀ {xs : List SV} {ds : List D}, allD xs = some ds → xs = ds.map SV.d
  | [], ds, h => by cases h; rfl
  | .d x :: r, ds, h => by
    obtain ⟨rs, e, q⟩ := Option.map_eq_some_iff.mp h
    subst q
    rw [allD_some e]; rfl
  | .own _ :: _, _, h => by cases h
  | .g _ :: _, _, h => by cases h
  | .scr _ :: _, _, h => by cases h
theorem asAll_inv {xs : List SV} {k : List D → Prop} (h : asAll xs k) : ∃ ds, xs = ds.map SV.d ∧ k ds := by
  unfold asAll at h
  split at h
  · rename_i ds e; exact ⟨ds, allD_some e, h⟩
  · exact h.elim
theorem rpAll_of {F : Fx} {P : List Addr} {H : Hp} : ∀ {ds : List D} {vs : List V}, Paired (VRel F P H) (ds.map SV.d) vs → RpAll (hide H P) vs ds
  | [], _, h => by cases h; exact .nil
  | d :: ds, _, h => by
    cases h with
    | cons a b => exact .cons a (rpAll_of b)
/-! ### names, constants -/
def look : DEnv → Nat → Option SV
  | [], _ => none
  | x :: _, 0 => x
  | _ :: r, i + 1 => look r i
theorem look_some : ∀ {env : DEnv} {i : Nat} {sv : SV}, look env i = some sv → env[i]? = some (some sv)
  | [], _, _, h => by cases h
  | x :: r, 0, sv, h => by
    have h' : x = some sv := h
    rw [h']; rfl
  | x :: r, i + 1, sv, h => by
    have h' : look r i = some sv := h
    rw [List.getElem?_cons_succ]; exact look_some h'
def useV (o : Option SV) (k : SV → Prop) : Prop := match o with
  | some (.own _) => False
  | some x => k x
  | none => False
theorem useV_inv {o : Option SV} {k : SV → Prop} (h : useV o k) : ∃ x, o = some x ∧ (∀ xs, x ≠ .own xs) ∧ k x := by
  cases o with
  | none => exact h.elim
  | some x =>
    cases x with
    | own xs => exact h.elim
    | d x => exact ⟨_, rfl, (fun _ z => nomatch z), h⟩
    | g x => exact ⟨_, rfl, (fun _ z => nomatch z), h⟩
    | scr x => exact ⟨_, rfl, (fun _ z => nomatch z), h⟩
    | adr x => exact ⟨_, rfl, (fun _ z => nomatch z), h⟩
    | exc x y z => exact ⟨_, rfl, (fun _ z => nomatch z), h⟩
def tdVar (i : Nat) : TDE := fun env G Q => useV (look env i) fun x => Q x G
def tdC (x : D) : TDE := fun _ G Q => Q (.d x) G
section
variable {X : Cx} {F : Fx} {a b c e : Expr} {es : List Expr} {ta tb tc t : TDE} {pos : Pos}
theorem vrel_of {P : List Addr} {H : Hp} {v : V} : ∀ {x : SV}, (∀ xs, x ≠ .own xs) → SRel F P H x v → VRel F P H x v
  | .d _, _, h => h
  | .own xs, n, _ => (n xs rfl).elim
  | .g _, _, h => h
  | .scr _, _, h => h
  | .adr _, _, h => h
  | .exc _ _ _, _, h => h
theorem de_var (i : Nat) {x : Str} (hN : X.N[i]? = some x := by rfl) (hv : Vis X.env.scope x := by first | exact Or.inl rfl | exact Or.inr (Or.inl rfl) | exact Or.inr (Or.inr rfl)) (hd : (x == ("__debug__" : Str)) = false := by decide)
    (hcd : (x == ("__classdict__" : Str)) = false := by decide) : DE X F (.Name x pos) (tdVar i) := by
  refine PE.imp (pe_var hN hv hd hcd) fun σ H Q h => ?_
  obtain ⟨P, env, G, Qd, I, h, k⟩ := h
  obtain ⟨sv, e, n, h⟩ := useV_inv h
  obtain ⟨v, e1, r⟩ := I.sl i sv (look_some e)
  exact ⟨v, e1, k v H sv G I (Kp.refl _) (vrel_of n r) h⟩
theorem de_const {x : V} {d : D} (h : PE X e (tC x)) (r : ∀ H, Rp H x d) : DE X F e (tdC d) :=
  PE.imp h fun σ H Q ⟨P, env, G, Qd, I, h, k⟩ => k x H (.d d) G I (Kp.refl _) (r _) h
theorem de_int {i j pos} : DE X F (.Constant (.int i) j pos) (tdC (.int i)) := de_const pe_int fun _ => .int i
theorem de_bl {i j pos} : DE X F (.Constant (.bool i) j pos) (tdC (.bool i)) := de_const pe_bl fun _ => .bl i
theorem de_str {i j pos} : DE X F (.Constant (.str i) j pos) (tdC (.str i)) := de_const pe_str fun _ => .str i
theorem de_non {j pos} : DE X F (.Constant .none j pos) (tdC .none) := de_const pe_non fun _ => .non
/-- a module's constant -/
theorem de_globI {x : Str} {i : Int} {tk : Tok} (hm : X.mg x = some (.int i tk)) (hg : Gl X x := by rfl) (hd : (x == ("__debug__" : Str)) = false := by decide) : DE X F (.Name x pos) (tdC (.int i)) := de_const (pe_glob (v := .int i) hg hm ⟨_, rfl⟩ hd) fun _ => .int i
theorem de_globS {x : Str} {i : Str} {tk : Tok} (hm : X.mg x = some (.str i tk)) (hg : Gl X x := by rfl) (hd : (x == ("__debug__" : Str)) = false := by decide) : DE X F (.Name x pos) (tdC (.str i)) := de_const (pe_glob (v := .str i) hg hm ⟨_, rfl⟩ hd) fun _ => .str i
/-! ### two-place operations -/
abbrev RD2 := D → D → (D → Prop) → Prop
/-- P's addresses all stand -/
def PAll (P : List Addr) (H : Hp) : Prop := ∀ p, H p = none → p ∉ P
theorem DInv.pall {P : List Addr} {env : DEnv} {G : GS} {σ : L2.St} {H : Hp} (I : DInv F P env G σ H) : PAll P H := fun _ e => I.h.notP e
/-- a rule of values serves a rule of data -/
def Imp2 (r2 : R2) (r : RD2) : Prop := ∀ (P : List Addr) (H : Hp) (x y : V) (d e : D) (Q : VK) (Qd : D → Prop), PAll P H → Rp (hide H P) x d → Rp (hide H P) y e → r d e Qd →
  (∀ v H' z, Same H H' → Rp (hide H' P) v z → Qd z → Q v H') → r2 x y H Q
def tdBin (r : RD2) (ta tb : TDE) : TDE := fun env G Q => ta env G fun x G1 => tb env G1 fun y G2 => asD x fun a => asD y fun b => r a b fun z => Q (.d z) G2
theorem lE_two {ta tb : TDE} {r2 : R2} {r : RD2} (hi : Imp2 r2 r) {σ : L2.St} {H : Hp} {Q : VK} (h : lE F (tdBin r ta tb) σ H Q) : lE F ta σ H fun x H1 => lE F tb σ H1 fun y H2 => r2 x y H2 Q := by
  obtain ⟨P, env, G, Qd, I, h, k⟩ := h
  refine ⟨P, env, G, _, I, h, fun v H1 x G1 I1 s1 r1 h1 => ?_⟩
  refine ⟨P, env, G1, _, I1, h1, fun u H2 y G2 I2 s2 r2' h2 => ?_⟩
  obtain ⟨d, rfl, h2⟩ := asD_inv (x := x) h2
  obtain ⟨e, rfl, h2⟩ := asD_inv (x := y) h2
  refine hi P H2 v u d e Q _ I2.pall (Rp.mono (I2.sm s2) r1) r2' h2 fun w H3 z s3 r3 q3 => ?_
  exact k w H3 (.d z) G2 (I2.ext s3) (Kp.trans s1 (Kp.trans s2 (Kp.of s3))) r3 q3
theorem de_op {op : Operator} {r2 : R2} {r : RD2} (ho : OpR X (binaryOp op) r2) (hi : Imp2 r2 r) (ha : DE X F a ta) (hb : DE X F b tb) : DE X F (.BinOp a op b pos) (tdBin r ta tb) :=
  PE.imp (pe_op ho ha hb) fun _ _ _ h => lE_two hi h
theorem de_cmp {op : CmpOp} {r2 : R2} {r : RD2} (ho : OpR X (compareOp op) r2) (hi : Imp2 r2 r) (ha : DE X F a ta) (hb : DE X F b tb) (hm : behindInMarks op b = false := by first | exact nomark _ | rfl) : DE X F (.Compare a [op] [b] pos) (tdBin r ta tb) :=
  PE.imp (pe_cmpR ho ha hb hm) fun _ _ _ h => lE_two hi h
def tdTest (t : TDE) : TDT := fun env G Q => t env G fun x G1 => asB x fun b => Q b G1
theorem lT_test {t : TDE} {σ : L2.St} {H : Hp} {Q : Bool → Hp → Prop} (h : lT F (tdTest t) σ H Q) : lE F t σ H fun x H1 => ∃ b, x = .bl b ∧ Q b H1 := by
  obtain ⟨P, env, G, Qd, I, h, k⟩ := h
  refine ⟨P, env, G, _, I, h, fun v H1 x G1 I1 s1 r1 h1 => ?_⟩
  obtain ⟨b, rfl, h1⟩ := asB_inv h1
  exact ⟨b, Rp.bl_inv r1, k b H1 G1 I1 s1 h1⟩
theorem dt_cmp {op : CmpOp} {r2 : R2} {r : RD2} (ho : OpR X (compareOp op) r2) (hi : Imp2 r2 r) (ha : DE X F a ta) (hb : DE X F b tb) (hm : behindInMarks op b = false := by first | exact nomark _ | rfl) : DT X F (.Compare a [op] [b] pos) (tdTest (tdBin r ta tb)) :=
  PT.imp (pt_cmpR ho ha hb hm) fun _ _ _ h => by
    have h' := lT_test h
    exact lE_two hi h'
/-- an expression that gives a bool, as a test -/
theorem dt_val (h : DE X F e t) (he : ∀ whole, isTrue e X.env whole = (do let v ← whole; standAt e.pos; holding [v] (truthy v)) := by intro _; rfl) : DT X F e (tdTest t) :=
  PT.imp (pt_val h he) fun _ _ _ h => lT_test h
/-! ### and, or, not -/
def tdAndT (t u : TDT) : TDT := fun env G Q => t env G fun c G1 => if c = true then u env G1 Q else Q false G1
def tdOrT (t u : TDT) : TDT := fun env G Q => t env G fun c G1 => if c = true then Q true G1 else u env G1 Q
def tdNotT (t : TDT) : TDT := fun env G Q => t env G fun c G1 => Q (!c) G1
abbrev DW (X : Cx) (F : Fx) (e : Expr) (t : TDT) : Prop := PW X e (lT F t)
variable {tA tB' : TDT} {rest : List Expr}
theorem dw_and1 (ha : DT X F a tA) : DW X F (.BoolOp .And [a] pos) tA := pw_and1 ha
theorem dw_or1 (ha : DT X F a tA) : DW X F (.BoolOp .Or [a] pos) tA := pw_or1 ha
theorem lT_bind {t : TDT} {u : Bool → TT} {P : List Addr} {env : DEnv} {G : GS} {Qd : Bool → GS → Prop} {σ : L2.St} {H : Hp} {Q : Bool → Hp → Prop} (I : DInv F P env G σ H) (h : t env G Qd)
    (k : ∀ b H' G', DInv F P env G' σ H' → Kp F H H' → Qd b G' → Q b H') : lT F t σ H Q := ⟨P, env, G, Qd, I, h, k⟩
theorem dw_and (ha : DT X F a tA) (hb : DW X F (.BoolOp .And (b :: rest) pos) tB') : DW X F (.BoolOp .And (a :: b :: rest) pos) (tdAndT tA tB') :=
  PW.imp (pw_and ha hb) fun σ H Q ⟨P, env, G, Qd, I, h, k⟩ => ⟨P, env, G, _, I, h, fun c H1 G1 I1 s1 h1 => by
    cases c with
    | true => exact ⟨P, env, G1, _, I1, h1, fun c2 H2 G2 I2 s2 h2 => k c2 H2 G2 I2 (Kp.trans s1 s2) h2⟩
    | false => exact k false H1 G1 I1 s1 h1⟩
theorem dw_or (ha : DT X F a tA) (hb : DW X F (.BoolOp .Or (b :: rest) pos) tB') : DW X F (.BoolOp .Or (a :: b :: rest) pos) (tdOrT tA tB') :=
  PW.imp (pw_or ha hb) fun σ H Q ⟨P, env, G, Qd, I, h, k⟩ => ⟨P, env, G, _, I, h, fun c H1 G1 I1 s1 h1 => by
    cases c with
    | false => exact ⟨P, env, G1, _, I1, h1, fun c2 H2 G2 I2 s2 h2 => k c2 H2 G2 I2 (Kp.trans s1 s2) h2⟩
    | true => exact k true H1 G1 I1 s1 h1⟩
theorem dt_w (h : DW X F e tA) : DT X F e tA := h.pt
theorem dt_not (ha : DT X F a tA) : DT X F (.UnaryOp .Not a pos) (tdNotT tA) :=
  PT.imp (pt_not ha) fun σ H Q ⟨P, env, G, Qd, I, h, k⟩ => ⟨P, env, G, _, I, h, fun c H1 G1 I1 s1 h1 => k (!c) H1 G1 I1 s1 h1⟩
/-- as values (bools) -/
def tdAndV (ta tb : TDE) : TDE := fun env G Q => ta env G fun x G1 => asB x fun c => if c = true then tb env G1 Q else Q (.d (.bool false)) G1
def tdOrV (ta tb : TDE) : TDE := fun env G Q => ta env G fun x G1 => asB x fun c => if c = true then Q (.d (.bool true)) G1 else tb env G1 Q
def tdNotV (ta : TDE) : TDE := fun env G Q => ta env G fun x G1 => asB x fun c => Q (.d (.bool (!c))) G1
theorem de_one {op} (h : DE X F a ta) : DE X F (.BoolOp op [a] pos) ta := pe_one h
theorem de_and (ha : DE X F a ta) (hb : DE X F (.BoolOp .And (b :: rest) pos) tb) : DE X F (.BoolOp .And (a :: b :: rest) pos) (tdAndV ta tb) :=
  PE.imp (pe_and ha hb) fun σ H Q ⟨P, env, G, Qd, I, h, k⟩ => ⟨P, env, G, _, I, h, fun v H1 x G1 I1 s1 r1 h1 => by
    obtain ⟨c, rfl, h1⟩ := asB_inv h1
    refine ⟨c, Rp.bl_inv r1, ?_⟩
    cases c with
    | true => exact ⟨P, env, G1, _, I1, h1, fun c2 H2 x2 G2 I2 s2 r2 h2 => k c2 H2 x2 G2 I2 (Kp.trans s1 s2) r2 h2⟩
    | false => exact k (.bl false) H1 (.d (.bool false)) G1 I1 s1 (Rp.bl false) h1⟩
theorem de_or (ha : DE X F a ta) (hb : DE X F (.BoolOp .Or (b :: rest) pos) tb) : DE X F (.BoolOp .Or (a :: b :: rest) pos) (tdOrV ta tb) :=
  PE.imp (pe_or ha hb) fun σ H Q ⟨P, env, G, Qd, I, h, k⟩ => ⟨P, env, G, _, I, h, fun v H1 x G1 I1 s1 r1 h1 => by
    obtain ⟨c, rfl, h1⟩ := asB_inv h1
    refine ⟨c, Rp.bl_inv r1, ?_⟩
    cases c with
    | false => exact ⟨P, env, G1, _, I1, h1, fun c2 H2 x2 G2 I2 s2 r2 h2 => k c2 H2 x2 G2 I2 (Kp.trans s1 s2) r2 h2⟩
    | true => exact k (.bl true) H1 (.d (.bool true)) G1 I1 s1 (Rp.bl true) h1⟩
theorem de_not (ha : DE X F a ta) : DE X F (.UnaryOp .Not a pos) (tdNotV ta) :=
  PE.imp (pe_not ha) fun σ H Q ⟨P, env, G, Qd, I, h, k⟩ => ⟨P, env, G, _, I, h, fun v H1 x G1 I1 s1 r1 h1 => by
    obtain ⟨c, rfl, h1⟩ := asB_inv h1
    exact ⟨c, Rp.bl_inv r1, k (.bl (!c)) H1 (.d (.bool (!c))) G1 I1 s1 (Rp.bl _) h1⟩⟩
/-- a if t else b -/
def tdIf (t : TDT) (ta tb : TDE) : TDE := fun env G Q => t env G fun c G1 => if c = true then ta env G1 Q else tb env G1 Q
theorem de_if (hc : DT X F c tA) (ha : DE X F a ta) (hb : DE X F b tb) : DE X F (.IfExp c a b pos) (tdIf tA ta tb) :=
  PE.imp (pe_ifExp hc ha hb) fun σ H Q ⟨P, env, G, Qd, I, h, k⟩ => ⟨P, env, G, _, I, h, fun c H1 G1 I1 s1 h1 => by
    cases c with
    | true => exact ⟨P, env, G1, _, I1, h1, fun c2 H2 x2 G2 I2 s2 r2 h2 => k c2 H2 x2 G2 I2 (Kp.trans s1 s2) r2 h2⟩
    | false => exact ⟨P, env, G1, _, I1, h1, fun c2 H2 x2 G2 I2 s2 r2 h2 => k c2 H2 x2 G2 I2 (Kp.trans s1 s2) r2 h2⟩⟩
/-- a op b op2 c -/
def tdChain (r r' : RD2) (ta tb tc : TDE) : TDE := fun env G Q => ta env G fun x G1 => tb env G1 fun y G2 => asD x fun a => asD y fun b => r a b fun z => asB (.d z) fun k =>
  if k = true then tc env G2 fun w G3 => asD w fun c => r' b c fun z' => Q (.d z') G3 else Q (.d (.bool false)) G2
theorem lE_chain {r2 r2' : R2} {r r' : RD2} (hi : Imp2 r2 r) (hi' : Imp2 r2' r') {σ : L2.St} {H : Hp} {Q : VK} (h : lE F (tdChain r r' ta tb tc) σ H Q) : tChain r2 r2' (lE F ta) (lE F tb) (lE F tc) σ H Q := by
  obtain ⟨P, env, G, Qd, I, h, k⟩ := h
  refine ⟨P, env, G, _, I, h, fun v H1 x G1 I1 s1 r1 h1 => ?_⟩
  refine ⟨P, env, G1, _, I1, h1, fun u H2 y G2 I2 s2 r2' h2 => ?_⟩
  obtain ⟨d, rfl, h2⟩ := asD_inv (x := x) h2
  obtain ⟨e, rfl, h2⟩ := asD_inv (x := y) h2
  refine hi P H2 v u d e _ _ I2.pall (Rp.mono (I2.sm s2) r1) r2' h2 fun w H3 z s3 r3 q3 => ?_
  obtain ⟨kb, e3, q3⟩ := asB_inv q3
  cases e3
  refine ⟨kb, Rp.bl_inv r3, ?_⟩
  have I3 := I2.ext s3
  have s13 : Kp F H H3 := Kp.trans s1 (Kp.trans s2 (Kp.of s3))
  cases kb with
  | false => exact k (.bl false) H3 (.d (.bool false)) G2 I3 s13 (Rp.bl false) q3
  | true =>
    refine ⟨P, env, G2, _, I3, q3, fun w4 H4 x4 G4 I4 s4 r4 h4 => ?_⟩
    obtain ⟨c, rfl, h4⟩ := asD_inv h4
    refine hi' P H4 u w4 e c _ _ I4.pall (Rp.mono (I4.sm (Kp.trans (Kp.of s3) s4)) r2') r4 h4 fun w5 H5 z5 s5 r5 q5 => ?_
    exact k w5 H5 (.d z5) G4 (I4.ext s5) (Kp.trans s13 (Kp.trans s4 (Kp.of s5))) r5 q5
theorem de_chain {op op' : CmpOp} {r2 r2' : R2} {r r' : RD2} (ho : OpR X (compareOp op) r2) (hi : Imp2 r2 r) (ho' : OpR X (compareOp op') r2') (hi' : Imp2 r2' r') (ha : DE X F a ta) (hb : DE X F b tb) (hc : DE X F c tc)
    (hm : lastMarks [op, op'] [b, c] = false := by with_unfolding_all rfl) : DE X F (.Compare a [op, op'] [b, c] pos) (tdChain r r' ta tb tc) :=
  PE.imp (pe_chain ho ho' ha hb hc hm) fun _ _ _ h => lE_chain hi hi' h
theorem dt_chain {op op' : CmpOp} {r2 r2' : R2} {r r' : RD2} (ho : OpR X (compareOp op) r2) (hi : Imp2 r2 r) (ho' : OpR X (compareOp op') r2') (hi' : Imp2 r2' r') (ha : DE X F a ta) (hb : DE X F b tb) (hc : DE X F c tc)
    (hm : lastMarks [op, op'] [b, c] = false := by with_unfolding_all rfl) : DT X F (.Compare a [op, op'] [b, c] pos) (tdTest (tdChain r r' ta tb tc)) :=
  PT.imp (pt_chain ho ho' ha hb hc hm) fun _ _ _ h => by
    have h' := lT_test h
    exact lE_chain hi hi' h'
/-! ### one-place operations -/
abbrev RD1 := D → (D → Prop) → Prop
def Imp1 (r1 : V → Hp → VK → Prop) (r : RD1) : Prop := ∀ (P : List Addr) (H : Hp) (x : V) (d : D) (Q : VK) (Qd : D → Prop), PAll P H → Rp (hide H P) x d → r d Qd → (∀ v H' z, Same H H' → Rp (hide H' P) v z → Qd z → Q v H') → r1 x H Q
def tdUn (r : RD1) (ta : TDE) : TDE := fun env G Q => ta env G fun x G1 => asD x fun a => r a fun z => Q (.d z) G1
theorem lE_one {r1 : V → Hp → VK → Prop} {r : RD1} (hi : Imp1 r1 r) {σ : L2.St} {H : Hp} {Q : VK} (h : lE F (tdUn r ta) σ H Q) : lE F ta σ H fun x H1 => r1 x H1 Q := by
  obtain ⟨P, env, G, Qd, I, h, k⟩ := h
  refine ⟨P, env, G, _, I, h, fun v H1 x G1 I1 s1 r1 h1 => ?_⟩
  obtain ⟨d, rfl, h1⟩ := asD_inv h1
  exact hi P H1 v d Q _ I1.pall r1 h1 fun w H2 z s2 r2 q2 => k w H2 (.d z) G1 (I1.ext s2) (Kp.trans s1 (Kp.of s2)) r2 q2
theorem de_un {op : UnaryOp} {r1 : V → Hp → VK → Prop} {r : RD1} (ho : UnR X (unaryOp op) r1) (hi : Imp1 r1 r) (ha : DE X F a ta) : DE X F (.UnaryOp op a pos) (tdUn r ta) :=
  PE.imp (pe_un ho ha) fun _ _ _ h => lE_one hi h
/-! ### argument lists, displays -/
def tdNil : TDA := fun _ G Q => Q [] G
def tdCons (ta : TDE) (tr : TDA) : TDA := fun env G Q => ta env G fun x G1 => tr env G1 fun xs G2 => Q (x :: xs) G2
theorem pairV_mono {P : List Addr} {H H' : Hp} (s : Same (hide H P) (hide H' P)) {xs : List SV} {vs : List V} (h : Paired (VRel F P H) xs vs) : Paired (VRel F P H') xs vs := Paired.mapP h fun _ _ q => VRel.mono s q
variable {tr : TDA}
theorem da_nil : DA X F [] tdNil := PA.imp pa_nil fun σ H Q ⟨P, env, G, Qd, I, h, k⟩ => k [] H [] G I (Kp.refl _) .nil h
theorem da_cons (ha : DE X F e ta) (hr : DA X F es tr) (hs : starEach (e :: es) X.env = (false, eval e X.env) :: starEach es X.env := by rfl) : DA X F (e :: es) (tdCons ta tr) :=
  PA.imp (pa_cons ha hr hs) fun σ H Q ⟨P, env, G, Qd, I, h, k⟩ => ⟨P, env, G, _, I, h, fun v H1 x G1 I1 s1 r1 h1 =>
    ⟨P, env, G1, _, I1, h1, fun vs H2 xs G2 I2 s2 r2 h2 => k (v :: vs) H2 (x :: xs) G2 I2 (Kp.trans s1 s2) (.cons (VRel.mono (I2.sm s2) r1) r2) h2⟩⟩
def tdTup (t : TDA) : TDE := fun env G Q => t env G fun xs G1 => asAll xs fun ds => ds.length ≤ sizeLine ∧ Q (.d (.tuple ds)) G1
def tdLst (t : TDA) : TDE := fun env G Q => t env G fun xs G1 => asAll xs fun ds => ds.length ≤ sizeLine ∧ Q (.d (.list ds)) G1
theorem paired_len {α β : Type} {R : α → β → Prop} {xs : List α} {ys : List β} (h : Paired R xs ys) : xs.length = ys.length := Paired.length h
theorem de_tup {x1} (h : DA X F es tr) : DE X F (.Tuple es x1 pos) (tdTup tr) :=
  PE.imp (pe_tup h) fun σ H Q ⟨P, env, G, Qd, I, h, k⟩ => ⟨P, env, G, _, I, h, fun vs H1 xs G1 I1 s1 r1 h1 => by
    obtain ⟨ds, rfl, hz, h1⟩ := asAll_inv (xs := xs) h1
    have ra := rpAll_of r1
    refine ⟨by rw [ra.len]; exact hz, fun p hp => ?_⟩
    have s2 : Same H1 (upd H1 p (.tup vs)) := same_upd hp
    exact k (.ref p) _ (.d (.tuple ds)) G1 (I1.ext s2) (Kp.trans s1 (Kp.of s2)) (Rp.tup (I1.h.hideNew hp) (RpAll.mono (hide_same s2) ra)) h1⟩
theorem de_lst (h : DA X F es tr) : DE X F (.List es pos) (tdLst tr) :=
  PE.imp (pe_lst h) fun σ H Q ⟨P, env, G, Qd, I, h, k⟩ => ⟨P, env, G, _, I, h, fun vs H1 xs G1 I1 s1 r1 h1 => by
    obtain ⟨ds, rfl, hz, h1⟩ := asAll_inv (xs := xs) h1
    have ra := rpAll_of r1
    refine ⟨by rw [ra.len]; exact hz, fun p hp => ?_⟩
    have s2 : Same H1 (upd H1 p (.lst vs)) := same_upd hp
    exact k (.ref p) _ (.d (.list ds)) G1 (I1.ext s2) (Kp.trans s1 (Kp.of s2)) (Rp.lst (I1.h.hideNew hp) (RpAll.mono (hide_same s2) ra)) h1⟩
/-! ### calls of built-ins -/
abbrev RDL := List D → (D → Prop) → Prop
def ImpL (rl : List V → Hp → VK → Prop) (r : RDL) : Prop := ∀ (P : List Addr) (H : Hp) (xs : List V) (ds : List D) (Q : VK) (Qd : D → Prop), PAll P H → RpAll (hide H P) xs ds → r ds Qd → (∀ v H' z, Same H H' → Rp (hide H' P) v z → Qd z → Q v H') → rl xs H Q
def tdCall (r : RDL) (t : TDA) : TDE := fun env G Q => t env G fun xs G1 => asAll xs fun ds => r ds fun z => Q (.d z) G1
theorem lA_call {rl : List V → Hp → VK → Prop} {r : RDL} (hi : ImpL rl r) {σ : L2.St} {H : Hp} {Q : VK} (h : lE F (tdCall r tr) σ H Q) : lA F tr σ H fun xs H1 => rl xs H1 Q := by
  obtain ⟨P, env, G, Qd, I, h, k⟩ := h
  refine ⟨P, env, G, _, I, h, fun vs H1 xs G1 I1 s1 r1 h1 => ?_⟩
  have h1 : asAll xs (fun ds => r ds fun z => Qd (.d z) G1) := h1
  obtain ⟨ds, rfl, h3⟩ := asAll_inv h1
  exact hi P H1 vs ds Q _ I1.pall (rpAll_of r1) h3 fun w H2 z s2 r2 q2 => k w H2 (.d z) G1 (I1.ext s2) (Kp.trans s1 (Kp.of s2)) r2 q2
theorem de_callB {id : String} {x : Str} {p : Pos} {rl : List V → Hp → VK → Prop} {r : RDL} (hc : CallR X (.builtin id) rl) (hi : ImpL rl r) (hm : X.mg x = none) (ha : DA X F (e :: es) tr) (hv : bootBuiltins x = some (.builtin id) := by decide +kernel) (hg : Gl X x := by rfl) (hn : x ≠ "__name__" := by decide) (hdb : (x == ("__debug__" : Str)) = false := by decide)
    (he : starEach (e :: es) X.env = (false, eval e X.env) :: starEach es X.env := by rfl) (hpl : (backTo pos (starEach es X.env)).any (·.1) = false := by rfl) : DE X F (.Call (.Name x p) (e :: es) [] pos) (tdCall r tr) :=
  PE.imp (pe_callB hc hg hm hv ha hn hdb he hpl) fun _ _ _ h => lA_call hi h
theorem de_callTy {T : String} {x : Str} {p : Pos} {rl : List V → Hp → VK → Prop} {r : RDL} (hc : CallR X (.type T) rl) (hi : ImpL rl r) (hm : X.mg x = none) (ha : DA X F (e :: es) tr) (hv : bootBuiltins x = some (.type T) := by decide +kernel) (hg : Gl X x := by rfl) (hn : x ≠ "__name__" := by decide) (hdb : (x == ("__debug__" : Str)) = false := by decide)
    (he : starEach (e :: es) X.env = (false, eval e X.env) :: starEach es X.env := by rfl) (hpl : (backTo pos (starEach es X.env)).any (·.1) = false := by rfl) : DE X F (.Call (.Name x p) (e :: es) [] pos) (tdCall r tr) :=
  PE.imp (pe_callTy hc hg hm hv ha hn hdb he hpl) fun _ _ _ h => lA_call hi h
/-! ### items and slices -/
theorem de_ix {r2 : R2} {r : RD2} (hr : IxR X r2) (hi : Imp2 r2 r) (ha : DE X F a ta) (hb : DE X F b tb) (hs : PlainIx b := by exact fun _ _ => rfl) : DE X F (.Subscript a b pos) (tdBin r ta tb) :=
  PE.imp (pe_ix hr ha hb hs) fun _ _ _ h => lE_two hi h
abbrev TDO := DEnv → GS → (Option Int → GS → Prop) → Prop
def lO (F : Fx) (t : TDO) : TO := fun σ H Q => ∃ P env G Qd, DInv F P env G σ H ∧ t env G Qd ∧ ∀ b H' G', DInv F P env G' σ H' → Kp F H H' → Qd b G' → Q b H'
abbrev DO (X : Cx) (F : Fx) (e : Option Expr) (t : TDO) : Prop := PO X e (lO F t)
theorem PO.imp {e : Option Expr} {t t' : TO} (h : PO X e t) (i : ∀ σ H Q, t' σ H Q → t σ H Q) : PO X e t' := by
  obtain ⟨r⟩ := h
  exact ⟨by intros; exact r _ _ _ _ _ (by assumption) (i _ _ _ (by assumption))⟩
def tdNoPart : TDO := fun _ G Q => Q none G
def tdPart (t : TDE) : TDO := fun env G Q => t env G fun x G1 => asD x fun d => asI d fun i => Q (some i) G1
theorem do_none : DO X F none tdNoPart := PO.imp po_none fun σ H Q ⟨P, env, G, Qd, I, h, k⟩ => k none H G I (Kp.refl _) h
theorem do_some (h : DE X F e t) : DO X F (some e) (tdPart t) := PO.imp (po_some h) fun σ H Q ⟨P, env, G, Qd, I, h, k⟩ => ⟨P, env, G, _, I, h, fun v H1 x G1 I1 s1 r1 h1 => by
  obtain ⟨d, rfl, h1⟩ := asD_inv h1
  obtain ⟨i, rfl, h1⟩ := asI_inv h1
  exact ⟨i, Rp.int_inv r1, k (some i) H1 G1 I1 s1 h1⟩⟩
abbrev RSl := D → Option Int → Option Int → (D → Prop) → Prop
def ImpSl (rl : V → Option Int → Option Int → Hp → VK → Prop) (r : RSl) : Prop := ∀ (P : List Addr) (H : Hp) (x : V) (d : D) (lo hi : Option Int) (Q : VK) (Qd : D → Prop), PAll P H → Rp (hide H P) x d → r d lo hi Qd →
  (∀ v H' z, Same H H' → Rp (hide H' P) v z → Qd z → Q v H') → rl x lo hi H Q
def tdSl (r : RSl) (ta : TDE) (tl th : TDO) : TDE := fun env G Q => ta env G fun x G1 => tl env G1 fun lo G2 => th env G2 fun hi G3 => asD x fun d => r d lo hi fun z => Q (.d z) G3
theorem de_slice {rl : V → Option Int → Option Int → Hp → VK → Prop} {r : RSl} {lo hi : Option Expr} {tl th : TDO} {p2 : Pos} (hr : SlR X rl) (hi' : ImpSl rl r) (ha : DE X F a ta) (hl : DO X F lo tl) (hu : DO X F hi th) :
    DE X F (.Subscript a (.Slice lo hi none p2) pos) (tdSl r ta tl th) :=
  PE.imp (pe_slice hr ha hl hu) fun σ H Q ⟨P, env, G, Qd, I, h, k⟩ => ⟨P, env, G, _, I, h, fun v H1 x G1 I1 s1 r1 h1 =>
    ⟨P, env, G1, _, I1, h1, fun lo H2 G2 I2 s2 h2 => ⟨P, env, G2, _, I2, h2, fun hi H3 G3 I3 s3 h3 => by
      obtain ⟨d, rfl, h3⟩ := asD_inv h3
      exact hi' P H3 v d lo hi Q _ I3.pall (Rp.mono (I3.sm (Kp.trans s2 s3)) r1) h3 fun w H4 z s4 r4 q4 => k w H4 (.d z) G3 (I3.ext s4) (Kp.trans s1 (Kp.trans s2 (Kp.trans s3 (Kp.of s4)))) r4 q4⟩⟩⟩
end
end DL

set_option maxRecDepth 100000
set_option maxHeartbeats 4000000
/-! DL3: statements, own lists, loops, comprehensions, defs and their calls, at the level of data. -/
namespace DL
open PySem PySem.Spec PyProof.Rows L2
structure DEnds where
  nx : DEnv → GS → Prop
  rt : SV → GS → Prop
  bk : DEnv → GS → Prop := fun _ _ => False
  ct : DEnv → GS → Prop := fun _ _ => False
abbrev TDS := DEnds → DEnv → GS → Prop
structure DOk (F : Fx) (P : List Addr) (H : Hp) (Dd : DEnds) (D : Ends) : Prop where
  nx : ∀ P' env' G' σ' H', DInv F P' env' G' σ' H' → Same (hide H P) (hide H' P') → Dd.nx env' G' → D.nx σ' H'
  bk : ∀ P' env' G' σ' H', DInv F P' env' G' σ' H' → Same (hide H P) (hide H' P') → Dd.bk env' G' → D.bk σ' H'
  ct : ∀ P' env' G' σ' H', DInv F P' env' G' σ' H' → Same (hide H P) (hide H' P') → Dd.ct env' G' → D.ct σ' H'
  rt : ∀ P' v H' x G', HInv F P' G' H' → Same (hide H P) (hide H' P') → VRel F P' H' x v → Dd.rt x G' → D.rt v H'
theorem DOk.mono {F : Fx} {P P1 : List Addr} {H H1 : Hp} {Dd : DEnds} {D : Ends} (k : DOk F P H Dd D) (s : Same (hide H P) (hide H1 P1)) : DOk F P1 H1 Dd D :=
  ⟨fun P' e G' σ' H' I s' h => k.nx P' e G' σ' H' I (Same.trans s s') h, fun P' e G' σ' H' I s' h => k.bk P' e G' σ' H' I (Same.trans s s') h,
   fun P' e G' σ' H' I s' h => k.ct P' e G' σ' H' I (Same.trans s s') h, fun P' v H' x G' I s' r h => k.rt P' v H' x G' I (Same.trans s s') r h⟩
def lS (F : Fx) (t : TDS) : TS := fun D σ H => ∃ P env G Dd, DInv F P env G σ H ∧ t Dd env G ∧ DOk F P H Dd D
abbrev DS (X : Cx) (F : Fx) (st : Stmt) (t : TDS) : Prop := PS X st (lS F t)
abbrev DSs (X : Cx) (F : Fx) (st : List Stmt) (t : TDS) : Prop := PSs X st (lS F t)
def tdNext : TDS := fun D env G => D.nx env G
def tdSeq (t u : TDS) : TDS := fun D env G => t { D with nx := u D } env G
def tdBreak : TDS := fun D env G => D.bk env G
def tdCont : TDS := fun D env G => D.ct env G
def tdDrop (t : TDE) : TDS := fun D env G => t env G fun _ G1 => D.nx env G1
def tdRet (t : TDE) : TDS := fun D env G => t env G fun x G1 => D.rt x G1
def tdRetN : TDS := fun D _ G => D.rt (.d .none) G
def tdIfS (c : TDT) (t u : TDS) : TDS := fun D env G => c env G fun b G1 => if b = true then t D env G1 else u D env G1
section
variable {X : Cx} {F : Fx} {a b c e : Expr} {st : Stmt} {sts rest : List Stmt} {es : List Expr} {ta tb te : TDE} {t u : TDS} {tc : TDT} {pos pos' : Pos}
theorem dss_nil : DSs X F [] tdNext := PSs.imp pss_nil fun σ H D ⟨P, env, G, Dd, I, h, k⟩ => k.nx P env G σ H I (Same.refl _) h
theorem dss_cons (h1 : DS X F st t) (h2 : DSs X F rest u) : DSs X F (st :: rest) (tdSeq t u) :=
  PSs.imp (pss_cons h1 h2) fun σ H D ⟨P, env, G, Dd, I, h, k⟩ => ⟨P, env, G, _, I, h, ⟨fun P' e G' σ' H' I' s' h' => ⟨P', e, G', Dd, I', h', k.mono s'⟩, k.bk, k.ct, k.rt⟩⟩
theorem dss_one (h1 : DS X F st t) : DSs X F [st] t := pss_one h1
theorem ds_pass : DS X F (.Pass pos) tdNext := PS.imp ps_pass fun σ H D ⟨P, env, G, Dd, I, h, k⟩ => k.nx P env G σ H I (Same.refl _) h
theorem ds_break : DS X F (.Break pos) tdBreak := PS.imp ps_break fun σ H D ⟨P, env, G, Dd, I, h, k⟩ => k.bk P env G σ H I (Same.refl _) h
theorem ds_continue : DS X F (.Continue pos) tdCont := PS.imp ps_continue fun σ H D ⟨P, env, G, Dd, I, h, k⟩ => k.ct P env G σ H I (Same.refl _) h
theorem ds_expr (he : DE X F e te) (hs : swapsWith e none pos.line X.env = pure false := by rfl) : DS X F (.Expr e pos) (tdDrop te) :=
  PS.imp (ps_expr he hs) fun σ H D ⟨P, env, G, Dd, I, h, k⟩ => ⟨P, env, G, _, I, h, fun v H1 x G1 I1 s1 _ h1 => k.nx P env G1 σ H1 I1 (I1.sm s1) h1⟩
theorem ds_ret (he : DE X F e te) : DS X F (.Return (some e) pos) (tdRet te) :=
  PS.imp (ps_ret he) fun σ H D ⟨P, env, G, Dd, I, h, k⟩ => ⟨P, env, G, _, I, h, fun v H1 x G1 I1 s1 r1 h1 => k.rt P v H1 x G1 I1.h (I1.sm s1) r1 h1⟩
theorem ds_retN : DS X F (.Return none pos) tdRetN := PS.imp ps_retN fun σ H D ⟨P, env, G, Dd, I, h, k⟩ => k.rt P .non H (.d .none) G I.h (Same.refl _) Rp.non h
theorem ds_if {x y : List Stmt} (hc : DT X F c tc) (ha : DSs X F x t) (hb : DSs X F y u) : DS X F (.If c x y pos) (tdIfS tc t u) :=
  PS.imp (ps_if hc ha hb) fun σ H D ⟨P, env, G, Dd, I, h, k⟩ => ⟨P, env, G, _, I, h, fun b H1 G1 I1 s1 h1 => by
    cases b with
    | true => exact ⟨P, env, G1, Dd, I1, h1, k.mono (I1.sm s1)⟩
    | false => exact ⟨P, env, G1, Dd, I1, h1, k.mono (I1.sm s1)⟩⟩
/-! ### targets -/
abbrev TDG := SV → DEnv → (DEnv → Prop) → Prop
abbrev TDGs := List SV → DEnv → (DEnv → Prop) → Prop
def lG (F : Fx) (ix : List Nat) (g : TDG) : TG := fun v σ H Q => ∃ P env G x Qd, DInv F P env G σ H ∧ VRel F P H x v ∧ g x env Qd ∧ ∀ env' σ', DInv F P env' G σ' H → (∀ vs, (∀ i ∈ ix, i ∈ vs) → wipe σ' vs = wipe σ vs) → Qd env' → Q σ' H
def lGs (F : Fx) (ix : List Nat) (g : TDGs) : TGs := fun us σ H Q => ∃ P env G xs Qd, DInv F P env G σ H ∧ Paired (VRel F P H) xs us ∧ g xs env Qd ∧ ∀ env' σ', DInv F P env' G σ' H → (∀ vs, (∀ i ∈ ix, i ∈ vs) → wipe σ' vs = wipe σ vs) → Qd env' → Q σ' H
abbrev DG (X : Cx) (F : Fx) (ix : List Nat) (tg : Expr) (g : TDG) : Prop := PG X tg (lG F ix g)
abbrev DGs (X : Cx) (F : Fx) (ix : List Nat) (tg : List Expr) (g : TDGs) : Prop := PGs X tg (lGs F ix g)
theorem PG.imp {tg : Expr} {g g' : TG} (h : PG X tg g) (i : ∀ v σ H Q, g' v σ H Q → g v σ H Q) : PG X tg g' := ⟨fun pins s σ H v u Q I r q => h.run pins s σ H v u Q I r (i v σ H Q q)⟩
theorem PGs.imp {tg : List Expr} {g g' : TGs} (h : PGs X tg g) (i : ∀ v σ H Q, g' v σ H Q → g v σ H Q) : PGs X tg g' := ⟨fun pins s σ H v u Q I r q => h.run pins s σ H v u Q I r (i v σ H Q q)⟩
theorem wipe_set {σ : L2.St} {i : Nat} {o : Option V} : ∀ {vs : List Nat}, i ∈ vs → wipe (σ.set i o) vs = wipe σ vs
  | [], h => by cases h
  | v :: vs, h => by
    show (wipe (σ.set i o) vs).set v none = (wipe σ vs).set v none
    by_cases hv : i = v
    · subst hv
      have e : ∀ ws : List Nat, (wipe (σ.set i o) ws).set i none = (wipe σ ws).set i none := by
        intro ws
        induction ws with
        | nil => show (σ.set i o).set i none = σ.set i none; rw [List.set_set]
        | cons w ws ih =>
          show ((wipe (σ.set i o) ws).set w none).set i none = ((wipe σ ws).set w none).set i none
          by_cases hw : w = i
          · subst hw; rw [List.set_set, List.set_set, ih]
          · rw [List.set_comm _ _ hw, List.set_comm _ _ hw, ih]
      exact e vs
    · rw [wipe_set (List.mem_of_ne_of_mem hv h)]
def gdName (i : Nat) : TDG := fun x env Q => Q (env.set i (some x))
theorem dg_name {i : Nat} {x : Str} (hN : X.N.Nodup) (hi : X.N[i]? = some x := by rfl) (hx : Loc X.env.scope x := by first | exact .inl rfl | exact .inr rfl) (hf : X.fn x = true ∨ X.env.scope.names.lookup x = some .local := by first | exact .inl rfl | exact .inr rfl | assumption) :
    DG X F [i] (.Name x pos) (gdName i) :=
  PG.imp (pg_name hN hi hx hf) fun v σ H Q ⟨P, env, G, x, Qd, I, r, h, k⟩ => k _ _ (I.store r i) (fun vs hv => wipe_set (hv i List.mem_cons_self)) h
def gdNil : TDGs := fun xs env Q => match xs with
  | [] => Q env
  | _ => False
def gdCons (g : TDG) (gs : TDGs) : TDGs := fun xs env Q => match xs with
  | x :: r => g x env fun env' => gs r env' Q
  | [] => False
theorem dgs_nil : DGs X F [] [] gdNil := PGs.imp pgs_nil fun us σ H Q ⟨P, env, G, xs, Qd, I, r, h, k⟩ => by
  cases xs with
  | nil => cases r; exact ⟨rfl, k env σ I (fun _ _ => rfl) h⟩
  | cons x r => exact (show False from h).elim
theorem dgs_cons {ix jx : List Nat} {g : TDG} {gs : TDGs} (h1 : DG X F ix e g) (h2 : DGs X F jx es gs) (hs : (assignEach (e :: es) X.env).map (·.2) = assign e X.env :: (assignEach es X.env).map (·.2) := by rfl) : DGs X F (ix ++ jx) (e :: es) (gdCons g gs) :=
  PGs.imp (pgs_cons h1 h2 hs) fun us σ H Q ⟨P, env, G, xs, Qd, I, r, h, k⟩ => by
    cases xs with
    | nil => exact (show False from h).elim
    | cons x xr =>
      cases r with
      | cons r1 r2 =>
        exact ⟨_, _, rfl, P, env, G, x, _, I, r1, h, fun env' σ' I' w h' => ⟨P, env', G, xr, Qd, I', r2, h', fun env2 σ2 I2 w2 h2 => k env2 σ2 I2 (fun vs hv => (w2 vs fun i m => hv i (List.mem_append_right _ m)).trans (w vs fun i m => hv i (List.mem_append_left _ m))) h2⟩⟩
def gdTup (n : Nat) (gs : TDGs) : TDG := fun x env Q => asD x fun d => match d with
  | .tuple ds => ds.length = n ∧ gs (ds.map SV.d) env Q
  | _ => False
theorem pairs_of_rp {P : List Addr} {H : Hp} : ∀ {vs : List V} {ds : List D}, RpAll (hide H P) vs ds → Paired (VRel F P H) (ds.map SV.d) vs
  | _, _, .nil => .nil
  | _, _, .cons h r => .cons h (pairs_of_rp r)
theorem dg_tup {k : Nat} {n : Nat} {ix : List Nat} {gs : TDGs} (hc : X.calm = true) (h : DGs X F ix es gs) (hn : (assignEach es X.env).length = n := by rfl) (hst : (assignEach es X.env).findIdx? (·.1) = none := by rfl) : DG X F ix (.Tuple es k pos) (gdTup n gs) :=
  PG.imp (pg_tup hc h hn hst) fun v σ H Q ⟨P, env, G, x, Qd, I, r, h, k⟩ => by
    obtain ⟨d, rfl, h⟩ := asD_inv (x := x) h
    cases d with
    | tuple ds =>
      obtain ⟨hl, h⟩ := h
      obtain ⟨a, vs, rfl, ha, ra⟩ := Rp.tup_inv r
      refine ⟨a, vs, rfl, SqT.of (hide_some ha).2, by rw [ra.len]; exact hl, P, env, G, _, Qd, I, pairs_of_rp ra, h, k⟩
    | _ => exact (show False from h).elim
/-! ### stores -/
def tdAsg (t : TDE) (g : TDG) : TDS := fun D env G => t env G fun x G1 => g x env fun env' => D.nx env' G1
theorem ds_asg {tg : Expr} {ix : List Nat} {g : TDG} (he : DE X F e te) (hg : DG X F ix tg g) (hs : swapsWithSole [tg] e pos.line X.env = pure false := by rfl) (hw : swappedStores [tg] e X.env = pure none := by rfl)
    (h1 : (assignEach [tg] X.env).map (·.2) = [assign tg X.env] := by rfl) : DS X F (.Assign [tg] e pos) (tdAsg te g) :=
  PS.imp (ps_asg he hg hs hw h1) fun σ H D ⟨P, env, G, Dd, I, h, k⟩ => ⟨P, env, G, _, I, h, fun v H1 x G1 I1 s1 r1 h1 =>
    ⟨P, env, G1, x, _, I1, r1, h1, fun env' σ' I' _ h' => k.nx P env' G1 σ' H1 I' (I1.sm s1) h'⟩⟩
theorem ds_set {i : Nat} {x : Str} (hN : X.N.Nodup) (he : DE X F e te) (hi : X.N[i]? = some x := by rfl) (hx : Loc X.env.scope x := by first | exact .inl rfl | exact .inr rfl) (hs : swapsWith e (some (.Name x pos')) pos.line X.env = pure false := by rfl) (hf : X.fn x = true ∨ X.env.scope.names.lookup x = some .local := by first | exact .inl rfl | exact .inr rfl | assumption) :
    DS X F (.Assign [.Name x pos'] e pos) (tdAsg te (gdName i)) :=
  PS.imp (ps_set (i := i) hN hi hx he hs hf) fun σ H D ⟨P, env, G, Dd, I, h, k⟩ => ⟨P, env, G, _, I, h, fun v H1 x G1 I1 s1 r1 h1 => k.nx P _ G1 _ H1 (I1.store r1 i) (I1.sm s1) h1⟩
/-- a, b = x, y -/
def tdPar (i j : Nat) (t : TDA) : TDS := fun D env G => t env G fun xs G1 => match xs with
  | [x, y] => D.nx ((env.set i (some x)).set j (some y)) G1
  | _ => False
theorem ds_par {i j : Nat} {x y : Str} {px py pt : Pos} {kt k2 pt2} {tr : TDA} (hc : X.calm = true) (hN : X.N.Nodup) (ha : DA X F [a, b] tr) (hi : X.N[i]? = some x := by rfl) (hj : X.N[j]? = some y := by rfl) (hij : i ≠ j := by decide)
    (hx : X.env.scope.names.lookup x = some .local := by rfl) (hy : X.env.scope.names.lookup y = some .local := by rfl)
    (hw : swappedStores [.Tuple [.Name x px, .Name y py] kt pt] (.Tuple [a, b] k2 pt2) X.env = pure (some [x, y]) := by rfl)
    (hs : swapsWithSole [.Tuple [.Name x px, .Name y py] kt pt] (.Tuple [a, b] k2 pt2) pos.line X.env = pure false := by rfl) :
    DS X F (.Assign [.Tuple [.Name x px, .Name y py] kt pt] (.Tuple [a, b] k2 pt2) pos) (tdPar i j tr) :=
  PS.imp (ps_par hc hN hi hj hij hx hy ha hw hs) fun σ H D ⟨P, env, G, Dd, I, h, k⟩ => ⟨P, env, G, _, I, h, fun vs H1 xs G1 I1 s1 r1 h1 => by
    cases r1 with
    | nil => exact (show False from h1).elim
    | cons q1 r1 =>
      cases r1 with
      | nil => exact (show False from h1).elim
      | cons q2 r1 =>
        cases r1 with
        | nil => exact ⟨_, _, rfl, k.nx P _ G1 _ H1 ((I1.store q1 i).store q2 j) (I1.sm s1) h1⟩
        | cons q3 r1 => exact (show False from h1).elim⟩
/-! ### own lists -/
abbrev TDF := DEnv → GS → (List D → GS → Prop) → Prop
structure FreshL (F : Fx) (P : List Addr) (env : DEnv) (σ : L2.St) (H : Hp) (p : Addr) (H' : Hp) (vs : List V) (xs : List D) (G' : GS) : Prop where
  inv : DInv F (p :: P) env G' σ H'
  kp : Kp F H H'
  same : Same (hide H P) (hide H' (p :: P))
  nP : p ∉ P
  n0 : F.H0 p = none
  at_ : H' p = some (.lst vs)
  rp : RpAll (hide H' (p :: P)) vs xs
  no : ∀ (i : Nat) (ys : List D), env[i]? = some (some (.own ys)) → σ[i]? ≠ some (some (.ref p))
def lF (F : Fx) (t : TDF) : TE := fun σ H Q => ∃ P env G Qd, DInv F P env G σ H ∧ t env G Qd ∧ ∀ p H' vs xs G', FreshL F P env σ H p H' vs xs G' → Qd xs G' → Q (.ref p) H'
abbrev DF (X : Cx) (F : Fx) (e : Expr) (t : TDF) : Prop := PE X e (lF F t)
theorem fresh_new {P : List Addr} {env : DEnv} {G : GS} {σ : L2.St} {H H1 : Hp} {p : Addr} {vs : List V} {ds : List D} (I : DInv F P env G σ H1) (s : Kp F H H1) (hp : H1 p = none) (r : RpAll (hide H1 P) vs ds) : FreshL F P env σ H p (upd H1 p (.lst vs)) vs ds G :=
  ⟨I.hideOne hp, Kp.trans s (Kp.of (same_upd hp)), by rw [hide_new hp]; exact I.sm s, I.h.notP hp, I.h.H0new hp, upd_same, by rw [hide_new hp]; exact r, fun i ys e z => by
    obtain ⟨v, e1, q, ws, h1, h2, h3, h4, _⟩ := I.sl i _ e
    rw [e1, h1] at z
    cases z
    rw [hp] at h4; cases h4⟩
def tdLstF (t : TDA) : TDF := fun env G Q => t env G fun xs G1 => asAll xs fun ds => ds.length ≤ sizeLine ∧ Q ds G1
theorem df_lst {tr : TDA} (h : DA X F es tr) : DF X F (.List es pos) (tdLstF tr) :=
  PE.imp (pe_lst h) fun σ H Q ⟨P, env, G, Qd, I, h, k⟩ => ⟨P, env, G, _, I, h, fun vs H1 xs G1 I1 s1 r1 h1 => by
    obtain ⟨ds, rfl, hz, h3⟩ := asAll_inv (xs := xs) h1
    have ra := rpAll_of r1
    exact ⟨by rw [ra.len]; exact hz, fun p hp => k p _ vs ds G1 (fresh_new I1 s1 hp ra) h3⟩⟩
theorem DInv.storeOwn {P : List Addr} {env : DEnv} {G : GS} {σ : L2.St} {H H' : Hp} {p : Addr} {vs : List V} {xs : List D} (f : FreshL F P env σ H p H' vs xs G) (i : Nat) : DInv F (p :: P) (env.set i (some (.own xs))) G (σ.set i (some (.ref p))) H' := by
  have I := f.inv
  have cs : ∀ {m : Nat} {sv : SV}, (env.set i (some (.own xs)))[m]? = some (some sv) → (i = m ∧ sv = .own xs ∧ m < env.length) ∨ (i ≠ m ∧ env[m]? = some (some sv)) := by
    intro m sv e
    by_cases hm : i = m
    · subst hm
      have hlt : i < env.length := by
        have := (List.getElem?_eq_some_iff.mp e).1
        rwa [List.length_set] at this
      rw [List.getElem?_set_self hlt] at e
      cases e
      exact .inl ⟨rfl, rfl, hlt⟩
    · rw [List.getElem?_set_ne hm] at e
      exact .inr ⟨hm, e⟩
  refine ⟨I.h, by rw [List.length_set, List.length_set]; exact I.len, fun m sv e => ?_, fun m n ys zs v w hmn e1 e2 e3 e4 => ?_⟩
  · rcases cs e with ⟨rfl, rfl, hlt⟩ | ⟨hm, e⟩
    · exact ⟨.ref p, List.getElem?_set_self (by rw [I.len]; exact hlt), p, vs, rfl, List.mem_cons_self, f.n0, f.at_, f.rp⟩
    · rw [List.getElem?_set_ne hm]
      exact I.sl m sv e
  · rcases cs e1 with ⟨rfl, q1, hl1⟩ | ⟨h1, e1⟩
    · rcases cs e2 with ⟨rfl, _, _⟩ | ⟨h2, e2⟩
      · exact absurd rfl hmn
      · rw [List.getElem?_set_self (by rw [I.len]; exact hl1)] at e3
        rw [List.getElem?_set_ne h2] at e4
        cases e3
        intro z
        exact f.no n zs e2 (by rw [e4, z])
    · rcases cs e2 with ⟨rfl, _, hl2⟩ | ⟨h2, e2⟩
      · rw [List.getElem?_set_self (by rw [I.len]; exact hl2)] at e4
        rw [List.getElem?_set_ne h1] at e3
        cases e4
        intro z
        exact f.no m ys e1 (by rw [e3, z])
      · rw [List.getElem?_set_ne h1] at e3
        rw [List.getElem?_set_ne h2] at e4
        exact I.dj m n ys zs v w hmn e1 e2 e3 e4
def tdOwn (i : Nat) (t : TDF) : TDS := fun D env G => t env G fun xs G1 => D.nx (env.set i (some (.own xs))) G1
theorem ds_own {i : Nat} {x : Str} {t : TDF} (hN : X.N.Nodup) (he : DF X F e t) (hi : X.N[i]? = some x := by rfl) (hx : Loc X.env.scope x := by first | exact .inl rfl | exact .inr rfl) (hs : swapsWith e (some (.Name x pos')) pos.line X.env = pure false := by rfl) (hf : X.fn x = true ∨ X.env.scope.names.lookup x = some .local := by first | exact .inl rfl | exact .inr rfl | assumption) :
    DS X F (.Assign [.Name x pos'] e pos) (tdOwn i t) :=
  PS.imp (ps_set (i := i) hN hi hx he hs hf) fun σ H D ⟨P, env, G, Dd, I, h, k⟩ => ⟨P, env, G, _, I, h, fun p H1 vs xs G1 f h1 => k.nx _ _ G1 _ H1 (DInv.storeOwn f i) f.same h1⟩
/-- a, b = x, [..] -/
def tdParO (i j : Nat) (ta : TDE) (t : TDF) : TDS := fun D env G => ta env G fun x G1 => t env G1 fun ys G2 => D.nx ((env.set i (some x)).set j (some (.own ys))) G2
theorem ds_parO {i j : Nat} {x y : Str} {px py pt : Pos} {kt k2 pt2} {t : TDF} (hc : X.calm = true) (hN : X.N.Nodup) (ha : DE X F a ta) (hb : DF X F b t) (hi : X.N[i]? = some x := by rfl) (hj : X.N[j]? = some y := by rfl) (hij : i ≠ j := by decide)
    (hx : X.env.scope.names.lookup x = some .local := by rfl) (hy : X.env.scope.names.lookup y = some .local := by rfl)
    (hw : swappedStores [.Tuple [.Name x px, .Name y py] kt pt] (.Tuple [a, b] k2 pt2) X.env = pure (some [x, y]) := by rfl)
    (hs : swapsWithSole [.Tuple [.Name x px, .Name y py] kt pt] (.Tuple [a, b] k2 pt2) pos.line X.env = pure false := by rfl)
    (hs1 : starEach [a, b] X.env = (false, eval a X.env) :: starEach [b] X.env := by rfl) (hs2 : starEach [b] X.env = (false, eval b X.env) :: starEach [] X.env := by rfl) :
    DS X F (.Assign [.Tuple [.Name x px, .Name y py] kt pt] (.Tuple [a, b] k2 pt2) pos) (tdParO i j ta t) :=
  PS.imp (ps_par hc hN hi hj hij hx hy (pa_cons ha (pa_cons hb pa_nil hs2) hs1) hw hs) fun σ H D ⟨P, env, G, Dd, I, h, k⟩ => ⟨P, env, G, _, I, h, fun v H1 x G1 I1 s1 r1 h1 => ⟨P, env, G1, _, I1, h1, fun p H2 vs ys G2 f h2 => by
    refine ⟨v, .ref p, rfl, ?_⟩
    have I3 : DInv F (p :: P) (env.set i (some x)) G2 (σ.set i (some v)) H2 := f.inv.store (VRel.mono f.same r1) i
    have f3 : FreshL F P (env.set i (some x)) (σ.set i (some v)) H1 p H2 vs ys G2 := ⟨I3, f.kp, f.same, f.nP, f.n0, f.at_, f.rp, fun m zs e z => by
      by_cases hm : i = m
      · subst hm
        have hlt : i < env.length := by
          have := (List.getElem?_eq_some_iff.mp e).1
          rwa [List.length_set] at this
        rw [List.getElem?_set_self hlt] at e
        cases e
        exact (show False from r1).elim
      · rw [List.getElem?_set_ne hm] at e z
        exact f.no m zs e z⟩
    exact k.nx _ _ G2 _ H2 (DInv.storeOwn f3 j) (Same.trans (I1.sm s1) f.same) h2⟩⟩
/-- the place of an own list -/
theorem DInv.ownAt {P : List Addr} {env : DEnv} {G : GS} {σ : L2.St} {H : Hp} {i : Nat} {xs : List D} (I : DInv F P env G σ H) (e : look env i = some (.own xs)) : ∃ p vs, σ[i]? = some (some (.ref p)) ∧ p ∈ P ∧ F.H0 p = none ∧ H p = some (.lst vs) ∧ RpAll (hide H P) vs xs := by
  obtain ⟨v, e1, p, vs, rfl, h⟩ := I.sl i _ (look_some e)
  exact ⟨p, vs, e1, h⟩
theorem DInv.ownPut {P : List Addr} {env : DEnv} {G : GS} {σ : L2.St} {H : Hp} {i : Nat} {xs ys : List D} {p : Addr} {ws vs : List V} (I : DInv F P env G σ H) (e : look env i = some (.own xs)) (e1 : σ[i]? = some (some (.ref p))) (hp : p ∈ P) (n0 : F.H0 p = none) (ea : H p = some (.lst ws)) (r : RpAll (hide H P) vs ys) :
    DInv F P (env.set i (some (.own ys))) G σ (upd H p (.lst vs)) := by
  have hlt : i < env.length := (List.getElem?_eq_some_iff.mp (look_some e)).1
  -- forget the slot, write, set again
  have J : DInv F P (env.set i none) G σ H := by
    refine ⟨I.h, by rw [List.length_set]; exact I.len, fun m sv q => ?_, fun m n a b v w hmn q1 q2 q3 q4 => ?_⟩
    · by_cases hm : i = m
      · subst hm; rw [List.getElem?_set_self hlt] at q; cases q
      · rw [List.getElem?_set_ne hm] at q; exact I.sl m sv q
    · have f : ∀ {m : Nat} {sv : SV}, (env.set i none)[m]? = some (some sv) → env[m]? = some (some sv) := by
        intro m sv q
        by_cases hm : i = m
        · subst hm; rw [List.getElem?_set_self hlt] at q; cases q
        · rw [List.getElem?_set_ne hm] at q; exact q
      exact I.dj m n a b v w hmn (f q1) (f q2) q3 q4
  have no : ∀ (m : Nat) (zs : List D), (env.set i none)[m]? = some (some (.own zs)) → σ[m]? ≠ some (some (.ref p)) := by
    intro m zs q z
    by_cases hm : i = m
    · subst hm; rw [List.getElem?_set_self hlt] at q; cases q
    · rw [List.getElem?_set_ne hm] at q
      exact I.dj i m xs zs _ _ hm (look_some e) q e1 z rfl
  have K1 := J.updHid (vs := vs) hp n0 ea no
  have es : env.set i (some (.own ys)) = (env.set i none).set i (some (.own ys)) := by rw [List.set_set]
  have cs : ∀ {m : Nat} {sv : SV}, (env.set i (some (.own ys)))[m]? = some (some sv) → (i = m ∧ sv = .own ys) ∨ (i ≠ m ∧ (env.set i none)[m]? = some (some sv)) := by
    intro m sv q
    by_cases hm : i = m
    · subst hm; rw [List.getElem?_set_self hlt] at q; cases q; exact .inl ⟨rfl, rfl⟩
    · rw [List.getElem?_set_ne hm] at q
      exact .inr ⟨hm, by rw [List.getElem?_set_ne hm]; exact q⟩
  refine ⟨K1.h, by rw [List.length_set]; exact I.len, fun m sv q => ?_, fun m n a b v w hmn q1 q2 q3 q4 => ?_⟩
  · rcases cs q with ⟨rfl, rfl⟩ | ⟨hm, q⟩
    · exact ⟨.ref p, e1, p, vs, rfl, hp, n0, upd_same, by rw [hide_upd hp]; exact r⟩
    · exact K1.sl m sv q
  · rcases cs q1 with ⟨rfl, z1⟩ | ⟨h1, q1⟩
    · rcases cs q2 with ⟨rfl, _⟩ | ⟨h2, q2⟩
      · exact absurd rfl hmn
      · rw [e1] at q3; cases q3
        intro z; subst z
        exact no n b q2 q4
    · rcases cs q2 with ⟨rfl, z2⟩ | ⟨h2, q2⟩
      · rw [e1] at q4; cases q4
        intro z; subst z
        exact no m a q1 q3
      · exact K1.dj m n a b v w hmn q1 q2 q3 q4
/-- for what is an own list -/
def isOwn (o : Option SV) (k : List D → Prop) : Prop := match o with
  | some (.own xs) => k xs
  | _ => False
theorem isOwn_inv {o : Option SV} {k : List D → Prop} (h : isOwn o k) : ∃ xs, o = some (.own xs) ∧ k xs := by
  cases o with
  | none => exact h.elim
  | some x =>
    cases x with
    | own xs => exact ⟨xs, rfl, h⟩
    | d x => exact h.elim
    | g x => exact h.elim
    | scr x => exact h.elim
    | adr x => exact h.elim
    | exc x y z => exact h.elim
@[simp] theorem isOwn_own {xs : List D} {k : List D → Prop} : isOwn (some (.own xs)) k = k xs := rfl
def tdAppend (i : Nat) (t : TDE) : TDS := fun D env G => isOwn (look env i) fun xs => t env G fun x G1 => asD x fun d => xs.length < sizeLine ∧ D.nx (env.set i (some (.own (xs ++ [d])))) G1
theorem ds_append (i : Nat) {x : Str} {px apos cpos : Pos} (he : DE X F e te) (hN : X.N[i]? = some x := by rfl) (hv : Vis X.env.scope x := by first | exact Or.inl rfl | exact Or.inr (Or.inl rfl) | exact Or.inr (Or.inr rfl)) (hd : (x == ("__debug__" : Str)) = false := by decide)
    (hcd : (x == ("__classdict__" : Str)) = false := by decide)
    (hbase : attributeBase (.Name x px) "append" X.env (eval (.Name x px) X.env) = eval (.Name x px) X.env := by rfl)
    (hfew : ((backTo cpos (starEach [e] X.env)).all (fun x => !x.1) && (backToKw cpos (keywordEach [] X.env)).all (fun x => x.1.isSome) && decide ([e].length + ([] : List Keyword).length + (if ([] : List Keyword).isEmpty then 0 else 1) < 30)) = true := by rfl)
    (hline : (apos.endLine == cpos.line) = true := by rfl) (hs : starEach [e] X.env = (false, eval e X.env) :: starEach [] X.env := by rfl) (hplain : (backTo cpos (starEach [] X.env)).any (·.1) = false := by rfl)
    (hsw : swapsWith (.Call (.Attribute (.Name x px) "append" apos) [e] [] cpos) none pos.line X.env = pure false := by rfl) :
    DS X F (.Expr (.Call (.Attribute (.Name x px) "append" apos) [e] [] cpos) pos) (tdAppend i te) :=
  PS.imp (ps_expr (pe_bm PySem.F.plainAttrs_list PySem.F.slot_list_append PySem.F.type_list_append mt_append (pe_var hN hv hd hcd) (pa_cons he pa_nil hs) hbase hfew hline hs hplain) hsw) fun σ H D ⟨P, env, G, Dd, I, h, k⟩ => by
    obtain ⟨xs, q, h⟩ := isOwn_inv h
    obtain ⟨p, ws, e1, hp, n0, ea, ra⟩ := I.ownAt q
    refine ⟨.ref p, e1, .inl ⟨rfl, ws, SqL.of ea⟩, P, env, G, _, I, h, fun v H1 y G1 I1 s1 r1 h1 => ?_⟩
    obtain ⟨d, rfl, hz, h3⟩ := asD_inv (x := y) h1
    obtain ⟨p', ws', e1', hp', n0', ea', ra'⟩ := I1.ownAt q
    rw [e1] at e1'; cases e1'
    refine ⟨p, ws', v, rfl, rfl, ea', by rw [ra'.len]; exact hz, ?_⟩
    have J := I1.ownPut (ys := xs ++ [d]) (vs := ws' ++ [v]) q e1 hp n0 ea' (RpAll.append ra' (.cons r1 .nil))
    exact k.nx P _ G1 σ _ J (by rw [hide_upd hp]; exact I1.sm s1) h3
/-- x.extend(e), e a new list -/
def tdExtend (i : Nat) (t : TDE) : TDS := fun D env G => isOwn (look env i) fun xs => t env G fun x G1 => asD x fun d => match d with
  | .list ds => xs.length + ds.length ≤ sizeLine ∧ D.nx (env.set i (some (.own (xs ++ ds)))) G1
  | _ => False
theorem ds_extend (i : Nat) {x : Str} {px apos cpos : Pos} (he : DE X F e te) (hN : X.N[i]? = some x := by rfl) (hv : Vis X.env.scope x := by first | exact Or.inl rfl | exact Or.inr (Or.inl rfl) | exact Or.inr (Or.inr rfl)) (hd : (x == ("__debug__" : Str)) = false := by decide)
    (hcd : (x == ("__classdict__" : Str)) = false := by decide)
    (hbase : attributeBase (.Name x px) "extend" X.env (eval (.Name x px) X.env) = eval (.Name x px) X.env := by rfl)
    (hfew : ((backTo cpos (starEach [e] X.env)).all (fun x => !x.1) && (backToKw cpos (keywordEach [] X.env)).all (fun x => x.1.isSome) && decide ([e].length + ([] : List Keyword).length + (if ([] : List Keyword).isEmpty then 0 else 1) < 30)) = true := by rfl)
    (hline : (apos.endLine == cpos.line) = true := by rfl) (hs : starEach [e] X.env = (false, eval e X.env) :: starEach [] X.env := by rfl) (hplain : (backTo cpos (starEach [] X.env)).any (·.1) = false := by rfl)
    (hsw : swapsWith (.Call (.Attribute (.Name x px) "extend" apos) [e] [] cpos) none pos.line X.env = pure false := by rfl) :
    DS X F (.Expr (.Call (.Attribute (.Name x px) "extend" apos) [e] [] cpos) pos) (tdExtend i te) :=
  PS.imp (ps_expr (pe_bm PySem.F.plainAttrs_list PySem.F.slot_list_extend PySem.F.type_list_extend mt_extend (pe_var hN hv hd hcd) (pa_cons he pa_nil hs) hbase hfew hline hs hplain) hsw) fun σ H D ⟨P, env, G, Dd, I, h, k⟩ => by
    obtain ⟨xs, q, h⟩ := isOwn_inv h
    obtain ⟨p, ws, e1, hp, n0, ea, ra⟩ := I.ownAt q
    refine ⟨.ref p, e1, .inl ⟨rfl, ws, SqL.of ea⟩, P, env, G, _, I, h, fun v H1 y G1 I1 s1 r1 h1 => ?_⟩
    obtain ⟨d, rfl, h3⟩ := asD_inv (x := y) h1
    cases d with
    | list ds =>
      obtain ⟨hz, h3⟩ := h3
      obtain ⟨b, vs, rfl, eb, rb⟩ := Rp.lst_inv r1
      obtain ⟨p', ws', e1', hp', n0', ea', ra'⟩ := I1.ownAt q
      rw [e1] at e1'; cases e1'
      refine ⟨p, b, ws', vs, rfl, rfl, ea', (hide_some eb).2, by rw [ra'.len, rb.len]; exact hz, ?_⟩
      have J := I1.ownPut (ys := xs ++ ds) (vs := ws' ++ vs) q e1 hp n0 ea' (RpAll.append ra' rb)
      exact k.nx P _ G1 σ _ J (by rw [hide_upd hp]; exact I1.sm s1) h3
    | _ => exact (show False from h3).elim
/-! ### an own list given away, lent, read -/
theorem DInv.give {P : List Addr} {env : DEnv} {G : GS} {σ : L2.St} {H : Hp} {i : Nat} {xs : List D} {p : Addr} {vs : List V} (I : DInv F P env G σ H) (e : look env i = some (.own xs)) (e1 : σ[i]? = some (some (.ref p))) (hp : p ∈ P) (n0 : F.H0 p = none) (ea : H p = some (.lst vs)) (r : RpAll (hide H P) vs xs) :
    DInv F (P.filter fun a => decide (a ≠ p)) (env.set i (some (.d (.list xs)))) G σ H ∧ Same (hide H P) (hide H (P.filter fun a => decide (a ≠ p))) := by
  have less : ∀ a ∈ P.filter (fun a => decide (a ≠ p)), a ∈ P := fun a m => (List.mem_filter.mp m).1
  have s : Same (hide H P) (hide H (P.filter fun a => decide (a ≠ p))) := hide_less less
  have keep : ∀ a ∈ P, a ≠ p → a ∈ P.filter (fun a => decide (a ≠ p)) := fun a m n => List.mem_filter.mpr ⟨m, decide_eq_true n⟩
  have npg := I.h.notGa n0
  have hlt : i < env.length := (List.getElem?_eq_some_iff.mp (look_some e)).1
  have pout : p ∉ P.filter (fun a => decide (a ≠ p)) := fun m => of_decide_eq_true (List.mem_filter.mp m).2 rfl
  have cs : ∀ {m : Nat} {sv : SV}, (env.set i (some (.d (.list xs))))[m]? = some (some sv) → (i = m ∧ sv = .d (.list xs)) ∨ (i ≠ m ∧ env[m]? = some (some sv)) := by
    intro m sv q
    by_cases hm : i = m
    · subst hm; rw [List.getElem?_set_self hlt] at q; cases q; exact .inl ⟨rfl, rfl⟩
    · rw [List.getElem?_set_ne hm] at q; exact .inr ⟨hm, q⟩
  refine ⟨⟨⟨I.h.fr, fun a m => I.h.pd a (less a m), fun a m => keep a (I.h.sub a m) (fun z => by
      subst z
      obtain ⟨o, q⟩ := F.p0 _ m
      rw [n0] at q; cases q), fun a m => keep a (I.h.gp a m) (fun z => by subst z; exact npg m), I.h.g0, I.h.gn, Paired.mapP I.h.gl fun a o q => ?_⟩, by rw [List.length_set]; exact I.len, fun m sv q => ?_, fun m n a b v w hmn q1 q2 q3 q4 => ?_⟩, s⟩
  · cases o with
    | dict kvs =>
      obtain ⟨ks, z1, z2⟩ := q
      exact ⟨ks, z1, Paired.mapP z2 fun _ _ ⟨y1, y2⟩ => ⟨y1, Rp.mono s y2⟩⟩
    | tab b q' => exact q
  · rcases cs q with ⟨rfl, rfl⟩ | ⟨hm, q⟩
    · exact ⟨.ref p, e1, Rp.lst (by rw [hide_out pout]; exact ea) (RpAll.mono s r)⟩
    · obtain ⟨v, z1, z2⟩ := I.sl m sv q
      refine ⟨v, z1, ?_⟩
      cases sv with
      | d x => exact Rp.mono s z2
      | own ys =>
        obtain ⟨p', ws, y1, y2, y3, y4, y5⟩ := z2
        refine ⟨p', ws, y1, keep p' y2 (fun z => ?_), y3, y4, RpAll.mono s y5⟩
        subst z
        exact I.dj i m xs ys _ _ hm (look_some e) q e1 z1 (by rw [y1])
      | g n => exact z2
      | scr ns =>
        obtain ⟨a, y1, y2⟩ := z2
        exact ⟨a, y1, Same.seq s y2⟩
      | adr a => exact z2
      | exc a dd fs => exact XcR.mono s z2
  · rcases cs q1 with ⟨_, z⟩ | ⟨h1, q1⟩
    · cases z
    · rcases cs q2 with ⟨_, z⟩ | ⟨h2, q2⟩
      · cases z
      · exact I.dj m n a b v w hmn q1 q2 q3 q4
end
end DL

set_option maxRecDepth 100000
set_option maxHeartbeats 4000000
/-! DL4: own lists given away and lent; walks, for, comprehensions. -/
namespace DL
open PySem PySem.Spec PyProof.Rows L2
section
variable {X : Cx} {F : Fx} {a b c e : Expr} {st : Stmt} {sts rest : List Stmt} {es : List Expr} {ta tb te t : TDE} {tc : TDT} {pos pos' : Pos}
/-- the slot's list given away ahead of a statement -/
def giveD (i : Nat) (env : DEnv) : DEnv := match look env i with
  | some (.own xs) => env.set i (some (.d (.list xs)))
  | _ => env
def tdGive (i : Nat) (t : TDS) : TDS := fun D env G => t D (giveD i env) G
theorem DInv.giveD {P : List Addr} {env : DEnv} {G : GS} {σ : L2.St} {H : Hp} (I : DInv F P env G σ H) (i : Nat) : ∃ P', DInv F P' (giveD i env) G σ H ∧ Same (hide H P) (hide H P') := by
  cases q : look env i with
  | none => exact ⟨P, by unfold DL.giveD; rw [q]; exact I, Same.refl _⟩
  | some x =>
    cases x with
    | own xs =>
      obtain ⟨p, vs, e1, hp, n0, ea, r⟩ := I.ownAt q
      obtain ⟨J, s⟩ := I.give q e1 hp n0 ea r
      exact ⟨_, by unfold DL.giveD; rw [q]; exact J, s⟩
    | d x => exact ⟨P, by unfold DL.giveD; rw [q]; exact I, Same.refl _⟩
    | g x => exact ⟨P, by unfold DL.giveD; rw [q]; exact I, Same.refl _⟩
    | scr x => exact ⟨P, by unfold DL.giveD; rw [q]; exact I, Same.refl _⟩
    | adr x => exact ⟨P, by unfold DL.giveD; rw [q]; exact I, Same.refl _⟩
    | exc x y z => exact ⟨P, by unfold DL.giveD; rw [q]; exact I, Same.refl _⟩
theorem ds_give (i : Nat) {t : TDS} (h : DS X F st t) : DS X F st (tdGive i t) :=
  PS.imp h fun σ H D ⟨P, env, G, Dd, I, h, k⟩ => by
    obtain ⟨P', J, s⟩ := I.giveD i
    exact ⟨P', _, G, Dd, J, h, k.mono s⟩
/-- the slots stand behind what left them alone -/
theorem DInv.later {P : List Addr} {env : DEnv} {G G1 : GS} {σ : L2.St} {H H1 : Hp} (I : DInv F P env G σ H) (J : HInv F P G1 H1) (k : Kp F H H1) : DInv F P env G1 σ H1 := by
  have s := I.sm k
  refine ⟨J, I.len, fun i sv q => ?_, I.dj⟩
  obtain ⟨v, e1, r⟩ := I.sl i sv q
  refine ⟨v, e1, ?_⟩
  cases sv with
  | d x => exact Rp.mono s r
  | own xs =>
    obtain ⟨p, vs, y1, y2, y3, y4, y5⟩ := r
    exact ⟨p, vs, y1, y2, y3, k p _ y4 (I.h.notGa y3), RpAll.mono s y5⟩
  | g n => exact r
  | scr ns =>
    obtain ⟨a, y1, y2⟩ := r
    exact ⟨a, y1, Same.seq s y2⟩
  | adr a => exact r
  | exc a dd fs => exact XcR.mono s r
/-- values that are no objects -/
def flatD : D → Bool
  | .none | .bool _ | .int _ | .str _ => true
  | _ => false
theorem rp_flat {H H' : Hp} {v : V} : ∀ {d : D}, flatD d = true → Rp H v d → Rp H' v d
  | .none, _, h => by cases h; exact .non
  | .bool _, _, h => by cases h; exact .bl _
  | .int _, _, h => by cases h; exact .int _
  | .str _, _, h => by cases h; exact .str _
  | .list _, q, _ => by cases q
  | .tuple _, q, _ => by cases q
  | .dict _, q, _ => by cases q
/-- an own list lent to an operation whose value is no object -/
theorem lend_rp {P : List Addr} {H : Hp} {p : Addr} {ws : List V} {xs : List D} (ea : H p = some (.lst ws)) (r : RpAll (hide H P) ws xs) : Rp (hide H (P.filter fun a => decide (a ≠ p))) (.ref p) (.list xs) ∧ Same (hide H P) (hide H (P.filter fun a => decide (a ≠ p))) := by
  have s : Same (hide H P) (hide H (P.filter fun a => decide (a ≠ p))) := hide_less fun a m => (List.mem_filter.mp m).1
  have pout : p ∉ P.filter (fun a => decide (a ≠ p)) := fun m => of_decide_eq_true (List.mem_filter.mp m).2 rfl
  exact ⟨Rp.lst (by rw [hide_out pout]; exact ea) (RpAll.mono s r), s⟩
def tdBinO (i : Nat) (r : RD2) (tb : TDE) : TDE := fun env G Q => isOwn (look env i) fun xs => tb env G fun y G1 => asD y fun e => r (.list xs) e fun z => flatD z = true ∧ Q (.d z) G1
theorem lE_ownTwo {r2 : R2} {r : RD2} (hi : Imp2 r2 r) {i : Nat} {σ : L2.St} {H : Hp} {Q : VK} (h : lE F (tdBinO i r tb) σ H Q) : tVar i σ H fun x H1 => lE F tb σ H1 fun y H2 => r2 x y H2 Q := by
  obtain ⟨P, env, G, Qd, I, h, k⟩ := h
  obtain ⟨xs, q, h⟩ := isOwn_inv h
  obtain ⟨p, ws, e1, hp, n0, ea, ra⟩ := I.ownAt q
  refine ⟨.ref p, e1, P, env, G, _, I, h, fun u H2 y G2 I2 s2 r2' h2 => ?_⟩
  obtain ⟨e, rfl, h3⟩ := asD_inv (x := y) h2
  obtain ⟨p', ws', e1', hp', n0', ea', ra'⟩ := I2.ownAt q
  rw [e1] at e1'; cases e1'
  obtain ⟨l1, l2⟩ := lend_rp ea' ra'
  refine hi (P.filter fun a => decide (a ≠ p)) H2 _ u _ e Q _ (fun a hn m => I2.pall a hn (List.mem_filter.mp m).1) l1 (Rp.mono l2 r2') h3 fun w H3 z s3 r3 q3 => ?_
  exact k w H3 (.d z) G2 (I2.ext s3) (Kp.trans s2 (Kp.of s3)) (rp_flat q3.1 r3) q3.2
theorem de_cmpO (i : Nat) {x : Str} {px : Pos} {op : CmpOp} {r2 : R2} {r : RD2} (ho : OpR X (compareOp op) r2) (hi : Imp2 r2 r) (hb : DE X F b tb) (hN : X.N[i]? = some x := by rfl) (hv : Vis X.env.scope x := by first | exact Or.inl rfl | exact Or.inr (Or.inl rfl) | exact Or.inr (Or.inr rfl)) (hd : (x == ("__debug__" : Str)) = false := by decide)
    (hcd : (x == ("__classdict__" : Str)) = false := by decide) (hm : behindInMarks op b = false := by first | exact nomark _ | rfl) : DE X F (.Compare (.Name x px) [op] [b] pos) (tdBinO i r tb) :=
  PE.imp (pe_cmpR ho (pe_var hN hv hd hcd) hb hm) fun _ _ _ h => lE_ownTwo hi h
theorem dt_cmpO (i : Nat) {x : Str} {px : Pos} {op : CmpOp} {r2 : R2} {r : RD2} (ho : OpR X (compareOp op) r2) (hi : Imp2 r2 r) (hb : DE X F b tb) (hN : X.N[i]? = some x := by rfl) (hv : Vis X.env.scope x := by first | exact Or.inl rfl | exact Or.inr (Or.inl rfl) | exact Or.inr (Or.inr rfl)) (hd : (x == ("__debug__" : Str)) = false := by decide)
    (hcd : (x == ("__classdict__" : Str)) = false := by decide) (hm : behindInMarks op b = false := by first | exact nomark _ | rfl) : DT X F (.Compare (.Name x px) [op] [b] pos) (tdTest (tdBinO i r tb)) :=
  PT.imp (pt_cmpR ho (pe_var hN hv hd hcd) hb hm) fun _ _ _ h => by
    have h' := lT_test h
    exact lE_ownTwo hi h'
/-- f(x), x an own list -/
def tdCallO (i : Nat) (r : RDL) : TDE := fun env G Q => isOwn (look env i) fun xs => r [.list xs] fun z => flatD z = true ∧ Q (.d z) G
theorem lE_ownCall {rl : List V → Hp → VK → Prop} {r : RDL} (hi : ImpL rl r) {i : Nat} {σ : L2.St} {H : Hp} {Q : VK} (h : lE F (tdCallO i r) σ H Q) : tVar i σ H fun x H1 => rl [x] H1 Q := by
  obtain ⟨P, env, G, Qd, I, h, k⟩ := h
  obtain ⟨xs, q, h⟩ := isOwn_inv h
  obtain ⟨p, ws, e1, hp, n0, ea, ra⟩ := I.ownAt q
  obtain ⟨l1, l2⟩ := lend_rp ea ra
  refine ⟨.ref p, e1, hi (P.filter fun a => decide (a ≠ p)) H _ _ Q _ (fun a hn m => I.pall a hn (List.mem_filter.mp m).1) (.cons l1 .nil) h fun w H3 z s3 r3 q3 => ?_⟩
  exact k w H3 (.d z) G (I.ext s3) (Kp.of s3) (rp_flat q3.1 r3) q3.2
theorem de_callBO (i : Nat) {id : String} {x y : Str} {p py : Pos} {rl : List V → Hp → VK → Prop} {r : RDL} (hc : CallR X (.builtin id) rl) (hi : ImpL rl r) (hm : X.mg x = none) (hN : X.N[i]? = some y := by rfl) (hvis : Vis X.env.scope y := by first | exact Or.inl rfl | exact Or.inr (Or.inl rfl) | exact Or.inr (Or.inr rfl))
    (hd : (y == ("__debug__" : Str)) = false := by decide) (hcd : (y == ("__classdict__" : Str)) = false := by decide) (hv : bootBuiltins x = some (.builtin id) := by decide +kernel) (hg : Gl X x := by rfl) (hn : x ≠ "__name__" := by decide) (hdb : (x == ("__debug__" : Str)) = false := by decide)
    (hs : starEach [Expr.Name y py] X.env = (false, eval (.Name y py) X.env) :: starEach [] X.env := by rfl) (hpl : (backTo pos (starEach [] X.env)).any (·.1) = false := by rfl) : DE X F (.Call (.Name x p) [.Name y py] [] pos) (tdCallO i r) :=
  PE.imp (pe_callB hc hg hm hv (pa_cons (pe_var hN hvis hd hcd) pa_nil hs) hn hdb hs hpl) fun _ _ _ h => lE_ownCall hi h
/-- an item of an own list -/
def tdOwnIx (i : Nat) (tb : TDE) : TDE := fun env G Q => isOwn (look env i) fun xs => tb env G fun y G1 => asD y fun e => asI e fun k => match atI xs k with
  | some z => Q (.d z) G1
  | none => False
theorem atI_rp {H : Hp} {vs : List V} {ds : List D} {k : Int} {z : D} (r : RpAll H vs ds) (h : atI ds k = some z) : ∃ v, atI vs k = some v ∧ Rp H v z := by
  unfold atI at h ⊢
  rw [r.len]
  obtain ⟨j, e1, e2⟩ := Option.bind_eq_some_iff.mp h
  rw [e1]
  exact r.get' e2
theorem de_ownIx (i : Nat) {x : Str} {px : Pos} (hb : DE X F b tb) (hN : X.N[i]? = some x := by rfl) (hv : Vis X.env.scope x := by first | exact Or.inl rfl | exact Or.inr (Or.inl rfl) | exact Or.inr (Or.inr rfl)) (hd : (x == ("__debug__" : Str)) = false := by decide)
    (hcd : (x == ("__classdict__" : Str)) = false := by decide) (hs : PlainIx b := by exact fun _ _ => rfl) : DE X F (.Subscript (.Name x px) b pos) (tdOwnIx i tb) :=
  PE.imp (pe_ix ix_list (pe_var hN hv hd hcd) hb hs) fun σ H Q ⟨P, env, G, Qd, I, h, k⟩ => by
    obtain ⟨xs, q, h⟩ := isOwn_inv h
    obtain ⟨p, ws, e1, hp, n0, ea, ra⟩ := I.ownAt q
    refine ⟨.ref p, e1, P, env, G, _, I, h, fun v H1 y G1 I1 s1 r1 h1 => ?_⟩
    obtain ⟨d, rfl, h3⟩ := asD_inv (x := y) h1
    obtain ⟨n, rfl, h4⟩ := asI_inv h3
    cases z : atI xs n with
    | none => rw [z] at h4; exact h4.elim
    | some w =>
      rw [z] at h4
      obtain ⟨p', ws', e1', hp', n0', ea', ra'⟩ := I1.ownAt q
      rw [e1] at e1'; cases e1'
      obtain ⟨u, eu, ru⟩ := atI_rp ra' z
      exact ⟨p, ws', n, u, rfl, Rp.int_inv r1, SqL.of ea', eu, k u H1 (.d w) G1 I1 s1 ru h4⟩
/-! ### walks -/
structure ItOk (J : It) (items : List D) (H : Hp) (P : List Addr) : Prop where
  ok : ∃ (Gd : Hp → Prop) (Y : Nat → Hp → V → Hp → Prop), Walk J items.length Gd Y ∧ (∀ H2 P2, Same (hide H P) (hide H2 P2) → Gd H2) ∧
    ∀ i H2 P2 x H3, i < items.length → PAll P2 H2 → Same (hide H P) (hide H2 P2) → Y i H2 x H3 → Same H2 H3 ∧ ∃ d, items[i]? = some d ∧ Rp (hide H3 P2) x d
abbrev TDI := DEnv → GS → (List D → GS → Prop) → Prop
def lI (F : Fx) (t : TDI) : TI := fun σ H R => ∃ P env G Qd, DInv F P env G σ H ∧ t env G Qd ∧ ∀ J H' items G', DInv F P env G' σ H' → Kp F H H' → ItOk J items H' P → Qd items G' → R J H'
abbrev DI (X : Cx) (F : Fx) (tg iter : Expr) (t : TDI) : Prop := PI X tg iter (lI F t)
theorem PI.imp {tg it : Expr} {w w' : TI} (h : PI X tg it w) (i : ∀ σ H R, w' σ H R → w σ H R) : PI X tg it w' := ⟨fun pins s σ H R I q => h.run pins s σ H R I (i σ H R q)⟩
/-- what data is walked: lists, tuples, the signs of texts -/
def itemsD : D → Option (List D)
  | .list ds => some ds
  | .tuple ds => some ds
  | .str x => some (x.cps.toList.map fun c => .str ⟨#[c]⟩)
  | _ => none
def tdItems (t : TDE) : TDI := fun env G Q => t env G fun x G1 => asD x fun d => match itemsD d with
  | some ds => Q ds G1
  | none => False
theorem itok_list {K : PySem.W.Frag} {a : Addr} {vs : List V} {ds : List D} {H : Hp} {P : List Addr} (e : hide H P a = some (.lst vs)) (r : RpAll (hide H P) vs ds) : ItOk (Itl K a) ds H P :=
  ⟨fun H => SqL K H a vs, YAt vs, by rw [← r.len]; exact walk_list, fun H2 P2 s => SqL.of (hide_some (s _ _ e)).2, fun i H2 P2 x H3 hi pa s y => by
    obtain ⟨rfl, y⟩ := y
    obtain ⟨d, e1, e2⟩ := r.get y
    exact ⟨Same.refl _, d, e1, Rp.mono s e2⟩⟩
theorem itok_tup {K : PySem.W.Frag} {a : Addr} {vs : List V} {ds : List D} {H : Hp} {P : List Addr} (e : hide H P a = some (.tup vs)) (r : RpAll (hide H P) vs ds) : ItOk (Itt K a) ds H P :=
  ⟨fun H => SqT K H a vs, YAt vs, by rw [← r.len]; exact walk_tup, fun H2 P2 s => SqT.of (hide_some (s _ _ e)).2, fun i H2 P2 x H3 hi pa s y => by
    obtain ⟨rfl, y⟩ := y
    obtain ⟨d, e1, e2⟩ := r.get y
    exact ⟨Same.refl _, d, e1, Rp.mono s e2⟩⟩
theorem itok_str {x : Str} {H : Hp} {P : List Addr} : ItOk (Its x) (x.cps.toList.map fun c => .str ⟨#[c]⟩) H P :=
  ⟨fun _ => True, fun i H v H' => H' = H ∧ ∃ c, x.cps[i]? = some c ∧ v = .str ⟨#[c]⟩, by rw [List.length_map, Array.length_toList]; exact walk_str, fun _ _ _ => trivial, fun i H2 P2 v H3 hi pa s y => by
    obtain ⟨rfl, c, e, rfl⟩ := y
    refine ⟨Same.refl _, .str ⟨#[c]⟩, ?_, .str _⟩
    rw [List.getElem?_map, Array.getElem?_toList, e]
    rfl⟩
theorem di_items {tg : Expr} (he : DE X F e t) : DI X F tg e (tdItems t) := by
  refine ⟨fun pins s σ H R I h => ?_⟩
  obtain ⟨P, env, G, Qd, J, h, k⟩ := h
  -- the value first; by its kind the library's walk over a name that already holds it
  have main : wpAny (model X.prog X.w) X.A (eval e X.env) (EP X pins σ fun v H1 => ∃ ds G1 d, DInv F P env G1 σ H1 ∧ Kp F H H1 ∧ Rp (hide H1 P) v d ∧ itemsD d = some ds ∧ Qd ds G1) X.xe s := by
    refine he.run pins s σ H _ I ⟨P, env, G, _, J, h, fun v H1 x G1 I1 s1 r1 h1 => ?_⟩
    obtain ⟨d, rfl, h3⟩ := asD_inv (x := x) h1
    cases z : itemsD d with
    | none => rw [z] at h3; exact h3.elim
    | some ds => rw [z] at h3; exact ⟨ds, G1, d, I1, s1, r1, z, h3⟩
  refine thn main fun u s1 ⟨v, H1, I1, r1, ds, G1, d, J1, sm, rp, ed, q⟩ => ?_
  cases d with
  | list zs =>
    cases ed
    obtain ⟨a, vs, rfl, ea, ra⟩ := Rp.lst_inv rp
    cases r1
    obtain ⟨its, rv, p, hz⟩ := I1.list (SqL.of (hide_some ea).2)
    have I2 : Inv X pins σ H1 { s1 with heap := s1.heap.push { cls := .type "list_iterator", data := .fields #[.ref a, .int 0 0] } } := I1.kept (t' := s1.toks) fun b o z => Heap.get?_push_of_some _ z
    refine wpAny_pyIter_list p.isList ?_
    refine ⟨s1.heap.objs.size, [s1.heap.objs.size], _, Itl X.K a, H1, rfl, I1.kept (t' := s1.toks) fun b o z => Heap.get?_push_of_some _ z, turn_list a _, ⟨_, Heap.get?_push_size _ rfl, rfl, rfl⟩, fun b hb => ?_, k _ H1 ds G1 J1 sm (itok_list ea ra) q⟩
    cases List.mem_singleton.mp hb
    exact I1.fpOk (Nat.le_refl _) (I1.hok.fresh (Nat.le_refl _))
  | tuple zs =>
    cases ed
    obtain ⟨a, vs, rfl, ea, ra⟩ := Rp.tup_inv rp
    cases r1
    obtain ⟨its, rv, p, hz⟩ := I1.tuple (SqT.of (hide_some ea).2)
    refine wpAny_pyIter_tuple (show s1.heap.IsTuple a its.toArray from p) ?_
    refine ⟨s1.heap.objs.size, [s1.heap.objs.size], _, Itt X.K a, H1, rfl, I1.kept (t' := s1.toks) fun b o z => Heap.get?_push_of_some _ z, turn_tuple a _, ⟨_, Heap.get?_push_size _ rfl, rfl, rfl⟩, fun b hb => ?_, k _ H1 ds G1 J1 sm (itok_tup ea ra) q⟩
    cases List.mem_singleton.mp hb
    exact I1.fpOk (Nat.le_refl _) (I1.hok.fresh (Nat.le_refl _))
  | str x =>
    cases ed
    cases Rp.str_inv rp
    obtain ⟨tk, rfl⟩ := r1
    have fin := k (Its x) H1 _ G1 J1 sm itok_str q
    cases ha : x.cps.all (· < 128)
    · exact wpAny_pyIter_wide ha (pi_one (tk := s1.toks) I1 _ (turn_str _ x tk "str_iterator" (.inr rfl)) ⟨_, Heap.get?_push_size _ rfl, rfl, rfl⟩ fin)
    · exact wpAny_pyIter_ascii ha (pi_one (tk := s1.toks) I1 _ (turn_str _ x tk "str_ascii_iterator" (.inl rfl)) ⟨_, Heap.get?_push_size _ rfl, rfl, rfl⟩ fin)
  | _ => cases ed
/-- range(n) -/
def tdRange (t : TDE) : TDI := fun env G Q => t env G fun x G1 => asD x fun d => asI d fun n => (-(2 ^ 62) ≤ n ∧ n < 2 ^ 62) ∧ Q ((List.range n.toNat).map fun i => .int ((i : Nat) : Int)) G1
theorem itok_range {lo : Int} {n : Nat} {H : Hp} {P : List Addr} : ItOk (Itr lo n) ((List.range n).map fun i => .int (lo + ((i : Nat) : Int))) H P :=
  ⟨fun _ => True, YFn fun i => .int (lo + i), by rw [List.length_map, List.length_range]; exact walk_range, fun _ _ _ => trivial, fun i H2 P2 v H3 hi pa s y => by
    obtain ⟨rfl, rfl⟩ := y
    rw [List.length_map, List.length_range] at hi
    refine ⟨Same.refl _, .int (lo + i), ?_, .int _⟩
    rw [List.getElem?_map, List.getElem?_range hi]
    rfl⟩
theorem di_range {tg : Expr} {p : Pos} (hm : X.mg "range" = none) (he : DE X F e t) (hg : Gl X "range" := by rfl) (hs : starEach [e] X.env = [(false, eval e X.env)] := by rfl) (hs1 : starEach [e] X.env = (false, eval e X.env) :: starEach [] X.env := by rfl) : DI X F tg (.Call (.Name "range" p) [e] [] pos) (tdRange t) :=
  PI.imp (pi_range1 hg hm (pa_cons he pa_nil hs1) hs) fun σ H R ⟨P, env, G, Qd, I, h, k⟩ => ⟨P, env, G, _, I, h, fun v H1 x G1 I1 s1 r1 h1 => by
    obtain ⟨d, rfl, h3⟩ := asD_inv (x := x) h1
    obtain ⟨n, rfl, ⟨hb1, hb2⟩, h4⟩ := asI_inv h3
    refine ⟨n, by rw [Rp.int_inv r1], hb1, hb2, k _ H1 _ G1 I1 s1 ?_ h4⟩
    have := itok_range (lo := 0) (n := n.toNat) (H := H1) (P := P)
    simp only [Int.zero_add] at this
    exact this⟩
/-- range(a, b) -/
def tdRange2 (ta tb : TDE) : TDI := fun env G Q => ta env G fun x G1 => tb env G1 fun y G2 => asD x fun d => asD y fun e => asI d fun i => asI e fun j => (-(2 ^ 62) ≤ i ∧ i < 2 ^ 62 ∧ -(2 ^ 62) ≤ j ∧ j < 2 ^ 62) ∧ Q ((List.range (j - i).toNat).map fun n => .int (i + ((n : Nat) : Int))) G2
theorem di_range2 {tg : Expr} {p : Pos} (hm : X.mg "range" = none) (ha : DE X F a ta) (hb : DE X F b tb) (hg : Gl X "range" := by rfl) (hs : starEach [a, b] X.env = [(false, eval a X.env), (false, eval b X.env)] := by rfl) (hs2 : starEach [b] X.env = [(false, eval b X.env)] := by rfl)
    (hs3 : starEach [a, b] X.env = (false, eval a X.env) :: starEach [b] X.env := by rfl) (hs4 : starEach [b] X.env = (false, eval b X.env) :: starEach [] X.env := by rfl) : DI X F tg (.Call (.Name "range" p) [a, b] [] pos) (tdRange2 ta tb) :=
  PI.imp (pi_range2 hg hm (pa_cons ha (pa_cons hb pa_nil hs4) hs3) hs hs2) fun σ H R ⟨P, env, G, Qd, I, h, k⟩ => ⟨P, env, G, _, I, h, fun v H1 x G1 I1 s1 r1 h1 => ⟨P, env, G1, _, I1, h1, fun u H2 y G2 I2 s2 r2 h2 => by
    obtain ⟨d, rfl, h3⟩ := asD_inv (x := x) h2
    obtain ⟨e, rfl, h4⟩ := asD_inv (x := y) h3
    obtain ⟨i, rfl, h5⟩ := asI_inv h4
    obtain ⟨j, rfl, hb, h6⟩ := asI_inv h5
    exact ⟨i, j, by rw [Rp.int_inv r1, Rp.int_inv r2], hb, k _ H2 _ G2 I2 (Kp.trans s1 s2) itok_range h6⟩⟩⟩
/-! ### for -/
def dloop (g : TDG) (tb : TDS) (K : DEnds) : List D → DEnv → GS → Prop
  | [], env, G => K.nx env G
  | x :: r, env, G => g (.d x) env fun env' => tb { nx := dloop g tb K r, ct := dloop g tb K r, bk := K.nx, rt := K.rt } env' G
def tdFor (ti : TDI) (g : TDG) (tb : TDS) : TDS := fun D env G => ti env G fun items G1 => dloop g tb D items env G1
theorem ds_for {iter tg : Expr} {ix : List Nat} {body : List Stmt} {ti : TDI} {g : TDG} {tb : TDS} (hp : PassesOwn (model X.prog X.w) X.A X.env X.xe) (hc : X.calm = true) (hi : DI X F tg iter ti) (hg : DG X F ix tg g) (hb : DSs X F body tb)
    (hs : ∀ x, foldedSetIterable iter X.env x = pure x := by intro _; rfl) : DS X F (.For tg iter body [] pos) (tdFor ti g tb) :=
  PS.imp (ps_for hp hc hi hg hb hs) fun σ H K ⟨P, env, G, Dd, I, h, k⟩ => ⟨P, env, G, _, I, h, fun J H1 items G1 I1 s1 it h1 => by
    obtain ⟨Gd, Y, w, stay, yld⟩ := it.ok
    have drop_at : ∀ {i : Nat} {d : D}, items[i]? = some d → items.drop i = d :: items.drop (i + 1) := fun {i d} e => by
      obtain ⟨hlt, e⟩ := List.getElem?_eq_some_iff.mp e
      rw [← e]; exact List.drop_eq_getElem_cons hlt
    refine for_it w (fun i σ2 H2 => ∃ P2 env2 G2, DInv F P2 env2 G2 σ2 H2 ∧ Same (hide H1 P) (hide H2 P2) ∧ dloop g tb Dd (items.drop i) env2 G2) ⟨P, env, G1, I1, Same.refl _, h1⟩ (fun i σ2 H2 _ ⟨P2, _, _, _, s2, _⟩ => stay H2 P2 s2) ?_ ?_
    · rintro i x σ2 H2 H3 hi ⟨P2, env2, G2, I2, s2, hd⟩ y
      obtain ⟨s3, d, ed, rd⟩ := yld i H2 P2 x H3 hi I2.pall s2 y
      rw [drop_at ed] at hd
      have I3 := I2.ext s3
      have s13 : Same (hide H1 P) (hide H3 P2) := Same.trans s2 (hide_same s3)
      refine ⟨P2, env2, G2, .d d, _, I3, rd, hd, fun env4 σ4 I4 _ h4 => ?_⟩
      have k4 := k.mono (Same.trans (I1.sm s1) s13)
      exact ⟨P2, env4, G2, _, I4, h4, ⟨fun P5 e5 G5 σ5 H5 I5 s5 h5 => ⟨P5, e5, G5, I5, Same.trans s13 s5, h5⟩, fun P5 e5 G5 σ5 H5 I5 s5 h5 => k4.nx P5 e5 G5 σ5 H5 I5 s5 h5, fun P5 e5 G5 σ5 H5 I5 s5 h5 => ⟨P5, e5, G5, I5, Same.trans s13 s5, h5⟩, k4.rt⟩⟩
    · rintro σ2 H2 ⟨P2, env2, G2, I2, s2, hd⟩
      rw [List.drop_length] at hd
      exact (k.mono (I1.sm s1)).nx P2 env2 G2 σ2 H2 I2 s2 hd⟩
/-! ### comprehensions -/
def lcl (g : TDG) (tt : TDT) (te : TDE) (env0 : DEnv) : List D → List D → GS → (List D → GS → Prop) → Prop
  | [], acc, G, Q => Q acc G
  | x :: r, acc, G, Q => g (.d x) env0 fun env2 => tt env2 G fun b G1 => if b = true then te env2 G1 fun y G2 => asD y fun z => acc.length < sizeLine ∧ lcl g tt te env0 r (acc ++ [z]) G2 Q else lcl g tt te env0 r acc G1 Q
def tdLcF (ti : TDI) (g : TDG) (tt : TDT) (te : TDE) (vs : List Nat) : TDF := fun env G Q => ti env G fun items G1 => lcl g tt te (wipeD env vs) items [] G1 Q
def tdLc (ti : TDI) (g : TDG) (tt : TDT) (te : TDE) (vs : List Nat) : TDE := fun env G Q => tdLcF ti g tt te vs env G fun ys G1 => Q (.d (.list ys)) G1
def lTs (F : Fx) (t : TDT) : TT := lT F t
abbrev DTs (X : Cx) (F : Fx) (ifs : List Expr) (t : TDT) : Prop := PTs X ifs (lT F t)
def tdYes : TDT := fun _ G Q => Q true G
theorem PTs.imp {ifs : List Expr} {t t' : TT} (h : PTs X ifs t) (i : ∀ σ H Q, t' σ H Q → t σ H Q) : PTs X ifs t' := ⟨fun pins s σ H Q I q => h.run pins s σ H Q I (i σ H Q q)⟩
theorem dts_nil : DTs X F [] tdYes := PTs.imp pts_nil fun σ H Q ⟨P, env, G, Qd, I, h, k⟩ => k true H G I (Kp.refl _) h
theorem dts_one {t : TDT} (h : DT X F c t) : DTs X F [c] t := pts_one h
theorem wipe_wipe {σ : L2.St} {vs : List Nat} : ∀ ws : List Nat, (∀ i ∈ ws, i ∈ vs) → wipe (wipe σ vs) ws = wipe σ vs
  | [], _ => rfl
  | v :: ws, hv => by
    show (wipe (wipe σ vs) ws).set v none = wipe σ vs
    rw [wipe_wipe ws fun i m => hv i (List.mem_cons_of_mem _ m)]
    have mv := hv v List.mem_cons_self
    apply List.ext_getElem?
    intro j
    by_cases hj : v = j
    · subst hj
      by_cases hlt : v < (wipe σ vs).length
      · rw [List.getElem?_set_self hlt]
        have key : ∀ (us : List Nat), v ∈ us → v < (wipe σ us).length → (wipe σ us)[v]? = some none := by
          intro us
          induction us with
          | nil => intro h; cases h
          | cons u us ih2 =>
            intro h hl
            have hl' : v < (wipe σ us).length := by rw [L2.wipe_length] at hl ⊢; exact hl
            show ((wipe σ us).set u none)[v]? = some none
            by_cases hu : u = v
            · subst hu; exact List.getElem?_set_self hl'
            · rw [List.getElem?_set_ne hu]
              exact ih2 ((List.mem_cons.mp h).resolve_left (fun z => hu z.symm)) hl'
        exact (key vs mv hlt).symm
      · rw [List.getElem?_eq_none (by rw [List.length_set]; omega), List.getElem?_eq_none (by omega)]
    · rw [List.getElem?_set_ne hj]
theorem Kp.hidden {P : List Addr} {env : DEnv} {G : GS} {σ : L2.St} {H H' : Hp} {L : Addr} (n0 : L ∉ F.ga) (k : Kp F H H') {o : HO} (e : H L = some o) : H' L = some o := k L o e n0
/-- a list that was hidden is shown -/
theorem DInv.show {P : List Addr} {env : DEnv} {G : GS} {σ : L2.St} {H0 H : Hp} {L : Addr} {us : List V} (I0 : DInv F P env G σ H0) (nLP : L ∉ P) {G1 : GS} (J : HInv F (L :: P) G1 H) (k : Kp F H0 H) : HInv F P G1 H := by
  have s : Same (hide H (L :: P)) (hide H P) := hide_less fun a m => List.mem_cons_of_mem _ m
  refine ⟨J.fr, fun a m => J.pd a (List.mem_cons_of_mem _ m), I0.h.sub, I0.h.gp, I0.h.g0, I0.h.gn, Paired.mapP J.gl fun a o q => ?_⟩
  cases o with
  | dict kvs =>
    obtain ⟨ks, z1, z2⟩ := q
    exact ⟨ks, z1, Paired.mapP z2 fun _ _ ⟨y1, y2⟩ => ⟨y1, Rp.mono s y2⟩⟩
  | tab b q' => exact q
theorem lc_read {wi : TDI} {ix vs : List Nat} {g : TDG} {tt : TDT} {te : TDE} {σ : L2.St} {H : Hp} {Q : VK} (hix : ∀ i ∈ ix, i ∈ vs) (h : lF F (tdLcF wi g tt te vs) σ H Q) : tLc (lI F wi) (lG F ix g) (lT F tt) (lE F te) vs σ H Q := by
  obtain ⟨P, env, G, Qd, I, h, k⟩ := h
  refine ⟨P, env, G, _, I, h, fun J H1 items G1 I1 s1 it h1 => ?_⟩
  intro L hL
  obtain ⟨Gd, Y, w, stay, yld⟩ := it.ok
  have drop_at : ∀ {i : Nat} {d : D}, items[i]? = some d → items.drop i = d :: items.drop (i + 1) := fun {i d} e => by
    obtain ⟨hlt, e⟩ := List.getElem?_eq_some_iff.mp e
    rw [← e]; exact List.drop_eq_getElem_cons hlt
  have IL := I1.hideOne (vs := []) hL
  have eh : hide (upd H1 L (.lst [])) (L :: P) = hide H1 P := hide_new hL
  have nLP : L ∉ P := I1.h.notP hL
  have n0 : F.H0 L = none := I1.h.H0new hL
  have nga : L ∉ F.ga := I1.h.notGa n0
  have no : ∀ (i : Nat) (ys : List D), env[i]? = some (some (.own ys)) → σ[i]? ≠ some (some (.ref L)) := fun i ys e z => by
    obtain ⟨v, e1, q, ws, h1, h2, h3, h4, _⟩ := I1.sl i _ e
    rw [e1, h1] at z
    cases z
    rw [hL] at h4; cases h4
  -- what has changed: the globals and L
  refine lc_it w (fun i H2 => ∃ G2 us acc, DInv F (L :: P) env G2 σ H2 ∧ H2 L = some (.lst us) ∧ RpAll (hide H2 (L :: P)) us acc ∧ Kp F H1 H2 ∧ Same (hide H1 P) (hide H2 (L :: P)) ∧ lcl g tt te (wipeD env vs) (items.drop i) acc G2 Qd)
    ⟨G1, [], [], IL, upd_same, .nil, Kp.of (same_upd hL), (by rw [eh]; exact Same.refl _), h1⟩ (fun i H2 _ ⟨_, _, _, _, _, _, _, s2, _⟩ => stay H2 _ s2) ?_ ?_
  · rintro i x H2 H3 hi ⟨G2, us, acc, I2, e2, r2, k2, s2, hd⟩ y
    obtain ⟨s3, d, ed, rd⟩ := yld i H2 _ x H3 hi I2.pall s2 y
    rw [drop_at ed] at hd
    have I2' := I2.ext s3
    have I3 := I2'.wipe vs
    have s13 : Same (hide H1 P) (hide H3 (L :: P)) := Same.trans s2 (hide_same s3)
    refine ⟨L :: P, wipeD env vs, G2, .d d, _, I3, rd, hd, fun env4 σ4 I4 w4 h4 => ⟨by rw [w4 vs hix]; exact wipe_wipe vs fun _ m => m, ?_⟩⟩
    refine ⟨L :: P, env4, G2, _, I4, h4, fun b H5 G5 I5 k5 h5 => ?_⟩
    have I5o : DInv F (L :: P) env G5 σ H5 := I2'.later I5.h k5
    have e5 : H5 L = some (.lst us) := k5 L _ (s3 _ _ e2) nga
    have r5 : RpAll (hide H5 (L :: P)) us acc := RpAll.mono (I5.sm (Kp.trans (Kp.of s3) k5)) r2
    have k15 : Kp F H1 H5 := Kp.trans k2 (Kp.trans (Kp.of s3) k5)
    have s15 : Same (hide H1 P) (hide H5 (L :: P)) := Same.trans s13 (I5.sm k5)
    cases b with
    | false => exact ⟨G5, us, acc, I5o, e5, r5, k15, s15, h5⟩
    | true =>
      refine ⟨L :: P, env4, G5, _, I5, h5, fun v H6 z G6 I6 k6 r6 h6 => ?_⟩
      obtain ⟨dz, rfl, hz, h7⟩ := asD_inv (x := z) h6
      have I6o : DInv F (L :: P) env G6 σ H6 := I5o.later I6.h k6
      have e6 : H6 L = some (.lst us) := k6 L _ e5 nga
      have r6' : RpAll (hide H6 (L :: P)) us acc := RpAll.mono (I6.sm k6) r5
      refine ⟨us, e6, by rw [r6'.len]; exact hz, G6, us ++ [v], acc ++ [dz], ?_, upd_same, ?_, ?_, ?_, h7⟩
      · exact I6o.updHid List.mem_cons_self n0 e6 no
      · rw [hide_upd List.mem_cons_self]; exact RpAll.append r6' (.cons r6 .nil)
      · refine fun a o q n => ?_
        have := Kp.trans k15 k6 a o q n
        by_cases hz : a = L
        · subst hz; rw [hL] at q; cases q
        · rw [upd_ne hz]; exact this
      · rw [hide_upd List.mem_cons_self]; exact Same.trans s15 (I6.sm k6)
  · rintro H2 ⟨G2, us, acc, I2, e2, r2, k2, s2, hd⟩
    rw [List.drop_length] at hd
    exact k L H2 us acc G2 ⟨I2, Kp.trans s1 k2, Same.trans (I1.sm s1) s2, nLP, n0, e2, r2, fun i ys e z => no i ys e z⟩ hd
theorem df_lc {elt tg iter : Expr} {ifs : List Expr} {scope : Scope} {own : List (Str × Nat)} {wi : TDI} {ix : List Nat} {g : TDG} {tt : TDT} {te : TDE} (hc : X.calm = true) (hN : X.N.Nodup) (hi : DI X F tg iter wi) (ok : BlkOk X.N X.env.scope scope own)
    (hg : ∀ (s : Shared) (H : Hp) (C : Addr) (cl : List (Str × Addr)) (fp : List Addr), DG (X.blk s H scope (compEnvC scope cl C X.env) fp) F ix tg g) (ht : ∀ (s : Shared) (H : Hp) (C : Addr) (cl : List (Str × Addr)) (fp : List Addr), DTs (X.blk s H scope (compEnvC scope cl C X.env) fp) F ifs tt)
    (he : ∀ (s : Shared) (H : Hp) (C : Addr) (cl : List (Str × Addr)) (fp : List Addr), DE (X.blk s H scope (compEnvC scope cl C X.env) fp) F elt te) (hix : ∀ i ∈ ix, i ∈ own.map (·.2) := by decide) (hs : ∀ x, foldedSetIterable iter X.env x = pure x := by intro _; rfl) :
    DF X F (.ListComp elt [⟨tg, iter, ifs, 0⟩] scope pos) (tdLcF wi g tt te (own.map (·.2))) :=
  PE.imp (pe_lc hc hN hi ok hg ht he hs) fun _ _ _ h => lc_read hix h
/-- a fresh list as a value -/
theorem de_fresh {t : TDF} (h : DF X F e t) : DE X F e (fun env G Q => t env G fun ys G1 => Q (.d (.list ys)) G1) :=
  PE.imp h fun σ H Q ⟨P, env, G, Qd, I, h, k⟩ => ⟨P, env, G, _, I, h, fun p H1 vs xs G1 f h1 => by
    have J : HInv F P G1 H1 := DInv.show (us := vs) I f.nP f.inv.h f.kp
    have s : Same (hide H1 (p :: P)) (hide H1 P) := hide_less fun a m => List.mem_cons_of_mem _ m
    exact k (.ref p) H1 (.d (.list xs)) G1 (I.later J f.kp) f.kp (Rp.lst (by rw [hide_out f.nP]; exact f.at_) (RpAll.mono s f.rp)) h1⟩
/-- y = [..] on its own line -/
theorem ds_ownLc {i : Nat} {y : Str} {py spos : Pos} {elt tg iter : Expr} {ifs : List Expr} {scope : Scope} {own : List (Str × Nat)} {wi : TDI} {ix : List Nat} {g : TDG} {tt : TDT} {te : TDE} (hc : X.calm = true) (hN : X.N.Nodup) (hi : DI X F tg iter wi) (ok : BlkOk X.N X.env.scope scope own)
    (hg : ∀ (s : Shared) (H : Hp) (C : Addr) (cl : List (Str × Addr)) (fp : List Addr), DG (X.blk s H scope (compEnvC scope cl C X.env) fp) F ix tg g) (ht : ∀ (s : Shared) (H : Hp) (C : Addr) (cl : List (Str × Addr)) (fp : List Addr), DTs (X.blk s H scope (compEnvC scope cl C X.env) fp) F ifs tt)
    (he : ∀ (s : Shared) (H : Hp) (C : Addr) (cl : List (Str × Addr)) (fp : List Addr), DE (X.blk s H scope (compEnvC scope cl C X.env) fp) F elt te) (hy : X.N[i]? = some y := by rfl) (hyl : X.env.scope.names.lookup y = some .local := by rfl) (hix : ∀ i ∈ ix, i ∈ own.map (·.2) := by decide)
    (hsw : swapsWith (.ListComp elt [⟨tg, iter, ifs, 0⟩] scope pos) (some (.Name y py)) spos.line X.env = pure true := by exact sw_true rfl rfl rfl (by decide +kernel)) (hs : ∀ x, foldedSetIterable iter X.env x = pure x := by intro _; rfl) :
    DS X F (.Assign [.Name y py] (.ListComp elt [⟨tg, iter, ifs, 0⟩] scope pos) spos) (tdOwn i (tdLcF wi g tt te (own.map (·.2)))) :=
  PS.imp (ps_setLc (i := i) hc hN hy hyl hsw hi ok hg ht he hs) fun σ H D ⟨P, env, G, Dd, I, h, k⟩ => lc_read hix ⟨P, env, G, _, I, h, fun p H1 vs xs G1 f h1 => k.nx _ _ G1 _ H1 (DInv.storeOwn f i) f.same h1⟩
end
end DL

set_option maxRecDepth 100000
set_option maxHeartbeats 4000000
/-! DL5: defs (run where no repr is under way), their calls, the law's end. -/
namespace DL
open PySem PySem.Spec PyProof.Rows L2
abbrev Sp3 := List V → Hp → VK → Prop
/-- a def holds its promise wherever there is room and no repr is under way -/
structure FnG (pr : Program) (w : World) (K : PySem.W.Frag) (mg : Str → Option Value) (base : Heap) (lv : Nat) (f : Addr) (fd : FuncData) (ps : List Str) (sp : Sp3) : Prop where
  len : ∀ vs H Q, sp vs H Q → vs.length = ps.length
  run : ∀ (A : Around) (out : List Env) (s : Shared) (H : Hp) (ar : Args) (us : List Value) (vs : List V) (Q : VK), Room lv A → A.guards = some [] → Env0 pr w K mg base A out s H → BindsTo s fd ar (ps.zip us) → Vals vs us → sp vs H Q →
    codeAny (model pr w) A (.call (.ref f) ar) (CR CX0 out pr w H s Q E0) s
section
variable {pr : Program} {w : World} {K : PySem.W.Frag} {mg : Str → Option Value} {base : Heap}
theorem FnG.mono {j lv : Nat} {f : Addr} {fd : FuncData} {ps : List Str} {sp : Sp3} (g : FnG pr w K mg base j f fd ps sp) (h : j ≤ lv) : FnG pr w K mg base lv f fd ps sp :=
  ⟨g.len, fun A out s H ar us vs Q hr => g.run A out s H ar us vs Q (hr.mono h)⟩
theorem FnG.imp {lv : Nat} {f : Addr} {fd : FuncData} {ps : List Str} {sp sp' : Sp3} (g : FnG pr w K mg base lv f fd ps sp) (h : ∀ vs H Q, sp' vs H Q → sp vs H Q) : FnG pr w K mg base lv f fd ps sp' :=
  ⟨fun vs H Q q => g.len vs H Q (h vs H Q q), fun A out s H ar us vs Q hr hg e0 hb r q => g.run A out s H ar us vs Q hr hg e0 hb r (h vs H Q q)⟩
/-- by the body -/
theorem FnG.of {x qual : Str} {st : Stmt} {f : Addr} {fd : FuncData} {N ps : List Str} {lv : Nat} {sp : Sp3} (F : Fun K x qual st f fd) (S : FnScope N ps (defScope st)) (len : ∀ vs H Q, sp vs H Q → vs.length = ps.length)
    (body : ∀ (cdv : Value) (A : Around) (out : List Env) (s : Shared) (H : Hp) (vs : List V) (Q : VK), Room lv (A.deeper (envOfC qual (defScope st) s.heap.objs.size f cdv)) → (A.deeper (envOfC qual (defScope st) s.heap.objs.size f cdv)).guards = some [] → sp vs H Q →
      ∃ t, PSs (cxOf CX0 pr w K mg base N qual (defScope st) f cdv A out s H E0).nox (defBody st) t ∧ t { nx := fun _ H' => Q .non H', rt := Q } (start N vs) H) : FnG pr w K mg base (lv + 1) f fd ps sp := by
  obtain ⟨oc, od, kV, doc, pm, an, cdv, ct, osl, rfl, at_f, code⟩ := F.ex
  constructor
  · exact len
  · intro A out s H ar us vs Q hr hg e0 hb r hsp
    have old : ∀ b o, base.get? b = some o → s.heap.get? b = some o := fun b o z => (e0.bs b o z).1
    have kin : K.In s.heap := e0.mod.kin.keeps old
    have kinds : ∀ y ∈ ps.zip us, (defScope st).names.lookup y.1 = some .local ∨ ((defScope st).names.lookup y.1 = some .cell ∧ ((cellsFrom (s.heap.objs.size + 1) (defScope st).names []).lookup y.1).isSome = true) := by
      rintro ⟨n, v⟩ hy
      refine (S.par n (List.of_mem_zip hy).1).imp id fun z => ⟨z, ?_⟩
      exact PySem.W.cellsFrom_some _ _ _ (.inl z)
    refine codeAny_call_function hr.depth (kin f _ at_f) rfl S.co S.gen rfl (PySem.W.codeRec_of kin code) (hb _ _ _ _ (wpAny_newFunctionEnv_cells S.kind kinds fun env he s1 ic => ?_))
    cases he
    have lim := e0.mod.nolimit.keeps old
    refine ⟨lim.keeps ic.toInCall.keep, codeAny_func ?_⟩
    obtain ⟨t, ht, hq⟩ := body cdv A out s H vs Q (hr.deeper _) hg hsp
    have I0 := inv_start (CX := CX0) (E := E0) S hr.hd e0 (len vs H Q hsp) r ic
    refine wpAny_mono ((PSs.nox ht).run [] s1 (start N vs) H _ I0 hq) ?_ fun _ _ z => z
    intro fl s' hs
    cases fl with
    | ret u => exact let ⟨v, σ', H', J, rv, q⟩ := hs; ⟨v, H', J.os, J.bare, J.base, J.hok, rv, q⟩
    | next => exact let ⟨σ', H', J, q⟩ := hs; ⟨.non, H', J.os, J.bare, J.base, J.hok, rfl, q⟩
    | brk => exact let ⟨_, _, _, q⟩ := hs; False.elim q
    | cont => exact let ⟨_, _, _, q⟩ := hs; False.elim q
end
/-! ### calls -/
section
variable {X : Cx} {lv : Nat} {f : Addr} {fd : FuncData} {ps ks : List Str} {sp : Sp3} {x : Str} {p pos : Pos} {e : Expr} {es : List Expr} {kws : List Keyword} {t tk : TA}
theorem call_g {pins : List (Addr × Obj)} {σ : L2.St} {H : Hp} {s : Shared} {Q : VK} {ar : Args} {us : List Value} {vs : List V} (g : FnG X.prog X.w X.K X.mg X.base lv f fd ps sp) (hr : Room lv X.A) (hg : X.A.guards = some []) (I : Inv X pins σ H s) (hb : BindsTo s fd ar (ps.zip us)) (r : Vals vs us) (h : sp vs H Q) :
    codeAny (model X.prog X.w) X.A (.call (.ref f) ar) (fun r s' => match r with | .ok (.ret u) => EP X pins σ Q u s' | _ => False) s := by
  refine codeAny_mono (g.run X.A X.stack s H ar us vs Q hr hg I.env0 hb r h) fun r s' q => ?_
  match r, q with
  | .ok (.ret u), q => exact I.after q
  | .ok .next, q => exact False.elim q
  | .ok .brk, q => exact False.elim q
  | .ok .cont, q => exact False.elim q
  | .error e, q => exact False.elim q
theorem wp_call_g {pins : List (Addr × Obj)} {σ : L2.St} {H : Hp} {s : Shared} {Q : VK} {us' : List Value} {kw : List (Str × Value)} {us : List Value} {vs : List V} (g : FnG X.prog X.w X.K X.mg X.base lv f fd ps sp) (hr : Room lv X.A) (hg : X.A.guards = some []) (I : Inv X pins σ H s) (hb : BindsTo s fd ⟨us', kw⟩ (ps.zip us)) (r : Vals vs us) (h : sp vs H Q) :
    wpAny (model X.prog X.w) X.A (call (.ref f) us' kw) (EP X pins σ Q) X.xe s := by
  refine wpAny_call (codeAny_mono (call_g g hr hg I hb r h) fun r s' q => ?_)
  match r, q with
  | .ok (.ret u), q => exact q
  | .ok .next, q => exact False.elim q
  | .ok .brk, q => exact False.elim q
  | .ok .cont, q => exact False.elim q
  | .error e, q => exact False.elim q
def tCallG (sp : Sp3) (t : TA) : TE := fun σ H Q => t σ H fun vs H1 => sp vs H1 Q
theorem pe_callG (g : FnG X.prog X.w X.K X.mg X.base lv f fd ps sp) (hr : Room lv X.A) (hgd : X.A.guards = some []) (hm : X.mg x = some (.ref f)) (hk : PySem.W.keepIn X.K (.ref f) = true) (hb : Binds X.K fd ps []) (ha : PA X (e :: es) t) (hg : Gl X x := by rfl)
    (hdb : (x == ("__debug__" : Str)) = false := by decide) (he : starEach (e :: es) X.env = (false, eval e X.env) :: starEach es X.env := by rfl) (hpl : (backTo pos (starEach es X.env)).any (·.1) = false := by rfl) :
    PE X (.Call (.Name x p) (e :: es) [] pos) (tCallG sp t) := by
  constructor
  intro pins s σ H Q I h
  apply wpAny_Call_Name_kw
  apply ld_glob I hg hm _ hdb
  refine PySem.W.callWith_K (h₀ := X.base) I.ok.mod.kin hk (thn (ha.run pos pins s σ H _ I h) ?_) he hpl
  rintro us s1 ⟨vs, H1, I1, r, q⟩
  have hl : (us ++ []).length = ps.length := by
    rw [List.append_nil, ← r.length]; exact g.len _ _ _ q
  refine ⟨I1.kIn, wp_call_g g hr hgd I1 (hb s1 us I1.kIn hl) ?_ q⟩
  rw [List.append_nil]; exact r
theorem pe_callG0 (g : FnG X.prog X.w X.K X.mg X.base lv f fd ps sp) (hr : Room lv X.A) (hgd : X.A.guards = some []) (hm : X.mg x = some (.ref f)) (hk : PySem.W.keepIn X.K (.ref f) = true) (hb : Binds X.K fd ps []) (hg : Gl X x := by rfl)
    (hdb : (x == ("__debug__" : Str)) = false := by decide) : PE X (.Call (.Name x p) [] [] pos) (tCallG sp tNil) := by
  constructor
  intro pins s σ H Q I h
  apply wpAny_Call_Name_kw
  apply ld_glob I hg hm _ hdb
  have h0 : sp [] H Q := h
  exact PySem.W.callWith_K0 I.kIn hk (wp_call_g (us := []) (us' := []) g hr hgd I (hb s [] I.kIn (g.len _ _ _ h0)) .nil h0)
/-- f(k = v, ..) -/
def tCallGK (sp : Sp3) (gV : List V → List V) (tk : TA) : TE := fun σ H Q => tk σ H fun zs H1 => sp (gV zs) H1 Q
structure KwB (K : PySem.W.Frag) (fd : FuncData) (ps ks : List Str) (gv : List Value → List Value) (gV : List V → List V) : Prop where
  to : ∀ (s : Shared) (ws : List Value), K.In s.heap → (gv ws).length = ps.length → BindsTo s fd ⟨[], ks.zip ws⟩ (ps.zip (gv ws))
  rel : ∀ {zs : List V} {ws : List Value}, Vals zs ws → Vals (gV zs) (gv ws)
theorem pe_callGK {gv : List Value → List Value} {gV : List V → List V} (g : FnG X.prog X.w X.K X.mg X.base lv f fd ps sp) (hr : Room lv X.A) (hgd : X.A.guards = some []) (hm : X.mg x = some (.ref f)) (hk : PySem.W.keepIn X.K (.ref f) = true) (hb : KwB X.K fd ps ks gv gV) (hkw : PK X kws tk) (hg : Gl X x := by rfl)
    (hall : (backToKw pos (keywordEach kws X.env)).all (·.1.isSome) = true := by rfl) (hks : (backToKw pos (keywordEach kws X.env)).filterMap (·.1) = ks := by rfl) (hdb : (x == ("__debug__" : Str)) = false := by decide)
    (hpl : ((backTo pos (starEach [] X.env)).any (·.1) || (backToKw pos (keywordEach kws X.env)).any (·.1.isNone)) = false := by rfl) :
    PE X (.Call (.Name x p) [] kws pos) (tCallGK sp gV tk) := by
  constructor
  intro pins s σ H Q I h
  apply wpAny_Call_Name_kw
  apply ld_glob I hg hm _ hdb
  refine PySem.W.callWith_KW0 (h₀ := X.base) I.ok.mod.kin hk hall (thn (hkw.run pos pins s σ H _ I h) ?_) hpl
  rintro ws s1 ⟨zs, H1, I1, r, q⟩
  rw [hks]
  have r2 := hb.rel r
  exact ⟨I1.kIn, wp_call_g g hr hgd I1 (hb.to s1 ws I1.kIn (by rw [← r2.length]; exact g.len _ _ _ q)) r2 q⟩
end
/-! ### promises over data -/
abbrev CT := List SV → GS → (SV → GS → Prop) → Prop
structure CInv (ga P : List Addr) (G : GS) (H : Hp) : Prop where
  pd : ∀ a ∈ P, ∃ o, H a = some o
  gp : ∀ a ∈ ga, a ∈ P
  gn : ga.Nodup
  gl : Paired (GRel P H) ga G
def fxC (K : PySem.W.Frag) (ga : List Addr) : Fx := ⟨K, ga, fun _ => none, [], fun _ h => nomatch h⟩
/-- the promise of a def as read over data -/
def lSp (K : PySem.W.Frag) (ct : CT) : Sp3 := fun vs H Q => ∃ ga P G xs Qd, CInv ga P G H ∧ Paired (VRel (fxC K ga) P H) xs vs ∧ ct xs G Qd ∧
  ∀ v H' x G', (∀ a o, H a = some o → a ∉ ga → H' a = some o) → CInv ga P G' H' → VRel (fxC K ga) P H' x v → Qd x G' → Q v H'
theorem vrel_fx {F : Fx} {P : List Addr} {H : Hp} : ∀ {x : SV} {v : V}, VRel F P H x v → VRel (fxC F.K F.ga) P H x v
  | .d _, _, h => h
  | .own _, _, h => h
  | .g _, _, h => h
  | .scr _, _, h => h
  | .adr _, _, h => h
  | .exc _ _ _, _, h => h
theorem vrel_xf {F : Fx} {P : List Addr} {H : Hp} : ∀ {x : SV} {v : V}, VRel (fxC F.K F.ga) P H x v → VRel F P H x v
  | .d _, _, h => h
  | .own _, _, h => h
  | .g _, _, h => h
  | .scr _, _, h => h
  | .adr _, _, h => h
  | .exc _ _ _, _, h => h
theorem HInv.cinv {F : Fx} {P : List Addr} {G : GS} {H : Hp} (h : HInv F P G H) : CInv F.ga P G H := ⟨h.pd, h.gp, h.gn, h.gl⟩
def startD (n : Nat) (xs : List SV) : DEnv := xs.map some ++ List.replicate (n - xs.length) none
theorem start_inv {K : PySem.W.Frag} {ga P : List Addr} {G : GS} {H : Hp} {N : List Str} {xs : List SV} {vs : List V} (c : CInv ga P G H) (r : Paired (VRel (fxC K ga) P H) xs vs) (F : Fx) (e1 : F.K = K) (e2 : F.ga = ga) (e3 : F.H0 = H) (e4 : F.P0 = P) : DInv F P (startD N.length xs) G (start N vs) H := by
  have hl : xs.length = vs.length := Paired.length r
  refine ⟨⟨fun a o q _ => by rw [e3] at q; exact q, c.pd, fun a m => by rw [e4] at m; exact m, fun a m => by rw [e2] at m; exact c.gp a m, fun a m => by rw [e2] at m; rw [e3]; exact c.pd a (c.gp a m), by rw [e2]; exact c.gn, by rw [e2]; exact c.gl⟩, ?_, fun i sv q => ?_, fun i j ys zs v w hij q1 q2 q3 q4 => ?_⟩
  · unfold L2.start startD
    simp only [List.length_append, List.length_map, List.length_replicate, hl]
  · have hi : i < xs.length := by
      unfold startD at q
      by_cases hi : i < xs.length
      · exact hi
      · rw [List.getElem?_append_right (by simpa using hi), List.getElem?_replicate] at q
        split at q <;> cases q
    have q' : xs[i]? = some sv := by
      unfold startD at q
      rw [List.getElem?_append_left (by simpa using hi), List.getElem?_map] at q
      cases z : xs[i]? with
      | none => rw [z] at q; cases q
      | some a => rw [z] at q; cases q; rfl
    have pg : ∀ {xs : List SV} {vs : List V} {i : Nat} {x : SV}, Paired (VRel (fxC K ga) P H) xs vs → xs[i]? = some x → ∃ v, vs[i]? = some v ∧ VRel (fxC K ga) P H x v := by
      intro xs vs i x r
      induction r generalizing i with
      | nil => intro q; simp at q
      | cons a b ih =>
        intro q
        cases i with
        | zero => simp at q; subst q; exact ⟨_, rfl, a⟩
        | succ i => exact ih (i := i) (by simpa using q)
    obtain ⟨v, ev, rv⟩ := pg r q'
    refine ⟨v, ?_, ?_⟩
    · unfold L2.start
      rw [List.getElem?_append_left (by rw [List.length_map]; omega), List.getElem?_map, ev]
      rfl
    · have : VRel F P H sv v := by
        cases sv with
        | d x => exact rv
        | own x => exact rv
        | g n => obtain ⟨a, z1, z2⟩ := rv; exact ⟨a, by rw [e2]; exact z1, z2⟩
        | scr ns => obtain ⟨a, z1, z2⟩ := rv; exact ⟨a, z1, by rw [e1]; exact z2⟩
        | adr a => exact rv
        | exc a dd fs => exact rv
      exact this.srel
  · exfalso
    unfold startD at q1
    by_cases hi : i < xs.length
    · rw [List.getElem?_append_left (by simpa using hi), List.getElem?_map] at q1
      have own_no : ∀ {xs : List SV} {vs : List V} {i : Nat} {y : List D}, Paired (VRel (fxC K ga) P H) xs vs → xs[i]? = some (.own y) → False := by
        intro xs vs i y r
        induction r generalizing i with
        | nil => intro q; simp at q
        | cons a b ih =>
          intro q
          cases i with
          | zero => simp at q; subst q; exact a
          | succ i => exact ih (i := i) (by simpa using q)
      cases z : xs[i]? with
      | none => rw [z] at q1; cases q1
      | some a => rw [z] at q1; cases q1; exact own_no r z
    · rw [List.getElem?_append_right (by simpa using hi), List.getElem?_replicate] at q1
      split at q1 <;> cases q1
section
variable {pr : Program} {w : World} {K : PySem.W.Frag} {mg : Str → Option Value} {base : Heap}
/-- THE RULE for a def over data: t the reading of its body, the same for all frames -/
theorem FnG.data {x qual : Str} {st : Stmt} {f : Addr} {fd : FuncData} {N ps : List Str} {lv : Nat} {ct : CT} (Fn : Fun K x qual st f fd) (S : FnScope N ps (defScope st)) (t : TDS)
    (body : ∀ (cdv : Value) (A : Around) (out : List Env) (s : Shared) (H : Hp) (F : Fx), F.K = K → Room lv (A.deeper (envOfC qual (defScope st) s.heap.objs.size f cdv)) → (A.deeper (envOfC qual (defScope st) s.heap.objs.size f cdv)).guards = some [] →
      DSs (cxOf CX0 pr w K mg base N qual (defScope st) f cdv A out s H E0).nox F (defBody st) t)
    (read : ∀ xs G Q, ct xs G Q → xs.length = ps.length ∧ t { nx := fun _ G' => Q (.d .none) G', rt := Q } (startD N.length xs) G) : FnG pr w K mg base (lv + 1) f fd ps (lSp K ct) := by
  refine FnG.of Fn S (fun vs H Q h => ?_) fun cdv A out s H vs Q hr hg h => ?_
  · obtain ⟨ga, P, G, xs, Qd, c, r, h, _⟩ := h
    rw [← Paired.length r]
    exact (read xs G Qd h).1
  · obtain ⟨ga, P, G, xs, Qd, c, r, h, k⟩ := h
    let F : Fx := ⟨K, ga, H, P, c.pd⟩
    refine ⟨lS F t, body cdv A out s H F rfl hr hg, P, startD N.length xs, G, _, start_inv c r F rfl rfl rfl rfl, (read xs G Qd h).2, ?_⟩
    have fin : ∀ {P' : List Addr} {G' : GS} {H' : Hp}, HInv F P' G' H' → CInv ga P G' H' ∧ Same (hide H' P') (hide H' P) := by
      intro P' G' H' J
      have less : Same (hide H' P') (hide H' P) := hide_less fun a m => J.sub a m
      refine ⟨⟨fun a m => J.pd a (J.sub a m), c.gp, c.gn, Paired.mapP J.gl fun a o q => ?_⟩, less⟩
      cases o with
      | dict kvs =>
        obtain ⟨ks, z1, z2⟩ := q
        exact ⟨ks, z1, Paired.mapP z2 fun _ _ ⟨y1, y2⟩ => ⟨y1, Rp.mono less y2⟩⟩
      | tab b q' => exact q
    constructor
    · intro P' env' G' σ' H' J s' h'
      obtain ⟨c', less⟩ := fin J.h
      exact k .non H' (.d .none) G' (fun a o q n => J.h.fr a o q n) c' Rp.non h'
    · intro P' env' G' σ' H' J s' h'; exact h'
    · intro P' env' G' σ' H' J s' h'; exact h'
    · intro P' v H' y G' J s' rv h'
      obtain ⟨c', less⟩ := fin J
      exact k v H' y G' (fun a o q n => J.fr a o q n) c' (VRel.mono less (vrel_fx rv)) h'
end
/-! ### calls over data -/
section
variable {X : Cx} {F : Fx} {lv : Nat} {f : Addr} {fd : FuncData} {ps ks : List Str} {ct : CT} {x : Str} {p pos : Pos} {e : Expr} {es : List Expr} {kws : List Keyword} {t : TDA}
def tdFn (ct : CT) (t : TDA) : TDE := fun env G Q => t env G fun xs G1 => ct xs G1 Q
theorem lSp_of {P : List Addr} {env : DEnv} {G1 : GS} {σ : L2.St} {H1 : Hp} {vs : List V} {xs : List SV} {Qd : SV → GS → Prop} {Q : VK} (hK : F.K = X.K) (I1 : DInv F P env G1 σ H1) (r1 : Paired (VRel F P H1) xs vs) (h1 : ct xs G1 Qd)
    (k : ∀ v H' y G', DInv F P env G' σ H' → Kp F H1 H' → VRel F P H' y v → Qd y G' → Q v H') : lSp X.K ct vs H1 Q := by
  refine ⟨F.ga, P, G1, xs, Qd, I1.h.cinv, Paired.mapP r1 fun _ _ q => by rw [← hK]; exact vrel_fx q, h1, fun v H2 y G2 fr c2 rv h2 => ?_⟩
  have J : HInv F P G2 H2 := ⟨fun a o q n => fr a o (I1.h.fr a o q n) n, c2.pd, I1.h.sub, I1.h.gp, I1.h.g0, I1.h.gn, c2.gl⟩
  exact k v H2 y G2 (I1.later J fr) fr (by rw [← hK] at rv; exact vrel_xf rv) h2
theorem de_fn (g : FnG X.prog X.w X.K X.mg X.base lv f fd ps (lSp X.K ct)) (hr : Room lv X.A) (hgd : X.A.guards = some []) (hK : F.K = X.K) (hm : X.mg x = some (.ref f)) (hk : PySem.W.keepIn X.K (.ref f) = true) (hb : Binds X.K fd ps []) (ha : DA X F (e :: es) t) (hg : Gl X x := by rfl)
    (hdb : (x == ("__debug__" : Str)) = false := by decide) (he : starEach (e :: es) X.env = (false, eval e X.env) :: starEach es X.env := by rfl) (hpl : (backTo pos (starEach es X.env)).any (·.1) = false := by rfl) :
    DE X F (.Call (.Name x p) (e :: es) [] pos) (tdFn ct t) :=
  PE.imp (pe_callG g hr hgd hm hk hb ha hg hdb he hpl) fun σ H Q ⟨P, env, G, Qd, I, h, k⟩ => ⟨P, env, G, _, I, h, fun vs H1 xs G1 I1 s1 r1 h1 => lSp_of hK I1 r1 h1 fun v H2 y G2 I2 s2 r2 h2 => k v H2 y G2 I2 (Kp.trans s1 s2) r2 h2⟩
theorem de_fn0 (g : FnG X.prog X.w X.K X.mg X.base lv f fd ps (lSp X.K ct)) (hr : Room lv X.A) (hgd : X.A.guards = some []) (hK : F.K = X.K) (hm : X.mg x = some (.ref f)) (hk : PySem.W.keepIn X.K (.ref f) = true) (hb : Binds X.K fd ps []) (hg : Gl X x := by rfl)
    (hdb : (x == ("__debug__" : Str)) = false := by decide) : DE X F (.Call (.Name x p) [] [] pos) (tdFn ct tdNil) :=
  PE.imp (pe_callG0 g hr hgd hm hk hb hg hdb) fun σ H Q ⟨P, env, G, Qd, I, h, k⟩ => lSp_of (vs := []) hK I .nil h k
/-- keyword arguments alone -/
abbrev DK (X : Cx) (F : Fx) (kws : List Keyword) (t : TDA) : Prop := PK X kws (lA F t)
theorem PK.imp {t t' : TA} (h : PK X kws t) (i : ∀ σ H Q, t' σ H Q → t σ H Q) : PK X kws t' := ⟨fun pos pins s σ H Q I q => h.run pos pins s σ H Q I (i σ H Q q)⟩
theorem dk_nil : DK X F [] tdNil := PK.imp pk_nil fun σ H Q ⟨P, env, G, Qd, I, h, k⟩ => k [] H [] G I (Kp.refl _) .nil h
theorem dk_cons {nm : Option Str} {kpos : Pos} {te : TDE} (ha : DE X F e te) (hr : DK X F kws t) : DK X F (⟨nm, e, kpos⟩ :: kws) (tdCons te t) :=
  PK.imp (pk_cons ha hr) fun σ H Q ⟨P, env, G, Qd, I, h, k⟩ => ⟨P, env, G, _, I, h, fun v H1 y G1 I1 s1 r1 h1 =>
    ⟨P, env, G1, _, I1, h1, fun vs H2 xs G2 I2 s2 r2 h2 => k (v :: vs) H2 (y :: xs) G2 I2 (Kp.trans s1 s2) (.cons (VRel.mono (I2.sm s2) r1) r2) h2⟩⟩
def tdFnK (ct : CT) (gS : List SV → List SV) (t : TDA) : TDE := fun env G Q => t env G fun xs G1 => ct (gS xs) G1 Q
theorem de_fnK {gv : List Value → List Value} {gV : List V → List V} {gS : List SV → List SV} (g : FnG X.prog X.w X.K X.mg X.base lv f fd ps (lSp X.K ct)) (hr : Room lv X.A) (hgd : X.A.guards = some []) (hK : F.K = X.K) (hm : X.mg x = some (.ref f)) (hk : PySem.W.keepIn X.K (.ref f) = true)
    (hb : KwB X.K fd ps ks gv gV) (hS : ∀ {R : SV → V → Prop} {xs : List SV} {vs : List V}, Paired R xs vs → Paired R (gS xs) (gV vs)) (ha : DK X F kws t) (hg : Gl X x := by rfl)
    (hall : (backToKw pos (keywordEach kws X.env)).all (·.1.isSome) = true := by rfl) (hks : (backToKw pos (keywordEach kws X.env)).filterMap (·.1) = ks := by rfl) (hdb : (x == ("__debug__" : Str)) = false := by decide)
    (hpl : ((backTo pos (starEach [] X.env)).any (·.1) || (backToKw pos (keywordEach kws X.env)).any (·.1.isNone)) = false := by rfl) :
    DE X F (.Call (.Name x p) [] kws pos) (tdFnK ct gS t) :=
  PE.imp (pe_callGK g hr hgd hm hk hb ha hg hall hks hdb hpl) fun σ H Q ⟨P, env, G, Qd, I, h, k⟩ => ⟨P, env, G, _, I, h, fun vs H1 xs G1 I1 s1 r1 h1 => lSp_of hK I1 (hS r1) h1 fun v H2 y G2 I2 s2 r2 h2 => k v H2 y G2 I2 (Kp.trans s1 s2) r2 h2⟩
/-! own lists lent to a def that changes nothing and gives no object -/
def lAO (F : Fx) (t : TDA) : TA := fun σ H Q => ∃ P env G Qd, DInv F P env G σ H ∧ t env G Qd ∧ ∀ vs H' xs G', DInv F P env G' σ H' → Kp F H H' → Paired (SRel F P H') xs vs → Qd xs G' → Q vs H'
abbrev DAO (X : Cx) (F : Fx) (es : List Expr) (t : TDA) : Prop := PA X es (lAO F t)
theorem SRel.later {P : List Addr} {env : DEnv} {G : GS} {σ : L2.St} {H H' : Hp} (I : DInv F P env G σ H') (k : Kp F H H') : ∀ {y : SV} {v : V}, SRel F P H y v → SRel F P H' y v
  | .d _, _, h => Rp.mono (I.sm k) h
  | .own _, _, ⟨q, vs, y1, y2, y3, y4, y5⟩ => ⟨q, vs, y1, y2, y3, k q _ y4 (I.h.notGa y3), RpAll.mono (I.sm k) y5⟩
  | .g _, _, h => h
  | .scr _, _, ⟨a, y1, y2⟩ => ⟨a, y1, Same.seq (I.sm k) y2⟩
  | .adr _, _, h => h
  | .exc _ _ _, _, h => XcR.mono (I.sm k) h
theorem dao_nil : DAO X F [] tdNil := PA.imp pa_nil fun σ H Q ⟨P, env, G, Qd, I, h, k⟩ => k [] H [] G I (Kp.refl _) .nil h
theorem dao_cons {te : TDE} (ha : DE X F e te) (hr : DAO X F es t) (hs : starEach (e :: es) X.env = (false, eval e X.env) :: starEach es X.env := by rfl) : DAO X F (e :: es) (tdCons te t) :=
  PA.imp (pa_cons ha hr hs) fun σ H Q ⟨P, env, G, Qd, I, h, k⟩ => ⟨P, env, G, _, I, h, fun v H1 y G1 I1 s1 r1 h1 =>
    ⟨P, env, G1, _, I1, h1, fun vs H2 xs G2 I2 s2 r2 h2 => k (v :: vs) H2 (y :: xs) G2 I2 (Kp.trans s1 s2) (.cons (SRel.later I2 s2 (VRel.srel r1)) r2) h2⟩⟩
def tdOwnArg (i : Nat) (t : TDA) : TDA := fun env G Q => isOwn (look env i) fun ys => t env G fun xs G1 => Q (.own ys :: xs) G1
theorem dao_own (i : Nat) {y : Str} {py : Pos} (hr : DAO X F es t) (hN : X.N[i]? = some y := by rfl) (hv : Vis X.env.scope y := by first | exact Or.inl rfl | exact Or.inr (Or.inl rfl) | exact Or.inr (Or.inr rfl)) (hd : (y == ("__debug__" : Str)) = false := by decide)
    (hcd : (y == ("__classdict__" : Str)) = false := by decide) (hs : starEach (Expr.Name y py :: es) X.env = (false, eval (.Name y py) X.env) :: starEach es X.env := by rfl) : DAO X F (.Name y py :: es) (tdOwnArg i t) :=
  PA.imp (pa_cons (pe_var hN hv hd hcd) hr hs) fun σ H Q ⟨P, env, G, Qd, I, h, k⟩ => by
    obtain ⟨ys, q, h⟩ := isOwn_inv h
    obtain ⟨v, e1, r⟩ := I.sl i _ (look_some q)
    exact ⟨v, e1, P, env, G, _, I, h, fun vs H2 xs G2 I2 s2 r2 h2 => k (v :: vs) H2 (.own ys :: xs) G2 I2 s2 (.cons (SRel.later I2 s2 r) r2) h2⟩
def lendV : SV → SV
  | .own xs => .d (.list xs)
  | x => x
def tdFnP (ct : CT) (t : TDA) : TDE := fun env G Q => t env G fun xs G1 => ct (xs.map lendV) [] fun y _ => asD y fun d => flatD d = true ∧ Q (.d d) G1
def noG : SV → Bool
  | .g _ => false
  | _ => true
theorem lSp_pure {P : List Addr} {env : DEnv} {G1 : GS} {σ : L2.St} {H1 : Hp} {vs : List V} {xs : List SV} {Qd : SV → GS → Prop} {Q : VK} (hK : F.K = X.K) (I1 : DInv F P env G1 σ H1) (r1 : Paired (SRel F P H1) xs vs) (hn : xs.all noG = true) (h1 : ct (xs.map lendV) [] Qd)
    (k : ∀ v H' y, Same H1 H' → VRel (fxC X.K []) [] H' y v → Qd y [] → Q v H') : lSp X.K ct vs H1 Q := by
  refine ⟨[], [], [], xs.map lendV, Qd, ⟨fun _ m => (nomatch m), fun _ m => (nomatch m), List.nodup_nil, .nil⟩, ?_, h1, fun v H2 y G2 fr c2 rv h2 => ?_⟩
  · have top : Same (hide H1 P) (hide H1 []) := hide_less fun _ m => nomatch m
    have all : ∀ {xs : List SV} {vs : List V}, Paired (SRel F P H1) xs vs → xs.all noG = true → Paired (VRel (fxC X.K []) [] H1) (xs.map lendV) vs := by
      intro xs vs r
      induction r with
      | nil => intro _; exact .nil
      | @cons a b _ _ q r ih =>
        intro hn
        rw [List.all_cons, Bool.and_eq_true] at hn
        refine .cons ?_ (ih hn.2)
        cases a with
        | d z => exact Rp.mono top q
        | own ys =>
          obtain ⟨p', ws, rfl, y2, y3, y4, y5⟩ := q
          exact Rp.lst (by rw [hide_out List.not_mem_nil]; exact y4) (RpAll.mono top y5)
        | g n => cases hn.1
        | scr ns =>
          obtain ⟨c, y1, y2⟩ := q
          exact ⟨c, y1, by rw [hK] at y2; exact Same.seq top y2⟩
        | adr c => exact q
        | exc c dd fs => exact XcR.mono top q
    exact all r1 hn
  · have eG : G2 = [] := by
      have := c2.gl
      cases this; rfl
    subst eG
    exact k v H2 y (fun a o q => fr a o q (fun m => nomatch m)) rv h2
theorem de_fnP (g : FnG X.prog X.w X.K X.mg X.base lv f fd ps (lSp X.K ct)) (hr : Room lv X.A) (hgd : X.A.guards = some []) (hK : F.K = X.K) (hm : X.mg x = some (.ref f)) (hk : PySem.W.keepIn X.K (.ref f) = true) (hb : Binds X.K fd ps []) (ha : DAO X F (e :: es) t) (hg : Gl X x := by rfl)
    (hdb : (x == ("__debug__" : Str)) = false := by decide) (he : starEach (e :: es) X.env = (false, eval e X.env) :: starEach es X.env := by rfl) (hpl : (backTo pos (starEach es X.env)).any (·.1) = false := by rfl) :
    DE X F (.Call (.Name x p) (e :: es) [] pos) (fun env G Q => t env G fun xs G1 => xs.all noG = true ∧ ct (xs.map lendV) [] fun y _ => asD y fun d => flatD d = true ∧ Q (.d d) G1) :=
  PE.imp (pe_callG g hr hgd hm hk hb ha hg hdb he hpl) fun σ H Q ⟨P, env, G, Qd, I, h, k⟩ => ⟨P, env, G, _, I, h, fun vs H1 xs G1 I1 s1 r1 h1 => lSp_pure hK I1 r1 h1.1 h1.2 fun v H2 y s2 r2 h2 => by
    obtain ⟨d, rfl, hf, h3⟩ := asD_inv (x := y) h2
    exact k v H2 (.d d) G1 (I1.ext s2) (Kp.trans s1 (Kp.of s2)) (rp_flat hf r2) h3⟩
end
end DL

set_option maxRecDepth 100000
set_option maxHeartbeats 4000000
/-! DL6: the operations over data. -/
namespace DL
open PySem PySem.Spec PyProof.Rows L2
/-! ### + - * % // ** -/
def rdAdd : RD2 := fun d e Q => match d, e with
  | .int i, .int j => Q (.int (i + j))
  | .str x, .str y => x.length + y.length ≤ sizeLine ∧ Q (.str (x ++ y))
  | .tuple xs, .tuple ys => xs.length + ys.length ≤ sizeLine ∧ Q (.tuple (xs ++ ys))
  | .list xs, .list ys => xs.length + ys.length ≤ sizeLine ∧ Q (.list (xs ++ ys))
  | _, _ => False
theorem new_out {H : Hp} {P : List Addr} {p : Addr} {o : HO} (pa : PAll P H) (e : H p = none) : hide (upd H p o) P p = some o := by
  rw [hide_out (pa p e), upd_same]
def addR (K : PySem.W.Frag) : R2 := fun x y H Q => rI0 (fun i j => .int (i + j)) x y H Q ∨ (∃ i j, x = .str i ∧ y = .str j ∧ i.length + j.length ≤ sizeLine ∧ Q (.str (i ++ j)) H) ∨ rCatA K x y H Q ∨ rCat x y H Q
theorem op_addR {X : Cx} : OpR X (binaryOp .Add) (addR X.K) := op_add.or (op_add_str.or (op_catA.or op_cat))
theorem imp_add {K : PySem.W.Frag} : Imp2 (addR K) rdAdd := by
  intro P H x y d e Q Qd pa rx ry h k
  match d, e, rx, ry, h with
  | .int i, .int j, rx, ry, h => exact .inl ⟨i, j, rx.int_inv, ry.int_inv, k _ H _ (Same.refl _) (.int _) h⟩
  | .str i, .str j, rx, ry, h => exact .inr (.inl ⟨i, j, rx.str_inv, ry.str_inv, h.1, k _ H _ (Same.refl _) (.str _) h.2⟩)
  | .tuple ds, .tuple es, rx, ry, h =>
    obtain ⟨hz, h⟩ := h
    obtain ⟨a, xs, rfl, ea, ra⟩ := rx.tup_inv
    obtain ⟨b, ys, rfl, eb, rb⟩ := ry.tup_inv
    have l1 := ra.len
    have l2 := rb.len
    refine .inr (.inr (.inl ⟨a, b, xs, ys, rfl, rfl, SqT.of (hide_some ea).2, SqT.of (hide_some eb).2, by omega, fun z => ?_, fun _ z => ?_, fun _ _ p hp => ?_⟩))
    · subst z
      have : ds = [] := List.length_eq_zero_iff.mp (by rw [← l1]; rfl)
      subst this
      exact k _ H _ (Same.refl _) (.tup eb rb) h
    · subst z
      have : es = [] := List.length_eq_zero_iff.mp (by rw [← l2]; rfl)
      subst this
      rw [List.append_nil] at h
      exact k _ H _ (Same.refl _) (.tup ea ra) h
    · have s : Same H (upd H p (.tup (xs ++ ys))) := same_upd hp
      exact k _ _ _ s (.tup (new_out pa hp) (RpAll.mono (hide_same s) (ra.append rb))) h
  | .list ds, .list es, rx, ry, h =>
    obtain ⟨hz, h⟩ := h
    obtain ⟨a, xs, rfl, ea, ra⟩ := rx.lst_inv
    obtain ⟨b, ys, rfl, eb, rb⟩ := ry.lst_inv
    have l1 := ra.len
    have l2 := rb.len
    refine .inr (.inr (.inr ⟨a, b, xs, ys, rfl, rfl, (hide_some ea).2, (hide_some eb).2, by omega, fun p hp => ?_⟩))
    have s : Same H (upd H p (.lst (xs ++ ys))) := same_upd hp
    exact k _ _ _ s (.lst (new_out pa hp) (RpAll.mono (hide_same s) (ra.append rb))) h
def rdII (C : Int → Int → Prop) (g : Int → Int → D) : RD2 := fun d e Q => asI d fun i => asI e fun j => C i j ∧ Q (g i j)
theorem imp_II {C : Int → Int → Prop} {g : Int → Int → Int} : Imp2 (rI C fun i j => .int (g i j)) (rdII C fun i j => .int (g i j)) := by
  intro P H x y d e Q Qd pa rx ry h k
  obtain ⟨i, rfl, h1⟩ := asI_inv h
  obtain ⟨j, rfl, hc, h2⟩ := asI_inv (x := e) h1
  exact ⟨i, j, rx.int_inv, ry.int_inv, hc, k _ H _ (Same.refl _) (.int _) h2⟩
def rdI0 (g : Int → Int → D) : RD2 := fun d e Q => asI d fun i => asI e fun j => Q (g i j)
theorem imp_I0 {g : Int → Int → Int} : Imp2 (rI0 fun i j => .int (g i j)) (rdI0 fun i j => .int (g i j)) := by
  intro P H x y d e Q Qd pa rx ry h k
  obtain ⟨i, rfl, h1⟩ := asI_inv h
  obtain ⟨j, rfl, h2⟩ := asI_inv (x := e) h1
  exact ⟨i, j, rx.int_inv, ry.int_inv, k _ H _ (Same.refl _) (.int _) h2⟩
theorem imp_B0 {g : Int → Int → Bool} : Imp2 (rI0 fun i j => .bl (g i j)) (rdI0 fun i j => .bool (g i j)) := by
  intro P H x y d e Q Qd pa rx ry h k
  obtain ⟨i, rfl, h1⟩ := asI_inv h
  obtain ⟨j, rfl, h2⟩ := asI_inv (x := e) h1
  exact ⟨i, j, rx.int_inv, ry.int_inv, k _ H _ (Same.refl _) (.bl _) h2⟩
abbrev rdSub : RD2 := rdI0 fun i j => .int (i - j)
abbrev rdMod : RD2 := rdII (fun _ j => 0 < j) fun i j => .int (i % j)
abbrev rdFdiv : RD2 := rdII CDiv fun i j => .int (i / j)
abbrev rdPow : RD2 := rdII CPow fun i j => .int (i ^ j.toNat)
/-- products of ints; a list times an int -/
def rdMul : RD2 := fun d e Q => asI e fun k => match d with
  | .int i => CMul i k ∧ Q (.int (i * k))
  | .list ds => (-(2 ^ 63) ≤ k ∧ k < 2 ^ 63 ∧ ds.length * k.toNat ≤ sizeLine) ∧ Q (.list (List.replicate k.toNat ds).flatten)
  | _ => False
def mulR : R2 := fun x y H Q => rI CMul (fun i j => .int (i * j)) x y H Q ∨ rRep x y H Q
theorem op_mulR {X : Cx} : OpR X (binaryOp .Mult) mulR := op_mul.or op_rep
theorem rp_rep {H : Hp} {xs : List V} {ds : List D} (r : RpAll H xs ds) : ∀ k : Nat, RpAll H (List.replicate k xs).flatten (List.replicate k ds).flatten
  | 0 => .nil
  | k + 1 => by
    rw [List.replicate_succ, List.replicate_succ, List.flatten_cons, List.flatten_cons]
    exact r.append (rp_rep r k)
theorem imp_mul : Imp2 mulR rdMul := by
  intro P H x y d e Q Qd pa rx ry h k
  obtain ⟨n, rfl, h⟩ := asI_inv h
  match d, rx, h with
  | .int i, rx, h => exact .inl ⟨i, n, rx.int_inv, ry.int_inv, h.1, k _ H _ (Same.refl _) (.int _) h.2⟩
  | .list ds, rx, h =>
    obtain ⟨⟨h1, h2, h3⟩, h⟩ := h
    obtain ⟨a, xs, rfl, ea, ra⟩ := rx.lst_inv
    refine .inr ⟨a, n, xs, rfl, ry.int_inv, (hide_some ea).2, h1, h2, by rw [ra.len]; exact h3, fun p hp => ?_⟩
    have s : Same H (upd H p (.lst (List.replicate n.toNat xs).flatten)) := same_upd hp
    exact k _ _ _ s (.lst (new_out pa hp) (RpAll.mono (hide_same s) (rp_rep ra _))) h
def rdNeg : RD1 := fun d Q => asI d fun i => Q (.int (-i))
theorem imp_neg : Imp1 (rU fun i => .int (-i)) rdNeg := by
  intro P H x d Q Qd pa rx h k
  obtain ⟨i, rfl, h⟩ := asI_inv h
  exact ⟨i, rx.int_inv, k _ H _ (Same.refl _) (.int _) h⟩
/-! ### == != < <= > >= -/
/-- the pairs that may be asked whether they are equal -/
def okEq (d e : D) : Bool := match d, e with
  | .int _, .int _ => true
  | .str _, .str _ => true
  | .none, .none => true
  | .none, .int _ => true
  | .int _, .none => true
  | d, e => SeqAt.shaped d && SeqAt.shaped e
def eqR (K : PySem.W.Frag) : R2 := fun x y H Q => rEq x y H Q ∨ rEqD K x y H Q
def neR (K : PySem.W.Frag) : R2 := fun x y H Q => rNe x y H Q ∨ rNeD K x y H Q
theorem op_eqR {X : Cx} {lv : Nat} (hr : Room lv X.A) : OpR X (compareOp .Eq) (eqR X.K) := op_eq.or (op_eqD hr.units)
theorem op_neR {X : Cx} {lv : Nat} (hr : Room lv X.A) : OpR X (compareOp .NotEq) (neR X.K) := op_ne.or (op_neD hr.units)
def rdEq : RD2 := fun d e Q => okEq d e = true ∧ Q (.bool (PyData.eqv d e))
def rdNe : RD2 := fun d e Q => okEq d e = true ∧ Q (.bool (!PyData.eqv d e))
theorem ok_eq {P : List Addr} {H : Hp} {x y : V} {d e : D} (rx : Rp (hide H P) x d) (ry : Rp (hide H P) y e) (h : okEq d e = true) : (scal x y = true ∧ decide (x = y) = PyData.eqv d e) ∨ (SeqAt.shaped d = true ∧ SeqAt.shaped e = true) := by
  unfold okEq at h
  split at h
  · cases rx; cases ry; exact .inl ⟨rfl, by rw [dec_int, PyData.eqv]⟩
  · cases rx; cases ry; exact .inl ⟨rfl, by rw [dec_str, PyData.eqv]⟩
  · cases rx; cases ry; exact .inl ⟨rfl, by rw [PyData.eqv]; simp⟩
  · cases rx; cases ry; exact .inl ⟨rfl, by rw [PyData.eqv]; simp⟩
  · cases rx; cases ry; exact .inl ⟨rfl, by rw [PyData.eqv]; simp⟩
  · exact .inr (Bool.and_eq_true_iff.mp h)
theorem imp_eq {K : PySem.W.Frag} : Imp2 (eqR K) rdEq := by
  intro P H x y d e Q Qd pa rx ry h k
  obtain ⟨ok, h⟩ := h
  have q := k (.bl (PyData.eqv d e)) H _ (Same.refl _) (.bl _) h
  rcases ok_eq rx ry ok with ⟨s, ev⟩ | ⟨s1, s2⟩
  · exact .inl ⟨s, by rw [ev]; exact q⟩
  · exact .inr ⟨d, e, (Rp.mono hide_sub rx).dp, (Rp.mono hide_sub ry).dp, s1, s2, q⟩
theorem imp_ne {K : PySem.W.Frag} : Imp2 (neR K) rdNe := by
  intro P H x y d e Q Qd pa rx ry h k
  obtain ⟨ok, h⟩ := h
  have q := k (.bl (!PyData.eqv d e)) H _ (Same.refl _) (.bl _) h
  rcases ok_eq rx ry ok with ⟨s, ev⟩ | ⟨s1, s2⟩
  · exact .inl ⟨s, by rw [ev]; exact q⟩
  · exact .inr ⟨d, e, (Rp.mono hide_sub rx).dp, (Rp.mono hide_sub ry).dp, s1, s2, q⟩
/-- pairs of ints in order -/
def pairLe (a b c d : Int) : Bool := if a = c then decide (b ≤ d) else decide (a < c)
def rdLt : RD2 := fun d e Q => match d, e with
  | .int i, .int j => Q (.bool (decide (i < j)))
  | .str i, .str j => Q (.bool (decide (i.cps.toList < j.cps.toList)))
  | _, _ => False
def rdLe : RD2 := fun d e Q => match d, e with
  | .int i, .int j => Q (.bool (decide (i ≤ j)))
  | .tuple [.int a, .int b], .tuple [.int c, .int f] => Q (.bool (pairLe a b c f))
  | _, _ => False
def rdGt : RD2 := fun d e Q => match d, e with
  | .int i, .int j => Q (.bool (decide (j < i)))
  | .str i, .str j => Q (.bool (decide (j.cps.toList < i.cps.toList)))
  | _, _ => False
def rdGe : RD2 := fun d e Q => match d, e with
  | .int i, .int j => Q (.bool (decide (j ≤ i)))
  | .str i, .str j => Q (.bool (!decide (i.cps.toList < j.cps.toList)))
  | _, _ => False
def ltR : R2 := fun x y H Q => rI0 (fun i j => .bl (decide (i < j))) x y H Q ∨ ∃ i j, x = .str i ∧ y = .str j ∧ Q (.bl (decide (i.cps.toList < j.cps.toList))) H
theorem op_ltR {X : Cx} : OpR X (compareOp .Lt) ltR := op_lt.or op_lt_str
theorem imp_lt : Imp2 ltR rdLt := by
  intro P H x y d e Q Qd pa rx ry h k
  match d, e, rx, ry, h with
  | .int i, .int j, rx, ry, h => exact .inl ⟨i, j, rx.int_inv, ry.int_inv, k _ H _ (Same.refl _) (.bl _) h⟩
  | .str i, .str j, rx, ry, h => exact .inr ⟨i, j, rx.str_inv, ry.str_inv, k _ H _ (Same.refl _) (.bl _) h⟩
def leR (K : PySem.W.Frag) : R2 := fun x y H Q => rI0 (fun i j => .bl (decide (i ≤ j))) x y H Q ∨ rLeT K x y H Q
theorem op_leR {X : Cx} {lv : Nat} (hr : Room lv X.A) : OpR X (compareOp .LtE) (leR X.K) := op_le.or (op_leT hr.units0)
theorem rp_pair {H : Hp} {xs : List V} {a b : Int} (r : RpAll H xs [.int a, .int b]) : xs = [a, b].map V.int := by
  cases r with
  | cons r1 r =>
    cases r with
    | cons r2 r =>
      cases r
      cases r1
      cases r2
      rfl
theorem imp_le {K : PySem.W.Frag} : Imp2 (leR K) rdLe := by
  intro P H x y d e Q Qd pa rx ry h k
  match d, e, rx, ry, h with
  | .int i, .int j, rx, ry, h => exact .inl ⟨i, j, rx.int_inv, ry.int_inv, k _ H _ (Same.refl _) (.bl _) h⟩
  | .tuple [.int a, .int b], .tuple [.int c, .int f], rx, ry, h =>
    obtain ⟨p, xs, rfl, ea, ra⟩ := rx.tup_inv
    obtain ⟨q, ys, rfl, eb, rb⟩ := ry.tup_inv
    have e1 := rp_pair ra
    have e2 := rp_pair rb
    subst e1 e2
    refine .inr ⟨p, q, [a, b], [c, f], rfl, rfl, SqT.of (hide_some ea).2, SqT.of (hide_some eb).2, ?_⟩
    have ev : Ob.lexAt (fun j => decide (([a, b] : List Int).getD j 0 = ([c, f] : List Int).getD j 0)) (fun j => decide (([a, b] : List Int).getD j 0 ≤ ([c, f] : List Int).getD j 0)) (decide (([a, b] : List Int).length ≤ ([c, f] : List Int).length)) 0 (min ([a, b] : List Int).length ([c, f] : List Int).length) = pairLe a b c f := by
      show Ob.lexAt _ _ _ 0 2 = _
      rw [Ob.lexAt_succ, Ob.lexAt_succ, Ob.lexAt_zero]
      unfold pairLe
      simp only [List.getD_cons_zero, List.getD_cons_succ, List.length_cons, List.length_nil, decide_eq_true_eq]
      by_cases h1 : a = c
      · subst h1
        rw [if_pos rfl, if_pos rfl]
        by_cases h2 : b = f
        · subst h2; rw [if_pos rfl]; simp
        · rw [if_neg h2]
      · rw [if_neg h1, if_neg h1]
        rw [Bool.eq_iff_iff]; simp only [decide_eq_true_eq]; omega
    rw [ev]
    exact k _ H _ (Same.refl _) (.bl _) h
def gtR : R2 := fun x y H Q => rI0 (fun i j => .bl (decide (j < i))) x y H Q ∨ ∃ i j, x = .str i ∧ y = .str j ∧ Q (.bl (decide (j.cps.toList < i.cps.toList))) H
def geR : R2 := fun x y H Q => rI0 (fun i j => .bl (decide (j ≤ i))) x y H Q ∨ ∃ i j, x = .str i ∧ y = .str j ∧ Q (.bl (!decide (i.cps.toList < j.cps.toList))) H
theorem op_gtR {X : Cx} : OpR X (compareOp .Gt) gtR := op_gt.or op_gt_str
theorem op_geR {X : Cx} : OpR X (compareOp .GtE) geR := op_ge.or op_ge_str
theorem imp_gt : Imp2 gtR rdGt := by
  intro P H x y d e Q Qd pa rx ry h k
  match d, e, rx, ry, h with
  | .int i, .int j, rx, ry, h => exact .inl ⟨i, j, rx.int_inv, ry.int_inv, k _ H _ (Same.refl _) (.bl _) h⟩
  | .str i, .str j, rx, ry, h => exact .inr ⟨i, j, rx.str_inv, ry.str_inv, k _ H _ (Same.refl _) (.bl _) h⟩
theorem imp_ge : Imp2 geR rdGe := by
  intro P H x y d e Q Qd pa rx ry h k
  match d, e, rx, ry, h with
  | .int i, .int j, rx, ry, h => exact .inl ⟨i, j, rx.int_inv, ry.int_inv, k _ H _ (Same.refl _) (.bl _) h⟩
  | .str i, .str j, rx, ry, h => exact .inr ⟨i, j, rx.str_inv, ry.str_inv, k _ H _ (Same.refl _) (.bl _) h⟩
/-! ### is None -/
def isNon : D → Bool
  | .none => true
  | _ => false
theorem non_iff {H : Hp} {x : V} {d : D} (r : Rp H x d) : decide (x = .non) = isNon d := by
  cases r <;> simp [isNon]
def rdIsN : RD2 := fun d e Q => isNon e = true ∧ Q (.bool (isNon d))
def rdNotN : RD2 := fun d e Q => isNon e = true ∧ Q (.bool (!isNon d))
theorem non_of {d : D} (h : isNon d = true) : d = .none := by cases d <;> first | rfl | cases h
theorem imp_isN : Imp2 (fun x y H Q => y = .non ∧ Q (.bl (decide (x = .non))) H) rdIsN := by
  intro P H x y d e Q Qd pa rx ry h k
  obtain ⟨h1, h⟩ := h
  cases non_of h1
  exact ⟨ry.non_inv, by rw [non_iff rx]; exact k _ H _ (Same.refl _) (.bl _) h⟩
theorem imp_notN : Imp2 (fun x y H Q => y = .non ∧ Q (.bl (!decide (x = .non))) H) rdNotN := by
  intro P H x y d e Q Qd pa rx ry h k
  obtain ⟨h1, h⟩ := h
  cases non_of h1
  exact ⟨ry.non_inv, by rw [non_iff rx]; exact k _ H _ (Same.refl _) (.bl _) h⟩
/-! ### in, not in: a sign in a text; a flat thing in a list or tuple of flat things -/
/-- the values that lists are searched for by in -/
def flatS : D → Bool
  | .none | .bool _ | .int _ | .str _ => true
  | _ => false
def inD (d : D) (ds : List D) : Bool := ds.any fun z => PyData.eqv z d
def rdInN (neg : Bool) : RD2 := fun d e Q => match d, e with
  | .str x, .str z => match x.cps.toList with
    | [c] => Q (.bool (if neg then !decide (c ∈ z.cps.toList) else decide (c ∈ z.cps.toList)))
    | _ => False
  | d, .list ds => (flatS d = true ∧ ds.all flatS = true) ∧ Q (.bool (if neg then !inD d ds else inD d ds))
  | d, .tuple ds => (flatS d = true ∧ ds.all flatS = true) ∧ Q (.bool (if neg then !inD d ds else inD d ds))
  | _, _ => False
theorem flat_rp {H : Hp} {v : V} {d : D} (r : Rp H v d) (h : flatS d = true) : flatV v = true := by
  cases r <;> first | rfl | cases h
theorem eqv_rp {H : Hp} {v u : V} {d e : D} (r : Rp H v d) (q : Rp H u e) (h : flatS d = true) (h2 : flatS e = true) : eqV v u = PyData.eqv d e := by
  cases r <;> cases q <;> first | (cases h; done) | (cases h2; done) | (rw [PyData.eqv]; first | rfl | simp [eqV] | (unfold eqV; simp))
theorem flat_all {H : Hp} : ∀ {vs : List V} {ds : List D}, RpAll H vs ds → ds.all flatS = true → vs.all flatV = true
  | _, _, .nil, _ => rfl
  | _, _, .cons a b, h => by
    rw [List.all_cons, Bool.and_eq_true] at h
    rw [List.all_cons, flat_rp a h.1, flat_all b h.2]; rfl
theorem in_rp {H : Hp} {v : V} {d : D} (r : Rp H v d) (hd : flatS d = true) : ∀ {vs : List V} {ds : List D}, RpAll H vs ds → ds.all flatS = true → inV v vs = inD d ds
  | _, _, .nil, _ => rfl
  | _, _, .cons a b, h => by
    rw [List.all_cons, Bool.and_eq_true] at h
    have ih := in_rp r hd b h.2
    unfold inV inD at ih ⊢
    rw [List.any_cons, List.any_cons, eqv_rp a r h.1 hd, ih]
def inR (K : PySem.W.Frag) : R2 := fun x y H Q => (∃ (c : Nat) (z : Str), x = .str ⟨#[c]⟩ ∧ y = .str z ∧ Q (.bl (decide (c ∈ z.cps.toList))) H) ∨ rIn K false x y H Q
def ninR (K : PySem.W.Frag) : R2 := fun x y H Q => (∃ (c : Nat) (z : Str), x = .str ⟨#[c]⟩ ∧ y = .str z ∧ Q (.bl (!decide (c ∈ z.cps.toList))) H) ∨ rIn K true x y H Q
theorem op_inR {X : Cx} : OpR X (compareOp .In) (inR X.K) := op_in_sign.or op_in_seq
theorem op_ninR {X : Cx} : OpR X (compareOp .NotIn) (ninR X.K) := op_notIn_sign.or op_notIn_seq
theorem imp_in {K : PySem.W.Frag} : Imp2 (inR K) (rdInN false) := by
  intro P H x y d e Q Qd pa rx ry h k
  unfold rdInN at h
  split at h
  · rename_i s z
    split at h
    · rename_i c hc
      have es : s = ⟨#[c]⟩ := by cases s with | mk l => rw [← Array.toArray_toList (xs := l), show l.toList = [c] from hc]
      subst es
      exact .inl ⟨c, z, rx.str_inv, ry.str_inv, k _ H _ (Same.refl _) (.bl _) h⟩
    · exact h.elim
  · rename_i ds _
    obtain ⟨⟨h1, h2⟩, h⟩ := h
    obtain ⟨a, ys, rfl, ea, ra⟩ := ry.lst_inv
    exact .inr ⟨a, ys, rfl, .inl (SqL.of (hide_some ea).2), flat_rp rx h1, flat_all ra h2, by rw [in_rp rx h1 ra h2]; exact k _ H _ (Same.refl _) (.bl _) h⟩
  · rename_i ds _
    obtain ⟨⟨h1, h2⟩, h⟩ := h
    obtain ⟨a, ys, rfl, ea, ra⟩ := ry.tup_inv
    exact .inr ⟨a, ys, rfl, .inr (SqT.of (hide_some ea).2), flat_rp rx h1, flat_all ra h2, by rw [in_rp rx h1 ra h2]; exact k _ H _ (Same.refl _) (.bl _) h⟩
  · exact h.elim
theorem imp_nin {K : PySem.W.Frag} : Imp2 (ninR K) (rdInN true) := by
  intro P H x y d e Q Qd pa rx ry h k
  unfold rdInN at h
  split at h
  · rename_i s z
    split at h
    · rename_i c hc
      have es : s = ⟨#[c]⟩ := by cases s with | mk l => rw [← Array.toArray_toList (xs := l), show l.toList = [c] from hc]
      subst es
      exact .inl ⟨c, z, rx.str_inv, ry.str_inv, k _ H _ (Same.refl _) (.bl _) h⟩
    · exact h.elim
  · rename_i ds _
    obtain ⟨⟨h1, h2⟩, h⟩ := h
    obtain ⟨a, ys, rfl, ea, ra⟩ := ry.lst_inv
    exact .inr ⟨a, ys, rfl, .inl (SqL.of (hide_some ea).2), flat_rp rx h1, flat_all ra h2, by rw [in_rp rx h1 ra h2]; exact k _ H _ (Same.refl _) (.bl _) h⟩
  · rename_i ds _
    obtain ⟨⟨h1, h2⟩, h⟩ := h
    obtain ⟨a, ys, rfl, ea, ra⟩ := ry.tup_inv
    exact .inr ⟨a, ys, rfl, .inr (SqT.of (hide_some ea).2), flat_rp rx h1, flat_all ra h2, by rw [in_rp rx h1 ra h2]; exact k _ H _ (Same.refl _) (.bl _) h⟩
  · exact h.elim
/-! ### items, slices -/
def rdIx : RD2 := fun d e Q => asI e fun k => match d with
  | .list ds => match atI ds k with
    | some z => Q z
    | none => False
  | .tuple ds => match atI ds k with
    | some z => Q z
    | none => False
  | .str x => x.length ≤ sizeLine ∧ match atI x.cps.toList k with
    | some c => Q (.str ⟨#[c]⟩)
    | none => False
  | _ => False
theorem imp_ix {K : PySem.W.Frag} : Imp2 (rIx K) rdIx := by
  intro P H x y d e Q Qd pa rx ry h k
  obtain ⟨n, rfl, h⟩ := asI_inv h
  match d, rx, h with
  | .list ds, rx, h =>
    obtain ⟨a, xs, rfl, ea, ra⟩ := rx.lst_inv
    have h : (match atI ds n with | some z => Qd z | none => False) := h
    cases z : atI ds n with
    | none => rw [z] at h; exact h.elim
    | some w =>
      rw [z] at h
      obtain ⟨v, e1, rv⟩ := atI_rp ra z
      exact .inl ⟨a, xs, n, v, rfl, ry.int_inv, SqL.of (hide_some ea).2, e1, k v H w (Same.refl _) rv h⟩
  | .tuple ds, rx, h =>
    obtain ⟨a, xs, rfl, ea, ra⟩ := rx.tup_inv
    have h : (match atI ds n with | some z => Qd z | none => False) := h
    cases z : atI ds n with
    | none => rw [z] at h; exact h.elim
    | some w =>
      rw [z] at h
      obtain ⟨v, e1, rv⟩ := atI_rp ra z
      exact .inr (.inl ⟨a, xs, n, v, rfl, ry.int_inv, SqT.of (hide_some ea).2, e1, k v H w (Same.refl _) rv h⟩)
  | .str s, rx, h =>
    obtain ⟨hz, h⟩ := h
    have h : (match atI s.cps.toList n with | some c => Qd (.str ⟨#[c]⟩) | none => False) := h
    cases z : atI s.cps.toList n with
    | none => rw [z] at h; exact h.elim
    | some c =>
      rw [z] at h
      exact .inr (.inr ⟨s, n, c, rx.str_inv, ry.int_inv, hz, z, k _ H _ (Same.refl _) (.str _) h⟩)
/-- a cut of a list -/
def cutL {α : Type} (xs : List α) (lo hi : Option Int) : List α := (xs.drop (HT.sIx xs.length 0 lo)).take (HT.sIx xs.length xs.length hi - HT.sIx xs.length 0 lo)
def rdSl : RSl := fun d lo hi Q => match d with
  | .list ds => Q (.list (cutL ds lo hi))
  | .tuple ds => Q (.tuple (cutL ds lo hi))
  | .str x => x.length ≤ sizeLine ∧ Q (.str (cutS x lo hi))
  | _ => False
def slR (K : PySem.W.Frag) : V → Option Int → Option Int → Hp → VK → Prop := fun x lo hi H Q => rSlL K x lo hi H Q ∨ rSlA K x lo hi H Q ∨ rSlS x lo hi H Q
theorem sl_R {X : Cx} : SlR X (slR X.K) := sl_list.or (sl_tupA.or sl_str)
theorem cut_rp {H : Hp} {xs : List V} {ds : List D} (r : RpAll H xs ds) (lo hi : Option Int) : RpAll H (cutV xs lo hi) (cutL ds lo hi) := by
  unfold cutV cutL
  rw [r.len]
  exact (r.drop _).take _
theorem imp_sl {K : PySem.W.Frag} : ImpSl (slR K) rdSl := by
  intro P H x d lo hi Q Qd pa rx h k
  match d, rx, h with
  | .list ds, rx, h =>
    obtain ⟨a, xs, rfl, ea, ra⟩ := rx.lst_inv
    refine .inl ⟨a, xs, rfl, SqL.of (hide_some ea).2, fun p hp => ?_⟩
    have s : Same H (upd H p (.lst (cutV xs lo hi))) := same_upd hp
    exact k _ _ _ s (.lst (new_out pa hp) (RpAll.mono (hide_same s) (cut_rp ra lo hi))) h
  | .tuple ds, rx, h =>
    obtain ⟨a, xs, rfl, ea, ra⟩ := rx.tup_inv
    refine .inr (.inl ⟨a, xs, rfl, SqT.of (hide_some ea).2, fun hw => ?_, fun _ p hp => ?_⟩)
    · have e : cutL ds lo hi = ds := by
        unfold cutL
        rw [← ra.len, hw.1, hw.2, List.drop_zero, Nat.sub_zero, ra.len]
        exact List.take_length
      have h' : Qd (.tuple (cutL ds lo hi)) := h
      rw [e] at h'
      exact k _ H _ (Same.refl _) (.tup ea ra) h'
    · have s : Same H (upd H p (.tup (cutV xs lo hi))) := same_upd hp
      exact k _ _ _ s (.tup (new_out pa hp) (RpAll.mono (hide_same s) (cut_rp ra lo hi))) h
  | .str z, rx, h => exact .inr (.inr ⟨z, rx.str_inv, h.1, k _ H _ (Same.refl _) (.str _) h.2⟩)
/-! ### len, all, any, int, str, list, tuple -/
def lenD : D → Option Nat
  | .list ds => some ds.length
  | .tuple ds => some ds.length
  | .str x => some x.length
  | _ => none
def rdLen : RDL := fun ds Q => match ds with
  | [.list xs] => Q (.int xs.length)
  | [.tuple xs] => Q (.int xs.length)
  | [.str x] => x.length ≤ sizeLine ∧ Q (.int x.length)
  | _ => False
theorem imp_len {K : PySem.W.Frag} : ImpL (fun xs H Q => ∃ x n, xs = [x] ∧ LenV K x H n ∧ Q (.int n) H) rdLen := by
  intro P H xs ds Q Qd pa r h k
  unfold rdLen at h
  split at h
  · cases r with | cons a b => cases b; obtain ⟨p, vs, rfl, ea, ra⟩ := a.lst_inv; exact ⟨_, _, rfl, .inl ⟨vs, SqL.of (hide_some ea).2, ra.len.symm⟩, k _ H _ (Same.refl _) (.int _) h⟩
  · cases r with | cons a b => cases b; obtain ⟨p, vs, rfl, ea, ra⟩ := a.tup_inv; exact ⟨_, _, rfl, .inr ⟨vs, SqT.of (hide_some ea).2, ra.len.symm⟩, k _ H _ (Same.refl _) (.int _) h⟩
  · cases r with | cons a b => cases b; cases a; exact ⟨_, _, rfl, ⟨h.1, rfl⟩, k _ H _ (Same.refl _) (.int _) h.2⟩
  · exact h.elim
def boolsD : List D → Option (List Bool)
  | [] => some []
  | .bool b :: r => (boolsD r).map (b :: ·)
  | _ => none
theorem bools_rp {H : Hp} : ∀ {vs : List V} {ds : List D} {bs : List Bool}, RpAll H vs ds → boolsD ds = some bs → vs = bs.map V.bl
  | _, _, bs, .nil, h => by cases h; rfl
  | _, .bool b :: ds, bs, .cons a r, h => by
    obtain ⟨cs, e, q⟩ := Option.map_eq_some_iff.mp h
    subst q
    rw [bools_rp r e, a.bl_inv]; rfl
  | _, .none :: _, _, .cons _ _, h => by cases h
  | _, .int _ :: _, _, .cons _ _, h => by cases h
  | _, .str _ :: _, _, .cons _ _, h => by cases h
  | _, .list _ :: _, _, .cons _ _, h => by cases h
  | _, .tuple _ :: _, _, .cons _ _, h => by cases h
  | _, .dict _ :: _, _, .cons _ _, h => by cases h
@[simp] theorem boolsD_map (bs : List Bool) : boolsD (bs.map PyData.bool) = some bs := by
  induction bs with
  | nil => rfl
  | cons b r ih => show (boolsD (r.map PyData.bool)).map (b :: ·) = _; rw [ih]; rfl
def rdBools (g : List Bool → Bool) : RDL := fun ds Q => match ds with
  | [.list xs] => match boolsD xs with
    | some bs => Q (.bool (g bs))
    | none => False
  | _ => False
theorem imp_all {K : PySem.W.Frag} : ImpL (rAll K) (rdBools fun bs => bs.all id) := by
  intro P H xs ds Q Qd pa r h k
  unfold rdBools at h
  split at h
  · rename_i ys
    cases z : boolsD ys with
    | none => simp only [z] at h
    | some bs =>
      simp only [z] at h
      cases r with | cons a b => cases b; obtain ⟨p, vs, rfl, ea, ra⟩ := a.lst_inv; exact ⟨p, bs, rfl, by rw [← bools_rp ra z]; exact SqL.of (hide_some ea).2, k _ H _ (Same.refl _) (.bl _) h⟩
  · exact h.elim
theorem imp_any {K : PySem.W.Frag} : ImpL (rAny K) (rdBools fun bs => bs.any id) := by
  intro P H xs ds Q Qd pa r h k
  unfold rdBools at h
  split at h
  · rename_i ys
    cases z : boolsD ys with
    | none => simp only [z] at h
    | some bs =>
      simp only [z] at h
      cases r with | cons a b => cases b; obtain ⟨p, vs, rfl, ea, ra⟩ := a.lst_inv; exact ⟨p, bs, rfl, by rw [← bools_rp ra z]; exact SqL.of (hide_some ea).2, k _ H _ (Same.refl _) (.bl _) h⟩
  · exact h.elim
def rdInt : RDL := fun ds Q => match ds with
  | [.int i] => Q (.int i)
  | [.bool b] => Q (.int (if b then 1 else 0))
  | _ => False
theorem imp_int : ImpL (fun xs H Q => (∃ i, xs = [.int i] ∧ Q (.int i) H) ∨ ∃ k, xs = [.bl k] ∧ Q (.int (if k then 1 else 0)) H) rdInt := by
  intro P H xs ds Q Qd pa r h k
  unfold rdInt at h
  split at h
  · cases r with | cons a b => cases b; cases a; exact .inl ⟨_, rfl, k _ H _ (Same.refl _) (.int _) h⟩
  · cases r with | cons a b => cases b; cases a; exact .inr ⟨_, rfl, k _ H _ (Same.refl _) (.int _) h⟩
  · exact h.elim
def rdStr : RDL := fun ds Q => match ds with
  | [.int i] => i.natAbs.log2 < 1920 ∧ Q (.str (toString i))
  | _ => False
theorem imp_str : ImpL (fun xs H Q => ∃ i, xs = [.int i] ∧ i.natAbs.log2 < 1920 ∧ Q (.str (toString i)) H) rdStr := by
  intro P H xs ds Q Qd pa r h k
  unfold rdStr at h
  split at h
  · cases r with | cons a b => cases b; cases a; exact ⟨_, rfl, h.1, k _ H _ (Same.refl _) (.str _) h.2⟩
  · exact h.elim
def rdList : RDL := fun ds Q => match ds with
  | [.list xs] => Q (.list xs)
  | [.tuple xs] => Q (.list xs)
  | _ => False
theorem imp_list {K : PySem.W.Frag} : ImpL (fun xs H Q => ∃ p ys, xs = [.ref p] ∧ (SqL K H p ys ∨ SqT K H p ys) ∧ ∀ l, H l = none → Q (.ref l) (upd H l (.lst ys))) rdList := by
  intro P H xs ds Q Qd pa r h k
  have fin : ∀ {p : Addr} {vs : List V} {zs : List D}, RpAll (hide H P) vs zs → Qd (.list zs) → ∀ l, H l = none → Q (.ref l) (upd H l (.lst vs)) := by
    intro p vs zs ra h l hl
    have s : Same H (upd H l (.lst vs)) := same_upd hl
    exact k _ _ _ s (.lst (new_out pa hl) (RpAll.mono (hide_same s) ra)) h
  unfold rdList at h
  split at h
  · cases r with | cons a b => cases b; obtain ⟨p, vs, rfl, ea, ra⟩ := a.lst_inv; exact ⟨p, vs, rfl, .inl (SqL.of (hide_some ea).2), fin (p := p) ra h⟩
  · cases r with | cons a b => cases b; obtain ⟨p, vs, rfl, ea, ra⟩ := a.tup_inv; exact ⟨p, vs, rfl, .inr (SqT.of (hide_some ea).2), fin (p := p) ra h⟩
  · exact h.elim
def rdTuple : RDL := fun ds Q => match ds with
  | [.list xs] => Q (.tuple xs)
  | [.tuple xs] => Q (.tuple xs)
  | _ => False
theorem imp_tuple {K : PySem.W.Frag} : ImpL (fun xs H Q => ∃ p ys, xs = [.ref p] ∧ ((SqL K H p ys ∧ ∀ l, H l = none → Q (.ref l) (upd H l (.tup ys))) ∨ (SqT K H p ys ∧ Q (.ref p) H))) rdTuple := by
  intro P H xs ds Q Qd pa r h k
  unfold rdTuple at h
  split at h
  · cases r with
    | cons a b =>
      cases b
      obtain ⟨p, vs, rfl, ea, ra⟩ := a.lst_inv
      refine ⟨p, vs, rfl, .inl ⟨SqL.of (hide_some ea).2, fun l hl => ?_⟩⟩
      have s : Same H (upd H l (.tup vs)) := same_upd hl
      exact k _ _ _ s (.tup (new_out pa hl) (RpAll.mono (hide_same s) ra)) h
  · cases r with | cons a b => cases b; obtain ⟨p, vs, rfl, ea, ra⟩ := a.tup_inv; exact ⟨p, vs, rfl, .inr ⟨SqT.of (hide_some ea).2, k _ H _ (Same.refl _) (.tup ea ra) h⟩⟩
  · exact h.elim
end DL

set_option maxRecDepth 100000
set_option maxHeartbeats 4000000
/-! DL7: isinstance, repr, sorted, upper, join, the reverse of a list or a tuple, over data. -/
namespace DL
open PySem PySem.Spec PySem.W PyProof.Rows L2
/-! ### isinstance(e, T), T a built-in class -/
def tyD : D → String
  | .none => "NoneType"
  | .bool _ => "bool"
  | .int _ => "int"
  | .str _ => "str"
  | .list _ => "list"
  | .tuple _ => "tuple"
  | .dict _ => "dict"
theorem ty_rp {K : PySem.W.Frag} {H : Hp} {v : V} {d : D} (r : Rp H v d) : TyX K H v (.type (tyD d)) := by
  cases r with
  | non => exact .base .non
  | bl b => exact .base (.bl b)
  | int i => exact .base (.int i)
  | str i => exact .base (.str i)
  | lst e _ => exact .base (.lst e)
  | tup e _ => exact .base (.tup e)
def isTyN (T n : String) : Bool := n == T || (T == "int" && n == "bool")
def isTy (T : String) (d : D) : Bool := isTyN T (tyD d)
def OkTy (T : String) : Prop := ∀ d : D, kitB (tyD d) T = some (isTy T d)
theorem ok_of {T : String} (h : ["NoneType", "bool", "int", "str", "list", "tuple", "dict"].all (fun n => kitB n T == some (isTyN T n)) = true) : OkTy T := by
  intro d
  simp only [List.all_cons, List.all_nil, Bool.and_true, Bool.and_eq_true, beq_iff_eq] at h
  obtain ⟨h1, h2, h3, h4, h5, h6, h7⟩ := h
  cases d
  · exact h1
  · exact h2
  · exact h3
  · exact h4
  · exact h5
  · exact h6
  · exact h7
theorem ok_int : OkTy "int" := ok_of (by decide +kernel)
theorem ok_bool : OkTy "bool" := ok_of (by decide +kernel)
theorem ok_str : OkTy "str" := ok_of (by decide +kernel)
theorem ok_tuple : OkTy "tuple" := ok_of (by decide +kernel)
theorem ok_list : OkTy "list" := ok_of (by decide +kernel)
theorem ok_dict : OkTy "dict" := ok_of (by decide +kernel)
def tdIsi (T : String) (te : TDE) : TDE := fun env G Q => te env G fun x G1 => asD x fun d => Q (.d (.bool (isTy T d))) G1
section
variable {X : Cx} {F : Fx} {a b c e : Expr} {es : List Expr} {ta tb te t : TDE} {tr : TDA} {pos : Pos}
theorem de_isi {T : String} {x : Str} {p p2 : Pos} (hT : OkTy T) (hm : X.mg "isinstance" = none) (hm2 : X.mg x = none) (he : DE X F e te) (hv : bootBuiltins x = some (.type T) := by decide +kernel) (hg2 : Gl X x := by rfl) (hn : x ≠ "__name__" := by decide) (hdb : (x == ("__debug__" : Str)) = false := by decide)
    (hg : Gl X "isinstance" := by rfl) (hs : starEach [e, .Name x p2] X.env = (false, eval e X.env) :: starEach [.Name x p2] X.env := by rfl) (hs2 : starEach [Expr.Name x p2] X.env = (false, eval (.Name x p2) X.env) :: starEach [] X.env := by rfl)
    (hpl : (backTo pos (starEach [Expr.Name x p2] X.env)).any (·.1) = false := by rfl) : DE X F (.Call (.Name "isinstance" p) [e, .Name x p2] [] pos) (tdIsi T te) :=
  PE.imp (pe_callB call_isi hg hm (by decide +kernel) (pa_cons he (pa_cons (pe_bltn (v := .ty T) hg2 hm2 hv rfl hn hdb) pa_nil hs2) hs) (by decide) (by decide) hs hpl) fun σ H Q ⟨P, env, G, Qd, I, h, k⟩ => ⟨P, env, G, _, I, h, fun v H1 x G1 I1 s1 r1 h1 => by
    obtain ⟨d, rfl, h2⟩ := asD_inv (x := x) h1
    exact ⟨v, .ty T, _, _, _, rfl, .ty T, ty_rp (Rp.mono hide_sub r1), kit_ty (hT d), k _ H1 (.d (.bool (isTy T d))) G1 I1 s1 (Rp.bl _) h2⟩⟩
/-! ### repr -/
def rReprD (K : PySem.W.Frag) : List V → Hp → VK → Prop := fun xs H Q => ∃ x d, xs = [x] ∧ Dp K H x d ∧ (d.showable = true ∧ d.hasDict = false ∧ d.depth ≤ 100 ∧ d.shown.length ≤ sizeLine) ∧ Q (.str d.shown) H
theorem cr_repr {lv : Nat} (hr : Room lv X.A) (hgd : X.A.guards = some []) : CallR X (.builtin "repr") (rReprD X.K) := by
  intro pins s σ H xs us Q I r h
  obtain ⟨x, d, rfl, dp, ⟨h1, h2, h3, h4⟩, q⟩ := h
  cases r with
  | @cons _ u _ _ r1 r2 =>
    cases r2
    have hu := hr.un
    obtain ⟨as, rd⟩ := Dp.reads I d x u dp r1
    have fin : ∀ (h' : Heap) (t : Tok) (tk : Nat), (∀ b o, s.heap.get? b = some o → h'.get? b = some o) → EP X pins σ Q (.str d.shown t) { s with heap := h', toks := tk } :=
      fun h' t tk kp => ⟨.str d.shown, H, I.kept kp, ⟨t, rfl⟩, q⟩
    cases d with
    | none =>
      cases rd
      simp only [PyData.shown] at fin
      exact P.repr_of_none (fin s.heap _ _ fun _ _ e => e)
    | bool b =>
      cases rd
      simp only [PyData.shown] at fin
      exact P.repr_of_bool (fin s.heap _ _ fun _ _ e => e)
    | int i =>
      cases rd
      simp only [PyData.shown] at fin
      exact P.repr_of_int (by simpa [PyData.showable] using h1) (fin s.heap _ _ fun _ _ e => e)
    | str z =>
      cases rd
      simp only [PyData.shown] at fin h4
      exact P.repr_of_str (fin s.heap _ _ fun _ _ e => e) h4
    | list ds =>
      obtain ⟨a, ea⟩ : ∃ a, u = .ref a := by cases rd; exact ⟨_, rfl⟩
      subst ea
      exact repr_of_reads' rd h1 (PyData.noDict_hsm h2) hgd (by omega) (fun _ _ e => e) fin h4
    | tuple ds =>
      obtain ⟨a, ea⟩ : ∃ a, u = .ref a := by cases rd; exact ⟨_, rfl⟩
      subst ea
      exact repr_of_reads' rd h1 (PyData.noDict_hsm h2) hgd (by omega) (fun _ _ e => e) fin h4
    | dict ds => simp [PyData.hasDict] at h2
/-- data that repr shows -/
def Shw (d : D) : Prop := d.showable = true ∧ d.hasDict = false ∧ d.depth ≤ 100 ∧ d.shown.length ≤ sizeLine
def rdRepr : RDL := fun ds Q => match ds with
  | [d] => Shw d ∧ Q (.str d.shown)
  | _ => False
theorem imp_repr {K : PySem.W.Frag} : ImpL (rReprD K) rdRepr := by
  intro P H xs ds Q Qd pa r h k
  unfold rdRepr at h
  split at h
  · cases r with
    | cons a b =>
      cases b
      exact ⟨_, _, rfl, (Rp.mono hide_sub a).dp, h.1, k _ H _ (Same.refl _) (.str _) h.2⟩
  · exact h.elim
/-! ### sorted -/
abbrev Ups (H : Hp) (u : Value) (d : D) : Prop := ∃ v, RelV v u ∧ Rp H v d
theorem vals_of_each {H : Hp} : ∀ {out : List Value} {ds : List D}, EachIs (Ups H) out ds → ∃ vs, Vals vs out ∧ RpAll H vs ds
  | _, _, .nil => ⟨[], .nil, .nil⟩
  | _, _, .cons ⟨v, r1, r2⟩ t => let ⟨vs, q1, q2⟩ := vals_of_each t; ⟨v :: vs, .cons r1 q1, .cons r2 q2⟩
theorem each_of_vals {H : Hp} : ∀ {vs : List V} {ds : List D} {out : List Value}, Vals vs out → RpAll H vs ds → EachIs (Ups H) out ds
  | _, _, _, .nil, .nil => .nil
  | _, _, _, .cons r1 r, .cons q1 q => .cons ⟨_, r1, q1⟩ (each_of_vals r q)
theorem each_reads {pins : List (Addr × Obj)} {σ : L2.St} {H H0 : Hp} {s : Shared} (I : Inv X pins σ H s) (sm : Same H0 H) : ∀ {out : List Value} {ds : List D}, EachIs (Ups H0) out ds → EachIs (fun v b => ∃ as, Reads s.heap v b as) out ds
  | _, _, .nil => .nil
  | _, _, .cons ⟨v, r1, r2⟩ t => .cons (Dp.reads I _ v _ (Rp.mono sm r2).dp r1) (each_reads I sm t)
def sortD (ds : List D) : List D := ds.mergeSort (dataLe false fun d => d)
structure OkSort (ds : List D) : Prop where
  al : AllAlike ds
  ok : PySem.W.Sortable ds
  len : ds.length ≤ sizeLine
  dep : ∀ d ∈ ds, d.depth ≤ 100
def rSortD (K : PySem.W.Frag) : List V → Hp → VK → Prop := fun xs H Q => ∃ a vs ds H0, xs = [V.ref a] ∧ (SqL K H a vs ∨ SqT K H a vs) ∧ Same H0 H ∧ RpAll H0 vs ds ∧ OkSort ds ∧ ∀ p us, H p = none → RpAll H0 us (sortD ds) → Q (.ref p) (upd H p (.lst us))
section
variable {prog : Program} {w : World} {A : Around} {E : Value → Shared → Prop} {s : Shared}
theorem collect_tup {l : Addr} {us : List Value} {R : List Value → Shared → Prop} (ht : IsTup s.heap l us.toArray) (hsz : us.length ≤ sizeLine)
    (h : R us { s with heap := (s.heap.push (seqObj "list" #[] 0)).update s.heap.objs.size (Obj.mapSeq (· ++ us.toArray)) }) : wpAny (model prog w) A (collect (.ref l)) R E s := by
  obtain ⟨o, e1, e2, n, e3⟩ := id ht
  have e1' : (s.heap.push (seqObj "list" #[] 0)).get? l = some o := Heap.get?_push_of_some _ e1
  unfold collect
  apply wpAny_bind
  refine wpAny_runValue (codeAny_builtin entry_proto_collect' (s := s) ?_)
  show wpAny (model prog w) _ (newList [] >>= fun x => again (.builtin "list.__iadd__" ⟨[x, .ref l], []⟩)) _ _ s
  apply wpAny_bind
  refine wpAny_newList (wpAny_pure ⟨Code.quiet_builtin _ (by decide +kernel), codeAny_builtin entry_list_iadd' (prog := prog) ?_⟩)
  show wpAny (model prog w) _ (Builtin.List.listExtendWith (.ref s.heap.objs.size) (.ref l) (.ref s.heap.objs.size)) _ _ _
  unfold Builtin.List.listExtendWith
  apply wpAny_bind
  refine wpAny_typeOf (T := "tuple") (s := { s with heap := s.heap.push (seqObj "list" #[] 0) }) ⟨o, e1', e2⟩ ?_
  have hb : (Value.type "tuple" == Value.type "tuple") = true := rfl
  rw [if_pos (by rw [hb, Bool.or_true])]
  apply wpAny_bind
  refine listItems_at (n := n) e1' e3 ?_
  apply wpAny_bind
  refine listItems_at (n := 0) (xs := #[]) (Heap.get?_push_size _ rfl) rfl ?_
  rw [if_neg (by simp)]
  apply wpAny_bind
  refine listUpdate_at (n := 0) (xs := #[]) (Heap.get?_push_size _ rfl) rfl ?_ (Nat.zero_le _) (by
    show (#[] ++ us.toArray).size ≤ sizeLine + 1
    rw [Array.size_append, List.size_toArray]
    simp only [List.size_toArray, List.length_nil, Nat.zero_add, Array.size_empty]
    omega)
  apply wpAny_pure
  show wpAny (model prog w) A (do
      let ob ← load s.heap.objs.size
      match ob.data with
      | .seq its _ => pure its.toList
      | _ => unsupported "internal:collect") R E _
  apply wpAny_bind
  refine wpAny_load (get?_update_seq (Heap.get?_push_size _ rfl) _) ?_
  show wpAny (model prog w) A (pure (#[] ++ us.toArray).toList) R E _
  have e : ((#[] : Array Value) ++ us.toArray).toList = us := by simp
  rw [e]
  exact wpAny_pure h
theorem sorted_tup {l : Addr} {us : List Value} {ds : List D} {H : Hp} {Q : Value → Shared → Prop} (ht : IsTup s.heap l us.toArray) (ok : OkSort ds) (hu : A.units + 200 < cLine) (e : EachIs (Ups H) us ds) (er : EachIs (fun v b => ∃ as, Reads s.heap v b as) us ds)
    (h : ∀ out, out.length = ds.length → EachIs (Ups H) out (sortD ds) → Q (.ref (s.heap.objs.size + 1)) { s with heap := sortedAll s.heap us (List.toArray out) }) : wpAny (model prog w) A (call (.builtin "sorted") [.ref l]) Q E s := by
  have hL : us.length ≤ sizeLine := by rw [e.length]; exact ok.len
  have er' : EachIs (fun v b => ∃ as, Reads (sortingHeap (copyHeap s.heap us) (s.heap.objs.size + 1) us) v ((fun d : D => d) b) as) us ds := er.mono fun _ _ ⟨as, r⟩ => ⟨as, PyProof.Rows.Reads.keeps (fun _ _ => sorting_copy_old) r⟩
  have hm : ds.map (fun d : D => d) = ds := List.map_id' ds
  have S : SortsAt prog w A.in1.in1 { s with heap := sortingHeap (copyHeap s.heap us) (s.heap.objs.size + 1) us } (dataKind (sortingHeap (copyHeap s.heap us) (s.heap.objs.size + 1) us) (ds.map fun d => d)) us :=
    SortsAt.data (s := { s with heap := sortingHeap (copyHeap s.heap us) (s.heap.objs.size + 1) us }) (each_map (R := fun v d => ∃ as, Reads (sortingHeap (copyHeap s.heap us) (s.heap.objs.size + 1) us) v d as) (fun d => d) er') (by rw [hm]; exact ok.al) (by rw [hm]; exact ok.ok)
      (bound_map fun b hb => by have := ok.dep b hb; show A.units + 1 + 1 + b.depth < cLine; omega)
  refine call_function_entry_kw kind_sorted plain_sorted entry_sorted (args_sorted1 _) ?_
  unfold Builtin.«sorted»
  apply wpAny_bind (m := checkCount "sorted" 1 1 _)
  apply wpAny_pure
  apply wpAny_bind
  refine collect_tup ht hL ?_
  apply wpAny_bind
  refine wpAny_newList ?_ hL
  have hsz : ((s.heap.push (seqObj "list" #[] 0)).update s.heap.objs.size (Obj.mapSeq (· ++ us.toArray))).objs.size = s.heap.objs.size + 1 := by rw [Heap.size_update, size_push']
  show wpAny (model prog w) _ _ _ _ { s with heap := copyHeap s.heap us }
  rw [hsz]
  apply wpAny_bind
  refine wpAny_holding (wpAny_call_entry_kw slot_list_sort ⟨_, copyHeap_at s.heap us, rfl⟩ entry_list_sort ?_ (args_list_sort _))
  refine list_sort_vals (s := { s with heap := copyHeap s.heap us }) (copyHeap_at s.heap us) S hL ?_
  refine ⟨_, rfl, wpAny_pure ⟨_, rfl, ?_⟩⟩
  exact h _ (by rw [sortVals_length false rfl]; exact e.length) (by
    have := sortVals_data (enc := fun d : D => d) false e er' (by rw [hm]; exact ok.al)
    exact this)
end
section
variable {X : Cx}
theorem cr_sortD {lv : Nat} (hr : Room lv X.A) : CallR X (.builtin "sorted") (rSortD X.K) := by
  intro pins s σ H xs us Q I r h
  obtain ⟨a, vs, ds, H0, rfl, hs, sm, ra, ok, q⟩ := h
  have hu := hr.un
  have hm : ds.map (fun d : D => d) = ds := List.map_id' ds
  rw [Vals.ref1 r]
  have fin : ∀ {its : List Value}, Vals vs its → ∀ out : List Value, out.length = ds.length → EachIs (Ups H0) out (sortD ds) → EP X pins σ Q (.ref (s.heap.objs.size + 1)) { s with heap := sortedAll s.heap its (List.toArray out) } := by
    intro its rv out hl ho
    obtain ⟨ws, w1, w2⟩ := vals_of_each ho
    obtain ⟨ep, he⟩ := sortedAll_at s.heap its (List.toArray out)
    have hw : ws.length ≤ sizeLine := by
      have := w1.length
      have := ok.len
      omega
    have fr : H (s.heap.objs.size + 1) = none := I.hok.fresh (Nat.le_succ _)
    exact ⟨.ref _, upd H (s.heap.objs.size + 1) (.lst ws), I.laid (t' := s.toks) (fun b o => sortedAll_old) (Nat.le_succ _) ⟨hw, out, ep, w1, he⟩, rfl, q _ ws fr w2⟩
  rcases hs with hs | hs
  · obtain ⟨its, rv, hl, _⟩ := I.list hs
    have e := each_of_vals rv ra
    exact sorted_data (enc := fun d : D => d) hl.isList e (each_reads I sm e) (by rw [hm]; exact ok.al) (by rw [hm]; exact ok.ok) ok.len (fun b hb => by have := ok.dep b hb; omega) (fin rv)
  · obtain ⟨its, rv, ht, _⟩ := I.tuple hs
    have e := each_of_vals rv ra
    exact sorted_tup ht ok (by omega) e (each_reads I sm e) (fin rv)
def rdSorted : RDL := fun ds Q => match ds with
  | [.list xs] => OkSort xs ∧ Q (.list (sortD xs))
  | [.tuple xs] => OkSort xs ∧ Q (.list (sortD xs))
  | _ => False
theorem imp_sorted {K : PySem.W.Frag} : ImpL (rSortD K) rdSorted := by
  intro P H xs ds Q Qd pa r h k
  have fin : ∀ {zs : List D} {p : Addr} {us : List V}, Qd (.list (sortD zs)) → H p = none → RpAll (hide H P) us (sortD zs) → Q (.ref p) (upd H p (.lst us)) := by
    intro zs p us h hp ru
    have s : Same H (upd H p (.lst us)) := same_upd hp
    exact k _ _ _ s (.lst (new_out pa hp) (RpAll.mono (hide_same s) ru)) h
  unfold rdSorted at h
  split at h
  · cases r with
    | cons a b =>
      cases b
      obtain ⟨p, vs, rfl, ea, ra⟩ := a.lst_inv
      exact ⟨p, vs, _, _, rfl, .inl (SqL.of (hide_some ea).2), hide_sub, ra, h.1, fun q us hq ru => fin h.2 hq ru⟩
  · cases r with
    | cons a b =>
      cases b
      obtain ⟨p, vs, rfl, ea, ra⟩ := a.tup_inv
      exact ⟨p, vs, _, _, rfl, .inr (SqT.of (hide_some ea).2), hide_sub, ra, h.1, fun q us hq ru => fin h.2 hq ru⟩
  · exact h.elim
end
end
end DL

set_option maxRecDepth 100000
set_option maxHeartbeats 4000000
/-! DL8: text methods, reverses, zip, dict(pairs)[k], the global dicts. -/
namespace DL
open PySem PySem.Spec PySem.W PyProof.Rows L2
section
variable {X : Cx} {F : Fx} {a b c e o : Expr} {es : List Expr} {ta tb te t to ti tv : TDE} {tr : TDA} {pos : Pos}
/-! ### x.upper(), x.join(ys) -/
def tdUpper (t : TDE) : TDE := fun env G Q => t env G fun x G1 => asD x fun d => asS d fun z => z.length ≤ 5592405 ∧ Q (.d (.str (Txt.upper z))) G1
theorem de_upper {apos : Pos} (ho : DE X F o t) (hbase : attributeBase o "upper" X.env (eval o X.env) = eval o X.env := by rfl) (hline : (apos.endLine == pos.line) = true := by rfl) : DE X F (.Call (.Attribute o "upper" apos) [] [] pos) (tdUpper t) :=
  PE.imp (pe_m0 PySem.F.slot_str_upper PySem.F.type_str_upper mt_upper ho hbase hline) fun σ H Q ⟨P, env, G, Qd, I, h, k⟩ => ⟨P, env, G, _, I, h, fun v H1 x G1 I1 s1 r1 h1 => by
    obtain ⟨d, rfl, h2⟩ := asD_inv (x := x) h1
    obtain ⟨z, rfl, hz, h3⟩ := asS_inv h2
    exact ⟨⟨z, r1.str_inv⟩, z, r1.str_inv, rfl, hz, k _ H1 (.d (.str (Txt.upper z))) G1 I1 s1 (Rp.str _) h3⟩⟩
def strsD : List D → Option (List Str)
  | [] => some []
  | .str b :: r => (strsD r).map (b :: ·)
  | _ => none
theorem strs_rp {H : Hp} : ∀ {vs : List V} {ds : List D} {bs : List Str}, RpAll H vs ds → strsD ds = some bs → vs = bs.map V.str
  | _, _, bs, .nil, h => by cases h; rfl
  | _, .str b :: ds, bs, .cons a r, h => by
    obtain ⟨cs, e, q⟩ := Option.map_eq_some_iff.mp h
    subst q
    rw [strs_rp r e, a.str_inv]; rfl
  | _, .none :: _, _, .cons _ _, h => by cases h
  | _, .int _ :: _, _, .cons _ _, h => by cases h
  | _, .bool _ :: _, _, .cons _ _, h => by cases h
  | _, .list _ :: _, _, .cons _ _, h => by cases h
  | _, .tuple _ :: _, _, .cons _ _, h => by cases h
  | _, .dict _ :: _, _, .cons _ _, h => by cases h
@[simp] theorem strsD_map (bs : List Str) : strsD (bs.map PyData.str) = some bs := by
  induction bs with
  | nil => rfl
  | cons b r ih => show (strsD (r.map PyData.str)).map (b :: ·) = _; rw [ih]; rfl
def seqD : D → Option (List D)
  | .list ds => some ds
  | .tuple ds => some ds
  | _ => none
def tdJoin (t u : TDE) : TDE := fun env G Q => t env G fun x G1 => asD x fun d => asS d fun z => u env G1 fun y G2 => asD y fun e => match (seqD e).bind strsD with
  | some ys => (ys.map (·.length)).sum + ys.length * z.length ≤ 16777216 ∧ Q (.d (.str (Txt.join z ys))) G2
  | none => False
theorem de_join {apos : Pos} {e : Expr} (ho : DE X F o t) (he : DE X F e te) (hs : starEach [e] X.env = [(false, eval e X.env)] := by rfl) (hbase : attributeBase o "join" X.env (eval o X.env) = eval o X.env := by rfl) (hline : (apos.endLine == pos.line) = true := by rfl) :
    DE X F (.Call (.Attribute o "join" apos) [e] [] pos) (tdJoin t te) :=
  PE.imp (pe_m1 PySem.F.slot_str_join PySem.F.type_str_join mt_join ho he hs hbase hline) fun σ H Q ⟨P, env, G, Qd, I, h, k⟩ => ⟨P, env, G, _, I, h, fun v H1 x G1 I1 s1 r1 h1 => by
    obtain ⟨d, rfl, h2⟩ := asD_inv (x := x) h1
    obtain ⟨z, rfl, h3⟩ := asS_inv h2
    refine ⟨⟨z, r1.str_inv⟩, P, env, G1, _, I1, h3, fun u H2 y G2 I2 s2 r2 h4 => ?_⟩
    obtain ⟨e, rfl, h5⟩ := asD_inv (x := y) h4
    cases q : (seqD e).bind strsD with
    | none => rw [q] at h5; exact h5.elim
    | some ys =>
      rw [q] at h5
      obtain ⟨hz, h6⟩ := h5
      obtain ⟨ds, q1, q2⟩ := Option.bind_eq_some_iff.mp q
      have fin := k _ H2 (.d (.str (Txt.join z ys))) G2 I2 (Kp.trans s1 s2) (Rp.str _) h6
      cases e with
      | list zs =>
        cases q1
        obtain ⟨p, vs, rfl, ep, rp⟩ := r2.lst_inv
        have := strs_rp rp q2
        subst this
        exact ⟨z, p, ys, r1.str_inv, rfl, .inl (SqL.of (hide_some ep).2), hz, fin⟩
      | tuple zs =>
        cases q1
        obtain ⟨p, vs, rfl, ep, rp⟩ := r2.tup_inv
        have := strs_rp rp q2
        subst this
        exact ⟨z, p, ys, r1.str_inv, rfl, .inr (SqT.of (hide_some ep).2), hz, fin⟩
      | _ => cases q1⟩
/-! ### x[::-1] of a list or a tuple -/
end
section
variable {prog : Program} {w : World} {A : Around} {E : Value → Shared → Prop} {s : Shared}
theorem slice_back {sl : Addr} {tk : Tok} {n : Nat} {Q : Int × Int × Nat → Shared → Prop} (hs : s.heap.IsSliceOf sl .none .none (.int (-1) tk)) (h : Q ((n : Int) - 1, -1, n) s) :
    wpAny (model prog w) A (Builtin.Slice.sliceApplied (.ref sl) (pure (n : Int))) Q E s := by
  obtain ⟨ob, e1, e2, e3⟩ := id hs
  unfold Builtin.Slice.sliceApplied Builtin.Slice.sliceFields
  apply wpAny_bind
  apply wpAny_bind
  refine wpAny_field e1 e3 (x := .none) rfl ?_
  apply wpAny_bind
  refine wpAny_field e1 e3 (x := .none) rfl ?_
  apply wpAny_bind
  refine wpAny_field e1 e3 (x := .int (-1) tk) rfl ?_
  apply wpAny_pure
  apply wpAny_bind
  refine slicePart_int ?_
  show wpAny (model prog w) A (if ((-1 : Int) == 0) = true then _ else _) _ _ s
  rw [if_neg (by decide)]
  apply wpAny_bind
  refine slicePart_none ?_
  apply wpAny_bind
  refine slicePart_none ?_
  apply wpAny_bind
  apply wpAny_pure
  have e : Builtin.Slice.slicePlaces ((n : Int) - 1) (-1) (-1) = n := by
    unfold Builtin.Slice.slicePlaces
    rw [if_neg (by decide : ¬ ((-1 : Int) > 0))]
    by_cases q : (n : Int) - 1 > -1
    · rw [if_pos q, show (-(-1) : Int) = 1 by decide, Int.ediv_one]; omega
    · rw [if_neg q]; omega
  show wpAny (model prog w) A (pure ((n : Int) - 1, (-1 : Int), Builtin.Slice.slicePlaces ((n : Int) - 1) (-1) (-1))) _ _ s
  rw [e]
  exact wpAny_pure h
theorem back_pick (xs : Array Value) : ((List.range xs.size).filterMap fun (m : Nat) => xs[(((xs.size : Nat) : Int) - 1 + (m : Int) * (-1)).toNat]?) = xs.toList.reverse := by
  have hl : ((List.range xs.size).map fun (m : Nat) => xs[(((xs.size : Nat) : Int) - 1 + (m : Int) * (-1)).toNat]?) = xs.toList.reverse.map some := by
    apply List.ext_getElem?
    intro i
    rw [List.getElem?_map, List.getElem?_map]
    by_cases hi : i < xs.size
    · rw [List.getElem?_range hi, List.getElem?_reverse (by simpa using hi)]
      simp only [Option.map_some]
      have e : (((xs.size : Nat) : Int) - 1 + (i : Int) * (-1)).toNat = xs.size - 1 - i := by omega
      rw [e, Array.getElem?_toList, Array.length_toList]
      have : xs.size - 1 - i < xs.size := by omega
      rw [Array.getElem?_eq_getElem this]
      rfl
    · rw [List.getElem?_eq_none (by simp; omega), List.getElem?_eq_none (by simp; omega)]
      rfl
  have h2 := congrArg (List.filterMap id) hl
  rw [List.filterMap_map, List.filterMap_map] at h2
  have e3 : (id ∘ fun (m : Nat) => xs[(((xs.size : Nat) : Int) - 1 + (m : Int) * (-1)).toNat]?) = fun (m : Nat) => xs[(((xs.size : Nat) : Int) - 1 + (m : Int) * (-1)).toNat]? := rfl
  rw [e3] at h2
  rw [h2]
  simp
theorem tup_back {t sl : Addr} {xs : Array Value} {tk : Tok} {Q : Value → Shared → Prop} (ht : IsTup s.heap t xs) (hs : s.heap.IsSliceOf sl .none .none (.int (-1) tk)) (hz : xs.size ≤ sizeLine)
    (h : Q (.ref s.heap.objs.size) { s with heap := s.heap.push { cls := .type "tuple", data := .seq xs.toList.reverse.toArray } }) : wpAny (model prog w) A (getItem (.ref t) (.ref sl)) Q E s := by
  obtain ⟨ob, e1, e2, e3⟩ := id hs
  have hty : s.TypeIs (.ref sl) "slice" := ⟨ob, e1, e2⟩
  have hok : sizeOk (.seq xs.toList.reverse.toArray) := by
    show xs.toList.reverse.toArray.size ≤ sizeLine
    rw [List.size_toArray, List.length_reverse, Array.length_toList]; exact hz
  unfold getItem
  try with_reducible refine wpAny_holding ?_
  first | refine wpAny_bind (wpAny_pure ?_) | skip
  apply wpAny_bind
  refine wpAny_sequenceKey ht.typeIs (by decide) ?_
  apply wpAny_bind
  refine wpAny_callSpecial?_slot (T := "tuple") (name := Str.ofString "__getitem__") ht.typeIs slot_tuple_getitem (wpAny_call_entry slot_tuple_getitem ht.typeIs entry_tuple_getitem ?_ (args_tuple_getitem _ _))
  show wpAny _ _ (Builtin.Tuple.tupleItemsOf (.ref t) >>= _) _ _ s
  apply wpAny_bind
  refine tupleItemsOf_ ht ?_
  apply wpAny_bind
  refine wpAny_typeOf hty ?_
  rw [if_pos (by decide)]
  apply wpAny_bind
  refine slice_back (n := xs.size) hs ?_
  have hno : ¬ (((((xs.size : Nat) : Int) - 1 == 0 && (-1 : Int) == 1 && xs.size == xs.size)) = true) := by
    rw [show ((-1 : Int) == 1) = false by decide, Bool.and_false, Bool.false_and]
    exact Bool.false_ne_true
  show wpAny _ _ (if (((xs.size : Nat) : Int) - 1 == 0 && (-1 : Int) == 1 && xs.size == xs.size) = true then _ else _) _ _ s
  rw [if_neg hno, back_pick]
  first
    | exact wpAny_bind (m := Builtin.Tuple.tupleExact _) (wpAny_newObj_type (T := "tuple") (wpAny_pure ⟨_, rfl, wpAny_pure h⟩) hok)
    | exact wpAny_bind (m := Builtin.Tuple.tupleExact _) (wpAny_newObj_type (T := "tuple") (wpAny_bind (wpAny_pure (wpAny_pure ⟨_, rfl, wpAny_pure h⟩))) hok)
    | exact wpAny_bind (wpAny_bind (m := Builtin.Tuple.tupleExact _) (wpAny_newObj_type (T := "tuple") (wpAny_pure (wpAny_pure ⟨_, rfl, wpAny_pure h⟩)) hok))
    | exact wpAny_bind (wpAny_bind (m := Builtin.Tuple.tupleExact _) (wpAny_newObj_type (T := "tuple") (wpAny_pure ⟨_, rfl, wpAny_pure h⟩) hok))
end
section
variable {X : Cx} {F : Fx} {a b c e o : Expr} {es : List Expr} {ta tb te t to ti tv : TDE} {tr : TDA} {pos : Pos}
def tBack (K : PySem.W.Frag) (te : TE) : TE := fun σ H Q => te σ H fun x H1 => ∃ a xs, x = .ref a ∧ ((SqL K H1 a xs ∧ ∀ p, H1 p = none → Q (.ref p) (upd H1 p (.lst xs.reverse))) ∨ (SqT K H1 a xs ∧ ∀ p, H1 p = none → Q (.ref p) (upd H1 p (.tup xs.reverse))))
theorem pe_back {te : TE} {k : Nat} {p1 p2 p3 : Pos} (he : PE X e te) : PE X (.Subscript e (.Slice none none (some (.UnaryOp .USub (.Constant (.int 1) k p1) p2)) p3) pos) (tBack X.K te) := by
  refine ⟨fun pins s σ H Q I h => ?_⟩
  refine Subscript_ (thn (he.run pins s σ H _ I h) fun v s1 ⟨x, H1, I1, r1, a, xs, ex, q1⟩ => ?_)
  subst ex
  cases r1
  have step : PO X (some (.UnaryOp .USub (.Constant (.int 1) k p1) p2)) (L2.tPart (L2.tUn (rU fun i => .int (-i)) (L2.tC (.int 1)))) := po_some (pe_un un_neg pe_int)
  refine wpAny_Slice (thn (po_none.run pins s1 σ H1 (fun o H2 => o = none ∧ H2 = H1) I1 ⟨rfl, rfl⟩) fun vl s2 ⟨l, H2, I2, pl, z1, z2⟩ => ?_)
  subst z1 z2
  refine thn (po_none.run pins s2 σ H2 (fun o H3 => o = none ∧ H3 = H2) I2 ⟨rfl, rfl⟩) fun vu s3 ⟨u, H3, I3, pu, z1, z2⟩ => ?_
  subst z1 z2
  refine thn (step.run pins s3 σ H3 (fun o H4 => o = some (-1) ∧ H4 = H3) I3 ⟨1, rfl, -1, rfl, rfl, rfl⟩) fun vs s4 ⟨o, H4, I4, ps, z1, z2⟩ => ?_
  subst z1 z2
  cases pl
  cases pu
  cases ps with
  | int i tk =>
  have J : Inv X pins σ H4 { s4 with heap := s4.heap.push { cls := .type "slice", data := .fields #[.none, .none, .int (-1) tk] } } := I4.kept (t' := s4.toks) fun b ob q => Heap.get?_push_of_some _ q
  have isl : Heap.IsSliceOf (s4.heap.push { cls := .type "slice", data := .fields #[.none, .none, .int (-1) tk] }) s4.heap.objs.size .none .none (.int (-1) tk) := Heap.IsSliceOf.new _ .none .none (.int (-1) tk)
  show wpAny (model X.prog X.w) X.A (subscriptTail e (.Slice none none (some (.UnaryOp .USub (.Constant (.int 1) k p1) p2)) p3) (.ref a) (.ref s4.heap.objs.size)) (EP X pins σ Q) X.xe { s4 with heap := s4.heap.push { cls := .type "slice", data := .fields #[.none, .none, .int (-1) tk] } }
  rcases q1 with ⟨hx, q⟩ | ⟨hx, q⟩
  · obtain ⟨its, rv, ht, hz⟩ := J.list hx
    have hlen := rv.length
    refine tail_any (ops := [.ref a, .ref s4.heap.objs.size]) ht.isList.typeIs PySem.slot_list_getitem.lookup ?_ (by with_unfolding_all rfl)
    refine wpAny_getItem_list_slice ht.isList isl .none .none (.int (-1) tk) (by decide) ?_ (by rw [List.size_toArray]; omega)
    rw [krv_pick]
    exact ⟨.ref _, _, J.laid (t' := s4.toks) (o := .lst xs.reverse) (fun b ob q => Heap.get?_push_of_some _ q) (Nat.le_refl _) ⟨by rw [List.length_reverse]; exact hz, _, 0, rv.reverse, Heap.get?_push_size _ rfl⟩, rfl, q _ (J.hok.fresh (Nat.le_refl _))⟩
  · obtain ⟨its, rv, ht, hz⟩ := J.tuple hx
    have hlen := rv.length
    refine tail_any (ops := [.ref a, .ref s4.heap.objs.size]) ht.typeIs slot_tuple_getitem.lookup ?_ (by with_unfolding_all rfl)
    refine tup_back ht isl (by rw [List.size_toArray]; omega) ?_
    exact ⟨.ref _, _, J.laid (t' := s4.toks) (o := .tup xs.reverse) (fun b ob q => Heap.get?_push_of_some _ q) (Nat.le_refl _) ⟨by rw [List.length_reverse]; exact hz, _, rv.reverse, ⟨_, Heap.get?_push_size _ rfl, rfl, 0, rfl⟩⟩, rfl, q _ (J.hok.fresh (Nat.le_refl _))⟩
def tdBack (t : TDE) : TDE := fun env G Q => t env G fun x G1 => asD x fun d => match d with
  | .list ds => Q (.d (.list ds.reverse)) G1
  | .tuple ds => Q (.d (.tuple ds.reverse)) G1
  | _ => False
theorem de_back {k : Nat} {p1 p2 p3 : Pos} (he : DE X F e te) : DE X F (.Subscript e (.Slice none none (some (.UnaryOp .USub (.Constant (.int 1) k p1) p2)) p3) pos) (tdBack te) :=
  PE.imp (pe_back he) fun σ H Q ⟨P, env, G, Qd, I, h, k⟩ => ⟨P, env, G, _, I, h, fun v H1 x G1 I1 s1 r1 h1 => by
    obtain ⟨d, rfl, h2⟩ := asD_inv (x := x) h1
    cases d with
    | list ds =>
      obtain ⟨p, vs, rfl, ep, rp⟩ := Rp.lst_inv r1
      refine ⟨p, vs, rfl, .inl ⟨SqL.of (hide_some ep).2, fun q hq => ?_⟩⟩
      have s2 : Same H1 (upd H1 q (.lst vs.reverse)) := same_upd hq
      exact k _ _ (.d (.list ds.reverse)) G1 (I1.ext s2) (Kp.trans s1 (Kp.of s2)) (Rp.lst (I1.h.hideNew hq) (RpAll.mono (hide_same s2) rp.reverse)) h2
    | tuple ds =>
      obtain ⟨p, vs, rfl, ep, rp⟩ := Rp.tup_inv r1
      refine ⟨p, vs, rfl, .inr ⟨SqT.of (hide_some ep).2, fun q hq => ?_⟩⟩
      have s2 : Same H1 (upd H1 q (.tup vs.reverse)) := same_upd hq
      exact k _ _ (.d (.tuple ds.reverse)) G1 (I1.ext s2) (Kp.trans s1 (Kp.of s2)) (Rp.tup (I1.h.hideNew hq) (RpAll.mono (hide_same s2) rp.reverse)) h2
    | _ => exact (show False from h2).elim⟩
end
end DL

set_option maxRecDepth 100000
set_option maxHeartbeats 4000000
/-! DL9: zip, dict(pairs)[k], the feed (a global dict). -/
namespace DL
open PySem PySem.Spec PySem.W PyProof.Rows L2 RZ
section
variable {X : Cx} {F : Fx} {a b c e o : Expr} {es : List Expr} {ta tb te t to ti tv : TDE} {tr : TDA} {pos : Pos}
/-! ### zip(x, y): two lists or two tuples -/
theorem walk_zipT {K : PySem.W.Frag} {a b : Addr} {xs ys : List V} {n : Nat} (hn : n = min xs.length ys.length) : Walk (ItzT K a b) n (fun H => SqT K H a xs ∧ SqT K H b ys) (YPair (fun i => xs[i]?) (fun i => ys[i]?)) := by
  subst hn
  refine ⟨fun i H hi q => ?_, fun H q => ⟨xs, ys, q.1, q.2, by omega⟩, fun i H v H2 _ q y => ?_⟩
  · have l1 : i < xs.length := by omega
    have l2 : i < ys.length := by omega
    exact ⟨xs, ys, xs[i], ys[i], q.1, q.2, by simp [l1], by simp [l2]⟩
  · obtain ⟨T, u, z, e1, e2, e3, e4, e5⟩ := y
    exact ⟨T, u, z, e1, e2, e3, e4 xs q.1, e5 ys q.2⟩
def pairsD (xs ys : List D) : List D := List.zipWith (fun x y => .tuple [x, y]) xs ys
theorem pairs_yield {xs ys : List V} {ds es : List D} {H2 H3 : Hp} {P2 : List Addr} {i : Nat} {x : V} (hl1 : xs.length = ds.length) (hl2 : ys.length = es.length) (ra : RpAll (hide H2 P2) xs ds) (rb : RpAll (hide H2 P2) ys es) (pa : PAll P2 H2)
    (y : YPair (fun i => xs[i]?) (fun i => ys[i]?) i H2 x H3) : Same H2 H3 ∧ ∃ d, (pairsD ds es)[i]? = some d ∧ Rp (hide H3 P2) x d := by
  obtain ⟨T, u, z, rfl, e2, rfl, e4, e5⟩ := y
  obtain ⟨d1, q1, r1⟩ := ra.get e4
  obtain ⟨d2, q2, r2⟩ := rb.get e5
  have s : Same H2 (upd H2 T (.tup [u, z])) := same_upd e2
  refine ⟨s, .tuple [d1, d2], ?_, Rp.tup (new_out pa e2) (.cons (Rp.mono (hide_same s) r1) (.cons (Rp.mono (hide_same s) r2) .nil))⟩
  unfold pairsD
  rw [List.getElem?_zipWith, q1, q2]
theorem itok_zipT {K : PySem.W.Frag} {a b : Addr} {xs ys : List V} {ds es : List D} {H : Hp} {P : List Addr} (e1 : hide H P a = some (.tup xs)) (e2 : hide H P b = some (.tup ys)) (ra : RpAll (hide H P) xs ds) (rb : RpAll (hide H P) ys es) : ItOk (ItzT K a b) (pairsD ds es) H P :=
  ⟨fun H => SqT K H a xs ∧ SqT K H b ys, YPair (fun i => xs[i]?) (fun i => ys[i]?), walk_zipT (by unfold pairsD; rw [List.length_zipWith, ra.len, rb.len]), fun H2 P2 s => ⟨SqT.of (hide_some (s _ _ e1)).2, SqT.of (hide_some (s _ _ e2)).2⟩,
    fun i H2 P2 x H3 hi pa s y => pairs_yield ra.len rb.len (RpAll.mono s ra) (RpAll.mono s rb) pa y⟩
theorem itok_zip {K : PySem.W.Frag} {a b : Addr} {xs ys : List V} {ds es : List D} {H : Hp} {P : List Addr} (e1 : hide H P a = some (.lst xs)) (e2 : hide H P b = some (.lst ys)) (ra : RpAll (hide H P) xs ds) (rb : RpAll (hide H P) ys es) : ItOk (Itz K a b) (pairsD ds es) H P :=
  ⟨fun H => SqL K H a xs ∧ SqL K H b ys, YPair (fun i => xs[i]?) (fun i => ys[i]?), walk_zip (by unfold pairsD; rw [List.length_zipWith, ra.len, rb.len]), fun H2 P2 s => ⟨SqL.of (hide_some (s _ _ e1)).2, SqL.of (hide_some (s _ _ e2)).2⟩,
    fun i H2 P2 x H3 hi pa s y => pairs_yield ra.len rb.len (RpAll.mono s ra) (RpAll.mono s rb) pa y⟩
def tdZip (ta tb : TDE) : TDI := fun env G Q => ta env G fun x G1 => tb env G1 fun y G2 => asD x fun d => asD y fun e => match d, e with
  | .tuple xs, .tuple ys => Q (pairsD xs ys) G2
  | .list xs, .list ys => Q (pairsD xs ys) G2
  | _, _ => False
theorem di_zip {elts : List Expr} {kk : Nat} {tpos p : Pos} (hm : X.mg "zip" = none) (ha : DE X F a ta) (hb : DE X F b tb) (hg : Gl X "zip" := by rfl) (hs : starEach [a, b] X.env = (false, eval a X.env) :: starEach [b] X.env := by rfl) (hs2 : starEach [b] X.env = (false, eval b X.env) :: starEach [] X.env := by rfl)
    (hpl : (backTo pos (starEach [b] X.env)).any (·.1) = false := by rfl) : DI X F (.Tuple elts kk tpos) (.Call (.Name "zip" p) [a, b] [] pos) (tdZip ta tb) :=
  PI.imp (pi_zipA hg hm (pa_cons ha (pa_cons hb pa_nil hs2) hs) hs hpl) fun σ H R ⟨P, env, G, Qd, I, h, k⟩ => ⟨P, env, G, _, I, h, fun v H1 x G1 I1 s1 r1 h1 => ⟨P, env, G1, _, I1, h1, fun u H2 y G2 I2 s2 r2 h2 => by
    obtain ⟨d, rfl, h3⟩ := asD_inv (x := x) h2
    obtain ⟨e, rfl, h4⟩ := asD_inv (x := y) h3
    have r1' := Rp.mono (I2.sm s2) r1
    match d, e, h4, r1', r2 with
    | .tuple xs, .tuple ys, h4, r1', r2 =>
      obtain ⟨p1, vs, rfl, e1, q1⟩ := Rp.tup_inv r1'
      obtain ⟨p2, us, rfl, e2, q2⟩ := Rp.tup_inv r2
      exact ⟨p1, p2, vs, us, rfl, .inr ⟨SqT.of (hide_some e1).2, SqT.of (hide_some e2).2, k _ H2 _ G2 I2 (Kp.trans s1 s2) (itok_zipT e1 e2 q1 q2) h4⟩⟩
    | .list xs, .list ys, h4, r1', r2 =>
      obtain ⟨p1, vs, rfl, e1, q1⟩ := Rp.lst_inv r1'
      obtain ⟨p2, us, rfl, e2, q2⟩ := Rp.lst_inv r2
      exact ⟨p1, p2, vs, us, rfl, .inl ⟨SqL.of (hide_some e1).2, SqL.of (hide_some e2).2, k _ H2 _ G2 I2 (Kp.trans s1 s2) (itok_zip e1 e2 q1 q2) h4⟩⟩⟩⟩
/-! ### dict(pairs)[k] -/
def keyD : D → Option Key
  | .int i => some (.inl i)
  | .str x => some (.inr x)
  | _ => none
theorem key_rp {H : Hp} {v : V} {d : D} {k : Key} (r : Rp H v d) (h : keyD d = some k) : v = kV k := by
  cases r <;> first | (cases h; rfl) | cases h
def pairD : D → Option (Key × D)
  | .tuple [k, v] => (keyD k).map fun k => (k, v)
  | _ => none
def pairsOf : List D → Option (List (Key × D))
  | [] => some []
  | d :: r => match pairD d, pairsOf r with
    | some p, some q => some (p :: q)
    | _, _ => none
section
variable {κ : Type} [DecidableEq κ]
def valD (kvs : List (κ × D)) (k : κ) : Option D := (kvs.find? fun kv => decide (kv.1 = k)).map (·.2)
def putD (kvs : List (κ × D)) (k : κ) (v : D) : List (κ × D) := if (kvs.any fun kv => decide (kv.1 = k)) = true then kvs.map (fun kv => if kv.1 = k then (kv.1, v) else kv) else kvs ++ [(k, v)]
abbrev KvR (H : Hp) (p : κ × V) (q : κ × D) : Prop := p.1 = q.1 ∧ Rp H p.2 q.2
theorem kv_any {H : Hp} {ks : List (κ × V)} {kvs : List (κ × D)} (r : Paired (KvR H) ks kvs) (k : κ) : (ks.any fun kv => decide (kv.1 = k)) = kvs.any fun kv => decide (kv.1 = k) := by
  induction r with
  | nil => rfl
  | cons h _ ih => rw [List.any_cons, List.any_cons, ih, h.1]
theorem kv_val {H : Hp} {ks : List (κ × V)} {kvs : List (κ × D)} (r : Paired (KvR H) ks kvs) {k : κ} {d : D} (h : valD kvs k = some d) : ∃ v, valV ks k = some v ∧ Rp H v d := by
  induction r with
  | nil => cases h
  | @cons p q _ _ hd _ ih =>
    unfold valD at h ih
    unfold valV at ih ⊢
    rw [List.find?_cons] at h ⊢
    rw [hd.1]
    by_cases e : q.1 = k
    · rw [decide_eq_true e] at h ⊢
      simp only [Option.map_some, Option.some.injEq] at h ⊢
      subst h
      exact ⟨_, rfl, hd.2⟩
    · rw [decide_eq_false e] at h ⊢
      exact ih h
theorem kv_put {H : Hp} {v : V} {d : D} (rv : Rp H v d) {ks : List (κ × V)} {kvs : List (κ × D)} (r : Paired (KvR H) ks kvs) (k : κ) : Paired (KvR H) (putK ks k v) (putD kvs k d) := by
  unfold putK putD
  rw [kv_any r k]
  by_cases h : (kvs.any fun kv => decide (kv.1 = k)) = true
  · rw [if_pos h, if_pos h]
    clear h
    induction r with
    | nil => exact .nil
    | @cons p q _ _ hd _ ih =>
      rw [List.map_cons, List.map_cons]
      refine .cons ?_ ih
      rw [hd.1]
      by_cases e : q.1 = k
      · rw [if_pos e, if_pos e]; exact ⟨rfl, rv⟩
      · rw [if_neg e, if_neg e]; exact hd
  · rw [if_neg h, if_neg h]
    exact Paired.snoc r ⟨rfl, rv⟩
def mergeD (kvs more : List (κ × D)) : List (κ × D) := more.foldl (fun acc kv => putD acc kv.1 kv.2) kvs
end
theorem kv_merge {H : Hp} {ms : List (Key × V)} {more : List (Key × D)} (r : Paired (KvR H) ms more) : ∀ {ks : List (Key × V)} {kvs : List (Key × D)}, Paired (KvR H) ks kvs → Paired (KvR H) (mergeK ks ms) (mergeD kvs more) := by
  unfold mergeK mergeD
  induction r with
  | nil => intro _ _ q; exact q
  | @cons p q _ _ hd _ ih =>
    intro ks kvs z
    rw [List.foldl_cons, List.foldl_cons]
    refine ih ?_
    rw [hd.1]
    exact kv_put hd.2 z _
theorem pairs_rp {K : PySem.W.Frag} {H : Hp} : ∀ {vs : List V} {ds : List D} {kvs : List (Key × D)}, RpAll H vs ds → pairsOf ds = some kvs → ∃ (as : List Addr) (ks : List (Key × V)), vs = as.map V.ref ∧ Paired (fun p kv => SqT K H p [kV kv.1, kv.2]) as ks ∧ Paired (KvR H) ks kvs
  | _, _, _, .nil, h => by cases h; exact ⟨[], [], rfl, .nil, .nil⟩
  | _, _, kvs, .cons (d := d) a r, h => by
    unfold pairsOf at h
    split at h
    · rename_i p q hp hq
      cases h
      obtain ⟨as, ks, e1, e2, e3⟩ := pairs_rp r hq
      unfold pairD at hp
      split at hp
      · rename_i kd vd
        obtain ⟨k, hk, e⟩ := Option.map_eq_some_iff.mp hp
        cases e
        obtain ⟨t, ws, rfl, et, rt⟩ := a.tup_inv
        cases rt with
        | cons r1 rt =>
          cases rt with
          | cons r2 rt =>
            cases rt
            have := key_rp r1 hk
            subst this
            exact ⟨t :: as, (k, _) :: ks, by rw [e1]; rfl, .cons (SqT.of et) e2, .cons ⟨rfl, r2⟩ e3⟩
      · cases hp
    · cases h
def tdDictIx (t u : TDE) : TDE := fun env G Q => t env G fun x G1 => asD x fun d => match d with
  | .list ds => match pairsOf ds with
    | some kvs => u env G1 fun y G2 => asD y fun e => match (keyD e).bind fun k => valD (mergeD [] kvs) k with
      | some z => Q (.d z) G2
      | none => False
    | none => False
  | _ => False
theorem sm_hide_upd {H : Hp} {P : List Addr} {p : Addr} {o : HO} (hp : H p = none) : Same (hide H P) (hide (upd H p o) P) := hide_same (same_upd hp)
theorem DInv.new {P : List Addr} {env : DEnv} {G : GS} {σ : L2.St} {H : Hp} (I : DInv F P env G σ H) {p : Addr} {o : HO} (hp : H p = none) : DInv F P env G σ (upd H p o) := I.ext (same_upd hp)
theorem de_dictIx {x : Str} {p pos2 : Pos} {k : Expr} {u : TDE} (hx : x = "dict") (hc : X.calm = true) {lv : Nat} (hr : Room lv X.A) (hm : X.mg x = none) (he : DE X F e t) (hk : DE X F k u) (hv : bootBuiltins x = some (.type "dict") := by decide +kernel) (hg : Gl X x := by rfl) (hn : x ≠ "__name__" := by decide) (hdb : (x == ("__debug__" : Str)) = false := by decide)
    (hs1 : starEach [e] X.env = (false, eval e X.env) :: starEach [] X.env := by rfl) (hpl : (backTo pos2 (starEach [] X.env)).any (·.1) = false := by rfl) (hsl : NoSl k := by exact fun _ _ => rfl) :
    DE X F (.Subscript (.Call (.Name x p) [e] [] pos2) k pos) (tdDictIx t u) :=
  PE.imp (pe_dget (by have := hr.un; omega) (pe_callTy (call_dictP hc) hg hm hv (pa_cons he pa_nil hs1) hn hdb hs1 hpl) hk hsl) fun σ H Q ⟨P, env, G, Qd, I, h, kk⟩ => ⟨P, env, G, _, I, h, fun v H1 x G1 I1 s1 r1 h1 => by
    obtain ⟨d, rfl, h2⟩ := asD_inv (x := x) h1
    cases d with
    | list ds =>
      have h2 : (match pairsOf ds with
        | some kvs => u env G1 fun y G2 => asD y fun e => match (keyD e).bind fun k => valD (mergeD [] kvs) k with
          | some z => Qd (.d z) G2
          | none => False
        | none => False) := h2
      cases q : pairsOf ds with
      | none => rw [q] at h2; exact h2.elim
      | some kvs =>
        rw [q] at h2
        obtain ⟨b, vs, rfl, eb, rb⟩ := Rp.lst_inv r1
        obtain ⟨as, ks, e1, e2, e3⟩ := pairs_rp (K := X.K) rb q
        subst e1
        refine ⟨b, as, ks, rfl, SqL.of (hide_some eb).2, Paired.mapP e2 fun p kv z => Same.tup hide_sub z, fun l hl => ?_⟩
        have s2 : Same H1 (upd H1 l (.dK (mergeK [] ks))) := same_upd hl
        refine ⟨P, env, G1, _, I1.ext s2, h2, fun w H3 y G3 I3 s3 r3 h3 => ?_⟩
        obtain ⟨e, rfl, h4⟩ := asD_inv (x := y) h3
        cases z : (keyD e).bind fun k => valD (mergeD [] kvs) k with
        | none => rw [z] at h4; exact h4.elim
        | some zz =>
          rw [z] at h4
          obtain ⟨kk0, z1, z2⟩ := Option.bind_eq_some_iff.mp z
          have ew := key_rp r3 z1
          subst ew
          have nga : l ∉ F.ga := fun m => by
            obtain ⟨o, q⟩ := I1.h.pd l (I1.h.gp l m)
            rw [hl] at q; cases q
          have e4 : H3 l = some (.dK (mergeK [] ks)) := s3 l _ upd_same nga
          have s13 : Kp F H1 H3 := Kp.trans (Kp.of s2) s3
          have r5 : Paired (KvR (hide H3 P)) ks kvs := Paired.mapP e3 fun a b z => ⟨z.1, Rp.mono (I3.sm s13) z.2⟩
          obtain ⟨vv, v1, v2⟩ := kv_val (kv_merge r5 .nil) z2
          exact ⟨l, vv, rfl, by rw [← v1]; exact DGet.k e4, kk vv H3 (.d zz) G3 I3 (Kp.trans s1 s13) v2 h4⟩
    | _ => exact (show False from h2).elim⟩
end
end DL

set_option maxRecDepth 100000
set_option maxHeartbeats 4000000
/-! DL10: global dicts read and stored; the law's feed; the law's own frame. -/
namespace DL
open PySem PySem.Spec PySem.W PyProof.Rows L2 RZ
/-! ### pairs in step -/
theorem pr_get {α β : Type} {R : α → β → Prop} : ∀ {xs : List α} {ys : List β} {n : Nat} {x : α}, Paired R xs ys → xs[n]? = some x → ∃ y, ys[n]? = some y ∧ R x y
  | _, _, _, _, .nil, e => by simp at e
  | _, _, 0, _, .cons h _, e => by simp at e; subst e; exact ⟨_, rfl, h⟩
  | _, _, n + 1, _, .cons _ r, e => by
    obtain ⟨y, q1, q2⟩ := pr_get (n := n) r (by simpa using e)
    exact ⟨y, by simpa using q1, q2⟩
theorem pr_put {α β : Type} {R R' : α → β → Prop} {y : β} : ∀ {xs : List α} {ys : List β} {n : Nat} {x : α}, Paired R xs ys → xs.Nodup → xs[n]? = some x → R' x y → (∀ z b, z ∈ xs → z ≠ x → R z b → R' z b) → Paired R' xs (ys.set n y)
  | _, _, _, _, .nil, _, e, _, _ => by simp at e
  | _, _, 0, _, .cons (l₁ := l) h r, nd, e, hx, ho => by
    simp at e; subst e
    refine .cons hx ?_
    have nd' := List.nodup_cons.mp nd
    have all : ∀ {zs : List α} {bs : List β}, (∀ z ∈ zs, z ∈ l) → Paired R zs bs → Paired R' zs bs := by
      intro zs bs hs q
      induction q with
      | nil => exact .nil
      | cons h1 _ ih => exact .cons (ho _ _ (List.mem_cons_of_mem _ (hs _ List.mem_cons_self)) (fun z => nd'.1 (by rw [← z]; exact hs _ List.mem_cons_self)) h1) (ih fun z m => hs z (List.mem_cons_of_mem _ m))
    exact all (fun _ m => m) r
  | _, _, n + 1, x, .cons (a := a) h r, nd, e, hx, ho => by
    have nd' := List.nodup_cons.mp nd
    have e' : _ := e
    rw [List.getElem?_cons_succ] at e'
    have hm := List.mem_of_getElem? e'
    exact .cons (ho _ _ List.mem_cons_self (fun z => nd'.1 (by rw [z]; exact hm)) h) (pr_put r nd'.2 e' hx fun z b m => ho z b (List.mem_cons_of_mem _ m))
/-! ### a global dict -/
def asG : SV → (Nat → Prop) → Prop
  | .g n, k => k n
  | _, _ => False
@[simp] theorem asG_g {n : Nat} {k : Nat → Prop} : asG (.g n) k = k n := rfl
theorem asG_inv {x : SV} {k : Nat → Prop} (h : asG x k) : ∃ n, x = .g n ∧ k n := by
  cases x with
  | g n => exact ⟨n, rfl, h⟩
  | _ => exact (show False from h).elim
def gval (G : GS) (n : Nat) (k : Key) : Option D := match G[n]? with
  | some (.dict kvs) => valD kvs k
  | _ => none
def gput (G : GS) (n : Nat) (k : Key) (d : D) : GS := match G[n]? with
  | some (.dict kvs) => G.set n (.dict (putD kvs k d))
  | _ => G
def gsize (G : GS) (n : Nat) : Nat := match G[n]? with
  | some (.dict kvs) => kvs.length
  | some (.tab _ _) => sizeLine
  | none => 0
section
variable {X : Cx} {F : Fx} {o i e : Expr} {to ti tv : TDE} {pos : Pos}
def tdGGet (to ti : TDE) : TDE := fun env G Q => to env G fun x G1 => ti env G1 fun y G2 => asG x fun n => asD y fun d => match (keyD d).bind (gval G2 n) with
  | some z => Q (.d z) G2
  | none => False
theorem de_gget {lv : Nat} (hr : Room lv X.A) (ho : DE X F o to) (hi : DE X F i ti) (hs : NoSl i := by exact fun _ _ => rfl) : DE X F (.Subscript o i pos) (tdGGet to ti) :=
  PE.imp (pe_dget (by have := hr.un; omega) ho hi hs) fun σ H Q ⟨P, env, G, Qd, I, h, k⟩ => ⟨P, env, G, _, I, h, fun v H1 x G1 I1 s1 r1 h1 => ⟨P, env, G1, _, I1, h1, fun u H2 y G2 I2 s2 r2 h2 => by
    obtain ⟨n, rfl, h3⟩ := asG_inv (x := x) h2
    obtain ⟨d, rfl, h4⟩ := asD_inv (x := y) h3
    cases q : (keyD d).bind (gval G2 n) with
    | none => rw [q] at h4; exact h4.elim
    | some z =>
      rw [q] at h4
      obtain ⟨ky, q1, q2⟩ := Option.bind_eq_some_iff.mp q
      have := key_rp r2 q1
      subst this
      obtain ⟨a, ea, rfl⟩ := r1
      obtain ⟨go, e1, e2⟩ := pr_get I2.h.gl ea
      unfold gval at q2
      rw [e1] at q2
      cases go with
      | dict kvs =>
        obtain ⟨ks, e3, e4⟩ := e2
        obtain ⟨vv, v1, v2⟩ := kv_val e4 q2
        exact ⟨a, vv, rfl, by rw [← v1]; exact DGet.k e3, k vv H2 (.d z) G2 I2 (Kp.trans s1 s2) v2 h4⟩
      | tab b q' => cases q2⟩⟩
theorem DInv.gput {P : List Addr} {env : DEnv} {G : GS} {σ : L2.St} {H : Hp} (I : DInv F P env G σ H) {n : Nat} {a : Addr} {kvs : List (Key × D)} {ks : List (Key × V)} (ea : F.ga[n]? = some a) (e1 : G[n]? = some (.dict kvs)) (e3 : H a = some (.dK ks)) (e4 : Paired (KvR (hide H P)) ks kvs) {v : V} {d : D} (r : Rp (hide H P) v d) (k : Key) :
    DInv F P env (gput G n k d) σ (upd H a (.dK (putK ks k v))) ∧ Kp F H (upd H a (.dK (putK ks k v))) := by
  have hga : a ∈ F.ga := List.mem_of_getElem? ea
  have hp : a ∈ P := I.h.gp a hga
  have eh : hide (upd H a (.dK (putK ks k v))) P = hide H P := hide_upd hp
  have eg : DL.gput G n k d = G.set n (.dict (putD kvs k d)) := by unfold DL.gput; rw [e1]
  rw [eg]
  refine ⟨⟨⟨fun b ob q m => ?_, fun b m => ?_, I.h.sub, I.h.gp, I.h.g0, I.h.gn, ?_⟩, I.len, fun j sv q => ?_, I.dj⟩, fun b ob q m => ?_⟩
  · rw [upd_ne (fun z => m (by rw [z]; exact hga))]; exact I.h.fr b ob q m
  · by_cases z : b = a
    · subst z; exact ⟨_, upd_same⟩
    · rw [upd_ne z]; exact I.h.pd b m
  · refine pr_put I.h.gl I.h.gn ea ?_ fun z b m hz q => ?_
    · exact ⟨_, upd_same, by rw [eh]; exact kv_put r e4 k⟩
    · cases b with
      | dict kv2 =>
        obtain ⟨k2, y1, y2⟩ := q
        exact ⟨k2, by rw [upd_ne hz]; exact y1, by rw [eh]; exact y2⟩
      | tab b q' => exact ⟨q.1, tabS_upd q.2 hz e3 dK_no_code⟩
  · obtain ⟨u, y1, y2⟩ := I.sl j sv q
    refine ⟨u, y1, ?_⟩
    cases sv with
    | d x => show Rp (hide (upd H a (.dK (putK ks k v))) P) u x; rw [eh]; exact y2
    | own xs =>
      obtain ⟨p, us, z1, z2, z3, z4, z5⟩ := y2
      have hne : p ≠ a := fun z => by
        subst z
        exact I.h.notGa z3 hga
      exact ⟨p, us, z1, z2, z3, by rw [upd_ne hne]; exact z4, by rw [eh]; exact z5⟩
    | g n => exact y2
    | scr ns =>
      obtain ⟨b, z1, z2⟩ := y2
      exact ⟨b, z1, by rw [eh]; exact z2⟩
    | adr b => exact y2
    | exc b dd fs => show XcR _ b dd fs u; rw [eh]; exact y2
  · rw [upd_ne (fun z => m (by rw [z]; exact hga))]; exact q
def tdGPut (to ti tv : TDE) : TDS := fun D env G => tv env G fun v G1 => to env G1 fun x G2 => ti env G2 fun y G3 => asD v fun d => asG x fun n => asD y fun e => match keyD e with
  | some k => (n < G3.length ∧ gsize G3 n < sizeLine) ∧ D.nx env (gput G3 n k d)
  | none => False
theorem ds_gput {lv : Nat} {pos' : Pos} (hr : Room lv X.A) (ho : DE X F o to) (hi : DE X F i ti) (hv : DE X F e tv) (hs : swapsWith e (some (.Subscript o i pos')) pos.line X.env = pure false := by rfl) : DS X F (.Assign [.Subscript o i pos'] e pos) (tdGPut to ti tv) :=
  PS.imp (ps_dput (by have := hr.un; omega) ho hi hv hs) fun σ H D ⟨P, env, G, Dd, I, h, k⟩ => ⟨P, env, G, _, I, h, fun v H1 x G1 I1 s1 r1 h1 => ⟨P, env, G1, _, I1, h1, fun u H2 y G2 I2 s2 r2 h2 => ⟨P, env, G2, _, I2, h2, fun w H3 z G3 I3 s3 r3 h3 => by
    obtain ⟨d, rfl, h4⟩ := asD_inv (x := x) h3
    obtain ⟨n, rfl, h5⟩ := asG_inv (x := y) h4
    obtain ⟨e, rfl, h6⟩ := asD_inv (x := z) h5
    cases q : keyD e with
    | none => rw [q] at h6; exact h6.elim
    | some ky =>
      rw [q] at h6
      obtain ⟨⟨h7, h8⟩, h9⟩ := h6
      have := key_rp r3 q
      subst this
      obtain ⟨a, ea, rfl⟩ := r2
      obtain ⟨go, e1, e2⟩ := pr_get I3.h.gl ea
      cases go with
      | dict kvs =>
        obtain ⟨ks, e3, e4⟩ := e2
        have r4 : Rp (hide H3 P) v d := Rp.mono (I3.sm (Kp.trans s2 s3)) r1
        obtain ⟨J, kk⟩ := I3.gput ea e1 e3 e4 r4 ky
        have hl : ks.length < sizeLine := by
          unfold gsize at h8
          rw [e1] at h8
          rw [Paired.length e4]; exact h8
        exact ⟨a, _, rfl, DPut.k e3 hl, k.nx P env _ σ _ J (I1.sm s1 |>.trans (I3.sm (Kp.trans s2 (Kp.trans s3 kk)))) h9⟩
      | tab b q' =>
        unfold gsize at h8
        rw [e1] at h8
        exact absurd h8 (Nat.lt_irrefl _)⟩⟩⟩
end
/-! ### the feed is made -/
def feedK (k1 k2 k3 : Str) (cells : V) : List (Key × V) := [(.inr "cells", cells), (.inr k1, .int 0), (.inr k2, .int 0), (.inr k3, .int 0)]
def feedG (k1 k2 k3 : Str) (ns : List Int) (x y z : Int) : GS := [.dict [(.inr "cells", .list (ns.map .int)), (.inr k1, .int x), (.inr k2, .int y), (.inr k3, .int z)]]
def tFeed (K : PySem.W.Frag) (m : Nat) (k1 k2 k3 : Str) (i : Nat) : TE := fun σ H Q => ∃ (a : Addr) (ns : List Int), σ[i]? = some (some (.ref a)) ∧ SqL K H a (ns.map V.int) ∧
  ∀ H' p p2, Same H H' → H p = none → H p2 = none → p ≠ p2 → H' p2 = some (.lst ((ns.take m).map V.int)) → H' p = some (.dK (feedK k1 k2 k3 (.ref p2))) → Q (.ref p) H'
theorem pe_feed {X : Cx} (i : Nat) {x xl : Str} {m : Nat} {k1 k2 k3 : Str} {j1 j2 j3 j4 j5 j6 j7 j8 : _} {p1 p2 p3 p4 p5 p6 p7 p8 p9 p10 p11 p12 p13 pos : Pos} (hl : xl = "list") (hm : X.mg xl = none) (hN : X.N[i]? = some x := by rfl) (hv : Vis X.env.scope x := by first | exact Or.inl rfl | exact Or.inr (Or.inl rfl) | exact Or.inr (Or.inr rfl)) (hd : (x == ("__debug__" : Str)) = false := by decide)
    (hcd : (x == ("__classdict__" : Str)) = false := by decide) (hvl : bootBuiltins xl = some (.type "list") := by decide +kernel) (hg : Gl X xl := by rfl) (hn : xl ≠ "__name__" := by decide) (hdb : (xl == ("__debug__" : Str)) = false := by decide)
    (hne : k1 ≠ "cells" ∧ k2 ≠ "cells" ∧ k3 ≠ "cells" ∧ k1 ≠ k2 ∧ k1 ≠ k3 ∧ k2 ≠ k3 := by decide)
    (hs : starEach [.Subscript (.Name x p1) (.Slice none (some (.Constant (.int m) j1 p2)) none p3) p4] X.env = (false, eval (.Subscript (.Name x p1) (.Slice none (some (.Constant (.int m) j1 p2)) none p3) p4) X.env) :: starEach [] X.env := by rfl) (hpl : (backTo p6 (starEach [] X.env)).any (·.1) = false := by rfl) :
    PE X (.Dict [some (.Constant (.str "cells") j2 p7), some (.Constant (.str k1) j3 p8), some (.Constant (.str k2) j4 p9), some (.Constant (.str k3) j5 p10)]
      [.Call (.Name xl p5) [.Subscript (.Name x p1) (.Slice none (some (.Constant (.int m) j1 p2)) none p3) p4] [] p6, .Constant (.int 0) j6 p11, .Constant (.int 0) j7 p12, .Constant (.int 0) j8 p13] pos) (tFeed X.K m k1 k2 k3 i) := by
  subst hl
  refine PE.imp (pe_disp (pps_cons pe_str (pe_callTy call_list_of hg hm hvl (pa_cons (pe_slice sl_list (pe_var (i := i) hN hv hd hcd) po_none (po_some pe_int)) pa_nil hs) hn hdb hs hpl) (pps_cons pe_str pe_int (pps_cons pe_str pe_int (pps_cons pe_str pe_int pps_nil)))) rfl rfl (by simp) (show 4 ≤ 15 by decide)) fun σ H Q ⟨a, ns, e1, hx, k⟩ => ?_
  intro p hp
  have s1 : Same H (upd H p (.dK [])) := same_upd hp
  refine ⟨.ref a, e1, m, rfl, a, ns.map V.int, rfl, Same.seq s1 hx, fun q hq => ?_⟩
  have s2 : Same (upd H p (.dK [])) (upd (upd H p (.dK [])) q (.lst (cutV (ns.map V.int) none (some (m : Int))))) := same_upd hq
  have hqp : q ≠ p := fun z => by subst z; rw [upd_same] at hq; cases hq
  have hq0 : H q = none := by rw [upd_ne hqp] at hq; exact hq
  refine ⟨q, cutV (ns.map V.int) none (some (m : Int)), rfl, .inl (SqL.of upd_same), fun l hl2 => ?_⟩
  have s3 := same_upd (o := .lst (cutV (ns.map V.int) none (some (m : Int)))) hl2
  have hlq : l ≠ q := fun z => by subst z; rw [upd_same] at hl2; cases hl2
  have hlp : l ≠ p := fun z => by
    subst z
    rw [upd_ne hlq, upd_same] at hl2; cases hl2
  have hl0 : H l = none := by rw [upd_ne hlq, upd_ne hlp] at hl2; exact hl2
  have ep : (upd (upd (upd H p (.dK [])) q (.lst (cutV (ns.map V.int) none (some (m : Int))))) l (.lst (cutV (ns.map V.int) none (some (m : Int))))) p = some (.dK []) := by
    rw [upd_ne (Ne.symm hlp), upd_ne (Ne.symm hqp), upd_same]
  have fin : Q (.ref p) (upd (upd (upd (upd H p (.dK [])) q (.lst (cutV (ns.map V.int) none (some (m : Int))))) l (.lst (cutV (ns.map V.int) none (some (m : Int))))) p (.dK (feedK k1 k2 k3 (.ref l)))) := by
    refine k _ p l (fun b o z => ?_) hp hl0 (Ne.symm hlp) ?_ upd_same
    · have hbp : b ≠ p := fun y => by subst y; rw [hp] at z; cases z
      have hbq : b ≠ q := fun y => by subst y; rw [hq0] at z; cases z
      have hbl : b ≠ l := fun y => by subst y; rw [hl0] at z; cases z
      rw [upd_ne hbp, upd_ne hbl, upd_ne hbq, upd_ne hbp]; exact z
    · rw [upd_ne hlp, upd_same]
      have e : cutV (ns.map V.int) none (some (m : Int)) = (ns.take m).map V.int := by
        unfold cutV
        show ((ns.map V.int).drop 0).take (HT.sIx (ns.map V.int).length (ns.map V.int).length (some (m : Int)) - 0) = _
        have : HT.sIx (ns.map V.int).length (ns.map V.int).length (some (m : Int)) = min m ns.length := by
          unfold HT.sIx
          simp only [List.length_map]
          rw [if_neg (by omega)]
          simp
        rw [this, List.drop_zero, Nat.sub_zero, ← List.map_take]
        congr 1
        rw [← List.length_map (f := V.int)]
        rcases Nat.le_total m ns.length with q | q
        · rw [List.length_map, Nat.min_eq_left q]
        · rw [List.length_map, Nat.min_eq_right q, List.take_of_length_le (Nat.le_refl _), List.take_of_length_le q]
      rw [e]
  obtain ⟨n1, n2, n3, n4, n5, n6⟩ := hne
  refine ⟨ep, feedK k1 k2 k3 (.ref l), rfl, (show 4 ≤ 15 by decide), ?_⟩
  have em : mergeK [] (feedK k1 k2 k3 (.ref l)) = feedK k1 k2 k3 (.ref l) := by
    have d : ∀ {a b : Str}, a ≠ b → decide ((Sum.inr a : Key) = Sum.inr b) = false := fun h => decide_eq_false fun z => h (Sum.inr.inj z)
    unfold mergeK feedK
    simp only [List.foldl_cons, List.foldl_nil, putK, List.any_nil, List.any_cons, Bool.false_eq_true, if_false, List.nil_append, Bool.or_false, d (Ne.symm n1), d (Ne.symm n2), d (Ne.symm n3), d n4, d n5, d n6, List.cons_append]
  rw [em]
  exact fin
end DL

set_option maxRecDepth 100000
set_option maxHeartbeats 4000000
/-! DL11: the law's frame: its first statement makes the feed, the rest runs over data; the end. -/
namespace DL
open PySem PySem.Spec PySem.W PyProof.Rows L2 RZ
section
variable {P : Program} {w : World} {K : PySem.W.Frag} {mg mb : Str → Option Value}
/-- from a heap in which the script alone may be tracked -/
theorem law_core {lv : Nat} {fa a : Addr} {fd : FuncData} {x : Str} {sp : Sp3} {s : Shared} {us : List Value} {H : Hp}
    (KX : K.In s.heap) (g1 : s.heap.Ns mainGlobals mg) (g2 : s.heap.Ns builtinsNs mb) (g3 : ∀ x : Str, x ≠ "__name__" → mb x = bootBuiltins x) (g4 : s.heap.NoLimit) (g5 : s.gens = #[])
    (ha : s.heap.get? a = some { cls := .type "list", data := .seq us.toArray }) (hr : Room lv callerA)
    (F : ∀ base : Heap, K.In base → base.Ns mainGlobals mg → FnG P w K mg base lv fa fd [x] sp) (hb : ∀ (s : Shared) (u : Value), BindsTo s fd ⟨[u], []⟩ [(x, u)])
    (hO : Only H) (hsp : sp [.ref a] H (fun v _ => v = .bl true)) (ok : HOk P w H s.heap) (hA : ∀ b, H b ≠ none → b = a) (hK : H a ≠ none → K.lookup a = none) :
    codeAny (model P w) callerA (.call (.ref fa) ⟨[.ref a], []⟩) (fun r s' => r = .ok (.ret (.bool true)) ∧ OldK s.heap s'.heap ∧ s'.os = s.os ∧ AllBare s'.gens) s := by
  have bare_of : ∀ {b : Addr} {o : Obj} {es : Array DictEntry} {ep : Nat}, s.heap.get? b = some o → o.data = .dict es ep → H b = none := by
    intro b o es ep z1 z2
    cases q : H b with
    | none => rfl
    | some u =>
      have e : b = a := hA b (by rw [q]; simp)
      rw [e, ha] at z1
      cases z1
      cases z2
  have up : ∀ {b : Addr} {m : Str → Option Value}, s.heap.Ns b m → (hidT s.heap H).Ns b m := by
    rintro b m ⟨o, es, ep, z1, z2, z3⟩
    exact ⟨o, es, ep, hidT_get z1 (bare_of z1 z2), z2, z3⟩
  have kin : K.In (hidT s.heap H) := by
    intro b o z
    refine hidT_get (KX b o z) ?_
    cases q : H b with
    | none => rfl
    | some u =>
      have e : b = a := hA b (by rw [q]; simp)
      subst e
      rw [hK (by rw [q]; simp)] at z
      cases z
  have md : Mod K mg (hidT s.heap H) := ⟨kin, up g1, ⟨mb, up g2, g3⟩, by obtain ⟨mc, z1, z2⟩ := g4; exact ⟨mc, up z1, z2⟩⟩
  have e0 : Env0 P w K mg (hidT s.heap H) callerA [] s H := ⟨rfl, md, fun b o z => of_hidT z, Nat.le_of_eq (hidT_size _ _), trivial, fun b z => (List.not_mem_nil (show b ∈ ([] : List Addr) from z)).elim, ok, .of_eq g5⟩
  have run := (F _ kin (up g1)).run callerA [] s H ⟨[.ref a], []⟩ [.ref a] [.ref a] (fun v _ => v = .bl true) hr rfl e0 (hb s (.ref a)) (.cons rfl .nil) hsp
  refine codeAny_mono run fun r s' h => ?_
  match r, h with
  | .ok (.ret u), ⟨v, H', os, bare, un, ok', rv, q⟩ =>
    have q' : v = .bl true := q
    subst q'
    have hu : u = Value.bool true := rv
    subst hu
    refine ⟨rfl, OldK.of_keep fun b o z => ?_, os, bare⟩
    cases q : H b with
    | none => exact un.keep b o z q (fun m => (List.not_mem_nil (show b ∈ ([] : List Addr) from m)).elim) List.not_mem_nil
    | some t =>
      rcases hO b with y | ⟨ob, zs, y⟩
      · rw [q] at y; cases y
      · obtain ⟨y1, _⟩ := ok b _ y
        obtain ⟨y2, _⟩ := ok' b _ (un.frzs b ob _ y)
        rw [z] at y1
        cases y1
        exact y2
  | .ok .next, h => exact False.elim h
  | .ok .brk, h => exact False.elim h
  | .ok .cont, h => exact False.elim h
  | .error e, h => exact False.elim h
def onlyAt (a : Addr) (o : HO) : Hp := fun b => if b = a then some o else none
theorem law_run {lv : Nat} {fa a : Addr} {fd : FuncData} {x : Str} {sp : Sp3} {s : Shared} {us : List Value} {ns : List Int}
    (KX : K.In s.heap) (g1 : s.heap.Ns mainGlobals mg) (g2 : s.heap.Ns builtinsNs mb) (g3 : ∀ x : Str, x ≠ "__name__" → mb x = bootBuiltins x) (g4 : s.heap.NoLimit) (g5 : s.gens = #[])
    (ha : s.heap.get? a = some { cls := .type "list", data := .seq us.toArray }) (hi : IntsAre us ns) (hl : ns.length ≤ sizeLine) (hr : Room lv callerA)
    (F : ∀ base : Heap, K.In base → base.Ns mainGlobals mg → FnG P w K mg base lv fa fd [x] sp) (hb : ∀ (s : Shared) (u : Value), BindsTo s fd ⟨[u], []⟩ [(x, u)])
    (hsp : ∀ H : Hp, SqL K H a (ns.map V.int) → sp [.ref a] H (fun v _ => v = .bl true)) :
    codeAny (model P w) callerA (.call (.ref fa) ⟨[.ref a], []⟩) (fun r s' => r = .ok (.ret (.bool true)) ∧ OldK s.heap s'.heap ∧ s'.os = s.os ∧ AllBare s'.gens) s := by
  have rv := vals_ints hi
  have ll := hi.length
  cases hk : K.lookup a with
  | some o =>
    have e := KX a o hk
    rw [ha] at e
    cases e
    have sq : SqL K (fun _ => none) a (ns.map V.int) := .inr ⟨_, us.toArray, _, hk, rfl, rfl, rfl, by rw [List.size_toArray, ll]; exact hl, by simpa using rv⟩
    exact law_core KX g1 g2 g3 g4 g5 ha hr F hb (fun _ => .inl rfl) (hsp _ sq) (fun b u z => nomatch (show (none : Option HO) = some u from z)) (fun b z => absurd rfl z) (fun z => absurd rfl z)
  | none =>
    let ho : HO := .frz { cls := .type "list", data := .seq us.toArray } (.lst (ns.map V.int))
    have at_ : onlyAt a ho a = some ho := if_pos rfl
    have sq : SqL K (onlyAt a ho) a (ns.map V.int) := .inl (.inr ⟨_, at_⟩)
    have inv : ∀ {b : Addr} {u : HO}, onlyAt a ho b = some u → b = a ∧ u = ho := by
      intro b u z
      by_cases q : b = a
      · subst q; rw [at_] at z; cases z; exact ⟨rfl, rfl⟩
      · have : onlyAt a ho b = none := if_neg q
        rw [this] at z; cases z
    refine law_core (H := onlyAt a ho) KX g1 g2 g3 g4 g5 ha hr F hb (fun b => ?_) (hsp _ sq) (fun b u z => ?_) (fun b z => ?_) (fun _ => hk)
    · by_cases q : b = a
      · exact .inr ⟨_, _, if_pos q⟩
      · exact .inl (if_neg q)
    · obtain ⟨rfl, rfl⟩ := inv z
      exact ⟨ha, by rw [List.length_map]; exact hl, us, _, rv, ha⟩
    · cases q : onlyAt a ho b with
      | none => exact absurd q z
      | some u => exact (inv q).1
end
theorem law_walk {l : PySem.W.OpenLaw} {n lv : Nat} {q : Program} {loose : List Str} {XP : (Str → Option Value) → Heap → Prop} {YP : World → Heap → Prop} {d : DefRec} {K : Params → PySem.W.Frag} {sp : PySem.W.Frag → Sp3} {x : Str}
    (h1 : l.most = some n) (h2 : n ≤ sizeLine) (h3 : d.params.defaults = []) (hr : Room lv callerA) (hY : ∀ (w : World) (h : Heap), YP w h → (K w.params).In h)
    (F : ∀ (w : World) (mg : Str → Option Value) (fa : Addr) (h : Heap), (K w.params).In h → h.Ns mainGlobals mg → mg d.name = some (.ref fa) →
      ∃ fd : FuncData, (∀ (s : Shared) (u : Value), BindsTo s fd ⟨[u], []⟩ [(x, u)]) ∧ ∀ base : Heap, (K w.params).In base → base.Ns mainGlobals mg → FnG l.prog w (K w.params) mg base lv fa fd [x] (sp (K w.params)))
    (hsp : ∀ (K : PySem.W.Frag) (H : Hp) (a : Addr) (ns : List Int), SqL K H a (ns.map V.int) → sp K [.ref a] H (fun v _ => v = .bl true)) :
    PySem.W.WalkO q loose XP YP l.row.toRowW d [] (fun f vs => PySem.call f vs) := by
  refine Att.attach_call h1 h3 fun w s₀ s₁ mg mb fa o pm cd doc a us ns G Y ho hd hcd hmg hobj hints hlen hg => ?_
  have KX := hY w _ Y
  obtain ⟨fd, hb, hF⟩ := F w mg fa _ KX G.T.g hmg
  exact law_run KX G.T.g G.T.b G.T.builtins G.T.nolimit hg hobj hints (Nat.le_trans hlen h2) hr hF hb fun H hS => hsp (K w.params) H a ns hS
/-! ### the law's body -/
/-- the law: at any script of ints it answers True -/
def spL (K : PySem.W.Frag) : Sp3 := fun vs H Q => ∃ (a : Addr) (ns : List Int), vs = [.ref a] ∧ SqL K H a (ns.map V.int) ∧ ∀ H', Q (.bl true) H'
/-- the feed's maker -/
def spF (K : PySem.W.Frag) (m : Nat) (k1 k2 k3 : Str) : Sp3 := fun vs H Q => ∃ (a : Addr) (ns : List Int), vs = [.ref a] ∧ SqL K H a (ns.map V.int) ∧
  ∀ H' p p2, Same H H' → H p = none → H p2 = none → p ≠ p2 → H' p2 = some (.lst ((ns.take m).map V.int)) → H' p = some (.dK (feedK k1 k2 k3 (.ref p2))) → Q (.ref p) H'
section
variable {X : Cx} {pos : Pos}
/-- any frame -/
def tAnyF (K : PySem.W.Frag) (t : TDS) : TS := fun D σ H => ∃ F : Fx, F.K = K ∧ lS F t D σ H
theorem pss_anyF {sts : List Stmt} {t : TDS} (h : ∀ F : Fx, F.K = X.K → DSs X F sts t) : PSs X sts (tAnyF X.K t) := ⟨fun pins s σ H D I ⟨F, e, q⟩ => (h F e).run pins s σ H D I q⟩
theorem feed_inv {K : PySem.W.Frag} {H' : Hp} {N : Nat} {a p p2 : Addr} {k1 k2 k3 : Str} {ns : List Int} (hne : p ≠ p2) (e2 : H' p2 = some (.lst (ns.map V.int))) (e1 : H' p = some (.dK (feedK k1 k2 k3 (.ref p2)))) :
    ∃ (F : Fx), F.K = K ∧ DInv F [p] (none :: some (.g 0) :: List.replicate N none) (feedG k1 k2 k3 ns 0 0 0) (some (.ref a) :: some (.ref p) :: List.replicate N none) H' := by
  have pd : ∀ b ∈ [p], ∃ o, H' b = some o := fun b m => by
    rw [List.mem_singleton.mp m]; exact ⟨_, e1⟩
  refine ⟨⟨K, [p], H', [p], pd⟩, rfl, ⟨⟨fun b o z _ => z, pd, fun b m => m, fun b m => m, pd, List.nodup_cons.mpr ⟨List.not_mem_nil, List.nodup_nil⟩, ?_⟩, ?_, ?_, ?_⟩⟩
  · refine .cons ⟨_, e1, ?_⟩ .nil
    refine .cons ⟨rfl, Rp.lst (by rw [hide_out (fun m => hne (List.mem_singleton.mp m).symm)]; exact e2) (RpAll.ints ns)⟩ (.cons ⟨rfl, Rp.int 0⟩ (.cons ⟨rfl, Rp.int 0⟩ (.cons ⟨rfl, Rp.int 0⟩ .nil)))
  · simp
  · intro i sv q
    match i, q with
    | 1, q =>
      have q' : some (SV.g 0) = some sv := by simpa using q
      cases q'
      exact ⟨.ref p, rfl, p, rfl, rfl⟩
    | 0, q => simp at q
    | i + 2, q =>
      rw [List.getElem?_cons_succ, List.getElem?_cons_succ, List.getElem?_replicate] at q
      split at q <;> cases q
  · intro i j xs ys v w _ q _ _ _
    match i, q with
    | 0, q => simp at q
    | 1, q => simp at q
    | i + 2, q =>
      rw [List.getElem?_cons_succ, List.getElem?_cons_succ, List.getElem?_replicate] at q
      split at q <;> cases q
/-- the law's def: x = feed(script) first, then the rest (read over data) -/
theorem FnG.law {pr : Program} {w : World} {K : PySem.W.Frag} {mg : Str → Option Value} {base : Heap} {x qual sx fx : Str} {st : Stmt} {f ff : Addr} {fd fdf : FuncData} {N : List Str} {M lv lf m : Nat} {k1 k2 k3 : Str} {px pf pa pc pos : Pos} {rest : List Stmt} {t : TDS}
    (Fn : Fun K x qual st f fd) (S : FnScope N [sx] (defScope st)) (hN : N.length = M + 2) (h0 : N[0]? = some sx) (h1 : N[1]? = some fx) {nf : Str} (hf : FnG pr w K mg base lf ff fdf [sx] (spF K m k1 k2 k3)) (hlf : lf ≤ lv) (hmf : mg nf = some (.ref ff)) (hkf : PySem.W.keepIn K (.ref ff) = true) (hbf : Binds K fdf [sx] [])
    (hbody : defBody st = .Assign [.Name fx px] (.Call (.Name nf pf) [.Name sx pa] [] pc) pos :: rest)
    (nd : N.Nodup) (hlx : Loc (defScope st) fx) (hfn : ∀ (cdv : Value) (A : Around) (out : List Env) (s : Shared) (H : Hp), (cxOf CX0 pr w K mg base N qual (defScope st) f cdv A out s H E0).nox.fn fx = true ∨ (defScope st).names.lookup fx = some .local) (hls : (defScope st).names.lookup sx = some .local)
    (side : ∀ X : Cx, X.env.scope = defScope st → Gl X nf ∧ starEach [Expr.Name sx pa] X.env = (false, eval (.Name sx pa) X.env) :: starEach [] X.env ∧ (backTo pc (starEach [] X.env)).any (·.1) = false ∧ swapsWith (.Call (.Name nf pf) [.Name sx pa] [] pc) (some (.Name fx px)) pos.line X.env = pure false)
    (hd1 : (nf == ("__debug__" : Str)) = false) (hd2 : (sx == ("__debug__" : Str)) = false) (hd3 : (sx == ("__classdict__" : Str)) = false)
    (body : ∀ (cdv : Value) (A : Around) (out : List Env) (s : Shared) (H : Hp) (F : Fx), F.K = K → Room lv (A.deeper (envOfC qual (defScope st) s.heap.objs.size f cdv)) → (A.deeper (envOfC qual (defScope st) s.heap.objs.size f cdv)).guards = some [] →
      DSs (cxOf CX0 pr w K mg base N qual (defScope st) f cdv A out s H E0).nox F rest t)
    (read : ∀ ns : List Int, ns.length ≤ m → t { nx := fun _ _ => False, rt := fun y _ => y = .d (.bool true) } (none :: some (.g 0) :: List.replicate M none) (feedG k1 k2 k3 ns 0 0 0)) :
    FnG pr w K mg base (lv + 1) f fd [sx] (spL K) := by
  refine FnG.of Fn S (fun vs H Q ⟨a, ns, e, _⟩ => by rw [e]; rfl) fun cdv A out s H vs Q hr hg h => ?_
  obtain ⟨a, ns, rfl, hx, hQ⟩ := h
  let X : Cx := (cxOf CX0 pr w K mg base N qual (defScope st) f cdv A out s H E0).nox
  have hX : X.env.scope = defScope st := rfl
  obtain ⟨d1, d2, d3, d4⟩ := side X hX
  have pc1 : PE X (.Call (.Name nf pf) [.Name sx pa] [] pc) _ := pe_callG (X := X) hf (hr.mono hlf) hg hmf hkf hbf (pa_cons (pe_var (i := 0) h0 (Or.inl (by rw [hX]; exact hls)) hd2 hd3) pa_nil d2) d1 hd1 d2 d3
  have ps1 : PS X (.Assign [.Name fx px] (.Call (.Name nf pf) [.Name sx pa] [] pc) pos) _ := ps_set (X := X) (i := 1) nd h1 (by rw [hX]; exact hlx) pc1 d4 (hfn cdv A out s H)
  rw [hbody]
  refine ⟨_, pss_cons ps1 (pss_anyF (X := X) (t := t) fun F e => body cdv A out s H F e hr hg), ?_⟩
  have e0 : start N [.ref a] = some (.ref a) :: none :: List.replicate M none := by
    unfold L2.start
    rw [hN]
    rfl
  rw [e0]
  refine ⟨.ref a, rfl, a, ns, rfl, hx, fun H' p p2 sm hp hp2 hne e2 e1 => ?_⟩
  obtain ⟨F, eK, I⟩ := feed_inv (K := K) (N := M) (a := a) hne e2 e1
  refine ⟨F, eK, [p], _, _, _, I, read (ns.take m) (by rw [List.length_take]; omega), ?_⟩
  constructor
  · intro _ _ _ _ _ _ _ z; exact z.elim
  · intro _ _ _ _ _ _ _ z; exact z.elim
  · intro _ _ _ _ _ _ _ z; exact z.elim
  · intro P' v H2 y G' J _ r z
    have z' : y = .d (.bool true) := z
    subst z'
    have := Rp.bl_inv r
    subst this
    exact hQ H2
end
end DL

set_option maxRecDepth 100000
set_option maxHeartbeats 4000000
/-! DL12: literals, small rules, the laws of loops. -/
namespace DL
open PySem PySem.Spec PySem.W PyProof.Rows L2 RZ
/-! ### literals -/
def litI : Expr → Option Int
  | .Constant (.int i) _ _ => some i
  | .BinOp (.Constant (.int i) _ _) .Pow (.Constant (.int j) _ _) _ => if 0 ≤ j ∧ j ≤ 1000 ∧ i.natAbs < 1000 then some (i ^ j.toNat) else none
  | _ => none
mutual
def litE : Nat → Expr → Option D
  | 0, _ => none
  | n + 1, e => match e with
    | .Constant .none _ _ => some .none
    | .Constant (.bool b) _ _ => some (.bool b)
    | .Constant (.str x) _ _ => some (.str x)
    | .UnaryOp .USub a _ => (litI a).map fun i => .int (-i)
    | .Tuple es _ _ => (litEs n es).bind fun ds => if ds.length ≤ 1000 then some (.tuple ds) else none
    | .List es _ => (litEs n es).bind fun ds => if ds.length ≤ 1000 then some (.list ds) else none
    | e => (litI e).map .int
def litEs : Nat → List Expr → Option (List D)
  | 0, _ => none
  | _ + 1, [] => some []
  | n + 1, e :: es => (litE n e).bind fun d => (litEs n es).map fun ds => d :: ds
end
section
variable {X : Cx} {F : Fx}
theorem de_litI : ∀ {e : Expr} {i : Int}, litI e = some i → DE X F e (tdC (.int i)) ∧ ∀ es, starEach (e :: es) X.env = (false, eval e X.env) :: starEach es X.env := by
  intro e i h
  unfold litI at h
  split at h
  · cases h
    exact ⟨de_int, fun _ => rfl⟩
  · rename_i a _ _ b _ _ _
    split at h
    · rename_i q
      cases h
      refine ⟨PE.imp (de_op (r := rdPow) op_pow imp_II de_int de_int) fun σ H Q ⟨P, env, G, Qd, I, h, k⟩ => ⟨P, env, G, Qd, I, ?_, k⟩, fun _ => rfl⟩
      exact ⟨⟨q.1, by omega, by omega⟩, h⟩
    · cases h
  · cases h
theorem de_negI {e : Expr} {i : Int} {pos : Pos} (h : DE X F e (tdC (.int i))) : DE X F (.UnaryOp .USub e pos) (tdC (.int (-i))) := PE.imp (de_un un_neg imp_neg h) fun σ H Q ⟨P, env, G, Qd, I, h, k⟩ => ⟨P, env, G, Qd, I, h, k⟩
mutual
theorem de_litG : ∀ (n : Nat) {e : Expr} {d : D}, litE n e = some d → DE X F e (tdC d) ∧ ∀ es, starEach (e :: es) X.env = (false, eval e X.env) :: starEach es X.env
  | 0, e, d, h => by unfold litE at h; cases h
  | n + 1, e, d, h => by
    unfold litE at h
    split at h
    · cases h; exact ⟨de_non, fun _ => rfl⟩
    · cases h; exact ⟨de_bl, fun _ => rfl⟩
    · cases h; exact ⟨de_str, fun _ => rfl⟩
    · obtain ⟨i, e1, e2⟩ := Option.map_eq_some_iff.mp h
      subst e2
      exact ⟨de_negI (de_litI e1).1, fun _ => rfl⟩
    · obtain ⟨ds, e1, e2⟩ := Option.bind_eq_some_iff.mp h
      split at e2
      · rename_i hl
        cases e2
        refine ⟨PE.imp (de_tup (da_litG n e1)) fun σ H Q ⟨P, env, G, Qd, I, h, k⟩ => ⟨P, env, G, Qd, I, ?_, k⟩, fun _ => rfl⟩
        have all : ∀ ds : List D, allD (ds.map SV.d) = some ds := by
          intro ds
          induction ds with
          | nil => rfl
          | cons x r ih => show (allD (r.map SV.d)).map (x :: ·) = _; rw [ih]; rfl
        show asAll (ds.map SV.d) _
        unfold asAll
        rw [all]
        exact ⟨Nat.le_trans hl (by decide), h⟩
      · cases e2
    · obtain ⟨ds, e1, e2⟩ := Option.bind_eq_some_iff.mp h
      split at e2
      · rename_i hl
        cases e2
        refine ⟨PE.imp (de_lst (da_litG n e1)) fun σ H Q ⟨P, env, G, Qd, I, h, k⟩ => ⟨P, env, G, Qd, I, ?_, k⟩, fun _ => rfl⟩
        have all : ∀ ds : List D, allD (ds.map SV.d) = some ds := by
          intro ds
          induction ds with
          | nil => rfl
          | cons x r ih => show (allD (r.map SV.d)).map (x :: ·) = _; rw [ih]; rfl
        show asAll (ds.map SV.d) _
        unfold asAll
        rw [all]
        exact ⟨Nat.le_trans hl (by decide), h⟩
      · cases e2
    · obtain ⟨i, e1, e2⟩ := Option.map_eq_some_iff.mp h
      subst e2
      exact de_litI e1
theorem da_litG : ∀ (n : Nat) {es : List Expr} {ds : List D}, litEs n es = some ds → DA X F es (fun _ G Q => Q (ds.map SV.d) G)
  | 0, _, _, h => by unfold litEs at h; cases h
  | n + 1, [], ds, h => by
    unfold litEs at h
    cases h
    exact da_nil
  | n + 1, e :: es, ds, h => by
    unfold litEs at h
    obtain ⟨d, e1, e2⟩ := Option.bind_eq_some_iff.mp h
    obtain ⟨rs, e3, e4⟩ := Option.map_eq_some_iff.mp e2
    subst e4
    obtain ⟨h1, h2⟩ := de_litG n e1
    exact PA.imp (da_cons h1 (da_litG n e3) (h2 es)) fun σ H Q ⟨P, env, G, Qd, I, h, k⟩ => ⟨P, env, G, Qd, I, h, k⟩
end
theorem de_lit (n : Nat) {e : Expr} {d : D} (h : litE n e = some d) : DE X F e (tdC d) := (de_litG n h).1
end
/-! ### a promise that no call keeps; keywords of one parameter -/
section
variable {pr : Program} {w : World} {K : PySem.W.Frag} {mg : Str → Option Value} {base : Heap}
theorem FnG.none {lv : Nat} {f : Addr} {fd : FuncData} {ps : List Str} : FnG pr w K mg base lv f fd ps (lSp K fun _ _ _ => False) :=
  ⟨fun vs H Q ⟨_, _, _, _, _, _, _, h, _⟩ => h.elim, fun A out s H ar us vs Q _ _ _ _ _ ⟨_, _, _, _, _, _, _, h, _⟩ => h.elim⟩
theorem FnG.weak {lv : Nat} {f : Addr} {fd : FuncData} {ps : List Str} {ct ct' : CT} (g : FnG pr w K mg base lv f fd ps (lSp K ct)) (h : ∀ xs G Q, ct' xs G Q → ct xs G Q) : FnG pr w K mg base lv f fd ps (lSp K ct') :=
  g.imp fun vs H Q ⟨ga, P, G, xs, Qd, c, r, q, k⟩ => ⟨ga, P, G, xs, Qd, c, r, h _ _ _ q, k⟩
theorem kw_one {x qual : Str} {st : Stmt} {f : Addr} {fd : FuncData} {p : Str} (F : L2.Fun K x qual st f fd)
    (h : ∀ (kV doc pm : Value) (an : Option Addr) (cdv ct : Value) (u : Value), bindArgs (PySem.W.fnOf x qual (defArgs st) (defBody st) (defScope st) .none kV doc pm an cdv ct) ⟨[], [(p, u)]⟩ = pure [(p, u)]) : KwB K fd [p] [p] id id := by
  obtain ⟨oc, od, kV, doc, pm, an, cdv, ct, osl, rfl, lk, hcd⟩ := F.ex
  refine ⟨fun s ws _ hl => ?_, fun r => r⟩
  match ws, hl with
  | [u], _ => exact .of_eq (h kV doc pm an cdv ct u)
end
/-! ### a, b = x, [..] where a or b is read by an inner block -/
section
variable {X : Cx} {F : Fx} {a b : Expr} {ta : TDE}
theorem ds_parCO {i j : Nat} {x y : Str} {px py pt pos : Pos} {kt k2 : _} {pt2 : Pos} {t : TDF} (hc : X.calm = true) (hN : X.N.Nodup) (ha : DE X F a ta) (hb : DF X F b t) (hi : X.N[i]? = some x := by rfl) (hj : X.N[j]? = some y := by rfl) (hij : i ≠ j := by decide)
    (hx : Loc X.env.scope x := by first | exact .inl rfl | exact .inr rfl) (hf : X.fn x = true ∨ X.env.scope.names.lookup x = some .local := by first | exact .inl rfl | exact .inr rfl | assumption)
    (hy : Loc X.env.scope y := by first | exact .inl rfl | exact .inr rfl) (hfy : X.fn y = true ∨ X.env.scope.names.lookup y = some .local := by first | exact .inl rfl | exact .inr rfl | assumption)
    (hs : swapsWithSole [.Tuple [.Name x px, .Name y py] kt pt] (.Tuple [a, b] k2 pt2) pos.line X.env = pure false := by rfl) (hw : swappedStores [.Tuple [.Name x px, .Name y py] kt pt] (.Tuple [a, b] k2 pt2) X.env = pure none := by rfl)
    (h1 : (assignEach [.Tuple [.Name x px, .Name y py] kt pt] X.env).map (·.2) = [assign (.Tuple [.Name x px, .Name y py] kt pt) X.env] := by rfl)
    (hs1 : starEach [a, b] X.env = (false, eval a X.env) :: starEach [b] X.env := by rfl) (hs2 : starEach [b] X.env = (false, eval b X.env) :: starEach [] X.env := by rfl)
    (hn : (assignEach [.Name x px, .Name y py] X.env).length = 2 := by rfl) (hst : (assignEach [.Name x px, .Name y py] X.env).findIdx? (·.1) = none := by rfl)
    (hs3 : (assignEach [.Name x px, .Name y py] X.env).map (·.2) = assign (.Name x px) X.env :: (assignEach [.Name y py] X.env).map (·.2) := by rfl) (hs4 : (assignEach [.Name y py] X.env).map (·.2) = assign (.Name y py) X.env :: (assignEach [] X.env).map (·.2) := by rfl) :
    DS X F (.Assign [.Tuple [.Name x px, .Name y py] kt pt] (.Tuple [a, b] k2 pt2) pos) (tdParO i j ta t) :=
  PS.imp (ps_asg (pe_tup (pa_cons ha (pa_cons hb pa_nil hs2) hs1)) (pg_tup hc (pgs_cons (pg_name hN hi hx hf) (pgs_cons (pg_name hN hj hy hfy) pgs_nil hs4) hs3) hn hst) hs hw h1) fun σ H D ⟨P, env, G, Dd, I, h, k⟩ => ⟨P, env, G, _, I, h, fun v H1 x G1 I1 s1 r1 h1 => ⟨P, env, G1, _, I1, h1, fun p H2 vs ys G2 f h2 => by
    refine ⟨by show 2 ≤ sizeLine; decide, fun q hq => ?_⟩
    have s3 : Same H2 (upd H2 q (.tup [v, .ref p])) := same_upd hq
    refine ⟨q, [v, .ref p], rfl, SqT.of upd_same, rfl, v, [.ref p], rfl, .ref p, [], rfl, rfl, ?_⟩
    have I2 : DInv F (p :: P) (env.set i (some x)) G2 (σ.set i (some v)) H2 := f.inv.store (VRel.mono f.same r1) i
    have f3 : FreshL F P (env.set i (some x)) (σ.set i (some v)) H1 p H2 vs ys G2 := ⟨I2, f.kp, f.same, f.nP, f.n0, f.at_, f.rp, fun m zs e z => by
      by_cases hm : i = m
      · subst hm
        have hlt : i < env.length := by
          have := (List.getElem?_eq_some_iff.mp e).1
          rwa [List.length_set] at this
        rw [List.getElem?_set_self hlt] at e
        cases e
        exact (show False from r1).elim
      · rw [List.getElem?_set_ne hm] at e z
        exact f.no m zs e z⟩
    have J := (DInv.storeOwn f3 j).ext s3
    exact k.nx _ _ G2 _ _ J (Same.trans (Same.trans (I1.sm s1) f.same) (hide_same s3)) h2⟩⟩
end
theorem blk_of {N : List Str} {sc scope : Scope} {own : List (Str × Nat)} {X : Cx} (hN : X.N = N) (hs : X.env.scope = sc) (h : blkC N sc scope own = true) : BlkOk X.N X.env.scope scope own := by
  rw [hN, hs]; exact blkOk_by h
/-! ### loops -/
/-- a for loop by what stands between its turns -/
theorem dloop_by {g : TDG} {tb : TDS} {K : DEnds} : ∀ (items : List D) (Iv : Nat → DEnv → GS → Prop) (n : Nat) (env : DEnv) (G : GS),
    (∀ i x env G, items[i]? = some x → Iv (n + i) env G → ∀ nx : DEnv → GS → Prop, (∀ e G', Iv (n + i + 1) e G' → nx e G') → g (.d x) env fun env' => tb { nx := nx, ct := nx, bk := K.nx, rt := K.rt } env' G) →
    (∀ env G, Iv (n + items.length) env G → K.nx env G) → Iv n env G → dloop g tb K items env G
  | [], Iv, n, env, G, _, he, h => he env G h
  | x :: r, Iv, n, env, G, hs, he, h => by
    refine hs 0 x env G rfl h (dloop g tb K r) fun e G' h' => ?_
    refine dloop_by r Iv (n + 1) e G' (fun i y env2 G2 e1 e2 nx hnx => ?_) (fun env2 G2 e2 => ?_) h'
    · have e3 : n + 1 + i = n + (i + 1) := by omega
      rw [e3] at e2 hnx
      exact hs (i + 1) y env2 G2 (by simpa using e1) e2 nx hnx
    · have e3 : n + 1 + r.length = n + (x :: r).length := by rw [List.length_cons]; omega
      rw [e3] at e2
      exact he env2 G2 e2
/-- a comprehension by what stands between its turns -/
theorem lcl_by {g : TDG} {tt : TDT} {te : TDE} {env0 : DEnv} {Q : List D → GS → Prop} : ∀ (items : List D) (Iv : Nat → List D → GS → Prop) (n : Nat) (acc : List D) (G : GS),
    acc.length + items.length ≤ sizeLine →
    (∀ i x acc G, items[i]? = some x → Iv (n + i) acc G → ∀ (K1 : D → GS → Prop) (K2 : GS → Prop), (∀ z G', Iv (n + i + 1) (acc ++ [z]) G' → K1 z G') → (∀ G', Iv (n + i + 1) acc G' → K2 G') →
      g (.d x) env0 fun env2 => tt env2 G fun b G1 => if b = true then te env2 G1 fun y G2 => asD y fun z => K1 z G2 else K2 G1) →
    (∀ acc G, Iv (n + items.length) acc G → Q acc G) → Iv n acc G → lcl g tt te env0 items acc G Q
  | [], Iv, n, acc, G, _, _, he, h => he acc G h
  | x :: r, Iv, n, acc, G, hl, hs, he, h => by
    have hl' : acc.length + (r.length + 1) ≤ sizeLine := hl
    refine hs 0 x acc G rfl h (fun z G2 => acc.length < sizeLine ∧ lcl g tt te env0 r (acc ++ [z]) G2 Q) (fun G1 => lcl g tt te env0 r acc G1 Q) (fun z G' h' => ⟨by omega, ?_⟩) fun G' h' => ?_
    · refine lcl_by r Iv (n + 1) _ G' (by rw [List.length_append, List.length_singleton]; omega) (fun i y acc2 G2 e1 e2 K1 K2 h1 h2 => ?_) (fun acc2 G2 e2 => ?_) h'
      · have e3 : n + 1 + i = n + (i + 1) := by omega
        rw [e3] at e2 h1 h2
        exact hs (i + 1) y acc2 G2 (by simpa using e1) e2 K1 K2 h1 h2
      · have e3 : n + 1 + r.length = n + (x :: r).length := by rw [List.length_cons]; omega
        rw [e3] at e2
        exact he acc2 G2 e2
    · refine lcl_by r Iv (n + 1) _ G' (by omega) (fun i y acc2 G2 e1 e2 K1 K2 h1 h2 => ?_) (fun acc2 G2 e2 => ?_) h'
      · have e3 : n + 1 + i = n + (i + 1) := by omega
        rw [e3] at e2 h1 h2
        exact hs (i + 1) y acc2 G2 (by simpa using e1) e2 K1 K2 h1 h2
      · have e3 : n + 1 + r.length = n + (x :: r).length := by rw [List.length_cons]; omega
        rw [e3] at e2
        exact he acc2 G2 e2
/-- a comprehension that draws nothing: f picks -/
theorem lcl_pick {g : TDG} {tt : TDT} {te : TDE} {env0 : DEnv} {Q : List D → GS → Prop} {G : GS} (f : D → Option D) : ∀ (items acc : List D), acc.length + items.length ≤ sizeLine →
    (∀ x ∈ items, ∀ (K1 : D → GS → Prop) (K2 : GS → Prop), (match f x with | some z => K1 z G | none => K2 G) → g (.d x) env0 fun env2 => tt env2 G fun b G1 => if b = true then te env2 G1 fun y G2 => asD y fun z => K1 z G2 else K2 G1) →
    Q (acc ++ items.filterMap f) G → lcl g tt te env0 items acc G Q
  | [], acc, _, _, h => by rw [List.filterMap_nil, List.append_nil] at h; exact h
  | x :: r, acc, hl, hs, h => by
    have hl' : acc.length + (r.length + 1) ≤ sizeLine := hl
    refine hs x List.mem_cons_self (fun z G2 => acc.length < sizeLine ∧ lcl g tt te env0 r (acc ++ [z]) G2 Q) (fun G1 => lcl g tt te env0 r acc G1 Q) ?_
    rw [List.filterMap_cons] at h
    cases q : f x with
    | none =>
      rw [q] at h
      exact lcl_pick f r acc (by omega) (fun y m => hs y (List.mem_cons_of_mem _ m)) h
    | some z =>
      rw [q] at h
      refine ⟨by omega, lcl_pick f r (acc ++ [z]) (by rw [List.length_append, List.length_singleton]; omega) (fun y m => hs y (List.mem_cons_of_mem _ m)) ?_⟩
      rw [List.append_assoc]
      exact h
/-- .. of all items -/
theorem lcl_map {g : TDG} {te : TDE} {env0 : DEnv} {Q : List D → GS → Prop} {G : GS} (f : D → D) (items : List D) (hl : items.length ≤ sizeLine)
    (hs : ∀ x ∈ items, ∀ K1 : D → GS → Prop, K1 (f x) G → g (.d x) env0 fun env2 => te env2 G fun y G2 => asD y fun z => K1 z G2) (h : Q (items.map f) G) : lcl g tdYes te env0 items [] G Q := by
  refine lcl_pick (fun x => some (f x)) items [] (by simpa using hl) (fun x m K1 K2 h1 => ?_) (by rw [List.nil_append, List.filterMap_eq_map']; exact h)
  exact hs x m K1 h1
end DL

set_option maxRecDepth 100000
set_option maxHeartbeats 4000000
/-! DL13: small data: weight, flags, what repr and == ask; sorting. -/
namespace DL
open PySem PySem.Spec PySem.W PyProof.Rows L2 RZ
/-! ### weight -/
mutual
def mass : D → Nat
  | .none => 5
  | .bool _ => 5
  | .int i => i.natAbs.log2 + 2
  | .str x => 12 * x.length + 2
  | .list ds => massAll ds + 4
  | .tuple ds => massAll ds + 4
  | .dict _ => 0
def massAll : List D → Nat
  | [] => 0
  | d :: r => mass d + 2 + massAll r
end
mutual
/-- no dict, signs below 128, ints of less than 1900 bits -/
def plainD : D → Bool
  | .none => true
  | .bool _ => true
  | .int i => decide (i.natAbs.log2 < 1900)
  | .str x => x.cps.toList.all fun c => decide (c < 128)
  | .list ds => plainAll ds
  | .tuple ds => plainAll ds
  | .dict _ => false
def plainAll : List D → Bool
  | [] => true
  | d :: r => plainD d && plainAll r
end
theorem plainAll_iff : ∀ {ds : List D}, plainAll ds = true ↔ ∀ d ∈ ds, plainD d = true
  | [] => by simp [plainAll]
  | d :: r => by
    rw [plainAll, Bool.and_eq_true, plainAll_iff]
    simp
theorem massAll_append : ∀ (xs ys : List D), massAll (xs ++ ys) = massAll xs + massAll ys
  | [], ys => by simp [massAll]
  | x :: xs, ys => by rw [List.cons_append, massAll, massAll, massAll_append xs ys]; omega
theorem massAll_mem : ∀ {ds : List D} {d : D}, d ∈ ds → mass d + 2 ≤ massAll ds
  | x :: r, d, h => by
    rw [massAll]
    rcases List.mem_cons.mp h with rfl | h
    · omega
    · have := massAll_mem h; omega
theorem massAll_len : ∀ (ds : List D), 2 * ds.length ≤ massAll ds
  | [] => Nat.le_refl _
  | x :: r => by
    have := massAll_len r
    rw [massAll, List.length_cons]; omega
theorem massAll_take (ds : List D) (n : Nat) : massAll (ds.take n) ≤ massAll ds := by
  have h := massAll_append (ds.take n) (ds.drop n)
  rw [List.take_append_drop] at h; omega
theorem massAll_drop (ds : List D) (n : Nat) : massAll (ds.drop n) ≤ massAll ds := by
  have h := massAll_append (ds.take n) (ds.drop n)
  rw [List.take_append_drop] at h; omega
theorem massAll_reverse : ∀ ds : List D, massAll ds.reverse = massAll ds
  | [] => rfl
  | x :: r => by rw [List.reverse_cons, massAll_append, massAll_reverse r, massAll, massAll, massAll]; omega
theorem massAll_le {m : Nat} : ∀ {ds : List D}, (∀ d ∈ ds, mass d ≤ m) → massAll ds ≤ (m + 2) * ds.length
  | [], _ => by simp [massAll]
  | x :: r, h => by
    have h1 := h x List.mem_cons_self
    have h2 := massAll_le (ds := r) fun d q => h d (List.mem_cons_of_mem _ q)
    rw [massAll, List.length_cons, Nat.mul_add, Nat.mul_one]; omega
theorem depthAll_le {n : Nat} : ∀ {ds : List D}, PyData.depthAll ds ≤ n ↔ ∀ d ∈ ds, d.depth ≤ n
  | [] => by simp [PyData.depthAll]
  | x :: r => by
    rw [PyData.depthAll, Nat.max_le, depthAll_le]
    simp
/-! ### shown -/
theorem len_append (a b : Str) : (a ++ b).length = a.length + b.length := strLen_append a b
mutual
theorem shown_le : ∀ d : D, plainD d = true → d.shown.length ≤ mass d
  | .none, _ => by rw [PyData.shown, mass]; decide
  | .bool b, _ => by
    rw [PyData.shown, mass]; cases b <;> decide
  | .int i, _ => by
    rw [PyData.shown, mass]
    have := int_text_length_le (a := i) (k := i.natAbs.log2 + 1) (by omega) (by omega)
    show (Str.ofString (toString i)).length ≤ _
    rw [PySem.ofString_length]; exact this
  | .str x, h => by
    rw [PyData.shown, mass]
    rw [plainD, List.all_eq_true] at h
    have := StrLaws.reprText_len x fun c hc => by
      have := of_decide_eq_true (h c hc)
      omega
    omega
  | .list ds, h => by
    rw [PyData.shown, mass]
    rw [plainD] at h
    have q := shownAll_le ds h
    have : (listText (PyData.shownAll ds)).length ≤ piled (PyData.shownAll ds) + 2 := by
      unfold listText
      rw [len_append]
      have e1 : ((("]" : String) : Str)).length = 1 := rfl
      rw [e1]
      cases PyData.shownAll ds with
      | nil => show 1 + 1 ≤ _; omega
      | cons t r =>
        show (textFrom 1 _ r).length + 1 ≤ _
        rw [textFrom_length_pos r 1 _ Nat.one_pos, piled_cons]
        have e : ((("[" : String) : Str) ++ ((if 0 > 0 then ", " else "" : String) : Str) ++ t).length = 1 + t.length := by
          rw [len_append, len_append]
          rfl
        rw [e]; omega
    omega
  | .tuple ds, h => by
    rw [PyData.shown, mass]
    rw [plainD] at h
    have q := shownAll_le ds h
    have : (tupleText (PyData.shownAll ds)).length ≤ piled (PyData.shownAll ds) + 3 := by
      unfold tupleText
      rw [len_append, len_append]
      have e1 : ((("(" : String) : Str)).length = 1 := rfl
      have e2 : (((if (PyData.shownAll ds).length == 1 then ",)" else ")" : String) : Str)).length ≤ 2 := by split <;> decide
      rw [e1]
      by_cases z : PyData.shownAll ds = []
      · rw [z] at e2 ⊢
        have e3 : (Str.join ", " []).length = 0 := rfl
        rw [e3]
        omega
      · have := join_length_add _ z
        omega
    omega
  | .dict _, h => by rw [plainD] at h; cases h
theorem shownAll_le : ∀ ds : List D, plainAll ds = true → piled (PyData.shownAll ds) ≤ massAll ds
  | [], _ => Nat.le_refl _
  | d :: r, h => by
    rw [plainAll, Bool.and_eq_true] at h
    have h1 := shown_le d h.1
    have h2 := shownAll_le r h.2
    rw [PyData.shownAll, piled_cons, massAll]; omega
end
mutual
theorem plain_show : ∀ d : D, plainD d = true → d.showable = true
  | .none, _ => by rw [PyData.showable]
  | .bool b, _ => by rw [PyData.showable]
  | .int i, h => by
    rw [PyData.showable]
    rw [plainD] at h
    have := of_decide_eq_true h
    exact decide_eq_true (by omega)
  | .str x, _ => by rw [PyData.showable]
  | .list ds, h => by rw [PyData.showable]; rw [plainD] at h; exact plainAll_show ds h
  | .tuple ds, h => by rw [PyData.showable]; rw [plainD] at h; exact plainAll_show ds h
  | .dict _, h => by rw [plainD] at h; cases h
theorem plainAll_show : ∀ ds : List D, plainAll ds = true → PyData.showableAll ds = true
  | [], _ => by rw [PyData.showableAll]
  | d :: r, h => by
    rw [plainAll, Bool.and_eq_true] at h
    rw [PyData.showableAll, plain_show d h.1, plainAll_show r h.2]; rfl
end
mutual
theorem plain_lay : ∀ d : D, plainD d = true → d.canLay0 = true
  | .none, _ => by rw [PyData.canLay0]
  | .bool b, _ => by rw [PyData.canLay0]
  | .int i, h => by rw [PyData.canLay0]
  | .str x, h => by
    rw [PyData.canLay0]
    rw [plainD, List.all_eq_true] at h
    unfold PyData.strOk
    rw [← Array.all_toList, List.all_eq_true]
    intro c hc
    have := of_decide_eq_true (h c hc)
    exact decide_eq_true (by omega)
  | .list ds, h => by rw [PyData.canLay0]; rw [plainD] at h; exact plainAll_lay ds h
  | .tuple ds, h => by rw [PyData.canLay0]; rw [plainD] at h; exact plainAll_lay ds h
  | .dict _, h => by rw [plainD] at h; cases h
theorem plainAll_lay : ∀ ds : List D, plainAll ds = true → PyData.canLayAll0 ds = true
  | [], _ => by rw [PyData.canLayAll0]
  | d :: r, h => by
    rw [plainAll, Bool.and_eq_true] at h
    rw [PyData.canLayAll0, plain_lay d h.1, plainAll_lay r h.2]; rfl
end
/-- small plain data -/
structure Nice (e m : Nat) (d : D) : Prop where
  pl : plainD d = true
  dp : d.depth ≤ e
  ms : mass d ≤ m
def niceB (e m : Nat) (d : D) : Bool := plainD d && decide (d.depth ≤ e) && decide (mass d ≤ m)
theorem Nice.of {e m : Nat} {d : D} (h : niceB e m d = true) : Nice e m d := by
  unfold niceB at h
  rw [Bool.and_eq_true, Bool.and_eq_true] at h
  exact ⟨h.1.1, of_decide_eq_true h.1.2, of_decide_eq_true h.2⟩
theorem Nice.mono {e m e' m' : Nat} {d : D} (h : Nice e m d) (h1 : e ≤ e') (h2 : m ≤ m') : Nice e' m' d := ⟨h.pl, Nat.le_trans h.dp h1, Nat.le_trans h.ms h2⟩
theorem Nice.shw {e m : Nat} {d : D} (h : Nice e m d) (h1 : e ≤ 60) (h2 : m ≤ 16000000) : Shw d :=
  ⟨plain_show d h.pl, PyData.hasDict_of_canLay d (plain_lay d h.pl), by have := h.dp; omega, by
    have := shown_le d h.pl
    have := h.ms
    rw [sizeLine_eq]; omega⟩
theorem Nice.shaped {e m : Nat} {d : D} (h : Nice e m d) (h1 : e ≤ 60) : SeqAt.shaped d = true := by
  unfold SeqAt.shaped
  rw [plain_lay d h.pl]
  have := h.dp
  simp only [Bool.true_and, decide_eq_true_eq]
  omega
theorem nice_tuple {e m : Nat} {ds : List D} : Nice (e + 1) (m + 4) (.tuple ds) ↔ (∀ d ∈ ds, plainD d = true ∧ d.depth ≤ e) ∧ massAll ds ≤ m := by
  constructor
  · rintro ⟨h1, h2, h3⟩
    rw [plainD, plainAll_iff] at h1
    rw [PyData.depth] at h2
    rw [mass] at h3
    exact ⟨fun d hd => ⟨h1 d hd, depthAll_le.mp (by omega) d hd⟩, by omega⟩
  · rintro ⟨h1, h2⟩
    refine ⟨?_, ?_, ?_⟩
    · rw [plainD, plainAll_iff]; exact fun d hd => (h1 d hd).1
    · rw [PyData.depth]
      have : PyData.depthAll ds ≤ e := depthAll_le.mpr fun d hd => (h1 d hd).2
      omega
    · rw [mass]; omega
theorem nice_list {e m : Nat} {ds : List D} : Nice (e + 1) (m + 4) (.list ds) ↔ (∀ d ∈ ds, plainD d = true ∧ d.depth ≤ e) ∧ massAll ds ≤ m := by
  constructor
  · rintro ⟨h1, h2, h3⟩
    rw [plainD, plainAll_iff] at h1
    rw [PyData.depth] at h2
    rw [mass] at h3
    exact ⟨fun d hd => ⟨h1 d hd, depthAll_le.mp (by omega) d hd⟩, by omega⟩
  · rintro ⟨h1, h2⟩
    refine ⟨?_, ?_, ?_⟩
    · rw [plainD, plainAll_iff]; exact fun d hd => (h1 d hd).1
    · rw [PyData.depth]
      have : PyData.depthAll ds ≤ e := depthAll_le.mpr fun d hd => (h1 d hd).2
      omega
    · rw [mass]; omega
/-- the parts of nice data -/
theorem Nice.tup_all {e m : Nat} {ds : List D} (h : Nice e m (.tuple ds)) : ∀ d ∈ ds, Nice e m d := fun d hd => by
  obtain ⟨h1, h2, h3⟩ := h
  rw [plainD, plainAll_iff] at h1
  rw [PyData.depth] at h2
  rw [mass] at h3
  have := depthAll_le.mp (Nat.le_refl (PyData.depthAll ds)) d hd
  have := massAll_mem hd
  exact ⟨h1 d hd, by omega, by omega⟩
theorem Nice.tup_len {e m : Nat} {ds : List D} (h : Nice e m (.tuple ds)) : 2 * ds.length + 4 ≤ m := by
  have h3 := h.ms
  rw [mass] at h3
  have := massAll_len ds
  omega
/-- fewer items -/
theorem Nice.tup_sub {e m : Nat} {ds es : List D} (h : Nice e m (.tuple ds)) (h1 : ∀ d ∈ es, d ∈ ds) (h2 : massAll es ≤ massAll ds) : Nice e m (.tuple es) := by
  obtain ⟨q1, q2, q3⟩ := h
  rw [plainD, plainAll_iff] at q1
  rw [PyData.depth] at q2
  rw [mass] at q3
  refine ⟨?_, ?_, ?_⟩
  · rw [plainD, plainAll_iff]; exact fun d hd => q1 d (h1 d hd)
  · rw [PyData.depth]
    have : PyData.depthAll es ≤ PyData.depthAll ds := depthAll_le.mpr fun d hd => depthAll_le.mp (Nat.le_refl _) d (h1 d hd)
    omega
  · rw [mass]; omega
theorem Nice.str_len {e m : Nat} {x : Str} (h : Nice e m (.str x)) : 12 * x.length + 2 ≤ m := by
  have h3 := h.ms
  rw [mass] at h3; exact h3
/-! ### sorted -/
theorem sortD_perm (ds : List D) : (sortD ds).Perm ds := List.mergeSort_perm _ _
theorem sortD_eq {ds : List D} : sortD ds = ds ↔ ds.Pairwise fun a b => dataLe false (fun d => d) a b = true := by
  have T := sortLe_total (listOrd itemOrd) false fun d : D => keyToks d
  constructor
  · intro h
    have := sort_pairwise T ds
    have e : sortD ds = ds.mergeSort (sortLe (listOrd itemOrd) false fun d : D => keyToks d) := rfl
    rw [← e, h] at this
    exact this
  · intro h
    exact List.mergeSort_of_pairwise h
end DL

set_option maxRecDepth 100000
set_option maxHeartbeats 4000000
/-! DL14: enumerate of a tuple or a list. -/
namespace DL
open PySem PySem.Spec PySem.W PyProof.Rows L2 RZ
def IteT (K : PySem.W.Frag) (a : Addr) : It :=
  ⟨fun i H => ∃ (xs : List V) (x : V), SqT K H a xs ∧ xs[i]? = some x, fun i H v H' => ∃ T x, v = .ref T ∧ H T = none ∧ H' = upd H T (.tup [.int (i : Nat), x]) ∧ ∀ xs, SqT K H a xs → xs[i]? = some x, fun i H => ∃ xs : List V, SqT K H a xs ∧ xs.length = i⟩
theorem tup_apart {h : Heap} {a it : Addr} {us : Array Value} {i : Nat} (ht : IsTup h a us) (hi : h.IsTupleIter it a i) : a ≠ it := by
  intro z
  subst z
  obtain ⟨o, e1, e2, _⟩ := ht
  obtain ⟨o', e3, e4, _⟩ := hi
  rw [e1] at e3
  cases e3
  rw [e2] at e4
  exact absurd e4 (by decide)
theorem turn_enumT {P : Program} {w : World} {K : PySem.W.Frag} {elts : List Expr} {kk : Nat} {tpos : Pos} (a e it : Addr) :
    Turn P w K (.Tuple elts kk tpos) (IteT K a) [e, it] e (fun i h => (∃ old, IsEnum h e it ((i : Nat) : Int) old) ∧ h.IsTupleIter it a i ∧ e ≠ it) where
  mem := by simp
  obj := by
    rintro i h ⟨⟨old, h1⟩, ⟨o, h2, h3, h4⟩, h5⟩ b hb
    rcases List.mem_cons.mp hb with z | z
    · rw [z]; exact ⟨_, h1, fun v q => nomatch q⟩
    · rw [List.mem_singleton.mp z]; exact ⟨o, h2, fun v q => by rw [h4] at q; cases q⟩
  keep := by
    rintro i h h' ⟨⟨old, h1⟩, h2, h3⟩ k
    exact ⟨⟨old, k e (by simp) _ h1⟩, h2.at fun o q => k it (by simp) o q, h3⟩
  item := by
    intro X hP hw hK hc i pins s σ H E I hf st hg
    subst hP hw hK
    obtain ⟨⟨old, h1⟩, h2, h3⟩ := st
    obtain ⟨xs, x, hq, hx⟩ := hg
    obtain ⟨us, rv, pt, hz⟩ := I.tuple hq
    obtain ⟨u, hu, ru⟩ := rv.get hx
    have eb : e < s.heap.objs.size := Heap.lt_size h1
    have ib : it < s.heap.objs.size := by obtain ⟨_, q, _⟩ := h2; exact Heap.lt_size q
    have hat := tup_apart pt h2
    have hea : e ≠ a := by
      intro z
      subst z
      obtain ⟨o, q1, q2, _⟩ := pt
      have q3 : s.heap.get? e = some _ := h1
      rw [q1] at q3
      cases q3
      have q4 : Value.type "enumerate" = Value.type "tuple" := q2
      exact absurd q4 (by decide)
    have Dr := Draws.tuple (prog := X.prog) (w := X.w) (A := X.A.in1) (I.ok.hd hc) it a hat us.toArray
    have hi : i < us.toArray.size := by
      rw [List.size_toArray]
      exact (List.getElem?_eq_some_iff.mp hu).1
    refine wpAny_pyNext_enum_itemC Dr h1 ⟨h2, pt⟩ hi h3 (by simp [h3, hea]) fun y h' tk hy ho hst hT hsz hk => ?_
    have ey : y = u := by
      have : us.toArray[i]? = some y := hy
      rw [List.getElem?_toArray, hu] at this
      exact (Option.some.inj this).symm
    subst ey
    refine ⟨_, rfl, wpAny_letOwnedTupleGo_enum (s := { s with heap := h', toks := tk + 1 }) ho fun h'' he' sb => ?_⟩
    have hT2 : h''.get? s.heap.objs.size = some { cls := .type "tuple", data := .seq #[.int (i : Nat) tk, y] } := (sb.2 _ (Nat.ne_of_gt eb)).trans hT
    have nw : ObjOk X.prog X.w (upd H s.heap.objs.size (.tup [.int (i : Nat), x])) h'' s.heap.objs.size (.tup [.int (i : Nat), x]) :=
      ⟨by show 2 ≤ sizeLine; decide, [.int (i : Nat) tk, y], .cons ⟨_, rfl⟩ (.cons ru .nil), ⟨_, hT2, rfl, _, rfl⟩⟩
    have J : Inv X pins σ (upd H s.heap.objs.size (.tup [.int (i : Nat), x])) { s with heap := h'', toks := tk + 1 } :=
      I.turnedNew (ch := [e, it]) (fun b ob hb q => (sb.2 b (fun z => hb (by simp [z]))).trans (hk b ob (fun z => hb (by simp [z])) (fun z => hb (by simp [z])) q)) hf (Nat.le_refl _) nw
    refine ⟨.ref s.heap.objs.size, _, J, rfl, ⟨_, x, rfl, I.hok.fresh (Nat.le_refl _), rfl, fun ys hy => by rw [I.tuple_inj hy hq]; exact hx⟩, ⟨⟨y, ?_⟩, hst.1.at fun o q => (sb.2 it (Ne.symm h3)).trans q, h3⟩, fun b hb => ?_⟩
    · rw [show ((i + 1 : Nat) : Int) = (i : Int) + 1 by omega]; exact he'
    · have hb' : b < s.heap.objs.size := by
        rcases List.mem_cons.mp hb with z | z
        · rw [z]; exact eb
        · rw [List.mem_singleton.mp z]; exact ib
      rw [upd_ne (Nat.ne_of_lt hb')]
      exact (hf b hb).1
  done := by
    intro X hP hw hK hc i pins s σ H E I hf st hg
    subst hP hw hK
    obtain ⟨⟨old, h1⟩, h2, h3⟩ := st
    obtain ⟨xs, hq, hx⟩ := hg
    obtain ⟨us, rv, pt, hz⟩ := I.tuple hq
    obtain ⟨f0, f1, f2, f3, f4, f5⟩ := hf it (by simp)
    have hl := rv.length
    have hat := tup_apart pt h2
    have Dr := Draws.tuple (prog := X.prog) (w := X.w) (A := X.A.in1) (I.ok.hd hc) it a hat us.toArray
    have hi : us.toArray.size = i := by rw [List.size_toArray]; omega
    exact wpAny_pyNext_enum_endD Dr h1 (by rw [hi]; exact ⟨h2, pt⟩) fun h' eb => ⟨rfl, I.turned (t' := s.toks) (fun b o hb q => eb b o hb q) f0 f1 f3 f4 f5⟩
  self := by
    rintro A i s Q E ⟨⟨old, h1⟩, _⟩ h
    exact wpAny_pyIter_enum h1 h
theorem meets_enum1 {v : Value} {o : Obj} {Hh : Heap → Prop} (B : Begins v o Hh) : Meets (Builtin.«enumerate.__new__» ⟨[.type "enumerate", v], []⟩) (fun _ R s => Hh s.heap ∧
    R (.ok (.ret (.ref (s.heap.push o).objs.size))) { s with heap := (s.heap.push o).push { cls := .type "enumerate", data := .fields #[.none, .bool false, .ref s.heap.objs.size, rawInt 0, .none, .none] } }) :=
  .of_wp fun prog w A R s h => by
    obtain ⟨hp, gs, dr, tk, os⟩ := s
    obtain ⟨h1, h⟩ := h
    have sub1 := sub_enumerate
    have begin1 : ∀ {A' : Around} {E : Value → Shared → Prop} {Q : Value → Shared → Prop}, Q (.ref hp.objs.size) ⟨hp.push o, gs, dr, tk, os⟩ → wpAny (model prog w) A' (pyIter v) Q E ⟨hp, gs, dr, tk, os⟩ := fun q => B.iter prog w _ _ ⟨hp, gs, dr, tk, os⟩ _ h1 q
    wp_walk using begin1
    refine wpAny_stack_any fun st => wpAny_pure ?_
    split
    · rename_i c _ _ _ _ _
      cases (c == Value.type "enumerate")
      · wp_walk using begin1
        exact ⟨_, rfl, h⟩
      · wp_walk using begin1
        exact ⟨_, rfl, h⟩
    · wp_walk using begin1
      exact ⟨_, rfl, h⟩
section
variable {prog : Program} {w : World} {A : Around} {E : Value → Shared → Prop} {s : Shared}
theorem enum_of {v : Value} {o : Obj} {Hh : Heap → Prop} {Q : Value → Shared → Prop} (B : Begins v o Hh) (h1 : Hh s.heap)
    (h : ∀ h', IsEnum h' (s.heap.objs.size + 1) s.heap.objs.size 0 .none → h'.get? s.heap.objs.size = some o → (∀ b ob, s.heap.get? b = some ob → h'.get? b = some ob) → Q (.ref (s.heap.objs.size + 1)) { s with heap := h' }) :
    wpAny (model prog w) A (call (.type "enumerate") [v]) Q E s := by
  refine callType_new F.called_enumerate (by decide) (F.typeCall_enumerate_1 v) (F.newCall_enumerate_1 v) (fun obj => F.args_object_init_2 obj v) F.entry_enumerate_new (meets_enum1 B) ⟨h1, ?_⟩
  have z : (s.heap.push o).objs.size = s.heap.objs.size + 1 := Heap.size_push ..
  show _ ∧ _
  rw [z]
  have e : IsEnum ((s.heap.push o).push { cls := .type "enumerate", data := .fields #[.none, .bool false, .ref s.heap.objs.size, rawInt 0, .none, .none] }) (s.heap.objs.size + 1) s.heap.objs.size 0 .none := by
    have q := Heap.get?_push_size (s.heap.push o) (o := { cls := .type "enumerate", data := .fields #[.none, .bool false, .ref s.heap.objs.size, rawInt 0, .none, .none] }) rfl
    rw [z] at q; exact q
  exact ⟨⟨_, e, rfl⟩, h _ e (Heap.get?_push_of_some _ (Heap.get?_push_size _ B.free)) fun b ob q => Heap.get?_push_of_some _ (Heap.get?_push_of_some _ q)⟩
end
def iEnumA (K : PySem.W.Frag) (ta : TA) : TI := fun σ H R => ta σ H fun vs H1 => ∃ a xs, vs = [.ref a] ∧ ((SqL K H1 a xs ∧ R (Ite K a) H1) ∨ (SqT K H1 a xs ∧ R (IteT K a) H1))
theorem pi_enumA {X : Cx} {e : Expr} {ta : TA} {p pos tpos : Pos} {elts : List Expr} {kk : Nat} (hg : Gl X "enumerate") (hm : X.mg "enumerate" = none) (ha : PA X [e] ta) (hs : starEach [e] X.env = [(false, eval e X.env)] := by rfl) :
    PI X (.Tuple elts kk tpos) (.Call (.Name "enumerate" p) [e] [] pos) (iEnumA X.K ta) := by
  refine ⟨fun pins s σ H R I h => ?_⟩
  refine Call_ (ld_blt I hg hm boot_enumerate (PyProof.Rows.callWith_type1 (thn (ha.run pos pins s σ H _ I h) ?_) hs rfl))
  rintro us s1 ⟨vs, H1, I1, r1, a, xs, rfl, q⟩
  cases r1 with
  | cons r rr =>
  cases rr
  cases r
  have le : ∀ b ∈ [s1.heap.objs.size + 1, s1.heap.objs.size], s1.heap.objs.size ≤ b := by
    intro b hb
    rcases List.mem_cons.mp hb with z | z
    · rw [z]; exact Nat.le_succ _
    · rw [List.mem_singleton.mp z]; exact Nat.le_refl _
  rcases q with ⟨hq, q⟩ | ⟨hq, q⟩
  · obtain ⟨its, rv, p', hz⟩ := I1.list hq
    refine enum_of (begins_list a its.toArray) p'.isList fun h' he hit hk => wpAny_pyIter_enum he ?_
    have J : Inv X pins σ H1 { s1 with heap := h' } := I1.kept (t' := s1.toks) hk
    exact ⟨s1.heap.objs.size + 1, [s1.heap.objs.size + 1, s1.heap.objs.size], _, _, H1, rfl, J, turn_enum a (s1.heap.objs.size + 1) s1.heap.objs.size, ⟨⟨.none, he⟩, ⟨_, hit, rfl, rfl⟩, Nat.succ_ne_self _⟩, fun b hb => I1.fpOk (le b hb) (I1.hok.fresh (le b hb)), q⟩
  · obtain ⟨its, rv, p', hz⟩ := I1.tuple hq
    refine enum_of (begins_tuple a its.toArray) p' fun h' he hit hk => wpAny_pyIter_enum he ?_
    have J : Inv X pins σ H1 { s1 with heap := h' } := I1.kept (t' := s1.toks) hk
    exact ⟨s1.heap.objs.size + 1, [s1.heap.objs.size + 1, s1.heap.objs.size], _, _, H1, rfl, J, turn_enumT a (s1.heap.objs.size + 1) s1.heap.objs.size, ⟨⟨.none, he⟩, ⟨_, hit, rfl, rfl⟩, Nat.succ_ne_self _⟩, fun b hb => I1.fpOk (le b hb) (I1.hok.fresh (le b hb)), q⟩
/-! ### over data -/
section
variable {X : Cx} {F : Fx} {e : Expr} {t : TDE} {pos : Pos}
def enumD (n : Nat) : List D → List D
  | [] => []
  | d :: r => .tuple [.int (n : Int), d] :: enumD (n + 1) r
theorem enumD_len : ∀ (n : Nat) (ds : List D), (enumD n ds).length = ds.length
  | _, [] => rfl
  | n, d :: r => by show (enumD (n + 1) r).length + 1 = _; rw [enumD_len]; rfl
theorem enumD_get : ∀ (n : Nat) (ds : List D) (i : Nat), (enumD n ds)[i]? = ds[i]?.map fun d => .tuple [.int ((n + i : Nat) : Int), d]
  | _, [], _ => by simp [enumD]
  | n, d :: r, 0 => rfl
  | n, d :: r, i + 1 => by
    show (enumD (n + 1) r)[i]? = _
    rw [enumD_get (n + 1) r i, List.getElem?_cons_succ, show n + 1 + i = n + (i + 1) by omega]
theorem enum_yield {xs : List V} {ds : List D} {H2 H3 : Hp} {P2 : List Addr} {i : Nat} {x : V} (ra : RpAll (hide H2 P2) xs ds) (pa : PAll P2 H2)
    (y : ∃ T z, x = .ref T ∧ H2 T = none ∧ H3 = upd H2 T (.tup [.int (i : Nat), z]) ∧ xs[i]? = some z) : Same H2 H3 ∧ ∃ d, (enumD 0 ds)[i]? = some d ∧ Rp (hide H3 P2) x d := by
  obtain ⟨T, z, rfl, e2, rfl, e4⟩ := y
  obtain ⟨d1, q1, r1⟩ := ra.get e4
  have s : Same H2 (upd H2 T (.tup [.int (i : Nat), z])) := same_upd e2
  refine ⟨s, .tuple [.int (i : Nat), d1], by rw [enumD_get, q1, Nat.zero_add]; rfl, Rp.tup (new_out pa e2) (.cons (.int _) (.cons (Rp.mono (hide_same s) r1) .nil))⟩
theorem walk_enumT {K : PySem.W.Frag} {a : Addr} {xs : List V} : Walk (IteT K a) xs.length (fun H => SqT K H a xs) (fun i H v H' => ∃ T z, v = .ref T ∧ H T = none ∧ H' = upd H T (.tup [.int (i : Nat), z]) ∧ xs[i]? = some z) :=
  ⟨fun i H hi q => ⟨xs, xs[i], q, by simp [hi]⟩, fun H q => ⟨xs, q, rfl⟩, fun i H v H2 hi q y => by
    obtain ⟨T, z, e1, e2, e3, e4⟩ := y
    exact ⟨T, z, e1, e2, e3, e4 xs q⟩⟩
theorem walk_enumL {K : PySem.W.Frag} {a : Addr} {xs : List V} : Walk (Ite K a) xs.length (fun H => SqL K H a xs) (fun i H v H' => ∃ T z, v = .ref T ∧ H T = none ∧ H' = upd H T (.tup [.int (i : Nat), z]) ∧ xs[i]? = some z) :=
  ⟨fun i H hi q => ⟨xs, xs[i], q, by simp [hi]⟩, fun H q => ⟨xs, q, Nat.le_refl _⟩, fun i H v H2 hi q y => by
    obtain ⟨T, z, e1, e2, e3, e4⟩ := y
    exact ⟨T, z, e1, e2, e3, e4 xs q⟩⟩
def tdEnum (t : TDE) : TDI := fun env G Q => t env G fun x G1 => asD x fun d => match d with
  | .list ds => Q (enumD 0 ds) G1
  | .tuple ds => Q (enumD 0 ds) G1
  | _ => False
theorem di_enum {elts : List Expr} {kk : Nat} {tpos p : Pos} (hm : X.mg "enumerate" = none) (he : DE X F e t) (hg : Gl X "enumerate" := by rfl) (hs : starEach [e] X.env = [(false, eval e X.env)] := by rfl) (hs1 : starEach [e] X.env = (false, eval e X.env) :: starEach [] X.env := by rfl) :
    DI X F (.Tuple elts kk tpos) (.Call (.Name "enumerate" p) [e] [] pos) (tdEnum t) :=
  PI.imp (pi_enumA hg hm (pa_cons he pa_nil hs1) hs) fun σ H R ⟨P, env, G, Qd, I, h, k⟩ => ⟨P, env, G, _, I, h, fun v H1 x G1 I1 s1 r1 h1 => by
    obtain ⟨d, rfl, h3⟩ := asD_inv (x := x) h1
    cases d with
    | list ds =>
      obtain ⟨a, vs, rfl, ea, ra⟩ := Rp.lst_inv r1
      refine ⟨a, vs, rfl, .inl ⟨SqL.of (hide_some ea).2, k _ H1 _ G1 I1 s1 ⟨fun H => SqL X.K H a vs, _, by rw [enumD_len, ← ra.len]; exact walk_enumL, fun H2 P2 s => SqL.of (hide_some (s _ _ ea)).2, fun i H2 P2 y H3 hi pa s yy => enum_yield (RpAll.mono s ra) pa yy⟩ h3⟩⟩
    | tuple ds =>
      obtain ⟨a, vs, rfl, ea, ra⟩ := Rp.tup_inv r1
      refine ⟨a, vs, rfl, .inr ⟨SqT.of (hide_some ea).2, k _ H1 _ G1 I1 s1 ⟨fun H => SqT X.K H a vs, _, by rw [enumD_len, ← ra.len]; exact walk_enumT, fun H2 P2 s => SqT.of (hide_some (s _ _ ea)).2, fun i H2 P2 y H3 hi pa s yy => enum_yield (RpAll.mono s ra) pa yy⟩ h3⟩⟩
    | _ => exact (show False from h3).elim⟩
end
end DL

set_option maxRecDepth 100000
set_option maxHeartbeats 4000000
/-! DL15: plain lemmas for readings, not bound to one law. -/
namespace DL
open PySem PySem.Spec PySem.W PyProof.Rows L2 RZ
/-! ## the law's own: what each def answers -/
def isInteger : D → Bool
  | .int _ => true
  | _ => false
def isPlaces : D → Bool
  | .int i => decide (1 ≤ i)
  | _ => false
def isPair : D → Bool
  | .tuple ds => decide (ds.length = 2)
  | _ => false
def noAdj (ds : List D) : Bool := (List.zipWith (fun x y => !PyData.eqv x y) ds ds.tail).all id
/-! ## promises -/
theorem shaped_ints (ns : List Int) : SeqAt.shaped (.list (ns.map .int)) = true := by
  have h1 : PyData.canLayAll0 (ns.map PyData.int) = true := by
    induction ns with
    | nil => rfl
    | cons n r ih => rw [List.map_cons, PyData.canLayAll0, ih, PyData.canLay0]; rfl
  unfold SeqAt.shaped
  rw [PyData.canLay0, h1, PyData.depth, depth_ints]
  decide
theorem atI_mod {ns : List Int} (h : ns ≠ []) (x : Int) : ∃ c, atI (ns.map PyData.int) (x % (((ns.map PyData.int).length : Nat) : Int)) = some (.int c) := by
  have hp : 0 < ns.length := List.length_pos_iff.mpr h
  rw [List.length_map]
  have h1 := Int.emod_nonneg x (show ((ns.length : Nat) : Int) ≠ 0 by omega)
  have h2 := Int.emod_lt_of_pos x (show (0 : Int) < ((ns.length : Nat) : Int) by omega)
  obtain ⟨j, hj⟩ : ∃ j : Nat, x % ((ns.length : Nat) : Int) = (j : Int) := ⟨(x % ((ns.length : Nat) : Int)).toNat, by omega⟩
  rw [hj] at h2 ⊢
  have hj2 : j < ns.length := by omega
  refine ⟨ns[j], ?_⟩
  unfold atI ixN
  simp [hj2]
theorem key_no {a b : Str} (h : a ≠ b) : decide ((Sum.inr a : Key) = Sum.inr b) = false := decide_eq_false fun z => h (Sum.inr.inj z)
section
variable {ns : List Int} {x y z a : Int}
theorem put_any {kvs : List (Key × D)} {k : Key} {v : D} (h : (kvs.any fun kv => decide (kv.1 = k)) = true) : putD kvs k v = kvs.map fun kv => if kv.1 = k then (kv.1, v) else kv := if_pos h
end
mutual
/-- ints of less than b bits -/
def intsB (b : Nat) : D → Bool
  | .int i => decide (i.natAbs.log2 < b)
  | .list ds => intsAll b ds
  | .tuple ds => intsAll b ds
  | .none => true
  | .bool _ => true
  | .str _ => true
  | .dict _ => true
def intsAll (b : Nat) : List D → Bool
  | [] => true
  | d :: r => intsB b d && intsAll b r
end
theorem intsAll_iff {b : Nat} : ∀ {ds : List D}, intsAll b ds = true ↔ ∀ d ∈ ds, intsB b d = true
  | [] => by simp [intsAll]
  | d :: r => by
    rw [intsAll, Bool.and_eq_true, intsAll_iff]
    simp
mutual
theorem ints_mono {b c : Nat} (h : b ≤ c) : ∀ d : D, intsB b d = true → intsB c d = true
  | .int i, q => by
    rw [intsB] at q ⊢
    have := of_decide_eq_true q
    exact decide_eq_true (by omega)
  | .list ds, q => by rw [intsB] at q ⊢; exact intsAll_mono h ds q
  | .tuple ds, q => by rw [intsB] at q ⊢; exact intsAll_mono h ds q
  | .none, _ => by rw [intsB]
  | .bool _, _ => by rw [intsB]
  | .str _, _ => by rw [intsB]
  | .dict _, _ => by rw [intsB]
theorem intsAll_mono {b c : Nat} (h : b ≤ c) : ∀ ds : List D, intsAll b ds = true → intsAll c ds = true
  | [], _ => by rw [intsAll]
  | d :: r, q => by
    rw [intsAll, Bool.and_eq_true] at q
    rw [intsAll, ints_mono h d q.1, intsAll_mono h r q.2]; rfl
end
theorem bools_of (f : D → Bool) (ds : List D) : boolsD (ds.map fun x => .bool (f x)) = some (ds.map f) := by
  have : (ds.map fun x => PyData.bool (f x)) = (ds.map f).map .bool := by rw [List.map_map]; rfl
  rw [this, boolsD_map]
theorem cutL_one (ds : List D) : cutL ds (some 1) none = ds.tail := by
  unfold cutL
  show (ds.drop (HT.sIx ds.length 0 (some 1))).take (ds.length - HT.sIx ds.length 0 (some 1)) = _
  have e : HT.sIx ds.length 0 (some 1) = min 1 ds.length := by
    unfold HT.sIx
    simp
  rw [e]
  cases ds with
  | nil => rfl
  | cons x r =>
    rw [List.length_cons, Nat.min_eq_left (by omega), List.drop_one, List.tail_cons]
    exact List.take_of_length_le (by omega)
theorem pairs_mem : ∀ {xs ys : List D} {z : D}, z ∈ pairsD xs ys → ∃ x y, z = .tuple [x, y] ∧ x ∈ xs ∧ y ∈ ys
  | [], _, _, h => by simp [pairsD] at h
  | _ :: _, [], _, h => by simp [pairsD] at h
  | x :: xs, y :: ys, z, h => by
    unfold pairsD at h
    rw [List.zipWith_cons_cons] at h
    rcases List.mem_cons.mp h with rfl | h
    · exact ⟨x, y, rfl, List.mem_cons_self, List.mem_cons_self⟩
    · obtain ⟨a, b, e, h1, h2⟩ := pairs_mem (xs := xs) (ys := ys) h
      exact ⟨a, b, e, List.mem_cons_of_mem _ h1, List.mem_cons_of_mem _ h2⟩
def pairF (f : D → D → Bool) : D → D
  | .tuple [x, y] => .bool (f x y)
  | _ => .none
theorem pairs_bools (f : D → D → Bool) : ∀ {xs ys : List D}, boolsD ((pairsD xs ys).map (pairF f)) = some (List.zipWith f xs ys)
  | [], _ => by simp [pairsD, boolsD]
  | _ :: _, [] => by simp [pairsD, boolsD]
  | x :: xs, y :: ys => by
    have ih := pairs_bools f (xs := xs) (ys := ys)
    unfold pairsD at ih ⊢
    rw [List.zipWith_cons_cons, List.map_cons, List.zipWith_cons_cons]
    show (boolsD _).map (f x y :: ·) = _
    rw [ih]
    rfl
/-- t in ('go', 'back') -/
def tdIn2 (t : Str) : Bool := inD (.str t) [.str "go", .str "back"]
theorem tdIn2_eq (t : Str) : tdIn2 t = (decide (t = "go") || decide (t = "back")) := by
  unfold tdIn2 inD
  simp only [List.any_cons, List.any_nil, Bool.or_false, PyData.eqv]
  have e : ∀ a b : Str, (a == b) = decide (b = a) := fun a b => by
    rw [Bool.eq_iff_iff]; simp only [beq_iff_eq, decide_eq_true_eq]; exact eq_comm
  rw [e, e]
theorem rdIn_two {t : Str} {Q : D → Prop} (h : Q (.bool (tdIn2 t))) : rdInN false (.str t) (.tuple [.str "go", .str "back"]) Q := ⟨⟨rfl, rfl⟩, h⟩
theorem atI_zero (x : D) (r : List D) : atI (x :: r) 0 = some x := by
  unfold atI ixN
  simp
theorem itT {c : Prop} [Decidable c] {A B : Prop} (h : c) (a : A) : ite c A B := by rw [if_pos h]; exact a
theorem itF {c : Prop} [Decidable c] {A B : Prop} (h : ¬ c) (b : B) : ite c A B := by rw [if_neg h]; exact b
theorem itB {c : Bool} {A B : Prop} (h1 : c = true → A) (h2 : c = false → B) : if c = true then A else B := by
  cases c with
  | true => exact h1 rfl
  | false => exact h2 rfl
theorem eqv_str (a b : Str) : PyData.eqv (.str a) (.str b) = decide (a = b) := by
  rw [PyData.eqv, Bool.eq_iff_iff]; simp
theorem eqv_int (a b : Int) : PyData.eqv (.int a) (.int b) = decide (a = b) := by
  rw [PyData.eqv, Bool.eq_iff_iff]; simp
theorem shaped_of {d : D} (h1 : plainD d = true) (h2 : d.depth ≤ 64) : SeqAt.shaped d = true := (Nice.mk h1 h2 (Nat.le_refl _) : Nice 64 _ d) |> fun h => by
  unfold SeqAt.shaped
  rw [plain_lay d h1]
  simp only [Bool.true_and, decide_eq_true_eq]
  omega
theorem shaped_list {es : List D} (h : ∀ d ∈ es, plainD d = true ∧ d.depth ≤ 60) : SeqAt.shaped (.list es) = true := by
  refine shaped_of ?_ ?_
  · rw [plainD, plainAll_iff]; exact fun d hd => (h d hd).1
  · rw [PyData.depth]
    have : PyData.depthAll es ≤ 60 := depthAll_le.mpr fun d hd => (h d hd).2
    omega
theorem okEq_lists {xs ys : List D} (h1 : SeqAt.shaped (.list xs) = true) (h2 : SeqAt.shaped (.list ys) = true) : okEq (.list xs) (.list ys) = true := by
  show (SeqAt.shaped (.list xs) && SeqAt.shaped (.list ys)) = true
  rw [h1, h2]; rfl
theorem okEq_tups {xs ys : List D} (h1 : SeqAt.shaped (.tuple xs) = true) (h2 : SeqAt.shaped (.tuple ys) = true) : okEq (.tuple xs) (.tuple ys) = true := by
  show (SeqAt.shaped (.tuple xs) && SeqAt.shaped (.tuple ys)) = true
  rw [h1, h2]; rfl
theorem eqv_nilL (xs : List D) : PyData.eqv (.list xs) (.list []) = xs.isEmpty := by
  rw [PyData.eqv]; cases xs <;> rfl
theorem eqv_nilT (xs : List D) : PyData.eqv (.tuple xs) (.tuple []) = xs.isEmpty := by
  rw [PyData.eqv]; cases xs <;> rfl
theorem atI_nat (ds : List D) (j : Nat) : atI ds (j : Int) = ds[j]? := by
  unfold atI ixN
  by_cases h : j < ds.length
  · simp [h]
  · rw [List.getElem?_eq_none (by omega)]
    simp [h]
/-- the k at which ds[k - 1] == ds[k] -/
def sameAt (ds : List D) : D → Option D
  | .int k => match ds[k.toNat - 1]?, ds[k.toNat]? with
    | some a, some b => if PyData.eqv a b = true then some (.int k) else none
    | _, _ => none
  | _ => none
theorem sameAt_eq {ds : List D} {j : Nat} {a b : D} (h1 : ds[j]? = some a) (h2 : ds[j + 1]? = some b) : sameAt ds (.int (1 + (j : Int))) = if PyData.eqv a b = true then some (.int (1 + (j : Int))) else none := by
  show (match ds[(1 + (j : Int)).toNat - 1]?, ds[(1 + (j : Int)).toNat]? with | some a, some b => if PyData.eqv a b = true then some (PyData.int (1 + (j : Int))) else none | _, _ => none) = _
  rw [show (1 + (j : Int)).toNat = j + 1 by omega, Nat.add_sub_cancel, h1, h2]
theorem noAdj_iff : ∀ ds : List D, noAdj ds = true ↔ ∀ j a b, ds[j]? = some a → ds[j + 1]? = some b → PyData.eqv a b = false
  | [] => by simp [noAdj]
  | [x] => by simp [noAdj]
  | x :: y :: r => by
    have ih := noAdj_iff (y :: r)
    have e : noAdj (x :: y :: r) = (!PyData.eqv x y && noAdj (y :: r)) := by simp [noAdj]
    rw [e, Bool.and_eq_true, ih, Bool.not_eq_true']
    constructor
    · rintro ⟨h1, h2⟩ j a b e1 e2
      cases j with
      | zero => simp at e1 e2; subst e1 e2; exact h1
      | succ j => exact h2 j a b (by simpa using e1) (by simpa using e2)
    · intro h
      exact ⟨h 0 x y rfl rfl, fun j a b e1 e2 => h (j + 1) a b (by simpa using e1) (by simpa using e2)⟩
theorem same_noAdj (ds : List D) : (((List.range (ds.length - 1)).map fun n => PyData.int (1 + ((n : Nat) : Int))).filterMap (sameAt ds)).isEmpty = noAdj ds := by
  rw [Bool.eq_iff_iff, List.isEmpty_iff, List.filterMap_eq_nil_iff, noAdj_iff]
  constructor
  · intro h j a b e1 e2
    have hj : j + 1 < ds.length := (List.getElem?_eq_some_iff.mp e2).1
    have := h (.int (1 + (j : Int))) (List.mem_map.mpr ⟨j, List.mem_range.mpr (by omega), rfl⟩)
    rw [sameAt_eq e1 e2] at this
    cases q : PyData.eqv a b with
    | false => rfl
    | true => rw [q, if_pos rfl] at this; cases this
  · intro h z hz
    obtain ⟨j, hj, rfl⟩ := List.mem_map.mp hz
    have hj := List.mem_range.mp hj
    have q1 : ds[j]? = some ds[j] := List.getElem?_eq_getElem (by omega)
    have q2 : ds[j + 1]? = some ds[j + 1] := List.getElem?_eq_getElem (by omega)
    rw [sameAt_eq q1 q2]
    rw [h j _ _ q1 q2]
    rfl
theorem le_pairs (a b c f : Int) : dataLe false (fun d => d) (.tuple [.int a, .int b]) (.tuple [.int c, .int f]) = pairLe a b c f := by
  have := congrFun (congrFun (dataLe_ii (fun p : Int × Int => p.1) (fun p => p.2)) (a, b)) (c, f)
  have e : dataLe false (fun d : D => d) (.tuple [.int a, .int b]) (.tuple [.int c, .int f]) = dataLe false (fun p : Int × Int => .tuple [.int p.1, .int p.2]) (a, b) (c, f) := rfl
  rw [e, this]
  unfold pairLe
  rw [Bool.eq_iff_iff]
  by_cases q : a = c
  · subst q; simp
  · rw [if_neg q]; simp only [decide_eq_true_eq]; omega
theorem len_of (n : Nat) (h : n ≤ 1000) : n ≤ sizeLine := Nat.le_trans h (by decide)
section
variable {i j : Int} {Q : D → Prop} {C : Int → Int → Prop} {f : Int → Int → D} {xs ys : List D} {s t : Str}
theorem rdAdd_ii : rdAdd (.int i) (.int j) Q = Q (.int (i + j)) := rfl
theorem rdAdd_ss : rdAdd (.str s) (.str t) Q = (s.length + t.length ≤ sizeLine ∧ Q (.str (s ++ t))) := rfl
theorem rdAdd_tt : rdAdd (.tuple xs) (.tuple ys) Q = (xs.length + ys.length ≤ sizeLine ∧ Q (.tuple (xs ++ ys))) := rfl
theorem rdAdd_ll : rdAdd (.list xs) (.list ys) Q = (xs.length + ys.length ≤ sizeLine ∧ Q (.list (xs ++ ys))) := rfl
theorem rdMul_ii : rdMul (.int i) (.int j) Q = (CMul i j ∧ Q (.int (i * j))) := rfl
theorem rdII_ii : rdII C f (.int i) (.int j) Q = (C i j ∧ Q (f i j)) := rfl
theorem rdI0_ii : rdI0 f (.int i) (.int j) Q = Q (f i j) := rfl
theorem rdInt_i : rdInt [.int i] Q = Q (.int i) := rfl
theorem rdGt_ii : rdGt (.int i) (.int j) Q = Q (.bool (decide (j < i))) := rfl
theorem rdGe_ii : rdGe (.int i) (.int j) Q = Q (.bool (decide (j ≤ i))) := rfl
theorem rdLt_ii : rdLt (.int i) (.int j) Q = Q (.bool (decide (i < j))) := rfl
theorem rdLe_ii : rdLe (.int i) (.int j) Q = Q (.bool (decide (i ≤ j))) := rfl
theorem rdLen_l : rdLen [.list xs] Q = Q (.int xs.length) := rfl
theorem rdLen_t : rdLen [.tuple xs] Q = Q (.int xs.length) := rfl
theorem rdEq_ii : rdEq (.int i) (.int j) Q = Q (.bool (decide (i = j))) := by
  show (_ ∧ _) = _
  rw [eqv_int]; simp [okEq]
theorem rdNe_ii : rdNe (.int i) (.int j) Q = Q (.bool (!decide (i = j))) := by
  show (_ ∧ _) = _
  rw [eqv_int]; simp [okEq]
theorem rdEq_ss : rdEq (.str s) (.str t) Q = Q (.bool (decide (s = t))) := by
  show (_ ∧ _) = _
  rw [eqv_str]; simp [okEq]
theorem rdNe_ss : rdNe (.str s) (.str t) Q = Q (.bool (!decide (s = t))) := by
  show (_ ∧ _) = _
  rw [eqv_str]; simp [okEq]
theorem CMul.mod (e j : Int) {m : Int} (h : 0 < m) (hm : m ≤ 2 ^ 64) : CMul (e % m) j := .inl ⟨by have := Int.emod_nonneg e (show m ≠ 0 by omega); omega, by have := Int.emod_lt_of_pos e h; omega⟩
theorem keyD_s : DL.keyD (.str s) = some (.inr s) := rfl
end
/-! ### cuts, joins -/
theorem cut_map {α β : Type} (f : α → β) (xs : List α) (lo hi : Option Int) : cutL (xs.map f) lo hi = (cutL xs lo hi).map f := by
  unfold cutL
  rw [List.length_map, List.map_take, List.map_drop]
theorem cut_sub {α : Type} {xs : List α} {lo hi : Option Int} {x : α} (h : x ∈ cutL xs lo hi) : x ∈ xs := List.mem_of_mem_drop (List.mem_of_mem_take h)
theorem cut_len {α : Type} (xs : List α) (lo hi : Option Int) : (cutL xs lo hi).length ≤ xs.length := by
  unfold cutL
  rw [List.length_take, List.length_drop]; omega
theorem sIx_pos (n d : Nat) {v : Int} (h : 0 ≤ v) : HT.sIx n d (some v) = min v.toNat n := by
  unfold HT.sIx
  simp only [if_neg (show ¬ v < 0 by omega)]
theorem cut_from {α : Type} (xs : List α) {a b : Int} (ha : 0 ≤ a) (hb : 0 ≤ b) : (cutL xs (some a) (some b)).length = min b.toNat xs.length - min a.toNat xs.length := by
  unfold cutL
  rw [sIx_pos _ _ ha, sIx_pos _ _ hb, List.length_take, List.length_drop]; omega
theorem cut_to {α : Type} (xs : List α) {b : Int} (hb : 0 ≤ b) : cutL xs none (some b) = xs.take b.toNat := by
  unfold cutL
  rw [sIx_pos _ _ hb]
  show (xs.drop 0).take (min b.toNat xs.length - 0) = _
  rw [List.drop_zero, Nat.sub_zero]
  rcases Nat.le_total b.toNat xs.length with q | q
  · rw [Nat.min_eq_left q]
  · rw [Nat.min_eq_right q, List.take_of_length_le (Nat.le_refl _), List.take_of_length_le q]
theorem cut_at {α : Type} (xs : List α) {a : Int} (ha : 0 ≤ a) : cutL xs (some a) none = xs.drop a.toNat := by
  unfold cutL
  rw [sIx_pos _ _ ha]
  show (xs.drop (min a.toNat xs.length)).take (xs.length - min a.toNat xs.length) = _
  rcases Nat.le_total a.toNat xs.length with q | q
  · rw [Nat.min_eq_left q]
    exact List.take_of_length_le (by rw [List.length_drop]; omega)
  · rw [Nat.min_eq_right q, Nat.sub_self, List.take_zero, List.drop_eq_nil_of_le q]
def asc (t : Str) : Bool := t.cps.toList.all fun c => decide (c < 128)
theorem asc_app (a b : Str) : asc (a ++ b) = (asc a && asc b) := by
  unfold asc
  show (a.cps ++ b.cps).toList.all _ = _
  rw [Array.toList_append, List.all_append]
theorem join_ones : ∀ (ys : List Str), (∀ y ∈ ys, y.length = 1 ∧ asc y = true) → (Str.join "" ys).length = ys.length ∧ asc (Str.join "" ys) = true
  | [], _ => ⟨rfl, rfl⟩
  | [x], h => ⟨(h x (by simp)).1, (h x (by simp)).2⟩
  | x :: y :: r, h => by
    obtain ⟨h1, h2⟩ := join_ones (y :: r) fun z hz => h z (List.mem_cons_of_mem _ hz)
    obtain ⟨h3, h4⟩ := h x List.mem_cons_self
    have e : Str.join "" (x :: y :: r) = x ++ "" ++ Str.join "" (y :: r) := rfl
    rw [e]
    refine ⟨?_, ?_⟩
    · rw [len_append, len_append, h1, h3]
      show 1 + 0 + _ = _
      rw [List.length_cons, List.length_cons]
      simp only [List.length_cons]
      omega
    · rw [asc_app, asc_app, h2, h4]; rfl
theorem app_last (a : Str) (c : Nat) : (a ++ (⟨#[c]⟩ : Str)).cps.toList.getLast? = some c := by
  show (a.cps ++ #[c]).toList.getLast? = _
  rw [Array.toList_append]
  simp
theorem txt_join (sep : Str) (ys : List Str) : Txt.join sep ys = Str.join sep ys := StrLaws.glued_eq_join sep ys
theorem atI_natG {α : Type} (xs : List α) (j : Nat) : atI xs (j : Int) = xs[j]? := by
  unfold atI ixN
  by_cases h : j < xs.length
  · simp [h]
  · rw [List.getElem?_eq_none (by omega)]
    simp [h]
theorem rot_perm {α : Type} (xs : List α) (k : Nat) : (xs.drop k ++ xs.take k).Perm xs := by
  have := List.perm_append_comm (l₁ := xs.drop k) (l₂ := xs.take k)
  rw [List.take_append_drop] at this
  exact this
theorem atI_str {ts : List Str} {j : Nat} (h : j < ts.length) : atI (ts.map PyData.str) (j : Int) = some (.str ts[j]) := by
  rw [atI_nat, List.getElem?_map, List.getElem?_eq_getElem h]; rfl
theorem atI_last {α : Type} {xs : List α} (h : xs ≠ []) : atI xs (-1) = some (xs.getLast h) := by
  have hp : 0 < xs.length := List.length_pos_iff.mpr h
  have e : ixN xs.length (-1) = some (xs.length - 1) := by
    unfold ixN
    rw [if_neg (by omega), if_pos (by omega)]
    congr 1
    omega
  unfold atI
  rw [e]
  show xs[xs.length - 1]? = _
  rw [← List.getLast?_eq_getElem?, List.getLast?_eq_some_getLast h]
theorem rep_map {α β : Type} (f : α → β) (xs : List α) : ∀ n : Nat, (List.replicate n (xs.map f)).flatten = ((List.replicate n xs).flatten).map f
  | 0 => rfl
  | n + 1 => by rw [List.replicate_succ, List.replicate_succ, List.flatten_cons, List.flatten_cons, List.map_append, rep_map f xs n]
theorem rep_mem {α : Type} {xs : List α} {n : Nat} {x : α} (h : x ∈ (List.replicate n xs).flatten) : x ∈ xs := by
  obtain ⟨l, h1, h2⟩ := List.mem_flatten.mp h
  rw [List.eq_of_mem_replicate h1] at h2
  exact h2
theorem rep_len {α : Type} (xs : List α) : ∀ n : Nat, ((List.replicate n xs).flatten).length = n * xs.length
  | 0 => by simp
  | n + 1 => by rw [List.replicate_succ, List.flatten_cons, List.length_append, rep_len xs n, Nat.succ_mul]; omega
def offStr (l : Str) : D → Option D
  | .str t => if t = l then none else some (.str t)
  | _ => none
theorem off_mem {l : Str} {ts : List Str} {x : D} (h : x ∈ (ts.map PyData.str).filterMap (offStr l)) : ∃ t ∈ ts, x = .str t := by
  obtain ⟨z, h1, h2⟩ := List.mem_filterMap.mp h
  obtain ⟨t, h3, rfl⟩ := List.mem_map.mp h1
  unfold offStr at h2
  simp only at h2
  split at h2
  · cases h2
  · exact ⟨t, h3, (Option.some.inj h2).symm⟩
theorem off_pos {l : Str} {ts : List Str} (h : ∃ t ∈ ts, t ≠ l) : 0 < ((ts.map PyData.str).filterMap (offStr l)).length := by
  obtain ⟨t, h1, h2⟩ := h
  refine List.length_pos_of_mem (a := .str t) (List.mem_filterMap.mpr ⟨.str t, List.mem_map.mpr ⟨t, h1, rfl⟩, ?_⟩)
  unfold offStr
  simp only
  rw [if_neg h2]
theorem strs_of_perm {l : List Str} {ds : List D} (h : ds.Perm (l.map PyData.str)) : ∃ l' : List Str, ds = l'.map .str ∧ l'.Perm l := by
  let un : D → Str := fun d => match d with | .str t => t | _ => ""
  have all : ∀ d ∈ ds, PyData.str (un d) = d := fun d hd => by
    obtain ⟨t, _, rfl⟩ := List.mem_map.mp (h.mem_iff.mp hd)
    rfl
  refine ⟨ds.map un, ?_, ?_⟩
  · rw [List.map_map]
    have : ds.map (PyData.str ∘ un) = ds.map id := List.map_congr_left fun d hd => all d hd
    rw [this, List.map_id]
  · have := h.map un
    rw [List.map_map] at this
    have e : (un ∘ PyData.str) = id := rfl
    rw [e, List.map_id] at this
    exact this
theorem strs_sort (l : List Str) (hl : l.length ≤ sizeLine) : OkSort (l.map PyData.str) := by
  refine ⟨fun d hd e he => ?_, .inr fun d hd => ?_, by rw [List.length_map]; exact hl, fun d hd => ?_⟩
  · obtain ⟨t, _, rfl⟩ := List.mem_map.mp hd
    obtain ⟨u, _, rfl⟩ := List.mem_map.mp he
    rfl
  · obtain ⟨t, _, rfl⟩ := List.mem_map.mp hd
    exact ⟨fun z => (by cases z), fun xs z => (by cases z)⟩
  · obtain ⟨t, _, rfl⟩ := List.mem_map.mp hd
    rw [PyData.depth]; omega
theorem int_in {x : D} (a b : Int) (xs : List Int) (h : x ∈ xs.map PyData.int) (hx : ∀ i ∈ xs, a ≤ i ∧ i ≤ b) : ∃ i, x = .int i ∧ a ≤ i ∧ i ≤ b := by
  obtain ⟨i, h1, rfl⟩ := List.mem_map.mp h
  exact ⟨i, rfl, hx i h1⟩
theorem merge_keys : ∀ (more kvs : List (Key × D)) (k : Key), (k ∈ more.map (·.1) ∨ k ∈ kvs.map (·.1)) → (∀ p ∈ more, ∃ c, p.2 = .int c) → (∀ p ∈ kvs, ∃ c, p.2 = .int c) → ∃ c, valD (mergeD kvs more) k = some (.int c)
  | [], kvs, k, h, _, h2 => by
    have hk : k ∈ kvs.map (·.1) := by simpa using h
    obtain ⟨p, hp, rfl⟩ := List.mem_map.mp hk
    show ∃ c, valD kvs p.1 = some (.int c)
    unfold valD
    cases q : kvs.find? fun kv => decide (kv.1 = p.1) with
    | none =>
      have := List.find?_eq_none.mp q p hp
      simp at this
    | some r =>
      obtain ⟨c, hc⟩ := h2 r (List.mem_of_find?_eq_some q)
      exact ⟨c, by rw [Option.map_some, hc]⟩
  | p :: more, kvs, k, h, h1, h2 => by
    show ∃ c, valD (mergeD (putD kvs p.1 p.2) more) k = some (.int c)
    have key : ∀ x, x ∈ kvs.map (·.1) → x ∈ (putD kvs p.1 p.2).map (·.1) := by
      intro x hx
      unfold putD
      split
      · obtain ⟨r, hr, rfl⟩ := List.mem_map.mp hx
        refine List.mem_map.mpr ⟨_, List.mem_map.mpr ⟨r, hr, rfl⟩, ?_⟩
        split <;> rfl
      · rw [List.map_append]; exact List.mem_append_left _ hx
    have own : p.1 ∈ (putD kvs p.1 p.2).map (·.1) := by
      unfold putD
      split
      · rename_i q
        obtain ⟨r, hr, e⟩ := List.any_eq_true.mp q
        have e := of_decide_eq_true e
        refine List.mem_map.mpr ⟨_, List.mem_map.mpr ⟨r, hr, rfl⟩, ?_⟩
        rw [if_pos e]; exact e
      · rw [List.map_append]; simp
    refine merge_keys more _ k ?_ (fun q hq => h1 q (List.mem_cons_of_mem _ hq)) (fun q hq => ?_)
    · rcases h with h | h
      · rw [List.map_cons] at h
        rcases List.mem_cons.mp h with rfl | h
        · exact .inr own
        · exact .inl h
      · exact .inr (key k h)
    · unfold putD at hq
      split at hq
      · obtain ⟨r, hr, rfl⟩ := List.mem_map.mp hq
        split
        · exact h1 p List.mem_cons_self
        · exact h2 r hr
      · rcases List.mem_append.mp hq with hq | hq
        · exact h2 q hq
        · rw [List.mem_singleton] at hq
          rw [hq]; exact h1 p List.mem_cons_self
theorem bear_val {bs : List (Str × Int)} {t : Str} (h : t ∈ bs.map (·.1)) : ∃ c, valD (mergeD [] (bs.map fun b => ((.inr b.1, .int b.2) : Key × D))) (.inr t) = some (.int c) := by
  refine merge_keys _ [] _ (.inl ?_) (fun p hp => ?_) (by simp)
  · obtain ⟨b, hb, rfl⟩ := List.mem_map.mp h
    exact List.mem_map.mpr ⟨_, List.mem_map.mpr ⟨b, hb, rfl⟩, rfl⟩
  · obtain ⟨b, _, rfl⟩ := List.mem_map.mp hp
    exact ⟨_, rfl⟩
theorem of_image {α : Type} {f : α → D} {l : List α} : ∀ {ds : List D}, (∀ d ∈ ds, d ∈ l.map f) → ∃ l' : List α, ds = l'.map f ∧ ∀ x ∈ l', x ∈ l
  | [], _ => ⟨[], rfl, by simp⟩
  | d :: r, h => by
    obtain ⟨l', e, h1⟩ := of_image (ds := r) fun x hx => h x (List.mem_cons_of_mem _ hx)
    obtain ⟨a, ha, q⟩ := List.mem_map.mp (h d List.mem_cons_self)
    exact ⟨a :: l', by rw [e, ← q]; rfl, fun x hx => by
      rcases List.mem_cons.mp hx with z | z
      · rw [z]; exact ha
      · exact h1 x z⟩
theorem small_log {n : Nat} (h : n < 1000) : n.log2 < 10 := by
  by_cases h0 : n = 0
  · subst h0; decide
  · exact (Nat.log2_lt h0).mpr (by omega)
theorem odd_nice {L : List D} (h : (L.all (niceB 3 1000)) = true) {x : D} (hx : x ∈ L) : Nice 3 1000 x := Nice.of (List.all_eq_true.mp h x hx)
theorem odd_ints {L : List D} (h : (L.all (intsB 250)) = true) {x : D} (hx : x ∈ L) : intsB 250 x = true := List.all_eq_true.mp h x hx
theorem seq_out {t u : TDS} {D : DEnds} {env : DEnv} {G : GS} (h : ∀ R : DEnv → GS → Prop, u D = R → t { D with nx := R } env G) : tdSeq t u D env G := h _ rfl
theorem rdIx_all {L : List D} {k : Int} {Q : D → Prop} (h0 : 0 ≤ k) (h1 : k < (L.length : Nat)) (h : ∀ x ∈ L, Q x) : rdIx (.list L) (.int k) Q := by
  obtain ⟨j, rfl⟩ : ∃ j : Nat, k = (j : Int) := ⟨k.toNat, by omega⟩
  have hj : j < L.length := by omega
  simp only [rdIx, asI_d, atI_nat, List.getElem?_eq_getElem hj]
  exact h _ (List.getElem_mem hj)
/-- small data of few bits -/
structure Bd (e m b : Nat) (d : D) : Prop where
  n : Nice e m d
  i : intsB b d = true
theorem Bd.tup {e m b : Nat} {ds : List D} (h1 : ∀ d ∈ ds, plainD d = true ∧ d.depth + 1 ≤ e ∧ intsB b d = true) (h2 : massAll ds + 4 ≤ m) (h3 : 1 ≤ e) : Bd e m b (.tuple ds) := by
  refine ⟨⟨?_, ?_, ?_⟩, ?_⟩
  · rw [plainD, plainAll_iff]; exact fun d hd => (h1 d hd).1
  · rw [PyData.depth]
    have : PyData.depthAll ds ≤ e - 1 := depthAll_le.mpr fun d hd => by have := (h1 d hd).2.1; omega
    omega
  · rw [mass]; omega
  · rw [intsB, intsAll_iff]; exact fun d hd => (h1 d hd).2.2
theorem Bd.lst {e m b : Nat} {ds : List D} (h1 : ∀ d ∈ ds, plainD d = true ∧ d.depth + 1 ≤ e ∧ intsB b d = true) (h2 : massAll ds + 4 ≤ m) (h3 : 1 ≤ e) : Bd e m b (.list ds) := by
  refine ⟨⟨?_, ?_, ?_⟩, ?_⟩
  · rw [plainD, plainAll_iff]; exact fun d hd => (h1 d hd).1
  · rw [PyData.depth]
    have : PyData.depthAll ds ≤ e - 1 := depthAll_le.mpr fun d hd => by have := (h1 d hd).2.1; omega
    omega
  · rw [mass]; omega
  · rw [intsB, intsAll_iff]; exact fun d hd => (h1 d hd).2.2
theorem Bd.parts {e m b : Nat} {ds : List D} (h : Bd e m b (.tuple ds)) : (∀ d ∈ ds, plainD d = true ∧ d.depth + 1 ≤ e ∧ intsB b d = true) ∧ massAll ds + 4 ≤ m ∧ 1 ≤ e := by
  obtain ⟨⟨h1, h2, h3⟩, h4⟩ := h
  rw [plainD, plainAll_iff] at h1
  rw [PyData.depth] at h2
  rw [mass] at h3
  rw [intsB, intsAll_iff] at h4
  refine ⟨fun d hd => ⟨h1 d hd, ?_, h4 d hd⟩, h3, by omega⟩
  have := depthAll_le.mp (Nat.le_refl (PyData.depthAll ds)) d hd
  omega
theorem mass_split (ds : List D) (k : Nat) : massAll (ds.take k) + massAll (ds.drop k) = massAll ds := by
  rw [← massAll_append, List.take_append_drop]
theorem upper_asc : ∀ l : List Nat, (l.all fun c => decide (c < 128)) = true → (Txt.upper ⟨l.toArray⟩).length = l.length ∧ asc (Txt.upper ⟨l.toArray⟩) = true
  | [], _ => by decide +kernel
  | c :: r, h => by
    rw [List.all_cons, Bool.and_eq_true] at h
    obtain ⟨h1, h2⟩ := upper_asc r h.2
    have hc := of_decide_eq_true h.1
    have e : (⟨(c :: r).toArray⟩ : Str) = (⟨#[c]⟩ : Str) ++ ⟨r.toArray⟩ := by
      show _ = (⟨#[c] ++ r.toArray⟩ : Str)
      congr 1
      simp
    rw [e, KOpn.upper_app, KOpn.upper_one hc, len_append, asc_app, h1, h2]
    refine ⟨?_, ?_⟩
    · show 1 + _ = _
      rw [List.length_cons]; omega
    · unfold asc
      simp only [List.all_cons, List.all_nil, Bool.and_true, decide_eq_true_eq]
      split <;> omega
theorem upper_str (x : Str) (h : asc x = true) : (Txt.upper x).length = x.length ∧ asc (Txt.upper x) = true := by
  have := upper_asc x.cps.toList h
  have e : (⟨x.cps.toList.toArray⟩ : Str) = x := by
    cases x; simp
  rw [e] at this
  exact ⟨by rw [this.1, Array.length_toList]; rfl, this.2⟩
theorem int_text (i : Int) : (toString i : Str).length ≤ i.natAbs.log2 + 2 ∧ asc (toString i : Str) = true := by
  refine ⟨?_, ?_⟩
  · have := int_text_length_le (a := i) (k := i.natAbs.log2 + 1) (by omega) (by omega)
    show (Str.ofString (toString i)).length ≤ _
    rw [PySem.ofString_length]; exact this
  · unfold asc
    show ((Str.ofString (toString i)).cps.toList.all _) = true
    rw [List.all_eq_true]
    intro c hc
    rw [PyProof.Rows.signs_ofString] at hc
    obtain ⟨z, hz, rfl⟩ := List.mem_map.mp hc
    exact decide_eq_true (int_ascii i z hz)
theorem Bd.str {e m b : Nat} {x : Str} (h : asc x = true) (hm : 12 * x.length + 2 ≤ m) : Bd e m b (.str x) := ⟨⟨by rw [plainD]; exact h, by rw [PyData.depth]; omega, by rw [mass]; exact hm⟩, by rw [intsB]⟩
theorem Bd.int {e m b : Nat} {i : Int} (h : i.natAbs.log2 < b) (hb : b ≤ 1900) (hm : i.natAbs.log2 + 2 ≤ m) : Bd e m b (.int i) := ⟨⟨by rw [plainD]; exact decide_eq_true (by omega), by rw [PyData.depth]; omega, by rw [mass]; exact hm⟩, by rw [intsB]; exact decide_eq_true h⟩
theorem Bd.bool {e m b : Nat} {x : Bool} (hm : 5 ≤ m) : Bd e m b (.bool x) := ⟨⟨by rw [plainD], by rw [PyData.depth]; omega, by rw [mass]; exact hm⟩, by rw [intsB]⟩
theorem log_step {i j : Int} (h : (i - j).natAbs ≤ 1) : i.natAbs.log2 ≤ j.natAbs.log2 + 1 := by
  by_cases h0 : i.natAbs = 0
  · rw [h0]; have : (0 : Nat).log2 = 0 := by decide
    omega
  · have h1 : j.natAbs < 2 ^ (j.natAbs.log2 + 1) := lt_two_pow_of_log2_lt (by omega)
    have h2 : i.natAbs < 2 ^ (j.natAbs.log2 + 2) := by
      rw [Nat.pow_succ]; omega
    have := (Nat.log2_lt h0).mpr h2
    omega
theorem int_bent {i : Int} {e m b : Nat} (hb : i.natAbs.log2 < b) (hb1 : b ≤ 900) (hms : i.natAbs.log2 + 2 ≤ m) (hb0 : 300 ≤ b) : ∀ z ∈ ([.int (i + 1), .int (i - 1), .int (-1), .bool (decide (i = 1)), .str (toString i)] : List D), Bd (e + 4) (2 * m + 13000) (b + 1) z := by
  have l1 := log_step (i := i + 1) (j := i) (by omega)
  have l2 := log_step (i := i - 1) (j := i) (by omega)
  obtain ⟨t1, t2⟩ := int_text i
  have lg : (-1 : Int).natAbs.log2 = 0 := by decide
  generalize hA : i.natAbs.log2 = A at hb hms l1 l2 t1
  generalize hB1 : (i + 1).natAbs.log2 = B1 at l1
  generalize hB2 : (i - 1).natAbs.log2 = B2 at l2
  intro z hz
  simp only [List.mem_cons, List.not_mem_nil, or_false] at hz
  rcases hz with rfl | rfl | rfl | rfl | rfl
  · exact Bd.int (by rw [hB1]; omega) (by omega) (by rw [hB1]; omega)
  · exact Bd.int (by rw [hB2]; omega) (by omega) (by rw [hB2]; omega)
  · exact Bd.int (by rw [lg]; omega) (by omega) (by rw [lg]; omega)
  · exact Bd.bool (by omega)
  · exact Bd.str t2 (by omega)
theorem str_bent {x : Str} {e m b : Nat} (ha : asc x = true) (hx : 12 * x.length + 2 ≤ m) : ∀ z ∈ ([.str (x ++ "a"), .str (cutS x (some 1) none), .str "b", .str (Txt.upper x), .str ("a" ++ x)] : List D), Bd (e + 4) (2 * m + 13000) (b + 1) z := by
  obtain ⟨u1, u2⟩ := upper_str x ha
  have la : ((("a" : String) : Str)).length = 1 := rfl
  have aa : asc ("a" : String) = true := by decide +kernel
  have ab : asc ("b" : String) = true := by decide +kernel
  have cl : (cutS x (some 1) none).length ≤ x.length ∧ asc (cutS x (some 1) none) = true := by
    unfold cutS asc
    refine ⟨?_, ?_⟩
    · show (List.toArray _).size ≤ _
      rw [List.size_toArray, List.length_take, List.length_drop, Array.length_toList]
      show min _ (x.length - _) ≤ x.length
      omega
    · rw [List.all_eq_true]
      intro c hc
      unfold asc at ha
      rw [List.all_eq_true] at ha
      exact ha c (List.mem_of_mem_drop (List.mem_of_mem_take hc))
  intro z hz
  simp only [List.mem_cons, List.not_mem_nil, or_false] at hz
  rcases hz with rfl | rfl | rfl | rfl | rfl
  · exact Bd.str (by rw [asc_app, ha, aa]; rfl) (by rw [len_append, la]; omega)
  · exact Bd.str cl.2 (by have := cl.1; omega)
  · exact Bd.str ab (by show 12 * 1 + 2 ≤ _; omega)
  · exact Bd.str u2 (by rw [u1]; omega)
  · exact Bd.str (by rw [asc_app, ha, aa]; rfl) (by rw [len_append, la]; omega)
theorem tup_bent {ds : List D} {od : D} {e m b k : Nat} (hB : Bd e m b (.tuple ds)) (hO : Bd 3 1000 250 od) (hb0 : 300 ≤ b) :
    ∀ z ∈ ([.tuple (ds.take k ++ ds.drop (k + 1)), .tuple (ds.take k ++ cutL ds (some (k : Int)) (some ((k : Int) + 1)) ++ ds.drop k), .tuple ds.reverse, .list ds, .tuple (ds.take k ++ [od] ++ ds.drop k)] : List D), Bd (e + 4) (2 * m + 13000) (b + 1) z := by
  obtain ⟨p1, p2, p3⟩ := hB.parts
  have ms1 := mass_split ds k
  have ms3 := massAll_take ds k
  have ms4 := massAll_drop ds k
  have ms5 := massAll_drop ds (k + 1)
  have ec : ∀ x ∈ cutL ds (some (k : Int)) (some ((k : Int) + 1)), x ∈ ds := fun x hx => cut_sub hx
  have mc : massAll (cutL ds (some (k : Int)) (some ((k : Int) + 1))) ≤ massAll ds := by
    unfold cutL
    exact Nat.le_trans (massAll_take _ _) (massAll_drop _ _)
  have up : ∀ x ∈ ds, plainD x = true ∧ x.depth + 1 ≤ e + 4 ∧ intsB (b + 1) x = true := fun x hx => by
    have := p1 x hx
    exact ⟨this.1, by omega, ints_mono (by omega) _ this.2.2⟩
  have o1 : plainD od = true ∧ od.depth + 1 ≤ e + 4 ∧ intsB (b + 1) od = true := ⟨hO.n.pl, by have := hO.n.dp; omega, ints_mono (by omega) _ hO.i⟩
  have om := hO.n.ms
  intro z hz
  simp only [List.mem_cons, List.not_mem_nil, or_false] at hz
  rcases hz with rfl | rfl | rfl | rfl | rfl
  · refine Bd.tup (fun x hx => ?_) (by rw [massAll_append]; omega) (by omega)
    rcases List.mem_append.mp hx with q | q
    · exact up x (List.mem_of_mem_take q)
    · exact up x (List.mem_of_mem_drop q)
  · refine Bd.tup (fun x hx => ?_) (by rw [massAll_append, massAll_append]; omega) (by omega)
    rcases List.mem_append.mp hx with q | q
    · rcases List.mem_append.mp q with q | q
      · exact up x (List.mem_of_mem_take q)
      · exact up x (ec x q)
    · exact up x (List.mem_of_mem_drop q)
  · exact Bd.tup (fun x hx => up x (List.mem_reverse.mp hx)) (by rw [massAll_reverse]; omega) (by omega)
  · exact Bd.lst (fun x hx => up x hx) (by omega) (by omega)
  · refine Bd.tup (fun x hx => ?_) (by rw [massAll_append, massAll_append]; simp only [massAll]; omega) (by omega)
    rcases List.mem_append.mp hx with q | q
    · rcases List.mem_append.mp q with q | q
      · exact up x (List.mem_of_mem_take q)
      · rw [List.mem_singleton] at q
        rw [q]; exact o1
    · exact up x (List.mem_of_mem_drop q)
/-- one item bent -/
theorem item_bent {ds : List D} {z : D} {e m b k : Nat} (hB : Bd e m b (.tuple ds)) (hk : k < ds.length) (hz : Bd (e - 1 + 4) (2 * mass ds[k] + 13000) (b + 1) z) : Bd (e + 4) (2 * m + 13000) (b + 1) (.tuple (ds.take k ++ [z] ++ ds.drop (k + 1))) := by
  obtain ⟨p1, p2, p3⟩ := hB.parts
  have split : massAll ds = massAll (ds.take k) + (mass ds[k] + 2 + massAll (ds.drop (k + 1))) := by
    have q := mass_split ds k
    rw [List.drop_eq_getElem_cons hk, massAll] at q
    omega
  have up : ∀ x ∈ ds, plainD x = true ∧ x.depth + 1 ≤ e + 4 ∧ intsB (b + 1) x = true := fun x hx => by
    have := p1 x hx
    exact ⟨this.1, by omega, ints_mono (by omega) _ this.2.2⟩
  have zm := hz.n.ms
  refine Bd.tup (fun x hx => ?_) (by rw [massAll_append, massAll_append]; simp only [massAll]; omega) (by omega)
  rcases List.mem_append.mp hx with q | q
  · rcases List.mem_append.mp q with q | q
    · exact up x (List.mem_of_mem_take q)
    · rw [List.mem_singleton] at q
      rw [q]
      exact ⟨hz.n.pl, by have := hz.n.dp; omega, hz.i⟩
  · exact up x (List.mem_of_mem_drop q)
theorem Bd.item {ds : List D} {e m b k : Nat} (hB : Bd e m b (.tuple ds)) (hk : k < ds.length) : Bd (e - 1) (mass ds[k]) b ds[k] := by
  obtain ⟨p1, _, _⟩ := hB.parts
  have := p1 ds[k] (List.getElem_mem _)
  exact ⟨⟨this.1, by omega, Nat.le_refl _⟩, this.2.2⟩
theorem depth_item {ds : List D} {n k : Nat} (h : PyData.depth (.tuple ds) ≤ n + 1) (hk : k < ds.length) : ds[k].depth ≤ n := by
  rw [PyData.depth] at h
  exact depthAll_le.mp (by omega) ds[k] (List.getElem_mem _)
theorem str_of {d : D} (h : isTy "str" d = true) : ∃ x, d = .str x := by
  cases d with
  | str x => exact ⟨x, rfl⟩
  | _ => simp [isTy, isTyN, tyD] at h
theorem tup_of {d : D} (h : isTy "tuple" d = true) : ∃ x, d = .tuple x := by
  cases d with
  | tuple x => exact ⟨x, rfl⟩
  | _ => simp [isTy, isTyN, tyD] at h
theorem int_of {d : D} (h : isTy "int" d = true) (h2 : (!isTy "bool" d) = true) : ∃ x, d = .int x := by
  cases d with
  | int x => exact ⟨x, rfl⟩
  | _ => simp [isTy, isTyN, tyD] at h h2
/-- a statement that may fall through, then the rest -/
theorem fall {t u : TDS} {D : DEnds} {env : DEnv} {G : GS} (h2 : ∀ R : DEnv → GS → Prop, R env G → t { D with nx := R } env G) (h : u D env G) : tdSeq t u D env G := h2 _ h
theorem fallG (P : GS → Prop) {t u : TDS} {D : DEnds} {env : DEnv} {G : GS} (h2 : ∀ R : DEnv → GS → Prop, (∀ G', P G' → R env G') → t { D with nx := R } env G) (h : ∀ G', P G' → u D env G') : tdSeq t u D env G := h2 _ h
def signIn (z : Str) : D → D
  | .str t => .bool (t.cps.toList.all fun c => decide (c ∈ z.cps.toList))
  | _ => .none
theorem bd_small {i : Int} (h0 : 0 ≤ i) (h1 : i < 1000) : Bd 3 5000 300 (.int i) := by
  have := small_log (n := i.natAbs) (by omega)
  exact Bd.int (by omega) (by decide) (by omega)
/-- a new tuple of such -/
theorem bd_tup {ds : List D} (h : ∀ d ∈ ds, Bd 1 500 300 d) (hl : ds.length ≤ 8) : Bd 3 5000 300 (.tuple ds) := by
  refine Bd.tup (fun d hd => ⟨(h d hd).n.pl, by have := (h d hd).n.dp; omega, (h d hd).i⟩) ?_ (by decide)
  have := massAll_le (m := 500) (ds := ds) fun d hd => (h d hd).n.ms
  have q : (500 + 2) * ds.length ≤ (500 + 2) * 8 := Nat.mul_le_mul_left _ hl
  omega
theorem bd_num {i : Int} (h0 : 0 ≤ i) (h1 : i < 1000) : Bd 1 500 300 (.int i) := by
  have := small_log (n := i.natAbs) (by omega)
  exact Bd.int (by omega) (by decide) (by omega)
theorem bd_str {t : Str} (h : asc t = true) (hl : t.length ≤ 9) : Bd 1 500 300 (.str t) := Bd.str h (by omega)
theorem Bd.up {e m b e' m' b' : Nat} {d : D} (h : Bd e m b d) (h1 : e ≤ e') (h2 : m ≤ m') (h3 : b ≤ b') : Bd e' m' b' d := ⟨h.n.mono h1 h2, ints_mono h3 d h.i⟩
theorem all_cons {p : D → Prop} {a : D} {l : List D} (h : p a) (t : ∀ x ∈ l, p x) : ∀ x ∈ a :: l, p x := List.forall_mem_cons.mpr ⟨h, t⟩
theorem all_nil {p : D → Prop} : ∀ x ∈ ([] : List D), p x := fun x h => by cases h

end DL

set_option maxRecDepth 100000
set_option maxHeartbeats 4000000
/-! DL16: a tuple times an int; own lists made by +. -/
namespace DL
open PySem PySem.Spec PySem.W PyProof.Rows L2 RZ
/-- products of ints; a list or a tuple times an int -/
def rdMulT : RD2 := fun d e Q => match d with
  | .tuple ds => asI e fun k => (ds ≠ [] ∧ 2 ≤ k ∧ k ≤ 1000 ∧ ds.length ≤ 1000) ∧ Q (.tuple (List.replicate k.toNat ds).flatten)
  | d => rdMul d e Q
def mulTR (K : PySem.W.Frag) : R2 := fun x y H Q => mulR x y H Q ∨ rRepT K x y H Q
theorem imp_mulT {K : PySem.W.Frag} : Imp2 (mulTR K) rdMulT := by
  intro P H x y d e Q Qd pa rx ry h k
  have other : rdMul d e Qd → mulTR K x y H Q := fun h => .inl (imp_mul P H x y d e Q Qd pa rx ry h k)
  match d, rx, h, other with
  | .tuple ds, rx, h, _ =>
    obtain ⟨n, rfl, ⟨h1, h2, h3, h4⟩, h⟩ := asI_inv h
    obtain ⟨a, xs, rfl, ea, ra⟩ := rx.tup_inv
    refine .inr ⟨a, n, xs, rfl, ry.int_inv, SqT.of (hide_some ea).2, fun z => h1 ?_, h2, h3, by rw [ra.len]; exact h4, fun p hp => ?_⟩
    · have := ra.len
      rw [z] at this
      exact List.length_eq_zero_iff.mp this.symm
    · have s : Same H (upd H p (.tup (List.replicate n.toNat xs).flatten)) := same_upd hp
      exact k _ _ _ s (.tup (new_out pa hp) (RpAll.mono (hide_same s) (rp_rep ra _))) h
  | .none, _, h, o => exact o h
  | .bool _, _, h, o => exact o h
  | .int _, _, h, o => exact o h
  | .str _, _, h, o => exact o h
  | .list _, _, h, o => exact o h
  | .dict _, _, h, o => exact o h
section
variable {X : Cx} {F : Fx} {a b : Expr} {ta tb : TDE} {pos : Pos}
theorem op_mulTR : OpR X (binaryOp .Mult) (mulTR X.K) := op_mulR.or op_repT
/-- a new list by + -/
def tdAddF (ta tb : TDE) : TDF := fun env G Q => ta env G fun x G1 => tb env G1 fun y G2 => asD x fun d => asD y fun e => match d, e with
  | .list xs, .list ys => xs.length + ys.length ≤ sizeLine ∧ Q (xs ++ ys) G2
  | _, _ => False
theorem df_add (ha : DE X F a ta) (hb : DE X F b tb) : DF X F (.BinOp a .Add b pos) (tdAddF ta tb) :=
  PE.imp (pe_op op_cat ha hb) fun σ H Q ⟨P, env, G, Qd, I, h, k⟩ => ⟨P, env, G, _, I, h, fun v H1 x G1 I1 s1 r1 h1 => ⟨P, env, G1, _, I1, h1, fun u H2 y G2 I2 s2 r2 h2 => by
    obtain ⟨d, rfl, h3⟩ := asD_inv (x := x) h2
    obtain ⟨e, rfl, h4⟩ := asD_inv (x := y) h3
    match d, e, h4, r1, r2 with
    | .list xs, .list ys, h4, r1, r2 =>
      obtain ⟨hz, h5⟩ := h4
      obtain ⟨p1, vs, rfl, e1, q1⟩ := Rp.lst_inv (Rp.mono (I2.sm s2) r1)
      obtain ⟨p2, us, rfl, e2, q2⟩ := Rp.lst_inv r2
      exact ⟨p1, p2, vs, us, rfl, rfl, (hide_some e1).2, (hide_some e2).2, by rw [q1.len, q2.len]; exact hz, fun p hp => k p _ _ _ G2 (fresh_new I2 (Kp.trans s1 s2) hp (q1.append q2)) h5⟩⟩⟩
/-- .. of an own list and another list -/
def tdAddO (i : Nat) (tb : TDE) : TDF := fun env G Q => isOwn (look env i) fun xs => tb env G fun y G2 => asD y fun e => match e with
  | .list ys => xs.length + ys.length ≤ sizeLine ∧ Q (xs ++ ys) G2
  | _ => False
theorem df_addO (i : Nat) {x : Str} {px : Pos} (hb : DE X F b tb) (hN : X.N[i]? = some x := by rfl) (hv : Vis X.env.scope x := by first | exact Or.inl rfl | exact Or.inr (Or.inl rfl) | exact Or.inr (Or.inr rfl)) (hd : (x == ("__debug__" : Str)) = false := by decide)
    (hcd : (x == ("__classdict__" : Str)) = false := by decide) : DF X F (.BinOp (.Name x px) .Add b pos) (tdAddO i tb) :=
  PE.imp (pe_op op_cat (pe_var hN hv hd hcd) hb) fun σ H Q ⟨P, env, G, Qd, I, h, k⟩ => by
    obtain ⟨xs, q, h⟩ := isOwn_inv h
    obtain ⟨p, ws, e1, hp, n0, ea, ra⟩ := I.ownAt q
    refine ⟨.ref p, e1, P, env, G, _, I, h, fun u H2 y G2 I2 s2 r2 h2 => ?_⟩
    obtain ⟨e, rfl, h4⟩ := asD_inv (x := y) h2
    match e, h4, r2 with
    | .list ys, h4, r2 =>
      obtain ⟨hz, h5⟩ := h4
      obtain ⟨p2, us, rfl, e2, q2⟩ := Rp.lst_inv r2
      have ea2 : H2 p = some (.lst ws) := s2 p _ ea (I.h.notGa n0)
      have ra2 : RpAll (hide H2 P) ws xs := RpAll.mono (I2.sm s2) ra
      exact ⟨p, p2, ws, us, rfl, rfl, ea2, (hide_some e2).2, by rw [ra2.len, q2.len]; exact hz, fun l hl => k l _ _ _ G2 (fresh_new I2 s2 hl (ra2.append q2)) h5⟩
end
end DL

set_option maxRecDepth 100000
set_option maxHeartbeats 4000000
/-! DL17: types over the data layer: what a def's reading keeps safe. -/
namespace TY
open PySem PySem.Spec PySem.W PyProof.Rows L2 RZ DL
abbrev T := D → Prop
abbrev VP := SV → Prop
abbrev SP := Option SV → Prop
abbrev Ctx := List SP
def Fits : Ctx → DEnv → Prop
  | [], [] => True
  | p :: Γ, o :: env => p o ∧ Fits Γ env
  | _, _ => False
def dd (τ : T) : VP := fun x => ∃ d, x = .d d ∧ τ d
def gg : VP := fun x => x = .g 0
def ow (τ : T) (lo hi : Nat) : VP := fun x => ∃ xs, x = .own xs ∧ (∀ d ∈ xs, τ d) ∧ lo ≤ xs.length ∧ xs.length ≤ hi
def so (p : VP) : SP := fun o => ∃ x, o = some x ∧ p x
def va : SP := fun _ => True
inductive All2 : List T → List D → Prop
  | nil : All2 [] []
  | cons {τ : T} {ts : List T} {d : D} {ds : List D} : τ d → All2 ts ds → All2 (τ :: ts) (d :: ds)
inductive AllP : List VP → List SV → Prop
  | nil : AllP [] []
  | cons {p : VP} {ps : List VP} {x : SV} {xs : List SV} : p x → AllP ps xs → AllP (p :: ps) (x :: xs)
abbrev tAny (e m b : Nat) : T := Bd e m b
def tNon : T := fun d => d = .none
def tBool : T := fun d => ∃ b, d = .bool b
def tInt (lo hi : Int) : T := fun d => ∃ i, d = .int i ∧ lo ≤ i ∧ i ≤ hi
def tStr (lo hi : Nat) : T := fun d => ∃ x, d = .str x ∧ asc x = true ∧ lo ≤ x.length ∧ x.length ≤ hi
def tTup (ts : List T) : T := fun d => ∃ ds, d = .tuple ds ∧ All2 ts ds
def tTupOf (τ : T) (lo hi : Nat) : T := fun d => ∃ ds, d = .tuple ds ∧ (∀ x ∈ ds, τ x) ∧ lo ≤ ds.length ∧ ds.length ≤ hi
def tLst (τ : T) (lo hi : Nat) : T := fun d => ∃ ds, d = .list ds ∧ (∀ x ∈ ds, τ x) ∧ lo ≤ ds.length ∧ ds.length ≤ hi
def tTupB (e m b lo : Nat) : T := fun d => ∃ ds, d = .tuple ds ∧ Bd e m b d ∧ lo ≤ ds.length
/-! ### contexts -/
theorem Fits.get : ∀ {Γ : Ctx} {env : DEnv} {i : Nat} {p : SP}, Fits Γ env → Γ[i]? = some p → ∃ o, env[i]? = some o ∧ p o
  | [], [], _, _, _, e => by simp at e
  | p :: Γ, o :: env, 0, q, h, e => by simp at e; subst e; exact ⟨o, rfl, h.1⟩
  | p :: Γ, o :: env, i + 1, q, h, e => by
    obtain ⟨o', e1, e2⟩ := Fits.get (i := i) h.2 (by simpa using e)
    exact ⟨o', by simpa using e1, e2⟩
  | [], _ :: _, _, _, h, _ => h.elim
  | _ :: _, [], _, _, h, _ => h.elim
theorem look_at : ∀ {env : DEnv} {i : Nat} {o : Option SV}, env[i]? = some o → look env i = o
  | [], _, _, e => by simp at e
  | x :: r, 0, o, e => by simp at e; exact e
  | x :: r, i + 1, o, e => look_at (env := r) (by simpa using e)
theorem Fits.look {Γ : Ctx} {env : DEnv} {i : Nat} {p : VP} (h : Fits Γ env) (e : Γ[i]? = some (so p)) : ∃ x, look env i = some x ∧ p x := by
  obtain ⟨o, e1, x, rfl, e2⟩ := h.get e
  exact ⟨x, look_at e1, e2⟩
theorem Fits.set : ∀ {Γ : Ctx} {env : DEnv} (i : Nat) {p : SP} {o : Option SV}, Fits Γ env → p o → Fits (Γ.set i p) (env.set i o)
  | [], [], _, _, _, _, _ => True.intro
  | _ :: _, _ :: _, 0, _, _, h, q => ⟨q, h.2⟩
  | _ :: _, _ :: _, i + 1, _, _, h, q => ⟨h.1, Fits.set i h.2 q⟩
  | [], _ :: _, _, _, _, h, _ => h.elim
  | _ :: _, [], _, _, _, h, _ => h.elim
theorem Fits.put {Γ : Ctx} {env : DEnv} (i : Nat) {p : VP} {x : SV} (h : Fits Γ env) (q : p x) : Fits (Γ.set i (so p)) (env.set i (some x)) := h.set i ⟨x, rfl, q⟩
def wipeC (Γ : Ctx) : List Nat → Ctx
  | [] => Γ
  | v :: vs => (wipeC Γ vs).set v va
theorem Fits.wipe {Γ : Ctx} {env : DEnv} (h : Fits Γ env) : ∀ vs : List Nat, Fits (wipeC Γ vs) (wipeD env vs)
  | [] => h
  | v :: vs => (Fits.wipe h vs).set v True.intro
def Le (Γ Δ : Ctx) : Prop := ∀ env, Fits Γ env → Fits Δ env
theorem le_refl {Γ : Ctx} : Le Γ Γ := fun _ h => h
theorem le_nil : Le [] [] := fun _ h => h
theorem le_cons {p q : SP} {Γ Δ : Ctx} (h : ∀ o, p o → q o) (r : Le Γ Δ) : Le (p :: Γ) (q :: Δ) := fun env f => match env, f with
  | o :: env, f => ⟨h o f.1, r env f.2⟩
theorem sp_refl {p : SP} : ∀ o, p o → p o := fun _ h => h
theorem sp_va {p : SP} : ∀ o, p o → va o := fun _ _ => True.intro
theorem sp_so {p q : VP} (h : ∀ x, p x → q x) : ∀ o, so p o → so q o := fun _ ⟨x, e, k⟩ => ⟨x, e, h x k⟩
theorem sp_dd {τ σ : T} (h : ∀ d, τ d → σ d) : ∀ o, so (dd τ) o → so (dd σ) o := fun _ ⟨x, e, d, k, q⟩ => ⟨x, e, d, k, h d q⟩
theorem sp_ow {τ σ : T} {lo hi lo' hi' : Nat} (h : ∀ d, τ d → σ d) (h1 : lo' ≤ lo) (h2 : hi ≤ hi') : ∀ o, so (ow τ lo hi) o → so (ow σ lo' hi') o := fun _ ⟨x, e, xs, k, q, r1, r2⟩ => ⟨x, e, xs, k, fun d hd => h d (q d hd), by omega, by omega⟩
theorem app_all {τ : T} {xs ys : List D} (h : ∀ x ∈ xs, τ x) (k : ∀ x ∈ ys, τ x) : ∀ z ∈ xs ++ ys, τ z := fun z hz => (List.mem_append.mp hz).elim (h z) (k z)
theorem cons_all {τ : T} {x : D} {ys : List D} (h : τ x) (k : ∀ x ∈ ys, τ x) : ∀ z ∈ x :: ys, τ z := fun z hz => (List.mem_cons.mp hz).elim (fun e => e ▸ h) (k z)
/-! ### subtypes -/
def tNo : T := fun _ => False
theorem s_no {τ : T} : ∀ d, tNo d → τ d := fun _ h => h.elim
theorem s_refl {τ : T} : ∀ d, τ d → τ d := fun _ h => h
theorem s_trans {τ σ ρ : T} (a : ∀ d, τ d → σ d) (b : ∀ d, σ d → ρ d) : ∀ d, τ d → ρ d := fun d h => b d (a d h)
theorem s_any {e m b e' m' b' : Nat} (h1 : e ≤ e') (h2 : m ≤ m') (h3 : b ≤ b') : ∀ d, tAny e m b d → tAny e' m' b' d := fun _ h => h.up h1 h2 h3
theorem s_non_any {e m b : Nat} (h : 5 ≤ m) : ∀ d, tNon d → tAny e m b d := fun d h1 => by
  subst h1
  exact ⟨⟨by rw [plainD], by rw [PyData.depth]; omega, by simp [mass]; exact h⟩, by rw [intsB]⟩
theorem s_bool_any {e m b : Nat} (h : 5 ≤ m) : ∀ d, tBool d → tAny e m b d := fun d ⟨x, h1⟩ => by
  subst h1
  exact Bd.bool h
theorem s_int_int {a b c f : Int} (h1 : c ≤ a) (h2 : b ≤ f) : ∀ d, tInt a b d → tInt c f d := fun _ ⟨i, e, q1, q2⟩ => ⟨i, e, by omega, by omega⟩
theorem s_int_any (k : Nat) {lo hi : Int} {e m b : Nat} (h1 : -(2 ^ k) < lo) (h2 : hi < 2 ^ k) (h0 : 0 < k) (h3 : k ≤ b) (h4 : b ≤ 1900) (h5 : k + 2 ≤ m) : ∀ d, tInt lo hi d → tAny e m b d := fun d ⟨i, q, q1, q2⟩ => by
  subst q
  have hp : ((2 ^ k : Nat) : Int) = (2 : Int) ^ k := by push_cast; rfl
  have hlt : i.natAbs < 2 ^ k := by
    have : (i.natAbs : Int) < ((2 ^ k : Nat) : Int) := by rw [hp]; omega
    exact_mod_cast this
  have hl : i.natAbs.log2 < k := by
    by_cases z : i.natAbs = 0
    · rw [z]; simpa using h0
    · exact (Nat.log2_lt z).mpr hlt
  exact Bd.int (by omega) h4 (by omega)
theorem s_str_str {a b c f : Nat} (h1 : c ≤ a) (h2 : b ≤ f) : ∀ d, tStr a b d → tStr c f d := fun _ ⟨i, e, q0, q1, q2⟩ => ⟨i, e, q0, by omega, by omega⟩
theorem s_str_any {lo hi e m b : Nat} (h : 12 * hi + 2 ≤ m) : ∀ d, tStr lo hi d → tAny e m b d := fun d ⟨x, q, q0, q1, q2⟩ => by
  subst q
  exact Bd.str q0 (by omega)
/-- all items of such a list together -/
def TB (ts : List T) (e M b : Nat) : Prop := ∀ ds, All2 ts ds → (∀ d ∈ ds, plainD d = true ∧ d.depth + 1 ≤ e ∧ intsB b d = true) ∧ massAll ds ≤ M
theorem tb_nil {e b : Nat} : TB [] e 0 b := fun ds h => by
  cases h
  exact ⟨(fun _ h => nomatch h), Nat.le_refl _⟩
theorem tb_cons {τ : T} {ts : List T} {e e1 m M b : Nat} (h : ∀ d, τ d → tAny e1 m b d) (r : TB ts e M b) (he : e1 + 1 ≤ e := by decide) : TB (τ :: ts) e (m + 2 + M) b := fun ds q => by
  cases q with
  | cons q1 q2 =>
    rename_i d ds
    have z := h d q1
    obtain ⟨r1, r2⟩ := r ds q2
    refine ⟨fun x hx => ?_, by rw [massAll]; have := z.n.ms; omega⟩
    rcases List.mem_cons.mp hx with rfl | hx
    · exact ⟨z.n.pl, by have := z.n.dp; omega, z.i⟩
    · exact r1 x hx
theorem s_tup_any {ts : List T} {e M b m : Nat} (h : TB ts e M b) (h1 : M + 4 ≤ m) (h2 : 1 ≤ e) : ∀ d, tTup ts d → tAny e m b d := fun d ⟨ds, q, k⟩ => by
  subst q
  obtain ⟨r1, r2⟩ := h ds k
  exact Bd.tup r1 (by omega) h2
theorem s_seq_mass {τ : T} {e m b : Nat} {ds : List D} (h : ∀ d, τ d → tAny e m b d) (k : ∀ x ∈ ds, τ x) : (∀ d ∈ ds, plainD d = true ∧ d.depth + 1 ≤ e + 1 ∧ intsB b d = true) ∧ massAll ds ≤ (m + 2) * ds.length :=
  ⟨fun d hd => by have z := h d (k d hd); exact ⟨z.n.pl, by have := z.n.dp; omega, z.i⟩, massAll_le fun d hd => (h d (k d hd)).n.ms⟩
theorem s_tupof_any {τ : T} {lo hi e m b e' m' : Nat} (h : ∀ d, τ d → tAny e m b d) (h1 : (m + 2) * hi + 4 ≤ m') (h2 : e + 1 ≤ e') : ∀ d, tTupOf τ lo hi d → tAny e' m' b d := fun d ⟨ds, q, k, l1, l2⟩ => by
  subst q
  obtain ⟨r1, r2⟩ := s_seq_mass h k
  have := Nat.mul_le_mul_left (m + 2) l2
  exact Bd.tup (fun d hd => ⟨(r1 d hd).1, by have := (r1 d hd).2.1; omega, (r1 d hd).2.2⟩) (by omega) (by omega)
theorem s_lst_any {τ : T} {lo hi e m b e' m' : Nat} (h : ∀ d, τ d → tAny e m b d) (h1 : (m + 2) * hi + 4 ≤ m') (h2 : e + 1 ≤ e') : ∀ d, tLst τ lo hi d → tAny e' m' b d := fun d ⟨ds, q, k, l1, l2⟩ => by
  subst q
  obtain ⟨r1, r2⟩ := s_seq_mass h k
  have := Nat.mul_le_mul_left (m + 2) l2
  exact Bd.lst (fun d hd => ⟨(r1 d hd).1, by have := (r1 d hd).2.1; omega, (r1 d hd).2.2⟩) (by omega) (by omega)
theorem s_tupof {τ σ : T} {lo hi lo' hi' : Nat} (h : ∀ d, τ d → σ d) (h1 : lo' ≤ lo) (h2 : hi ≤ hi') : ∀ d, tTupOf τ lo hi d → tTupOf σ lo' hi' d := fun d ⟨ds, q, k, l1, l2⟩ => ⟨ds, q, fun x hx => h x (k x hx), by omega, by omega⟩
theorem s_lst {τ σ : T} {lo hi lo' hi' : Nat} (h : ∀ d, τ d → σ d) (h1 : lo' ≤ lo) (h2 : hi ≤ hi') : ∀ d, tLst τ lo hi d → tLst σ lo' hi' d := fun d ⟨ds, q, k, l1, l2⟩ => ⟨ds, q, fun x hx => h x (k x hx), by omega, by omega⟩
/-- all items of such a list are σ -/
def TS (ts : List T) (σ : T) (n : Nat) : Prop := ∀ ds, All2 ts ds → (∀ d ∈ ds, σ d) ∧ ds.length = n
theorem ts_nil {σ : T} : TS [] σ 0 := fun ds h => by
  cases h
  exact ⟨(fun _ h => nomatch h), rfl⟩
theorem ts_cons {τ σ : T} {ts : List T} {n : Nat} (h : ∀ d, τ d → σ d) (r : TS ts σ n) : TS (τ :: ts) σ (n + 1) := fun ds q => by
  cases q with
  | cons q1 q2 =>
    rename_i d ds
    obtain ⟨r1, r2⟩ := r ds q2
    exact ⟨cons_all (h _ q1) r1, by rw [List.length_cons, r2]⟩
theorem s_tup_tupof {ts : List T} {σ : T} {n lo hi : Nat} (h : TS ts σ n) (h1 : lo ≤ n) (h2 : n ≤ hi) : ∀ d, tTup ts d → tTupOf σ lo hi d := fun d ⟨ds, q, k⟩ => by
  obtain ⟨r1, r2⟩ := h ds k
  exact ⟨ds, q, r1, by omega, by omega⟩
def T2 (ts us : List T) : Prop := ∀ ds, All2 ts ds → All2 us ds
theorem t2_nil : T2 [] [] := fun _ h => h
theorem t2_cons {τ σ : T} {ts us : List T} (h : ∀ d, τ d → σ d) (r : T2 ts us) : T2 (τ :: ts) (σ :: us) := fun ds q => by
  cases q with
  | cons q1 q2 => exact .cons (h _ q1) (r _ q2)
theorem s_tup {ts us : List T} (h : T2 ts us) : ∀ d, tTup ts d → tTup us d := fun d ⟨ds, q, k⟩ => ⟨ds, q, h ds k⟩
theorem s_tupb_any {e m b lo : Nat} : ∀ d, tTupB e m b lo d → tAny e m b d := fun _ ⟨_, _, h, _⟩ => h
theorem s_tupb {e m b lo e' m' b' lo' : Nat} (h1 : e ≤ e') (h2 : m ≤ m') (h3 : b ≤ b') (h4 : lo' ≤ lo) : ∀ d, tTupB e m b lo d → tTupB e' m' b' lo' d := fun _ ⟨ds, e, h, l⟩ => ⟨ds, e, h.up h1 h2 h3, by omega⟩
theorem s_tup_tupb {ts : List T} {σ : T} {e m b n lo : Nat} (h : ∀ d, tTup ts d → tAny e m b d) (k : TS ts σ n) (h1 : lo ≤ n) : ∀ d, tTup ts d → tTupB e m b lo d := fun d q => by
  obtain ⟨ds, e1, e2⟩ := q
  exact ⟨ds, e1, h d ⟨ds, e1, e2⟩, by have := (k ds e2).2; omega⟩
theorem s_tupof_tupb {τ : T} {lo hi e m b lo' : Nat} (h : ∀ d, tTupOf τ lo hi d → tAny e m b d) (h1 : lo' ≤ lo) : ∀ d, tTupOf τ lo hi d → tTupB e m b lo' d := fun d q => by
  obtain ⟨ds, e1, e2⟩ := q
  exact ⟨ds, e1, h d ⟨ds, e1, e2⟩, by have := e2.2.1; omega⟩
theorem tup_item {e m b : Nat} {ds : List D} (h : Bd e m b (.tuple ds)) : ∀ x ∈ ds, Bd (e - 1) m b x := fun x hx => by
  obtain ⟨p1, p2, p3⟩ := h.parts
  have q := p1 x hx
  have ms := massAll_mem hx
  exact ⟨⟨q.1, by have := q.2.1; omega, by omega⟩, q.2.2⟩
theorem s_tupb_tupof {e m b lo : Nat} : ∀ d, tTupB e m b lo d → tTupOf (tAny (e - 1) m b) lo (m / 2) d := fun d ⟨ds, q, h, l⟩ => by
  subst q
  have := h.n.tup_len
  exact ⟨ds, rfl, tup_item h, l, by omega⟩
theorem vsub {τ σ : T} (h : ∀ d, τ d → σ d) : ∀ x, dd τ x → dd σ x := fun _ ⟨d, e, q⟩ => ⟨d, e, h d q⟩
/-- what is told of all types at the end -/
theorem any_ok {e m b : Nat} (h1 : e ≤ 40) (h2 : m ≤ 1000000) : ∀ d, tAny e m b d → Nice 40 1000000 d := fun _ h => h.n.mono h1 h2
section
variable (F : GS → Prop)
/-! ### judgements -/
def HE (t : TDE) (Γ : Ctx) (p : VP) : Prop := ∀ env G (Q : SV → GS → Prop), Fits Γ env → F G → (∀ x G', p x → F G' → Q x G') → t env G Q
def HT (t : TDT) (Γ Γt Γf : Ctx) : Prop := ∀ env G (Q : Bool → GS → Prop), Fits Γ env → F G → (∀ G', F G' → Fits Γt env → Q true G') → (∀ G', F G' → Fits Γf env → Q false G') → t env G Q
def HA (t : TDA) (Γ : Ctx) (ps : List VP) : Prop := ∀ env G (Q : List SV → GS → Prop), Fits Γ env → F G → (∀ xs G', AllP ps xs → F G' → Q xs G') → t env G Q
def HO_ (t : TDO) (Γ : Ctx) (lo hi : Int) : Prop := ∀ env G (Q : Option Int → GS → Prop), Fits Γ env → F G → (∀ i G', lo ≤ i → i ≤ hi → F G' → Q (some i) G') → t env G Q
def HF (t : TDF) (Γ : Ctx) (τ : T) (lo hi : Nat) : Prop := ∀ env G (Q : List D → GS → Prop), Fits Γ env → F G → (∀ ys G', (∀ d ∈ ys, τ d) → lo ≤ ys.length → ys.length ≤ hi → F G' → Q ys G') → t env G Q
def HI (t : TDI) (Γ : Ctx) (τ : T) (lo hi : Nat) : Prop := HF F t Γ τ lo hi
def HG (g : TDG) (τ : T) (Γ Γ1 : Ctx) : Prop := ∀ d env (Q : DEnv → Prop), τ d → Fits Γ env → (∀ env', Fits Γ1 env' → Q env') → g (.d d) env Q
def HGs (g : TDGs) (ts : List T) (Γ Γ1 : Ctx) : Prop := ∀ ds env (Q : DEnv → Prop), All2 ts ds → Fits Γ env → (∀ env', Fits Γ1 env' → Q env') → g (ds.map SV.d) env Q
def HS (t : TDS) (Γ nx bk ct : Ctx) (ρ : VP) : Prop := ∀ (K : DEnds) env G, Fits Γ env → F G → (∀ e G', Fits nx e → F G' → K.nx e G') → (∀ e G', Fits bk e → F G' → K.bk e G') → (∀ e G', Fits ct e → F G' → K.ct e G') → (∀ x G', ρ x → F G' → K.rt x G') → t K env G
variable {F}
variable {t u ta tb tc : TDE} {Γ Γ1 Γ2 Γt Γf nx bk ct : Ctx} {p q ρ : VP} {τ σ : T}
/-! ### expressions -/
theorem he_le (h : HE F t Γ1 p) (l : Le Γ Γ1) : HE F t Γ p := fun env G Q f g k => h env G Q (l env f) g k
theorem he_sub (h : HE F t Γ p) (s : ∀ x, p x → q x) : HE F t Γ q := fun env G Q f g k => h env G Q f g fun x G' hx hG => k x G' (s x hx) hG
theorem he_dsub (h : HE F t Γ (dd τ)) (s : ∀ d, τ d → σ d) : HE F t Γ (dd σ) := he_sub h (vsub s)
theorem he_norm {σ : T} (h : HE F t Γ (dd τ)) (e : τ = σ := by rfl) : HE F t Γ (dd σ) := by
  subst e
  exact h
theorem he_var {i : Nat} (h : Γ[i]? = some (so (dd τ)) := by rfl) : HE F (tdVar i) Γ (dd τ) := fun env G Q f g k => by
  obtain ⟨x, e, d, rfl, hd⟩ := f.look h
  unfold tdVar
  rw [e]
  exact k (.d d) G ⟨d, rfl, hd⟩ g
theorem he_varg {i : Nat} (h : Γ[i]? = some (so gg) := by rfl) : HE F (tdVar i) Γ gg := fun env G Q f g k => by
  obtain ⟨x, e, rfl⟩ := f.look h
  unfold tdVar
  rw [e]
  exact k (.g 0) G rfl g
theorem he_c {x : D} (h : τ x) : HE F (tdC x) Γ (dd τ) := fun env G Q f g k => k _ G ⟨x, rfl, h⟩ g
theorem he_cint {i : Int} : HE F (tdC (.int i)) Γ (dd (tInt i i)) := he_c ⟨i, rfl, Int.le_refl _, Int.le_refl _⟩
theorem he_cbool {b : Bool} : HE F (tdC (.bool b)) Γ (dd tBool) := he_c ⟨b, rfl⟩
theorem he_cnon : HE F (tdC .none) Γ (dd tNon) := he_c rfl
theorem he_cstr {x : Str} {n : Nat} (h : (asc x && decide (x.length = n)) = true) : HE F (tdC (.str x)) Γ (dd (tStr n n)) := he_c (by
  rw [Bool.and_eq_true] at h
  have h2 := of_decide_eq_true h.2
  exact ⟨x, rfl, h.1, by omega, by omega⟩)
def bdB (e m b : Nat) (d : D) : Bool := niceB e m d && intsB b d
theorem bdB_ok {e m b : Nat} {d : D} (h : bdB e m b d = true) : Bd e m b d := by
  unfold bdB at h
  rw [Bool.and_eq_true] at h
  exact ⟨Nice.of h.1, h.2⟩
theorem he_cany {d : D} (e m b : Nat) (h : bdB e m b d = true) : HE F (tdC d) Γ (dd (tAny e m b)) := he_c (bdB_ok h)
theorem he_ctup {ds : List D} (e m b lo : Nat) (h : (bdB e m b (.tuple ds) && decide (lo ≤ ds.length)) = true) : HE F (tdC (.tuple ds)) Γ (dd (tTupB e m b lo)) := he_c (by
  rw [Bool.and_eq_true] at h
  exact ⟨ds, rfl, bdB_ok h.1, of_decide_eq_true h.2⟩)
theorem he_clst {ds : List D} (e m b n : Nat) (h : ((ds.all (bdB e m b)) && decide (ds.length = n)) = true) : HE F (tdC (.list ds)) Γ (dd (tLst (tAny e m b) n n)) := he_c (by
  rw [Bool.and_eq_true, List.all_eq_true] at h
  have h2 := of_decide_eq_true h.2
  exact ⟨ds, rfl, fun x hx => bdB_ok (h.1 x hx), by omega, by omega⟩)
def strB (lo hi : Nat) : D → Bool
  | .str x => asc x && decide (lo ≤ x.length) && decide (x.length ≤ hi)
  | _ => false
theorem strB_ok {lo hi : Nat} {d : D} (h : strB lo hi d = true) : tStr lo hi d := by
  cases d with
  | str x =>
    have h : (asc x && decide (lo ≤ x.length) && decide (x.length ≤ hi)) = true := h
    rw [Bool.and_eq_true, Bool.and_eq_true] at h
    exact ⟨x, rfl, h.1.1, of_decide_eq_true h.1.2, of_decide_eq_true h.2⟩
  | _ => cases h
def intB (lo hi : Int) : D → Bool
  | .int i => decide (lo ≤ i) && decide (i ≤ hi)
  | _ => false
theorem intB_ok {lo hi : Int} {d : D} (h : intB lo hi d = true) : tInt lo hi d := by
  cases d with
  | int x =>
    have h : (decide (lo ≤ x) && decide (x ≤ hi)) = true := h
    rw [Bool.and_eq_true] at h
    exact ⟨x, rfl, of_decide_eq_true h.1, of_decide_eq_true h.2⟩
  | _ => cases h
/-- a written list, its items by a test -/
def lstB (f : D → Bool) (n m : Nat) : D → Bool
  | .list ds => ds.all f && decide (n ≤ ds.length) && decide (ds.length ≤ m)
  | _ => false
theorem lstB_ok {f : D → Bool} {n m : Nat} {d : D} (hf : ∀ x, f x = true → τ x) (h : lstB f n m d = true) : tLst τ n m d := by
  cases d with
  | list ds =>
    have h : (ds.all f && decide (n ≤ ds.length) && decide (ds.length ≤ m)) = true := h
    rw [Bool.and_eq_true, Bool.and_eq_true, List.all_eq_true] at h
    exact ⟨ds, rfl, fun x hx => hf x (h.1.1 x hx), of_decide_eq_true h.1.2, of_decide_eq_true h.2⟩
  | _ => cases h
def tupB (f : D → Bool) (n m : Nat) : D → Bool
  | .tuple ds => ds.all f && decide (n ≤ ds.length) && decide (ds.length ≤ m)
  | _ => false
theorem tupB_ok {f : D → Bool} {n m : Nat} {d : D} (hf : ∀ x, f x = true → τ x) (h : tupB f n m d = true) : tTupOf τ n m d := by
  cases d with
  | tuple ds =>
    have h : (ds.all f && decide (n ≤ ds.length) && decide (ds.length ≤ m)) = true := h
    rw [Bool.and_eq_true, Bool.and_eq_true, List.all_eq_true] at h
    exact ⟨ds, rfl, fun x hx => hf x (h.1.1 x hx), of_decide_eq_true h.1.2, of_decide_eq_true h.2⟩
  | _ => cases h
theorem he_clit {d : D} {f : D → Bool} (hf : ∀ x, f x = true → τ x) (h : f d = true) : HE F (tdC d) Γ (dd τ) := he_c (hf d h)
theorem lit_of {d : D} {f : D → Bool} (hf : ∀ x, f x = true → τ x) (h : f d = true) : τ d := hf d h
/-! two operands -/
theorem he_bin {r : RD2} {ρ' : T} (ha : HE F ta Γ (dd τ)) (hb : HE F tb Γ (dd σ)) (h : ∀ d e (Q : D → Prop), τ d → σ e → (∀ z, ρ' z → Q z) → r d e Q) : HE F (tdBin r ta tb) Γ (dd ρ') := fun env G Q f g k => by
  refine ha env G _ f g fun x G1 hx g1 => hb env G1 _ f g1 fun y G2 hy g2 => ?_
  obtain ⟨d, rfl, hd⟩ := hx
  obtain ⟨e, rfl, he⟩ := hy
  exact h d e _ hd he fun z hz => k _ G2 ⟨z, rfl, hz⟩ g2
theorem he_add_ii {a b c f : Int} (ha : HE F ta Γ (dd (tInt a b))) (hb : HE F tb Γ (dd (tInt c f))) : HE F (tdBin rdAdd ta tb) Γ (dd (tInt (a + c) (b + f))) := he_bin ha hb fun d e Q ⟨i, e1, h1, h2⟩ ⟨j, e2, h3, h4⟩ k => by
  subst e1 e2
  exact k _ ⟨i + j, rfl, by omega, by omega⟩
theorem he_sub_ii {a b c f : Int} (ha : HE F ta Γ (dd (tInt a b))) (hb : HE F tb Γ (dd (tInt c f))) : HE F (tdBin (rdI0 fun i j => .int (i - j)) ta tb) Γ (dd (tInt (a - f) (b - c))) := he_bin ha hb fun d e Q ⟨i, e1, h1, h2⟩ ⟨j, e2, h3, h4⟩ k => by
  subst e1 e2
  exact k _ ⟨i - j, rfl, by omega, by omega⟩
theorem he_add_ss {a b c f : Nat} (ha : HE F ta Γ (dd (tStr a b))) (hb : HE F tb Γ (dd (tStr c f))) (hz : b + f ≤ sizeLine := by decide) : HE F (tdBin rdAdd ta tb) Γ (dd (tStr (a + c) (b + f))) := he_bin ha hb fun d e Q ⟨x, e1, h0, h1, h2⟩ ⟨y, e2, h3, h4, h5⟩ k => by
  subst e1 e2
  exact ⟨by omega, k _ ⟨x ++ y, rfl, by rw [asc_app, h0, h3]; rfl, by rw [len_append]; omega, by rw [len_append]; omega⟩⟩
theorem he_add_tt {a b c f : Nat} (ha : HE F ta Γ (dd (tTupOf τ a b))) (hb : HE F tb Γ (dd (tTupOf τ c f))) (hz : b + f ≤ sizeLine := by decide) : HE F (tdBin rdAdd ta tb) Γ (dd (tTupOf τ (a + c) (b + f))) := he_bin ha hb fun d e Q ⟨x, e1, h0, h1, h2⟩ ⟨y, e2, h3, h4, h5⟩ k => by
  subst e1 e2
  exact ⟨by omega, k _ ⟨x ++ y, rfl, app_all h0 h3, by rw [List.length_append]; omega, by rw [List.length_append]; omega⟩⟩
theorem he_add_ll {a b c f : Nat} (ha : HE F ta Γ (dd (tLst τ a b))) (hb : HE F tb Γ (dd (tLst τ c f))) (hz : b + f ≤ sizeLine := by decide) : HE F (tdBin rdAdd ta tb) Γ (dd (tLst τ (a + c) (b + f))) := he_bin ha hb fun d e Q ⟨x, e1, h0, h1, h2⟩ ⟨y, e2, h3, h4, h5⟩ k => by
  subst e1 e2
  exact ⟨by omega, k _ ⟨x ++ y, rfl, app_all h0 h3, by rw [List.length_append]; omega, by rw [List.length_append]; omega⟩⟩
theorem All2.append : ∀ {ts us : List T} {ds es : List D}, All2 ts ds → All2 us es → All2 (ts ++ us) (ds ++ es)
  | _, _, _, _, .nil, h => h
  | _, _, _, _, .cons a r, h => .cons a (All2.append r h)
theorem All2.len : ∀ {ts : List T} {ds : List D}, All2 ts ds → ds.length = ts.length
  | _, _, .nil => rfl
  | _, _, .cons a r => by rw [List.length_cons, List.length_cons, All2.len r]
theorem All2.get : ∀ {ts : List T} {ds : List D} {k : Nat} {τ : T}, All2 ts ds → ts[k]? = some τ → ∃ d, ds[k]? = some d ∧ τ d
  | _, _, _, _, .nil, e => by simp at e
  | _, _, 0, _, .cons a r, e => by simp at e; subst e; exact ⟨_, rfl, a⟩
  | _, _, k + 1, _, .cons a r, e => by
    obtain ⟨d, e1, e2⟩ := All2.get (k := k) r (by simpa using e)
    exact ⟨d, by simpa using e1, e2⟩
theorem All2.drop : ∀ {ts : List T} {ds : List D} (k : Nat), All2 ts ds → All2 (ts.drop k) (ds.drop k)
  | _, _, 0, h => h
  | _, _, _ + 1, .nil => .nil
  | _, _, k + 1, .cons _ r => All2.drop k r
theorem All2.take : ∀ {ts : List T} {ds : List D} (k : Nat), All2 ts ds → All2 (ts.take k) (ds.take k)
  | _, _, 0, _ => .nil
  | _, _, _ + 1, .nil => .nil
  | _, _, k + 1, .cons a r => .cons a (All2.take k r)
theorem he_add_xx {ts us : List T} (ha : HE F ta Γ (dd (tTup ts))) (hb : HE F tb Γ (dd (tTup us))) (hz : ts.length + us.length ≤ sizeLine := by decide) : HE F (tdBin rdAdd ta tb) Γ (dd (tTup (ts ++ us))) := he_bin ha hb fun d e Q ⟨x, e1, h1⟩ ⟨y, e2, h2⟩ k => by
  subst e1 e2
  exact ⟨by rw [h1.len, h2.len]; exact hz, k _ ⟨x ++ y, rfl, h1.append h2⟩⟩
theorem he_add_bb {e m b lo e' m' lo' : Nat} (ha : HE F ta Γ (dd (tTupB e m b lo))) (hb : HE F tb Γ (dd (tTupB e' m' b lo'))) (hz : m + m' ≤ 16000000 := by decide) : HE F (tdBin rdAdd ta tb) Γ (dd (tTupB (max e e') (m + m') b (lo + lo'))) := he_bin ha hb fun d f Q ⟨x, e1, h1, h2⟩ ⟨y, e2, h3, h4⟩ k => by
  subst e1 e2
  have l1 := h1.n.tup_len
  have l2 := h3.n.tup_len
  obtain ⟨p1, p2, p3⟩ := h1.parts
  obtain ⟨q1, q2, q3⟩ := h3.parts
  refine ⟨by rw [sizeLine_eq]; omega, k _ ⟨x ++ y, rfl, Bd.tup (fun z hz => ?_) (by rw [massAll_append]; omega) (by omega), by rw [List.length_append]; omega⟩⟩
  rcases List.mem_append.mp hz with q | q
  · exact ⟨(p1 z q).1, by have := (p1 z q).2.1; omega, (p1 z q).2.2⟩
  · exact ⟨(q1 z q).1, by have := (q1 z q).2.1; omega, (q1 z q).2.2⟩
theorem he_mul_l {a b : Nat} {n : Nat} (ha : HE F ta Γ (dd (tLst τ a b))) (hz : b * n ≤ sizeLine := by decide) (hn : n < 1000000 := by decide) : HE F (tdBin rdMul ta (tdC (.int (n : Nat)))) Γ (dd (tLst τ (a * n) (b * n))) := fun env G Q f g k => by
  refine ha env G _ f g fun x G1 hx g1 => ?_
  obtain ⟨d, rfl, ds, rfl, h0, h1, h2⟩ := hx
  have q1 := Nat.mul_le_mul_right n h2
  have q2 := Nat.mul_le_mul_right n h1
  have q3 := Nat.mul_comm n ds.length
  refine ⟨⟨by omega, by omega, by rw [Int.toNat_natCast]; omega⟩, k _ _ ⟨_, rfl, _, rfl, fun z hz => ?_, ?_, ?_⟩ g1⟩
  · rw [Int.toNat_natCast] at hz
    exact h0 z (rep_mem hz)
  · rw [Int.toNat_natCast, rep_len, q3]; exact q2
  · rw [Int.toNat_natCast, rep_len, q3]; exact q1
/-! comparisons -/
theorem shaped_any {e m b : Nat} {d : D} (h : tAny e m b d) (he : e ≤ 60) : SeqAt.shaped d = true := h.n.shaped he
theorem okEq_shaped {d e : D} (h1 : SeqAt.shaped d = true) (h2 : SeqAt.shaped e = true) : okEq d e = true := by
  unfold okEq
  split <;> first | rfl | (rw [h1, h2]; rfl)
theorem he_eq {e m b e' m' b' : Nat} (ha : HE F ta Γ (dd (tAny e m b))) (hb : HE F tb Γ (dd (tAny e' m' b'))) (h1 : e ≤ 60 := by decide) (h2 : e' ≤ 60 := by decide) : HE F (tdBin rdEq ta tb) Γ (dd tBool) := he_bin ha hb fun d f Q p1 p2 k =>
  ⟨okEq_shaped (shaped_any p1 h1) (shaped_any p2 h2), k _ ⟨_, rfl⟩⟩
theorem he_ne {e m b e' m' b' : Nat} (ha : HE F ta Γ (dd (tAny e m b))) (hb : HE F tb Γ (dd (tAny e' m' b'))) (h1 : e ≤ 60 := by decide) (h2 : e' ≤ 60 := by decide) : HE F (tdBin rdNe ta tb) Γ (dd tBool) := he_bin ha hb fun d f Q p1 p2 k =>
  ⟨okEq_shaped (shaped_any p1 h1) (shaped_any p2 h2), k _ ⟨_, rfl⟩⟩
theorem he_eq_ii {a b c f : Int} (ha : HE F ta Γ (dd (tInt a b))) (hb : HE F tb Γ (dd (tInt c f))) : HE F (tdBin rdEq ta tb) Γ (dd tBool) := he_bin ha hb fun d e Q ⟨i, e1, _⟩ ⟨j, e2, _⟩ k => by
  subst e1 e2
  exact ⟨rfl, k _ ⟨_, rfl⟩⟩
theorem he_ne_ii {a b c f : Int} (ha : HE F ta Γ (dd (tInt a b))) (hb : HE F tb Γ (dd (tInt c f))) : HE F (tdBin rdNe ta tb) Γ (dd tBool) := he_bin ha hb fun d e Q ⟨i, e1, _⟩ ⟨j, e2, _⟩ k => by
  subst e1 e2
  exact ⟨rfl, k _ ⟨_, rfl⟩⟩
theorem he_lt_ii {a b c f : Int} (ha : HE F ta Γ (dd (tInt a b))) (hb : HE F tb Γ (dd (tInt c f))) : HE F (tdBin rdLt ta tb) Γ (dd tBool) := he_bin ha hb fun d e Q ⟨i, e1, _⟩ ⟨j, e2, _⟩ k => by subst e1 e2; exact k _ ⟨_, rfl⟩
theorem he_le_ii {a b c f : Int} (ha : HE F ta Γ (dd (tInt a b))) (hb : HE F tb Γ (dd (tInt c f))) : HE F (tdBin rdLe ta tb) Γ (dd tBool) := he_bin ha hb fun d e Q ⟨i, e1, _⟩ ⟨j, e2, _⟩ k => by subst e1 e2; exact k _ ⟨_, rfl⟩
theorem he_gt_ii {a b c f : Int} (ha : HE F ta Γ (dd (tInt a b))) (hb : HE F tb Γ (dd (tInt c f))) : HE F (tdBin rdGt ta tb) Γ (dd tBool) := he_bin ha hb fun d e Q ⟨i, e1, _⟩ ⟨j, e2, _⟩ k => by subst e1 e2; exact k _ ⟨_, rfl⟩
theorem he_ge_ii {a b c f : Int} (ha : HE F ta Γ (dd (tInt a b))) (hb : HE F tb Γ (dd (tInt c f))) : HE F (tdBin rdGe ta tb) Γ (dd tBool) := he_bin ha hb fun d e Q ⟨i, e1, _⟩ ⟨j, e2, _⟩ k => by subst e1 e2; exact k _ ⟨_, rfl⟩
theorem he_lt_ss {a b c f : Nat} (ha : HE F ta Γ (dd (tStr a b))) (hb : HE F tb Γ (dd (tStr c f))) : HE F (tdBin rdLt ta tb) Γ (dd tBool) := he_bin ha hb fun d e Q ⟨i, e1, _⟩ ⟨j, e2, _⟩ k => by subst e1 e2; exact k _ ⟨_, rfl⟩
theorem he_gt_ss {a b c f : Nat} (ha : HE F ta Γ (dd (tStr a b))) (hb : HE F tb Γ (dd (tStr c f))) : HE F (tdBin rdGt ta tb) Γ (dd tBool) := he_bin ha hb fun d e Q ⟨i, e1, _⟩ ⟨j, e2, _⟩ k => by subst e1 e2; exact k _ ⟨_, rfl⟩
theorem he_in_s {neg : Bool} {a b c f : Nat} (ha : HE F ta Γ (dd (tStr a b))) (hb : HE F tb Γ (dd (tLst (tStr c f) 0 n))) : HE F (tdBin (rdInN neg) ta tb) Γ (dd tBool) := he_bin ha hb fun d e Q ⟨i, e1, _⟩ ⟨ds, e2, h, _⟩ k => by
  subst e1 e2
  refine ⟨⟨rfl, ?_⟩, k _ ⟨_, rfl⟩⟩
  rw [List.all_eq_true]
  intro x hx
  obtain ⟨y, rfl, _⟩ := h x hx
  rfl
/-! items -/
theorem atI_ok {α : Type} {ds : List α} {k : Int} (h1 : -(ds.length : Int) ≤ k) (h2 : k < ds.length) : ∃ z, atI ds k = some z ∧ z ∈ ds := by
  by_cases h : 0 ≤ k
  · obtain ⟨j, rfl⟩ : ∃ j : Nat, k = (j : Int) := ⟨k.toNat, by omega⟩
    have hj : j < ds.length := by omega
    exact ⟨ds[j], by rw [atI_natG, List.getElem?_eq_getElem hj], List.getElem_mem hj⟩
  · obtain ⟨j, hj⟩ : ∃ j : Nat, k + (ds.length : Int) = (j : Int) := ⟨(k + ds.length).toNat, by omega⟩
    have hj2 : j < ds.length := by omega
    refine ⟨ds[j], ?_, List.getElem_mem hj2⟩
    unfold atI
    have e : ixN ds.length k = some j := by
      unfold ixN
      first
        | (rw [if_pos (by omega)]; congr 1; omega)
        | (rw [if_neg (by omega), if_pos (by omega)]; congr 1; omega)
        | (simp; omega)
        | (split <;> first | (congr 1; omega) | omega | (split <;> first | (congr 1; omega) | omega))
    rw [e]
    exact List.getElem?_eq_getElem hj2
theorem he_ix_t {a b : Nat} {c f : Int} (ha : HE F ta Γ (dd (tTupOf τ a b))) (hb : HE F tb Γ (dd (tInt c f))) (h1 : -(a : Int) ≤ c := by decide) (h2 : f < (a : Int) := by decide) : HE F (tdBin rdIx ta tb) Γ (dd τ) := he_bin ha hb fun d e Q ⟨ds, e1, h0, l1, l2⟩ ⟨j, e2, h3, h4⟩ k => by
  subst e1 e2
  obtain ⟨z, q1, q2⟩ := atI_ok (ds := ds) (k := j) (by omega) (by omega)
  simp only [rdIx, asI_d, q1]
  exact k z (h0 z q2)
theorem he_ix_l {a b : Nat} {c f : Int} (ha : HE F ta Γ (dd (tLst τ a b))) (hb : HE F tb Γ (dd (tInt c f))) (h1 : -(a : Int) ≤ c := by decide) (h2 : f < (a : Int) := by decide) : HE F (tdBin rdIx ta tb) Γ (dd τ) := he_bin ha hb fun d e Q ⟨ds, e1, h0, l1, l2⟩ ⟨j, e2, h3, h4⟩ k => by
  subst e1 e2
  obtain ⟨z, q1, q2⟩ := atI_ok (ds := ds) (k := j) (by omega) (by omega)
  simp only [rdIx, asI_d, q1]
  exact k z (h0 z q2)
theorem he_ix_s {a b : Nat} {c f : Int} (ha : HE F ta Γ (dd (tStr a b))) (hb : HE F tb Γ (dd (tInt c f))) (h1 : -(a : Int) ≤ c := by decide) (h2 : f < (a : Int) := by decide) (h3 : b ≤ sizeLine := by decide) : HE F (tdBin rdIx ta tb) Γ (dd (tStr 1 1)) := he_bin ha hb fun d e Q ⟨x, e1, h0, l1, l2⟩ ⟨j, e2, h3, h4⟩ k => by
  subst e1 e2
  have hl : x.cps.toList.length = x.length := Array.length_toList
  obtain ⟨z, q1, q2⟩ := atI_ok (ds := x.cps.toList) (k := j) (by omega) (by omega)
  simp only [rdIx, asI_d, q1]
  refine ⟨by omega, k _ ⟨_, rfl, ?_, Nat.le_refl _, Nat.le_refl _⟩⟩
  unfold asc at h0 ⊢
  rw [List.all_eq_true] at h0
  simpa using h0 z q2
theorem he_ix_x {ts : List T} {n : Nat} (ha : HE F ta Γ (dd (tTup ts))) (h : ts[n]? = some τ := by rfl) : HE F (tdBin rdIx ta (tdC (.int (n : Nat)))) Γ (dd τ) := fun env G Q f g k => by
  refine ha env G _ f g fun x G1 hx g1 => ?_
  obtain ⟨d, rfl, ds, rfl, hd⟩ := hx
  obtain ⟨z, q1, q2⟩ := hd.get h
  simp only [tdC, asD_d, rdIx, asI_d, atI_natG, q1]
  exact k _ _ ⟨z, rfl, q2⟩ g1
/-- the last item of an own list, or any that is there -/
theorem he_ownIx {a b : Nat} {c f : Int} {i : Nat} (hb : HE F tb Γ (dd (tInt c f))) (h : Γ[i]? = some (so (ow τ a b)) := by rfl) (h1 : -(a : Int) ≤ c := by decide) (h2 : f < (a : Int) := by decide) : HE F (tdOwnIx i tb) Γ (dd τ) := fun env G Q fi g k => by
  obtain ⟨x, e, xs, rfl, h0, l1, l2⟩ := fi.look h
  unfold tdOwnIx
  rw [e]
  refine hb env G _ fi g fun y G1 hy g1 => ?_
  obtain ⟨d, rfl, j, rfl, h3, h4⟩ := hy
  obtain ⟨z, q1, q2⟩ := atI_ok (ds := xs) (k := j) (by omega) (by omega)
  simp only [asD_d, asI_d, q1]
  exact k _ _ ⟨z, rfl, h0 z q2⟩ g1
/-! slices -/
theorem ho_none : ∀ env G (Q : Option Int → GS → Prop), Q none G → tdNoPart env G Q := fun _ _ _ h => h
theorem ho_some {a b : Int} (h : HE F t Γ (dd (tInt a b))) : HO_ F (tdPart t) Γ a b := fun env G Q f g k => h env G _ f g fun x G1 hx g1 => by
  obtain ⟨d, rfl, i, rfl, h1, h2⟩ := hx
  exact k i G1 h1 h2 g1
theorem sl_run {lo hi : TDO} {r : RSl} {ρ' : T} (ha : HE F ta Γ (dd τ)) {P1 P2 : Option Int → Prop} (hl : ∀ env G (Q : Option Int → GS → Prop), Fits Γ env → F G → (∀ i G', P1 i → F G' → Q i G') → lo env G Q)
    (hh : ∀ env G (Q : Option Int → GS → Prop), Fits Γ env → F G → (∀ i G', P2 i → F G' → Q i G') → hi env G Q) (h : ∀ d i j (Q : D → Prop), τ d → P1 i → P2 j → (∀ z, ρ' z → Q z) → r d i j Q) : HE F (tdSl r ta lo hi) Γ (dd ρ') := fun env G Q f g k => by
  refine ha env G _ f g fun x G1 hx g1 => hl env G1 _ f g1 fun i G2 hi2 g2 => hh env G2 _ f g2 fun j G3 hj g3 => ?_
  obtain ⟨d, rfl, hd⟩ := hx
  exact h d i j _ hd hi2 hj fun z hz => k _ G3 ⟨z, rfl, hz⟩ g3
theorem sl_none : ∀ env G (Q : Option Int → GS → Prop), Fits Γ env → F G → (∀ i G', i = none → F G' → Q i G') → tdNoPart env G Q := fun _ G _ _ g k => k _ G rfl g
theorem sl_some {a b : Int} (h : HE F t Γ (dd (tInt a b))) : ∀ env G (Q : Option Int → GS → Prop), Fits Γ env → F G → (∀ i G', (∃ v, i = some v ∧ a ≤ v ∧ v ≤ b) → F G' → Q i G') → tdPart t env G Q := fun env G Q f g k => h env G _ f g fun x G1 hx g1 => by
  obtain ⟨d, rfl, i, rfl, h1, h2⟩ := hx
  exact k _ G1 ⟨i, rfl, h1, h2⟩ g1
theorem he_sl_lto {a b : Nat} {c f : Int} (ha : HE F ta Γ (dd (tLst τ a b))) (hb : HE F tb Γ (dd (tInt c f))) (h : 0 ≤ c := by decide) : HE F (tdSl rdSl ta tdNoPart (tdPart tb)) Γ (dd (tLst τ (min c.toNat a) (min f.toNat b))) := sl_run ha sl_none (sl_some hb) fun d i j Q ⟨ds, e1, h0, l1, l2⟩ e2 ⟨v, e3, v1, v2⟩ k => by
  subst e1 e2 e3
  exact k _ ⟨_, rfl, fun z hz => h0 z (cut_sub hz), by rw [cut_to _ (by omega), List.length_take]; omega, by rw [cut_to _ (by omega), List.length_take]; omega⟩
theorem he_sl_lfrom {a b : Nat} {c f : Int} (ha : HE F ta Γ (dd (tLst τ a b))) (hb : HE F tb Γ (dd (tInt c f))) (h : 0 ≤ c := by decide) : HE F (tdSl rdSl ta (tdPart tb) tdNoPart) Γ (dd (tLst τ (a - f.toNat) (b - c.toNat))) := sl_run ha (sl_some hb) sl_none fun d i j Q ⟨ds, e1, h0, l1, l2⟩ ⟨v, e3, v1, v2⟩ e2 k => by
  subst e1 e2 e3
  exact k _ ⟨_, rfl, fun z hz => h0 z (cut_sub hz), by rw [cut_at _ (by omega), List.length_drop]; omega, by rw [cut_at _ (by omega), List.length_drop]; omega⟩
theorem he_sl_lft {a b : Nat} {c f c' f' : Int} (ha : HE F ta Γ (dd (tLst τ a b))) (hb : HE F tb Γ (dd (tInt c f))) (hc : HE F tc Γ (dd (tInt c' f'))) : HE F (tdSl rdSl ta (tdPart tb) (tdPart tc)) Γ (dd (tLst τ 0 b)) := sl_run ha (sl_some hb) (sl_some hc) fun d i j Q ⟨ds, e1, h0, l1, l2⟩ ⟨v, e3, v1, v2⟩ ⟨w, e2, w1, w2⟩ k => by
  subst e1 e2 e3
  exact k _ ⟨_, rfl, fun z hz => h0 z (cut_sub hz), by omega, by have := cut_len ds (some v) (some w); omega⟩
theorem he_sl_tto {a b : Nat} {c f : Int} (ha : HE F ta Γ (dd (tTupOf τ a b))) (hb : HE F tb Γ (dd (tInt c f))) (h : 0 ≤ c := by decide) : HE F (tdSl rdSl ta tdNoPart (tdPart tb)) Γ (dd (tTupOf τ (min c.toNat a) (min f.toNat b))) := sl_run ha sl_none (sl_some hb) fun d i j Q ⟨ds, e1, h0, l1, l2⟩ e2 ⟨v, e3, v1, v2⟩ k => by
  subst e1 e2 e3
  exact k _ ⟨_, rfl, fun z hz => h0 z (cut_sub hz), by rw [cut_to _ (by omega), List.length_take]; omega, by rw [cut_to _ (by omega), List.length_take]; omega⟩
theorem he_sl_tfrom {a b : Nat} {c f : Int} (ha : HE F ta Γ (dd (tTupOf τ a b))) (hb : HE F tb Γ (dd (tInt c f))) (h : 0 ≤ c := by decide) : HE F (tdSl rdSl ta (tdPart tb) tdNoPart) Γ (dd (tTupOf τ (a - f.toNat) (b - c.toNat))) := sl_run ha (sl_some hb) sl_none fun d i j Q ⟨ds, e1, h0, l1, l2⟩ ⟨v, e3, v1, v2⟩ e2 k => by
  subst e1 e2 e3
  exact k _ ⟨_, rfl, fun z hz => h0 z (cut_sub hz), by rw [cut_at _ (by omega), List.length_drop]; omega, by rw [cut_at _ (by omega), List.length_drop]; omega⟩
theorem he_sl_tft {a b : Nat} {c f c' f' : Int} (ha : HE F ta Γ (dd (tTupOf τ a b))) (hb : HE F tb Γ (dd (tInt c f))) (hc : HE F tc Γ (dd (tInt c' f'))) : HE F (tdSl rdSl ta (tdPart tb) (tdPart tc)) Γ (dd (tTupOf τ 0 b)) := sl_run ha (sl_some hb) (sl_some hc) fun d i j Q ⟨ds, e1, h0, l1, l2⟩ ⟨v, e3, v1, v2⟩ ⟨w, e2, w1, w2⟩ k => by
  subst e1 e2 e3
  exact k _ ⟨_, rfl, fun z hz => h0 z (cut_sub hz), by omega, by have := cut_len ds (some v) (some w); omega⟩
theorem massAll_cut (ds : List D) (lo hi : Option Int) : massAll (cutL ds lo hi) ≤ massAll ds := by
  unfold cutL
  exact Nat.le_trans (massAll_take _ _) (massAll_drop _ _)
theorem bd_cut {e m b : Nat} {ds : List D} (h : Bd e m b (.tuple ds)) (lo hi : Option Int) : Bd e m b (.tuple (cutL ds lo hi)) := by
  obtain ⟨p1, p2, p3⟩ := h.parts
  have := massAll_cut ds lo hi
  exact Bd.tup (fun d hd => p1 d (cut_sub hd)) (by omega) p3
theorem he_sl_b {lo hi : TDO} {e m b l : Nat} (ha : HE F ta Γ (dd (tTupB e m b l))) {P1 P2 : Option Int → Prop} (hl : ∀ env G (Q : Option Int → GS → Prop), Fits Γ env → F G → (∀ i G', P1 i → F G' → Q i G') → lo env G Q)
    (hh : ∀ env G (Q : Option Int → GS → Prop), Fits Γ env → F G → (∀ i G', P2 i → F G' → Q i G') → hi env G Q) : HE F (tdSl rdSl ta lo hi) Γ (dd (tTupB e m b 0)) := sl_run ha hl hh fun d i j Q ⟨ds, e1, h0, l1⟩ _ _ k => by
  subst e1
  exact k _ ⟨_, rfl, bd_cut h0 _ _, by omega⟩
theorem he_sl_xfrom {ts : List T} {n : Nat} (ha : HE F ta Γ (dd (tTup ts))) : HE F (tdSl rdSl ta (tdPart (tdC (.int (n : Nat)))) tdNoPart) Γ (dd (tTup (ts.drop n))) := sl_run ha (sl_some (a := (n : Int)) (b := (n : Int)) he_cint) sl_none fun d i j Q ⟨ds, e1, h0⟩ ⟨v, e3, v1, v2⟩ e2 k => by
  subst e1 e2 e3
  have hv : v = (n : Int) := by omega
  subst hv
  refine k _ ⟨_, rfl, ?_⟩
  rw [cut_at _ (by omega), Int.toNat_natCast]
  exact h0.drop n
theorem he_sl_xto {ts : List T} {n : Nat} (ha : HE F ta Γ (dd (tTup ts))) : HE F (tdSl rdSl ta tdNoPart (tdPart (tdC (.int (n : Nat))))) Γ (dd (tTup (ts.take n))) := sl_run ha sl_none (sl_some (a := (n : Int)) (b := (n : Int)) he_cint) fun d i j Q ⟨ds, e1, h0⟩ e2 ⟨v, e3, v1, v2⟩ k => by
  subst e1 e2 e3
  have hv : v = (n : Int) := by omega
  subst hv
  refine k _ ⟨_, rfl, ?_⟩
  rw [cut_to _ (by omega), Int.toNat_natCast]
  exact h0.take n
theorem cutS_ok {x : Str} (h : asc x = true) (lo hi : Option Int) : (cutS x lo hi).length ≤ x.length ∧ asc (cutS x lo hi) = true := by
  unfold cutS asc
  refine ⟨?_, ?_⟩
  · show (List.toArray _).size ≤ _
    rw [List.size_toArray, List.length_take, List.length_drop, Array.length_toList]
    show min _ (x.length - _) ≤ x.length
    omega
  · rw [List.all_eq_true]
    intro c hc
    unfold asc at h
    rw [List.all_eq_true] at h
    exact h c (List.mem_of_mem_drop (List.mem_of_mem_take hc))
theorem he_sl_s {lo hi : TDO} {a b : Nat} (ha : HE F ta Γ (dd (tStr a b))) {P1 P2 : Option Int → Prop} (hl : ∀ env G (Q : Option Int → GS → Prop), Fits Γ env → F G → (∀ i G', P1 i → F G' → Q i G') → lo env G Q)
    (hh : ∀ env G (Q : Option Int → GS → Prop), Fits Γ env → F G → (∀ i G', P2 i → F G' → Q i G') → hi env G Q) (hz : b ≤ sizeLine := by decide) : HE F (tdSl rdSl ta lo hi) Γ (dd (tStr 0 b)) := sl_run ha hl hh fun d i j Q ⟨x, e1, h0, l1, l2⟩ _ _ k => by
  subst e1
  obtain ⟨c1, c2⟩ := cutS_ok h0 i j
  exact ⟨by omega, k _ ⟨_, rfl, c2, by omega, by omega⟩⟩
theorem he_back {r : T} (ha : HE F ta Γ (dd τ)) (h : ∀ d, τ d → (∃ ds, d = .list ds ∧ r (.list ds.reverse)) ∨ ∃ ds, d = .tuple ds ∧ r (.tuple ds.reverse)) : HE F (tdBack ta) Γ (dd r) := fun env G Q f g k => ha env G _ f g fun x G1 hx g1 => by
  obtain ⟨d, rfl, hd⟩ := hx
  rcases h d hd with ⟨ds, rfl, q⟩ | ⟨ds, rfl, q⟩
  · exact k _ G1 ⟨_, rfl, q⟩ g1
  · exact k _ G1 ⟨_, rfl, q⟩ g1
theorem he_back_t {a b : Nat} (ha : HE F ta Γ (dd (tTupOf τ a b))) : HE F (tdBack ta) Γ (dd (tTupOf τ a b)) := he_back ha fun d ⟨ds, e, h, l1, l2⟩ => .inr ⟨ds, e, _, rfl, fun z hz => h z (List.mem_reverse.mp hz), by rw [List.length_reverse]; omega, by rw [List.length_reverse]; omega⟩
theorem he_back_l {a b : Nat} (ha : HE F ta Γ (dd (tLst τ a b))) : HE F (tdBack ta) Γ (dd (tLst τ a b)) := he_back ha fun d ⟨ds, e, h, l1, l2⟩ => .inl ⟨ds, e, _, rfl, fun z hz => h z (List.mem_reverse.mp hz), by rw [List.length_reverse]; omega, by rw [List.length_reverse]; omega⟩
theorem he_back_b {e m b lo : Nat} (ha : HE F ta Γ (dd (tTupB e m b lo))) : HE F (tdBack ta) Γ (dd (tTupB e m b lo)) := he_back ha fun d ⟨ds, e1, h, l⟩ => .inr ⟨ds, e1, _, rfl, by
  subst e1
  obtain ⟨p1, p2, p3⟩ := h.parts
  exact Bd.tup (fun d hd => p1 d (List.mem_reverse.mp hd)) (by rw [massAll_reverse]; omega) p3, by rw [List.length_reverse]; omega⟩
/-! displays and calls -/
variable {tr : TDA} {ps : List VP}
theorem ha_nil : HA F tdNil Γ [] := fun env G Q f g k => k [] G .nil g
theorem ha_cons (h : HE F t Γ p) (r : HA F tr Γ ps) : HA F (tdCons t tr) Γ (p :: ps) := fun env G Q f g k => h env G _ f g fun x G1 hx g1 => r env G1 _ f g1 fun xs G2 hxs g2 => k _ G2 (.cons hx hxs) g2
theorem allD_of : ∀ {ts : List T} {xs : List SV}, AllP (ts.map dd) xs → ∃ ds, allD xs = some ds ∧ All2 ts ds
  | [], _, h => by
    cases h
    exact ⟨[], rfl, .nil⟩
  | τ :: ts, _, h => by
    cases h with
    | cons h1 h2 =>
      obtain ⟨d, rfl, hd⟩ := h1
      obtain ⟨ds, e, hs⟩ := allD_of h2
      exact ⟨d :: ds, by unfold allD; rw [e]; rfl, .cons hd hs⟩
theorem asAll_of {ts : List T} {xs : List SV} {k : List D → Prop} (h : AllP (ts.map dd) xs) (q : ∀ ds, All2 ts ds → k ds) : asAll xs k := by
  obtain ⟨ds, e, hs⟩ := allD_of h
  unfold asAll
  rw [e]
  exact q ds hs
theorem he_tup {ts : List T} (h : HA F tr Γ (ts.map dd)) (hz : ts.length ≤ sizeLine := by decide) : HE F (tdTup tr) Γ (dd (tTup ts)) := fun env G Q f g k => h env G _ f g fun xs G1 hx g1 => asAll_of hx fun ds hs => ⟨by rw [hs.len]; exact hz, k _ G1 ⟨_, rfl, ds, rfl, hs⟩ g1⟩
theorem he_lst {ts : List T} {n : Nat} (h : HA F tr Γ (ts.map dd)) (s : TS ts τ n) (hz : ts.length ≤ sizeLine := by decide) : HE F (tdLst tr) Γ (dd (tLst τ n n)) := fun env G Q f g k => h env G _ f g fun xs G1 hx g1 => asAll_of hx fun ds hs => ⟨by rw [hs.len]; exact hz, k _ G1 ⟨_, rfl, ds, rfl, (s ds hs).1, by have := (s ds hs).2; omega, by have := (s ds hs).2; omega⟩ g1⟩
theorem he_call1 {r : RDL} {ρ' : T} (h : HE F t Γ (dd τ)) (q : ∀ d (Q : D → Prop), τ d → (∀ z, ρ' z → Q z) → r [d] Q) : HE F (tdCall r (tdCons t tdNil)) Γ (dd ρ') := fun env G Q f g k => h env G _ f g fun x G1 hx g1 => by
  obtain ⟨d, rfl, hd⟩ := hx
  exact q d _ hd fun z hz => k _ G1 ⟨z, rfl, hz⟩ g1
theorem he_len_t {a b : Nat} (h : HE F t Γ (dd (tTupOf τ a b))) : HE F (tdCall rdLen (tdCons t tdNil)) Γ (dd (tInt a b)) := he_call1 h fun d Q ⟨ds, e, h0, l1, l2⟩ k => by
  subst e
  exact k _ ⟨_, rfl, by omega, by omega⟩
theorem he_len_l {a b : Nat} (h : HE F t Γ (dd (tLst τ a b))) : HE F (tdCall rdLen (tdCons t tdNil)) Γ (dd (tInt a b)) := he_call1 h fun d Q ⟨ds, e, h0, l1, l2⟩ k => by
  subst e
  exact k _ ⟨_, rfl, by omega, by omega⟩
theorem he_len_s {a b : Nat} (h : HE F t Γ (dd (tStr a b))) (hz : b ≤ sizeLine := by decide) : HE F (tdCall rdLen (tdCons t tdNil)) Γ (dd (tInt a b)) := he_call1 h fun d Q ⟨ds, e, h0, l1, l2⟩ k => by
  subst e
  exact ⟨by omega, k _ ⟨_, rfl, by omega, by omega⟩⟩
theorem he_len_x {ts : List T} (h : HE F t Γ (dd (tTup ts))) : HE F (tdCall rdLen (tdCons t tdNil)) Γ (dd (tInt ts.length ts.length)) := he_call1 h fun d Q ⟨ds, e, h0⟩ k => by
  subst e
  exact k _ ⟨_, rfl, by rw [h0.len]; omega, by rw [h0.len]; omega⟩
theorem he_lenO {a b : Nat} {i : Nat} (h : Γ[i]? = some (so (ow τ a b)) := by rfl) : HE F (tdCallO i rdLen) Γ (dd (tInt a b)) := fun env G Q f g k => by
  obtain ⟨x, e, xs, rfl, h0, l1, l2⟩ := f.look h
  unfold tdCallO
  rw [e]
  exact ⟨rfl, k _ G ⟨_, rfl, _, rfl, by omega, by omega⟩ g⟩
theorem he_int_i {a b : Int} (h : HE F t Γ (dd (tInt a b))) : HE F (tdCall rdInt (tdCons t tdNil)) Γ (dd (tInt a b)) := he_call1 h fun d Q ⟨i, e, q⟩ k => by
  subst e
  exact k _ ⟨i, rfl, q⟩
theorem he_int_b (h : HE F t Γ (dd tBool)) : HE F (tdCall rdInt (tdCons t tdNil)) Γ (dd (tInt 0 1)) := he_call1 h fun d Q ⟨i, e⟩ k => by
  subst e
  exact k _ ⟨_, rfl, by cases i <;> decide, by cases i <;> decide⟩
theorem he_str_i {n : Nat} {a b : Int} (h : HE F t Γ (dd (tInt a b))) (h1 : -(2 ^ n) < a := by decide) (h2 : b < 2 ^ n := by decide) (h0 : 0 < n := by decide) (hn : n ≤ 1900 := by decide) : HE F (tdCall rdStr (tdCons t tdNil)) Γ (dd (tStr 0 (n + 2))) := he_call1 h fun d Q ⟨i, e, q1, q2⟩ k => by
  subst e
  have z := s_int_any (e := 0) (m := n + 2) (b := n) n h1 h2 h0 (Nat.le_refl _) hn (Nat.le_refl _) _ ⟨i, rfl, q1, q2⟩
  have ms := z.n.ms
  rw [mass] at ms
  obtain ⟨t1, t2⟩ := int_text i
  exact ⟨by omega, k _ ⟨_, rfl, t2, by omega, by omega⟩⟩
theorem he_list_t {a b : Nat} (h : HE F t Γ (dd (tTupOf τ a b))) : HE F (tdCall rdList (tdCons t tdNil)) Γ (dd (tLst τ a b)) := he_call1 h fun d Q ⟨ds, e, q⟩ k => by
  subst e
  exact k _ ⟨_, rfl, q⟩
theorem he_list_l {a b : Nat} (h : HE F t Γ (dd (tLst τ a b))) : HE F (tdCall rdList (tdCons t tdNil)) Γ (dd (tLst τ a b)) := he_call1 h fun d Q ⟨ds, e, q⟩ k => by
  subst e
  exact k _ ⟨_, rfl, q⟩
theorem he_list_b {e m b lo : Nat} (h : HE F t Γ (dd (tTupB e m b lo))) : HE F (tdCall rdList (tdCons t tdNil)) Γ (dd (tAny e m b)) := he_call1 h fun d Q ⟨ds, e1, q, _⟩ k => by
  subst e1
  obtain ⟨p1, p2, p3⟩ := q.parts
  exact k _ (Bd.lst p1 p2 p3)
theorem he_tuple_l {a b : Nat} (h : HE F t Γ (dd (tLst τ a b))) : HE F (tdCall rdTuple (tdCons t tdNil)) Γ (dd (tTupOf τ a b)) := he_call1 h fun d Q ⟨ds, e, q⟩ k => by
  subst e
  exact k _ ⟨_, rfl, q⟩
theorem he_tuple_t {a b : Nat} (h : HE F t Γ (dd (tTupOf τ a b))) : HE F (tdCall rdTuple (tdCons t tdNil)) Γ (dd (tTupOf τ a b)) := he_call1 h fun d Q ⟨ds, e, q⟩ k => by
  subst e
  exact k _ ⟨_, rfl, q⟩
theorem strs_list {a b : Nat} : ∀ {ds : List D}, (∀ x ∈ ds, tStr a b x) → ∃ ts : List Str, ds = ts.map .str
  | [], _ => ⟨[], rfl⟩
  | d :: ds, h => by
    obtain ⟨x, rfl, _⟩ := h d (by simp)
    obtain ⟨ts, rfl⟩ := strs_list (ds := ds) fun y hy => h y (by simp [hy])
    exact ⟨x :: ts, rfl⟩
theorem he_sorted_s {a b c f : Nat} (h : HE F t Γ (dd (tLst (tStr a b) c f))) (hz : f ≤ sizeLine := by decide) : HE F (tdCall rdSorted (tdCons t tdNil)) Γ (dd (tLst (tStr a b) c f)) := he_call1 h fun d Q ⟨ds, e, h0, l1, l2⟩ k => by
  subst e
  have pm := sortD_perm ds
  have hl := pm.length_eq
  obtain ⟨ts, rfl⟩ := strs_list h0
  rw [List.length_map] at l2
  exact ⟨strs_sort ts (by omega), k _ ⟨_, rfl, fun z hz => h0 z (pm.mem_iff.mp hz), by omega, by rw [hl, List.length_map]; omega⟩⟩
/-- the law's draw and pick -/
def Draws (F : GS → Prop) (ct : CT) : Prop := ∀ (many : Int) (G : GS) (Q : SV → GS → Prop), 0 < many → many < 1000000 → F G → (∀ k G', 0 ≤ k → k < many → F G' → Q (.d (.int k)) G') → ct [.g 0, .d (.int many)] G Q
def Picks (F : GS → Prop) (ct : CT) : Prop := ∀ (ds : List D) (G : GS) (Q : SV → GS → Prop), 0 < ds.length → ds.length < 1000000 → F G → (∀ x G', x ∈ ds → F G' → Q (.d x) G') → ct [.g 0, .d (.list ds)] G Q
theorem he_draw {c : CT} {a b : Int} (hc : Draws F c) (hf : HE F t Γ gg) (h : HE F u Γ (dd (tInt a b))) (h1 : 0 < a := by decide) (h2 : b < 1000000 := by decide) : HE F (tdFn c (tdCons t (tdCons u tdNil))) Γ (dd (tInt 0 (b - 1))) := fun env G Q f g k =>
  hf env G _ f g fun x G1 hx g1 => h env G1 _ f g1 fun y G2 hy g2 => by
    have hx : x = .g 0 := hx
    subst hx
    obtain ⟨d, rfl, i, rfl, q1, q2⟩ := hy
    exact hc i G2 _ (by omega) (by omega) g2 fun k' G' k0 k1 g3 => k _ G' ⟨_, rfl, k', rfl, k0, by omega⟩ g3
theorem he_pick {c : CT} {a b : Nat} (hc : Picks F c) (hf : HE F t Γ gg) (h : HE F u Γ (dd (tLst τ a b))) (h1 : 0 < a := by decide) (h2 : b < 1000000 := by decide) : HE F (tdFn c (tdCons t (tdCons u tdNil))) Γ (dd τ) := fun env G Q f g k =>
  hf env G _ f g fun x G1 hx g1 => h env G1 _ f g1 fun y G2 hy g2 => by
    have hx : x = .g 0 := hx
    subst hx
    obtain ⟨d, rfl, ds, rfl, q0, q1, q2⟩ := hy
    exact hc ds G2 _ (by omega) (by omega) g2 fun z G' hz g3 => k _ G' ⟨z, rfl, q0 z hz⟩ g3
/-- the promise of a def by types -/
def tyCT (F : GS → Prop) (ps : List VP) (ρ : VP) : CT := fun xs G Q => AllP ps xs ∧ F G ∧ ∀ x G', ρ x → F G' → Q x G'
theorem he_fn (h : HA F tr Γ ps) : HE F (tdFn (tyCT F ps ρ) tr) Γ ρ := fun env G Q f g k => h env G _ f g fun xs G1 hx g1 => ⟨hx, g1, k⟩
/-- any promise that such arguments keep -/
theorem he_fnC {c : CT} (h : HA F tr Γ ps) (hc : ∀ xs G (Q : SV → GS → Prop), AllP ps xs → F G → (∀ x G', ρ x → F G' → Q x G') → c xs G Q) : HE F (tdFn c tr) Γ ρ := fun env G Q f g k => h env G _ f g fun xs G1 hx g1 => hc xs G1 Q hx g1 k
/-! tests -/
variable {tt t2 : TDT}
theorem ht_bool (h : HE F t Γ (dd tBool)) : HT F (tdTest t) Γ Γ Γ := fun env G Q f g k1 k2 => h env G _ f g fun x G1 hx g1 => by
  obtain ⟨d, rfl, b, rfl⟩ := hx
  cases b with
  | true => exact k1 G1 g1 f
  | false => exact k2 G1 g1 f
theorem ht_not (h : HT F tt Γ Γt Γf) : HT F (tdNotT tt) Γ Γf Γt := fun env G Q f g k1 k2 => h env G _ f g k2 k1
theorem ht_and {Γ3 : Ctx} (h : HT F tt Γ Γ1 Γ2) (h2 : HT F t2 Γ1 Γt Γ3) (l1 : Le Γ2 Γf) (l2 : Le Γ3 Γf) : HT F (tdAndT tt t2) Γ Γt Γf := fun env G Q f g k1 k2 => h env G _ f g (fun G1 g1 f1 => h2 env G1 _ f1 g1 k1 fun G2 g2 f2 => k2 G2 g2 (l2 env f2)) fun G1 g1 f1 => k2 G1 g1 (l1 env f1)
theorem ht_or {Γ3 : Ctx} (h : HT F tt Γ Γ2 Γ1) (h2 : HT F t2 Γ1 Γ3 Γf) (l1 : Le Γ2 Γt) (l2 : Le Γ3 Γt) : HT F (tdOrT tt t2) Γ Γt Γf := fun env G Q f g k1 k2 => h env G _ f g (fun G1 g1 f1 => k1 G1 g1 (l1 env f1)) fun G1 g1 f1 => h2 env G1 _ f1 g1 (fun G2 g2 f2 => k1 G2 g2 (l2 env f2)) k2
theorem ht_le {Γ3 Γ4 : Ctx} (h : HT F tt Γ Γt Γf) (l1 : Le Γt Γ3) (l2 : Le Γf Γ4) : HT F tt Γ Γ3 Γ4 := fun env G Q f g k1 k2 => h env G _ f g (fun G1 g1 f1 => k1 G1 g1 (l1 env f1)) fun G1 g1 f1 => k2 G1 g1 (l2 env f1)
theorem Fits.re {env : DEnv} {i : Nat} {p : VP} {x : SV} (f : Fits Γ env) (e : DL.look env i = some x) (q : p x) : Fits (Γ.set i (so p)) env := by
  have h := f.put i (x := x) q
  rwa [show env.set i (some x) = env from ?_] at h
  have e' := look_some e
  obtain ⟨hi, e2⟩ := List.getElem?_eq_some_iff.mp e'
  rw [← e2]
  exact List.set_getElem_self hi
/-- x == [] of an own list -/
theorem ht_eqO {a b : Nat} {i : Nat} (hs : ∀ d, τ d → tAny e m bb d) (h : Γ[i]? = some (so (ow τ a b)) := by rfl) (he : e ≤ 58 := by decide) : HT F (tdTest (tdBinO i rdEq (tdC (.list [])))) Γ Γ (Γ.set i (so (ow τ (max a 1) b))) := fun env G Q f g k1 k2 => by
  obtain ⟨x, e1, xs, rfl, h0, l1, l2⟩ := f.look h
  unfold tdTest tdBinO
  rw [e1]
  refine ⟨okEq_lists (shaped_list fun d hd => ?_) (shaped_list (by simp)), rfl, ?_⟩
  · have z := hs d (h0 d hd)
    exact ⟨z.n.pl, by have := z.n.dp; omega⟩
  · rw [eqv_nilL]
    cases q : xs.isEmpty with
    | true => exact k1 G g f
    | false =>
      have : 0 < xs.length := by
        cases xs with
        | nil => cases q
        | cons _ _ => simp
      exact k2 G g (f.re e1 ⟨xs, rfl, h0, by omega, l2⟩)
theorem ht_neO {a b : Nat} {i : Nat} (hs : ∀ d, τ d → tAny e m bb d) (h : Γ[i]? = some (so (ow τ a b)) := by rfl) (he : e ≤ 58 := by decide) : HT F (tdTest (tdBinO i rdNe (tdC (.list [])))) Γ (Γ.set i (so (ow τ (max a 1) b))) Γ := fun env G Q f g k1 k2 => by
  obtain ⟨x, e1, xs, rfl, h0, l1, l2⟩ := f.look h
  unfold tdTest tdBinO
  rw [e1]
  refine ⟨okEq_lists (shaped_list fun d hd => ?_) (shaped_list (by simp)), rfl, ?_⟩
  · have z := hs d (h0 d hd)
    exact ⟨z.n.pl, by have := z.n.dp; omega⟩
  · rw [eqv_nilL]
    cases q : xs.isEmpty with
    | true => exact k2 G g f
    | false =>
      have : 0 < xs.length := by
        cases xs with
        | nil => cases q
        | cons _ _ => simp
      exact k1 G g (f.re e1 ⟨xs, rfl, h0, by omega, l2⟩)
/-- x == [], x != [] of a list in a slot -/
theorem ht_eqL {a b : Nat} {i : Nat} (hs : ∀ d, τ d → tAny e m bb d) (h : Γ[i]? = some (so (dd (tLst τ a b))) := by rfl) (he : e ≤ 58 := by decide) : HT F (tdTest (tdBin rdEq (tdVar i) (tdC (.list [])))) Γ Γ (Γ.set i (so (dd (tLst τ (max a 1) b)))) := fun env G Q f g k1 k2 => by
  obtain ⟨x, e1, d, rfl, xs, rfl, h0, l1, l2⟩ := f.look h
  unfold tdTest tdBin tdVar tdC
  rw [e1]
  refine ⟨okEq_lists (shaped_list fun d hd => ?_) (shaped_list (by simp)), ?_⟩
  · have z := hs d (h0 d hd)
    exact ⟨z.n.pl, by have := z.n.dp; omega⟩
  · rw [eqv_nilL]
    cases q : xs.isEmpty with
    | true => exact k1 G g f
    | false =>
      have : 0 < xs.length := by
        cases xs with
        | nil => cases q
        | cons _ _ => simp
      exact k2 G g (f.re e1 ⟨_, rfl, xs, rfl, h0, by omega, l2⟩)
theorem ht_neL {a b : Nat} {i : Nat} (hs : ∀ d, τ d → tAny e m bb d) (h : Γ[i]? = some (so (dd (tLst τ a b))) := by rfl) (he : e ≤ 58 := by decide) : HT F (tdTest (tdBin rdNe (tdVar i) (tdC (.list [])))) Γ (Γ.set i (so (dd (tLst τ (max a 1) b)))) Γ := fun env G Q f g k1 k2 => by
  obtain ⟨x, e1, d, rfl, xs, rfl, h0, l1, l2⟩ := f.look h
  unfold tdTest tdBin tdVar tdC
  rw [e1]
  refine ⟨okEq_lists (shaped_list fun d hd => ?_) (shaped_list (by simp)), ?_⟩
  · have z := hs d (h0 d hd)
    exact ⟨z.n.pl, by have := z.n.dp; omega⟩
  · rw [eqv_nilL]
    cases q : xs.isEmpty with
    | true => exact k2 G g f
    | false =>
      have : 0 < xs.length := by
        cases xs with
        | nil => cases q
        | cons _ _ => simp
      exact k1 G g (f.re e1 ⟨_, rfl, xs, rfl, h0, by omega, l2⟩)
/-- a if c else b; and, or, not as values -/
theorem he_if (h : HT F tt Γ Γt Γf) (ha : HE F ta Γt p) (hb : HE F tb Γf p) : HE F (tdIf tt ta tb) Γ p := fun env G Q f g k => h env G _ f g (fun G1 g1 f1 => ha env G1 _ f1 g1 k) fun G1 g1 f1 => hb env G1 _ f1 g1 k
theorem he_not (h : HE F t Γ (dd tBool)) : HE F (tdNotV t) Γ (dd tBool) := fun env G Q f g k => h env G _ f g fun x G1 hx g1 => by
  obtain ⟨d, rfl, b, rfl⟩ := hx
  exact k _ G1 ⟨_, rfl, _, rfl⟩ g1
theorem he_and (h : HE F t Γ (dd tBool)) (h2 : HE F u Γ (dd tBool)) : HE F (tdAndV t u) Γ (dd tBool) := fun env G Q f g k => h env G _ f g fun x G1 hx g1 => by
  obtain ⟨d, rfl, b, rfl⟩ := hx
  cases b with
  | true => exact h2 env G1 _ f g1 k
  | false => exact k _ G1 ⟨_, rfl, _, rfl⟩ g1
theorem he_or (h : HE F t Γ (dd tBool)) (h2 : HE F u Γ (dd tBool)) : HE F (tdOrV t u) Γ (dd tBool) := fun env G Q f g k => h env G _ f g fun x G1 hx g1 => by
  obtain ⟨d, rfl, b, rfl⟩ := hx
  cases b with
  | false => exact h2 env G1 _ f g1 k
  | true => exact k _ G1 ⟨_, rfl, _, rfl⟩ g1
/-! walks -/
variable {tf : TDF} {ti : TDI} {g : TDG}
theorem hi_lst {a b : Nat} (h : HE F t Γ (dd (tLst τ a b))) : HI F (tdItems t) Γ τ a b := fun env G Q f g k => h env G _ f g fun x G1 hx g1 => by
  obtain ⟨d, rfl, ds, rfl, q, l1, l2⟩ := hx
  exact k ds G1 q l1 l2 g1
theorem hi_tup {a b : Nat} (h : HE F t Γ (dd (tTupOf τ a b))) : HI F (tdItems t) Γ τ a b := fun env G Q f g k => h env G _ f g fun x G1 hx g1 => by
  obtain ⟨d, rfl, ds, rfl, q, l1, l2⟩ := hx
  exact k ds G1 q l1 l2 g1
theorem hi_str {a b : Nat} (h : HE F t Γ (dd (tStr a b))) : HI F (tdItems t) Γ (tStr 1 1) a b := fun env G Q f g k => h env G _ f g fun x G1 hx g1 => by
  obtain ⟨d, rfl, z, rfl, q, l1, l2⟩ := hx
  have hl : z.cps.toList.length = z.length := Array.length_toList
  refine k _ G1 (fun y hy => ?_) (by rw [List.length_map]; omega) (by rw [List.length_map]; omega) g1
  obtain ⟨c, hc, rfl⟩ := List.mem_map.mp hy
  unfold asc at q
  rw [List.all_eq_true] at q
  refine ⟨_, rfl, ?_, Nat.le_refl _, Nat.le_refl _⟩
  unfold asc
  simpa using q c hc
theorem hi_range {a b : Int} {n : Nat} (h : HE F t Γ (dd (tInt a b))) (h1 : -1000000 ≤ a := by decide) (h2 : b ≤ (n : Int) := by decide) (h3 : n ≤ 1000000 := by decide) : HI F (tdRange t) Γ (tInt 0 ((n : Int) - 1)) a.toNat n := fun env G Q f g k => h env G _ f g fun x G1 hx g1 => by
  obtain ⟨d, rfl, i, rfl, q1, q2⟩ := hx
  refine ⟨by omega, k _ G1 (fun y hy => ?_) (by rw [List.length_map, List.length_range]; omega) (by rw [List.length_map, List.length_range]; omega) g1⟩
  obtain ⟨c, hc, rfl⟩ := List.mem_map.mp hy
  have := List.mem_range.mp hc
  exact ⟨_, rfl, by omega, by omega⟩
theorem hi_range2 {a b c f : Int} {n : Nat} (h : HE F t Γ (dd (tInt a b))) (h' : HE F u Γ (dd (tInt c f))) (h1 : -1000000 ≤ a := by decide) (h2 : b ≤ 1000000 := by decide) (h3 : -1000000 ≤ c := by decide) (h4 : f ≤ 1000000 := by decide) (h5 : f - a ≤ (n : Int) := by decide) : HI F (tdRange2 t u) Γ (tInt a (f - 1)) 0 n := fun env G Q fi g k => h env G _ fi g fun x G1 hx g1 => h' env G1 _ fi g1 fun y G2 hy g2 => by
  obtain ⟨d, rfl, i, rfl, q1, q2⟩ := hx
  obtain ⟨e, rfl, j, rfl, q3, q4⟩ := hy
  refine ⟨by omega, k _ G2 (fun y hy => ?_) (by omega) (by rw [List.length_map, List.length_range]; omega) g2⟩
  obtain ⟨c, hc, rfl⟩ := List.mem_map.mp hy
  have := List.mem_range.mp hc
  exact ⟨_, rfl, by omega, by omega⟩
theorem hi_enum_l {a b : Nat} (h : HE F t Γ (dd (tLst τ a b))) : HI F (tdEnum t) Γ (tTup [tInt 0 ((b : Int) - 1), τ]) a b := fun env G Q f g k => h env G _ f g fun x G1 hx g1 => by
  obtain ⟨d, rfl, ds, rfl, q, l1, l2⟩ := hx
  refine k _ G1 (fun y hy => ?_) (by rw [enumD_len]; omega) (by rw [enumD_len]; omega) g1
  obtain ⟨i, hi, e⟩ := List.mem_iff_getElem.mp hy
  have e2 := enumD_get 0 ds i
  rw [List.getElem?_eq_getElem hi, e] at e2
  rw [enumD_len] at hi
  rw [List.getElem?_eq_getElem hi] at e2
  have e3 : y = .tuple [.int ((0 + i : Nat) : Int), ds[i]] := Option.some.inj e2
  exact ⟨_, e3, .cons ⟨_, rfl, by omega, by omega⟩ (.cons (q _ (List.getElem_mem hi)) .nil)⟩
theorem hi_enum_t {a b : Nat} (h : HE F t Γ (dd (tTupOf τ a b))) : HI F (tdEnum t) Γ (tTup [tInt 0 ((b : Int) - 1), τ]) a b := fun env G Q f g k => h env G _ f g fun x G1 hx g1 => by
  obtain ⟨d, rfl, ds, rfl, q, l1, l2⟩ := hx
  refine k _ G1 (fun y hy => ?_) (by rw [enumD_len]; omega) (by rw [enumD_len]; omega) g1
  obtain ⟨i, hi, e⟩ := List.mem_iff_getElem.mp hy
  have e2 := enumD_get 0 ds i
  rw [List.getElem?_eq_getElem hi, e] at e2
  rw [enumD_len] at hi
  rw [List.getElem?_eq_getElem hi] at e2
  have e3 : y = .tuple [.int ((0 + i : Nat) : Int), ds[i]] := Option.some.inj e2
  exact ⟨_, e3, .cons ⟨_, rfl, by omega, by omega⟩ (.cons (q _ (List.getElem_mem hi)) .nil)⟩
theorem hg_name {i : Nat} : HG (gdName i) τ Γ (Γ.set i (so (dd τ))) := fun d env Q h f k => k _ (f.put i ⟨d, rfl, h⟩)
theorem hgs_nil : HGs gdNil [] Γ Γ := fun ds env Q h f k => by
  cases h
  exact k _ f
theorem hgs_cons {gs : TDGs} {ts : List T} (h : HG g τ Γ Γ1) (r : HGs gs ts Γ1 Γ2) : HGs (gdCons g gs) (τ :: ts) Γ Γ2 := fun ds env Q q f k => by
  cases q with
  | cons q1 q2 => exact h _ env _ q1 f fun env1 f1 => r _ env1 _ q2 f1 k
theorem hg_tup {gs : TDGs} {ts : List T} {n : Nat} (h : HGs gs ts Γ Γ1) (hn : ts.length = n := by rfl) : HG (gdTup n gs) (tTup ts) Γ Γ1 := fun d env Q ⟨ds, e, q⟩ f k => by
  subst e
  have := q.len
  unfold gdTup
  first
    | exact ⟨by omega, h ds env Q q f k⟩
    | (show _ ∧ _; exact ⟨by omega, h ds env Q q f k⟩)
    | (simp only [asD_d]; exact ⟨by omega, h ds env Q q f k⟩)
theorem lcl_run {tt : TDT} {te : TDE} {Γ0 Γ1 Γ2 Γ3 : Ctx} {env0 : DEnv} (hg : HG g τ Γ0 Γ1) (ht : HT F tt Γ1 Γ2 Γ3) (he : HE F te Γ2 (dd σ)) (f0 : Fits Γ0 env0) : ∀ (items acc : List D) (G : GS) (Q : List D → GS → Prop), (∀ x ∈ items, τ x) → (∀ x ∈ acc, σ x) → F G → acc.length + items.length ≤ sizeLine →
    (∀ ys G', (∀ x ∈ ys, σ x) → ys.length ≤ acc.length + items.length → F G' → Q ys G') → lcl g tt te env0 items acc G Q
  | [], acc, G, Q, _, ha, gg, _, k => k acc G ha (by simp) gg
  | x :: r, acc, G, Q, hi, ha, gg, hl, k => by
    rw [List.length_cons] at hl
    refine hg x env0 _ (hi x (by simp)) f0 fun env1 f1 => ht env1 G _ f1 gg (fun G1 g1 f2 => ?_) fun G1 g1 f2 => ?_
    · rw [if_pos rfl]
      refine he env1 G1 _ f2 g1 fun y G2 hy g2 => ?_
      obtain ⟨z, rfl, hz⟩ := hy
      refine ⟨by omega, lcl_run hg ht he f0 r (acc ++ [z]) G2 Q (fun w hw => hi w (by simp [hw])) (fun w hw => ?_) g2 (by rw [List.length_append, List.length_singleton]; omega) fun ys G' h1 h2 h3 => k ys G' h1 (by rw [List.length_append, List.length_singleton] at h2; rw [List.length_cons]; omega) h3⟩
      rcases List.mem_append.mp hw with hw | hw
      · exact ha w hw
      · rw [List.mem_singleton] at hw
        rw [hw]; exact hz
    · rw [if_neg (by simp)]
      exact lcl_run hg ht he f0 r acc G1 Q (fun w hw => hi w (by simp [hw])) ha g1 (by omega) fun ys G' h1 h2 h3 => k ys G' h1 (by rw [List.length_cons]; omega) h3
theorem lcl_run0 {te : TDE} {Γ0 Γ1 : Ctx} {env0 : DEnv} (hg : HG g τ Γ0 Γ1) (he : HE F te Γ1 (dd σ)) (f0 : Fits Γ0 env0) : ∀ (items acc : List D) (G : GS) (Q : List D → GS → Prop), (∀ x ∈ items, τ x) → (∀ x ∈ acc, σ x) → F G → acc.length + items.length ≤ sizeLine →
    (∀ ys G', (∀ x ∈ ys, σ x) → ys.length = acc.length + items.length → F G' → Q ys G') → lcl g tdYes te env0 items acc G Q
  | [], acc, G, Q, _, ha, gg, _, k => k acc G ha (by simp) gg
  | x :: r, acc, G, Q, hi, ha, gg, hl, k => by
    rw [List.length_cons] at hl
    refine hg x env0 _ (hi x (by simp)) f0 fun env1 f1 => ?_
    show te env1 G (fun y G2 => asD y fun z => acc.length < sizeLine ∧ lcl g tdYes te env0 r (acc ++ [z]) G2 Q)
    refine he env1 G _ f1 gg fun y G2 hy g2 => ?_
    obtain ⟨z, rfl, hz⟩ := hy
    refine ⟨by omega, lcl_run0 hg he f0 r (acc ++ [z]) G2 Q (fun w hw => hi w (by simp [hw])) (fun w hw => ?_) g2 (by rw [List.length_append, List.length_singleton]; omega) fun ys G' h1 h2 h3 => k ys G' h1 (by rw [List.length_append, List.length_singleton] at h2; rw [List.length_cons]; omega) h3⟩
    rcases List.mem_append.mp hw with hw | hw
    · exact ha w hw
    · rw [List.mem_singleton] at hw
      rw [hw]; exact hz
theorem hf_lc {tt : TDT} {te : TDE} {vs : List Nat} {a b : Nat} (hi : HI F ti Γ τ a b) (hg : HG g τ (wipeC Γ vs) Γ1) (ht : HT F tt Γ1 Γt Γf) (he : HE F te Γt (dd σ)) (hz : b ≤ sizeLine := by decide) : HF F (tdLcF ti g tt te vs) Γ σ 0 b := fun env G Q f g0 k =>
  hi env G _ f g0 fun items G1 h1 l1 l2 g1 => lcl_run hg ht he (f.wipe vs) items [] G1 Q h1 (fun _ h => nomatch h) g1 (by simp; omega) fun ys G' q1 q2 q3 => k ys G' q1 (by omega) (by simp at q2; omega) q3
theorem hf_lc0 {te : TDE} {vs : List Nat} {a b : Nat} (hi : HI F ti Γ τ a b) (hg : HG g τ (wipeC Γ vs) Γ1) (he : HE F te Γ1 (dd σ)) (hz : b ≤ sizeLine := by decide) : HF F (tdLcF ti g tdYes te vs) Γ σ a b := fun env G Q f g0 k =>
  hi env G _ f g0 fun items G1 h1 l1 l2 g1 => lcl_run0 hg he (f.wipe vs) items [] G1 Q h1 (fun _ h => nomatch h) g1 (by simp; omega) fun ys G' q1 q2 q3 => k ys G' q1 (by simp at q2; omega) (by simp at q2; omega) q3
theorem he_lc {te : TDE} {tt : TDT} {vs : List Nat} {a b : Nat} (h : HF F (tdLcF ti g tt te vs) Γ σ a b) : HE F (tdLc ti g tt te vs) Γ (dd (tLst σ a b)) := fun env G Q f g0 k => h env G _ f g0 fun ys G1 h1 h2 h3 g1 => k _ G1 ⟨_, rfl, ys, rfl, h1, h2, h3⟩ g1
theorem hf_lst {ts : List T} {n : Nat} (h : HA F tr Γ (ts.map dd)) (s : TS ts τ n) (hz : ts.length ≤ sizeLine := by decide) : HF F (tdLstF tr) Γ τ n n := fun env G Q f g k => h env G _ f g fun xs G1 hx g1 => asAll_of hx fun ds hs => ⟨by rw [hs.len]; exact hz, k _ G1 (s ds hs).1 (by have := (s ds hs).2; omega) (by have := (s ds hs).2; omega) g1⟩
theorem hf_add {a b c f : Nat} (ha : HE F ta Γ (dd (tLst τ a b))) (hb : HE F tb Γ (dd (tLst τ c f))) (hz : b + f ≤ sizeLine := by decide) : HF F (tdAddF ta tb) Γ τ (a + c) (b + f) := fun env G Q fi g k => ha env G _ fi g fun x G1 hx g1 => hb env G1 _ fi g1 fun y G2 hy g2 => by
  obtain ⟨d, rfl, xs, rfl, h0, h1, h2⟩ := hx
  obtain ⟨e, rfl, ys, rfl, h3, h4, h5⟩ := hy
  exact ⟨by omega, k _ G2 (app_all h0 h3) (by rw [List.length_append]; omega) (by rw [List.length_append]; omega) g2⟩
theorem hf_addO {a b c f : Nat} {i : Nat} (hb : HE F tb Γ (dd (tLst τ c f))) (h : Γ[i]? = some (so (ow τ a b)) := by rfl) (hz : b + f ≤ sizeLine := by first | decide | (rw [sizeLine_eq]; omega)) : HF F (tdAddO i tb) Γ τ (a + c) (b + f) := fun env G Q fi g k => by
  obtain ⟨x, e1, xs, rfl, h0, h1, h2⟩ := fi.look h
  unfold tdAddO
  rw [e1]
  refine hb env G _ fi g fun y G2 hy g2 => ?_
  obtain ⟨e, rfl, ys, rfl, h3, h4, h5⟩ := hy
  exact ⟨by omega, k _ G2 (app_all h0 h3) (by rw [List.length_append]; omega) (by rw [List.length_append]; omega) g2⟩
theorem hf_sub {a b c f : Nat} (h : HF F tf Γ τ a b) (s : ∀ d, τ d → σ d) (h1 : c ≤ a) (h2 : b ≤ f) : HF F tf Γ σ c f := fun env G Q fi g k => h env G _ fi g fun ys G1 q1 q2 q3 g1 => k ys G1 (fun d hd => s d (q1 d hd)) (by omega) (by omega) g1
/-! ### statements -/
variable {ts us : TDS}
theorem hs_le {nx' : Ctx} (h : HS F ts Γ1 nx bk ct ρ) (l : Le Γ Γ1) (l2 : Le nx nx') : HS F ts Γ nx' bk ct ρ := fun K env G f g k1 k2 k3 k4 => h K env G (l env f) g (fun e G' h1 h2 => k1 e G' (l2 e h1) h2) k2 k3 k4
theorem hs_to {nx' : Ctx} (h : HS F ts Γ nx bk ct ρ) (l2 : Le nx nx') : HS F ts Γ nx' bk ct ρ := hs_le h le_refl l2
theorem hs_from (Γ1 : Ctx) (h : HS F ts Γ1 nx bk ct ρ) (l : Le Γ Γ1) : HS F ts Γ nx bk ct ρ := hs_le h l le_refl
theorem hs_rsub {ρ' : VP} (h : HS F ts Γ nx bk ct ρ') (s : ∀ x, ρ' x → ρ x) : HS F ts Γ nx bk ct ρ := fun K env G f g k1 k2 k3 k4 => h K env G f g k1 k2 k3 fun x G' h1 h2 => k4 x G' (s x h1) h2
theorem hs_next (l : Le Γ nx := by exact le_refl) : HS F tdNext Γ nx bk ct ρ := fun K env G f g k1 _ _ _ => k1 env G (l env f) g
theorem hs_break (l : Le Γ bk := by exact le_refl) : HS F tdBreak Γ nx bk ct ρ := fun K env G f g _ k2 _ _ => k2 env G (l env f) g
theorem hs_cont (l : Le Γ ct := by exact le_refl) : HS F tdCont Γ nx bk ct ρ := fun K env G f g _ _ k3 _ => k3 env G (l env f) g
theorem hs_seq (h : HS F ts Γ Γ1 bk ct ρ) (h2 : HS F us Γ1 nx bk ct ρ) : HS F (tdSeq ts us) Γ nx bk ct ρ := fun K env G f g k1 k2 k3 k4 => h { K with nx := us K } env G f g (fun e G' f1 g1 => h2 K e G' f1 g1 k1 k2 k3 k4) k2 k3 k4
theorem hs_ret (h : HE F t Γ ρ) : HS F (tdRet t) Γ nx bk ct ρ := fun K env G f g _ _ _ k4 => h env G _ f g k4
theorem hs_if (h : HT F tt Γ Γt Γf) (h1 : HS F ts Γt nx bk ct ρ) (h2 : HS F us Γf nx bk ct ρ) : HS F (tdIfS tt ts us) Γ nx bk ct ρ := fun K env G f g k1 k2 k3 k4 => h env G _ f g (fun G1 g1 f1 => h1 K env G1 f1 g1 k1 k2 k3 k4) fun G1 g1 f1 => h2 K env G1 f1 g1 k1 k2 k3 k4
theorem hs_asg (h : HE F t Γ (dd τ)) (hg : HG g τ Γ Γ1) : HS F (tdAsg t g) Γ Γ1 bk ct ρ := fun K env G f g0 k1 _ _ _ => h env G _ f g0 fun x G1 hx g1 => by
  obtain ⟨d, rfl, hd⟩ := hx
  exact hg d env _ hd f fun env' f' => k1 env' G1 f' g1
theorem hs_set {i : Nat} (h : HE F t Γ (dd τ)) : HS F (tdAsg t (gdName i)) Γ (Γ.set i (so (dd τ))) bk ct ρ := hs_asg h hg_name
theorem hs_par {i j : Nat} (ha : HE F ta Γ (dd τ)) (hb : HE F tb Γ (dd σ)) : HS F (tdPar i j (tdCons ta (tdCons tb tdNil))) Γ ((Γ.set i (so (dd τ))).set j (so (dd σ))) bk ct ρ := fun K env G f g k1 _ _ _ => ha env G _ f g fun x G1 hx g1 => hb env G1 _ f g1 fun y G2 hy g2 => by
  exact k1 _ G2 ((f.put i hx).put j hy) g2
theorem hs_own {i : Nat} {a b : Nat} (h : HF F tf Γ τ a b) : HS F (tdOwn i tf) Γ (Γ.set i (so (ow τ a b))) bk ct ρ := fun K env G f g k1 _ _ _ => h env G _ f g fun ys G1 h1 h2 h3 g1 => k1 _ G1 (f.put i ⟨ys, rfl, h1, h2, h3⟩) g1
theorem hs_parO {i j : Nat} {a b : Nat} (ha : HE F ta Γ (dd σ)) (h : HF F tf Γ τ a b) : HS F (tdParO i j ta tf) Γ ((Γ.set i (so (dd σ))).set j (so (ow τ a b))) bk ct ρ := fun K env G f g k1 _ _ _ => ha env G _ f g fun x G1 hx g1 => h env G1 _ f g1 fun ys G2 h1 h2 h3 g2 => k1 _ G2 ((f.put i hx).put j ⟨ys, rfl, h1, h2, h3⟩) g2
theorem hs_append {i : Nat} {a b : Nat} (h : HE F t Γ (dd τ)) (e : Γ[i]? = some (so (ow τ a b)) := by rfl) (hz : b < sizeLine := by first | decide | (rw [sizeLine_eq]; omega)) : HS F (tdAppend i t) Γ (Γ.set i (so (ow τ (a + 1) (b + 1)))) bk ct ρ := fun K env G f g k1 _ _ _ => by
  obtain ⟨x, e1, xs, rfl, h0, h1, h2⟩ := f.look e
  unfold tdAppend
  rw [e1]
  refine h env G _ f g fun y G1 hy g1 => ?_
  obtain ⟨d, rfl, hd⟩ := hy
  refine ⟨by omega, k1 _ G1 (f.put i ⟨_, rfl, fun z hz => ?_, by rw [List.length_append, List.length_singleton]; omega, by rw [List.length_append, List.length_singleton]; omega⟩) g1⟩
  rcases List.mem_append.mp hz with q | q
  · exact h0 z q
  · rw [List.mem_singleton] at q
    rw [q]; exact hd
theorem hs_extend {i : Nat} {a b c f : Nat} (h : HE F t Γ (dd (tLst τ c f))) (e : Γ[i]? = some (so (ow τ a b)) := by rfl) (hz : b + f ≤ sizeLine := by first | decide | (rw [sizeLine_eq]; omega)) : HS F (tdExtend i t) Γ (Γ.set i (so (ow τ (a + c) (b + f)))) bk ct ρ := fun K env G fi g k1 _ _ _ => by
  obtain ⟨x, e1, xs, rfl, h0, h1, h2⟩ := fi.look e
  unfold tdExtend
  rw [e1]
  refine h env G _ fi g fun y G1 hy g1 => ?_
  obtain ⟨d, rfl, ys, rfl, h3, h4, h5⟩ := hy
  refine ⟨by omega, k1 _ G1 (fi.put i ⟨_, rfl, fun z hz => ?_, by rw [List.length_append]; omega, by rw [List.length_append]; omega⟩) g1⟩
  rcases List.mem_append.mp hz with q | q
  · exact h0 z q
  · exact h3 z q
theorem hs_give {i : Nat} {a b : Nat} (h : HS F ts (Γ.set i (so (dd (tLst τ a b)))) nx bk ct ρ) (e : Γ[i]? = some (so (ow τ a b)) := by rfl) : HS F (tdGive i ts) Γ nx bk ct ρ := fun K env G f g k1 k2 k3 k4 => by
  obtain ⟨x, e1, xs, rfl, h0, h1, h2⟩ := f.look e
  unfold tdGive giveD
  rw [e1]
  exact h K _ G (f.put i ⟨_, rfl, xs, rfl, h0, h1, h2⟩) g k1 k2 k3 k4
theorem hs_drop (h : HE F t Γ p) (l : Le Γ nx := by exact le_refl) : HS F (tdDrop t) Γ nx bk ct ρ := fun K env G f g k1 _ _ _ => h env G _ f g fun x G1 hx g1 => k1 env G1 (l env f) g1
theorem dloop_run {Γi : Nat → Ctx} {Γm : Nat → Ctx} {N : Nat} (hb : ∀ n, n < N → HG g τ (Γi n) (Γm n) ∧ HS F ts (Γm n) (Γi (n + 1)) nx (Γi (n + 1)) ρ) (he : ∀ n, n ≤ N → Le (Γi n) nx) (K : DEnds) (k1 : ∀ e G', Fits nx e → F G' → K.nx e G') (k4 : ∀ x G', ρ x → F G' → K.rt x G') :
    ∀ (items : List D) (n : Nat) (env : DEnv) (G : GS), (∀ x ∈ items, τ x) → n + items.length ≤ N → Fits (Γi n) env → F G → dloop g ts K items env G
  | [], n, env, G, _, hn, f, g0 => k1 env G (he n (by simpa using hn) env f) g0
  | x :: r, n, env, G, hi, hn, f, g0 => by
    rw [List.length_cons] at hn
    obtain ⟨h1, h2⟩ := hb n (by omega)
    refine h1 x env _ (hi x (by simp)) f fun env' f' => ?_
    have nxt : ∀ e G', Fits (Γi (n + 1)) e → F G' → dloop g ts K r e G' := fun e G' f2 g2 => dloop_run hb he K k1 k4 r (n + 1) e G' (fun y hy => hi y (by simp [hy])) (by omega) f2 g2
    exact h2 _ env' G f' g0 nxt k1 nxt k4
theorem hs_for {a : Nat} {N : Nat} (Γi Γm : Nat → Ctx) (hi : HI F ti Γ τ a N) (h0 : Le Γ (Γi 0)) (hb : ∀ n, n < N → HG g τ (Γi n) (Γm n) ∧ HS F ts (Γm n) (Γi (n + 1)) nx (Γi (n + 1)) ρ) (he : ∀ n, n ≤ N → Le (Γi n) nx) : HS F (tdFor ti g ts) Γ nx bk ct ρ := fun K env G f g0 k1 k2 k3 k4 =>
  hi env G _ f g0 fun items G1 q1 q2 q3 g1 => dloop_run hb he K k1 k4 items 0 env G1 q1 (by omega) (h0 env f) g1
/-- a def read by types -/
theorem allP_fits : ∀ {ps : List VP} {xs : List SV}, AllP ps xs → Fits (ps.map so) (xs.map some)
  | _, _, .nil => True.intro
  | _, _, .cons h r => ⟨⟨_, rfl, h⟩, allP_fits r⟩
theorem fits_rep (n : Nat) : Fits (List.replicate n va) (List.replicate n none) := by
  induction n with
  | zero => exact True.intro
  | succ n ih => exact ⟨True.intro, ih⟩
theorem fits_app : ∀ {Γ Δ : Ctx} {e f : DEnv}, Fits Γ e → Fits Δ f → Fits (Γ ++ Δ) (e ++ f)
  | [], _, [], _, _, h => h
  | _ :: _, _, _ :: _, _, h, k => ⟨h.1, fits_app h.2 k⟩
  | [], _, _ :: _, _, h, _ => h.elim
  | _ :: _, _, [], _, h, _ => h.elim
theorem AllP.len : ∀ {ps : List VP} {xs : List SV}, AllP ps xs → xs.length = ps.length
  | _, _, .nil => rfl
  | _, _, .cons a r => by rw [List.length_cons, List.length_cons, AllP.len r]
def bot : Ctx := [fun _ => False]
theorem bot_no {env : DEnv} {P : Prop} (h : Fits bot env) : P := by
  cases env with
  | nil => exact h.elim
  | cons o r => exact h.1.elim
theorem ty_read {N n : Nat} {xs : List SV} {G : GS} {Q : SV → GS → Prop} (h : tyCT F ps ρ xs G Q) (hs : HS F ts (ps.map so ++ List.replicate (N - ps.length) va) bot bot bot ρ) (hn : ps.length = n := by rfl) :
    xs.length = n ∧ ts { nx := fun _ G' => Q (.d .none) G', rt := Q } (startD N xs) G := by
  obtain ⟨h1, h2, h3⟩ := h
  have hl := h1.len
  refine ⟨by omega, ?_⟩
  have f : Fits (ps.map so ++ List.replicate (N - ps.length) va) (startD N xs) := by
    unfold startD
    rw [hl]
    exact fits_app (allP_fits h1) (fits_rep _)
  exact hs _ _ _ f h2 (fun _ _ z _ => bot_no z) (fun _ _ z _ => bot_no z) (fun _ _ z _ => bot_no z) h3
def tTrue : T := fun d => d = .bool true
def tFalse : T := fun d => d = .bool false
theorem s_true_bool : ∀ d, tTrue d → tBool d := fun d h => ⟨true, h⟩
theorem s_false_bool : ∀ d, tFalse d → tBool d := fun d h => ⟨false, h⟩
theorem hs_bot : HS F ts bot nx bk ct ρ := fun _ _ _ f => bot_no f
theorem he_bot : HE F t bot p := fun _ _ _ f => bot_no f
theorem ht_bot : HT F tt bot Γt Γf := fun _ _ _ f => bot_no f
theorem le_bot : Le bot Γ := fun _ f => bot_no f
theorem ht_true (h : HE F t Γ (dd tTrue)) : HT F (tdTest t) Γ Γ bot := fun env G Q f g k1 k2 => h env G _ f g fun x G1 hx g1 => by
  obtain ⟨d, rfl, rfl⟩ := hx
  exact k1 G1 g1 f
theorem ht_false (h : HE F t Γ (dd tFalse)) : HT F (tdTest t) Γ bot Γ := fun env G Q f g k1 k2 => h env G _ f g fun x G1 hx g1 => by
  obtain ⟨d, rfl, rfl⟩ := hx
  exact k2 G1 g1 f
theorem he_eq_nil (h : HE F t Γ (dd (tLst τ 0 0))) : HE F (tdBin rdEq t (tdC (.list []))) Γ (dd tTrue) := fun env G Q f g k => h env G _ f g fun x G1 hx g1 => by
  obtain ⟨d, rfl, ds, rfl, _, _, l⟩ := hx
  have : ds = [] := List.length_eq_zero_iff.mp (by omega)
  subst this
  exact ⟨by decide +kernel, k _ G1 ⟨_, rfl, by rw [eqv_nilL]; rfl⟩ g1⟩
theorem he_ne_nil (h : HE F t Γ (dd (tLst τ 0 0))) : HE F (tdBin rdNe t (tdC (.list []))) Γ (dd tFalse) := fun env G Q f g k => h env G _ f g fun x G1 hx g1 => by
  obtain ⟨d, rfl, ds, rfl, _, _, l⟩ := hx
  have : ds = [] := List.length_eq_zero_iff.mp (by omega)
  subst this
  exact ⟨by decide +kernel, k _ G1 ⟨_, rfl, by rw [eqv_nilL]; rfl⟩ g1⟩
theorem lcl_none {tt : TDT} {te : TDE} {Γ0 Γ1 : Ctx} {env0 : DEnv} (hg : HG g τ Γ0 Γ1) (ht : HT F tt Γ1 bot Γf) (f0 : Fits Γ0 env0) : ∀ (items : List D) (G : GS) (Q : List D → GS → Prop), (∀ x ∈ items, τ x) → F G → (∀ G', F G' → Q [] G') → lcl g tt te env0 items [] G Q
  | [], G, Q, _, gg, k => k G gg
  | x :: r, G, Q, hi, gg, k => hg x env0 _ (hi x (by simp)) f0 fun env1 f1 => ht env1 G _ f1 gg (fun G1 g1 f2 => bot_no f2) fun G1 g1 f2 => by
    rw [if_neg (by simp)]
    exact lcl_none hg ht f0 r G1 Q (fun y hy => hi y (by simp [hy])) g1 k
/-- no item is kept -/
theorem hf_lc_none {tt : TDT} {te : TDE} {vs : List Nat} {a b : Nat} (hi : HI F ti Γ τ a b) (hg : HG g τ (wipeC Γ vs) Γ1) (ht : HT F tt Γ1 bot Γf) : HF F (tdLcF ti g tt te vs) Γ σ 0 0 := fun env G Q f g0 k =>
  hi env G _ f g0 fun items G1 h1 l1 l2 g1 => lcl_none hg ht (f.wipe vs) items G1 Q h1 g1 fun G' g' => k [] G' (fun _ h => nomatch h) (Nat.le_refl _) (Nat.le_refl _) g'
theorem he_fresh {a b : Nat} (h : HF F tf Γ τ a b) : HE F (fun env G Q => tf env G fun ys G1 => Q (.d (.list ys)) G1) Γ (dd (tLst τ a b)) := fun env G Q f g0 k => h env G _ f g0 fun ys G1 h1 h2 h3 g1 => k _ G1 ⟨_, rfl, ys, rfl, h1, h2, h3⟩ g1
theorem he_neg {a b : Int} (h : HE F t Γ (dd (tInt a b))) : HE F (tdUn rdNeg t) Γ (dd (tInt (-b) (-a))) := fun env G Q f g k => h env G _ f g fun x G1 hx g1 => by
  obtain ⟨d, rfl, i, rfl, q1, q2⟩ := hx
  exact k _ G1 ⟨_, rfl, -i, rfl, by omega, by omega⟩ g1
theorem he_mul_t {a b : Nat} {n : Nat} (ha : HE F ta Γ (dd (tTupOf τ a b))) (h2 : 1 ≤ a ∧ 2 ≤ n ∧ n ≤ 1000 ∧ b ≤ 1000 := by decide) : HE F (tdBin rdMulT ta (tdC (.int (n : Nat)))) Γ (dd (tTupOf τ (a * n) (b * n))) := fun env G Q f g k => by
  refine ha env G _ f g fun x G1 hx g1 => ?_
  obtain ⟨d, rfl, ds, rfl, h0, h1, h3⟩ := hx
  have q1 := Nat.mul_le_mul_right n h3
  have q2 := Nat.mul_le_mul_right n h1
  have q3 := Nat.mul_comm n ds.length
  refine ⟨⟨fun z => by subst z; rw [List.length_nil] at h1; omega, by omega, by omega, by omega⟩, k _ _ ⟨_, rfl, _, rfl, fun z hz => ?_, ?_, ?_⟩ g1⟩
  · rw [Int.toNat_natCast] at hz
    exact h0 z (rep_mem hz)
  · rw [Int.toNat_natCast, rep_len, q3]; exact q2
  · rw [Int.toNat_natCast, rep_len, q3]; exact q1
/-- the law at its end -/
theorem ty_law {M : Nat} {G : GS} (hs : HS F ts (va :: so gg :: List.replicate M va) bot bot bot (dd tTrue)) (h : F G) : ts { nx := fun _ _ => False, rt := fun y _ => y = .d (.bool true) } (none :: some (.g 0) :: List.replicate M none) G :=
  hs _ _ _ ⟨True.intro, ⟨_, rfl, rfl⟩, fits_rep M⟩ h (fun _ _ z _ => bot_no z) (fun _ _ z _ => bot_no z) (fun _ _ z _ => bot_no z) fun x G' hx _ => by
    obtain ⟨d, rfl, rfl⟩ := hx
    rfl
end
end TY

set_option maxRecDepth 100000
set_option maxHeartbeats 4000000
/-! DL18: own errors whose __init__ says super().__init__(a, b) and keeps both: made. -/
namespace ER
open PySem PySem.Spec PySem.W PySem.Calls PyProof.Rows L2
/-- the text of such an __init__ -/
abbrev erArgs (f1 f2 : Str) (p1 p2 p3 : Pos) : Arguments := { posonlyargs := [], args := [{ arg := "self", annotation := none, pos := p1 }, { arg := f1, annotation := none, pos := p2 }, { arg := f2, annotation := none, pos := p3 }], vararg := none, kwonlyargs := [], kw_defaults := [], kwarg := none, defaults := [] }
abbrev erBody (f1 f2 : Str) (q : Fin 16 → Pos) : List Stmt :=
  [.Expr (.Call (.Attribute (.Call (.Name "super" (q 0)) [] [] (q 1)) "__init__" (q 2)) [.Name f1 (q 3), .Name f2 (q 4)] [] (q 5)) (q 6),
   .Assign [.Attribute (.Name "self" (q 7)) f1 (q 8)] (.Name f1 (q 9)) (q 10),
   .Assign [.Attribute (.Name "self" (q 11)) f2 (q 12)] (.Name f2 (q 13)) (q 14)]
/-- what the written part says of the class nm at C: its __init__ at fI, its class cell at cc, its code object at cda -/
structure ErrTxt (P : Program) (K : Frag) (mg : Str → Option Value) (nm : Str) (C fI cc cda : Addr) (f1 f2 : Str) : Prop where
  gC : mg nm = some (.ref C)
  cls : ∃ nm q N bs bm sn sub ab col dd k0 k1 k2 k3 k5, K.lookup C = some (excClassObj nm q C N bs bm true sn sub ab col dd k0 k1 k2 k3 k5 "ValueError.__new__") ∧ HandSPX.refsVE bm = true
  sa : findIn K (.ref C) "__setattr__" = some (some (.builtin "object.__setattr__"))
  ga : findIn K (.ref C) "__getattribute__" = some (some (.builtin "BaseException.__getattribute__"))
  gg : findIn K (.ref C) "__getattr__" = some none
  no1 : findIn K (.ref C) f1 = some none
  no2 : findIn K (.ref C) f2 = some none
  iC : findIn K (.ref C) "__init__" = some (some (.ref fI))
  tC : typeIn K (.ref fI) = some (.type "function")
  kC : keepIn K (.ref C) = true
  exC : subIn K (.ref C) (.type "BaseException") = some true
  veC : subIn K (.ref C) (.type "ValueError") = some true
  tyC : typeIn K (.ref C) = some (.type "type")
  hdC : hasDictIn K C = true
  fn : ∃ (oc : Value) (od : Option Addr) (dV kV doc pm ct : Value) (an : Option Addr) (osl : Array (Option Value)) (qual : Str) (params : Arguments) (body : List Stmt) (scope : Scope) (nms : List (Str × NameKind)) (p1 p2 p3 : Pos) (q : Fin 16 → Pos),
    K.lookup fI = some ⟨oc, od, .func (ksFn "__init__" qual params body scope dV kV doc pm an (.ref cda) ct cc), osl⟩ ∧ codeIn K (.ref cda) qual = true ∧ params = erArgs f1 f2 p1 p2 p3 ∧ body = erBody f1 f2 q ∧
    scope = { kind := .function, names := nms, isGenerator := false, isCoroutine := false, more := [] } ∧ nms.lookup ("self" : Str) = some .local ∧ nms.lookup f1 = some .local ∧ nms.lookup f2 = some .local ∧
    nms.lookup ("super" : Str) = some .globalImplicit ∧ nms.lookup ("__class__" : Str) = some .free ∧ (∀ x ∈ nms, x.2 ≠ .cell) ∧
    (∀ (s : Shared) (u0 u1 u2 : Value), BindsTo s (ksFn "__init__" qual params body scope dV kV doc pm an (.ref cda) ct cc) ⟨[u0, u1, u2], []⟩ [("self", u0), (f1, u1), (f2, u2)]) ∧
    ∃ pl : Sem Bool, ∀ env : Env, eval (.Call (.Attribute (.Call (.Name "super" (q 0)) [] [] (q 1)) "__init__" (q 2)) [.Name f1 (q 3), .Name f2 (q 4)] [] (q 5)) env = (do
      let ov ← attributeBase (.Call (.Name "super" (q 0)) [] [] (q 1)) "__init__" env (eval (.Call (.Name "super" (q 0)) [] [] (q 1)) env)
      standAt (q 2).atName
      let (f, first) ← holding [ov] (getMethod ov "__init__" pl)
      callWith (q 5) f first (backTo (q 5) (starEach [.Name f1 (q 3), .Name f2 (q 4)] env)) [])
  code : ∃ (ccl : Value) (cdd : Option Addr) (vs : Array Value) (ccs : Array (Option Value)) (file : Str) (tf : Tok), K.lookup cda = some ⟨ccl, cdd, .fields vs, ccs⟩ ∧ vs[2]? = some (.str file tf) ∧ ((P.main.file : Str) == file) = true
  cell : ∃ (cl : Value) (cld : Option Addr) (csl : Array (Option Value)), K.lookup cc = some ⟨cl, cld, .cell (some (.ref C)), csl⟩
  sup : mg "super" = none
  supM : ks_superIn K C C "__init__" = some (some (.builtin "ValueError.__init__"))
  htop : (P.main.scope.names.lookup ("super" : Str)).isSome = false
  opq : nsIn K cStatics "thirdparty.any" = some none
  ne12 : (f1 == f2) = false
  nes1 : (f1 == ("self" : Str)) = false
  nes2 : (f2 == ("self" : Str)) = false
  db1 : (f1 == ("__debug__" : Str)) = false
  db2 : (f2 == ("__debug__" : Str)) = false
section
variable {prog : Program} {w : World} {A : Around} {E : Value → Shared → Prop} {R : Result → Shared → Prop} {K : Frag} {mg : Str → Option Value} {nm : Str} {C fI cc cda : Addr} {f1 f2 : Str}
theorem ld_here {M : Model} {s : Shared} {env : Env} {m : Str → Option Value} {x : Str} {pos : Pos} {v : Value} {Q : Value → Shared → Prop} (hn : s.heap.Ns env.locals m) (hv : m x = some v) (hk : env.scope.kind = .function) (hl : env.kindOf x = some .local) (hd : (x == ("__debug__" : Str)) = false) (h : Q v s) :
    wpAny M A (eval (.Name x pos) env) Q E s := wpAny_Name (wpAny_loadName_local hk hl hn hv h) hd
/-- the method-wrapper ValueError.__init__ of e called -/
theorem wrapper_run {nm q : Str} {N : Addr} {bs bm : List Value} {hdct : Bool} {sn : List Str} {sub : List Value} {ab : Bool} {col : Option Bool} {dd : Option Addr} {k0 k1 k2 k3 k5 : Option Value} {e t u : Addr} {rest : List Value} {h : Heap} {g : Array GenState} {d : Drawn} {tk : Nat} {os : OsState} {Q : Value → Shared → Prop}
    (hC : h.get? C = some (excClassObj nm q C N bs bm hdct sn sub ab col dd k0 k1 k2 k3 k5 "ValueError.__new__")) (he : h.get? e = some (excRec (.ref C) t none .none .none (.bool false))) (hu : h.get? u = some (kxs_mw "ValueError.__init__" e)) (hz : rest.length ≤ sizeLine)
    (k : ∀ h', (∀ b o, b ≠ e → h.get? b = some o → h'.get? b = some o) → h'.get? e = some (excRec (.ref C) h.objs.size none .none .none (.bool false)) → Q .none ⟨h', g, d, tk, os⟩) :
    wpAny (model prog w) A (call (.ref u) rest) Q E ⟨h, g, d, tk, os⟩ := by
  have FB := F.excBase_ValueError
  refine wpAny_call (codeAny_of_tree ?_)
  show wpAny _ A.in1 (callAny (.ref u) ⟨rest, []⟩) _ _ _
  unfold callAny
  refine wpAny_bind (wpAny_load hu ?_)
  simp only [kxs_mw, show (Value.type "method-wrapper" == Value.type "method" || Value.type "method-wrapper" == Value.type "builtin_function_or_method" || Value.type "method-wrapper" == Value.type "method-wrapper") = true from by decide, if_true]
  refine KFB.if_so (by decide) (wpAny_bind (check_bound_init FB.toExcCallFacts hC he rfl (wpAny_bind (wpAny_pure (wpAny_pure ⟨plainId_quiet FB.init.plain _, codeAny_builtin FB.initEntry ?_⟩)))))
  exact exc_init_tree he hz fun h' k1 k2 _ => k h' k1 k2
theorem lookup_at {x y : Str} {v : Value} {r : List (Str × Value)} (h : (x == y) = true) : ((y, v) :: r).lookup x = some v := by
  rw [List.lookup_cons, h]
theorem lookup_on {x y : Str} {v : Value} {r : List (Str × Value)} (h : (x == y) = false) : ((y, v) :: r).lookup x = r.lookup x := by
  rw [List.lookup_cons, h]
theorem lookup3 {f1 f2 : Str} {v0 v1 v2 : Value} (n12 : (f1 == f2) = false) (n1 : (f1 == ("self" : Str)) = false) (n2 : (f2 == ("self" : Str)) = false) :
    (([("self", v0), (f1, v1), (f2, v2)] : List (Str × Value)).reverse.lookup ("self" : Str) = some v0) ∧ (([("self", v0), (f1, v1), (f2, v2)] : List (Str × Value)).reverse.lookup f1 = some v1) ∧ (([("self", v0), (f1, v1), (f2, v2)] : List (Str × Value)).reverse.lookup f2 = some v2) := by
  have e1 : (("self" : Str) == f1) = false := by rw [BEq.comm]; exact n1
  have e2 : (("self" : Str) == f2) = false := by rw [BEq.comm]; exact n2
  have self_ : ∀ y : Str, (y == y) = true := fun y => beq_self_eq_true y
  refine ⟨?_, ?_, ?_⟩
  · show ([(f2, v2), (f1, v1), ("self", v0)] : List (Str × Value)).lookup ("self" : Str) = _
    rw [lookup_on e2, lookup_on e1, lookup_at (self_ _)]
  · show ([(f2, v2), (f1, v1), ("self", v0)] : List (Str × Value)).lookup f1 = _
    rw [lookup_on n12, lookup_at (self_ _)]
  · show ([(f2, v2), (f1, v1), ("self", v0)] : List (Str × Value)).lookup f2 = _
    rw [lookup_at (self_ _)]
/-- what __init__ leaves of the fresh exception at x -/
structure InitDone (h h' : Heap) (x C dx t1 : Addr) (f1 f2 : Str) (v1 v2 : Value) : Prop where
  keep : ∀ b o, b ≠ x → h.get? b = some o → h'.get? b = some o
  obj : h'.get? x = some { cls := .ref C, dict := some dx, data := .fields #[.ref t1, .none, .none, .none, .bool false, .none] }
  big : h.objs.size ≤ dx
  ne : dx ≠ x
  ns : h'.Ns1 dx (fun y => if y = f2 then some v2 else if y = f1 then some v1 else none)
theorem kept_of {h h' : Heap} {x : Addr} (X : K.In h) (hx : K.lookup x = none) (k : ∀ b o, b ≠ x → h.get? b = some o → h'.get? b = some o) : K.In h' := fun a o e => k a o (fun z => by rw [z, hx] at e; cases e) (X a o e)
theorem err_init {s : Shared} {mb : Str → Option Value} (T : ErrTxt prog K mg nm C fI cc cda f1 f2) {x t0 : Addr} {v1 v2 : Value} (X : K.In s.heap) (g1 : s.heap.Ns mainGlobals mg) (g2 : s.heap.Ns builtinsNs mb) (g3 : mb "super" = some (.type "super")) (hlim : s.heap.NoLimit)
    (hx : s.heap.get? x = some (HandSPX.excO C t0)) (hnx : K.lookup x = none) (nM : x ≠ mainGlobals) (nB : x ≠ builtinsNs) (hroom : A.depth < recursionLimit)
    (hq : ∀ h' tk dx t1, InitDone s.heap h' x C dx t1 f1 f2 v1 v2 → R (.ok (.ret .none)) { s with heap := h', toks := tk }) :
    codeAny (model prog w) A (.call (.ref fI) ⟨[.ref x, v1, v2], []⟩) R s := by
  obtain ⟨oc, od, dV, kV, doc, pm, ct, an, osl, qual, params, body, scope, nms, p1, p2, p3, q, ho, hcd, rfl, rfl, rfl, z4, z5, z6, z7, z8, z9, zb, zpl, zev⟩ := T.fn
  obtain ⟨cnm, cq, N, bs, bm, sn, sub, ab, col, dd, k0, k1, k2, k3, k5, hC, hbm⟩ := T.cls
  obtain ⟨ccl, cdd, vs, ccs, file, tf, hco, hvs, hfile⟩ := T.code
  obtain ⟨cl, cld, csl, hce⟩ := T.cell
  obtain ⟨l1, l2, l3⟩ := lookup3 (v0 := .ref x) (v1 := v1) (v2 := v2) T.ne12 T.nes1 T.nes2
  have hcl : clsIn K C = some { name := cnm, bases := bs, mro := .ref C :: bm, ns := N, qualname := cq, hasDict := true, slotNames := sn, subclasses := sub, abstract := ab, collection := col, hasDel := false } := by
    unfold clsIn; rw [hC] <;> rfl
  have hbind : BindsTo s (ksFn "__init__" qual (erArgs f1 f2 p1 p2 p3) (erBody f1 f2 q) { kind := .function, names := nms, isGenerator := false, isCoroutine := false, more := [] } dV kV doc pm an (.ref cda) ct cc) ⟨[.ref x, v1, v2], []⟩ [("self", .ref x), (f1, v1), (f2, v2)] := zb s _ _ _
  refine ks_codeAny_call_defAt (fd := ksFn "__init__" qual (erArgs f1 f2 p1 p2 p3) (erBody f1 f2 q) { kind := .function, names := nms, isGenerator := false, isCoroutine := false, more := [] } dV kV doc pm an (.ref cda) ct cc) (body := erBody f1 f2 q) hroom (X _ _ ho) rfl hlim (codeRec_of X hcd) rfl hbind z9 ?_ (fun h₁ hn kp => ?_)
  · intro y hy
    simp only [List.mem_cons, List.not_mem_nil, or_false] at hy
    rcases hy with rfl | rfl | rfl
    · exact z4
    · exact z5
    · exact z6
  have X₁ : K.In h₁ := X.keeps kp
  have hx₁ := kp _ _ hx
  have hM : h₁.Ns mainGlobals mg := g1.keeps kp
  have hB : h₁.Ns builtinsNs mb := g2.keeps kp
  refine ks_wpAt_execs_cons (ks_wpAt_Expr_any (ks_wpAt_MethodCall (pl := zpl) ?_ (zev _)))
  obtain ⟨oD, hD1, hD2⟩ : ∃ oD, h₁.get? C = some oD ∧ oD.data = .cls { name := cnm, bases := bs, mro := .ref C :: bm, ns := N, qualname := cq, hasDict := true, slotNames := sn, subclasses := sub, abstract := ab, collection := col, hasDel := false } := ⟨_, X₁ _ _ hC, rfl⟩
  refine ks_wpAt_super_base z7 z8 rfl rfl (X₁ _ _ ho) rfl rfl rfl (X₁ _ _ hco) rfl hvs hfile T.htop ?_
  refine ks_loadName_global rfl z7 (loadGlobal_builtin hM T.sup hB g3 ⟨rfl, ?_⟩)
  refine wpAny_loadName_free (c := cc) rfl z8 rfl ⟨_, X₁ _ _ hce, rfl⟩ ?_
  refine wpAny_loadName_local rfl z4 hn l1 ?_
  refine ks_wpAny_isType_cls hD1 hD2 ⟨rfl, ?_⟩
  have hsub : Looks (model prog w) h₁ (isSubtype (.ref C) (.ref C)) true := looks_mroIn X₁ (by
    unfold mroIn
    rw [hcl, Option.bind_some, if_neg (by simp)]
    simp)
  refine ks_wpAny_call_super hD1 hD2 hx₁ rfl (fun c z => by cases z) hsub (fun h2 e2 k2' => ?_)
  have X₂ : K.In h2 := X₁.keeps k2'
  have hx₂ := k2' _ _ hx₁
  have sup : alongIn K "__init__" ((((.ref C :: bm : List Value)).dropWhile (· != .ref C)).drop 1) = some (some (.builtin "ValueError.__init__")) := by
    have := T.supM
    unfold ks_superIn at this
    rw [hcl] at this
    exact this
  have hmro : Looks (model prog w) h2 (mroOf (.ref C)) (.ref C :: bm) := fun A' Q' E' s' k' q' => wpAny_bind ((looks_clsIn X₂ hcl) A' _ E' s' k' (wpAny_pure q'))
  have xC : x ≠ C := fun z => by
    rw [z] at hnx
    rw [hC] at hnx
    cases hnx
  have hin : Looks (model prog w) h2 (isInstance (.ref x) (.type "ValueError")) true := (InstAt.type (od := none) ⟨hx₂, rfl, rfl, trivial⟩).andThen (looks_subIn X₂ T.veC)
  refine kxs_getMethod kxs_ValueError e2 (looks_opaque X₂ T.opq) hmro rfl X₂ sup hin xC rfl ?_
  have kw : ∀ b o, h2.get? b = some o → (h2.push (kxs_mw "ValueError.__init__" x)).get? b = some o := fun b o z => Heap.get?_push_of_some _ z
  have hn3 : (h2.push (kxs_mw "ValueError.__init__" x)).Ns s.heap.objs.size (fun y => ([("self", .ref x), (f1, v1), (f2, v2)] : List (Str × Value)).reverse.lookup y) := (hn.keeps k2').keeps kw
  refine kxs_callWith (i := "ValueError.__init__") (x := x) rfl (evalArgs_plain (spliced_cons (ld_here hn3 l2 rfl z5 T.db1 (spliced_cons (ld_here hn3 l3 rfl z6 T.db2 (spliced_nil ⟨Heap.get?_push_size _ rfl, ?_⟩))))))
  refine wrapper_run (kw _ _ (X₂ _ _ hC)) (kw _ _ hx₂) (Heap.get?_push_size _ rfl) (by show 2 ≤ sizeLine; rw [sizeLine_eq]; decide) (fun h4 k4 e4 => ?_)
  have kAll : ∀ b o, b ≠ x → s.heap.get? b = some o → h4.get? b = some o := fun b o nb z => k4 b o nb (kw _ _ (k2' _ _ (kp _ _ z)))
  have X₄ : K.In h4 := kept_of X hnx kAll
  have xL : s.heap.objs.size ≠ x := Nat.ne_of_gt (Heap.lt_size hx)
  have hn4 : h4.Ns s.heap.objs.size (fun y => ([("self", .ref x), (f1, v1), (f2, v2)] : List (Str × Value)).reverse.lookup y) := by
    obtain ⟨o, es, ep, a1, a2, a3⟩ := hn3
    exact ⟨o, es, ep, k4 _ _ xL a1, a2, a3⟩
  refine ks_wpAt_execs_cons (wpAt_of_wpAny (plainObj_wpAny_Assign_Attribute (ld_here hn4 l2 rfl z5 T.db1 (ld_here hn4 l1 rfl z4 (by decide) ?_))))
  have hm : HandSPX.refsVE (.ref C :: bm) = true := hbm
  refine set_plain X₄ (ox := HandSPX.excO C (h2.push (kxs_mw "ValueError.__init__" x)).objs.size) (od := none) ⟨e4, rfl, rfl, trivial⟩ T.sa ?_
  refine HandSPX.exc_osa X₄ e4 hcl hm rfl T.no1 (fun h5 tk5 dx k5' dn dne e5 n5 => ?_)
  have X₅ : K.In h5 := kept_of X₄ hnx k5'
  have hn5 : h5.Ns s.heap.objs.size (fun y => ([("self", .ref x), (f1, v1), (f2, v2)] : List (Str × Value)).reverse.lookup y) := by
    obtain ⟨o, es, ep, a1, a2, a3⟩ := hn4
    exact ⟨o, es, ep, k5' _ _ xL a1, a2, a3⟩
  have big : s.heap.objs.size < h4.objs.size := hn4.lt
  refine ks_wpAt_execs_cons (wpAt_of_wpAny (plainObj_wpAny_Assign_Attribute (ld_here hn5 l3 rfl z6 T.db2 (ld_here hn5 l1 rfl z4 (by decide) ?_))))
  have wi : Within (fun y => if y = f1 then some v1 else none) [f1] := fun y hy => by
    by_cases q : y = f1
    · rw [q]; simp
    · have hy : (if y = f1 then some v1 else none) ≠ none := hy
      rw [if_neg q] at hy; exact absurd rfl hy
  obtain ⟨oD5, esD, epD, hoD, hdD, _⟩ := n5.count wi
  refine set_plain X₅ (ox := { cls := .ref C, dict := some dx, data := .fields #[.ref (h2.push (kxs_mw "ValueError.__init__" x)).objs.size, .none, .none, .none, .bool false, .none] }) (od := some oD5) ⟨e5, rfl, rfl, hoD⟩ T.sa ?_
  refine OEX.osa_old X₅ e5 n5 wi (by show 1 ≤ 1000; decide) hcl hm rfl T.no2 (fun h6 tk6 k6 n6 => ?_)
  refine wpAt_of_wpAny (wpAny_execs_nil ?_)
  have z : s.heap.objs.size ≤ dx := Nat.le_of_lt (Nat.lt_of_lt_of_le big dn)
  exact hq h6 _ dx _ ⟨fun b o nb zz => k6 b o (fun y => by
    have := Heap.lt_size zz
    rw [y] at this
    exact absurd this (Nat.not_lt.mpr z)) (k5' b o nb (kAll b o nb zz)), k6 _ _ (Ne.symm dne) e5, z, dne, n6⟩
/-- such an error, made -/
structure Made (h h' : Heap) (e C d : Addr) (f1 f2 : Str) (v1 v2 : Value) : Prop where
  keep : ∀ b o, h.get? b = some o → h'.get? b = some o
  new : h.objs.size ≤ e
  obj : ∃ oe vs, h'.get? e = some oe ∧ oe.cls = .ref C ∧ oe.dict = some d ∧ oe.data = .fields vs ∧ vs[1]? = some .none
  big : h.objs.size ≤ d
  ne : d ≠ e
  ns : h'.Ns1 d (fun y => if y = f2 then some v2 else if y = f1 then some v1 else none)
theorem err_made {s : Shared} {mb : Str → Option Value} (T : ErrTxt prog K mg nm C fI cc cda f1 f2) {v1 v2 : Value} (X : K.In s.heap) (g1 : s.heap.Ns mainGlobals mg) (g2 : s.heap.Ns builtinsNs mb) (g3 : mb "super" = some (.type "super")) (hlim : s.heap.NoLimit) (hroom : A.depth + 1 < recursionLimit)
    (hq : ∀ h' tk e d, Made s.heap h' e C d f1 f2 v1 v2 → R (.ok (.ret (.ref e))) { s with heap := h', toks := tk }) :
    codeAny (model prog w) A (.call (.ref C) ⟨[v1, v2], []⟩) R s := by
  obtain ⟨cnm, cq, N, bs, bm, sn, sub, ab, col, dd, k0, k1, k2, k3, k5, hC, hbm⟩ := T.cls
  obtain ⟨hp, g, dr, tk, os⟩ := s
  have up : ∀ b o, hp.get? b = some o → ((hp.push (kdv_tup [v1, v2])).push (HandSPX.excO C hp.objs.size)).get? b = some o := fun b o z => Heap.get?_push_of_some _ (Heap.get?_push_of_some _ z)
  have at_x : ((hp.push (kdv_tup [v1, v2])).push (HandSPX.excO C hp.objs.size)).get? (hp.objs.size + 1) = some (HandSPX.excO C hp.objs.size) := by heap_get
  have above : ∀ b o, hp.get? b = some o → b ≠ hp.objs.size + 1 := fun b o z => Nat.ne_of_lt (Nat.lt_succ_of_lt (Heap.lt_size z))
  have fresh : K.lookup (hp.objs.size + 1) = none := by
    cases z : K.lookup (hp.objs.size + 1) with
    | none => rfl
    | some o => exact absurd rfl (above _ _ (X _ _ z))
  have out : ∀ {b : Addr} {m : Str → Option Value}, hp.Ns b m → hp.objs.size + 1 ≠ b := fun {b m} ⟨o, _, _, z, _⟩ y => above b o z y.symm
  refine HandSPX.call_own F.excBase_ValueError (fun X => HandSPX.refsVE_contains X bm hbm) (X _ _ hC) (looks_findIn X T.iC) (fun self => bind_fn X self T.tC) (by show 2 ≤ sizeLine; rw [sizeLine_eq]; decide) ?_
  refine err_init (s := ⟨(hp.push (kdv_tup [v1, v2])).push (HandSPX.excO C hp.objs.size), g, dr, tk, os⟩) T (X.keeps up) (g1.keeps up) (g2.keeps up) g3 (hlim.keeps up) at_x fresh (out g1) (out g2) ?_ fun h' tk' dx t1 D => ?_
  · show A.depth + 1 < recursionLimit
    exact hroom
  · have z : hp.objs.size ≤ dx := by
      have q := D.big
      rw [Heap.size_push, Heap.size_push] at q
      omega
    exact ⟨rfl, hq h' tk' _ dx ⟨fun b o y => D.keep b o (above b o y) (up b o y), Nat.le_succ _, ⟨_, _, D.obj, rfl, rfl, rfl, rfl⟩, z, D.ne, D.ns⟩⟩
end
/-! ### over abstract heaps -/
theorem rel_fields {f1 f2 : Str} {u v : V} {u' v' : Value} (n12 : (f1 == f2) = false) (r1 : RelV u u') (r2 : RelV v v') (f : Str) : RelO (List.lookup f [(f1, u), (f2, v)]) (if f = f2 then some v' else if f = f1 then some u' else none) := by
  have ne : f1 ≠ f2 := fun z => by rw [z] at n12; simp at n12
  by_cases q2 : f = f2
  · subst q2
    have e : (f == f1) = false := by simpa using fun z => ne z.symm
    rw [if_pos rfl, List.lookup_cons, e]
    show RelO (List.lookup f [(f, v)]) (some v')
    rw [List.lookup_cons, beq_self_eq_true]
    exact r2
  · rw [if_neg q2]
    by_cases q1 : f = f1
    · subst q1
      rw [if_pos rfl, List.lookup_cons, beq_self_eq_true]
      exact r1
    · rw [if_neg q1]
      have e1 : (f == f1) = false := by simpa using q1
      have e2 : (f == f2) = false := by simpa using q2
      rw [List.lookup_cons, e1]
      show RelO (List.lookup f [(f2, v)]) none
      rw [List.lookup_cons, e2]
      trivial
section
variable {X : Cx} {nm : Str} {C fI cc cda : Addr} {f1 f2 : Str}
def tMkErr (C : Addr) (f1 f2 : Str) (ta : TA) : L2.St → Hp → XK → Prop := fun σ H Q => ta σ H fun vs H1 => ∃ u v, vs = [u, v] ∧ ∀ d, H1 d = none → Q (.ref C) (some d) (upd H1 d (.xd [(f1, u), (f2, v)]))
theorem pmk_err {a b : Expr} {ta : TA} {p pos : Pos} {k : Nat} (T : ErrTxt X.prog X.K X.mg nm C fI cc cda f1 f2) (hr : Room k X.A) (ha : PA X [a, b] ta) (hg : Gl X nm) (hdb : (nm == ("__debug__" : Str)) = false)
    (he : starEach [a, b] X.env = (false, eval a X.env) :: starEach [b] X.env := by rfl) (hpl : (backTo pos (starEach [b] X.env)).any (·.1) = false := by rfl) :
    PMk X (.Call (.Name nm p) [a, b] [] pos) (tMkErr C f1 f2 ta) := by
  intro pins s σ H Q I h
  refine wpAny_Call_Name_kw (ld_glob I hg T.gC ?_ hdb)
  refine callWith_K (h₀ := X.base) I.ok.mod.kin T.kC (thn (ha.run pos pins s σ H _ I h) fun us s1 hh => ?_) he hpl
  obtain ⟨vs, H1, I1, r1, u, v, ev, q1⟩ := hh
  subst ev
  refine ⟨I1.kIn, ?_⟩
  cases r1 with
  | cons ru rn =>
    rename_i u' us'
    cases rn with
    | cons rv rn =>
      rename_i v' us2
      cases rn
      show wpAny _ _ (call (.ref C) [u', v']) _ _ _
      have lim := I1.nolimit
      have glob : s1.heap.Ns mainGlobals X.mg := I1.mod.glob.keeps I1.bk
      obtain ⟨mb, blt0, hmb⟩ := I1.ok.mod.blt
      have blt : s1.heap.Ns builtinsNs mb := blt0.keeps I1.bk
      have sup : mb "super" = some (.type "super") := (hmb _ (by decide +kernel)).trans (by first | boot_by_name | rfl | kernel_rfl)
      obtain ⟨hp, g, dr, tk, os⟩ := s1
      refine wpAny_call (err_made T I1.kIn glob blt sup lim (by have := hr.dp; omega) fun h' tk' e d M => ?_)
      show MkP X pins σ Q (.ref e) ⟨h', g, dr, tk', os⟩
      obtain ⟨oe, fv, hoe, hc, hd, hdat, h1⟩ := M.obj
      obtain ⟨G', y1, y2⟩ := restrict h' fun b => decide (b ≠ e)
      have same : ∀ b, b ≠ e → G'.get? b = h'.get? b := fun b hb => y1 b (decide_eq_true hb)
      have gone : G'.get? e = none := y2 e (by simp)
      have old : ∀ b o, hp.get? b = some o → G'.get? b = some o := fun b o z => (same b (Nat.ne_of_lt (Nat.lt_of_lt_of_le (Heap.lt_size z) M.new))).trans (M.keep b o z)
      have ob : ObjOk X.prog X.w (upd H1 d (.xd [(f1, u), (f2, v)])) G' d (.xd [(f1, u), (f2, v)]) := ⟨_, M.ns.at (fun o z => (same d M.ne).trans z), fun f => rel_fields T.ne12 ru rv f⟩
      have J : Inv X pins σ (upd H1 d (.xd [(f1, u), (f2, v)])) ⟨G', g, dr, tk', os⟩ := I1.laid (t' := tk') old M.big ob
      refine ⟨e, oe, fv, ⟨G', g, dr, tk', os⟩, _, .ref C, some d, rfl, J, fun b o z => ?_, gone, hoe, ⟨hc, hd⟩, hdat, h1, ?_, rfl, I1.bare, raises_own T.exC T.tyC, q1 d (I1.hok.fresh M.big)⟩
      · by_cases hb : b = e
        · have z' : G'.get? b = some o := z
          rw [hb, gone] at z'; cases z'
        · exact (same b hb).symm.trans z
      · rw [upd_ne (Ne.symm M.ne)]
        exact I1.hok.fresh M.new
end
end ER

set_option maxRecDepth 100000
set_option maxHeartbeats 4000000
/-! DL19: defs that may raise, over data. -/
namespace DL
open PySem PySem.Spec PySem.W PyProof.Rows L2 RZ ER
/-- an exception as data: its class's name, its fields -/
structure XD where
  cls : Str
  fs : List (Str × D)
abbrev CTX := List SV → GS → (SV → GS → Prop) → (XD → GS → Prop) → Prop
abbrev Sp4 := List V → Hp → VK → XK → Prop
/-- an exception of the class c, its own dict at d, is the data x -/
def XRel (mg : Str → Option Value) (Hh : Hp) (c : Value) (d : Option Addr) (x : XD) : Prop :=
  ∃ (C dd : Addr) (fs : List (Str × V)), mg x.cls = some (.ref C) ∧ c = .ref C ∧ d = some dd ∧ Hh dd = some (.xd fs) ∧ Paired (fun (p : Str × V) (q : Str × D) => p.1 = q.1 ∧ Rp Hh p.2 q.2) fs x.fs
theorem XRel.mono {mg : Str → Option Value} {H H' : Hp} {c : Value} {d : Option Addr} {x : XD} (s : Same H H') (h : XRel mg H c d x) : XRel mg H' c d x :=
  let ⟨C, dd, fs, a, b, e, f, r⟩ := h
  ⟨C, dd, fs, a, b, e, s _ _ f, Paired.mapP r fun _ _ ⟨y, z⟩ => ⟨y, Rp.mono s z⟩⟩
structure FnX (pr : Program) (w : World) (K : PySem.W.Frag) (mg : Str → Option Value) (base : Heap) (lv : Nat) (f : Addr) (fd : FuncData) (ps : List Str) (sp : Sp4) : Prop where
  len : ∀ vs H Q E, sp vs H Q E → vs.length = ps.length
  run : ∀ (A : Around) (out : List Env) (s : Shared) (H : Hp) (ar : Args) (us : List Value) (vs : List V) (Q : VK) (E : XK), Room lv A → A.guards = some [] → Env0 pr w K mg base A out s H → BindsTo s fd ar (ps.zip us) → Vals vs us → sp vs H Q E →
    codeAny (model pr w) A (.call (.ref f) ar) (CR (L2.CX pr w) out pr w H s Q E) s
section
variable {pr : Program} {w : World} {K : PySem.W.Frag} {mg : Str → Option Value} {base : Heap}
theorem FnX.mono {j lv : Nat} {f : Addr} {fd : FuncData} {ps : List Str} {sp : Sp4} (g : FnX pr w K mg base j f fd ps sp) (h : j ≤ lv) : FnX pr w K mg base lv f fd ps sp :=
  ⟨g.len, fun A out s H ar us vs Q E hr => g.run A out s H ar us vs Q E (hr.mono h)⟩
theorem FnX.of {x qual : Str} {st : Stmt} {f : Addr} {fd : FuncData} {N ps : List Str} {lv : Nat} {sp : Sp4} (F : Fun K x qual st f fd) (S : FnScope N ps (defScope st)) (len : ∀ vs H Q E, sp vs H Q E → vs.length = ps.length)
    (body : ∀ (cdv : Value) (A : Around) (out : List Env) (s : Shared) (H : Hp) (vs : List V) (Q : VK) (E : XK), Room lv (A.deeper (envOfC qual (defScope st) s.heap.objs.size f cdv)) → (A.deeper (envOfC qual (defScope st) s.heap.objs.size f cdv)).guards = some [] → sp vs H Q E →
      ∃ t, PSs (cxOf (L2.CX pr w) pr w K mg base N qual (defScope st) f cdv A out s H E) (defBody st) t ∧ t { nx := fun _ H' => Q .non H', rt := Q } (start N vs) H) : FnX pr w K mg base (lv + 1) f fd ps sp := by
  obtain ⟨oc, od, kV, doc, pm, an, cdv, ct, osl, rfl, at_f, code⟩ := F.ex
  refine ⟨len, fun A out s H ar us vs Q E hr hg e0 hb r hsp => ?_⟩
  have old : ∀ b o, base.get? b = some o → s.heap.get? b = some o := fun b o z => (e0.bs b o z).1
  have kin : K.In s.heap := e0.mod.kin.keeps old
  have kinds : ∀ y ∈ ps.zip us, (defScope st).names.lookup y.1 = some .local ∨ ((defScope st).names.lookup y.1 = some .cell ∧ ((cellsFrom (s.heap.objs.size + 1) (defScope st).names []).lookup y.1).isSome = true) := by
    rintro ⟨n, v⟩ hy
    exact (S.par n (List.of_mem_zip hy).1).imp id fun z => ⟨z, PySem.W.cellsFrom_some _ _ _ (.inl z)⟩
  refine codeAny_call_function hr.depth (kin f _ at_f) rfl S.co S.gen rfl (PySem.W.codeRec_of kin code) (hb _ _ _ _ (wpAny_newFunctionEnv_cells S.kind kinds fun env he s1 ic => ?_))
  cases he
  refine ⟨(e0.mod.nolimit.keeps old).keeps ic.toInCall.keep, codeAny_func ?_⟩
  obtain ⟨t, ht, hq⟩ := body cdv A out s H vs Q E (hr.deeper _) hg hsp
  have I0 := inv_start (CX := L2.CX pr w) (E := E) S hr.hd e0 (len vs H Q E hsp) r ic
  refine wpAny_mono (ht.run [] s1 (start N vs) H _ I0 hq) (fun fl s' hs => ?_) fun _ _ z => z
  match fl, hs with
  | .ret u, ⟨v, σ', H', J, rv, q⟩ => exact ⟨v, H', J.os, J.bare, J.base, J.hok, rv, q⟩
  | .next, ⟨σ', H', J, q⟩ => exact ⟨.non, H', J.os, J.bare, J.base, J.hok, rfl, q⟩
  | .brk, ⟨_, _, _, q⟩ => exact False.elim q
  | .cont, ⟨_, _, _, q⟩ => exact False.elim q
end
/-! ### calls -/
section
variable {X : Cx} {lv : Nat} {f : Addr} {fd : FuncData} {ps ks : List Str} {sp : Sp4} {x : Str} {p pos : Pos} {e : Expr} {es : List Expr} {kws : List Keyword} {t tk : TA} {W : WX}
theorem wp_call_x {pins : List (Addr × Obj)} {σ : L2.St} {H : Hp} {s : Shared} {Q : VK} {us' : List Value} {kw : List (Str × Value)} {us : List Value} {vs : List V} (g : FnX X.prog X.w X.K X.mg X.base lv f fd ps sp) (tk : Takes X W) (hr : Room lv X.A) (hg : X.A.guards = some []) (I : Inv X pins σ H s) (hb : BindsTo s fd ⟨us', kw⟩ (ps.zip us)) (r : Vals vs us) (h : sp vs H Q fun c d H' => W c d σ H') :
    wpAny (model X.prog X.w) X.A (call (.ref f) us' kw) (EP X pins σ Q) X.xe s := by
  refine wpAny_call (codeAny_mono (g.run X.A X.stack s H ⟨us', kw⟩ us vs Q _ hr hg I.env0 hb r h) fun r s' q => ?_)
  match r, q with
  | .ok (.ret u), q => exact I.after q
  | .ok .next, q => exact False.elim q
  | .ok .brk, q => exact False.elim q
  | .ok .cont, q => exact False.elim q
  | .error e, q => exact tk _ _ (XE.of_call I (fun _ _ _ z => z) q)
def tCallX (sp : Sp4) (W : WX) (dvs : List V) (t : TA) : TE := fun σ H Q => t σ H fun vs H1 => sp (vs ++ dvs) H1 Q fun c d H' => W c d σ H'
theorem pe_callX {ds : List Value} {dvs : List V} (g : FnX X.prog X.w X.K X.mg X.base lv f fd ps sp) (tk : Takes X W) (hr : Room lv X.A) (hgd : X.A.guards = some []) (hm : X.mg x = some (.ref f)) (hk : PySem.W.keepIn X.K (.ref f) = true) (hb : Binds X.K fd ps ds) (hd : Vals dvs ds) (ha : PA X (e :: es) t) (hg : Gl X x := by rfl)
    (hdb : (x == ("__debug__" : Str)) = false := by decide) (he : starEach (e :: es) X.env = (false, eval e X.env) :: starEach es X.env := by rfl) (hpl : (backTo pos (starEach es X.env)).any (·.1) = false := by rfl) :
    PE X (.Call (.Name x p) (e :: es) [] pos) (tCallX sp W dvs t) := by
  constructor
  intro pins s σ H Q I h
  apply wpAny_Call_Name_kw
  apply ld_glob I hg hm _ hdb
  refine PySem.W.callWith_K (h₀ := X.base) I.ok.mod.kin hk (thn (ha.run pos pins s σ H _ I h) ?_) he hpl
  rintro us s1 ⟨vs, H1, I1, r, q⟩
  have r2 : Vals (vs ++ dvs) (us ++ ds) := Vals.append r hd
  have hl : (us ++ ds).length = ps.length := by
    rw [← r2.length]; exact g.len _ _ _ _ q
  exact ⟨I1.kIn, wp_call_x g tk hr hgd I1 (hb s1 us I1.kIn hl) r2 q⟩
def tCallXK (sp : Sp4) (W : WX) (gV : List V → List V) (tk : TA) : TE := fun σ H Q => tk σ H fun zs H1 => sp (gV zs) H1 Q fun c d H' => W c d σ H'
theorem pe_callXK {gv : List Value → List Value} {gV : List V → List V} (g : FnX X.prog X.w X.K X.mg X.base lv f fd ps sp) (tk' : Takes X W) (hr : Room lv X.A) (hgd : X.A.guards = some []) (hm : X.mg x = some (.ref f)) (hk : PySem.W.keepIn X.K (.ref f) = true) (hb : KwB X.K fd ps ks gv gV) (hkw : PK X kws tk) (hg : Gl X x := by rfl)
    (hall : (backToKw pos (keywordEach kws X.env)).all (·.1.isSome) = true := by rfl) (hks : (backToKw pos (keywordEach kws X.env)).filterMap (·.1) = ks := by rfl) (hdb : (x == ("__debug__" : Str)) = false := by decide)
    (hpl : ((backTo pos (starEach [] X.env)).any (·.1) || (backToKw pos (keywordEach kws X.env)).any (·.1.isNone)) = false := by rfl) :
    PE X (.Call (.Name x p) [] kws pos) (tCallXK sp W gV tk) := by
  constructor
  intro pins s σ H Q I h
  apply wpAny_Call_Name_kw
  apply ld_glob I hg hm _ hdb
  refine PySem.W.callWith_KW0 (h₀ := X.base) I.ok.mod.kin hk hall (thn (hkw.run pos pins s σ H _ I h) ?_) hpl
  rintro ws s1 ⟨zs, H1, I1, r, q⟩
  rw [hks]
  have r2 := hb.rel r
  exact ⟨I1.kIn, wp_call_x g tk' hr hgd I1 (hb.to s1 ws I1.kIn (by rw [← r2.length]; exact g.len _ _ _ _ q)) r2 q⟩
end
/-! ### promises over data -/
def lSpX (K : PySem.W.Frag) (mg : Str → Option Value) (ct : CTX) : Sp4 := fun vs H Q E => ∃ ga P G xs Qd Wd, CInv ga P G H ∧ Paired (VRel (fxC K ga) P H) xs vs ∧ ct xs G Qd Wd ∧
  (∀ v H' x G', (∀ a o, H a = some o → a ∉ ga → H' a = some o) → CInv ga P G' H' → VRel (fxC K ga) P H' x v → Qd x G' → Q v H') ∧
  ∀ c d H' x G', (∀ a o, H a = some o → a ∉ ga → H' a = some o) → CInv ga P G' H' → XRel mg (hide H' P) c d x → Wd x G' → E c d H'
/-- the wish about exceptions of a frame -/
def lW (F : Fx) (mg : Str → Option Value) (W : XD → GS → Prop) : WX := fun c d _ H => ∃ P G x, HInv F P G H ∧ XRel mg (hide H P) c d x ∧ W x G
theorem CInv.back {F : Fx} {P P' : List Addr} {G : GS} {H : Hp} (J : HInv F P' G H) (h1 : ∀ a ∈ P, a ∈ P') (h2 : ∀ a ∈ F.ga, a ∈ P) : CInv F.ga P G H ∧ Same (hide H P') (hide H P) := by
  have less : Same (hide H P') (hide H P) := hide_less h1
  refine ⟨⟨fun a m => J.pd a (h1 a m), h2, J.gn, Paired.mapP J.gl fun a o q => ?_⟩, less⟩
  cases o with
  | dict kvs =>
    obtain ⟨ks, z1, z2⟩ := q
    exact ⟨ks, z1, Paired.mapP z2 fun _ _ ⟨y1, y2⟩ => ⟨y1, Rp.mono less y2⟩⟩
  | tab b q' => exact q
section
variable {pr : Program} {w : World} {K : PySem.W.Frag} {mg : Str → Option Value} {base : Heap}
theorem FnX.data {x qual : Str} {st : Stmt} {f : Addr} {fd : FuncData} {N ps : List Str} {lv : Nat} {ct : CTX} (Fn : Fun K x qual st f fd) (S : FnScope N ps (defScope st)) (t : (XD → GS → Prop) → TDS)
    (body : ∀ (cdv : Value) (A : Around) (out : List Env) (s : Shared) (H : Hp) (F : Fx) (E : XK) (W : XD → GS → Prop), F.K = K → Room lv (A.deeper (envOfC qual (defScope st) s.heap.objs.size f cdv)) → (A.deeper (envOfC qual (defScope st) s.heap.objs.size f cdv)).guards = some [] →
      Takes (cxOf (L2.CX pr w) pr w K mg base N qual (defScope st) f cdv A out s H E) (lW F mg W) → DSs (cxOf (L2.CX pr w) pr w K mg base N qual (defScope st) f cdv A out s H E) F (defBody st) (t W))
    (read : ∀ xs G Q W, ct xs G Q W → xs.length = ps.length ∧ t W { nx := fun _ G' => Q (.d .none) G', rt := Q } (startD N.length xs) G) : FnX pr w K mg base (lv + 1) f fd ps (lSpX K mg ct) := by
  refine FnX.of Fn S (fun vs H Q E h => ?_) fun cdv A out s H vs Q E hr hg h => ?_
  · obtain ⟨ga, P, G, xs, Qd, Wd, c, r, h, _⟩ := h
    rw [← Paired.length r]
    exact (read xs G Qd Wd h).1
  · obtain ⟨ga, P, G, xs, Qd, Wd, c, r, h, k, kx⟩ := h
    let F : Fx := ⟨K, ga, H, P, c.pd⟩
    have tk : Takes (cxOf (L2.CX pr w) pr w K mg base N qual (defScope st) f cdv A out s H E) (lW F mg Wd) := by
      have tk0 : Takes (cxOf (L2.CX pr w) pr w K mg base N qual (defScope st) f cdv A out s H E) (fun cls d _ H => E cls d H) := takes_of rfl rfl rfl rfl
      refine tk0.imp fun cc d σ' H' ⟨P', G', y, J, xr, hw⟩ => ?_
      obtain ⟨c', less⟩ := CInv.back (P := P) J J.sub c.gp
      exact kx cc d H' y G' (fun a o q n => J.fr a o q n) c' (xr.mono less) hw
    refine ⟨lS F (t Wd), body cdv A out s H F E Wd rfl hr hg tk, P, startD N.length xs, G, _, start_inv c r F rfl rfl rfl rfl, (read xs G Qd Wd h).2, ?_⟩
    constructor
    · intro P' env' G' σ' H' J s' h'
      obtain ⟨c', less⟩ := CInv.back (P := P) J.h J.h.sub c.gp
      exact k .non H' (.d .none) G' (fun a o q n => J.h.fr a o q n) c' Rp.non h'
    · intro P' env' G' σ' H' J s' h'; exact h'
    · intro P' env' G' σ' H' J s' h'; exact h'
    · intro P' v H' y G' J s' rv h'
      obtain ⟨c', less⟩ := CInv.back (P := P) J J.sub c.gp
      exact k v H' y G' (fun a o q n => J.fr a o q n) c' (VRel.mono less (vrel_fx rv)) h'
end
/-! ### calls over data -/
section
variable {X : Cx} {F : Fx} {lv : Nat} {f : Addr} {fd : FuncData} {ps ks : List Str} {ct : CTX} {x : Str} {p pos : Pos} {e a b : Expr} {es : List Expr} {kws : List Keyword} {t : TDA} {W : XD → GS → Prop}
def tdFnX (W : XD → GS → Prop) (ct : CTX) (ds : List SV) (t : TDA) : TDE := fun env G Q => t env G fun xs G1 => ct (xs ++ ds) G1 Q W
theorem lSpX_of {P : List Addr} {env : DEnv} {G1 : GS} {σ σ' : L2.St} {H1 : Hp} {vs : List V} {xs : List SV} {Qd : SV → GS → Prop} {Q : VK} (hK : F.K = X.K) (I1 : DInv F P env G1 σ H1) (r1 : Paired (VRel F P H1) xs vs) (h1 : ct xs G1 Qd W)
    (k : ∀ v H' y G', DInv F P env G' σ H' → Kp F H1 H' → VRel F P H' y v → Qd y G' → Q v H') : lSpX X.K X.mg ct vs H1 Q fun c d H' => lW F X.mg W c d σ' H' := by
  refine ⟨F.ga, P, G1, xs, Qd, W, I1.h.cinv, Paired.mapP r1 fun _ _ q => by rw [← hK]; exact vrel_fx q, h1, fun v H2 y G2 fr c2 rv h2 => ?_, fun c d H2 y G2 fr c2 xr h2 => ?_⟩
  · have J : HInv F P G2 H2 := ⟨fun a o q n => fr a o (I1.h.fr a o q n) n, c2.pd, I1.h.sub, I1.h.gp, I1.h.g0, I1.h.gn, c2.gl⟩
    exact k v H2 y G2 (I1.later J fr) fr (by rw [← hK] at rv; exact vrel_xf rv) h2
  · exact ⟨P, G2, y, ⟨fun a o q n => fr a o (I1.h.fr a o q n) n, c2.pd, I1.h.sub, I1.h.gp, I1.h.g0, I1.h.gn, c2.gl⟩, xr, h2⟩
/-- a default that is no object -/
def vOf : D → V
  | .bool b => .bl b
  | .int i => .int i
  | .str s => .str s
  | _ => .non
theorem vOf_rp {H : Hp} : ∀ {d : D}, flatD d = true → Rp H (vOf d) d
  | .none, _ => .non
  | .bool b, _ => .bl b
  | .int i, _ => .int i
  | .str s, _ => .str s
  | .list _, q => by cases q
  | .tuple _, q => by cases q
  | .dict _, q => by cases q
theorem defs_rel {P : List Addr} {H : Hp} : ∀ {ds : List D}, ds.all flatD = true → Paired (VRel F P H) (ds.map SV.d) (ds.map vOf)
  | [], _ => .nil
  | d :: ds, h => by
    rw [List.all_cons, Bool.and_eq_true] at h
    exact .cons (vOf_rp h.1) (defs_rel h.2)
theorem paired_app {α β : Type} {R : α → β → Prop} : ∀ {xs xs' : List α} {ys ys' : List β}, Paired R xs ys → Paired R xs' ys' → Paired R (xs ++ xs') (ys ++ ys')
  | _, _, _, _, .nil, h => h
  | _, _, _, _, .cons a r, h => .cons a (paired_app r h)
theorem de_fnX (g : FnX X.prog X.w X.K X.mg X.base lv f fd ps (lSpX X.K X.mg ct)) (tk : Takes X (lW F X.mg W)) (hr : Room lv X.A) (hgd : X.A.guards = some []) (hK : F.K = X.K) (hm : X.mg x = some (.ref f)) (hk : PySem.W.keepIn X.K (.ref f) = true) {dvs : List Value} {ds : List D} (hb : Binds X.K fd ps dvs) (hd : Vals (ds.map vOf) dvs) (hf : ds.all flatD = true) (ha : DA X F (e :: es) t) (hg : Gl X x := by rfl)
    (hdb : (x == ("__debug__" : Str)) = false := by decide) (he : starEach (e :: es) X.env = (false, eval e X.env) :: starEach es X.env := by rfl) (hpl : (backTo pos (starEach es X.env)).any (·.1) = false := by rfl) :
    DE X F (.Call (.Name x p) (e :: es) [] pos) (tdFnX W ct (ds.map SV.d) t) :=
  PE.imp (pe_callX g tk hr hgd hm hk hb hd ha hg hdb he hpl) fun σ H Q ⟨P, env, G, Qd, I, h, k⟩ => ⟨P, env, G, _, I, h, fun vs H1 xs G1 I1 s1 r1 h1 =>
    lSpX_of (σ' := σ) hK I1 (paired_app r1 (defs_rel hf)) h1 fun v H2 y G2 I2 s2 r2 h2 => k v H2 y G2 I2 (Kp.trans s1 s2) r2 h2⟩
def tdFnXK (W : XD → GS → Prop) (ct : CTX) (gS : List SV → List SV) (t : TDA) : TDE := fun env G Q => t env G fun xs G1 => ct (gS xs) G1 Q W
theorem de_fnXK {gv : List Value → List Value} {gV : List V → List V} {gS : List SV → List SV} (g : FnX X.prog X.w X.K X.mg X.base lv f fd ps (lSpX X.K X.mg ct)) (tk : Takes X (lW F X.mg W)) (hr : Room lv X.A) (hgd : X.A.guards = some []) (hK : F.K = X.K) (hm : X.mg x = some (.ref f)) (hk : PySem.W.keepIn X.K (.ref f) = true)
    (hb : KwB X.K fd ps ks gv gV) (hS : ∀ {R : SV → V → Prop} {xs : List SV} {vs : List V}, Paired R xs vs → Paired R (gS xs) (gV vs)) (ha : DK X F kws t) (hg : Gl X x := by rfl)
    (hall : (backToKw pos (keywordEach kws X.env)).all (·.1.isSome) = true := by rfl) (hks : (backToKw pos (keywordEach kws X.env)).filterMap (·.1) = ks := by rfl) (hdb : (x == ("__debug__" : Str)) = false := by decide)
    (hpl : ((backTo pos (starEach [] X.env)).any (·.1) || (backToKw pos (keywordEach kws X.env)).any (·.1.isNone)) = false := by rfl) :
    DE X F (.Call (.Name x p) [] kws pos) (tdFnXK W ct gS t) :=
  PE.imp (pe_callXK g tk hr hgd hm hk hb ha hg hall hks hdb hpl) fun σ H Q ⟨P, env, G, Qd, I, h, k⟩ => ⟨P, env, G, _, I, h, fun vs H1 xs G1 I1 s1 r1 h1 =>
    lSpX_of (σ' := σ) hK I1 (hS r1) h1 fun v H2 y G2 I2 s2 r2 h2 => k v H2 y G2 I2 (Kp.trans s1 s2) r2 h2⟩
/-- raise C(a, b) -/
def tdRaise (W : XD → GS → Prop) (nm f1 f2 : Str) (t : TDA) : TDS := fun D env G => t env G fun xs G1 => asAll xs fun ds => match ds with
  | [u, v] => W ⟨nm, [(f1, u), (f2, v)]⟩ G1
  | _ => False
theorem ds_raise {nm f1 f2 : Str} {C fI cc cda : Addr} {pos2 : Pos} (T : ErrTxt X.prog X.K X.mg nm C fI cc cda f1 f2) (hr : Room lv X.A) (tk : Takes X (lW F X.mg W)) (ha : DA X F [a, b] t) (hc : X.calm = true := by rfl) (hg : Gl X nm := by rfl) (hdb : (nm == ("__debug__" : Str)) = false := by decide)
    (he : starEach [a, b] X.env = (false, eval a X.env) :: starEach [b] X.env := by rfl) (hpl : (backTo pos (starEach [b] X.env)).any (·.1) = false := by rfl) :
    DS X F (.Raise (some (.Call (.Name nm p) [a, b] [] pos)) none pos2) (tdRaise W nm f1 f2 t) :=
  PS.imp (ps_raise hc tk (pmk_err T hr ha hg hdb he hpl)) fun σ H D ⟨P, env, G, Dd, I, h, k⟩ => ⟨P, env, G, _, I, h, fun vs H1 xs G1 I1 s1 r1 h1 => by
    have h1 : asAll xs _ := h1
    obtain ⟨ds, rfl, h2⟩ := asAll_inv h1
    have ra := rpAll_of r1
    match ds, h2, ra with
    | [u, v], h2, .cons (v := u') ru (.cons (v := v') rv .nil) =>
      refine ⟨u', v', rfl, fun d hd => ?_⟩
      have s2 : Same H1 (upd H1 d (.xd [(f1, u'), (f2, v')])) := same_upd hd
      have J := I1.ext s2
      have top := hide_same (P := P) s2
      exact ⟨P, G1, _, J.h, ⟨C, d, _, T.gC, rfl, rfl, I1.h.hideNew hd, .cons ⟨rfl, Rp.mono top ru⟩ (.cons ⟨rfl, Rp.mono top rv⟩ .nil)⟩, h2⟩⟩
end
end DL

set_option maxRecDepth 100000
set_option maxHeartbeats 4000000
/-! DL20: a lambda handed to a def that tries it: the heap told exactly. -/
namespace LM
open PySem PySem.Spec PyProof.Rows L2 LamX
/-- behind the making of a lambda: nothing new, or one more code object in the table at P -/
def Step (P : Addr) (q : Str) (H H1 : Hp) : Prop := H1 = H ∨ ∃ (ps more : Array Value) (c : Addr), H P = some (.tbl ps) ∧ H c = none ∧ H1 = upd (upd H P (.tbl (ps ++ more))) c (CodeO c q)
section
variable {X : Cx} {pins : List (Addr × Obj)} {σ : L2.St} {H HZ : Hp} {s s1 : Shared}
abbrev lamQ (X : Cx) : Str := X.env.qual ++ "<lambda>"
theorem high_free (I : Inv X pins σ H s) {f : Addr} (hf : s.heap.objs.size ≤ f) : f ∉ frs X.stack := by
  intro z
  rcases List.mem_cons.mp (I.stkSub _ z) with e | e
  · have low := I.lt
    rw [e] at hf
    exact Nat.lt_irrefl _ (Nat.lt_of_lt_of_le low hf)
  · exact I.nofs hf e
theorem lam_new {c P : Addr} {params : Arguments} {body : Expr} {scope : Scope} {pos : Pos} {E : Value → Shared → Prop} {Q : Value → Shared → Prop} (I : Inv X pins σ H s) (TB : TabB X.base X.mg c P) (hcode : X.env.code = .ref c) (tab : TabS H P (lamQ X))
    (hdef : defaultsOf params X.env = ([], [])) (hfree : ∀ y ∈ scope.names, y.2 = .free → ∃ c, X.env.cells.lookup y.1 = some c)
    (k : ∀ (f c' : Addr) (pm ctv : Value) (H1 : Hp) (s' : Shared), Inv X pins σ H1 s' → Step P (lamQ X) H H1 → TabS H1 P (lamQ X) → s'.heap.get? f = some (PySem.W.kla_obj "<lambda>" (lamQ X) params body scope (cloFrom X.env.cells scope.names []) pm c' ctv) →
      H1 f = none → f ∉ frs X.stack → H1 c' = some (CodeO c' (lamQ X)) → Q (.ref f) s') : wpAny (model X.prog X.w) X.A (eval (.Lambda params body scope pos) X.env) Q E s := by
  obtain ⟨ps, at_P, three, among⟩ := tab
  have in_P := I.hok P _ at_P
  have blt : s.heap.BuiltinsAt X.mg P := TB.bm.keeps I.bk
  have glb := I.mod.glob.keeps I.bk
  have cdh := TB.code.keeps I.bk
  refine PySem.W.kla_eval hdef ?_
  cases found : codeAmong pos ps.toList with
  | some cv =>
    obtain ⟨c', rfl, at_c⟩ := among pos cv found
    refine PySem.W.kla_makeFunctionHit (mg := X.mg) (c := c) (P := P) (ps := ps) (closure_ok hfree) I.ok.glob glb hcode cdh in_P three found blt fun ctv h' tk old big => ?_
    have J : Inv X pins σ H { s with heap := h'.push (PySem.W.kla_obj "<lambda>" (lamQ X) params body scope (cloFrom X.env.cells scope.names []) ((X.mg "__name__").getD .none) c' ctv), toks := tk } := I.kept fun b o z => Heap.get?_push_of_some _ (old b o z)
    exact k _ c' _ ctv H _ J (.inl rfl) ⟨ps, at_P, three, among⟩ (Heap.get?_push_size _ rfl) (I.hok.fresh big) (high_free I big) at_c
  | none =>
    refine PySem.W.kla_makeFunction (mg := X.mg) (c := c) (P := P) (ps := ps) (closure_ok hfree) I.ok.glob glb hcode cdh in_P three found TB.gP blt fun c' ctv h' tk old big lt rec at_P' => ?_
    obtain ⟨c2, oc, vs, t, e2, y1, y2, y3⟩ := rec
    cases e2
    have new_c : H c' = none := I.hok.fresh big
    have big2 : s.heap.objs.size ≤ h'.objs.size := by omega
    have J := inv_table (t' := tk) (more := #[rawInt pos.line, rawInt pos.col, .ref c']) (h' := h'.push (PySem.W.kla_obj "<lambda>" (lamQ X) params body scope (cloFrom X.env.cells scope.names []) ((X.mg "__name__").getD .none) c' ctv)) I at_P
      (fun b o hb z => Heap.get?_push_of_some _ (old b o hb z)) (Heap.get?_push_of_some _ at_P') big ⟨oc, vs, t, Heap.get?_push_of_some _ y1, y2, y3⟩
    have PneC : P ≠ c' := ne_of_none at_P new_c
    have tl : (ps ++ #[rawInt pos.line, rawInt pos.col, .ref c']).toList = ps.toList ++ [rawInt pos.line, rawInt pos.col, .ref c'] := by simp
    refine k _ c' _ ctv _ _ J (.inr ⟨ps, _, c', at_P, new_c, rfl⟩) ⟨_, by rw [upd_ne PneC, upd_same], by rw [tl]; exact PySem.TriplesOk_snoc _ _ _ _ three, fun p' cv hcv => ?_⟩ (Heap.get?_push_size _ rfl) ?_ (high_free I big2) upd_same
    · rw [tl] at hcv
      rcases among_app _ three hcv with z | z
      · obtain ⟨c0, z1, z2⟩ := among p' cv z
        have n1 : c0 ≠ c' := ne_of_none z2 new_c
        have n2 : c0 ≠ P := fun y => by
          rw [y, at_P] at z2
          exact codeO_ne ps (Option.some.inj z2).symm
        exact ⟨c0, z1, by rw [upd_ne n1, upd_ne n2]; exact z2⟩
      · exact ⟨c', z, upd_same⟩
    · have lowP := Heap.lt_size in_P
      rw [upd_ne (Nat.ne_of_gt lt), upd_ne (Nat.ne_of_gt (Nat.lt_of_lt_of_le lowP big2))]
      exact I.hok.fresh big2
/-- the lambda called by the def that got it: that def runs from s on in the heap H -/
theorem lam_called {CXg : CXT} {Eg : XK} {Ng : List Str} {qg : Str} {sg : Scope} {g f c' : Addr} {cdg pm ctv : Value} {params : Arguments} {body : Expr} {scope : Scope} {lv i : Nat} {a : Str} {pn : List (Addr × Obj)} {xe : Value → Shared → Prop} {W : WX} {E : XK} {tb : TE} {p1 p2 : Pos}
    (I : Inv X pins σ H s) (L : LamS X.env.scope scope) (at_f : s.heap.get? f = some (PySem.W.kla_obj "<lambda>" (lamQ X) params body scope (cloFrom X.env.cells scope.names []) pm c' ctv)) (nf : H f = none) (nfr : f ∉ frs X.stack)
    (none_ : bindArgs (PySem.W.kla_fn "<lambda>" (lamQ X) params body scope (cloFrom X.env.cells scope.names []) pm (.ref c') ctv) ⟨[], []⟩ = pure [])
    (tk : Takes ((cxOf CXg X.prog X.w X.K X.mg X.base Ng qg sg g cdg X.A X.stack s H Eg).tr pn xe) W) (hW : ∀ cls d σ' H', σ'.length = Ng.length → E cls d H' → W cls d σ' H') (hr : Room (lv + 1) (X.A.deeper (envOfC qg sg s.heap.objs.size g cdg)))
    (run : ∀ (A : Around) (outer : List Env) (s : Shared) (H : Hp), A.guards = X.A.guards → Room lv (A.deeper (lamEnv X scope s.heap.objs.size f c')) → PE (lamCx X A outer s H E scope f c') body tb)
    (hN : Ng[i]? = some a) (hv : Vis sg a) (hd : (a == ("__debug__" : Str)) = false) (hcd : (a == ("__classdict__" : Str)) = false) :
    PE ((cxOf CXg X.prog X.w X.K X.mg X.base Ng qg sg g cdg X.A X.stack s H Eg).tr pn xe) (.Call (.Name a p1) [] [] p2) (fun σ2 H2 Q => σ2[i]? = some (some (.ref f)) ∧ H2 c' = some (CodeO c' (lamQ X)) ∧ tb σ H2 Q) := by
  constructor
  rintro pins2 s2 σ2 H2 Q I2 ⟨slot, at_c, ht⟩
  have named := (pe_var (X := (cxOf CXg X.prog X.w X.K X.mg X.base Ng qg sg g cdg X.A X.stack s H Eg).tr pn xe) (pos := p1) (i := i) hN hv hd hcd).run pins2 s2 σ2 H2 (fun v H' => v = .ref f ∧ H' = H2) I2 ⟨.ref f, slot, rfl, rfl⟩
  refine wpAny_Call_Name_kw (thn named ?_)
  rintro u s3 ⟨v, H3, I3, ru, rfl, rfl⟩
  have hu : u = Value.ref f := ru
  subst hu
  have at_f3 := I3.base.keep f _ at_f nf nfr (fun z => nomatch (show f ∈ ([] : List Addr) from z))
  refine PySem.W.callWith_F0 ⟨_, _, _, _, at_f3⟩ ?_
  obtain ⟨⟨oc, vs, t, y1, y2, y3⟩, _, _⟩ := I3.hok c' _ at_c
  have un : Un (frs X.stack) [] H H3 s.heap s3.heap := I3.base
  have code : codeAny (model X.prog X.w) (X.A.deeper (envOfC qg sg s.heap.objs.size g cdg)) (.call (.ref f) ⟨[], []⟩) (CR (L2.CX X.prog X.w) (envOfC qg sg s.heap.objs.size g cdg :: X.stack) X.prog X.w H3 s3 Q E) s3 := by
    refine PySem.W.kla_callFunE hr.depth at_f3 rfl L.co L.gen rfl ⟨c', oc, vs, t, rfl, y1, y2, y3⟩ ?_
    rw [none_]
    refine wpAny_pure (wpAny_newFunctionEnv (fun y hy => (L.own y hy).2) (fun y hy => nomatch hy) (fun h₁ ns sb => ⟨I3.nolimit.fresh _ sb, ?_⟩) L.kind)
    have old : ∀ b o, s3.heap.get? b = some o → h₁.get? b = some o := fun b o z => sb.extBut b o (Nat.ne_of_lt (Heap.lt_size z)) (Heap.get?_push_of_some _ z)
    have J : Inv (lamCx X (X.A.deeper (envOfC qg sg s.heap.objs.size g cdg)) (envOfC qg sg s.heap.objs.size g cdg :: X.stack) s3 H3 E scope f c') [] σ H3 { s3 with heap := h₁, toks := s3.toks + ([] : List (Str × Value)).length } :=
      lam_start2 I L I3.env0 hr.hd un ns old
    show codeAny _ _ (.expr body (lamEnv X scope s3.heap.objs.size f c')) _ _
    refine PySem.W.kla_codeExpr (wpAny_mono ((run (X.A.deeper (envOfC qg sg s.heap.objs.size g cdg)) _ s3 H3 rfl (hr.deeper _)).run [] _ _ H3 Q J ht) (fun v s' q => ?_) fun _ _ q => q)
    obtain ⟨v', H', J', rv, q⟩ := q
    exact ⟨v', H', J'.os, J'.bare, J'.base, J'.hok, rv, q⟩
  refine wpAny_call (codeAny_mono code fun r s' q => ?_)
  match r, q with
  | .ok (.ret u), q => exact I3.after q
  | .ok .next, q => exact False.elim q
  | .ok .brk, q => exact False.elim q
  | .ok .cont, q => exact False.elim q
  | .error e, q => exact tk _ _ (XE.of_call I3 (fun cls d H' z => hW cls d σ2 H' I3.len z) q)
end
/-- the def g that calls what it got (its first parameter a): TT is what it makes of the lambda's reading -/
def Gives (X : Cx) (Ng : List Str) (x : Str) (sg : Scope) (g : Addr) (cdg : Value) (bg : List Stmt) (a q : Str) (TT : (XK → Hp → VK → Prop) → Hp → VK → Prop) : Prop :=
  ∀ (f c' : Addr) (s : Shared) (H : Hp) (Q : VK) (tl : XK → Hp → VK → Prop),
    (∀ (W : WX) (pn : List (Addr × Obj)) (xe : Value → Shared → Prop) (E : XK) (p1 p2 : Pos), Takes ((cxOf C8.CX0 X.prog X.w X.K X.mg X.base Ng x sg g cdg X.A X.stack s H C8.E0).tr pn xe) W → (∀ cls d σ' H', σ'.length = Ng.length → E cls d H' → W cls d σ' H') →
      PE ((cxOf C8.CX0 X.prog X.w X.K X.mg X.base Ng x sg g cdg X.A X.stack s H C8.E0).tr pn xe) (.Call (.Name a p1) [] [] p2) (fun σ2 H2 Q2 => σ2[0]? = some (some (.ref f)) ∧ H2 c' = some (CodeO c' q) ∧ tl E H2 Q2)) →
    H c' = some (CodeO c' q) → TT tl H Q → ∃ t, PSs (cxOf C8.CX0 X.prog X.w X.K X.mg X.base Ng x sg g cdg X.A X.stack s H C8.E0).nox bg t ∧ t { nx := fun _ H' => Q .non H', rt := Q } (L2.start Ng [.ref f]) H
def tLm (P : Addr) (q : Str) (TT : (XK → Hp → VK → Prop) → Hp → VK → Prop) (t : XK → TE) : TE := fun σ H Q => TabS H P q ∧ ∀ H1, Step P q H H1 → TabS H1 P q → TT (fun E H' Q' => t E σ H' Q') H1 Q
section
variable {X : Cx}
/-- x(lambda: body) -/
theorem pe_lm {TT : (XK → Hp → VK → Prop) → Hp → VK → Prop} {x a : Str} {g c P : Addr} {lv : Nat} {pg : Arguments} {bg : List Stmt} {sg : Scope} {dV kV doc pm cdv ct oc : Value} {an od : Option Addr} {osl : Array (Option Value)} {Ng : List Str} {params : Arguments} {body : Expr} {scope : Scope} {t : XK → TE} {p lpos pos : Pos}
    (hg : Gl X x) (hm : X.mg x = some (.ref g)) (hk : PySem.W.keepIn X.K (.ref g) = true) (lk : X.K.lookup g = some ⟨oc, od, .func (PySem.W.fnOf x x pg bg sg dV kV doc pm an cdv ct), osl⟩) (hcg : PySem.W.codeIn X.K cdv x = true) (hb : L2.Binds X.K (PySem.W.fnOf x x pg bg sg dV kV doc pm an cdv ct) [a] [])
    (Sg : FnScope Ng [a] sg) (hNg : Ng[0]? = some a) (hva : Vis sg a) (hG : Gives X Ng x sg g cdv bg a (lamQ X) TT) (TB : TabB X.base X.mg c P) (hcode : X.env.code = .ref c) (hr : Room (lv + 2) X.A) (L : LamS X.env.scope scope) (hdef : defaultsOf params X.env = ([], []))
    (none_ : ∀ (q : Str) (cl : List (Str × Addr)) (pm cv ctv : Value), bindArgs (PySem.W.kla_fn "<lambda>" q params body scope cl pm cv ctv) ⟨[], []⟩ = pure [])
    (run : ∀ (A : Around) (outer : List Env) (s : Shared) (H : Hp) (E : XK) (f c' : Addr), A.guards = X.A.guards → Room lv (A.deeper (lamEnv X scope s.heap.objs.size f c')) → PE (lamCx X A outer s H E scope f c') body (t E))
    (hdb : (x == ("__debug__" : Str)) = false) (hd : (a == ("__debug__" : Str)) = false) (hcd : (a == ("__classdict__" : Str)) = false) :
    PE X (.Call (.Name x p) [.Lambda params body scope lpos] [] pos) (tLm P (lamQ X) TT t) := by
  constructor
  rintro pins s σ H Q I ⟨tab, h⟩
  refine wpAny_Call_Name_kw (ld_glob I hg hm ?_ hdb)
  refine PySem.W.callWith_K (h₀ := X.base) I.ok.mod.kin hk ?_ (by rfl) (by rfl)
  show wpAny _ _ (spliced ((false, eval (.Lambda params body scope lpos) X.env) :: backTo pos (starEach [] X.env))) _ _ s
  refine Calls.spliced_cons (lam_new I TB hcode tab hdef (L.has I.ok) fun f c' pm' ctv H1 s' I1 st tab1 at_f nf nfr at_c => Calls.spliced_nil ⟨I1.kIn, ?_⟩)
  have code : codeAny (model X.prog X.w) X.A (.call (.ref g) ⟨[.ref f], []⟩) (CR C8.CX0 X.stack X.prog X.w H1 s' Q C8.E0) s' := by
    refine run_ofS (N := Ng) (ps := [a]) (us := [.ref f]) (vs := [.ref f]) lk hcg Sg hr I1.env0 (hb s' [.ref f] I1.kIn rfl) (.cons rfl .nil) rfl fun hr' => ?_
    obtain ⟨t', ht', hq'⟩ := hG f c' s' H1 Q (fun E H' Q' => t E σ H' Q') (fun W pn xe E p1 p2 tk hW => lam_called (i := 0) I1 L at_f nf nfr (none_ _ _ _ _ _) tk hW hr' (fun A outer s H hgd hr2 => run A outer s H E f c' hgd hr2) hNg hva hd hcd) at_c (h H1 st tab1)
    exact ⟨t', ht'.nox, hq'⟩
  refine wpAny_call (codeAny_mono code fun r s2 q => ?_)
  match r, q with
  | .ok (.ret u), q => exact I1.after q
  | .ok .next, q => exact False.elim q
  | .ok .brk, q => exact False.elim q
  | .ok .cont, q => exact False.elim q
  | .error e, q => exact False.elim q
end
end LM

set_option maxRecDepth 100000
set_option maxHeartbeats 4000000
/-! DL21: what a caught exception is asked in its suite; f(lambda: e), where f tries what it got. -/
namespace DL
open PySem PySem.Spec PySem.W PyProof.Rows L2 RZ ER LM
/-! ### in the suite -/
/-- isinstance(e, c) of the exception e that the suite holds: its own dict is at dd -/
def rIsX (K : PySem.W.Frag) (C a dd : Addr) : List V → Hp → VK → Prop := fun xs H Q => ∃ (c : V) (cv : Value) (b : Bool) (fs : List (Str × V)), xs = [.ref a, c] ∧ H dd = some (.xd fs) ∧ (∀ u, RelV c u → u = cv) ∧ PySem.W.kitOne K (.ref C) cv = some b ∧ Q (.bl b) H
theorem call_isX {X : Cx} {a C dd : Addr} {oe : Obj} {pn : List (Addr × Obj)} (T : L2.ExcC X.K C) (hz : Zc (.ref C) (some dd) oe) (hf : ∃ vs, oe.data = .fields vs) : CallR (X.suite a ((a, oe) :: pn)) (.builtin "isinstance") (rIsX X.K C a dd) := by
  rintro pins s σ H xs us Q I r ⟨c, cv, b, fs, rfl, own, hcv, e, q⟩
  match us, r with
  | [_, ut], .cons rx (.cons rt .nil) =>
    cases rx
    have := hcv _ rt
    subst this
    obtain ⟨here, _⟩ := I.pin (a, oe) (List.mem_append.mpr (.inl List.mem_cons_self))
    obtain ⟨vs, hv⟩ := hf
    obtain ⟨mA, ns, _⟩ : ObjOk X.prog X.w H s.heap dd (.xd fs) := I.hok dd _ own
    obtain ⟨od, at_d, _⟩ := lookIn_ns ns
    have J : PySem.W.InstAt s.heap a oe C (some od) := ⟨here, hz.1, by unfold PySem.W.notCls; rw [hv] <;> rfl, by rw [hz.2]; exact at_d⟩
    have cl : (clsIn X.K C).isSome = true := by
      obtain ⟨cd, hc, _⟩ := any_some T.hd
      rw [hc]; rfl
    exact PySem.W.kia_one (PySem.W.kitx_exc cl T.hg T.hk T.hs T.ha T.hn T.ht T.hm) I.kIn J e (fun z => nomatch z) fun tk => ⟨.bl b, H, I.kept (t' := tk) fun _ _ z => z, rfl, q⟩
def tdIsE (i : Nat) (a dd : Addr) (b : Bool) : TDE := fun env G Q => match look env i with
  | some (.exc a' d' _) => (a' = a ∧ d' = dd) ∧ Q (.d (.bool b)) G
  | _ => False
def tdXf (i : Nat) (a dd : Addr) (f : Str) : TDE := fun env G Q => match look env i with
  | some (.exc a' d' fs) => (a' = a ∧ d' = dd) ∧ match fs.lookup f with
    | some z => Q (.d z) G
    | none => False
  | _ => False
section
variable {X : Cx} {F : Fx} {a C dd C2 : Addr} {oe : Obj} {pn : List (Addr × Obj)} {i : Nat} {x n f : Str} {p p1 p2 pos : Pos} {b : Bool}
theorem look_exc {P : List Addr} {env : DEnv} {G : GS} {σ : L2.St} {H : Hp} {R : Addr → Addr → List (Str × D) → Prop} (I : DInv F P env G σ H) (h : match look env i with | some (.exc a' d' fs) => R a' d' fs | _ => False) :
    ∃ a' d' fs vs, σ[i]? = some (some (.ref a')) ∧ H d' = some (.xd vs) ∧ Paired (fun (p : Str × V) (q : Str × D) => p.1 = q.1 ∧ Rp (hide H P) p.2 q.2) vs fs ∧ R a' d' fs := by
  cases q : look env i with
  | none => rw [q] at h; exact h.elim
  | some sv =>
    rw [q] at h
    cases sv with
    | exc a' d' fs =>
      obtain ⟨v, e1, rfl, vs, e2, e3⟩ := I.sl i _ (look_some q)
      exact ⟨a', d', fs, vs, e1, (hide_some e2).2, e3, h⟩
    | _ => exact h.elim
theorem de_isE (T : L2.ExcC X.K C) (hz : Zc (.ref C) (some dd) oe) (hf : ∃ vs, oe.data = .fields vs) (hm : X.mg "isinstance" = none) {c : V} {cv : Value} (hx : PE (X.suite a ((a, oe) :: pn)) (.Name x p2) (tC c)) (hcv : ∀ u, RelV c u → u = cv) (hb : PySem.W.kitOne X.K (.ref C) cv = some b)
    (hN : X.N[i]? = some n := by rfl) (hv : Vis X.env.scope n := by first | exact Or.inl rfl | exact Or.inr (Or.inl rfl) | exact Or.inr (Or.inr rfl)) (hd : (n == ("__debug__" : Str)) = false := by decide) (hcd : (n == ("__classdict__" : Str)) = false := by decide) (hg : Gl X "isinstance" := by rfl)
    (hs : starEach [Expr.Name n p1, .Name x p2] X.env = (false, eval (.Name n p1) X.env) :: starEach [.Name x p2] X.env := by rfl) (hs2 : starEach [Expr.Name x p2] X.env = (false, eval (.Name x p2) X.env) :: starEach [] X.env := by rfl) (hpl : (backTo pos (starEach [Expr.Name x p2] X.env)).any (·.1) = false := by rfl) :
    DE (X.suite a ((a, oe) :: pn)) F (.Call (.Name "isinstance" p) [.Name n p1, .Name x p2] [] pos) (tdIsE i a dd b) :=
  PE.imp (pe_callB (X := X.suite a ((a, oe) :: pn)) (call_isX T hz hf) hg hm (by decide +kernel) (pa_cons (pe_var (X := X.suite a ((a, oe) :: pn)) hN hv hd hcd) (pa_cons hx pa_nil hs2) hs) (by decide) (by decide) hs hpl) fun σ H Q ⟨P, env, G, Qd, I, h, k⟩ => by
    obtain ⟨a', d', fs, vs, e1, e2, _, ⟨rfl, rfl⟩, h2⟩ := look_exc (R := fun a' d' fs => (a' = a ∧ d' = dd) ∧ Qd (.d (.bool b)) G) I h
    exact ⟨.ref _, e1, c, cv, b, vs, rfl, e2, hcv, hb, k _ H (.d (.bool b)) G I (Kp.refl _) (Rp.bl _) h2⟩
theorem lookup_rel {H : Hp} {f : Str} {z : D} : ∀ {vs : List (Str × V)} {fs : List (Str × D)}, Paired (fun (p : Str × V) (q : Str × D) => p.1 = q.1 ∧ Rp H p.2 q.2) vs fs → fs.lookup f = some z → ∃ v, vs.lookup f = some v ∧ Rp H v z
  | _, _, .nil, e => by cases e
  | (a, v) :: _, (b, d) :: _, .cons h r, e => by
    obtain ⟨h1, h2⟩ := h
    have h1 : a = b := h1
    subst h1
    cases q : f == a with
    | true =>
      rw [List.lookup_cons, q] at e
      cases e
      exact ⟨v, by rw [List.lookup_cons, q], h2⟩
    | false =>
      rw [List.lookup_cons, q] at e
      obtain ⟨v', e1, e2⟩ := lookup_rel r e
      exact ⟨v', by rw [List.lookup_cons, q]; exact e1, e2⟩
theorem de_xf (T : XfC X.K C) (hno : PySem.W.findIn X.K (.ref C) f = some none) (hz : Zc (.ref C) (some dd) oe) (hf : ∃ vs, oe.data = .fields vs)
    (hN : X.N[i]? = some n := by rfl) (hv : Vis X.env.scope n := by first | exact Or.inl rfl | exact Or.inr (Or.inl rfl) | exact Or.inr (Or.inr rfl)) (hd : (n == ("__debug__" : Str)) = false := by decide) (hcd : (n == ("__classdict__" : Str)) = false := by decide)
    (hb : attributeBase (.Name n p1) f X.env (eval (.Name n p1) X.env) = eval (.Name n p1) X.env := by rfl) : DE (X.suite a ((a, oe) :: pn)) F (.Attribute (.Name n p1) f pos) (tdXf i a dd f) :=
  PE.imp (pe_xf T hno hz hf (pe_var (X := X.suite a ((a, oe) :: pn)) hN hv hd hcd) hb) fun σ H Q ⟨P, env, G, Qd, I, h, k⟩ => by
    obtain ⟨a', d', fs, vs, e1, e2, e3, ⟨rfl, rfl⟩, h2⟩ := look_exc (R := fun a' d' fs => (a' = a ∧ d' = dd) ∧ match fs.lookup f with | some z => Qd (.d z) G | none => False) I h
    cases q : fs.lookup f with
    | none => rw [q] at h2; exact h2.elim
    | some z =>
      rw [q] at h2
      obtain ⟨v, l, r⟩ := lookup_rel e3 q
      exact ⟨.ref _, e1, rfl, rfl, d', vs, v, rfl, e2, l, k v H (.d z) G I (Kp.refl _) r h2⟩
theorem op_eqU {X : Cx} (hu : X.A.units + 64 < cLine) : OpR X (compareOp .Eq) (eqR X.K) := op_eq.or (op_eqD hu)
theorem op_neU {X : Cx} (hu : X.A.units + 64 < cLine) : OpR X (compareOp .NotEq) (neR X.K) := op_ne.or (op_neD hu)
end
/-! ### slots without own lists -/
def noOwn : DEnv → DEnv := fun env => env.map fun o => match o with
  | some (.own _) => none
  | o => o
theorem noOwn_get {env : DEnv} {i : Nat} {sv : SV} (h : (noOwn env)[i]? = some (some sv)) : env[i]? = some (some sv) ∧ ∀ xs, sv ≠ .own xs := by
  unfold noOwn at h
  rw [List.getElem?_map] at h
  cases q : env[i]? with
  | none => rw [q] at h; cases h
  | some o =>
    rw [q] at h
    cases o with
    | none => cases h
    | some x =>
      cases x with
      | own xs => cases h
      | d x => cases h; exact ⟨rfl, fun _ z => nomatch z⟩
      | g x => cases h; exact ⟨rfl, fun _ z => nomatch z⟩
      | scr x => cases h; exact ⟨rfl, fun _ z => nomatch z⟩
      | adr x => cases h; exact ⟨rfl, fun _ z => nomatch z⟩
      | exc x y z => cases h; exact ⟨rfl, fun _ z => nomatch z⟩
/-- a frame's constants from here on -/
def fxAt (F : Fx) (P : List Addr) (H : Hp) (pd : ∀ a ∈ P, ∃ o, H a = some o) : Fx := ⟨F.K, F.ga, H, P, pd⟩
theorem DInv.at {F : Fx} {P : List Addr} {env : DEnv} {G : GS} {σ : L2.St} {H : Hp} (I : DInv F P env G σ H) : DInv (fxAt F P H I.h.pd) P (noOwn env) G σ H := by
  refine ⟨⟨fun a o e _ => e, I.h.pd, fun a m => m, I.h.gp, fun a m => I.h.pd a (I.h.gp a m), I.h.gn, I.h.gl⟩, by rw [I.len]; unfold noOwn; rw [List.length_map], fun i sv q => ?_, fun i j xs ys v w _ q _ _ _ => absurd rfl ((noOwn_get q).2 xs)⟩
  obtain ⟨e, n⟩ := noOwn_get q
  obtain ⟨v, e1, r⟩ := I.sl i sv e
  refine ⟨v, e1, ?_⟩
  cases sv with
  | own xs => exact absurd rfl (n xs)
  | d x => exact r
  | g x => exact r
  | scr x => exact r
  | adr x => exact r
  | exc x y z => exact r
/-- back in the frame -/
theorem HInv.up {F : Fx} {P P2 : List Addr} {G G2 : GS} {H H2 : Hp} (J0 : HInv F P G H) (J : HInv (fxAt F P H J0.pd) P2 G2 H2) : HInv F P G2 H2 ∧ Kp F H H2 ∧ Same (hide H2 P2) (hide H2 P) := by
  obtain ⟨c, less⟩ := CInv.back (P := P) J J.sub J0.gp
  exact ⟨⟨fun a o e n => J.fr a o (J0.fr a o e n) n, c.pd, J0.sub, J0.gp, J0.g0, J0.gn, c.gl⟩, fun a o e n => J.fr a o e n, less⟩
/-! ### the making of a lambda -/
theorem pr_get2 {α β : Type} {R : α → β → Prop} : ∀ {xs : List α} {ys : List β} {n : Nat} {y : β}, Paired R xs ys → ys[n]? = some y → ∃ x, xs[n]? = some x ∧ R x y
  | _, _, _, _, .nil, e => by simp at e
  | _, _, 0, _, .cons h _, e => by simp at e; subst e; exact ⟨_, rfl, h⟩
  | _, _, n + 1, _, .cons _ r, e => by
    obtain ⟨x, e1, h⟩ := pr_get2 (n := n) r (by simpa using e)
    exact ⟨x, by simpa using e1, h⟩
theorem tab_at {F : Fx} {P : List Addr} {G : GS} {H : Hp} (J : HInv F P G H) {T : Addr} {q : Str} {n : Nat} (h : G[n]? = some (.tab T q)) : F.ga[n]? = some T ∧ LamX.TabS H T q := by
  obtain ⟨a, e, h1, h2⟩ := pr_get2 J.gl h
  subst h1
  exact ⟨e, h2⟩
theorem set_same {α : Type} {xs : List α} {n : Nat} {x : α} (h : xs[n]? = some x) : xs.set n x = xs := by
  obtain ⟨hn, e⟩ := List.getElem?_eq_some_iff.mp h
  subst e
  exact List.set_getElem_self hn
theorem HInv.step {F : Fx} {P : List Addr} {G : GS} {H H1 : Hp} (J : HInv F P G H) {T : Addr} {q : Str} {n : Nat} (hn : G[n]? = some (.tab T q)) (st : Step T q H H1) (tab : LamX.TabS H1 T q) : HInv F P G H1 ∧ Kp F H H1 := by
  rcases st with rfl | ⟨ps, more, c, at_T, new, rfl⟩
  · exact ⟨J, Kp.refl _⟩
  · obtain ⟨eT, _⟩ := tab_at J hn
    have hT : T ∈ F.ga := List.mem_of_getElem? eT
    have old : ∀ a o, H a = some o → a ≠ T → upd (upd H T (.tbl (ps ++ more))) c (LamX.CodeO c q) a = some o := fun a o e n => by
      rw [upd_ne (ne_of_none e new), upd_ne n]; exact e
    have TP : T ∈ P := J.gp T hT
    have sm : Same (hide H P) (hide (upd (upd H T (.tbl (ps ++ more))) c (LamX.CodeO c q)) P) := fun a o e => by
      obtain ⟨n, e⟩ := hide_some e
      rw [hide_out n]
      exact old a o e (fun z => n (by rw [z]; exact TP))
    refine ⟨⟨fun a o e n => old a o (J.fr a o e n) (fun z => n (by rw [z]; exact hT)), fun a m => ?_, J.sub, J.gp, J.g0, J.gn, ?_⟩, fun a o e n => old a o e (fun z => n (by rw [z]; exact hT))⟩
    · by_cases z : a = T
      · subst z
        exact ⟨_, by rw [upd_ne (ne_of_none at_T new), upd_same]⟩
      · obtain ⟨o, e⟩ := J.pd a m
        exact ⟨o, old a o e z⟩
    · rw [← set_same hn]
      refine pr_put J.gl J.gn eT ⟨rfl, tab⟩ fun a o m hz g => ?_
      cases o with
      | dict kvs =>
        obtain ⟨ks, e1, r1⟩ := g
        exact ⟨ks, old a _ e1 hz, Paired.mapP r1 fun _ _ ⟨y1, y2⟩ => ⟨y1, Rp.mono sm y2⟩⟩
      | tab b q' =>
        obtain ⟨rfl, qs, e1, e2, e3⟩ := g
        refine ⟨rfl, qs, old a _ e1 hz, e2, fun pos cv hc => ?_⟩
        obtain ⟨c0, z1, z2⟩ := e3 pos cv hc
        refine ⟨c0, z1, old c0 _ z2 (fun y => ?_)⟩
        rw [y, at_T] at z2
        exact LamX.codeO_ne ps (Option.some.inj z2).symm
/-! ### f(lambda: e): f gives back ("told", e's value), or what its suite makes of an exception -/
def Susp (K : PySem.W.Frag) (mg : Str → Option Value) (known : XD → Prop) (hear : XD → D) (cls : Value) (d : Option Addr) (H : Hp) (Q : VK) : Prop :=
  ∃ (F : Fx) (P : List Addr) (G : GS) (x : XD), F.K = K ∧ HInv F P G H ∧ XRel mg (hide H P) cls d x ∧ known x ∧ ∀ v H2 P2, HInv F P2 G H2 → Same (hide H P) (hide H2 P2) → Rp (hide H2 P2) v (hear x) → Q v H2
def TTh (K : PySem.W.Frag) (mg : Str → Option Value) (told : Str) (known : XD → Prop) (hear : XD → D) : (XK → Hp → VK → Prop) → Hp → VK → Prop := fun tl H Q =>
  ∃ Eh : XK, tl Eh H (fun v H' => [V.str told, v].length ≤ sizeLine ∧ ∀ p, H' p = none → Q (.ref p) (upd H' p (.tup [.str told, v]))) ∧ ∀ cls d H', Eh cls d H' → Susp K mg known hear cls d H' Q
def tdHeard (T : Addr) (q told : Str) (known : XD → Prop) (hear : XD → D) (tb : (XD → GS → Prop) → TDE) : TDE := fun env G Q => (∃ n : Nat, (G : List GO)[n]? = some (GO.tab T q)) ∧
  tb (fun x G' => known x ∧ Q (.d (hear x)) G') (noOwn env) G fun y G' => asD y fun d => Q (.d (.tuple [.str told, d])) G'
section
variable {X : Cx} {F : Fx}
theorem de_heard {told : Str} {known : XD → Prop} {hear : XD → D} {x a : Str} {g c T : Addr} {lv : Nat} {pg : Arguments} {bg : List Stmt} {sg : Scope} {dV kV doc pm cdv ct oc : Value} {an od : Option Addr} {osl : Array (Option Value)} {Ng : List Str} {params : Arguments} {body : Expr} {scope : Scope} {tb : (XD → GS → Prop) → TDE} {p lpos pos : Pos}
    (hm : X.mg x = some (.ref g)) (hk : PySem.W.keepIn X.K (.ref g) = true) (lk : X.K.lookup g = some ⟨oc, od, .func (PySem.W.fnOf x x pg bg sg dV kV doc pm an cdv ct), osl⟩) (hcg : PySem.W.codeIn X.K cdv x = true) (hb : L2.Binds X.K (PySem.W.fnOf x x pg bg sg dV kV doc pm an cdv ct) [a] [])
    (Sg : FnScope Ng [a] sg) (hG : LM.Gives X Ng x sg g cdv bg a (lamQ X) (TTh X.K X.mg told known hear)) (TB : LamX.TabB X.base X.mg c T) (hcode : X.env.code = .ref c) (hr : Room (lv + 2) X.A) (hK : F.K = X.K) (hgd : X.A.guards = some [])
    (run : ∀ (A : Around) (outer : List Env) (s : Shared) (H : Hp) (E : XK) (f c' : Addr) (F : Fx) (W : XD → GS → Prop), F.K = X.K → A.guards = some [] → Room lv (A.deeper (LamX.lamEnv X scope s.heap.objs.size f c')) → Takes (LamX.lamCx X A outer s H E scope f c') (lW F X.mg W) → DE (LamX.lamCx X A outer s H E scope f c') F body (tb W))
    (hNg : Ng[0]? = some a := by rfl) (hva : Vis sg a := by first | exact Or.inl rfl | exact Or.inr (Or.inl rfl) | exact Or.inr (Or.inr rfl)) (L : LamX.LamS X.env.scope scope := by exact LamX.lamS_by (by decide +kernel)) (hdef : defaultsOf params X.env = ([], []) := by rfl)
    (none_ : ∀ (q : Str) (cl : List (Str × Addr)) (pm cv ctv : Value), bindArgs (PySem.W.kla_fn "<lambda>" q params body scope cl pm cv ctv) ⟨[], []⟩ = pure [] := by intros; rfl)
    (hg : Gl X x := by rfl) (hdb : (x == ("__debug__" : Str)) = false := by decide) (hd : (a == ("__debug__" : Str)) = false := by decide) (hcd : (a == ("__classdict__" : Str)) = false := by decide) :
    DE X F (.Call (.Name x p) [.Lambda params body scope lpos] [] pos) (tdHeard T (lamQ X) told known hear tb) :=
  PE.imp (pe_lm (TT := TTh X.K X.mg told known hear) (t := fun E σ H Q => ∃ (F' : Fx) (W : XD → GS → Prop), F'.K = X.K ∧ (∀ cls d σ' H', lW F' X.mg W cls d σ' H' → E cls d H') ∧ lE F' (tb W) σ H Q) hg hm hk lk hcg hb Sg hNg hva hG TB hcode hr L hdef none_
      (fun A outer s H E f c' hga hr' => ⟨fun pins s2 σ H2 Q I2 ⟨F', W, e1, e2, h⟩ => (run A outer s H E f c' F' W e1 (hga.trans hgd) hr' ((takes_of rfl rfl rfl rfl : Takes (LamX.lamCx X A outer s H E scope f c') (fun cls d _ H => E cls d H)).imp fun cc d σ' H' z => e2 cc d σ' H' z)).run pins s2 σ H2 Q I2 h⟩) hdb hd hcd)
    fun σ H Q ⟨P, env, G, Qd, I, ⟨⟨n, hn⟩, h⟩, k⟩ => by
      refine ⟨(tab_at I.h hn).2, fun H1 st tab => ?_⟩
      obtain ⟨J, kp1⟩ := I.h.step hn st tab
      have I1 : DInv F P env G σ H1 := I.later J kp1
      have I2 := I1.at
      refine ⟨fun cls d H' => lW (fxAt F P H1 I1.h.pd) X.mg (fun x G' => known x ∧ Qd (.d (hear x)) G') cls d σ H', ⟨fxAt F P H1 I1.h.pd, _, hK, fun cls d σ' H' z => z, P, noOwn env, G, _, I2, h, fun v H2 y G2 J2 s2 r2 h2 => ?_⟩, ?_⟩
      · obtain ⟨d, rfl, h3⟩ := asD_inv (x := y) h2
        refine ⟨by show 2 ≤ sizeLine; decide, fun p' hp' => ?_⟩
        obtain ⟨up, kp2, _⟩ := HInv.up I1.h J2.h
        have I3 := I1.later up kp2
        have s3 : Same H2 (upd H2 p' (.tup [.str told, v])) := same_upd hp'
        refine k (.ref p') _ (.d (.tuple [.str told, d])) G2 (I3.ext s3) (Kp.trans kp1 (Kp.trans kp2 (Kp.of s3))) (Rp.tup (up.hideNew hp') (.cons (Rp.str _) (.cons (Rp.mono (hide_same s3) r2) .nil))) h3
      · rintro cls d H' ⟨P', G', x, J', xr, hx, hq⟩
        refine ⟨fxAt F P H1 I1.h.pd, P', G', x, hK, J', xr, hx, fun v H2 P2 J2 s2 r2 => ?_⟩
        obtain ⟨up, kp2, less⟩ := HInv.up I1.h J2
        exact k v H2 (.d (hear x)) G' (I1.later up kp2) (Kp.trans kp1 kp2) (Rp.mono less r2) hq
/-- the context of such a def's body -/
abbrev hZ (X : Cx) (Ng : List Str) (x : Str) (sg : Scope) (g : Addr) (cdg : Value) (s : Shared) (H : Hp) : Cx := (cxOf C8.CX0 X.prog X.w X.K X.mg X.base Ng x sg g cdg X.A X.stack s H C8.E0).nox
/-- try: return (told, a()) / except e as n: suite -/
theorem heard_gives {told : Str} {known : XD → Prop} {names : List Str} {hear : XD → D} {x a e n q : Str} {g CE : Addr} {cdg : Value} {sg : Scope} {Ng : List Str} {bg suite : List Stmt} {b₀ : Stmt} {i j : Nat} {p0 p1 p2 p3 p4 p5 p7 p8 : Pos} {kk : _} {ts : Addr → Addr → Str → TDS}
    (hbg : bg = [.Try [.Return (some (.Tuple [.Constant (.str told) j p0, .Call (.Name a p1) [] [] p2] kk p5)) p3] [.ExceptHandler (some (.Name e p4)) (some n) (b₀ :: suite) p7] [] [] p8])
    (hge : sg.names.lookup e = some .globalImplicit) (hme : X.mg e = some (.ref CE)) (hde : (e == ("__debug__" : Str)) = false) (hN : Ng.Nodup) (hi : Ng[i]? = some n) (hln : sg.names.lookup n = some .local) (h0 : ∀ f : Addr, (L2.start Ng [V.ref f])[0]? = some (some (V.ref f)))
    (hkn : ∀ y : XD, known y → y.cls ∈ names) (hex : ∀ nm ∈ names, ∀ C, X.mg nm = some (.ref C) → PySem.W.exmOne X.K (.ref C) (.ref CE) = some true)
    (hsu : ∀ (s : Shared) (H : Hp) (F : Fx) (a dd C : Addr) (oe : Obj) (pn : List (Addr × Obj)) (nm : Str), F.K = X.K → nm ∈ names → X.mg nm = some (.ref C) → Zc (.ref C) (some dd) oe → (∃ vs, oe.data = .fields vs) → DSs ((hZ X Ng x sg g cdg s H).suite a ((a, oe) :: pn)) F (b₀ :: suite) (ts a dd nm))
    (hrd : ∀ (a dd : Addr) (y : XD) (G : GS) (D : DEnds), known y → D.rt (.d (hear y)) G → ts a dd y.cls D ((List.replicate Ng.length none).set i (some (.exc a dd y.fs))) G) :
    LM.Gives X Ng x sg g cdg bg a q (TTh X.K X.mg told known hear) := by
  subst hbg
  rintro f c' s H Q tl act hc ⟨Eh, h1, h2⟩
  have hgl : Gl (hZ X Ng x sg g cdg s H) e := hge
  refine ⟨_, pss_one (ps_try_as (X := hZ X Ng x sg g cdg s H) (c := .ref CE) (i := i)
    (tb := fun W D σ H => ∃ Ech : XK, (∀ cls d σ' H', σ'.length = Ng.length → Ech cls d H' → W cls d σ' H') ∧ σ[0]? = some (some (.ref f)) ∧ H c' = some (LamX.CodeO c' q) ∧ tl Ech H (fun v H' => [V.str told, v].length ≤ sizeLine ∧ ∀ p, H' p = none → D.rt (.ref p) (upd H' p (.tup [.str told, v]))))
    (ts := fun a cls d D σ H => ∃ (F : Fx) (nm : Str) (C dd : Addr), F.K = X.K ∧ nm ∈ names ∧ X.mg nm = some (.ref C) ∧ cls = .ref C ∧ d = some dd ∧ lS F (ts a dd nm) D σ H)
    rfl rfl hN hi hln ⟨hgl, hde, .inl hme⟩ LamX.takes0 (fun W pn xe tk _ => ?_) (fun b oe cls d pn hz hf => ?_)), ?_⟩
  · constructor
    rintro pins s' σ H' D I ⟨Ech, hW, y1, y2, y3⟩
    have call := act W pn xe Ech p1 p2 tk hW
    exact (pss_one (ps_ret (pos := p3) (pe_tup (pa_cons pe_str (pa_cons call pa_nil))))).run pins s' σ H' D I ⟨y1, y2, y3⟩
  · constructor
    rintro pins s' σ H' D I ⟨F, nm, C, dd, eK, hn, hC, rfl, rfl, h⟩
    exact (hsu s H F b dd C oe pn nm eK hn hC hz hf).run pins s' σ H' D I h
  · refine ⟨Eh, fun cls d σ' H' hl z => ?_, h0 f, hc, h1⟩
    obtain ⟨F, P, G, y, eK, J, ⟨C, dd, fs, hC, rfl, rfl, at_d, rel⟩, hy, fin⟩ := h2 cls d H' z
    refine ⟨true, hex _ (hkn y hy) C hC, fun _ b hb => ⟨F, y.cls, C, dd, eK, hkn y hy, hC, rfl, rfl, P, _, G, { nx := fun _ _ => False, rt := fun w G' => w = .d (hear y) ∧ G' = G }, ⟨J, ?_, ?_, ?_⟩, hrd b dd y G _ hy ⟨rfl, rfl⟩, ?_⟩, fun z => nomatch z⟩
    · rw [List.length_set, List.length_set, List.length_replicate]; exact hl
    · intro k sv e1
      by_cases hk : i = k
      · subst hk
        have hlt : i < Ng.length := (List.getElem?_eq_some_iff.mp hi).1
        rw [List.getElem?_set_self (by rw [List.length_replicate]; exact hlt)] at e1
        cases e1
        exact ⟨.ref b, List.getElem?_set_self (by rw [hl]; exact hlt), rfl, fs, at_d, rel⟩
      · rw [List.getElem?_set_ne hk, List.getElem?_replicate] at e1
        split at e1 <;> cases e1
    · intro k l xs ys v w _ e1 _ _ _
      by_cases hk : i = k
      · subst hk
        have hlt : i < Ng.length := (List.getElem?_eq_some_iff.mp hi).1
        rw [List.getElem?_set_self (by rw [List.length_replicate]; exact hlt)] at e1
        cases e1
      · rw [List.getElem?_set_ne hk, List.getElem?_replicate] at e1
        split at e1 <;> cases e1
    · constructor
      · intro _ _ _ _ _ _ _ z; exact z.elim
      · intro _ _ _ _ _ _ _ z; exact z.elim
      · intro _ _ _ _ _ _ _ z; exact z.elim
      · rintro P' v H2 w G' J2 s2 r2 ⟨rfl, rfl⟩
        exact fin v H2 P' J2 s2 r2
end
end DL

set_option maxRecDepth 100000
set_option maxHeartbeats 4000000
/-! DL22: the law's frame where lambdas are made: tables of code objects beside the script and the feed. -/
namespace DL
open PySem PySem.Spec PySem.W PyProof.Rows L2 RZ
abbrev tab0 : Obj := { cls := .none, data := .fields #[] }
/-- a table at P of the code object c of the def whose lambdas are called q -/
structure TabD where
  c : Addr
  P : Addr
  q : Str
/-- what stands in the heap for these tables -/
structure TabsH (K : PySem.W.Frag) (h : Heap) (cs : List TabD) : Prop where
  at_ : ∀ t ∈ cs, h.get? t.P = some tab0
  no : ∀ t ∈ cs, K.lookup t.P = none
  hd : ∀ t ∈ cs, PySem.W.codeHdIn K t.c t.P = true
  nd : (cs.map (·.P)).Nodup
def isTab (cs : List TabD) (b : Addr) : Prop := ∃ t ∈ cs, t.P = b
instance (cs : List TabD) (b : Addr) : Decidable (isTab cs b) := inferInstanceAs (Decidable (∃ t ∈ cs, t.P = b))
def tabH (cs : List TabD) (b : Addr) : Option HO := if isTab cs b then some (.tbl #[]) else none
section
variable {P : Program} {w : World} {K : PySem.W.Frag} {mg mb : Str → Option Value}
theorem law_runT {cs : List TabD} {lv : Nat} {fa a : Addr} {fd : FuncData} {x : Str} {sp : Sp3} {s : Shared} {us : List Value} {ns : List Int}
    (KX : K.In s.heap) (g1 : s.heap.Ns mainGlobals mg) (g2 : s.heap.Ns builtinsNs mb) (g3 : ∀ x : Str, x ≠ "__name__" → mb x = bootBuiltins x) (g4 : s.heap.NoLimit) (g5 : s.gens = #[]) (C : TabsH K s.heap cs)
    (bm : ∃ (bm : Addr) (ob : Obj), mg "__builtins__" = some (.ref bm) ∧ bm ≠ builtinsNs ∧ s.heap.get? bm = some ob ∧ ob.cls = .type "module" ∧ ob.dict = some builtinsNs ∧ ob.data = .plain)
    (ha : s.heap.get? a = some { cls := .type "list", data := .seq us.toArray }) (hi : IntsAre us ns) (hl : ns.length ≤ sizeLine) (hr : Room lv callerA)
    (F : ∀ base : Heap, K.In base → base.Ns mainGlobals mg → (∀ t ∈ cs, LamX.TabB base mg t.c t.P) → FnG P w K mg base lv fa fd [x] sp) (hb : ∀ (s : Shared) (u : Value), BindsTo s fd ⟨[u], []⟩ [(x, u)])
    (hsp : ∀ H : Hp, SqL K H a (ns.map V.int) → (∀ t ∈ cs, H t.P = some (.tbl #[])) → sp [.ref a] H (fun v _ => v = .bl true)) :
    codeAny (model P w) callerA (.call (.ref fa) ⟨[.ref a], []⟩) (fun r s' => r = .ok (.ret (.bool true)) ∧ OldK s.heap s'.heap ∧ s'.os = s.os ∧ AllBare s'.gens) s := by
  have rv := vals_ints hi
  have ll := hi.length
  -- an object of a module, a namespace or a code is none of the tracked ones
  have aT : ¬ isTab cs a := by
    rintro ⟨t, m, e⟩
    have z := C.at_ t m
    rw [e, ha] at z
    exact nomatch congrArg Obj.cls (Option.some.inj z)
  have core : ∀ H : Hp, (∀ b, b ≠ a → H b = tabH cs b) → (H a = none ∨ ∃ o xs, H a = some (.frz o (.lst xs)) ∧ K.lookup a = none) → HOk P w H s.heap → SqL K H a (ns.map V.int) →
      codeAny (model P w) callerA (.call (.ref fa) ⟨[.ref a], []⟩) (fun r s' => r = .ok (.ret (.bool true)) ∧ OldK s.heap s'.heap ∧ s'.os = s.os ∧ AllBare s'.gens) s := by
    intro H hT hA ok sq
    have tabd : ∀ t ∈ cs, H t.P = some (.tbl #[]) := fun t m => by
      rw [hT t.P (fun z => aT ⟨t, m, z⟩)]
      exact if_pos ⟨t, m, rfl⟩
    have untracked : ∀ {b : Addr} {o : Obj}, s.heap.get? b = some o → o ≠ { cls := .type "list", data := .seq us.toArray } → o ≠ tab0 → H b = none := by
      intro b o e n1 n2
      by_cases q : b = a
      · subst q
        rw [ha] at e
        exact absurd (Option.some.inj e).symm n1
      · rw [hT b q]
        refine if_neg ?_
        rintro ⟨t, m, rfl⟩
        rw [C.at_ t m] at e
        exact n2 (Option.some.inj e).symm
    have ofDict : ∀ {b : Addr} {o : Obj} {es : Array DictEntry} {ep : Nat}, s.heap.get? b = some o → o.data = .dict es ep → H b = none := fun e d =>
      untracked e (fun z => by rw [z] at d; cases d) (fun z => by rw [z] at d; cases d)
    have up : ∀ {b : Addr} {m : Str → Option Value}, s.heap.Ns b m → (hidT s.heap H).Ns b m := fun ⟨o, es, ep, z1, z2, z3⟩ => ⟨o, es, ep, hidT_get z1 (ofDict z1 z2), z2, z3⟩
    have kin : K.In (hidT s.heap H) := by
      intro b o z
      refine hidT_get (KX b o z) ?_
      by_cases q : b = a
      · subst q
        rcases hA with e | ⟨_, _, _, e⟩
        · exact e
        · rw [e] at z; cases z
      · rw [hT b q]
        refine if_neg ?_
        rintro ⟨t, m, rfl⟩
        rw [C.no t m] at z
        cases z
    have md : Mod K mg (hidT s.heap H) := ⟨kin, up g1, ⟨mb, up g2, g3⟩, by obtain ⟨mc, z1, z2⟩ := g4; exact ⟨mc, up z1, z2⟩⟩
    have noGlob : ∀ t ∈ cs, mainGlobals ≠ t.P := by
      intro t m z
      obtain ⟨o, es, ep, e, d, _⟩ := g1
      rw [z, C.at_ t m] at e
      cases e
      cases d
    have TB : ∀ t ∈ cs, LamX.TabB (hidT s.heap H) mg t.c t.P := fun t m => by
      refine ⟨PySem.W.codeHd_of_K kin (C.hd t m), ?_, noGlob t m⟩
      obtain ⟨bm, ob, b1, b2, b3, b4, b5, b6⟩ := bm
      refine ⟨bm, ob, b1, b2, fun z => ?_, fun z => ?_, hidT_get b3 (untracked b3 (fun z => by rw [z] at b6; cases b6) (fun z => by rw [z] at b6; cases b6)), b4, b5, b6⟩
      · obtain ⟨o, es, ep, e, d, _⟩ := g1
        rw [z, e] at b3
        cases b3
        rw [d] at b6
        cases b6
      · rw [z, C.at_ t m] at b3
        cases b3
        cases b6
    have e0 : Env0 P w K mg (hidT s.heap H) callerA [] s H := ⟨rfl, md, fun b o z => of_hidT z, Nat.le_of_eq (hidT_size _ _), trivial, fun b z => (List.not_mem_nil (show b ∈ ([] : List Addr) from z)).elim, ok, .of_eq g5⟩
    have run := (F _ kin (up g1) TB).run callerA [] s H ⟨[.ref a], []⟩ [.ref a] [.ref a] (fun v _ => v = .bl true) hr rfl e0 (hb s (.ref a)) (.cons rfl .nil) (hsp H sq tabd)
    refine codeAny_mono run fun r s' h => ?_
    match r, h with
    | .ok (.ret u), ⟨v, H', os, bare, un, ok', rv, q⟩ =>
      have q' : v = .bl true := q
      subst q'
      have hu : u = Value.bool true := rv
      subst hu
      have keep : ∀ b o, ¬ isTab cs b → s.heap.get? b = some o → s'.heap.get? b = some o := by
        intro b o nt z
        cases q : H b with
        | none => exact un.keep b o z q (fun m => (List.not_mem_nil (show b ∈ ([] : List Addr) from m)).elim) List.not_mem_nil
        | some t =>
          by_cases y : b = a
          · subst y
            rcases hA with e | ⟨o', xs, e, _⟩
            · rw [q] at e; cases e
            · obtain ⟨y1, _⟩ := ok b _ e
              obtain ⟨y2, _⟩ := ok' b _ (un.frzs b o' _ e)
              rw [z] at y1
              cases y1
              exact y2
          · have z2 : H b = tabH cs b := hT b y
            rw [show tabH cs b = none from if_neg nt, q] at z2
            cases z2
      have grown : ∀ t ∈ cs, ∃ more : Array Value, s'.heap.get? t.P = some { cls := .none, data := .fields more } := fun t m => by
        obtain ⟨more, z⟩ := un.tbls t.P #[] (tabd t m)
        exact ⟨_, ok' t.P _ z⟩
      refine ⟨rfl, ⟨fun b o z => ?_, fun b o z => ?_⟩, os, bare⟩
      · by_cases y : isTab cs b
        · obtain ⟨t, m, rfl⟩ := y
          obtain ⟨more, hm⟩ := grown t m
          rw [C.at_ t m] at z
          cases z
          exact .inr (.inl ⟨((PySem.W.codeHd_of_K KX (C.hd t m)).tab (C.at_ t m)).isCodeTable, rfl, #[], more, rfl, by rw [Array.empty_append]; exact hm⟩)
        · exact .inl (keep b o y z)
      · by_cases y : isTab cs b
        · obtain ⟨t, m, rfl⟩ := y
          obtain ⟨more, hm⟩ := grown t m
          exact ⟨_, hm⟩
        · exact ⟨o, keep b o y z⟩
    | .ok .next, h => exact False.elim h
    | .ok .brk, h => exact False.elim h
    | .ok .cont, h => exact False.elim h
    | .error e, h => exact False.elim h
  have tabOk : ∀ {b : Addr} {u : HO}, tabH cs b = some u → ObjOk P w (tabH cs) s.heap b u := by
    intro b u z
    unfold tabH at z
    split at z
    · rename_i y
      obtain ⟨t, m, rfl⟩ := y
      cases z
      exact C.at_ t m
    · cases z
  cases hk : K.lookup a with
  | some o =>
    have e := KX a o hk
    rw [ha] at e
    cases e
    refine core (tabH cs) (fun _ _ => rfl) (.inl (if_neg aT)) (fun b u z => tabOk z) (.inr ⟨_, us.toArray, _, hk, rfl, rfl, rfl, by rw [List.size_toArray, ll]; exact hl, by simpa using rv⟩)
  | none =>
    let H : Hp := fun b => if b = a then some (.frz { cls := .type "list", data := .seq us.toArray } (.lst (ns.map V.int))) else tabH cs b
    have at_ : H a = some (.frz { cls := .type "list", data := .seq us.toArray } (.lst (ns.map V.int))) := if_pos rfl
    refine core H (fun b n => if_neg n) (.inr ⟨_, _, at_, hk⟩) (fun b u z => ?_) (.inl (.inr ⟨_, at_⟩))
    by_cases q : b = a
    · subst q
      rw [at_] at z
      cases z
      exact ⟨ha, by rw [List.length_map]; exact hl, us, _, rv, ha⟩
    · have z1 : tabH cs b = some u := (if_neg q).symm.trans z
      have y := z1
      unfold tabH at z1
      split at z1
      · rename_i y
        obtain ⟨t, m, rfl⟩ := y
        cases z1
        exact C.at_ t m
      · cases z1
end
theorem law_walkT {l : PySem.W.OpenLaw} {n lv : Nat} {q : Program} {loose : List Str} {XP : (Str → Option Value) → Heap → Prop} {YP : World → Heap → Prop} {d : DefRec} {K : Params → PySem.W.Frag} {cs : List TabD} {sp : PySem.W.Frag → Sp3} {x : Str}
    (h1 : l.most = some n) (h2 : n ≤ sizeLine) (h3 : d.params.defaults = []) (hr : Room lv callerA) (hY : ∀ (w : World) (h : Heap), YP w h → (K w.params).In h) (hT : ∀ (w : World) (h : Heap), YP w h → TabsH (K w.params) h cs)
    (F : ∀ (w : World) (mg : Str → Option Value) (fa : Addr) (h : Heap), (K w.params).In h → h.Ns mainGlobals mg → mg d.name = some (.ref fa) →
      ∃ fd : FuncData, (∀ (s : Shared) (u : Value), BindsTo s fd ⟨[u], []⟩ [(x, u)]) ∧ ∀ base : Heap, (K w.params).In base → base.Ns mainGlobals mg → (∀ t ∈ cs, LamX.TabB base mg t.c t.P) → FnG l.prog w (K w.params) mg base lv fa fd [x] (sp (K w.params)))
    (hsp : ∀ (K : PySem.W.Frag) (H : Hp) (a : Addr) (ns : List Int), SqL K H a (ns.map V.int) → (∀ t ∈ cs, H t.P = some (.tbl #[])) → sp K [.ref a] H (fun v _ => v = .bl true)) :
    PySem.W.WalkO q loose XP YP l.row.toRowW d [] (fun f vs => PySem.call f vs) := by
  refine Att.attach_call h1 h3 fun w s₀ s₁ mg mb fa o pm cd doc a us ns G Y ho hd hcd hmg hobj hints hlen hg => ?_
  have KX := hY w _ Y
  obtain ⟨fd, hb, hF⟩ := F w mg fa _ KX G.T.g hmg
  exact law_runT KX G.T.g G.T.b G.T.builtins G.T.nolimit hg (hT w _ Y) G.T.bmain hobj hints (Nat.le_trans hlen h2) hr hF hb fun H hS hH => hsp (K w.params) H a ns hS hH
/-! ### the law's body -/
/-- the tables among the global objects -/
def tabsG (cs : List TabD) : GS := cs.map fun t => GO.tab t.P t.q
def spLT (K : PySem.W.Frag) (cs : List TabD) : Sp3 := fun vs H Q => ∃ (a : Addr) (ns : List Int), vs = [.ref a] ∧ SqL K H a (ns.map V.int) ∧ (∀ t ∈ cs, H t.P = some (.tbl #[])) ∧ ∀ H', Q (.bl true) H'
section
variable {X : Cx} {pos : Pos}
theorem tabs_rel {Pl : List Addr} {H : Hp} : ∀ {cs : List TabD}, (∀ t ∈ cs, H t.P = some (.tbl #[])) → Paired (GRel Pl H) (cs.map (·.P)) (tabsG cs)
  | [], _ => .nil
  | t :: cs, h => .cons ⟨rfl, LamX.TabS.nil (h t List.mem_cons_self)⟩ (tabs_rel fun u m => h u (List.mem_cons_of_mem _ m))
theorem feed_invT {K : PySem.W.Frag} {cs : List TabD} {H' : Hp} {N : Nat} {a p p2 : Addr} {k1 k2 k3 : Str} {ns : List Int} (hne : p ≠ p2) (e2 : H' p2 = some (.lst (ns.map V.int))) (e1 : H' p = some (.dK (feedK k1 k2 k3 (.ref p2)))) (nd : (cs.map (·.P)).Nodup) (hT : ∀ t ∈ cs, H' t.P = some (.tbl #[])) :
    ∃ (F : Fx), F.K = K ∧ DInv F (p :: cs.map (·.P)) (none :: some (.g 0) :: List.replicate N none) (feedG k1 k2 k3 ns 0 0 0 ++ tabsG cs) (some (.ref a) :: some (.ref p) :: List.replicate N none) H' := by
  have notT : ∀ {b : Addr} {o : HO}, H' b = some o → (∀ ps, o ≠ .tbl ps) → b ∉ cs.map (·.P) := by
    intro b o e n m
    obtain ⟨t, mt, rfl⟩ := List.mem_map.mp m
    rw [hT t mt] at e
    exact n _ (Option.some.inj e).symm
  have pd : ∀ b ∈ p :: cs.map (·.P), ∃ o, H' b = some o := fun b m => by
    rcases List.mem_cons.mp m with rfl | m
    · exact ⟨_, e1⟩
    · obtain ⟨t, mt, rfl⟩ := List.mem_map.mp m
      exact ⟨_, hT t mt⟩
  have p2n : p2 ∉ p :: cs.map (·.P) := fun m => by
    rcases List.mem_cons.mp m with z | m
    · exact hne z.symm
    · exact notT e2 (fun _ z => nomatch z) m
  refine ⟨⟨K, p :: cs.map (·.P), H', p :: cs.map (·.P), pd⟩, rfl, ⟨⟨fun b o z _ => z, pd, fun b m => m, fun b m => m, pd, List.nodup_cons.mpr ⟨notT e1 (fun _ z => nomatch z), nd⟩, ?_⟩, ?_, ?_, ?_⟩⟩
  · refine .cons ⟨_, e1, ?_⟩ (tabs_rel hT)
    refine .cons ⟨rfl, Rp.lst (by rw [hide_out p2n]; exact e2) (RpAll.ints ns)⟩ (.cons ⟨rfl, Rp.int 0⟩ (.cons ⟨rfl, Rp.int 0⟩ (.cons ⟨rfl, Rp.int 0⟩ .nil)))
  · simp
  · intro i sv q
    match i, q with
    | 1, q =>
      have q' : some (SV.g 0) = some sv := by simpa using q
      cases q'
      exact ⟨.ref p, rfl, p, rfl, rfl⟩
    | 0, q => simp at q
    | i + 2, q =>
      rw [List.getElem?_cons_succ, List.getElem?_cons_succ, List.getElem?_replicate] at q
      split at q <;> cases q
  · intro i j xs ys v w _ q _ _ _
    match i, q with
    | 0, q => simp at q
    | 1, q => simp at q
    | i + 2, q =>
      rw [List.getElem?_cons_succ, List.getElem?_cons_succ, List.getElem?_replicate] at q
      split at q <;> cases q
/-- the law's def: x = feed(script) first, then the rest (read over data) -/
theorem FnG.lawT {pr : Program} {w : World} {K : PySem.W.Frag} {cs : List TabD} {mg : Str → Option Value} {base : Heap} {x qual sx fx : Str} {st : Stmt} {f ff : Addr} {fd fdf : FuncData} {N : List Str} {M lv lf m : Nat} {k1 k2 k3 : Str} {px pf pa pc pos : Pos} {rest : List Stmt} {t : TDS}
    (Fn : Fun K x qual st f fd) (ndT : (cs.map (·.P)).Nodup) (S : FnScope N [sx] (defScope st)) (hN : N.length = M + 2) (h0 : N[0]? = some sx) (h1 : N[1]? = some fx) {nf : Str} (hf : FnG pr w K mg base lf ff fdf [sx] (spF K m k1 k2 k3)) (hlf : lf ≤ lv) (hmf : mg nf = some (.ref ff)) (hkf : PySem.W.keepIn K (.ref ff) = true) (hbf : Binds K fdf [sx] [])
    (hbody : defBody st = .Assign [.Name fx px] (.Call (.Name nf pf) [.Name sx pa] [] pc) pos :: rest)
    (nd : N.Nodup) (hlx : Loc (defScope st) fx) (hfn : ∀ (cdv : Value) (A : Around) (out : List Env) (s : Shared) (H : Hp), (cxOf CX0 pr w K mg base N qual (defScope st) f cdv A out s H E0).nox.fn fx = true ∨ (defScope st).names.lookup fx = some .local) (hls : (defScope st).names.lookup sx = some .local)
    (side : ∀ X : Cx, X.env.scope = defScope st → Gl X nf ∧ starEach [Expr.Name sx pa] X.env = (false, eval (.Name sx pa) X.env) :: starEach [] X.env ∧ (backTo pc (starEach [] X.env)).any (·.1) = false ∧ swapsWith (.Call (.Name nf pf) [.Name sx pa] [] pc) (some (.Name fx px)) pos.line X.env = pure false)
    (hd1 : (nf == ("__debug__" : Str)) = false) (hd2 : (sx == ("__debug__" : Str)) = false) (hd3 : (sx == ("__classdict__" : Str)) = false)
    (body : ∀ (cdv : Value) (A : Around) (out : List Env) (s : Shared) (H : Hp) (F : Fx), F.K = K → Room lv (A.deeper (envOfC qual (defScope st) s.heap.objs.size f cdv)) → (A.deeper (envOfC qual (defScope st) s.heap.objs.size f cdv)).guards = some [] →
      DSs (cxOf CX0 pr w K mg base N qual (defScope st) f cdv A out s H E0).nox F rest t)
    (read : ∀ ns : List Int, ns.length ≤ m → t { nx := fun _ _ => False, rt := fun y _ => y = .d (.bool true) } (Option.none :: some (.g 0) :: List.replicate M Option.none) (feedG k1 k2 k3 ns 0 0 0 ++ tabsG cs)) :
    FnG pr w K mg base (lv + 1) f fd [sx] (spLT K cs) := by
  refine FnG.of Fn S (fun vs H Q ⟨a, ns, e, _⟩ => by rw [e]; rfl) fun cdv A out s H vs Q hr hg h => ?_
  obtain ⟨a, ns, rfl, hx, hTt, hQ⟩ := h
  let X : Cx := (cxOf CX0 pr w K mg base N qual (defScope st) f cdv A out s H E0).nox
  have hX : X.env.scope = defScope st := rfl
  obtain ⟨d1, d2, d3, d4⟩ := side X hX
  have pc1 : PE X (.Call (.Name nf pf) [.Name sx pa] [] pc) _ := pe_callG (X := X) hf (hr.mono hlf) hg hmf hkf hbf (pa_cons (pe_var (i := 0) h0 (Or.inl (by rw [hX]; exact hls)) hd2 hd3) pa_nil d2) d1 hd1 d2 d3
  have ps1 : PS X (.Assign [.Name fx px] (.Call (.Name nf pf) [.Name sx pa] [] pc) pos) _ := ps_set (X := X) (i := 1) nd h1 (by rw [hX]; exact hlx) pc1 d4 (hfn cdv A out s H)
  rw [hbody]
  refine ⟨_, pss_cons ps1 (pss_anyF (X := X) (t := t) fun F e => body cdv A out s H F e hr hg), ?_⟩
  have e0 : start N [.ref a] = some (.ref a) :: Option.none :: List.replicate M Option.none := by
    unfold L2.start
    rw [hN]
    rfl
  rw [e0]
  refine ⟨.ref a, rfl, a, ns, rfl, hx, fun H' p p2 sm hp hp2 hne e2 e1 => ?_⟩
  obtain ⟨F, eK, I⟩ := feed_invT (K := K) (N := M) (a := a) hne e2 e1 ndT fun t m => sm _ _ (hTt t m)
  refine ⟨F, eK, _, _, _, _, I, read (ns.take m) (by rw [List.length_take]; omega), ?_⟩
  constructor
  · intro _ _ _ _ _ _ _ z; exact z.elim
  · intro _ _ _ _ _ _ _ z; exact z.elim
  · intro _ _ _ _ _ _ _ z; exact z.elim
  · intro P' v H2 y G' J _ r z
    have z' : y = .d (.bool true) := z
    subst z'
    have := Rp.bl_inv r
    subst this
    exact hQ H2
end
end DL
namespace DL
open PySem PySem.Spec PySem.W PyProof.Rows L2 RZ
section
variable {pr : Program} {w : World} {K : PySem.W.Frag} {mg : Str → Option Value} {base : Heap}
/-- a def whose body asks which code object it has -/
theorem FnG.ofC {x qual : Str} {st : Stmt} {f : Addr} {fd : FuncData} {N ps : List Str} {lv : Nat} {sp : Sp3} (F : Fun K x qual st f fd) (S : FnScope N ps (defScope st)) (len : ∀ vs H Q, sp vs H Q → vs.length = ps.length)
    (body : ∀ (cdv : Value) (A : Around) (out : List Env) (s : Shared) (H : Hp) (vs : List V) (Q : VK), fd.code = cdv → Room lv (A.deeper (envOfC qual (defScope st) s.heap.objs.size f cdv)) → (A.deeper (envOfC qual (defScope st) s.heap.objs.size f cdv)).guards = some [] → sp vs H Q →
      ∃ t, PSs (cxOf CX0 pr w K mg base N qual (defScope st) f cdv A out s H E0).nox (defBody st) t ∧ t { nx := fun _ H' => Q .non H', rt := Q } (start N vs) H) : FnG pr w K mg base (lv + 1) f fd ps sp := by
  obtain ⟨oc, od, kV, doc, pm, an, cdv, ct, osl, rfl, at_f, code⟩ := F.ex
  constructor
  · exact len
  · intro A out s H ar us vs Q hr hg e0 hb r hsp
    have old : ∀ b o, base.get? b = some o → s.heap.get? b = some o := fun b o z => (e0.bs b o z).1
    have kin : K.In s.heap := e0.mod.kin.keeps old
    have kinds : ∀ y ∈ ps.zip us, (defScope st).names.lookup y.1 = some .local ∨ ((defScope st).names.lookup y.1 = some .cell ∧ ((cellsFrom (s.heap.objs.size + 1) (defScope st).names []).lookup y.1).isSome = true) := by
      rintro ⟨n, v⟩ hy
      refine (S.par n (List.of_mem_zip hy).1).imp id fun z => ⟨z, ?_⟩
      exact PySem.W.cellsFrom_some _ _ _ (.inl z)
    refine codeAny_call_function hr.depth (kin f _ at_f) rfl S.co S.gen rfl (PySem.W.codeRec_of kin code) (hb _ _ _ _ (wpAny_newFunctionEnv_cells S.kind kinds fun env he s1 ic => ?_))
    cases he
    have lim := e0.mod.nolimit.keeps old
    refine ⟨lim.keeps ic.toInCall.keep, codeAny_func ?_⟩
    obtain ⟨t, ht, hq⟩ := body cdv A out s H vs Q rfl (hr.deeper _) hg hsp
    have I0 := inv_start (CX := CX0) (E := E0) S hr.hd e0 (len vs H Q hsp) r ic
    refine wpAny_mono ((PSs.nox ht).run [] s1 (start N vs) H _ I0 hq) ?_ fun _ _ z => z
    intro fl s' hs
    cases fl with
    | ret u => exact let ⟨v, σ', H', J, rv, q⟩ := hs; ⟨v, H', J.os, J.bare, J.base, J.hok, rv, q⟩
    | next => exact let ⟨σ', H', J, q⟩ := hs; ⟨.non, H', J.os, J.bare, J.base, J.hok, rfl, q⟩
    | brk => exact let ⟨_, _, _, q⟩ := hs; False.elim q
    | cont => exact let ⟨_, _, _, q⟩ := hs; False.elim q
theorem FnG.dataC {x qual : Str} {st : Stmt} {f : Addr} {fd : FuncData} {N ps : List Str} {lv : Nat} {ct : CT} (Fn : Fun K x qual st f fd) (S : FnScope N ps (defScope st)) (t : TDS)
    (body : ∀ (cdv : Value) (A : Around) (out : List Env) (s : Shared) (H : Hp) (F : Fx), fd.code = cdv → F.K = K → Room lv (A.deeper (envOfC qual (defScope st) s.heap.objs.size f cdv)) → (A.deeper (envOfC qual (defScope st) s.heap.objs.size f cdv)).guards = some [] →
      DSs (cxOf CX0 pr w K mg base N qual (defScope st) f cdv A out s H E0).nox F (defBody st) t)
    (read : ∀ xs G Q, ct xs G Q → xs.length = ps.length ∧ t { nx := fun _ G' => Q (.d .none) G', rt := Q } (startD N.length xs) G) : FnG pr w K mg base (lv + 1) f fd ps (lSp K ct) := by
  refine FnG.ofC Fn S (fun vs H Q h => ?_) fun cdv A out s H vs Q hc hr hg h => ?_
  · obtain ⟨ga, P, G, xs, Qd, c, r, h, _⟩ := h
    rw [← Paired.length r]
    exact (read xs G Qd h).1
  · obtain ⟨ga, P, G, xs, Qd, c, r, h, k⟩ := h
    let F : Fx := ⟨K, ga, H, P, c.pd⟩
    refine ⟨lS F t, body cdv A out s H F hc rfl hr hg, P, startD N.length xs, G, _, start_inv c r F rfl rfl rfl rfl, (read xs G Qd h).2, ?_⟩
    constructor
    · intro P' env' G' σ' H' J s' h'
      obtain ⟨c', less⟩ := CInv.back (F := F) (P := P) J.h J.h.sub c.gp
      exact k .non H' (.d .none) G' (fun a o q n => J.h.fr a o q n) c' Rp.non h'
    · intro P' env' G' σ' H' J s' h'; exact h'
    · intro P' env' G' σ' H' J s' h'; exact h'
    · intro P' v H' y G' J s' rv h'
      obtain ⟨c', less⟩ := CInv.back (F := F) (P := P) J J.sub c.gp
      exact k v H' y G' (fun a o q n => J.fr a o q n) c' (VRel.mono less (vrel_fx rv)) h'
end
/-- the places in the text of an own error's __init__ -/
def erQ : List Stmt → Fin 16 → Pos
  | [.Expr (.Call (.Attribute (.Call (.Name _ a0) [] [] a1) _ a2) [.Name _ a3, .Name _ a4] [] a5) a6, .Assign [.Attribute (.Name _ a7) _ a8] (.Name _ a9) a10, .Assign [.Attribute (.Name _ a11) _ a12] (.Name _ a13) a14] => fun i => [a0, a1, a2, a3, a4, a5, a6, a7, a8, a9, a10, a11, a12, a13, a14].getD i.val ⟨0, 0, 0, 0⟩
  | _ => fun _ => ⟨0, 0, 0, 0⟩
end DL
namespace DL
open PySem PySem.Spec PySem.W PyProof.Rows L2 RZ
/-- the def x that tries what it got: where it stands and what it gives -/
structure HeardC (pr : Program) (w : World) (K : PySem.W.Frag) (mg : Str → Option Value) (base : Heap) (x a : Str) (Ng : List Str) (sg : Scope) (bg : List Stmt) (pg : Arguments) (told : Str) (known : XD → Prop) (hear : XD → D) : Prop where
  ex : ∃ (g : Addr) (oc : Value) (od : Option Addr) (osl : Array (Option Value)) (dV kV doc pm : Value) (an : Option Addr) (cdv ct : Value), mg x = some (.ref g) ∧ PySem.W.keepIn K (.ref g) = true ∧
    K.lookup g = some ⟨oc, od, .func (PySem.W.fnOf x x pg bg sg dV kV doc pm an cdv ct), osl⟩ ∧ PySem.W.codeIn K cdv x = true ∧ L2.Binds K (PySem.W.fnOf x x pg bg sg dV kV doc pm an cdv ct) [a] [] ∧
    ∀ (q : Str) (X : Cx), X.prog = pr → X.w = w → X.K = K → X.mg = mg → X.base = base → Room 1 X.A → LM.Gives X Ng x sg g cdv bg a q (TTh X.K X.mg told known hear)
section
variable {X : Cx} {F : Fx}
theorem de_heardC {told : Str} {known : XD → Prop} {hear : XD → D} {x a : Str} {c T : Addr} {lv : Nat} {pg : Arguments} {bg : List Stmt} {sg : Scope} {Ng : List Str} {params : Arguments} {body : Expr} {scope : Scope} {tb : (XD → GS → Prop) → TDE} {p lpos pos : Pos}
    (h : HeardC X.prog X.w X.K X.mg X.base x a Ng sg bg pg told known hear) (Sg : FnScope Ng [a] sg) (TB : LamX.TabB X.base X.mg c T) (hcode : X.env.code = .ref c) (hr : Room (lv + 2) X.A) (hK : F.K = X.K) (hgd : X.A.guards = some [])
    (run : ∀ (A : Around) (outer : List Env) (s : Shared) (H : Hp) (E : XK) (f c' : Addr) (F : Fx) (W : XD → GS → Prop), F.K = X.K → A.guards = some [] → Room lv (A.deeper (LamX.lamEnv X scope s.heap.objs.size f c')) → Takes (LamX.lamCx X A outer s H E scope f c') (lW F X.mg W) → DE (LamX.lamCx X A outer s H E scope f c') F body (tb W))
    (hNg : Ng[0]? = some a := by rfl) (hva : Vis sg a := by first | exact Or.inl rfl | exact Or.inr (Or.inl rfl) | exact Or.inr (Or.inr rfl)) (L : LamX.LamS X.env.scope scope := by exact LamX.lamS_by (by decide +kernel)) (hdef : defaultsOf params X.env = ([], []) := by rfl)
    (none_ : ∀ (q : Str) (cl : List (Str × Addr)) (pm cv ctv : Value), bindArgs (PySem.W.kla_fn "<lambda>" q params body scope cl pm cv ctv) ⟨[], []⟩ = pure [] := by intros; rfl)
    (hg : Gl X x := by rfl) (hdb : (x == ("__debug__" : Str)) = false := by decide) (hd : (a == ("__debug__" : Str)) = false := by decide) (hcd : (a == ("__classdict__" : Str)) = false := by decide) :
    DE X F (.Call (.Name x p) [.Lambda params body scope lpos] [] pos) (tdHeard T (X.env.qual ++ "<lambda>") told known hear tb) := by
  obtain ⟨g, oc, od, osl, dV, kV, doc, pm, an, cdv, ct, h1, h2, h3, h4, h5, h6⟩ := h.ex
  exact de_heard h1 h2 h3 h4 h5 Sg (h6 _ X rfl rfl rfl rfl rfl (hr.mono (by omega))) TB hcode hr hK hgd run hNg hva L hdef none_ hg hdb hd hcd
end
end DL
namespace DL
open PySem PySem.Spec PySem.W PyProof.Rows L2 RZ
section
variable {pr : Program} {w : World} {K : PySem.W.Frag} {mg : Str → Option Value} {base : Heap}
/-- the same with the reading inside -/
theorem FnG.dataE {x qual : Str} {st : Stmt} {f : Addr} {fd : FuncData} {N ps : List Str} {lv : Nat} {ct : CT} (Fn : Fun K x qual st f fd) (S : FnScope N ps (defScope st)) (len : ∀ xs G Q, ct xs G Q → xs.length = ps.length)
    (body : ∀ (cdv : Value) (A : Around) (out : List Env) (s : Shared) (H : Hp) (F : Fx), fd.code = cdv → F.K = K → Room lv (A.deeper (envOfC qual (defScope st) s.heap.objs.size f cdv)) → (A.deeper (envOfC qual (defScope st) s.heap.objs.size f cdv)).guards = some [] →
      ∀ xs G Q, ct xs G Q → ∃ t, DSs (cxOf CX0 pr w K mg base N qual (defScope st) f cdv A out s H E0).nox F (defBody st) t ∧ t { nx := fun _ G' => Q (.d .none) G', rt := Q } (startD N.length xs) G) : FnG pr w K mg base (lv + 1) f fd ps (lSp K ct) := by
  refine FnG.ofC Fn S (fun vs H Q h => ?_) fun cdv A out s H vs Q hc hr hg h => ?_
  · obtain ⟨ga, P, G, xs, Qd, c, r, h, _⟩ := h
    rw [← Paired.length r]
    exact len xs G Qd h
  · obtain ⟨ga, P, G, xs, Qd, c, r, h, k⟩ := h
    let F : Fx := ⟨K, ga, H, P, c.pd⟩
    obtain ⟨t, ht, hread⟩ := body cdv A out s H F hc rfl hr hg xs G Qd h
    refine ⟨lS F t, ht, P, startD N.length xs, G, _, start_inv c r F rfl rfl rfl rfl, hread, ?_⟩
    constructor
    · intro P' env' G' σ' H' J s' h'
      obtain ⟨c', less⟩ := CInv.back (F := F) (P := P) J.h J.h.sub c.gp
      exact k .non H' (.d .none) G' (fun a o q n => J.h.fr a o q n) c' Rp.non h'
    · intro P' env' G' σ' H' J s' h'; exact h'
    · intro P' env' G' σ' H' J s' h'; exact h'
    · intro P' v H' y G' J s' rv h'
      obtain ⟨c', less⟩ := CInv.back (F := F) (P := P) J J.sub c.gp
      exact k v H' y G' (fun a o q n => J.fr a o q n) c' (VRel.mono less (vrel_fx rv)) h'
end
end DL
namespace DL
open PySem PySem.Spec PySem.W PyProof.Rows L2 RZ
theorem err_fn {K : Frag} {f1 f2 : Str} {fI cc cda : Addr} {oc : Value} {od : Option Addr} {dV kV doc pm ct : Value} {an : Option Addr} {osl : Array (Option Value)} {qual : Str} {params : Arguments} {body : List Stmt} {scope : Scope} {nms : List (Str × NameKind)} {p1 p2 p3 : Pos} {pl : Sem Bool}
    (h1 : K.lookup fI = some ⟨oc, od, .func (ksFn "__init__" qual params body scope dV kV doc pm an (.ref cda) ct cc), osl⟩) (h2 : codeIn K (.ref cda) qual = true) (h3 : params = ER.erArgs f1 f2 p1 p2 p3) (h4 : body = ER.erBody f1 f2 (erQ body))
    (h5 : scope = { kind := .function, names := nms, isGenerator := false, isCoroutine := false, more := [] }) (h6 : nms.lookup ("self" : Str) = some .local) (h7 : nms.lookup f1 = some .local) (h8 : nms.lookup f2 = some .local)
    (h9 : nms.lookup ("super" : Str) = some .globalImplicit) (h10 : nms.lookup ("__class__" : Str) = some .free) (h11 : ∀ x ∈ nms, x.2 ≠ .cell)
    (h12 : ∀ (s : Shared) (u0 u1 u2 : Value), BindsTo s (ksFn "__init__" qual params body scope dV kV doc pm an (.ref cda) ct cc) ⟨[u0, u1, u2], []⟩ [("self", u0), (f1, u1), (f2, u2)])
    (h13 : ∀ env : Env, eval (.Call (.Attribute (.Call (.Name "super" (erQ body 0)) [] [] (erQ body 1)) "__init__" (erQ body 2)) [.Name f1 (erQ body 3), .Name f2 (erQ body 4)] [] (erQ body 5)) env = (do
      let ov ← attributeBase (.Call (.Name "super" (erQ body 0)) [] [] (erQ body 1)) "__init__" env (eval (.Call (.Name "super" (erQ body 0)) [] [] (erQ body 1)) env)
      standAt (erQ body 2).atName
      let (f, first) ← holding [ov] (getMethod ov "__init__" pl)
      callWith (erQ body 5) f first (backTo (erQ body 5) (starEach [.Name f1 (erQ body 3), .Name f2 (erQ body 4)] env)) [])) :
    ∃ (oc : Value) (od : Option Addr) (dV kV doc pm ct : Value) (an : Option Addr) (osl : Array (Option Value)) (qual : Str) (params : Arguments) (body : List Stmt) (scope : Scope) (nms : List (Str × NameKind)) (p1 p2 p3 : Pos) (q : Fin 16 → Pos),
    K.lookup fI = some ⟨oc, od, .func (ksFn "__init__" qual params body scope dV kV doc pm an (.ref cda) ct cc), osl⟩ ∧ codeIn K (.ref cda) qual = true ∧ params = ER.erArgs f1 f2 p1 p2 p3 ∧ body = ER.erBody f1 f2 q ∧
    scope = { kind := .function, names := nms, isGenerator := false, isCoroutine := false, more := [] } ∧ nms.lookup ("self" : Str) = some .local ∧ nms.lookup f1 = some .local ∧ nms.lookup f2 = some .local ∧
    nms.lookup ("super" : Str) = some .globalImplicit ∧ nms.lookup ("__class__" : Str) = some .free ∧ (∀ x ∈ nms, x.2 ≠ .cell) ∧
    (∀ (s : Shared) (u0 u1 u2 : Value), BindsTo s (ksFn "__init__" qual params body scope dV kV doc pm an (.ref cda) ct cc) ⟨[u0, u1, u2], []⟩ [("self", u0), (f1, u1), (f2, u2)]) ∧
    ∃ pl : Sem Bool, ∀ env : Env, eval (.Call (.Attribute (.Call (.Name "super" (q 0)) [] [] (q 1)) "__init__" (q 2)) [.Name f1 (q 3), .Name f2 (q 4)] [] (q 5)) env = (do
      let ov ← attributeBase (.Call (.Name "super" (q 0)) [] [] (q 1)) "__init__" env (eval (.Call (.Name "super" (q 0)) [] [] (q 1)) env)
      standAt (q 2).atName
      let (f, first) ← holding [ov] (getMethod ov "__init__" pl)
      callWith (q 5) f first (backTo (q 5) (starEach [.Name f1 (q 3), .Name f2 (q 4)] env)) []) :=
  ⟨oc, od, dV, kV, doc, pm, ct, an, osl, qual, params, body, scope, nms, p1, p2, p3, erQ body, h1, h2, h3, h4, h5, h6, h7, h8, h9, h10, h11, h12, pl, h13⟩
end DL

set_option maxRecDepth 100000
set_option maxHeartbeats 4000000
/-! DL23: more words: list(text). -/
namespace DL
open PySem PySem.Spec PySem.W PyProof.Rows L2 RZ
def rListS : List V → Hp → VK → Prop := fun xs H Q => ∃ x : Str, xs = [.str x] ∧ x.length ≤ sizeLine ∧ ∀ l, H l = none → Q (.ref l) (upd H l (.lst (x.cps.toList.map fun c => .str ⟨#[c]⟩)))
theorem call_list_text {X : Cx} (hr : X.A.handled = none) : CallR X (.type "list") rListS := by
  rintro pins s σ H xs us Q I r ⟨x, rfl, hz, q⟩
  obtain ⟨u, rfl, rx⟩ := vals1 r
  obtain ⟨t, rfl⟩ : ∃ t, u = .str x t := rx
  refine call_list_str hr x t (fun h' tk acc' c' kp hS hacc => ?_) hz
  have e0 : (x.cps.toList.map fun c => V.str ⟨#[c]⟩).length = x.cps.size := by rw [List.length_map, Array.length_toList]
  refine ⟨.ref s.heap.objs.size, _, I.laid (t' := tk) kp (Nat.le_refl _) (show ObjOk X.prog X.w _ h' _ (.lst (x.cps.toList.map fun c => V.str ⟨#[c]⟩)) from ⟨by rw [e0]; exact hz, acc'.toList, c', ?_, hS⟩), rfl, q _ (I.hok.fresh (Nat.le_refl _))⟩
  refine vals_of_at (by rw [e0, Array.length_toList, hacc.1]) fun j y w h1 h2 => ?_
  obtain ⟨c, u, hc, rfl⟩ := hacc.2 j w (by rw [← Array.getElem?_toList]; exact h2)
  rw [List.getElem?_map, Array.getElem?_toList, hc] at h1
  cases h1
  exact ⟨u, rfl⟩
def rdListS : RDL := fun ds Q => match ds with
  | [.str x] => x.length ≤ sizeLine ∧ Q (.list (x.cps.toList.map fun c => .str ⟨#[c]⟩))
  | _ => False
theorem rpAll_signs {H : Hp} : ∀ cs : List Nat, RpAll H (cs.map fun c => V.str ⟨#[c]⟩) (cs.map fun c => PyData.str ⟨#[c]⟩)
  | [] => .nil
  | _ :: cs => .cons (.str _) (rpAll_signs cs)
theorem imp_listS : ImpL rListS rdListS := by
  intro P H xs ds Q Qd pa r h k
  unfold rdListS at h
  split at h
  · rename_i x
    cases r with
    | cons a b =>
      cases b
      obtain rfl := a.str_inv
      refine ⟨x, rfl, h.1, fun l hl => ?_⟩
      have s : Same H (upd H l (.lst (x.cps.toList.map fun c => V.str ⟨#[c]⟩))) := same_upd hl
      exact k _ _ _ s (.lst (new_out pa hl) (rpAll_signs _)) h.2
  · exact h.elim
end DL
namespace TY
open PySem PySem.Spec PySem.W PyProof.Rows L2 RZ DL
section
variable {F : GS → Prop} {t : TDE} {Γ : Ctx}
theorem he_list_s {a b : Nat} (h : HE F t Γ (dd (tStr a b))) (hb : b ≤ sizeLine := by decide) : HE F (tdCall rdListS (tdCons t tdNil)) Γ (dd (tLst (tStr 1 1) a b)) := he_call1 h fun d Q ⟨z, e, q, l1, l2⟩ k => by
  subst e
  have hl : z.cps.toList.length = z.length := Array.length_toList
  refine ⟨by omega, k _ ⟨_, rfl, fun y hy => ?_, by rw [List.length_map]; omega, by rw [List.length_map]; omega⟩⟩
  obtain ⟨c, hc, rfl⟩ := List.mem_map.mp hy
  unfold asc at q
  rw [List.all_eq_true] at q
  refine ⟨_, rfl, ?_, Nat.le_refl _, Nat.le_refl _⟩
  unfold asc
  simpa using q c hc
end
end TY

namespace DL
open PySem PySem.Spec PySem.W PyProof.Rows L2 RZ
/-! ### what repr writes of plain data is ascii -/
theorem quote_two (x : Str) : reprQuote x = 34 ∨ reprQuote x = 39 := by
  unfold reprQuote
  split
  · exact .inl rfl
  · exact .inr rfl
theorem char_asc : ∀ q ∈ [34, 39], ∀ c ∈ List.range 128, ((Builtin.Str.reprChar q c).all fun d => decide (d < 128)) = true := by decide +kernel
theorem fold_asc (q : Nat) (hq : q ∈ [34, 39]) : ∀ (l : List Nat) (acc : Array Nat), (∀ c ∈ l, c < 128) → (acc.toList.all fun d => decide (d < 128)) = true → ((l.foldl (fun out c => out ++ (Builtin.Str.reprChar q c).toArray) acc).toList.all fun d => decide (d < 128)) = true
  | [], acc, _, h => h
  | c :: r, acc, hl, h => by
    rw [List.foldl_cons]
    refine fold_asc q hq r _ (fun d hd => hl d (List.mem_cons_of_mem _ hd)) ?_
    rw [Array.toList_append, List.all_append, h, Bool.true_and]
    exact char_asc q hq c (List.mem_range.mpr (hl c List.mem_cons_self))
theorem repr_asc {x : Str} (h : asc x = true) : asc (reprText x) = true := by
  have hq : reprQuote x ∈ [34, 39] := by rcases quote_two x with e | e <;> rw [e] <;> simp
  have hq2 : reprQuote x < 128 := by rcases quote_two x with e | e <;> rw [e] <;> decide
  unfold asc at h ⊢
  unfold reprText
  rw [List.all_eq_true] at h
  show ((((x.cps.foldl (fun out c => out ++ (Builtin.Str.reprChar (reprQuote x) c).toArray) #[reprQuote x]).push (reprQuote x))).toList.all fun c => decide (c < 128)) = true
  rw [Array.toList_push, List.all_append, ← Array.foldl_toList]
  rw [fold_asc _ hq _ _ (fun c hc => of_decide_eq_true (h c hc)) (by simpa using hq2)]
  simpa using hq2
theorem join_asc {s : Str} (hs : asc s = true) : ∀ ts : List Str, (∀ t ∈ ts, asc t = true) → asc (Str.join s ts) = true
  | [], _ => by show asc Str.empty = true; decide +kernel
  | [x], h => h x (by simp)
  | x :: y :: r, h => by
    have ih := join_asc hs (y :: r) fun t ht => h t (List.mem_cons_of_mem _ ht)
    show asc (x ++ s ++ Str.join s (y :: r)) = true
    rw [asc_app, asc_app, h x List.mem_cons_self, hs, ih]; rfl
theorem from_asc : ∀ (ts : List Str) (k : Nat) (acc : Str), (∀ t ∈ ts, asc t = true) → asc acc = true → asc (textFrom k acc ts) = true
  | [], _, _, _, h => h
  | t :: r, k, acc, hl, h => by
    refine from_asc r (k + 1) _ (fun u hu => hl u (List.mem_cons_of_mem _ hu)) ?_
    have e : asc ((if k > 0 then ", " else "" : String) : Str) = true := by split <;> decide +kernel
    rw [asc_app, asc_app, h, e, hl t List.mem_cons_self]; rfl
mutual
theorem shown_asc : ∀ d : D, plainD d = true → asc d.shown = true
  | .none, _ => by rw [PyData.shown]; decide +kernel
  | .bool b, _ => by rw [PyData.shown]; cases b <;> decide +kernel
  | .int i, _ => by rw [PyData.shown]; exact (int_text i).2
  | .str x, h => by
    rw [PyData.shown]
    rw [plainD] at h
    exact repr_asc h
  | .list ds, h => by
    rw [PyData.shown]
    rw [plainD] at h
    unfold listText
    rw [asc_app, from_asc _ _ _ (shownAll_asc ds h) (by decide +kernel)]
    decide +kernel
  | .tuple ds, h => by
    rw [PyData.shown]
    rw [plainD] at h
    unfold tupleText
    have e : asc ((if (PyData.shownAll ds).length == 1 then ",)" else ")" : String) : Str) = true := by split <;> decide +kernel
    rw [asc_app, asc_app, join_asc (by decide +kernel) _ (shownAll_asc ds h), e]
    decide +kernel
  | .dict _, h => by rw [plainD] at h; cases h
theorem shownAll_asc : ∀ ds : List D, plainAll ds = true → ∀ t ∈ PyData.shownAll ds, asc t = true
  | [], _ => fun t ht => by rw [PyData.shownAll] at ht; cases ht
  | d :: r, h => by
    rw [plainAll, Bool.and_eq_true] at h
    rw [PyData.shownAll]
    intro t ht
    rcases List.mem_cons.mp ht with rfl | ht
    · exact shown_asc d h.1
    · exact shownAll_asc r h.2 t ht
end
/-- lists of such texts may be compared -/
theorem okEq_texts {xs ys : List Str} (h1 : ∀ x ∈ xs, asc x = true) (h2 : ∀ x ∈ ys, asc x = true) : okEq (.list (xs.map .str)) (.list (ys.map .str)) = true := by
  have one : ∀ {zs : List Str}, (∀ x ∈ zs, asc x = true) → SeqAt.shaped (.list (zs.map .str)) = true := fun {zs} hz => by
    refine shaped_list fun d hd => ?_
    obtain ⟨x, hx, rfl⟩ := List.mem_map.mp hd
    exact ⟨by rw [plainD]; exact hz x hx, by rw [PyData.depth]; omega⟩
  exact okEq_lists (one h1) (one h2)
theorem eqv_texts (xs : List Str) : PyData.eqv (.list (xs.map .str)) (.list (xs.map .str)) = true := by
  rw [PyData.eqv]
  induction xs with
  | nil => rfl
  | cons x r ih =>
    rw [List.map_cons, PyData.eqvAll, ih, eqv_str, decide_eq_true rfl]; rfl
end DL

set_option maxRecDepth 100000
set_option maxHeartbeats 4000000
/-! DL24: list.count of flat things. -/
namespace DL
open PySem PySem.Spec PySem.W PyProof.Rows L2 RZ
def rCntF (K : PySem.W.Frag) : V → List V → Hp → VK → Prop := fun x xs H Q => ∃ (p : Addr) (ys : List V) (y : V), x = .ref p ∧ xs = [y] ∧ SqL K H p ys ∧ flatV y = true ∧ ys.all flatV = true ∧ Q (.int (ys.countP fun z => eqV z y : Nat)) H
theorem countP_rel {e : Value → Bool} {f : V → Bool} : ∀ {ys : List V} {us : List Value}, Vals ys us → (∀ z u, z ∈ ys → RelV z u → e u = f z) → us.countP e = ys.countP f
  | _, _, .nil, _ => rfl
  | _, _, .cons r h, k => by
    have ih := countP_rel h fun z u hz => k z u (List.mem_cons_of_mem _ hz)
    rw [List.countP_cons, List.countP_cons, ih, k _ _ List.mem_cons_self r]
theorem mt_countF {X : Cx} : MtR X "list.count" (rCntF X.K) := by
  intro pins s σ H x xs v us Q I rx rxs h
  obtain ⟨p, ys, y, rfl, rfl, hs, fy, fys, q⟩ := h
  cases rx
  obtain ⟨u, rfl, ru⟩ := rxs.one
  obtain ⟨its, rv, ⟨⟨cls, dd, data, sl⟩, n, ho, hc, hdn, hd⟩, hlen⟩ := I.list hs
  simp only at hc hd
  subst hc hd
  refine call_meets PySem.F.slot_list_count ⟨_, ho, rfl⟩ PySem.F.entry_list_count (PySem.F.args_list_count_2 _ _)
    (SeqAt.list_countAt p its.toArray n dd sl u (eqU y)) ⟨ho, fun u' hu' => mem_eqAt ru fy rv fys u' (by simpa using hu'), ?_⟩
  have ec : its.toArray.toList.countP (eqU y) = ys.countP fun z => eqV z y := countP_rel rv fun z u' hz r => eqU_of r (List.all_eq_true.mp fys z hz)
  refine ⟨.int (ys.countP fun z => eqV z y : Nat), H, I.tok _, ⟨s.toks, ?_⟩, q⟩
  show Value.int ((its.toArray.toList.countP (eqU y) : Nat) : Int) s.toks = _
  rw [ec]
def tdCount (t te : TDE) : TDE := fun env G Q => t env G fun x G1 => asD x fun d => match d with
  | .list ds => ds.all flatS = true ∧ te env G1 fun y G2 => asD y fun e => flatS e = true ∧ Q (.d (.int (ds.countP fun z => PyData.eqv z e : Nat))) G2
  | _ => False
theorem count_rp {H : Hp} {v : V} {d : D} (r : Rp H v d) (hd : flatS d = true) : ∀ {vs : List V} {ds : List D}, RpAll H vs ds → ds.all flatS = true → vs.countP (fun z => eqV z v) = ds.countP fun z => PyData.eqv z d
  | _, _, .nil, _ => rfl
  | _, _, .cons a b, h => by
    rw [List.all_cons, Bool.and_eq_true] at h
    have ih := count_rp r hd b h.2
    rw [List.countP_cons, List.countP_cons, ih, eqv_rp a r h.1 hd]
theorem de_count {X : Cx} {F : Fx} {o e : Expr} {apos cpos : Pos} {t te : TDE} (ho : DE X F o t) (he : DE X F e te)
    (hbase : attributeBase o "count" X.env (eval o X.env) = eval o X.env := by rfl)
    (hfew : ((backTo cpos (starEach [e] X.env)).all (fun x => !x.1) && (backToKw cpos (keywordEach [] X.env)).all (fun x => x.1.isSome) && decide ([e].length + ([] : List Keyword).length + (if ([] : List Keyword).isEmpty then 0 else 1) < 30)) = true := by rfl)
    (hline : (apos.endLine == cpos.line) = true := by rfl) (hs : starEach [e] X.env = (false, eval e X.env) :: starEach [] X.env := by rfl) (hplain : (backTo cpos (starEach [] X.env)).any (·.1) = false := by rfl) :
    DE X F (.Call (.Attribute o "count" apos) [e] [] cpos) (tdCount t te) :=
  PE.imp (pe_bm PySem.F.plainAttrs_list PySem.F.slot_list_count PySem.F.type_list_count mt_countF ho (pa_cons he pa_nil hs) hbase hfew hline hs hplain) fun σ H Q ⟨P, env, G, Qd, I, h, k⟩ => ⟨P, env, G, _, I, h, fun v H1 x G1 I1 s1 r1 h1 => by
    obtain ⟨d, rfl, h2⟩ := asD_inv (x := x) h1
    cases d with
    | list ds =>
      obtain ⟨hf, h3⟩ := h2
      obtain ⟨p, vs, rfl, hp, ra⟩ := r1.lst_inv
      refine ⟨.inl ⟨rfl, vs, SqL.of (hide_some hp).2⟩, P, env, G1, _, I1, h3, fun u H2 y G2 I2 s2 r2 h4 => ?_⟩
      obtain ⟨e', rfl, he', h5⟩ := asD_inv (x := y) h4
      have ra2 := RpAll.mono (I1.sm s2) ra
      refine ⟨p, vs, u, rfl, rfl, SqL.of (hide_some (I1.sm s2 _ _ hp)).2, flat_rp r2 he', flat_all ra2 hf, ?_⟩
      rw [count_rp r2 he' ra2 hf]
      exact k _ H2 (.d (.int _)) G2 I2 (Kp.trans s1 s2) (Rp.int _) h5
    | _ => exact h2.elim⟩
end DL

set_option maxRecDepth 100000
set_option maxHeartbeats 4000000
/-! DL25: own lists whose items' type grows. -/
namespace TY
open PySem PySem.Spec PySem.W PyProof.Rows L2 RZ DL
section
variable {F : GS → Prop} {t tb : TDE} {Γ bk ct : TY.Ctx} {ρ : VP}
theorem hf_addOS (τ : T) {σ : T} {a b c f : Nat} {i : Nat} (hb : HE F tb Γ (dd (tLst σ c f))) (s : ∀ d, τ d → σ d) (h : Γ[i]? = some (so (ow τ a b)) := by rfl) (hz : b + f ≤ sizeLine := by first | decide | (rw [sizeLine_eq]; omega)) : HF F (tdAddO i tb) Γ σ (a + c) (b + f) := fun env G Q fi g k => by
  obtain ⟨x, e1, xs, rfl, h0, h1, h2⟩ := fi.look h
  unfold tdAddO
  rw [e1]
  refine hb env G _ fi g fun y G2 hy g2 => ?_
  obtain ⟨e, rfl, ys, rfl, h3, h4, h5⟩ := hy
  exact ⟨by omega, k _ G2 (app_all (fun z hz => s z (h0 z hz)) h3) (by rw [List.length_append]; omega) (by rw [List.length_append]; omega) g2⟩
theorem hs_appendS (τ : T) {σ : T} {i : Nat} {a b : Nat} (h : HE F t Γ (dd σ)) (s : ∀ d, τ d → σ d) (e : Γ[i]? = some (so (ow τ a b)) := by rfl) (hz : b < sizeLine := by first | decide | (rw [sizeLine_eq]; omega)) : HS F (tdAppend i t) Γ (Γ.set i (so (ow σ (a + 1) (b + 1)))) bk ct ρ := fun K env G f g k1 _ _ _ => by
  obtain ⟨x, e1, xs, rfl, h0, h1, h2⟩ := f.look e
  unfold tdAppend
  rw [e1]
  refine h env G _ f g fun y G1 hy g1 => ?_
  obtain ⟨d, rfl, hd⟩ := hy
  refine ⟨by omega, k1 _ G1 (f.put i ⟨_, rfl, fun z hz => ?_, by rw [List.length_append, List.length_singleton]; omega, by rw [List.length_append, List.length_singleton]; omega⟩) g1⟩
  rcases List.mem_append.mp hz with q | q
  · exact s z (h0 z q)
  · rw [List.mem_singleton] at q
    rw [q]; exact hd
end
end TY

set_option maxRecDepth 100000
set_option maxHeartbeats 4000000
/-! DL26: raising defs called where nothing may be raised; (*e, ..). -/
namespace DL
open PySem PySem.Spec PySem.W PyProof.Rows L2 RZ
/-- where a raising def is called and will not raise: W := fun _ _ => False -/
theorem takes_no {X : Cx} {F : Fx} {mg : Str → Option Value} : Takes X (lW F mg fun _ _ => False) := LamX.takes0.imp fun _ _ _ _ ⟨_, _, _, _, _, h⟩ => h
def seqOf : D → Option (List D)
  | .list ds => some ds
  | .tuple ds => some ds
  | _ => none
def tdStar (t : TDE) (tr : TDA) : TDA := fun env G Q => t env G fun x G1 => asD x fun d => match seqOf d with
  | some ds => tr env G1 fun xs G2 => Q (ds.map SV.d ++ xs) G2
  | none => False
theorem rel_of {F : Fx} {P : List Addr} {H : Hp} : ∀ {vs : List V} {ds : List D}, RpAll (hide H P) vs ds → Paired (VRel F P H) (ds.map SV.d) vs
  | _, _, .nil => .nil
  | _, _, .cons a b => .cons a (rel_of b)
section
variable {X : Cx} {F : Fx} {e : Expr} {es : List Expr} {te : TDE} {tr : TDA} {p : Pos}
theorem da_star (he : DE X F e te) (hr : DA X F es tr) (hs : starEach (.Starred e p :: es) X.env = (true, eval e X.env) :: starEach es X.env := by rfl) : DA X F (.Starred e p :: es) (tdStar te tr) :=
  PA.imp (StX.pa_star he hr hs) fun σ H Q ⟨P, env, G, Qd, I, h, k⟩ => ⟨P, env, G, _, I, h, fun v H1 x G1 I1 s1 r1 h1 => by
    obtain ⟨d, rfl, h2⟩ := asD_inv (x := x) h1
    have fin : ∀ (a : Addr) (xs : List V) (ds : List D), v = .ref a → (SqT X.K H1 a xs ∨ SqL X.K H1 a xs) → RpAll (hide H1 P) xs ds → (tr env G1 fun xs G2 => Qd (ds.map SV.d ++ xs) G2) → ∃ a xs, v = V.ref a ∧ (SqT X.K H1 a xs ∨ SqL X.K H1 a xs) ∧ lA F tr σ H1 fun ys H2 => Q (xs ++ ys) H2 := fun a xs ds ev hx ra h3 =>
      ⟨a, xs, ev, hx, P, env, G1, _, I1, h3, fun vs H2 ys G2 I2 s2 r2 h4 => k _ H2 _ G2 I2 (Kp.trans s1 s2) (paired_app (rel_of (RpAll.mono (I1.sm s2) ra)) r2) h4⟩
    cases d with
    | list ds =>
      obtain ⟨a, xs, rfl, ha, ra⟩ := r1.lst_inv
      exact fin a xs ds rfl (.inr (SqL.of (hide_some ha).2)) ra h2
    | tuple ds =>
      obtain ⟨a, xs, rfl, ha, ra⟩ := r1.tup_inv
      exact fin a xs ds rfl (.inl (SqT.of (hide_some ha).2)) ra h2
    | _ => exact h2.elim⟩
end
end DL
namespace DL
open PySem PySem.Spec PySem.W PyProof.Rows L2 RZ
section
variable {pr : Program} {w : World} {K : PySem.W.Frag} {mg : Str → Option Value} {base : Heap}
/-- raising defs with defaults -/
theorem FnX.ofD {x qual : Str} {params : Arguments} {stmts : List Stmt} {scope : Scope} {dvs : List V} {kws : List (Str × V)} {f : Addr} {fd : FuncData} {N ps : List Str} {lv : Nat} {sp : Sp4} (F : FunD K x qual params stmts scope dvs kws f fd) (S : FnScope N ps scope) (len : ∀ vs H Q E, sp vs H Q E → vs.length = ps.length)
    (body : ∀ (cdv : Value) (A : Around) (out : List Env) (s : Shared) (H : Hp) (vs : List V) (Q : VK) (E : XK), Room lv (A.deeper (envOfC qual scope s.heap.objs.size f cdv)) → (A.deeper (envOfC qual scope s.heap.objs.size f cdv)).guards = some [] → sp vs H Q E →
      ∃ t, PSs (cxOf (L2.CX pr w) pr w K mg base N qual scope f cdv A out s H E) stmts t ∧ t { nx := fun _ H' => Q .non H', rt := Q } (start N vs) H) : FnX pr w K mg base (lv + 1) f fd ps sp := by
  obtain ⟨oc, od, dV, kV, doc, pm, an, cdv, ct, osl, rfl, at_f, code, _, _⟩ := F.ex
  refine ⟨len, fun A out s H ar us vs Q E hr hg e0 hb r hsp => ?_⟩
  have old : ∀ b o, base.get? b = some o → s.heap.get? b = some o := fun b o z => (e0.bs b o z).1
  have kin : K.In s.heap := e0.mod.kin.keeps old
  have kinds : ∀ y ∈ ps.zip us, scope.names.lookup y.1 = some .local ∨ (scope.names.lookup y.1 = some .cell ∧ ((cellsFrom (s.heap.objs.size + 1) scope.names []).lookup y.1).isSome = true) := by
    rintro ⟨n, v⟩ hy
    exact (S.par n (List.of_mem_zip hy).1).imp id fun z => ⟨z, PySem.W.cellsFrom_some _ _ _ (.inl z)⟩
  refine codeAny_call_function hr.depth (kin f _ at_f) rfl S.co S.gen rfl (PySem.W.codeRec_of kin code) (hb _ _ _ _ (wpAny_newFunctionEnv_cells S.kind kinds fun env he s1 ic => ?_))
  cases he
  refine ⟨(e0.mod.nolimit.keeps old).keeps ic.toInCall.keep, codeAny_func ?_⟩
  obtain ⟨t, ht, hq⟩ := body cdv A out s H vs Q E (hr.deeper _) hg hsp
  have I0 := inv_start (CX := L2.CX pr w) (E := E) S hr.hd e0 (len vs H Q E hsp) r ic
  refine wpAny_mono (ht.run [] s1 (start N vs) H _ I0 hq) (fun fl s' hs => ?_) fun _ _ z => z
  match fl, hs with
  | .ret u, ⟨v, σ', H', J, rv, q⟩ => exact ⟨v, H', J.os, J.bare, J.base, J.hok, rv, q⟩
  | .next, ⟨σ', H', J, q⟩ => exact ⟨.non, H', J.os, J.bare, J.base, J.hok, rfl, q⟩
  | .brk, ⟨_, _, _, q⟩ => exact False.elim q
  | .cont, ⟨_, _, _, q⟩ => exact False.elim q
theorem FnX.dataD {x qual : Str} {st : Stmt} {dvs : List V} {kws : List (Str × V)} {f : Addr} {fd : FuncData} {N ps : List Str} {lv : Nat} {ct : CTX} (Fn : FunD K x qual (defArgs st) (defBody st) (defScope st) dvs kws f fd) (S : FnScope N ps (defScope st)) (t : (XD → GS → Prop) → TDS)
    (body : ∀ (cdv : Value) (A : Around) (out : List Env) (s : Shared) (H : Hp) (F : Fx) (E : XK) (W : XD → GS → Prop), F.K = K → Room lv (A.deeper (envOfC qual (defScope st) s.heap.objs.size f cdv)) → (A.deeper (envOfC qual (defScope st) s.heap.objs.size f cdv)).guards = some [] →
      Takes (cxOf (L2.CX pr w) pr w K mg base N qual (defScope st) f cdv A out s H E) (lW F mg W) → DSs (cxOf (L2.CX pr w) pr w K mg base N qual (defScope st) f cdv A out s H E) F (defBody st) (t W))
    (read : ∀ xs G Q W, ct xs G Q W → xs.length = ps.length ∧ t W { nx := fun _ G' => Q (.d .none) G', rt := Q } (startD N.length xs) G) : FnX pr w K mg base (lv + 1) f fd ps (lSpX K mg ct) := by
  refine FnX.ofD Fn S (fun vs H Q E h => ?_) fun cdv A out s H vs Q E hr hg h => ?_
  · obtain ⟨ga, P, G, xs, Qd, Wd, c, r, h, _⟩ := h
    rw [← Paired.length r]
    exact (read xs G Qd Wd h).1
  · obtain ⟨ga, P, G, xs, Qd, Wd, c, r, h, k, kx⟩ := h
    let F : Fx := ⟨K, ga, H, P, c.pd⟩
    have tk : Takes (cxOf (L2.CX pr w) pr w K mg base N qual (defScope st) f cdv A out s H E) (lW F mg Wd) := by
      have tk0 : Takes (cxOf (L2.CX pr w) pr w K mg base N qual (defScope st) f cdv A out s H E) (fun cls d _ H => E cls d H) := takes_of rfl rfl rfl rfl
      refine tk0.imp fun cc d σ' H' ⟨P', G', y, J, xr, hw⟩ => ?_
      obtain ⟨c', less⟩ := CInv.back (P := P) J J.sub c.gp
      exact kx cc d H' y G' (fun a o q n => J.fr a o q n) c' (xr.mono less) hw
    refine ⟨lS F (t Wd), body cdv A out s H F E Wd rfl hr hg tk, P, startD N.length xs, G, _, start_inv c r F rfl rfl rfl rfl, (read xs G Qd Wd h).2, ?_⟩
    constructor
    · intro P' env' G' σ' H' J s' h'
      obtain ⟨c', less⟩ := CInv.back (P := P) J.h J.h.sub c.gp
      exact k .non H' (.d .none) G' (fun a o q n => J.h.fr a o q n) c' Rp.non h'
    · intro P' env' G' σ' H' J s' h'; exact h'
    · intro P' env' G' σ' H' J s' h'; exact h'
    · intro P' v H' y G' J s' rv h'
      obtain ⟨c', less⟩ := CInv.back (P := P) J J.sub c.gp
      exact k v H' y G' (fun a o q n => J.fr a o q n) c' (VRel.mono less (vrel_fx rv)) h'
end
end DL

set_option maxRecDepth 100000
set_option maxHeartbeats 4000000
/-! DL27: calls by keywords in another order. -/
namespace DL
open PySem PySem.Spec PySem.W PyProof.Rows L2 RZ
def sw2 {α : Type} : List α → List α
  | [a, b] => [b, a]
  | l => l
def rv3 {α : Type} : List α → List α
  | [a, b, c] => [c, b, a]
  | l => l
theorem sw2_rel {α β : Type} {R : α → β → Prop} : ∀ {xs : List α} {ys : List β}, Paired R xs ys → Paired R (sw2 xs) (sw2 ys)
  | _, _, .nil => .nil
  | _, _, .cons a .nil => .cons a .nil
  | _, _, .cons a (.cons b .nil) => .cons b (.cons a .nil)
  | _, _, .cons a (.cons b (.cons c r)) => .cons a (.cons b (.cons c r))
theorem rv3_rel {α β : Type} {R : α → β → Prop} : ∀ {xs : List α} {ys : List β}, Paired R xs ys → Paired R (rv3 xs) (rv3 ys)
  | _, _, .nil => .nil
  | _, _, .cons a .nil => .cons a .nil
  | _, _, .cons a (.cons b .nil) => .cons a (.cons b .nil)
  | _, _, .cons a (.cons b (.cons c .nil)) => .cons c (.cons b (.cons a .nil))
  | _, _, .cons a (.cons b (.cons c (.cons d r))) => .cons a (.cons b (.cons c (.cons d r)))
section
variable {K : PySem.W.Frag}
theorem kw_sw2 {x qual : Str} {st : Stmt} {f : Addr} {fd : FuncData} {p q : Str} (F : L2.Fun K x qual st f fd)
    (h : ∀ (kV doc pm : Value) (an : Option Addr) (cdv ct : Value) (u v : Value), bindArgs (PySem.W.fnOf x qual (defArgs st) (defBody st) (defScope st) .none kV doc pm an cdv ct) ⟨[], [(q, v), (p, u)]⟩ = pure [(p, u), (q, v)]) : KwB K fd [p, q] [q, p] sw2 sw2 := by
  obtain ⟨oc, od, kV, doc, pm, an, cdv, ct, osl, rfl, lk, hcd⟩ := F.ex
  refine ⟨fun s ws _ hl => ?_, fun r => sw2_rel r⟩
  match ws, hl with
  | [v, u], _ => exact .of_eq (h kV doc pm an cdv ct u v)
theorem kw_rv3 {x qual : Str} {st : Stmt} {f : Addr} {fd : FuncData} {p q r : Str} (F : L2.Fun K x qual st f fd)
    (h : ∀ (kV doc pm : Value) (an : Option Addr) (cdv ct : Value) (u v w : Value), bindArgs (PySem.W.fnOf x qual (defArgs st) (defBody st) (defScope st) .none kV doc pm an cdv ct) ⟨[], [(r, w), (q, v), (p, u)]⟩ = pure [(p, u), (q, v), (r, w)]) : KwB K fd [p, q, r] [r, q, p] rv3 rv3 := by
  obtain ⟨oc, od, kV, doc, pm, an, cdv, ct, osl, rfl, lk, hcd⟩ := F.ex
  refine ⟨fun s ws _ hl => ?_, fun r => rv3_rel r⟩
  match ws, hl with
  | [w, v, u], _ => exact .of_eq (h kV doc pm an cdv ct u v w)
end
end DL

set_option maxRecDepth 100000
set_option maxHeartbeats 4000000
namespace K07
open PySem PySem.Spec PySem.W PyProof.Rows L2 RZ DL TY ER
abbrev Ok (d : D) : Prop := Nice 40 1000000 d
def isNumber : D → Bool
  | .int i => decide (0 ≤ i)
  | _ => false
def letters : Str := "abcdefghijklmnopqrstuvwxyz"
def isLetter (c : Nat) : Bool := decide (c ∈ letters.cps.toList)
def isName : D → Bool
  | .str x => decide (1 ≤ x.length) && decide (x.length ≤ 8) && x.cps.toList.all isLetter
  | _ => false
def isZone : D → Bool
  | .tuple [a, b] => isName a && isPlaces b
  | _ => false
def isWay : D → Bool
  | .tuple ds => !ds.isEmpty && ds.all isName && noAdj ds
  | _ => false
def ctB (C : D → Prop) (f : D → Bool) : CT := fun xs G Q => ∃ d, xs = [.d d] ∧ C d ∧ Q (.d (.bool (f d))) G
structure Cal (pr : Program) (w : World) (K : PySem.W.Frag) (mg : Str → Option Value) (base : Heap) (x : Str) (ps : List Str) (lv : Nat) (ct : CT) : Prop where
  ex : ∃ f fd, FnG pr w K mg base lv f fd ps (lSp K ct) ∧ mg x = some (.ref f) ∧ PySem.W.keepIn K (.ref f) = true ∧ Binds K fd ps [] ∧ (∀ p, ps = [p] → KwB K fd [p] [p] id id)
abbrev ct_is_integer : CT := ctB (fun _ => True) isInteger
abbrev ct_is_number : CT := ctB (fun _ => True) isNumber
abbrev ct_is_name : CT := ctB Ok isName
abbrev ct_is_pair : CT := ctB (fun _ => True) isPair
abbrev ct_is_places : CT := ctB (fun _ => True) isPlaces
abbrev ct_is_zone : CT := ctB Ok isZone
abbrev ct_is_way : CT := ctB Ok isWay
abbrev k1 : Str := "spot"
abbrev k2 : Str := "left"
abbrev k3 : Str := "turn"
abbrev lamQ : Str := (("_law_are_refused" : Str) ++ ".<locals>.") ++ "<lambda>"
section Tables
/-- the code object of the def with lambdas, and its table -/
class TbOf where
  c : Addr
  P : Addr
variable [TbOf]
abbrev tabsL : List TabD := [⟨TbOf.c, TbOf.P, lamQ⟩]
theorem tabsL_nd : (tabsL.map (·.P)).Nodup := List.nodup_cons.mpr ⟨List.not_mem_nil, List.nodup_nil⟩
def tbG : GS := tabsG tabsL
/-- the feed, wherever it stands -/
def feed (ns : List Int) (x y z : Int) : GS := feedG k1 k2 k3 ns x y z ++ tbG
def Fd (G : GS) : Prop := ∃ ns x y z, G = feed ns x y z ∧ ns.length ≤ 63
section
variable {ns : List Int} {x y z a : Int}
theorem gv0 : gval (feed ns x y z) 0 (.inr "cells") = some (.list (ns.map .int)) := by
  simp [gval, feed, feedG, valD, List.find?_cons]
theorem gv1 : gval (feed ns x y z) 0 (.inr "spot") = some (.int x) := by
  simp only [gval, feed, feedG, List.cons_append, List.nil_append, valD, List.find?_cons, List.getElem?_cons_zero, key_no (show ("cells" : Str) ≠ "spot" by decide), decide_eq_true, Option.map_some]
theorem gv2 : gval (feed ns x y z) 0 (.inr "left") = some (.int y) := by
  simp only [gval, feed, feedG, List.cons_append, List.nil_append, valD, List.find?_cons, List.getElem?_cons_zero, key_no (show ("cells" : Str) ≠ "left" by decide), key_no (show ("spot" : Str) ≠ "left" by decide), decide_eq_true, Option.map_some]
theorem gv3 : gval (feed ns x y z) 0 (.inr "turn") = some (.int z) := by
  simp only [gval, feed, feedG, List.cons_append, List.nil_append, valD, List.find?_cons, List.getElem?_cons_zero, key_no (show ("cells" : Str) ≠ "turn" by decide), key_no (show ("spot" : Str) ≠ "turn" by decide), key_no (show ("left" : Str) ≠ "turn" by decide), decide_eq_true, Option.map_some]
theorem gp1 : gput (feed ns x y z) 0 (.inr "spot") (.int a) = feed ns a y z := by
  show GO.dict (putD [(.inr "cells", .list (ns.map .int)), (.inr k1, .int x), (.inr k2, .int y), (.inr k3, .int z)] (.inr "spot") (.int a)) :: tbG = _
  rw [put_any (by simp [k1])]
  simp [feed, feedG, k1, k2, k3, show ("cells" : Str) ≠ "spot" by decide, show ("left" : Str) ≠ "spot" by decide, show ("turn" : Str) ≠ "spot" by decide]
theorem gp2 : gput (feed ns x y z) 0 (.inr "left") (.int a) = feed ns x a z := by
  show GO.dict (putD [(.inr "cells", .list (ns.map .int)), (.inr k1, .int x), (.inr k2, .int y), (.inr k3, .int z)] (.inr "left") (.int a)) :: tbG = _
  rw [put_any (by simp [k2])]
  simp [feed, feedG, k1, k2, k3, show ("cells" : Str) ≠ "left" by decide, show ("spot" : Str) ≠ "left" by decide, show ("turn" : Str) ≠ "left" by decide]
theorem gp3 : gput (feed ns x y z) 0 (.inr "turn") (.int a) = feed ns x y a := by
  show GO.dict (putD [(.inr "cells", .list (ns.map .int)), (.inr k1, .int x), (.inr k2, .int y), (.inr k3, .int z)] (.inr "turn") (.int a)) :: tbG = _
  rw [put_any (by simp [k3])]
  simp [feed, feedG, k1, k2, k3, show ("cells" : Str) ≠ "turn" by decide, show ("spot" : Str) ≠ "turn" by decide, show ("left" : Str) ≠ "turn" by decide]
theorem gs0 : gsize (feed ns x y z) 0 = 4 := rfl
theorem gl0 : (feed ns x y z).length = tbG.length + 1 := by simp [feed, feedG]
theorem feed_tab : (feed ns x y z)[1]? = some (GO.tab TbOf.P lamQ) := rfl
end
abbrev ct__law_draw : CT := fun xs G Q => ∃ many : Int, xs = [.g 0, .d (.int many)] ∧ 0 < many ∧ many < 1000000 ∧ Fd G ∧ ∀ k G', 0 ≤ k → k < many → Fd G' → Q (.d (.int k)) G'
abbrev ct__law_pick : CT := fun xs G Q => ∃ ds, xs = [.g 0, .d (.list ds)] ∧ 0 < ds.length ∧ ds.length < 1000000 ∧ Fd G ∧ ∀ x G', x ∈ ds → Fd G' → Q (.d x) G'
abbrev ct__law_is_number : CT := ctB (fun _ => True) isNumber
abbrev ct__law_is_name : CT := ctB Ok isName
abbrev ct__law_is_zone : CT := ctB Ok isZone
abbrev ct__law_is_path : CT := ctB Ok isWay
theorem name_str {d : D} (h : isName d = true) : ∃ x, d = .str x := by
  cases d <;> first | exact ⟨_, rfl⟩ | cases h
def offLetter : D → Option D
  | .str t => if t.cps.toList.all isLetter = true then none else some (.str t)
  | _ => none
/-- [x for x in ds if not p(x)], what follows -/
theorem filter_rd {ds : List D} {g : TDG} {tt : TDT} {te : TDE} {env0 : DEnv} {G : GS} {Q : List D → GS → Prop} {p : D → Bool} (hc : Ok (.tuple ds))
    (hs : ∀ x ∈ ds, ∀ (K1 : D → GS → Prop) (K2 : GS → Prop), (if (!p x) = true then K1 x G else K2 G) → g (.d x) env0 fun env2 => tt env2 G fun b G1 => if b = true then te env2 G1 fun y G2 => asD y fun z => K1 z G2 else K2 G1)
    (h : ∀ ys, okEq (.list ys) (.list []) = true → PyData.eqv (.list ys) (.list []) = ds.all p → Q ys G) : lcl g tt te env0 ds [] G Q := by
  have hl := hc.tup_len
  have hz : ds.length ≤ sizeLine := by rw [sizeLine_eq]; omega
  refine lcl_pick (fun z => if p z then none else some z) ds [] (by simpa using hz) (fun x m K1 K2 k => ?_) ?_
  · refine hs x m K1 K2 ?_
    cases q : p x with
    | true => simpa [q] using k
    | false => simpa [q] using k
  · rw [List.nil_append]
    have hsub : ∀ d ∈ ds.filterMap (fun z => if p z then none else some z), plainD d = true ∧ d.depth ≤ 60 := by
      intro d hd
      obtain ⟨z, hz1, hz2⟩ := List.mem_filterMap.mp hd
      split at hz2
      · cases hz2
      · have e := Option.some.inj hz2
        subst e
        have := hc.tup_all z hz1
        exact ⟨this.pl, by have := this.dp; omega⟩
    refine h _ (okEq_lists (shaped_list hsub) (shaped_list (by simp))) ?_
    rw [eqv_nilL]
    rw [Bool.eq_iff_iff, List.isEmpty_iff, List.filterMap_eq_nil_iff, List.all_eq_true]
    constructor
    · intro h x hx
      have := h x hx
      split at this
      · assumption
      · cases this
    · intro h x hx
      rw [if_pos (h x hx)]
theorem bd_ok {e m b : Nat} {d : D} (h : Bd e m b d) (h1 : e ≤ 40) (h2 : m ≤ 1000000) : Ok d := h.n.mono h1 h2
/-- the first name before the second -/
def nameLt : D → D → Bool
  | .tuple [.str a, _], .tuple [.str b, _] => decide (a.cps.toList < b.cps.toList)
  | _, _ => false
def zoneAt (ds : List D) (j : Nat) : Bool := match ds[j]? with
  | some z => isZone z && (match j with
    | 0 => true
    | i + 1 => match ds[i]? with
      | some y => nameLt y z
      | none => false)
  | none => false
/-- the first place at which ok does not hold -/
def firstBad (ok : Nat → Bool) (n : Nat) : Option Nat := (List.range n).find? fun j => !ok j
theorem firstBad_no {ok : Nat → Bool} {n : Nat} (h : ∀ j, j < n → ok j = true) : firstBad ok n = none := by
  unfold firstBad
  rw [List.find?_eq_none]
  intro j hj
  rw [h j (List.mem_range.mp hj)]; simp
theorem firstBad_at {ok : Nat → Bool} {n i : Nat} (h : ∀ j, j < i → ok j = true) (hi : i < n) (hb : ok i = false) : firstBad ok n = some i := by
  unfold firstBad
  rw [List.find?_range_eq_some]
  refine ⟨by rw [hb]; rfl, List.mem_range.mpr hi, fun j hj => ?_⟩
  rw [h j hj]; rfl
theorem firstBad_lt {ok : Nat → Bool} {n i : Nat} (h : firstBad ok n = some i) : i < n := List.mem_range.mp (List.mem_of_find?_eq_some h)
def ftOf (w : Str) : Option Nat → D
  | some k => .tuple [.str w, .int (k : Nat)]
  | none => .none
def zonesF : D → D
  | .tuple (z :: r) => ftOf "zone" (firstBad (zoneAt (z :: r)) (z :: r).length)
  | _ => .tuple [.str "zones", .int (-1)]
theorem zones_ft {ds : List D} (h : ds ≠ []) : zonesF (.tuple ds) = ftOf "zone" (firstBad (zoneAt ds) ds.length) := by
  cases ds with
  | nil => exact absurd rfl h
  | cons z r => rfl
/-- the zones' names -/
def nameOf : D → D
  | .tuple [.str a, _] => .str a
  | _ => .none
def namesOf : D → List D
  | .tuple zs => zs.map nameOf
  | _ => []
def wayIn (ns : List D) (w : D) : Bool := isWay w && (match w with
  | .tuple xs => xs.all fun n => inD n ns
  | _ => false)
def wayAt (ns ws : List D) (j : Nat) : Bool := match ws[j]? with
  | some w => wayIn ns w
  | none => false
def waysF (ns : List D) : D → D
  | .tuple ws => ftOf "way" (firstBad (wayAt ns ws) ws.length)
  | _ => .tuple [.str "ways", .int (-1)]
def orF : D → D → D
  | .none, y => y
  | x, _ => x
def floorF : D → D
  | .tuple [a, b] => orF (zonesF a) (waysF (namesOf a) b)
  | _ => .tuple [.str "shape", .int (-1)]
def countF : D → Int
  | .tuple [_, .tuple ws] => (ws.length : Nat)
  | _ => 0
def dueOf (d : D) : D → D
  | .tuple [w, k] => .tuple [.str "paper", w, k]
  | _ => .tuple [.str "told", .int (countF d)]
def dueF (d : D) : D := dueOf d (floorF d)
theorem zone_inv {d : D} (h : isZone d = true) : ∃ x i, d = .tuple [.str x, .int i] := by
  unfold isZone at h
  split at h
  · rename_i a b
    rw [Bool.and_eq_true] at h
    obtain ⟨x, rfl⟩ := name_str h.1
    have h2 := h.2
    unfold isPlaces at h2
    split at h2
    · exact ⟨x, _, rfl⟩
    · cases h2
  · cases h
/-- what a fault looks like -/
def words : List Str := ["shape", "zones", "zone", "ways", "way"]
def Flt (r : D) : Prop := r = .none ∨ ∃ (w : Str) (k : Int), r = .tuple [.str w, .int k] ∧ w ∈ words ∧ -1 ≤ k ∧ k < 1000000
theorem flt_no : Flt .none := .inl rfl
theorem flt_w {w : Str} (h : w ∈ words) : Flt (.tuple [.str w, .int (-1)]) := .inr ⟨w, -1, rfl, h, by decide, by decide⟩
theorem flt_ft {w : Str} {ok : Nat → Bool} {n : Nat} (h : w ∈ words) (hn : n ≤ 1000000) : Flt (ftOf w (firstBad ok n)) := by
  cases q : firstBad ok n with
  | none => exact flt_no
  | some k =>
    have := firstBad_lt q
    exact .inr ⟨w, _, rfl, h, by omega, by omega⟩
theorem flt_zones {d : D} (hd : Ok d) : Flt (zonesF d) := by
  unfold zonesF
  split
  · have hl := hd.tup_len
    exact flt_ft (by decide +kernel) (by omega)
  · exact flt_w (by decide +kernel)
theorem flt_ways {ns : List D} {d : D} (hd : Ok d) : Flt (waysF ns d) := by
  unfold waysF
  split
  · have hl := hd.tup_len
    exact flt_ft (by decide +kernel) (by omega)
  · exact flt_w (by decide +kernel)
theorem flt_or {a b : D} (ha : Flt a) (hb : Flt b) : Flt (orF a b) := by
  rcases ha with rfl | ⟨w, k, rfl, h⟩
  · exact hb
  · exact .inr ⟨w, k, rfl, h⟩
theorem flt_floor {d : D} (hd : Ok d) : Flt (floorF d) := by
  unfold floorF
  split
  · exact flt_or (flt_zones (hd.tup_all _ (by simp))) (flt_ways (hd.tup_all _ (by simp)))
  · exact flt_w (by decide +kernel)
theorem zones_yes {zs : List D} (h : ∀ j, j < zs.length → zoneAt zs j = true) : ∀ z ∈ zs, isZone z = true := by
  intro z hz
  obtain ⟨j, hj, e⟩ := List.mem_iff_getElem.mp hz
  have q := h j hj
  unfold zoneAt at q
  simp only [List.getElem?_eq_getElem hj, e, Bool.and_eq_true] at q
  exact q.1
theorem zones_none {zs : List D} (h : zonesF (.tuple zs) = .none) : ∀ z ∈ zs, isZone z = true := by
  refine zones_yes fun j hj => ?_
  cases zs with
  | nil => cases hj
  | cons z r =>
    have h : ftOf "zone" (firstBad (zoneAt (z :: r)) (z :: r).length) = .none := h
    cases q : firstBad (zoneAt (z :: r)) (z :: r).length with
    | some k => rw [q] at h; cases h
    | none =>
      have := List.find?_eq_none.mp q j (List.mem_range.mpr hj)
      simpa using this
theorem names_flat {zs : List D} (h : ∀ z ∈ zs, isZone z = true) : (zs.map nameOf).all flatS = true := by
  rw [List.all_eq_true]
  intro n hn
  obtain ⟨z, hz, rfl⟩ := List.mem_map.mp hn
  obtain ⟨x, i, rfl⟩ := zone_inv (h z hz)
  rfl
theorem nice_due {d : D} (hd : Ok d) : Nice 5 1000 (dueF d) := by
  have hl : -1 ≤ countF d ∧ countF d < 1000000 := by
    unfold countF
    split
    · rename_i x ws
      have := (hd.tup_all (.tuple ws) (by simp)).tup_len
      omega
    · omega
  have one : ∀ (u v : Str) (k : Int), asc u = true → asc v = true → u.length ≤ 10 → v.length ≤ 10 → -1 ≤ k → k < 1000000 → Nice 5 1000 (.tuple [.str u, .str v, .int k]) := fun u v k a1 a2 l1 l2 h1 h2 =>
    have z : tAny 5 1000 300 (.tuple [.str u, .str v, .int k]) := s_tup_any (ts := [tStr 0 10, tStr 0 10, tInt (-1) 1000000]) (tb_cons (e1 := 0) (m := 200) (s_str_any (by decide)) (tb_cons (e1 := 0) (m := 200) (s_str_any (by decide)) (tb_cons (e1 := 0) (m := 200) (s_int_any 21 (by decide) (by decide) (by decide) (by decide) (by decide) (by decide)) tb_nil))) (by decide) (by decide) _
      ⟨_, rfl, .cons ⟨u, rfl, a1, Nat.zero_le _, l1⟩ (.cons ⟨v, rfl, a2, Nat.zero_le _, l2⟩ (.cons ⟨k, rfl, h1, by omega⟩ .nil))⟩
    z.n
  have two : ∀ (u : Str) (k : Int), asc u = true → u.length ≤ 10 → -1 ≤ k → k < 1000000 → Nice 5 1000 (.tuple [.str u, .int k]) := fun u k a1 l1 h1 h2 =>
    have z : tAny 5 1000 300 (.tuple [.str u, .int k]) := s_tup_any (ts := [tStr 0 10, tInt (-1) 1000000]) (tb_cons (e1 := 0) (m := 200) (s_str_any (by decide)) (tb_cons (e1 := 0) (m := 200) (s_int_any 21 (by decide) (by decide) (by decide) (by decide) (by decide) (by decide)) tb_nil)) (by decide) (by decide) _
      ⟨_, rfl, .cons ⟨u, rfl, a1, Nat.zero_le _, l1⟩ (.cons ⟨k, rfl, h1, by omega⟩ .nil)⟩
    z.n
  unfold dueF
  rcases flt_floor hd with e | ⟨w, k, e, hw, h1, h2⟩
  · rw [e]
    exact two "told" _ (by decide +kernel) (by decide +kernel) hl.1 hl.2
  · rw [e]
    have hb : words.all (fun x => asc x && decide (x.length ≤ 10)) = true := by decide +kernel
    have := List.all_eq_true.mp hb w hw
    rw [Bool.and_eq_true] at this
    exact one "paper" w k (by decide +kernel) this.1 (by decide +kernel) (of_decide_eq_true this.2) h1 h2
abbrev ct_zones_fault : CT := fun xs G Q => ∃ d, xs = [.d d] ∧ Ok d ∧ Q (.d (zonesF d)) G
abbrev ct_ways_fault : CT := fun xs G Q => ∃ zs d, xs = [.d (.tuple zs), .d d] ∧ Ok (.tuple zs) ∧ (∀ z ∈ zs, isZone z = true) ∧ Ok d ∧ Q (.d (waysF (zs.map nameOf) d)) G
abbrev ct_floor_fault : CT := fun xs G Q => ∃ d, xs = [.d d] ∧ Ok d ∧ Q (.d (floorF d)) G
abbrev ct_lets_floor : CTX := fun xs G Q W => ∃ d, xs = [.d d] ∧ Ok d ∧ (∀ w k, floorF d = .tuple [.str w, .int k] → W ⟨"InvalidPaper", [("word", .str w), ("at", .int k)]⟩ G) ∧ (floorF d = .none → Q (.d (.int (countF d))) G)
abbrev ct__law_same : CT := fun xs G Q => ∃ a b, xs = [.d a, .d b] ∧ Shw a ∧ Shw b ∧ Q (.d (.bool (decide (a.shown = b.shown)))) G
abbrev names : List Str := ["InvalidPaper", "NotUsable"]
abbrev known : XD → Prop := fun x => ∃ (w : Str) (d : D), x = ⟨"NotUsable", [("word", .str w), ("at", d)]⟩
theorem known_in : ∀ y, known y → y.cls ∈ names := fun y ⟨_, _, e⟩ => by subst e; exact List.mem_cons_of_mem _ List.mem_cons_self
def hear (x : XD) : D := match x.fs with
  | [(_, u), (_, v)] => .tuple [.str "use", u, v]
  | _ => .none
def fam (nm c : Str) : Bool := decide (c = "ValueError") || decide (c = nm) || (decide (nm = "InvalidPaper") && decide (c = "PaperError")) || (decide (nm = "NotUsable") && decide (c = "FloorError"))
/-- the zones' names, as they stand -/
def tagsOf (f : D) : List D := match f with
  | .tuple (.tuple zs :: _) => zs.map nameOf
  | _ => []
def waysOf (f : D) : List D := match f with
  | .tuple [_, .tuple ws] => ws
  | _ => []
/-- a floor -/
def IsFloor (f : D) : Prop := Ok f ∧ floorF f = .none
def isTag (f d : D) : Bool := isTy "str" d && inD d (tagsOf f)
def isIdx (f d : D) : Bool := match d with
  | .int i => decide (0 ≤ i) && decide (i < ((waysOf f).length : Nat))
  | _ => false
def xUse (w : Str) (d : D) : XD := ⟨"NotUsable", [("word", .str w), ("at", d)]⟩
abbrev ct_want : CTX := fun xs G Q W => ∃ b w d, xs = [.d (.bool b), .d (.str w), .d d] ∧ (b = true → Q (.d .none) G) ∧ (b = false → W (xUse w d) G)
abbrev ct_is_zone_of : CT := fun xs G Q => ∃ f d, xs = [.d f, .d d] ∧ IsFloor f ∧ Q (.d (.bool (isTag f d))) G
abbrev ct_is_way_of : CT := fun xs G Q => ∃ f d, xs = [.d f, .d d] ∧ IsFloor f ∧ Q (.d (.bool (isIdx f d))) G
abbrev ct_want_floor : CTX := fun xs G Q W => ∃ d, xs = [.d d] ∧ Ok d ∧ (floorF d = .none → Q (.d .none) G) ∧ (floorF d ≠ .none → W (xUse "floor" (.int (-1))) G)
abbrev ct_want_zone : CTX := fun xs G Q W => ∃ f d, xs = [.d f, .d d] ∧ IsFloor f ∧ (isTag f d = true → Q (.d .none) G) ∧ (isTag f d = false → W (xUse "zone" d) G)
abbrev ct_want_way : CTX := fun xs G Q W => ∃ f d, xs = [.d f, .d d] ∧ IsFloor f ∧ (isIdx f d = true → Q (.d .none) G) ∧ (isIdx f d = false → W (xUse "way" d) G)
/-- a floor's zones with other places for one of them -/
def placed (zs : List D) (z p : D) : List D := zs.map fun x => match x with
  | .tuple [n, m] => .tuple [n, if PyData.eqv n z then p else m]
  | x => x
abbrev ct_with_places : CTX := fun xs G Q W => ∃ f z p, xs = [.d f, .d z, .d p] ∧ Ok f ∧ Ok p ∧ (floorF f ≠ .none → W (xUse "floor" (.int (-1))) G) ∧ (floorF f = .none → isTag f z = false → W (xUse "zone" z) G) ∧
  (floorF f = .none → isTag f z = true → isPlaces p = false → W (xUse "places" (.int (-1))) G) ∧ (∀ zs ws, f = .tuple [.tuple zs, .tuple ws] → floorF f = .none → isTag f z = true → isPlaces p = true → Q (.d (.tuple [.tuple (placed zs z p), .tuple ws])) G)
abbrev ct_with_way : CTX := fun xs G Q W => ∃ f p, xs = [.d f, .d p] ∧ Ok f ∧ Ok p ∧ (floorF f ≠ .none → W (xUse "floor" (.int (-1))) G) ∧ (floorF f = .none → wayIn (tagsOf f) p = false → W (xUse "names" (.int (-1))) G) ∧
  (∀ zs ws, f = .tuple [.tuple zs, .tuple ws] → floorF f = .none → wayIn (tagsOf f) p = true → Q (.d (.tuple [.tuple zs, .tuple (ws ++ [p])])) G)
abbrev ct_without_way : CTX := fun xs G Q W => ∃ f p, xs = [.d f, .d p] ∧ Ok f ∧ (floorF f ≠ .none → W (xUse "floor" (.int (-1))) G) ∧ (floorF f = .none → isIdx f p = false → W (xUse "way" p) G) ∧
  (∀ zs ws i, f = .tuple [.tuple zs, .tuple ws] → floorF f = .none → p = .int i → isIdx f p = true → Q (.d (.tuple [.tuple zs, .tuple (ws.take i.toNat ++ ws.drop (i.toNat + 1))])) G)
theorem floor_inv {f : D} (h : IsFloor f) : ∃ zs ws, f = .tuple [.tuple zs, .tuple ws] ∧ (∀ z ∈ zs, isZone z = true) ∧ Ok f := by
  obtain ⟨hk, e⟩ := h
  cases f with
  | tuple xs =>
    match xs, hk, e with
    | [a, b], hk, e =>
      have e : orF (zonesF a) (waysF (namesOf a) b) = .none := e
      rcases flt_zones (hk.tup_all a (by simp)) with ez | ⟨w, k, ez, _⟩
      · rw [ez] at e
        have e : waysF (namesOf a) b = .none := e
        cases a with
        | tuple zs =>
          cases b with
          | tuple ws => exact ⟨zs, ws, rfl, zones_none ez, hk⟩
          | _ => cases e
        | _ => cases ez
      · rw [ez] at e; cases e
    | [], _, e => cases e
    | [_], _, e => cases e
    | _ :: _ :: _ :: _, _, e => cases e
  | _ => cases e
theorem allD_map : ∀ ds : List D, allD (ds.map SV.d) = some ds
  | [] => rfl
  | d :: ds => by
    have ih := allD_map ds
    rw [List.map_cons]
    simp only [allD, ih, Option.map_some]
/-- no two neighbours equal -/
def Adj (p : List Str) : Prop := ∀ j a b, p[j]? = some a → p[j + 1]? = some b → a ≠ b
theorem adj_one (x : Str) : Adj [x] := fun j a b h1 h2 => by
  have := (List.getElem?_eq_some_iff.mp h2).1
  simp at this
theorem nodup_at {p : List Str} (h : p.Nodup) {i j : Nat} {a : Str} (h1 : p[i]? = some a) (h2 : p[j]? = some a) : i = j := by
  obtain ⟨i1, e1⟩ := List.getElem?_eq_some_iff.mp h1
  obtain ⟨i2, e2⟩ := List.getElem?_eq_some_iff.mp h2
  rcases Nat.lt_trichotomy i j with q | q | q
  · exact absurd (by rw [e1, e2]) (List.pairwise_iff_getElem.mp h i j i1 i2 q)
  · exact q
  · exact absurd (by rw [e1, e2]) (List.pairwise_iff_getElem.mp h j i i2 i1 q)
theorem adj_nodup {p : List Str} (h : p.Nodup) : Adj p := fun j a b h1 h2 e => by
  subst e
  have := nodup_at h h1 h2
  omega
theorem adj_take {p : List Str} (h : Adj p) (m : Nat) : Adj (p.take m) := fun j a b h1 h2 => by
  rw [List.getElem?_take] at h1 h2
  split at h1
  · split at h2
    · exact h j a b h1 h2
    · cases h2
  · cases h1
theorem adj_rev {p : List Str} (h : Adj p) : Adj p.reverse := fun j a b h1 h2 => by
  have i2 := (List.getElem?_eq_some_iff.mp h2).1
  rw [List.length_reverse] at i2
  rw [List.getElem?_reverse (by omega)] at h1 h2
  exact (h (p.length - 1 - (j + 1)) b a h2 (by rw [show p.length - 1 - (j + 1) + 1 = p.length - 1 - j by omega]; exact h1)).symm
theorem adj_snoc {p : List Str} {t : Str} (h : Adj p) (hl : p.getLast? ≠ some t) : Adj (p ++ [t]) := fun j a b h1 h2 e => by
  by_cases q : j + 1 < p.length
  · rw [List.getElem?_append_left (by omega)] at h1
    rw [List.getElem?_append_left q] at h2
    exact h j a b h1 h2 e
  · have i2 := (List.getElem?_eq_some_iff.mp h2).1
    rw [List.length_append] at i2
    have hj : j + 1 = p.length := by simp at i2; omega
    rw [hj, List.getElem?_append_right (Nat.le_refl _)] at h2
    simp at h2
    rw [List.getElem?_append_left (by omega)] at h1
    apply hl
    rw [List.getLast?_eq_getElem?, ← hj, Nat.add_sub_cancel, h1, e, h2]
theorem rep_at {xs : List Str} : ∀ (n j : Nat) (a : Str), ((List.replicate n xs).flatten)[j]? = some a → xs[j % xs.length]? = some a
  | 0, j, a, h => by simp at h
  | n + 1, j, a, h => by
    rw [List.replicate_succ, List.flatten_cons] at h
    by_cases q : j < xs.length
    · rw [List.getElem?_append_left q] at h
      rw [Nat.mod_eq_of_lt q]; exact h
    · rw [List.getElem?_append_right (by omega)] at h
      have := rep_at n (j - xs.length) a h
      rw [← Nat.mod_eq_sub_mod (by omega)] at this
      exact this
theorem adj_cyc {xs : List Str} (h : xs.Nodup) (h2 : 2 ≤ xs.length) (n : Nat) : Adj ((List.replicate n xs).flatten) := fun j a b h1 h3 e => by
  have r1 := rep_at n j a h1
  have r2 := rep_at n (j + 1) b h3
  subst e
  have q := nodup_at h r1 r2
  have m1 := Nat.div_add_mod j xs.length
  have m2 := Nat.div_add_mod (j + 1) xs.length
  rw [← q] at m2
  have e3 : xs.length * ((j + 1) / xs.length) = xs.length * (j / xs.length) + 1 := by omega
  have d : xs.length ∣ 1 := (Nat.dvd_add_right (Nat.dvd_mul_right xs.length (j / xs.length))).mp (e3 ▸ Nat.dvd_mul_right xs.length ((j + 1) / xs.length))
  have := Nat.le_of_dvd (by decide) d
  omega
/-- names that stand in a pool -/
structure Tags (ts : List Str) : Prop where
  nd : ts.Nodup
  pos : 0 < ts.length
  len : ts.length ≤ 20
  ok : ∀ t ∈ ts, t.length ≤ 9 ∧ (t.cps.toList.all fun c => decide (c < 128)) = true
  nm : ∀ t ∈ ts, isName (.str t) = true
  nb : ("nobody" : Str) ∉ ts
abbrev ct__law_pool : CT := fun xs G Q => xs = [.g 0] ∧ Fd G ∧ ∀ (ts : List Str) G', Tags ts → ts.length = 8 → Fd G' → Q (.d (.list (ts.map .str))) G'
/-- a path over tags -/
structure Path (ts p : List Str) : Prop where
  sub : ∀ t ∈ p, t ∈ ts
  pos : 0 < p.length
  len : p.length ≤ 30
  adj : Adj p
abbrev pathD (p : List Str) : D := .tuple (p.map .str)
abbrev ct__law_path : CT := fun xs G Q => ∃ ts : List Str, xs = [.g 0, .d (.list (ts.map .str))] ∧ Tags ts ∧ Fd G ∧ ∀ p G', Path ts p → Fd G' → Q (.d (pathD p)) G'
abbrev bearD (b : Str × Int) : D := .tuple [.str b.1, .int b.2]
structure Plan (bs : List (Str × Int)) (ps : List (List Str)) : Prop where
  tags : Tags (bs.map (·.1))
  up : (bs.map (·.1)).Pairwise fun a b => a.cps.toList < b.cps.toList
  caps : ∀ b ∈ bs, 1 ≤ b.2 ∧ b.2 ≤ 40
  len : ps.length ≤ 12
  ok : ∀ p ∈ ps, Path (bs.map (·.1)) p
abbrev planD (bs : List (Str × Int)) (ps : List (List Str)) : D := .tuple [.tuple (bs.map bearD), .tuple (ps.map pathD)]
abbrev ct__law_plan : CT := fun xs G Q => xs = [.g 0] ∧ Fd G ∧ ∀ bs ps G', Plan bs ps → Fd G' → Q (.d (planD bs ps)) G'
theorem join_letters : ∀ (ys : List Str), (∀ y ∈ ys, (y.cps.toList.all isLetter) = true) → ((Str.join "" ys).cps.toList.all isLetter) = true
  | [], _ => by decide +kernel
  | [x], h => h x (by simp)
  | x :: y :: r, h => by
    have ih := join_letters (y :: r) fun z hz => h z (List.mem_cons_of_mem _ hz)
    show ((x ++ "" ++ Str.join "" (y :: r)).cps.toList.all isLetter) = true
    show (((x.cps ++ ("" : Str).cps) ++ (Str.join "" (y :: r)).cps).toList.all isLetter) = true
    rw [Array.toList_append, Array.toList_append, List.all_append, List.all_append, h x List.mem_cons_self, ih]
    decide +kernel
theorem letter_at : ∀ j : Nat, j < 26 → ∃ c, letters.cps.toList[j]? = some c ∧ c < 128 ∧ isLetter c = true := by
  have h : ∀ j : Nat, j < 26 → (match letters.cps.toList[j]? with | some c => decide (c < 128) && isLetter c | none => false) = true := by decide +kernel
  intro j hj
  have := h j hj
  split at this
  · rename_i c e
    rw [Bool.and_eq_true] at this
    exact ⟨c, e, of_decide_eq_true this.1, this.2⟩
  · cases this
def lasts : List Nat := ("qrstuvwx" : Str).cps.toList
theorem lasts_ok : lasts.length = 8 ∧ lasts.Nodup ∧ ∀ c ∈ lasts, c < 128 ∧ isLetter c = true := by decide +kernel
/-- the written pools -/
def pools : List (List Str) := [["a", "b", "c", "d", "e", "f", "g", "h"], ["zones", "in", "go", "back", "ab", "abc", "abcdefgh", "a"], ["z", "zz", "zzzzzzza", "zzzzzzzz", "y", "x", "cart", "b"]]
theorem pools_nb : ∀ p ∈ pools, ("nobody" : Str) ∉ p := by decide +kernel
theorem lasts_nb : (("nobody" : Str).cps.toList.getLast?) ∉ lasts.map some := by decide +kernel
theorem pools_ok : ∀ p ∈ pools, p.Nodup ∧ p.length = 8 ∧ ∀ t ∈ p, (t.length ≤ 9 ∧ asc t = true) ∧ isName (.str t) = true := by
  have h : (pools.all fun p => decide p.Nodup && decide (p.length = 8) && p.all fun t => (decide (t.length ≤ 9) && asc t) && isName (.str t)) = true := by decide +kernel
  rw [List.all_eq_true] at h
  intro p hp
  have := h p hp
  rw [Bool.and_eq_true, Bool.and_eq_true, List.all_eq_true] at this
  refine ⟨of_decide_eq_true this.1.1, of_decide_eq_true this.1.2, fun t ht => ?_⟩
  have q := this.2 t ht
  rw [Bool.and_eq_true, Bool.and_eq_true] at q
  exact ⟨⟨of_decide_eq_true q.1.1, q.1.2⟩, q.2⟩
theorem cut_nodup {ts : List Str} {lo hi : Option Int} (h : ts.Nodup) : (cutL ts lo hi).Nodup := by
  unfold cutL
  exact h.sublist ((List.take_sublist _ _).trans (List.drop_sublist _ _))
theorem cut_path {ts : List Str} {lo hi : Option Int} (h : 0 < (cutL ts lo hi).length) (hl : ts.length ≤ 20) (nd : ts.Nodup) : Path ts (cutL ts lo hi) := ⟨fun t ht => cut_sub ht, h, by have := cut_len ts lo hi; omega, adj_nodup (cut_nodup nd)⟩
theorem tags_other {ts : List Str} (h : Tags ts) (h2 : ts.length ≠ 1) (l : Str) : ∃ t ∈ ts, t ≠ l := by
  match ts, h, h2 with
  | [], h, _ => exact absurd h.pos (by simp)
  | [_], _, h2 => exact absurd rfl h2
  | a :: b :: r, h, _ =>
    by_cases q : a = l
    · refine ⟨b, by simp, fun z => ?_⟩
      have := h.nd
      rw [List.nodup_cons] at this
      exact this.1 (by rw [q, ← z]; simp)
    · exact ⟨a, by simp, q⟩
def offStr (l : Str) : D → Option D
  | .str t => if t = l then none else some (.str t)
  | _ => none
theorem path_plain {ts p : List Str} (ht : Tags ts) (hp : Path ts p) : plainD (pathD p) = true ∧ (pathD p).depth ≤ 1 := by
  refine ⟨?_, ?_⟩
  · rw [pathD, plainD, plainAll_iff]
    intro d hd
    obtain ⟨t, h, rfl⟩ := List.mem_map.mp hd
    rw [plainD]
    exact (ht.ok t (hp.sub t h)).2
  · rw [pathD, PyData.depth]
    have : PyData.depthAll (p.map PyData.str) ≤ 0 := depthAll_le.mpr fun d hd => by
      obtain ⟨t, h, rfl⟩ := List.mem_map.mp hd
      rw [PyData.depth]; omega
    omega
theorem bd_path {ts p : List Str} (ht : Tags ts) (hp : Path ts p) : Bd 3 5000 300 (pathD p) := by
  refine Bd.tup (fun d hd => ?_) ?_ (by decide)
  · obtain ⟨t, h1, rfl⟩ := List.mem_map.mp hd
    refine ⟨?_, by rw [PyData.depth]; omega, by rw [intsB]⟩
    rw [plainD]
    exact (ht.ok t (hp.sub t h1)).2
  · have := massAll_le (m := 110) (ds := p.map PyData.str) fun d hd => by
      obtain ⟨t, h1, rfl⟩ := List.mem_map.mp hd
      rw [mass]
      have := (ht.ok t (hp.sub t h1)).1
      omega
    rw [List.length_map] at this
    have := hp.len
    omega
/-- sorted names ascend -/
theorem strs_up {l l' : List Str} (h : sortD (l.map PyData.str) = l'.map .str) (nd : l'.Nodup) : l'.Pairwise fun a b => a.cps.toList < b.cps.toList := by
  have T := sortLe_total (listOrd itemOrd) false fun d : D => keyToks d
  have p := sort_pairwise T (l.map PyData.str)
  have e : sortD (l.map PyData.str) = (l.map PyData.str).mergeSort (sortLe (listOrd itemOrd) false fun d : D => keyToks d) := rfl
  rw [← e, h, List.pairwise_map] at p
  have q : l'.Pairwise fun a b => (!lexLt itemOrd [.inr b.cps.toList] [.inr a.cps.toList]) = true := p
  refine List.Pairwise.imp (fun {a b} z => ?_) (List.pairwise_and_iff.mpr ⟨q, nd⟩)
  obtain ⟨h1, h2⟩ := z
  have e1 : lexLt itemOrd [.inr b.cps.toList] [.inr a.cps.toList] = decide (b.cps.toList < a.cps.toList) := by
    rw [lex_cons]
    show (decide (b.cps.toList < a.cps.toList) || (!decide (a.cps.toList < b.cps.toList) && false)) = _
    rw [Bool.and_false, Bool.or_false]
  rw [e1] at h1
  have h3 : ¬ b.cps.toList < a.cps.toList := by simpa using h1
  by_cases h4 : a.cps.toList < b.cps.toList
  · exact h4
  · exfalso
    apply h2
    have e2 := List.le_antisymm (List.not_lt.mp h3) (List.not_lt.mp h4)
    cases a; cases b
    exact congrArg Str.mk (Array.toList_inj.mp e2)
theorem off_ne {l t : Str} {ts : List Str} (h : PyData.str t ∈ (ts.map PyData.str).filterMap (offStr l)) : t ≠ l := by
  obtain ⟨z, h1, h2⟩ := List.mem_filterMap.mp h
  obtain ⟨u, h3, rfl⟩ := List.mem_map.mp h1
  unfold offStr at h2
  simp only at h2
  split at h2
  · cases h2
  · rename_i q
    have e := Option.some.inj h2
    injection e with e
    rw [← e]; exact q
/-- a drawn floor is one -/
theorem plan_zone {bs : List (Str × Int)} {ps : List (List Str)} (h : Plan bs ps) : ∀ j, j < (bs.map bearD).length → zoneAt (bs.map bearD) j = true := by
  intro j hj
  rw [List.length_map] at hj
  have e : (bs.map bearD)[j]? = some (bearD bs[j]) := by rw [List.getElem?_map, List.getElem?_eq_getElem hj]; rfl
  have m := List.getElem_mem hj
  have hz : isZone (bearD bs[j]) = true := by
    show (isName (.str bs[j].1) && isPlaces (.int bs[j].2)) = true
    rw [h.tags.nm _ (List.mem_map.mpr ⟨_, m, rfl⟩)]
    exact decide_eq_true (h.caps _ m).1
  unfold zoneAt
  rw [e]
  cases j with
  | zero => simp only [hz, Bool.and_true]
  | succ i =>
    have hi : i < bs.length := by omega
    have e2 : (bs.map bearD)[i]? = some (bearD bs[i]) := by rw [List.getElem?_map, List.getElem?_eq_getElem hi]; rfl
    simp only [hz, e2, Bool.true_and]
    have := List.pairwise_iff_getElem.mp h.up i (i + 1) (by rw [List.length_map]; exact hi) (by rw [List.length_map]; exact hj) (by omega)
    rw [List.getElem_map, List.getElem_map] at this
    exact decide_eq_true this
theorem plan_way {bs : List (Str × Int)} {ps : List (List Str)} (h : Plan bs ps) : ∀ j, j < (ps.map pathD).length → wayAt ((bs.map bearD).map nameOf) (ps.map pathD) j = true := by
  intro j hj
  rw [List.length_map] at hj
  have e : (ps.map pathD)[j]? = some (pathD ps[j]) := by rw [List.getElem?_map, List.getElem?_eq_getElem hj]; rfl
  have hp := h.ok _ (List.getElem_mem hj)
  have nm : ∀ t ∈ ps[j], isName (.str t) = true := fun t ht => h.tags.nm t (hp.sub t ht)
  have h1 : isWay (pathD ps[j]) = true := by
    show (!(ps[j].map PyData.str).isEmpty && (ps[j].map PyData.str).all isName && noAdj (ps[j].map PyData.str)) = true
    have a1 : (ps[j].map PyData.str).isEmpty = false := by
      have := hp.pos
      cases q : ps[j] with
      | nil => rw [q] at this; cases this
      | cons x r => rfl
    have a2 : (ps[j].map PyData.str).all isName = true := by
      rw [List.all_eq_true]
      intro x hx
      obtain ⟨t, ht, rfl⟩ := List.mem_map.mp hx
      exact nm t ht
    have a3 : noAdj (ps[j].map PyData.str) = true := by
      rw [noAdj_iff]
      intro i a b e1 e2
      rw [List.getElem?_map] at e1 e2
      obtain ⟨x, x1, rfl⟩ := Option.map_eq_some_iff.mp e1
      obtain ⟨y, y1, rfl⟩ := Option.map_eq_some_iff.mp e2
      rw [eqv_str]
      exact decide_eq_false (hp.adj i x y x1 y1)
    rw [a1, a2, a3]; rfl
  unfold wayAt
  rw [e]
  show (isWay (pathD ps[j]) && (ps[j].map PyData.str).all fun n => inD n ((bs.map bearD).map nameOf)) = true
  rw [h1, Bool.true_and, List.all_eq_true]
  intro x hx
  obtain ⟨t, ht, rfl⟩ := List.mem_map.mp hx
  show (((bs.map bearD).map nameOf).any fun z => PyData.eqv z (.str t)) = true
  rw [List.any_eq_true]
  obtain ⟨b, hb, e2⟩ := List.mem_map.mp (hp.sub t ht)
  refine ⟨.str t, List.mem_map.mpr ⟨bearD b, List.mem_map.mpr ⟨b, hb, rfl⟩, ?_⟩, ?_⟩
  · show PyData.str b.1 = .str t
    rw [e2]
  · rw [eqv_str]; exact decide_eq_true rfl
theorem plan_floor {bs : List (Str × Int)} {ps : List (List Str)} (h : Plan bs ps) : floorF (planD bs ps) = .none := by
  have hne : bs.map bearD ≠ [] := by
    have := h.tags.pos
    rw [List.length_map] at this
    intro q
    have := congrArg List.length q
    rw [List.length_map, List.length_nil] at this
    omega
  show orF (zonesF (.tuple (bs.map bearD))) (waysF ((bs.map bearD).map nameOf) (.tuple (ps.map pathD))) = .none
  rw [zones_ft hne, firstBad_no (plan_zone h)]
  show ftOf "way" (firstBad (wayAt ((bs.map bearD).map nameOf) (ps.map pathD)) (ps.map pathD).length) = .none
  rw [firstBad_no (plan_way h)]; rfl
def isSpot : D → Bool
  | .tuple [a, b] => isNumber a && isNumber b
  | _ => false
theorem spot_ints {d : D} (h : isSpot d = true) : ∃ a b, d = .tuple [.int a, .int b] ∧ 0 ≤ a ∧ 0 ≤ b := by
  unfold isSpot at h
  split at h
  · rename_i a b
    rw [Bool.and_eq_true] at h
    obtain ⟨h1, h2⟩ := h
    unfold isNumber at h1 h2
    split at h1
    · split at h2
      · exact ⟨_, _, rfl, of_decide_eq_true h1, of_decide_eq_true h2⟩
      · cases h2
    · cases h1
  · cases h
theorem spots_sort {ds : List D} (h : ∀ d ∈ ds, isSpot d = true) (hz : ds.length ≤ sizeLine) : OkSort ds := by
  refine ⟨fun d hd e he => ?_, .inl fun d hd => ?_, hz, fun d hd => ?_⟩
  · obtain ⟨a, b, rfl, _⟩ := spot_ints (h d hd)
    obtain ⟨a', b', rfl, _⟩ := spot_ints (h e he)
    simp [alike, alikeAll]
  · obtain ⟨a, b, rfl, _⟩ := spot_ints (h d hd)
    exact ⟨_, _, rfl⟩
  · obtain ⟨a, b, rfl, _⟩ := spot_ints (h d hd)
    simp [PyData.depth, PyData.depthAll]
theorem cdraw : Draws Fd ct__law_draw := fun many G Q a b c d => ⟨many, rfl, a, b, c, d⟩
theorem cpick : Picks Fd ct__law_pick := fun ds G Q a b c d => ⟨ds, rfl, a, b, c, d⟩
def tPlan : T := fun d => ∃ bs ps, d = planD bs ps ∧ Plan bs ps
theorem name_ty {t : Str} (h : isName (.str t) = true) (ha : asc t = true) : tStr 1 8 (.str t) := by
  have h : (decide (1 ≤ t.length) && decide (t.length ≤ 8) && t.cps.toList.all isLetter) = true := h
  rw [Bool.and_eq_true, Bool.and_eq_true] at h
  exact ⟨t, rfl, ha, of_decide_eq_true h.1.1, of_decide_eq_true h.1.2⟩
theorem tPlan_sub : ∀ d, tPlan d → tTup [tTupOf (tTup [tStr 1 8, tInt 1 40]) 1 20, tTupOf (tTupOf (tStr 1 8) 1 30) 0 12] d := by
  rintro d ⟨bs, ps, rfl, h⟩
  have hl := h.tags.len
  have hp := h.tags.pos
  rw [List.length_map] at hl hp
  refine ⟨_, rfl, .cons ⟨bs.map bearD, rfl, fun x hx => ?_, by rw [List.length_map]; omega, by rw [List.length_map]; omega⟩ (.cons ⟨ps.map pathD, rfl, fun x hx => ?_, Nat.zero_le _, by rw [List.length_map]; exact h.len⟩ .nil)⟩
  · obtain ⟨b, hb, rfl⟩ := List.mem_map.mp hx
    have m : b.1 ∈ bs.map (·.1) := List.mem_map.mpr ⟨b, hb, rfl⟩
    exact ⟨_, rfl, .cons (name_ty (h.tags.nm _ m) (h.tags.ok _ m).2) (.cons ⟨b.2, rfl, (h.caps b hb).1, (h.caps b hb).2⟩ .nil)⟩
  · obtain ⟨p, hp2, rfl⟩ := List.mem_map.mp hx
    have q := h.ok p hp2
    refine ⟨p.map .str, rfl, fun y hy => ?_, by rw [List.length_map]; exact q.pos, by rw [List.length_map]; exact q.len⟩
    obtain ⟨t, ht, rfl⟩ := List.mem_map.mp hy
    exact name_ty (h.tags.nm t (q.sub t ht)) (h.tags.ok t (q.sub t ht)).2
theorem pool_ty : ∀ xs G (Q : SV → GS → Prop), AllP [gg] xs → Fd G → (∀ x G', dd (tLst (tStr 1 8) 8 8) x → Fd G' → Q x G') → ct__law_pool xs G Q := fun xs G Q hx g k => by
  cases hx with
  | cons h1 r =>
    cases r
    have h1 : _ = SV.g 0 := h1
    subst h1
    refine ⟨rfl, g, fun ts G' ht hl g' => k _ G' ⟨_, rfl, ts.map .str, rfl, fun x hx => ?_, by rw [List.length_map, hl]; exact Nat.le_refl _, by rw [List.length_map, hl]; exact Nat.le_refl _⟩ g'⟩
    obtain ⟨t, h, rfl⟩ := List.mem_map.mp hx
    exact name_ty (ht.nm t h) (ht.ok t h).2
theorem plan_ty : ∀ xs G (Q : SV → GS → Prop), AllP [gg] xs → Fd G → (∀ x G', dd tPlan x → Fd G' → Q x G') → ct__law_plan xs G Q := fun xs G Q hx g k => by
  cases hx with
  | cons h1 r =>
    cases r
    have h1 : _ = SV.g 0 := h1
    subst h1
    exact ⟨rfl, g, fun bs ps G' hP g' => k _ G' ⟨_, rfl, bs, ps, rfl, hP⟩ g'⟩
theorem plan_ok {bs : List (Str × Int)} {ps : List (List Str)} (h : Plan bs ps) : Ok (planD bs ps) := by
  have z := tPlan_sub _ ⟨bs, ps, rfl, h⟩
  have q : tAny 40 1000000 300 (planD bs ps) := s_tup_any (tb_cons (e1 := 4) (m := 20000) (s_tupof_any (e := 3) (m := 400) (s_tup_any (tb_cons (e1 := 0) (m := 100) (s_str_any (by decide)) (tb_cons (e1 := 0) (m := 100) (s_int_any 6 (by decide) (by decide) (by decide) (by decide) (by decide) (by decide)) tb_nil)) (by decide) (by decide)) (by decide) (by decide)) (tb_cons (e1 := 4) (m := 90000) (s_tupof_any (e := 3) (m := 5000) (s_tupof_any (e := 0) (m := 100) (s_str_any (by decide)) (by decide) (by decide)) (by decide) (by decide)) tb_nil)) (by decide) (by decide) _ z
  exact q.n
abbrev ct__law_great : CT := fun xs G Q => xs = [] ∧ ∀ bs ps d, Plan bs ps → tAny 10 100000 300 d → Q (.d (.tuple [planD bs ps, d])) G
def greatT : List Str := ("abcdefghijklmnopqrst" : Str).cps.toList.map fun c => ⟨#[c]⟩
def greatB : List (Str × Int) := greatT.map fun t => (t, 40)
def greatP : List (List Str) := ((List.replicate 2 greatT).flatten.take 30) :: List.replicate 11 ["a", "b"]
theorem great_plan : Plan greatB greatP := by
  have e : greatB.map (·.1) = greatT := by
    show (greatT.map fun t => (t, (40 : Int))).map (·.1) = greatT
    rw [List.map_map]
    exact List.map_id _
  have nd : greatT.Nodup := by decide +kernel
  have g1 : 0 < greatT.length ∧ greatT.length ≤ 20 := by decide +kernel
  have g2 : ∀ t ∈ greatT, t.length ≤ 9 ∧ (t.cps.toList.all fun c => decide (c < 128)) = true := by decide +kernel
  have g3 : ∀ t ∈ greatT, isName (.str t) = true := by decide +kernel
  have g4 : ("nobody" : Str) ∉ greatT := by decide +kernel
  have g5 : greatT.Pairwise fun a b => a.cps.toList < b.cps.toList := by decide +kernel
  have g6 : ∀ t ∈ (["a", "b"] : List Str), t ∈ greatT := by decide +kernel
  refine ⟨e ▸ ⟨nd, g1.1, g1.2, g2, g3, g4⟩, e ▸ g5, fun b hb => ?_, by decide, fun p hp => ?_⟩
  · obtain ⟨t, _, rfl⟩ := List.mem_map.mp hb
    exact ⟨show (1 : Int) ≤ 40 by decide, show (40 : Int) ≤ 40 by decide⟩
  · rw [e]
    rcases List.mem_cons.mp hp with rfl | hp
    · refine ⟨fun t ht => ?_, by decide +kernel, by decide +kernel, adj_take (adj_cyc nd (by decide +kernel) _) _⟩
      have := List.mem_of_mem_take ht
      obtain ⟨l, hl, h2⟩ := List.mem_flatten.mp this
      have := (List.mem_replicate.mp hl).2
      rw [← this]; exact h2
    · have hp := (List.mem_replicate.mp hp).2
      subst hp
      exact ⟨g6, by decide, by decide, adj_nodup (by decide +kernel)⟩
theorem great_eq : PyData.tuple [.tuple ((("abcdefghijklmnopqrst" : Str).cps.toList.map fun c => PyData.str ⟨#[c]⟩).map fun z => PyData.tuple [z, .int 40]), .tuple (.tuple (cutL (List.replicate (Int.toNat 2) (("abcdefghijklmnopqrst" : Str).cps.toList.map fun c => PyData.str ⟨#[c]⟩)).flatten none (some 30)) :: (List.replicate (Int.toNat 11) [PyData.tuple [.str "a", .str "b"]]).flatten)] = planD greatB greatP := by
  have e1 : (("abcdefghijklmnopqrst" : Str).cps.toList.map fun c => PyData.str ⟨#[c]⟩) = greatT.map PyData.str := by
    unfold greatT
    rw [List.map_map]
    rfl
  have e2 : ((greatT.map PyData.str).map fun z => PyData.tuple [z, .int 40]) = greatB.map bearD := by
    unfold greatB
    rw [List.map_map, List.map_map]
    rfl
  rw [e1, e2, rep_map, cut_map, cut_to _ (by decide)]
  rfl
abbrev ct__law_put : CT := fun xs G Q => ∃ ds, ∃ k : Nat, ∃ x, xs = [.d (.tuple ds), .d (.int k), .d x] ∧ k < ds.length ∧ ds.length ≤ 1000 ∧ Q (.d (.tuple (ds.take k ++ [x] ++ ds.drop (k + 1)))) G
abbrev ct__law_changes_right : CT := fun xs G Q => ∃ bs ps, xs = [.g 0, .d (planD bs ps)] ∧ Plan bs ps ∧ Fd G ∧ ∀ G', Fd G' → Q (.d (.bool true)) G'
abbrev ct__law_are_refused : CT := fun xs G Q => ∃ bs ps, xs = [.g 0, .d (planD bs ps)] ∧ Plan bs ps ∧ Fd G ∧ ∀ G', Fd G' → Q (.d (.bool true)) G'
abbrev ct__law_no_plans : CT := fun xs G Q => ∃ bs ps, xs = [.d (planD bs ps)] ∧ Plan bs ps ∧ ∀ L : List D, L.length ≤ 50 → (∀ d ∈ L, Ok d ∧ floorF d ≠ .none) → Q (.d (.list L)) G
abbrev ct__law_no_tags : CT := fun xs G Q => xs = [] ∧ ∀ L : List D, L.length ≤ 50 → (∀ d ∈ L, Ok d ∧ ∀ bs ps, Plan bs ps → isTag (planD bs ps) d = false) → Q (.d (.list L)) G
abbrev ct__law_no_paths : CT := fun xs G Q => ∃ t bs ps, xs = [.d (.str t)] ∧ Plan bs ps ∧ t ∈ bs.map (·.1) ∧ ∀ L : List D, L.length ≤ 50 → (∀ d ∈ L, Ok d ∧ wayIn ((bs.map bearD).map nameOf) d = false) → Q (.d (.list L)) G
/-! values that are refused -/
def isNon : D → Bool
  | .none => true
  | _ => false
theorem non_of {d : D} (h : isNon d = false) : d ≠ .none := fun e => by subst e; cases h
theorem orF_r {a b : D} (h : b ≠ .none) : orF a b ≠ .none := by
  cases a <;> first | exact h | (intro z; cases z)
theorem orF_l {a b : D} (h : a ≠ .none) : orF a b ≠ .none := by
  cases a <;> first | exact absurd rfl h | (intro z; cases z)
abbrev An : T := tAny 8 200000 300
theorem an_tup {ds : List D} (h : ∀ d ∈ ds, An d) (hl : ds.length ≤ 4) : Ok (.tuple ds) := by
  have q : tAny 40 1000000 300 (.tuple ds) := s_tupof_any (τ := An) (lo := 0) (hi := 4) (fun _ h => h) (by decide) (by decide) _ ⟨ds, rfl, h, Nat.zero_le _, hl⟩
  exact q.n
theorem an_lst {ds : List D} (h : ∀ d ∈ ds, An d) (hl : ds.length ≤ 4) : Ok (.list ds) := by
  have q : tAny 40 1000000 300 (.list ds) := s_lst_any (τ := An) (lo := 0) (hi := 4) (fun _ h => h) (by decide) (by decide) _ ⟨ds, rfl, h, Nat.zero_le _, hl⟩
  exact q.n
theorem an_ok {d : D} (h : An d) : Ok d := h.n.mono (by decide) (by decide)
theorem an_bears {bs : List (Str × Int)} {ps : List (List Str)} (h : Plan bs ps) : tTupOf (tAny 2 300 300) 1 20 (.tuple (bs.map bearD)) := by
  obtain ⟨ds, e, hd⟩ := tPlan_sub _ ⟨bs, ps, rfl, h⟩
  cases e
  cases hd with
  | cons a b =>
    exact s_tupof (s_tup_any (tb_cons (e1 := 0) (m := 100) (s_str_any (by decide)) (tb_cons (e1 := 0) (m := 100) (s_int_any 6 (by decide) (by decide) (by decide) (by decide) (by decide) (by decide)) tb_nil)) (by decide) (by decide)) (by decide) (by decide) _ a
theorem an_ways {bs : List (Str × Int)} {ps : List (List Str)} (h : Plan bs ps) : tTupOf (tAny 2 5000 300) 0 12 (.tuple (ps.map pathD)) := by
  obtain ⟨ds, e, hd⟩ := tPlan_sub _ ⟨bs, ps, rfl, h⟩
  cases e
  cases hd with
  | cons a b =>
    cases b with
    | cons b c =>
      exact s_tupof (s_tupof_any (e := 0) (m := 100) (s_str_any (by decide)) (by decide) (by decide)) (by decide) (by decide) _ b
theorem zones_bad {zs : List D} {j : Nat} (hj : j < zs.length) (h : zoneAt zs j = false) : zonesF (.tuple zs) ≠ .none := by
  have hne : zs ≠ [] := by rintro rfl; cases hj
  rw [zones_ft hne]
  cases q : firstBad (zoneAt zs) zs.length with
  | some k => intro z; cases z
  | none =>
    have := List.find?_eq_none.mp q j (List.mem_range.mpr hj)
    rw [h] at this
    simp at this
theorem ways_bad {ns ws : List D} {j : Nat} (hj : j < ws.length) (h : wayAt ns ws j = false) : waysF ns (.tuple ws) ≠ .none := by
  show ftOf "way" (firstBad (wayAt ns ws) ws.length) ≠ .none
  cases q : firstBad (wayAt ns ws) ws.length with
  | some k => intro z; cases z
  | none =>
    have := List.find?_eq_none.mp q j (List.mem_range.mpr hj)
    rw [h] at this
    simp at this
theorem ways_last {ns ws : List D} {w : D} (h : wayIn ns w = false) : waysF ns (.tuple (ws ++ [w])) ≠ .none := by
  refine ways_bad (j := ws.length) (by rw [List.length_append]; exact Nat.lt_succ_self _) ?_
  unfold wayAt
  rw [List.getElem?_append_right (Nat.le_refl _), Nat.sub_self]
  exact h
theorem zones_round {b : Str × Int} {r : List (Str × Int)} : zonesF (.tuple (((b :: r).map bearD).reverse ++ (b :: r).map bearD)) ≠ .none := by
  have e : ((b :: r).map bearD).reverse ++ (b :: r).map bearD = (r.map bearD).reverse ++ (bearD b :: bearD b :: r.map bearD) := by
    rw [List.map_cons, List.reverse_cons, List.append_assoc]; rfl
  rw [e]
  refine zones_bad (j := (r.map bearD).reverse.length + 1) (by rw [List.length_append, List.length_cons, List.length_cons]; omega) ?_
  have e1 : ((r.map bearD).reverse ++ (bearD b :: bearD b :: r.map bearD))[(r.map bearD).reverse.length + 1]? = some (bearD b) := by
    rw [List.getElem?_append_right (by omega), Nat.add_sub_cancel_left]; rfl
  have e2 : ((r.map bearD).reverse ++ (bearD b :: bearD b :: r.map bearD))[(r.map bearD).reverse.length]? = some (bearD b) := by
    rw [List.getElem?_append_right (by omega), Nat.sub_self]; rfl
  unfold zoneAt
  rw [e1]
  simp only [e2]
  have : nameLt (bearD b) (bearD b) = false := by
    show decide (b.1.cps.toList < b.1.cps.toList) = false
    exact decide_eq_false (List.lt_irrefl _)
  rw [this, Bool.and_false]
theorem tag_no {bs : List (Str × Int)} {x : Str} (h : x ∉ bs.map (·.1)) : inD (.str x) ((bs.map bearD).map nameOf) = false := by
  show (((bs.map bearD).map nameOf).any fun z => PyData.eqv z (.str x)) = false
  rw [List.any_eq_false]
  intro z hz
  obtain ⟨y, hy, rfl⟩ := List.mem_map.mp hz
  obtain ⟨b, hb, rfl⟩ := List.mem_map.mp hy
  show ¬ (PyData.eqv (.str b.1) (.str x)) = true
  rw [eqv_str]
  intro q
  exact h (List.mem_map.mpr ⟨b, hb, of_decide_eq_true q⟩)
theorem tag_nm {bs : List (Str × Int)} {ps : List (List Str)} (hP : Plan bs ps) {x : Str} (h : isName (.str x) = false) : x ∉ bs.map (·.1) := fun m => by
  rw [hP.tags.nm x m] at h; cases h
theorem way_nm {ns xs : List D} {d : D} (hd : d ∈ xs) (h : isName d = false) : wayIn ns (.tuple xs) = false := by
  have : isWay (.tuple xs) = false := by
    show (!xs.isEmpty && xs.all isName && noAdj xs) = false
    rw [show xs.all isName = false from by
      rw [List.all_eq_false]
      exact ⟨d, hd, by rw [h]; simp⟩, Bool.and_false, Bool.false_and]
  unfold wayIn
  rw [this, Bool.false_and]
theorem way_out {ns xs : List D} {d : D} (hd : d ∈ xs) (h : inD d ns = false) : wayIn ns (.tuple xs) = false := by
  show (isWay (.tuple xs) && xs.all fun n => inD n ns) = false
  rw [show (xs.all fun n => inD n ns) = false from by
      rw [List.all_eq_false]
      exact ⟨d, hd, by rw [h]; simp⟩, Bool.and_false]
theorem way_adj {ns r : List D} {t : Str} : wayIn ns (.tuple (.str t :: .str t :: r)) = false := by
  have : noAdj (.str t :: .str t :: r) = false := by
    rw [Bool.eq_false_iff]
    intro q
    have := (noAdj_iff _).mp q 0 (.str t) (.str t) rfl rfl
    rw [eqv_str, decide_eq_true rfl] at this
    cases this
  have : isWay (.tuple (.str t :: .str t :: r)) = false := by
    show (!(PyData.str t :: .str t :: r).isEmpty && (PyData.str t :: .str t :: r).all isName && noAdj (.str t :: .str t :: r)) = false
    rw [this, Bool.and_false]
  unfold wayIn
  rw [this, Bool.false_and]
theorem wp_floor {f z p : D} {G : GS} {Q : SV → GS → Prop} {W : XD → GS → Prop} (hf : Ok f) (hp : Ok p) (hn : floorF f ≠ .none) (h : W (xUse "floor" (.int (-1))) G) : ct_with_places [.d f, .d z, .d p] G Q W :=
  ⟨f, z, p, rfl, hf, hp, fun _ => h, fun e => absurd e hn, fun e => absurd e hn, fun _ _ _ e => absurd e hn⟩
theorem ww_floor {f p : D} {G : GS} {Q : SV → GS → Prop} {W : XD → GS → Prop} (hf : Ok f) (hp : Ok p) (hn : floorF f ≠ .none) (h : W (xUse "floor" (.int (-1))) G) : ct_with_way [.d f, .d p] G Q W :=
  ⟨f, p, rfl, hf, hp, fun _ => h, fun e => absurd e hn, fun _ _ _ e => absurd e hn⟩
theorem wo_floor {f p : D} {G : GS} {Q : SV → GS → Prop} {W : XD → GS → Prop} (hf : Ok f) (hn : floorF f ≠ .none) (h : W (xUse "floor" (.int (-1))) G) : ct_without_way [.d f, .d p] G Q W :=
  ⟨f, p, rfl, hf, fun _ => h, fun e => absurd e hn, fun _ _ _ _ e => absurd e hn⟩
theorem wp_zone {f z p : D} {G : GS} {Q : SV → GS → Prop} {W : XD → GS → Prop} (hf : Ok f) (hp : Ok p) (hn : floorF f = .none) (hz : isTag f z = false) (h : W (xUse "zone" z) G) : ct_with_places [.d f, .d z, .d p] G Q W :=
  ⟨f, z, p, rfl, hf, hp, fun e => absurd hn e, fun _ _ => h, fun _ e => (by rw [hz] at e; cases e), fun _ _ _ _ e => (by rw [hz] at e; cases e)⟩
theorem wp_places {f z p : D} {G : GS} {Q : SV → GS → Prop} {W : XD → GS → Prop} (hf : Ok f) (hp : Ok p) (hn : floorF f = .none) (hz : isTag f z = true) (hq : isPlaces p = false) (h : W (xUse "places" (.int (-1))) G) : ct_with_places [.d f, .d z, .d p] G Q W :=
  ⟨f, z, p, rfl, hf, hp, fun e => absurd hn e, fun _ e => (by rw [hz] at e; cases e), fun _ _ _ => h, fun _ _ _ _ _ e => (by rw [hq] at e; cases e)⟩
theorem ww_names {f p : D} {G : GS} {Q : SV → GS → Prop} {W : XD → GS → Prop} (hf : Ok f) (hp : Ok p) (hn : floorF f = .none) (hz : wayIn (tagsOf f) p = false) (h : W (xUse "names" (.int (-1))) G) : ct_with_way [.d f, .d p] G Q W :=
  ⟨f, p, rfl, hf, hp, fun e => absurd hn e, fun _ _ => h, fun _ _ _ _ e => (by rw [hz] at e; cases e)⟩
theorem wo_way {f p : D} {G : GS} {Q : SV → GS → Prop} {W : XD → GS → Prop} (hf : Ok f) (hn : floorF f = .none) (hz : isIdx f p = false) (h : W (xUse "way" p) G) : ct_without_way [.d f, .d p] G Q W :=
  ⟨f, p, rfl, hf, fun e => absurd hn e, fun _ _ => h, fun _ _ _ _ _ _ e => (by rw [hz] at e; cases e)⟩
theorem tag_yes {bs : List (Str × Int)} {ps : List (List Str)} {t : Str} (h : t ∈ bs.map (·.1)) : isTag (planD bs ps) (.str t) = true := by
  show (true && ((bs.map bearD).map nameOf).any fun z => PyData.eqv z (.str t)) = true
  rw [Bool.true_and, List.any_eq_true]
  obtain ⟨b, hb, e⟩ := List.mem_map.mp h
  exact ⟨.str b.1, List.mem_map.mpr ⟨bearD b, List.mem_map.mpr ⟨b, hb, rfl⟩, rfl⟩, by rw [eqv_str]; exact decide_eq_true e⟩
theorem use_ok {w : Str} {d : D} (hw : niceB 1 1000 (.str w) = true) (h : Ok d) : Nice 41 1100000 (.tuple [.str "use", .str w, d]) := by
  have a := Nice.of hw
  have u : Nice 1 1000 (.str "use") := Nice.of (by decide +kernel)
  refine ⟨by rw [plainD, plainAll, plainAll, plainAll, plainAll, a.pl, u.pl, h.pl]; rfl, ?_, ?_⟩
  · have := a.dp; have := u.dp; have := h.dp
    rw [PyData.depth, PyData.depthAll, PyData.depthAll, PyData.depthAll, PyData.depthAll]; omega
  · have := a.ms; have := u.ms; have := h.ms
    rw [mass, massAll, massAll, massAll, massAll]; omega
theorem list_shw {ds : List D} (h : ∀ d ∈ ds, Nice 41 1100000 d) (hl : ds.length ≤ 8) : Shw (.list ds) := by
  have m : massAll ds ≤ (1100000 + 2) * ds.length := massAll_le fun d hd => (h d hd).ms
  have q : Nice 42 9000000 (.list ds) := by
    refine ⟨by rw [plainD, plainAll_iff]; exact fun d hd => (h d hd).pl, ?_, ?_⟩
    · rw [PyData.depth]
      have : PyData.depthAll ds ≤ 41 := depthAll_le.mpr fun d hd => (h d hd).dp
      omega
    · rw [mass]
      have := Nat.mul_le_mul_left (1100000 + 2) hl
      omega
  exact q.shw (by decide) (by decide)
theorem fallI (I : DEnv → GS → Prop) {t u : TDS} {D : DEnds} {env : DEnv} {G : GS} (h2 : ∀ R : DEnv → GS → Prop, (∀ e G', I e G' → R e G') → t { D with nx := R } env G) (h : ∀ e G', I e G' → u D e G') : tdSeq t u D env G := h2 _ h
theorem hear_use (w : Str) (d : D) : hear (xUse w d) = .tuple [.str "use", .str w, d] := rfl
theorem same_rep {n : Nat} {d : D} : decide ((PyData.list (List.replicate n d)).shown = (PyData.list (List.replicate n d)).shown) = true := decide_eq_true rfl
theorem path_way {bs : List (Str × Int)} {ps : List (List Str)} (h : Plan bs ps) {p : List Str} (hp : Path (bs.map (·.1)) p) : wayIn ((bs.map bearD).map nameOf) (pathD p) = true :=
  plan_way (ps := [p]) ⟨h.tags, h.up, h.caps, by simp, fun q hq => by rw [List.mem_singleton] at hq; subst hq; exact hp⟩ 0 (by simp)
theorem floor_ways {bs : List (Str × Int)} {ps qs : List (List Str)} (h : Plan bs ps) (hq : ∀ p ∈ qs, Path (bs.map (·.1)) p) : floorF (planD bs qs) = .none := by
  have hne : bs.map bearD ≠ [] := by
    have := h.tags.pos
    rw [List.length_map] at this
    intro q
    have := congrArg List.length q
    rw [List.length_map, List.length_nil] at this
    omega
  show orF (zonesF (.tuple (bs.map bearD))) (waysF ((bs.map bearD).map nameOf) (.tuple (qs.map pathD))) = .none
  rw [zones_ft hne, firstBad_no (plan_zone h)]
  show ftOf "way" (firstBad (wayAt ((bs.map bearD).map nameOf) (qs.map pathD)) (qs.map pathD).length) = .none
  rw [firstBad_no fun j hj => ?_]
  · rfl
  · rw [List.length_map] at hj
    unfold wayAt
    rw [List.getElem?_map, List.getElem?_eq_getElem hj]
    exact path_way h (hq _ (List.getElem_mem hj))
theorem an_ways2 {bs : List (Str × Int)} {ps : List (List Str)} (h : Plan bs ps) {qs : List (List Str)} (hq : ∀ p ∈ qs, Path (bs.map (·.1)) p) (hl : qs.length ≤ 13) : tAny 6 70000 300 (.tuple (qs.map pathD)) := by
  refine s_tupof_any (τ := tAny 3 5000 300) (lo := 0) (hi := 13) (fun _ h => h) (by decide) (by decide) _ ⟨_, rfl, fun x hx => ?_, Nat.zero_le _, by rw [List.length_map]; exact hl⟩
  obtain ⟨p, hp, rfl⟩ := List.mem_map.mp hx
  exact bd_path h.tags (hq p hp)
theorem ok_ways {bs : List (Str × Int)} {ps qs : List (List Str)} (h : Plan bs ps) (hq : ∀ p ∈ qs, Path (bs.map (·.1)) p) (hl : qs.length ≤ 13) : Ok (planD bs qs) :=
  an_tup (fun d hd => by
    rcases List.mem_cons.mp hd with rfl | hd
    · exact (s_tupof_any (fun _ h => h) (by decide) (by decide) _ (an_bears h) : tAny 6 20000 300 _).up (by decide) (by decide) (by decide)
    · rw [List.mem_singleton] at hd; subst hd
      exact (an_ways2 h hq hl).up (by decide) (by decide) (by decide)) (by simp)
theorem wp_told {bs : List (Str × Int)} {ps : List (List Str)} {t : Str} {p : D} {G : GS} {Q : SV → GS → Prop} {W : XD → GS → Prop} (h : Plan bs ps) (ht : t ∈ bs.map (·.1)) (hk : Ok p) (hp : isPlaces p = true) (k : Q (.d (.tuple [.tuple (placed (bs.map bearD) (.str t) p), .tuple (ps.map pathD)])) G) : ct_with_places [.d (planD bs ps), .d (.str t), .d p] G Q W :=
  ⟨_, _, _, rfl, plan_ok h, hk, fun e => absurd (plan_floor h) e, fun _ e => (by rw [tag_yes ht] at e; cases e), fun _ _ e => (by rw [hp] at e; cases e), fun zs ws e _ _ _ => by cases e; exact k⟩
theorem ww_told {bs : List (Str × Int)} {ps : List (List Str)} {p : List Str} {G : GS} {Q : SV → GS → Prop} {W : XD → GS → Prop} (h : Plan bs ps) (hp : Path (bs.map (·.1)) p) (k : Q (.d (planD bs (ps ++ [p]))) G) : ct_with_way [.d (planD bs ps), .d (pathD p)] G Q W :=
  ⟨_, _, rfl, plan_ok h, (bd_path h.tags hp).n.mono (by decide) (by decide), fun e => absurd (plan_floor h) e, fun _ e => (by have q := path_way h hp; rw [show wayIn (tagsOf (planD bs ps)) (pathD p) = true from q] at e; cases e), fun zs ws e _ _ => by
    cases e
    have z : ps.map pathD ++ [pathD p] = (ps ++ [p]).map pathD := by rw [List.map_append]; rfl
    rw [z]; exact k⟩
theorem wo_told {bs : List (Str × Int)} {ps qs : List (List Str)} {j : Nat} {G : GS} {Q : SV → GS → Prop} {W : XD → GS → Prop} (h : Plan bs ps) (hq : ∀ p ∈ qs, Path (bs.map (·.1)) p) (hl : qs.length ≤ 13) (hj : j < qs.length) (k : Q (.d (.tuple [.tuple (bs.map bearD), .tuple ((qs.map pathD).take j ++ (qs.map pathD).drop (j + 1))])) G) : ct_without_way [.d (planD bs qs), .d (.int (j : Nat))] G Q W := by
  have ix : isIdx (planD bs qs) (.int (j : Nat)) = true := by
    show (decide ((0 : Int) ≤ (j : Nat)) && decide (((j : Nat) : Int) < ((qs.map pathD).length : Nat))) = true
    rw [List.length_map, decide_eq_true (show (0 : Int) ≤ (j : Nat) by omega), decide_eq_true (show ((j : Nat) : Int) < (qs.length : Nat) by omega)]; rfl
  refine ⟨_, _, rfl, ok_ways h hq hl, fun e => absurd (floor_ways h hq) e, fun _ e => (by rw [ix] at e; cases e), fun zs ws i e _ e2 _ => ?_⟩
  cases e; cases e2
  simpa using k
theorem placed_put {bs : List (Str × Int)} {p : D} (nd : (bs.map (·.1)).Nodup) {j : Nat} (hj : j < bs.length) : placed (bs.map bearD) (.str bs[j].1) p = (bs.map bearD).take j ++ [.tuple [.str bs[j].1, p]] ++ (bs.map bearD).drop (j + 1) := by
  apply List.ext_getElem?
  intro i
  unfold placed
  rw [List.getElem?_map, List.getElem?_map]
  by_cases hi : i < bs.length
  · rw [List.getElem?_eq_getElem hi]
    show some (PyData.tuple [.str bs[i].1, if PyData.eqv (.str bs[i].1) (.str bs[j].1) then p else .int bs[i].2]) = _
    rw [eqv_str]
    rcases Nat.lt_trichotomy i j with q | q | q
    · have ne : bs[i].1 ≠ bs[j].1 := fun e => by
        have := List.pairwise_iff_getElem.mp nd i j (by rw [List.length_map]; exact hi) (by rw [List.length_map]; exact hj) q
        rw [List.getElem_map, List.getElem_map] at this
        exact this e
      rw [decide_eq_false ne, List.append_assoc, List.getElem?_append_left (by rw [List.length_take, List.length_map]; omega), List.getElem?_take, if_pos q, List.getElem?_map, List.getElem?_eq_getElem hi]
      rfl
    · subst q
      rw [decide_eq_true rfl, List.append_assoc, List.getElem?_append_right (by rw [List.length_take]; omega), List.length_take, List.length_map, show i - min i bs.length = 0 by omega]
      rfl
    · have ne : bs[i].1 ≠ bs[j].1 := fun e => by
        have := List.pairwise_iff_getElem.mp nd j i (by rw [List.length_map]; exact hj) (by rw [List.length_map]; exact hi) q
        rw [List.getElem_map, List.getElem_map] at this
        exact this e.symm
      rw [decide_eq_false ne, List.getElem?_append_right (by simp; omega), List.getElem?_drop]
      have e : j + 1 + (i - ((bs.map bearD).take j ++ [PyData.tuple [.str bs[j].1, p]]).length) = i := by simp; omega
      rw [e, List.getElem?_map, List.getElem?_eq_getElem hi]
      rfl
  · rw [List.getElem?_eq_none (by omega)]
    symm
    rw [Option.map_none]
    refine List.getElem?_eq_none ?_
    simp only [List.length_append, List.length_take, List.length_drop, List.length_map, List.length_cons, List.length_nil]
    omega
theorem great_ty : ∀ xs G (Q : SV → GS → Prop), AllP [] xs → Fd G → (∀ x G', dd (tTup [tPlan, tAny 10 100000 300]) x → Fd G' → Q x G') → ct__law_great xs G Q := fun xs G Q hx g k => by
  cases hx
  exact ⟨rfl, fun bs ps d hP hd => k _ G ⟨_, rfl, _, rfl, .cons ⟨bs, ps, rfl, hP⟩ (.cons hd .nil)⟩ g⟩
theorem changes_ty : ∀ xs G (Q : SV → GS → Prop), AllP [gg, dd tPlan] xs → Fd G → (∀ x G', dd tTrue x → Fd G' → Q x G') → ct__law_changes_right xs G Q := fun xs G Q hx g k => by
  cases hx with
  | cons h1 r =>
    cases r with
    | cons h2 r =>
      cases r
      have h1 : _ = SV.g 0 := h1
      subst h1
      obtain ⟨d, rfl, bs, ps, rfl, hP⟩ := h2
      exact ⟨bs, ps, rfl, hP, g, fun G' g' => k _ G' ⟨_, rfl, rfl⟩ g'⟩
theorem refused_ty : ∀ xs G (Q : SV → GS → Prop), AllP [gg, dd tPlan] xs → Fd G → (∀ x G', dd tTrue x → Fd G' → Q x G') → ct__law_are_refused xs G Q := fun xs G Q hx g k => by
  cases hx with
  | cons h1 r =>
    cases r with
    | cons h2 r =>
      cases r
      have h1 : _ = SV.g 0 := h1
      subst h1
      obtain ⟨d, rfl, bs, ps, rfl, hP⟩ := h2
      exact ⟨bs, ps, rfl, hP, g, fun G' g' => k _ G' ⟨_, rfl, rfl⟩ g'⟩
--CT--
def top (i : Nat) : Stmt := PySem.Challenge.pw_cartknots_k07_floors_changed.main.body.getD i (.Pass ⟨0, 0, 0, 0⟩)
abbrev s_is_integer : Stmt := top 3
abbrev s_is_number : Stmt := top 4
abbrev s_is_name : Stmt := top 5
abbrev s_is_pair : Stmt := top 6
abbrev s_is_places : Stmt := top 7
abbrev s_is_zone : Stmt := top 8
abbrev s_is_way : Stmt := top 9
abbrev s_zones_fault : Stmt := top 20
abbrev s_ways_fault : Stmt := top 21
abbrev s_floor_fault : Stmt := top 22
abbrev s_lets_floor : Stmt := top 23
abbrev s_want : Stmt := top 25
abbrev s_is_zone_of : Stmt := top 26
abbrev s_is_way_of : Stmt := top 27
abbrev s_want_floor : Stmt := top 28
abbrev s_want_zone : Stmt := top 29
abbrev s_want_way : Stmt := top 30
abbrev s_with_places : Stmt := top 32
abbrev s_with_way : Stmt := top 33
abbrev s_without_way : Stmt := top 34
abbrev s__law_feed : Stmt := top 36
abbrev s__law_draw : Stmt := top 37
abbrev s__law_pick : Stmt := top 38
abbrev s__law_pool : Stmt := top 39
abbrev s__law_path : Stmt := top 40
abbrev s__law_plan : Stmt := top 41
abbrev s__law_same : Stmt := top 42
abbrev s__law_heard : Stmt := top 43
abbrev s__law_put : Stmt := top 44
abbrev s__law_no_plans : Stmt := top 45
abbrev s__law_no_tags : Stmt := top 46
abbrev s__law_changes_right : Stmt := top 47
abbrev s__law_no_paths : Stmt := top 48
abbrev s__law_are_refused : Stmt := top 49
abbrev s__law_great : Stmt := top 50
abbrev s_law : Stmt := top 51
/-- the built-ins keep their names -/
structure Bl (mg : Str → Option Value) : Prop where
  ValueError_ : mg "ValueError" = none
  all_ : mg "all" = none
  bool_ : mg "bool" = none
  enumerate_ : mg "enumerate" = none
  int_ : mg "int" = none
  isinstance_ : mg "isinstance" = none
  len_ : mg "len" = none
  list_ : mg "list" = none
  range_ : mg "range" = none
  repr_ : mg "repr" = none
  sorted_ : mg "sorted" = none
  str_ : mg "str" = none
  tuple_ : mg "tuple" = none
  zip_ : mg "zip" = none
/-- the module's constants -/
structure Md (mg : Str → Option Value) : Prop where
  LETTERS_ : ∃ tk, mg "LETTERS" = some (.str "abcdefghijklmnopqrstuvwxyz" tk)
  MOST_LETTERS_ : ∃ tk, mg "MOST_LETTERS" = some (.int 8 tk)
structure CalX (pr : Program) (w : World) (K : PySem.W.Frag) (mg : Str → Option Value) (base : Heap) (x : Str) (ps : List Str) (lv : Nat) (ct : CTX) : Prop where
  ex : ∃ f fd, FnX pr w K mg base lv f fd ps (lSpX K mg ct) ∧ mg x = some (.ref f) ∧ PySem.W.keepIn K (.ref f) = true ∧ Binds K fd ps [] ∧ (∀ p, ps = [p] → KwB K fd [p] [p] id id) ∧ (∀ p q, ps = [p, q] → KwB K fd [p, q] [q, p] sw2 sw2) ∧ (∀ p q r, ps = [p, q, r] → KwB K fd [p, q, r] [r, q, p] rv3 rv3)
structure CalXD (pr : Program) (w : World) (K : PySem.W.Frag) (mg : Str → Option Value) (base : Heap) (x : Str) (ps : List Str) (lv : Nat) (ct : CTX) (dvs : List V) : Prop where
  ex : ∃ f fd, FnX pr w K mg base lv f fd ps (lSpX K mg ct) ∧ mg x = some (.ref f) ∧ PySem.W.keepIn K (.ref f) = true ∧ Binds K fd ps [] ∧ ∃ dl, Vals dvs dl ∧ Binds K fd ps dl
/-- what is asked of a caught exception of the class nm at C -/
structure KnF (K : PySem.W.Frag) (a_CartError a_FloorError a_InvalidPaper a_InvalidText a_NotUsable a_PaperError a_TextError a_TrafficError : Addr) (nm : Str) (C : Addr) : Prop where
  ex : PySem.W.exmOne K (.ref C) (.ref a_CartError) = some true
  xc : L2.ExcC K C
  xf : XfC K C
  k_FloorError : PySem.W.kitOne K (.ref C) (.ref a_FloorError) = some (fam nm "FloorError")
  k_PaperError : PySem.W.kitOne K (.ref C) (.ref a_PaperError) = some (fam nm "PaperError")
  k_TextError : PySem.W.kitOne K (.ref C) (.ref a_TextError) = some (fam nm "TextError")
  k_TrafficError : PySem.W.kitOne K (.ref C) (.ref a_TrafficError) = some (fam nm "TrafficError")
  k_ValueError : PySem.W.kitOne K (.ref C) (.type "ValueError") = some (fam nm "ValueError")
  k_InvalidPaper : PySem.W.kitOne K (.ref C) (.ref a_InvalidPaper) = some (fam nm "InvalidPaper")
  k_NotUsable : PySem.W.kitOne K (.ref C) (.ref a_NotUsable) = some (fam nm "NotUsable")
  k_InvalidText : PySem.W.kitOne K (.ref C) (.ref a_InvalidText) = some (fam nm "InvalidText")
  n_at : PySem.W.findIn K (.ref C) "at" = some none
  n_word : PySem.W.findIn K (.ref C) "word" = some none
  n_field : PySem.W.findIn K (.ref C) "field" = some none
  n_line : PySem.W.findIn K (.ref C) "line" = some none
section
variable {pr : Program} {w : World} {K : PySem.W.Frag} {mg : Str → Option Value} {base : Heap}
/-! ### is_integer -/
abbrev N_is_integer : List Str := ["thing"]
theorem sc_is_integer : FnScope N_is_integer ["thing"] (defScope s_is_integer) := ⟨rfl, rfl, rfl, by decide +kernel, rfl, by decide +kernel, by decide +kernel⟩
theorem ok_is_integer {f : Addr} {fd : FuncData} (Fn : L2.Fun K "is_integer" "is_integer" s_is_integer f fd) (B : Bl mg) (M : Md mg) : FnG pr w K mg base 1 f fd ["thing"] (lSp K ct_is_integer) := by
  have hN := sc_is_integer.nd
  refine FnG.data Fn sc_is_integer _ (fun cdv A out s H F hK hr hgd => (dss_one (ds_ret (de_and (de_isi ok_int B.isinstance_ B.int_ (de_var 0)) (de_one (de_not (de_isi ok_bool B.isinstance_ B.bool_ (de_var 0)))))))) fun xs G Q h => ?_
  obtain ⟨d, rfl, hc, h⟩ := h
  refine ⟨rfl, ?_⟩
  simp (config := { maxSteps := 10000000 }) only [tdSeq, tdNext, tdBreak, tdCont, tdDrop, tdRet, tdRetN, tdIfS, tdAsg, tdPar, tdOwn, tdParO, tdAppend, tdExtend, tdGive, giveD, tdVar, tdC, tdBin, tdTest, tdAndT, tdOrT, tdNotT, tdAndV, tdOrV, tdNotV, tdIf, tdChain, tdUn, tdNil, tdCons, tdTup, tdLst, tdLstF, tdCall, tdNoPart, tdPart, tdSl, tdFn, tdFnK, tdBinO, tdCallO, tdOwnIx, tdItems, tdRange, tdRange2, tdFor, tdLcF, tdLc, tdIsi, tdUpper, tdJoin, tdBack, tdZip, tdDictIx, tdGGet, tdGPut, tdOwnArg, gdName, gdNil, gdCons, gdTup, asD_d, asB_d, asI_d, asS_d, asG_g, isOwn_own, useV, look, startD, asAll, allD, Option.map_some, itemsD, List.map_cons, List.map_nil, List.length_cons, List.length_nil, List.set_cons_zero, List.set_cons_succ, List.cons_append, List.nil_append, wipeD, Nat.zero_add, Nat.reduceAdd, Nat.reduceSub, List.reduceReplicate, id_eq, N_is_integer]
  cases d <;> simp [isTy, isTyN, tyD] <;> exact h
/-! ### is_number -/
abbrev N_is_number : List Str := ["thing"]
theorem sc_is_number : FnScope N_is_number ["thing"] (defScope s_is_number) := ⟨rfl, rfl, rfl, by decide +kernel, rfl, by decide +kernel, by decide +kernel⟩
theorem ok_is_number {f : Addr} {fd : FuncData} (Fn : L2.Fun K "is_number" "is_number" s_is_number f fd) (B : Bl mg) (M : Md mg) (c_is_integer : Cal pr w K mg base "is_integer" ["thing"] 1 ct_is_integer) : FnG pr w K mg base 2 f fd ["thing"] (lSp K ct_is_number) := by
  obtain ⟨_, _, g_is_integer, m_is_integer, k_is_integer, b_is_integer, kk_is_integer⟩ := c_is_integer.ex
  have hN := sc_is_number.nd
  refine FnG.data Fn sc_is_number _ (fun cdv A out s H F hK hr hgd => (dss_one (ds_ret (de_and (de_fn (g_is_integer.mono (by omega)) hr hgd hK m_is_integer k_is_integer b_is_integer (da_cons (de_var 0) da_nil)) (de_one (de_cmp op_geR imp_ge (de_var 0) de_int)))))) fun xs G Q h => ?_
  obtain ⟨d, rfl, hc, h⟩ := h
  refine ⟨rfl, ?_⟩
  simp (config := { maxSteps := 10000000 }) only [tdSeq, tdNext, tdBreak, tdCont, tdDrop, tdRet, tdRetN, tdIfS, tdAsg, tdPar, tdOwn, tdParO, tdAppend, tdExtend, tdGive, giveD, tdVar, tdC, tdBin, tdTest, tdAndT, tdOrT, tdNotT, tdAndV, tdOrV, tdNotV, tdIf, tdChain, tdUn, tdNil, tdCons, tdTup, tdLst, tdLstF, tdCall, tdNoPart, tdPart, tdSl, tdFn, tdFnK, tdBinO, tdCallO, tdOwnIx, tdItems, tdRange, tdRange2, tdFor, tdLcF, tdLc, tdIsi, tdUpper, tdJoin, tdBack, tdZip, tdDictIx, tdGGet, tdGPut, tdOwnArg, gdName, gdNil, gdCons, gdTup, asD_d, asB_d, asI_d, asS_d, asG_g, isOwn_own, useV, look, startD, asAll, allD, Option.map_some, itemsD, List.map_cons, List.map_nil, List.length_cons, List.length_nil, List.set_cons_zero, List.set_cons_succ, List.cons_append, List.nil_append, wipeD, Nat.zero_add, Nat.reduceAdd, Nat.reduceSub, List.reduceReplicate, id_eq, N_is_number]
  refine ⟨d, rfl, trivial, ?_⟩
  cases d <;> simp [isInteger, rdGe] <;> exact h
/-! ### is_name -/
abbrev N_is_name : List Str := ["thing", "sign"]
theorem sc_is_name : FnScope N_is_name ["thing"] (defScope s_is_name) := ⟨rfl, rfl, rfl, by decide +kernel, rfl, by decide +kernel, by decide +kernel⟩
theorem ok_is_name {f : Addr} {fd : FuncData} (Fn : L2.Fun K "is_name" "is_name" s_is_name f fd) (B : Bl mg) (M : Md mg) : FnG pr w K mg base 1 f fd ["thing"] (lSp K ct_is_name) := by
  obtain ⟨_, M_LETTERS⟩ := M.LETTERS_
  obtain ⟨_, M_MOST_LETTERS⟩ := M.MOST_LETTERS_
  have hN := sc_is_name.nd
  refine FnG.data Fn sc_is_name _ (fun cdv A out s H F hK hr hgd => (dss_one (ds_ret (de_and (de_isi ok_str B.isinstance_ B.str_ (de_var 0)) (de_and (de_chain (op_leR hr) imp_le (op_leR hr) imp_le de_int (de_callB call_len imp_len B.len_ (da_cons (de_var 0) da_nil)) (de_globI M_MOST_LETTERS)) (de_one (de_callB (cr_all rfl) imp_all B.all_ (da_cons (de_fresh (df_lc (own := [("sign", 1)]) rfl hN (di_items (de_var 0)) (blk_of (N := N_is_name) (sc := defScope s_is_name) rfl rfl (by decide +kernel)) (fun _ _ _ _ _ => (dg_name (i := 1) hN)) (fun _ _ _ _ _ => dts_nil) (fun _ _ _ _ _ => (de_cmp op_inR imp_in (de_var 1) (de_globS M_LETTERS))))) da_nil)))))))) fun xs G Q h => ?_
  obtain ⟨d, rfl, hc, h⟩ := h
  refine ⟨rfl, ?_⟩
  simp (config := { maxSteps := 10000000 }) only [tdSeq, tdNext, tdBreak, tdCont, tdDrop, tdRet, tdRetN, tdIfS, tdAsg, tdPar, tdOwn, tdParO, tdAppend, tdExtend, tdGive, giveD, tdVar, tdC, tdBin, tdTest, tdAndT, tdOrT, tdNotT, tdAndV, tdOrV, tdNotV, tdIf, tdChain, tdUn, tdNil, tdCons, tdTup, tdLst, tdLstF, tdCall, tdNoPart, tdPart, tdSl, tdFn, tdFnK, tdBinO, tdCallO, tdOwnIx, tdItems, tdRange, tdRange2, tdFor, tdLcF, tdLc, tdIsi, tdUpper, tdJoin, tdBack, tdZip, tdDictIx, tdGGet, tdGPut, tdOwnArg, gdName, gdNil, gdCons, gdTup, asD_d, asB_d, asI_d, asS_d, asG_g, isOwn_own, useV, look, startD, asAll, allD, Option.map_some, itemsD, List.map_cons, List.map_nil, List.length_cons, List.length_nil, List.set_cons_zero, List.set_cons_succ, List.cons_append, List.nil_append, wipeD, Nat.zero_add, Nat.reduceAdd, Nat.reduceSub, List.reduceReplicate, id_eq, N_is_name]
  cases d with
  | str x =>
    have hx := hc.str_len
    have hz : x.length ≤ sizeLine := by rw [sizeLine_eq]; omega
    rw [if_pos (by simp [isTy, isTyN, tyD])]
    refine ⟨hz, ?_⟩
    simp only [rdLe, asB_d]
    unfold isName at h
    by_cases h1 : (1 : Int) ≤ (x.length : Nat)
    · rw [if_pos (decide_eq_true h1)]
      by_cases h2 : ((x.length : Nat) : Int) ≤ 8
      · rw [if_pos (decide_eq_true h2)]
        refine lcl_map (fun z => match z with | .str t => .bool (t.cps.toList.all isLetter) | _ => .none) _ (by rw [List.length_map, Array.length_toList]; exact hz) (fun z m K1 k => ?_) ?_
        · obtain ⟨c, hcm, rfl⟩ := List.mem_map.mp m
          simp only [tdSeq, tdNext, tdBreak, tdCont, tdDrop, tdRet, tdRetN, tdIfS, tdAsg, tdPar, tdOwn, tdParO, tdAppend, tdExtend, tdGive, giveD, tdVar, tdC, tdBin, tdTest, tdAndT, tdOrT, tdNotT, tdAndV, tdOrV, tdNotV, tdIf, tdChain, tdUn, tdNil, tdCons, tdTup, tdLst, tdLstF, tdCall, tdNoPart, tdPart, tdSl, tdFn, tdFnK, tdBinO, tdCallO, tdOwnIx, tdItems, tdRange, tdRange2, tdFor, tdLcF, tdLc, tdIsi, tdUpper, tdJoin, tdBack, tdZip, tdDictIx, tdGGet, tdGPut, tdOwnArg, gdName, gdNil, gdCons, gdTup, asD_d, asB_d, asI_d, asS_d, asG_g, isOwn_own, useV, look, startD, asAll, allD, Option.map_some, itemsD, List.map_cons, List.map_nil, List.length_cons, List.length_nil, List.set_cons_zero, List.set_cons_succ, List.cons_append, List.nil_append, wipeD, Nat.zero_add, Nat.reduceAdd, Nat.reduceSub, List.reduceReplicate, id_eq, rdInN]
          simpa [isLetter, letters] using k
        · simp only [tdSeq, tdNext, tdBreak, tdCont, tdDrop, tdRet, tdRetN, tdIfS, tdAsg, tdPar, tdOwn, tdParO, tdAppend, tdExtend, tdGive, giveD, tdVar, tdC, tdBin, tdTest, tdAndT, tdOrT, tdNotT, tdAndV, tdOrV, tdNotV, tdIf, tdChain, tdUn, tdNil, tdCons, tdTup, tdLst, tdLstF, tdCall, tdNoPart, tdPart, tdSl, tdFn, tdFnK, tdBinO, tdCallO, tdOwnIx, tdItems, tdRange, tdRange2, tdFor, tdLcF, tdLc, tdIsi, tdUpper, tdJoin, tdBack, tdZip, tdDictIx, tdGGet, tdGPut, tdOwnArg, gdName, gdNil, gdCons, gdTup, asD_d, asB_d, asI_d, asS_d, asG_g, isOwn_own, useV, look, startD, asAll, allD, Option.map_some, itemsD, List.map_cons, List.map_nil, List.length_cons, List.length_nil, List.set_cons_zero, List.set_cons_succ, List.cons_append, List.nil_append, wipeD, Nat.zero_add, Nat.reduceAdd, Nat.reduceSub, List.reduceReplicate, id_eq, rdBools]
          rw [List.map_map, show ((fun z : D => (match z with | .str t => PyData.bool (t.cps.toList.all isLetter) | _ => .none)) ∘ fun c => PyData.str ⟨#[c]⟩) = fun c => PyData.bool (isLetter c) by funext c; simp]
          have e : boolsD (x.cps.toList.map fun c => PyData.bool (isLetter c)) = some (x.cps.toList.map isLetter) := by
            have : (x.cps.toList.map fun c => PyData.bool (isLetter c)) = (x.cps.toList.map isLetter).map .bool := by rw [List.map_map]; rfl
            rw [this, boolsD_map]
          rw [e]
          have h1' : 1 ≤ x.length := by omega
          have h2' : x.length ≤ 8 := by omega
          simp only [decide_eq_true h1', decide_eq_true h2', Bool.true_and] at h
          simpa [List.all_map] using h
      · rw [if_neg (by simpa using h2)]
        have h2' : ¬ x.length ≤ 8 := by omega
        simpa [h2'] using h
    · rw [if_neg (by simpa using h1)]
      have h1' : ¬ 1 ≤ x.length := by omega
      simpa [h1'] using h
  | _ =>
    rw [if_neg (by simp [isTy, isTyN, tyD])]
    exact h
/-! ### is_pair -/
abbrev N_is_pair : List Str := ["thing"]
theorem sc_is_pair : FnScope N_is_pair ["thing"] (defScope s_is_pair) := ⟨rfl, rfl, rfl, by decide +kernel, rfl, by decide +kernel, by decide +kernel⟩
theorem ok_is_pair {f : Addr} {fd : FuncData} (Fn : L2.Fun K "is_pair" "is_pair" s_is_pair f fd) (B : Bl mg) (M : Md mg) : FnG pr w K mg base 1 f fd ["thing"] (lSp K ct_is_pair) := by
  have hN := sc_is_pair.nd
  refine FnG.data Fn sc_is_pair _ (fun cdv A out s H F hK hr hgd => (dss_one (ds_ret (de_and (de_isi ok_tuple B.isinstance_ B.tuple_ (de_var 0)) (de_one (de_cmp (op_eqR hr) imp_eq (de_callB call_len imp_len B.len_ (da_cons (de_var 0) da_nil)) de_int)))))) fun xs G Q h => ?_
  obtain ⟨d, rfl, hc, h⟩ := h
  refine ⟨rfl, ?_⟩
  simp (config := { maxSteps := 10000000 }) only [tdSeq, tdNext, tdBreak, tdCont, tdDrop, tdRet, tdRetN, tdIfS, tdAsg, tdPar, tdOwn, tdParO, tdAppend, tdExtend, tdGive, giveD, tdVar, tdC, tdBin, tdTest, tdAndT, tdOrT, tdNotT, tdAndV, tdOrV, tdNotV, tdIf, tdChain, tdUn, tdNil, tdCons, tdTup, tdLst, tdLstF, tdCall, tdNoPart, tdPart, tdSl, tdFn, tdFnK, tdBinO, tdCallO, tdOwnIx, tdItems, tdRange, tdRange2, tdFor, tdLcF, tdLc, tdIsi, tdUpper, tdJoin, tdBack, tdZip, tdDictIx, tdGGet, tdGPut, tdOwnArg, gdName, gdNil, gdCons, gdTup, asD_d, asB_d, asI_d, asS_d, asG_g, isOwn_own, useV, look, startD, asAll, allD, Option.map_some, itemsD, List.map_cons, List.map_nil, List.length_cons, List.length_nil, List.set_cons_zero, List.set_cons_succ, List.cons_append, List.nil_append, wipeD, Nat.zero_add, Nat.reduceAdd, Nat.reduceSub, List.reduceReplicate, id_eq, N_is_pair]
  cases d with
  | tuple ds =>
    rw [if_pos (by simp [isTy, isTyN, tyD])]
    simp only [rdLen, rdEq, okEq, PyData.eqv, true_and]
    have e : (((ds.length : Nat) : Int) == 2) = decide (ds.length = 2) := by
      rw [Bool.eq_iff_iff]; simp; omega
    rw [e]
    exact h
  | _ =>
    rw [if_neg (by simp [isTy, isTyN, tyD])]
    exact h
/-! ### is_places -/
abbrev N_is_places : List Str := ["thing"]
theorem sc_is_places : FnScope N_is_places ["thing"] (defScope s_is_places) := ⟨rfl, rfl, rfl, by decide +kernel, rfl, by decide +kernel, by decide +kernel⟩
theorem ok_is_places {f : Addr} {fd : FuncData} (Fn : L2.Fun K "is_places" "is_places" s_is_places f fd) (B : Bl mg) (M : Md mg) (c_is_number : Cal pr w K mg base "is_number" ["thing"] 2 ct_is_number) : FnG pr w K mg base 3 f fd ["thing"] (lSp K ct_is_places) := by
  obtain ⟨_, _, g_is_number, m_is_number, k_is_number, b_is_number, kk_is_number⟩ := c_is_number.ex
  have hN := sc_is_places.nd
  refine FnG.data Fn sc_is_places _ (fun cdv A out s H F hK hr hgd => (dss_one (ds_ret (de_and (de_fn (g_is_number.mono (by omega)) hr hgd hK m_is_number k_is_number b_is_number (da_cons (de_var 0) da_nil)) (de_one (de_cmp op_geR imp_ge (de_var 0) de_int)))))) fun xs G Q h => ?_
  obtain ⟨d, rfl, hc, h⟩ := h
  refine ⟨rfl, ?_⟩
  simp (config := { maxSteps := 10000000 }) only [tdSeq, tdNext, tdBreak, tdCont, tdDrop, tdRet, tdRetN, tdIfS, tdAsg, tdPar, tdOwn, tdParO, tdAppend, tdExtend, tdGive, giveD, tdVar, tdC, tdBin, tdTest, tdAndT, tdOrT, tdNotT, tdAndV, tdOrV, tdNotV, tdIf, tdChain, tdUn, tdNil, tdCons, tdTup, tdLst, tdLstF, tdCall, tdNoPart, tdPart, tdSl, tdFn, tdFnK, tdBinO, tdCallO, tdOwnIx, tdItems, tdRange, tdRange2, tdFor, tdLcF, tdLc, tdIsi, tdUpper, tdJoin, tdBack, tdZip, tdDictIx, tdGGet, tdGPut, tdOwnArg, gdName, gdNil, gdCons, gdTup, asD_d, asB_d, asI_d, asS_d, asG_g, isOwn_own, useV, look, startD, asAll, allD, Option.map_some, itemsD, List.map_cons, List.map_nil, List.length_cons, List.length_nil, List.set_cons_zero, List.set_cons_succ, List.cons_append, List.nil_append, wipeD, Nat.zero_add, Nat.reduceAdd, Nat.reduceSub, List.reduceReplicate, id_eq, N_is_places]
  refine ⟨d, rfl, trivial, ?_⟩
  cases d with
  | int i =>
    simp only [isNumber, isPlaces, asB_d, rdGe] at h ⊢
    by_cases h0 : 0 ≤ i
    · rw [if_pos (decide_eq_true h0)]; exact h
    · rw [if_neg (by simpa using h0)]
      have : ¬ 1 ≤ i := by omega
      simpa [this] using h
  | _ => exact h
/-! ### is_zone -/
abbrev N_is_zone : List Str := ["thing"]
theorem sc_is_zone : FnScope N_is_zone ["thing"] (defScope s_is_zone) := ⟨rfl, rfl, rfl, by decide +kernel, rfl, by decide +kernel, by decide +kernel⟩
theorem ok_is_zone {f : Addr} {fd : FuncData} (Fn : L2.Fun K "is_zone" "is_zone" s_is_zone f fd) (B : Bl mg) (M : Md mg) (c_is_places : Cal pr w K mg base "is_places" ["thing"] 3 ct_is_places) (c_is_name : Cal pr w K mg base "is_name" ["thing"] 1 ct_is_name) (c_is_pair : Cal pr w K mg base "is_pair" ["thing"] 1 ct_is_pair) : FnG pr w K mg base 4 f fd ["thing"] (lSp K ct_is_zone) := by
  obtain ⟨_, _, g_is_places, m_is_places, k_is_places, b_is_places, kk_is_places⟩ := c_is_places.ex
  obtain ⟨_, _, g_is_name, m_is_name, k_is_name, b_is_name, kk_is_name⟩ := c_is_name.ex
  obtain ⟨_, _, g_is_pair, m_is_pair, k_is_pair, b_is_pair, kk_is_pair⟩ := c_is_pair.ex
  have hN := sc_is_zone.nd
  refine FnG.data Fn sc_is_zone _ (fun cdv A out s H F hK hr hgd => (dss_one (ds_ret (de_and (de_fn (g_is_pair.mono (by omega)) hr hgd hK m_is_pair k_is_pair b_is_pair (da_cons (de_var 0) da_nil)) (de_and (de_fn (g_is_name.mono (by omega)) hr hgd hK m_is_name k_is_name b_is_name (da_cons (de_ix ix_seq imp_ix (de_var 0) de_int) da_nil)) (de_one (de_fn (g_is_places.mono (by omega)) hr hgd hK m_is_places k_is_places b_is_places (da_cons (de_ix ix_seq imp_ix (de_var 0) de_int) da_nil)))))))) fun xs G Q h => ?_
  obtain ⟨d, rfl, hc, h⟩ := h
  refine ⟨rfl, ?_⟩
  simp (config := { maxSteps := 10000000 }) only [tdSeq, tdNext, tdBreak, tdCont, tdDrop, tdRet, tdRetN, tdIfS, tdAsg, tdPar, tdOwn, tdParO, tdAppend, tdExtend, tdGive, giveD, tdVar, tdC, tdBin, tdTest, tdAndT, tdOrT, tdNotT, tdAndV, tdOrV, tdNotV, tdIf, tdChain, tdUn, tdNil, tdCons, tdTup, tdLst, tdLstF, tdCall, tdNoPart, tdPart, tdSl, tdFn, tdFnK, tdBinO, tdCallO, tdOwnIx, tdItems, tdRange, tdRange2, tdFor, tdLcF, tdLc, tdIsi, tdUpper, tdJoin, tdBack, tdZip, tdDictIx, tdGGet, tdGPut, tdOwnArg, gdName, gdNil, gdCons, gdTup, asD_d, asB_d, asI_d, asS_d, asG_g, isOwn_own, useV, look, startD, asAll, allD, Option.map_some, itemsD, List.map_cons, List.map_nil, List.length_cons, List.length_nil, List.set_cons_zero, List.set_cons_succ, List.cons_append, List.nil_append, wipeD, Nat.zero_add, Nat.reduceAdd, Nat.reduceSub, List.reduceReplicate, id_eq, N_is_zone]
  refine ⟨d, rfl, trivial, ?_⟩
  simp only [asB_d]
  cases d with
  | tuple ds =>
    match ds, hc, h with
    | [a, b], hc, h =>
      have e1 : atI ([a, b] : List D) 0 = some a := rfl
      have e2 : atI ([a, b] : List D) 1 = some b := rfl
      rw [if_pos (show isPair (.tuple [a, b]) = true from rfl)]
      simp only [rdIx, asI_d, e1]
      refine ⟨a, rfl, hc.tup_all a (by simp), ?_⟩
      simp only [asB_d]
      simp only [isZone] at h
      cases q : isName a with
      | true =>
        rw [q] at h
        rw [if_pos rfl]
        simp only [e2]
        exact ⟨b, rfl, trivial, h⟩
      | false => rw [q] at h; exact h
    | [], _, h => exact h
    | [_], _, h => exact h
    | _ :: _ :: _ :: _, _, h => simpa [isPair, isZone] using h
  | _ => exact h
/-! ### is_way -/
abbrev N_is_way : List Str := ["thing", "one", "other", "name"]
theorem sc_is_way : FnScope N_is_way ["thing"] (defScope s_is_way) := ⟨rfl, rfl, rfl, by decide +kernel, rfl, by decide +kernel, by decide +kernel⟩
theorem ok_is_way {f : Addr} {fd : FuncData} (Fn : L2.Fun K "is_way" "is_way" s_is_way f fd) (B : Bl mg) (M : Md mg) (c_is_name : Cal pr w K mg base "is_name" ["thing"] 1 ct_is_name) : FnG pr w K mg base 2 f fd ["thing"] (lSp K ct_is_way) := by
  obtain ⟨_, _, g_is_name, m_is_name, k_is_name, b_is_name, kk_is_name⟩ := c_is_name.ex
  have hN := sc_is_way.nd
  refine FnG.data Fn sc_is_way _ (fun cdv A out s H F hK hr hgd => (dss_cons (ds_if (dt_w (dw_or (dt_not (dt_val (de_isi ok_tuple B.isinstance_ B.tuple_ (de_var 0)))) (dw_or (dt_cmp (op_eqR hr) imp_eq (de_callB call_len imp_len B.len_ (da_cons (de_var 0) da_nil)) de_int) (dw_or1 (dt_not (dt_val (de_callB (cr_all rfl) imp_all B.all_ (da_cons (de_fresh (df_lc (own := [("name", 3)]) rfl hN (di_items (de_var 0)) (blk_of (N := N_is_way) (sc := defScope s_is_way) rfl rfl (by decide +kernel)) (fun _ _ _ _ _ => (dg_name (i := 3) hN)) (fun _ _ _ _ _ => dts_nil) (fun _ _ _ _ _ => (de_fn (g_is_name.mono (by omega)) hr hgd hK m_is_name k_is_name b_is_name (da_cons (de_var 3) da_nil))))) da_nil)))))))) (dss_one (ds_ret de_bl)) dss_nil)
      (dss_one (ds_ret (de_callB (cr_all rfl) imp_all B.all_ (da_cons (de_fresh (df_lc (own := [("one", 1), ("other", 2)]) rfl hN (di_zip B.zip_ (de_var 0) (de_slice sl_R imp_sl (de_var 0) (do_some de_int) do_none)) (blk_of (N := N_is_way) (sc := defScope s_is_way) rfl rfl (by decide +kernel)) (fun _ _ _ _ _ => (dg_tup (n := 2) rfl (dgs_cons (dg_name (i := 1) hN) (dgs_cons (dg_name (i := 2) hN) dgs_nil)))) (fun _ _ _ _ _ => dts_nil) (fun _ _ _ _ _ => (de_cmp (op_neR hr) imp_ne (de_var 1) (de_var 2))))) da_nil)))))) fun xs G Q h => ?_
  obtain ⟨d, rfl, hc, h⟩ := h
  refine ⟨rfl, ?_⟩
  simp (config := { maxSteps := 10000000 }) only [tdSeq, tdNext, tdBreak, tdCont, tdDrop, tdRet, tdRetN, tdIfS, tdAsg, tdPar, tdOwn, tdParO, tdAppend, tdExtend, tdGive, giveD, tdVar, tdC, tdBin, tdTest, tdAndT, tdOrT, tdNotT, tdAndV, tdOrV, tdNotV, tdIf, tdChain, tdUn, tdNil, tdCons, tdTup, tdLst, tdLstF, tdCall, tdNoPart, tdPart, tdSl, tdFn, tdFnK, tdBinO, tdCallO, tdOwnIx, tdItems, tdRange, tdRange2, tdFor, tdLcF, tdLc, tdIsi, tdUpper, tdJoin, tdBack, tdZip, tdDictIx, tdGGet, tdGPut, tdOwnArg, gdName, gdNil, gdCons, gdTup, asD_d, asB_d, asI_d, asS_d, asG_g, isOwn_own, useV, look, startD, asAll, allD, Option.map_some, itemsD, List.map_cons, List.map_nil, List.length_cons, List.length_nil, List.set_cons_zero, List.set_cons_succ, List.cons_append, List.nil_append, wipeD, Nat.zero_add, Nat.reduceAdd, Nat.reduceSub, List.reduceReplicate, id_eq, N_is_way]
  cases d with
  | tuple ds =>
    have hl := hc.tup_len
    have hz : ds.length ≤ sizeLine := by rw [sizeLine_eq]; omega
    have ety : isTy "tuple" (.tuple ds) = true := by simp [isTy, isTyN, tyD]
    simp only [ety, Bool.not_true, Bool.false_eq_true, if_false, rdLen, rdEq, okEq, PyData.eqv, true_and, asB_d]
    have h : Q (.d (.bool (!ds.isEmpty && ds.all isName && noAdj ds))) G := h
    by_cases h0 : ds = []
    · subst h0
      rw [if_pos (show ((((([] : List D).length : Nat) : Int) == 0) = true) from rfl)]
      exact h
    have e0 : (((ds.length : Nat) : Int) == 0) = false := by
      have : ds.length ≠ 0 := fun z => h0 (List.length_eq_zero_iff.mp z)
      simp; exact h0
    have e1 : ds.isEmpty = false := by simpa using h0
    rw [e1] at h
    rw [e0]
    simp only [Bool.false_eq_true, if_false, Bool.not_false, Bool.true_and] at h ⊢
    refine lcl_map (fun z => .bool (isName z)) _ hz (fun z m K1 k => ?_) ?_
    · simp only [tdSeq, tdNext, tdBreak, tdCont, tdDrop, tdRet, tdRetN, tdIfS, tdAsg, tdPar, tdOwn, tdParO, tdAppend, tdExtend, tdGive, giveD, tdVar, tdC, tdBin, tdTest, tdAndT, tdOrT, tdNotT, tdAndV, tdOrV, tdNotV, tdIf, tdChain, tdUn, tdNil, tdCons, tdTup, tdLst, tdLstF, tdCall, tdNoPart, tdPart, tdSl, tdFn, tdFnK, tdBinO, tdCallO, tdOwnIx, tdItems, tdRange, tdRange2, tdFor, tdLcF, tdLc, tdIsi, tdUpper, tdJoin, tdBack, tdZip, tdDictIx, tdGGet, tdGPut, tdOwnArg, gdName, gdNil, gdCons, gdTup, asD_d, asB_d, asI_d, asS_d, asG_g, isOwn_own, useV, look, startD, asAll, allD, Option.map_some, itemsD, List.map_cons, List.map_nil, List.length_cons, List.length_nil, List.set_cons_zero, List.set_cons_succ, List.cons_append, List.nil_append, wipeD, Nat.zero_add, Nat.reduceAdd, Nat.reduceSub, List.reduceReplicate, id_eq]
      exact ⟨z, rfl, hc.tup_all z m, k⟩
    · simp only [tdSeq, tdNext, tdBreak, tdCont, tdDrop, tdRet, tdRetN, tdIfS, tdAsg, tdPar, tdOwn, tdParO, tdAppend, tdExtend, tdGive, giveD, tdVar, tdC, tdBin, tdTest, tdAndT, tdOrT, tdNotT, tdAndV, tdOrV, tdNotV, tdIf, tdChain, tdUn, tdNil, tdCons, tdTup, tdLst, tdLstF, tdCall, tdNoPart, tdPart, tdSl, tdFn, tdFnK, tdBinO, tdCallO, tdOwnIx, tdItems, tdRange, tdRange2, tdFor, tdLcF, tdLc, tdIsi, tdUpper, tdJoin, tdBack, tdZip, tdDictIx, tdGGet, tdGPut, tdOwnArg, gdName, gdNil, gdCons, gdTup, asD_d, asB_d, asI_d, asS_d, asG_g, isOwn_own, useV, look, startD, asAll, allD, Option.map_some, itemsD, List.map_cons, List.map_nil, List.length_cons, List.length_nil, List.set_cons_zero, List.set_cons_succ, List.cons_append, List.nil_append, wipeD, Nat.zero_add, Nat.reduceAdd, Nat.reduceSub, List.reduceReplicate, id_eq, rdBools, bools_of]
      cases q : ds.all isName with
      | false =>
        have : (ds.map isName).all id = false := by rw [List.all_map]; exact q
        rw [this]
        rw [q] at h
        rw [if_pos (by rfl)]
        exact h
      | true =>
        have : (ds.map isName).all id = true := by rw [List.all_map]; exact q
        rw [this]
        rw [q] at h
        simp only [Bool.not_true, Bool.false_eq_true, if_false, rdSl, cutL_one, Bool.true_and] at h ⊢
        have hl2 : (pairsD ds ds.tail).length ≤ ds.length := by unfold pairsD; rw [List.length_zipWith]; omega
        have hall := List.all_eq_true.mp q
        refine lcl_map (pairF fun x y => !PyData.eqv x y) _ (Nat.le_trans hl2 hz) (fun z m K1 k => ?_) ?_
        · obtain ⟨x, y, rfl, hx, hy⟩ := pairs_mem m
          have q1 := name_str (hall x hx)
          have q2 := name_str (hall y (List.mem_of_mem_tail hy))
          obtain ⟨sx, rfl⟩ := q1
          obtain ⟨sy, rfl⟩ := q2
          simp only [tdSeq, tdNext, tdBreak, tdCont, tdDrop, tdRet, tdRetN, tdIfS, tdAsg, tdPar, tdOwn, tdParO, tdAppend, tdExtend, tdGive, giveD, tdVar, tdC, tdBin, tdTest, tdAndT, tdOrT, tdNotT, tdAndV, tdOrV, tdNotV, tdIf, tdChain, tdUn, tdNil, tdCons, tdTup, tdLst, tdLstF, tdCall, tdNoPart, tdPart, tdSl, tdFn, tdFnK, tdBinO, tdCallO, tdOwnIx, tdItems, tdRange, tdRange2, tdFor, tdLcF, tdLc, tdIsi, tdUpper, tdJoin, tdBack, tdZip, tdDictIx, tdGGet, tdGPut, tdOwnArg, gdName, gdNil, gdCons, gdTup, asD_d, asB_d, asI_d, asS_d, asG_g, isOwn_own, useV, look, startD, asAll, allD, Option.map_some, itemsD, List.map_cons, List.map_nil, List.length_cons, List.length_nil, List.set_cons_zero, List.set_cons_succ, List.cons_append, List.nil_append, wipeD, Nat.zero_add, Nat.reduceAdd, Nat.reduceSub, List.reduceReplicate, id_eq, rdNe, okEq, true_and]
          exact k
        · try simp only [tdSeq, tdNext, tdBreak, tdCont, tdDrop, tdRet, tdRetN, tdIfS, tdAsg, tdPar, tdOwn, tdParO, tdAppend, tdExtend, tdGive, giveD, tdVar, tdC, tdBin, tdTest, tdAndT, tdOrT, tdNotT, tdAndV, tdOrV, tdNotV, tdIf, tdChain, tdUn, tdNil, tdCons, tdTup, tdLst, tdLstF, tdCall, tdNoPart, tdPart, tdSl, tdFn, tdFnK, tdBinO, tdCallO, tdOwnIx, tdItems, tdRange, tdRange2, tdFor, tdLcF, tdLc, tdIsi, tdUpper, tdJoin, tdBack, tdZip, tdDictIx, tdGGet, tdGPut, tdOwnArg, gdName, gdNil, gdCons, gdTup, asD_d, asB_d, asI_d, asS_d, asG_g, isOwn_own, useV, look, startD, asAll, allD, Option.map_some, itemsD, List.map_cons, List.map_nil, List.length_cons, List.length_nil, List.set_cons_zero, List.set_cons_succ, List.cons_append, List.nil_append, wipeD, Nat.zero_add, Nat.reduceAdd, Nat.reduceSub, List.reduceReplicate, id_eq, rdBools]
          rw [pairs_bools fun x y => !PyData.eqv x y]
          exact h
  | _ =>
    rw [if_pos (by simp [isTy, isTyN, tyD])]
    exact h
/-! ### zones_fault -/
abbrev N_zones_fault : List Str := ["zones", "k", "zone"]
theorem sc_zones_fault : FnScope N_zones_fault ["zones"] (defScope s_zones_fault) := ⟨rfl, rfl, rfl, by decide +kernel, rfl, by decide +kernel, by decide +kernel⟩
theorem ok_zones_fault {f : Addr} {fd : FuncData} (Fn : L2.Fun K "zones_fault" "zones_fault" s_zones_fault f fd) (B : Bl mg) (M : Md mg) (c_is_zone : Cal pr w K mg base "is_zone" ["thing"] 4 ct_is_zone) : FnG pr w K mg base 5 f fd ["zones"] (lSp K ct_zones_fault) := by
  obtain ⟨_, _, g_is_zone, m_is_zone, k_is_zone, b_is_zone, kk_is_zone⟩ := c_is_zone.ex
  have hN := sc_zones_fault.nd
  refine FnG.data Fn sc_zones_fault _ (fun cdv A out s H F hK hr hgd => (dss_cons (ds_if (dt_w (dw_or (dt_not (dt_val (de_isi ok_tuple B.isinstance_ B.tuple_ (de_var 0)))) (dw_or1 (dt_cmp (op_eqR hr) imp_eq (de_callB call_len imp_len B.len_ (da_cons (de_var 0) da_nil)) de_int)))) (dss_one (ds_ret (de_lit 40 rfl))) dss_nil)
      (dss_cons (ds_for PassesOwn.never rfl (di_enum B.enumerate_ (de_var 0)) (dg_tup (n := 2) rfl (dgs_cons (dg_name (i := 1) hN) (dgs_cons (dg_name (i := 2) hN) dgs_nil))) (dss_one (ds_if (dt_w (dw_or (dt_not (dt_val (de_fn (g_is_zone.mono (by omega)) hr hgd hK m_is_zone k_is_zone b_is_zone (da_cons (de_var 2) da_nil)))) (dw_or1 (dt_w (dw_and (dt_cmp op_gtR imp_gt (de_var 1) de_int) (dw_and1 (dt_cmp op_geR imp_ge (de_ix ix_seq imp_ix (de_ix ix_seq imp_ix (de_var 0) (de_op op_sub imp_I0 (de_var 1) de_int)) de_int) (de_ix ix_seq imp_ix (de_var 2) de_int)))))))) (dss_one (ds_ret (de_tup (da_cons de_str (da_cons (de_var 1) da_nil))))) dss_nil)))
      (dss_one (ds_ret de_non))))) fun xs G Q h => ?_
  obtain ⟨d, rfl, hc, h⟩ := h
  refine ⟨rfl, ?_⟩
  have e0 : startD N_zones_fault.length [.d d] = [some (.d d), none, none] := rfl
  rw [e0]
  refine seq_out fun R hR => ?_
  simp (config := { maxSteps := 10000000 }) only [tdSeq, tdNext, tdBreak, tdCont, tdDrop, tdRet, tdRetN, tdIfS, tdAsg, tdPar, tdOwn, tdParO, tdAppend, tdExtend, tdGive, giveD, tdVar, tdC, tdBin, tdTest, tdAndT, tdOrT, tdNotT, tdAndV, tdOrV, tdNotV, tdIf, tdChain, tdUn, tdNil, tdCons, tdTup, tdLst, tdLstF, tdCall, tdNoPart, tdPart, tdSl, tdFn, tdFnK, tdBinO, tdCallO, tdOwnIx, tdItems, tdRange, tdRange2, tdFor, tdLcF, tdLc, tdIsi, tdUpper, tdJoin, tdBack, tdZip, tdDictIx, tdGGet, tdGPut, tdOwnArg, gdName, gdNil, gdCons, gdTup, asD_d, asB_d, asI_d, asS_d, asG_g, isOwn_own, useV, look, startD, asAll, allD, Option.map_some, itemsD, List.map_cons, List.map_nil, List.length_cons, List.length_nil, List.set_cons_zero, List.set_cons_succ, List.cons_append, List.nil_append, wipeD, Nat.zero_add, Nat.reduceAdd, Nat.reduceSub, List.reduceReplicate, id_eq, rdAdd_ii, rdAdd_ss, rdAdd_tt, rdAdd_ll, rdMul_ii, rdII_ii, rdI0_ii, rdInt_i, rdGt_ii, rdGe_ii, rdLt_ii, rdLe_ii, rdLen_l, rdLen_t, rdEq_ii, rdNe_ii, rdEq_ss, rdNe_ss, keyD_s, Option.bind_some, Bool.false_eq_true, if_false, if_true, gv0, gv1, gv2, gv3, gp1, gp2, gp3, gs0, gl0]
  cases d with
  | tuple ds =>
    refine itF (by simp [isTy, isTyN, tyD]) ?_
    simp only [rdLen_t, rdEq_ii, asB_d]
    refine itB (fun q => ?_) (fun q => ?_)
    · have q : ds = [] := by
        have := of_decide_eq_true q
        exact List.length_eq_zero_iff.mp (by omega)
      subst q
      first | exact h | exact ⟨by decide, h⟩
    rw [← hR]
    clear hR
    have hne : ds ≠ [] := by
      intro z
      subst z
      simp at q
    refine seq_out fun R2 h2 => ?_
    simp only [tdFor, tdEnum, tdVar, useV, look, asD_d]
    refine dloop_by (enumD 0 ds) (fun n env G' => ∃ o1 o2 : Option SV, env = [some (.d (.tuple ds)), o1, o2] ∧ G' = G ∧ ∀ j, j < n → zoneAt ds j = true) 0 _ _ ?_ ?_ ⟨none, none, rfl, rfl, fun j hj => by omega⟩
    · rintro i x env G2 hx ⟨o1, o2, rfl, rfl, hall⟩ nx hnx
      rw [enumD_get] at hx
      obtain ⟨z, hz, rfl⟩ := Option.map_eq_some_iff.mp hx
      obtain ⟨hi, hz'⟩ := List.getElem?_eq_some_iff.mp hz
      rw [Nat.zero_add] at *
      simp (config := { maxSteps := 10000000 }) only [tdSeq, tdNext, tdBreak, tdCont, tdDrop, tdRet, tdRetN, tdIfS, tdAsg, tdPar, tdOwn, tdParO, tdAppend, tdExtend, tdGive, giveD, tdVar, tdC, tdBin, tdTest, tdAndT, tdOrT, tdNotT, tdAndV, tdOrV, tdNotV, tdIf, tdChain, tdUn, tdNil, tdCons, tdTup, tdLst, tdLstF, tdCall, tdNoPart, tdPart, tdSl, tdFn, tdFnK, tdBinO, tdCallO, tdOwnIx, tdItems, tdRange, tdRange2, tdFor, tdLcF, tdLc, tdIsi, tdUpper, tdJoin, tdBack, tdZip, tdDictIx, tdGGet, tdGPut, tdOwnArg, gdName, gdNil, gdCons, gdTup, asD_d, asB_d, asI_d, asS_d, asG_g, isOwn_own, useV, look, startD, asAll, allD, Option.map_some, itemsD, List.map_cons, List.map_nil, List.length_cons, List.length_nil, List.set_cons_zero, List.set_cons_succ, List.cons_append, List.nil_append, wipeD, Nat.zero_add, Nat.reduceAdd, Nat.reduceSub, List.reduceReplicate, id_eq, rdAdd_ii, rdAdd_ss, rdAdd_tt, rdAdd_ll, rdMul_ii, rdII_ii, rdI0_ii, rdInt_i, rdGt_ii, rdGe_ii, rdLt_ii, rdLe_ii, rdLen_l, rdLen_t, rdEq_ii, rdNe_ii, rdEq_ss, rdNe_ss, keyD_s, Option.bind_some, Bool.false_eq_true, if_false, if_true, gv0, gv1, gv2, gv3, gp1, gp2, gp3, gs0, gl0]
      refine ⟨trivial, z, rfl, hc.tup_all z (List.mem_of_getElem? hz), ?_⟩
      simp (config := { maxSteps := 10000000 }) only [tdSeq, tdNext, tdBreak, tdCont, tdDrop, tdRet, tdRetN, tdIfS, tdAsg, tdPar, tdOwn, tdParO, tdAppend, tdExtend, tdGive, giveD, tdVar, tdC, tdBin, tdTest, tdAndT, tdOrT, tdNotT, tdAndV, tdOrV, tdNotV, tdIf, tdChain, tdUn, tdNil, tdCons, tdTup, tdLst, tdLstF, tdCall, tdNoPart, tdPart, tdSl, tdFn, tdFnK, tdBinO, tdCallO, tdOwnIx, tdItems, tdRange, tdRange2, tdFor, tdLcF, tdLc, tdIsi, tdUpper, tdJoin, tdBack, tdZip, tdDictIx, tdGGet, tdGPut, tdOwnArg, gdName, gdNil, gdCons, gdTup, asD_d, asB_d, asI_d, asS_d, asG_g, isOwn_own, useV, look, startD, asAll, allD, Option.map_some, itemsD, List.map_cons, List.map_nil, List.length_cons, List.length_nil, List.set_cons_zero, List.set_cons_succ, List.cons_append, List.nil_append, wipeD, Nat.zero_add, Nat.reduceAdd, Nat.reduceSub, List.reduceReplicate, id_eq, rdAdd_ii, rdAdd_ss, rdAdd_tt, rdAdd_ll, rdMul_ii, rdII_ii, rdI0_ii, rdInt_i, rdGt_ii, rdGe_ii, rdLt_ii, rdLe_ii, rdLen_l, rdLen_t, rdEq_ii, rdNe_ii, rdEq_ss, rdNe_ss, keyD_s, Option.bind_some, Bool.false_eq_true, if_false, if_true, gv0, gv1, gv2, gv3, gp1, gp2, gp3, gs0, gl0]
      have bad : zoneAt ds i = false → Q (.d (.tuple [.str "zone", .int (i : Nat)])) G2 := fun hb => by
        rw [zones_ft hne, firstBad_at hall hi hb] at h
        exact h
      cases qz : isZone z with
      | false =>
        refine itT rfl ?_
        have hb : zoneAt ds i = false := by
          unfold zoneAt
          simp only [hz, qz, Bool.false_and]
        first | exact ⟨by decide, bad hb⟩ | exact bad hb
      | true =>
        refine itF (by simp) ?_
        cases i with
        | zero =>
          refine itF (by simp) ?_
          refine hnx _ _ ⟨_, _, rfl, rfl, fun j hj => ?_⟩
          have : j = 0 := by omega
          subst this
          unfold zoneAt
          simp only [hz, qz, Bool.and_true]
        | succ i =>
          obtain ⟨y, hy⟩ : ∃ y, ds[i]? = some y := ⟨ds[i], List.getElem?_eq_getElem (by omega)⟩
          have hprev := hall i (by omega)
          have hyz : isZone y = true := by
            unfold zoneAt at hprev
            simp only [hy, Bool.and_eq_true] at hprev
            exact hprev.1
          have ez : zoneAt ds (i + 1) = nameLt y z := by
            unfold zoneAt
            simp only [hz, hy, qz, Bool.true_and]
          obtain ⟨a, m, rfl⟩ := zone_inv hyz
          obtain ⟨b, m', rfl⟩ := zone_inv qz
          have en : nameLt (.tuple [.str a, .int m]) (.tuple [.str b, .int m']) = decide (a.cps.toList < b.cps.toList) := rfl
          have ea : atI ([.str a, .int m] : List D) 0 = some (.str a) := rfl
          have eb : atI ([.str b, .int m'] : List D) 0 = some (.str b) := rfl
          refine itT (by rw [decide_eq_true_eq]; omega) ?_
          simp only [rdI0_ii, rdIx, asI_d, show (((i + 1 : Nat) : Int) - 1) = ((i : Nat) : Int) by omega, DL.atI_nat, hy, ea, eb, rdGe, asB_d]
          cases qa : decide (a.cps.toList < b.cps.toList) with
          | true =>
            refine itF (by simp) (hnx _ _ ⟨_, _, rfl, rfl, fun j hj => ?_⟩)
            by_cases hj2 : j = i + 1
            · rw [hj2, ez, en]; exact qa
            · exact hall j (by omega)
          | false =>
            refine itT (by simp) ?_
            have hb : zoneAt ds (i + 1) = false := by rw [ez, en]; exact qa
            first | exact bad hb | exact ⟨by decide, bad hb⟩
    · rintro env G2 ⟨o1, o2, rfl, rfl, hall⟩
      rw [enumD_len, Nat.zero_add] at hall
      show R2 _ _
      rw [← h2]
      simp (config := { maxSteps := 10000000 }) only [tdSeq, tdNext, tdBreak, tdCont, tdDrop, tdRet, tdRetN, tdIfS, tdAsg, tdPar, tdOwn, tdParO, tdAppend, tdExtend, tdGive, giveD, tdVar, tdC, tdBin, tdTest, tdAndT, tdOrT, tdNotT, tdAndV, tdOrV, tdNotV, tdIf, tdChain, tdUn, tdNil, tdCons, tdTup, tdLst, tdLstF, tdCall, tdNoPart, tdPart, tdSl, tdFn, tdFnK, tdBinO, tdCallO, tdOwnIx, tdItems, tdRange, tdRange2, tdFor, tdLcF, tdLc, tdIsi, tdUpper, tdJoin, tdBack, tdZip, tdDictIx, tdGGet, tdGPut, tdOwnArg, gdName, gdNil, gdCons, gdTup, asD_d, asB_d, asI_d, asS_d, asG_g, isOwn_own, useV, look, startD, asAll, allD, Option.map_some, itemsD, List.map_cons, List.map_nil, List.length_cons, List.length_nil, List.set_cons_zero, List.set_cons_succ, List.cons_append, List.nil_append, wipeD, Nat.zero_add, Nat.reduceAdd, Nat.reduceSub, List.reduceReplicate, id_eq, rdAdd_ii, rdAdd_ss, rdAdd_tt, rdAdd_ll, rdMul_ii, rdII_ii, rdI0_ii, rdInt_i, rdGt_ii, rdGe_ii, rdLt_ii, rdLe_ii, rdLen_l, rdLen_t, rdEq_ii, rdNe_ii, rdEq_ss, rdNe_ss, keyD_s, Option.bind_some, Bool.false_eq_true, if_false, if_true, gv0, gv1, gv2, gv3, gp1, gp2, gp3, gs0, gl0]
      rw [zones_ft hne, firstBad_no hall] at h
      exact h
  | _ =>
    refine itT (by simp [isTy, isTyN, tyD]) ?_
    first | exact h | exact ⟨by decide, h⟩
/-! ### ways_fault -/
abbrev N_ways_fault : List Str := ["zones", "ways", "names", "w", "way", "zone", "name"]
theorem sc_ways_fault : FnScope N_ways_fault ["zones", "ways"] (defScope s_ways_fault) := ⟨rfl, rfl, rfl, by decide +kernel, rfl, by decide +kernel, by decide +kernel⟩
theorem ok_ways_fault {f : Addr} {fd : FuncData} (Fn : L2.Fun K "ways_fault" "ways_fault" s_ways_fault f fd) (B : Bl mg) (M : Md mg) (c_is_way : Cal pr w K mg base "is_way" ["thing"] 2 ct_is_way) : FnG pr w K mg base 3 f fd ["zones", "ways"] (lSp K ct_ways_fault) := by
  obtain ⟨_, _, g_is_way, m_is_way, k_is_way, b_is_way, kk_is_way⟩ := c_is_way.ex
  have hN := sc_ways_fault.nd
  refine FnG.data Fn sc_ways_fault _ (fun cdv A out s H F hK hr hgd => (dss_cons (ds_if (dt_not (dt_val (de_isi ok_tuple B.isinstance_ B.tuple_ (de_var 1)))) (dss_one (ds_ret (de_lit 40 rfl))) dss_nil)
      (dss_cons (ds_set (i := 2) hN (de_fresh (df_lc (own := [("zone", 5)]) rfl hN (di_items (de_var 0)) (blk_of (N := N_ways_fault) (sc := defScope s_ways_fault) rfl rfl (by decide +kernel)) (fun _ _ _ _ _ => (dg_name (i := 5) hN)) (fun _ _ _ _ _ => dts_nil) (fun _ _ _ _ _ => (de_ix ix_seq imp_ix (de_var 5) de_int)))))
      (dss_cons (ds_for PassesOwn.never rfl (di_enum B.enumerate_ (de_var 1)) (dg_tup (n := 2) rfl (dgs_cons (dg_name (i := 3) hN) (dgs_cons (dg_name (i := 4) hN) dgs_nil))) (dss_one (ds_if (dt_w (dw_or (dt_not (dt_val (de_fn (g_is_way.mono (by omega)) hr hgd hK m_is_way k_is_way b_is_way (da_cons (de_var 4) da_nil)))) (dw_or1 (dt_not (dt_val (de_callB (cr_all rfl) imp_all B.all_ (da_cons (de_fresh (df_lc (own := [("name", 6)]) rfl hN (di_items (de_var 4)) (blk_of (N := N_ways_fault) (sc := defScope s_ways_fault) rfl rfl (by decide +kernel)) (fun _ _ _ _ _ => (dg_name (i := 6) hN)) (fun _ _ _ _ _ => dts_nil) (fun _ _ _ _ _ => (de_cmp op_inR imp_in (de_var 6) (de_var 2))))) da_nil))))))) (dss_one (ds_ret (de_tup (da_cons de_str (da_cons (de_var 3) da_nil))))) dss_nil)))
      (dss_one (ds_ret de_non)))))) fun xs G Q h => ?_
  obtain ⟨zs, d, rfl, hz, hzs, hc, h⟩ := h
  refine ⟨rfl, ?_⟩
  have e0 : startD N_ways_fault.length [.d (.tuple zs), .d d] = [some (.d (.tuple zs)), some (.d d), none, none, none, none, none] := rfl
  rw [e0]
  refine seq_out fun R hR => ?_
  simp (config := { maxSteps := 10000000 }) only [tdSeq, tdNext, tdBreak, tdCont, tdDrop, tdRet, tdRetN, tdIfS, tdAsg, tdPar, tdOwn, tdParO, tdAppend, tdExtend, tdGive, giveD, tdVar, tdC, tdBin, tdTest, tdAndT, tdOrT, tdNotT, tdAndV, tdOrV, tdNotV, tdIf, tdChain, tdUn, tdNil, tdCons, tdTup, tdLst, tdLstF, tdCall, tdNoPart, tdPart, tdSl, tdFn, tdFnK, tdBinO, tdCallO, tdOwnIx, tdItems, tdRange, tdRange2, tdFor, tdLcF, tdLc, tdIsi, tdUpper, tdJoin, tdBack, tdZip, tdDictIx, tdGGet, tdGPut, tdOwnArg, gdName, gdNil, gdCons, gdTup, asD_d, asB_d, asI_d, asS_d, asG_g, isOwn_own, useV, look, startD, asAll, allD, Option.map_some, itemsD, List.map_cons, List.map_nil, List.length_cons, List.length_nil, List.set_cons_zero, List.set_cons_succ, List.cons_append, List.nil_append, wipeD, Nat.zero_add, Nat.reduceAdd, Nat.reduceSub, List.reduceReplicate, id_eq, rdAdd_ii, rdAdd_ss, rdAdd_tt, rdAdd_ll, rdMul_ii, rdII_ii, rdI0_ii, rdInt_i, rdGt_ii, rdGe_ii, rdLt_ii, rdLe_ii, rdLen_l, rdLen_t, rdEq_ii, rdNe_ii, rdEq_ss, rdNe_ss, keyD_s, Option.bind_some, Bool.false_eq_true, if_false, if_true, gv0, gv1, gv2, gv3, gp1, gp2, gp3, gs0, gl0]
  cases d with
  | tuple ws =>
    refine itF (by simp [isTy, isTyN, tyD]) ?_
    have h : Q (.d (ftOf "way" (firstBad (wayAt (zs.map nameOf) ws) ws.length))) G := h
    rw [← hR]
    clear hR
    refine seq_out fun R6 h6 => ?_
    simp (config := { maxSteps := 10000000 }) only [tdSeq, tdNext, tdBreak, tdCont, tdDrop, tdRet, tdRetN, tdIfS, tdAsg, tdPar, tdOwn, tdParO, tdAppend, tdExtend, tdGive, giveD, tdVar, tdC, tdBin, tdTest, tdAndT, tdOrT, tdNotT, tdAndV, tdOrV, tdNotV, tdIf, tdChain, tdUn, tdNil, tdCons, tdTup, tdLst, tdLstF, tdCall, tdNoPart, tdPart, tdSl, tdFn, tdFnK, tdBinO, tdCallO, tdOwnIx, tdItems, tdRange, tdRange2, tdFor, tdLcF, tdLc, tdIsi, tdUpper, tdJoin, tdBack, tdZip, tdDictIx, tdGGet, tdGPut, tdOwnArg, gdName, gdNil, gdCons, gdTup, asD_d, asB_d, asI_d, asS_d, asG_g, isOwn_own, useV, look, startD, asAll, allD, Option.map_some, itemsD, List.map_cons, List.map_nil, List.length_cons, List.length_nil, List.set_cons_zero, List.set_cons_succ, List.cons_append, List.nil_append, wipeD, Nat.zero_add, Nat.reduceAdd, Nat.reduceSub, List.reduceReplicate, id_eq, rdAdd_ii, rdAdd_ss, rdAdd_tt, rdAdd_ll, rdMul_ii, rdII_ii, rdI0_ii, rdInt_i, rdGt_ii, rdGe_ii, rdLt_ii, rdLe_ii, rdLen_l, rdLen_t, rdEq_ii, rdNe_ii, rdEq_ss, rdNe_ss, keyD_s, Option.bind_some, Bool.false_eq_true, if_false, if_true, gv0, gv1, gv2, gv3, gp1, gp2, gp3, gs0, gl0]
    have hzl := hz.tup_len
    refine lcl_map nameOf _ (by rw [sizeLine_eq]; omega) (fun z m K1 k => ?_) ?_
    · obtain ⟨a, i, rfl⟩ := zone_inv (hzs z m)
      have e3 : atI ([.str a, .int i] : List D) 0 = some (.str a) := rfl
      simp (config := { maxSteps := 10000000 }) only [tdSeq, tdNext, tdBreak, tdCont, tdDrop, tdRet, tdRetN, tdIfS, tdAsg, tdPar, tdOwn, tdParO, tdAppend, tdExtend, tdGive, giveD, tdVar, tdC, tdBin, tdTest, tdAndT, tdOrT, tdNotT, tdAndV, tdOrV, tdNotV, tdIf, tdChain, tdUn, tdNil, tdCons, tdTup, tdLst, tdLstF, tdCall, tdNoPart, tdPart, tdSl, tdFn, tdFnK, tdBinO, tdCallO, tdOwnIx, tdItems, tdRange, tdRange2, tdFor, tdLcF, tdLc, tdIsi, tdUpper, tdJoin, tdBack, tdZip, tdDictIx, tdGGet, tdGPut, tdOwnArg, gdName, gdNil, gdCons, gdTup, asD_d, asB_d, asI_d, asS_d, asG_g, isOwn_own, useV, look, startD, asAll, allD, Option.map_some, itemsD, List.map_cons, List.map_nil, List.length_cons, List.length_nil, List.set_cons_zero, List.set_cons_succ, List.cons_append, List.nil_append, wipeD, Nat.zero_add, Nat.reduceAdd, Nat.reduceSub, List.reduceReplicate, id_eq, rdAdd_ii, rdAdd_ss, rdAdd_tt, rdAdd_ll, rdMul_ii, rdII_ii, rdI0_ii, rdInt_i, rdGt_ii, rdGe_ii, rdLt_ii, rdLe_ii, rdLen_l, rdLen_t, rdEq_ii, rdNe_ii, rdEq_ss, rdNe_ss, keyD_s, Option.bind_some, Bool.false_eq_true, if_false, if_true, gv0, gv1, gv2, gv3, gp1, gp2, gp3, gs0, gl0, rdIx, e3]
      exact k
    · rw [← h6]
      clear h6
      have hfl := names_flat hzs
      generalize zs.map nameOf = nms at *
      refine seq_out fun R7 h7 => ?_
      simp only [tdGive, giveD, tdFor, tdEnum, tdVar, useV, look, asD_d, List.getElem?_cons_zero, List.getElem?_cons_succ, List.set_cons_zero, List.set_cons_succ, Option.map_some]
      refine dloop_by (enumD 0 ws) (fun n env G' => ∃ o1 o2 : Option SV, env = [some (.d (.tuple zs)), some (.d (.tuple ws)), some (.d (.list nms)), o1, o2, none, none] ∧ G' = G ∧ ∀ j, j < n → wayAt nms ws j = true) 0 _ _ ?_ ?_ ⟨none, none, rfl, rfl, fun j hj => by omega⟩
      · rintro i x env G2 hxi ⟨o1, o2, rfl, rfl, hall⟩ nx hnx
        rw [enumD_get] at hxi
        obtain ⟨l, hl, rfl⟩ := Option.map_eq_some_iff.mp hxi
        obtain ⟨hi, _⟩ := List.getElem?_eq_some_iff.mp hl
        rw [Nat.zero_add] at *
        have hlo := hc.tup_all l (List.mem_of_getElem? hl)
        simp only [gdTup, gdCons, gdName, gdNil, itemsD, List.set_cons_zero, List.set_cons_succ]
        refine ⟨rfl, ?_⟩
        simp (config := { maxSteps := 10000000 }) only [tdSeq, tdNext, tdBreak, tdCont, tdDrop, tdRet, tdRetN, tdIfS, tdAsg, tdPar, tdOwn, tdParO, tdAppend, tdExtend, tdGive, giveD, tdVar, tdC, tdBin, tdTest, tdAndT, tdOrT, tdNotT, tdAndV, tdOrV, tdNotV, tdIf, tdChain, tdUn, tdNil, tdCons, tdTup, tdLst, tdLstF, tdCall, tdNoPart, tdPart, tdSl, tdFn, tdFnK, tdBinO, tdCallO, tdOwnIx, tdItems, tdRange, tdRange2, tdFor, tdLcF, tdLc, tdIsi, tdUpper, tdJoin, tdBack, tdZip, tdDictIx, tdGGet, tdGPut, tdOwnArg, gdName, gdNil, gdCons, gdTup, asD_d, asB_d, asI_d, asS_d, asG_g, isOwn_own, useV, look, startD, asAll, allD, Option.map_some, itemsD, List.map_cons, List.map_nil, List.length_cons, List.length_nil, List.set_cons_zero, List.set_cons_succ, List.cons_append, List.nil_append, wipeD, Nat.zero_add, Nat.reduceAdd, Nat.reduceSub, List.reduceReplicate, id_eq, rdAdd_ii, rdAdd_ss, rdAdd_tt, rdAdd_ll, rdMul_ii, rdII_ii, rdI0_ii, rdInt_i, rdGt_ii, rdGe_ii, rdLt_ii, rdLe_ii, rdLen_l, rdLen_t, rdEq_ii, rdNe_ii, rdEq_ss, rdNe_ss, keyD_s, Option.bind_some, Bool.false_eq_true, if_false, if_true, gv0, gv1, gv2, gv3, gp1, gp2, gp3, gs0, gl0]
        refine ⟨l, rfl, hlo, ?_⟩
        simp only [asB_d]
        have bad : wayAt nms ws i = false → Q (.d (.tuple [.str "way", .int (i : Nat)])) G2 := fun hb => by
          rw [firstBad_at hall hi hb] at h
          exact h
        have el : wayAt nms ws i = wayIn nms l := by
          unfold wayAt
          simp only [hl]
        cases q : isWay l with
        | false =>
          have eb : wayAt nms ws i = false := by rw [el]; unfold wayIn; rw [q, Bool.false_and]
          refine itT rfl ?_
          first | exact ⟨by decide, bad eb⟩ | exact bad eb
        | true =>
          obtain ⟨xs, rfl⟩ : ∃ xs, l = .tuple xs := by
            cases l with
            | tuple xs => exact ⟨xs, rfl⟩
            | _ => cases q
          refine itF (by simp) ?_
          have el2 : wayAt nms ws i = xs.all fun n => inD n nms := by
            rw [el]
            show (isWay (.tuple xs) && xs.all fun n => inD n nms) = _
            rw [q, Bool.true_and]
          have q2 : (!xs.isEmpty && xs.all isName && noAdj xs) = true := q
          rw [Bool.and_eq_true, Bool.and_eq_true] at q2
          have hnm := List.all_eq_true.mp q2.1.2
          have hlx := hlo.tup_len
          refine lcl_map (fun z => .bool (inD z nms)) _ (by rw [sizeLine_eq]; omega) (fun z m K1 k => ?_) ?_
          · obtain ⟨t, rfl⟩ := name_str (hnm z m)
            simp (config := { maxSteps := 10000000 }) only [tdSeq, tdNext, tdBreak, tdCont, tdDrop, tdRet, tdRetN, tdIfS, tdAsg, tdPar, tdOwn, tdParO, tdAppend, tdExtend, tdGive, giveD, tdVar, tdC, tdBin, tdTest, tdAndT, tdOrT, tdNotT, tdAndV, tdOrV, tdNotV, tdIf, tdChain, tdUn, tdNil, tdCons, tdTup, tdLst, tdLstF, tdCall, tdNoPart, tdPart, tdSl, tdFn, tdFnK, tdBinO, tdCallO, tdOwnIx, tdItems, tdRange, tdRange2, tdFor, tdLcF, tdLc, tdIsi, tdUpper, tdJoin, tdBack, tdZip, tdDictIx, tdGGet, tdGPut, tdOwnArg, gdName, gdNil, gdCons, gdTup, asD_d, asB_d, asI_d, asS_d, asG_g, isOwn_own, useV, look, startD, asAll, allD, Option.map_some, itemsD, List.map_cons, List.map_nil, List.length_cons, List.length_nil, List.set_cons_zero, List.set_cons_succ, List.cons_append, List.nil_append, wipeD, Nat.zero_add, Nat.reduceAdd, Nat.reduceSub, List.reduceReplicate, id_eq, rdAdd_ii, rdAdd_ss, rdAdd_tt, rdAdd_ll, rdMul_ii, rdII_ii, rdI0_ii, rdInt_i, rdGt_ii, rdGe_ii, rdLt_ii, rdLe_ii, rdLen_l, rdLen_t, rdEq_ii, rdNe_ii, rdEq_ss, rdNe_ss, keyD_s, Option.bind_some, Bool.false_eq_true, if_false, if_true, gv0, gv1, gv2, gv3, gp1, gp2, gp3, gs0, gl0]
            exact ⟨⟨rfl, hfl⟩, k⟩
          · simp only [rdBools, bools_of, asB_d]
            have e4 : (xs.map fun z => inD z nms).all id = xs.all fun n => inD n nms := by rw [List.all_map]; rfl
            rw [e4, ← el2]
            cases qa : wayAt nms ws i with
            | false =>
              refine itT rfl ?_
              first | exact ⟨by decide, bad qa⟩ | exact bad qa
            | true =>
              refine itF (by simp) (hnx _ _ ⟨_, _, rfl, rfl, fun j hj => ?_⟩)
              by_cases hj2 : j = i
              · rw [hj2]; exact qa
              · exact hall j (by omega)
      · rintro env G2 ⟨o1, o2, rfl, rfl, hall⟩
        rw [enumD_len, Nat.zero_add] at hall
        show R7 _ _
        rw [← h7]
        simp (config := { maxSteps := 10000000 }) only [tdSeq, tdNext, tdBreak, tdCont, tdDrop, tdRet, tdRetN, tdIfS, tdAsg, tdPar, tdOwn, tdParO, tdAppend, tdExtend, tdGive, giveD, tdVar, tdC, tdBin, tdTest, tdAndT, tdOrT, tdNotT, tdAndV, tdOrV, tdNotV, tdIf, tdChain, tdUn, tdNil, tdCons, tdTup, tdLst, tdLstF, tdCall, tdNoPart, tdPart, tdSl, tdFn, tdFnK, tdBinO, tdCallO, tdOwnIx, tdItems, tdRange, tdRange2, tdFor, tdLcF, tdLc, tdIsi, tdUpper, tdJoin, tdBack, tdZip, tdDictIx, tdGGet, tdGPut, tdOwnArg, gdName, gdNil, gdCons, gdTup, asD_d, asB_d, asI_d, asS_d, asG_g, isOwn_own, useV, look, startD, asAll, allD, Option.map_some, itemsD, List.map_cons, List.map_nil, List.length_cons, List.length_nil, List.set_cons_zero, List.set_cons_succ, List.cons_append, List.nil_append, wipeD, Nat.zero_add, Nat.reduceAdd, Nat.reduceSub, List.reduceReplicate, id_eq, rdAdd_ii, rdAdd_ss, rdAdd_tt, rdAdd_ll, rdMul_ii, rdII_ii, rdI0_ii, rdInt_i, rdGt_ii, rdGe_ii, rdLt_ii, rdLe_ii, rdLen_l, rdLen_t, rdEq_ii, rdNe_ii, rdEq_ss, rdNe_ss, keyD_s, Option.bind_some, Bool.false_eq_true, if_false, if_true, gv0, gv1, gv2, gv3, gp1, gp2, gp3, gs0, gl0]
        rw [firstBad_no hall] at h
        exact h
  | _ =>
    refine itT (by simp [isTy, isTyN, tyD]) ?_
    first | exact ⟨by decide, h⟩ | exact h
/-! ### floor_fault -/
abbrev N_floor_fault : List Str := ["thing", "fault"]
theorem sc_floor_fault : FnScope N_floor_fault ["thing"] (defScope s_floor_fault) := ⟨rfl, rfl, rfl, by decide +kernel, rfl, by decide +kernel, by decide +kernel⟩
theorem ok_floor_fault {f : Addr} {fd : FuncData} (Fn : L2.Fun K "floor_fault" "floor_fault" s_floor_fault f fd) (B : Bl mg) (M : Md mg) (c_is_pair : Cal pr w K mg base "is_pair" ["thing"] 1 ct_is_pair) (c_zones_fault : Cal pr w K mg base "zones_fault" ["zones"] 5 ct_zones_fault) (c_ways_fault : Cal pr w K mg base "ways_fault" ["zones", "ways"] 3 ct_ways_fault) : FnG pr w K mg base 6 f fd ["thing"] (lSp K ct_floor_fault) := by
  obtain ⟨_, _, g_is_pair, m_is_pair, k_is_pair, b_is_pair, kk_is_pair⟩ := c_is_pair.ex
  obtain ⟨_, _, g_zones_fault, m_zones_fault, k_zones_fault, b_zones_fault, kk_zones_fault⟩ := c_zones_fault.ex
  obtain ⟨_, _, g_ways_fault, m_ways_fault, k_ways_fault, b_ways_fault, kk_ways_fault⟩ := c_ways_fault.ex
  have hN := sc_floor_fault.nd
  refine FnG.data Fn sc_floor_fault _ (fun cdv A out s H F hK hr hgd => (dss_cons (ds_if (dt_not (dt_val (de_fn (g_is_pair.mono (by omega)) hr hgd hK m_is_pair k_is_pair b_is_pair (da_cons (de_var 0) da_nil)))) (dss_one (ds_ret (de_lit 40 rfl))) dss_nil)
      (dss_cons (ds_set (i := 1) hN (de_fn (g_zones_fault.mono (by omega)) hr hgd hK m_zones_fault k_zones_fault b_zones_fault (da_cons (de_ix ix_seq imp_ix (de_var 0) de_int) da_nil)))
      (dss_one (ds_ret (de_if (dt_cmp op_isN imp_isN (de_var 1) de_non) (de_fn (g_ways_fault.mono (by omega)) hr hgd hK m_ways_fault k_ways_fault b_ways_fault (da_cons (de_ix ix_seq imp_ix (de_var 0) de_int) (da_cons (de_ix ix_seq imp_ix (de_var 0) de_int) da_nil))) (de_var 1))))))) fun xs G Q h => ?_
  obtain ⟨d, rfl, hc, h⟩ := h
  refine ⟨rfl, ?_⟩
  have e0 : startD N_floor_fault.length [.d d] = [some (.d d), none] := rfl
  rw [e0]
  refine seq_out fun R hR => ?_
  simp (config := { maxSteps := 10000000 }) only [tdSeq, tdNext, tdBreak, tdCont, tdDrop, tdRet, tdRetN, tdIfS, tdAsg, tdPar, tdOwn, tdParO, tdAppend, tdExtend, tdGive, giveD, tdVar, tdC, tdBin, tdTest, tdAndT, tdOrT, tdNotT, tdAndV, tdOrV, tdNotV, tdIf, tdChain, tdUn, tdNil, tdCons, tdTup, tdLst, tdLstF, tdCall, tdNoPart, tdPart, tdSl, tdFn, tdFnK, tdBinO, tdCallO, tdOwnIx, tdItems, tdRange, tdRange2, tdFor, tdLcF, tdLc, tdIsi, tdUpper, tdJoin, tdBack, tdZip, tdDictIx, tdGGet, tdGPut, tdOwnArg, gdName, gdNil, gdCons, gdTup, asD_d, asB_d, asI_d, asS_d, asG_g, isOwn_own, useV, look, startD, asAll, allD, Option.map_some, itemsD, List.map_cons, List.map_nil, List.length_cons, List.length_nil, List.set_cons_zero, List.set_cons_succ, List.cons_append, List.nil_append, wipeD, Nat.zero_add, Nat.reduceAdd, Nat.reduceSub, List.reduceReplicate, id_eq, rdAdd_ii, rdAdd_ss, rdAdd_tt, rdAdd_ll, rdMul_ii, rdII_ii, rdI0_ii, rdInt_i, rdGt_ii, rdGe_ii, rdLt_ii, rdLe_ii, rdLen_l, rdLen_t, rdEq_ii, rdNe_ii, rdEq_ss, rdNe_ss, keyD_s, Option.bind_some, Bool.false_eq_true, if_false, if_true, gv0, gv1, gv2, gv3, gp1, gp2, gp3, gs0, gl0]
  refine ⟨d, rfl, trivial, ?_⟩
  simp only [asB_d]
  have no : isPair d = false → floorF d = .tuple [.str "shape", .int (-1)] := fun q => by
    unfold floorF
    split
    · cases q
    · rfl
  cases q : isPair d with
  | false =>
    rw [no q] at h
    first | exact itT rfl ⟨by decide, h⟩ | exact itT rfl h
  | true =>
    refine itF (by simp) ?_
    obtain ⟨x, y, rfl⟩ : ∃ x y, d = .tuple [x, y] := by
      cases d with
      | tuple ds =>
        have : ds.length = 2 := of_decide_eq_true q
        match ds, this with
        | [x, y], _ => exact ⟨x, y, rfl⟩
      | _ => cases q
    have h : Q (.d (orF (zonesF x) (waysF (namesOf x) y))) G := h
    have e1 : atI ([x, y] : List D) 0 = some x := rfl
    have e2 : atI ([x, y] : List D) 1 = some y := rfl
    rw [← hR]
    clear hR
    refine seq_out fun R2 h2 => ?_
    simp (config := { maxSteps := 10000000 }) only [tdSeq, tdNext, tdBreak, tdCont, tdDrop, tdRet, tdRetN, tdIfS, tdAsg, tdPar, tdOwn, tdParO, tdAppend, tdExtend, tdGive, giveD, tdVar, tdC, tdBin, tdTest, tdAndT, tdOrT, tdNotT, tdAndV, tdOrV, tdNotV, tdIf, tdChain, tdUn, tdNil, tdCons, tdTup, tdLst, tdLstF, tdCall, tdNoPart, tdPart, tdSl, tdFn, tdFnK, tdBinO, tdCallO, tdOwnIx, tdItems, tdRange, tdRange2, tdFor, tdLcF, tdLc, tdIsi, tdUpper, tdJoin, tdBack, tdZip, tdDictIx, tdGGet, tdGPut, tdOwnArg, gdName, gdNil, gdCons, gdTup, asD_d, asB_d, asI_d, asS_d, asG_g, isOwn_own, useV, look, startD, asAll, allD, Option.map_some, itemsD, List.map_cons, List.map_nil, List.length_cons, List.length_nil, List.set_cons_zero, List.set_cons_succ, List.cons_append, List.nil_append, wipeD, Nat.zero_add, Nat.reduceAdd, Nat.reduceSub, List.reduceReplicate, id_eq, rdAdd_ii, rdAdd_ss, rdAdd_tt, rdAdd_ll, rdMul_ii, rdII_ii, rdI0_ii, rdInt_i, rdGt_ii, rdGe_ii, rdLt_ii, rdLe_ii, rdLen_l, rdLen_t, rdEq_ii, rdNe_ii, rdEq_ss, rdNe_ss, keyD_s, Option.bind_some, Bool.false_eq_true, if_false, if_true, gv0, gv1, gv2, gv3, gp1, gp2, gp3, gs0, gl0, rdIx, e1]
    have hx := hc.tup_all x (by simp)
    refine ⟨x, rfl, hx, ?_⟩
    try simp (config := { maxSteps := 10000000 }) only [tdSeq, tdNext, tdBreak, tdCont, tdDrop, tdRet, tdRetN, tdIfS, tdAsg, tdPar, tdOwn, tdParO, tdAppend, tdExtend, tdGive, giveD, tdVar, tdC, tdBin, tdTest, tdAndT, tdOrT, tdNotT, tdAndV, tdOrV, tdNotV, tdIf, tdChain, tdUn, tdNil, tdCons, tdTup, tdLst, tdLstF, tdCall, tdNoPart, tdPart, tdSl, tdFn, tdFnK, tdBinO, tdCallO, tdOwnIx, tdItems, tdRange, tdRange2, tdFor, tdLcF, tdLc, tdIsi, tdUpper, tdJoin, tdBack, tdZip, tdDictIx, tdGGet, tdGPut, tdOwnArg, gdName, gdNil, gdCons, gdTup, asD_d, asB_d, asI_d, asS_d, asG_g, isOwn_own, useV, look, startD, asAll, allD, Option.map_some, itemsD, List.map_cons, List.map_nil, List.length_cons, List.length_nil, List.set_cons_zero, List.set_cons_succ, List.cons_append, List.nil_append, wipeD, Nat.zero_add, Nat.reduceAdd, Nat.reduceSub, List.reduceReplicate, id_eq, rdAdd_ii, rdAdd_ss, rdAdd_tt, rdAdd_ll, rdMul_ii, rdII_ii, rdI0_ii, rdInt_i, rdGt_ii, rdGe_ii, rdLt_ii, rdLe_ii, rdLen_l, rdLen_t, rdEq_ii, rdNe_ii, rdEq_ss, rdNe_ss, keyD_s, Option.bind_some, Bool.false_eq_true, if_false, if_true, gv0, gv1, gv2, gv3, gp1, gp2, gp3, gs0, gl0]
    rw [← h2]
    clear h2
    simp (config := { maxSteps := 10000000 }) only [tdSeq, tdNext, tdBreak, tdCont, tdDrop, tdRet, tdRetN, tdIfS, tdAsg, tdPar, tdOwn, tdParO, tdAppend, tdExtend, tdGive, giveD, tdVar, tdC, tdBin, tdTest, tdAndT, tdOrT, tdNotT, tdAndV, tdOrV, tdNotV, tdIf, tdChain, tdUn, tdNil, tdCons, tdTup, tdLst, tdLstF, tdCall, tdNoPart, tdPart, tdSl, tdFn, tdFnK, tdBinO, tdCallO, tdOwnIx, tdItems, tdRange, tdRange2, tdFor, tdLcF, tdLc, tdIsi, tdUpper, tdJoin, tdBack, tdZip, tdDictIx, tdGGet, tdGPut, tdOwnArg, gdName, gdNil, gdCons, gdTup, asD_d, asB_d, asI_d, asS_d, asG_g, isOwn_own, useV, look, startD, asAll, allD, Option.map_some, itemsD, List.map_cons, List.map_nil, List.length_cons, List.length_nil, List.set_cons_zero, List.set_cons_succ, List.cons_append, List.nil_append, wipeD, Nat.zero_add, Nat.reduceAdd, Nat.reduceSub, List.reduceReplicate, id_eq, rdAdd_ii, rdAdd_ss, rdAdd_tt, rdAdd_ll, rdMul_ii, rdII_ii, rdI0_ii, rdInt_i, rdGt_ii, rdGe_ii, rdLt_ii, rdLe_ii, rdLen_l, rdLen_t, rdEq_ii, rdNe_ii, rdEq_ss, rdNe_ss, keyD_s, Option.bind_some, Bool.false_eq_true, if_false, if_true, gv0, gv1, gv2, gv3, gp1, gp2, gp3, gs0, gl0, rdIsN, rdIx, e1, e2]
    refine ⟨rfl, ?_⟩
    rcases flt_zones hx with ez | ⟨w, k, ez, _⟩
    · rw [ez] at h ⊢
      obtain ⟨zs, rfl⟩ : ∃ zs, x = .tuple zs := by
        cases x with
        | tuple zs => exact ⟨zs, rfl⟩
        | _ => cases ez
      exact itT rfl ⟨zs, y, rfl, hx, zones_none ez, hc.tup_all y (by simp), h⟩
    · rw [ez] at h ⊢
      exact itF (by simp [DL.isNon]) h
/-! ### lets_floor -/
abbrev N_lets_floor : List Str := ["thing", "fault"]
theorem sc_lets_floor : FnScope N_lets_floor ["thing"] (defScope s_lets_floor) := ⟨rfl, rfl, rfl, by decide +kernel, rfl, by decide +kernel, by decide +kernel⟩
theorem ok_lets_floor {f : Addr} {fd : FuncData} (Fn : L2.Fun K "lets_floor" "lets_floor" s_lets_floor f fd) (B : Bl mg) (M : Md mg) (c_floor_fault : Cal pr w K mg base "floor_fault" ["thing"] 6 ct_floor_fault) {a_InvalidPaper fI_InvalidPaper cc_InvalidPaper cda_InvalidPaper : Addr} (T_InvalidPaper : ErrTxt pr K mg "InvalidPaper" a_InvalidPaper fI_InvalidPaper cc_InvalidPaper cda_InvalidPaper "word" "at") : FnX pr w K mg base 9 f fd ["thing"] (lSpX K mg ct_lets_floor) := by
  obtain ⟨_, _, g_floor_fault, m_floor_fault, k_floor_fault, b_floor_fault, kk_floor_fault⟩ := c_floor_fault.ex
  have hN := sc_lets_floor.nd
  refine FnX.data Fn sc_lets_floor _ (fun cdv A out s H F E W hK hr hgd tk => (dss_cons (ds_set (i := 1) hN (de_fn (g_floor_fault.mono (by omega)) hr hgd hK m_floor_fault k_floor_fault b_floor_fault (da_cons (de_var 0) da_nil)))
      (dss_cons (ds_if (dt_cmp op_notN imp_notN (de_var 1) de_non) (dss_one (ds_raise T_InvalidPaper hr tk (da_cons (de_ix ix_seq imp_ix (de_var 1) de_int) (da_cons (de_ix ix_seq imp_ix (de_var 1) de_int) da_nil)))) dss_nil)
      (dss_one (ds_ret (de_callB call_len imp_len B.len_ (da_cons (de_ix ix_seq imp_ix (de_var 0) de_int) da_nil))))))) fun xs G Q W h => ?_
  obtain ⟨d, rfl, hc, hw, h⟩ := h
  refine ⟨rfl, ?_⟩
  have e0 : startD N_lets_floor.length [.d d] = [some (.d d), none] := rfl
  rw [e0]
  refine seq_out fun R hR => ?_
  simp (config := { maxSteps := 10000000 }) only [tdSeq, tdNext, tdBreak, tdCont, tdDrop, tdRet, tdRetN, tdIfS, tdAsg, tdPar, tdOwn, tdParO, tdAppend, tdExtend, tdGive, giveD, tdVar, tdC, tdBin, tdTest, tdAndT, tdOrT, tdNotT, tdAndV, tdOrV, tdNotV, tdIf, tdChain, tdUn, tdNil, tdCons, tdTup, tdLst, tdLstF, tdCall, tdNoPart, tdPart, tdSl, tdFn, tdFnK, tdBinO, tdCallO, tdOwnIx, tdItems, tdRange, tdRange2, tdFor, tdLcF, tdLc, tdIsi, tdUpper, tdJoin, tdBack, tdZip, tdDictIx, tdGGet, tdGPut, tdOwnArg, gdName, gdNil, gdCons, gdTup, asD_d, asB_d, asI_d, asS_d, asG_g, isOwn_own, useV, look, startD, asAll, allD, Option.map_some, itemsD, List.map_cons, List.map_nil, List.length_cons, List.length_nil, List.set_cons_zero, List.set_cons_succ, List.cons_append, List.nil_append, wipeD, Nat.zero_add, Nat.reduceAdd, Nat.reduceSub, List.reduceReplicate, id_eq, rdAdd_ii, rdAdd_ss, rdAdd_tt, rdAdd_ll, rdMul_ii, rdII_ii, rdI0_ii, rdInt_i, rdGt_ii, rdGe_ii, rdLt_ii, rdLe_ii, rdLen_l, rdLen_t, rdEq_ii, rdNe_ii, rdEq_ss, rdNe_ss, keyD_s, Option.bind_some, Bool.false_eq_true, if_false, if_true, gv0, gv1, gv2, gv3, gp1, gp2, gp3, gs0, gl0]
  refine ⟨d, rfl, hc, ?_⟩
  try simp (config := { maxSteps := 10000000 }) only [tdSeq, tdNext, tdBreak, tdCont, tdDrop, tdRet, tdRetN, tdIfS, tdAsg, tdPar, tdOwn, tdParO, tdAppend, tdExtend, tdGive, giveD, tdVar, tdC, tdBin, tdTest, tdAndT, tdOrT, tdNotT, tdAndV, tdOrV, tdNotV, tdIf, tdChain, tdUn, tdNil, tdCons, tdTup, tdLst, tdLstF, tdCall, tdNoPart, tdPart, tdSl, tdFn, tdFnK, tdBinO, tdCallO, tdOwnIx, tdItems, tdRange, tdRange2, tdFor, tdLcF, tdLc, tdIsi, tdUpper, tdJoin, tdBack, tdZip, tdDictIx, tdGGet, tdGPut, tdOwnArg, gdName, gdNil, gdCons, gdTup, asD_d, asB_d, asI_d, asS_d, asG_g, isOwn_own, useV, look, startD, asAll, allD, Option.map_some, itemsD, List.map_cons, List.map_nil, List.length_cons, List.length_nil, List.set_cons_zero, List.set_cons_succ, List.cons_append, List.nil_append, wipeD, Nat.zero_add, Nat.reduceAdd, Nat.reduceSub, List.reduceReplicate, id_eq, rdAdd_ii, rdAdd_ss, rdAdd_tt, rdAdd_ll, rdMul_ii, rdII_ii, rdI0_ii, rdInt_i, rdGt_ii, rdGe_ii, rdLt_ii, rdLe_ii, rdLen_l, rdLen_t, rdEq_ii, rdNe_ii, rdEq_ss, rdNe_ss, keyD_s, Option.bind_some, Bool.false_eq_true, if_false, if_true, gv0, gv1, gv2, gv3, gp1, gp2, gp3, gs0, gl0]
  rw [← hR]
  clear hR
  refine seq_out fun R2 h2 => ?_
  simp (config := { maxSteps := 10000000 }) only [tdSeq, tdNext, tdBreak, tdCont, tdDrop, tdRet, tdRetN, tdIfS, tdAsg, tdPar, tdOwn, tdParO, tdAppend, tdExtend, tdGive, giveD, tdVar, tdC, tdBin, tdTest, tdAndT, tdOrT, tdNotT, tdAndV, tdOrV, tdNotV, tdIf, tdChain, tdUn, tdNil, tdCons, tdTup, tdLst, tdLstF, tdCall, tdNoPart, tdPart, tdSl, tdFn, tdFnK, tdBinO, tdCallO, tdOwnIx, tdItems, tdRange, tdRange2, tdFor, tdLcF, tdLc, tdIsi, tdUpper, tdJoin, tdBack, tdZip, tdDictIx, tdGGet, tdGPut, tdOwnArg, gdName, gdNil, gdCons, gdTup, asD_d, asB_d, asI_d, asS_d, asG_g, isOwn_own, useV, look, startD, asAll, allD, Option.map_some, itemsD, List.map_cons, List.map_nil, List.length_cons, List.length_nil, List.set_cons_zero, List.set_cons_succ, List.cons_append, List.nil_append, wipeD, Nat.zero_add, Nat.reduceAdd, Nat.reduceSub, List.reduceReplicate, id_eq, rdAdd_ii, rdAdd_ss, rdAdd_tt, rdAdd_ll, rdMul_ii, rdII_ii, rdI0_ii, rdInt_i, rdGt_ii, rdGe_ii, rdLt_ii, rdLe_ii, rdLen_l, rdLen_t, rdEq_ii, rdNe_ii, rdEq_ss, rdNe_ss, keyD_s, Option.bind_some, Bool.false_eq_true, if_false, if_true, gv0, gv1, gv2, gv3, gp1, gp2, gp3, gs0, gl0, rdNotN]
  refine ⟨rfl, ?_⟩
  try simp only [asB_d]
  rcases flt_floor hc with ez | ⟨w, k, ez, _⟩
  · have h := h ez
    rw [ez]
    refine itF (by simp [DL.isNon]) ?_
    rw [← h2]
    clear h2
    obtain ⟨a, b, rfl⟩ : ∃ a b, d = .tuple [a, b] := by
      unfold floorF at ez
      split at ez
      · exact ⟨_, _, rfl⟩
      · cases ez
    have ez : orF (zonesF a) (waysF (namesOf a) b) = .none := ez
    have eb : waysF (namesOf a) b = .none := by
      rcases flt_zones (hc.tup_all a (by simp)) with e | ⟨w, k, e, _⟩
      · rw [e] at ez; exact ez
      · rw [e] at ez; cases ez
    obtain ⟨ws, rfl⟩ : ∃ ws, b = .tuple ws := by
      cases b with
      | tuple ws => exact ⟨ws, rfl⟩
      | _ => cases eb
    have e1 : atI ([a, .tuple ws] : List D) 1 = some (.tuple ws) := rfl
    simp (config := { maxSteps := 10000000 }) only [tdSeq, tdNext, tdBreak, tdCont, tdDrop, tdRet, tdRetN, tdIfS, tdAsg, tdPar, tdOwn, tdParO, tdAppend, tdExtend, tdGive, giveD, tdVar, tdC, tdBin, tdTest, tdAndT, tdOrT, tdNotT, tdAndV, tdOrV, tdNotV, tdIf, tdChain, tdUn, tdNil, tdCons, tdTup, tdLst, tdLstF, tdCall, tdNoPart, tdPart, tdSl, tdFn, tdFnK, tdBinO, tdCallO, tdOwnIx, tdItems, tdRange, tdRange2, tdFor, tdLcF, tdLc, tdIsi, tdUpper, tdJoin, tdBack, tdZip, tdDictIx, tdGGet, tdGPut, tdOwnArg, gdName, gdNil, gdCons, gdTup, asD_d, asB_d, asI_d, asS_d, asG_g, isOwn_own, useV, look, startD, asAll, allD, Option.map_some, itemsD, List.map_cons, List.map_nil, List.length_cons, List.length_nil, List.set_cons_zero, List.set_cons_succ, List.cons_append, List.nil_append, wipeD, Nat.zero_add, Nat.reduceAdd, Nat.reduceSub, List.reduceReplicate, id_eq, rdAdd_ii, rdAdd_ss, rdAdd_tt, rdAdd_ll, rdMul_ii, rdII_ii, rdI0_ii, rdInt_i, rdGt_ii, rdGe_ii, rdLt_ii, rdLe_ii, rdLen_l, rdLen_t, rdEq_ii, rdNe_ii, rdEq_ss, rdNe_ss, keyD_s, Option.bind_some, Bool.false_eq_true, if_false, if_true, gv0, gv1, gv2, gv3, gp1, gp2, gp3, gs0, gl0, rdIx, e1]
    exact h
  · have hw := hw w k ez
    rw [ez]
    refine itT (by simp [DL.isNon]) ?_
    simp (config := { maxSteps := 10000000 }) only [tdSeq, tdNext, tdBreak, tdCont, tdDrop, tdRet, tdRetN, tdIfS, tdAsg, tdPar, tdOwn, tdParO, tdAppend, tdExtend, tdGive, giveD, tdVar, tdC, tdBin, tdTest, tdAndT, tdOrT, tdNotT, tdAndV, tdOrV, tdNotV, tdIf, tdChain, tdUn, tdNil, tdCons, tdTup, tdLst, tdLstF, tdCall, tdNoPart, tdPart, tdSl, tdFn, tdFnK, tdBinO, tdCallO, tdOwnIx, tdItems, tdRange, tdRange2, tdFor, tdLcF, tdLc, tdIsi, tdUpper, tdJoin, tdBack, tdZip, tdDictIx, tdGGet, tdGPut, tdOwnArg, gdName, gdNil, gdCons, gdTup, asD_d, asB_d, asI_d, asS_d, asG_g, isOwn_own, useV, look, startD, asAll, allD, Option.map_some, itemsD, List.map_cons, List.map_nil, List.length_cons, List.length_nil, List.set_cons_zero, List.set_cons_succ, List.cons_append, List.nil_append, wipeD, Nat.zero_add, Nat.reduceAdd, Nat.reduceSub, List.reduceReplicate, id_eq, rdAdd_ii, rdAdd_ss, rdAdd_tt, rdAdd_ll, rdMul_ii, rdII_ii, rdI0_ii, rdInt_i, rdGt_ii, rdGe_ii, rdLt_ii, rdLe_ii, rdLen_l, rdLen_t, rdEq_ii, rdNe_ii, rdEq_ss, rdNe_ss, keyD_s, Option.bind_some, Bool.false_eq_true, if_false, if_true, gv0, gv1, gv2, gv3, gp1, gp2, gp3, gs0, gl0, tdRaise, rdIx]
    exact hw
/-! ### want -/
abbrev N_want : List Str := ["is_right", "word", "at"]
theorem sc_want : FnScope N_want ["is_right", "word", "at"] (defScope s_want) := ⟨rfl, rfl, rfl, by decide +kernel, rfl, by decide +kernel, by decide +kernel⟩
theorem ok_want {f : Addr} {fd : FuncData} (Fn : FunD K "want" "want" (defArgs s_want) (defBody s_want) (defScope s_want) [V.int (-1)] [] f fd) (B : Bl mg) (M : Md mg) {a_NotUsable fI_NotUsable cc_NotUsable cda_NotUsable : Addr} (T_NotUsable : ErrTxt pr K mg "NotUsable" a_NotUsable fI_NotUsable cc_NotUsable cda_NotUsable "word" "at") : FnX pr w K mg base 3 f fd ["is_right", "word", "at"] (lSpX K mg ct_want) := by
  have hN := sc_want.nd
  refine FnX.dataD Fn sc_want _ (fun cdv A out s H F E W hK hr hgd tk => (dss_one (ds_if (dt_not (dt_val (de_var 0))) (dss_one (ds_raise T_NotUsable hr tk (da_cons (de_var 1) (da_cons (de_var 2) da_nil)))) dss_nil))) fun xs G Q W h => ?_
  obtain ⟨b, w, d, rfl, h1, h2⟩ := h
  refine ⟨rfl, ?_⟩
  have e0 : startD N_want.length [.d (.bool b), .d (.str w), .d d] = [some (.d (.bool b)), some (.d (.str w)), some (.d d)] := rfl
  rw [e0]
  simp (config := { maxSteps := 10000000 }) only [tdSeq, tdNext, tdBreak, tdCont, tdDrop, tdRet, tdRetN, tdIfS, tdAsg, tdPar, tdOwn, tdParO, tdAppend, tdExtend, tdGive, giveD, tdVar, tdC, tdBin, tdTest, tdAndT, tdOrT, tdNotT, tdAndV, tdOrV, tdNotV, tdIf, tdChain, tdUn, tdNil, tdCons, tdTup, tdLst, tdLstF, tdCall, tdNoPart, tdPart, tdSl, tdFn, tdFnK, tdBinO, tdCallO, tdOwnIx, tdItems, tdRange, tdRange2, tdFor, tdLcF, tdLc, tdIsi, tdUpper, tdJoin, tdBack, tdZip, tdDictIx, tdGGet, tdGPut, tdOwnArg, gdName, gdNil, gdCons, gdTup, asD_d, asB_d, asI_d, asS_d, asG_g, isOwn_own, useV, look, startD, asAll, allD, Option.map_some, itemsD, List.map_cons, List.map_nil, List.length_cons, List.length_nil, List.set_cons_zero, List.set_cons_succ, List.cons_append, List.nil_append, wipeD, Nat.zero_add, Nat.reduceAdd, Nat.reduceSub, List.reduceReplicate, id_eq, rdAdd_ii, rdAdd_ss, rdAdd_tt, rdAdd_ll, rdMul_ii, rdII_ii, rdI0_ii, rdInt_i, rdGt_ii, rdGe_ii, rdLt_ii, rdLe_ii, rdLen_l, rdLen_t, rdEq_ii, rdNe_ii, rdEq_ss, rdNe_ss, keyD_s, Option.bind_some, Bool.false_eq_true, if_false, if_true, gv0, gv1, gv2, gv3, gp1, gp2, gp3, gs0, gl0, tdRaise]
  cases b with
  | true => exact itF (by simp) (h1 rfl)
  | false => exact itT rfl (h2 rfl)
/-! ### is_zone_of -/
abbrev N_is_zone_of : List Str := ["floor", "thing", "name", "places"]
theorem sc_is_zone_of : FnScope N_is_zone_of ["floor", "thing"] (defScope s_is_zone_of) := ⟨rfl, rfl, rfl, by decide +kernel, rfl, by decide +kernel, by decide +kernel⟩
theorem ok_is_zone_of {f : Addr} {fd : FuncData} (Fn : L2.Fun K "is_zone_of" "is_zone_of" s_is_zone_of f fd) (B : Bl mg) (M : Md mg) : FnG pr w K mg base 1 f fd ["floor", "thing"] (lSp K ct_is_zone_of) := by
  have hN := sc_is_zone_of.nd
  refine FnG.data Fn sc_is_zone_of _ (fun cdv A out s H F hK hr hgd => (dss_one (ds_ret (de_and (de_isi ok_str B.isinstance_ B.str_ (de_var 1)) (de_one (de_cmp op_inR imp_in (de_var 1) (de_fresh (df_lc (own := [("name", 2), ("places", 3)]) rfl hN (di_items (de_ix ix_seq imp_ix (de_var 0) de_int)) (blk_of (N := N_is_zone_of) (sc := defScope s_is_zone_of) rfl rfl (by decide +kernel)) (fun _ _ _ _ _ => (dg_tup (n := 2) rfl (dgs_cons (dg_name (i := 2) hN) (dgs_cons (dg_name (i := 3) hN) dgs_nil)))) (fun _ _ _ _ _ => dts_nil) (fun _ _ _ _ _ => (de_var 2)))))))))) fun xs G Q h => ?_
  obtain ⟨f, d, rfl, hf, h⟩ := h
  refine ⟨rfl, ?_⟩
  obtain ⟨zs, ws, rfl, hzs, hk⟩ := floor_inv hf
  have e0 : startD N_is_zone_of.length [.d (.tuple [.tuple zs, .tuple ws]), .d d] = [some (.d (.tuple [.tuple zs, .tuple ws])), some (.d d), none, none] := rfl
  rw [e0]
  have f0 : atI ([.tuple zs, .tuple ws] : List D) 0 = some (.tuple zs) := rfl
  simp (config := { maxSteps := 10000000 }) only [tdSeq, tdNext, tdBreak, tdCont, tdDrop, tdRet, tdRetN, tdIfS, tdAsg, tdPar, tdOwn, tdParO, tdAppend, tdExtend, tdGive, giveD, tdVar, tdC, tdBin, tdTest, tdAndT, tdOrT, tdNotT, tdAndV, tdOrV, tdNotV, tdIf, tdChain, tdUn, tdNil, tdCons, tdTup, tdLst, tdLstF, tdCall, tdNoPart, tdPart, tdSl, tdFn, tdFnK, tdBinO, tdCallO, tdOwnIx, tdItems, tdRange, tdRange2, tdFor, tdLcF, tdLc, tdIsi, tdUpper, tdJoin, tdBack, tdZip, tdDictIx, tdGGet, tdGPut, tdOwnArg, gdName, gdNil, gdCons, gdTup, asD_d, asB_d, asI_d, asS_d, asG_g, isOwn_own, useV, look, startD, asAll, allD, Option.map_some, itemsD, List.map_cons, List.map_nil, List.length_cons, List.length_nil, List.set_cons_zero, List.set_cons_succ, List.cons_append, List.nil_append, wipeD, Nat.zero_add, Nat.reduceAdd, Nat.reduceSub, List.reduceReplicate, id_eq, rdAdd_ii, rdAdd_ss, rdAdd_tt, rdAdd_ll, rdMul_ii, rdII_ii, rdI0_ii, rdInt_i, rdGt_ii, rdGe_ii, rdLt_ii, rdLe_ii, rdLen_l, rdLen_t, rdEq_ii, rdNe_ii, rdEq_ss, rdNe_ss, keyD_s, Option.bind_some, Bool.false_eq_true, if_false, if_true, gv0, gv1, gv2, gv3, gp1, gp2, gp3, gs0, gl0, rdIx, f0]
  have h : Q (.d (.bool (isTy "str" d && inD d (zs.map nameOf)))) G := h
  have hzl := (hk.tup_all (.tuple zs) (by simp)).tup_len
  cases q : isTy "str" d with
  | false => rw [q] at h; exact itF (by simp) h
  | true =>
    rw [q, Bool.true_and] at h
    obtain ⟨t, rfl⟩ := str_of q
    refine itT rfl ?_
    refine lcl_map nameOf _ (by rw [sizeLine_eq]; omega) (fun z m K1 k => ?_) ?_
    · obtain ⟨a, i, rfl⟩ := zone_inv (hzs z m)
      simp only [gdTup, gdCons, gdName, gdNil, itemsD, List.set_cons_zero, List.set_cons_succ]
      refine ⟨rfl, ?_⟩
      simp only [tdVar, useV, look, asD_d, List.getElem?_cons_zero, List.getElem?_cons_succ, Option.map_some]
      exact k
    · exact ⟨⟨rfl, names_flat hzs⟩, h⟩
/-! ### is_way_of -/
abbrev N_is_way_of : List Str := ["floor", "thing"]
theorem sc_is_way_of : FnScope N_is_way_of ["floor", "thing"] (defScope s_is_way_of) := ⟨rfl, rfl, rfl, by decide +kernel, rfl, by decide +kernel, by decide +kernel⟩
theorem ok_is_way_of {f : Addr} {fd : FuncData} (Fn : L2.Fun K "is_way_of" "is_way_of" s_is_way_of f fd) (B : Bl mg) (M : Md mg) (c_is_number : Cal pr w K mg base "is_number" ["thing"] 2 ct_is_number) : FnG pr w K mg base 3 f fd ["floor", "thing"] (lSp K ct_is_way_of) := by
  obtain ⟨_, _, g_is_number, m_is_number, k_is_number, b_is_number, kk_is_number⟩ := c_is_number.ex
  have hN := sc_is_way_of.nd
  refine FnG.data Fn sc_is_way_of _ (fun cdv A out s H F hK hr hgd => (dss_one (ds_ret (de_and (de_fn (g_is_number.mono (by omega)) hr hgd hK m_is_number k_is_number b_is_number (da_cons (de_var 1) da_nil)) (de_one (de_cmp op_ltR imp_lt (de_var 1) (de_callB call_len imp_len B.len_ (da_cons (de_ix ix_seq imp_ix (de_var 0) de_int) da_nil)))))))) fun xs G Q h => ?_
  obtain ⟨f, d, rfl, hf, h⟩ := h
  refine ⟨rfl, ?_⟩
  obtain ⟨zs, ws, rfl, hzs, hk⟩ := floor_inv hf
  have e0 : startD N_is_way_of.length [.d (.tuple [.tuple zs, .tuple ws]), .d d] = [some (.d (.tuple [.tuple zs, .tuple ws])), some (.d d)] := rfl
  rw [e0]
  have f1 : atI ([.tuple zs, .tuple ws] : List D) 1 = some (.tuple ws) := rfl
  simp (config := { maxSteps := 10000000 }) only [tdSeq, tdNext, tdBreak, tdCont, tdDrop, tdRet, tdRetN, tdIfS, tdAsg, tdPar, tdOwn, tdParO, tdAppend, tdExtend, tdGive, giveD, tdVar, tdC, tdBin, tdTest, tdAndT, tdOrT, tdNotT, tdAndV, tdOrV, tdNotV, tdIf, tdChain, tdUn, tdNil, tdCons, tdTup, tdLst, tdLstF, tdCall, tdNoPart, tdPart, tdSl, tdFn, tdFnK, tdBinO, tdCallO, tdOwnIx, tdItems, tdRange, tdRange2, tdFor, tdLcF, tdLc, tdIsi, tdUpper, tdJoin, tdBack, tdZip, tdDictIx, tdGGet, tdGPut, tdOwnArg, gdName, gdNil, gdCons, gdTup, asD_d, asB_d, asI_d, asS_d, asG_g, isOwn_own, useV, look, startD, asAll, allD, Option.map_some, itemsD, List.map_cons, List.map_nil, List.length_cons, List.length_nil, List.set_cons_zero, List.set_cons_succ, List.cons_append, List.nil_append, wipeD, Nat.zero_add, Nat.reduceAdd, Nat.reduceSub, List.reduceReplicate, id_eq, rdAdd_ii, rdAdd_ss, rdAdd_tt, rdAdd_ll, rdMul_ii, rdII_ii, rdI0_ii, rdInt_i, rdGt_ii, rdGe_ii, rdLt_ii, rdLe_ii, rdLen_l, rdLen_t, rdEq_ii, rdNe_ii, rdEq_ss, rdNe_ss, keyD_s, Option.bind_some, Bool.false_eq_true, if_false, if_true, gv0, gv1, gv2, gv3, gp1, gp2, gp3, gs0, gl0, rdIx, f1]
  refine ⟨d, rfl, trivial, ?_⟩
  simp only [asB_d]
  cases d with
  | int i =>
    have h : Q (.d (.bool (decide (0 ≤ i) && decide (i < (ws.length : Nat))))) G := h
    by_cases h0 : 0 ≤ i
    · refine itT (decide_eq_true h0) ?_
      rw [decide_eq_true h0, Bool.true_and] at h
      simp only [rdLen_t, rdLt_ii]
      exact h
    · refine itF (by simpa [isNumber] using h0) ?_
      rw [decide_eq_false h0, Bool.false_and] at h
      exact h
  | _ => exact itF (by simp [isNumber]) h
/-! ### want_floor -/
abbrev N_want_floor : List Str := ["floor"]
theorem sc_want_floor : FnScope N_want_floor ["floor"] (defScope s_want_floor) := ⟨rfl, rfl, rfl, by decide +kernel, rfl, by decide +kernel, by decide +kernel⟩
theorem ok_want_floor {f : Addr} {fd : FuncData} (Fn : L2.Fun K "want_floor" "want_floor" s_want_floor f fd) (B : Bl mg) (M : Md mg) (c_floor_fault : Cal pr w K mg base "floor_fault" ["thing"] 6 ct_floor_fault) (x_want : CalXD pr w K mg base "want" ["is_right", "word", "at"] 3 ct_want [V.int (-1)]) : FnX pr w K mg base 9 f fd ["floor"] (lSpX K mg ct_want_floor) := by
  obtain ⟨_, _, g_floor_fault, m_floor_fault, k_floor_fault, b_floor_fault, kk_floor_fault⟩ := c_floor_fault.ex
  obtain ⟨_, _, g_want, m_want, k_want, b_want, _, dv_want, bd_want⟩ := x_want.ex
  have hN := sc_want_floor.nd
  refine FnX.data Fn sc_want_floor _ (fun cdv A out s H F E W hK hr hgd tk => (dss_one (ds_expr (de_fnX (ds := [.int (-1)]) (g_want.mono (by omega)) tk hr hgd hK m_want k_want bd_want dv_want rfl (da_cons (de_cmp op_isN imp_isN (de_fn (g_floor_fault.mono (by omega)) hr hgd hK m_floor_fault k_floor_fault b_floor_fault (da_cons (de_var 0) da_nil)) de_non) (da_cons de_str da_nil)))))) fun xs G Q W h => ?_
  obtain ⟨d, rfl, hc, h1, h2⟩ := h
  refine ⟨rfl, ?_⟩
  have e0 : startD N_want_floor.length [.d d] = [some (.d d)] := rfl
  rw [e0]
  simp (config := { maxSteps := 10000000 }) only [tdSeq, tdNext, tdBreak, tdCont, tdDrop, tdRet, tdRetN, tdIfS, tdAsg, tdPar, tdOwn, tdParO, tdAppend, tdExtend, tdGive, giveD, tdVar, tdC, tdBin, tdTest, tdAndT, tdOrT, tdNotT, tdAndV, tdOrV, tdNotV, tdIf, tdChain, tdUn, tdNil, tdCons, tdTup, tdLst, tdLstF, tdCall, tdNoPart, tdPart, tdSl, tdFn, tdFnK, tdBinO, tdCallO, tdOwnIx, tdItems, tdRange, tdRange2, tdFor, tdLcF, tdLc, tdIsi, tdUpper, tdJoin, tdBack, tdZip, tdDictIx, tdGGet, tdGPut, tdOwnArg, gdName, gdNil, gdCons, gdTup, asD_d, asB_d, asI_d, asS_d, asG_g, isOwn_own, useV, look, startD, asAll, allD, Option.map_some, itemsD, List.map_cons, List.map_nil, List.length_cons, List.length_nil, List.set_cons_zero, List.set_cons_succ, List.cons_append, List.nil_append, wipeD, Nat.zero_add, Nat.reduceAdd, Nat.reduceSub, List.reduceReplicate, id_eq, rdAdd_ii, rdAdd_ss, rdAdd_tt, rdAdd_ll, rdMul_ii, rdII_ii, rdI0_ii, rdInt_i, rdGt_ii, rdGe_ii, rdLt_ii, rdLe_ii, rdLen_l, rdLen_t, rdEq_ii, rdNe_ii, rdEq_ss, rdNe_ss, keyD_s, Option.bind_some, Bool.false_eq_true, if_false, if_true, gv0, gv1, gv2, gv3, gp1, gp2, gp3, gs0, gl0, tdFnX, List.map_cons, List.map_nil]
  refine ⟨d, rfl, hc, ?_⟩
  simp (config := { maxSteps := 10000000 }) only [tdSeq, tdNext, tdBreak, tdCont, tdDrop, tdRet, tdRetN, tdIfS, tdAsg, tdPar, tdOwn, tdParO, tdAppend, tdExtend, tdGive, giveD, tdVar, tdC, tdBin, tdTest, tdAndT, tdOrT, tdNotT, tdAndV, tdOrV, tdNotV, tdIf, tdChain, tdUn, tdNil, tdCons, tdTup, tdLst, tdLstF, tdCall, tdNoPart, tdPart, tdSl, tdFn, tdFnK, tdBinO, tdCallO, tdOwnIx, tdItems, tdRange, tdRange2, tdFor, tdLcF, tdLc, tdIsi, tdUpper, tdJoin, tdBack, tdZip, tdDictIx, tdGGet, tdGPut, tdOwnArg, gdName, gdNil, gdCons, gdTup, asD_d, asB_d, asI_d, asS_d, asG_g, isOwn_own, useV, look, startD, asAll, allD, Option.map_some, itemsD, List.map_cons, List.map_nil, List.length_cons, List.length_nil, List.set_cons_zero, List.set_cons_succ, List.cons_append, List.nil_append, wipeD, Nat.zero_add, Nat.reduceAdd, Nat.reduceSub, List.reduceReplicate, id_eq, rdAdd_ii, rdAdd_ss, rdAdd_tt, rdAdd_ll, rdMul_ii, rdII_ii, rdI0_ii, rdInt_i, rdGt_ii, rdGe_ii, rdLt_ii, rdLe_ii, rdLen_l, rdLen_t, rdEq_ii, rdNe_ii, rdEq_ss, rdNe_ss, keyD_s, Option.bind_some, Bool.false_eq_true, if_false, if_true, gv0, gv1, gv2, gv3, gp1, gp2, gp3, gs0, gl0, rdIsN]
  refine ⟨rfl, _, _, _, rfl, fun e => ?_, fun e => ?_⟩
  · exact h1 (DL.non_of e)
  · exact h2 fun z => by rw [z] at e; cases e
/-! ### want_zone -/
abbrev N_want_zone : List Str := ["floor", "zone"]
theorem sc_want_zone : FnScope N_want_zone ["floor", "zone"] (defScope s_want_zone) := ⟨rfl, rfl, rfl, by decide +kernel, rfl, by decide +kernel, by decide +kernel⟩
theorem ok_want_zone {f : Addr} {fd : FuncData} (Fn : L2.Fun K "want_zone" "want_zone" s_want_zone f fd) (B : Bl mg) (M : Md mg) (c_is_zone_of : Cal pr w K mg base "is_zone_of" ["floor", "thing"] 1 ct_is_zone_of) (x_want : CalXD pr w K mg base "want" ["is_right", "word", "at"] 3 ct_want [V.int (-1)]) : FnX pr w K mg base 6 f fd ["floor", "zone"] (lSpX K mg ct_want_zone) := by
  obtain ⟨_, _, g_is_zone_of, m_is_zone_of, k_is_zone_of, b_is_zone_of, kk_is_zone_of⟩ := c_is_zone_of.ex
  obtain ⟨_, _, g_want, m_want, k_want, b_want, _, dv_want, bd_want⟩ := x_want.ex
  have hN := sc_want_zone.nd
  refine FnX.data Fn sc_want_zone _ (fun cdv A out s H F E W hK hr hgd tk => (dss_one (ds_expr (de_fnX (ds := []) (g_want.mono (by omega)) tk hr hgd hK m_want k_want b_want .nil rfl (da_cons (de_fn (g_is_zone_of.mono (by omega)) hr hgd hK m_is_zone_of k_is_zone_of b_is_zone_of (da_cons (de_var 0) (da_cons (de_var 1) da_nil))) (da_cons de_str (da_cons (de_var 1) da_nil))))))) fun xs G Q W h => ?_
  obtain ⟨f, d, rfl, hf, h1, h2⟩ := h
  refine ⟨rfl, ?_⟩
  have e0 : startD N_want_zone.length [.d f, .d d] = [some (.d f), some (.d d)] := rfl
  rw [e0]
  simp (config := { maxSteps := 10000000 }) only [tdSeq, tdNext, tdBreak, tdCont, tdDrop, tdRet, tdRetN, tdIfS, tdAsg, tdPar, tdOwn, tdParO, tdAppend, tdExtend, tdGive, giveD, tdVar, tdC, tdBin, tdTest, tdAndT, tdOrT, tdNotT, tdAndV, tdOrV, tdNotV, tdIf, tdChain, tdUn, tdNil, tdCons, tdTup, tdLst, tdLstF, tdCall, tdNoPart, tdPart, tdSl, tdFn, tdFnK, tdBinO, tdCallO, tdOwnIx, tdItems, tdRange, tdRange2, tdFor, tdLcF, tdLc, tdIsi, tdUpper, tdJoin, tdBack, tdZip, tdDictIx, tdGGet, tdGPut, tdOwnArg, gdName, gdNil, gdCons, gdTup, asD_d, asB_d, asI_d, asS_d, asG_g, isOwn_own, useV, look, startD, asAll, allD, Option.map_some, itemsD, List.map_cons, List.map_nil, List.length_cons, List.length_nil, List.set_cons_zero, List.set_cons_succ, List.cons_append, List.nil_append, wipeD, Nat.zero_add, Nat.reduceAdd, Nat.reduceSub, List.reduceReplicate, id_eq, rdAdd_ii, rdAdd_ss, rdAdd_tt, rdAdd_ll, rdMul_ii, rdII_ii, rdI0_ii, rdInt_i, rdGt_ii, rdGe_ii, rdLt_ii, rdLe_ii, rdLen_l, rdLen_t, rdEq_ii, rdNe_ii, rdEq_ss, rdNe_ss, keyD_s, Option.bind_some, Bool.false_eq_true, if_false, if_true, gv0, gv1, gv2, gv3, gp1, gp2, gp3, gs0, gl0, tdFnX, List.map_cons, List.map_nil]
  refine ⟨f, d, rfl, hf, ?_⟩
  simp (config := { maxSteps := 10000000 }) only [tdSeq, tdNext, tdBreak, tdCont, tdDrop, tdRet, tdRetN, tdIfS, tdAsg, tdPar, tdOwn, tdParO, tdAppend, tdExtend, tdGive, giveD, tdVar, tdC, tdBin, tdTest, tdAndT, tdOrT, tdNotT, tdAndV, tdOrV, tdNotV, tdIf, tdChain, tdUn, tdNil, tdCons, tdTup, tdLst, tdLstF, tdCall, tdNoPart, tdPart, tdSl, tdFn, tdFnK, tdBinO, tdCallO, tdOwnIx, tdItems, tdRange, tdRange2, tdFor, tdLcF, tdLc, tdIsi, tdUpper, tdJoin, tdBack, tdZip, tdDictIx, tdGGet, tdGPut, tdOwnArg, gdName, gdNil, gdCons, gdTup, asD_d, asB_d, asI_d, asS_d, asG_g, isOwn_own, useV, look, startD, asAll, allD, Option.map_some, itemsD, List.map_cons, List.map_nil, List.length_cons, List.length_nil, List.set_cons_zero, List.set_cons_succ, List.cons_append, List.nil_append, wipeD, Nat.zero_add, Nat.reduceAdd, Nat.reduceSub, List.reduceReplicate, id_eq, rdAdd_ii, rdAdd_ss, rdAdd_tt, rdAdd_ll, rdMul_ii, rdII_ii, rdI0_ii, rdInt_i, rdGt_ii, rdGe_ii, rdLt_ii, rdLe_ii, rdLen_l, rdLen_t, rdEq_ii, rdNe_ii, rdEq_ss, rdNe_ss, keyD_s, Option.bind_some, Bool.false_eq_true, if_false, if_true, gv0, gv1, gv2, gv3, gp1, gp2, gp3, gs0, gl0]
  exact ⟨_, _, _, rfl, h1, h2⟩
/-! ### want_way -/
abbrev N_want_way : List Str := ["floor", "way"]
theorem sc_want_way : FnScope N_want_way ["floor", "way"] (defScope s_want_way) := ⟨rfl, rfl, rfl, by decide +kernel, rfl, by decide +kernel, by decide +kernel⟩
theorem ok_want_way {f : Addr} {fd : FuncData} (Fn : L2.Fun K "want_way" "want_way" s_want_way f fd) (B : Bl mg) (M : Md mg) (c_is_way_of : Cal pr w K mg base "is_way_of" ["floor", "thing"] 3 ct_is_way_of) (x_want : CalXD pr w K mg base "want" ["is_right", "word", "at"] 3 ct_want [V.int (-1)]) : FnX pr w K mg base 6 f fd ["floor", "way"] (lSpX K mg ct_want_way) := by
  obtain ⟨_, _, g_is_way_of, m_is_way_of, k_is_way_of, b_is_way_of, kk_is_way_of⟩ := c_is_way_of.ex
  obtain ⟨_, _, g_want, m_want, k_want, b_want, _, dv_want, bd_want⟩ := x_want.ex
  have hN := sc_want_way.nd
  refine FnX.data Fn sc_want_way _ (fun cdv A out s H F E W hK hr hgd tk => (dss_one (ds_expr (de_fnX (ds := []) (g_want.mono (by omega)) tk hr hgd hK m_want k_want b_want .nil rfl (da_cons (de_fn (g_is_way_of.mono (by omega)) hr hgd hK m_is_way_of k_is_way_of b_is_way_of (da_cons (de_var 0) (da_cons (de_var 1) da_nil))) (da_cons de_str (da_cons (de_var 1) da_nil))))))) fun xs G Q W h => ?_
  obtain ⟨f, d, rfl, hf, h1, h2⟩ := h
  refine ⟨rfl, ?_⟩
  have e0 : startD N_want_way.length [.d f, .d d] = [some (.d f), some (.d d)] := rfl
  rw [e0]
  simp (config := { maxSteps := 10000000 }) only [tdSeq, tdNext, tdBreak, tdCont, tdDrop, tdRet, tdRetN, tdIfS, tdAsg, tdPar, tdOwn, tdParO, tdAppend, tdExtend, tdGive, giveD, tdVar, tdC, tdBin, tdTest, tdAndT, tdOrT, tdNotT, tdAndV, tdOrV, tdNotV, tdIf, tdChain, tdUn, tdNil, tdCons, tdTup, tdLst, tdLstF, tdCall, tdNoPart, tdPart, tdSl, tdFn, tdFnK, tdBinO, tdCallO, tdOwnIx, tdItems, tdRange, tdRange2, tdFor, tdLcF, tdLc, tdIsi, tdUpper, tdJoin, tdBack, tdZip, tdDictIx, tdGGet, tdGPut, tdOwnArg, gdName, gdNil, gdCons, gdTup, asD_d, asB_d, asI_d, asS_d, asG_g, isOwn_own, useV, look, startD, asAll, allD, Option.map_some, itemsD, List.map_cons, List.map_nil, List.length_cons, List.length_nil, List.set_cons_zero, List.set_cons_succ, List.cons_append, List.nil_append, wipeD, Nat.zero_add, Nat.reduceAdd, Nat.reduceSub, List.reduceReplicate, id_eq, rdAdd_ii, rdAdd_ss, rdAdd_tt, rdAdd_ll, rdMul_ii, rdII_ii, rdI0_ii, rdInt_i, rdGt_ii, rdGe_ii, rdLt_ii, rdLe_ii, rdLen_l, rdLen_t, rdEq_ii, rdNe_ii, rdEq_ss, rdNe_ss, keyD_s, Option.bind_some, Bool.false_eq_true, if_false, if_true, gv0, gv1, gv2, gv3, gp1, gp2, gp3, gs0, gl0, tdFnX, List.map_cons, List.map_nil]
  refine ⟨f, d, rfl, hf, ?_⟩
  simp (config := { maxSteps := 10000000 }) only [tdSeq, tdNext, tdBreak, tdCont, tdDrop, tdRet, tdRetN, tdIfS, tdAsg, tdPar, tdOwn, tdParO, tdAppend, tdExtend, tdGive, giveD, tdVar, tdC, tdBin, tdTest, tdAndT, tdOrT, tdNotT, tdAndV, tdOrV, tdNotV, tdIf, tdChain, tdUn, tdNil, tdCons, tdTup, tdLst, tdLstF, tdCall, tdNoPart, tdPart, tdSl, tdFn, tdFnK, tdBinO, tdCallO, tdOwnIx, tdItems, tdRange, tdRange2, tdFor, tdLcF, tdLc, tdIsi, tdUpper, tdJoin, tdBack, tdZip, tdDictIx, tdGGet, tdGPut, tdOwnArg, gdName, gdNil, gdCons, gdTup, asD_d, asB_d, asI_d, asS_d, asG_g, isOwn_own, useV, look, startD, asAll, allD, Option.map_some, itemsD, List.map_cons, List.map_nil, List.length_cons, List.length_nil, List.set_cons_zero, List.set_cons_succ, List.cons_append, List.nil_append, wipeD, Nat.zero_add, Nat.reduceAdd, Nat.reduceSub, List.reduceReplicate, id_eq, rdAdd_ii, rdAdd_ss, rdAdd_tt, rdAdd_ll, rdMul_ii, rdII_ii, rdI0_ii, rdInt_i, rdGt_ii, rdGe_ii, rdLt_ii, rdLe_ii, rdLen_l, rdLen_t, rdEq_ii, rdNe_ii, rdEq_ss, rdNe_ss, keyD_s, Option.bind_some, Bool.false_eq_true, if_false, if_true, gv0, gv1, gv2, gv3, gp1, gp2, gp3, gs0, gl0]
  exact ⟨_, _, _, rfl, h1, h2⟩
/-! ### with_places -/
abbrev N_with_places : List Str := ["floor", "zone", "places", "zones", "ways", "name", "many"]
theorem sc_with_places : FnScope N_with_places ["floor", "zone", "places"] (defScope s_with_places) := ⟨rfl, rfl, rfl, by decide +kernel, rfl, by decide +kernel, by decide +kernel⟩
theorem ok_with_places {f : Addr} {fd : FuncData} (Fn : L2.Fun K "with_places" "with_places" s_with_places f fd) (B : Bl mg) (M : Md mg) (c_is_places : Cal pr w K mg base "is_places" ["thing"] 3 ct_is_places) (x_want_floor : CalX pr w K mg base "want_floor" ["floor"] 9 ct_want_floor) (x_want_zone : CalX pr w K mg base "want_zone" ["floor", "zone"] 6 ct_want_zone) (x_want : CalXD pr w K mg base "want" ["is_right", "word", "at"] 3 ct_want [V.int (-1)]) : FnX pr w K mg base 12 f fd ["floor", "zone", "places"] (lSpX K mg ct_with_places) := by
  obtain ⟨_, _, g_is_places, m_is_places, k_is_places, b_is_places, kk_is_places⟩ := c_is_places.ex
  obtain ⟨_, _, g_want_floor, m_want_floor, k_want_floor, b_want_floor, kk_want_floor, kk2_want_floor, kk3_want_floor⟩ := x_want_floor.ex
  obtain ⟨_, _, g_want_zone, m_want_zone, k_want_zone, b_want_zone, kk_want_zone, kk2_want_zone, kk3_want_zone⟩ := x_want_zone.ex
  obtain ⟨_, _, g_want, m_want, k_want, b_want, _, dv_want, bd_want⟩ := x_want.ex
  have hN := sc_with_places.nd
  refine FnX.data Fn sc_with_places _ (fun cdv A out s H F E W hK hr hgd tk => (dss_cons (ds_expr (de_fnX (ds := []) (g_want_floor.mono (by omega)) tk hr hgd hK m_want_floor k_want_floor b_want_floor .nil rfl (da_cons (de_var 0) da_nil)))
      (dss_cons (ds_expr (de_fnX (ds := []) (g_want_zone.mono (by omega)) tk hr hgd hK m_want_zone k_want_zone b_want_zone .nil rfl (da_cons (de_var 0) (da_cons (de_var 1) da_nil))))
      (dss_cons (ds_expr (de_fnX (ds := [.int (-1)]) (g_want.mono (by omega)) tk hr hgd hK m_want k_want bd_want dv_want rfl (da_cons (de_fn (g_is_places.mono (by omega)) hr hgd hK m_is_places k_is_places b_is_places (da_cons (de_var 2) da_nil)) (da_cons de_str da_nil))))
      (dss_cons (ds_asg (de_var 0) (dg_tup (n := 2) rfl (dgs_cons (dg_name (i := 3) hN) (dgs_cons (dg_name (i := 4) hN) dgs_nil))))
      (dss_one (ds_ret (de_tup (da_cons (de_callTy call_tuple_of imp_tuple B.tuple_ (da_cons (de_fresh (df_lc (own := [("name", 5), ("many", 6)]) rfl hN (di_items (de_var 3)) (blk_of (N := N_with_places) (sc := defScope s_with_places) rfl rfl (by decide +kernel)) (fun _ _ _ _ _ => (dg_tup (n := 2) rfl (dgs_cons (dg_name (i := 5) hN) (dgs_cons (dg_name (i := 6) hN) dgs_nil)))) (fun _ _ _ _ _ => dts_nil) (fun _ _ _ _ _ => (de_tup (da_cons (de_var 5) (da_cons (de_if (dt_cmp (op_eqR hr) imp_eq (de_var 5) (de_var 1)) (de_var 2) (de_var 6)) da_nil)))))) da_nil)) (da_cons (de_var 4) da_nil)))))))))) fun xs G Q W h => ?_
  obtain ⟨f, z, p, rfl, hk, hp, h1, h2, h3, h4⟩ := h
  refine ⟨rfl, ?_⟩
  have e0 : startD N_with_places.length [.d f, .d z, .d p] = [some (.d f), some (.d z), some (.d p), none, none, none, none] := rfl
  rw [e0]
  refine seq_out fun R1 hR => ?_
  simp (config := { maxSteps := 10000000 }) only [tdSeq, tdNext, tdBreak, tdCont, tdDrop, tdRet, tdRetN, tdIfS, tdAsg, tdPar, tdOwn, tdParO, tdAppend, tdExtend, tdGive, giveD, tdVar, tdC, tdBin, tdTest, tdAndT, tdOrT, tdNotT, tdAndV, tdOrV, tdNotV, tdIf, tdChain, tdUn, tdNil, tdCons, tdTup, tdLst, tdLstF, tdCall, tdNoPart, tdPart, tdSl, tdFn, tdFnK, tdBinO, tdCallO, tdOwnIx, tdItems, tdRange, tdRange2, tdFor, tdLcF, tdLc, tdIsi, tdUpper, tdJoin, tdBack, tdZip, tdDictIx, tdGGet, tdGPut, tdOwnArg, gdName, gdNil, gdCons, gdTup, asD_d, asB_d, asI_d, asS_d, asG_g, isOwn_own, useV, look, startD, asAll, allD, Option.map_some, itemsD, List.map_cons, List.map_nil, List.length_cons, List.length_nil, List.set_cons_zero, List.set_cons_succ, List.cons_append, List.nil_append, wipeD, Nat.zero_add, Nat.reduceAdd, Nat.reduceSub, List.reduceReplicate, id_eq, rdAdd_ii, rdAdd_ss, rdAdd_tt, rdAdd_ll, rdMul_ii, rdII_ii, rdI0_ii, rdInt_i, rdGt_ii, rdGe_ii, rdLt_ii, rdLe_ii, rdLen_l, rdLen_t, rdEq_ii, rdNe_ii, rdEq_ss, rdNe_ss, keyD_s, Option.bind_some, Bool.false_eq_true, if_false, if_true, gv0, gv1, gv2, gv3, gp1, gp2, gp3, gs0, gl0, tdFnX, List.map_cons, List.map_nil, List.append_nil]
  refine ⟨f, rfl, hk, fun e => ?_, h1⟩
  rw [← hR]
  clear hR
  refine seq_out fun R2 hR => ?_
  simp (config := { maxSteps := 10000000 }) only [tdSeq, tdNext, tdBreak, tdCont, tdDrop, tdRet, tdRetN, tdIfS, tdAsg, tdPar, tdOwn, tdParO, tdAppend, tdExtend, tdGive, giveD, tdVar, tdC, tdBin, tdTest, tdAndT, tdOrT, tdNotT, tdAndV, tdOrV, tdNotV, tdIf, tdChain, tdUn, tdNil, tdCons, tdTup, tdLst, tdLstF, tdCall, tdNoPart, tdPart, tdSl, tdFn, tdFnK, tdBinO, tdCallO, tdOwnIx, tdItems, tdRange, tdRange2, tdFor, tdLcF, tdLc, tdIsi, tdUpper, tdJoin, tdBack, tdZip, tdDictIx, tdGGet, tdGPut, tdOwnArg, gdName, gdNil, gdCons, gdTup, asD_d, asB_d, asI_d, asS_d, asG_g, isOwn_own, useV, look, startD, asAll, allD, Option.map_some, itemsD, List.map_cons, List.map_nil, List.length_cons, List.length_nil, List.set_cons_zero, List.set_cons_succ, List.cons_append, List.nil_append, wipeD, Nat.zero_add, Nat.reduceAdd, Nat.reduceSub, List.reduceReplicate, id_eq, rdAdd_ii, rdAdd_ss, rdAdd_tt, rdAdd_ll, rdMul_ii, rdII_ii, rdI0_ii, rdInt_i, rdGt_ii, rdGe_ii, rdLt_ii, rdLe_ii, rdLen_l, rdLen_t, rdEq_ii, rdNe_ii, rdEq_ss, rdNe_ss, keyD_s, Option.bind_some, Bool.false_eq_true, if_false, if_true, gv0, gv1, gv2, gv3, gp1, gp2, gp3, gs0, gl0, tdFnX, List.map_cons, List.map_nil, List.append_nil]
  refine ⟨f, z, rfl, ⟨hk, e⟩, fun e2 => ?_, h2 e⟩
  rw [← hR]
  clear hR
  refine seq_out fun R3 hR => ?_
  simp (config := { maxSteps := 10000000 }) only [tdSeq, tdNext, tdBreak, tdCont, tdDrop, tdRet, tdRetN, tdIfS, tdAsg, tdPar, tdOwn, tdParO, tdAppend, tdExtend, tdGive, giveD, tdVar, tdC, tdBin, tdTest, tdAndT, tdOrT, tdNotT, tdAndV, tdOrV, tdNotV, tdIf, tdChain, tdUn, tdNil, tdCons, tdTup, tdLst, tdLstF, tdCall, tdNoPart, tdPart, tdSl, tdFn, tdFnK, tdBinO, tdCallO, tdOwnIx, tdItems, tdRange, tdRange2, tdFor, tdLcF, tdLc, tdIsi, tdUpper, tdJoin, tdBack, tdZip, tdDictIx, tdGGet, tdGPut, tdOwnArg, gdName, gdNil, gdCons, gdTup, asD_d, asB_d, asI_d, asS_d, asG_g, isOwn_own, useV, look, startD, asAll, allD, Option.map_some, itemsD, List.map_cons, List.map_nil, List.length_cons, List.length_nil, List.set_cons_zero, List.set_cons_succ, List.cons_append, List.nil_append, wipeD, Nat.zero_add, Nat.reduceAdd, Nat.reduceSub, List.reduceReplicate, id_eq, rdAdd_ii, rdAdd_ss, rdAdd_tt, rdAdd_ll, rdMul_ii, rdII_ii, rdI0_ii, rdInt_i, rdGt_ii, rdGe_ii, rdLt_ii, rdLe_ii, rdLen_l, rdLen_t, rdEq_ii, rdNe_ii, rdEq_ss, rdNe_ss, keyD_s, Option.bind_some, Bool.false_eq_true, if_false, if_true, gv0, gv1, gv2, gv3, gp1, gp2, gp3, gs0, gl0, tdFnX, List.map_cons, List.map_nil, List.append_nil]
  refine ⟨p, rfl, trivial, ?_⟩
  simp (config := { maxSteps := 10000000 }) only [tdSeq, tdNext, tdBreak, tdCont, tdDrop, tdRet, tdRetN, tdIfS, tdAsg, tdPar, tdOwn, tdParO, tdAppend, tdExtend, tdGive, giveD, tdVar, tdC, tdBin, tdTest, tdAndT, tdOrT, tdNotT, tdAndV, tdOrV, tdNotV, tdIf, tdChain, tdUn, tdNil, tdCons, tdTup, tdLst, tdLstF, tdCall, tdNoPart, tdPart, tdSl, tdFn, tdFnK, tdBinO, tdCallO, tdOwnIx, tdItems, tdRange, tdRange2, tdFor, tdLcF, tdLc, tdIsi, tdUpper, tdJoin, tdBack, tdZip, tdDictIx, tdGGet, tdGPut, tdOwnArg, gdName, gdNil, gdCons, gdTup, asD_d, asB_d, asI_d, asS_d, asG_g, isOwn_own, useV, look, startD, asAll, allD, Option.map_some, itemsD, List.map_cons, List.map_nil, List.length_cons, List.length_nil, List.set_cons_zero, List.set_cons_succ, List.cons_append, List.nil_append, wipeD, Nat.zero_add, Nat.reduceAdd, Nat.reduceSub, List.reduceReplicate, id_eq, rdAdd_ii, rdAdd_ss, rdAdd_tt, rdAdd_ll, rdMul_ii, rdII_ii, rdI0_ii, rdInt_i, rdGt_ii, rdGe_ii, rdLt_ii, rdLe_ii, rdLen_l, rdLen_t, rdEq_ii, rdNe_ii, rdEq_ss, rdNe_ss, keyD_s, Option.bind_some, Bool.false_eq_true, if_false, if_true, gv0, gv1, gv2, gv3, gp1, gp2, gp3, gs0, gl0]
  refine ⟨_, _, _, rfl, fun e3 => ?_, h3 e e2⟩
  rw [← hR]
  clear hR
  obtain ⟨zs, ws, rfl, hzs, _⟩ := floor_inv ⟨hk, e⟩
  have h4 := h4 zs ws rfl e e2 e3
  refine seq_out fun R4 hR => ?_
  simp (config := { maxSteps := 10000000 }) only [tdSeq, tdNext, tdBreak, tdCont, tdDrop, tdRet, tdRetN, tdIfS, tdAsg, tdPar, tdOwn, tdParO, tdAppend, tdExtend, tdGive, giveD, tdVar, tdC, tdBin, tdTest, tdAndT, tdOrT, tdNotT, tdAndV, tdOrV, tdNotV, tdIf, tdChain, tdUn, tdNil, tdCons, tdTup, tdLst, tdLstF, tdCall, tdNoPart, tdPart, tdSl, tdFn, tdFnK, tdBinO, tdCallO, tdOwnIx, tdItems, tdRange, tdRange2, tdFor, tdLcF, tdLc, tdIsi, tdUpper, tdJoin, tdBack, tdZip, tdDictIx, tdGGet, tdGPut, tdOwnArg, gdName, gdNil, gdCons, gdTup, asD_d, asB_d, asI_d, asS_d, asG_g, isOwn_own, useV, look, startD, asAll, allD, Option.map_some, itemsD, List.map_cons, List.map_nil, List.length_cons, List.length_nil, List.set_cons_zero, List.set_cons_succ, List.cons_append, List.nil_append, wipeD, Nat.zero_add, Nat.reduceAdd, Nat.reduceSub, List.reduceReplicate, id_eq, rdAdd_ii, rdAdd_ss, rdAdd_tt, rdAdd_ll, rdMul_ii, rdII_ii, rdI0_ii, rdInt_i, rdGt_ii, rdGe_ii, rdLt_ii, rdLe_ii, rdLen_l, rdLen_t, rdEq_ii, rdNe_ii, rdEq_ss, rdNe_ss, keyD_s, Option.bind_some, Bool.false_eq_true, if_false, if_true, gv0, gv1, gv2, gv3, gp1, gp2, gp3, gs0, gl0]
  refine ⟨by first | rfl | trivial, ?_⟩
  rw [← hR]
  clear hR
  simp (config := { maxSteps := 10000000 }) only [tdSeq, tdNext, tdBreak, tdCont, tdDrop, tdRet, tdRetN, tdIfS, tdAsg, tdPar, tdOwn, tdParO, tdAppend, tdExtend, tdGive, giveD, tdVar, tdC, tdBin, tdTest, tdAndT, tdOrT, tdNotT, tdAndV, tdOrV, tdNotV, tdIf, tdChain, tdUn, tdNil, tdCons, tdTup, tdLst, tdLstF, tdCall, tdNoPart, tdPart, tdSl, tdFn, tdFnK, tdBinO, tdCallO, tdOwnIx, tdItems, tdRange, tdRange2, tdFor, tdLcF, tdLc, tdIsi, tdUpper, tdJoin, tdBack, tdZip, tdDictIx, tdGGet, tdGPut, tdOwnArg, gdName, gdNil, gdCons, gdTup, asD_d, asB_d, asI_d, asS_d, asG_g, isOwn_own, useV, look, startD, asAll, allD, Option.map_some, itemsD, List.map_cons, List.map_nil, List.length_cons, List.length_nil, List.set_cons_zero, List.set_cons_succ, List.cons_append, List.nil_append, wipeD, Nat.zero_add, Nat.reduceAdd, Nat.reduceSub, List.reduceReplicate, id_eq, rdAdd_ii, rdAdd_ss, rdAdd_tt, rdAdd_ll, rdMul_ii, rdII_ii, rdI0_ii, rdInt_i, rdGt_ii, rdGe_ii, rdLt_ii, rdLe_ii, rdLen_l, rdLen_t, rdEq_ii, rdNe_ii, rdEq_ss, rdNe_ss, keyD_s, Option.bind_some, Bool.false_eq_true, if_false, if_true, gv0, gv1, gv2, gv3, gp1, gp2, gp3, gs0, gl0]
  obtain ⟨t, rfl⟩ : ∃ t, z = .str t := by
    have e2 : (isTy "str" z && inD z (zs.map nameOf)) = true := e2
    rw [Bool.and_eq_true] at e2
    exact str_of e2.1
  have hzl := (hk.tup_all (.tuple zs) (by simp)).tup_len
  refine lcl_map (fun x => match x with
    | .tuple [n, m] => .tuple [n, if PyData.eqv n (.str t) then p else m]
    | x => x) _ (by rw [sizeLine_eq]; omega) (fun y m K1 k => ?_) ?_
  · obtain ⟨a, i, rfl⟩ := zone_inv (hzs y m)
    simp only [gdTup, gdCons, gdName, gdNil, itemsD, List.set_cons_zero, List.set_cons_succ]
    refine ⟨rfl, ?_⟩
    simp (config := { maxSteps := 10000000 }) only [tdSeq, tdNext, tdBreak, tdCont, tdDrop, tdRet, tdRetN, tdIfS, tdAsg, tdPar, tdOwn, tdParO, tdAppend, tdExtend, tdGive, giveD, tdVar, tdC, tdBin, tdTest, tdAndT, tdOrT, tdNotT, tdAndV, tdOrV, tdNotV, tdIf, tdChain, tdUn, tdNil, tdCons, tdTup, tdLst, tdLstF, tdCall, tdNoPart, tdPart, tdSl, tdFn, tdFnK, tdBinO, tdCallO, tdOwnIx, tdItems, tdRange, tdRange2, tdFor, tdLcF, tdLc, tdIsi, tdUpper, tdJoin, tdBack, tdZip, tdDictIx, tdGGet, tdGPut, tdOwnArg, gdName, gdNil, gdCons, gdTup, asD_d, asB_d, asI_d, asS_d, asG_g, isOwn_own, useV, look, startD, asAll, allD, Option.map_some, itemsD, List.map_cons, List.map_nil, List.length_cons, List.length_nil, List.set_cons_zero, List.set_cons_succ, List.cons_append, List.nil_append, wipeD, Nat.zero_add, Nat.reduceAdd, Nat.reduceSub, List.reduceReplicate, id_eq, rdAdd_ii, rdAdd_ss, rdAdd_tt, rdAdd_ll, rdMul_ii, rdII_ii, rdI0_ii, rdInt_i, rdGt_ii, rdGe_ii, rdLt_ii, rdLe_ii, rdLen_l, rdLen_t, rdEq_ii, rdNe_ii, rdEq_ss, rdNe_ss, keyD_s, Option.bind_some, Bool.false_eq_true, if_false, if_true, gv0, gv1, gv2, gv3, gp1, gp2, gp3, gs0, gl0]
    simp only [eqv_str] at k
    by_cases qa : a = t
    · rw [decide_eq_true qa] at k ⊢
      exact itT rfl ⟨by decide, k⟩
    · rw [decide_eq_false qa] at k ⊢
      exact itF (by simp) ⟨by decide, k⟩
  · simp only [rdTuple]
    exact ⟨by decide, h4⟩
/-! ### with_way -/
abbrev N_with_way : List Str := ["floor", "names", "name"]
theorem sc_with_way : FnScope N_with_way ["floor", "names"] (defScope s_with_way) := ⟨rfl, rfl, rfl, by decide +kernel, rfl, by decide +kernel, by decide +kernel⟩
theorem ok_with_way {f : Addr} {fd : FuncData} (Fn : L2.Fun K "with_way" "with_way" s_with_way f fd) (B : Bl mg) (M : Md mg) (c_is_zone_of : Cal pr w K mg base "is_zone_of" ["floor", "thing"] 1 ct_is_zone_of) (c_is_way : Cal pr w K mg base "is_way" ["thing"] 2 ct_is_way) (x_want_floor : CalX pr w K mg base "want_floor" ["floor"] 9 ct_want_floor) (x_want : CalXD pr w K mg base "want" ["is_right", "word", "at"] 3 ct_want [V.int (-1)]) : FnX pr w K mg base 12 f fd ["floor", "names"] (lSpX K mg ct_with_way) := by
  obtain ⟨_, _, g_is_zone_of, m_is_zone_of, k_is_zone_of, b_is_zone_of, kk_is_zone_of⟩ := c_is_zone_of.ex
  obtain ⟨_, _, g_is_way, m_is_way, k_is_way, b_is_way, kk_is_way⟩ := c_is_way.ex
  obtain ⟨_, _, g_want_floor, m_want_floor, k_want_floor, b_want_floor, kk_want_floor, kk2_want_floor, kk3_want_floor⟩ := x_want_floor.ex
  obtain ⟨_, _, g_want, m_want, k_want, b_want, _, dv_want, bd_want⟩ := x_want.ex
  have hN := sc_with_way.nd
  refine FnX.data Fn sc_with_way _ (fun cdv A out s H F E W hK hr hgd tk => (dss_cons (ds_expr (de_fnX (ds := []) (g_want_floor.mono (by omega)) tk hr hgd hK m_want_floor k_want_floor b_want_floor .nil rfl (da_cons (de_var 0) da_nil)))
      (dss_cons (ds_expr (de_fnX (ds := [.int (-1)]) (g_want.mono (by omega)) tk hr hgd hK m_want k_want bd_want dv_want rfl (da_cons (de_and (de_fn (g_is_way.mono (by omega)) hr hgd hK m_is_way k_is_way b_is_way (da_cons (de_var 1) da_nil)) (de_one (de_callB (cr_all rfl) imp_all B.all_ (da_cons (de_fresh (df_lc (own := [("name", 2)]) rfl hN (di_items (de_var 1)) (blk_of (N := N_with_way) (sc := defScope s_with_way) rfl rfl (by decide +kernel)) (fun _ _ _ _ _ => (dg_name (i := 2) hN)) (fun _ _ _ _ _ => dts_nil) (fun _ _ _ _ _ => (de_fn (g_is_zone_of.mono (by omega)) hr hgd hK m_is_zone_of k_is_zone_of b_is_zone_of (da_cons (de_var 0) (da_cons (de_var 2) da_nil)))))) da_nil)))) (da_cons de_str da_nil))))
      (dss_one (ds_ret (de_tup (da_cons (de_ix ix_seq imp_ix (de_var 0) de_int) (da_cons (de_tup (da_star (de_ix ix_seq imp_ix (de_var 0) de_int) (da_cons (de_var 1) da_nil))) da_nil)))))))) fun xs G Q W h => ?_
  obtain ⟨f, p, rfl, hk, hp, h1, h2, h3⟩ := h
  refine ⟨rfl, ?_⟩
  have e0 : startD N_with_way.length [.d f, .d p] = [some (.d f), some (.d p), none] := rfl
  rw [e0]
  refine seq_out fun R1 hR => ?_
  simp (config := { maxSteps := 10000000 }) only [tdSeq, tdNext, tdBreak, tdCont, tdDrop, tdRet, tdRetN, tdIfS, tdAsg, tdPar, tdOwn, tdParO, tdAppend, tdExtend, tdGive, giveD, tdVar, tdC, tdBin, tdTest, tdAndT, tdOrT, tdNotT, tdAndV, tdOrV, tdNotV, tdIf, tdChain, tdUn, tdNil, tdCons, tdTup, tdLst, tdLstF, tdCall, tdNoPart, tdPart, tdSl, tdFn, tdFnK, tdBinO, tdCallO, tdOwnIx, tdItems, tdRange, tdRange2, tdFor, tdLcF, tdLc, tdIsi, tdUpper, tdJoin, tdBack, tdZip, tdDictIx, tdGGet, tdGPut, tdOwnArg, gdName, gdNil, gdCons, gdTup, asD_d, asB_d, asI_d, asS_d, asG_g, isOwn_own, useV, look, startD, asAll, allD, Option.map_some, itemsD, List.map_cons, List.map_nil, List.length_cons, List.length_nil, List.set_cons_zero, List.set_cons_succ, List.cons_append, List.nil_append, wipeD, Nat.zero_add, Nat.reduceAdd, Nat.reduceSub, List.reduceReplicate, id_eq, rdAdd_ii, rdAdd_ss, rdAdd_tt, rdAdd_ll, rdMul_ii, rdII_ii, rdI0_ii, rdInt_i, rdGt_ii, rdGe_ii, rdLt_ii, rdLe_ii, rdLen_l, rdLen_t, rdEq_ii, rdNe_ii, rdEq_ss, rdNe_ss, keyD_s, Option.bind_some, Bool.false_eq_true, if_false, if_true, gv0, gv1, gv2, gv3, gp1, gp2, gp3, gs0, gl0, tdFnX, List.map_cons, List.map_nil, List.append_nil]
  refine ⟨f, rfl, hk, fun e => ?_, h1⟩
  rw [← hR]
  clear hR
  obtain ⟨zs, ws, rfl, hzs, _⟩ := floor_inv ⟨hk, e⟩
  have f0 : atI ([.tuple zs, .tuple ws] : List D) 0 = some (.tuple zs) := rfl
  have f1 : atI ([.tuple zs, .tuple ws] : List D) 1 = some (.tuple ws) := rfl
  have hwl := (hk.tup_all (.tuple ws) (by simp)).tup_len
  refine seq_out fun R2 hR => ?_
  simp (config := { maxSteps := 10000000 }) only [tdSeq, tdNext, tdBreak, tdCont, tdDrop, tdRet, tdRetN, tdIfS, tdAsg, tdPar, tdOwn, tdParO, tdAppend, tdExtend, tdGive, giveD, tdVar, tdC, tdBin, tdTest, tdAndT, tdOrT, tdNotT, tdAndV, tdOrV, tdNotV, tdIf, tdChain, tdUn, tdNil, tdCons, tdTup, tdLst, tdLstF, tdCall, tdNoPart, tdPart, tdSl, tdFn, tdFnK, tdBinO, tdCallO, tdOwnIx, tdItems, tdRange, tdRange2, tdFor, tdLcF, tdLc, tdIsi, tdUpper, tdJoin, tdBack, tdZip, tdDictIx, tdGGet, tdGPut, tdOwnArg, gdName, gdNil, gdCons, gdTup, asD_d, asB_d, asI_d, asS_d, asG_g, isOwn_own, useV, look, startD, asAll, allD, Option.map_some, itemsD, List.map_cons, List.map_nil, List.length_cons, List.length_nil, List.set_cons_zero, List.set_cons_succ, List.cons_append, List.nil_append, wipeD, Nat.zero_add, Nat.reduceAdd, Nat.reduceSub, List.reduceReplicate, id_eq, rdAdd_ii, rdAdd_ss, rdAdd_tt, rdAdd_ll, rdMul_ii, rdII_ii, rdI0_ii, rdInt_i, rdGt_ii, rdGe_ii, rdLt_ii, rdLe_ii, rdLen_l, rdLen_t, rdEq_ii, rdNe_ii, rdEq_ss, rdNe_ss, keyD_s, Option.bind_some, Bool.false_eq_true, if_false, if_true, gv0, gv1, gv2, gv3, gp1, gp2, gp3, gs0, gl0, tdFnX, List.map_cons, List.map_nil, List.append_nil]
  have h2 := h2 e
  have h3 := h3 zs ws rfl e
  have fin : ∀ b : Bool, b = wayIn (zs.map nameOf) p → ct_want ([.d (.bool b), .d (.str "names")] ++ [.d (.int (-1))]) G (fun y G1 => R2 [some (.d (.tuple [.tuple zs, .tuple ws])), some (.d p), none] G1) W := fun b eb => by
    refine ⟨_, _, _, rfl, fun q => ?_, fun q => h2 (by rw [← q, eb]; rfl)⟩
    rw [← hR]
    simp (config := { maxSteps := 10000000 }) only [tdSeq, tdNext, tdBreak, tdCont, tdDrop, tdRet, tdRetN, tdIfS, tdAsg, tdPar, tdOwn, tdParO, tdAppend, tdExtend, tdGive, giveD, tdVar, tdC, tdBin, tdTest, tdAndT, tdOrT, tdNotT, tdAndV, tdOrV, tdNotV, tdIf, tdChain, tdUn, tdNil, tdCons, tdTup, tdLst, tdLstF, tdCall, tdNoPart, tdPart, tdSl, tdFn, tdFnK, tdBinO, tdCallO, tdOwnIx, tdItems, tdRange, tdRange2, tdFor, tdLcF, tdLc, tdIsi, tdUpper, tdJoin, tdBack, tdZip, tdDictIx, tdGGet, tdGPut, tdOwnArg, gdName, gdNil, gdCons, gdTup, asD_d, asB_d, asI_d, asS_d, asG_g, isOwn_own, useV, look, startD, asAll, allD, Option.map_some, itemsD, List.map_cons, List.map_nil, List.length_cons, List.length_nil, List.set_cons_zero, List.set_cons_succ, List.cons_append, List.nil_append, wipeD, Nat.zero_add, Nat.reduceAdd, Nat.reduceSub, List.reduceReplicate, id_eq, rdAdd_ii, rdAdd_ss, rdAdd_tt, rdAdd_ll, rdMul_ii, rdII_ii, rdI0_ii, rdInt_i, rdGt_ii, rdGe_ii, rdLt_ii, rdLe_ii, rdLen_l, rdLen_t, rdEq_ii, rdNe_ii, rdEq_ss, rdNe_ss, keyD_s, Option.bind_some, Bool.false_eq_true, if_false, if_true, gv0, gv1, gv2, gv3, gp1, gp2, gp3, gs0, gl0, rdIx, f0, f1, tdStar, seqOf]
    have h3 := h3 (by rw [← q, eb]; rfl)
    have ea : allD (List.map SV.d ws ++ [SV.d p]) = some (ws ++ [p]) := by
      rw [show List.map SV.d ws ++ [SV.d p] = (ws ++ [p]).map SV.d by simp]
      exact allD_map _
    rw [ea]
    exact ⟨by rw [List.length_append, sizeLine_eq]; simp only [List.length_cons, List.length_nil]; omega, by decide, h3⟩
  refine ⟨p, rfl, hp, ?_⟩
  simp only [asB_d]
  cases q : isWay p with
  | false => exact itF (by simp) (fin false (by unfold wayIn; rw [q, Bool.false_and]))
  | true =>
    refine itT rfl ?_
    obtain ⟨xs, rfl⟩ : ∃ xs, p = .tuple xs := by
      cases p with
      | tuple xs => exact ⟨xs, rfl⟩
      | _ => cases q
    have q2 : (!xs.isEmpty && xs.all isName && noAdj xs) = true := q
    rw [Bool.and_eq_true, Bool.and_eq_true] at q2
    have hnm := List.all_eq_true.mp q2.1.2
    have hlx := hp.tup_len
    simp only
    refine lcl_map (fun z => .bool (isTag (.tuple [.tuple zs, .tuple ws]) z)) _ (by rw [sizeLine_eq]; omega) (fun z m K1 k => ?_) ?_
    · simp (config := { maxSteps := 10000000 }) only [tdSeq, tdNext, tdBreak, tdCont, tdDrop, tdRet, tdRetN, tdIfS, tdAsg, tdPar, tdOwn, tdParO, tdAppend, tdExtend, tdGive, giveD, tdVar, tdC, tdBin, tdTest, tdAndT, tdOrT, tdNotT, tdAndV, tdOrV, tdNotV, tdIf, tdChain, tdUn, tdNil, tdCons, tdTup, tdLst, tdLstF, tdCall, tdNoPart, tdPart, tdSl, tdFn, tdFnK, tdBinO, tdCallO, tdOwnIx, tdItems, tdRange, tdRange2, tdFor, tdLcF, tdLc, tdIsi, tdUpper, tdJoin, tdBack, tdZip, tdDictIx, tdGGet, tdGPut, tdOwnArg, gdName, gdNil, gdCons, gdTup, asD_d, asB_d, asI_d, asS_d, asG_g, isOwn_own, useV, look, startD, asAll, allD, Option.map_some, itemsD, List.map_cons, List.map_nil, List.length_cons, List.length_nil, List.set_cons_zero, List.set_cons_succ, List.cons_append, List.nil_append, wipeD, Nat.zero_add, Nat.reduceAdd, Nat.reduceSub, List.reduceReplicate, id_eq, rdAdd_ii, rdAdd_ss, rdAdd_tt, rdAdd_ll, rdMul_ii, rdII_ii, rdI0_ii, rdInt_i, rdGt_ii, rdGe_ii, rdLt_ii, rdLe_ii, rdLen_l, rdLen_t, rdEq_ii, rdNe_ii, rdEq_ss, rdNe_ss, keyD_s, Option.bind_some, Bool.false_eq_true, if_false, if_true, gv0, gv1, gv2, gv3, gp1, gp2, gp3, gs0, gl0]
      exact ⟨_, z, rfl, ⟨hk, e⟩, k⟩
    · simp only [rdBools, bools_of]
      refine fin _ ?_
      show _ = (isWay (.tuple xs) && xs.all fun n => inD n (zs.map nameOf))
      rw [q, Bool.true_and, List.all_map]
      rw [Bool.eq_iff_iff, List.all_eq_true, List.all_eq_true]
      have one : ∀ x ∈ xs, isTag (.tuple [.tuple zs, .tuple ws]) x = inD x (zs.map nameOf) := fun x hx => by
        obtain ⟨t, rfl⟩ := name_str (hnm x hx)
        show (isTy "str" (.str t) && inD (.str t) (zs.map nameOf)) = _
        rw [show isTy "str" (.str t) = true by simp [isTy, isTyN, tyD], Bool.true_and]
      constructor
      · intro hh x hx
        rw [← one x hx]
        exact hh x hx
      · intro hh x hx
        show isTag (.tuple [.tuple zs, .tuple ws]) x = true
        rw [one x hx]
        exact hh x hx
/-! ### without_way -/
abbrev N_without_way : List Str := ["floor", "way"]
theorem sc_without_way : FnScope N_without_way ["floor", "way"] (defScope s_without_way) := ⟨rfl, rfl, rfl, by decide +kernel, rfl, by decide +kernel, by decide +kernel⟩
theorem ok_without_way {f : Addr} {fd : FuncData} (Fn : L2.Fun K "without_way" "without_way" s_without_way f fd) (B : Bl mg) (M : Md mg) (x_want_floor : CalX pr w K mg base "want_floor" ["floor"] 9 ct_want_floor) (x_want_way : CalX pr w K mg base "want_way" ["floor", "way"] 6 ct_want_way) : FnX pr w K mg base 12 f fd ["floor", "way"] (lSpX K mg ct_without_way) := by
  obtain ⟨_, _, g_want_floor, m_want_floor, k_want_floor, b_want_floor, kk_want_floor, kk2_want_floor, kk3_want_floor⟩ := x_want_floor.ex
  obtain ⟨_, _, g_want_way, m_want_way, k_want_way, b_want_way, kk_want_way, kk2_want_way, kk3_want_way⟩ := x_want_way.ex
  have hN := sc_without_way.nd
  refine FnX.data Fn sc_without_way _ (fun cdv A out s H F E W hK hr hgd tk => (dss_cons (ds_expr (de_fnX (ds := []) (g_want_floor.mono (by omega)) tk hr hgd hK m_want_floor k_want_floor b_want_floor .nil rfl (da_cons (de_var 0) da_nil)))
      (dss_cons (ds_expr (de_fnX (ds := []) (g_want_way.mono (by omega)) tk hr hgd hK m_want_way k_want_way b_want_way .nil rfl (da_cons (de_var 0) (da_cons (de_var 1) da_nil))))
      (dss_one (ds_ret (de_tup (da_cons (de_ix ix_seq imp_ix (de_var 0) de_int) (da_cons (de_op op_addR imp_add (de_slice sl_R imp_sl (de_ix ix_seq imp_ix (de_var 0) de_int) do_none (do_some (de_var 1))) (de_slice sl_R imp_sl (de_ix ix_seq imp_ix (de_var 0) de_int) (do_some (de_op op_addR imp_add (de_var 1) de_int)) do_none)) da_nil)))))))) fun xs G Q W h => ?_
  obtain ⟨f, p, rfl, hk, h1, h2, h3⟩ := h
  refine ⟨rfl, ?_⟩
  have e0 : startD N_without_way.length [.d f, .d p] = [some (.d f), some (.d p)] := rfl
  rw [e0]
  refine seq_out fun R1 hR => ?_
  simp (config := { maxSteps := 10000000 }) only [tdSeq, tdNext, tdBreak, tdCont, tdDrop, tdRet, tdRetN, tdIfS, tdAsg, tdPar, tdOwn, tdParO, tdAppend, tdExtend, tdGive, giveD, tdVar, tdC, tdBin, tdTest, tdAndT, tdOrT, tdNotT, tdAndV, tdOrV, tdNotV, tdIf, tdChain, tdUn, tdNil, tdCons, tdTup, tdLst, tdLstF, tdCall, tdNoPart, tdPart, tdSl, tdFn, tdFnK, tdBinO, tdCallO, tdOwnIx, tdItems, tdRange, tdRange2, tdFor, tdLcF, tdLc, tdIsi, tdUpper, tdJoin, tdBack, tdZip, tdDictIx, tdGGet, tdGPut, tdOwnArg, gdName, gdNil, gdCons, gdTup, asD_d, asB_d, asI_d, asS_d, asG_g, isOwn_own, useV, look, startD, asAll, allD, Option.map_some, itemsD, List.map_cons, List.map_nil, List.length_cons, List.length_nil, List.set_cons_zero, List.set_cons_succ, List.cons_append, List.nil_append, wipeD, Nat.zero_add, Nat.reduceAdd, Nat.reduceSub, List.reduceReplicate, id_eq, rdAdd_ii, rdAdd_ss, rdAdd_tt, rdAdd_ll, rdMul_ii, rdII_ii, rdI0_ii, rdInt_i, rdGt_ii, rdGe_ii, rdLt_ii, rdLe_ii, rdLen_l, rdLen_t, rdEq_ii, rdNe_ii, rdEq_ss, rdNe_ss, keyD_s, Option.bind_some, Bool.false_eq_true, if_false, if_true, gv0, gv1, gv2, gv3, gp1, gp2, gp3, gs0, gl0, tdFnX, List.map_cons, List.map_nil, List.append_nil]
  refine ⟨f, rfl, hk, fun e => ?_, h1⟩
  rw [← hR]
  clear hR
  refine seq_out fun R2 hR => ?_
  simp (config := { maxSteps := 10000000 }) only [tdSeq, tdNext, tdBreak, tdCont, tdDrop, tdRet, tdRetN, tdIfS, tdAsg, tdPar, tdOwn, tdParO, tdAppend, tdExtend, tdGive, giveD, tdVar, tdC, tdBin, tdTest, tdAndT, tdOrT, tdNotT, tdAndV, tdOrV, tdNotV, tdIf, tdChain, tdUn, tdNil, tdCons, tdTup, tdLst, tdLstF, tdCall, tdNoPart, tdPart, tdSl, tdFn, tdFnK, tdBinO, tdCallO, tdOwnIx, tdItems, tdRange, tdRange2, tdFor, tdLcF, tdLc, tdIsi, tdUpper, tdJoin, tdBack, tdZip, tdDictIx, tdGGet, tdGPut, tdOwnArg, gdName, gdNil, gdCons, gdTup, asD_d, asB_d, asI_d, asS_d, asG_g, isOwn_own, useV, look, startD, asAll, allD, Option.map_some, itemsD, List.map_cons, List.map_nil, List.length_cons, List.length_nil, List.set_cons_zero, List.set_cons_succ, List.cons_append, List.nil_append, wipeD, Nat.zero_add, Nat.reduceAdd, Nat.reduceSub, List.reduceReplicate, id_eq, rdAdd_ii, rdAdd_ss, rdAdd_tt, rdAdd_ll, rdMul_ii, rdII_ii, rdI0_ii, rdInt_i, rdGt_ii, rdGe_ii, rdLt_ii, rdLe_ii, rdLen_l, rdLen_t, rdEq_ii, rdNe_ii, rdEq_ss, rdNe_ss, keyD_s, Option.bind_some, Bool.false_eq_true, if_false, if_true, gv0, gv1, gv2, gv3, gp1, gp2, gp3, gs0, gl0, tdFnX, List.map_cons, List.map_nil, List.append_nil]
  refine ⟨f, p, rfl, ⟨hk, e⟩, fun e2 => ?_, h2 e⟩
  rw [← hR]
  clear hR
  obtain ⟨zs, ws, rfl, hzs, _⟩ := floor_inv ⟨hk, e⟩
  obtain ⟨i, rfl, i0, i1⟩ : ∃ i, p = .int i ∧ 0 ≤ i ∧ i < (ws.length : Nat) := by
    cases p with
    | int i =>
      have e2 : (decide (0 ≤ i) && decide (i < (ws.length : Nat))) = true := e2
      rw [Bool.and_eq_true] at e2
      exact ⟨i, rfl, of_decide_eq_true e2.1, of_decide_eq_true e2.2⟩
    | _ => cases e2
  have f0 : atI ([.tuple zs, .tuple ws] : List D) 0 = some (.tuple zs) := rfl
  have f1 : atI ([.tuple zs, .tuple ws] : List D) 1 = some (.tuple ws) := rfl
  have hwl := (hk.tup_all (.tuple ws) (by simp)).tup_len
  have h3 := h3 zs ws i rfl e rfl e2
  simp (config := { maxSteps := 10000000 }) only [tdSeq, tdNext, tdBreak, tdCont, tdDrop, tdRet, tdRetN, tdIfS, tdAsg, tdPar, tdOwn, tdParO, tdAppend, tdExtend, tdGive, giveD, tdVar, tdC, tdBin, tdTest, tdAndT, tdOrT, tdNotT, tdAndV, tdOrV, tdNotV, tdIf, tdChain, tdUn, tdNil, tdCons, tdTup, tdLst, tdLstF, tdCall, tdNoPart, tdPart, tdSl, tdFn, tdFnK, tdBinO, tdCallO, tdOwnIx, tdItems, tdRange, tdRange2, tdFor, tdLcF, tdLc, tdIsi, tdUpper, tdJoin, tdBack, tdZip, tdDictIx, tdGGet, tdGPut, tdOwnArg, gdName, gdNil, gdCons, gdTup, asD_d, asB_d, asI_d, asS_d, asG_g, isOwn_own, useV, look, startD, asAll, allD, Option.map_some, itemsD, List.map_cons, List.map_nil, List.length_cons, List.length_nil, List.set_cons_zero, List.set_cons_succ, List.cons_append, List.nil_append, wipeD, Nat.zero_add, Nat.reduceAdd, Nat.reduceSub, List.reduceReplicate, id_eq, rdAdd_ii, rdAdd_ss, rdAdd_tt, rdAdd_ll, rdMul_ii, rdII_ii, rdI0_ii, rdInt_i, rdGt_ii, rdGe_ii, rdLt_ii, rdLe_ii, rdLen_l, rdLen_t, rdEq_ii, rdNe_ii, rdEq_ss, rdNe_ss, keyD_s, Option.bind_some, Bool.false_eq_true, if_false, if_true, gv0, gv1, gv2, gv3, gp1, gp2, gp3, gs0, gl0, rdIx, rdSl, f0, f1, cut_to _ i0, cut_at _ (show (0 : Int) ≤ i + 1 by omega), show (i + 1).toNat = i.toNat + 1 by omega]
  refine ⟨by rw [List.length_take, List.length_drop, sizeLine_eq]; omega, by decide, h3⟩
/-! ### _law_draw -/
abbrev N__law_draw : List Str := ["_law_feed_here", "_law_many", "_law_nth", "_law_cells", "_law_cell", "_law_mixed", "_law_figure"]
theorem sc__law_draw : FnScope N__law_draw ["_law_feed_here", "_law_many"] (defScope s__law_draw) := ⟨rfl, rfl, rfl, by decide +kernel, rfl, by decide +kernel, by decide +kernel⟩
theorem ok__law_draw {f : Addr} {fd : FuncData} (Fn : L2.Fun K "_law_draw" "_law_draw" s__law_draw f fd) (B : Bl mg) (M : Md mg) : FnG pr w K mg base 1 f fd ["_law_feed_here", "_law_many"] (lSp K ct__law_draw) := by
  have hN := sc__law_draw.nd
  refine FnG.data Fn sc__law_draw _ (fun cdv A out s H F hK hr hgd => (dss_cons (ds_gput hr (de_var 0) de_str (de_op op_addR imp_add (de_gget hr (de_var 0) de_str) de_int))
      (dss_cons (ds_if (dt_cmp op_gtR imp_gt (de_gget hr (de_var 0) de_str) de_int) (dss_cons (ds_set (i := 6) hN (de_op op_mod imp_II (de_callTy call_int1 imp_int B.int_ (da_cons (de_gget hr (de_var 0) de_str) da_nil)) (de_var 1)))
      (dss_cons (ds_gput hr (de_var 0) de_str (de_op op_fdiv imp_II (de_gget hr (de_var 0) de_str) (de_var 1)))
      (dss_one (ds_ret (de_var 6))))) dss_nil)
      (dss_cons (ds_par (i := 2) (j := 3) rfl hN (da_cons (de_gget hr (de_var 0) de_str) (da_cons (de_gget hr (de_var 0) de_str) da_nil)))
      (dss_cons (ds_gput hr (de_var 0) de_str (de_op op_addR imp_add (de_var 2) de_int))
      (dss_cons (ds_set (i := 4) hN (de_if (dt_cmp (op_neR hr) imp_ne (de_var 3) (de_lit 40 rfl)) (de_ix ix_seq imp_ix (de_var 3) (de_op op_mod imp_II (de_callTy call_int1 imp_int B.int_ (da_cons (de_var 2) da_nil)) (de_callB call_len imp_len B.len_ (da_cons (de_var 3) da_nil)))) de_int))
      (dss_cons (ds_if (dt_w (dw_and (dt_cmp op_geR imp_ge (de_var 4) (de_lit 40 rfl)) (dw_and1 (dt_cmp op_ltR imp_lt (de_var 2) (de_callB call_len imp_len B.len_ (da_cons (de_var 3) da_nil)))))) (dss_cons (ds_gput hr (de_var 0) de_str (de_op op_fdiv imp_II (de_var 4) (de_var 1)))
      (dss_one (ds_ret (de_op op_mod imp_II (de_callTy call_int1 imp_int B.int_ (da_cons (de_var 4) da_nil)) (de_var 1))))) dss_nil)
      (dss_cons (ds_set (i := 5) hN (de_op op_mod imp_II (de_callTy call_int1 imp_int B.int_ (da_cons (de_op op_addR imp_add (de_op op_addR imp_add (de_op op_mod imp_II (de_callTy call_int1 imp_int B.int_ (da_cons (de_var 4) da_nil)) de_int) (de_op op_mulR imp_mul de_int (de_gget hr (de_var 0) de_str))) de_int) da_nil)) de_int))
      (dss_cons (ds_set (i := 5) hN (de_op op_mod imp_II (de_callTy call_int1 imp_int B.int_ (da_cons (de_op op_addR imp_add (de_op op_addR imp_add (de_op op_mulR imp_mul (de_var 5) (de_var 5)) (de_op op_mulR imp_mul de_int (de_gget hr (de_var 0) de_str))) de_int) da_nil)) de_int))
      (dss_one (ds_ret (de_op op_mod imp_II (de_callTy call_int1 imp_int B.int_ (da_cons (de_op op_fdiv imp_II (de_op op_mod imp_II (de_callTy call_int1 imp_int B.int_ (da_cons (de_op op_addR imp_add (de_op op_mulR imp_mul (de_var 5) (de_var 5)) (de_op op_mulR imp_mul de_int (de_var 5))) da_nil)) de_int) de_int) da_nil)) (de_var 1))))))))))))) fun xs G Q h => ?_
  obtain ⟨many, rfl, h0, h1, ⟨ns, x, y, z, rfl, hl⟩, h⟩ := h
  refine ⟨rfl, ?_⟩
  simp (config := { maxSteps := 10000000 }) only [tdSeq, tdNext, tdBreak, tdCont, tdDrop, tdRet, tdRetN, tdIfS, tdAsg, tdPar, tdOwn, tdParO, tdAppend, tdExtend, tdGive, giveD, tdVar, tdC, tdBin, tdTest, tdAndT, tdOrT, tdNotT, tdAndV, tdOrV, tdNotV, tdIf, tdChain, tdUn, tdNil, tdCons, tdTup, tdLst, tdLstF, tdCall, tdNoPart, tdPart, tdSl, tdFn, tdFnK, tdBinO, tdCallO, tdOwnIx, tdItems, tdRange, tdRange2, tdFor, tdLcF, tdLc, tdIsi, tdUpper, tdJoin, tdBack, tdZip, tdDictIx, tdGGet, tdGPut, tdOwnArg, gdName, gdNil, gdCons, gdTup, asD_d, asB_d, asI_d, asS_d, asG_g, isOwn_own, useV, look, startD, asAll, allD, Option.map_some, itemsD, List.map_cons, List.map_nil, List.length_cons, List.length_nil, List.set_cons_zero, List.set_cons_succ, List.cons_append, List.nil_append, wipeD, Nat.zero_add, Nat.reduceAdd, Nat.reduceSub, List.reduceReplicate, id_eq, N__law_draw, rdAdd_ii, rdAdd_ss, rdAdd_tt, rdAdd_ll, rdMul_ii, rdII_ii, rdI0_ii, rdInt_i, rdGt_ii, rdGe_ii, rdLt_ii, rdLe_ii, rdLen_l, rdLen_t, rdEq_ii, rdNe_ii, rdEq_ss, rdNe_ss, keyD_s, Option.bind_some, Bool.false_eq_true, if_false, if_true, gv0, gv1, gv2, gv3, gp1, gp2, gp3, gs0, gl0]
  have hd : ∀ c : Int, CDiv c many := fun c => ⟨h0, by omega⟩
  have fin : ∀ (e a b c : Int), Q (.d (.int (e % many))) (feed ns a b c) := fun e a b c => h _ _ (Int.emod_nonneg e (by omega)) (Int.emod_lt_of_pos e h0) ⟨ns, a, b, c, rfl, hl⟩
  have d1 : 0 < tbG.length + 1 ∧ 4 < sizeLine := ⟨Nat.succ_pos _, by decide⟩
  refine ⟨d1, itB (fun _ => ⟨h0, hd _, d1, fin _ _ _ _⟩) (fun _ => ⟨d1, ?_⟩)⟩
  simp only [rdNe, asB_d]
  refine ⟨okEq_lists (DL.shaped_ints ns) (by decide +kernel), ?_⟩
  rw [eqv_nilL]
  refine itB (fun e1 => ?_) (fun e1 => ?_)
  · have hn : ns ≠ [] := by
      intro q
      subst q
      cases e1
    refine ⟨by
      have := List.length_pos_iff.mpr hn
      rw [List.length_map]; omega, ?_⟩
    obtain ⟨c, hc⟩ := atI_mod hn x
    simp (config := { maxSteps := 10000000 }) only [rdIx, asI_d, hc, asB_d, rdAdd_ii, rdAdd_ss, rdAdd_tt, rdAdd_ll, rdMul_ii, rdII_ii, rdI0_ii, rdInt_i, rdGt_ii, rdGe_ii, rdLt_ii, rdLe_ii, rdLen_l, rdLen_t, rdEq_ii, rdNe_ii, rdEq_ss, rdNe_ss, keyD_s, Option.bind_some, Bool.false_eq_true, if_false, if_true, gv0, gv1, gv2, gv3, gp1, gp2, gp3, gs0, gl0]
    refine itB (fun _ => itB (fun _ => ⟨hd _, d1, h0, fin _ _ _ _⟩) (fun _ => ?_)) (fun _ => ?_)
    all_goals repeat' first | exact fin _ _ _ _ | exact d1 | refine ⟨?_, ?_⟩ | exact CMul.mod _ _ (by decide) (by decide) | exact .inl ⟨by decide, by decide⟩ | exact h0 | decide
  · refine itB (fun _ => itB (fun _ => ⟨hd _, d1, h0, fin _ _ _ _⟩) (fun _ => ?_)) (fun _ => ?_)
    all_goals repeat' first | exact fin _ _ _ _ | exact d1 | refine ⟨?_, ?_⟩ | exact CMul.mod _ _ (by decide) (by decide) | exact .inl ⟨by decide, by decide⟩ | exact h0 | decide
/-! ### _law_pick -/
abbrev N__law_pick : List Str := ["_law_feed_here", "_law_some"]
theorem sc__law_pick : FnScope N__law_pick ["_law_feed_here", "_law_some"] (defScope s__law_pick) := ⟨rfl, rfl, rfl, by decide +kernel, rfl, by decide +kernel, by decide +kernel⟩
theorem ok__law_pick {f : Addr} {fd : FuncData} (Fn : L2.Fun K "_law_pick" "_law_pick" s__law_pick f fd) (B : Bl mg) (M : Md mg) (c__law_draw : Cal pr w K mg base "_law_draw" ["_law_feed_here", "_law_many"] 1 ct__law_draw) : FnG pr w K mg base 2 f fd ["_law_feed_here", "_law_some"] (lSp K ct__law_pick) := by
  obtain ⟨_, _, g__law_draw, m__law_draw, k__law_draw, b__law_draw, kk__law_draw⟩ := c__law_draw.ex
  have hN := sc__law_pick.nd
  refine FnG.data Fn sc__law_pick _ (fun cdv A out s H F hK hr hgd => (dss_one (ds_ret (de_ix ix_seq imp_ix (de_var 1) (de_fn (g__law_draw.mono (by omega)) hr hgd hK m__law_draw k__law_draw b__law_draw (da_cons (de_var 0) (da_cons (de_callB call_len imp_len B.len_ (da_cons (de_var 1) da_nil)) da_nil))))))) fun xs G Q h => ?_
  obtain ⟨ds, rfl, h0, h1, hf, h⟩ := h
  refine ⟨rfl, ?_⟩
  simp (config := { maxSteps := 10000000 }) only [tdSeq, tdNext, tdBreak, tdCont, tdDrop, tdRet, tdRetN, tdIfS, tdAsg, tdPar, tdOwn, tdParO, tdAppend, tdExtend, tdGive, giveD, tdVar, tdC, tdBin, tdTest, tdAndT, tdOrT, tdNotT, tdAndV, tdOrV, tdNotV, tdIf, tdChain, tdUn, tdNil, tdCons, tdTup, tdLst, tdLstF, tdCall, tdNoPart, tdPart, tdSl, tdFn, tdFnK, tdBinO, tdCallO, tdOwnIx, tdItems, tdRange, tdRange2, tdFor, tdLcF, tdLc, tdIsi, tdUpper, tdJoin, tdBack, tdZip, tdDictIx, tdGGet, tdGPut, tdOwnArg, gdName, gdNil, gdCons, gdTup, asD_d, asB_d, asI_d, asS_d, asG_g, isOwn_own, useV, look, startD, asAll, allD, Option.map_some, itemsD, List.map_cons, List.map_nil, List.length_cons, List.length_nil, List.set_cons_zero, List.set_cons_succ, List.cons_append, List.nil_append, wipeD, Nat.zero_add, Nat.reduceAdd, Nat.reduceSub, List.reduceReplicate, id_eq, N__law_pick, rdAdd_ii, rdAdd_ss, rdAdd_tt, rdAdd_ll, rdMul_ii, rdII_ii, rdI0_ii, rdInt_i, rdGt_ii, rdGe_ii, rdLt_ii, rdLe_ii, rdLen_l, rdLen_t, rdEq_ii, rdNe_ii, rdEq_ss, rdNe_ss, keyD_s, Option.bind_some, Bool.false_eq_true, if_false, if_true, gv0, gv1, gv2, gv3, gp1, gp2, gp3, gs0, gl0]
  refine ⟨_, rfl, by omega, by omega, hf, fun k G' k0 k1 hG => ?_⟩
  simp only [rdIx, asD_d, asI_d]
  obtain ⟨j, rfl⟩ : ∃ j : Nat, k = (j : Int) := ⟨k.toNat, by omega⟩
  have hj : j < ds.length := by omega
  rw [DL.atI_nat, List.getElem?_eq_getElem hj]
  exact h _ _ (List.getElem_mem hj) hG
/-! ### _law_pool -/
abbrev N__law_pool : List Str := ["_law_feed_here", "_law_pools", "_law_pool_here", "_law_k", "_law_letters", "_law_found", "_law_last"]
theorem sc__law_pool : FnScope N__law_pool ["_law_feed_here"] (defScope s__law_pool) := ⟨rfl, rfl, rfl, by decide +kernel, rfl, by decide +kernel, by decide +kernel⟩
theorem ok__law_pool {f : Addr} {fd : FuncData} (Fn : L2.Fun K "_law_pool" "_law_pool" s__law_pool f fd) (B : Bl mg) (M : Md mg) (c__law_draw : Cal pr w K mg base "_law_draw" ["_law_feed_here", "_law_many"] 1 ct__law_draw) (c__law_pick : Cal pr w K mg base "_law_pick" ["_law_feed_here", "_law_some"] 2 ct__law_pick) : FnG pr w K mg base 3 f fd ["_law_feed_here"] (lSp K ct__law_pool) := by
  obtain ⟨_, _, g__law_draw, m__law_draw, k__law_draw, b__law_draw, kk__law_draw⟩ := c__law_draw.ex
  obtain ⟨_, _, g__law_pick, m__law_pick, k__law_pick, b__law_pick, kk__law_pick⟩ := c__law_pick.ex
  have hN := sc__law_pool.nd
  refine FnG.data Fn sc__law_pool _ (fun cdv A out s H F hK hr hgd => (dss_cons (ds_set (i := 1) hN (de_lit 40 rfl))
      (dss_cons (ds_set (i := 1) hN (de_op op_addR imp_add (de_var 1) (de_lit 40 rfl)))
      (dss_cons (ds_if (dt_cmp (op_eqR hr) imp_eq (de_fn (g__law_draw.mono (by omega)) hr hgd hK m__law_draw k__law_draw b__law_draw (da_cons (de_var 0) (da_cons de_int da_nil))) de_int) (dss_cons (ds_parCO (i := 4) (j := 5) rfl hN de_str (df_lst da_nil))
      (dss_cons (ds_for PassesOwn.never rfl (di_items de_str) (dg_name (i := 6) hN) (dss_one (ds_append 5 (de_op op_addR imp_add (de_join de_str (de_fresh (df_lc (own := [("_law_k", 3)]) rfl hN (di_range B.range_ (de_fn (g__law_draw.mono (by omega)) hr hgd hK m__law_draw k__law_draw b__law_draw (da_cons (de_var 0) (da_cons de_int da_nil)))) (blk_of (N := N__law_pool) (sc := defScope s__law_pool) rfl rfl (by decide +kernel)) (fun _ _ _ _ _ => (dg_name (i := 3) hN)) (fun _ _ _ _ _ => dts_nil) (fun _ _ _ _ _ => (de_ix ix_seq imp_ix (de_var 4) (de_fn (g__law_draw.mono (by omega)) hr hgd hK m__law_draw k__law_draw b__law_draw (da_cons (de_var 0) (da_cons de_int da_nil)))))))) (de_var 6)))))
      (dss_one (ds_give 5 (ds_ret (de_var 5)))))) dss_nil)
      (dss_cons (ds_par (i := 2) (j := 3) rfl hN (da_cons (de_fn (g__law_pick.mono (by omega)) hr hgd hK m__law_pick k__law_pick b__law_pick (da_cons (de_var 0) (da_cons (de_var 1) da_nil))) (da_cons (de_fn (g__law_draw.mono (by omega)) hr hgd hK m__law_draw k__law_draw b__law_draw (da_cons (de_var 0) (da_cons de_int da_nil))) da_nil)))
      (dss_one (ds_ret (de_op op_addR imp_add (de_slice sl_R imp_sl (de_var 2) (do_some (de_var 3)) do_none) (de_slice sl_R imp_sl (de_var 2) do_none (do_some (de_var 3))))))))))) fun xs G Q h => ?_
  obtain ⟨rfl, hf, h⟩ := h
  refine ⟨rfl, ?_⟩
  simp (config := { maxSteps := 10000000 }) only [tdSeq, tdNext, tdBreak, tdCont, tdDrop, tdRet, tdRetN, tdIfS, tdAsg, tdPar, tdOwn, tdParO, tdAppend, tdExtend, tdGive, giveD, tdVar, tdC, tdBin, tdTest, tdAndT, tdOrT, tdNotT, tdAndV, tdOrV, tdNotV, tdIf, tdChain, tdUn, tdNil, tdCons, tdTup, tdLst, tdLstF, tdCall, tdNoPart, tdPart, tdSl, tdFn, tdFnK, tdBinO, tdCallO, tdOwnIx, tdItems, tdRange, tdRange2, tdFor, tdLcF, tdLc, tdIsi, tdUpper, tdJoin, tdBack, tdZip, tdDictIx, tdGGet, tdGPut, tdOwnArg, gdName, gdNil, gdCons, gdTup, asD_d, asB_d, asI_d, asS_d, asG_g, isOwn_own, useV, look, startD, asAll, allD, Option.map_some, itemsD, List.map_cons, List.map_nil, List.length_cons, List.length_nil, List.set_cons_zero, List.set_cons_succ, List.cons_append, List.nil_append, wipeD, Nat.zero_add, Nat.reduceAdd, Nat.reduceSub, List.reduceReplicate, id_eq, N__law_pool, rdAdd_ii, rdAdd_ss, rdAdd_tt, rdAdd_ll, rdMul_ii, rdII_ii, rdI0_ii, rdInt_i, rdGt_ii, rdGe_ii, rdLt_ii, rdLe_ii, rdLen_l, rdLen_t, rdEq_ii, rdNe_ii, rdEq_ss, rdNe_ss, keyD_s, Option.bind_some, Bool.false_eq_true, if_false, if_true, gv0, gv1, gv2, gv3, gp1, gp2, gp3, gs0, gl0]
  refine ⟨by decide, ⟨5, rfl, by decide, by decide, hf, fun k G1 k0 k1 hf1 => ?_⟩⟩
  simp only [asD_d, rdEq_ii, asB_d]
  refine itB (fun _ => ?_) (fun _ => ?_)
  · refine ⟨by decide, ?_⟩
    refine dloop_by (lasts.map fun c => .str ⟨#[c]⟩) (fun n env G' => ∃ (ts : List Str) (o : Option SV), env = [some (.g 0), some (.d (.list (pools.map fun p => .list (p.map .str)))), none, none, some (.d (.str letters)), some (.own (ts.map .str)), o] ∧ Fd G' ∧ ts.length = n ∧ ts.map (fun t => t.cps.toList.getLast?) = (lasts.take n).map some ∧ ∀ t ∈ ts, (t.length ≤ 9 ∧ asc t = true) ∧ isName (.str t) = true) 0 _ _ ?_ ?_ ?_
    · rintro i x env G2 hi ⟨ts, o, rfl, hf2, hl, hls, hok⟩ nx hnx
      obtain ⟨c, hc, rfl⟩ : ∃ c, lasts[i]? = some c ∧ x = .str ⟨#[c]⟩ := by
        rw [List.getElem?_map] at hi
        obtain ⟨c, h1, h2⟩ := Option.map_eq_some_iff.mp hi
        exact ⟨c, h1, h2.symm⟩
      have hi8 : i < 8 := by
        have := (List.getElem?_eq_some_iff.mp hc).1
        have := lasts_ok.1
        omega
      obtain ⟨hc128, hcl⟩ := lasts_ok.2.2 c (List.mem_of_getElem? hc)
      simp (config := { maxSteps := 10000000 }) only [tdSeq, tdNext, tdBreak, tdCont, tdDrop, tdRet, tdRetN, tdIfS, tdAsg, tdPar, tdOwn, tdParO, tdAppend, tdExtend, tdGive, giveD, tdVar, tdC, tdBin, tdTest, tdAndT, tdOrT, tdNotT, tdAndV, tdOrV, tdNotV, tdIf, tdChain, tdUn, tdNil, tdCons, tdTup, tdLst, tdLstF, tdCall, tdNoPart, tdPart, tdSl, tdFn, tdFnK, tdBinO, tdCallO, tdOwnIx, tdItems, tdRange, tdRange2, tdFor, tdLcF, tdLc, tdIsi, tdUpper, tdJoin, tdBack, tdZip, tdDictIx, tdGGet, tdGPut, tdOwnArg, gdName, gdNil, gdCons, gdTup, asD_d, asB_d, asI_d, asS_d, asG_g, isOwn_own, useV, look, startD, asAll, allD, Option.map_some, itemsD, List.map_cons, List.map_nil, List.length_cons, List.length_nil, List.set_cons_zero, List.set_cons_succ, List.cons_append, List.nil_append, wipeD, Nat.zero_add, Nat.reduceAdd, Nat.reduceSub, List.reduceReplicate, id_eq, N__law_pool, rdAdd_ii, rdAdd_ss, rdAdd_tt, rdAdd_ll, rdMul_ii, rdII_ii, rdI0_ii, rdInt_i, rdGt_ii, rdGe_ii, rdLt_ii, rdLe_ii, rdLen_l, rdLen_t, rdEq_ii, rdNe_ii, rdEq_ss, rdNe_ss, keyD_s, Option.bind_some, Bool.false_eq_true, if_false, if_true, gv0, gv1, gv2, gv3, gp1, gp2, gp3, gs0, gl0]
      refine ⟨8, rfl, by decide, by decide, hf2, fun m G3 m0 m1 hf3 => ?_⟩
      simp only [asD_d, asI_d]
      refine ⟨by omega, ?_⟩
      refine lcl_by _ (fun n acc G' => ∃ ys : List Str, acc = ys.map .str ∧ ys.length = n ∧ (∀ y ∈ ys, y.length = 1 ∧ asc y = true) ∧ (∀ y ∈ ys, (y.cps.toList.all isLetter) = true) ∧ Fd G') 0 [] _ (by rw [List.length_nil, List.length_map, List.length_range]; have := sizeLine_eq; omega) ?_ ?_ ?_
      · rintro j x acc G4 hj ⟨ys, rfl, hy1, hy2, hy3, hf4⟩ K1 K2 k1' k2'
        simp (config := { maxSteps := 10000000 }) only [tdSeq, tdNext, tdBreak, tdCont, tdDrop, tdRet, tdRetN, tdIfS, tdAsg, tdPar, tdOwn, tdParO, tdAppend, tdExtend, tdGive, giveD, tdVar, tdC, tdBin, tdTest, tdAndT, tdOrT, tdNotT, tdAndV, tdOrV, tdNotV, tdIf, tdChain, tdUn, tdNil, tdCons, tdTup, tdLst, tdLstF, tdCall, tdNoPart, tdPart, tdSl, tdFn, tdFnK, tdBinO, tdCallO, tdOwnIx, tdItems, tdRange, tdRange2, tdFor, tdLcF, tdLc, tdIsi, tdUpper, tdJoin, tdBack, tdZip, tdDictIx, tdGGet, tdGPut, tdOwnArg, gdName, gdNil, gdCons, gdTup, asD_d, asB_d, asI_d, asS_d, asG_g, isOwn_own, useV, look, startD, asAll, allD, Option.map_some, itemsD, List.map_cons, List.map_nil, List.length_cons, List.length_nil, List.set_cons_zero, List.set_cons_succ, List.cons_append, List.nil_append, wipeD, Nat.zero_add, Nat.reduceAdd, Nat.reduceSub, List.reduceReplicate, id_eq, N__law_pool, rdAdd_ii, rdAdd_ss, rdAdd_tt, rdAdd_ll, rdMul_ii, rdII_ii, rdI0_ii, rdInt_i, rdGt_ii, rdGe_ii, rdLt_ii, rdLe_ii, rdLen_l, rdLen_t, rdEq_ii, rdNe_ii, rdEq_ss, rdNe_ss, keyD_s, Option.bind_some, Bool.false_eq_true, if_false, if_true, gv0, gv1, gv2, gv3, gp1, gp2, gp3, gs0, gl0, tdYes]
        refine ⟨26, rfl, by decide, by decide, hf4, fun q G5 q0 q1 hf5 => ?_⟩
        obtain ⟨j', rfl⟩ : ∃ j' : Nat, q = (j' : Int) := ⟨q.toNat, by omega⟩
        obtain ⟨c', hc', hc2, hc3⟩ := letter_at j' (by omega)
        simp only [asD_d, rdIx, asI_d]
        refine ⟨by decide +kernel, ?_⟩
        rw [atI_natG, hc']
        refine k1' _ _ ⟨ys ++ [⟨#[c']⟩], by rw [List.map_append]; rfl, by rw [List.length_append, hy1]; rfl, fun y hy => ?_, fun y hy => ?_, hf5⟩
        · rcases List.mem_append.mp hy with hy | hy
          · exact hy2 y hy
          · rw [List.mem_singleton] at hy
            subst hy
            exact ⟨rfl, by unfold asc; simp [hc2]⟩
        · rcases List.mem_append.mp hy with hy | hy
          · exact hy3 y hy
          · rw [List.mem_singleton] at hy
            subst hy
            simpa using hc3
      · rintro acc G4 ⟨ys, rfl, hy1, hy2, hy3, hf4⟩
        have hy1 : ys.length ≤ 7 := by
          rw [hy1, List.length_map, List.length_range]; omega
        simp (config := { maxSteps := 10000000 }) only [tdSeq, tdNext, tdBreak, tdCont, tdDrop, tdRet, tdRetN, tdIfS, tdAsg, tdPar, tdOwn, tdParO, tdAppend, tdExtend, tdGive, giveD, tdVar, tdC, tdBin, tdTest, tdAndT, tdOrT, tdNotT, tdAndV, tdOrV, tdNotV, tdIf, tdChain, tdUn, tdNil, tdCons, tdTup, tdLst, tdLstF, tdCall, tdNoPart, tdPart, tdSl, tdFn, tdFnK, tdBinO, tdCallO, tdOwnIx, tdItems, tdRange, tdRange2, tdFor, tdLcF, tdLc, tdIsi, tdUpper, tdJoin, tdBack, tdZip, tdDictIx, tdGGet, tdGPut, tdOwnArg, gdName, gdNil, gdCons, gdTup, asD_d, asB_d, asI_d, asS_d, asG_g, isOwn_own, useV, look, startD, asAll, allD, Option.map_some, itemsD, List.map_cons, List.map_nil, List.length_cons, List.length_nil, List.set_cons_zero, List.set_cons_succ, List.cons_append, List.nil_append, wipeD, Nat.zero_add, Nat.reduceAdd, Nat.reduceSub, List.reduceReplicate, id_eq, N__law_pool, rdAdd_ii, rdAdd_ss, rdAdd_tt, rdAdd_ll, rdMul_ii, rdII_ii, rdI0_ii, rdInt_i, rdGt_ii, rdGe_ii, rdLt_ii, rdLe_ii, rdLen_l, rdLen_t, rdEq_ii, rdNe_ii, rdEq_ss, rdNe_ss, keyD_s, Option.bind_some, Bool.false_eq_true, if_false, if_true, gv0, gv1, gv2, gv3, gp1, gp2, gp3, gs0, gl0, seqD, strsD_map]
        obtain ⟨j1, j2⟩ := join_ones ys hy2
        have e1 : (ys.map (·.length)).sum ≤ 7 := by
          have : ∀ zs : List Str, (∀ y ∈ zs, y.length = 1 ∧ asc y = true) → (zs.map (·.length)).sum = zs.length := by
            intro zs
            induction zs with
            | nil => intro _; rfl
            | cons z r ih =>
              intro hz
              rw [List.map_cons, List.sum_cons, ih (fun y hy => hz y (List.mem_cons_of_mem _ hy)), (hz z List.mem_cons_self).1, List.length_cons]; omega
          rw [this ys hy2]; omega
        rw [txt_join]
        have e3 : (⟨#[c]⟩ : Str).length = 1 := rfl
        refine ⟨?_, ?_, ?_, ?_⟩
        · show (ys.map (·.length)).sum + ys.length * 0 ≤ _
          omega
        · rw [j1, e3, sizeLine_eq]; omega
        · rw [List.length_map, hl, sizeLine_eq]; omega
        · refine hnx _ _ ⟨ts ++ [Str.join "" ys ++ ⟨#[c]⟩], _, by rw [List.map_append]; rfl, hf4, by rw [List.length_append, hl]; rfl, ?_, fun t ht => ?_⟩
          · rw [List.map_append, hls, Nat.zero_add, List.take_add_one, hc, List.map_append]
            simp only [List.map_cons, List.map_nil, Option.toList_some]
            rw [app_last]
          · rcases List.mem_append.mp ht with ht | ht
            · exact hok t ht
            · rw [List.mem_singleton] at ht
              subst ht
              refine ⟨⟨by rw [len_append, j1, e3]; omega, ?_⟩, ?_⟩
              · rw [asc_app, j2]
                unfold asc
                simp [hc128]
              · have el : (Str.join "" ys ++ (⟨#[c]⟩ : Str)).length = ys.length + 1 := by rw [len_append, j1, e3]
                show (decide (1 ≤ (Str.join "" ys ++ (⟨#[c]⟩ : Str)).length) && decide ((Str.join "" ys ++ (⟨#[c]⟩ : Str)).length ≤ 8) && (Str.join "" ys ++ (⟨#[c]⟩ : Str)).cps.toList.all isLetter) = true
                have ea : ((Str.join "" ys ++ (⟨#[c]⟩ : Str)).cps.toList.all isLetter) = true := by
                  show (((Str.join "" ys).cps ++ #[c]).toList.all isLetter) = true
                  rw [Array.toList_append, List.all_append, join_letters ys hy3]
                  simpa using hcl
                rw [ea, el, decide_eq_true (show 1 ≤ ys.length + 1 by omega), decide_eq_true (show ys.length + 1 ≤ 8 by omega)]
                rfl
      · exact ⟨[], rfl, rfl, by simp, by simp, hf3⟩
    · rintro env G2 ⟨ts, o, rfl, hf2, hl, hls, hok⟩
      simp (config := { maxSteps := 10000000 }) only [tdSeq, tdNext, tdBreak, tdCont, tdDrop, tdRet, tdRetN, tdIfS, tdAsg, tdPar, tdOwn, tdParO, tdAppend, tdExtend, tdGive, giveD, tdVar, tdC, tdBin, tdTest, tdAndT, tdOrT, tdNotT, tdAndV, tdOrV, tdNotV, tdIf, tdChain, tdUn, tdNil, tdCons, tdTup, tdLst, tdLstF, tdCall, tdNoPart, tdPart, tdSl, tdFn, tdFnK, tdBinO, tdCallO, tdOwnIx, tdItems, tdRange, tdRange2, tdFor, tdLcF, tdLc, tdIsi, tdUpper, tdJoin, tdBack, tdZip, tdDictIx, tdGGet, tdGPut, tdOwnArg, gdName, gdNil, gdCons, gdTup, asD_d, asB_d, asI_d, asS_d, asG_g, isOwn_own, useV, look, startD, asAll, allD, Option.map_some, itemsD, List.map_cons, List.map_nil, List.length_cons, List.length_nil, List.set_cons_zero, List.set_cons_succ, List.cons_append, List.nil_append, wipeD, Nat.zero_add, Nat.reduceAdd, Nat.reduceSub, List.reduceReplicate, id_eq, N__law_pool, rdAdd_ii, rdAdd_ss, rdAdd_tt, rdAdd_ll, rdMul_ii, rdII_ii, rdI0_ii, rdInt_i, rdGt_ii, rdGe_ii, rdLt_ii, rdLe_ii, rdLen_l, rdLen_t, rdEq_ii, rdNe_ii, rdEq_ss, rdNe_ss, keyD_s, Option.bind_some, Bool.false_eq_true, if_false, if_true, gv0, gv1, gv2, gv3, gp1, gp2, gp3, gs0, gl0]
      rw [List.length_map, lasts_ok.1] at hl hls
      have hnd : ts.Nodup := by
        have : (ts.map (fun t => t.cps.toList.getLast?)).Nodup := by
          rw [hls]
          exact List.Pairwise.map some (fun a b hab e => hab (Option.some.inj e)) (List.Nodup.sublist (List.take_sublist _ _) lasts_ok.2.1)
        exact List.Pairwise.of_map _ (fun a b hab e => hab (by rw [e])) this
      exact h ts G2 ⟨hnd, by omega, by omega, fun t ht => (hok t ht).1, fun t ht => (hok t ht).2, fun z => lasts_nb (by rw [show lasts.map some = (lasts.take 8).map some by rfl, ← hls]; exact List.mem_map.mpr ⟨_, z, rfl⟩)⟩ (by omega) hf2
    · exact ⟨[], none, rfl, hf1, rfl, rfl, by simp⟩
  · refine ⟨_, rfl, by decide, by decide, hf1, fun x G2 hx hf2 => ?_⟩
    obtain ⟨p, hp, rfl⟩ : ∃ p ∈ pools, x = .list (p.map .str) := by
      have hx : x ∈ pools.map fun p => PyData.list (p.map .str) := hx
      obtain ⟨p, h1, h2⟩ := List.mem_map.mp hx
      exact ⟨p, h1, h2.symm⟩
    refine ⟨8, rfl, by decide, by decide, hf2, fun k G3 k0 k1 hf3 => ?_⟩
    simp (config := { maxSteps := 10000000 }) only [tdSeq, tdNext, tdBreak, tdCont, tdDrop, tdRet, tdRetN, tdIfS, tdAsg, tdPar, tdOwn, tdParO, tdAppend, tdExtend, tdGive, giveD, tdVar, tdC, tdBin, tdTest, tdAndT, tdOrT, tdNotT, tdAndV, tdOrV, tdNotV, tdIf, tdChain, tdUn, tdNil, tdCons, tdTup, tdLst, tdLstF, tdCall, tdNoPart, tdPart, tdSl, tdFn, tdFnK, tdBinO, tdCallO, tdOwnIx, tdItems, tdRange, tdRange2, tdFor, tdLcF, tdLc, tdIsi, tdUpper, tdJoin, tdBack, tdZip, tdDictIx, tdGGet, tdGPut, tdOwnArg, gdName, gdNil, gdCons, gdTup, asD_d, asB_d, asI_d, asS_d, asG_g, isOwn_own, useV, look, startD, asAll, allD, Option.map_some, itemsD, List.map_cons, List.map_nil, List.length_cons, List.length_nil, List.set_cons_zero, List.set_cons_succ, List.cons_append, List.nil_append, wipeD, Nat.zero_add, Nat.reduceAdd, Nat.reduceSub, List.reduceReplicate, id_eq, N__law_pool, rdAdd_ii, rdAdd_ss, rdAdd_tt, rdAdd_ll, rdMul_ii, rdII_ii, rdI0_ii, rdInt_i, rdGt_ii, rdGe_ii, rdLt_ii, rdLe_ii, rdLen_l, rdLen_t, rdEq_ii, rdNe_ii, rdEq_ss, rdNe_ss, keyD_s, Option.bind_some, Bool.false_eq_true, if_false, if_true, gv0, gv1, gv2, gv3, gp1, gp2, gp3, gs0, gl0, rdSl]
    obtain ⟨p1, p2, p3⟩ := pools_ok p hp
    rw [cut_map, cut_map, cut_at _ k0, cut_to _ k0, ← List.map_append]
    have pm := rot_perm p k.toNat
    refine ⟨?_, h (p.drop k.toNat ++ p.take k.toNat) G3 ⟨pm.nodup_iff.mpr p1, by rw [pm.length_eq, p2]; decide, by rw [pm.length_eq, p2]; decide, fun t ht => (p3 t (pm.mem_iff.mp ht)).1, fun t ht => (p3 t (pm.mem_iff.mp ht)).2, fun z => pools_nb p hp (pm.mem_iff.mp z)⟩ (by rw [pm.length_eq, p2]) hf3⟩
    rw [List.length_map, List.length_map, List.length_drop, List.length_take, p2, sizeLine_eq]; omega
/-! ### _law_path -/
abbrev N__law_path : List Str := ["_law_feed_here", "_law_tags", "_law_kind", "_law_far", "_law_low", "_law_found", "_law_k", "_law_some", "_law_tag"]
theorem sc__law_path : FnScope N__law_path ["_law_feed_here", "_law_tags"] (defScope s__law_path) := ⟨rfl, rfl, rfl, by decide +kernel, rfl, by decide +kernel, by decide +kernel⟩
theorem ok__law_path {f : Addr} {fd : FuncData} (Fn : L2.Fun K "_law_path" "_law_path" s__law_path f fd) (B : Bl mg) (M : Md mg) (c__law_draw : Cal pr w K mg base "_law_draw" ["_law_feed_here", "_law_many"] 1 ct__law_draw) (c__law_pick : Cal pr w K mg base "_law_pick" ["_law_feed_here", "_law_some"] 2 ct__law_pick) : FnG pr w K mg base 3 f fd ["_law_feed_here", "_law_tags"] (lSp K ct__law_path) := by
  obtain ⟨_, _, g__law_draw, m__law_draw, k__law_draw, b__law_draw, kk__law_draw⟩ := c__law_draw.ex
  obtain ⟨_, _, g__law_pick, m__law_pick, k__law_pick, b__law_pick, kk__law_pick⟩ := c__law_pick.ex
  have hN := sc__law_path.nd
  refine FnG.data Fn sc__law_path _ (fun cdv A out s H F hK hr hgd => (dss_cons (ds_par (i := 2) (j := 3) rfl hN (da_cons (de_fn (g__law_draw.mono (by omega)) hr hgd hK m__law_draw k__law_draw b__law_draw (da_cons (de_var 0) (da_cons de_int da_nil))) (da_cons (de_callB call_len imp_len B.len_ (da_cons (de_var 1) da_nil)) da_nil)))
      (dss_cons (ds_set (i := 4) hN (de_fn (g__law_draw.mono (by omega)) hr hgd hK m__law_draw k__law_draw b__law_draw (da_cons (de_var 0) (da_cons (de_var 3) da_nil))))
      (dss_cons (ds_if (dt_w (dw_or (dt_cmp (op_eqR hr) imp_eq (de_var 2) de_int) (dw_or1 (dt_cmp (op_eqR hr) imp_eq (de_var 3) de_int)))) (dss_one (ds_ret (de_tup (da_cons (de_ix ix_seq imp_ix (de_var 1) (de_var 4)) da_nil)))) dss_nil)
      (dss_cons (ds_if (dt_cmp op_ltR imp_lt (de_var 2) de_int) (dss_cons (ds_set (i := 7) hN (de_slice sl_R imp_sl (de_var 1) (do_some (de_var 4)) (do_some (de_op op_addR imp_add (de_op op_addR imp_add (de_var 4) de_int) (de_fn (g__law_draw.mono (by omega)) hr hgd hK m__law_draw k__law_draw b__law_draw (da_cons (de_var 0) (da_cons de_int da_nil)))))))
      (dss_one (ds_ret (de_callTy call_tuple_of imp_tuple B.tuple_ (da_cons (de_if (dt_cmp (op_eqR hr) imp_eq (de_var 2) de_int) (de_var 7) (de_back (de_var 7))) da_nil))))) dss_nil)
      (dss_cons (ds_if (dt_cmp (op_eqR hr) imp_eq (de_var 2) de_int) (dss_cons (ds_set (i := 7) hN (de_slice sl_R imp_sl (de_var 1) do_none (do_some (de_op op_addR imp_add de_int (de_fn (g__law_draw.mono (by omega)) hr hgd hK m__law_draw k__law_draw b__law_draw (da_cons (de_var 0) (da_cons (de_op op_sub imp_I0 (de_var 3) de_int) da_nil)))))))
      (dss_one (ds_ret (de_callTy call_tuple_of imp_tuple B.tuple_ (da_cons (de_slice sl_R imp_sl (de_op op_mulR imp_mul (de_var 7) de_int) do_none (do_some (de_op op_addR imp_add (de_op op_addR imp_add (de_callB call_len imp_len B.len_ (da_cons (de_var 7) da_nil)) de_int) (de_fn (g__law_draw.mono (by omega)) hr hgd hK m__law_draw k__law_draw b__law_draw (da_cons (de_var 0) (da_cons de_int da_nil)))))) da_nil))))) dss_nil)
      (dss_cons (ds_own (i := 5) hN (df_lst (da_cons (de_ix ix_seq imp_ix (de_var 1) (de_var 4)) da_nil)))
      (dss_cons (ds_for PassesOwn.never rfl (di_range B.range_ (de_fn (g__law_draw.mono (by omega)) hr hgd hK m__law_draw k__law_draw b__law_draw (da_cons (de_var 0) (da_cons de_int da_nil)))) (dg_name (i := 6) hN) (dss_one (ds_append 5 (de_fn (g__law_pick.mono (by omega)) hr hgd hK m__law_pick k__law_pick b__law_pick (da_cons (de_var 0) (da_cons (de_fresh (df_lc (own := [("_law_tag", 8)]) rfl hN (di_items (de_var 1)) (blk_of (N := N__law_path) (sc := defScope s__law_path) rfl rfl (by decide +kernel)) (fun _ _ _ _ _ => (dg_name (i := 8) hN)) (fun _ _ _ _ _ => (dts_one (dt_cmp (op_neR hr) imp_ne (de_var 8) (de_ownIx 5 (de_lit 40 rfl))))) (fun _ _ _ _ _ => (de_var 8)))) da_nil))))))
      (dss_one (ds_give 5 (ds_ret (de_callTy call_tuple_of imp_tuple B.tuple_ (da_cons (de_var 5) da_nil))))))))))))) fun xs G Q h => ?_
  obtain ⟨ts, rfl, ht, hf, h⟩ := h
  refine ⟨rfl, ?_⟩
  simp (config := { maxSteps := 10000000 }) only [tdSeq, tdNext, tdBreak, tdCont, tdDrop, tdRet, tdRetN, tdIfS, tdAsg, tdPar, tdOwn, tdParO, tdAppend, tdExtend, tdGive, giveD, tdVar, tdC, tdBin, tdTest, tdAndT, tdOrT, tdNotT, tdAndV, tdOrV, tdNotV, tdIf, tdChain, tdUn, tdNil, tdCons, tdTup, tdLst, tdLstF, tdCall, tdNoPart, tdPart, tdSl, tdFn, tdFnK, tdBinO, tdCallO, tdOwnIx, tdItems, tdRange, tdRange2, tdFor, tdLcF, tdLc, tdIsi, tdUpper, tdJoin, tdBack, tdZip, tdDictIx, tdGGet, tdGPut, tdOwnArg, gdName, gdNil, gdCons, gdTup, asD_d, asB_d, asI_d, asS_d, asG_g, isOwn_own, useV, look, startD, asAll, allD, Option.map_some, itemsD, List.map_cons, List.map_nil, List.length_cons, List.length_nil, List.set_cons_zero, List.set_cons_succ, List.cons_append, List.nil_append, wipeD, Nat.zero_add, Nat.reduceAdd, Nat.reduceSub, List.reduceReplicate, id_eq, N__law_path, rdAdd_ii, rdAdd_ss, rdAdd_tt, rdAdd_ll, rdMul_ii, rdII_ii, rdI0_ii, rdInt_i, rdGt_ii, rdGe_ii, rdLt_ii, rdLe_ii, rdLen_l, rdLen_t, rdEq_ii, rdNe_ii, rdEq_ss, rdNe_ss, keyD_s, Option.bind_some, Bool.false_eq_true, if_false, if_true, gv0, gv1, gv2, gv3, gp1, gp2, gp3, gs0, gl0]
  have hp := ht.pos
  have h8 := ht.len
  refine ⟨6, rfl, by decide, by decide, hf, fun kd G1 k0 k1 hf1 => ?_⟩
  refine ⟨_, rfl, by rw [List.length_map]; omega, by rw [List.length_map]; omega, hf1, fun lo G2 l0 l1 hf2 => ?_⟩
  rw [List.length_map] at l1
  obtain ⟨low, rfl⟩ : ∃ n : Nat, lo = (n : Int) := ⟨lo.toNat, by omega⟩
  have hlow : low < ts.length := by omega
  simp (config := { maxSteps := 10000000 }) only [tdSeq, tdNext, tdBreak, tdCont, tdDrop, tdRet, tdRetN, tdIfS, tdAsg, tdPar, tdOwn, tdParO, tdAppend, tdExtend, tdGive, giveD, tdVar, tdC, tdBin, tdTest, tdAndT, tdOrT, tdNotT, tdAndV, tdOrV, tdNotV, tdIf, tdChain, tdUn, tdNil, tdCons, tdTup, tdLst, tdLstF, tdCall, tdNoPart, tdPart, tdSl, tdFn, tdFnK, tdBinO, tdCallO, tdOwnIx, tdItems, tdRange, tdRange2, tdFor, tdLcF, tdLc, tdIsi, tdUpper, tdJoin, tdBack, tdZip, tdDictIx, tdGGet, tdGPut, tdOwnArg, gdName, gdNil, gdCons, gdTup, asD_d, asB_d, asI_d, asS_d, asG_g, isOwn_own, useV, look, startD, asAll, allD, Option.map_some, itemsD, List.map_cons, List.map_nil, List.length_cons, List.length_nil, List.set_cons_zero, List.set_cons_succ, List.cons_append, List.nil_append, wipeD, Nat.zero_add, Nat.reduceAdd, Nat.reduceSub, List.reduceReplicate, id_eq, N__law_path, rdAdd_ii, rdAdd_ss, rdAdd_tt, rdAdd_ll, rdMul_ii, rdII_ii, rdI0_ii, rdInt_i, rdGt_ii, rdGe_ii, rdLt_ii, rdLe_ii, rdLen_l, rdLen_t, rdEq_ii, rdNe_ii, rdEq_ss, rdNe_ss, keyD_s, Option.bind_some, Bool.false_eq_true, if_false, if_true, gv0, gv1, gv2, gv3, gp1, gp2, gp3, gs0, gl0, rdIx, atI_str hlow]
  have one : Q (.d (.tuple [.str ts[low]])) G2 := h [ts[low]] G2 ⟨fun t h => by rw [List.mem_singleton] at h; rw [h]; exact List.getElem_mem _, by simp, by simp, adj_one _⟩ hf2
  refine itB (fun _ => ⟨by decide, one⟩) (fun hk => itB (fun _ => ⟨by decide, one⟩) (fun hn => ?_))
  rw [List.length_map, decide_eq_false_iff_not] at hn
  have hn' : ts.length ≠ 1 := by omega
  refine itB (fun _ => ?_) (fun _ => ?_)
  · refine ⟨3, rfl, by decide, by decide, hf2, fun d G3 d0 d1 hf3 => ?_⟩
    simp (config := { maxSteps := 10000000 }) only [tdSeq, tdNext, tdBreak, tdCont, tdDrop, tdRet, tdRetN, tdIfS, tdAsg, tdPar, tdOwn, tdParO, tdAppend, tdExtend, tdGive, giveD, tdVar, tdC, tdBin, tdTest, tdAndT, tdOrT, tdNotT, tdAndV, tdOrV, tdNotV, tdIf, tdChain, tdUn, tdNil, tdCons, tdTup, tdLst, tdLstF, tdCall, tdNoPart, tdPart, tdSl, tdFn, tdFnK, tdBinO, tdCallO, tdOwnIx, tdItems, tdRange, tdRange2, tdFor, tdLcF, tdLc, tdIsi, tdUpper, tdJoin, tdBack, tdZip, tdDictIx, tdGGet, tdGPut, tdOwnArg, gdName, gdNil, gdCons, gdTup, asD_d, asB_d, asI_d, asS_d, asG_g, isOwn_own, useV, look, startD, asAll, allD, Option.map_some, itemsD, List.map_cons, List.map_nil, List.length_cons, List.length_nil, List.set_cons_zero, List.set_cons_succ, List.cons_append, List.nil_append, wipeD, Nat.zero_add, Nat.reduceAdd, Nat.reduceSub, List.reduceReplicate, id_eq, N__law_path, rdAdd_ii, rdAdd_ss, rdAdd_tt, rdAdd_ll, rdMul_ii, rdII_ii, rdI0_ii, rdInt_i, rdGt_ii, rdGe_ii, rdLt_ii, rdLe_ii, rdLen_l, rdLen_t, rdEq_ii, rdNe_ii, rdEq_ss, rdNe_ss, keyD_s, Option.bind_some, Bool.false_eq_true, if_false, if_true, gv0, gv1, gv2, gv3, gp1, gp2, gp3, gs0, gl0, rdSl, rdTuple]
    rw [cut_map]
    have hcut : 0 < (cutL ts (some (low : Int)) (some ((low : Int) + 2 + d))).length := by
      rw [cut_from _ (by omega) (by omega)]; omega
    have hP := cut_path hcut h8 ht.nd
    refine itB (fun _ => ?_) (fun _ => ?_)
    · exact h _ G3 hP hf3
    · rw [← List.map_reverse]
      exact h _ G3 ⟨fun t ht => hP.sub t (List.mem_reverse.mp ht), by rw [List.length_reverse]; exact hcut, by rw [List.length_reverse]; exact hP.len, adj_rev hP.adj⟩ hf3
  · refine itB (fun _ => ?_) (fun _ => ?_)
    · refine ⟨_, rfl, by rw [List.length_map]; omega, by rw [List.length_map]; omega, hf2, fun d G3 d0 d1 hf3 => ?_⟩
      simp (config := { maxSteps := 10000000 }) only [tdSeq, tdNext, tdBreak, tdCont, tdDrop, tdRet, tdRetN, tdIfS, tdAsg, tdPar, tdOwn, tdParO, tdAppend, tdExtend, tdGive, giveD, tdVar, tdC, tdBin, tdTest, tdAndT, tdOrT, tdNotT, tdAndV, tdOrV, tdNotV, tdIf, tdChain, tdUn, tdNil, tdCons, tdTup, tdLst, tdLstF, tdCall, tdNoPart, tdPart, tdSl, tdFn, tdFnK, tdBinO, tdCallO, tdOwnIx, tdItems, tdRange, tdRange2, tdFor, tdLcF, tdLc, tdIsi, tdUpper, tdJoin, tdBack, tdZip, tdDictIx, tdGGet, tdGPut, tdOwnArg, gdName, gdNil, gdCons, gdTup, asD_d, asB_d, asI_d, asS_d, asG_g, isOwn_own, useV, look, startD, asAll, allD, Option.map_some, itemsD, List.map_cons, List.map_nil, List.length_cons, List.length_nil, List.set_cons_zero, List.set_cons_succ, List.cons_append, List.nil_append, wipeD, Nat.zero_add, Nat.reduceAdd, Nat.reduceSub, List.reduceReplicate, id_eq, N__law_path, rdAdd_ii, rdAdd_ss, rdAdd_tt, rdAdd_ll, rdMul_ii, rdII_ii, rdI0_ii, rdInt_i, rdGt_ii, rdGe_ii, rdLt_ii, rdLe_ii, rdLen_l, rdLen_t, rdEq_ii, rdNe_ii, rdEq_ss, rdNe_ss, keyD_s, Option.bind_some, Bool.false_eq_true, if_false, if_true, gv0, gv1, gv2, gv3, gp1, gp2, gp3, gs0, gl0, rdSl, rdTuple, rdMul]
      rw [cut_map]
      have hs : 0 < (cutL ts none (some (2 + d))).length := by
        rw [cut_to _ (by omega), List.length_take]; omega
      have hs8 := cut_len ts none (some (2 + d))
      refine ⟨⟨by decide, by decide, by rw [List.length_map, sizeLine_eq, show Int.toNat 12 = 12 by rfl]; omega⟩, ?_⟩
      refine ⟨2, rfl, by decide, by decide, hf3, fun d' G4 e0 e1 hf4 => ?_⟩
      simp (config := { maxSteps := 10000000 }) only [tdSeq, tdNext, tdBreak, tdCont, tdDrop, tdRet, tdRetN, tdIfS, tdAsg, tdPar, tdOwn, tdParO, tdAppend, tdExtend, tdGive, giveD, tdVar, tdC, tdBin, tdTest, tdAndT, tdOrT, tdNotT, tdAndV, tdOrV, tdNotV, tdIf, tdChain, tdUn, tdNil, tdCons, tdTup, tdLst, tdLstF, tdCall, tdNoPart, tdPart, tdSl, tdFn, tdFnK, tdBinO, tdCallO, tdOwnIx, tdItems, tdRange, tdRange2, tdFor, tdLcF, tdLc, tdIsi, tdUpper, tdJoin, tdBack, tdZip, tdDictIx, tdGGet, tdGPut, tdOwnArg, gdName, gdNil, gdCons, gdTup, asD_d, asB_d, asI_d, asS_d, asG_g, isOwn_own, useV, look, startD, asAll, allD, Option.map_some, itemsD, List.map_cons, List.map_nil, List.length_cons, List.length_nil, List.set_cons_zero, List.set_cons_succ, List.cons_append, List.nil_append, wipeD, Nat.zero_add, Nat.reduceAdd, Nat.reduceSub, List.reduceReplicate, id_eq, N__law_path, rdAdd_ii, rdAdd_ss, rdAdd_tt, rdAdd_ll, rdMul_ii, rdII_ii, rdI0_ii, rdInt_i, rdGt_ii, rdGe_ii, rdLt_ii, rdLe_ii, rdLen_l, rdLen_t, rdEq_ii, rdNe_ii, rdEq_ss, rdNe_ss, keyD_s, Option.bind_some, Bool.false_eq_true, if_false, if_true, gv0, gv1, gv2, gv3, gp1, gp2, gp3, gs0, gl0, rdSl, rdTuple, rdMul]
      rw [rep_map, cut_map]
      have hl : 0 < (cutL (List.replicate (Int.toNat 12) (cutL ts none (some (2 + d)))).flatten none (some ((((cutL ts none (some (2 + d))).map PyData.str).length : Int) + 1 + d'))).length := by
        rw [cut_to _ (by omega), List.length_take, rep_len, show Int.toNat 12 = 12 by rfl]
        omega
      refine h _ G4 ⟨fun t ht => cut_sub (rep_mem (cut_sub ht)), hl, ?_, ?_⟩ hf4
      · rw [cut_to _ (by omega), List.length_take, List.length_map]
        omega
      · rw [cut_to _ (by omega)]
        refine adj_take (adj_cyc (cut_nodup ht.nd) ?_ _) _
        rw [cut_to _ (by omega), List.length_take]
        omega
    · refine ⟨by decide, 12, rfl, by decide, by decide, hf2, fun m G3 m0 m1 hf3 => ?_⟩
      simp only [asD_d, asI_d]
      refine ⟨by omega, ?_⟩
      refine dloop_by _ (fun n env G' => ∃ (ps : List Str) (o : Option SV), env = [some (.g 0), some (.d (.list (ts.map .str))), some (.d (.int kd)), some (.d (.int ((ts.map PyData.str).length : Nat))), some (.d (.int (low : Nat))), some (.own (ps.map .str)), o, none, none] ∧ Fd G' ∧ ps.length = n + 1 ∧ Adj ps ∧ ∀ t ∈ ps, t ∈ ts) 0 _ _ ?_ ?_ ?_
      · rintro i x env G4 hi ⟨ps, o, rfl, hf4, hl, hadj, hsub⟩ nx hnx
        have hne : ps.map PyData.str ≠ [] := by
          intro z
          have := congrArg List.length z
          rw [List.length_map, hl] at this
          simp at this
        have hi12 : i < 12 := by
          have := (List.getElem?_eq_some_iff.mp hi).1
          rw [List.length_map, List.length_range] at this
          omega
        obtain ⟨l, hlast⟩ : ∃ l : Str, (ps.map PyData.str).getLast hne = .str l := by
          obtain ⟨t, _, e⟩ := List.mem_map.mp (List.getLast_mem hne)
          exact ⟨t, e.symm⟩
        simp (config := { maxSteps := 10000000 }) only [tdSeq, tdNext, tdBreak, tdCont, tdDrop, tdRet, tdRetN, tdIfS, tdAsg, tdPar, tdOwn, tdParO, tdAppend, tdExtend, tdGive, giveD, tdVar, tdC, tdBin, tdTest, tdAndT, tdOrT, tdNotT, tdAndV, tdOrV, tdNotV, tdIf, tdChain, tdUn, tdNil, tdCons, tdTup, tdLst, tdLstF, tdCall, tdNoPart, tdPart, tdSl, tdFn, tdFnK, tdBinO, tdCallO, tdOwnIx, tdItems, tdRange, tdRange2, tdFor, tdLcF, tdLc, tdIsi, tdUpper, tdJoin, tdBack, tdZip, tdDictIx, tdGGet, tdGPut, tdOwnArg, gdName, gdNil, gdCons, gdTup, asD_d, asB_d, asI_d, asS_d, asG_g, isOwn_own, useV, look, startD, asAll, allD, Option.map_some, itemsD, List.map_cons, List.map_nil, List.length_cons, List.length_nil, List.set_cons_zero, List.set_cons_succ, List.cons_append, List.nil_append, wipeD, Nat.zero_add, Nat.reduceAdd, Nat.reduceSub, List.reduceReplicate, id_eq, N__law_path, rdAdd_ii, rdAdd_ss, rdAdd_tt, rdAdd_ll, rdMul_ii, rdII_ii, rdI0_ii, rdInt_i, rdGt_ii, rdGe_ii, rdLt_ii, rdLe_ii, rdLen_l, rdLen_t, rdEq_ii, rdNe_ii, rdEq_ss, rdNe_ss, keyD_s, Option.bind_some, Bool.false_eq_true, if_false, if_true, gv0, gv1, gv2, gv3, gp1, gp2, gp3, gs0, gl0]
        refine lcl_pick (offStr l) (ts.map .str) [] (by rw [List.length_nil, List.length_map, sizeLine_eq]; omega) (fun z hz K1 K2 kk => ?_) ?_
        · obtain ⟨t, _, rfl⟩ := List.mem_map.mp hz
          simp (config := { maxSteps := 10000000 }) only [tdSeq, tdNext, tdBreak, tdCont, tdDrop, tdRet, tdRetN, tdIfS, tdAsg, tdPar, tdOwn, tdParO, tdAppend, tdExtend, tdGive, giveD, tdVar, tdC, tdBin, tdTest, tdAndT, tdOrT, tdNotT, tdAndV, tdOrV, tdNotV, tdIf, tdChain, tdUn, tdNil, tdCons, tdTup, tdLst, tdLstF, tdCall, tdNoPart, tdPart, tdSl, tdFn, tdFnK, tdBinO, tdCallO, tdOwnIx, tdItems, tdRange, tdRange2, tdFor, tdLcF, tdLc, tdIsi, tdUpper, tdJoin, tdBack, tdZip, tdDictIx, tdGGet, tdGPut, tdOwnArg, gdName, gdNil, gdCons, gdTup, asD_d, asB_d, asI_d, asS_d, asG_g, isOwn_own, useV, look, startD, asAll, allD, Option.map_some, itemsD, List.map_cons, List.map_nil, List.length_cons, List.length_nil, List.set_cons_zero, List.set_cons_succ, List.cons_append, List.nil_append, wipeD, Nat.zero_add, Nat.reduceAdd, Nat.reduceSub, List.reduceReplicate, id_eq, N__law_path, rdAdd_ii, rdAdd_ss, rdAdd_tt, rdAdd_ll, rdMul_ii, rdII_ii, rdI0_ii, rdInt_i, rdGt_ii, rdGe_ii, rdLt_ii, rdLe_ii, rdLen_l, rdLen_t, rdEq_ii, rdNe_ii, rdEq_ss, rdNe_ss, keyD_s, Option.bind_some, Bool.false_eq_true, if_false, if_true, gv0, gv1, gv2, gv3, gp1, gp2, gp3, gs0, gl0, atI_last hne, hlast]
          unfold offStr at kk
          simp only at kk
          by_cases q : t = l
          · rw [if_pos q] at kk
            exact itF (by simp [q]) kk
          · rw [if_neg q] at kk
            exact itT (by simp [q]) kk
        · rw [List.nil_append]
          refine ⟨_, rfl, off_pos (tags_other ht hn' l), ?_, hf4, fun x G5 hx hf5 => ?_⟩
          · have := List.length_filterMap_le (offStr l) (ts.map PyData.str)
            rw [List.length_map] at this
            omega
          · obtain ⟨t, h1, rfl⟩ := off_mem hx
            simp only [asD_d]
            refine ⟨by rw [List.length_map, hl, sizeLine_eq]; omega, hnx _ _ ⟨ps ++ [t], _, by rw [List.map_append]; rfl, hf5, by rw [List.length_append, hl]; rfl, adj_snoc hadj (fun e => ?_), fun u hu => ?_⟩⟩
            · have e2 : (ps.map PyData.str).getLast? = some (.str t) := by rw [List.getLast?_map, e]; rfl
              rw [List.getLast?_eq_some_getLast hne, hlast] at e2
              exact off_ne hx (by injection e2 with e3; injection e3 with e4; exact e4.symm)
            rcases List.mem_append.mp hu with hu | hu
            · exact hsub u hu
            · rw [List.mem_singleton] at hu
              rw [hu]; exact h1
      · rintro env G4 ⟨ps, o, rfl, hf4, hl, hadj, hsub⟩
        simp (config := { maxSteps := 10000000 }) only [tdSeq, tdNext, tdBreak, tdCont, tdDrop, tdRet, tdRetN, tdIfS, tdAsg, tdPar, tdOwn, tdParO, tdAppend, tdExtend, tdGive, giveD, tdVar, tdC, tdBin, tdTest, tdAndT, tdOrT, tdNotT, tdAndV, tdOrV, tdNotV, tdIf, tdChain, tdUn, tdNil, tdCons, tdTup, tdLst, tdLstF, tdCall, tdNoPart, tdPart, tdSl, tdFn, tdFnK, tdBinO, tdCallO, tdOwnIx, tdItems, tdRange, tdRange2, tdFor, tdLcF, tdLc, tdIsi, tdUpper, tdJoin, tdBack, tdZip, tdDictIx, tdGGet, tdGPut, tdOwnArg, gdName, gdNil, gdCons, gdTup, asD_d, asB_d, asI_d, asS_d, asG_g, isOwn_own, useV, look, startD, asAll, allD, Option.map_some, itemsD, List.map_cons, List.map_nil, List.length_cons, List.length_nil, List.set_cons_zero, List.set_cons_succ, List.cons_append, List.nil_append, wipeD, Nat.zero_add, Nat.reduceAdd, Nat.reduceSub, List.reduceReplicate, id_eq, N__law_path, rdAdd_ii, rdAdd_ss, rdAdd_tt, rdAdd_ll, rdMul_ii, rdII_ii, rdI0_ii, rdInt_i, rdGt_ii, rdGe_ii, rdLt_ii, rdLe_ii, rdLen_l, rdLen_t, rdEq_ii, rdNe_ii, rdEq_ss, rdNe_ss, keyD_s, Option.bind_some, Bool.false_eq_true, if_false, if_true, gv0, gv1, gv2, gv3, gp1, gp2, gp3, gs0, gl0, rdTuple]
        rw [List.length_map, List.length_range] at hl
        exact h ps G4 ⟨hsub, by omega, by omega, hadj⟩ hf4
      · exact ⟨[ts[low]], none, rfl, hf3, rfl, adj_one _, fun t h => by rw [List.mem_singleton] at h; rw [h]; exact List.getElem_mem _⟩
/-! ### _law_plan -/
abbrev N__law_plan : List Str := ["_law_feed_here", "_law_tags", "_law_bears", "_law_found", "_law_k", "_law_some", "_law_tag"]
theorem sc__law_plan : FnScope N__law_plan ["_law_feed_here"] (defScope s__law_plan) := ⟨rfl, rfl, rfl, by decide +kernel, rfl, by decide +kernel, by decide +kernel⟩
theorem ok__law_plan {f : Addr} {fd : FuncData} (Fn : L2.Fun K "_law_plan" "_law_plan" s__law_plan f fd) (B : Bl mg) (M : Md mg) (c__law_pool : Cal pr w K mg base "_law_pool" ["_law_feed_here"] 3 ct__law_pool) (c__law_pick : Cal pr w K mg base "_law_pick" ["_law_feed_here", "_law_some"] 2 ct__law_pick) (c__law_path : Cal pr w K mg base "_law_path" ["_law_feed_here", "_law_tags"] 3 ct__law_path) (c__law_draw : Cal pr w K mg base "_law_draw" ["_law_feed_here", "_law_many"] 1 ct__law_draw) : FnG pr w K mg base 4 f fd ["_law_feed_here"] (lSp K ct__law_plan) := by
  obtain ⟨_, _, g__law_pool, m__law_pool, k__law_pool, b__law_pool, kk__law_pool⟩ := c__law_pool.ex
  obtain ⟨_, _, g__law_pick, m__law_pick, k__law_pick, b__law_pick, kk__law_pick⟩ := c__law_pick.ex
  obtain ⟨_, _, g__law_path, m__law_path, k__law_path, b__law_path, kk__law_path⟩ := c__law_path.ex
  obtain ⟨_, _, g__law_draw, m__law_draw, k__law_draw, b__law_draw, kk__law_draw⟩ := c__law_draw.ex
  have hN := sc__law_plan.nd
  refine FnG.data Fn sc__law_plan _ (fun cdv A out s H F hK hr hgd => (dss_cons (ds_set (i := 1) hN (de_callB (cr_sortD hr) imp_sorted B.sorted_ (da_cons (de_slice sl_R imp_sl (de_fn (g__law_pool.mono (by omega)) hr hgd hK m__law_pool k__law_pool b__law_pool (da_cons (de_var 0) da_nil)) do_none (do_some (de_fn (g__law_pick.mono (by omega)) hr hgd hK m__law_pick k__law_pick b__law_pick (da_cons (de_var 0) (da_cons (de_lit 40 rfl) da_nil))))) da_nil)))
      (dss_cons (ds_set (i := 2) hN (de_callTy call_tuple_of imp_tuple B.tuple_ (da_cons (de_fresh (df_lc (own := [("_law_tag", 6)]) rfl hN (di_items (de_var 1)) (blk_of (N := N__law_plan) (sc := defScope s__law_plan) rfl rfl (by decide +kernel)) (fun _ _ _ _ _ => (dg_name (i := 6) hN)) (fun _ _ _ _ _ => dts_nil) (fun _ _ _ _ _ => (de_tup (da_cons (de_var 6) (da_cons (de_fn (g__law_pick.mono (by omega)) hr hgd hK m__law_pick k__law_pick b__law_pick (da_cons (de_var 0) (da_cons (de_lit 40 rfl) da_nil))) da_nil)))))) da_nil)))
      (dss_cons (ds_own (i := 3) hN (df_lst da_nil))
      (dss_cons (ds_for PassesOwn.never rfl (di_range B.range_ (de_fn (g__law_pick.mono (by omega)) hr hgd hK m__law_pick k__law_pick b__law_pick (da_cons (de_var 0) (da_cons (de_lit 40 rfl) da_nil)))) (dg_name (i := 4) hN) (dss_cons (ds_set (i := 5) hN (de_fn (g__law_path.mono (by omega)) hr hgd hK m__law_path k__law_path b__law_path (da_cons (de_var 0) (da_cons (de_var 1) da_nil))))
      (dss_cons (ds_if (dt_w (dw_and (dt_cmpO 3 (op_neR hr) imp_ne (de_lit 40 rfl)) (dw_and1 (dt_cmp (op_eqR hr) imp_eq (de_fn (g__law_draw.mono (by omega)) hr hgd hK m__law_draw k__law_draw b__law_draw (da_cons (de_var 0) (da_cons de_int da_nil))) de_int)))) (dss_one (ds_set (i := 5) hN (de_if (dt_cmp (op_eqR hr) imp_eq (de_fn (g__law_draw.mono (by omega)) hr hgd hK m__law_draw k__law_draw b__law_draw (da_cons (de_var 0) (da_cons de_int da_nil))) de_int) (de_back (de_ownIx 3 (de_lit 40 rfl))) (de_ownIx 3 de_int)))) dss_nil)
      (dss_one (ds_append 3 (de_var 5))))))
      (dss_one (ds_give 3 (ds_ret (de_tup (da_cons (de_var 2) (da_cons (de_callTy call_tuple_of imp_tuple B.tuple_ (da_cons (de_var 3) da_nil)) da_nil))))))))))) fun xs G Q h => ?_
  obtain ⟨rfl, hf, h⟩ := h
  refine ⟨rfl, ?_⟩
  simp (config := { maxSteps := 10000000 }) only [tdSeq, tdNext, tdBreak, tdCont, tdDrop, tdRet, tdRetN, tdIfS, tdAsg, tdPar, tdOwn, tdParO, tdAppend, tdExtend, tdGive, giveD, tdVar, tdC, tdBin, tdTest, tdAndT, tdOrT, tdNotT, tdAndV, tdOrV, tdNotV, tdIf, tdChain, tdUn, tdNil, tdCons, tdTup, tdLst, tdLstF, tdCall, tdNoPart, tdPart, tdSl, tdFn, tdFnK, tdBinO, tdCallO, tdOwnIx, tdItems, tdRange, tdRange2, tdFor, tdLcF, tdLc, tdIsi, tdUpper, tdJoin, tdBack, tdZip, tdDictIx, tdGGet, tdGPut, tdOwnArg, gdName, gdNil, gdCons, gdTup, asD_d, asB_d, asI_d, asS_d, asG_g, isOwn_own, useV, look, startD, asAll, allD, Option.map_some, itemsD, List.map_cons, List.map_nil, List.length_cons, List.length_nil, List.set_cons_zero, List.set_cons_succ, List.cons_append, List.nil_append, wipeD, Nat.zero_add, Nat.reduceAdd, Nat.reduceSub, List.reduceReplicate, id_eq, N__law_plan, rdAdd_ii, rdAdd_ss, rdAdd_tt, rdAdd_ll, rdMul_ii, rdII_ii, rdI0_ii, rdInt_i, rdGt_ii, rdGe_ii, rdLt_ii, rdLe_ii, rdLen_l, rdLen_t, rdEq_ii, rdNe_ii, rdEq_ss, rdNe_ss, keyD_s, Option.bind_some, Bool.false_eq_true, if_false, if_true, gv0, gv1, gv2, gv3, gp1, gp2, gp3, gs0, gl0]
  refine ⟨rfl, hf, fun ts0 G1 ht0 h80 hf1 => ?_⟩
  refine ⟨_, rfl, by decide, by decide, hf1, fun x G2 hx hf2 => ?_⟩
  obtain ⟨i, rfl, i0, i1⟩ := int_in 1 8 [1, 2, 2, 3, 3, 4, 5, 8] hx (by decide)
  simp (config := { maxSteps := 10000000 }) only [tdSeq, tdNext, tdBreak, tdCont, tdDrop, tdRet, tdRetN, tdIfS, tdAsg, tdPar, tdOwn, tdParO, tdAppend, tdExtend, tdGive, giveD, tdVar, tdC, tdBin, tdTest, tdAndT, tdOrT, tdNotT, tdAndV, tdOrV, tdNotV, tdIf, tdChain, tdUn, tdNil, tdCons, tdTup, tdLst, tdLstF, tdCall, tdNoPart, tdPart, tdSl, tdFn, tdFnK, tdBinO, tdCallO, tdOwnIx, tdItems, tdRange, tdRange2, tdFor, tdLcF, tdLc, tdIsi, tdUpper, tdJoin, tdBack, tdZip, tdDictIx, tdGGet, tdGPut, tdOwnArg, gdName, gdNil, gdCons, gdTup, asD_d, asB_d, asI_d, asS_d, asG_g, isOwn_own, useV, look, startD, asAll, allD, Option.map_some, itemsD, List.map_cons, List.map_nil, List.length_cons, List.length_nil, List.set_cons_zero, List.set_cons_succ, List.cons_append, List.nil_append, wipeD, Nat.zero_add, Nat.reduceAdd, Nat.reduceSub, List.reduceReplicate, id_eq, N__law_plan, rdAdd_ii, rdAdd_ss, rdAdd_tt, rdAdd_ll, rdMul_ii, rdII_ii, rdI0_ii, rdInt_i, rdGt_ii, rdGe_ii, rdLt_ii, rdLe_ii, rdLen_l, rdLen_t, rdEq_ii, rdNe_ii, rdEq_ss, rdNe_ss, keyD_s, Option.bind_some, Bool.false_eq_true, if_false, if_true, gv0, gv1, gv2, gv3, gp1, gp2, gp3, gs0, gl0, rdSl, rdSorted, rdTuple]
  rw [cut_map, cut_to _ (by omega)]
  refine ⟨strs_sort _ (by rw [List.length_take, sizeLine_eq]; omega), ?_⟩
  obtain ⟨ts, ets, pm⟩ := strs_of_perm (sortD_perm ((ts0.take i.toNat).map PyData.str))
  rw [ets]
  have ht : Tags ts := by
    have hl : ts.length = min i.toNat 8 := by rw [pm.length_eq, List.length_take, h80]
    refine ⟨pm.nodup_iff.mpr (ht0.nd.sublist (List.take_sublist _ _)), by omega, by omega, fun t h => ht0.ok t (List.mem_of_mem_take (pm.mem_iff.mp h)), fun t h => ht0.nm t (List.mem_of_mem_take (pm.mem_iff.mp h)), fun z => ht0.nb (List.mem_of_mem_take (pm.mem_iff.mp z))⟩
  have hup := strs_up ets ht.nd
  have h8 := ht.len
  refine lcl_by _ (fun n acc G' => ∃ bs : List (Str × Int), acc = bs.map bearD ∧ bs.map (·.1) = ts.take n ∧ (∀ b ∈ bs, 1 ≤ b.2 ∧ b.2 ≤ 3) ∧ Fd G') 0 [] _ (by rw [List.length_nil, List.length_map, sizeLine_eq]; omega) ?_ ?_ ?_
  · rintro j x acc G3 hj ⟨bs, rfl, hb1, hb2, hf3⟩ K1 K2 k1' k2'
    obtain ⟨t, ht', rfl⟩ : ∃ t, ts[j]? = some t ∧ x = .str t := by
      rw [List.getElem?_map] at hj
      obtain ⟨c, h1, h2⟩ := Option.map_eq_some_iff.mp hj
      exact ⟨c, h1, h2.symm⟩
    simp (config := { maxSteps := 10000000 }) only [tdSeq, tdNext, tdBreak, tdCont, tdDrop, tdRet, tdRetN, tdIfS, tdAsg, tdPar, tdOwn, tdParO, tdAppend, tdExtend, tdGive, giveD, tdVar, tdC, tdBin, tdTest, tdAndT, tdOrT, tdNotT, tdAndV, tdOrV, tdNotV, tdIf, tdChain, tdUn, tdNil, tdCons, tdTup, tdLst, tdLstF, tdCall, tdNoPart, tdPart, tdSl, tdFn, tdFnK, tdBinO, tdCallO, tdOwnIx, tdItems, tdRange, tdRange2, tdFor, tdLcF, tdLc, tdIsi, tdUpper, tdJoin, tdBack, tdZip, tdDictIx, tdGGet, tdGPut, tdOwnArg, gdName, gdNil, gdCons, gdTup, asD_d, asB_d, asI_d, asS_d, asG_g, isOwn_own, useV, look, startD, asAll, allD, Option.map_some, itemsD, List.map_cons, List.map_nil, List.length_cons, List.length_nil, List.set_cons_zero, List.set_cons_succ, List.cons_append, List.nil_append, wipeD, Nat.zero_add, Nat.reduceAdd, Nat.reduceSub, List.reduceReplicate, id_eq, N__law_plan, rdAdd_ii, rdAdd_ss, rdAdd_tt, rdAdd_ll, rdMul_ii, rdII_ii, rdI0_ii, rdInt_i, rdGt_ii, rdGe_ii, rdLt_ii, rdLe_ii, rdLen_l, rdLen_t, rdEq_ii, rdNe_ii, rdEq_ss, rdNe_ss, keyD_s, Option.bind_some, Bool.false_eq_true, if_false, if_true, gv0, gv1, gv2, gv3, gp1, gp2, gp3, gs0, gl0, tdYes]
    refine ⟨_, rfl, by decide, by decide, hf3, fun y G4 hy hf4 => ?_⟩
    obtain ⟨c, rfl, c0, c1⟩ := int_in 1 3 [1, 1, 2, 2, 3, 3] hy (by decide)
    try simp only [asD_d]
    refine ⟨by show 2 ≤ sizeLine; decide, k1' _ _ ⟨bs ++ [(t, c)], by rw [List.map_append]; rfl, ?_, fun b hb => ?_, hf4⟩⟩
    · rw [List.map_append, hb1, Nat.zero_add, List.take_add_one, ht']; rfl
    · rcases List.mem_append.mp hb with hb | hb
      · exact hb2 b hb
      · rw [List.mem_singleton] at hb
        subst hb
        exact ⟨c0, c1⟩
  · rintro acc G3 ⟨bs, rfl, hb1, hb2, hf3⟩
    rw [List.length_map, Nat.zero_add, List.take_of_length_le (Nat.le_refl _)] at hb1
    refine ⟨by decide, _, rfl, by decide, by decide, hf3, fun y G4 hy hf4 => ?_⟩
    obtain ⟨m, rfl, m0, m1⟩ := int_in 0 8 [0, 1, 2, 2, 3, 3, 4, 8] hy (by decide)
    try simp only [asD_d, asI_d]
    refine ⟨by omega, ?_⟩
    refine dloop_by _ (fun n env G' => ∃ (ps : List (List Str)) (o1 o2 : Option SV), env = [some (.g 0), some (.d (.list (ts.map .str))), some (.d (.tuple (bs.map bearD))), some (.own (ps.map pathD)), o1, o2, none] ∧ Fd G' ∧ ps.length = n ∧ ∀ p ∈ ps, Path ts p) 0 _ _ ?_ ?_ ?_
    · rintro i x env G5 hi ⟨ps, o1, o2, rfl, hf5, hl, hps⟩ nx hnx
      have hi8 : i < 8 := by
        have := (List.getElem?_eq_some_iff.mp hi).1
        rw [List.length_map, List.length_range] at this
        omega
      simp (config := { maxSteps := 10000000 }) only [tdSeq, tdNext, tdBreak, tdCont, tdDrop, tdRet, tdRetN, tdIfS, tdAsg, tdPar, tdOwn, tdParO, tdAppend, tdExtend, tdGive, giveD, tdVar, tdC, tdBin, tdTest, tdAndT, tdOrT, tdNotT, tdAndV, tdOrV, tdNotV, tdIf, tdChain, tdUn, tdNil, tdCons, tdTup, tdLst, tdLstF, tdCall, tdNoPart, tdPart, tdSl, tdFn, tdFnK, tdBinO, tdCallO, tdOwnIx, tdItems, tdRange, tdRange2, tdFor, tdLcF, tdLc, tdIsi, tdUpper, tdJoin, tdBack, tdZip, tdDictIx, tdGGet, tdGPut, tdOwnArg, gdName, gdNil, gdCons, gdTup, asD_d, asB_d, asI_d, asS_d, asG_g, isOwn_own, useV, look, startD, asAll, allD, Option.map_some, itemsD, List.map_cons, List.map_nil, List.length_cons, List.length_nil, List.set_cons_zero, List.set_cons_succ, List.cons_append, List.nil_append, wipeD, Nat.zero_add, Nat.reduceAdd, Nat.reduceSub, List.reduceReplicate, id_eq, N__law_plan, rdAdd_ii, rdAdd_ss, rdAdd_tt, rdAdd_ll, rdMul_ii, rdII_ii, rdI0_ii, rdInt_i, rdGt_ii, rdGe_ii, rdLt_ii, rdLe_ii, rdLen_l, rdLen_t, rdEq_ii, rdNe_ii, rdEq_ss, rdNe_ss, keyD_s, Option.bind_some, Bool.false_eq_true, if_false, if_true, gv0, gv1, gv2, gv3, gp1, gp2, gp3, gs0, gl0]
      refine ⟨ts, rfl, ht, hf5, fun p G6 hp hf6 => ?_⟩
      simp only [rdNe]
      have add : ∀ (q : List Str) (o : Option SV) (G' : GS), Path ts q → Fd G' → (ps.map pathD).length < sizeLine ∧ nx [some (.g 0), some (.d (.list (ts.map .str))), some (.d (.tuple (bs.map bearD))), some (.own (ps.map pathD ++ [pathD q])), some (.d x), o, none] G' := by
        intro q o G' hq hG
        refine ⟨by rw [List.length_map, hl, sizeLine_eq]; omega, hnx _ _ ⟨ps ++ [q], _, _, by rw [List.map_append]; rfl, hG, by rw [List.length_append, hl]; rfl, fun u hu => ?_⟩⟩
        rcases List.mem_append.mp hu with hu | hu
        · exact hps u hu
        · rw [List.mem_singleton] at hu
          rw [hu]; exact hq
      refine ⟨okEq_lists (shaped_list fun d hd => ?_) (by decide +kernel), rfl, ?_⟩
      · obtain ⟨u, hu, rfl⟩ := List.mem_map.mp hd
        have := path_plain ht (hps u hu)
        exact ⟨this.1, by omega⟩
      rw [eqv_nilL]
      refine itB (fun hne => ?_) (fun _ => add p _ G6 hp hf6)
      have hne' : ps.map pathD ≠ [] := by
        intro z
        rw [z] at hne
        simp at hne
      refine ⟨4, rfl, by decide, by decide, hf6, fun d G7 d0 d1 hf7 => ?_⟩
      simp (config := { maxSteps := 10000000 }) only [tdSeq, tdNext, tdBreak, tdCont, tdDrop, tdRet, tdRetN, tdIfS, tdAsg, tdPar, tdOwn, tdParO, tdAppend, tdExtend, tdGive, giveD, tdVar, tdC, tdBin, tdTest, tdAndT, tdOrT, tdNotT, tdAndV, tdOrV, tdNotV, tdIf, tdChain, tdUn, tdNil, tdCons, tdTup, tdLst, tdLstF, tdCall, tdNoPart, tdPart, tdSl, tdFn, tdFnK, tdBinO, tdCallO, tdOwnIx, tdItems, tdRange, tdRange2, tdFor, tdLcF, tdLc, tdIsi, tdUpper, tdJoin, tdBack, tdZip, tdDictIx, tdGGet, tdGPut, tdOwnArg, gdName, gdNil, gdCons, gdTup, asD_d, asB_d, asI_d, asS_d, asG_g, isOwn_own, useV, look, startD, asAll, allD, Option.map_some, itemsD, List.map_cons, List.map_nil, List.length_cons, List.length_nil, List.set_cons_zero, List.set_cons_succ, List.cons_append, List.nil_append, wipeD, Nat.zero_add, Nat.reduceAdd, Nat.reduceSub, List.reduceReplicate, id_eq, N__law_plan, rdAdd_ii, rdAdd_ss, rdAdd_tt, rdAdd_ll, rdMul_ii, rdII_ii, rdI0_ii, rdInt_i, rdGt_ii, rdGe_ii, rdLt_ii, rdLe_ii, rdLen_l, rdLen_t, rdEq_ii, rdNe_ii, rdEq_ss, rdNe_ss, keyD_s, Option.bind_some, Bool.false_eq_true, if_false, if_true, gv0, gv1, gv2, gv3, gp1, gp2, gp3, gs0, gl0]
      refine itB (fun _ => ?_) (fun _ => add p _ G7 hp hf7)
      refine ⟨2, rfl, by decide, by decide, hf7, fun d' G8 e0 e1 hf8 => ?_⟩
      simp (config := { maxSteps := 10000000 }) only [tdSeq, tdNext, tdBreak, tdCont, tdDrop, tdRet, tdRetN, tdIfS, tdAsg, tdPar, tdOwn, tdParO, tdAppend, tdExtend, tdGive, giveD, tdVar, tdC, tdBin, tdTest, tdAndT, tdOrT, tdNotT, tdAndV, tdOrV, tdNotV, tdIf, tdChain, tdUn, tdNil, tdCons, tdTup, tdLst, tdLstF, tdCall, tdNoPart, tdPart, tdSl, tdFn, tdFnK, tdBinO, tdCallO, tdOwnIx, tdItems, tdRange, tdRange2, tdFor, tdLcF, tdLc, tdIsi, tdUpper, tdJoin, tdBack, tdZip, tdDictIx, tdGGet, tdGPut, tdOwnArg, gdName, gdNil, gdCons, gdTup, asD_d, asB_d, asI_d, asS_d, asG_g, isOwn_own, useV, look, startD, asAll, allD, Option.map_some, itemsD, List.map_cons, List.map_nil, List.length_cons, List.length_nil, List.set_cons_zero, List.set_cons_succ, List.cons_append, List.nil_append, wipeD, Nat.zero_add, Nat.reduceAdd, Nat.reduceSub, List.reduceReplicate, id_eq, N__law_plan, rdAdd_ii, rdAdd_ss, rdAdd_tt, rdAdd_ll, rdMul_ii, rdII_ii, rdI0_ii, rdInt_i, rdGt_ii, rdGe_ii, rdLt_ii, rdLe_ii, rdLen_l, rdLen_t, rdEq_ii, rdNe_ii, rdEq_ss, rdNe_ss, keyD_s, Option.bind_some, Bool.false_eq_true, if_false, if_true, gv0, gv1, gv2, gv3, gp1, gp2, gp3, gs0, gl0, atI_last hne']
      refine itB (fun _ => ?_) (fun _ => ?_)
      · obtain ⟨q, hq, eq⟩ := List.mem_map.mp (List.getLast_mem hne')
        rw [← eq]
        simp only [pathD]
        rw [← List.map_reverse]
        have hq' := hps q hq
        exact add q.reverse _ G8 ⟨fun t ht => hq'.sub t (List.mem_reverse.mp ht), by rw [List.length_reverse]; exact hq'.pos, by rw [List.length_reverse]; exact hq'.len, adj_rev hq'.adj⟩ hf8
      · obtain ⟨q, r, eq⟩ : ∃ q r, ps = q :: r := by
          cases ps with
          | nil => exact absurd rfl hne'
          | cons q r => exact ⟨q, r, rfl⟩
        have e0 : atI (ps.map pathD) 0 = some (pathD q) := by rw [eq]; exact atI_zero _ _
        simp only [e0]
        exact add q _ G8 (hps q (by rw [eq]; simp)) hf8
    · rintro env G5 ⟨ps, o1, o2, rfl, hf5, hl, hps⟩
      simp (config := { maxSteps := 10000000 }) only [tdSeq, tdNext, tdBreak, tdCont, tdDrop, tdRet, tdRetN, tdIfS, tdAsg, tdPar, tdOwn, tdParO, tdAppend, tdExtend, tdGive, giveD, tdVar, tdC, tdBin, tdTest, tdAndT, tdOrT, tdNotT, tdAndV, tdOrV, tdNotV, tdIf, tdChain, tdUn, tdNil, tdCons, tdTup, tdLst, tdLstF, tdCall, tdNoPart, tdPart, tdSl, tdFn, tdFnK, tdBinO, tdCallO, tdOwnIx, tdItems, tdRange, tdRange2, tdFor, tdLcF, tdLc, tdIsi, tdUpper, tdJoin, tdBack, tdZip, tdDictIx, tdGGet, tdGPut, tdOwnArg, gdName, gdNil, gdCons, gdTup, asD_d, asB_d, asI_d, asS_d, asG_g, isOwn_own, useV, look, startD, asAll, allD, Option.map_some, itemsD, List.map_cons, List.map_nil, List.length_cons, List.length_nil, List.set_cons_zero, List.set_cons_succ, List.cons_append, List.nil_append, wipeD, Nat.zero_add, Nat.reduceAdd, Nat.reduceSub, List.reduceReplicate, id_eq, N__law_plan, rdAdd_ii, rdAdd_ss, rdAdd_tt, rdAdd_ll, rdMul_ii, rdII_ii, rdI0_ii, rdInt_i, rdGt_ii, rdGe_ii, rdLt_ii, rdLe_ii, rdLen_l, rdLen_t, rdEq_ii, rdNe_ii, rdEq_ss, rdNe_ss, keyD_s, Option.bind_some, Bool.false_eq_true, if_false, if_true, gv0, gv1, gv2, gv3, gp1, gp2, gp3, gs0, gl0, rdTuple]
      rw [List.length_map, List.length_range] at hl
      refine ⟨by decide, h bs ps G5 ⟨by rw [hb1]; exact ht, by rw [hb1]; exact hup, fun b hb => ⟨(hb2 b hb).1, by have := (hb2 b hb).2; omega⟩, by omega, fun p hp => by rw [hb1]; exact hps p hp⟩ hf5⟩
    · exact ⟨[], none, none, rfl, hf4, rfl, by simp⟩
  · exact ⟨[], rfl, rfl, by simp, hf2⟩
/-! ### _law_same -/
abbrev N__law_same : List Str := ["_law_got", "_law_due"]
theorem sc__law_same : FnScope N__law_same ["_law_got", "_law_due"] (defScope s__law_same) := ⟨rfl, rfl, rfl, by decide +kernel, rfl, by decide +kernel, by decide +kernel⟩
theorem ok__law_same {f : Addr} {fd : FuncData} (Fn : L2.Fun K "_law_same" "_law_same" s__law_same f fd) (B : Bl mg) (M : Md mg) : FnG pr w K mg base 1 f fd ["_law_got", "_law_due"] (lSp K ct__law_same) := by
  have hN := sc__law_same.nd
  refine FnG.data Fn sc__law_same _ (fun cdv A out s H F hK hr hgd => (dss_one (ds_ret (de_cmp (op_eqR hr) imp_eq (de_callB (cr_repr hr hgd) imp_repr B.repr_ (da_cons (de_var 0) da_nil)) (de_callB (cr_repr hr hgd) imp_repr B.repr_ (da_cons (de_var 1) da_nil)))))) fun xs G Q h => ?_
  obtain ⟨a, b, rfl, h1, h2, h⟩ := h
  refine ⟨rfl, ?_⟩
  simp (config := { maxSteps := 10000000 }) only [tdSeq, tdNext, tdBreak, tdCont, tdDrop, tdRet, tdRetN, tdIfS, tdAsg, tdPar, tdOwn, tdParO, tdAppend, tdExtend, tdGive, giveD, tdVar, tdC, tdBin, tdTest, tdAndT, tdOrT, tdNotT, tdAndV, tdOrV, tdNotV, tdIf, tdChain, tdUn, tdNil, tdCons, tdTup, tdLst, tdLstF, tdCall, tdNoPart, tdPart, tdSl, tdFn, tdFnK, tdBinO, tdCallO, tdOwnIx, tdItems, tdRange, tdRange2, tdFor, tdLcF, tdLc, tdIsi, tdUpper, tdJoin, tdBack, tdZip, tdDictIx, tdGGet, tdGPut, tdOwnArg, gdName, gdNil, gdCons, gdTup, asD_d, asB_d, asI_d, asS_d, asG_g, isOwn_own, useV, look, startD, asAll, allD, Option.map_some, itemsD, List.map_cons, List.map_nil, List.length_cons, List.length_nil, List.set_cons_zero, List.set_cons_succ, List.cons_append, List.nil_append, wipeD, Nat.zero_add, Nat.reduceAdd, Nat.reduceSub, List.reduceReplicate, id_eq, N__law_same]
  simp only [rdRepr, rdEq]
  refine ⟨h1, h2, rfl, ?_⟩
  rw [eqv_str]
  exact h
/-! ### _law_heard -/
abbrev N__law_heard : List Str := ["_law_call_in", "e_in", "_law_kinds"]
theorem sc__law_heard : FnScope N__law_heard ["_law_call_in"] (defScope s__law_heard) := ⟨rfl, rfl, rfl, by decide +kernel, rfl, by decide +kernel, by decide +kernel⟩
theorem ok__law_heard {g : Addr} {oc : Value} {od an : Option Addr} {osl : Array (Option Value)} {dV kV dc pm cd ct : Value} {a_CartError a_FloorError a_InvalidPaper a_InvalidText a_NotUsable a_PaperError a_TextError a_TrafficError : Addr} (l : K.lookup g = some ⟨oc, od, .func (PySem.W.fnOf "_law_heard" "_law_heard" (defArgs s__law_heard) (defBody s__law_heard) (defScope s__law_heard) dV kV dc pm an cd ct), osl⟩) (c : PySem.W.codeIn K cd "_law_heard" = true) (k : PySem.W.keepIn K (.ref g) = true) (m : mg "_law_heard" = some (.ref g)) (b : L2.Binds K (PySem.W.fnOf "_law_heard" "_law_heard" (defArgs s__law_heard) (defBody s__law_heard) (defScope s__law_heard) dV kV dc pm an cd ct) ["_law_call_in"] [])
    (B : Bl mg) (g_CartError : mg "CartError" = some (.ref a_CartError)) (g_FloorError : mg "FloorError" = some (.ref a_FloorError)) (g_InvalidPaper : mg "InvalidPaper" = some (.ref a_InvalidPaper)) (g_InvalidText : mg "InvalidText" = some (.ref a_InvalidText)) (g_NotUsable : mg "NotUsable" = some (.ref a_NotUsable)) (g_PaperError : mg "PaperError" = some (.ref a_PaperError)) (g_TextError : mg "TextError" = some (.ref a_TextError)) (g_TrafficError : mg "TrafficError" = some (.ref a_TrafficError)) (KN : ∀ nm ∈ names, ∀ C, mg nm = some (.ref C) → KnF K a_CartError a_FloorError a_InvalidPaper a_InvalidText a_NotUsable a_PaperError a_TextError a_TrafficError nm C) : HeardC pr w K mg base "_law_heard" "_law_call_in" N__law_heard (defScope s__law_heard) (defBody s__law_heard) (defArgs s__law_heard) "told" known hear := by
  refine ⟨g, _, _, _, _, _, _, _, _, _, _, m, k, l, c, b, ?_⟩
  rintro q X rfl rfl rfl rfl rfl hr
  have hN := sc__law_heard.nd
  refine heard_gives (told := "told") (i := 1) (names := names) rfl rfl g_CartError (by decide) hN rfl rfl (fun _ => rfl) known_in (fun nm hn C hC => (KN nm hn C hC).ex) (fun s H F a dd C oe pn nm hK hn hC hz hf => (dss_cons (ds_set (i := 2) hN (de_lst (da_cons (de_isE (i := 1) (KN nm hn C hC).xc hz hf B.isinstance_ (pe_glob (v := .ref a_PaperError) rfl g_PaperError rfl) (fun _ h => h) (KN nm hn C hC).k_PaperError) (da_cons (de_isE (i := 1) (KN nm hn C hC).xc hz hf B.isinstance_ (pe_glob (v := .ref a_FloorError) rfl g_FloorError rfl) (fun _ h => h) (KN nm hn C hC).k_FloorError) da_nil))))
      (dss_cons (ds_set (i := 2) hN (de_op op_addR imp_add (de_var 2) (de_lst (da_cons (de_isE (i := 1) (KN nm hn C hC).xc hz hf B.isinstance_ (pe_glob (v := .ref a_TrafficError) rfl g_TrafficError rfl) (fun _ h => h) (KN nm hn C hC).k_TrafficError) (da_cons (de_isE (i := 1) (KN nm hn C hC).xc hz hf B.isinstance_ (pe_glob (v := .ref a_TextError) rfl g_TextError rfl) (fun _ h => h) (KN nm hn C hC).k_TextError) da_nil)))))
      (dss_cons (ds_if (dt_w (dw_or (dt_cmp (op_neU (hr.deeper (envOfC "_law_heard" (defScope s__law_heard) s.heap.objs.size g cd)).units) imp_ne (de_count (de_var 2) de_bl) de_int) (dw_or1 (dt_not (dt_val (de_isE (i := 1) (KN nm hn C hC).xc hz hf B.isinstance_ (pe_bltn (v := .ty "ValueError") rfl B.ValueError_ (by decide +kernel) rfl) (fun _ h => h) (KN nm hn C hC).k_ValueError)))))) (dss_one (ds_ret (de_lit 40 rfl))) dss_nil)
      (dss_cons (ds_if (dt_w (dw_and (dt_val (de_ix ix_seq imp_ix (de_var 2) de_int)) (dw_and1 (dt_val (de_isE (i := 1) (KN nm hn C hC).xc hz hf B.isinstance_ (pe_glob (v := .ref a_InvalidPaper) rfl g_InvalidPaper rfl) (fun _ h => h) (KN nm hn C hC).k_InvalidPaper))))) (dss_one (ds_ret (de_tup (da_cons de_str (da_cons (de_xf (i := 1) (KN nm hn C hC).xf (KN nm hn C hC).n_word hz hf) (da_cons (de_xf (i := 1) (KN nm hn C hC).xf (KN nm hn C hC).n_at hz hf) da_nil)))))) dss_nil)
      (dss_cons (ds_if (dt_w (dw_and (dt_val (de_ix ix_seq imp_ix (de_var 2) de_int)) (dw_and1 (dt_val (de_isE (i := 1) (KN nm hn C hC).xc hz hf B.isinstance_ (pe_glob (v := .ref a_NotUsable) rfl g_NotUsable rfl) (fun _ h => h) (KN nm hn C hC).k_NotUsable))))) (dss_one (ds_ret (de_tup (da_cons de_str (da_cons (de_xf (i := 1) (KN nm hn C hC).xf (KN nm hn C hC).n_word hz hf) (da_cons (de_xf (i := 1) (KN nm hn C hC).xf (KN nm hn C hC).n_at hz hf) da_nil)))))) dss_nil)
      (dss_one (ds_ret (de_if (dt_val (de_isE (i := 1) (KN nm hn C hC).xc hz hf B.isinstance_ (pe_glob (v := .ref a_InvalidText) rfl g_InvalidText rfl) (fun _ h => h) (KN nm hn C hC).k_InvalidText)) (de_tup (da_cons de_str (da_cons (de_xf (i := 1) (KN nm hn C hC).xf (KN nm hn C hC).n_line hz hf) (da_cons (de_xf (i := 1) (KN nm hn C hC).xf (KN nm hn C hC).n_field hz hf) da_nil)))) (de_lit 40 rfl)))))))))) fun a dd y G D hy h => ?_
  obtain ⟨w, k, rfl⟩ := hy
  have h : D.rt (.d (.tuple [.str "use", .str w, k])) G := h
  have e0 : ((List.replicate N__law_heard.length (none : Option SV)).set 1 (some (.exc a dd [("word", .str w), ("at", k)]))) = [none, some (.exc a dd [("word", .str w), ("at", k)]), none] := rfl
  have f1 : fam "NotUsable" "PaperError" = false := by decide +kernel
  have f2 : fam "NotUsable" "FloorError" = true := by decide +kernel
  have f3 : fam "NotUsable" "TrafficError" = false := by decide +kernel
  have f4 : fam "NotUsable" "TextError" = false := by decide +kernel
  have f5 : fam "NotUsable" "NotUsable" = true := by decide +kernel
  have f6 : fam "NotUsable" "ValueError" = true := by decide +kernel
  have g1 : List.lookup ("word" : Str) [(("word" : Str), PyData.str w), ("at", k)] = some (.str w) := by
    rw [List.lookup_cons, show (("word" : Str) == "word") = true by decide +kernel]
  have g2 : List.lookup ("at" : Str) [(("word" : Str), PyData.str w), ("at", k)] = some k := by
    rw [List.lookup_cons, show (("at" : Str) == "word") = false by decide +kernel, List.lookup_cons, show (("at" : Str) == "at") = true by decide +kernel]
  rw [e0]
  refine seq_out fun R1 h1 => ?_
  simp (config := { maxSteps := 10000000 }) only [tdSeq, tdNext, tdBreak, tdCont, tdDrop, tdRet, tdRetN, tdIfS, tdAsg, tdPar, tdOwn, tdParO, tdAppend, tdExtend, tdGive, giveD, tdVar, tdC, tdBin, tdTest, tdAndT, tdOrT, tdNotT, tdAndV, tdOrV, tdNotV, tdIf, tdChain, tdUn, tdNil, tdCons, tdTup, tdLst, tdLstF, tdCall, tdNoPart, tdPart, tdSl, tdFn, tdFnK, tdBinO, tdCallO, tdOwnIx, tdItems, tdRange, tdRange2, tdFor, tdLcF, tdLc, tdIsi, tdUpper, tdJoin, tdBack, tdZip, tdDictIx, tdGGet, tdGPut, tdOwnArg, gdName, gdNil, gdCons, gdTup, asD_d, asB_d, asI_d, asS_d, asG_g, isOwn_own, useV, look, startD, asAll, allD, Option.map_some, itemsD, List.map_cons, List.map_nil, List.length_cons, List.length_nil, List.set_cons_zero, List.set_cons_succ, List.cons_append, List.nil_append, wipeD, Nat.zero_add, Nat.reduceAdd, Nat.reduceSub, List.reduceReplicate, id_eq, rdAdd_ii, rdAdd_ss, rdAdd_tt, rdAdd_ll, rdMul_ii, rdII_ii, rdI0_ii, rdInt_i, rdGt_ii, rdGe_ii, rdLt_ii, rdLe_ii, rdLen_l, rdLen_t, rdEq_ii, rdNe_ii, rdEq_ss, rdNe_ss, keyD_s, Option.bind_some, Bool.false_eq_true, if_false, if_true, gv0, gv1, gv2, gv3, gp1, gp2, gp3, gs0, gl0, tdIsE, f1, f2]
  refine ⟨⟨trivial, trivial⟩, ⟨trivial, trivial⟩, by decide, ?_⟩
  rw [← h1]
  clear h1
  refine seq_out fun R2 h2 => ?_
  simp (config := { maxSteps := 10000000 }) only [tdSeq, tdNext, tdBreak, tdCont, tdDrop, tdRet, tdRetN, tdIfS, tdAsg, tdPar, tdOwn, tdParO, tdAppend, tdExtend, tdGive, giveD, tdVar, tdC, tdBin, tdTest, tdAndT, tdOrT, tdNotT, tdAndV, tdOrV, tdNotV, tdIf, tdChain, tdUn, tdNil, tdCons, tdTup, tdLst, tdLstF, tdCall, tdNoPart, tdPart, tdSl, tdFn, tdFnK, tdBinO, tdCallO, tdOwnIx, tdItems, tdRange, tdRange2, tdFor, tdLcF, tdLc, tdIsi, tdUpper, tdJoin, tdBack, tdZip, tdDictIx, tdGGet, tdGPut, tdOwnArg, gdName, gdNil, gdCons, gdTup, asD_d, asB_d, asI_d, asS_d, asG_g, isOwn_own, useV, look, startD, asAll, allD, Option.map_some, itemsD, List.map_cons, List.map_nil, List.length_cons, List.length_nil, List.set_cons_zero, List.set_cons_succ, List.cons_append, List.nil_append, wipeD, Nat.zero_add, Nat.reduceAdd, Nat.reduceSub, List.reduceReplicate, id_eq, rdAdd_ii, rdAdd_ss, rdAdd_tt, rdAdd_ll, rdMul_ii, rdII_ii, rdI0_ii, rdInt_i, rdGt_ii, rdGe_ii, rdLt_ii, rdLe_ii, rdLen_l, rdLen_t, rdEq_ii, rdNe_ii, rdEq_ss, rdNe_ss, keyD_s, Option.bind_some, Bool.false_eq_true, if_false, if_true, gv0, gv1, gv2, gv3, gp1, gp2, gp3, gs0, gl0, tdIsE, f3, f4]
  refine ⟨⟨trivial, trivial⟩, ⟨trivial, trivial⟩, by decide, by decide, ?_⟩
  rw [← h2]
  clear h2
  refine seq_out fun R3 h3 => ?_
  simp (config := { maxSteps := 10000000 }) only [tdSeq, tdNext, tdBreak, tdCont, tdDrop, tdRet, tdRetN, tdIfS, tdAsg, tdPar, tdOwn, tdParO, tdAppend, tdExtend, tdGive, giveD, tdVar, tdC, tdBin, tdTest, tdAndT, tdOrT, tdNotT, tdAndV, tdOrV, tdNotV, tdIf, tdChain, tdUn, tdNil, tdCons, tdTup, tdLst, tdLstF, tdCall, tdNoPart, tdPart, tdSl, tdFn, tdFnK, tdBinO, tdCallO, tdOwnIx, tdItems, tdRange, tdRange2, tdFor, tdLcF, tdLc, tdIsi, tdUpper, tdJoin, tdBack, tdZip, tdDictIx, tdGGet, tdGPut, tdOwnArg, gdName, gdNil, gdCons, gdTup, asD_d, asB_d, asI_d, asS_d, asG_g, isOwn_own, useV, look, startD, asAll, allD, Option.map_some, itemsD, List.map_cons, List.map_nil, List.length_cons, List.length_nil, List.set_cons_zero, List.set_cons_succ, List.cons_append, List.nil_append, wipeD, Nat.zero_add, Nat.reduceAdd, Nat.reduceSub, List.reduceReplicate, id_eq, rdAdd_ii, rdAdd_ss, rdAdd_tt, rdAdd_ll, rdMul_ii, rdII_ii, rdI0_ii, rdInt_i, rdGt_ii, rdGe_ii, rdLt_ii, rdLe_ii, rdLen_l, rdLen_t, rdEq_ii, rdNe_ii, rdEq_ss, rdNe_ss, keyD_s, Option.bind_some, Bool.false_eq_true, if_false, if_true, gv0, gv1, gv2, gv3, gp1, gp2, gp3, gs0, gl0, tdIsE, tdXf, tdCount, f6]
  refine ⟨rfl, rfl, itF (by simp [List.countP, List.countP.go, PyData.eqv]) ⟨⟨trivial, trivial⟩, itF (by simp) ?_⟩⟩
  rw [← h3]
  clear h3
  have i0 : atI ([.bool false, .bool true, .bool false, .bool false] : List PyData) 0 = some (.bool false) := rfl
  have i1 : atI ([.bool false, .bool true, .bool false, .bool false] : List PyData) 1 = some (.bool true) := rfl
  refine seq_out fun R4 h4 => ?_
  simp (config := { maxSteps := 10000000 }) only [tdSeq, tdNext, tdBreak, tdCont, tdDrop, tdRet, tdRetN, tdIfS, tdAsg, tdPar, tdOwn, tdParO, tdAppend, tdExtend, tdGive, giveD, tdVar, tdC, tdBin, tdTest, tdAndT, tdOrT, tdNotT, tdAndV, tdOrV, tdNotV, tdIf, tdChain, tdUn, tdNil, tdCons, tdTup, tdLst, tdLstF, tdCall, tdNoPart, tdPart, tdSl, tdFn, tdFnK, tdBinO, tdCallO, tdOwnIx, tdItems, tdRange, tdRange2, tdFor, tdLcF, tdLc, tdIsi, tdUpper, tdJoin, tdBack, tdZip, tdDictIx, tdGGet, tdGPut, tdOwnArg, gdName, gdNil, gdCons, gdTup, asD_d, asB_d, asI_d, asS_d, asG_g, isOwn_own, useV, look, startD, asAll, allD, Option.map_some, itemsD, List.map_cons, List.map_nil, List.length_cons, List.length_nil, List.set_cons_zero, List.set_cons_succ, List.cons_append, List.nil_append, wipeD, Nat.zero_add, Nat.reduceAdd, Nat.reduceSub, List.reduceReplicate, id_eq, rdAdd_ii, rdAdd_ss, rdAdd_tt, rdAdd_ll, rdMul_ii, rdII_ii, rdI0_ii, rdInt_i, rdGt_ii, rdGe_ii, rdLt_ii, rdLe_ii, rdLen_l, rdLen_t, rdEq_ii, rdNe_ii, rdEq_ss, rdNe_ss, keyD_s, Option.bind_some, Bool.false_eq_true, if_false, if_true, gv0, gv1, gv2, gv3, gp1, gp2, gp3, gs0, gl0, tdIsE, tdXf, rdIx, i0, f5, g1, g2]
  try refine itF (by simp) ?_
  rw [← h4]
  clear h4
  simp (config := { maxSteps := 10000000 }) only [tdSeq, tdNext, tdBreak, tdCont, tdDrop, tdRet, tdRetN, tdIfS, tdAsg, tdPar, tdOwn, tdParO, tdAppend, tdExtend, tdGive, giveD, tdVar, tdC, tdBin, tdTest, tdAndT, tdOrT, tdNotT, tdAndV, tdOrV, tdNotV, tdIf, tdChain, tdUn, tdNil, tdCons, tdTup, tdLst, tdLstF, tdCall, tdNoPart, tdPart, tdSl, tdFn, tdFnK, tdBinO, tdCallO, tdOwnIx, tdItems, tdRange, tdRange2, tdFor, tdLcF, tdLc, tdIsi, tdUpper, tdJoin, tdBack, tdZip, tdDictIx, tdGGet, tdGPut, tdOwnArg, gdName, gdNil, gdCons, gdTup, asD_d, asB_d, asI_d, asS_d, asG_g, isOwn_own, useV, look, startD, asAll, allD, Option.map_some, itemsD, List.map_cons, List.map_nil, List.length_cons, List.length_nil, List.set_cons_zero, List.set_cons_succ, List.cons_append, List.nil_append, wipeD, Nat.zero_add, Nat.reduceAdd, Nat.reduceSub, List.reduceReplicate, id_eq, rdAdd_ii, rdAdd_ss, rdAdd_tt, rdAdd_ll, rdMul_ii, rdII_ii, rdI0_ii, rdInt_i, rdGt_ii, rdGe_ii, rdLt_ii, rdLe_ii, rdLen_l, rdLen_t, rdEq_ii, rdNe_ii, rdEq_ss, rdNe_ss, keyD_s, Option.bind_some, Bool.false_eq_true, if_false, if_true, gv0, gv1, gv2, gv3, gp1, gp2, gp3, gs0, gl0, tdIsE, tdXf, rdIx, i1, f5, g1, g2]
  exact ⟨⟨trivial, trivial⟩, ⟨trivial, trivial⟩, ⟨trivial, trivial⟩, by decide, h⟩
/-! ### _law_put -/
abbrev N__law_put : List Str := ["_law_some", "_law_k", "_law_item"]
theorem sc__law_put : FnScope N__law_put ["_law_some", "_law_k", "_law_item"] (defScope s__law_put) := ⟨rfl, rfl, rfl, by decide +kernel, rfl, by decide +kernel, by decide +kernel⟩
theorem ok__law_put {f : Addr} {fd : FuncData} (Fn : L2.Fun K "_law_put" "_law_put" s__law_put f fd) (B : Bl mg) (M : Md mg) : FnG pr w K mg base 1 f fd ["_law_some", "_law_k", "_law_item"] (lSp K ct__law_put) := by
  have hN := sc__law_put.nd
  refine FnG.data Fn sc__law_put _ (fun cdv A out s H F hK hr hgd => (dss_one (ds_ret (de_op op_addR imp_add (de_op op_addR imp_add (de_slice sl_R imp_sl (de_var 0) do_none (do_some (de_var 1))) (de_tup (da_cons (de_var 2) da_nil))) (de_slice sl_R imp_sl (de_var 0) (do_some (de_op op_addR imp_add (de_var 1) de_int)) do_none))))) fun xs G Q h => ?_
  obtain ⟨ds, k, x, rfl, hk, hz, h⟩ := h
  refine ⟨rfl, ?_⟩
  have e0 : startD N__law_put.length [.d (.tuple ds), .d (.int k), .d x] = [some (.d (.tuple ds)), some (.d (.int k)), some (.d x)] := rfl
  rw [e0]
  have k1 : ((k : Int) + 1).toNat = k + 1 := by omega
  simp (config := { maxSteps := 10000000 }) only [tdSeq, tdNext, tdBreak, tdCont, tdDrop, tdRet, tdRetN, tdIfS, tdAsg, tdPar, tdOwn, tdParO, tdAppend, tdExtend, tdGive, giveD, tdVar, tdC, tdBin, tdTest, tdAndT, tdOrT, tdNotT, tdAndV, tdOrV, tdNotV, tdIf, tdChain, tdUn, tdNil, tdCons, tdTup, tdLst, tdLstF, tdCall, tdNoPart, tdPart, tdSl, tdFn, tdFnK, tdBinO, tdCallO, tdOwnIx, tdItems, tdRange, tdRange2, tdFor, tdLcF, tdLc, tdIsi, tdUpper, tdJoin, tdBack, tdZip, tdDictIx, tdGGet, tdGPut, tdOwnArg, gdName, gdNil, gdCons, gdTup, asD_d, asB_d, asI_d, asS_d, asG_g, isOwn_own, useV, look, startD, asAll, allD, Option.map_some, itemsD, List.map_cons, List.map_nil, List.length_cons, List.length_nil, List.set_cons_zero, List.set_cons_succ, List.cons_append, List.nil_append, wipeD, Nat.zero_add, Nat.reduceAdd, Nat.reduceSub, List.reduceReplicate, id_eq, rdAdd_ii, rdAdd_ss, rdAdd_tt, rdAdd_ll, rdMul_ii, rdII_ii, rdI0_ii, rdInt_i, rdGt_ii, rdGe_ii, rdLt_ii, rdLe_ii, rdLen_l, rdLen_t, rdEq_ii, rdNe_ii, rdEq_ss, rdNe_ss, keyD_s, Option.bind_some, Bool.false_eq_true, if_false, if_true, gv0, gv1, gv2, gv3, gp1, gp2, gp3, gs0, gl0, rdAdd, rdSl, cut_to _ (show (0 : Int) ≤ (k : Int) by omega), cut_at _ (show (0 : Int) ≤ (k : Int) + 1 by omega), k1, Int.toNat_natCast, List.map_cons, List.map_nil]
  exact ⟨by decide, by simp only [List.length_take, sizeLine_eq]; omega, by simp only [List.length_append, List.length_take, List.length_drop, List.length_cons, List.length_nil, sizeLine_eq]; omega, h⟩
/-! ### _law_no_plans -/
abbrev N__law_no_plans : List Str := ["_law_plan_here", "_law_some"]
theorem sc__law_no_plans : FnScope N__law_no_plans ["_law_plan_here"] (defScope s__law_no_plans) := ⟨rfl, rfl, rfl, by decide +kernel, rfl, by decide +kernel, by decide +kernel⟩
theorem ok__law_no_plans {f : Addr} {fd : FuncData} (Fn : L2.Fun K "_law_no_plans" "_law_no_plans" s__law_no_plans f fd) (B : Bl mg) (M : Md mg) : FnG pr w K mg base 1 f fd ["_law_plan_here"] (lSp K ct__law_no_plans) := by
  have hN := sc__law_no_plans.nd
  refine FnG.data Fn sc__law_no_plans _ (fun cdv A out s H F hK hr hgd => (dss_cons (ds_set (i := 1) hN (de_lst (da_cons de_non (da_cons de_int (da_cons (de_lit 40 rfl) (da_cons (de_callTy call_list_of imp_list B.list_ (da_cons (de_var 0) da_nil)) (da_cons (de_slice sl_R imp_sl (de_var 0) do_none (do_some de_int)) (da_cons (de_op op_addR imp_add (de_var 0) (de_lit 40 rfl)) (da_cons (de_tup (da_cons (de_lit 40 rfl) (da_cons (de_ix ix_seq imp_ix (de_var 0) de_int) da_nil))) (da_cons (de_tup (da_cons (de_callTy call_list_of imp_list B.list_ (da_cons (de_ix ix_seq imp_ix (de_var 0) de_int) da_nil)) (da_cons (de_ix ix_seq imp_ix (de_var 0) de_int) da_nil))) (da_cons (de_tup (da_cons (de_ix ix_seq imp_ix (de_var 0) de_int) (da_cons de_non da_nil))) da_nil)))))))))))
      (dss_cons (ds_set (i := 1) hN (de_op op_addR imp_add (de_var 1) (de_lst (da_cons (de_tup (da_cons (de_op op_addR imp_add (de_back (de_ix ix_seq imp_ix (de_var 0) de_int)) (de_ix ix_seq imp_ix (de_var 0) de_int)) (da_cons (de_ix ix_seq imp_ix (de_var 0) de_int) da_nil))) (da_cons (de_tup (da_cons (de_ix ix_seq imp_ix (de_var 0) de_int) (da_cons (de_op op_addR imp_add (de_ix ix_seq imp_ix (de_var 0) de_int) (de_lit 40 rfl)) da_nil))) (da_cons (de_tup (da_cons (de_ix ix_seq imp_ix (de_var 0) de_int) (da_cons (de_lit 40 rfl) da_nil))) (da_cons de_str (da_cons de_bl da_nil))))))))
      (dss_one (ds_ret (de_op op_addR imp_add (de_var 1) (de_lst (da_cons (de_tup (da_cons (de_ix ix_seq imp_ix (de_var 0) de_int) (da_cons (de_op op_addR imp_add (de_ix ix_seq imp_ix (de_var 0) de_int) (de_tup (da_cons (de_op op_mulTR imp_mulT (de_tup (da_cons (de_ix ix_seq imp_ix (de_ix ix_seq imp_ix (de_ix ix_seq imp_ix (de_var 0) de_int) de_int) de_int) da_nil)) de_int) da_nil))) da_nil))) (da_cons (de_lit 40 rfl) (da_cons (de_lit 40 rfl) (da_cons (de_ix ix_seq imp_ix (de_var 0) de_int) da_nil))))))))))) fun xs G Q h => ?_
  obtain ⟨bs, ps, rfl, hP, h⟩ := h
  refine ⟨rfl, ?_⟩
  have hpos := hP.tags.pos
  rw [List.length_map] at hpos
  obtain ⟨b, r, eb⟩ : ∃ b r, bs = b :: r := by
    cases bs with
    | nil => cases hpos
    | cons b r => exact ⟨b, r, rfl⟩
  have i0 : atI [PyData.tuple (bs.map bearD), .tuple (ps.map pathD)] 0 = some (.tuple (bs.map bearD)) := rfl
  have i1 : atI [PyData.tuple (bs.map bearD), .tuple (ps.map pathD)] 1 = some (.tuple (ps.map pathD)) := rfl
  have i2 : atI (bs.map bearD) 0 = some (bearD b) := by rw [eb, List.map_cons]; exact atI_zero _ _
  have i3 : atI [PyData.str b.1, .int b.2] 0 = some (.str b.1) := rfl
  have s1 : cutL [PyData.tuple (bs.map bearD), .tuple (ps.map pathD)] none (some 1) = [.tuple (bs.map bearD)] := rfl
  have hz := hP.tags.len
  rw [List.length_map] at hz
  have hw := hP.len
  simp (config := { maxSteps := 10000000 }) only [tdSeq, tdNext, tdBreak, tdCont, tdDrop, tdRet, tdRetN, tdIfS, tdAsg, tdPar, tdOwn, tdParO, tdAppend, tdExtend, tdGive, giveD, tdVar, tdC, tdBin, tdTest, tdAndT, tdOrT, tdNotT, tdAndV, tdOrV, tdNotV, tdIf, tdChain, tdUn, tdNil, tdCons, tdTup, tdLst, tdLstF, tdCall, tdNoPart, tdPart, tdSl, tdFn, tdFnK, tdBinO, tdCallO, tdOwnIx, tdItems, tdRange, tdRange2, tdFor, tdLcF, tdLc, tdIsi, tdUpper, tdJoin, tdBack, tdZip, tdDictIx, tdGGet, tdGPut, tdOwnArg, gdName, gdNil, gdCons, gdTup, asD_d, asB_d, asI_d, asS_d, asG_g, isOwn_own, useV, look, startD, asAll, allD, Option.map_some, itemsD, List.map_cons, List.map_nil, List.length_cons, List.length_nil, List.set_cons_zero, List.set_cons_succ, List.cons_append, List.nil_append, wipeD, Nat.zero_add, Nat.reduceAdd, Nat.reduceSub, List.reduceReplicate, id_eq, N__law_no_plans, rdAdd_ii, rdAdd_ss, rdAdd_tt, rdAdd_ll, rdMul_ii, rdII_ii, rdI0_ii, rdInt_i, rdGt_ii, rdGe_ii, rdLt_ii, rdLe_ii, rdLen_l, rdLen_t, rdEq_ii, rdNe_ii, rdEq_ss, rdNe_ss, keyD_s, Option.bind_some, Bool.false_eq_true, if_false, if_true, gv0, gv1, gv2, gv3, gp1, gp2, gp3, gs0, gl0, rdIx, rdSl, rdList, i0, i1, i2, i3, s1, rdMul, rdMulT, show Int.toNat 2 = 2 from rfl, List.replicate_succ, List.replicate_zero, List.flatten_cons, List.flatten_nil, List.append_nil]
  have A := an_bears hP
  have W := an_ways hP
  have aA : tAny 6 20000 300 (.tuple (bs.map bearD)) := s_tupof_any (fun _ h => h) (by decide) (by decide) _ A
  have aW : tAny 6 70000 300 (.tuple (ps.map pathD)) := s_tupof_any (fun _ h => h) (by decide) (by decide) _ W
  have mA : ∀ x ∈ bs.map bearD, tAny 2 300 300 x := by
    obtain ⟨ds, e, q, _⟩ := A
    cases e; exact q
  have mW : ∀ x ∈ ps.map pathD, tAny 2 5000 300 x := by
    obtain ⟨ds, e, q, _⟩ := W
    cases e; exact q
  have nA : An (.tuple (bs.map bearD)) := aA.up (by decide) (by decide) (by decide)
  have nW : An (.tuple (ps.map pathD)) := aW.up (by decide) (by decide) (by decide)
  have two : ∀ {x y : D}, An x → An y → Ok (.tuple [x, y]) := fun hx hy => an_tup (fun d hd => by
    rcases List.mem_cons.mp hd with rfl | hd
    · exact hx
    · rw [List.mem_singleton] at hd; subst hd; exact hy) (by simp)
  have more : ∀ {w : D}, tAny 2 5000 300 w → An (.tuple (ps.map pathD ++ [w])) := fun hw2 =>
    s_tupof_any (τ := tAny 2 5000 300) (lo := 0) (hi := 13) (fun _ h => h) (by decide) (by decide) _ ⟨_, rfl, fun x hx => by
      rcases List.mem_append.mp hx with hx | hx
      · exact mW x hx
      · rw [List.mem_singleton] at hx; subst hx; exact hw2, Nat.zero_le _, by rw [List.length_append, List.length_map, List.length_singleton]; omega⟩
  have nob : tAny 2 5000 300 (.tuple [.str "nobody"]) := bdB_ok (by decide +kernel)
  have bsT := (hP.tags.ok b.1 (List.mem_map.mpr ⟨b, by rw [eb]; exact List.mem_cons_self, rfl⟩))
  have tt : tAny 2 5000 300 (.tuple [.str b.1, .str b.1]) := by
    have q : tStr 0 9 (.str b.1) := ⟨_, rfl, bsT.2, Nat.zero_le _, bsT.1⟩
    exact s_tup_any (ts := [tStr 0 9, tStr 0 9]) (tb_cons (e1 := 0) (m := 200) (s_str_any (by decide)) (tb_cons (e1 := 0) (m := 200) (s_str_any (by decide)) tb_nil)) (by decide) (by decide) _ ⟨_, rfl, .cons q (.cons q .nil)⟩
  have lit : ∀ {d : D}, bdB 8 200000 300 d = true → An d := fun h => bdB_ok h
  have szs : (bs.map bearD).reverse.length + (bs.map bearD).length ≤ sizeLine := by rw [List.length_reverse, List.length_map, sizeLine_eq]; omega
  have szw : (ps.map pathD).length + 1 ≤ sizeLine := by rw [List.length_map, sizeLine_eq]; omega
  repeat' (refine And.intro (by first | decide | exact szw | exact szs | exact ⟨by simp, by decide, by decide, by simp⟩ | (simp only [List.length_append, List.length_reverse, List.length_map, sizeLine_eq]; omega)) ?_)
  refine h _ (by simp) fun d hd => ?_
  simp only [List.mem_cons, List.not_mem_nil, or_false] at hd
  have nb : inD (.str "nobody") ((bs.map bearD).map nameOf) = false := tag_no hP.tags.nb
  rcases hd with rfl | rfl | rfl | rfl | rfl | rfl | rfl | rfl | rfl | rfl | rfl | rfl | rfl | rfl | rfl | rfl | rfl | rfl
  · exact ⟨an_ok (lit (by decide +kernel)), by intro z; cases z⟩
  · exact ⟨an_ok (lit (by decide +kernel)), by intro z; cases z⟩
  · exact ⟨an_ok (lit (by decide +kernel)), by intro z; cases z⟩
  · exact ⟨an_lst (fun d hd => by
      rcases List.mem_cons.mp hd with rfl | hd
      · exact nA
      · rw [List.mem_singleton] at hd; subst hd; exact nW) (by simp), by intro z; cases z⟩
  · exact ⟨an_tup (fun d hd => by rw [List.mem_singleton] at hd; subst hd; exact nA) (by simp), by intro z; cases z⟩
  · exact ⟨an_tup (fun d hd => by
      rcases List.mem_cons.mp hd with rfl | hd
      · exact nA
      · rcases List.mem_cons.mp hd with rfl | hd
        · exact nW
        · rw [List.mem_singleton] at hd; subst hd; exact lit (by decide +kernel)) (by simp), by intro z; cases z⟩
  · exact ⟨two (lit (by decide +kernel)) nW, by intro z; cases z⟩
  · exact ⟨two (s_lst_any (τ := tAny 2 300 300) (lo := 0) (hi := 20) (fun _ h => h) (by decide) (by decide) _ ⟨_, rfl, mA, Nat.zero_le _, by rw [List.length_map]; omega⟩) nW, by intro z; cases z⟩
  · exact ⟨two nA (lit (by decide +kernel)), orF_r (by intro z; cases z)⟩
  · refine ⟨two (s_tupof_any (τ := tAny 2 300 300) (lo := 0) (hi := 40) (fun _ h => h) (by decide) (by decide) _ ⟨_, rfl, fun x hx => ?_, Nat.zero_le _, by rw [List.length_append, List.length_reverse, List.length_map]; omega⟩) nW, orF_l ?_⟩
    · rcases List.mem_append.mp hx with hx | hx
      · exact mA x (List.mem_reverse.mp hx)
      · exact mA x hx
    · rw [eb]; exact zones_round
  · exact ⟨two nA (more nob), orF_r (ways_last (way_out (d := .str "nobody") (by simp) nb))⟩
  · exact ⟨two nA (lit (by decide +kernel)), orF_r (ways_bad (j := 0) (by simp) rfl)⟩
  · exact ⟨an_ok (lit (by decide +kernel)), by intro z; cases z⟩
  · exact ⟨an_ok (lit (by decide +kernel)), by intro z; cases z⟩
  · exact ⟨two nA (more tt), orF_r (ways_last way_adj)⟩
  · exact ⟨an_ok (lit (by decide +kernel)), orF_l (a := zonesF (.tuple [.tuple [.str "a", .int 0]])) (b := waysF (namesOf (.tuple [.tuple [.str "a", .int 0]])) (.tuple [])) (zones_bad (j := 0) (by decide) (by decide +kernel))⟩
  · exact ⟨an_ok (lit (by decide +kernel)), orF_l (a := zonesF (.tuple [.tuple [.str "a", .bool true]])) (b := waysF (namesOf (.tuple [.tuple [.str "a", .bool true]])) (.tuple [])) (zones_bad (j := 0) (by decide) (by decide +kernel))⟩
  · refine ⟨nA |> an_ok, ?_⟩
    match bs, hpos with
    | [_], _ => intro z; cases z
    | [b1, b2], _ => exact orF_l (a := zonesF (bearD b1)) (b := waysF (namesOf (bearD b1)) (bearD b2)) (zones_bad (zs := [.str b1.1, .int b1.2]) (j := 0) (by simp) rfl)
    | _ :: _ :: _ :: _, _ => intro z; cases z
/-! ### _law_no_tags -/
abbrev N__law_no_tags : List Str := []
theorem sc__law_no_tags : FnScope N__law_no_tags [] (defScope s__law_no_tags) := ⟨rfl, rfl, rfl, by decide +kernel, rfl, by decide +kernel, by decide +kernel⟩
theorem ok__law_no_tags {f : Addr} {fd : FuncData} (Fn : L2.Fun K "_law_no_tags" "_law_no_tags" s__law_no_tags f fd) (B : Bl mg) (M : Md mg) : FnG pr w K mg base 1 f fd [] (lSp K ct__law_no_tags) := by
  have hN := sc__law_no_tags.nd
  refine FnG.data Fn sc__law_no_tags _ (fun cdv A out s H F hK hr hgd => (dss_one (ds_ret (de_lit 40 rfl)))) fun xs G Q h => ?_
  obtain ⟨rfl, h⟩ := h
  refine ⟨rfl, ?_⟩
  simp (config := { maxSteps := 10000000 }) only [tdSeq, tdNext, tdBreak, tdCont, tdDrop, tdRet, tdRetN, tdIfS, tdAsg, tdPar, tdOwn, tdParO, tdAppend, tdExtend, tdGive, giveD, tdVar, tdC, tdBin, tdTest, tdAndT, tdOrT, tdNotT, tdAndV, tdOrV, tdNotV, tdIf, tdChain, tdUn, tdNil, tdCons, tdTup, tdLst, tdLstF, tdCall, tdNoPart, tdPart, tdSl, tdFn, tdFnK, tdBinO, tdCallO, tdOwnIx, tdItems, tdRange, tdRange2, tdFor, tdLcF, tdLc, tdIsi, tdUpper, tdJoin, tdBack, tdZip, tdDictIx, tdGGet, tdGPut, tdOwnArg, gdName, gdNil, gdCons, gdTup, asD_d, asB_d, asI_d, asS_d, asG_g, isOwn_own, useV, look, startD, asAll, allD, Option.map_some, itemsD, List.map_cons, List.map_nil, List.length_cons, List.length_nil, List.set_cons_zero, List.set_cons_succ, List.cons_append, List.nil_append, wipeD, Nat.zero_add, Nat.reduceAdd, Nat.reduceSub, List.reduceReplicate, id_eq, N__law_no_tags, rdAdd_ii, rdAdd_ss, rdAdd_tt, rdAdd_ll, rdMul_ii, rdII_ii, rdI0_ii, rdInt_i, rdGt_ii, rdGe_ii, rdLt_ii, rdLe_ii, rdLen_l, rdLen_t, rdEq_ii, rdNe_ii, rdEq_ss, rdNe_ss, keyD_s, Option.bind_some, Bool.false_eq_true, if_false, if_true, gv0, gv1, gv2, gv3, gp1, gp2, gp3, gs0, gl0]
  have ns : ∀ {d : D}, niceB 40 1000000 d = true → isTy "str" d = false → Ok d ∧ ∀ bs ps, Plan bs ps → isTag (planD bs ps) d = false := fun h1 h2 => ⟨Nice.of h1, fun bs ps hP => by unfold isTag; rw [h2, Bool.false_and]⟩
  have nm : ∀ {x : Str}, niceB 40 1000000 (.str x) = true → isName (.str x) = false → Ok (.str x) ∧ ∀ bs ps, Plan bs ps → isTag (planD bs ps) (.str x) = false := fun h1 h2 => ⟨Nice.of h1, fun bs ps hP => by
    show (_ && inD _ ((bs.map bearD).map nameOf)) = false
    rw [tag_no (tag_nm hP h2), Bool.and_false]⟩
  refine h _ (by decide) fun d hd => ?_
  simp only [List.mem_cons, List.not_mem_nil, or_false] at hd
  rcases hd with rfl | rfl | rfl | rfl | rfl | rfl | rfl | rfl | rfl | rfl
  · exact ⟨Nice.of (by decide +kernel), fun bs ps hP => by
      show (_ && inD _ ((bs.map bearD).map nameOf)) = false
      rw [tag_no hP.tags.nb, Bool.and_false]⟩
  · exact nm (by decide +kernel) (by decide +kernel)
  · exact nm (by decide +kernel) (by decide +kernel)
  · exact ns (by decide +kernel) (by decide +kernel)
  · exact ns (by decide +kernel) (by decide +kernel)
  · exact ns (by decide +kernel) (by decide +kernel)
  · exact ns (by decide +kernel) (by decide +kernel)
  · exact ns (by decide +kernel) (by decide +kernel)
  · exact nm (by decide +kernel) (by decide +kernel)
  · exact ns (by decide +kernel) (by decide +kernel)
/-! ### _law_changes_right -/
abbrev N__law_changes_right : List Str := ["_law_feed_here", "_law_plan_here", "_law_k", "_law_w", "_law_tags", "_law_turn", "_law_many", "_law_due", "_law_got", "_law_path_here", "_law_one"]
theorem sc__law_changes_right : FnScope N__law_changes_right ["_law_feed_here", "_law_plan_here"] (defScope s__law_changes_right) := ⟨rfl, rfl, rfl, by decide +kernel, rfl, by decide +kernel, by decide +kernel⟩
theorem ok__law_changes_right {f : Addr} {fd : FuncData} (Fn : L2.Fun K "_law_changes_right" "_law_changes_right" s__law_changes_right f fd) (B : Bl mg) (M : Md mg) (c__law_pick : Cal pr w K mg base "_law_pick" ["_law_feed_here", "_law_some"] 2 ct__law_pick) (c__law_put : Cal pr w K mg base "_law_put" ["_law_some", "_law_k", "_law_item"] 1 ct__law_put) (c__law_same : Cal pr w K mg base "_law_same" ["_law_got", "_law_due"] 1 ct__law_same) (c__law_path : Cal pr w K mg base "_law_path" ["_law_feed_here", "_law_tags"] 3 ct__law_path) (x_with_places : CalX pr w K mg base "with_places" ["floor", "zone", "places"] 12 ct_with_places) (x_without_way : CalX pr w K mg base "without_way" ["floor", "way"] 12 ct_without_way) (x_with_way : CalX pr w K mg base "with_way" ["floor", "names"] 12 ct_with_way) (x_lets_floor : CalX pr w K mg base "lets_floor" ["thing"] 9 ct_lets_floor) : FnG pr w K mg base 13 f fd ["_law_feed_here", "_law_plan_here"] (lSp K ct__law_changes_right) := by
  obtain ⟨_, _, g__law_pick, m__law_pick, k__law_pick, b__law_pick, kk__law_pick⟩ := c__law_pick.ex
  obtain ⟨_, _, g__law_put, m__law_put, k__law_put, b__law_put, kk__law_put⟩ := c__law_put.ex
  obtain ⟨_, _, g__law_same, m__law_same, k__law_same, b__law_same, kk__law_same⟩ := c__law_same.ex
  obtain ⟨_, _, g__law_path, m__law_path, k__law_path, b__law_path, kk__law_path⟩ := c__law_path.ex
  obtain ⟨_, _, g_with_places, m_with_places, k_with_places, b_with_places, kk_with_places, kk2_with_places, kk3_with_places⟩ := x_with_places.ex
  obtain ⟨_, _, g_without_way, m_without_way, k_without_way, b_without_way, kk_without_way, kk2_without_way, kk3_without_way⟩ := x_without_way.ex
  obtain ⟨_, _, g_with_way, m_with_way, k_with_way, b_with_way, kk_with_way, kk2_with_way, kk3_with_way⟩ := x_with_way.ex
  obtain ⟨_, _, g_lets_floor, m_lets_floor, k_lets_floor, b_lets_floor, kk_lets_floor, kk2_lets_floor, kk3_lets_floor⟩ := x_lets_floor.ex
  have kb_with_places := kk3_with_places _ _ _ rfl
  have kb_without_way := kk2_without_way _ _ rfl
  have kb_with_way := kk2_with_way _ _ rfl
  have hN := sc__law_changes_right.nd
  refine FnG.data Fn sc__law_changes_right _ (fun cdv A out s H F hK hr hgd => (dss_cons (ds_for PassesOwn.never rfl (di_range B.range_ (de_callB call_len imp_len B.len_ (da_cons (de_ix ix_seq imp_ix (de_var 1) de_int) da_nil))) (dg_name (i := 2) hN) (dss_cons (ds_set (i := 6) hN (de_fn (g__law_pick.mono (by omega)) hr hgd hK m__law_pick k__law_pick b__law_pick (da_cons (de_var 0) (da_cons (de_lit 40 rfl) da_nil))))
      (dss_cons (ds_set (i := 7) hN (de_tup (da_cons (de_fn (g__law_put.mono (by omega)) hr hgd hK m__law_put k__law_put b__law_put (da_cons (de_ix ix_seq imp_ix (de_var 1) de_int) (da_cons (de_var 2) (da_cons (de_tup (da_cons (de_ix ix_seq imp_ix (de_ix ix_seq imp_ix (de_ix ix_seq imp_ix (de_var 1) de_int) (de_var 2)) de_int) (da_cons (de_var 6) da_nil))) da_nil)))) (da_cons (de_ix ix_seq imp_ix (de_var 1) de_int) da_nil))))
      (dss_cons (ds_set (i := 8) hN (de_lst (da_cons (de_fnX (ds := []) (g_with_places.mono (by omega)) takes_no hr hgd hK m_with_places k_with_places b_with_places .nil rfl (da_cons (de_var 1) (da_cons (de_ix ix_seq imp_ix (de_ix ix_seq imp_ix (de_ix ix_seq imp_ix (de_var 1) de_int) (de_var 2)) de_int) (da_cons (de_var 6) da_nil)))) (da_cons (de_fnXK (gS := rv3) (g_with_places.mono (by omega)) takes_no hr hgd hK m_with_places k_with_places kb_with_places (fun h => rv3_rel h) (dk_cons (de_var 6) (dk_cons (de_ix ix_seq imp_ix (de_ix ix_seq imp_ix (de_ix ix_seq imp_ix (de_var 1) de_int) (de_var 2)) de_int) (dk_cons (de_var 1) dk_nil)))) da_nil))))
      (dss_one (ds_if (dt_not (dt_val (de_fn (g__law_same.mono (by omega)) hr hgd hK m__law_same k__law_same b__law_same (da_cons (de_var 8) (da_cons (de_lst (da_cons (de_var 7) (da_cons (de_var 7) da_nil))) da_nil))))) (dss_one (ds_ret de_bl)) dss_nil))))))
      (dss_cons (ds_for PassesOwn.never rfl (di_range B.range_ (de_callB call_len imp_len B.len_ (da_cons (de_ix ix_seq imp_ix (de_var 1) de_int) da_nil))) (dg_name (i := 3) hN) (dss_cons (ds_set (i := 7) hN (de_tup (da_cons (de_ix ix_seq imp_ix (de_var 1) de_int) (da_cons (de_op op_addR imp_add (de_slice sl_R imp_sl (de_ix ix_seq imp_ix (de_var 1) de_int) do_none (do_some (de_var 3))) (de_slice sl_R imp_sl (de_ix ix_seq imp_ix (de_var 1) de_int) (do_some (de_op op_addR imp_add (de_var 3) de_int)) do_none)) da_nil))))
      (dss_one (ds_if (dt_not (dt_val (de_fn (g__law_same.mono (by omega)) hr hgd hK m__law_same k__law_same b__law_same (da_cons (de_lst (da_cons (de_fnX (ds := []) (g_without_way.mono (by omega)) takes_no hr hgd hK m_without_way k_without_way b_without_way .nil rfl (da_cons (de_var 1) (da_cons (de_var 3) da_nil))) (da_cons (de_fnXK (gS := sw2) (g_without_way.mono (by omega)) takes_no hr hgd hK m_without_way k_without_way kb_without_way (fun h => sw2_rel h) (dk_cons (de_var 3) (dk_cons (de_var 1) dk_nil))) da_nil))) (da_cons (de_lst (da_cons (de_var 7) (da_cons (de_var 7) da_nil))) da_nil))))) (dss_one (ds_ret de_bl)) dss_nil))))
      (dss_cons (ds_ownLc (i := 4) (own := [("_law_one", 10)]) rfl hN (di_items (de_ix ix_seq imp_ix (de_var 1) de_int)) (blk_of (N := N__law_changes_right) (sc := defScope s__law_changes_right) rfl rfl (by decide +kernel)) (fun _ _ _ _ _ => (dg_name (i := 10) hN)) (fun _ _ _ _ _ => dts_nil) (fun _ _ _ _ _ => (de_ix ix_seq imp_ix (de_var 10) de_int)))
      (dss_cons (ds_give 4 (ds_for PassesOwn.never rfl (di_range B.range_ de_int) (dg_name (i := 5) hN) (dss_cons (ds_set (i := 9) hN (de_fn (g__law_path.mono (by omega)) hr hgd hK m__law_path k__law_path b__law_path (da_cons (de_var 0) (da_cons (de_var 4) da_nil))))
      (dss_cons (ds_set (i := 8) hN (de_lst (da_cons (de_fnX (ds := []) (g_with_way.mono (by omega)) takes_no hr hgd hK m_with_way k_with_way b_with_way .nil rfl (da_cons (de_var 1) (da_cons (de_var 9) da_nil))) (da_cons (de_fnXK (gS := sw2) (g_with_way.mono (by omega)) takes_no hr hgd hK m_with_way k_with_way kb_with_way (fun h => sw2_rel h) (dk_cons (de_var 9) (dk_cons (de_var 1) dk_nil))) da_nil))))
      (dss_cons (ds_if (dt_w (dw_or (dt_not (dt_val (de_fn (g__law_same.mono (by omega)) hr hgd hK m__law_same k__law_same b__law_same (da_cons (de_var 8) (da_cons (de_op op_mulR imp_mul (de_lst (da_cons (de_tup (da_cons (de_ix ix_seq imp_ix (de_var 1) de_int) (da_cons (de_op op_addR imp_add (de_ix ix_seq imp_ix (de_var 1) de_int) (de_tup (da_cons (de_var 9) da_nil))) da_nil))) da_nil)) de_int) da_nil))))) (dw_or1 (dt_cmp (op_neR hr) imp_ne (de_fnX (ds := []) (g_lets_floor.mono (by omega)) takes_no hr hgd hK m_lets_floor k_lets_floor b_lets_floor .nil rfl (da_cons (de_ix ix_seq imp_ix (de_var 8) de_int) da_nil)) (de_op op_addR imp_add (de_callB call_len imp_len B.len_ (da_cons (de_ix ix_seq imp_ix (de_var 1) de_int) da_nil)) de_int))))) (dss_one (ds_ret de_bl)) dss_nil)
      (dss_one (ds_if (dt_not (dt_val (de_fn (g__law_same.mono (by omega)) hr hgd hK m__law_same k__law_same b__law_same (da_cons (de_fnX (ds := []) (g_without_way.mono (by omega)) takes_no hr hgd hK m_without_way k_without_way b_without_way .nil rfl (da_cons (de_ix ix_seq imp_ix (de_var 8) de_int) (da_cons (de_callB call_len imp_len B.len_ (da_cons (de_ix ix_seq imp_ix (de_var 1) de_int) da_nil)) da_nil))) (da_cons (de_var 1) da_nil))))) (dss_one (ds_ret de_bl)) dss_nil)))))))
      (dss_one (ds_ret de_bl))))))) fun xs G Q h => ?_
  obtain ⟨bs, ps, rfl, hP, hf, h⟩ := h
  refine ⟨rfl, ?_⟩
  have e0 : startD N__law_changes_right.length [.g 0, .d (planD bs ps)] = [some (.g 0), some (.d (planD bs ps)), none, none, none, none, none, none, none, none, none] := rfl
  rw [e0]
  have hk := plan_ok hP
  have hfl := plan_floor hP
  have hpos := hP.tags.pos
  rw [List.length_map] at hpos
  have hz := hP.tags.len
  rw [List.length_map] at hz
  have hw := hP.len
  have i0 : atI [PyData.tuple (bs.map bearD), .tuple (ps.map pathD)] 0 = some (.tuple (bs.map bearD)) := rfl
  have i1 : atI [PyData.tuple (bs.map bearD), .tuple (ps.map pathD)] 1 = some (.tuple (ps.map pathD)) := rfl
  let Iv : Nat → DEnv → GS → Prop := fun _ env G' => ∃ o2 o3 o4 o5 o6 o7 o8 o9 o10, env = [some (.g 0), some (.d (planD bs ps)), o2, o3, o4, o5, o6, o7, o8, o9, o10] ∧ Fd G'
  let It : SV → DEnv → GS → Prop := fun o4 env G' => ∃ o2 o3 o5 o6 o7 o8 o9 o10, env = [some (.g 0), some (.d (planD bs ps)), o2, o3, some o4, o5, o6, o7, o8, o9, o10] ∧ Fd G'
  have nA : An (.tuple (bs.map bearD)) := (s_tupof_any (fun _ h => h) (by decide) (by decide) _ (an_bears hP) : tAny 6 20000 300 _).up (by decide) (by decide) (by decide)
  have nW : An (.tuple (ps.map pathD)) := (an_ways2 hP hP.ok (by omega)).up (by decide) (by decide) (by decide)
  have two : ∀ {x y : D}, An x → An y → Ok (.tuple [x, y]) := fun hx hy => an_tup (fun d hd => by
    rcases List.mem_cons.mp hd with rfl | hd
    · exact hx
    · rw [List.mem_singleton] at hd; subst hd; exact hy) (by simp)
  have shw2 : ∀ {x : D}, Ok x → Shw (.list [x, x]) := fun hx => list_shw (fun d hd => by
    rcases List.mem_cons.mp hd with rfl | hd
    · exact hx.mono (by decide) (by decide)
    · rw [List.mem_singleton] at hd; subst hd; exact hx.mono (by decide) (by decide)) (by simp)
  -- places
  refine fallI (Iv 0) (fun R hR => ?_) (fun e G2 hIv => ?_)
  · simp (config := { maxSteps := 10000000 }) only [tdSeq, tdNext, tdBreak, tdCont, tdDrop, tdRet, tdRetN, tdIfS, tdAsg, tdPar, tdOwn, tdParO, tdAppend, tdExtend, tdGive, giveD, tdVar, tdC, tdBin, tdTest, tdAndT, tdOrT, tdNotT, tdAndV, tdOrV, tdNotV, tdIf, tdChain, tdUn, tdNil, tdCons, tdTup, tdLst, tdLstF, tdCall, tdNoPart, tdPart, tdSl, tdFn, tdFnK, tdBinO, tdCallO, tdOwnIx, tdItems, tdRange, tdRange2, tdFor, tdLcF, tdLc, tdIsi, tdUpper, tdJoin, tdBack, tdZip, tdDictIx, tdGGet, tdGPut, tdOwnArg, gdName, gdNil, gdCons, gdTup, asD_d, asB_d, asI_d, asS_d, asG_g, isOwn_own, useV, look, startD, asAll, allD, Option.map_some, itemsD, List.map_cons, List.map_nil, List.length_cons, List.length_nil, List.set_cons_zero, List.set_cons_succ, List.cons_append, List.nil_append, wipeD, Nat.zero_add, Nat.reduceAdd, Nat.reduceSub, List.reduceReplicate, id_eq, rdAdd_ii, rdAdd_ss, rdAdd_tt, rdAdd_ll, rdMul_ii, rdII_ii, rdI0_ii, rdInt_i, rdGt_ii, rdGe_ii, rdLt_ii, rdLe_ii, rdLen_l, rdLen_t, rdEq_ii, rdNe_ii, rdEq_ss, rdNe_ss, keyD_s, Option.bind_some, Bool.false_eq_true, if_false, if_true, gv0, gv1, gv2, gv3, gp1, gp2, gp3, gs0, gl0, rdIx, i0]
    refine ⟨by rw [List.length_map]; omega, ?_⟩
    refine dloop_by _ Iv 0 _ _ ?_ ?_ ⟨_, _, _, _, _, _, _, _, _, rfl, hf⟩
    · rintro i x env G3 hi ⟨o2, o3, o4, o5, o6, o7, o8, o9, o10, rfl, hf3⟩ nx hnx
      obtain ⟨hj, rfl⟩ : i < bs.length ∧ x = .int (i : Nat) := by
        rw [List.getElem?_map] at hi
        obtain ⟨c, h1, h2⟩ := Option.map_eq_some_iff.mp hi
        obtain ⟨h3, h4⟩ := List.getElem?_eq_some_iff.mp h1
        rw [List.getElem_range] at h4
        rw [List.length_range, List.length_map] at h3
        subst h4
        exact ⟨by omega, h2.symm⟩
      simp only [gdName, List.set_cons_zero, List.set_cons_succ]
      have ib : atI (bs.map bearD) (i : Int) = some (bearD bs[i]) := by
        rw [DL.atI_nat, List.getElem?_map, List.getElem?_eq_getElem hj]; rfl
      have i2 : atI [PyData.str bs[i].1, .int bs[i].2] 0 = some (.str bs[i].1) := rfl
      have tm : bs[i].1 ∈ bs.map (·.1) := List.mem_map.mpr ⟨_, List.getElem_mem hj, rfl⟩
      refine seq_out fun R2 h2 => ?_
      simp (config := { maxSteps := 10000000 }) only [tdSeq, tdNext, tdBreak, tdCont, tdDrop, tdRet, tdRetN, tdIfS, tdAsg, tdPar, tdOwn, tdParO, tdAppend, tdExtend, tdGive, giveD, tdVar, tdC, tdBin, tdTest, tdAndT, tdOrT, tdNotT, tdAndV, tdOrV, tdNotV, tdIf, tdChain, tdUn, tdNil, tdCons, tdTup, tdLst, tdLstF, tdCall, tdNoPart, tdPart, tdSl, tdFn, tdFnK, tdBinO, tdCallO, tdOwnIx, tdItems, tdRange, tdRange2, tdFor, tdLcF, tdLc, tdIsi, tdUpper, tdJoin, tdBack, tdZip, tdDictIx, tdGGet, tdGPut, tdOwnArg, gdName, gdNil, gdCons, gdTup, asD_d, asB_d, asI_d, asS_d, asG_g, isOwn_own, useV, look, startD, asAll, allD, Option.map_some, itemsD, List.map_cons, List.map_nil, List.length_cons, List.length_nil, List.set_cons_zero, List.set_cons_succ, List.cons_append, List.nil_append, wipeD, Nat.zero_add, Nat.reduceAdd, Nat.reduceSub, List.reduceReplicate, id_eq, rdAdd_ii, rdAdd_ss, rdAdd_tt, rdAdd_ll, rdMul_ii, rdII_ii, rdI0_ii, rdInt_i, rdGt_ii, rdGe_ii, rdLt_ii, rdLe_ii, rdLen_l, rdLen_t, rdEq_ii, rdNe_ii, rdEq_ss, rdNe_ss, keyD_s, Option.bind_some, Bool.false_eq_true, if_false, if_true, gv0, gv1, gv2, gv3, gp1, gp2, gp3, gs0, gl0]
      refine ⟨_, rfl, by decide, by decide, hf3, fun m G4 hm hf4 => ?_⟩
      obtain ⟨v, rfl, v0, v1⟩ := int_in 1 (10 ^ 59) [1, 2, 3, 7, 10 ^ Int.toNat 59] hm (by decide +kernel)
      try simp only [asD_d]
      rw [← h2]
      clear h2
      have okv : tAny 0 300 300 (.int v) := s_int_any (lo := 1) (hi := 10 ^ 59) 250 (by decide) (by decide) (by decide) (by decide) (by decide) (by decide) _ ⟨_, rfl, v0, v1⟩
      have plv : isPlaces (.int v) = true := decide_eq_true v0
      have due : Ok (.tuple [.tuple ((bs.map bearD).take i ++ [.tuple [.str bs[i].1, .int v]] ++ (bs.map bearD).drop (i + 1)), .tuple (ps.map pathD)]) := by
        refine two ?_ nW
        refine (s_tupof_any (τ := tAny 2 600 300) (lo := 0) (hi := 20) (fun _ h => h) (by decide) (by decide) _ ⟨_, rfl, fun x hx => ?_, Nat.zero_le _, by simp; omega⟩ : tAny 6 20000 300 _).up (by decide) (by decide) (by decide)
        obtain ⟨ds, e, q, _⟩ := an_bears hP
        cases e
        rcases List.mem_append.mp hx with hx | hx
        · rcases List.mem_append.mp hx with hx | hx
          · exact (q x (List.mem_of_mem_take hx)).up (by decide) (by decide) (by decide)
          · rw [List.mem_singleton] at hx; subst hx
            have tk := hP.tags.ok _ tm
            exact s_tup_any (ts := [tStr 0 9, tAny 0 300 300]) (tb_cons (e1 := 0) (m := 200) (s_str_any (by decide)) (tb_cons (e1 := 0) (m := 300) (fun _ h => h) tb_nil)) (by decide) (by decide) _ ⟨_, rfl, .cons ⟨_, rfl, tk.2, Nat.zero_le _, tk.1⟩ (.cons okv .nil)⟩
        · exact (q x (List.mem_of_mem_drop hx)).up (by decide) (by decide) (by decide)
      refine seq_out fun R2 h2 => ?_
      simp (config := { maxSteps := 10000000 }) only [tdSeq, tdNext, tdBreak, tdCont, tdDrop, tdRet, tdRetN, tdIfS, tdAsg, tdPar, tdOwn, tdParO, tdAppend, tdExtend, tdGive, giveD, tdVar, tdC, tdBin, tdTest, tdAndT, tdOrT, tdNotT, tdAndV, tdOrV, tdNotV, tdIf, tdChain, tdUn, tdNil, tdCons, tdTup, tdLst, tdLstF, tdCall, tdNoPart, tdPart, tdSl, tdFn, tdFnK, tdBinO, tdCallO, tdOwnIx, tdItems, tdRange, tdRange2, tdFor, tdLcF, tdLc, tdIsi, tdUpper, tdJoin, tdBack, tdZip, tdDictIx, tdGGet, tdGPut, tdOwnArg, gdName, gdNil, gdCons, gdTup, asD_d, asB_d, asI_d, asS_d, asG_g, isOwn_own, useV, look, startD, asAll, allD, Option.map_some, itemsD, List.map_cons, List.map_nil, List.length_cons, List.length_nil, List.set_cons_zero, List.set_cons_succ, List.cons_append, List.nil_append, wipeD, Nat.zero_add, Nat.reduceAdd, Nat.reduceSub, List.reduceReplicate, id_eq, rdAdd_ii, rdAdd_ss, rdAdd_tt, rdAdd_ll, rdMul_ii, rdII_ii, rdI0_ii, rdInt_i, rdGt_ii, rdGe_ii, rdLt_ii, rdLe_ii, rdLen_l, rdLen_t, rdEq_ii, rdNe_ii, rdEq_ss, rdNe_ss, keyD_s, Option.bind_some, Bool.false_eq_true, if_false, if_true, gv0, gv1, gv2, gv3, gp1, gp2, gp3, gs0, gl0, rdIx, i0, i1, ib, i2]
      refine ⟨by decide, _, _, _, rfl, by rw [List.length_map]; exact hj, by rw [List.length_map]; omega, ?_⟩
      try simp only [asD_d, asAll, allD, Option.map_some]
      refine ⟨by show 2 ≤ sizeLine; decide, ?_⟩
      rw [← h2]
      clear h2
      refine seq_out fun R2 h2 => ?_
      simp (config := { maxSteps := 10000000 }) only [tdSeq, tdNext, tdBreak, tdCont, tdDrop, tdRet, tdRetN, tdIfS, tdAsg, tdPar, tdOwn, tdParO, tdAppend, tdExtend, tdGive, giveD, tdVar, tdC, tdBin, tdTest, tdAndT, tdOrT, tdNotT, tdAndV, tdOrV, tdNotV, tdIf, tdChain, tdUn, tdNil, tdCons, tdTup, tdLst, tdLstF, tdCall, tdNoPart, tdPart, tdSl, tdFn, tdFnK, tdBinO, tdCallO, tdOwnIx, tdItems, tdRange, tdRange2, tdFor, tdLcF, tdLc, tdIsi, tdUpper, tdJoin, tdBack, tdZip, tdDictIx, tdGGet, tdGPut, tdOwnArg, gdName, gdNil, gdCons, gdTup, asD_d, asB_d, asI_d, asS_d, asG_g, isOwn_own, useV, look, startD, asAll, allD, Option.map_some, itemsD, List.map_cons, List.map_nil, List.length_cons, List.length_nil, List.set_cons_zero, List.set_cons_succ, List.cons_append, List.nil_append, wipeD, Nat.zero_add, Nat.reduceAdd, Nat.reduceSub, List.reduceReplicate, id_eq, rdAdd_ii, rdAdd_ss, rdAdd_tt, rdAdd_ll, rdMul_ii, rdII_ii, rdI0_ii, rdInt_i, rdGt_ii, rdGe_ii, rdLt_ii, rdLe_ii, rdLen_l, rdLen_t, rdEq_ii, rdNe_ii, rdEq_ss, rdNe_ss, keyD_s, Option.bind_some, Bool.false_eq_true, if_false, if_true, gv0, gv1, gv2, gv3, gp1, gp2, gp3, gs0, gl0, tdFnX, tdFnXK, rv3, rdIx, i0, i1, ib, i2]
      refine wp_told hP tm (okv.n.mono (by decide) (by decide)) plv ?_
      rw [placed_put hP.tags.nd hj]
      try simp only [asD_d]
      refine wp_told hP tm (okv.n.mono (by decide) (by decide)) plv ?_
      rw [placed_put hP.tags.nd hj]
      simp only [allD, Option.map_some]
      refine ⟨by show 2 ≤ sizeLine; decide, ?_⟩
      rw [← h2]
      clear h2
      simp (config := { maxSteps := 10000000 }) only [tdSeq, tdNext, tdBreak, tdCont, tdDrop, tdRet, tdRetN, tdIfS, tdAsg, tdPar, tdOwn, tdParO, tdAppend, tdExtend, tdGive, giveD, tdVar, tdC, tdBin, tdTest, tdAndT, tdOrT, tdNotT, tdAndV, tdOrV, tdNotV, tdIf, tdChain, tdUn, tdNil, tdCons, tdTup, tdLst, tdLstF, tdCall, tdNoPart, tdPart, tdSl, tdFn, tdFnK, tdBinO, tdCallO, tdOwnIx, tdItems, tdRange, tdRange2, tdFor, tdLcF, tdLc, tdIsi, tdUpper, tdJoin, tdBack, tdZip, tdDictIx, tdGGet, tdGPut, tdOwnArg, gdName, gdNil, gdCons, gdTup, asD_d, asB_d, asI_d, asS_d, asG_g, isOwn_own, useV, look, startD, asAll, allD, Option.map_some, itemsD, List.map_cons, List.map_nil, List.length_cons, List.length_nil, List.set_cons_zero, List.set_cons_succ, List.cons_append, List.nil_append, wipeD, Nat.zero_add, Nat.reduceAdd, Nat.reduceSub, List.reduceReplicate, id_eq, rdAdd_ii, rdAdd_ss, rdAdd_tt, rdAdd_ll, rdMul_ii, rdII_ii, rdI0_ii, rdInt_i, rdGt_ii, rdGe_ii, rdLt_ii, rdLe_ii, rdLen_l, rdLen_t, rdEq_ii, rdNe_ii, rdEq_ss, rdNe_ss, keyD_s, Option.bind_some, Bool.false_eq_true, if_false, if_true, gv0, gv1, gv2, gv3, gp1, gp2, gp3, gs0, gl0]
      refine ⟨by show 2 ≤ sizeLine; decide, _, _, rfl, shw2 due, shw2 due, ?_⟩
      rw [decide_eq_true rfl]
      try simp only [asB_d, Bool.not_true]
      exact itF (by simp) (hnx _ _ ⟨_, _, _, _, _, _, _, _, _, rfl, hf4⟩)
    · rintro env G3 ⟨o2, o3, o4, o5, o6, o7, o8, o9, o10, rfl, hf3⟩
      exact hR _ _ ⟨_, _, _, _, _, _, _, _, _, rfl, hf3⟩
  obtain ⟨o2, o3, o4, o5, o6, o7, o8, o9, o10, rfl, hfx⟩ := hIv
  -- ways left out
  refine fallI (Iv 0) (fun R hR => ?_) (fun e G3 hIv => ?_)
  · simp (config := { maxSteps := 10000000 }) only [tdSeq, tdNext, tdBreak, tdCont, tdDrop, tdRet, tdRetN, tdIfS, tdAsg, tdPar, tdOwn, tdParO, tdAppend, tdExtend, tdGive, giveD, tdVar, tdC, tdBin, tdTest, tdAndT, tdOrT, tdNotT, tdAndV, tdOrV, tdNotV, tdIf, tdChain, tdUn, tdNil, tdCons, tdTup, tdLst, tdLstF, tdCall, tdNoPart, tdPart, tdSl, tdFn, tdFnK, tdBinO, tdCallO, tdOwnIx, tdItems, tdRange, tdRange2, tdFor, tdLcF, tdLc, tdIsi, tdUpper, tdJoin, tdBack, tdZip, tdDictIx, tdGGet, tdGPut, tdOwnArg, gdName, gdNil, gdCons, gdTup, asD_d, asB_d, asI_d, asS_d, asG_g, isOwn_own, useV, look, startD, asAll, allD, Option.map_some, itemsD, List.map_cons, List.map_nil, List.length_cons, List.length_nil, List.set_cons_zero, List.set_cons_succ, List.cons_append, List.nil_append, wipeD, Nat.zero_add, Nat.reduceAdd, Nat.reduceSub, List.reduceReplicate, id_eq, rdAdd_ii, rdAdd_ss, rdAdd_tt, rdAdd_ll, rdMul_ii, rdII_ii, rdI0_ii, rdInt_i, rdGt_ii, rdGe_ii, rdLt_ii, rdLe_ii, rdLen_l, rdLen_t, rdEq_ii, rdNe_ii, rdEq_ss, rdNe_ss, keyD_s, Option.bind_some, Bool.false_eq_true, if_false, if_true, gv0, gv1, gv2, gv3, gp1, gp2, gp3, gs0, gl0, rdIx, i1]
    refine ⟨by rw [List.length_map]; omega, ?_⟩
    refine dloop_by _ Iv 0 _ _ ?_ ?_ ⟨_, _, _, _, _, _, _, _, _, rfl, hfx⟩
    · rintro i x env G3 hi ⟨o2, o3, o4, o5, o6, o7, o8, o9, o10, rfl, hf3⟩ nx hnx
      obtain ⟨hj, rfl⟩ : i < ps.length ∧ x = .int (i : Nat) := by
        rw [List.getElem?_map] at hi
        obtain ⟨c, h1, h2⟩ := Option.map_eq_some_iff.mp hi
        obtain ⟨h3, h4⟩ := List.getElem?_eq_some_iff.mp h1
        rw [List.getElem_range] at h4
        rw [List.length_range, List.length_map] at h3
        subst h4
        exact ⟨by omega, h2.symm⟩
      simp only [gdName, List.set_cons_zero, List.set_cons_succ]
      refine seq_out fun R2 h2 => ?_
      simp (config := { maxSteps := 10000000 }) only [tdSeq, tdNext, tdBreak, tdCont, tdDrop, tdRet, tdRetN, tdIfS, tdAsg, tdPar, tdOwn, tdParO, tdAppend, tdExtend, tdGive, giveD, tdVar, tdC, tdBin, tdTest, tdAndT, tdOrT, tdNotT, tdAndV, tdOrV, tdNotV, tdIf, tdChain, tdUn, tdNil, tdCons, tdTup, tdLst, tdLstF, tdCall, tdNoPart, tdPart, tdSl, tdFn, tdFnK, tdBinO, tdCallO, tdOwnIx, tdItems, tdRange, tdRange2, tdFor, tdLcF, tdLc, tdIsi, tdUpper, tdJoin, tdBack, tdZip, tdDictIx, tdGGet, tdGPut, tdOwnArg, gdName, gdNil, gdCons, gdTup, asD_d, asB_d, asI_d, asS_d, asG_g, isOwn_own, useV, look, startD, asAll, allD, Option.map_some, itemsD, List.map_cons, List.map_nil, List.length_cons, List.length_nil, List.set_cons_zero, List.set_cons_succ, List.cons_append, List.nil_append, wipeD, Nat.zero_add, Nat.reduceAdd, Nat.reduceSub, List.reduceReplicate, id_eq, rdAdd_ii, rdAdd_ss, rdAdd_tt, rdAdd_ll, rdMul_ii, rdII_ii, rdI0_ii, rdInt_i, rdGt_ii, rdGe_ii, rdLt_ii, rdLe_ii, rdLen_l, rdLen_t, rdEq_ii, rdNe_ii, rdEq_ss, rdNe_ss, keyD_s, Option.bind_some, Bool.false_eq_true, if_false, if_true, gv0, gv1, gv2, gv3, gp1, gp2, gp3, gs0, gl0, rdIx, rdSl, i0, i1]
      have k1 : ((i : Int) + 1).toNat = i + 1 := by omega
      rw [cut_to _ (show (0 : Int) ≤ (i : Int) by omega), cut_at _ (show (0 : Int) ≤ (i : Int) + 1 by omega), k1, Int.toNat_natCast]
      have due : Ok (.tuple [.tuple (bs.map bearD), .tuple ((ps.map pathD).take i ++ (ps.map pathD).drop (i + 1))]) := by
        rw [← List.map_take, ← List.map_drop, ← List.map_append]
        refine two nA ((an_ways2 hP (fun p hp => ?_) (by simp; omega)).up (by decide) (by decide) (by decide))
        rcases List.mem_append.mp hp with hp | hp
        · exact hP.ok p (List.mem_of_mem_take hp)
        · exact hP.ok p (List.mem_of_mem_drop hp)
      refine ⟨by simp only [List.length_take, List.length_drop, List.length_map, sizeLine_eq]; omega, by decide, ?_⟩
      rw [← h2]
      clear h2
      simp (config := { maxSteps := 10000000 }) only [tdSeq, tdNext, tdBreak, tdCont, tdDrop, tdRet, tdRetN, tdIfS, tdAsg, tdPar, tdOwn, tdParO, tdAppend, tdExtend, tdGive, giveD, tdVar, tdC, tdBin, tdTest, tdAndT, tdOrT, tdNotT, tdAndV, tdOrV, tdNotV, tdIf, tdChain, tdUn, tdNil, tdCons, tdTup, tdLst, tdLstF, tdCall, tdNoPart, tdPart, tdSl, tdFn, tdFnK, tdBinO, tdCallO, tdOwnIx, tdItems, tdRange, tdRange2, tdFor, tdLcF, tdLc, tdIsi, tdUpper, tdJoin, tdBack, tdZip, tdDictIx, tdGGet, tdGPut, tdOwnArg, gdName, gdNil, gdCons, gdTup, asD_d, asB_d, asI_d, asS_d, asG_g, isOwn_own, useV, look, startD, asAll, allD, Option.map_some, itemsD, List.map_cons, List.map_nil, List.length_cons, List.length_nil, List.set_cons_zero, List.set_cons_succ, List.cons_append, List.nil_append, wipeD, Nat.zero_add, Nat.reduceAdd, Nat.reduceSub, List.reduceReplicate, id_eq, rdAdd_ii, rdAdd_ss, rdAdd_tt, rdAdd_ll, rdMul_ii, rdII_ii, rdI0_ii, rdInt_i, rdGt_ii, rdGe_ii, rdLt_ii, rdLe_ii, rdLen_l, rdLen_t, rdEq_ii, rdNe_ii, rdEq_ss, rdNe_ss, keyD_s, Option.bind_some, Bool.false_eq_true, if_false, if_true, gv0, gv1, gv2, gv3, gp1, gp2, gp3, gs0, gl0, tdFnX, tdFnXK, sw2]
      refine wo_told hP hP.ok (by omega) hj ?_
      try simp only [asD_d]
      refine wo_told hP hP.ok (by omega) hj ?_
      simp (config := { maxSteps := 10000000 }) only [tdSeq, tdNext, tdBreak, tdCont, tdDrop, tdRet, tdRetN, tdIfS, tdAsg, tdPar, tdOwn, tdParO, tdAppend, tdExtend, tdGive, giveD, tdVar, tdC, tdBin, tdTest, tdAndT, tdOrT, tdNotT, tdAndV, tdOrV, tdNotV, tdIf, tdChain, tdUn, tdNil, tdCons, tdTup, tdLst, tdLstF, tdCall, tdNoPart, tdPart, tdSl, tdFn, tdFnK, tdBinO, tdCallO, tdOwnIx, tdItems, tdRange, tdRange2, tdFor, tdLcF, tdLc, tdIsi, tdUpper, tdJoin, tdBack, tdZip, tdDictIx, tdGGet, tdGPut, tdOwnArg, gdName, gdNil, gdCons, gdTup, asD_d, asB_d, asI_d, asS_d, asG_g, isOwn_own, useV, look, startD, asAll, allD, Option.map_some, itemsD, List.map_cons, List.map_nil, List.length_cons, List.length_nil, List.set_cons_zero, List.set_cons_succ, List.cons_append, List.nil_append, wipeD, Nat.zero_add, Nat.reduceAdd, Nat.reduceSub, List.reduceReplicate, id_eq, rdAdd_ii, rdAdd_ss, rdAdd_tt, rdAdd_ll, rdMul_ii, rdII_ii, rdI0_ii, rdInt_i, rdGt_ii, rdGe_ii, rdLt_ii, rdLe_ii, rdLen_l, rdLen_t, rdEq_ii, rdNe_ii, rdEq_ss, rdNe_ss, keyD_s, Option.bind_some, Bool.false_eq_true, if_false, if_true, gv0, gv1, gv2, gv3, gp1, gp2, gp3, gs0, gl0]
      refine ⟨by decide, ?_⟩
      refine ⟨by show 2 ≤ sizeLine; decide, _, _, rfl, shw2 due, shw2 due, ?_⟩
      rw [decide_eq_true rfl]
      try simp only [asB_d, Bool.not_true]
      exact itF (by simp) (hnx _ _ ⟨_, _, _, _, _, _, _, _, _, rfl, hf3⟩)
    · rintro env G3 ⟨o2, o3, o4, o5, o6, o7, o8, o9, o10, rfl, hf3⟩
      exact hR _ _ ⟨_, _, _, _, _, _, _, _, _, rfl, hf3⟩
  obtain ⟨o2, o3, o4, o5, o6, o7, o8, o9, o10, rfl, hfx⟩ := hIv
  refine fallI (It (.own ((bs.map (·.1)).map .str))) (fun R hR => ?_) (fun e G4 hIt => ?_)
  · simp (config := { maxSteps := 10000000 }) only [tdSeq, tdNext, tdBreak, tdCont, tdDrop, tdRet, tdRetN, tdIfS, tdAsg, tdPar, tdOwn, tdParO, tdAppend, tdExtend, tdGive, giveD, tdVar, tdC, tdBin, tdTest, tdAndT, tdOrT, tdNotT, tdAndV, tdOrV, tdNotV, tdIf, tdChain, tdUn, tdNil, tdCons, tdTup, tdLst, tdLstF, tdCall, tdNoPart, tdPart, tdSl, tdFn, tdFnK, tdBinO, tdCallO, tdOwnIx, tdItems, tdRange, tdRange2, tdFor, tdLcF, tdLc, tdIsi, tdUpper, tdJoin, tdBack, tdZip, tdDictIx, tdGGet, tdGPut, tdOwnArg, gdName, gdNil, gdCons, gdTup, asD_d, asB_d, asI_d, asS_d, asG_g, isOwn_own, useV, look, startD, asAll, allD, Option.map_some, itemsD, List.map_cons, List.map_nil, List.length_cons, List.length_nil, List.set_cons_zero, List.set_cons_succ, List.cons_append, List.nil_append, wipeD, Nat.zero_add, Nat.reduceAdd, Nat.reduceSub, List.reduceReplicate, id_eq, rdAdd_ii, rdAdd_ss, rdAdd_tt, rdAdd_ll, rdMul_ii, rdII_ii, rdI0_ii, rdInt_i, rdGt_ii, rdGe_ii, rdLt_ii, rdLe_ii, rdLen_l, rdLen_t, rdEq_ii, rdNe_ii, rdEq_ss, rdNe_ss, keyD_s, Option.bind_some, Bool.false_eq_true, if_false, if_true, gv0, gv1, gv2, gv3, gp1, gp2, gp3, gs0, gl0, rdIx, i0]
    refine lcl_map nameOf _ (by rw [List.length_map, sizeLine_eq]; omega) (fun y m K1 k => ?_) ?_
    · obtain ⟨b, _, rfl⟩ := List.mem_map.mp m
      have i2 : atI [PyData.str b.1, .int b.2] 0 = some (.str b.1) := rfl
      simp (config := { maxSteps := 10000000 }) only [tdSeq, tdNext, tdBreak, tdCont, tdDrop, tdRet, tdRetN, tdIfS, tdAsg, tdPar, tdOwn, tdParO, tdAppend, tdExtend, tdGive, giveD, tdVar, tdC, tdBin, tdTest, tdAndT, tdOrT, tdNotT, tdAndV, tdOrV, tdNotV, tdIf, tdChain, tdUn, tdNil, tdCons, tdTup, tdLst, tdLstF, tdCall, tdNoPart, tdPart, tdSl, tdFn, tdFnK, tdBinO, tdCallO, tdOwnIx, tdItems, tdRange, tdRange2, tdFor, tdLcF, tdLc, tdIsi, tdUpper, tdJoin, tdBack, tdZip, tdDictIx, tdGGet, tdGPut, tdOwnArg, gdName, gdNil, gdCons, gdTup, asD_d, asB_d, asI_d, asS_d, asG_g, isOwn_own, useV, look, startD, asAll, allD, Option.map_some, itemsD, List.map_cons, List.map_nil, List.length_cons, List.length_nil, List.set_cons_zero, List.set_cons_succ, List.cons_append, List.nil_append, wipeD, Nat.zero_add, Nat.reduceAdd, Nat.reduceSub, List.reduceReplicate, id_eq, rdAdd_ii, rdAdd_ss, rdAdd_tt, rdAdd_ll, rdMul_ii, rdII_ii, rdI0_ii, rdInt_i, rdGt_ii, rdGe_ii, rdLt_ii, rdLe_ii, rdLen_l, rdLen_t, rdEq_ii, rdNe_ii, rdEq_ss, rdNe_ss, keyD_s, Option.bind_some, Bool.false_eq_true, if_false, if_true, gv0, gv1, gv2, gv3, gp1, gp2, gp3, gs0, gl0, rdIx, tdYes, i2]
      exact k
    · refine hR _ _ ⟨o2, o3, o5, o6, o7, o8, o9, o10, ?_, hfx⟩
      rw [List.map_map, List.map_map]
      rfl
  obtain ⟨o2, o3, o5, o6, o7, o8, o9, o10, rfl, hfx⟩ := hIt
  refine fallI (It (.d (.list ((bs.map (·.1)).map .str)))) (fun R hR => ?_) (fun e G5 hIt => ?_)
  · simp (config := { maxSteps := 10000000 }) only [tdSeq, tdNext, tdBreak, tdCont, tdDrop, tdRet, tdRetN, tdIfS, tdAsg, tdPar, tdOwn, tdParO, tdAppend, tdExtend, tdGive, giveD, tdVar, tdC, tdBin, tdTest, tdAndT, tdOrT, tdNotT, tdAndV, tdOrV, tdNotV, tdIf, tdChain, tdUn, tdNil, tdCons, tdTup, tdLst, tdLstF, tdCall, tdNoPart, tdPart, tdSl, tdFn, tdFnK, tdBinO, tdCallO, tdOwnIx, tdItems, tdRange, tdRange2, tdFor, tdLcF, tdLc, tdIsi, tdUpper, tdJoin, tdBack, tdZip, tdDictIx, tdGGet, tdGPut, tdOwnArg, gdName, gdNil, gdCons, gdTup, asD_d, asB_d, asI_d, asS_d, asG_g, isOwn_own, useV, look, startD, asAll, allD, Option.map_some, itemsD, List.map_cons, List.map_nil, List.length_cons, List.length_nil, List.set_cons_zero, List.set_cons_succ, List.cons_append, List.nil_append, wipeD, Nat.zero_add, Nat.reduceAdd, Nat.reduceSub, List.reduceReplicate, id_eq, rdAdd_ii, rdAdd_ss, rdAdd_tt, rdAdd_ll, rdMul_ii, rdII_ii, rdI0_ii, rdInt_i, rdGt_ii, rdGe_ii, rdLt_ii, rdLe_ii, rdLen_l, rdLen_t, rdEq_ii, rdNe_ii, rdEq_ss, rdNe_ss, keyD_s, Option.bind_some, Bool.false_eq_true, if_false, if_true, gv0, gv1, gv2, gv3, gp1, gp2, gp3, gs0, gl0]
    refine ⟨by decide, ?_⟩
    refine dloop_by _ (fun _ => It (.d (.list ((bs.map (·.1)).map .str)))) 0 _ _ ?_ ?_ ⟨_, _, _, _, _, _, _, _, rfl, hfx⟩
    · rintro i x env G3 hi ⟨o2, o3, o5, o6, o7, o8, o9, o10, rfl, hf3⟩ nx hnx
      simp only [gdName, List.set_cons_zero, List.set_cons_succ]
      refine seq_out fun R2 h2 => ?_
      simp (config := { maxSteps := 10000000 }) only [tdSeq, tdNext, tdBreak, tdCont, tdDrop, tdRet, tdRetN, tdIfS, tdAsg, tdPar, tdOwn, tdParO, tdAppend, tdExtend, tdGive, giveD, tdVar, tdC, tdBin, tdTest, tdAndT, tdOrT, tdNotT, tdAndV, tdOrV, tdNotV, tdIf, tdChain, tdUn, tdNil, tdCons, tdTup, tdLst, tdLstF, tdCall, tdNoPart, tdPart, tdSl, tdFn, tdFnK, tdBinO, tdCallO, tdOwnIx, tdItems, tdRange, tdRange2, tdFor, tdLcF, tdLc, tdIsi, tdUpper, tdJoin, tdBack, tdZip, tdDictIx, tdGGet, tdGPut, tdOwnArg, gdName, gdNil, gdCons, gdTup, asD_d, asB_d, asI_d, asS_d, asG_g, isOwn_own, useV, look, startD, asAll, allD, Option.map_some, itemsD, List.map_cons, List.map_nil, List.length_cons, List.length_nil, List.set_cons_zero, List.set_cons_succ, List.cons_append, List.nil_append, wipeD, Nat.zero_add, Nat.reduceAdd, Nat.reduceSub, List.reduceReplicate, id_eq, rdAdd_ii, rdAdd_ss, rdAdd_tt, rdAdd_ll, rdMul_ii, rdII_ii, rdI0_ii, rdInt_i, rdGt_ii, rdGe_ii, rdLt_ii, rdLe_ii, rdLen_l, rdLen_t, rdEq_ii, rdNe_ii, rdEq_ss, rdNe_ss, keyD_s, Option.bind_some, Bool.false_eq_true, if_false, if_true, gv0, gv1, gv2, gv3, gp1, gp2, gp3, gs0, gl0]
      refine ⟨_, rfl, hP.tags, hf3, fun p G6 hp hf6 => ?_⟩
      rw [← h2]
      clear h2
      refine seq_out fun R2 h2 => ?_
      simp (config := { maxSteps := 10000000 }) only [tdSeq, tdNext, tdBreak, tdCont, tdDrop, tdRet, tdRetN, tdIfS, tdAsg, tdPar, tdOwn, tdParO, tdAppend, tdExtend, tdGive, giveD, tdVar, tdC, tdBin, tdTest, tdAndT, tdOrT, tdNotT, tdAndV, tdOrV, tdNotV, tdIf, tdChain, tdUn, tdNil, tdCons, tdTup, tdLst, tdLstF, tdCall, tdNoPart, tdPart, tdSl, tdFn, tdFnK, tdBinO, tdCallO, tdOwnIx, tdItems, tdRange, tdRange2, tdFor, tdLcF, tdLc, tdIsi, tdUpper, tdJoin, tdBack, tdZip, tdDictIx, tdGGet, tdGPut, tdOwnArg, gdName, gdNil, gdCons, gdTup, asD_d, asB_d, asI_d, asS_d, asG_g, isOwn_own, useV, look, startD, asAll, allD, Option.map_some, itemsD, List.map_cons, List.map_nil, List.length_cons, List.length_nil, List.set_cons_zero, List.set_cons_succ, List.cons_append, List.nil_append, wipeD, Nat.zero_add, Nat.reduceAdd, Nat.reduceSub, List.reduceReplicate, id_eq, rdAdd_ii, rdAdd_ss, rdAdd_tt, rdAdd_ll, rdMul_ii, rdII_ii, rdI0_ii, rdInt_i, rdGt_ii, rdGe_ii, rdLt_ii, rdLe_ii, rdLen_l, rdLen_t, rdEq_ii, rdNe_ii, rdEq_ss, rdNe_ss, keyD_s, Option.bind_some, Bool.false_eq_true, if_false, if_true, gv0, gv1, gv2, gv3, gp1, gp2, gp3, gs0, gl0, tdFnX, tdFnXK, sw2]
      refine ww_told hP hp ?_
      try simp only [asD_d]
      refine ww_told hP hp ?_
      simp only [allD, Option.map_some]
      refine ⟨by show 2 ≤ sizeLine; decide, ?_⟩
      rw [← h2]
      clear h2
      have hq : ∀ q ∈ ps ++ [p], Path (bs.map (·.1)) q := fun q hq => by
        rcases List.mem_append.mp hq with hq | hq
        · exact hP.ok q hq
        · rw [List.mem_singleton] at hq; subst hq; exact hp
      have hl : (ps ++ [p]).length ≤ 13 := by rw [List.length_append, List.length_singleton]; omega
      have due := ok_ways hP hq hl
      have g0 : atI [planD bs (ps ++ [p]), planD bs (ps ++ [p])] 0 = some (planD bs (ps ++ [p])) := rfl
      have em : ps.map pathD ++ [pathD p] = (ps ++ [p]).map pathD := by rw [List.map_append]; rfl
      refine seq_out fun R2 h2 => ?_
      simp (config := { maxSteps := 10000000 }) only [tdSeq, tdNext, tdBreak, tdCont, tdDrop, tdRet, tdRetN, tdIfS, tdAsg, tdPar, tdOwn, tdParO, tdAppend, tdExtend, tdGive, giveD, tdVar, tdC, tdBin, tdTest, tdAndT, tdOrT, tdNotT, tdAndV, tdOrV, tdNotV, tdIf, tdChain, tdUn, tdNil, tdCons, tdTup, tdLst, tdLstF, tdCall, tdNoPart, tdPart, tdSl, tdFn, tdFnK, tdBinO, tdCallO, tdOwnIx, tdItems, tdRange, tdRange2, tdFor, tdLcF, tdLc, tdIsi, tdUpper, tdJoin, tdBack, tdZip, tdDictIx, tdGGet, tdGPut, tdOwnArg, gdName, gdNil, gdCons, gdTup, asD_d, asB_d, asI_d, asS_d, asG_g, isOwn_own, useV, look, startD, asAll, allD, Option.map_some, itemsD, List.map_cons, List.map_nil, List.length_cons, List.length_nil, List.set_cons_zero, List.set_cons_succ, List.cons_append, List.nil_append, wipeD, Nat.zero_add, Nat.reduceAdd, Nat.reduceSub, List.reduceReplicate, id_eq, rdAdd_ii, rdAdd_ss, rdAdd_tt, rdAdd_ll, rdMul_ii, rdII_ii, rdI0_ii, rdInt_i, rdGt_ii, rdGe_ii, rdLt_ii, rdLe_ii, rdLen_l, rdLen_t, rdEq_ii, rdNe_ii, rdEq_ss, rdNe_ss, keyD_s, Option.bind_some, Bool.false_eq_true, if_false, if_true, gv0, gv1, gv2, gv3, gp1, gp2, gp3, gs0, gl0, tdFnX, tdFnXK, rdIx, rdMul, i0, i1, g0, em, show Int.toNat 2 = 2 from rfl, List.replicate_succ, List.replicate_zero, List.flatten_cons, List.flatten_nil, List.append_nil, List.cons_append, List.nil_append]
      refine ⟨by decide, by rw [List.length_map, sizeLine_eq]; omega, by decide, by decide, ⟨by decide, by decide, by decide⟩, _, _, rfl, shw2 due, shw2 due, ?_⟩
      rw [decide_eq_true rfl]
      try simp only [asB_d, Bool.not_true]
      refine itF (by simp) ⟨_, rfl, due, fun w k e => ?_, fun _ => ?_⟩
      · rw [floor_ways hP hq] at e; cases e
      have cn : countF (planD bs (ps ++ [p])) = (ps.length : Int) + 1 := by
        show (((ps ++ [p]).map pathD).length : Int) = _
        rw [List.length_map, List.length_append, List.length_singleton]; rfl
      simp only [asD_d, rdNe_ii, cn, List.length_map, asB_d, ne_eq, not_true_eq_false, decide_false, decide_not, decide_true, Bool.not_true]
      refine itF (by simp) ?_
      rw [← h2]
      clear h2
      simp (config := { maxSteps := 10000000 }) only [tdSeq, tdNext, tdBreak, tdCont, tdDrop, tdRet, tdRetN, tdIfS, tdAsg, tdPar, tdOwn, tdParO, tdAppend, tdExtend, tdGive, giveD, tdVar, tdC, tdBin, tdTest, tdAndT, tdOrT, tdNotT, tdAndV, tdOrV, tdNotV, tdIf, tdChain, tdUn, tdNil, tdCons, tdTup, tdLst, tdLstF, tdCall, tdNoPart, tdPart, tdSl, tdFn, tdFnK, tdBinO, tdCallO, tdOwnIx, tdItems, tdRange, tdRange2, tdFor, tdLcF, tdLc, tdIsi, tdUpper, tdJoin, tdBack, tdZip, tdDictIx, tdGGet, tdGPut, tdOwnArg, gdName, gdNil, gdCons, gdTup, asD_d, asB_d, asI_d, asS_d, asG_g, isOwn_own, useV, look, startD, asAll, allD, Option.map_some, itemsD, List.map_cons, List.map_nil, List.length_cons, List.length_nil, List.set_cons_zero, List.set_cons_succ, List.cons_append, List.nil_append, wipeD, Nat.zero_add, Nat.reduceAdd, Nat.reduceSub, List.reduceReplicate, id_eq, rdAdd_ii, rdAdd_ss, rdAdd_tt, rdAdd_ll, rdMul_ii, rdII_ii, rdI0_ii, rdInt_i, rdGt_ii, rdGe_ii, rdLt_ii, rdLe_ii, rdLen_l, rdLen_t, rdEq_ii, rdNe_ii, rdEq_ss, rdNe_ss, keyD_s, Option.bind_some, Bool.false_eq_true, if_false, if_true, gv0, gv1, gv2, gv3, gp1, gp2, gp3, gs0, gl0, tdFnX, tdFnXK, rdIx, i1, g0]
      rw [List.length_map]
      refine wo_told (j := ps.length) hP hq hl (by rw [List.length_append, List.length_singleton]; omega) ?_
      have last : ((ps ++ [p]).map pathD).take ps.length ++ ((ps ++ [p]).map pathD).drop (ps.length + 1) = ps.map pathD := by
        rw [List.map_append, List.take_append_of_le_length (by rw [List.length_map]; omega), List.drop_eq_nil_of_le (by simp), List.append_nil, List.take_of_length_le (by rw [List.length_map]; omega)]
      rw [last]
      have shp := hk.shw (by decide) (by decide)
      refine ⟨_, _, rfl, shp, shp, ?_⟩
      rw [decide_eq_true rfl]
      try simp only [asB_d, Bool.not_true]
      exact itF (by simp) (hnx _ _ ⟨o2, o3, _, _, _, _, _, _, rfl, hf6⟩)
    · rintro env G3 ⟨o2, o3, o5, o6, o7, o8, o9, o10, rfl, hf3⟩
      exact hR _ _ ⟨_, _, _, _, _, _, _, _, rfl, hf3⟩
  obtain ⟨o2, o3, o5, o6, o7, o8, o9, o10, rfl, hfx⟩ := hIt
  simp (config := { maxSteps := 10000000 }) only [tdSeq, tdNext, tdBreak, tdCont, tdDrop, tdRet, tdRetN, tdIfS, tdAsg, tdPar, tdOwn, tdParO, tdAppend, tdExtend, tdGive, giveD, tdVar, tdC, tdBin, tdTest, tdAndT, tdOrT, tdNotT, tdAndV, tdOrV, tdNotV, tdIf, tdChain, tdUn, tdNil, tdCons, tdTup, tdLst, tdLstF, tdCall, tdNoPart, tdPart, tdSl, tdFn, tdFnK, tdBinO, tdCallO, tdOwnIx, tdItems, tdRange, tdRange2, tdFor, tdLcF, tdLc, tdIsi, tdUpper, tdJoin, tdBack, tdZip, tdDictIx, tdGGet, tdGPut, tdOwnArg, gdName, gdNil, gdCons, gdTup, asD_d, asB_d, asI_d, asS_d, asG_g, isOwn_own, useV, look, startD, asAll, allD, Option.map_some, itemsD, List.map_cons, List.map_nil, List.length_cons, List.length_nil, List.set_cons_zero, List.set_cons_succ, List.cons_append, List.nil_append, wipeD, Nat.zero_add, Nat.reduceAdd, Nat.reduceSub, List.reduceReplicate, id_eq, rdAdd_ii, rdAdd_ss, rdAdd_tt, rdAdd_ll, rdMul_ii, rdII_ii, rdI0_ii, rdInt_i, rdGt_ii, rdGe_ii, rdLt_ii, rdLe_ii, rdLen_l, rdLen_t, rdEq_ii, rdNe_ii, rdEq_ss, rdNe_ss, keyD_s, Option.bind_some, Bool.false_eq_true, if_false, if_true, gv0, gv1, gv2, gv3, gp1, gp2, gp3, gs0, gl0]
  exact h _ hfx
/-! ### _law_no_paths -/
abbrev N__law_no_paths : List Str := ["_law_tag", "_law_some"]
theorem sc__law_no_paths : FnScope N__law_no_paths ["_law_tag"] (defScope s__law_no_paths) := ⟨rfl, rfl, rfl, by decide +kernel, rfl, by decide +kernel, by decide +kernel⟩
theorem ok__law_no_paths {f : Addr} {fd : FuncData} (Fn : L2.Fun K "_law_no_paths" "_law_no_paths" s__law_no_paths f fd) (B : Bl mg) (M : Md mg) : FnG pr w K mg base 1 f fd ["_law_tag"] (lSp K ct__law_no_paths) := by
  have hN := sc__law_no_paths.nd
  refine FnG.data Fn sc__law_no_paths _ (fun cdv A out s H F hK hr hgd => (dss_cons (ds_set (i := 1) hN (de_lst (da_cons de_non (da_cons (de_lit 40 rfl) (da_cons (de_lit 40 rfl) (da_cons (de_lst (da_cons (de_var 0) da_nil)) (da_cons (de_var 0) (da_cons (de_tup (da_cons (de_var 0) (da_cons (de_var 0) da_nil))) (da_cons (de_lit 40 rfl) (da_cons (de_tup (da_cons (de_var 0) (da_cons de_str (da_cons (de_var 0) da_nil)))) (da_cons (de_tup (da_cons (de_var 0) (da_cons de_non da_nil))) (da_cons (de_lit 40 rfl) (da_cons (de_tup (da_cons (de_tup (da_cons (de_var 0) da_nil)) da_nil)) (da_cons de_bl da_nil))))))))))))))
      (dss_one (ds_ret (de_op op_addR imp_add (de_var 1) (de_lst (da_cons (de_tup (da_cons (de_var 0) (da_cons de_str da_nil))) (da_cons (de_lit 40 rfl) (da_cons (de_tup (da_cons (de_var 0) (da_cons (de_var 0) (da_cons de_str da_nil)))) (da_cons de_int (da_cons (de_tup (da_cons (de_lst (da_cons (de_var 0) da_nil)) da_nil)) (da_cons (de_tup (da_cons (de_var 0) (da_cons (de_lst (da_cons (de_var 0) da_nil)) da_nil))) (da_cons (de_lit 40 rfl) da_nil))))))))))))) fun xs G Q h => ?_
  obtain ⟨t, bs, ps, rfl, hP, ht, h⟩ := h
  refine ⟨rfl, ?_⟩
  simp (config := { maxSteps := 10000000 }) only [tdSeq, tdNext, tdBreak, tdCont, tdDrop, tdRet, tdRetN, tdIfS, tdAsg, tdPar, tdOwn, tdParO, tdAppend, tdExtend, tdGive, giveD, tdVar, tdC, tdBin, tdTest, tdAndT, tdOrT, tdNotT, tdAndV, tdOrV, tdNotV, tdIf, tdChain, tdUn, tdNil, tdCons, tdTup, tdLst, tdLstF, tdCall, tdNoPart, tdPart, tdSl, tdFn, tdFnK, tdBinO, tdCallO, tdOwnIx, tdItems, tdRange, tdRange2, tdFor, tdLcF, tdLc, tdIsi, tdUpper, tdJoin, tdBack, tdZip, tdDictIx, tdGGet, tdGPut, tdOwnArg, gdName, gdNil, gdCons, gdTup, asD_d, asB_d, asI_d, asS_d, asG_g, isOwn_own, useV, look, startD, asAll, allD, Option.map_some, itemsD, List.map_cons, List.map_nil, List.length_cons, List.length_nil, List.set_cons_zero, List.set_cons_succ, List.cons_append, List.nil_append, wipeD, Nat.zero_add, Nat.reduceAdd, Nat.reduceSub, List.reduceReplicate, id_eq, N__law_no_paths, rdAdd_ii, rdAdd_ss, rdAdd_tt, rdAdd_ll, rdMul_ii, rdII_ii, rdI0_ii, rdInt_i, rdGt_ii, rdGe_ii, rdLt_ii, rdLe_ii, rdLen_l, rdLen_t, rdEq_ii, rdNe_ii, rdEq_ss, rdNe_ss, keyD_s, Option.bind_some, Bool.false_eq_true, if_false, if_true, gv0, gv1, gv2, gv3, gp1, gp2, gp3, gs0, gl0]
  refine ⟨by decide, by decide, by decide, by decide, by decide, by decide, by decide, by decide, by decide, by decide, by decide, by decide, by decide, by decide, by decide, ?_⟩
  have tk := hP.tags.ok t ht
  have at0 : An (.str t) := s_str_any (lo := 0) (hi := 9) (by decide) _ ⟨_, rfl, tk.2, Nat.zero_le _, tk.1⟩
  have lit : ∀ {d : D}, bdB 8 200000 300 d = true → An d := fun h => bdB_ok h
  have nil : ∀ d ∈ ([] : List D), An d := fun d hd => by cases hd
  have con : ∀ {x : D} {r : List D}, An x → (∀ d ∈ r, An d) → ∀ d ∈ x :: r, An d := fun hx hr d hd => by
    rcases List.mem_cons.mp hd with rfl | hd
    · exact hx
    · exact hr d hd
  have s1 : An (.tuple [.str t]) := s_tup_any (ts := [tStr 0 9]) (tb_cons (e1 := 0) (m := 200) (s_str_any (by decide)) tb_nil) (by decide) (by decide) _ ⟨_, rfl, .cons ⟨_, rfl, tk.2, Nat.zero_le _, tk.1⟩ .nil⟩
  have s2 : An (.list [.str t]) := s_lst_any (τ := tStr 0 9) (lo := 0) (hi := 1) (e := 0) (m := 200) (s_str_any (by decide)) (by decide) (by decide) _ ⟨_, rfl, fun x hx => by
    rw [List.mem_singleton] at hx; subst hx; exact ⟨_, rfl, tk.2, Nat.zero_le _, tk.1⟩, by simp, by simp⟩
  have nb : inD (.str "nobody") ((bs.map bearD).map nameOf) = false := tag_no hP.tags.nb
  refine h _ (by simp) fun d hd => ?_
  simp only [List.mem_cons, List.not_mem_nil, or_false] at hd
  rcases hd with rfl | rfl | rfl | rfl | rfl | rfl | rfl | rfl | rfl | rfl | rfl | rfl | rfl | rfl | rfl | rfl | rfl | rfl | rfl
  · exact ⟨an_ok (lit (by decide +kernel)), rfl⟩
  · exact ⟨an_ok (lit (by decide +kernel)), rfl⟩
  · exact ⟨an_ok (lit (by decide +kernel)), rfl⟩
  · exact ⟨an_ok s2, rfl⟩
  · exact ⟨an_ok at0, rfl⟩
  · exact ⟨an_tup (con at0 (con at0 nil)) (by simp), way_adj⟩
  · exact ⟨an_ok (lit (by decide +kernel)), way_out (d := .str "nobody") (by simp) nb⟩
  · exact ⟨an_tup (con at0 (con (lit (by decide +kernel)) (con at0 nil))) (by simp), way_out (d := .str "nobody") (by simp) nb⟩
  · exact ⟨an_tup (con at0 (con (lit (by decide +kernel)) nil)) (by simp), way_nm (d := .none) (by simp) rfl⟩
  · exact ⟨an_ok (lit (by decide +kernel)), way_nm (d := .int 0) (by simp) rfl⟩
  · exact ⟨an_tup (con s1 nil) (by simp), way_nm (d := .tuple [.str t]) (by simp) rfl⟩
  · exact ⟨an_ok (lit (by decide +kernel)), rfl⟩
  · exact ⟨an_tup (con at0 (con (lit (by decide +kernel)) nil)) (by simp), way_nm (d := .str "") (by simp) (by decide +kernel)⟩
  · exact ⟨an_ok (lit (by decide +kernel)), way_nm (d := .str "A") (by simp) (by decide +kernel)⟩
  · exact ⟨an_tup (con at0 (con at0 (con (lit (by decide +kernel)) nil))) (by simp), way_adj⟩
  · exact ⟨an_ok (lit (by decide +kernel)), rfl⟩
  · exact ⟨an_tup (con s2 nil) (by simp), way_nm (d := .list [.str t]) (by simp) rfl⟩
  · exact ⟨an_tup (con at0 (con s2 nil)) (by simp), way_nm (d := .list [.str t]) (by simp) rfl⟩
  · exact ⟨an_ok (lit (by decide +kernel)), way_nm (d := .str "abcdefghi") (by simp) (by decide +kernel)⟩
/-! ### _law_are_refused -/
abbrev N__law_are_refused : List Str := ["_law_feed_here", "_law_plan_here", "_law_tag", "_law_odd", "_law_got"]
theorem sc__law_are_refused : FnScope N__law_are_refused ["_law_feed_here", "_law_plan_here"] (defScope s__law_are_refused) := ⟨rfl, rfl, rfl, by decide +kernel, rfl, by decide +kernel, by decide +kernel⟩
theorem ok__law_are_refused {f : Addr} {fd : FuncData} (Fn : L2.Fun K "_law_are_refused" "_law_are_refused" s__law_are_refused f fd) (B : Bl mg) (M : Md mg) (c__law_draw : Cal pr w K mg base "_law_draw" ["_law_feed_here", "_law_many"] 1 ct__law_draw) (c__law_no_plans : Cal pr w K mg base "_law_no_plans" ["_law_plan_here"] 1 ct__law_no_plans) (c__law_same : Cal pr w K mg base "_law_same" ["_law_got", "_law_due"] 1 ct__law_same) (c__law_no_tags : Cal pr w K mg base "_law_no_tags" [] 1 ct__law_no_tags) (c__law_no_paths : Cal pr w K mg base "_law_no_paths" ["_law_tag"] 1 ct__law_no_paths) (x_with_places : CalX pr w K mg base "with_places" ["floor", "zone", "places"] 12 ct_with_places) (x_with_way : CalX pr w K mg base "with_way" ["floor", "names"] 12 ct_with_way) (x_without_way : CalX pr w K mg base "without_way" ["floor", "way"] 12 ct_without_way) (HR : HeardC pr w K mg base "_law_heard" "_law_call_in" N__law_heard (defScope s__law_heard) (defBody s__law_heard) (defArgs s__law_heard) "told" known hear) {cL : Addr} (hcd : fd.code = .ref cL) (TB : LamX.TabB base mg cL TbOf.P) : FnG pr w K mg base 15 f fd ["_law_feed_here", "_law_plan_here"] (lSp K ct__law_are_refused) := by
  obtain ⟨_, _, g__law_draw, m__law_draw, k__law_draw, b__law_draw, kk__law_draw⟩ := c__law_draw.ex
  obtain ⟨_, _, g__law_no_plans, m__law_no_plans, k__law_no_plans, b__law_no_plans, kk__law_no_plans⟩ := c__law_no_plans.ex
  obtain ⟨_, _, g__law_same, m__law_same, k__law_same, b__law_same, kk__law_same⟩ := c__law_same.ex
  obtain ⟨_, _, g__law_no_tags, m__law_no_tags, k__law_no_tags, b__law_no_tags, kk__law_no_tags⟩ := c__law_no_tags.ex
  obtain ⟨_, _, g__law_no_paths, m__law_no_paths, k__law_no_paths, b__law_no_paths, kk__law_no_paths⟩ := c__law_no_paths.ex
  obtain ⟨_, _, g_with_places, m_with_places, k_with_places, b_with_places, kk_with_places, kk2_with_places, kk3_with_places⟩ := x_with_places.ex
  obtain ⟨_, _, g_with_way, m_with_way, k_with_way, b_with_way, kk_with_way, kk2_with_way, kk3_with_way⟩ := x_with_way.ex
  obtain ⟨_, _, g_without_way, m_without_way, k_without_way, b_without_way, kk_without_way, kk2_without_way, kk3_without_way⟩ := x_without_way.ex
  have hN := sc__law_are_refused.nd
  refine FnG.dataE Fn sc__law_are_refused (fun xs G Q h => ?_) (fun cdv A out s H F hc hK hr hgd xs G Q h => ⟨_, (dss_cons (ds_set (i := 2) hN (de_ix ix_seq imp_ix (de_ix ix_seq imp_ix (de_ix ix_seq imp_ix (de_var 1) de_int) (de_fn (g__law_draw.mono (by omega)) hr hgd hK m__law_draw k__law_draw b__law_draw (da_cons (de_var 0) (da_cons (de_callB call_len imp_len B.len_ (da_cons (de_ix ix_seq imp_ix (de_var 1) de_int) da_nil)) da_nil)))) de_int))
      (dss_cons (ds_for PassesOwn.never rfl (di_items (de_fn (g__law_no_plans.mono (by omega)) hr hgd hK m__law_no_plans k__law_no_plans b__law_no_plans (da_cons (de_var 1) da_nil))) (dg_name (i := 3) hN) (dss_cons (ds_own (i := 4) hN (df_lst (da_cons (de_heardC (X := (cxOf CX0 pr w K mg base N__law_are_refused "_law_are_refused" (defScope s__law_are_refused) f cdv A out s H E0).nox) (lv := 12) HR sc__law_heard TB (hc.symm.trans hcd) hr hK hgd (by exact fun A outer s H E f c' F W hK hgd hr tk => (de_fnX (ds := []) (g_with_places.mono (by omega)) tk hr hgd hK m_with_places k_with_places b_with_places .nil rfl (da_cons (de_var 3) (da_cons de_str (da_cons de_int da_nil))))) (L := by exact LamX.lamS_by (show LamX.lamSB (defScope s__law_are_refused) _ = true by decide +kernel))) da_nil)))
      (dss_cons (ds_append 4 (de_heardC (X := (cxOf CX0 pr w K mg base N__law_are_refused "_law_are_refused" (defScope s__law_are_refused) f cdv A out s H E0).nox) (lv := 12) HR sc__law_heard TB (hc.symm.trans hcd) hr hK hgd (by exact fun A outer s H E f c' F W hK hgd hr tk => (de_fnX (ds := []) (g_with_way.mono (by omega)) tk hr hgd hK m_with_way k_with_way b_with_way .nil rfl (da_cons (de_var 3) (da_cons (de_tup (da_cons (de_var 2) da_nil)) da_nil)))) (L := by exact LamX.lamS_by (show LamX.lamSB (defScope s__law_are_refused) _ = true by decide +kernel))))
      (dss_cons (ds_append 4 (de_heardC (X := (cxOf CX0 pr w K mg base N__law_are_refused "_law_are_refused" (defScope s__law_are_refused) f cdv A out s H E0).nox) (lv := 12) HR sc__law_heard TB (hc.symm.trans hcd) hr hK hgd (by exact fun A outer s H E f c' F W hK hgd hr tk => (de_fnX (ds := []) (g_without_way.mono (by omega)) tk hr hgd hK m_without_way k_without_way b_without_way .nil rfl (da_cons (de_var 3) (da_cons de_non da_nil)))) (L := by exact LamX.lamS_by (show LamX.lamSB (defScope s__law_are_refused) _ = true by decide +kernel))))
      (dss_one (ds_if (dt_not (dt_val (de_fnP (g__law_same.mono (by omega)) hr hgd hK m__law_same k__law_same b__law_same (dao_own 4 (dao_cons (de_op op_mulR imp_mul (de_lit 40 rfl) de_int) dao_nil))))) (dss_one (ds_ret de_bl)) dss_nil))))))
      (dss_cons (ds_for PassesOwn.never rfl (di_items (de_fn0 (g__law_no_tags.mono (by omega)) hr hgd hK m__law_no_tags k__law_no_tags b__law_no_tags)) (dg_name (i := 3) hN) (dss_cons (ds_own (i := 4) hN (df_lst (da_cons (de_heardC (X := (cxOf CX0 pr w K mg base N__law_are_refused "_law_are_refused" (defScope s__law_are_refused) f cdv A out s H E0).nox) (lv := 12) HR sc__law_heard TB (hc.symm.trans hcd) hr hK hgd (by exact fun A outer s H E f c' F W hK hgd hr tk => (de_fnX (ds := []) (g_with_places.mono (by omega)) tk hr hgd hK m_with_places k_with_places b_with_places .nil rfl (da_cons (de_var 1) (da_cons (de_var 3) (da_cons de_int da_nil))))) (L := by exact LamX.lamS_by (show LamX.lamSB (defScope s__law_are_refused) _ = true by decide +kernel))) da_nil)))
      (dss_cons (ds_append 4 (de_heardC (X := (cxOf CX0 pr w K mg base N__law_are_refused "_law_are_refused" (defScope s__law_are_refused) f cdv A out s H E0).nox) (lv := 12) HR sc__law_heard TB (hc.symm.trans hcd) hr hK hgd (by exact fun A outer s H E f c' F W hK hgd hr tk => (de_fnX (ds := []) (g_with_places.mono (by omega)) tk hr hgd hK m_with_places k_with_places b_with_places .nil rfl (da_cons (de_var 1) (da_cons (de_var 3) (da_cons de_int da_nil))))) (L := by exact LamX.lamS_by (show LamX.lamSB (defScope s__law_are_refused) _ = true by decide +kernel))))
      (dss_one (ds_if (dt_not (dt_val (de_fnP (g__law_same.mono (by omega)) hr hgd hK m__law_same k__law_same b__law_same (dao_own 4 (dao_cons (de_op op_mulR imp_mul (de_lst (da_cons (de_tup (da_cons de_str (da_cons de_str (da_cons (de_var 3) da_nil)))) da_nil)) de_int) dao_nil))))) (dss_one (ds_ret de_bl)) dss_nil)))))
      (dss_cons (ds_for PassesOwn.never rfl (di_items (de_lit 40 rfl)) (dg_name (i := 3) hN) (dss_one (ds_if (dt_not (dt_val (de_fn (g__law_same.mono (by omega)) hr hgd hK m__law_same k__law_same b__law_same (da_cons (de_heardC (X := (cxOf CX0 pr w K mg base N__law_are_refused "_law_are_refused" (defScope s__law_are_refused) f cdv A out s H E0).nox) (lv := 12) HR sc__law_heard TB (hc.symm.trans hcd) hr hK hgd (by exact fun A outer s H E f c' F W hK hgd hr tk => (de_fnX (ds := []) (g_with_places.mono (by omega)) tk hr hgd hK m_with_places k_with_places b_with_places .nil rfl (da_cons (de_var 1) (da_cons (de_var 2) (da_cons (de_var 3) da_nil))))) (L := by exact LamX.lamS_by (show LamX.lamSB (defScope s__law_are_refused) _ = true by decide +kernel))) (da_cons (de_lit 40 rfl) da_nil))))) (dss_one (ds_ret de_bl)) dss_nil)))
      (dss_cons (ds_for PassesOwn.never rfl (di_items (de_fn (g__law_no_paths.mono (by omega)) hr hgd hK m__law_no_paths k__law_no_paths b__law_no_paths (da_cons (de_var 2) da_nil))) (dg_name (i := 3) hN) (dss_one (ds_if (dt_not (dt_val (de_fn (g__law_same.mono (by omega)) hr hgd hK m__law_same k__law_same b__law_same (da_cons (de_heardC (X := (cxOf CX0 pr w K mg base N__law_are_refused "_law_are_refused" (defScope s__law_are_refused) f cdv A out s H E0).nox) (lv := 12) HR sc__law_heard TB (hc.symm.trans hcd) hr hK hgd (by exact fun A outer s H E f c' F W hK hgd hr tk => (de_fnX (ds := []) (g_with_way.mono (by omega)) tk hr hgd hK m_with_way k_with_way b_with_way .nil rfl (da_cons (de_var 1) (da_cons (de_var 3) da_nil)))) (L := by exact LamX.lamS_by (show LamX.lamSB (defScope s__law_are_refused) _ = true by decide +kernel))) (da_cons (de_lit 40 rfl) da_nil))))) (dss_one (ds_ret de_bl)) dss_nil)))
      (dss_cons (ds_for PassesOwn.never rfl (di_items (de_lst (da_cons (de_callB call_len imp_len B.len_ (da_cons (de_ix ix_seq imp_ix (de_var 1) de_int) da_nil)) (da_cons (de_lit 40 rfl) (da_cons de_bl (da_cons de_bl (da_cons de_non (da_cons de_str (da_cons (de_lit 40 rfl) (da_cons (de_lit 40 rfl) (da_cons (de_lit 40 rfl) da_nil))))))))))) (dg_name (i := 3) hN) (dss_one (ds_if (dt_not (dt_val (de_fn (g__law_same.mono (by omega)) hr hgd hK m__law_same k__law_same b__law_same (da_cons (de_heardC (X := (cxOf CX0 pr w K mg base N__law_are_refused "_law_are_refused" (defScope s__law_are_refused) f cdv A out s H E0).nox) (lv := 12) HR sc__law_heard TB (hc.symm.trans hcd) hr hK hgd (by exact fun A outer s H E f c' F W hK hgd hr tk => (de_fnX (ds := []) (g_without_way.mono (by omega)) tk hr hgd hK m_without_way k_without_way b_without_way .nil rfl (da_cons (de_var 1) (da_cons (de_var 3) da_nil)))) (L := by exact LamX.lamS_by (show LamX.lamSB (defScope s__law_are_refused) _ = true by decide +kernel))) (da_cons (de_tup (da_cons de_str (da_cons de_str (da_cons (de_var 3) da_nil)))) da_nil))))) (dss_one (ds_ret de_bl)) dss_nil)))
      (dss_one (ds_ret de_bl)))))))), ?_⟩)
  · obtain ⟨bs, ps, rfl, _⟩ := h
    rfl
  · obtain ⟨bs, ps, rfl, hP, hf, h⟩ := h
    have hk := plan_ok hP
    have hfl := plan_floor hP
    have hpos := hP.tags.pos
    rw [List.length_map] at hpos
    have hz := hP.tags.len
    rw [List.length_map] at hz
    have hw := hP.len
    have e0 : startD N__law_are_refused.length [.g 0, .d (planD bs ps)] = [some (.g 0), some (.d (planD bs ps)), none, none, none] := rfl
    rw [e0]
    have eq : (cxOf CX0 pr w K mg base N__law_are_refused "_law_are_refused" (defScope s__law_are_refused) f cdv A out s H E0).env.qual = ("_law_are_refused" : Str) ++ ".<locals>." := rfl
    have eq2 : (cxOf CX0 pr w K mg base N__law_are_refused "_law_are_refused" (defScope s__law_are_refused) f cdv A out s H E0).nox.env.qual = ("_law_are_refused" : Str) ++ ".<locals>." := rfl
    have tab : ∀ {G : GS}, Fd G → ∃ n : Nat, (G : List GO)[n]? = some (GO.tab TbOf.P ((("_law_are_refused" : Str) ++ ".<locals>.") ++ "<lambda>")) := by
      rintro G ⟨ns, x, y, z, rfl, _⟩
      exact ⟨1, feed_tab⟩
    have i0 : atI [PyData.tuple (bs.map bearD), .tuple (ps.map pathD)] 0 = some (.tuple (bs.map bearD)) := rfl
    have i1 : atI [PyData.tuple (bs.map bearD), .tuple (ps.map pathD)] 1 = some (.tuple (ps.map pathD)) := rfl
    refine seq_out fun R1 h1 => ?_
    simp (config := { maxSteps := 10000000 }) only [tdSeq, tdNext, tdBreak, tdCont, tdDrop, tdRet, tdRetN, tdIfS, tdAsg, tdPar, tdOwn, tdParO, tdAppend, tdExtend, tdGive, giveD, tdVar, tdC, tdBin, tdTest, tdAndT, tdOrT, tdNotT, tdAndV, tdOrV, tdNotV, tdIf, tdChain, tdUn, tdNil, tdCons, tdTup, tdLst, tdLstF, tdCall, tdNoPart, tdPart, tdSl, tdFn, tdFnK, tdBinO, tdCallO, tdOwnIx, tdItems, tdRange, tdRange2, tdFor, tdLcF, tdLc, tdIsi, tdUpper, tdJoin, tdBack, tdZip, tdDictIx, tdGGet, tdGPut, tdOwnArg, gdName, gdNil, gdCons, gdTup, asD_d, asB_d, asI_d, asS_d, asG_g, isOwn_own, useV, look, startD, asAll, allD, Option.map_some, itemsD, List.map_cons, List.map_nil, List.length_cons, List.length_nil, List.set_cons_zero, List.set_cons_succ, List.cons_append, List.nil_append, wipeD, Nat.zero_add, Nat.reduceAdd, Nat.reduceSub, List.reduceReplicate, id_eq, rdAdd_ii, rdAdd_ss, rdAdd_tt, rdAdd_ll, rdMul_ii, rdII_ii, rdI0_ii, rdInt_i, rdGt_ii, rdGe_ii, rdLt_ii, rdLe_ii, rdLen_l, rdLen_t, rdEq_ii, rdNe_ii, rdEq_ss, rdNe_ss, keyD_s, Option.bind_some, Bool.false_eq_true, if_false, if_true, gv0, gv1, gv2, gv3, gp1, gp2, gp3, gs0, gl0, rdIx, i0, eq, eq2]
    refine ⟨_, rfl, by rw [List.length_map]; omega, by rw [List.length_map]; omega, hf, fun k G1 k0 k1' hf1 => ?_⟩
    rw [List.length_map] at k1'
    obtain ⟨j, rfl⟩ : ∃ j : Nat, k = (j : Int) := ⟨k.toNat, by omega⟩
    have hj : j < bs.length := by omega
    have ib : atI (bs.map bearD) (j : Int) = some (bearD bs[j]) := by
      rw [DL.atI_nat, List.getElem?_map, List.getElem?_eq_getElem hj]; rfl
    have i2 : atI [PyData.str bs[j].1, .int bs[j].2] 0 = some (.str bs[j].1) := rfl
    simp (config := { maxSteps := 10000000 }) only [tdSeq, tdNext, tdBreak, tdCont, tdDrop, tdRet, tdRetN, tdIfS, tdAsg, tdPar, tdOwn, tdParO, tdAppend, tdExtend, tdGive, giveD, tdVar, tdC, tdBin, tdTest, tdAndT, tdOrT, tdNotT, tdAndV, tdOrV, tdNotV, tdIf, tdChain, tdUn, tdNil, tdCons, tdTup, tdLst, tdLstF, tdCall, tdNoPart, tdPart, tdSl, tdFn, tdFnK, tdBinO, tdCallO, tdOwnIx, tdItems, tdRange, tdRange2, tdFor, tdLcF, tdLc, tdIsi, tdUpper, tdJoin, tdBack, tdZip, tdDictIx, tdGGet, tdGPut, tdOwnArg, gdName, gdNil, gdCons, gdTup, asD_d, asB_d, asI_d, asS_d, asG_g, isOwn_own, useV, look, startD, asAll, allD, Option.map_some, itemsD, List.map_cons, List.map_nil, List.length_cons, List.length_nil, List.set_cons_zero, List.set_cons_succ, List.cons_append, List.nil_append, wipeD, Nat.zero_add, Nat.reduceAdd, Nat.reduceSub, List.reduceReplicate, id_eq, rdAdd_ii, rdAdd_ss, rdAdd_tt, rdAdd_ll, rdMul_ii, rdII_ii, rdI0_ii, rdInt_i, rdGt_ii, rdGe_ii, rdLt_ii, rdLe_ii, rdLen_l, rdLen_t, rdEq_ii, rdNe_ii, rdEq_ss, rdNe_ss, keyD_s, Option.bind_some, Bool.false_eq_true, if_false, if_true, gv0, gv1, gv2, gv3, gp1, gp2, gp3, gs0, gl0, rdIx, ib, i2]
    rw [← h1]
    clear h1
    have tm : bs[j].1 ∈ bs.map (·.1) := List.mem_map.mpr ⟨_, List.getElem_mem hj, rfl⟩
    have tk := hP.tags.ok _ tm
    generalize bs[j].1 = t at tm tk ⊢
    let Iv : Nat → DEnv → GS → Prop := fun _ env G' => ∃ o3 o4, env = [some (.g 0), some (.d (planD bs ps)), some (.d (.str t)), o3, o4] ∧ Fd G'
    have okT : Ok (.tuple [.str t]) := an_tup (fun d hd => by
      rw [List.mem_singleton] at hd; subst hd
      exact s_str_any (lo := 0) (hi := 9) (by decide) _ ⟨_, rfl, tk.2, Nat.zero_le _, tk.1⟩) (by simp)
    have okL : ∀ {d : D}, niceB 40 1000000 d = true → Ok d := fun h => Nice.of h
    have hfx := hf1
    have hfx := hf1
    -- what is no floor
    refine fallI (Iv 0) (fun R hR => ?_) (fun e G2 hIv => ?_)
    · simp (config := { maxSteps := 10000000 }) only [tdSeq, tdNext, tdBreak, tdCont, tdDrop, tdRet, tdRetN, tdIfS, tdAsg, tdPar, tdOwn, tdParO, tdAppend, tdExtend, tdGive, giveD, tdVar, tdC, tdBin, tdTest, tdAndT, tdOrT, tdNotT, tdAndV, tdOrV, tdNotV, tdIf, tdChain, tdUn, tdNil, tdCons, tdTup, tdLst, tdLstF, tdCall, tdNoPart, tdPart, tdSl, tdFn, tdFnK, tdBinO, tdCallO, tdOwnIx, tdItems, tdRange, tdRange2, tdFor, tdLcF, tdLc, tdIsi, tdUpper, tdJoin, tdBack, tdZip, tdDictIx, tdGGet, tdGPut, tdOwnArg, gdName, gdNil, gdCons, gdTup, asD_d, asB_d, asI_d, asS_d, asG_g, isOwn_own, useV, look, startD, asAll, allD, Option.map_some, itemsD, List.map_cons, List.map_nil, List.length_cons, List.length_nil, List.set_cons_zero, List.set_cons_succ, List.cons_append, List.nil_append, wipeD, Nat.zero_add, Nat.reduceAdd, Nat.reduceSub, List.reduceReplicate, id_eq, rdAdd_ii, rdAdd_ss, rdAdd_tt, rdAdd_ll, rdMul_ii, rdII_ii, rdI0_ii, rdInt_i, rdGt_ii, rdGe_ii, rdLt_ii, rdLe_ii, rdLen_l, rdLen_t, rdEq_ii, rdNe_ii, rdEq_ss, rdNe_ss, keyD_s, Option.bind_some, Bool.false_eq_true, if_false, if_true, gv0, gv1, gv2, gv3, gp1, gp2, gp3, gs0, gl0, rdIx, eq, eq2]
      refine ⟨bs, ps, rfl, hP, fun L hL hd => ?_⟩
      show dloop _ _ _ L _ _
      refine dloop_by L Iv 0 _ _ ?_ ?_ ⟨_, _, rfl, hfx⟩
      · rintro i x env G3 hi ⟨o3, o4, rfl, hf3⟩ nx hnx
        obtain ⟨hx, hxn⟩ := hd x (List.mem_of_getElem? hi)
        simp only [gdName, List.set_cons_zero, List.set_cons_succ]
        refine seq_out fun R2 h2 => ?_
        simp (config := { maxSteps := 10000000 }) only [tdSeq, tdNext, tdBreak, tdCont, tdDrop, tdRet, tdRetN, tdIfS, tdAsg, tdPar, tdOwn, tdParO, tdAppend, tdExtend, tdGive, giveD, tdVar, tdC, tdBin, tdTest, tdAndT, tdOrT, tdNotT, tdAndV, tdOrV, tdNotV, tdIf, tdChain, tdUn, tdNil, tdCons, tdTup, tdLst, tdLstF, tdCall, tdNoPart, tdPart, tdSl, tdFn, tdFnK, tdBinO, tdCallO, tdOwnIx, tdItems, tdRange, tdRange2, tdFor, tdLcF, tdLc, tdIsi, tdUpper, tdJoin, tdBack, tdZip, tdDictIx, tdGGet, tdGPut, tdOwnArg, gdName, gdNil, gdCons, gdTup, asD_d, asB_d, asI_d, asS_d, asG_g, isOwn_own, useV, look, startD, asAll, allD, Option.map_some, itemsD, List.map_cons, List.map_nil, List.length_cons, List.length_nil, List.set_cons_zero, List.set_cons_succ, List.cons_append, List.nil_append, wipeD, Nat.zero_add, Nat.reduceAdd, Nat.reduceSub, List.reduceReplicate, id_eq, rdAdd_ii, rdAdd_ss, rdAdd_tt, rdAdd_ll, rdMul_ii, rdII_ii, rdI0_ii, rdInt_i, rdGt_ii, rdGe_ii, rdLt_ii, rdLe_ii, rdLen_l, rdLen_t, rdEq_ii, rdNe_ii, rdEq_ss, rdNe_ss, keyD_s, Option.bind_some, Bool.false_eq_true, if_false, if_true, gv0, gv1, gv2, gv3, gp1, gp2, gp3, gs0, gl0, tdHeard, tdFnX, noOwn, eq, eq2]
        refine ⟨tab hf3, wp_floor hx (okL (by decide +kernel)) hxn ⟨⟨_, _, rfl⟩, by decide, ?_⟩⟩
        rw [← h2]
        clear h2
        refine seq_out fun R2 h2 => ?_
        simp (config := { maxSteps := 10000000 }) only [tdSeq, tdNext, tdBreak, tdCont, tdDrop, tdRet, tdRetN, tdIfS, tdAsg, tdPar, tdOwn, tdParO, tdAppend, tdExtend, tdGive, giveD, tdVar, tdC, tdBin, tdTest, tdAndT, tdOrT, tdNotT, tdAndV, tdOrV, tdNotV, tdIf, tdChain, tdUn, tdNil, tdCons, tdTup, tdLst, tdLstF, tdCall, tdNoPart, tdPart, tdSl, tdFn, tdFnK, tdBinO, tdCallO, tdOwnIx, tdItems, tdRange, tdRange2, tdFor, tdLcF, tdLc, tdIsi, tdUpper, tdJoin, tdBack, tdZip, tdDictIx, tdGGet, tdGPut, tdOwnArg, gdName, gdNil, gdCons, gdTup, asD_d, asB_d, asI_d, asS_d, asG_g, isOwn_own, useV, look, startD, asAll, allD, Option.map_some, itemsD, List.map_cons, List.map_nil, List.length_cons, List.length_nil, List.set_cons_zero, List.set_cons_succ, List.cons_append, List.nil_append, wipeD, Nat.zero_add, Nat.reduceAdd, Nat.reduceSub, List.reduceReplicate, id_eq, rdAdd_ii, rdAdd_ss, rdAdd_tt, rdAdd_ll, rdMul_ii, rdII_ii, rdI0_ii, rdInt_i, rdGt_ii, rdGe_ii, rdLt_ii, rdLe_ii, rdLen_l, rdLen_t, rdEq_ii, rdNe_ii, rdEq_ss, rdNe_ss, keyD_s, Option.bind_some, Bool.false_eq_true, if_false, if_true, gv0, gv1, gv2, gv3, gp1, gp2, gp3, gs0, gl0, tdHeard, tdFnX, noOwn, eq, eq2]
        refine ⟨tab hf3, by decide, ww_floor hx okT hxn ⟨⟨_, _, rfl⟩, by decide, ?_⟩⟩
        rw [← h2]
        clear h2
        refine seq_out fun R2 h2 => ?_
        simp (config := { maxSteps := 10000000 }) only [tdSeq, tdNext, tdBreak, tdCont, tdDrop, tdRet, tdRetN, tdIfS, tdAsg, tdPar, tdOwn, tdParO, tdAppend, tdExtend, tdGive, giveD, tdVar, tdC, tdBin, tdTest, tdAndT, tdOrT, tdNotT, tdAndV, tdOrV, tdNotV, tdIf, tdChain, tdUn, tdNil, tdCons, tdTup, tdLst, tdLstF, tdCall, tdNoPart, tdPart, tdSl, tdFn, tdFnK, tdBinO, tdCallO, tdOwnIx, tdItems, tdRange, tdRange2, tdFor, tdLcF, tdLc, tdIsi, tdUpper, tdJoin, tdBack, tdZip, tdDictIx, tdGGet, tdGPut, tdOwnArg, gdName, gdNil, gdCons, gdTup, asD_d, asB_d, asI_d, asS_d, asG_g, isOwn_own, useV, look, startD, asAll, allD, Option.map_some, itemsD, List.map_cons, List.map_nil, List.length_cons, List.length_nil, List.set_cons_zero, List.set_cons_succ, List.cons_append, List.nil_append, wipeD, Nat.zero_add, Nat.reduceAdd, Nat.reduceSub, List.reduceReplicate, id_eq, rdAdd_ii, rdAdd_ss, rdAdd_tt, rdAdd_ll, rdMul_ii, rdII_ii, rdI0_ii, rdInt_i, rdGt_ii, rdGe_ii, rdLt_ii, rdLe_ii, rdLen_l, rdLen_t, rdEq_ii, rdNe_ii, rdEq_ss, rdNe_ss, keyD_s, Option.bind_some, Bool.false_eq_true, if_false, if_true, gv0, gv1, gv2, gv3, gp1, gp2, gp3, gs0, gl0, tdHeard, tdFnX, noOwn, eq, eq2]
        refine ⟨tab hf3, wo_floor hx hxn ⟨⟨_, _, rfl⟩, by decide, ?_⟩⟩
        rw [← h2]
        clear h2
        have shx : Shw (.list (List.replicate 3 (.tuple [.str "use", .str "floor", .int (-1)]))) := list_shw (fun d hd => by rw [(List.mem_replicate.mp hd).2]; exact use_ok (by decide +kernel) (okL (by decide +kernel))) (by simp)
        simp (config := { maxSteps := 10000000 }) only [tdSeq, tdNext, tdBreak, tdCont, tdDrop, tdRet, tdRetN, tdIfS, tdAsg, tdPar, tdOwn, tdParO, tdAppend, tdExtend, tdGive, giveD, tdVar, tdC, tdBin, tdTest, tdAndT, tdOrT, tdNotT, tdAndV, tdOrV, tdNotV, tdIf, tdChain, tdUn, tdNil, tdCons, tdTup, tdLst, tdLstF, tdCall, tdNoPart, tdPart, tdSl, tdFn, tdFnK, tdBinO, tdCallO, tdOwnIx, tdItems, tdRange, tdRange2, tdFor, tdLcF, tdLc, tdIsi, tdUpper, tdJoin, tdBack, tdZip, tdDictIx, tdGGet, tdGPut, tdOwnArg, gdName, gdNil, gdCons, gdTup, asD_d, asB_d, asI_d, asS_d, asG_g, isOwn_own, useV, look, startD, asAll, allD, Option.map_some, itemsD, List.map_cons, List.map_nil, List.length_cons, List.length_nil, List.set_cons_zero, List.set_cons_succ, List.cons_append, List.nil_append, wipeD, Nat.zero_add, Nat.reduceAdd, Nat.reduceSub, List.reduceReplicate, id_eq, rdAdd_ii, rdAdd_ss, rdAdd_tt, rdAdd_ll, rdMul_ii, rdII_ii, rdI0_ii, rdInt_i, rdGt_ii, rdGe_ii, rdLt_ii, rdLe_ii, rdLen_l, rdLen_t, rdEq_ii, rdNe_ii, rdEq_ss, rdNe_ss, keyD_s, Option.bind_some, Bool.false_eq_true, if_false, if_true, gv0, gv1, gv2, gv3, gp1, gp2, gp3, gs0, gl0, tdFnP, tdOwnArg, isOwn, lendV, rdMul, hear_use, show Int.toNat 3 = 3 from rfl, show Int.toNat 2 = 2 from rfl, List.replicate_succ, List.replicate_zero, List.flatten_cons, List.flatten_nil, List.append_nil, List.cons_append, List.nil_append]
        refine ⟨⟨by decide, by decide, by decide⟩, rfl, _, _, rfl, shx, shx, ?_⟩
        rw [decide_eq_true rfl]
        refine ⟨rfl, ?_⟩
        simp only [asB_d, Bool.not_true]
        exact itF (by simp) (hnx _ _ ⟨_, _, rfl, hf3⟩)
      · rintro env G3 ⟨o3, o4, rfl, hf3⟩
        exact hR _ _ ⟨_, _, rfl, hf3⟩
    obtain ⟨o3, o4, rfl, hfx⟩ := hIv
    -- what is no zone
    refine fallI (Iv 0) (fun R hR => ?_) (fun e G2 hIv => ?_)
    · simp (config := { maxSteps := 10000000 }) only [tdSeq, tdNext, tdBreak, tdCont, tdDrop, tdRet, tdRetN, tdIfS, tdAsg, tdPar, tdOwn, tdParO, tdAppend, tdExtend, tdGive, giveD, tdVar, tdC, tdBin, tdTest, tdAndT, tdOrT, tdNotT, tdAndV, tdOrV, tdNotV, tdIf, tdChain, tdUn, tdNil, tdCons, tdTup, tdLst, tdLstF, tdCall, tdNoPart, tdPart, tdSl, tdFn, tdFnK, tdBinO, tdCallO, tdOwnIx, tdItems, tdRange, tdRange2, tdFor, tdLcF, tdLc, tdIsi, tdUpper, tdJoin, tdBack, tdZip, tdDictIx, tdGGet, tdGPut, tdOwnArg, gdName, gdNil, gdCons, gdTup, asD_d, asB_d, asI_d, asS_d, asG_g, isOwn_own, useV, look, startD, asAll, allD, Option.map_some, itemsD, List.map_cons, List.map_nil, List.length_cons, List.length_nil, List.set_cons_zero, List.set_cons_succ, List.cons_append, List.nil_append, wipeD, Nat.zero_add, Nat.reduceAdd, Nat.reduceSub, List.reduceReplicate, id_eq, rdAdd_ii, rdAdd_ss, rdAdd_tt, rdAdd_ll, rdMul_ii, rdII_ii, rdI0_ii, rdInt_i, rdGt_ii, rdGe_ii, rdLt_ii, rdLe_ii, rdLen_l, rdLen_t, rdEq_ii, rdNe_ii, rdEq_ss, rdNe_ss, keyD_s, Option.bind_some, Bool.false_eq_true, if_false, if_true, gv0, gv1, gv2, gv3, gp1, gp2, gp3, gs0, gl0, rdIx, eq, eq2]
      refine ⟨rfl, fun L hL hd => ?_⟩
      show dloop _ _ _ L _ _
      refine dloop_by L Iv 0 _ _ ?_ ?_ ⟨_, _, rfl, hfx⟩
      · rintro i x env G3 hi ⟨o3, o4, rfl, hf3⟩ nx hnx
        obtain ⟨hxo, hxn⟩ := hd x (List.mem_of_getElem? hi)
        have hxn := hxn bs ps hP
        simp only [gdName, List.set_cons_zero, List.set_cons_succ]
        refine seq_out fun R2 h2 => ?_
        simp (config := { maxSteps := 10000000 }) only [tdSeq, tdNext, tdBreak, tdCont, tdDrop, tdRet, tdRetN, tdIfS, tdAsg, tdPar, tdOwn, tdParO, tdAppend, tdExtend, tdGive, giveD, tdVar, tdC, tdBin, tdTest, tdAndT, tdOrT, tdNotT, tdAndV, tdOrV, tdNotV, tdIf, tdChain, tdUn, tdNil, tdCons, tdTup, tdLst, tdLstF, tdCall, tdNoPart, tdPart, tdSl, tdFn, tdFnK, tdBinO, tdCallO, tdOwnIx, tdItems, tdRange, tdRange2, tdFor, tdLcF, tdLc, tdIsi, tdUpper, tdJoin, tdBack, tdZip, tdDictIx, tdGGet, tdGPut, tdOwnArg, gdName, gdNil, gdCons, gdTup, asD_d, asB_d, asI_d, asS_d, asG_g, isOwn_own, useV, look, startD, asAll, allD, Option.map_some, itemsD, List.map_cons, List.map_nil, List.length_cons, List.length_nil, List.set_cons_zero, List.set_cons_succ, List.cons_append, List.nil_append, wipeD, Nat.zero_add, Nat.reduceAdd, Nat.reduceSub, List.reduceReplicate, id_eq, rdAdd_ii, rdAdd_ss, rdAdd_tt, rdAdd_ll, rdMul_ii, rdII_ii, rdI0_ii, rdInt_i, rdGt_ii, rdGe_ii, rdLt_ii, rdLe_ii, rdLen_l, rdLen_t, rdEq_ii, rdNe_ii, rdEq_ss, rdNe_ss, keyD_s, Option.bind_some, Bool.false_eq_true, if_false, if_true, gv0, gv1, gv2, gv3, gp1, gp2, gp3, gs0, gl0, tdHeard, tdFnX, noOwn, eq, eq2]
        refine ⟨tab hf3, wp_zone hk (okL (by decide +kernel)) hfl hxn ⟨⟨_, _, rfl⟩, by decide, ?_⟩⟩
        rw [← h2]
        clear h2
        refine seq_out fun R2 h2 => ?_
        simp (config := { maxSteps := 10000000 }) only [tdSeq, tdNext, tdBreak, tdCont, tdDrop, tdRet, tdRetN, tdIfS, tdAsg, tdPar, tdOwn, tdParO, tdAppend, tdExtend, tdGive, giveD, tdVar, tdC, tdBin, tdTest, tdAndT, tdOrT, tdNotT, tdAndV, tdOrV, tdNotV, tdIf, tdChain, tdUn, tdNil, tdCons, tdTup, tdLst, tdLstF, tdCall, tdNoPart, tdPart, tdSl, tdFn, tdFnK, tdBinO, tdCallO, tdOwnIx, tdItems, tdRange, tdRange2, tdFor, tdLcF, tdLc, tdIsi, tdUpper, tdJoin, tdBack, tdZip, tdDictIx, tdGGet, tdGPut, tdOwnArg, gdName, gdNil, gdCons, gdTup, asD_d, asB_d, asI_d, asS_d, asG_g, isOwn_own, useV, look, startD, asAll, allD, Option.map_some, itemsD, List.map_cons, List.map_nil, List.length_cons, List.length_nil, List.set_cons_zero, List.set_cons_succ, List.cons_append, List.nil_append, wipeD, Nat.zero_add, Nat.reduceAdd, Nat.reduceSub, List.reduceReplicate, id_eq, rdAdd_ii, rdAdd_ss, rdAdd_tt, rdAdd_ll, rdMul_ii, rdII_ii, rdI0_ii, rdInt_i, rdGt_ii, rdGe_ii, rdLt_ii, rdLe_ii, rdLen_l, rdLen_t, rdEq_ii, rdNe_ii, rdEq_ss, rdNe_ss, keyD_s, Option.bind_some, Bool.false_eq_true, if_false, if_true, gv0, gv1, gv2, gv3, gp1, gp2, gp3, gs0, gl0, tdHeard, tdFnX, noOwn, eq, eq2]
        refine ⟨tab hf3, wp_zone hk (okL (by decide +kernel)) hfl hxn ⟨⟨_, _, rfl⟩, by decide, ?_⟩⟩
        rw [← h2]
        clear h2
        have shx : Shw (.list (List.replicate 2 (.tuple [.str "use", .str "zone", x]))) := list_shw (fun d hd => by rw [(List.mem_replicate.mp hd).2]; exact use_ok (by decide +kernel) hxo) (by simp)
        simp (config := { maxSteps := 10000000 }) only [tdSeq, tdNext, tdBreak, tdCont, tdDrop, tdRet, tdRetN, tdIfS, tdAsg, tdPar, tdOwn, tdParO, tdAppend, tdExtend, tdGive, giveD, tdVar, tdC, tdBin, tdTest, tdAndT, tdOrT, tdNotT, tdAndV, tdOrV, tdNotV, tdIf, tdChain, tdUn, tdNil, tdCons, tdTup, tdLst, tdLstF, tdCall, tdNoPart, tdPart, tdSl, tdFn, tdFnK, tdBinO, tdCallO, tdOwnIx, tdItems, tdRange, tdRange2, tdFor, tdLcF, tdLc, tdIsi, tdUpper, tdJoin, tdBack, tdZip, tdDictIx, tdGGet, tdGPut, tdOwnArg, gdName, gdNil, gdCons, gdTup, asD_d, asB_d, asI_d, asS_d, asG_g, isOwn_own, useV, look, startD, asAll, allD, Option.map_some, itemsD, List.map_cons, List.map_nil, List.length_cons, List.length_nil, List.set_cons_zero, List.set_cons_succ, List.cons_append, List.nil_append, wipeD, Nat.zero_add, Nat.reduceAdd, Nat.reduceSub, List.reduceReplicate, id_eq, rdAdd_ii, rdAdd_ss, rdAdd_tt, rdAdd_ll, rdMul_ii, rdII_ii, rdI0_ii, rdInt_i, rdGt_ii, rdGe_ii, rdLt_ii, rdLe_ii, rdLen_l, rdLen_t, rdEq_ii, rdNe_ii, rdEq_ss, rdNe_ss, keyD_s, Option.bind_some, Bool.false_eq_true, if_false, if_true, gv0, gv1, gv2, gv3, gp1, gp2, gp3, gs0, gl0, tdFnP, tdOwnArg, isOwn, lendV, rdMul, hear_use, show Int.toNat 3 = 3 from rfl, show Int.toNat 2 = 2 from rfl, List.replicate_succ, List.replicate_zero, List.flatten_cons, List.flatten_nil, List.append_nil, List.cons_append, List.nil_append]
        refine ⟨by decide, by decide, ⟨by decide, by decide, by decide⟩, rfl, _, _, rfl, shx, shx, ?_⟩
        rw [decide_eq_true rfl]
        refine ⟨rfl, ?_⟩
        simp only [asB_d, Bool.not_true]
        exact itF (by simp) (hnx _ _ ⟨_, _, rfl, hf3⟩)
      · rintro env G3 ⟨o3, o4, rfl, hf3⟩
        exact hR _ _ ⟨_, _, rfl, hf3⟩
    obtain ⟨o3, o4, rfl, hfx⟩ := hIv
    -- what is no number of places
    refine fallI (Iv 0) (fun R hR => ?_) (fun e G2 hIv => ?_)
    · simp (config := { maxSteps := 10000000 }) only [tdSeq, tdNext, tdBreak, tdCont, tdDrop, tdRet, tdRetN, tdIfS, tdAsg, tdPar, tdOwn, tdParO, tdAppend, tdExtend, tdGive, giveD, tdVar, tdC, tdBin, tdTest, tdAndT, tdOrT, tdNotT, tdAndV, tdOrV, tdNotV, tdIf, tdChain, tdUn, tdNil, tdCons, tdTup, tdLst, tdLstF, tdCall, tdNoPart, tdPart, tdSl, tdFn, tdFnK, tdBinO, tdCallO, tdOwnIx, tdItems, tdRange, tdRange2, tdFor, tdLcF, tdLc, tdIsi, tdUpper, tdJoin, tdBack, tdZip, tdDictIx, tdGGet, tdGPut, tdOwnArg, gdName, gdNil, gdCons, gdTup, asD_d, asB_d, asI_d, asS_d, asG_g, isOwn_own, useV, look, startD, asAll, allD, Option.map_some, itemsD, List.map_cons, List.map_nil, List.length_cons, List.length_nil, List.set_cons_zero, List.set_cons_succ, List.cons_append, List.nil_append, wipeD, Nat.zero_add, Nat.reduceAdd, Nat.reduceSub, List.reduceReplicate, id_eq, rdAdd_ii, rdAdd_ss, rdAdd_tt, rdAdd_ll, rdMul_ii, rdII_ii, rdI0_ii, rdInt_i, rdGt_ii, rdGe_ii, rdLt_ii, rdLe_ii, rdLen_l, rdLen_t, rdEq_ii, rdNe_ii, rdEq_ss, rdNe_ss, keyD_s, Option.bind_some, Bool.false_eq_true, if_false, if_true, gv0, gv1, gv2, gv3, gp1, gp2, gp3, gs0, gl0, rdIx, eq, eq2]
      refine dloop_by _ Iv 0 _ _ ?_ ?_ ⟨_, _, rfl, hfx⟩
      · rintro i x env G3 hi ⟨o3, o4, rfl, hf3⟩ nx hnx
        have hx := List.mem_of_getElem? hi
        have hxn : niceB 40 1000000 x = true ∧ isPlaces x = false := by
          simp only [List.mem_cons, List.not_mem_nil, or_false] at hx
          rcases hx with rfl | rfl | rfl | rfl | rfl | rfl | rfl | rfl <;> exact ⟨by decide +kernel, by decide +kernel⟩
        simp only [gdName, List.set_cons_zero, List.set_cons_succ]
        have shx : Shw (.tuple [.str "use", .str "places", .int (-1)]) := (use_ok (by decide +kernel) (okL (by decide +kernel))).shw (by decide) (by decide)
        simp (config := { maxSteps := 10000000 }) only [tdSeq, tdNext, tdBreak, tdCont, tdDrop, tdRet, tdRetN, tdIfS, tdAsg, tdPar, tdOwn, tdParO, tdAppend, tdExtend, tdGive, giveD, tdVar, tdC, tdBin, tdTest, tdAndT, tdOrT, tdNotT, tdAndV, tdOrV, tdNotV, tdIf, tdChain, tdUn, tdNil, tdCons, tdTup, tdLst, tdLstF, tdCall, tdNoPart, tdPart, tdSl, tdFn, tdFnK, tdBinO, tdCallO, tdOwnIx, tdItems, tdRange, tdRange2, tdFor, tdLcF, tdLc, tdIsi, tdUpper, tdJoin, tdBack, tdZip, tdDictIx, tdGGet, tdGPut, tdOwnArg, gdName, gdNil, gdCons, gdTup, asD_d, asB_d, asI_d, asS_d, asG_g, isOwn_own, useV, look, startD, asAll, allD, Option.map_some, itemsD, List.map_cons, List.map_nil, List.length_cons, List.length_nil, List.set_cons_zero, List.set_cons_succ, List.cons_append, List.nil_append, wipeD, Nat.zero_add, Nat.reduceAdd, Nat.reduceSub, List.reduceReplicate, id_eq, rdAdd_ii, rdAdd_ss, rdAdd_tt, rdAdd_ll, rdMul_ii, rdII_ii, rdI0_ii, rdInt_i, rdGt_ii, rdGe_ii, rdLt_ii, rdLe_ii, rdLen_l, rdLen_t, rdEq_ii, rdNe_ii, rdEq_ss, rdNe_ss, keyD_s, Option.bind_some, Bool.false_eq_true, if_false, if_true, gv0, gv1, gv2, gv3, gp1, gp2, gp3, gs0, gl0, tdHeard, tdFnX, noOwn, eq, eq2]
        refine ⟨tab hf3, wp_places hk (okL hxn.1) hfl (tag_yes tm) hxn.2 ⟨⟨_, _, rfl⟩, ?_⟩⟩
        try simp (config := { maxSteps := 10000000 }) only [tdSeq, tdNext, tdBreak, tdCont, tdDrop, tdRet, tdRetN, tdIfS, tdAsg, tdPar, tdOwn, tdParO, tdAppend, tdExtend, tdGive, giveD, tdVar, tdC, tdBin, tdTest, tdAndT, tdOrT, tdNotT, tdAndV, tdOrV, tdNotV, tdIf, tdChain, tdUn, tdNil, tdCons, tdTup, tdLst, tdLstF, tdCall, tdNoPart, tdPart, tdSl, tdFn, tdFnK, tdBinO, tdCallO, tdOwnIx, tdItems, tdRange, tdRange2, tdFor, tdLcF, tdLc, tdIsi, tdUpper, tdJoin, tdBack, tdZip, tdDictIx, tdGGet, tdGPut, tdOwnArg, gdName, gdNil, gdCons, gdTup, asD_d, asB_d, asI_d, asS_d, asG_g, isOwn_own, useV, look, startD, asAll, allD, Option.map_some, itemsD, List.map_cons, List.map_nil, List.length_cons, List.length_nil, List.set_cons_zero, List.set_cons_succ, List.cons_append, List.nil_append, wipeD, Nat.zero_add, Nat.reduceAdd, Nat.reduceSub, List.reduceReplicate, id_eq, rdAdd_ii, rdAdd_ss, rdAdd_tt, rdAdd_ll, rdMul_ii, rdII_ii, rdI0_ii, rdInt_i, rdGt_ii, rdGe_ii, rdLt_ii, rdLe_ii, rdLen_l, rdLen_t, rdEq_ii, rdNe_ii, rdEq_ss, rdNe_ss, keyD_s, Option.bind_some, Bool.false_eq_true, if_false, if_true, gv0, gv1, gv2, gv3, gp1, gp2, gp3, gs0, gl0, hear_use]
        refine ⟨_, _, rfl, shx, shx, ?_⟩
        rw [decide_eq_true rfl]
        try simp only [asB_d, Bool.not_true]
        exact itF (by simp) (hnx _ _ ⟨_, _, rfl, hf3⟩)
      · rintro env G3 ⟨o3, o4, rfl, hf3⟩
        exact hR _ _ ⟨_, _, rfl, hf3⟩
    obtain ⟨o3, o4, rfl, hfx⟩ := hIv
    -- what is no way
    refine fallI (Iv 0) (fun R hR => ?_) (fun e G2 hIv => ?_)
    · simp (config := { maxSteps := 10000000 }) only [tdSeq, tdNext, tdBreak, tdCont, tdDrop, tdRet, tdRetN, tdIfS, tdAsg, tdPar, tdOwn, tdParO, tdAppend, tdExtend, tdGive, giveD, tdVar, tdC, tdBin, tdTest, tdAndT, tdOrT, tdNotT, tdAndV, tdOrV, tdNotV, tdIf, tdChain, tdUn, tdNil, tdCons, tdTup, tdLst, tdLstF, tdCall, tdNoPart, tdPart, tdSl, tdFn, tdFnK, tdBinO, tdCallO, tdOwnIx, tdItems, tdRange, tdRange2, tdFor, tdLcF, tdLc, tdIsi, tdUpper, tdJoin, tdBack, tdZip, tdDictIx, tdGGet, tdGPut, tdOwnArg, gdName, gdNil, gdCons, gdTup, asD_d, asB_d, asI_d, asS_d, asG_g, isOwn_own, useV, look, startD, asAll, allD, Option.map_some, itemsD, List.map_cons, List.map_nil, List.length_cons, List.length_nil, List.set_cons_zero, List.set_cons_succ, List.cons_append, List.nil_append, wipeD, Nat.zero_add, Nat.reduceAdd, Nat.reduceSub, List.reduceReplicate, id_eq, rdAdd_ii, rdAdd_ss, rdAdd_tt, rdAdd_ll, rdMul_ii, rdII_ii, rdI0_ii, rdInt_i, rdGt_ii, rdGe_ii, rdLt_ii, rdLe_ii, rdLen_l, rdLen_t, rdEq_ii, rdNe_ii, rdEq_ss, rdNe_ss, keyD_s, Option.bind_some, Bool.false_eq_true, if_false, if_true, gv0, gv1, gv2, gv3, gp1, gp2, gp3, gs0, gl0, rdIx, eq, eq2]
      refine ⟨t, bs, ps, rfl, hP, tm, fun L hL hd => ?_⟩
      show dloop _ _ _ L _ _
      refine dloop_by L Iv 0 _ _ ?_ ?_ ⟨_, _, rfl, hfx⟩
      · rintro i x env G3 hi ⟨o3, o4, rfl, hf3⟩ nx hnx
        obtain ⟨hxo, hxn⟩ := hd x (List.mem_of_getElem? hi)
        simp only [gdName, List.set_cons_zero, List.set_cons_succ]
        have shx : Shw (.tuple [.str "use", .str "names", .int (-1)]) := (use_ok (by decide +kernel) (okL (by decide +kernel))).shw (by decide) (by decide)
        simp (config := { maxSteps := 10000000 }) only [tdSeq, tdNext, tdBreak, tdCont, tdDrop, tdRet, tdRetN, tdIfS, tdAsg, tdPar, tdOwn, tdParO, tdAppend, tdExtend, tdGive, giveD, tdVar, tdC, tdBin, tdTest, tdAndT, tdOrT, tdNotT, tdAndV, tdOrV, tdNotV, tdIf, tdChain, tdUn, tdNil, tdCons, tdTup, tdLst, tdLstF, tdCall, tdNoPart, tdPart, tdSl, tdFn, tdFnK, tdBinO, tdCallO, tdOwnIx, tdItems, tdRange, tdRange2, tdFor, tdLcF, tdLc, tdIsi, tdUpper, tdJoin, tdBack, tdZip, tdDictIx, tdGGet, tdGPut, tdOwnArg, gdName, gdNil, gdCons, gdTup, asD_d, asB_d, asI_d, asS_d, asG_g, isOwn_own, useV, look, startD, asAll, allD, Option.map_some, itemsD, List.map_cons, List.map_nil, List.length_cons, List.length_nil, List.set_cons_zero, List.set_cons_succ, List.cons_append, List.nil_append, wipeD, Nat.zero_add, Nat.reduceAdd, Nat.reduceSub, List.reduceReplicate, id_eq, rdAdd_ii, rdAdd_ss, rdAdd_tt, rdAdd_ll, rdMul_ii, rdII_ii, rdI0_ii, rdInt_i, rdGt_ii, rdGe_ii, rdLt_ii, rdLe_ii, rdLen_l, rdLen_t, rdEq_ii, rdNe_ii, rdEq_ss, rdNe_ss, keyD_s, Option.bind_some, Bool.false_eq_true, if_false, if_true, gv0, gv1, gv2, gv3, gp1, gp2, gp3, gs0, gl0, tdHeard, tdFnX, noOwn, eq, eq2]
        refine ⟨tab hf3, ww_names hk hxo hfl hxn ⟨⟨_, _, rfl⟩, ?_⟩⟩
        try simp (config := { maxSteps := 10000000 }) only [tdSeq, tdNext, tdBreak, tdCont, tdDrop, tdRet, tdRetN, tdIfS, tdAsg, tdPar, tdOwn, tdParO, tdAppend, tdExtend, tdGive, giveD, tdVar, tdC, tdBin, tdTest, tdAndT, tdOrT, tdNotT, tdAndV, tdOrV, tdNotV, tdIf, tdChain, tdUn, tdNil, tdCons, tdTup, tdLst, tdLstF, tdCall, tdNoPart, tdPart, tdSl, tdFn, tdFnK, tdBinO, tdCallO, tdOwnIx, tdItems, tdRange, tdRange2, tdFor, tdLcF, tdLc, tdIsi, tdUpper, tdJoin, tdBack, tdZip, tdDictIx, tdGGet, tdGPut, tdOwnArg, gdName, gdNil, gdCons, gdTup, asD_d, asB_d, asI_d, asS_d, asG_g, isOwn_own, useV, look, startD, asAll, allD, Option.map_some, itemsD, List.map_cons, List.map_nil, List.length_cons, List.length_nil, List.set_cons_zero, List.set_cons_succ, List.cons_append, List.nil_append, wipeD, Nat.zero_add, Nat.reduceAdd, Nat.reduceSub, List.reduceReplicate, id_eq, rdAdd_ii, rdAdd_ss, rdAdd_tt, rdAdd_ll, rdMul_ii, rdII_ii, rdI0_ii, rdInt_i, rdGt_ii, rdGe_ii, rdLt_ii, rdLe_ii, rdLen_l, rdLen_t, rdEq_ii, rdNe_ii, rdEq_ss, rdNe_ss, keyD_s, Option.bind_some, Bool.false_eq_true, if_false, if_true, gv0, gv1, gv2, gv3, gp1, gp2, gp3, gs0, gl0, hear_use]
        refine ⟨_, _, rfl, shx, shx, ?_⟩
        rw [decide_eq_true rfl]
        try simp only [asB_d, Bool.not_true]
        exact itF (by simp) (hnx _ _ ⟨_, _, rfl, hf3⟩)
      · rintro env G3 ⟨o3, o4, rfl, hf3⟩
        exact hR _ _ ⟨_, _, rfl, hf3⟩
    obtain ⟨o3, o4, rfl, hfx⟩ := hIv
    -- what is no number of a way
    refine fallI (Iv 0) (fun R hR => ?_) (fun e G2 hIv => ?_)
    · simp (config := { maxSteps := 10000000 }) only [tdSeq, tdNext, tdBreak, tdCont, tdDrop, tdRet, tdRetN, tdIfS, tdAsg, tdPar, tdOwn, tdParO, tdAppend, tdExtend, tdGive, giveD, tdVar, tdC, tdBin, tdTest, tdAndT, tdOrT, tdNotT, tdAndV, tdOrV, tdNotV, tdIf, tdChain, tdUn, tdNil, tdCons, tdTup, tdLst, tdLstF, tdCall, tdNoPart, tdPart, tdSl, tdFn, tdFnK, tdBinO, tdCallO, tdOwnIx, tdItems, tdRange, tdRange2, tdFor, tdLcF, tdLc, tdIsi, tdUpper, tdJoin, tdBack, tdZip, tdDictIx, tdGGet, tdGPut, tdOwnArg, gdName, gdNil, gdCons, gdTup, asD_d, asB_d, asI_d, asS_d, asG_g, isOwn_own, useV, look, startD, asAll, allD, Option.map_some, itemsD, List.map_cons, List.map_nil, List.length_cons, List.length_nil, List.set_cons_zero, List.set_cons_succ, List.cons_append, List.nil_append, wipeD, Nat.zero_add, Nat.reduceAdd, Nat.reduceSub, List.reduceReplicate, id_eq, rdAdd_ii, rdAdd_ss, rdAdd_tt, rdAdd_ll, rdMul_ii, rdII_ii, rdI0_ii, rdInt_i, rdGt_ii, rdGe_ii, rdLt_ii, rdLe_ii, rdLen_l, rdLen_t, rdEq_ii, rdNe_ii, rdEq_ss, rdNe_ss, keyD_s, Option.bind_some, Bool.false_eq_true, if_false, if_true, gv0, gv1, gv2, gv3, gp1, gp2, gp3, gs0, gl0, rdIx, i1, eq, eq2]
      refine ⟨by decide, ?_⟩
      refine dloop_by _ Iv 0 _ _ ?_ ?_ ⟨_, _, rfl, hfx⟩
      · rintro i x env G3 hi ⟨o3, o4, rfl, hf3⟩ nx hnx
        have hx := List.mem_of_getElem? hi
        have hxo : Ok x ∧ isIdx (planD bs ps) x = false := by
          simp only [List.mem_cons, List.not_mem_nil, or_false] at hx
          have big : ∀ n : Int, n < 0 ∨ (ps.length : Int) ≤ n → isIdx (planD bs ps) (.int n) = false := fun n hn => by
            show (decide (0 ≤ n) && decide (n < ((ps.map pathD).length : Nat))) = false
            rw [List.length_map]
            rcases hn with hn | hn
            · rw [decide_eq_false (show ¬ 0 ≤ n by omega), Bool.false_and]
            · rw [decide_eq_false (show ¬ n < (ps.length : Nat) by omega), Bool.and_false]
          have small : Ok (.int ((ps.map pathD).length : Nat)) := (s_int_any (lo := 0) (hi := 12) (e := 0) (m := 200) (b := 300) 6 (by decide) (by decide) (by decide) (by decide) (by decide) (by decide) _ ⟨_, rfl, by omega, by rw [List.length_map]; omega⟩ : tAny 0 200 300 _).n.mono (by decide) (by decide)
          rcases hx with rfl | rfl | rfl | rfl | rfl | rfl | rfl | rfl | rfl
          · exact ⟨small, big _ (.inr (by rw [List.length_map]; omega))⟩
          · exact ⟨okL (by decide +kernel), big _ (.inl (by decide))⟩
          · exact ⟨okL (by decide +kernel), rfl⟩
          · exact ⟨okL (by decide +kernel), rfl⟩
          · exact ⟨okL (by decide +kernel), rfl⟩
          · exact ⟨okL (by decide +kernel), rfl⟩
          · exact ⟨okL (by decide +kernel), rfl⟩
          · exact ⟨okL (by decide +kernel), rfl⟩
          · exact ⟨okL (by decide +kernel), big _ (.inr (by have e : (10 : Int) ^ Int.toNat 59 ≥ 12 := by decide +kernel
                                                            omega))⟩
        have hxn := hxo.2
        have hxo := hxo.1
        simp only [gdName, List.set_cons_zero, List.set_cons_succ]
        have shx : Shw (.tuple [.str "use", .str "way", x]) := (use_ok (by decide +kernel) hxo).shw (by decide) (by decide)
        simp (config := { maxSteps := 10000000 }) only [tdSeq, tdNext, tdBreak, tdCont, tdDrop, tdRet, tdRetN, tdIfS, tdAsg, tdPar, tdOwn, tdParO, tdAppend, tdExtend, tdGive, giveD, tdVar, tdC, tdBin, tdTest, tdAndT, tdOrT, tdNotT, tdAndV, tdOrV, tdNotV, tdIf, tdChain, tdUn, tdNil, tdCons, tdTup, tdLst, tdLstF, tdCall, tdNoPart, tdPart, tdSl, tdFn, tdFnK, tdBinO, tdCallO, tdOwnIx, tdItems, tdRange, tdRange2, tdFor, tdLcF, tdLc, tdIsi, tdUpper, tdJoin, tdBack, tdZip, tdDictIx, tdGGet, tdGPut, tdOwnArg, gdName, gdNil, gdCons, gdTup, asD_d, asB_d, asI_d, asS_d, asG_g, isOwn_own, useV, look, startD, asAll, allD, Option.map_some, itemsD, List.map_cons, List.map_nil, List.length_cons, List.length_nil, List.set_cons_zero, List.set_cons_succ, List.cons_append, List.nil_append, wipeD, Nat.zero_add, Nat.reduceAdd, Nat.reduceSub, List.reduceReplicate, id_eq, rdAdd_ii, rdAdd_ss, rdAdd_tt, rdAdd_ll, rdMul_ii, rdII_ii, rdI0_ii, rdInt_i, rdGt_ii, rdGe_ii, rdLt_ii, rdLe_ii, rdLen_l, rdLen_t, rdEq_ii, rdNe_ii, rdEq_ss, rdNe_ss, keyD_s, Option.bind_some, Bool.false_eq_true, if_false, if_true, gv0, gv1, gv2, gv3, gp1, gp2, gp3, gs0, gl0, tdHeard, tdFnX, noOwn, eq, eq2]
        refine ⟨tab hf3, wo_way hk hfl hxn ⟨⟨_, _, rfl⟩, ?_⟩⟩
        try simp (config := { maxSteps := 10000000 }) only [tdSeq, tdNext, tdBreak, tdCont, tdDrop, tdRet, tdRetN, tdIfS, tdAsg, tdPar, tdOwn, tdParO, tdAppend, tdExtend, tdGive, giveD, tdVar, tdC, tdBin, tdTest, tdAndT, tdOrT, tdNotT, tdAndV, tdOrV, tdNotV, tdIf, tdChain, tdUn, tdNil, tdCons, tdTup, tdLst, tdLstF, tdCall, tdNoPart, tdPart, tdSl, tdFn, tdFnK, tdBinO, tdCallO, tdOwnIx, tdItems, tdRange, tdRange2, tdFor, tdLcF, tdLc, tdIsi, tdUpper, tdJoin, tdBack, tdZip, tdDictIx, tdGGet, tdGPut, tdOwnArg, gdName, gdNil, gdCons, gdTup, asD_d, asB_d, asI_d, asS_d, asG_g, isOwn_own, useV, look, startD, asAll, allD, Option.map_some, itemsD, List.map_cons, List.map_nil, List.length_cons, List.length_nil, List.set_cons_zero, List.set_cons_succ, List.cons_append, List.nil_append, wipeD, Nat.zero_add, Nat.reduceAdd, Nat.reduceSub, List.reduceReplicate, id_eq, rdAdd_ii, rdAdd_ss, rdAdd_tt, rdAdd_ll, rdMul_ii, rdII_ii, rdI0_ii, rdInt_i, rdGt_ii, rdGe_ii, rdLt_ii, rdLe_ii, rdLen_l, rdLen_t, rdEq_ii, rdNe_ii, rdEq_ss, rdNe_ss, keyD_s, Option.bind_some, Bool.false_eq_true, if_false, if_true, gv0, gv1, gv2, gv3, gp1, gp2, gp3, gs0, gl0, hear_use]
        refine ⟨by decide, _, _, rfl, shx, shx, ?_⟩
        rw [decide_eq_true rfl]
        try simp only [asB_d, Bool.not_true]
        exact itF (by simp) (hnx _ _ ⟨_, _, rfl, hf3⟩)
      · rintro env G3 ⟨o3, o4, rfl, hf3⟩
        exact hR _ _ ⟨_, _, rfl, hf3⟩
    obtain ⟨o3, o4, rfl, hfx⟩ := hIv
    exact h _ hfx
/-! ### _law_great -/
abbrev N__law_great : List Str := ["_law_tags", "_law_lot", "_law_k", "_law_tag"]
theorem sc__law_great : FnScope N__law_great [] (defScope s__law_great) := ⟨rfl, rfl, rfl, by decide +kernel, rfl, by decide +kernel, by decide +kernel⟩
theorem ok__law_great {f : Addr} {fd : FuncData} (Fn : L2.Fun K "_law_great" "_law_great" s__law_great f fd) (B : Bl mg) (M : Md mg) : FnG pr w K mg base 1 f fd [] (lSp K ct__law_great) := by
  have hN := sc__law_great.nd
  refine FnG.data Fn sc__law_great _ (fun cdv A out s H F hK hr hgd => (dss_cons (ds_set (i := 0) hN (de_callTy (call_list_text hr.hd) imp_listS B.list_ (da_cons de_str da_nil)))
      (dss_cons (ds_set (i := 1) hN (de_callTy call_tuple_of imp_tuple B.tuple_ (da_cons (de_callB (cr_sortD hr) imp_sorted B.sorted_ (da_cons (de_op op_addR imp_add (de_fresh (df_lc (own := [("_law_k", 2)]) rfl hN (di_range B.range_ de_int) (blk_of (N := N__law_great) (sc := defScope s__law_great) rfl rfl (by decide +kernel)) (fun _ _ _ _ _ => (dg_name (i := 2) hN)) (fun _ _ _ _ _ => dts_nil) (fun _ _ _ _ _ => (de_tup (da_cons de_int (da_cons (de_var 2) da_nil)))))) (de_op op_mulR imp_mul (de_lit 40 rfl) de_int)) da_nil)) da_nil)))
      (dss_one (ds_ret (de_tup (da_cons (de_tup (da_cons (de_callTy call_tuple_of imp_tuple B.tuple_ (da_cons (de_fresh (df_lc (own := [("_law_tag", 3)]) rfl hN (di_items (de_var 0)) (blk_of (N := N__law_great) (sc := defScope s__law_great) rfl rfl (by decide +kernel)) (fun _ _ _ _ _ => (dg_name (i := 3) hN)) (fun _ _ _ _ _ => dts_nil) (fun _ _ _ _ _ => (de_tup (da_cons (de_var 3) (da_cons de_int da_nil)))))) da_nil)) (da_cons (de_op op_addR imp_add (de_tup (da_cons (de_callTy call_tuple_of imp_tuple B.tuple_ (da_cons (de_slice sl_R imp_sl (de_op op_mulR imp_mul (de_var 0) de_int) do_none (do_some de_int)) da_nil)) da_nil)) (de_op op_mulTR imp_mulT (de_lit 40 rfl) de_int)) da_nil))) (da_cons (de_var 1) da_nil)))))))) fun xs G Q h => ?_
  obtain ⟨rfl, h⟩ := h
  refine ⟨rfl, ?_⟩
  refine seq_out fun R1 h1 => ?_
  simp (config := { maxSteps := 10000000 }) only [tdSeq, tdNext, tdBreak, tdCont, tdDrop, tdRet, tdRetN, tdIfS, tdAsg, tdPar, tdOwn, tdParO, tdAppend, tdExtend, tdGive, giveD, tdVar, tdC, tdBin, tdTest, tdAndT, tdOrT, tdNotT, tdAndV, tdOrV, tdNotV, tdIf, tdChain, tdUn, tdNil, tdCons, tdTup, tdLst, tdLstF, tdCall, tdNoPart, tdPart, tdSl, tdFn, tdFnK, tdBinO, tdCallO, tdOwnIx, tdItems, tdRange, tdRange2, tdFor, tdLcF, tdLc, tdIsi, tdUpper, tdJoin, tdBack, tdZip, tdDictIx, tdGGet, tdGPut, tdOwnArg, gdName, gdNil, gdCons, gdTup, asD_d, asB_d, asI_d, asS_d, asG_g, isOwn_own, useV, look, startD, asAll, allD, Option.map_some, itemsD, List.map_cons, List.map_nil, List.length_cons, List.length_nil, List.set_cons_zero, List.set_cons_succ, List.cons_append, List.nil_append, wipeD, Nat.zero_add, Nat.reduceAdd, Nat.reduceSub, List.reduceReplicate, id_eq, rdAdd_ii, rdAdd_ss, rdAdd_tt, rdAdd_ll, rdMul_ii, rdII_ii, rdI0_ii, rdInt_i, rdGt_ii, rdGe_ii, rdLt_ii, rdLe_ii, rdLen_l, rdLen_t, rdEq_ii, rdNe_ii, rdEq_ss, rdNe_ss, keyD_s, Option.bind_some, Bool.false_eq_true, if_false, if_true, gv0, gv1, gv2, gv3, gp1, gp2, gp3, gs0, gl0, N__law_great, rdListS]
  refine ⟨by decide +kernel, ?_⟩
  rw [← h1]
  clear h1
  refine seq_out fun R2 h2 => ?_
  simp (config := { maxSteps := 10000000 }) only [tdSeq, tdNext, tdBreak, tdCont, tdDrop, tdRet, tdRetN, tdIfS, tdAsg, tdPar, tdOwn, tdParO, tdAppend, tdExtend, tdGive, giveD, tdVar, tdC, tdBin, tdTest, tdAndT, tdOrT, tdNotT, tdAndV, tdOrV, tdNotV, tdIf, tdChain, tdUn, tdNil, tdCons, tdTup, tdLst, tdLstF, tdCall, tdNoPart, tdPart, tdSl, tdFn, tdFnK, tdBinO, tdCallO, tdOwnIx, tdItems, tdRange, tdRange2, tdFor, tdLcF, tdLc, tdIsi, tdUpper, tdJoin, tdBack, tdZip, tdDictIx, tdGGet, tdGPut, tdOwnArg, gdName, gdNil, gdCons, gdTup, asD_d, asB_d, asI_d, asS_d, asG_g, isOwn_own, useV, look, startD, asAll, allD, Option.map_some, itemsD, List.map_cons, List.map_nil, List.length_cons, List.length_nil, List.set_cons_zero, List.set_cons_succ, List.cons_append, List.nil_append, wipeD, Nat.zero_add, Nat.reduceAdd, Nat.reduceSub, List.reduceReplicate, id_eq, rdAdd_ii, rdAdd_ss, rdAdd_tt, rdAdd_ll, rdMul_ii, rdII_ii, rdI0_ii, rdInt_i, rdGt_ii, rdGe_ii, rdLt_ii, rdLe_ii, rdLen_l, rdLen_t, rdEq_ii, rdNe_ii, rdEq_ss, rdNe_ss, keyD_s, Option.bind_some, Bool.false_eq_true, if_false, if_true, gv0, gv1, gv2, gv3, gp1, gp2, gp3, gs0, gl0]
  refine ⟨by decide, ?_⟩
  refine lcl_map (fun z => .tuple [.int 0, z]) _ (by decide) (fun z m K1 k => ?_) ?_
  · obtain ⟨c, hc, rfl⟩ := List.mem_map.mp m
    simp (config := { maxSteps := 10000000 }) only [tdSeq, tdNext, tdBreak, tdCont, tdDrop, tdRet, tdRetN, tdIfS, tdAsg, tdPar, tdOwn, tdParO, tdAppend, tdExtend, tdGive, giveD, tdVar, tdC, tdBin, tdTest, tdAndT, tdOrT, tdNotT, tdAndV, tdOrV, tdNotV, tdIf, tdChain, tdUn, tdNil, tdCons, tdTup, tdLst, tdLstF, tdCall, tdNoPart, tdPart, tdSl, tdFn, tdFnK, tdBinO, tdCallO, tdOwnIx, tdItems, tdRange, tdRange2, tdFor, tdLcF, tdLc, tdIsi, tdUpper, tdJoin, tdBack, tdZip, tdDictIx, tdGGet, tdGPut, tdOwnArg, gdName, gdNil, gdCons, gdTup, asD_d, asB_d, asI_d, asS_d, asG_g, isOwn_own, useV, look, startD, asAll, allD, Option.map_some, itemsD, List.map_cons, List.map_nil, List.length_cons, List.length_nil, List.set_cons_zero, List.set_cons_succ, List.cons_append, List.nil_append, wipeD, Nat.zero_add, Nat.reduceAdd, Nat.reduceSub, List.reduceReplicate, id_eq, rdAdd_ii, rdAdd_ss, rdAdd_tt, rdAdd_ll, rdMul_ii, rdII_ii, rdI0_ii, rdInt_i, rdGt_ii, rdGe_ii, rdLt_ii, rdLe_ii, rdLen_l, rdLen_t, rdEq_ii, rdNe_ii, rdEq_ss, rdNe_ss, keyD_s, Option.bind_some, Bool.false_eq_true, if_false, if_true, gv0, gv1, gv2, gv3, gp1, gp2, gp3, gs0, gl0]
    exact ⟨by decide, k⟩
  · simp only [rdMul, asI_d]
    refine ⟨⟨by decide, by decide, by decide⟩, ?_⟩
    simp only [rdAdd_ll]
    refine ⟨by decide, ?_⟩
    have hall : ∀ x ∈ ((((List.range (Int.toNat 30)).map fun i => PyData.int (i : Nat)).map fun z => PyData.tuple [.int 0, z]) ++ (List.replicate (Int.toNat 30) [PyData.tuple [.int 5, .int 0]]).flatten), isSpot x = true ∧ ∃ i j : Nat, x = .tuple [.int i, .int j] ∧ i < 100 ∧ j < 100 := by
      intro x hx
      rcases List.mem_append.mp hx with hx | hx
      · obtain ⟨z, hz, rfl⟩ := List.mem_map.mp hx
        obtain ⟨c, hc, rfl⟩ := List.mem_map.mp hz
        have hc := List.mem_range.mp hc
        have hc : c < 30 := hc
        refine ⟨?_, 0, c, rfl, by decide, by omega⟩
        show (decide ((0 : Int) ≤ 0) && decide ((0 : Int) ≤ (c : Int))) = true
        rw [decide_eq_true (show (0 : Int) ≤ (c : Int) by omega)]; rfl
      · have hx := rep_mem hx
        rw [List.mem_singleton] at hx
        subst hx
        exact ⟨by decide +kernel, 5, 0, rfl, by decide, by decide⟩
    generalize hL : ((((List.range (Int.toNat 30)).map fun i => PyData.int (i : Nat)).map fun z => PyData.tuple [.int 0, z]) ++ (List.replicate (Int.toNat 30) [PyData.tuple [.int 5, .int 0]]).flatten) = L at hall ⊢
    have hLl : L.length = 60 := by rw [← hL]; decide
    simp only [rdSorted, rdTuple]
    refine ⟨spots_sort (fun d hd => (hall d hd).1) (by rw [hLl]; decide), ?_⟩
    rw [← h2]
    clear h2
    have hS : Bd 10 100000 300 (.tuple (sortD L)) := by
      refine Bd.tup (fun d hd => ?_) ?_ (by decide)
      · obtain ⟨i, j, rfl, hi, hj⟩ := (hall d ((sortD_perm L).mem_iff.mp hd)).2
        have l1 := small_log (n := i) (by omega)
        have l2 := small_log (n := j) (by omega)
        refine ⟨by simp [plainD, plainAll]; omega, by simp [PyData.depth, PyData.depthAll], by simp [intsB, intsAll]; omega⟩
      · have := massAll_le (m := 100) (ds := sortD L) fun d hd => by
          obtain ⟨i, j, rfl, hi, hj⟩ := (hall d ((sortD_perm L).mem_iff.mp hd)).2
          have l1 := small_log (n := i) (by omega)
          have l2 := small_log (n := j) (by omega)
          simp [mass, massAll]; omega
        rw [(sortD_perm L).length_eq, hLl] at this
        omega
    generalize sortD L = L2 at hS ⊢
    simp (config := { maxSteps := 10000000 }) only [tdSeq, tdNext, tdBreak, tdCont, tdDrop, tdRet, tdRetN, tdIfS, tdAsg, tdPar, tdOwn, tdParO, tdAppend, tdExtend, tdGive, giveD, tdVar, tdC, tdBin, tdTest, tdAndT, tdOrT, tdNotT, tdAndV, tdOrV, tdNotV, tdIf, tdChain, tdUn, tdNil, tdCons, tdTup, tdLst, tdLstF, tdCall, tdNoPart, tdPart, tdSl, tdFn, tdFnK, tdBinO, tdCallO, tdOwnIx, tdItems, tdRange, tdRange2, tdFor, tdLcF, tdLc, tdIsi, tdUpper, tdJoin, tdBack, tdZip, tdDictIx, tdGGet, tdGPut, tdOwnArg, gdName, gdNil, gdCons, gdTup, asD_d, asB_d, asI_d, asS_d, asG_g, isOwn_own, useV, look, startD, asAll, allD, Option.map_some, itemsD, List.map_cons, List.map_nil, List.length_cons, List.length_nil, List.set_cons_zero, List.set_cons_succ, List.cons_append, List.nil_append, wipeD, Nat.zero_add, Nat.reduceAdd, Nat.reduceSub, List.reduceReplicate, id_eq, rdAdd_ii, rdAdd_ss, rdAdd_tt, rdAdd_ll, rdMul_ii, rdII_ii, rdI0_ii, rdInt_i, rdGt_ii, rdGe_ii, rdLt_ii, rdLe_ii, rdLen_l, rdLen_t, rdEq_ii, rdNe_ii, rdEq_ss, rdNe_ss, keyD_s, Option.bind_some, Bool.false_eq_true, if_false, if_true, gv0, gv1, gv2, gv3, gp1, gp2, gp3, gs0, gl0, rdMul, rdSl, rdTuple, rdMulT]
    refine lcl_map (fun z => .tuple [z, .int 40]) _ (by decide +kernel) (fun z m K1 k => ?_) ?_
    · obtain ⟨c, hc, rfl⟩ := List.mem_map.mp m
      simp (config := { maxSteps := 10000000 }) only [tdSeq, tdNext, tdBreak, tdCont, tdDrop, tdRet, tdRetN, tdIfS, tdAsg, tdPar, tdOwn, tdParO, tdAppend, tdExtend, tdGive, giveD, tdVar, tdC, tdBin, tdTest, tdAndT, tdOrT, tdNotT, tdAndV, tdOrV, tdNotV, tdIf, tdChain, tdUn, tdNil, tdCons, tdTup, tdLst, tdLstF, tdCall, tdNoPart, tdPart, tdSl, tdFn, tdFnK, tdBinO, tdCallO, tdOwnIx, tdItems, tdRange, tdRange2, tdFor, tdLcF, tdLc, tdIsi, tdUpper, tdJoin, tdBack, tdZip, tdDictIx, tdGGet, tdGPut, tdOwnArg, gdName, gdNil, gdCons, gdTup, asD_d, asB_d, asI_d, asS_d, asG_g, isOwn_own, useV, look, startD, asAll, allD, Option.map_some, itemsD, List.map_cons, List.map_nil, List.length_cons, List.length_nil, List.set_cons_zero, List.set_cons_succ, List.cons_append, List.nil_append, wipeD, Nat.zero_add, Nat.reduceAdd, Nat.reduceSub, List.reduceReplicate, id_eq, rdAdd_ii, rdAdd_ss, rdAdd_tt, rdAdd_ll, rdMul_ii, rdII_ii, rdI0_ii, rdInt_i, rdGt_ii, rdGe_ii, rdLt_ii, rdLe_ii, rdLen_l, rdLen_t, rdEq_ii, rdNe_ii, rdEq_ss, rdNe_ss, keyD_s, Option.bind_some, Bool.false_eq_true, if_false, if_true, gv0, gv1, gv2, gv3, gp1, gp2, gp3, gs0, gl0]
      exact ⟨by decide, k⟩
    · refine ⟨⟨by decide, by decide, by decide +kernel⟩, by decide, ?_⟩
      rw [great_eq]
      refine ⟨⟨by simp, by decide, by decide, by decide⟩, by decide +kernel, by decide, by decide, h _ _ _ great_plan hS⟩
/-! ### law -/
abbrev N_law : List Str := ["_law_script", "_law_feed_here", "_law_lap", "_law_plan_here", "_law_kept"]
theorem sc_law : FnScope N_law ["_law_script"] (defScope s_law) := ⟨rfl, rfl, rfl, by decide +kernel, rfl, by decide +kernel, by decide +kernel⟩
theorem ok_law {f : Addr} {fd : FuncData} (Fn : L2.Fun K "law" "law" s_law f fd) (B : Bl mg) (M : Md mg) {ff : Addr} {fdf : FuncData} (hf : FnG pr w K mg base 1 ff fdf ["_law_script"] (spF K 63 k1 k2 k3)) (hmf : mg "_law_feed" = some (.ref ff)) (hkf : PySem.W.keepIn K (.ref ff) = true) (hbf : Binds K fdf ["_law_script"] []) (c__law_changes_right : Cal pr w K mg base "_law_changes_right" ["_law_feed_here", "_law_plan_here"] 13 ct__law_changes_right) (c__law_great : Cal pr w K mg base "_law_great" [] 1 ct__law_great) (c__law_plan : Cal pr w K mg base "_law_plan" ["_law_feed_here"] 4 ct__law_plan) (c__law_are_refused : Cal pr w K mg base "_law_are_refused" ["_law_feed_here", "_law_plan_here"] 15 ct__law_are_refused) : FnG pr w K mg base 16 f fd ["_law_script"] (spLT K tabsL) := by
  obtain ⟨_, _, g__law_changes_right, m__law_changes_right, k__law_changes_right, b__law_changes_right, kk__law_changes_right⟩ := c__law_changes_right.ex
  obtain ⟨_, _, g__law_great, m__law_great, k__law_great, b__law_great, kk__law_great⟩ := c__law_great.ex
  obtain ⟨_, _, g__law_plan, m__law_plan, k__law_plan, b__law_plan, kk__law_plan⟩ := c__law_plan.ex
  obtain ⟨_, _, g__law_are_refused, m__law_are_refused, k__law_are_refused, b__law_are_refused, kk__law_are_refused⟩ := c__law_are_refused.ex
  have hN := sc_law.nd
  refine FnG.lawT (cs := tabsL) (t := _) (M := 3) Fn tabsL_nd sc_law rfl rfl rfl hf (by omega) hmf hkf hbf rfl hN ?_ ?_ rfl (fun X hX => ?_) (by decide) (by decide) (by decide) (fun cdv A out s H F hK hr hgd => (dss_cons (ds_if (dt_not (dt_val (de_fn (g__law_changes_right.mono (by omega)) hr hgd hK m__law_changes_right k__law_changes_right b__law_changes_right (da_cons (de_var 1) (da_cons (de_ix ix_seq imp_ix (de_fn0 (g__law_great.mono (by omega)) hr hgd hK m__law_great k__law_great b__law_great) de_int) da_nil))))) (dss_one (ds_ret de_bl)) dss_nil)
      (dss_cons (ds_for PassesOwn.never rfl (di_range B.range_ de_int) (dg_name (i := 2) hN) (dss_cons (ds_set (i := 3) hN (de_fn (g__law_plan.mono (by omega)) hr hgd hK m__law_plan k__law_plan b__law_plan (da_cons (de_var 1) da_nil)))
      (dss_cons (ds_set (i := 4) hN (de_callB (cr_repr hr hgd) imp_repr B.repr_ (da_cons (de_var 3) da_nil)))
      (dss_one (ds_if (dt_w (dw_or (dt_not (dt_val (de_fn (g__law_changes_right.mono (by omega)) hr hgd hK m__law_changes_right k__law_changes_right b__law_changes_right (da_cons (de_var 1) (da_cons (de_var 3) da_nil))))) (dw_or (dt_not (dt_val (de_fn (g__law_are_refused.mono (by omega)) hr hgd hK m__law_are_refused k__law_are_refused b__law_are_refused (da_cons (de_var 1) (da_cons (de_var 3) da_nil))))) (dw_or1 (dt_cmp (op_neR hr) imp_ne (de_callB (cr_repr hr hgd) imp_repr B.repr_ (da_cons (de_var 3) da_nil)) (de_var 4)))))) (dss_one (ds_ret de_bl)) dss_nil)))))
      (dss_one (ds_ret de_bl))))) fun ns hl => ?_
  · first | exact .inl rfl | exact .inr rfl
  · intro cdv A out s H; first | exact .inl rfl | exact .inr rfl
  · refine ⟨?_, rfl, rfl, rfl⟩
    show Env.kindOf X.env _ = _
    unfold Env.kindOf
    rw [hX]
    rfl
  · have hf0 : Fd (feed ns 0 0 0) := ⟨ns, 0, 0, 0, rfl, hl⟩
    show tdSeq _ _ _ (none :: some (.g 0) :: [none, none, none]) (feed ns 0 0 0)
    let Iv : Nat → DEnv → GS → Prop := fun _ env G' => ∃ o2 o3 o4, env = [none, some (.g 0), o2, o3, o4] ∧ Fd G'
    refine fallI (Iv 0) (fun R hR => ?_) (fun e G2 hIv => ?_)
    · have ig : ∀ a b : D, atI [a, b] 0 = some a := fun _ _ => rfl
      simp (config := { maxSteps := 10000000 }) only [tdSeq, tdNext, tdBreak, tdCont, tdDrop, tdRet, tdRetN, tdIfS, tdAsg, tdPar, tdOwn, tdParO, tdAppend, tdExtend, tdGive, giveD, tdVar, tdC, tdBin, tdTest, tdAndT, tdOrT, tdNotT, tdAndV, tdOrV, tdNotV, tdIf, tdChain, tdUn, tdNil, tdCons, tdTup, tdLst, tdLstF, tdCall, tdNoPart, tdPart, tdSl, tdFn, tdFnK, tdBinO, tdCallO, tdOwnIx, tdItems, tdRange, tdRange2, tdFor, tdLcF, tdLc, tdIsi, tdUpper, tdJoin, tdBack, tdZip, tdDictIx, tdGGet, tdGPut, tdOwnArg, gdName, gdNil, gdCons, gdTup, asD_d, asB_d, asI_d, asS_d, asG_g, isOwn_own, useV, look, startD, asAll, allD, Option.map_some, itemsD, List.map_cons, List.map_nil, List.length_cons, List.length_nil, List.set_cons_zero, List.set_cons_succ, List.cons_append, List.nil_append, wipeD, Nat.zero_add, Nat.reduceAdd, Nat.reduceSub, List.reduceReplicate, id_eq, rdAdd_ii, rdAdd_ss, rdAdd_tt, rdAdd_ll, rdMul_ii, rdII_ii, rdI0_ii, rdInt_i, rdGt_ii, rdGe_ii, rdLt_ii, rdLe_ii, rdLen_l, rdLen_t, rdEq_ii, rdNe_ii, rdEq_ss, rdNe_ss, keyD_s, Option.bind_some, Bool.false_eq_true, if_false, if_true, gv0, gv1, gv2, gv3, gp1, gp2, gp3, gs0, gl0, rdIx]
      refine ⟨rfl, fun bs ps d hP hd => ?_⟩
      simp (config := { maxSteps := 10000000 }) only [tdSeq, tdNext, tdBreak, tdCont, tdDrop, tdRet, tdRetN, tdIfS, tdAsg, tdPar, tdOwn, tdParO, tdAppend, tdExtend, tdGive, giveD, tdVar, tdC, tdBin, tdTest, tdAndT, tdOrT, tdNotT, tdAndV, tdOrV, tdNotV, tdIf, tdChain, tdUn, tdNil, tdCons, tdTup, tdLst, tdLstF, tdCall, tdNoPart, tdPart, tdSl, tdFn, tdFnK, tdBinO, tdCallO, tdOwnIx, tdItems, tdRange, tdRange2, tdFor, tdLcF, tdLc, tdIsi, tdUpper, tdJoin, tdBack, tdZip, tdDictIx, tdGGet, tdGPut, tdOwnArg, gdName, gdNil, gdCons, gdTup, asD_d, asB_d, asI_d, asS_d, asG_g, isOwn_own, useV, look, startD, asAll, allD, Option.map_some, itemsD, List.map_cons, List.map_nil, List.length_cons, List.length_nil, List.set_cons_zero, List.set_cons_succ, List.cons_append, List.nil_append, wipeD, Nat.zero_add, Nat.reduceAdd, Nat.reduceSub, List.reduceReplicate, id_eq, rdAdd_ii, rdAdd_ss, rdAdd_tt, rdAdd_ll, rdMul_ii, rdII_ii, rdI0_ii, rdInt_i, rdGt_ii, rdGe_ii, rdLt_ii, rdLe_ii, rdLen_l, rdLen_t, rdEq_ii, rdNe_ii, rdEq_ss, rdNe_ss, keyD_s, Option.bind_some, Bool.false_eq_true, if_false, if_true, gv0, gv1, gv2, gv3, gp1, gp2, gp3, gs0, gl0, rdIx, ig]
      refine ⟨bs, ps, rfl, hP, hf0, fun G3 hf3 => ?_⟩
      simp only [asB_d, Bool.not_true]
      exact itF (by simp) (hR _ _ ⟨_, _, _, rfl, hf3⟩)
    obtain ⟨o2, o3, o4, rfl, hfx⟩ := hIv
    refine fallI (Iv 0) (fun R hR => ?_) (fun e G3 hIv => ?_)
    · simp (config := { maxSteps := 10000000 }) only [tdSeq, tdNext, tdBreak, tdCont, tdDrop, tdRet, tdRetN, tdIfS, tdAsg, tdPar, tdOwn, tdParO, tdAppend, tdExtend, tdGive, giveD, tdVar, tdC, tdBin, tdTest, tdAndT, tdOrT, tdNotT, tdAndV, tdOrV, tdNotV, tdIf, tdChain, tdUn, tdNil, tdCons, tdTup, tdLst, tdLstF, tdCall, tdNoPart, tdPart, tdSl, tdFn, tdFnK, tdBinO, tdCallO, tdOwnIx, tdItems, tdRange, tdRange2, tdFor, tdLcF, tdLc, tdIsi, tdUpper, tdJoin, tdBack, tdZip, tdDictIx, tdGGet, tdGPut, tdOwnArg, gdName, gdNil, gdCons, gdTup, asD_d, asB_d, asI_d, asS_d, asG_g, isOwn_own, useV, look, startD, asAll, allD, Option.map_some, itemsD, List.map_cons, List.map_nil, List.length_cons, List.length_nil, List.set_cons_zero, List.set_cons_succ, List.cons_append, List.nil_append, wipeD, Nat.zero_add, Nat.reduceAdd, Nat.reduceSub, List.reduceReplicate, id_eq, rdAdd_ii, rdAdd_ss, rdAdd_tt, rdAdd_ll, rdMul_ii, rdII_ii, rdI0_ii, rdInt_i, rdGt_ii, rdGe_ii, rdLt_ii, rdLe_ii, rdLen_l, rdLen_t, rdEq_ii, rdNe_ii, rdEq_ss, rdNe_ss, keyD_s, Option.bind_some, Bool.false_eq_true, if_false, if_true, gv0, gv1, gv2, gv3, gp1, gp2, gp3, gs0, gl0]
      refine ⟨by decide, ?_⟩
      refine dloop_by _ Iv 0 _ _ ?_ ?_ ⟨_, _, _, rfl, hfx⟩
      · rintro i x env G3 hi ⟨o2, o3, o4, rfl, hf3⟩ nx hnx
        simp only [gdName, List.set_cons_zero, List.set_cons_succ]
        refine seq_out fun R2 h2 => ?_
        simp (config := { maxSteps := 10000000 }) only [tdSeq, tdNext, tdBreak, tdCont, tdDrop, tdRet, tdRetN, tdIfS, tdAsg, tdPar, tdOwn, tdParO, tdAppend, tdExtend, tdGive, giveD, tdVar, tdC, tdBin, tdTest, tdAndT, tdOrT, tdNotT, tdAndV, tdOrV, tdNotV, tdIf, tdChain, tdUn, tdNil, tdCons, tdTup, tdLst, tdLstF, tdCall, tdNoPart, tdPart, tdSl, tdFn, tdFnK, tdBinO, tdCallO, tdOwnIx, tdItems, tdRange, tdRange2, tdFor, tdLcF, tdLc, tdIsi, tdUpper, tdJoin, tdBack, tdZip, tdDictIx, tdGGet, tdGPut, tdOwnArg, gdName, gdNil, gdCons, gdTup, asD_d, asB_d, asI_d, asS_d, asG_g, isOwn_own, useV, look, startD, asAll, allD, Option.map_some, itemsD, List.map_cons, List.map_nil, List.length_cons, List.length_nil, List.set_cons_zero, List.set_cons_succ, List.cons_append, List.nil_append, wipeD, Nat.zero_add, Nat.reduceAdd, Nat.reduceSub, List.reduceReplicate, id_eq, rdAdd_ii, rdAdd_ss, rdAdd_tt, rdAdd_ll, rdMul_ii, rdII_ii, rdI0_ii, rdInt_i, rdGt_ii, rdGe_ii, rdLt_ii, rdLe_ii, rdLen_l, rdLen_t, rdEq_ii, rdNe_ii, rdEq_ss, rdNe_ss, keyD_s, Option.bind_some, Bool.false_eq_true, if_false, if_true, gv0, gv1, gv2, gv3, gp1, gp2, gp3, gs0, gl0]
        refine ⟨rfl, hf3, fun bs ps G4 hP hf4 => ?_⟩
        rw [← h2]
        clear h2
        have shp := (plan_ok hP).shw (by decide) (by decide)
        refine seq_out fun R2 h2 => ?_
        simp (config := { maxSteps := 10000000 }) only [tdSeq, tdNext, tdBreak, tdCont, tdDrop, tdRet, tdRetN, tdIfS, tdAsg, tdPar, tdOwn, tdParO, tdAppend, tdExtend, tdGive, giveD, tdVar, tdC, tdBin, tdTest, tdAndT, tdOrT, tdNotT, tdAndV, tdOrV, tdNotV, tdIf, tdChain, tdUn, tdNil, tdCons, tdTup, tdLst, tdLstF, tdCall, tdNoPart, tdPart, tdSl, tdFn, tdFnK, tdBinO, tdCallO, tdOwnIx, tdItems, tdRange, tdRange2, tdFor, tdLcF, tdLc, tdIsi, tdUpper, tdJoin, tdBack, tdZip, tdDictIx, tdGGet, tdGPut, tdOwnArg, gdName, gdNil, gdCons, gdTup, asD_d, asB_d, asI_d, asS_d, asG_g, isOwn_own, useV, look, startD, asAll, allD, Option.map_some, itemsD, List.map_cons, List.map_nil, List.length_cons, List.length_nil, List.set_cons_zero, List.set_cons_succ, List.cons_append, List.nil_append, wipeD, Nat.zero_add, Nat.reduceAdd, Nat.reduceSub, List.reduceReplicate, id_eq, rdAdd_ii, rdAdd_ss, rdAdd_tt, rdAdd_ll, rdMul_ii, rdII_ii, rdI0_ii, rdInt_i, rdGt_ii, rdGe_ii, rdLt_ii, rdLe_ii, rdLen_l, rdLen_t, rdEq_ii, rdNe_ii, rdEq_ss, rdNe_ss, keyD_s, Option.bind_some, Bool.false_eq_true, if_false, if_true, gv0, gv1, gv2, gv3, gp1, gp2, gp3, gs0, gl0, rdRepr]
        refine ⟨shp, ?_⟩
        rw [← h2]
        clear h2
        simp (config := { maxSteps := 10000000 }) only [tdSeq, tdNext, tdBreak, tdCont, tdDrop, tdRet, tdRetN, tdIfS, tdAsg, tdPar, tdOwn, tdParO, tdAppend, tdExtend, tdGive, giveD, tdVar, tdC, tdBin, tdTest, tdAndT, tdOrT, tdNotT, tdAndV, tdOrV, tdNotV, tdIf, tdChain, tdUn, tdNil, tdCons, tdTup, tdLst, tdLstF, tdCall, tdNoPart, tdPart, tdSl, tdFn, tdFnK, tdBinO, tdCallO, tdOwnIx, tdItems, tdRange, tdRange2, tdFor, tdLcF, tdLc, tdIsi, tdUpper, tdJoin, tdBack, tdZip, tdDictIx, tdGGet, tdGPut, tdOwnArg, gdName, gdNil, gdCons, gdTup, asD_d, asB_d, asI_d, asS_d, asG_g, isOwn_own, useV, look, startD, asAll, allD, Option.map_some, itemsD, List.map_cons, List.map_nil, List.length_cons, List.length_nil, List.set_cons_zero, List.set_cons_succ, List.cons_append, List.nil_append, wipeD, Nat.zero_add, Nat.reduceAdd, Nat.reduceSub, List.reduceReplicate, id_eq, rdAdd_ii, rdAdd_ss, rdAdd_tt, rdAdd_ll, rdMul_ii, rdII_ii, rdI0_ii, rdInt_i, rdGt_ii, rdGe_ii, rdLt_ii, rdLe_ii, rdLen_l, rdLen_t, rdEq_ii, rdNe_ii, rdEq_ss, rdNe_ss, keyD_s, Option.bind_some, Bool.false_eq_true, if_false, if_true, gv0, gv1, gv2, gv3, gp1, gp2, gp3, gs0, gl0, rdRepr]
        refine ⟨bs, ps, rfl, hP, hf4, fun G5 hf5 => ?_⟩
        simp only [asB_d, Bool.not_true]
        refine itF (by simp) ⟨bs, ps, rfl, hP, hf5, fun G6 hf6 => ?_⟩
        simp only [asB_d, Bool.not_true]
        refine itF (by simp) ⟨shp, ?_⟩
        refine itF (by simp) (hnx _ _ ⟨_, _, _, rfl, hf6⟩)
      · rintro env G3 ⟨o2, o3, o4, rfl, hf3⟩
        exact hR _ _ ⟨_, _, _, rfl, hf3⟩
    obtain ⟨o2, o3, o4, rfl, hfx⟩ := hIv
    rfl
abbrev N__law_feed : List Str := ["_law_script"]
theorem sc__law_feed : FnScope N__law_feed ["_law_script"] (defScope s__law_feed) := ⟨rfl, rfl, rfl, by decide +kernel, rfl, by decide +kernel, by decide +kernel⟩
theorem ok__law_feed {f : Addr} {fd : FuncData} (Fn : L2.Fun K "_law_feed" "_law_feed" s__law_feed f fd) (B : Bl mg) : FnG pr w K mg base 1 f fd ["_law_script"] (spF K 63 k1 k2 k3) := by
  refine FnG.of Fn sc__law_feed (fun vs H Q ⟨a, ns, e, _⟩ => by rw [e]; rfl) fun cdv A out s H vs Q hr hg h => ?_
  obtain ⟨a, ns, rfl, hx, k⟩ := h
  exact ⟨_, pss_one (ps_ret (pe_feed 0 rfl B.list_)), a, ns, rfl, hx, k⟩
end
end Tables
/-- all defs together -/
theorem all_mk {l : PySem.W.OpenLaw} {w : World} {K : PySem.W.Frag} {h : Heap} {mg : Str → Option Value} {fa f3 f4 f5 f6 f7 f8 f9 f20 f21 f22 f23 f25 f26 f27 f28 f29 f30 f32 f33 f34 f36 f37 f38 f39 f40 f41 f42 f43 f44 f45 f46 f47 f48 f49 f50 f51 : Addr} (X : K.In h) (G : h.Ns mainGlobals mg) (hfa : mg "law" = some (.ref fa))
    {od3 an3 : Option Addr} {sl3 : Array (Option Value)} {oc3 kV3 dc3 pm3 cd3 ct3 : Value}
    {od4 an4 : Option Addr} {sl4 : Array (Option Value)} {oc4 kV4 dc4 pm4 cd4 ct4 : Value}
    {od5 an5 : Option Addr} {sl5 : Array (Option Value)} {oc5 kV5 dc5 pm5 cd5 ct5 : Value}
    {od6 an6 : Option Addr} {sl6 : Array (Option Value)} {oc6 kV6 dc6 pm6 cd6 ct6 : Value}
    {od7 an7 : Option Addr} {sl7 : Array (Option Value)} {oc7 kV7 dc7 pm7 cd7 ct7 : Value}
    {od8 an8 : Option Addr} {sl8 : Array (Option Value)} {oc8 kV8 dc8 pm8 cd8 ct8 : Value}
    {od9 an9 : Option Addr} {sl9 : Array (Option Value)} {oc9 kV9 dc9 pm9 cd9 ct9 : Value}
    {od20 an20 : Option Addr} {sl20 : Array (Option Value)} {oc20 kV20 dc20 pm20 cd20 ct20 : Value}
    {od21 an21 : Option Addr} {sl21 : Array (Option Value)} {oc21 kV21 dc21 pm21 cd21 ct21 : Value}
    {od22 an22 : Option Addr} {sl22 : Array (Option Value)} {oc22 kV22 dc22 pm22 cd22 ct22 : Value}
    {od23 an23 : Option Addr} {sl23 : Array (Option Value)} {oc23 kV23 dc23 pm23 cd23 ct23 : Value}
    {od25 an25 : Option Addr} {sl25 : Array (Option Value)} {oc25 kV25 dc25 pm25 cd25 ct25 : Value}
    {od26 an26 : Option Addr} {sl26 : Array (Option Value)} {oc26 kV26 dc26 pm26 cd26 ct26 : Value}
    {od27 an27 : Option Addr} {sl27 : Array (Option Value)} {oc27 kV27 dc27 pm27 cd27 ct27 : Value}
    {od28 an28 : Option Addr} {sl28 : Array (Option Value)} {oc28 kV28 dc28 pm28 cd28 ct28 : Value}
    {od29 an29 : Option Addr} {sl29 : Array (Option Value)} {oc29 kV29 dc29 pm29 cd29 ct29 : Value}
    {od30 an30 : Option Addr} {sl30 : Array (Option Value)} {oc30 kV30 dc30 pm30 cd30 ct30 : Value}
    {od32 an32 : Option Addr} {sl32 : Array (Option Value)} {oc32 kV32 dc32 pm32 cd32 ct32 : Value}
    {od33 an33 : Option Addr} {sl33 : Array (Option Value)} {oc33 kV33 dc33 pm33 cd33 ct33 : Value}
    {od34 an34 : Option Addr} {sl34 : Array (Option Value)} {oc34 kV34 dc34 pm34 cd34 ct34 : Value}
    {od36 an36 : Option Addr} {sl36 : Array (Option Value)} {oc36 kV36 dc36 pm36 cd36 ct36 : Value}
    {od37 an37 : Option Addr} {sl37 : Array (Option Value)} {oc37 kV37 dc37 pm37 cd37 ct37 : Value}
    {od38 an38 : Option Addr} {sl38 : Array (Option Value)} {oc38 kV38 dc38 pm38 cd38 ct38 : Value}
    {od39 an39 : Option Addr} {sl39 : Array (Option Value)} {oc39 kV39 dc39 pm39 cd39 ct39 : Value}
    {od40 an40 : Option Addr} {sl40 : Array (Option Value)} {oc40 kV40 dc40 pm40 cd40 ct40 : Value}
    {od41 an41 : Option Addr} {sl41 : Array (Option Value)} {oc41 kV41 dc41 pm41 cd41 ct41 : Value}
    {od42 an42 : Option Addr} {sl42 : Array (Option Value)} {oc42 kV42 dc42 pm42 cd42 ct42 : Value}
    {od43 an43 : Option Addr} {sl43 : Array (Option Value)} {oc43 kV43 dc43 pm43 cd43 ct43 : Value}
    {od44 an44 : Option Addr} {sl44 : Array (Option Value)} {oc44 kV44 dc44 pm44 cd44 ct44 : Value}
    {od45 an45 : Option Addr} {sl45 : Array (Option Value)} {oc45 kV45 dc45 pm45 cd45 ct45 : Value}
    {od46 an46 : Option Addr} {sl46 : Array (Option Value)} {oc46 kV46 dc46 pm46 cd46 ct46 : Value}
    {od47 an47 : Option Addr} {sl47 : Array (Option Value)} {oc47 kV47 dc47 pm47 cd47 ct47 : Value}
    {od48 an48 : Option Addr} {sl48 : Array (Option Value)} {oc48 kV48 dc48 pm48 cd48 ct48 : Value}
    {od49 an49 : Option Addr} {sl49 : Array (Option Value)} {oc49 kV49 dc49 pm49 cd49 ct49 : Value}
    {od50 an50 : Option Addr} {sl50 : Array (Option Value)} {oc50 kV50 dc50 pm50 cd50 ct50 : Value}
    {od51 an51 : Option Addr} {sl51 : Array (Option Value)} {oc51 kV51 dc51 pm51 cd51 ct51 : Value}
    {tk_LETTERS : Tok}
    {tk_MOST_LETTERS : Tok}
    {dV25 : Value}
    {a_CartError a_FloorError a_InvalidPaper a_InvalidText a_NotUsable a_PaperError a_TextError a_TrafficError fI_InvalidPaper cc_InvalidPaper cda_InvalidPaper fI_NotUsable cc_NotUsable cda_NotUsable : Addr}
    {cL PL : Addr} {occ : Value} {odc : Option Addr} {vsc : Array Value} {slc : Array (Option Value)}
    (a3 : PySem.W.nsIn K mainGlobals "is_integer" = some (some (.ref f3))) (l3 : K.lookup f3 = some ⟨oc3, od3, .func (PySem.W.fnOf "is_integer" "is_integer" (defArgs s_is_integer) (defBody s_is_integer) (defScope s_is_integer) .none kV3 dc3 pm3 an3 cd3 ct3), sl3⟩) (c3 : PySem.W.codeIn K cd3 "is_integer" = true) (k3 : PySem.W.keepIn K (.ref f3) = true)
    (a4 : PySem.W.nsIn K mainGlobals "is_number" = some (some (.ref f4))) (l4 : K.lookup f4 = some ⟨oc4, od4, .func (PySem.W.fnOf "is_number" "is_number" (defArgs s_is_number) (defBody s_is_number) (defScope s_is_number) .none kV4 dc4 pm4 an4 cd4 ct4), sl4⟩) (c4 : PySem.W.codeIn K cd4 "is_number" = true) (k4 : PySem.W.keepIn K (.ref f4) = true)
    (a5 : PySem.W.nsIn K mainGlobals "is_name" = some (some (.ref f5))) (l5 : K.lookup f5 = some ⟨oc5, od5, .func (PySem.W.fnOf "is_name" "is_name" (defArgs s_is_name) (defBody s_is_name) (defScope s_is_name) .none kV5 dc5 pm5 an5 cd5 ct5), sl5⟩) (c5 : PySem.W.codeIn K cd5 "is_name" = true) (k5 : PySem.W.keepIn K (.ref f5) = true)
    (a6 : PySem.W.nsIn K mainGlobals "is_pair" = some (some (.ref f6))) (l6 : K.lookup f6 = some ⟨oc6, od6, .func (PySem.W.fnOf "is_pair" "is_pair" (defArgs s_is_pair) (defBody s_is_pair) (defScope s_is_pair) .none kV6 dc6 pm6 an6 cd6 ct6), sl6⟩) (c6 : PySem.W.codeIn K cd6 "is_pair" = true) (k6 : PySem.W.keepIn K (.ref f6) = true)
    (a7 : PySem.W.nsIn K mainGlobals "is_places" = some (some (.ref f7))) (l7 : K.lookup f7 = some ⟨oc7, od7, .func (PySem.W.fnOf "is_places" "is_places" (defArgs s_is_places) (defBody s_is_places) (defScope s_is_places) .none kV7 dc7 pm7 an7 cd7 ct7), sl7⟩) (c7 : PySem.W.codeIn K cd7 "is_places" = true) (k7 : PySem.W.keepIn K (.ref f7) = true)
    (a8 : PySem.W.nsIn K mainGlobals "is_zone" = some (some (.ref f8))) (l8 : K.lookup f8 = some ⟨oc8, od8, .func (PySem.W.fnOf "is_zone" "is_zone" (defArgs s_is_zone) (defBody s_is_zone) (defScope s_is_zone) .none kV8 dc8 pm8 an8 cd8 ct8), sl8⟩) (c8 : PySem.W.codeIn K cd8 "is_zone" = true) (k8 : PySem.W.keepIn K (.ref f8) = true)
    (a9 : PySem.W.nsIn K mainGlobals "is_way" = some (some (.ref f9))) (l9 : K.lookup f9 = some ⟨oc9, od9, .func (PySem.W.fnOf "is_way" "is_way" (defArgs s_is_way) (defBody s_is_way) (defScope s_is_way) .none kV9 dc9 pm9 an9 cd9 ct9), sl9⟩) (c9 : PySem.W.codeIn K cd9 "is_way" = true) (k9 : PySem.W.keepIn K (.ref f9) = true)
    (a20 : PySem.W.nsIn K mainGlobals "zones_fault" = some (some (.ref f20))) (l20 : K.lookup f20 = some ⟨oc20, od20, .func (PySem.W.fnOf "zones_fault" "zones_fault" (defArgs s_zones_fault) (defBody s_zones_fault) (defScope s_zones_fault) .none kV20 dc20 pm20 an20 cd20 ct20), sl20⟩) (c20 : PySem.W.codeIn K cd20 "zones_fault" = true) (k20 : PySem.W.keepIn K (.ref f20) = true)
    (a21 : PySem.W.nsIn K mainGlobals "ways_fault" = some (some (.ref f21))) (l21 : K.lookup f21 = some ⟨oc21, od21, .func (PySem.W.fnOf "ways_fault" "ways_fault" (defArgs s_ways_fault) (defBody s_ways_fault) (defScope s_ways_fault) .none kV21 dc21 pm21 an21 cd21 ct21), sl21⟩) (c21 : PySem.W.codeIn K cd21 "ways_fault" = true) (k21 : PySem.W.keepIn K (.ref f21) = true)
    (a22 : PySem.W.nsIn K mainGlobals "floor_fault" = some (some (.ref f22))) (l22 : K.lookup f22 = some ⟨oc22, od22, .func (PySem.W.fnOf "floor_fault" "floor_fault" (defArgs s_floor_fault) (defBody s_floor_fault) (defScope s_floor_fault) .none kV22 dc22 pm22 an22 cd22 ct22), sl22⟩) (c22 : PySem.W.codeIn K cd22 "floor_fault" = true) (k22 : PySem.W.keepIn K (.ref f22) = true)
    (a23 : PySem.W.nsIn K mainGlobals "lets_floor" = some (some (.ref f23))) (l23 : K.lookup f23 = some ⟨oc23, od23, .func (PySem.W.fnOf "lets_floor" "lets_floor" (defArgs s_lets_floor) (defBody s_lets_floor) (defScope s_lets_floor) .none kV23 dc23 pm23 an23 cd23 ct23), sl23⟩) (c23 : PySem.W.codeIn K cd23 "lets_floor" = true) (k23 : PySem.W.keepIn K (.ref f23) = true)
    (a25 : PySem.W.nsIn K mainGlobals "want" = some (some (.ref f25))) (l25 : K.lookup f25 = some ⟨oc25, od25, .func (PySem.W.fnOf "want" "want" (defArgs s_want) (defBody s_want) (defScope s_want) dV25 kV25 dc25 pm25 an25 cd25 ct25), sl25⟩) (c25 : PySem.W.codeIn K cd25 "want" = true) (k25 : PySem.W.keepIn K (.ref f25) = true)
    (hD25 : DflV K dV25 [V.int (-1)])
    (a26 : PySem.W.nsIn K mainGlobals "is_zone_of" = some (some (.ref f26))) (l26 : K.lookup f26 = some ⟨oc26, od26, .func (PySem.W.fnOf "is_zone_of" "is_zone_of" (defArgs s_is_zone_of) (defBody s_is_zone_of) (defScope s_is_zone_of) .none kV26 dc26 pm26 an26 cd26 ct26), sl26⟩) (c26 : PySem.W.codeIn K cd26 "is_zone_of" = true) (k26 : PySem.W.keepIn K (.ref f26) = true)
    (a27 : PySem.W.nsIn K mainGlobals "is_way_of" = some (some (.ref f27))) (l27 : K.lookup f27 = some ⟨oc27, od27, .func (PySem.W.fnOf "is_way_of" "is_way_of" (defArgs s_is_way_of) (defBody s_is_way_of) (defScope s_is_way_of) .none kV27 dc27 pm27 an27 cd27 ct27), sl27⟩) (c27 : PySem.W.codeIn K cd27 "is_way_of" = true) (k27 : PySem.W.keepIn K (.ref f27) = true)
    (a28 : PySem.W.nsIn K mainGlobals "want_floor" = some (some (.ref f28))) (l28 : K.lookup f28 = some ⟨oc28, od28, .func (PySem.W.fnOf "want_floor" "want_floor" (defArgs s_want_floor) (defBody s_want_floor) (defScope s_want_floor) .none kV28 dc28 pm28 an28 cd28 ct28), sl28⟩) (c28 : PySem.W.codeIn K cd28 "want_floor" = true) (k28 : PySem.W.keepIn K (.ref f28) = true)
    (a29 : PySem.W.nsIn K mainGlobals "want_zone" = some (some (.ref f29))) (l29 : K.lookup f29 = some ⟨oc29, od29, .func (PySem.W.fnOf "want_zone" "want_zone" (defArgs s_want_zone) (defBody s_want_zone) (defScope s_want_zone) .none kV29 dc29 pm29 an29 cd29 ct29), sl29⟩) (c29 : PySem.W.codeIn K cd29 "want_zone" = true) (k29 : PySem.W.keepIn K (.ref f29) = true)
    (a30 : PySem.W.nsIn K mainGlobals "want_way" = some (some (.ref f30))) (l30 : K.lookup f30 = some ⟨oc30, od30, .func (PySem.W.fnOf "want_way" "want_way" (defArgs s_want_way) (defBody s_want_way) (defScope s_want_way) .none kV30 dc30 pm30 an30 cd30 ct30), sl30⟩) (c30 : PySem.W.codeIn K cd30 "want_way" = true) (k30 : PySem.W.keepIn K (.ref f30) = true)
    (a32 : PySem.W.nsIn K mainGlobals "with_places" = some (some (.ref f32))) (l32 : K.lookup f32 = some ⟨oc32, od32, .func (PySem.W.fnOf "with_places" "with_places" (defArgs s_with_places) (defBody s_with_places) (defScope s_with_places) .none kV32 dc32 pm32 an32 cd32 ct32), sl32⟩) (c32 : PySem.W.codeIn K cd32 "with_places" = true) (k32 : PySem.W.keepIn K (.ref f32) = true)
    (a33 : PySem.W.nsIn K mainGlobals "with_way" = some (some (.ref f33))) (l33 : K.lookup f33 = some ⟨oc33, od33, .func (PySem.W.fnOf "with_way" "with_way" (defArgs s_with_way) (defBody s_with_way) (defScope s_with_way) .none kV33 dc33 pm33 an33 cd33 ct33), sl33⟩) (c33 : PySem.W.codeIn K cd33 "with_way" = true) (k33 : PySem.W.keepIn K (.ref f33) = true)
    (a34 : PySem.W.nsIn K mainGlobals "without_way" = some (some (.ref f34))) (l34 : K.lookup f34 = some ⟨oc34, od34, .func (PySem.W.fnOf "without_way" "without_way" (defArgs s_without_way) (defBody s_without_way) (defScope s_without_way) .none kV34 dc34 pm34 an34 cd34 ct34), sl34⟩) (c34 : PySem.W.codeIn K cd34 "without_way" = true) (k34 : PySem.W.keepIn K (.ref f34) = true)
    (a36 : PySem.W.nsIn K mainGlobals "_law_feed" = some (some (.ref f36))) (l36 : K.lookup f36 = some ⟨oc36, od36, .func (PySem.W.fnOf "_law_feed" "_law_feed" (defArgs s__law_feed) (defBody s__law_feed) (defScope s__law_feed) .none kV36 dc36 pm36 an36 cd36 ct36), sl36⟩) (c36 : PySem.W.codeIn K cd36 "_law_feed" = true) (k36 : PySem.W.keepIn K (.ref f36) = true)
    (a37 : PySem.W.nsIn K mainGlobals "_law_draw" = some (some (.ref f37))) (l37 : K.lookup f37 = some ⟨oc37, od37, .func (PySem.W.fnOf "_law_draw" "_law_draw" (defArgs s__law_draw) (defBody s__law_draw) (defScope s__law_draw) .none kV37 dc37 pm37 an37 cd37 ct37), sl37⟩) (c37 : PySem.W.codeIn K cd37 "_law_draw" = true) (k37 : PySem.W.keepIn K (.ref f37) = true)
    (a38 : PySem.W.nsIn K mainGlobals "_law_pick" = some (some (.ref f38))) (l38 : K.lookup f38 = some ⟨oc38, od38, .func (PySem.W.fnOf "_law_pick" "_law_pick" (defArgs s__law_pick) (defBody s__law_pick) (defScope s__law_pick) .none kV38 dc38 pm38 an38 cd38 ct38), sl38⟩) (c38 : PySem.W.codeIn K cd38 "_law_pick" = true) (k38 : PySem.W.keepIn K (.ref f38) = true)
    (a39 : PySem.W.nsIn K mainGlobals "_law_pool" = some (some (.ref f39))) (l39 : K.lookup f39 = some ⟨oc39, od39, .func (PySem.W.fnOf "_law_pool" "_law_pool" (defArgs s__law_pool) (defBody s__law_pool) (defScope s__law_pool) .none kV39 dc39 pm39 an39 cd39 ct39), sl39⟩) (c39 : PySem.W.codeIn K cd39 "_law_pool" = true) (k39 : PySem.W.keepIn K (.ref f39) = true)
    (a40 : PySem.W.nsIn K mainGlobals "_law_path" = some (some (.ref f40))) (l40 : K.lookup f40 = some ⟨oc40, od40, .func (PySem.W.fnOf "_law_path" "_law_path" (defArgs s__law_path) (defBody s__law_path) (defScope s__law_path) .none kV40 dc40 pm40 an40 cd40 ct40), sl40⟩) (c40 : PySem.W.codeIn K cd40 "_law_path" = true) (k40 : PySem.W.keepIn K (.ref f40) = true)
    (a41 : PySem.W.nsIn K mainGlobals "_law_plan" = some (some (.ref f41))) (l41 : K.lookup f41 = some ⟨oc41, od41, .func (PySem.W.fnOf "_law_plan" "_law_plan" (defArgs s__law_plan) (defBody s__law_plan) (defScope s__law_plan) .none kV41 dc41 pm41 an41 cd41 ct41), sl41⟩) (c41 : PySem.W.codeIn K cd41 "_law_plan" = true) (k41 : PySem.W.keepIn K (.ref f41) = true)
    (a42 : PySem.W.nsIn K mainGlobals "_law_same" = some (some (.ref f42))) (l42 : K.lookup f42 = some ⟨oc42, od42, .func (PySem.W.fnOf "_law_same" "_law_same" (defArgs s__law_same) (defBody s__law_same) (defScope s__law_same) .none kV42 dc42 pm42 an42 cd42 ct42), sl42⟩) (c42 : PySem.W.codeIn K cd42 "_law_same" = true) (k42 : PySem.W.keepIn K (.ref f42) = true)
    (a43 : PySem.W.nsIn K mainGlobals "_law_heard" = some (some (.ref f43))) (l43 : K.lookup f43 = some ⟨oc43, od43, .func (PySem.W.fnOf "_law_heard" "_law_heard" (defArgs s__law_heard) (defBody s__law_heard) (defScope s__law_heard) .none kV43 dc43 pm43 an43 cd43 ct43), sl43⟩) (c43 : PySem.W.codeIn K cd43 "_law_heard" = true) (k43 : PySem.W.keepIn K (.ref f43) = true)
    (a44 : PySem.W.nsIn K mainGlobals "_law_put" = some (some (.ref f44))) (l44 : K.lookup f44 = some ⟨oc44, od44, .func (PySem.W.fnOf "_law_put" "_law_put" (defArgs s__law_put) (defBody s__law_put) (defScope s__law_put) .none kV44 dc44 pm44 an44 cd44 ct44), sl44⟩) (c44 : PySem.W.codeIn K cd44 "_law_put" = true) (k44 : PySem.W.keepIn K (.ref f44) = true)
    (a45 : PySem.W.nsIn K mainGlobals "_law_no_plans" = some (some (.ref f45))) (l45 : K.lookup f45 = some ⟨oc45, od45, .func (PySem.W.fnOf "_law_no_plans" "_law_no_plans" (defArgs s__law_no_plans) (defBody s__law_no_plans) (defScope s__law_no_plans) .none kV45 dc45 pm45 an45 cd45 ct45), sl45⟩) (c45 : PySem.W.codeIn K cd45 "_law_no_plans" = true) (k45 : PySem.W.keepIn K (.ref f45) = true)
    (a46 : PySem.W.nsIn K mainGlobals "_law_no_tags" = some (some (.ref f46))) (l46 : K.lookup f46 = some ⟨oc46, od46, .func (PySem.W.fnOf "_law_no_tags" "_law_no_tags" (defArgs s__law_no_tags) (defBody s__law_no_tags) (defScope s__law_no_tags) .none kV46 dc46 pm46 an46 cd46 ct46), sl46⟩) (c46 : PySem.W.codeIn K cd46 "_law_no_tags" = true) (k46 : PySem.W.keepIn K (.ref f46) = true)
    (a47 : PySem.W.nsIn K mainGlobals "_law_changes_right" = some (some (.ref f47))) (l47 : K.lookup f47 = some ⟨oc47, od47, .func (PySem.W.fnOf "_law_changes_right" "_law_changes_right" (defArgs s__law_changes_right) (defBody s__law_changes_right) (defScope s__law_changes_right) .none kV47 dc47 pm47 an47 cd47 ct47), sl47⟩) (c47 : PySem.W.codeIn K cd47 "_law_changes_right" = true) (k47 : PySem.W.keepIn K (.ref f47) = true)
    (a48 : PySem.W.nsIn K mainGlobals "_law_no_paths" = some (some (.ref f48))) (l48 : K.lookup f48 = some ⟨oc48, od48, .func (PySem.W.fnOf "_law_no_paths" "_law_no_paths" (defArgs s__law_no_paths) (defBody s__law_no_paths) (defScope s__law_no_paths) .none kV48 dc48 pm48 an48 cd48 ct48), sl48⟩) (c48 : PySem.W.codeIn K cd48 "_law_no_paths" = true) (k48 : PySem.W.keepIn K (.ref f48) = true)
    (a49 : PySem.W.nsIn K mainGlobals "_law_are_refused" = some (some (.ref f49))) (l49 : K.lookup f49 = some ⟨oc49, od49, .func (PySem.W.fnOf "_law_are_refused" "_law_are_refused" (defArgs s__law_are_refused) (defBody s__law_are_refused) (defScope s__law_are_refused) .none kV49 dc49 pm49 an49 cd49 ct49), sl49⟩) (c49 : PySem.W.codeIn K cd49 "_law_are_refused" = true) (k49 : PySem.W.keepIn K (.ref f49) = true)
    (a50 : PySem.W.nsIn K mainGlobals "_law_great" = some (some (.ref f50))) (l50 : K.lookup f50 = some ⟨oc50, od50, .func (PySem.W.fnOf "_law_great" "_law_great" (defArgs s__law_great) (defBody s__law_great) (defScope s__law_great) .none kV50 dc50 pm50 an50 cd50 ct50), sl50⟩) (c50 : PySem.W.codeIn K cd50 "_law_great" = true) (k50 : PySem.W.keepIn K (.ref f50) = true)
    (a51 : PySem.W.nsIn K mainGlobals "law" = some (some (.ref f51))) (l51 : K.lookup f51 = some ⟨oc51, od51, .func (PySem.W.fnOf "law" "law" (defArgs s_law) (defBody s_law) (defScope s_law) .none kV51 dc51 pm51 an51 cd51 ct51), sl51⟩) (c51 : PySem.W.codeIn K cd51 "law" = true) (k51 : PySem.W.keepIn K (.ref f51) = true)
    (cl_CartError : PySem.W.nsIn K mainGlobals "CartError" = some (some (.ref a_CartError)))
    (cl_FloorError : PySem.W.nsIn K mainGlobals "FloorError" = some (some (.ref a_FloorError)))
    (cl_InvalidPaper : PySem.W.nsIn K mainGlobals "InvalidPaper" = some (some (.ref a_InvalidPaper)))
    (cl_InvalidText : PySem.W.nsIn K mainGlobals "InvalidText" = some (some (.ref a_InvalidText)))
    (cl_NotUsable : PySem.W.nsIn K mainGlobals "NotUsable" = some (some (.ref a_NotUsable)))
    (cl_PaperError : PySem.W.nsIn K mainGlobals "PaperError" = some (some (.ref a_PaperError)))
    (cl_TextError : PySem.W.nsIn K mainGlobals "TextError" = some (some (.ref a_TextError)))
    (cl_TrafficError : PySem.W.nsIn K mainGlobals "TrafficError" = some (some (.ref a_TrafficError)))
    (kn_InvalidPaper : KnF K a_CartError a_FloorError a_InvalidPaper a_InvalidText a_NotUsable a_PaperError a_TextError a_TrafficError "InvalidPaper" a_InvalidPaper)
    (kn_NotUsable : KnF K a_CartError a_FloorError a_InvalidPaper a_InvalidText a_NotUsable a_PaperError a_TextError a_TrafficError "NotUsable" a_NotUsable)
    (T_InvalidPaper : ErrTxt l.prog K mg "InvalidPaper" a_InvalidPaper fI_InvalidPaper cc_InvalidPaper cda_InvalidPaper "word" "at")
    (T_NotUsable : ErrTxt l.prog K mg "NotUsable" a_NotUsable fI_NotUsable cc_NotUsable cda_NotUsable "word" "at")
    (hcL : cd49 = .ref cL) (hvs : K.lookup cL = some ⟨occ, odc, .fields vsc, slc⟩) (hPL : vsc[11]? = some (.ref PL))
    (z_ValueError : PySem.W.nsIn K mainGlobals "ValueError" = some none)
    (z_all : PySem.W.nsIn K mainGlobals "all" = some none)
    (z_bool : PySem.W.nsIn K mainGlobals "bool" = some none)
    (z_enumerate : PySem.W.nsIn K mainGlobals "enumerate" = some none)
    (z_int : PySem.W.nsIn K mainGlobals "int" = some none)
    (z_isinstance : PySem.W.nsIn K mainGlobals "isinstance" = some none)
    (z_len : PySem.W.nsIn K mainGlobals "len" = some none)
    (z_list : PySem.W.nsIn K mainGlobals "list" = some none)
    (z_range : PySem.W.nsIn K mainGlobals "range" = some none)
    (z_repr : PySem.W.nsIn K mainGlobals "repr" = some none)
    (z_sorted : PySem.W.nsIn K mainGlobals "sorted" = some none)
    (z_str : PySem.W.nsIn K mainGlobals "str" = some none)
    (z_tuple : PySem.W.nsIn K mainGlobals "tuple" = some none)
    (z_zip : PySem.W.nsIn K mainGlobals "zip" = some none)
    (v_LETTERS : PySem.W.nsIn K mainGlobals "LETTERS" = some (some (.str "abcdefghijklmnopqrstuvwxyz" tk_LETTERS)))
    (v_MOST_LETTERS : PySem.W.nsIn K mainGlobals "MOST_LETTERS" = some (some (.int 8 tk_MOST_LETTERS)))
    : ∃ fd : FuncData, (∀ (s : Shared) (v : Value), BindsTo s fd ⟨[v], []⟩ [("_law_script", v)]) ∧ ∀ base : Heap, K.In base → base.Ns mainGlobals mg → (∀ t ∈ ([⟨cL, PL, lamQ⟩] : List TabD), LamX.TabB base mg t.c t.P) → FnG l.prog w K mg base 16 fa fd ["_law_script"] (spLT K [⟨cL, PL, lamQ⟩]) := by
  letI tO : TbOf := ⟨cL, PL⟩
  have e := hfa.symm.trans (PySem.W.mg_of X G a51)
  cases e
  have B : Bl mg := ⟨PySem.W.mg_none_of X G z_ValueError, PySem.W.mg_none_of X G z_all, PySem.W.mg_none_of X G z_bool, PySem.W.mg_none_of X G z_enumerate, PySem.W.mg_none_of X G z_int, PySem.W.mg_none_of X G z_isinstance, PySem.W.mg_none_of X G z_len, PySem.W.mg_none_of X G z_list, PySem.W.mg_none_of X G z_range, PySem.W.mg_none_of X G z_repr, PySem.W.mg_none_of X G z_sorted, PySem.W.mg_none_of X G z_str, PySem.W.mg_none_of X G z_tuple, PySem.W.mg_none_of X G z_zip⟩
  have M : Md mg := ⟨⟨_, PySem.W.mg_of X G v_LETTERS⟩, ⟨_, PySem.W.mg_of X G v_MOST_LETTERS⟩⟩
  have F3 := fun_mk (st := s_is_integer) l3 c3 k3
  have F4 := fun_mk (st := s_is_number) l4 c4 k4
  have F5 := fun_mk (st := s_is_name) l5 c5 k5
  have F6 := fun_mk (st := s_is_pair) l6 c6 k6
  have F7 := fun_mk (st := s_is_places) l7 c7 k7
  have F8 := fun_mk (st := s_is_zone) l8 c8 k8
  have F9 := fun_mk (st := s_is_way) l9 c9 k9
  have F20 := fun_mk (st := s_zones_fault) l20 c20 k20
  have F21 := fun_mk (st := s_ways_fault) l21 c21 k21
  have F22 := fun_mk (st := s_floor_fault) l22 c22 k22
  have F23 := fun_mk (st := s_lets_floor) l23 c23 k23
  have F25 : FunD K "want" "want" (defArgs s_want) (defBody s_want) (defScope s_want) [V.int (-1)] [] f25 _ := ⟨⟨oc25, od25, dV25, kV25, dc25, pm25, an25, cd25, ct25, sl25, rfl, l25, c25, hD25, .inl rfl⟩, k25⟩
  have F26 := fun_mk (st := s_is_zone_of) l26 c26 k26
  have F27 := fun_mk (st := s_is_way_of) l27 c27 k27
  have F28 := fun_mk (st := s_want_floor) l28 c28 k28
  have F29 := fun_mk (st := s_want_zone) l29 c29 k29
  have F30 := fun_mk (st := s_want_way) l30 c30 k30
  have F32 := fun_mk (st := s_with_places) l32 c32 k32
  have F33 := fun_mk (st := s_with_way) l33 c33 k33
  have F34 := fun_mk (st := s_without_way) l34 c34 k34
  have F36 := fun_mk (st := s__law_feed) l36 c36 k36
  have F37 := fun_mk (st := s__law_draw) l37 c37 k37
  have F38 := fun_mk (st := s__law_pick) l38 c38 k38
  have F39 := fun_mk (st := s__law_pool) l39 c39 k39
  have F40 := fun_mk (st := s__law_path) l40 c40 k40
  have F41 := fun_mk (st := s__law_plan) l41 c41 k41
  have F42 := fun_mk (st := s__law_same) l42 c42 k42
  have F43 := fun_mk (st := s__law_heard) l43 c43 k43
  have F44 := fun_mk (st := s__law_put) l44 c44 k44
  have F45 := fun_mk (st := s__law_no_plans) l45 c45 k45
  have F46 := fun_mk (st := s__law_no_tags) l46 c46 k46
  have F47 := fun_mk (st := s__law_changes_right) l47 c47 k47
  have F48 := fun_mk (st := s__law_no_paths) l48 c48 k48
  have F49 := fun_mk (st := s__law_are_refused) l49 c49 k49
  have F50 := fun_mk (st := s__law_great) l50 c50 k50
  have F51 := fun_mk (st := s_law) l51 c51 k51
  refine ⟨PySem.W.fnOf "law" "law" (defArgs s_law) (defBody s_law) (defScope s_law) .none kV51 dc51 pm51 an51 cd51 ct51, fun s v => .of_eq rfl, fun base _ _ TBs => ?_⟩
  have TB : LamX.TabB base mg cL PL := TBs _ List.mem_cons_self
  have b3 := F3.binds (ps := ["thing"]) fun _ _ _ _ _ _ us hl => match us, hl with | [_], _ => rfl
  have kk3 : ∀ p, (["thing"] : List Str) = [p] → KwB K (PySem.W.fnOf "is_integer" "is_integer" (defArgs s_is_integer) (defBody s_is_integer) (defScope s_is_integer) .none kV3 dc3 pm3 an3 cd3 ct3) [p] [p] id id := fun p h => by cases h; exact kw_one F3 fun _ _ _ _ _ _ _ => rfl
  have o3 := ok_is_integer (pr := l.prog) (w := w) (base := base) F3 B M 
  have C3 : Cal l.prog w K mg base "is_integer" ["thing"] 1 ct_is_integer := ⟨_, _, o3, PySem.W.mg_of X G a3, k3, b3, kk3⟩
  have b4 := F4.binds (ps := ["thing"]) fun _ _ _ _ _ _ us hl => match us, hl with | [_], _ => rfl
  have kk4 : ∀ p, (["thing"] : List Str) = [p] → KwB K (PySem.W.fnOf "is_number" "is_number" (defArgs s_is_number) (defBody s_is_number) (defScope s_is_number) .none kV4 dc4 pm4 an4 cd4 ct4) [p] [p] id id := fun p h => by cases h; exact kw_one F4 fun _ _ _ _ _ _ _ => rfl
  have o4 := ok_is_number (pr := l.prog) (w := w) (base := base) F4 B M C3
  have C4 : Cal l.prog w K mg base "is_number" ["thing"] 2 ct_is_number := ⟨_, _, o4, PySem.W.mg_of X G a4, k4, b4, kk4⟩
  have b5 := F5.binds (ps := ["thing"]) fun _ _ _ _ _ _ us hl => match us, hl with | [_], _ => rfl
  have kk5 : ∀ p, (["thing"] : List Str) = [p] → KwB K (PySem.W.fnOf "is_name" "is_name" (defArgs s_is_name) (defBody s_is_name) (defScope s_is_name) .none kV5 dc5 pm5 an5 cd5 ct5) [p] [p] id id := fun p h => by cases h; exact kw_one F5 fun _ _ _ _ _ _ _ => rfl
  have o5 := ok_is_name (pr := l.prog) (w := w) (base := base) F5 B M 
  have C5 : Cal l.prog w K mg base "is_name" ["thing"] 1 ct_is_name := ⟨_, _, o5, PySem.W.mg_of X G a5, k5, b5, kk5⟩
  have b6 := F6.binds (ps := ["thing"]) fun _ _ _ _ _ _ us hl => match us, hl with | [_], _ => rfl
  have kk6 : ∀ p, (["thing"] : List Str) = [p] → KwB K (PySem.W.fnOf "is_pair" "is_pair" (defArgs s_is_pair) (defBody s_is_pair) (defScope s_is_pair) .none kV6 dc6 pm6 an6 cd6 ct6) [p] [p] id id := fun p h => by cases h; exact kw_one F6 fun _ _ _ _ _ _ _ => rfl
  have o6 := ok_is_pair (pr := l.prog) (w := w) (base := base) F6 B M 
  have C6 : Cal l.prog w K mg base "is_pair" ["thing"] 1 ct_is_pair := ⟨_, _, o6, PySem.W.mg_of X G a6, k6, b6, kk6⟩
  have b7 := F7.binds (ps := ["thing"]) fun _ _ _ _ _ _ us hl => match us, hl with | [_], _ => rfl
  have kk7 : ∀ p, (["thing"] : List Str) = [p] → KwB K (PySem.W.fnOf "is_places" "is_places" (defArgs s_is_places) (defBody s_is_places) (defScope s_is_places) .none kV7 dc7 pm7 an7 cd7 ct7) [p] [p] id id := fun p h => by cases h; exact kw_one F7 fun _ _ _ _ _ _ _ => rfl
  have o7 := ok_is_places (pr := l.prog) (w := w) (base := base) F7 B M C4
  have C7 : Cal l.prog w K mg base "is_places" ["thing"] 3 ct_is_places := ⟨_, _, o7, PySem.W.mg_of X G a7, k7, b7, kk7⟩
  have b8 := F8.binds (ps := ["thing"]) fun _ _ _ _ _ _ us hl => match us, hl with | [_], _ => rfl
  have kk8 : ∀ p, (["thing"] : List Str) = [p] → KwB K (PySem.W.fnOf "is_zone" "is_zone" (defArgs s_is_zone) (defBody s_is_zone) (defScope s_is_zone) .none kV8 dc8 pm8 an8 cd8 ct8) [p] [p] id id := fun p h => by cases h; exact kw_one F8 fun _ _ _ _ _ _ _ => rfl
  have o8 := ok_is_zone (pr := l.prog) (w := w) (base := base) F8 B M C7 C5 C6
  have C8 : Cal l.prog w K mg base "is_zone" ["thing"] 4 ct_is_zone := ⟨_, _, o8, PySem.W.mg_of X G a8, k8, b8, kk8⟩
  have b9 := F9.binds (ps := ["thing"]) fun _ _ _ _ _ _ us hl => match us, hl with | [_], _ => rfl
  have kk9 : ∀ p, (["thing"] : List Str) = [p] → KwB K (PySem.W.fnOf "is_way" "is_way" (defArgs s_is_way) (defBody s_is_way) (defScope s_is_way) .none kV9 dc9 pm9 an9 cd9 ct9) [p] [p] id id := fun p h => by cases h; exact kw_one F9 fun _ _ _ _ _ _ _ => rfl
  have o9 := ok_is_way (pr := l.prog) (w := w) (base := base) F9 B M C5
  have C9 : Cal l.prog w K mg base "is_way" ["thing"] 2 ct_is_way := ⟨_, _, o9, PySem.W.mg_of X G a9, k9, b9, kk9⟩
  have b20 := F20.binds (ps := ["zones"]) fun _ _ _ _ _ _ us hl => match us, hl with | [_], _ => rfl
  have kk20 : ∀ p, (["zones"] : List Str) = [p] → KwB K (PySem.W.fnOf "zones_fault" "zones_fault" (defArgs s_zones_fault) (defBody s_zones_fault) (defScope s_zones_fault) .none kV20 dc20 pm20 an20 cd20 ct20) [p] [p] id id := fun p h => by cases h; exact kw_one F20 fun _ _ _ _ _ _ _ => rfl
  have o20 := ok_zones_fault (pr := l.prog) (w := w) (base := base) F20 B M C8
  have C20 : Cal l.prog w K mg base "zones_fault" ["zones"] 5 ct_zones_fault := ⟨_, _, o20, PySem.W.mg_of X G a20, k20, b20, kk20⟩
  have b21 := F21.binds (ps := ["zones", "ways"]) fun _ _ _ _ _ _ us hl => match us, hl with | [_, _], _ => rfl
  have kk21 : ∀ p, (["zones", "ways"] : List Str) = [p] → KwB K (PySem.W.fnOf "ways_fault" "ways_fault" (defArgs s_ways_fault) (defBody s_ways_fault) (defScope s_ways_fault) .none kV21 dc21 pm21 an21 cd21 ct21) [p] [p] id id := fun p h => by cases h
  have o21 := ok_ways_fault (pr := l.prog) (w := w) (base := base) F21 B M C9
  have C21 : Cal l.prog w K mg base "ways_fault" ["zones", "ways"] 3 ct_ways_fault := ⟨_, _, o21, PySem.W.mg_of X G a21, k21, b21, kk21⟩
  have b22 := F22.binds (ps := ["thing"]) fun _ _ _ _ _ _ us hl => match us, hl with | [_], _ => rfl
  have kk22 : ∀ p, (["thing"] : List Str) = [p] → KwB K (PySem.W.fnOf "floor_fault" "floor_fault" (defArgs s_floor_fault) (defBody s_floor_fault) (defScope s_floor_fault) .none kV22 dc22 pm22 an22 cd22 ct22) [p] [p] id id := fun p h => by cases h; exact kw_one F22 fun _ _ _ _ _ _ _ => rfl
  have o22 := ok_floor_fault (pr := l.prog) (w := w) (base := base) F22 B M C6 C20 C21
  have C22 : Cal l.prog w K mg base "floor_fault" ["thing"] 6 ct_floor_fault := ⟨_, _, o22, PySem.W.mg_of X G a22, k22, b22, kk22⟩
  have b23 := F23.binds (ps := ["thing"]) fun _ _ _ _ _ _ us hl => match us, hl with | [_], _ => rfl
  have kk23 : ∀ p, (["thing"] : List Str) = [p] → KwB K (PySem.W.fnOf "lets_floor" "lets_floor" (defArgs s_lets_floor) (defBody s_lets_floor) (defScope s_lets_floor) .none kV23 dc23 pm23 an23 cd23 ct23) [p] [p] id id := fun p h => by cases h; exact kw_one F23 fun _ _ _ _ _ _ _ => rfl
  have o23 := ok_lets_floor (pr := l.prog) (w := w) (base := base) F23 B M C22 T_InvalidPaper
  have C23 : CalX l.prog w K mg base "lets_floor" ["thing"] 9 ct_lets_floor := ⟨_, _, o23, PySem.W.mg_of X G a23, k23, b23, kk23, (fun p q h => by cases h), (fun p q r h => by cases h)⟩
  obtain ⟨_, vb25, b25⟩ := F25.binds1 (ps := ["is_right", "word", "at"]) 3 1 (by simp) rfl (fun T kV doc pm an cdv ct us its h1 h2 => match us, h1, its, h2 with | [_, _, _], _, [_], _ => ⟨_, rfl, rfl⟩)
  cases vb25
  have bd25 := F25.binds1 (ps := ["is_right", "word", "at"]) 2 0 (by simp) rfl (fun T kV doc pm an cdv ct us its h1 h2 => match us, h1, its, h2 with | [_, _], _, [_], _ => ⟨_, rfl, rfl⟩)
  have o25 := ok_want (pr := l.prog) (w := w) (base := base) F25 B M T_NotUsable
  have C25 : CalXD l.prog w K mg base "want" ["is_right", "word", "at"] 3 ct_want [V.int (-1)] := ⟨_, _, o25, PySem.W.mg_of X G a25, k25, b25, bd25⟩
  have b26 := F26.binds (ps := ["floor", "thing"]) fun _ _ _ _ _ _ us hl => match us, hl with | [_, _], _ => rfl
  have kk26 : ∀ p, (["floor", "thing"] : List Str) = [p] → KwB K (PySem.W.fnOf "is_zone_of" "is_zone_of" (defArgs s_is_zone_of) (defBody s_is_zone_of) (defScope s_is_zone_of) .none kV26 dc26 pm26 an26 cd26 ct26) [p] [p] id id := fun p h => by cases h
  have o26 := ok_is_zone_of (pr := l.prog) (w := w) (base := base) F26 B M 
  have C26 : Cal l.prog w K mg base "is_zone_of" ["floor", "thing"] 1 ct_is_zone_of := ⟨_, _, o26, PySem.W.mg_of X G a26, k26, b26, kk26⟩
  have b27 := F27.binds (ps := ["floor", "thing"]) fun _ _ _ _ _ _ us hl => match us, hl with | [_, _], _ => rfl
  have kk27 : ∀ p, (["floor", "thing"] : List Str) = [p] → KwB K (PySem.W.fnOf "is_way_of" "is_way_of" (defArgs s_is_way_of) (defBody s_is_way_of) (defScope s_is_way_of) .none kV27 dc27 pm27 an27 cd27 ct27) [p] [p] id id := fun p h => by cases h
  have o27 := ok_is_way_of (pr := l.prog) (w := w) (base := base) F27 B M C4
  have C27 : Cal l.prog w K mg base "is_way_of" ["floor", "thing"] 3 ct_is_way_of := ⟨_, _, o27, PySem.W.mg_of X G a27, k27, b27, kk27⟩
  have b28 := F28.binds (ps := ["floor"]) fun _ _ _ _ _ _ us hl => match us, hl with | [_], _ => rfl
  have kk28 : ∀ p, (["floor"] : List Str) = [p] → KwB K (PySem.W.fnOf "want_floor" "want_floor" (defArgs s_want_floor) (defBody s_want_floor) (defScope s_want_floor) .none kV28 dc28 pm28 an28 cd28 ct28) [p] [p] id id := fun p h => by cases h; exact kw_one F28 fun _ _ _ _ _ _ _ => rfl
  have o28 := ok_want_floor (pr := l.prog) (w := w) (base := base) F28 B M C22 C25
  have C28 : CalX l.prog w K mg base "want_floor" ["floor"] 9 ct_want_floor := ⟨_, _, o28, PySem.W.mg_of X G a28, k28, b28, kk28, (fun p q h => by cases h), (fun p q r h => by cases h)⟩
  have b29 := F29.binds (ps := ["floor", "zone"]) fun _ _ _ _ _ _ us hl => match us, hl with | [_, _], _ => rfl
  have kk29 : ∀ p, (["floor", "zone"] : List Str) = [p] → KwB K (PySem.W.fnOf "want_zone" "want_zone" (defArgs s_want_zone) (defBody s_want_zone) (defScope s_want_zone) .none kV29 dc29 pm29 an29 cd29 ct29) [p] [p] id id := fun p h => by cases h
  have o29 := ok_want_zone (pr := l.prog) (w := w) (base := base) F29 B M C26 C25
  have C29 : CalX l.prog w K mg base "want_zone" ["floor", "zone"] 6 ct_want_zone := ⟨_, _, o29, PySem.W.mg_of X G a29, k29, b29, kk29, (fun p q h => by cases h; exact kw_sw2 F29 fun _ _ _ _ _ _ _ _ => rfl), (fun p q r h => by cases h)⟩
  have b30 := F30.binds (ps := ["floor", "way"]) fun _ _ _ _ _ _ us hl => match us, hl with | [_, _], _ => rfl
  have kk30 : ∀ p, (["floor", "way"] : List Str) = [p] → KwB K (PySem.W.fnOf "want_way" "want_way" (defArgs s_want_way) (defBody s_want_way) (defScope s_want_way) .none kV30 dc30 pm30 an30 cd30 ct30) [p] [p] id id := fun p h => by cases h
  have o30 := ok_want_way (pr := l.prog) (w := w) (base := base) F30 B M C27 C25
  have C30 : CalX l.prog w K mg base "want_way" ["floor", "way"] 6 ct_want_way := ⟨_, _, o30, PySem.W.mg_of X G a30, k30, b30, kk30, (fun p q h => by cases h; exact kw_sw2 F30 fun _ _ _ _ _ _ _ _ => rfl), (fun p q r h => by cases h)⟩
  have b32 := F32.binds (ps := ["floor", "zone", "places"]) fun _ _ _ _ _ _ us hl => match us, hl with | [_, _, _], _ => rfl
  have kk32 : ∀ p, (["floor", "zone", "places"] : List Str) = [p] → KwB K (PySem.W.fnOf "with_places" "with_places" (defArgs s_with_places) (defBody s_with_places) (defScope s_with_places) .none kV32 dc32 pm32 an32 cd32 ct32) [p] [p] id id := fun p h => by cases h
  have o32 := ok_with_places (pr := l.prog) (w := w) (base := base) F32 B M C7 C28 C29 C25
  have C32 : CalX l.prog w K mg base "with_places" ["floor", "zone", "places"] 12 ct_with_places := ⟨_, _, o32, PySem.W.mg_of X G a32, k32, b32, kk32, (fun p q h => by cases h), (fun p q r h => by cases h; exact kw_rv3 F32 fun _ _ _ _ _ _ _ _ _ => rfl)⟩
  have b33 := F33.binds (ps := ["floor", "names"]) fun _ _ _ _ _ _ us hl => match us, hl with | [_, _], _ => rfl
  have kk33 : ∀ p, (["floor", "names"] : List Str) = [p] → KwB K (PySem.W.fnOf "with_way" "with_way" (defArgs s_with_way) (defBody s_with_way) (defScope s_with_way) .none kV33 dc33 pm33 an33 cd33 ct33) [p] [p] id id := fun p h => by cases h
  have o33 := ok_with_way (pr := l.prog) (w := w) (base := base) F33 B M C26 C9 C28 C25
  have C33 : CalX l.prog w K mg base "with_way" ["floor", "names"] 12 ct_with_way := ⟨_, _, o33, PySem.W.mg_of X G a33, k33, b33, kk33, (fun p q h => by cases h; exact kw_sw2 F33 fun _ _ _ _ _ _ _ _ => rfl), (fun p q r h => by cases h)⟩
  have b34 := F34.binds (ps := ["floor", "way"]) fun _ _ _ _ _ _ us hl => match us, hl with | [_, _], _ => rfl
  have kk34 : ∀ p, (["floor", "way"] : List Str) = [p] → KwB K (PySem.W.fnOf "without_way" "without_way" (defArgs s_without_way) (defBody s_without_way) (defScope s_without_way) .none kV34 dc34 pm34 an34 cd34 ct34) [p] [p] id id := fun p h => by cases h
  have o34 := ok_without_way (pr := l.prog) (w := w) (base := base) F34 B M C28 C30
  have C34 : CalX l.prog w K mg base "without_way" ["floor", "way"] 12 ct_without_way := ⟨_, _, o34, PySem.W.mg_of X G a34, k34, b34, kk34, (fun p q h => by cases h; exact kw_sw2 F34 fun _ _ _ _ _ _ _ _ => rfl), (fun p q r h => by cases h)⟩
  have b36 := F36.binds (ps := ["_law_script"]) fun _ _ _ _ _ _ us hl => match us, hl with | [_], _ => rfl
  have o36 := ok__law_feed (pr := l.prog) (w := w) (base := base) F36 B
  have b37 := F37.binds (ps := ["_law_feed_here", "_law_many"]) fun _ _ _ _ _ _ us hl => match us, hl with | [_, _], _ => rfl
  have kk37 : ∀ p, (["_law_feed_here", "_law_many"] : List Str) = [p] → KwB K (PySem.W.fnOf "_law_draw" "_law_draw" (defArgs s__law_draw) (defBody s__law_draw) (defScope s__law_draw) .none kV37 dc37 pm37 an37 cd37 ct37) [p] [p] id id := fun p h => by cases h
  have o37 := ok__law_draw (pr := l.prog) (w := w) (base := base) F37 B M 
  have C37 : Cal l.prog w K mg base "_law_draw" ["_law_feed_here", "_law_many"] 1 ct__law_draw := ⟨_, _, o37, PySem.W.mg_of X G a37, k37, b37, kk37⟩
  have b38 := F38.binds (ps := ["_law_feed_here", "_law_some"]) fun _ _ _ _ _ _ us hl => match us, hl with | [_, _], _ => rfl
  have kk38 : ∀ p, (["_law_feed_here", "_law_some"] : List Str) = [p] → KwB K (PySem.W.fnOf "_law_pick" "_law_pick" (defArgs s__law_pick) (defBody s__law_pick) (defScope s__law_pick) .none kV38 dc38 pm38 an38 cd38 ct38) [p] [p] id id := fun p h => by cases h
  have o38 := ok__law_pick (pr := l.prog) (w := w) (base := base) F38 B M C37
  have C38 : Cal l.prog w K mg base "_law_pick" ["_law_feed_here", "_law_some"] 2 ct__law_pick := ⟨_, _, o38, PySem.W.mg_of X G a38, k38, b38, kk38⟩
  have b39 := F39.binds (ps := ["_law_feed_here"]) fun _ _ _ _ _ _ us hl => match us, hl with | [_], _ => rfl
  have kk39 : ∀ p, (["_law_feed_here"] : List Str) = [p] → KwB K (PySem.W.fnOf "_law_pool" "_law_pool" (defArgs s__law_pool) (defBody s__law_pool) (defScope s__law_pool) .none kV39 dc39 pm39 an39 cd39 ct39) [p] [p] id id := fun p h => by cases h; exact kw_one F39 fun _ _ _ _ _ _ _ => rfl
  have o39 := ok__law_pool (pr := l.prog) (w := w) (base := base) F39 B M C37 C38
  have C39 : Cal l.prog w K mg base "_law_pool" ["_law_feed_here"] 3 ct__law_pool := ⟨_, _, o39, PySem.W.mg_of X G a39, k39, b39, kk39⟩
  have b40 := F40.binds (ps := ["_law_feed_here", "_law_tags"]) fun _ _ _ _ _ _ us hl => match us, hl with | [_, _], _ => rfl
  have kk40 : ∀ p, (["_law_feed_here", "_law_tags"] : List Str) = [p] → KwB K (PySem.W.fnOf "_law_path" "_law_path" (defArgs s__law_path) (defBody s__law_path) (defScope s__law_path) .none kV40 dc40 pm40 an40 cd40 ct40) [p] [p] id id := fun p h => by cases h
  have o40 := ok__law_path (pr := l.prog) (w := w) (base := base) F40 B M C37 C38
  have C40 : Cal l.prog w K mg base "_law_path" ["_law_feed_here", "_law_tags"] 3 ct__law_path := ⟨_, _, o40, PySem.W.mg_of X G a40, k40, b40, kk40⟩
  have b41 := F41.binds (ps := ["_law_feed_here"]) fun _ _ _ _ _ _ us hl => match us, hl with | [_], _ => rfl
  have kk41 : ∀ p, (["_law_feed_here"] : List Str) = [p] → KwB K (PySem.W.fnOf "_law_plan" "_law_plan" (defArgs s__law_plan) (defBody s__law_plan) (defScope s__law_plan) .none kV41 dc41 pm41 an41 cd41 ct41) [p] [p] id id := fun p h => by cases h; exact kw_one F41 fun _ _ _ _ _ _ _ => rfl
  have o41 := ok__law_plan (pr := l.prog) (w := w) (base := base) F41 B M C39 C38 C40 C37
  have C41 : Cal l.prog w K mg base "_law_plan" ["_law_feed_here"] 4 ct__law_plan := ⟨_, _, o41, PySem.W.mg_of X G a41, k41, b41, kk41⟩
  have b42 := F42.binds (ps := ["_law_got", "_law_due"]) fun _ _ _ _ _ _ us hl => match us, hl with | [_, _], _ => rfl
  have kk42 : ∀ p, (["_law_got", "_law_due"] : List Str) = [p] → KwB K (PySem.W.fnOf "_law_same" "_law_same" (defArgs s__law_same) (defBody s__law_same) (defScope s__law_same) .none kV42 dc42 pm42 an42 cd42 ct42) [p] [p] id id := fun p h => by cases h
  have o42 := ok__law_same (pr := l.prog) (w := w) (base := base) F42 B M 
  have C42 : Cal l.prog w K mg base "_law_same" ["_law_got", "_law_due"] 1 ct__law_same := ⟨_, _, o42, PySem.W.mg_of X G a42, k42, b42, kk42⟩
  have b43 := F43.binds (ps := ["_law_call_in"]) fun _ _ _ _ _ _ us hl => match us, hl with | [_], _ => rfl
  have HR := ok__law_heard (pr := l.prog) (w := w) (base := base) l43 c43 k43 (PySem.W.mg_of X G a43) b43 B (PySem.W.mg_of X G cl_CartError) (PySem.W.mg_of X G cl_FloorError) (PySem.W.mg_of X G cl_InvalidPaper) (PySem.W.mg_of X G cl_InvalidText) (PySem.W.mg_of X G cl_NotUsable) (PySem.W.mg_of X G cl_PaperError) (PySem.W.mg_of X G cl_TextError) (PySem.W.mg_of X G cl_TrafficError) (fun nm hn C hC => by simp only [names, List.mem_cons, List.not_mem_nil, or_false] at hn; rcases hn with rfl | rfl <;> cases hC.symm.trans (PySem.W.mg_of X G (by assumption)) <;> assumption)
  have b44 := F44.binds (ps := ["_law_some", "_law_k", "_law_item"]) fun _ _ _ _ _ _ us hl => match us, hl with | [_, _, _], _ => rfl
  have kk44 : ∀ p, (["_law_some", "_law_k", "_law_item"] : List Str) = [p] → KwB K (PySem.W.fnOf "_law_put" "_law_put" (defArgs s__law_put) (defBody s__law_put) (defScope s__law_put) .none kV44 dc44 pm44 an44 cd44 ct44) [p] [p] id id := fun p h => by cases h
  have o44 := ok__law_put (pr := l.prog) (w := w) (base := base) F44 B M 
  have C44 : Cal l.prog w K mg base "_law_put" ["_law_some", "_law_k", "_law_item"] 1 ct__law_put := ⟨_, _, o44, PySem.W.mg_of X G a44, k44, b44, kk44⟩
  have b45 := F45.binds (ps := ["_law_plan_here"]) fun _ _ _ _ _ _ us hl => match us, hl with | [_], _ => rfl
  have kk45 : ∀ p, (["_law_plan_here"] : List Str) = [p] → KwB K (PySem.W.fnOf "_law_no_plans" "_law_no_plans" (defArgs s__law_no_plans) (defBody s__law_no_plans) (defScope s__law_no_plans) .none kV45 dc45 pm45 an45 cd45 ct45) [p] [p] id id := fun p h => by cases h; exact kw_one F45 fun _ _ _ _ _ _ _ => rfl
  have o45 := ok__law_no_plans (pr := l.prog) (w := w) (base := base) F45 B M 
  have C45 : Cal l.prog w K mg base "_law_no_plans" ["_law_plan_here"] 1 ct__law_no_plans := ⟨_, _, o45, PySem.W.mg_of X G a45, k45, b45, kk45⟩
  have b46 := F46.binds (ps := []) fun _ _ _ _ _ _ us hl => match us, hl with | [], _ => rfl
  have kk46 : ∀ p, ([] : List Str) = [p] → KwB K (PySem.W.fnOf "_law_no_tags" "_law_no_tags" (defArgs s__law_no_tags) (defBody s__law_no_tags) (defScope s__law_no_tags) .none kV46 dc46 pm46 an46 cd46 ct46) [p] [p] id id := fun p h => by cases h
  have o46 := ok__law_no_tags (pr := l.prog) (w := w) (base := base) F46 B M 
  have C46 : Cal l.prog w K mg base "_law_no_tags" [] 1 ct__law_no_tags := ⟨_, _, o46, PySem.W.mg_of X G a46, k46, b46, kk46⟩
  have b47 := F47.binds (ps := ["_law_feed_here", "_law_plan_here"]) fun _ _ _ _ _ _ us hl => match us, hl with | [_, _], _ => rfl
  have kk47 : ∀ p, (["_law_feed_here", "_law_plan_here"] : List Str) = [p] → KwB K (PySem.W.fnOf "_law_changes_right" "_law_changes_right" (defArgs s__law_changes_right) (defBody s__law_changes_right) (defScope s__law_changes_right) .none kV47 dc47 pm47 an47 cd47 ct47) [p] [p] id id := fun p h => by cases h
  have o47 := ok__law_changes_right (pr := l.prog) (w := w) (base := base) F47 B M C38 C44 C42 C40 C32 C34 C33 C23
  have C47 : Cal l.prog w K mg base "_law_changes_right" ["_law_feed_here", "_law_plan_here"] 13 ct__law_changes_right := ⟨_, _, o47, PySem.W.mg_of X G a47, k47, b47, kk47⟩
  have b48 := F48.binds (ps := ["_law_tag"]) fun _ _ _ _ _ _ us hl => match us, hl with | [_], _ => rfl
  have kk48 : ∀ p, (["_law_tag"] : List Str) = [p] → KwB K (PySem.W.fnOf "_law_no_paths" "_law_no_paths" (defArgs s__law_no_paths) (defBody s__law_no_paths) (defScope s__law_no_paths) .none kV48 dc48 pm48 an48 cd48 ct48) [p] [p] id id := fun p h => by cases h; exact kw_one F48 fun _ _ _ _ _ _ _ => rfl
  have o48 := ok__law_no_paths (pr := l.prog) (w := w) (base := base) F48 B M 
  have C48 : Cal l.prog w K mg base "_law_no_paths" ["_law_tag"] 1 ct__law_no_paths := ⟨_, _, o48, PySem.W.mg_of X G a48, k48, b48, kk48⟩
  have b49 := F49.binds (ps := ["_law_feed_here", "_law_plan_here"]) fun _ _ _ _ _ _ us hl => match us, hl with | [_, _], _ => rfl
  have kk49 : ∀ p, (["_law_feed_here", "_law_plan_here"] : List Str) = [p] → KwB K (PySem.W.fnOf "_law_are_refused" "_law_are_refused" (defArgs s__law_are_refused) (defBody s__law_are_refused) (defScope s__law_are_refused) .none kV49 dc49 pm49 an49 cd49 ct49) [p] [p] id id := fun p h => by cases h
  have o49 := ok__law_are_refused (pr := l.prog) (w := w) (base := base) F49 B M C37 C45 C42 C46 C48 C32 C33 C34 HR hcL TB
  have C49 : Cal l.prog w K mg base "_law_are_refused" ["_law_feed_here", "_law_plan_here"] 15 ct__law_are_refused := ⟨_, _, o49, PySem.W.mg_of X G a49, k49, b49, kk49⟩
  have b50 := F50.binds (ps := []) fun _ _ _ _ _ _ us hl => match us, hl with | [], _ => rfl
  have kk50 : ∀ p, ([] : List Str) = [p] → KwB K (PySem.W.fnOf "_law_great" "_law_great" (defArgs s__law_great) (defBody s__law_great) (defScope s__law_great) .none kV50 dc50 pm50 an50 cd50 ct50) [p] [p] id id := fun p h => by cases h
  have o50 := ok__law_great (pr := l.prog) (w := w) (base := base) F50 B M 
  have C50 : Cal l.prog w K mg base "_law_great" [] 1 ct__law_great := ⟨_, _, o50, PySem.W.mg_of X G a50, k50, b50, kk50⟩
  exact ok_law F51 B M o36 (PySem.W.mg_of X G a36) k36 b36 C47 C50 C41 C49
theorem walk {l : PySem.W.OpenLaw} {q : Program} {loose : List Str} {XP : (Str → Option Value) → Heap → Prop} {YP : World → Heap → Prop} {d : DefRec} {K : Params → PySem.W.Frag} {cL PL : Addr} (h1 : l.most = some 63) (h3 : d.params.defaults = []) (hY : ∀ (w : World) (h : Heap), YP w h → (K w.params).In h)
    (F : ∀ (w : World) (mg : Str → Option Value) (fa : Addr) (h : Heap), (K w.params).In h → h.Ns mainGlobals mg → mg d.name = some (.ref fa) → ∃ fd : FuncData, (∀ (s : Shared) (u : Value), BindsTo s fd ⟨[u], []⟩ [("_law_script", u)]) ∧ ∀ base : Heap, (K w.params).In base → base.Ns mainGlobals mg → (∀ t ∈ ([⟨cL, PL, lamQ⟩] : List TabD), LamX.TabB base mg t.c t.P) → FnG l.prog w (K w.params) mg base 16 fa fd ["_law_script"] (spLT (K w.params) [⟨cL, PL, lamQ⟩]))
    (hT : ∀ (w : World) (h : Heap), YP w h → TabsH (K w.params) h [⟨cL, PL, lamQ⟩]) :
    PySem.W.WalkO q loose XP YP l.row.toRowW d [] (fun f vs => PySem.call f vs) := law_walkT (n := 63) (lv := 16) (x := "_law_script") (sp := fun K => spLT K [⟨cL, PL, lamQ⟩]) h1 (by decide) h3 ⟨rfl, by decide, by decide⟩ hY hT F fun K H a ns h hH => ⟨a, ns, rfl, h, hH, fun _ => rfl⟩
section
end
end K07
open PySem PySem.W PyProof.Rows
set_option maxRecDepth 100000 in
set_option maxHeartbeats 0 in
theorem PySem.Challenge.cw_cartknots_k07_floors_changed_holds : PySem.Challenge.rw_cartknots_k07_floors_changed.Holds := by
  w_on; o_law; k_head; (case hw => w_witness2)
  k_fill
  refine' K07.walk (l := PySem.Challenge.rw_cartknots_k07_floors_changed) rfl rfl (fun w h Y => PySem.W.km_in_of Y) ?F ?T
  case F =>
    intro w mg fa h KX G hmg
    refine' K07.all_mk KX G hmg ?a3 ?l3 ?c3 ?k3 ?a4 ?l4 ?c4 ?k4 ?a5 ?l5 ?c5 ?k5 ?a6 ?l6 ?c6 ?k6 ?a7 ?l7 ?c7 ?k7 ?a8 ?l8 ?c8 ?k8 ?a9 ?l9 ?c9 ?k9 ?a20 ?l20 ?c20 ?k20 ?a21 ?l21 ?c21 ?k21 ?a22 ?l22 ?c22 ?k22 ?a23 ?l23 ?c23 ?k23 ?a25 ?l25 ?c25 ?k25 ?hD25 ?a26 ?l26 ?c26 ?k26 ?a27 ?l27 ?c27 ?k27 ?a28 ?l28 ?c28 ?k28 ?a29 ?l29 ?c29 ?k29 ?a30 ?l30 ?c30 ?k30 ?a32 ?l32 ?c32 ?k32 ?a33 ?l33 ?c33 ?k33 ?a34 ?l34 ?c34 ?k34 ?a36 ?l36 ?c36 ?k36 ?a37 ?l37 ?c37 ?k37 ?a38 ?l38 ?c38 ?k38 ?a39 ?l39 ?c39 ?k39 ?a40 ?l40 ?c40 ?k40 ?a41 ?l41 ?c41 ?k41 ?a42 ?l42 ?c42 ?k42 ?a43 ?l43 ?c43 ?k43 ?a44 ?l44 ?c44 ?k44 ?a45 ?l45 ?c45 ?k45 ?a46 ?l46 ?c46 ?k46 ?a47 ?l47 ?c47 ?k47 ?a48 ?l48 ?c48 ?k48 ?a49 ?l49 ?c49 ?k49 ?a50 ?l50 ?c50 ?k50 ?a51 ?l51 ?c51 ?k51 ?cl_CartError ?cl_FloorError ?cl_InvalidPaper ?cl_InvalidText ?cl_NotUsable ?cl_PaperError ?cl_TextError ?cl_TrafficError ?kn_InvalidPaper ?kn_NotUsable ?T_InvalidPaper ?T_NotUsable ?hcL ?hvs ?hPL ?z_ValueError ?z_all ?z_bool ?z_enumerate ?z_int ?z_isinstance ?z_len ?z_list ?z_range ?z_repr ?z_sorted ?z_str ?z_tuple ?z_zip ?v_LETTERS ?v_MOST_LETTERS
    (case a3 => k_is)
    (case l3 => k_is)
    (case c3 => k_is)
    (case k3 => k_is)
    (case a4 => k_is)
    (case l4 => k_is)
    (case c4 => k_is)
    (case k4 => k_is)
    (case a5 => k_is)
    (case l5 => k_is)
    (case c5 => k_is)
    (case k5 => k_is)
    (case a6 => k_is)
    (case l6 => k_is)
    (case c6 => k_is)
    (case k6 => k_is)
    (case a7 => k_is)
    (case l7 => k_is)
    (case c7 => k_is)
    (case k7 => k_is)
    (case a8 => k_is)
    (case l8 => k_is)
    (case c8 => k_is)
    (case k8 => k_is)
    (case a9 => k_is)
    (case l9 => k_is)
    (case c9 => k_is)
    (case k9 => k_is)
    (case a20 => k_is)
    (case l20 => k_is)
    (case c20 => k_is)
    (case k20 => k_is)
    (case a21 => k_is)
    (case l21 => k_is)
    (case c21 => k_is)
    (case k21 => k_is)
    (case a22 => k_is)
    (case l22 => k_is)
    (case c22 => k_is)
    (case k22 => k_is)
    (case a23 => k_is)
    (case l23 => k_is)
    (case c23 => k_is)
    (case k23 => k_is)
    (case a25 => k_is)
    (case l25 => k_is)
    (case c25 => k_is)
    (case k25 => k_is)
    (case hD25 => exact .inr ⟨by simp, _, _, _, _, by rfl, by k_is, by rfl, .cons ⟨_, rfl⟩ .nil⟩)
    (case a26 => k_is)
    (case l26 => k_is)
    (case c26 => k_is)
    (case k26 => k_is)
    (case a27 => k_is)
    (case l27 => k_is)
    (case c27 => k_is)
    (case k27 => k_is)
    (case a28 => k_is)
    (case l28 => k_is)
    (case c28 => k_is)
    (case k28 => k_is)
    (case a29 => k_is)
    (case l29 => k_is)
    (case c29 => k_is)
    (case k29 => k_is)
    (case a30 => k_is)
    (case l30 => k_is)
    (case c30 => k_is)
    (case k30 => k_is)
    (case a32 => k_is)
    (case l32 => k_is)
    (case c32 => k_is)
    (case k32 => k_is)
    (case a33 => k_is)
    (case l33 => k_is)
    (case c33 => k_is)
    (case k33 => k_is)
    (case a34 => k_is)
    (case l34 => k_is)
    (case c34 => k_is)
    (case k34 => k_is)
    (case a36 => k_is)
    (case l36 => k_is)
    (case c36 => k_is)
    (case k36 => k_is)
    (case a37 => k_is)
    (case l37 => k_is)
    (case c37 => k_is)
    (case k37 => k_is)
    (case a38 => k_is)
    (case l38 => k_is)
    (case c38 => k_is)
    (case k38 => k_is)
    (case a39 => k_is)
    (case l39 => k_is)
    (case c39 => k_is)
    (case k39 => k_is)
    (case a40 => k_is)
    (case l40 => k_is)
    (case c40 => k_is)
    (case k40 => k_is)
    (case a41 => k_is)
    (case l41 => k_is)
    (case c41 => k_is)
    (case k41 => k_is)
    (case a42 => k_is)
    (case l42 => k_is)
    (case c42 => k_is)
    (case k42 => k_is)
    (case a43 => k_is)
    (case l43 => k_is)
    (case c43 => k_is)
    (case k43 => k_is)
    (case a44 => k_is)
    (case l44 => k_is)
    (case c44 => k_is)
    (case k44 => k_is)
    (case a45 => k_is)
    (case l45 => k_is)
    (case c45 => k_is)
    (case k45 => k_is)
    (case a46 => k_is)
    (case l46 => k_is)
    (case c46 => k_is)
    (case k46 => k_is)
    (case a47 => k_is)
    (case l47 => k_is)
    (case c47 => k_is)
    (case k47 => k_is)
    (case a48 => k_is)
    (case l48 => k_is)
    (case c48 => k_is)
    (case k48 => k_is)
    (case a49 => k_is)
    (case l49 => k_is)
    (case c49 => k_is)
    (case k49 => k_is)
    (case a50 => k_is)
    (case l50 => k_is)
    (case c50 => k_is)
    (case k50 => k_is)
    (case a51 => k_is)
    (case l51 => k_is)
    (case c51 => k_is)
    (case k51 => k_is)
    (case cl_CartError => k_is)
    (case cl_FloorError => k_is)
    (case cl_InvalidPaper => k_is)
    (case cl_InvalidText => k_is)
    (case cl_NotUsable => k_is)
    (case cl_PaperError => k_is)
    (case cl_TextError => k_is)
    (case cl_TrafficError => k_is)
    (case kn_InvalidPaper => exact ⟨by kernel_rfl, ⟨by k_is, by k_is, by k_is, by k_is, by k_is, by k_is, by k_is, by k_is⟩, ⟨by k_is, by k_is, by k_is, by k_is⟩, by kernel_rfl, by kernel_rfl, by kernel_rfl, by kernel_rfl, by kernel_rfl, by kernel_rfl, by kernel_rfl, by kernel_rfl, by k_is, by k_is, by k_is, by k_is⟩)
    (case kn_NotUsable => exact ⟨by kernel_rfl, ⟨by k_is, by k_is, by k_is, by k_is, by k_is, by k_is, by k_is, by k_is⟩, ⟨by k_is, by k_is, by k_is, by k_is⟩, by kernel_rfl, by kernel_rfl, by kernel_rfl, by kernel_rfl, by kernel_rfl, by kernel_rfl, by kernel_rfl, by kernel_rfl, by k_is, by k_is, by k_is, by k_is⟩)
    (case T_InvalidPaper => refine ⟨PySem.W.mg_of KX G (by k_is), ⟨_, _, _, _, _, _, _, _, _, _, _, _, _, _, _, by k_is, by kernel_rfl⟩, by k_is, by k_is, by k_is, by k_is, by k_is, by k_is, by k_is, by k_is, by k_is, by k_is, by k_is, by k_is,
      DL.err_fn (by k_is) (by k_is) (by rfl) (by rfl) (by rfl) (by rfl) (by rfl) (by rfl) (by rfl) (by rfl) (by decide) (fun _ _ _ _ => .of_eq (by rfl)) (fun _ => by rfl), ⟨_, _, _, _, _, _, by k_is, by rfl, by decide +kernel⟩, ⟨_, _, _, by k_is⟩, PySem.W.mg_none_of KX G (by k_is), by kernel_rfl, by decide +kernel, by k_is, by decide, by decide, by decide, by decide, by decide⟩)
    (case T_NotUsable => refine ⟨PySem.W.mg_of KX G (by k_is), ⟨_, _, _, _, _, _, _, _, _, _, _, _, _, _, _, by k_is, by kernel_rfl⟩, by k_is, by k_is, by k_is, by k_is, by k_is, by k_is, by k_is, by k_is, by k_is, by k_is, by k_is, by k_is,
      DL.err_fn (by k_is) (by k_is) (by rfl) (by rfl) (by rfl) (by rfl) (by rfl) (by rfl) (by rfl) (by rfl) (by decide) (fun _ _ _ _ => .of_eq (by rfl)) (fun _ => by rfl), ⟨_, _, _, _, _, _, by k_is, by rfl, by decide +kernel⟩, ⟨_, _, _, by k_is⟩, PySem.W.mg_none_of KX G (by k_is), by kernel_rfl, by decide +kernel, by k_is, by decide, by decide, by decide, by decide, by decide⟩)
    (case hcL => rfl)
    (case hvs => k_is)
    (case hPL => rfl)
    (case z_ValueError => k_is)
    (case z_all => k_is)
    (case z_bool => k_is)
    (case z_enumerate => k_is)
    (case z_int => k_is)
    (case z_isinstance => k_is)
    (case z_len => k_is)
    (case z_list => k_is)
    (case z_range => k_is)
    (case z_repr => k_is)
    (case z_sorted => k_is)
    (case z_str => k_is)
    (case z_tuple => k_is)
    (case z_zip => k_is)
    (case v_LETTERS => k_is)
    (case v_MOST_LETTERS => k_is)
  case T => exact fun w h Y => ⟨fun t m => by cases List.mem_singleton.mp m; exact PySem.W.km_tabs_of Y _ List.mem_cons_self, fun t m => by cases List.mem_singleton.mp m; kernel_rfl, fun t m => by cases List.mem_singleton.mp m; kernel_rfl, by decide⟩
#print axioms PySem.Challenge.cw_cartknots_k07_floors_changed_holds
